import PyProof.Rows.All
import Wide.All
import OpenK.AllK
import Wide.FinOn
import PySem.Challenge.RW_valueshown_k23_errors_told
import HandS.ForMost
import HandS.Flow
import KE.KeyNested
import HandS.ForExc
import HandS.CallSlots
import HandS.ExcInit
import HandS.ExcField
import HandS.ExcIs
import KE.KExcInit
import PyProof.Rows.FactsExc_KeyError
import HandS.HeadHook2
import HandS.Head2
import HandS.IsInst
import HandS.Deep
import HandS.TupAny
import HandS.Style
import KE.GoesEnum
import KE.DataFind
import HandS.TupMul
import PyProof.InstNe
import HandS.Star
import PyProof.Rows.SortShellAny
import HandS.RaiseMore
import HandS.More
import HandS.Conv
import PyProof.ReprRoads
import HandS.ListItems
import HandS.SetBool
import HandS.Keys
import PyProof.Rows.TupTab
import HandS.DictComp
import KE.KAssignIn
import KE.KEqDict
import HandS.FStr
import KE.KDictKeyed
import HandS.Zip
import KE.KDictZip
import KE.GoesZip
import KE.KEqNest
import KE.GoesComp
import KE.GoesRaise
import HandS.Defaults
import PyProof.ReprLen
set_option Elab.async false
set_option linter.all false
set_option maxRecDepth 100000
set_option maxHeartbeats 0
namespace Mi
open PySem PySem.Spec PyProof.Rows L2
inductive D where
  |non|bl (b:Bool)|int (i:Int)|str (x:Str)
  |tup (xs:List D)|lst (xs:List D)|dic (ks:List Key) (xs:List D)|ins (c:Str) (fs:List Str) (xs:List D)
  |dct (ks:List D) (xs:List D)
  |loc (n:Nat)|fn (f:Str)
  |scr (ns:List Int)
  |ty (n:String)|cls (c:Str)
  |xn (c f:Str) (d:D)
  |xv (c f:Str) (d:D)
  |lk (o:Obj) (u:HO)
inductive O where
  |fz (d:D)|lst (xs:List D)|dic (ks:List Key) (xs:List D)|ins (c:Str) (fs:List Str) (xs:List D)|dct (ks:List D) (xs:List D)
def frz:O→D
  | .fz d=>d
  | .lst xs=>.lst xs
  | .dic ks xs=>.dic ks xs
  | .ins c fs xs=>.ins c fs xs
  | .dct ks xs=>.dct ks xs
structure GE where
  K:PySem.W.Frag
  cls:Str→Option Addr
  fns:Str→Option Addr
  exc:Str→Option (Addr×Str)
  bare:Bool
  cur:Option (Addr×Addr×Addr):=none
  w:World
mutual
def nkD:D→NestedKey
  | .bl b=>.num (if b then 1 else 0)
  | .int i=>.num i
  | .str x=>.text x
  | .tup ds=>.tup (nkDs ds)
  |_=>.none
def nkDs:List D→List NestedKey
  |[]=>[]
  |d::ds=>nkD d::nkDs ds
end
mutual
def kfD:Nat→D→Bool
  |_,.non=>true
  |_,.bl _=>true
  |_,.int _=>true
  |_,.str _=>true
  |n+1,.tup ds=>kfDs n ds
  |_,_=>false
def kfDs:Nat→List D→Bool
  |_,[]=>true
  |n,d::ds=>kfD n d&&kfDs n ds
end
def DtP (w:World) (a:Addr) (ps:List (NestedKey×Addr×V)) (h:Heap):Prop:= ∃ xs:List (NestedKey×Addr×Value),Paired (fun p q=>p.1=q.1∧p.2.1=q.2.1∧RelV p.2.2 q.2.2) ps xs∧(a==sysModules)=false∧ps.length≤sizeLine∧
  ∃ o es ep,h.get? a=some o∧o.ExactDict∧o.data= .dict es ep∧es.toList=xs.map (fun x=>(⟨x.1.hash w,.ref x.2.1,x.2.2⟩:DictEntry))∧(xs.map (·.1)).Nodup
def DtO (w:World) (a:Addr) (ps:List (NestedKey×Addr×V)):HO:=.ext (DtP w a ps)
def zip3 (ks:List D) (bs:List Addr) (vs:List V):List (NestedKey×Addr×V):=(nkDs ks).zip (bs.zip vs)
def isTupO (G:GE) (vs:List V):HO→Prop
  | .tup us=>G.bare=false∧us=vs
  | .frz o (.tup us)=>us=vs∧(G.bare=true→o.dict=none)
  |_=>False
def Tr (G:GE) (H:Hp) (M:List Addr) (a:Addr) (vs:List V):Prop:=
  (∃ ho,H a=some ho∧isTupO G vs ho∧a∉M)∨∃ o its n,List.lookup a G.K=some o∧o.cls=Value.type "tuple"∧o.data=Data.seq its n∧its.size≤sizeLine∧Vals vs its.toList∧(G.bare=true→o.dict=none)
theorem isTupO.rd {G:GE} {H:Hp} {a:Addr} {vs:List V} {ho:HO} (h:H a=some ho) (t:isTupO G vs ho):Rd H a (.tup vs):=by
  unfold isTupO at t
  split at t
  · obtain ⟨_,e⟩:=t;subst e;exact .inl h
  · obtain ⟨e,_⟩:=t;subst e;exact .inr ⟨_,h⟩
  · exact t.elim
def Lr (G:GE) (H:Hp) (M:List Addr) (a:Addr) (vs:List V):Prop:=
  (Rd H a (.lst vs)∧a∉M)∨∃ o its n,List.lookup a G.K=some o∧o.cls=Value.type "list"∧o.dict=none∧o.data=Data.seq its n∧its.size≤sizeLine∧Vals vs its.toList
mutual
def RepD (G:GE) (ρ:List Addr) (H:Hp) (M:List Addr):D→V→Prop
  | .non,v=>v= .non
  | .bl b,v=>v= .bl b
  | .int i,v=>v= .int i
  | .str x,v=>v= .str x
  | .tup ds,v=> ∃ a vs,v= .ref a∧Tr G H M a vs∧RepDs G ρ H M ds vs
  | .lst ds,v=> ∃ a vs,v= .ref a∧H a=some (.lst vs)∧a∉M∧RepDs G ρ H M ds vs
  | .dic ks ds,v=> ∃ a vs,v= .ref a∧Rd H a (.dK (ks.zip vs))∧ks.length=vs.length∧a∉M∧RepDs G ρ H M ds vs
  | .ins c fs ds,v=> ∃ a C dx vs,v= .ref a∧G.cls c=some C∧H a=some (.ins C dx (fs.zip vs))∧fs.length=vs.length∧a∉M∧RepDs G ρ H M ds vs
  | .dct ks ds,v=> ∃ a bs vs,v= .ref a∧Rd H a (DtO G.w a (zip3 ks bs vs))∧ks.length=vs.length∧kfDs 8 ks=true∧a∉M∧RepDs G ρ H M ks (bs.map V.ref)∧RepDs G ρ H M ds vs
  | .loc n,v=> ∃ a,v= .ref a∧ρ[n]?=some a
  | .fn f,v=> ∃ a,v= .ref a∧G.fns f=some a
  | .scr ns,v=> ∃ a,v= .ref a∧Lr G H M a (ns.map V.int)
  | .ty n,v=>v= .ty n
  | .cls c,v=> ∃ C,v= .ref C∧G.cls c=some C
  | .lk o u,v=> ∃ a,v= .ref a∧H a=some (.frz o u)∧a∉M
  | .xn c f d,v=> ∃ a a' C v',G.cur=some (a,a',C)∧v= .ref a∧G.exc c=some (C,f)∧H a'=some (.xd [(f,v')])∧a'∉M∧RepD G ρ H M d v'
  | .xv c f d,v=> ∃ a oe u a' C v',v= .ref a∧G.exc c=some (C,f)∧H a=some (.frz oe u)∧a∉M∧oe.cls= .ref C∧oe.dict=some a'∧(∃ vs,oe.data= .fields vs)∧H a'=some (.xd [(f,v')])∧a'∉M∧RepD G ρ H M d v'
def RepDs (G:GE) (ρ:List Addr) (H:Hp) (M:List Addr):List D→List V→Prop
  |[],vs=>vs=[]
  |d::ds,vs=> ∃ v r,vs=v::r∧RepD G ρ H M d v∧RepDs G ρ H M ds r
end
def Own (G:GE) (ρ:List Addr) (H:Hp) (M:List Addr):O→V→List Addr→Prop
  | .fz d,v,F=>RepD G ρ H M d v∧F=[]
  | .lst ds,v,F=> ∃ a vs,v= .ref a∧H a=some (.lst vs)∧RepDs G ρ H M ds vs∧F=[a]
  | .dic ks ds,v,F=> ∃ a vs,v= .ref a∧H a=some (.dK (ks.zip vs))∧ks.length=vs.length∧RepDs G ρ H M ds vs∧F=[a]
  | .ins c fs ds,v,F=> ∃ a C dx vs,v= .ref a∧G.cls c=some C∧H a=some (.ins C dx (fs.zip vs))∧fs.length=vs.length∧RepDs G ρ H M ds vs∧F=[a]
  | .dct ks ds,v,F=> ∃ a bs vs,v= .ref a∧H a=some (DtO G.w a (zip3 ks bs vs))∧ks.length=vs.length∧kfDs 8 ks=true∧RepDs G ρ H M ks (bs.map V.ref)∧RepDs G ρ H M ds vs∧F=[a]
def Owns (G:GE) (ρ:List Addr) (H:Hp) (M:List Addr):List (O×V)→List Addr→Prop
  |[],F=>F=[]
  |p::ps,F=> ∃ A B,F=A++B∧Own G ρ H M p.1 p.2 A∧Owns G ρ H M ps B
def Cf (G:GE) (H:Hp) (h:List O) (L:List (O×V)):Prop:=
  ∃ ρ M,ρ.length=h.length∧Owns G ρ H M (h.zip (ρ.map V.ref)++L) M∧M.Nodup
section
variable {G:GE} {ρ ρ':List Addr} {H H':Hp} {M M':List Addr}
theorem Tr.stay {a:Addr} {vs:List V} (t:Tr G H M a vs) (hk: ∀ b o,H b=some o→b∉M→H' b=some o) (hm: ∀ b∈M',b∈M∨H b=none):Tr G H' M' a vs:=by
  rcases t with ⟨ho,r,i,n⟩|t
  · refine .inl ⟨ho,hk _ _ r n,i,fun z=>?_⟩
    rcases hm a z with z|z
    · exact n z
    · rw [r] at z;cases z
  · exact .inr t
theorem Rd.stay {a:Addr} {u:HO} (r:Rd H a u) (n:a∉M) (hk: ∀ b o,H b=some o→b∉M→H' b=some o) (hm: ∀ b∈M',b∈M∨H b=none):Rd H' a u∧a∉M':=by
  refine ⟨?_,fun z=>?_⟩
  · rcases r with r|⟨o,r⟩
    · exact .inl (hk _ _ r n)
    · exact .inr ⟨o,hk _ _ r n⟩
  · rcases hm a z with z|z
    · exact n z
    · rcases r with r|⟨o,r⟩<;>(rw [r] at z;cases z)
variable (hρ: ∀ (n:Nat) a,ρ[n]?=some a→ρ'[n]?=some a) (hk: ∀ b o,H b=some o→b∉M→H' b=some o) (hm: ∀ b∈M',b∈M∨H b=none)
include hρ hk hm
mutual
theorem RepD.stay: ∀ (d:D) (v:V),RepD G ρ H M d v→RepD G ρ' H' M' d v
  | .non,v,h=>h
  | .bl b,v,h=>h
  | .int i,v,h=>h
  | .str x,v,h=>h
  | .tup ds,v,h=>by
    obtain ⟨a,vs,e,t,r⟩:=h
    exact ⟨a,vs,e,t.stay hk hm,RepDs.stay ds vs r⟩
  | .lst ds,v,h=>by
    obtain ⟨a,vs,e,t,n,r⟩:=h
    exact ⟨a,vs,e,hk _ _ t n,(Rd.stay (.inl t) n hk hm).2,RepDs.stay ds vs r⟩
  | .dic ks ds,v,h=>by
    obtain ⟨a,vs,e,t,l,n,r⟩:=h
    exact ⟨a,vs,e,(Rd.stay t n hk hm).1,l,(Rd.stay t n hk hm).2,RepDs.stay ds vs r⟩
  | .ins c fs ds,v,h=>by
    obtain ⟨a,C,dx,vs,e,g,t,l,n,r⟩:=h
    exact ⟨a,C,dx,vs,e,g,hk _ _ t n,l,(Rd.stay (.inl t) n hk hm).2,RepDs.stay ds vs r⟩
  | .dct ks ds,v,h=>by
    obtain ⟨a,bs,vs,e,t,l,f,n,rk,r⟩:=h
    exact ⟨a,bs,vs,e,(Rd.stay t n hk hm).1,l,f,(Rd.stay t n hk hm).2,RepDs.stay ks _ rk,RepDs.stay ds vs r⟩
  | .loc n,v,h=>by
    obtain ⟨a,e,r⟩:=h
    exact ⟨a,e,hρ _ _ r⟩
  | .fn f,v,h=>h
  | .scr ns,v,h=>by
    obtain ⟨a,e,t|t⟩:=h
    · exact ⟨a,e,.inl ⟨(Rd.stay t.1 t.2 hk hm).1,(Rd.stay t.1 t.2 hk hm).2⟩⟩
    · exact ⟨a,e,.inr t⟩
  | .ty n,v,h=>h
  | .cls c,v,h=>h
  | .lk o kvs,v,h=>by
    obtain ⟨a,e,t,n⟩:=h
    exact ⟨a,e,hk _ _ t n,(Rd.stay (.inl t) n hk hm).2⟩
  | .xn c f d,v,h=>by
    obtain ⟨a,a',C,v',e1,e2,e3,t,n,r⟩:=h
    exact ⟨a,a',C,v',e1,e2,e3,hk _ _ t n,(Rd.stay (.inl t) n hk hm).2,RepD.stay d v' r⟩
  | .xv c f d,v,h=>by
    obtain ⟨a,oe,u,a',C,v',e2,e3,ta,na,c1,c2,c3,t,n,r⟩:=h
    exact ⟨a,oe,u,a',C,v',e2,e3,hk _ _ ta na,(Rd.stay (.inl ta) na hk hm).2,c1,c2,c3,hk _ _ t n,(Rd.stay (.inl t) n hk hm).2,RepD.stay d v' r⟩
theorem RepDs.stay: ∀ (ds:List D) (vs:List V),RepDs G ρ H M ds vs→RepDs G ρ' H' M' ds vs
  |[],vs,h=>h
  | d::ds,vs,h=>by
    obtain ⟨v,r,e,h1,h2⟩:=h
    exact ⟨v,r,e,RepD.stay d v h1,RepDs.stay ds r h2⟩
end
theorem Own.stay {o:O} {v:V} {F:List Addr} (h:Own G ρ H M o v F) (hF: ∀ b∈F,∀ x,H b=some x→H' b=some x):Own G ρ' H' M' o v F:=by
  cases o with
  |fz d=>exact ⟨RepD.stay hρ hk hm d v h.1,h.2⟩
  | lst ds=>
    obtain ⟨a,vs,e,t,r,f⟩:=h
    exact ⟨a,vs,e,hF a (by rw [f];simp) _ t,RepDs.stay hρ hk hm ds vs r,f⟩
  | dic ks ds=>
    obtain ⟨a,vs,e,t,l,r,f⟩:=h
    exact ⟨a,vs,e,hF a (by rw [f];simp) _ t,l,RepDs.stay hρ hk hm ds vs r,f⟩
  | ins c fs ds=>
    obtain ⟨a,C,dx,vs,e,g,t,l,r,f⟩:=h
    exact ⟨a,C,dx,vs,e,g,hF a (by rw [f];simp) _ t,l,RepDs.stay hρ hk hm ds vs r,f⟩
  | dct ks ds=>
    obtain ⟨a,bs,vs,e,t,l,fk,rk,r,f⟩:=h
    exact ⟨a,bs,vs,e,hF a (by rw [f];simp) _ t,l,fk,RepDs.stay hρ hk hm ks _ rk,RepDs.stay hρ hk hm ds vs r,f⟩
theorem Owns.stay: ∀ {L:List (O×V)} {F:List Addr},Owns G ρ H M L F→(∀ b∈F,∀ x,H b=some x→H' b=some x)→Owns G ρ' H' M' L F
  |[],F,h,_=>h
  | p::ps,F,h,hF=>by
    obtain ⟨A,B,e,h1,h2⟩:=h
    subst e
    exact ⟨A,B,rfl,h1.stay hρ hk hm fun b hb=>hF b (List.mem_append_left _ hb),Owns.stay h2 fun b hb=>hF b (List.mem_append_right _ hb)⟩
end
section
variable {G:GE} {ρ:List Addr} {H:Hp} {M:List Addr}
theorem RepDs.length: ∀ {ds:List D} {vs:List V},RepDs G ρ H M ds vs→ds.length=vs.length
  |[],vs,h=>by rw [show vs=[] from h];rfl
  | d::ds,vs,h=>by
    obtain ⟨v,r,e,h1,h2⟩:=h
    rw [e,List.length_cons,List.length_cons,RepDs.length h2]
theorem RepDs.get: ∀ {ds:List D} {vs:List V} {i:Nat} {d:D},RepDs G ρ H M ds vs→ds[i]?=some d→∃ v,vs[i]?=some v∧RepD G ρ H M d v
  |[],vs,i,d,h,e=>by simp at e
  | d::ds,vs,0,d',h,e=>by
    obtain ⟨v,r,e1,h1,h2⟩:=h
    simp at e;subst e;subst e1
    exact ⟨v,rfl,h1⟩
  | d::ds,vs,i+1,d',h,e=>by
    obtain ⟨v,r,e1,h1,h2⟩:=h
    subst e1
    obtain ⟨w,hw,q⟩:=RepDs.get (i:=i) h2 (by simpa using e)
    exact ⟨w,by simpa using hw,q⟩
theorem RepDs.append: ∀ {ds es:List D} {vs us:List V},RepDs G ρ H M ds vs→RepDs G ρ H M es us→RepDs G ρ H M (ds++es) (vs++us)
  |[],es,vs,us,h,q=>by rw [show vs=[] from h];exact q
  | d::ds,es,vs,us,h,q=>by
    obtain ⟨v,r,e,h1,h2⟩:=h
    subst e
    exact ⟨v,r++us,rfl,h1,RepDs.append h2 q⟩
theorem RepDs.take: ∀ {ds:List D} {vs:List V} (n:Nat),RepDs G ρ H M ds vs→RepDs G ρ H M (ds.take n) (vs.take n)
  |_,_,0,_=>by rw [List.take_zero,List.take_zero];rfl
  |[],vs,n+1,h=>by rw [show vs=[] from h];rfl
  | d::ds,vs,n+1,h=>by
    obtain ⟨v,r,e,h1,h2⟩:=h
    subst e
    exact ⟨v,r.take n,rfl,h1,RepDs.take n h2⟩
theorem RepDs.drop: ∀ {ds:List D} {vs:List V} (n:Nat),RepDs G ρ H M ds vs→RepDs G ρ H M (ds.drop n) (vs.drop n)
  |_,_,0,h=>h
  |[],vs,n+1,h=>by rw [show vs=[] from h];rfl
  | d::ds,vs,n+1,h=>by
    obtain ⟨v,r,e,h1,h2⟩:=h
    subst e
    exact RepDs.drop n h2
theorem RepDs.one {d:D} {v:V} (h:RepD G ρ H M d v):RepDs G ρ H M [d] [v]:=⟨v,[],rfl,h,rfl⟩
theorem RepDs.set: ∀ {ds:List D} {vs:List V} {d:D} {v:V} (i:Nat),RepDs G ρ H M ds vs→RepD G ρ H M d v→RepDs G ρ H M (ds.set i d) (vs.set i v)
  |[],vs,d,v,i,h,q=>by rw [show vs=[] from h];rfl
  | d0::ds,vs,d,v,0,h,q=>by
    obtain ⟨w,r,e,h1,h2⟩:=h
    subst e
    exact ⟨v,r,rfl,q,h2⟩
  | d0::ds,vs,d,v,i+1,h,q=>by
    obtain ⟨w,r,e,h1,h2⟩:=h
    subst e
    exact ⟨w,r.set i v,rfl,h1,RepDs.set i h2 q⟩
theorem RepDs.reverse: ∀ {ds:List D} {vs:List V},RepDs G ρ H M ds vs→RepDs G ρ H M ds.reverse vs.reverse
  |[],vs,h=>by rw [show vs=[] from h];rfl
  | d::ds,vs,h=>by
    obtain ⟨v,r,e,h1,h2⟩:=h
    subst e
    rw [List.reverse_cons,List.reverse_cons]
    exact (RepDs.reverse h2).append (.one h1)
theorem RepDs.of: ∀ {ds:List D} {vs:List V},ds.length=vs.length→(∀ (i:Nat) d v,ds[i]?=some d→vs[i]?=some v→RepD G ρ H M d v)→RepDs G ρ H M ds vs
  |[],[],_,_=>rfl
  |d::ds,v::vs,l,h=>⟨v,vs,rfl,h 0 d v rfl rfl,RepDs.of (by simpa using l) fun i d' v' h1 h2=>h (i+1) d' v' (by simpa using h1) (by simpa using h2)⟩
  |[],_::_,l,_=>by simp at l
  |_::_,[],l,_=>by simp at l
theorem RepDs.flatten_rep: ∀ {ds:List D} {vs:List V} (n:Nat),RepDs G ρ H M ds vs→RepDs G ρ H M (List.replicate n ds).flatten (List.replicate n vs).flatten
  |_,_,0,_=>rfl
  | ds,vs,n+1,h=>by
    rw [List.replicate_succ,List.replicate_succ,List.flatten_cons,List.flatten_cons]
    exact h.append (RepDs.flatten_rep n h)
theorem Owns.append: ∀ {L L':List (O×V)} {F F':List Addr},Owns G ρ H M L F→Owns G ρ H M L' F'→Owns G ρ H M (L++L') (F++F')
  |[],L',F,F',h,q=>by rw [show F=[] from h];exact q
  | p::ps,L',F,F',h,q=>by
    obtain ⟨A,B,e,h1,h2⟩:=h
    subst e
    exact ⟨A,B++F',by rw [List.append_assoc],h1,Owns.append h2 q⟩
theorem Owns.split: ∀ {L L':List (O×V)} {F:List Addr},Owns G ρ H M (L++L') F→∃ A B,F=A++B∧Owns G ρ H M L A∧Owns G ρ H M L' B
  |[],L',F,h=>⟨[],F,rfl,rfl,h⟩
  | p::ps,L',F,h=>by
    obtain ⟨A,B,e,h1,h2⟩:=h
    obtain ⟨A',B',e',h3,h4⟩:=Owns.split h2
    subst e;subst e'
    exact ⟨A++A',B',by rw [List.append_assoc],⟨A,A',rfl,h1,h3⟩,h4⟩
theorem Own.live {o:O} {v:V} {F:List Addr} (h:Own G ρ H M o v F): ∀ b∈F,∃ x,H b=some x:=by
  cases o with
  |fz d=>rw [h.2];intro b hb;simp at hb
  |lst ds=>obtain ⟨a,vs,e,t,r,f⟩:=h;rw [f];intro b hb;simp at hb;subst hb;exact ⟨_,t⟩
  |dic ks ds=>obtain ⟨a,vs,e,t,l,r,f⟩:=h;rw [f];intro b hb;simp at hb;subst hb;exact ⟨_,t⟩
  |ins c fs ds=>obtain ⟨a,C,dx,vs,e,g,t,l,r,f⟩:=h;rw [f];intro b hb;simp at hb;subst hb;exact ⟨_,t⟩
  |dct ks ds=>obtain ⟨a,bs,vs,e,t,l,fk,rk,r,f⟩:=h;rw [f];intro b hb;simp at hb;subst hb;exact ⟨_,t⟩
theorem Owns.live: ∀ {L:List (O×V)} {F:List Addr},Owns G ρ H M L F→∀ b∈F,∃ x,H b=some x
  |[],F,h,b,hb=>by rw [show F=[] from h] at hb;simp at hb
  | p::ps,F,h,b,hb=>by
    obtain ⟨A,B,e,h1,h2⟩:=h
    subst e
    rcases List.mem_append.mp hb with hb|hb
    · exact h1.live b hb
    · exact Owns.live h2 b hb
theorem Owns.perm: ∀ {L L':List (O×V)} {F:List Addr},L.Perm L'→Owns G ρ H M L F→∃ F',F.Perm F'∧Owns G ρ H M L' F':=by
  intro L L' F p
  induction p generalizing F with
  |nil=>intro h;exact ⟨F,.refl _,h⟩
  | cons x _ ih=>
    intro h
    obtain ⟨A,B,e,h1,h2⟩:=h
    obtain ⟨B',p',h3⟩:=ih h2
    subst e
    exact ⟨A++B',p'.append_left A,A,B',rfl,h1,h3⟩
  | swap x y l=>
    intro h
    obtain ⟨A,B,e,h1,A',B',e',h2,h3⟩:=h
    subst e;subst e'
    refine ⟨A'++(A++B'), ?_,A',A++B',rfl,h2,A,B',rfl,h1,h3⟩
    rw [←List.append_assoc,←List.append_assoc]
    exact (List.perm_append_comm).append_right B'
  | trans _ _ ih1 ih2=>
    intro h
    obtain ⟨F1,p1,h1⟩:=ih1 h
    obtain ⟨F2,p2,h2⟩:=ih2 h1
    exact ⟨F2,p1.trans p2,h2⟩
end
def Fz (ds:List D) (vs:List V):List (O×V):=List.zipWith (fun d v=>(O.fz d,v)) ds vs
section
variable {G:GE} {H:Hp} {h:List O} {L L':List (O×V)}
theorem Owns.fz {ρ:List Addr} {M:List Addr}: ∀ {ds:List D} {vs:List V} {L:List (O×V)} {F:List Addr},ds.length=vs.length→(Owns G ρ H M (Fz ds vs++L) F↔RepDs G ρ H M ds vs∧Owns G ρ H M L F)
  |[],[],L,F,_=>⟨fun q=>⟨rfl,q⟩,fun q=>q.2⟩
  | d ::ds,v::vs,L,F,l=>by
    have ih:=Owns.fz (ρ:=ρ) (M:=M) (ds:=ds) (vs:=vs) (L:=L) (F:=F) (by simpa using l)
    constructor
    · rintro ⟨A,B,e,⟨h1,eA⟩,h2⟩
      subst eA;subst e
      obtain ⟨r,q⟩:=Owns.fz (by simpa using l) |>.mp h2
      exact ⟨⟨v,vs,rfl,h1,r⟩,q⟩
    · rintro ⟨⟨v',r',e,h1,h2⟩,q⟩
      injection e with e1 e2
      subst e1;subst e2
      exact ⟨[],F,rfl,⟨h1,rfl⟩,ih.mpr ⟨h2,q⟩⟩
  |[],_::_,_,_,l=>by simp at l
  |_::_,[],_,_,l=>by simp at l
def Cp (G:GE) (ρ:List Addr) (H:Hp) (M:List Addr) (h:List O) (L:List (O×V)):Prop:=
  ρ.length=h.length∧Owns G ρ H M (h.zip (ρ.map V.ref)++L) M∧M.Nodup
theorem Cf.perm (p:L.Perm L') (c:Cf G H h L):Cf G H h L':=by
  obtain ⟨ρ,M,l,o,n⟩:=c
  obtain ⟨M',pm,o'⟩:=Owns.perm (List.Perm.append_left _ p) o
  refine ⟨ρ,M',l,o'.stay (fun _ _ q=>q) (fun _ _ q _=>q) (fun b hb=>.inl (pm.mem_iff.mpr hb)) (fun _ _ _ q=>q),pm.nodup_iff.mp n⟩
theorem Cf.sub {ρ:List Addr} {M F:List Addr} {h:List O} (l:ρ.length=h.length) (o:Owns G ρ H M (h.zip (ρ.map V.ref)++L) F) (s: ∀ b∈F,b∈M) (n:F.Nodup):Cf G H h L:=
  ⟨ρ,F,l,o.stay (fun _ _ q=>q) (fun _ _ q _=>q) (fun b hb=>.inl (s b hb)) (fun _ _ _ q=>q),n⟩
theorem Owns.ahead {ρ:List Addr} {M F:List Addr} {p:O×V} (o:Owns G ρ H M (h.zip (ρ.map V.ref)++p::L) F): ∃ A B,Own G ρ H M p.1 p.2 A∧Owns G ρ H M (h.zip (ρ.map V.ref)++L) B∧F.Perm (A++B):=by
  obtain ⟨A,B,e,h1,A',B',e',h2,h3⟩:=Owns.split o
  subst e;subst e'
  refine ⟨A',A++B',h2,h1.append h3, ?_⟩
  rw [←List.append_assoc,←List.append_assoc]
  exact (List.perm_append_comm).append_right B'
theorem Owns.behind {ρ:List Addr} {M A B:List Addr} {p:O×V} (o1:Own G ρ H M p.1 p.2 A) (o2:Owns G ρ H M (h.zip (ρ.map V.ref)++L) B): ∃ F,Owns G ρ H M (h.zip (ρ.map V.ref)++p::L) F∧F.Perm (A++B):=by
  obtain ⟨X,Y,e,h1,h2⟩:=Owns.split o2
  subst e
  refine ⟨X++(A++Y),h1.append ⟨A,Y,rfl,o1,h2⟩, ?_⟩
  rw [←List.append_assoc,←List.append_assoc]
  exact (List.perm_append_comm).append_right Y
theorem Cf.drop {p:O×V} (c:Cf G H h (p::L)):Cf G H h L:=by
  obtain ⟨ρ,M,l,o,n⟩:=c
  obtain ⟨A,B,o1,o2,pm⟩:=o.ahead
  exact Cf.sub l o2 (fun b hb=>pm.mem_iff.mpr (List.mem_append_right _ hb)) ((pm.nodup_iff.mp n).sublist (List.sublist_append_right _ _))
theorem Cf.dropN: ∀ {K L:List (O×V)},Cf G H h (K++L)→Cf G H h L
  |[],_,c=>c
  |_::K,_,c=>Cf.dropN (K:=K) c.drop
theorem Cf.fz {ds:List D} {vs:List V} (l:ds.length=vs.length):Cf G H h (Fz ds vs++L)↔∃ ρ M,Cp G ρ H M h L∧RepDs G ρ H M ds vs:=by
  constructor
  · intro c
    obtain ⟨ρ,M,lr,o,n⟩:=Cf.perm (L':=L++Fz ds vs) List.perm_append_comm c
    obtain ⟨M1,pm,o1⟩:=Owns.perm (L':=Fz ds vs++(h.zip (ρ.map V.ref)++L)) (by rw [←List.append_assoc];exact List.perm_append_comm) o
    obtain ⟨r,o2⟩:=(Owns.fz l).mp o1
    refine ⟨ρ,M1,⟨lr,o2.stay (fun _ _ q=>q) (fun _ _ q _=>q) (fun b hb=>.inl (pm.mem_iff.mpr hb)) (fun _ _ _ q=>q),pm.nodup_iff.mp n⟩,RepDs.stay (fun _ _ q=>q) (fun _ _ q _=>q) (fun b hb=>.inl (pm.mem_iff.mpr hb)) _ _ r⟩
  · rintro ⟨ρ,M,⟨lr,o,n⟩,r⟩
    have o1:=(Owns.fz l).mpr ⟨r,o⟩
    obtain ⟨M1,pm,o2⟩:=Owns.perm (L':=h.zip (ρ.map V.ref)++(Fz ds vs++L)) (by rw [←List.append_assoc,←List.append_assoc];exact List.perm_append_comm.append_right L) o1
    exact Cf.sub lr o2 (fun b hb=>pm.mem_iff.mpr hb) (pm.nodup_iff.mp n)
theorem Cf.fz1 {d:D} {v:V}:Cf G H h ((.fz d,v)::L)↔∃ ρ M,Cp G ρ H M h L∧RepD G ρ H M d v:=by
  have:=Cf.fz (G:=G) (H:=H) (h:=h) (L:=L) (ds:=[d]) (vs:=[v]) rfl
  constructor
  · intro c
    obtain ⟨ρ,M,cp,r⟩:=this.mp c
    obtain ⟨v',r',e,h1,h2⟩:=r
    injection e with e1 e2
    subst e1
    exact ⟨ρ,M,cp,h1⟩
  · rintro ⟨ρ,M,cp,r⟩
    exact this.mpr ⟨ρ,M,cp,.one r⟩
theorem Cp.cf {ρ M:List Addr} (c:Cp G ρ H M h L):Cf G H h L:=⟨ρ,M,c⟩
theorem Own.frz {ρ M B A:List Addr} {o:O} {v:V} (ow:Own G ρ H M o v A) (hs: ∀ b∈B,b∈M) (hd: ∀ b∈A,b∉B):RepD G ρ H B (frz o) v:=by
  have st: ∀ ds vs,RepDs G ρ H M ds vs→RepDs G ρ H B ds vs:=fun ds vs r=>RepDs.stay (fun _ _ q=>q) (fun _ _ q _=>q) (fun b hb=>.inl (hs b hb)) _ _ r
  cases o with
  |fz d=>exact RepD.stay (fun _ _ q=>q) (fun _ _ q _=>q) (fun b hb=>.inl (hs b hb)) _ _ ow.1
  |lst ds=>obtain ⟨a,vs,e,t,r,f⟩:=ow;exact ⟨a,vs,e,t,hd a (by rw [f];simp),st _ _ r⟩
  |dic ks ds=>obtain ⟨a,vs,e,t,l,r,f⟩:=ow;exact ⟨a,vs,e,.inl t,l,hd a (by rw [f];simp),st _ _ r⟩
  |ins c fs ds=>obtain ⟨a,C,dx,vs,e,g,t,l,r,f⟩:=ow;exact ⟨a,C,dx,vs,e,g,t,l,hd a (by rw [f];simp),st _ _ r⟩
  |dct ks ds=>obtain ⟨a,bs,vs,e,t,l,fk,rk,r,f⟩:=ow;exact ⟨a,bs,vs,e,.inl t,l,fk,hd a (by rw [f];simp),st _ _ rk,st _ _ r⟩
theorem Cf.frz {o:O} {v:V} (c:Cf G H h ((o,v)::L)):Cf G H h ((.fz (frz o),v)::L):=by
  obtain ⟨ρ,M,l,ow,n⟩:=c
  obtain ⟨A,B,o1,o2,pm⟩:=ow.ahead
  have n2:=pm.nodup_iff.mp n
  have hs: ∀ b∈B,b∈M:=fun b hb=>pm.mem_iff.mpr (List.mem_append_right _ hb)
  refine Cf.fz1.mpr ⟨ρ,B,⟨l,o2.stay (fun _ _ q=>q) (fun _ _ q _=>q) (fun b hb=>.inl (hs b hb)) (fun _ _ _ q=>q),(n2.sublist (List.sublist_append_right _ _))⟩, ?_⟩
  exact o1.frz hs fun b hb hb'=>(List.nodup_append.mp n2).2.2 b hb b hb' rfl
theorem Cf.dup {d:D} {v:V} (c:Cf G H h ((.fz d,v)::L)):Cf G H h ((.fz d,v)::(.fz d,v)::L):=by
  obtain ⟨ρ,M,cp,r⟩:=Cf.fz1.mp c
  exact (Cf.fz (ds:=[d,d]) (vs:=[v,v]) rfl).mpr ⟨ρ,M,cp,⟨_,_,rfl,r,.one r⟩⟩
theorem Cp.alloc {ρ M:List Addr} {p:Addr} {o:HO} (c:Cp G ρ H M h L) (hp:H p=none):Cp G ρ (upd H p o) M h L∧(∀ ds vs,RepDs G ρ H M ds vs→RepDs G ρ (upd H p o) (p::M) ds vs)∧(∀ ds vs,RepDs G ρ H M ds vs→RepDs G ρ (upd H p o) M ds vs)∧p∉M:=by
  obtain ⟨l,ow,n⟩:=c
  have hk: ∀ b x,H b=some x→b∉M→(upd H p o) b=some x:=fun b x e _=>by rw [upd_ne (ne_of_none e hp)];exact e
  refine ⟨⟨l,ow.stay (fun _ _ q=>q) hk (fun b hb=>.inl hb) (fun b _ x e=>by rw [upd_ne (ne_of_none e hp)];exact e),n⟩,fun ds vs r=>RepDs.stay (fun _ _ q=>q) hk (fun b hb=>?_) _ _ r,fun ds vs r=>RepDs.stay (fun _ _ q=>q) hk (fun b hb=>.inl hb) _ _ r,fun hb=>?_⟩
  · rcases List.mem_cons.mp hb with e|hb
    · rw [e];exact .inr hp
    · exact .inl hb
  · obtain ⟨x,e⟩:=ow.live p hb
    rw [hp] at e;cases e
theorem Cf.newTup {ds:List D} {vs:List V} {p:Addr} {ho:HO} (l:ds.length=vs.length) (c:Cf G H h (Fz ds vs++L)) (hp:H p=none) (ht:isTupO G vs ho):Cf G (upd H p ho) h ((.fz (.tup ds),.ref p)::L):=by
  obtain ⟨ρ,M,cp,r⟩:=(Cf.fz l).mp c
  obtain ⟨cp',_,r2,np⟩:=cp.alloc (o:=ho) hp
  exact Cf.fz1.mpr ⟨ρ,M,cp',p,vs,rfl,.inl ⟨ho,upd_same,ht,np⟩,r2 _ _ r⟩
theorem Cf.newOwn {p:Addr} {ho:HO} {o:O} {ds:List D} {vs:List V} (l:ds.length=vs.length) (c:Cf G H h (Fz ds vs++L)) (hp:H p=none)
    (own: ∀ ρ M H',H' p=some ho→RepDs G ρ H' M ds vs→Own G ρ H' M o (.ref p) [p]):Cf G (upd H p ho) h ((o,.ref p)::L):=by
  obtain ⟨ρ,M,cp,r⟩:=(Cf.fz l).mp c
  obtain ⟨cp',r1,r2,np⟩:=cp.alloc (o:=ho) hp
  have o1:Own G ρ (upd H p ho) (p::M) o (.ref p) [p]:=own ρ _ _ upd_same (r1 _ _ r)
  have o2:Owns G ρ (upd H p ho) (p::M) (h.zip (ρ.map V.ref)++L) M:=cp.2.1.stay (fun _ _ q=>q) (fun b x e _=>by rw [upd_ne (ne_of_none e hp)];exact e) (fun b hb=>by
    rcases List.mem_cons.mp hb with e|hb
    · rw [e];exact .inr hp
    · exact .inl hb) (fun b _ x e=>by rw [upd_ne (ne_of_none e hp)];exact e)
  obtain ⟨F,o3,pm⟩:=Owns.behind (p:=(o,.ref p)) o1 o2
  exact Cf.sub cp.1 o3 (fun b hb=>pm.mem_iff.mp hb) (pm.nodup_iff.mpr (List.nodup_cons.mpr ⟨np,cp.2.2⟩))
theorem Cf.newLst {ds:List D} {vs:List V} {p:Addr} (l:ds.length=vs.length) (c:Cf G H h (Fz ds vs++L)) (hp:H p=none):Cf G (upd H p (.lst vs)) h ((.lst ds,.ref p)::L):=
  c.newOwn l hp fun ρ M H' e r=>⟨p,vs,rfl,e,r,rfl⟩
theorem Cf.newDic {ks:List Key} {ds:List D} {vs:List V} {p:Addr} (l:ds.length=vs.length) (lk:ks.length=vs.length) (c:Cf G H h (Fz ds vs++L)) (hp:H p=none):Cf G (upd H p (.dK (ks.zip vs))) h ((.dic ks ds,.ref p)::L):=
  c.newOwn l hp fun ρ M H' e r=>⟨p,vs,rfl,e,lk,r,rfl⟩
theorem Cf.change {p:Addr} {ho:HO} {o o':O} {ds:List D} {vs:List V} (l:ds.length=vs.length) (c:Cf G H h ((o,.ref p)::(Fz ds vs++L))) (hn: ∀ d,o≠.fz d)
    (own: ∀ ρ M H',H' p=some ho→RepDs G ρ H' M ds vs→Own G ρ H' M o' (.ref p) [p]):Cf G (upd H p ho) h ((o',.ref p)::L):=by
  have c2:Cf G H h (Fz ds vs++(o,.ref p)::L):=c.perm (by
    have:(o,V.ref p)::(Fz ds vs++L)=[(o,V.ref p)]++(Fz ds vs++L):=rfl
    rw [this,←List.append_assoc]
    have e2:Fz ds vs++(o,V.ref p)::L=(Fz ds vs++[(o,V.ref p)])++L:=by simp
    rw [e2]
    exact List.perm_append_comm.append_right L)
  obtain ⟨ρ,M,⟨lr,ow,n⟩,r⟩:=(Cf.fz l).mp c2
  obtain ⟨A,B,o1,o2,pm⟩:=ow.ahead
  have hA:A=[p]:=by
    cases o with
    |fz d=>exact absurd rfl (hn d)
    |lst ds=>obtain ⟨a,vs,e,t,r,f⟩:=o1;cases e;exact f
    |dic ks ds=>obtain ⟨a,vs,e,t,l,r,f⟩:=o1;cases e;exact f
    |ins c fs ds=>obtain ⟨a,C,dx,vs,e,g,t,l,r,f⟩:=o1;cases e;exact f
    |dct ks ds=>obtain ⟨a,bs,vs,e,t,l,fk,rk,r,f⟩:=o1;cases e;exact f
  subst hA
  have n2:=pm.nodup_iff.mp n
  have np:p∉B:=(List.nodup_cons.mp n2).1
  have hpM:p∈M:=pm.mem_iff.mpr (by simp)
  have hk: ∀ b x,H b=some x→b∉M→(upd H p ho) b=some x:=fun b x e nb=>by rw [upd_ne (fun z:b=p=>nb (by rw [z];exact hpM))];exact e
  have hm: ∀ b∈p::B,b∈M∨H b=none:=fun b hb=>.inl (pm.mem_iff.mpr (by simpa using hb))
  have q1:Own G ρ (upd H p ho) (p::B) o' (.ref p) [p]:=own ρ _ _ upd_same (RepDs.stay (fun _ _ q=>q) hk hm _ _ r)
  have q2:Owns G ρ (upd H p ho) (p::B) (h.zip (ρ.map V.ref)++L) B:=o2.stay (fun _ _ q=>q) hk hm (fun b hb x e=>by rw [upd_ne (fun z:b=p=>np (by rw [←z];exact hb))];exact e)
  obtain ⟨F,q3,pm3⟩:=Owns.behind (p:=(o',.ref p)) q1 q2
  exact Cf.sub lr q3 (fun b hb=>by simpa using pm3.mem_iff.mp hb) (pm3.nodup_iff.mpr n2)
end
end Mi
namespace Mi
open PySem PySem.Spec PyProof.Rows L2
section
variable {G:GE} {H:Hp} {h:List O} {L L':List (O×V)}
theorem zip_at: ∀ {h:List O} {ρ:List Addr} {n:Nat} {o:O} {a:Addr},h[n]?=some o→ρ[n]?=some a→
    ∃ X Y,h.zip (ρ.map V.ref)=X++(o,.ref a)::Y∧∀ o',(h.set n o').zip (ρ.map V.ref)=X++(o',.ref a)::Y
  |[],_,_,_,_,e,_=>by simp at e
  |_::_,[],_,_,_,_,e=>by simp at e
  | o0::h,a0::ρ,0,o,a,e1,e2=>by
    simp at e1 e2
    subst e1;subst e2
    exact ⟨[],h.zip (ρ.map V.ref),rfl,fun o'=>rfl⟩
  | o0::h,a0::ρ,n+1,o,a,e1,e2=>by
    obtain ⟨X,Y,q1,q2⟩:=zip_at (h:=h) (ρ:=ρ) (n:=n) (o:=o) (a:=a) (by simpa using e1) (by simpa using e2)
    refine ⟨(o0,.ref a0)::X,Y, ?_,fun o'=>?_⟩
    · simp [q1]
    · simp [q2]
theorem Cf.cell {n:Nat} {v:V} {o:O} (c:Cf G H h ((.fz (.loc n),v)::L)) (hn:h[n]?=some o): ∃ a,v= .ref a∧∃ ρ M A,ρ[n]?=some a∧Cp G ρ H M h L∧Own G ρ H M o (.ref a) A:=by
  obtain ⟨ρ,M,cp,a,e,hr⟩:=Cf.fz1.mp c
  refine ⟨a,e,ρ,M, ?_⟩
  obtain ⟨X,Y,q1,q2⟩:=zip_at hn hr
  have ow:=cp.2.1
  rw [q1,List.append_assoc] at ow
  obtain ⟨A,B,_,_,A',B',_,h3,_⟩:=Owns.split ow
  exact ⟨A',hr,cp,h3⟩
theorem Cf.cellLst {n:Nat} {v:V} {ds:List D} (c:Cf G H h ((.fz (.loc n),v)::L)) (hn:h[n]?=some (.lst ds)): ∃ a vs,v= .ref a∧H a=some (.lst vs)∧ds.length=vs.length∧Cf G H h (Fz ds vs++(.fz (.loc n),v)::L):=by
  obtain ⟨a,e,ρ,M,A,hr,cp,a',vs,e',t,r,f⟩:=c.cell hn
  cases e'
  refine ⟨a,vs,e,t,r.length, ?_⟩
  have:=(Cf.fz (L:=L) (ds:=ds++[.loc n]) (vs:=vs++[v]) (by simp [r.length])).mpr ⟨ρ,M,cp,r.append (.one (d:=.loc n) ⟨a,e,hr⟩)⟩
  rw [Fz,List.zipWith_append r.length,List.append_assoc] at this
  exact this
theorem Cf.putCell {n:Nat} {p:Addr} {ho:HO} {o o':O} {ds:List D} {vs:List V} (l:ds.length=vs.length) (c:Cf G H h (Fz ds vs++(.fz (.loc n),.ref p)::L)) (hn:h[n]?=some o) (hf: ∀ d,o≠.fz d)
    (own: ∀ ρ M H',H' p=some ho→RepDs G ρ H' M ds vs→Own G ρ H' M o' (.ref p) [p]):Cf G (upd H p ho) (h.set n o') ((.fz (.loc n),.ref p)::L):=by
  have c1:Cf G H h (Fz (ds++[.loc n]) (vs++[.ref p])++L):=by
    rw [Fz,List.zipWith_append l,List.append_assoc]
    exact c
  obtain ⟨ρ,M,cp,r⟩:=(Cf.fz (by simp [l])).mp c1
  obtain ⟨lr,ow,n0⟩:=cp
  have r1:RepDs G ρ H M ds vs:=by
    have:=RepDs.take ds.length r
    rw [List.take_left,l,List.take_left] at this
    exact this
  obtain ⟨v',hv',a,e,hr⟩:=RepDs.get (i:=ds.length) (d:=.loc n) r (by simp)
  rw [l,List.getElem?_append_right (Nat.le_refl _)] at hv'
  simp at hv'
  subst hv'
  cases e
  obtain ⟨X,Y,q1,q2⟩:=zip_at hn hr
  rw [q1,List.append_assoc] at ow
  obtain ⟨A,B,eM,s1,A',B',eB,s2,s3⟩:=Owns.split ow
  have hA:A'=[p]:=by
    cases o with
    |fz d=>exact absurd rfl (hf d)
    |lst ds=>obtain ⟨a,vs,e,t,r,f⟩:=s2;cases e;exact f
    |dic ks ds=>obtain ⟨a,vs,e,t,l,r,f⟩:=s2;cases e;exact f
    |ins c fs ds=>obtain ⟨a,C,dx,vs,e,g,t,l,r,f⟩:=s2;cases e;exact f
    |dct ks ds=>obtain ⟨a,bs,vs,e,t,l,fk,rk,r,f⟩:=s2;cases e;exact f
  subst hA;subst eB
  have hpM:p∈M:=by rw [eM];simp
  have n1:(A++([p]++B')).Nodup:=by rw [←eM];exact n0
  have hpA:p∉A:=fun z=>(List.nodup_append.mp n1).2.2 p z p (by simp) rfl
  have hpB:p∉B':=(List.nodup_cons.mp (List.nodup_append.mp n1).2.1).1
  have hk: ∀ b x,H b=some x→b∉M→(upd H p ho) b=some x:=fun b x e nb=>by rw [upd_ne (fun z:b=p=>nb (by rw [z];exact hpM))];exact e
  have hm: ∀ b∈M,b∈M∨H b=none:=fun b hb=>.inl hb
  have t1:=s1.stay (H':=upd H p ho) (M':=M) (ρ':=ρ) (fun _ _ q=>q) hk hm (fun b hb x e=>by rw [upd_ne (fun z:b=p=>hpA (by rw [←z];exact hb))];exact e)
  have t3:=s3.stay (H':=upd H p ho) (M':=M) (ρ':=ρ) (fun _ _ q=>q) hk hm (fun b hb x e=>by rw [upd_ne (fun z:b=p=>hpB (by rw [←z];exact hb))];exact e)
  have t2:Own G ρ (upd H p ho) M o' (.ref p) [p]:=own ρ M _ upd_same (RepDs.stay (fun _ _ q=>q) hk hm _ _ r1)
  refine Cf.fz1.mpr ⟨ρ,M,⟨by rw [List.length_set];exact lr, ?_,n0⟩,p,rfl,hr⟩
  rw [q2,List.append_assoc]
  have:=t1.append (L':=(o',.ref p)::(Y++L)) (F':=[p]++B') ⟨[p],B',rfl,t2,t3⟩
  rw [←eM] at this
  exact this
theorem Cf.newCell {o:O} {v:V} (c:Cf G H h ((o,v)::L)) (hf: ∀ d,o≠.fz d):Cf G H (h++[o]) ((.fz (.loc h.length),v)::L):=by
  obtain ⟨ρ,M,l,ow,n⟩:=c
  obtain ⟨A,B,e,s1,A',B',e',s2,s3⟩:=Owns.split ow
  have hA: ∃ p,v= .ref p:=by
    cases o with
    |fz d=>exact absurd rfl (hf d)
    |lst ds=>obtain ⟨a,vs,e,t,r,f⟩:=s2;exact ⟨a,e⟩
    |dic ks ds=>obtain ⟨a,vs,e,t,l,r,f⟩:=s2;exact ⟨a,e⟩
    |ins c fs ds=>obtain ⟨a,C,dx,vs,e,g,t,l,r,f⟩:=s2;exact ⟨a,e⟩
    |dct ks ds=>obtain ⟨a,bs,vs,e,t,l,fk,rk,r,f⟩:=s2;exact ⟨a,e⟩
  obtain ⟨p,ep⟩:=hA
  subst ep
  have hρ: ∀ (n:Nat) a,ρ[n]?=some a→(ρ++[p])[n]?=some a:=fun n a q=>by
    rw [List.getElem?_append_left (by
      rcases Nat.lt_or_ge n ρ.length with z|z
      · exact z
      · rw [List.getElem?_eq_none z] at q;cases q)]
    exact q
  have hk: ∀ b x,H b=some x→b∉M→H b=some x:=fun _ _ q _=>q
  refine Cf.fz1.mpr ⟨ρ++[p],M,⟨by simp [l], ?_,n⟩,p,rfl,by rw [←l];simp⟩
  rw [List.map_append,List.zip_append (by simp [l]),List.append_assoc,e,e']
  have t1:=s1.stay (ρ':=ρ++[p]) (M':=M) hρ hk (fun b hb=>.inl hb) (fun _ _ _ q=>q)
  have t2:=s2.stay (ρ':=ρ++[p]) (M':=M) hρ hk (fun b hb=>.inl hb) (fun _ _ _ q=>q)
  have t3:=s3.stay (ρ':=ρ++[p]) (M':=M) hρ hk (fun b hb=>.inl hb) (fun _ _ _ q=>q)
  rw [e,e'] at t1 t2 t3
  exact t1.append ⟨A',B',rfl,t2,t3⟩
theorem Fz_append {ds es:List D} {vs us:List V} (l:ds.length=vs.length):Fz (ds++es) (vs++us)=Fz ds vs++Fz es us:=by
  rw [Fz,List.zipWith_append l];rfl
theorem Cf.lst {ds:List D} {v:V} (c:Cf G H h ((.lst ds,v)::L)): ∃ a vs,v= .ref a∧H a=some (.lst vs)∧ds.length=vs.length∧Cf G H h ((.lst ds,v)::(Fz ds vs++L)):=by
  obtain ⟨ρ,M,l,ow,n⟩:=c
  obtain ⟨A,B,o1,o2,pm⟩:=ow.ahead
  obtain ⟨a,vs,e,t,r,f⟩:=o1
  refine ⟨a,vs,e,t,r.length, ?_⟩
  have c2:Cf G H h (Fz ds vs++(.lst ds,v)::L):=(Cf.fz r.length).mpr ⟨ρ,M,⟨l,ow,n⟩,r⟩
  refine c2.perm ?_
  have e2:Fz ds vs++(O.lst ds,v)::L=(Fz ds vs++[(O.lst ds,v)])++L:=by simp
  rw [e2]
  exact List.perm_append_comm.append_right L
theorem Cf.lstF {ds:List D} {v:V} (c:Cf G H h ((.fz (.lst ds),v)::L)): ∃ a vs,v= .ref a∧H a=some (.lst vs)∧ds.length=vs.length∧Cf G H h (Fz ds vs++(.fz (.lst ds),v)::L):=by
  obtain ⟨ρ,M,cp,a,vs,e,t,nm,r⟩:=Cf.fz1.mp c
  refine ⟨a,vs,e,t,r.length, ?_⟩
  have:=(Cf.fz (L:=L) (ds:=ds++[.lst ds]) (vs:=vs++[v]) (by simp [r.length])).mpr ⟨ρ,M,cp,r.append (.one (d:=.lst ds) ⟨a,vs,e,t,nm,r⟩)⟩
  rw [Fz_append r.length,List.append_assoc] at this
  exact this
theorem Tr.sq {M:List Addr} {a:Addr} {vs:List V} (t:Tr G H M a vs):SqT G.K H a vs:=by
  rcases t with ⟨ho,t,i,n⟩|⟨o,its,n,t1,t2,t3,t4,t5,_⟩
  · exact .inl (isTupO.rd t i)
  · exact .inr ⟨o,its,n,t1,t2,t3,t4,t5⟩
theorem Cf.tupF {ds:List D} {v:V} (c:Cf G H h ((.fz (.tup ds),v)::L)): ∃ a vs,v= .ref a∧SqT G.K H a vs∧ds.length=vs.length∧Cf G H h (Fz ds vs++(.fz (.tup ds),v)::L):=by
  obtain ⟨ρ,M,cp,a,vs,e,t,r⟩:=Cf.fz1.mp c
  refine ⟨a,vs,e,t.sq,r.length, ?_⟩
  have:=(Cf.fz (L:=L) (ds:=ds++[.tup ds]) (vs:=vs++[v]) (by simp [r.length])).mpr ⟨ρ,M,cp,r.append (.one (d:=.tup ds) ⟨a,vs,e,t,r⟩)⟩
  rw [Fz_append r.length,List.append_assoc] at this
  exact this
theorem Cf.get {ds:List D} {vs:List V} {i:Nat} {d:D} (l:ds.length=vs.length) (c:Cf G H h (Fz ds vs++L)) (e:ds[i]?=some d): ∃ v,vs[i]?=some v∧Cf G H h ((.fz d,v)::L):=by
  obtain ⟨ρ,M,cp,r⟩:=(Cf.fz l).mp c
  obtain ⟨v,hv,q⟩:=r.get e
  exact ⟨v,hv,Cf.fz1.mpr ⟨ρ,M,cp,q⟩⟩
theorem Cf.swap {p q:O×V} (c:Cf G H h (p::q::L)):Cf G H h (q::p::L):=c.perm (.swap _ _ _)
theorem Cf.rot {K:List (O×V)} {p:O×V} (c:Cf G H h (p::(K++L))):Cf G H h (K++p::L):=c.perm (by
  have e2:K++p::L=(K++[p])++L:=by simp
  rw [e2]
  exact (List.perm_append_comm (l₁:=[p]) (l₂:=K)).append_right L)
theorem Cf.unrot {K:List (O×V)} {p:O×V} (c:Cf G H h (K++p::L)):Cf G H h (p::(K++L)):=c.perm (by
  have e2:K++p::L=(K++[p])++L:=by simp
  rw [e2]
  exact (List.perm_append_comm (l₁:=K) (l₂:=[p])).append_right L)
theorem Cf.int {i:Int} {v:V} (c:Cf G H h ((.fz (.int i),v)::L)):v= .int i:=by obtain ⟨ρ,M,cp,e⟩:=Cf.fz1.mp c;exact e
theorem Cf.bl {i:Bool} {v:V} (c:Cf G H h ((.fz (.bl i),v)::L)):v= .bl i:=by obtain ⟨ρ,M,cp,e⟩:=Cf.fz1.mp c;exact e
theorem Cf.str {i:Str} {v:V} (c:Cf G H h ((.fz (.str i),v)::L)):v= .str i:=by obtain ⟨ρ,M,cp,e⟩:=Cf.fz1.mp c;exact e
theorem Cf.non {v:V} (c:Cf G H h ((.fz .non,v)::L)):v= .non:=by obtain ⟨ρ,M,cp,e⟩:=Cf.fz1.mp c;exact e
def simple:D→Option V
  | .non=>some .non| .bl b=>some (.bl b)| .int i=>some (.int i)| .str x=>some (.str x)| .ty n=>some (.ty n)|_=>none
theorem Cf.simple {d:D} {v:V} (c:Cf G H h L) (e:simple d=some v):Cf G H h ((.fz d,v)::L):=by
  obtain ⟨ρ,M,cp⟩:=c
  refine Cf.fz1.mpr ⟨ρ,M,cp, ?_⟩
  cases d<;>simp [Mi.simple] at e<;>subst e<;>rfl
end
end Mi
namespace Mi
open PySem PySem.Spec PyProof.Rows L2
abbrev Sr:=L2.St
structure S where
  σ:List (Option O)
  h:List O
inductive Out (α:Type) where
  |ok (a:α) (s:S)
  |exc (c:Str) (d:D) (s:S)
  |bad
inductive Res where
  |ok (o:O) (h:List O)
  |exc (c:Str) (d:D) (h:List O)
  |bad
inductive Fl where
  |nx (s:S)|rt (o:O) (s:S)|bk (s:S)|ct (s:S)|exc (c:Str) (d:D) (s:S)|bad
abbrev Call:=Str→List D→List O→Res
inductive R where
  |own (o:O)|bor (i:Nat)
abbrev E:=Call→S→Out R
abbrev B:=Call→S→Out Bool
abbrev As:=Call→S→Out (List D)
abbrev C:=Call→S→Fl
def Out.bind {α β:Type} (x:Out α) (f:α→S→Out β):Out β:=match x with
  | .ok a s=>f a s
  | .exc c d s=>.exc c d s
  | .bad=>.bad
def Out.flow {α:Type} (x:Out α) (f:α→S→Fl):Fl:=match x with
  | .ok a s=>f a s
  | .exc c d s=>.exc c d s
  | .bad=>.bad
@[simp] theorem Out.bind_ok {α β:Type} (a:α) (s:S) (f:α→S→Out β):(Out.ok a s).bind f=f a s:=rfl
@[simp] theorem Out.flow_ok {α:Type} (a:α) (s:S) (f:α→S→Fl):(Out.ok a s).flow f=f a s:=rfl
def lift {α:Type} (s:S):Option α→Out α
  |some a=>.ok a s
  |none=>.bad
@[simp] theorem lift_some {α:Type} (s:S) (a:α):lift s (some a)= .ok a s:=rfl
def slp:List (Option O)→Sr→List (O×V)
  |some o::os,some v::vs=>(o,v)::slp os vs
  |_::os,_::vs=>slp os vs
  |_,_=>[]
structure SlOk (σ:List (Option O)) (σr:Sr):Prop where
  len:σ.length=σr.length
  at_: ∀ (i:Nat) o,σ[i]?=some (some o)→∃ v,σr[i]?=some (some v)
def ow:List (R×V)→List (O×V)
  |(.own o,v)::r=>(o,v)::ow r
  |(.bor _,_)::r=>ow r
  |[]=>[]
structure CfS (G:GE) (σr:Sr) (H:Hp) (s:S) (Φ:List (R×V)):Prop where
  sl:SlOk s.σ σr
  bo: ∀ i v,(R.bor i,v)∈Φ→σr[i]?=some (some v)
  cf:Cf G H s.h (slp s.σ σr++ow Φ)
theorem slp_at: ∀ {σ:List (Option O)} {σr:Sr} {i:Nat} {o:O} {v:V},σ[i]?=some (some o)→σr[i]?=some (some v)→
    ∃ X Y,slp σ σr=X++(o,v)::Y∧(∀ o',slp (σ.set i (some o')) σr=X++(o',v)::Y)
  |[],_,_,_,_,e,_=>by simp at e
  |_::_,[],_,_,_,_,e=>by simp at e
  | a::σ,b::σr,0,o,v,e1,e2=>by
    simp at e1 e2
    subst e1;subst e2
    exact ⟨[],slp σ σr,rfl,fun o'=>rfl⟩
  | a ::σ,b::σr,i+1,o,v,e1,e2=>by
    obtain ⟨X,Y,q1,q2⟩:=slp_at (σ:=σ) (σr:=σr) (i:=i) (o:=o) (v:=v) (by simpa using e1) (by simpa using e2)
    cases a with
    |none=>exact ⟨X,Y,q1,fun o'=>q2 o'⟩
    | some a=>
      cases b with
      |none=>exact ⟨X,Y,q1,fun o'=>q2 o'⟩
      |some b=>exact ⟨(a,b)::X,Y,by simp [slp,q1],fun o'=>by simp [slp,q2]⟩
theorem slp_set: ∀ {σ:List (Option O)} {σr:Sr} {i:Nat} {o:O} {v:V},i<σ.length→i<σr.length→
    ∃ X Z Y,slp σ σr=X++(Z++Y)∧slp (σ.set i (some o)) (σr.set i (some v))=X++(o,v)::Y∧slp (σ.set i none) (σr.set i none)=X++Y
  |[],_,_,_,_,e,_=>by simp at e
  |_::_,[],_,_,_,_,e=>by simp at e
  | a ::σ,b::σr,0,o,v,_,_=>by
    cases a with
    |none=>exact ⟨[],[],slp σ σr,rfl,rfl,rfl⟩
    | some a=>
      cases b with
      |none=>exact ⟨[],[],slp σ σr,rfl,rfl,rfl⟩
      |some b=>exact ⟨[],[(a,b)],slp σ σr,rfl,rfl,rfl⟩
  | a ::σ,b::σr,i+1,o,v,e1,e2=>by
    obtain ⟨X,Z,Y,q1,q2,q3⟩:=slp_set (σ:=σ) (σr:=σr) (i:=i) (o:=o) (v:=v) (by simpa using e1) (by simpa using e2)
    cases a with
    |none=>exact ⟨X,Z,Y,q1,q2,q3⟩
    | some a=>
      cases b with
      |none=>exact ⟨X,Z,Y,q1,q2,q3⟩
      |some b=>exact ⟨(a,b)::X,Z,Y,by simp [slp,q1],by simp [slp,q2],by simp [slp,q3]⟩
theorem ow_append: ∀ (Φ Ψ:List (R×V)),ow (Φ++Ψ)=ow Φ++ow Ψ
  |[],_=>rfl
  |(.own o,v)::r,Ψ=>by simp [ow,ow_append r Ψ]
  |(.bor i,v)::r,Ψ=>by simp [ow,ow_append r Ψ]
theorem ow_perm {Φ Ψ:List (R×V)} (p:Φ.Perm Ψ):(ow Φ).Perm (ow Ψ):=by
  induction p with
  |nil=>exact .refl _
  |cons x _ ih=>cases x with|mk r v=>cases r<;>simp [ow,ih]
  | swap x y l=>
    cases x with|mk r v=>cases y with|mk r' v'=>cases r<;>cases r'<;>simp [ow];exact .swap _ _ _
  |trans _ _ a b=>exact a.trans b
def deref (h:List O):D→Option D
  | .loc n=>(h[n]?).map frz
  |d=>some d
def peek (s:S):R→Option D
  | .own o=>deref s.h (frz o)
  | .bor i=>match s.σ[i]? with
    |some (some o)=>deref s.h (frz o)
    |_=>none
def take (s:S):R→Option (D×S)
  | .own o=>some (frz o,s)
  | .bor i=>match s.σ[i]? with
    |some (some o)=>some (frz o,⟨s.σ.set i (some (.fz (frz o))),s.h⟩)
    |_=>none
section
variable {G:GE} {σr:Sr} {H:Hp} {s:S} {Φ:List (R×V)}
theorem CfS.by_ {Φ':List (R×V)} {H':Hp} {h':List O} (c:CfS G σr H s Φ) (hb: ∀ i v,(R.bor i,v)∈Φ'→(R.bor i,v)∈Φ) (f: ∀ L,Cf G H s.h (ow Φ++L)→Cf G H' h' (ow Φ'++L)):CfS G σr H' ⟨s.σ,h'⟩ Φ':=
  ⟨c.sl,fun i v q=>c.bo i v (hb i v q),(f _ (c.cf.perm List.perm_append_comm)).perm List.perm_append_comm⟩
theorem CfS.perm {Φ':List (R×V)} (p:Φ.Perm Φ') (c:CfS G σr H s Φ):CfS G σr H s Φ':=⟨c.sl,fun i v q=>c.bo i v (p.mem_iff.mpr q),c.cf.perm ((ow_perm p).append_left _)⟩
theorem CfS.drop {p:R×V} (c:CfS G σr H s (p::Φ)):CfS G σr H s Φ:=c.by_ (fun _ _ q=>List.mem_cons_of_mem _ q) fun L q=>by
  cases p with|mk r v=>cases r with
    |own o=>exact Cf.drop (p:=(o,v)) q
    |bor i=>exact q
theorem CfS.dropN: ∀ {K:List (R×V)},CfS G σr H s (K++Φ)→CfS G σr H s Φ
  |[],c=>c
  |_::K,c=>CfS.dropN (K:=K) c.drop
theorem CfS.swap {p q:R×V} (c:CfS G σr H s (p::q::Φ)):CfS G σr H s (q::p::Φ):=c.perm (.swap _ _ _)
theorem CfS.frz {o:O} {v:V} (c:CfS G σr H s ((.own o,v)::Φ)):CfS G σr H s ((.own (.fz (frz o)),v)::Φ):=c.by_ (fun _ _ q=>by simpa using q) fun L q=>Cf.frz q
theorem CfS.name {i:Nat} {o:O} (c:CfS G σr H s Φ) (e:s.σ[i]?=some (some o)): ∃ v,σr[i]?=some (some v)∧CfS G σr H s ((.bor i,v)::Φ):=by
  obtain ⟨v,ev⟩:=c.sl.at_ i o e
  refine ⟨v,ev,c.sl,fun j w q=>?_,c.cf⟩
  rcases List.mem_cons.mp q with q|q
  · injection q with q1 q2;injection q1 with q1;subst q1;subst q2;exact ev
  · exact c.bo j w q
theorem CfS.take {r:R} {v:V} {d:D} {s':S} (c:CfS G σr H s ((r,v)::Φ)) (e:take s r=some (d,s')):CfS G σr H s' ((.own (.fz d),v)::Φ):=by
  cases r with
  | own o=>
    simp only [Mi.take,Option.some.injEq,Prod.mk.injEq] at e
    obtain ⟨e1,e2⟩:=e
    subst e1;subst e2
    exact c.frz
  | bor i=>
    simp only [Mi.take] at e
    have ev:σr[i]?=some (some v):=c.bo i v (by simp)
    have cb:=fun j w q=>c.bo j w (List.mem_cons_of_mem _ q)
    have ok:=c.sl
    have cf:Cf G H s.h (slp s.σ σr++ow Φ):=c.cf
    split at e
    · rename_i o eo
      simp only [Option.some.injEq,Prod.mk.injEq] at e
      obtain ⟨e1,e2⟩:=e
      subst e1;subst e2
      refine ⟨⟨by simp [ok.len],fun j o' q=>?_⟩,fun j w q=>?_, ?_⟩
      · by_cases hj:i=j
        · subst hj;exact ⟨v,ev⟩
        · exact ok.at_ j o' (by simpa [List.getElem?_set,hj] using q)
      · rcases List.mem_cons.mp q with q|q
        · cases q
        · exact cb j w q
      · obtain ⟨X,Y,q1,q2⟩:=slp_at eo ev
        show Cf G H s.h (slp (s.σ.set i _) σr++(O.fz (Mi.frz o),v)::ow Φ)
        rw [q2]
        rw [q1] at cf
        have c1:Cf G H s.h ((o,v)::(X++Y++ow Φ)):=cf.perm (by simp)
        refine c1.frz.dup.perm ?_
        simp only [List.append_assoc,List.cons_append]
        refine List.Perm.trans (List.Perm.cons _ ?_) List.perm_middle.symm
        rw [←List.append_assoc,←List.append_assoc]
        exact List.perm_middle.symm
    · cases e
end
end Mi
namespace Mi
open PySem PySem.Spec PyProof.Rows L2
section
open Builtin Builtin.ObjectAttr
def refsT (tl:List Value):List Value→Bool
  | .ref _::r=>refsT tl r
  |l=>l==tl
theorem refsT_split {tl:List Value}: ∀ l:List Value,refsT tl l=true→(∃ c r,l= .ref c::r∧refsT tl r=true)∨l=tl
  | .ref c::r,e=>.inl ⟨c,r,rfl,e⟩
  |[],e=>.inr (by simpa [refsT] using e)
  | .none::_,e=>.inr (by simpa [refsT] using e)
  | .ellipsis::_,e=>.inr (by simpa [refsT] using e)
  | .notImplemented::_,e=>.inr (by simpa [refsT] using e)
  | .bool _::_,e=>.inr (by simpa [refsT] using e)
  | .int _ _::_,e=>.inr (by simpa [refsT] using e)
  | .float _ _::_,e=>.inr (by simpa [refsT] using e)
  | .str _ _::_,e=>.inr (by simpa [refsT] using e)
  | .bytes _ _::_,e=>.inr (by simpa [refsT] using e)
  | .type _::_,e=>.inr (by simpa [refsT] using e)
  | .builtin _::_,e=>.inr (by simpa [refsT] using e)
theorem refsT_has {tl:List Value} (Y:String): ∀ l:List Value,refsT tl l=true→l.contains (.type Y)=tl.contains (.type Y):=by
  intro l
  induction l with
  | nil=>
    intro e
    rcases refsT_split [] e with ⟨c,r,q,_⟩|q
    · cases q
    · rw [←q]
  | cons a r ih=>
    intro e
    rcases refsT_split (a::r) e with ⟨c,r',q,hr⟩|q
    · cases q
      rw [List.contains_cons,ih hr]
      rfl
    · rw [q]
theorem refsT_pass {tl:List Value} (self:Value) (hp:refuseLoop self "__setattr__" tl=pure ()): ∀ l:List Value,refsT tl l=true→refuseLoop self "__setattr__" l=pure ():=by
  intro l
  induction l with
  | nil=>
    intro e
    rcases refsT_split [] e with ⟨c,r,q,_⟩|q
    · cases q
    · rw [q];exact hp
  | cons a r ih=>
    intro e
    rcases refsT_split (a::r) e with ⟨c,r',q,hr⟩|q
    · cases q
      rw [refuseLoop_ref]
      exact ih hr
    · rw [q];exact hp
abbrev exObj (C t:Addr):Obj:=PySem.HandSPX.excO C t
section
variable {M:Model} {A:Around} {E:Value→Shared→Prop} {h:Heap} {g:Array GenState} {d:Drawn} {t:Nat} {os:OsState}
variable {nam q:Str} {C N:Addr} {bas bm tl tl0:List Value} {hdc:Bool} {sno:List Str} {sb:List Value} {abs0:Bool} {cl:Option Bool} {dd:Option Addr} {w0 w1 w2 w3 w5:Option Value} {B newId initId:String} {kn:Str} {kv:Value}
theorem kw_check_new (F:ExcBaseFacts B newId initId tl0) (n1:tl.contains (.type B)=true) (n2:tl.contains (.type "AttributeError")=false) (n3:tl.contains (.type "NameError")=false) (hr:refsT tl bm=true) {Q:Unit→Shared→Prop}
    (atC:h.get? C=some (excClassObj nam q C N bas bm hdc sno sb abs0 cl dd w0 w1 w2 w3 w5 newId)) (nxt:Q () ⟨h,g,d,t,os⟩):wpAny M A (checkBuiltinCall newId ⟨[.ref C],[(kn,kv)]⟩) Q E ⟨h,g,d,t,os⟩:=by
  have hin:(Value.ref C::bm).contains (.type B)=true:=by rw [List.contains_cons,refsT_has B bm hr,n1,Bool.or_true]
  have hns:=F.noStar
  simp only [checkBuiltinCall,F.newKind,F.newSplit,F.newRow]
  repeat (first|refine wpAny_loadPart_at atC ?_|(refine wpAny_isSubtype_exc atC ?_;rw [hin])|refine wpAny_staticBase_exc atC ?_|refine wpAny_madeBy_exc atC ?_|simp only [bne_self_eq_false,Bool.false_eq_true,if_false]|wp_step)
  all_goals first|exact nxt|skip
end
section
variable {prog:Program} {w:World} {A:Around} {E:Value→Shared→Prop} {R:Result→Shared→Prop} {h:Heap} {g:Array GenState} {d:Drawn} {t:Nat} {os:OsState}
variable {nam q:Str} {C N:Addr} {bas bm tl tl0:List Value} {hdc:Bool} {sno:List Str} {sb:List Value} {abs0:Bool} {cl:Option Bool} {dd:Option Addr} {w0 w1 w2 w3 w5:Option Value} {B newId initId:String} {kn:Str} {kv:Value}
theorem kw_new (F:ExcBaseFacts B newId initId tl0) (n1:tl.contains (.type B)=true) (n2:tl.contains (.type "AttributeError")=false) (n3:tl.contains (.type "NameError")=false) (hr:refsT tl bm=true) (atC:h.get? C=some (excClassObj nam q C N bas bm hdc sno sb abs0 cl dd w0 w1 w2 w3 w5 newId))
    (nxt:R (.ok (.ret (.ref (h.objs.size+1)))) ⟨(h.push (W.kdv_tup [])).push (exObj C h.objs.size),g,d,t,os⟩):
    codeAny (model prog w) A (.builtin newId ⟨[.ref C],[(kn,kv)]⟩) R ⟨h,g,d,t,os⟩:=by
  have hends:=F.ends
  have i1:(Value.ref C::bm).contains (.type B)=true:=by rw [List.contains_cons,refsT_has B bm hr,n1,Bool.or_true]
  have i2:(Value.ref C::bm).contains (.type "AttributeError")=false:=by rw [List.contains_cons,refsT_has _ bm hr,n2];rfl
  have i3:(Value.ref C::bm).contains (.type "NameError")=false:=by rw [List.contains_cons,refsT_has _ bm hr,n3];rfl
  have hl:([]:List Value).length≤sizeLine:=by simp
  refine codeAny_builtinAt F.entry ?_
  unfold Builtin.«BaseException.__new__»
  refine PySem.wpAt_bind ?_
  show PySem.wpAt _ _ _ (stack >>= _) _ _ _
  refine PySem.wpAt_bind (PySem.wpAt_stack fun p below=>wpAt_of_wpAny ?_)
  wp_walk
  refine wpAt_of_wpAny ?_
  rw [F.owner]
  repeat (first|with_reducible refine wpAny_madeHere_exc F.canon atC ?_|with_reducible refine wpAny_loadPart_at atC ?_|(with_reducible refine wpAny_isSubtype_exc atC ?_;first|rw [i1]|rw [i2]|rw [i3])|wp_step)
  show R _ _
  rw [Heap.size_push]
  exact nxt
theorem kw_type_call (F:ExcBaseFacts B newId initId tl0) (n1:tl.contains (.type B)=true) (n2:tl.contains (.type "AttributeError")=false) (n3:tl.contains (.type "NameError")=false) (hr:refsT tl bm=true) {fI:Addr} {Q:Fin→Shared→Prop} (atC:h.get? C=some (excClassObj nam q C N bas bm hdc sno sb abs0 cl dd w0 w1 w2 w3 w5 newId))
    (ini0:W.Looks (model prog w) h (typeLookup (.ref C) "__init__") (some (.ref fI))) (bnd: ∀ self,W.Looks (model prog w) h (bindSpecial (.ref fI) self) (.ref fI,[self]))
    (nxt:codeAny (model prog w) A (.call (.ref fI) ⟨[.ref (h.objs.size+1)],[(kn,kv)]⟩) (fun r s'=>match r with| .ok (.ret v)=>v= .none∧Q (.done (.ret (.ref (h.objs.size+1)))) s'| .ok _=>False| .error e=>E e s')
      ⟨(h.push (W.kdv_tup [])).push (exObj C h.objs.size),g,d,t,os⟩):
    wpAny (model prog w) A (Builtin.«type.__call__» ⟨[.ref C],[(kn,kv)]⟩) Q E ⟨h,g,d,t,os⟩:=by
  repeat (first|with_reducible refine wpAny_loadPart_at atC ?_|with_reducible refine wpAny_madeBy_exc atC ?_|wp_step)
  refine codeAny_call_builtin_code (Code.quiet_builtin _ F.quiet) (kw_check_new F n1 n2 n3 hr atC ?_)
  refine kw_new F n1 n2 n3 hr atC ?_
  show wpAny _ _ _ _ _ _
  have kp0: ∀ b o,h.get? b=some o→((h.push (W.kdv_tup [])).push (exObj C h.objs.size)).get? b=some o:=fun b o e=>Heap.get?_push_of_some _ (Heap.get?_push_of_some _ e)
  have hC2:=kp0 _ _ atC
  have hg2:((h.push (W.kdv_tup [])).push (exObj C h.objs.size)).get? (h.objs.size+1)=some (exObj C h.objs.size):=by heap_get
  have hself:(Value.ref C::bm).contains (.ref C)=true:=by simp
  have ik:=ini0.keeps kp0
  have bk:=(bnd (.ref (h.objs.size+1))).keeps kp0
  unfold isInstance
  repeat (first|with_reducible refine wpAny_loadPart_at hg2 ?_|(with_reducible refine wpAny_isSubtype_exc hC2 ?_;rw [hself])|wp_step)
  show wpAny _ _ (typeLookup (.ref C) _) _ _ _
  refine ik.at ?_
  refine wpAny_holding (wpAny_bind (bk.at ?_))
  refine wpAny_bind (wpAny_call (codeAny_mono nxt fun r s' z=>?_))
  rcases r with e|(v|_|_|_)<;>try (first|exact z|exact z.elim)
  obtain ⟨hv,z⟩:=z
  subst hv
  first
    |exact wpAny_pure (wpAny_pure z)
    |(wp_walk;exact z)
theorem kw_call (F:ExcBaseFacts B newId initId tl0) (n1:tl.contains (.type B)=true) (n2:tl.contains (.type "AttributeError")=false) (n3:tl.contains (.type "NameError")=false) (hr:refsT tl bm=true) {fI:Addr} (atC:h.get? C=some (excClassObj nam q C N bas bm hdc sno sb abs0 cl dd w0 w1 w2 w3 w5 newId))
    (ini0:W.Looks (model prog w) h (typeLookup (.ref C) "__init__") (some (.ref fI))) (bnd: ∀ self,W.Looks (model prog w) h (bindSpecial (.ref fI) self) (.ref fI,[self]))
    (nxt:codeAny (model prog w) (A.under (.builtin "type.__call__" ⟨[.ref C],[(kn,kv)]⟩)) (.call (.ref fI) ⟨[.ref (h.objs.size+1)],[(kn,kv)]⟩) (W.InitBack (h.objs.size+1) R) ⟨(h.push (W.kdv_tup [])).push (exObj C h.objs.size),g,d,t,os⟩):
    codeAny (model prog w) A (.call (.ref C) ⟨[],[(kn,kv)]⟩) R ⟨h,g,d,t,os⟩:=by
  have l1:=PySem.tc_lookup
  have l2:=PySem.tc_bind (.ref C)
  have isTy:(⟨h,g,d,t,os⟩:Shared).TypeIs (.ref C) "type":=⟨_,atC,rfl⟩
  refine codeAny_of_tree ?_
  show wpAny _ _ (callAny (.ref C) _) _ _ _
  repeat (any_goals (first|assumption|with_reducible refine wpAny_loadPart_at atC ?_|wp_step))
  refine ⟨rfl, ?_⟩
  refine codeAny_call_builtin_at (Code.quiet_builtin _ (by decide+kernel)) PySem.entry_typeCall (wpAny_check_type_call_sub atC (kw_type_call F n1 n2 n3 hr atC ini0 bnd ?_))
  refine codeAny_mono nxt fun r s' z=>?_
  rcases r with e|(v|_|_|_)<;>exact z
end
structure XB (tl:List Value) (newId initId:String):Prop where
  pass: ∀ self,refuseLoop self "__setattr__" tl=pure ()
  hobj:tl.contains (.type "object")=true
  hne:tl≠[]
  made: ∀ {prog:Program} {w:World} {A:Around} {R:Result→Shared→Prop} {h:Heap} {g:Array GenState} {d:Drawn} {t:Nat} {os:OsState} {nam q:Str} {C N:Addr} {bas bm:List Value} {hdc:Bool} {sno:List Str} {sb:List Value} {abs0:Bool} {cl:Option Bool} {dd:Option Addr} {w0 w1 w2 w3 w5:Option Value} {more:List Value} {fI:Addr},
    refsT tl bm=true→h.get? C=some (excClassObj nam q C N bas bm hdc sno sb abs0 cl dd w0 w1 w2 w3 w5 newId)→W.Looks (model prog w) h (typeLookup (.ref C) "__init__") (some (.ref fI))→(∀ self,W.Looks (model prog w) h (bindSpecial (.ref fI) self) (.ref fI,[self]))→more.length≤sizeLine→
    codeAny (model prog w) (A.under (.builtin "type.__call__" ⟨.ref C::more,[]⟩)) (.call (.ref fI) ⟨.ref (h.objs.size+1)::more,[]⟩) (W.InitBack (h.objs.size+1) R) ⟨(h.push (W.kdv_tup more)).push (exObj C h.objs.size),g,d,t,os⟩→
    codeAny (model prog w) A (.call (.ref C) ⟨more,[]⟩) R ⟨h,g,d,t,os⟩
  ini: ∀ {prog:Program} {w:World} {A:Around} {R:Result→Shared→Prop} {h:Heap} {g:Array GenState} {d:Drawn} {t:Nat} {os:OsState} {nam q:Str} {C N:Addr} {bas bm:List Value} {hdc:Bool} {sno:List Str} {sb:List Value} {abs0:Bool} {cl:Option Bool} {dd:Option Addr} {w0 w1 w2 w3 w5:Option Value} {more:List Value} {e t0:Addr},
    refsT tl bm=true→h.get? C=some (excClassObj nam q C N bas bm hdc sno sb abs0 cl dd w0 w1 w2 w3 w5 newId)→h.get? e=some (exObj C t0)→more.length≤sizeLine→
    (∀ h' t1,(∀ b o,b≠e→h.get? b=some o→h'.get? b=some o)→h'.get? e=some (exObj C t1)→R (.ok (.ret .none)) ⟨h',g,d,t,os⟩)→
    codeAny (model prog w) A (.call (.builtin initId) ⟨.ref e::more,[]⟩) R ⟨h,g,d,t,os⟩
  madeK: ∀ {prog:Program} {w:World} {A:Around} {R:Result→Shared→Prop} {h:Heap} {g:Array GenState} {d:Drawn} {t:Nat} {os:OsState} {nam q:Str} {C N:Addr} {bas bm:List Value} {hdc:Bool} {sno:List Str} {sb:List Value} {abs0:Bool} {cl:Option Bool} {dd:Option Addr} {w0 w1 w2 w3 w5:Option Value} {kn:Str} {kv:Value} {fI:Addr},
    refsT tl bm=true→h.get? C=some (excClassObj nam q C N bas bm hdc sno sb abs0 cl dd w0 w1 w2 w3 w5 newId)→W.Looks (model prog w) h (typeLookup (.ref C) "__init__") (some (.ref fI))→(∀ self,W.Looks (model prog w) h (bindSpecial (.ref fI) self) (.ref fI,[self]))→
    codeAny (model prog w) (A.under (.builtin "type.__call__" ⟨[.ref C],[(kn,kv)]⟩)) (.call (.ref fI) ⟨[.ref (h.objs.size+1)],[(kn,kv)]⟩) (W.InitBack (h.objs.size+1) R) ⟨(h.push (W.kdv_tup [])).push (exObj C h.objs.size),g,d,t,os⟩→
    codeAny (model prog w) A (.call (.ref C) ⟨[],[(kn,kv)]⟩) R ⟨h,g,d,t,os⟩
theorem XB.of {B newId initId:String} {tl:List Value} (F:ExcBaseFacts B newId initId tl) (hp: ∀ self,refuseLoop self "__setattr__" tl=pure ()) (old:tl.contains (.type "object")=true) (hne:tl≠[]):XB tl newId initId:=
  ⟨hp,old,hne,fun hr atC ini0 bnd hl nxt=>PySem.HandSPX.call_own F (fun Y=>refsT_has Y _ hr) atC ini0 bnd hl nxt,fun hr atC atE hl nxt=>PySem.HandSPX.init_base F (fun Y=>refsT_has Y _ hr) atC atE hl nxt,fun hr atC ini0 bnd nxt=>kw_call F F.hasB F.noAttr F.noName hr atC ini0 bnd nxt⟩
abbrev tlV:List Value:=[.type "ValueError",.type "Exception",.type "BaseException",.type "object"]
abbrev tlO:List Value:=[.type "OverflowError",.type "ArithmeticError",.type "Exception",.type "BaseException",.type "object"]
abbrev tlR:List Value:=[.type "RuntimeError",.type "Exception",.type "BaseException",.type "object"]
abbrev tlK:List Value:=[.type "KeyError",.type "LookupError",.type "Exception",.type "BaseException",.type "object"]
theorem xbV:XB tlV "ValueError.__new__" "ValueError.__init__":=XB.of F.excBase_ValueError F.store_ValueError.passes (by decide+kernel) (by simp)
theorem xbO:XB tlO "OverflowError.__new__" "OverflowError.__init__":=XB.of F.excBase_OverflowError F.store_OverflowError.passes (by decide+kernel) (by simp)
theorem xbR:XB tlR "RuntimeError.__new__" "RuntimeError.__init__":=XB.of F.excBase_RuntimeError F.store_RuntimeError.passes (by decide+kernel) (by simp)
section
variable {M:Model} {prog:Program} {w:World} {A:Around} {E:Value→Shared→Prop} {R:Result→Shared→Prop} {h:Heap} {g:Array GenState} {d:Drawn} {t:Nat} {os:OsState}
variable {nam q:Str} {C N:Addr} {bas bm:List Value} {hdc:Bool} {sno:List Str} {sb:List Value} {abs0:Bool} {cl:Option Bool} {dd:Option Addr} {w0 w1 w2 w3 w5:Option Value}
abbrev lkN:String:="LookupError.__new__"
theorem ke_has (hr:refsT tlK bm=true) (Y:String):(Value.ref C::bm).contains (.type Y)=tlK.contains (.type Y):=by
  rw [List.contains_cons,refsT_has Y bm hr];rfl
theorem ke_check_new (hr:refsT tlK bm=true) {more:List Value} {Q:Unit→Shared→Prop}
    (atC:h.get? C=some (excClassObj nam q C N bas bm hdc sno sb abs0 cl dd w0 w1 w2 w3 w5 lkN)) (nxt:Q () ⟨h,g,d,t,os⟩):wpAny M A (checkBuiltinCall lkN ⟨.ref C::more,[]⟩) Q E ⟨h,g,d,t,os⟩:=by
  have FLk:=F.excBase_LookupError
  have hin:(Value.ref C::bm).contains (.type "LookupError")=true:=(ke_has hr _).trans (by decide+kernel)
  have hns:=FLk.noStar
  simp only [checkBuiltinCall,FLk.newKind,FLk.newSplit,FLk.newRow]
  repeat (first|refine wpAny_loadPart_at atC ?_|(refine wpAny_isSubtype_exc atC ?_;rw [hin])|refine wpAny_staticBase_exc atC ?_|refine wpAny_madeBy_exc atC ?_|simp only [bne_self_eq_false,Bool.false_eq_true,if_false]|wp_step)
  exact nxt
theorem ke_new (hr:refsT tlK bm=true) {more:List Value} (atC:h.get? C=some (excClassObj nam q C N bas bm hdc sno sb abs0 cl dd w0 w1 w2 w3 w5 lkN))
    (nxt:R (.ok (.ret (.ref (h.objs.size+1)))) ⟨(h.push (W.kdv_tup more)).push (exObj C h.objs.size),g,d,t,os⟩) (hl:more.length≤sizeLine):
    codeAny (model prog w) A (.builtin lkN ⟨.ref C::more,[]⟩) R ⟨h,g,d,t,os⟩:=by
  have FLk:=F.excBase_LookupError
  have hends:=FLk.ends
  have i1:(Value.ref C::bm).contains (.type "LookupError")=true:=(ke_has hr _).trans (by decide+kernel)
  have i2:(Value.ref C::bm).contains (.type "AttributeError")=false:=(ke_has hr _).trans (by decide+kernel)
  have i3:(Value.ref C::bm).contains (.type "NameError")=false:=(ke_has hr _).trans (by decide+kernel)
  refine codeAny_builtinAt FLk.entry ?_
  unfold Builtin.«BaseException.__new__»
  refine PySem.wpAt_bind ?_
  show PySem.wpAt _ _ _ (stack >>= _) _ _ _
  refine PySem.wpAt_bind (PySem.wpAt_stack fun p below=>wpAt_of_wpAny ?_)
  wp_walk
  refine wpAt_of_wpAny ?_
  rw [FLk.owner]
  repeat (first|with_reducible refine wpAny_madeHere_exc FLk.canon atC ?_|with_reducible refine wpAny_loadPart_at atC ?_|(with_reducible refine wpAny_isSubtype_exc atC ?_;first|rw [i1]|rw [i2]|rw [i3])|wp_step)
  show R _ _
  rw [Heap.size_push]
  exact nxt
theorem ke_type_call (hr:refsT tlK bm=true) {more:List Value} {fI:Addr} {Q:Fin→Shared→Prop} (atC:h.get? C=some (excClassObj nam q C N bas bm hdc sno sb abs0 cl dd w0 w1 w2 w3 w5 lkN))
    (ini0:W.Looks (model prog w) h (typeLookup (.ref C) "__init__") (some (.ref fI))) (bnd: ∀ self,W.Looks (model prog w) h (bindSpecial (.ref fI) self) (.ref fI,[self])) (hl:more.length≤sizeLine)
    (nxt:codeAny (model prog w) A (.call (.ref fI) ⟨.ref (h.objs.size+1)::more,[]⟩) (fun r s'=>match r with| .ok (.ret v)=>v= .none∧Q (.done (.ret (.ref (h.objs.size+1)))) s'| .ok _=>False| .error e=>E e s')
      ⟨(h.push (W.kdv_tup more)).push (exObj C h.objs.size),g,d,t,os⟩):
    wpAny (model prog w) A (Builtin.«type.__call__» ⟨.ref C::more,[]⟩) Q E ⟨h,g,d,t,os⟩:=by
  have FLk:=F.excBase_LookupError
  repeat (first|with_reducible refine wpAny_loadPart_at atC ?_|with_reducible refine wpAny_madeBy_exc atC ?_|wp_step)
  refine codeAny_call_builtin_code (Code.quiet_builtin _ FLk.quiet) (ke_check_new hr atC ?_)
  refine ke_new hr atC ?_ hl
  show wpAny _ _ _ _ _ _
  have kp0: ∀ b o,h.get? b=some o→((h.push (W.kdv_tup more)).push (exObj C h.objs.size)).get? b=some o:=fun b o e=>Heap.get?_push_of_some _ (Heap.get?_push_of_some _ e)
  have hC2:=kp0 _ _ atC
  have hg2:((h.push (W.kdv_tup more)).push (exObj C h.objs.size)).get? (h.objs.size+1)=some (exObj C h.objs.size):=by heap_get
  have hself:(Value.ref C::bm).contains (.ref C)=true:=by simp
  have ik:=ini0.keeps kp0
  have bk:=(bnd (.ref (h.objs.size+1))).keeps kp0
  unfold isInstance
  repeat (first|with_reducible refine wpAny_loadPart_at hg2 ?_|(with_reducible refine wpAny_isSubtype_exc hC2 ?_;rw [hself])|wp_step)
  show wpAny _ _ (typeLookup (.ref C) _) _ _ _
  refine ik.at ?_
  refine wpAny_holding (wpAny_bind (bk.at ?_))
  refine wpAny_bind (wpAny_call (codeAny_mono nxt fun r s' z=>?_))
  rcases r with e|(v|_|_|_)<;>try (first|exact z|exact z.elim)
  obtain ⟨hv,z⟩:=z
  subst hv
  first
    |exact wpAny_pure (wpAny_pure z)
    |(wp_walk;exact z)
theorem ke_call (hr:refsT tlK bm=true) {more:List Value} {fI:Addr} (atC:h.get? C=some (excClassObj nam q C N bas bm hdc sno sb abs0 cl dd w0 w1 w2 w3 w5 lkN))
    (ini0:W.Looks (model prog w) h (typeLookup (.ref C) "__init__") (some (.ref fI))) (bnd: ∀ self,W.Looks (model prog w) h (bindSpecial (.ref fI) self) (.ref fI,[self])) (hl:more.length≤sizeLine)
    (nxt:codeAny (model prog w) (A.under (.builtin "type.__call__" ⟨.ref C::more,[]⟩)) (.call (.ref fI) ⟨.ref (h.objs.size+1)::more,[]⟩) (W.InitBack (h.objs.size+1) R) ⟨(h.push (W.kdv_tup more)).push (exObj C h.objs.size),g,d,t,os⟩):
    codeAny (model prog w) A (.call (.ref C) ⟨more,[]⟩) R ⟨h,g,d,t,os⟩:=by
  have l1:=PySem.tc_lookup
  have l2:=PySem.tc_bind (.ref C)
  have isTy:(⟨h,g,d,t,os⟩:Shared).TypeIs (.ref C) "type":=⟨_,atC,rfl⟩
  refine codeAny_of_tree ?_
  show wpAny _ _ (callAny (.ref C) _) _ _ _
  repeat (any_goals (first|assumption|with_reducible refine wpAny_loadPart_at atC ?_|wp_step))
  refine ⟨rfl, ?_⟩
  refine codeAny_call_builtin_at (Code.quiet_builtin _ (by decide+kernel)) PySem.entry_typeCall (wpAny_check_type_call_sub atC (ke_type_call hr atC ini0 bnd hl ?_))
  refine codeAny_mono nxt fun r s' z=>?_
  rcases r with e|(v|_|_|_)<;>exact z
theorem ke_init (hr:refsT tlK bm=true) {e t0:Addr} {more:List Value} (atC:h.get? C=some (excClassObj nam q C N bas bm hdc sno sb abs0 cl dd w0 w1 w2 w3 w5 lkN)) (atE:h.get? e=some (exObj C t0)) (hl:more.length≤sizeLine)
    (nxt: ∀ h' t1,(∀ b o,b≠e→h.get? b=some o→h'.get? b=some o)→h'.get? e=some (exObj C t1)→R (.ok (.ret .none)) ⟨h',g,d,t,os⟩):
    codeAny (model prog w) A (.call (.builtin "KeyError.__init__") ⟨.ref e::more,[]⟩) R ⟨h,g,d,t,os⟩:=by
  have FK:=excClass_KeyError
  have hin:(Value.ref C::bm).contains (.type "KeyError")=true:=(ke_has hr _).trans (by decide+kernel)
  have hsh:=FK.notStar
  refine codeAny_call_builtin FK.init.plain FK.initEntry ?_
  simp only [checkBuiltinCall,FK.initKind,FK.initSplit,FK.initSig]
  repeat (first|with_reducible refine wpAny_loadPart_at atE ?_|with_reducible refine wpAny_loadPart_at atC ?_|(with_reducible refine wpAny_isSubtype_exc atC ?_;rw [hin])|wp_step)
  refine wpAny_onRaise ?_
  rw [show ∀ (a b:String) (n:Nat),Bind.check ⟨.positional,"*","KeyError",.self,[⟨"args",.varPos,false⟩]⟩ a b n (List.map (fun x=>x.fst) ({pos:=Value.ref e::more}:Args).kw)=pure () from
    fun a b n=>check_star_args _ _ _ _ _ _]
  refine wpAny_pure ?_
  wp_walk
  refine nxt _ h.objs.size (fun b o bnd old=>?_) ?_
  · rw [Heap.get?_update_other _ _ (Ne.symm bnd)]
    exact Heap.get?_push_of_some _ old
  · rw [Heap.get?_update_self _ (Heap.get?_push_of_some _ atE) rfl]
    rfl
end
theorem ke_pass: ∀ self,refuseLoop self "__setattr__" tlK=pure ():=fun self=>by kernel_rfl
theorem xbK:XB tlK "LookupError.__new__" "KeyError.__init__":=⟨ke_pass,by decide+kernel,by simp,fun hr atC ini0 bnd hl nxt=>ke_call hr atC ini0 bnd hl nxt,fun hr atC atE hl nxt=>ke_init hr atC atE hl nxt,fun hr atC ini0 bnd nxt=>kw_call F.excBase_LookupError (by decide+kernel) (by decide+kernel) (by decide+kernel) hr atC ini0 bnd nxt⟩
end
end Mi
namespace Mi
open PySem PySem.Spec PyProof.Rows L2
open He (ga ma fAd eqO eqO_ok ba)
abbrev Fg:=PySem.W.Frag
def cdB (K:Fg) (p:Str×Option Str) (q:Str) (t:FuncData→Bool):Bool:=match K.lookup (fAd K p) with
  |some ⟨_,_,.func fd,_⟩=>PySem.W.codeIn K fd.code q&&t fd
  |_=>false
def fnV (n q:Str) (ps:Arguments) (bd:List Stmt) (sc:Scope):He.FnW:=some (n,q,ps,.stmts bd,sc,mainGlobals,[],builtinsNs)
theorem fnY {K:Fg} {p:Str×Option Str} {n q:Str} {ps:Arguments} {bd:List Stmt} {sc:Scope} {t:FuncData→Bool} (e:He.fnW K p=fnV n q ps bd sc) (c:cdB K p q t=true):
    ∃ (od an:Option Addr) (sl:Array (Option Value)) (oc dV kV dc pm cd ct:Value),K.lookup (fAd K p)=some ⟨oc,od,.func (PySem.W.fnOf n q ps bd sc dV kV dc pm an cd ct),sl⟩∧PySem.W.codeIn K cd q=true∧t (PySem.W.fnOf n q ps bd sc dV kV dc pm an cd ct)=true:=by
  unfold cdB at c
  unfold He.fnW fnV at e
  cases l:K.lookup (fAd K p) with
  |none=>rw [l] at c;cases c
  | some o=>
    obtain ⟨oc,od,dt,osl⟩:=o
    rw [l] at c e
    cases dt with
    | func fd=>
      obtain ⟨n1,n2,n3,n4,n5,n6,n7,n8,n9,n10,n11,n12,n13,n14,n15⟩:=fd
      have e2:(some (n1,n2,n3,n4,n5,n6,n7,n15):He.FnW)=some (n,q,ps,.stmts bd,sc,mainGlobals,[],builtinsNs):=e
      simp only [Option.some.injEq,Prod.mk.injEq] at e2
      obtain ⟨h1,h2,h3,h4,h5,h6,h7,h8⟩:=e2
      subst h1 h2 h3 h4 h5 h6 h7 h8
      obtain ⟨c1,c2⟩:=ba c
      exact ⟨od,n12,osl,oc,n8,n9,n10,n11,n13,n14,rfl,c1,c2⟩
    |_=>cases c
def isNo:Value→Bool
  | .none=>true
  |_=>false
theorem isNo_ok {v:Value} (h:isNo v=true):v= .none:=by cases v<;>first|rfl|cases h
def one1 (nn:Bool):List Value→Bool
  |[v]=>!nn||isNo v
  |_=>false
def sq1D (nn:Bool):Data→Bool
  | .seq its _=>one1 nn its.toList
  |_=>false
def seq1 (nn:Bool):Option Obj→Bool
  |some o=>sq1D nn o.data
  |none=>false
def t0 (fd:FuncData):Bool:=isNo fd.defaults
section
variable {K:Fg} {n q:Str} {ps:Arguments} {bd:List Stmt} {sc:Scope} {dV kV dc pm cd ct:Value} {an:Option Addr}
theorem t0_ok (h:t0 (PySem.W.fnOf n q ps bd sc dV kV dc pm an cd ct)=true):dV= .none:=isNo_ok h
end
def hGl (K:Fg) (x:Str):Bool:=eqO (PySem.W.nsIn K mainGlobals x) (some (some (.ref (ga K x))))&&PySem.W.keepIn K (.ref (ga K x))
section
variable {K:Fg} {x c m n q:Str} {ps:Arguments} {bd:List Stmt} {sc:Scope}
theorem hd_law (e:He.fnW K (x,none)=fnV n q ps bd sc) (h:(hGl K x&&cdB K (x,none) q t0)=true):
    ∃ (od an:Option Addr) (sl:Array (Option Value)) (oc kV dc pm cd ct:Value),(PySem.W.nsIn K mainGlobals x=some (some (.ref (ga K x))))∧(K.lookup (ga K x)=some ⟨oc,od,.func (PySem.W.fnOf n q ps bd sc .none kV dc pm an cd ct),sl⟩)∧(PySem.W.codeIn K cd q=true)∧(PySem.W.keepIn K (.ref (ga K x))=true):=by
  obtain ⟨h1,h2⟩:=ba h
  obtain ⟨h3,h4⟩:=ba h1
  obtain ⟨od,an,sl,oc,dV,kV,dc,pm,cd,ct,l,c1,t⟩:=fnY e h2
  cases t0_ok t
  exact ⟨od,an,sl,oc,kV,dc,pm,cd,ct,eqO_ok h3,l,c1,h4⟩
theorem hd_glo (e:He.fnW K (x,none)=fnV n q ps bd sc) (h:(hGl K x&&cdB K (x,none) q t0)=true):
    ∃ (a:Addr) (od an:Option Addr) (sl:Array (Option Value)) (oc kV dc pm cd ct:Value),(PySem.W.nsIn K mainGlobals x=some (some (.ref a)))∧(K.lookup a=some ⟨oc,od,.func (PySem.W.fnOf n q ps bd sc .none kV dc pm an cd ct),sl⟩)∧(PySem.W.codeIn K cd q=true)∧(PySem.W.keepIn K (.ref a)=true):=⟨_,hd_law e h⟩
end
def isTy (n:String):Value→Bool
  | .type m=>decide (m=n)
  |_=>false
theorem isTy_ok {n:String} {v:Value} (h:isTy n v=true):v= .type n:=by
  cases v with
  |type m=>rw [show m=n from of_decide_eq_true h]
  |_=>all_goals cases h
def mroB (X:Addr) (tl:List Value):List Value→Bool
  | .ref a::bm=>decide (a=X)&&refsT tl bm
  |_=>false
theorem mroB_ok {X:Addr} {tl l:List Value} (h:mroB X tl l=true): ∃ bm,l= .ref X::bm∧refsT tl bm=true:=by
  cases l with
  |nil=>cases h
  | cons v bm=>
    cases v with
    | ref a=>
      obtain ⟨h1,h2⟩:=ba (show (decide (a=X)&&refsT tl bm)=true from h)
      exact ⟨bm,by rw [show a=X from of_decide_eq_true h1],h2⟩
    |_=>all_goals cases h
def isBu (n:String):Option Value→Bool
  |some (.builtin m)=>decide (m=n)
  |_=>false
theorem isBu_ok {n:String} {v:Option Value} (h:isBu n v=true):v=some (.builtin n):=by
  cases v with
  |none=>cases h
  | some v=>
    cases v with
    |builtin m=>rw [show m=n from of_decide_eq_true h]
    |_=>all_goals cases h
def slB (n:String):List (Option Value)→Bool
  |[_,_,_,_,v,_]=>isBu n v
  |_=>false
theorem slB_ok {n:String} {l:List (Option Value)} (h:slB n l=true): ∃ a b c d e,l=[a,b,c,d,some (.builtin n),e]:=by
  cases l with
  |nil=>cases h
  | cons a l => cases l with
    |nil=>cases h
    | cons b l=>cases l with
      |nil=>cases h
      | cons c l=>cases l with
        |nil=>cases h
        | cons d l=>cases l with
          |nil=>cases h
          | cons v l=>cases l with
            |nil=>cases h
            | cons e l=>cases l with
              | nil=>
                cases isBu_ok (show isBu n v=true from h)
                exact ⟨a,b,c,d,e,rfl⟩
              |cons _ _=>cases h
def xcD (X:Addr) (tl:List Value):Data→Bool
  | .cls c=>mroB X tl c.mro&&(c.hasDict&&!c.hasDel)
  |_=>false
def xcO (X:Addr) (n:String) (tl:List Value):Option Obj→Bool
  |some o=>isTy "type" o.cls&&(xcD X tl o.data&&slB n o.slots.toList)
  |none=>false
theorem xc_ok {K:Fg} {X:Addr} {n:String} {tl:List Value} (h:xcO X n tl (K.lookup X)=true):
    ∃ (N:Addr) (nm q:Str) (bs bm sub:List Value) (sn:List Str) (ab:Bool) (col:Option Bool) (dd:Option Addr) (k0 k1 k2 k3 k5:Option Value),K.lookup X=some (excClassObj nm q X N bs bm true sn sub ab col dd k0 k1 k2 k3 k5 n)∧refsT tl bm=true:=by
  cases l:K.lookup X with
  |none=>rw [l] at h;cases h
  | some o=>
    obtain ⟨oc,od,dt,sl⟩:=o
    rw [l] at h
    obtain ⟨h1,h2⟩:=ba (show (isTy "type" oc&&(xcD X tl dt&&slB n sl.toList))=true from h)
    obtain ⟨h3,h4⟩:=ba h2
    cases isTy_ok h1
    obtain ⟨a,b,c,d,e,es⟩:=slB_ok h4
    obtain ⟨sl⟩:=sl
    have es:sl=_:=es
    subst es
    cases dt with
    | cls cd=>
      obtain ⟨nm,bs,mro,ns,qn,hdc,sn,sub,ab,col,hdl⟩:=cd
      obtain ⟨h5,h6⟩:=ba (show (mroB X tl mro&&(hdc&&!hdl))=true from h3)
      obtain ⟨h7,h8⟩:=ba h6
      obtain ⟨bm,rfl,hr⟩:=mroB_ok h5
      cases h7
      cases hdl with
      |true=>cases h8
      |false=>exact ⟨ns,nm,qn,bs,bm,sub,sn,ab,col,od,a,b,c,d,e,rfl,hr⟩
    |_=>all_goals cases h3
def cfB (n:String):Option PySem.W.CFound→Bool
  |some (.val (.builtin m))=>decide (m=n)
  |_=>false
theorem cfB_ok {n:String} {o:Option PySem.W.CFound} (h:cfB n o=true):o=some (.val (.builtin n)):=by
  cases o with
  |none=>cases h
  | some o=>
    cases o with
    | val v=>
      cases v with
      |builtin m=>rw [show m=n from of_decide_eq_true h]
      |_=>all_goals cases h
    |get _ _ _ _=>cases h
abbrev XFacts (K:Fg) (X I:Addr) (x f:Str):Prop:=(PySem.W.nsIn K mainGlobals x=some (some (.ref X)))∧(PySem.W.findIn K (.ref X) "__setattr__"=some (some (.builtin "object.__setattr__")))∧(PySem.W.subIn K (.ref X) (.type "BaseException")=some true)∧(PySem.W.typeIn K (.ref X)=some (.type "type"))∧(PySem.W.keepIn K (.ref X)=true)∧(PySem.W.findIn K (.ref X) "__getattribute__"=some (some (.builtin "BaseException.__getattribute__")))∧(PySem.W.findIn K (.ref X) "__getattr__"=some none)∧(PySem.W.hasDictIn K X=true)∧(PySem.W.findIn K (.ref X) "__class__"=some (some (.builtin "object.__class__")))∧(PySem.W.specialIn K (.builtin "object.__class__") "__get__"=some (some (.builtin "getset_descriptor.__get__")))∧(PySem.W.takesIn K (.builtin "object.__class__")=some true)∧(PySem.W.mroIn K X (.type "object")=some true)∧(PySem.W.findIn K (.ref X) f=some none)∧(PySem.W.findIn K (.ref X) "__init__"=some (some (.ref I)))∧(PySem.W.typeIn K (.ref I)=some (.type "function"))∧(PySem.W.keepIn K (.ref I)=true)
def xB (K:Fg) (x f q:Str) (n:String) (tl:List Value):Bool:=xcO (ga K x) n tl (K.lookup (ga K x))&&(cdB K (x,some "__init__") q t0&&decide (XFacts K (ga K x) (ma K (ga K x) "__init__") x f))
def boB (K:Fg) (b:Str) (ini:String):Bool:=decide ((PySem.W.nsIn K mainGlobals b=some (some (.ref (ga K b))))∧(PySem.W.specialIn K (.ref (ga K b)) "__getattribute__"=some (some (.builtin "type.__getattribute__")))∧(PySem.W.readsIn K (ga K b) (.type "type")=true))&&cfB ini (PySem.W.findCls K (.ref (ga K b)) (.type "type") "__init__")
def bbB (K:Fg) (b:String) (ini:String):Bool:=decide (PySem.W.nsIn K mainGlobals b=some none)&&cfB ini (PySem.W.findCls K (.type b) (.type "type") "__init__")
section
variable {K:Fg} {x f q:Str} {n ini:String} {tl:List Value} {ps:Arguments} {bd:List Stmt} {sc:Scope}
theorem hd_xo {b:Str} (e:He.fnW K (x,some "__init__")=fnV "__init__" q ps bd sc) (h:(xB K x f q n tl&&boB K b ini)=true):
    ∃ (xI xN:Addr) (xn xq:Str) (xb xm xu:List Value) (xs:List Str) (xa:Bool) (xl:Option Bool) (xd xo xp:Option Addr) (y0 y1 y2 y3 y5:Option Value) (zc zk zd zp zv zt:Value) (zl:Array (Option Value)) (S:Addr),(PySem.W.nsIn K mainGlobals x=some (some (.ref (ga K x))))∧(K.lookup (ga K x)=some (excClassObj xn xq (ga K x) xN xb xm true xs xu xa xl xd y0 y1 y2 y3 y5 n))∧(refsT tl xm=true)∧(PySem.W.findIn K (.ref (ga K x)) "__setattr__"=some (some (.builtin "object.__setattr__")))∧(PySem.W.subIn K (.ref (ga K x)) (.type "BaseException")=some true)∧(PySem.W.typeIn K (.ref (ga K x))=some (.type "type"))∧(PySem.W.keepIn K (.ref (ga K x))=true)∧(PySem.W.findIn K (.ref (ga K x)) "__getattribute__"=some (some (.builtin "BaseException.__getattribute__")))∧(PySem.W.findIn K (.ref (ga K x)) "__getattr__"=some none)∧(PySem.W.hasDictIn K (ga K x)=true)∧(PySem.W.findIn K (.ref (ga K x)) "__class__"=some (some (.builtin "object.__class__")))∧(PySem.W.specialIn K (.builtin "object.__class__") "__get__"=some (some (.builtin "getset_descriptor.__get__")))∧(PySem.W.takesIn K (.builtin "object.__class__")=some true)∧(PySem.W.mroIn K (ga K x) (.type "object")=some true)∧(PySem.W.findIn K (.ref (ga K x)) f=some none)∧(PySem.W.findIn K (.ref (ga K x)) "__init__"=some (some (.ref xI)))∧(PySem.W.typeIn K (.ref xI)=some (.type "function"))∧(K.lookup xI=some ⟨zc,xo,.func (PySem.W.fnOf "__init__" q ps bd sc .none zk zd zp xp zv zt),zl⟩)∧(PySem.W.codeIn K zv q=true)∧(PySem.W.keepIn K (.ref xI)=true)∧(PySem.W.nsIn K mainGlobals b=some (some (.ref S)))∧(PySem.W.specialIn K (.ref S) "__getattribute__"=some (some (.builtin "type.__getattribute__")))∧(PySem.W.readsIn K S (.type "type")=true)∧(PySem.W.findCls K (.ref S) (.type "type") "__init__"=some (.val (.builtin ini))):=by
  obtain ⟨h1,h2⟩:=ba h
  obtain ⟨h3,h4⟩:=ba h1
  obtain ⟨h5,h6⟩:=ba h4
  obtain ⟨h7,h8⟩:=ba h2
  obtain ⟨a1,a2,a3,a4,a5,a6,a7,a8,a9,a10,a11,a12,a13,a14,a15,a16⟩:=of_decide_eq_true h6
  obtain ⟨b1,b2,b3⟩:=of_decide_eq_true h7
  obtain ⟨N,nm,qq,bs,bm,sub,sn,ab,col,dd,k0,k1,k2,k3,k5,l1,hr⟩:=xc_ok h3
  obtain ⟨od,an,sl,oc,dV,kV,dc,pm,cd,ct,l2,c1,t⟩:=fnY e h5
  cases t0_ok t
  exact ⟨_,N,nm,qq,bs,bm,sub,sn,ab,col,dd,od,an,k0,k1,k2,k3,k5,oc,kV,dc,pm,cd,ct,sl,_,a1,l1,hr,a2,a3,a4,a5,a6,a7,a8,a9,a10,a11,a12,a13,a14,a15,l2,c1,a16,b1,b2,b3,cfB_ok h8⟩
theorem hd_xb {b:String} (e:He.fnW K (x,some "__init__")=fnV "__init__" q ps bd sc) (h:(xB K x f q n tl&&bbB K b ini)=true):
    ∃ (xI xN:Addr) (xn xq:Str) (xb xm xu:List Value) (xs:List Str) (xa:Bool) (xl:Option Bool) (xd xo xp:Option Addr) (y0 y1 y2 y3 y5:Option Value) (zc zk zd zp zv zt:Value) (zl:Array (Option Value)),(PySem.W.nsIn K mainGlobals x=some (some (.ref (ga K x))))∧(K.lookup (ga K x)=some (excClassObj xn xq (ga K x) xN xb xm true xs xu xa xl xd y0 y1 y2 y3 y5 n))∧(refsT tl xm=true)∧(PySem.W.findIn K (.ref (ga K x)) "__setattr__"=some (some (.builtin "object.__setattr__")))∧(PySem.W.subIn K (.ref (ga K x)) (.type "BaseException")=some true)∧(PySem.W.typeIn K (.ref (ga K x))=some (.type "type"))∧(PySem.W.keepIn K (.ref (ga K x))=true)∧(PySem.W.findIn K (.ref (ga K x)) "__getattribute__"=some (some (.builtin "BaseException.__getattribute__")))∧(PySem.W.findIn K (.ref (ga K x)) "__getattr__"=some none)∧(PySem.W.hasDictIn K (ga K x)=true)∧(PySem.W.findIn K (.ref (ga K x)) "__class__"=some (some (.builtin "object.__class__")))∧(PySem.W.specialIn K (.builtin "object.__class__") "__get__"=some (some (.builtin "getset_descriptor.__get__")))∧(PySem.W.takesIn K (.builtin "object.__class__")=some true)∧(PySem.W.mroIn K (ga K x) (.type "object")=some true)∧(PySem.W.findIn K (.ref (ga K x)) f=some none)∧(PySem.W.findIn K (.ref (ga K x)) "__init__"=some (some (.ref xI)))∧(PySem.W.typeIn K (.ref xI)=some (.type "function"))∧(K.lookup xI=some ⟨zc,xo,.func (PySem.W.fnOf "__init__" q ps bd sc .none zk zd zp xp zv zt),zl⟩)∧(PySem.W.codeIn K zv q=true)∧(PySem.W.keepIn K (.ref xI)=true)∧(PySem.W.nsIn K mainGlobals b=some none)∧(PySem.W.findCls K (.type b) (.type "type") "__init__"=some (.val (.builtin ini))):=by
  obtain ⟨h1,h2⟩:=ba h
  obtain ⟨h3,h4⟩:=ba h1
  obtain ⟨h5,h6⟩:=ba h4
  obtain ⟨h7,h8⟩:=ba h2
  obtain ⟨a1,a2,a3,a4,a5,a6,a7,a8,a9,a10,a11,a12,a13,a14,a15,a16⟩:=of_decide_eq_true h6
  obtain ⟨N,nm,qq,bs,bm,sub,sn,ab,col,dd,k0,k1,k2,k3,k5,l1,hr⟩:=xc_ok h3
  obtain ⟨od,an,sl,oc,dV,kV,dc,pm,cd,ct,l2,c1,t⟩:=fnY e h5
  cases t0_ok t
  exact ⟨_,N,nm,qq,bs,bm,sub,sn,ab,col,dd,od,an,k0,k1,k2,k3,k5,oc,kV,dc,pm,cd,ct,sl,a1,l1,hr,a2,a3,a4,a5,a6,a7,a8,a9,a10,a11,a12,a13,a14,a15,l2,c1,a16,of_decide_eq_true h7,cfB_ok h8⟩
end
abbrev FnS:=(Str×Option Str)×He.FnW
abbrev fnE (a:Str) (b:Option Str) (v:He.FnW):FnS:=((a,b),v)
def smA (K:Fg) (C:Addr) (m:Str):Addr:=match PySem.W.recIn K (ma K C m) "staticmethod" with
  |some (.ref f::_)=>f
  |_=>0
def fnS (K:Fg) (p:Str×Str):He.FnW:=match K.lookup (smA K (ga K p.1) p.2) with
  |some ⟨_,_,.func fd,_⟩=>some (fd.name,fd.qualname,fd.params,fd.body,fd.scope,fd.globals,fd.closure,fd.builtins)
  |_=>none
abbrev SmS:=(Str×Str)×He.FnW
abbrev AlM:Type:=Bool×List He.FnW×List He.FnW
def obsM (ok:List (Fg→Bool)) (fn:List FnS) (sm:List SmS) (K:Fg):AlM:=(ok.all fun f=>f K,fn.map fun p=>He.fnW K p.1,sm.map fun p=>fnS K p.1)
def valM (fn:List FnS) (sm:List SmS):AlM:=(true,fn.map fun p=>p.2,sm.map fun p=>p.2)
def SaysM (ok:List (Fg→Bool)) (fn:List FnS) (sm:List SmS) (K:Fg):Prop:=obsM ok fn sm K=valM fn sm
def obsMG (n:List Addr) (ok:List (Fg→Bool)) (fn:List FnS) (sm:List SmS) (g:Addr→Option Obj):AlM:=obsM ok fn sm (He.frG g n)
def hookM (n:List Addr) (ok:List (Fg→Bool)) (fn:List FnS) (sm:List SmS):PySem.W.Hook where
  α:=AlM
  obs:=fun s=>obsMG n ok fn sm s.heap.get?
  val:=fun _=>valM fn sm
  says:=fun _ h=> ∃ K:Fg,K.In h∧SaysM ok fn sm K
  of:=fun _ _ e=>⟨_,He.frG_in,e⟩
  keeps:=fun _ _ _ ⟨K,hK,c⟩ k=>⟨K,PySem.W.Frag.In.keeps hK k,c⟩
theorem obsMG_eq {n:List Addr} {ok:List (Fg→Bool)} {fn:List FnS} {sm:List SmS} {g:Addr→Option Obj} {s:Shared} (h: ∀ a,g a=s.heap.get? a):obsMG n ok fn sm g=(hookM n ok fn sm).obs s:=by
  have e:g=s.heap.get?:=funext h
  rw [e]<;>rfl
section
variable {ok:List (Fg→Bool)} {fn:List FnS} {sm:List SmS} {K:Fg}
theorem SaysM.ck (c:SaysM ok fn sm K) (i:Nat) {f:Fg→Bool} (h:ok[i]?=some f):f K=true:=by
  have c1:(ok.all fun f=>f K)=true:=congrArg (fun z:AlM=>z.1) c
  exact List.all_eq_true.mp c1 f (List.mem_of_getElem? h)
theorem SaysM.df (c:SaysM ok fn sm K) (i:Nat) {p:Str×Option Str} {v:He.FnW} (h:fn[i]?=some (p,v)):He.fnW K p=v:=by
  have e:(fn.map fun p=>He.fnW K p.1)=fn.map fun p=>p.2:=congrArg (fun z:AlM=>z.2.1) c
  have e2:(fn.map fun p=>He.fnW K p.1)[i]?=(fn.map fun p=>p.2)[i]?:=by rw [e]
  rw [List.getElem?_map,List.getElem?_map,h] at e2
  exact Option.some.inj e2
end
section
variable {K:Fg} {n q c m:Str} {ps:Arguments} {bd:List Stmt} {sc:Scope} {dV kV dc pm cd ct:Value} {an:Option Addr}
end
end Mi
namespace K23
open PySem PySem.Spec PyProof.Rows L2 Mi
def adL:List Nat:=[3,2,24,23,44,43,63,62,82,81,101,100,120,119,139,138,158,157,177,176,196,195,215,214,234,233,253,252,272,271,291,290,310,309,329,328,348,347,367,366,386,385,406,405,426,425,446,445,41,40,60,59,79,78,98,97,117,116,136,135,155,154,174,173,193,192,212,211,231,230,250,249,269,268,288,287,307,306,326,325,345,344,364,363,383,382,403,402,423,422,443,442,456,455,463,462,470,469,475,474,480,479,487,486,492,491]
def hS (i:Nat):Stmt:=PySem.Challenge.pw_valueshown_k23_errors_told.main.body.getD i (.Pass ⟨0,0,0,0⟩)
def hC:Stmt→List Stmt
  | .ClassDef (body:=b) .. =>b
  |_=>[]
def hI (i j:Nat):Stmt:=(hC (hS i)).getD j (.Pass ⟨0,0,0,0⟩)
abbrev Bz_s_BadRow (K:PySem.W.Frag) (X_BadRow X_BadBlock X_BadInput X_BadLabels X_BadStop X_BadWay X_BadShown X_BadValues X_BadShape X_BadMark X_BadOption X_BadWish X_BadTable X_BadFrame X_BadText X_BadLine X_BadTruth X_Untrue X_UnknownBlock X_UnknownName X_TooMany X_NothingToUndo:Addr):Prop:=(PySem.W.subIn K (.ref X_BadRow) (.ref X_BadRow)=some true)∧(PySem.W.subIn K (.ref X_BadRow) (.ref X_BadBlock)=some false)∧(PySem.W.subIn K (.ref X_BadRow) (.ref X_BadInput)=some false)∧(PySem.W.subIn K (.ref X_BadRow) (.ref X_BadLabels)=some false)∧(PySem.W.subIn K (.ref X_BadRow) (.ref X_BadStop)=some false)∧(PySem.W.subIn K (.ref X_BadRow) (.ref X_BadWay)=some false)∧(PySem.W.subIn K (.ref X_BadRow) (.ref X_BadShown)=some false)∧(PySem.W.subIn K (.ref X_BadRow) (.ref X_BadValues)=some false)∧(PySem.W.subIn K (.ref X_BadRow) (.ref X_BadShape)=some false)∧(PySem.W.subIn K (.ref X_BadRow) (.ref X_BadMark)=some false)∧(PySem.W.subIn K (.ref X_BadRow) (.ref X_BadOption)=some false)∧(PySem.W.subIn K (.ref X_BadRow) (.ref X_BadWish)=some false)∧(PySem.W.subIn K (.ref X_BadRow) (.ref X_BadTable)=some false)∧(PySem.W.subIn K (.ref X_BadRow) (.ref X_BadFrame)=some false)∧(PySem.W.subIn K (.ref X_BadRow) (.ref X_BadText)=some false)∧(PySem.W.subIn K (.ref X_BadRow) (.ref X_BadLine)=some false)∧(PySem.W.subIn K (.ref X_BadRow) (.ref X_BadTruth)=some false)∧(PySem.W.subIn K (.ref X_BadRow) (.ref X_Untrue)=some false)∧(PySem.W.subIn K (.ref X_BadRow) (.ref X_UnknownBlock)=some false)∧(PySem.W.subIn K (.ref X_BadRow) (.ref X_UnknownName)=some false)∧(PySem.W.subIn K (.ref X_BadRow) (.ref X_TooMany)=some false)∧(PySem.W.subIn K (.ref X_BadRow) (.ref X_NothingToUndo)=some false)
abbrev Bz_s_BadBlock (K:PySem.W.Frag) (X_BadRow X_BadBlock X_BadInput X_BadLabels X_BadStop X_BadWay X_BadShown X_BadValues X_BadShape X_BadMark X_BadOption X_BadWish X_BadTable X_BadFrame X_BadText X_BadLine X_BadTruth X_Untrue X_UnknownBlock X_UnknownName X_TooMany X_NothingToUndo:Addr):Prop:=(PySem.W.subIn K (.ref X_BadBlock) (.ref X_BadRow)=some false)∧(PySem.W.subIn K (.ref X_BadBlock) (.ref X_BadBlock)=some true)∧(PySem.W.subIn K (.ref X_BadBlock) (.ref X_BadInput)=some false)∧(PySem.W.subIn K (.ref X_BadBlock) (.ref X_BadLabels)=some false)∧(PySem.W.subIn K (.ref X_BadBlock) (.ref X_BadStop)=some false)∧(PySem.W.subIn K (.ref X_BadBlock) (.ref X_BadWay)=some false)∧(PySem.W.subIn K (.ref X_BadBlock) (.ref X_BadShown)=some false)∧(PySem.W.subIn K (.ref X_BadBlock) (.ref X_BadValues)=some false)∧(PySem.W.subIn K (.ref X_BadBlock) (.ref X_BadShape)=some false)∧(PySem.W.subIn K (.ref X_BadBlock) (.ref X_BadMark)=some false)∧(PySem.W.subIn K (.ref X_BadBlock) (.ref X_BadOption)=some false)∧(PySem.W.subIn K (.ref X_BadBlock) (.ref X_BadWish)=some false)∧(PySem.W.subIn K (.ref X_BadBlock) (.ref X_BadTable)=some false)∧(PySem.W.subIn K (.ref X_BadBlock) (.ref X_BadFrame)=some false)∧(PySem.W.subIn K (.ref X_BadBlock) (.ref X_BadText)=some false)∧(PySem.W.subIn K (.ref X_BadBlock) (.ref X_BadLine)=some false)∧(PySem.W.subIn K (.ref X_BadBlock) (.ref X_BadTruth)=some false)∧(PySem.W.subIn K (.ref X_BadBlock) (.ref X_Untrue)=some false)∧(PySem.W.subIn K (.ref X_BadBlock) (.ref X_UnknownBlock)=some false)∧(PySem.W.subIn K (.ref X_BadBlock) (.ref X_UnknownName)=some false)∧(PySem.W.subIn K (.ref X_BadBlock) (.ref X_TooMany)=some false)∧(PySem.W.subIn K (.ref X_BadBlock) (.ref X_NothingToUndo)=some false)
abbrev Bz_s_BadInput (K:PySem.W.Frag) (X_BadRow X_BadBlock X_BadInput X_BadLabels X_BadStop X_BadWay X_BadShown X_BadValues X_BadShape X_BadMark X_BadOption X_BadWish X_BadTable X_BadFrame X_BadText X_BadLine X_BadTruth X_Untrue X_UnknownBlock X_UnknownName X_TooMany X_NothingToUndo:Addr):Prop:=(PySem.W.subIn K (.ref X_BadInput) (.ref X_BadRow)=some false)∧(PySem.W.subIn K (.ref X_BadInput) (.ref X_BadBlock)=some false)∧(PySem.W.subIn K (.ref X_BadInput) (.ref X_BadInput)=some true)∧(PySem.W.subIn K (.ref X_BadInput) (.ref X_BadLabels)=some false)∧(PySem.W.subIn K (.ref X_BadInput) (.ref X_BadStop)=some false)∧(PySem.W.subIn K (.ref X_BadInput) (.ref X_BadWay)=some false)∧(PySem.W.subIn K (.ref X_BadInput) (.ref X_BadShown)=some false)∧(PySem.W.subIn K (.ref X_BadInput) (.ref X_BadValues)=some false)∧(PySem.W.subIn K (.ref X_BadInput) (.ref X_BadShape)=some false)∧(PySem.W.subIn K (.ref X_BadInput) (.ref X_BadMark)=some false)∧(PySem.W.subIn K (.ref X_BadInput) (.ref X_BadOption)=some false)∧(PySem.W.subIn K (.ref X_BadInput) (.ref X_BadWish)=some false)∧(PySem.W.subIn K (.ref X_BadInput) (.ref X_BadTable)=some false)∧(PySem.W.subIn K (.ref X_BadInput) (.ref X_BadFrame)=some false)∧(PySem.W.subIn K (.ref X_BadInput) (.ref X_BadText)=some false)∧(PySem.W.subIn K (.ref X_BadInput) (.ref X_BadLine)=some false)∧(PySem.W.subIn K (.ref X_BadInput) (.ref X_BadTruth)=some false)∧(PySem.W.subIn K (.ref X_BadInput) (.ref X_Untrue)=some false)∧(PySem.W.subIn K (.ref X_BadInput) (.ref X_UnknownBlock)=some false)∧(PySem.W.subIn K (.ref X_BadInput) (.ref X_UnknownName)=some false)∧(PySem.W.subIn K (.ref X_BadInput) (.ref X_TooMany)=some false)∧(PySem.W.subIn K (.ref X_BadInput) (.ref X_NothingToUndo)=some false)
abbrev Bz_s_BadLabels (K:PySem.W.Frag) (X_BadRow X_BadBlock X_BadInput X_BadLabels X_BadStop X_BadWay X_BadShown X_BadValues X_BadShape X_BadMark X_BadOption X_BadWish X_BadTable X_BadFrame X_BadText X_BadLine X_BadTruth X_Untrue X_UnknownBlock X_UnknownName X_TooMany X_NothingToUndo:Addr):Prop:=(PySem.W.subIn K (.ref X_BadLabels) (.ref X_BadRow)=some false)∧(PySem.W.subIn K (.ref X_BadLabels) (.ref X_BadBlock)=some false)∧(PySem.W.subIn K (.ref X_BadLabels) (.ref X_BadInput)=some false)∧(PySem.W.subIn K (.ref X_BadLabels) (.ref X_BadLabels)=some true)∧(PySem.W.subIn K (.ref X_BadLabels) (.ref X_BadStop)=some false)∧(PySem.W.subIn K (.ref X_BadLabels) (.ref X_BadWay)=some false)∧(PySem.W.subIn K (.ref X_BadLabels) (.ref X_BadShown)=some false)∧(PySem.W.subIn K (.ref X_BadLabels) (.ref X_BadValues)=some false)∧(PySem.W.subIn K (.ref X_BadLabels) (.ref X_BadShape)=some false)∧(PySem.W.subIn K (.ref X_BadLabels) (.ref X_BadMark)=some false)∧(PySem.W.subIn K (.ref X_BadLabels) (.ref X_BadOption)=some false)∧(PySem.W.subIn K (.ref X_BadLabels) (.ref X_BadWish)=some false)∧(PySem.W.subIn K (.ref X_BadLabels) (.ref X_BadTable)=some false)∧(PySem.W.subIn K (.ref X_BadLabels) (.ref X_BadFrame)=some false)∧(PySem.W.subIn K (.ref X_BadLabels) (.ref X_BadText)=some false)∧(PySem.W.subIn K (.ref X_BadLabels) (.ref X_BadLine)=some false)∧(PySem.W.subIn K (.ref X_BadLabels) (.ref X_BadTruth)=some false)∧(PySem.W.subIn K (.ref X_BadLabels) (.ref X_Untrue)=some false)∧(PySem.W.subIn K (.ref X_BadLabels) (.ref X_UnknownBlock)=some false)∧(PySem.W.subIn K (.ref X_BadLabels) (.ref X_UnknownName)=some false)∧(PySem.W.subIn K (.ref X_BadLabels) (.ref X_TooMany)=some false)∧(PySem.W.subIn K (.ref X_BadLabels) (.ref X_NothingToUndo)=some false)
abbrev Bz_s_BadStop (K:PySem.W.Frag) (X_BadRow X_BadBlock X_BadInput X_BadLabels X_BadStop X_BadWay X_BadShown X_BadValues X_BadShape X_BadMark X_BadOption X_BadWish X_BadTable X_BadFrame X_BadText X_BadLine X_BadTruth X_Untrue X_UnknownBlock X_UnknownName X_TooMany X_NothingToUndo:Addr):Prop:=(PySem.W.subIn K (.ref X_BadStop) (.ref X_BadRow)=some false)∧(PySem.W.subIn K (.ref X_BadStop) (.ref X_BadBlock)=some false)∧(PySem.W.subIn K (.ref X_BadStop) (.ref X_BadInput)=some false)∧(PySem.W.subIn K (.ref X_BadStop) (.ref X_BadLabels)=some false)∧(PySem.W.subIn K (.ref X_BadStop) (.ref X_BadStop)=some true)∧(PySem.W.subIn K (.ref X_BadStop) (.ref X_BadWay)=some false)∧(PySem.W.subIn K (.ref X_BadStop) (.ref X_BadShown)=some false)∧(PySem.W.subIn K (.ref X_BadStop) (.ref X_BadValues)=some false)∧(PySem.W.subIn K (.ref X_BadStop) (.ref X_BadShape)=some false)∧(PySem.W.subIn K (.ref X_BadStop) (.ref X_BadMark)=some false)∧(PySem.W.subIn K (.ref X_BadStop) (.ref X_BadOption)=some false)∧(PySem.W.subIn K (.ref X_BadStop) (.ref X_BadWish)=some false)∧(PySem.W.subIn K (.ref X_BadStop) (.ref X_BadTable)=some false)∧(PySem.W.subIn K (.ref X_BadStop) (.ref X_BadFrame)=some false)∧(PySem.W.subIn K (.ref X_BadStop) (.ref X_BadText)=some false)∧(PySem.W.subIn K (.ref X_BadStop) (.ref X_BadLine)=some false)∧(PySem.W.subIn K (.ref X_BadStop) (.ref X_BadTruth)=some false)∧(PySem.W.subIn K (.ref X_BadStop) (.ref X_Untrue)=some false)∧(PySem.W.subIn K (.ref X_BadStop) (.ref X_UnknownBlock)=some false)∧(PySem.W.subIn K (.ref X_BadStop) (.ref X_UnknownName)=some false)∧(PySem.W.subIn K (.ref X_BadStop) (.ref X_TooMany)=some false)∧(PySem.W.subIn K (.ref X_BadStop) (.ref X_NothingToUndo)=some false)
abbrev Bz_s_BadWay (K:PySem.W.Frag) (X_BadRow X_BadBlock X_BadInput X_BadLabels X_BadStop X_BadWay X_BadShown X_BadValues X_BadShape X_BadMark X_BadOption X_BadWish X_BadTable X_BadFrame X_BadText X_BadLine X_BadTruth X_Untrue X_UnknownBlock X_UnknownName X_TooMany X_NothingToUndo:Addr):Prop:=(PySem.W.subIn K (.ref X_BadWay) (.ref X_BadRow)=some false)∧(PySem.W.subIn K (.ref X_BadWay) (.ref X_BadBlock)=some false)∧(PySem.W.subIn K (.ref X_BadWay) (.ref X_BadInput)=some false)∧(PySem.W.subIn K (.ref X_BadWay) (.ref X_BadLabels)=some false)∧(PySem.W.subIn K (.ref X_BadWay) (.ref X_BadStop)=some false)∧(PySem.W.subIn K (.ref X_BadWay) (.ref X_BadWay)=some true)∧(PySem.W.subIn K (.ref X_BadWay) (.ref X_BadShown)=some false)∧(PySem.W.subIn K (.ref X_BadWay) (.ref X_BadValues)=some false)∧(PySem.W.subIn K (.ref X_BadWay) (.ref X_BadShape)=some false)∧(PySem.W.subIn K (.ref X_BadWay) (.ref X_BadMark)=some false)∧(PySem.W.subIn K (.ref X_BadWay) (.ref X_BadOption)=some false)∧(PySem.W.subIn K (.ref X_BadWay) (.ref X_BadWish)=some false)∧(PySem.W.subIn K (.ref X_BadWay) (.ref X_BadTable)=some false)∧(PySem.W.subIn K (.ref X_BadWay) (.ref X_BadFrame)=some false)∧(PySem.W.subIn K (.ref X_BadWay) (.ref X_BadText)=some false)∧(PySem.W.subIn K (.ref X_BadWay) (.ref X_BadLine)=some false)∧(PySem.W.subIn K (.ref X_BadWay) (.ref X_BadTruth)=some false)∧(PySem.W.subIn K (.ref X_BadWay) (.ref X_Untrue)=some false)∧(PySem.W.subIn K (.ref X_BadWay) (.ref X_UnknownBlock)=some false)∧(PySem.W.subIn K (.ref X_BadWay) (.ref X_UnknownName)=some false)∧(PySem.W.subIn K (.ref X_BadWay) (.ref X_TooMany)=some false)∧(PySem.W.subIn K (.ref X_BadWay) (.ref X_NothingToUndo)=some false)
abbrev Bz_s_BadShown (K:PySem.W.Frag) (X_BadRow X_BadBlock X_BadInput X_BadLabels X_BadStop X_BadWay X_BadShown X_BadValues X_BadShape X_BadMark X_BadOption X_BadWish X_BadTable X_BadFrame X_BadText X_BadLine X_BadTruth X_Untrue X_UnknownBlock X_UnknownName X_TooMany X_NothingToUndo:Addr):Prop:=(PySem.W.subIn K (.ref X_BadShown) (.ref X_BadRow)=some false)∧(PySem.W.subIn K (.ref X_BadShown) (.ref X_BadBlock)=some false)∧(PySem.W.subIn K (.ref X_BadShown) (.ref X_BadInput)=some false)∧(PySem.W.subIn K (.ref X_BadShown) (.ref X_BadLabels)=some false)∧(PySem.W.subIn K (.ref X_BadShown) (.ref X_BadStop)=some false)∧(PySem.W.subIn K (.ref X_BadShown) (.ref X_BadWay)=some false)∧(PySem.W.subIn K (.ref X_BadShown) (.ref X_BadShown)=some true)∧(PySem.W.subIn K (.ref X_BadShown) (.ref X_BadValues)=some false)∧(PySem.W.subIn K (.ref X_BadShown) (.ref X_BadShape)=some false)∧(PySem.W.subIn K (.ref X_BadShown) (.ref X_BadMark)=some false)∧(PySem.W.subIn K (.ref X_BadShown) (.ref X_BadOption)=some false)∧(PySem.W.subIn K (.ref X_BadShown) (.ref X_BadWish)=some false)∧(PySem.W.subIn K (.ref X_BadShown) (.ref X_BadTable)=some false)∧(PySem.W.subIn K (.ref X_BadShown) (.ref X_BadFrame)=some false)∧(PySem.W.subIn K (.ref X_BadShown) (.ref X_BadText)=some false)∧(PySem.W.subIn K (.ref X_BadShown) (.ref X_BadLine)=some false)∧(PySem.W.subIn K (.ref X_BadShown) (.ref X_BadTruth)=some false)∧(PySem.W.subIn K (.ref X_BadShown) (.ref X_Untrue)=some false)∧(PySem.W.subIn K (.ref X_BadShown) (.ref X_UnknownBlock)=some false)∧(PySem.W.subIn K (.ref X_BadShown) (.ref X_UnknownName)=some false)∧(PySem.W.subIn K (.ref X_BadShown) (.ref X_TooMany)=some false)∧(PySem.W.subIn K (.ref X_BadShown) (.ref X_NothingToUndo)=some false)
abbrev Bz_s_BadValues (K:PySem.W.Frag) (X_BadRow X_BadBlock X_BadInput X_BadLabels X_BadStop X_BadWay X_BadShown X_BadValues X_BadShape X_BadMark X_BadOption X_BadWish X_BadTable X_BadFrame X_BadText X_BadLine X_BadTruth X_Untrue X_UnknownBlock X_UnknownName X_TooMany X_NothingToUndo:Addr):Prop:=(PySem.W.subIn K (.ref X_BadValues) (.ref X_BadRow)=some false)∧(PySem.W.subIn K (.ref X_BadValues) (.ref X_BadBlock)=some false)∧(PySem.W.subIn K (.ref X_BadValues) (.ref X_BadInput)=some false)∧(PySem.W.subIn K (.ref X_BadValues) (.ref X_BadLabels)=some false)∧(PySem.W.subIn K (.ref X_BadValues) (.ref X_BadStop)=some false)∧(PySem.W.subIn K (.ref X_BadValues) (.ref X_BadWay)=some false)∧(PySem.W.subIn K (.ref X_BadValues) (.ref X_BadShown)=some false)∧(PySem.W.subIn K (.ref X_BadValues) (.ref X_BadValues)=some true)∧(PySem.W.subIn K (.ref X_BadValues) (.ref X_BadShape)=some false)∧(PySem.W.subIn K (.ref X_BadValues) (.ref X_BadMark)=some false)∧(PySem.W.subIn K (.ref X_BadValues) (.ref X_BadOption)=some false)∧(PySem.W.subIn K (.ref X_BadValues) (.ref X_BadWish)=some false)∧(PySem.W.subIn K (.ref X_BadValues) (.ref X_BadTable)=some false)∧(PySem.W.subIn K (.ref X_BadValues) (.ref X_BadFrame)=some false)∧(PySem.W.subIn K (.ref X_BadValues) (.ref X_BadText)=some false)∧(PySem.W.subIn K (.ref X_BadValues) (.ref X_BadLine)=some false)∧(PySem.W.subIn K (.ref X_BadValues) (.ref X_BadTruth)=some false)∧(PySem.W.subIn K (.ref X_BadValues) (.ref X_Untrue)=some false)∧(PySem.W.subIn K (.ref X_BadValues) (.ref X_UnknownBlock)=some false)∧(PySem.W.subIn K (.ref X_BadValues) (.ref X_UnknownName)=some false)∧(PySem.W.subIn K (.ref X_BadValues) (.ref X_TooMany)=some false)∧(PySem.W.subIn K (.ref X_BadValues) (.ref X_NothingToUndo)=some false)
abbrev Bz_s_BadShape (K:PySem.W.Frag) (X_BadRow X_BadBlock X_BadInput X_BadLabels X_BadStop X_BadWay X_BadShown X_BadValues X_BadShape X_BadMark X_BadOption X_BadWish X_BadTable X_BadFrame X_BadText X_BadLine X_BadTruth X_Untrue X_UnknownBlock X_UnknownName X_TooMany X_NothingToUndo:Addr):Prop:=(PySem.W.subIn K (.ref X_BadShape) (.ref X_BadRow)=some false)∧(PySem.W.subIn K (.ref X_BadShape) (.ref X_BadBlock)=some false)∧(PySem.W.subIn K (.ref X_BadShape) (.ref X_BadInput)=some false)∧(PySem.W.subIn K (.ref X_BadShape) (.ref X_BadLabels)=some false)∧(PySem.W.subIn K (.ref X_BadShape) (.ref X_BadStop)=some false)∧(PySem.W.subIn K (.ref X_BadShape) (.ref X_BadWay)=some false)∧(PySem.W.subIn K (.ref X_BadShape) (.ref X_BadShown)=some false)∧(PySem.W.subIn K (.ref X_BadShape) (.ref X_BadValues)=some false)∧(PySem.W.subIn K (.ref X_BadShape) (.ref X_BadShape)=some true)∧(PySem.W.subIn K (.ref X_BadShape) (.ref X_BadMark)=some false)∧(PySem.W.subIn K (.ref X_BadShape) (.ref X_BadOption)=some false)∧(PySem.W.subIn K (.ref X_BadShape) (.ref X_BadWish)=some false)∧(PySem.W.subIn K (.ref X_BadShape) (.ref X_BadTable)=some false)∧(PySem.W.subIn K (.ref X_BadShape) (.ref X_BadFrame)=some false)∧(PySem.W.subIn K (.ref X_BadShape) (.ref X_BadText)=some false)∧(PySem.W.subIn K (.ref X_BadShape) (.ref X_BadLine)=some false)∧(PySem.W.subIn K (.ref X_BadShape) (.ref X_BadTruth)=some false)∧(PySem.W.subIn K (.ref X_BadShape) (.ref X_Untrue)=some false)∧(PySem.W.subIn K (.ref X_BadShape) (.ref X_UnknownBlock)=some false)∧(PySem.W.subIn K (.ref X_BadShape) (.ref X_UnknownName)=some false)∧(PySem.W.subIn K (.ref X_BadShape) (.ref X_TooMany)=some false)∧(PySem.W.subIn K (.ref X_BadShape) (.ref X_NothingToUndo)=some false)
abbrev Bz_s_BadMark (K:PySem.W.Frag) (X_BadRow X_BadBlock X_BadInput X_BadLabels X_BadStop X_BadWay X_BadShown X_BadValues X_BadShape X_BadMark X_BadOption X_BadWish X_BadTable X_BadFrame X_BadText X_BadLine X_BadTruth X_Untrue X_UnknownBlock X_UnknownName X_TooMany X_NothingToUndo:Addr):Prop:=(PySem.W.subIn K (.ref X_BadMark) (.ref X_BadRow)=some false)∧(PySem.W.subIn K (.ref X_BadMark) (.ref X_BadBlock)=some false)∧(PySem.W.subIn K (.ref X_BadMark) (.ref X_BadInput)=some false)∧(PySem.W.subIn K (.ref X_BadMark) (.ref X_BadLabels)=some false)∧(PySem.W.subIn K (.ref X_BadMark) (.ref X_BadStop)=some false)∧(PySem.W.subIn K (.ref X_BadMark) (.ref X_BadWay)=some false)∧(PySem.W.subIn K (.ref X_BadMark) (.ref X_BadShown)=some false)∧(PySem.W.subIn K (.ref X_BadMark) (.ref X_BadValues)=some false)∧(PySem.W.subIn K (.ref X_BadMark) (.ref X_BadShape)=some false)∧(PySem.W.subIn K (.ref X_BadMark) (.ref X_BadMark)=some true)∧(PySem.W.subIn K (.ref X_BadMark) (.ref X_BadOption)=some false)∧(PySem.W.subIn K (.ref X_BadMark) (.ref X_BadWish)=some false)∧(PySem.W.subIn K (.ref X_BadMark) (.ref X_BadTable)=some false)∧(PySem.W.subIn K (.ref X_BadMark) (.ref X_BadFrame)=some false)∧(PySem.W.subIn K (.ref X_BadMark) (.ref X_BadText)=some false)∧(PySem.W.subIn K (.ref X_BadMark) (.ref X_BadLine)=some false)∧(PySem.W.subIn K (.ref X_BadMark) (.ref X_BadTruth)=some false)∧(PySem.W.subIn K (.ref X_BadMark) (.ref X_Untrue)=some false)∧(PySem.W.subIn K (.ref X_BadMark) (.ref X_UnknownBlock)=some false)∧(PySem.W.subIn K (.ref X_BadMark) (.ref X_UnknownName)=some false)∧(PySem.W.subIn K (.ref X_BadMark) (.ref X_TooMany)=some false)∧(PySem.W.subIn K (.ref X_BadMark) (.ref X_NothingToUndo)=some false)
abbrev Bz_s_BadOption (K:PySem.W.Frag) (X_BadRow X_BadBlock X_BadInput X_BadLabels X_BadStop X_BadWay X_BadShown X_BadValues X_BadShape X_BadMark X_BadOption X_BadWish X_BadTable X_BadFrame X_BadText X_BadLine X_BadTruth X_Untrue X_UnknownBlock X_UnknownName X_TooMany X_NothingToUndo:Addr):Prop:=(PySem.W.subIn K (.ref X_BadOption) (.ref X_BadRow)=some false)∧(PySem.W.subIn K (.ref X_BadOption) (.ref X_BadBlock)=some false)∧(PySem.W.subIn K (.ref X_BadOption) (.ref X_BadInput)=some false)∧(PySem.W.subIn K (.ref X_BadOption) (.ref X_BadLabels)=some false)∧(PySem.W.subIn K (.ref X_BadOption) (.ref X_BadStop)=some false)∧(PySem.W.subIn K (.ref X_BadOption) (.ref X_BadWay)=some false)∧(PySem.W.subIn K (.ref X_BadOption) (.ref X_BadShown)=some false)∧(PySem.W.subIn K (.ref X_BadOption) (.ref X_BadValues)=some false)∧(PySem.W.subIn K (.ref X_BadOption) (.ref X_BadShape)=some false)∧(PySem.W.subIn K (.ref X_BadOption) (.ref X_BadMark)=some false)∧(PySem.W.subIn K (.ref X_BadOption) (.ref X_BadOption)=some true)∧(PySem.W.subIn K (.ref X_BadOption) (.ref X_BadWish)=some false)∧(PySem.W.subIn K (.ref X_BadOption) (.ref X_BadTable)=some false)∧(PySem.W.subIn K (.ref X_BadOption) (.ref X_BadFrame)=some false)∧(PySem.W.subIn K (.ref X_BadOption) (.ref X_BadText)=some false)∧(PySem.W.subIn K (.ref X_BadOption) (.ref X_BadLine)=some false)∧(PySem.W.subIn K (.ref X_BadOption) (.ref X_BadTruth)=some false)∧(PySem.W.subIn K (.ref X_BadOption) (.ref X_Untrue)=some false)∧(PySem.W.subIn K (.ref X_BadOption) (.ref X_UnknownBlock)=some false)∧(PySem.W.subIn K (.ref X_BadOption) (.ref X_UnknownName)=some false)∧(PySem.W.subIn K (.ref X_BadOption) (.ref X_TooMany)=some false)∧(PySem.W.subIn K (.ref X_BadOption) (.ref X_NothingToUndo)=some false)
abbrev Bz_s_BadWish (K:PySem.W.Frag) (X_BadRow X_BadBlock X_BadInput X_BadLabels X_BadStop X_BadWay X_BadShown X_BadValues X_BadShape X_BadMark X_BadOption X_BadWish X_BadTable X_BadFrame X_BadText X_BadLine X_BadTruth X_Untrue X_UnknownBlock X_UnknownName X_TooMany X_NothingToUndo:Addr):Prop:=(PySem.W.subIn K (.ref X_BadWish) (.ref X_BadRow)=some false)∧(PySem.W.subIn K (.ref X_BadWish) (.ref X_BadBlock)=some false)∧(PySem.W.subIn K (.ref X_BadWish) (.ref X_BadInput)=some false)∧(PySem.W.subIn K (.ref X_BadWish) (.ref X_BadLabels)=some false)∧(PySem.W.subIn K (.ref X_BadWish) (.ref X_BadStop)=some false)∧(PySem.W.subIn K (.ref X_BadWish) (.ref X_BadWay)=some false)∧(PySem.W.subIn K (.ref X_BadWish) (.ref X_BadShown)=some false)∧(PySem.W.subIn K (.ref X_BadWish) (.ref X_BadValues)=some false)∧(PySem.W.subIn K (.ref X_BadWish) (.ref X_BadShape)=some false)∧(PySem.W.subIn K (.ref X_BadWish) (.ref X_BadMark)=some false)∧(PySem.W.subIn K (.ref X_BadWish) (.ref X_BadOption)=some false)∧(PySem.W.subIn K (.ref X_BadWish) (.ref X_BadWish)=some true)∧(PySem.W.subIn K (.ref X_BadWish) (.ref X_BadTable)=some false)∧(PySem.W.subIn K (.ref X_BadWish) (.ref X_BadFrame)=some false)∧(PySem.W.subIn K (.ref X_BadWish) (.ref X_BadText)=some false)∧(PySem.W.subIn K (.ref X_BadWish) (.ref X_BadLine)=some false)∧(PySem.W.subIn K (.ref X_BadWish) (.ref X_BadTruth)=some false)∧(PySem.W.subIn K (.ref X_BadWish) (.ref X_Untrue)=some false)∧(PySem.W.subIn K (.ref X_BadWish) (.ref X_UnknownBlock)=some false)∧(PySem.W.subIn K (.ref X_BadWish) (.ref X_UnknownName)=some false)∧(PySem.W.subIn K (.ref X_BadWish) (.ref X_TooMany)=some false)∧(PySem.W.subIn K (.ref X_BadWish) (.ref X_NothingToUndo)=some false)
abbrev Bz_s_BadTable (K:PySem.W.Frag) (X_BadRow X_BadBlock X_BadInput X_BadLabels X_BadStop X_BadWay X_BadShown X_BadValues X_BadShape X_BadMark X_BadOption X_BadWish X_BadTable X_BadFrame X_BadText X_BadLine X_BadTruth X_Untrue X_UnknownBlock X_UnknownName X_TooMany X_NothingToUndo:Addr):Prop:=(PySem.W.subIn K (.ref X_BadTable) (.ref X_BadRow)=some false)∧(PySem.W.subIn K (.ref X_BadTable) (.ref X_BadBlock)=some false)∧(PySem.W.subIn K (.ref X_BadTable) (.ref X_BadInput)=some false)∧(PySem.W.subIn K (.ref X_BadTable) (.ref X_BadLabels)=some false)∧(PySem.W.subIn K (.ref X_BadTable) (.ref X_BadStop)=some false)∧(PySem.W.subIn K (.ref X_BadTable) (.ref X_BadWay)=some false)∧(PySem.W.subIn K (.ref X_BadTable) (.ref X_BadShown)=some false)∧(PySem.W.subIn K (.ref X_BadTable) (.ref X_BadValues)=some false)∧(PySem.W.subIn K (.ref X_BadTable) (.ref X_BadShape)=some false)∧(PySem.W.subIn K (.ref X_BadTable) (.ref X_BadMark)=some false)∧(PySem.W.subIn K (.ref X_BadTable) (.ref X_BadOption)=some false)∧(PySem.W.subIn K (.ref X_BadTable) (.ref X_BadWish)=some false)∧(PySem.W.subIn K (.ref X_BadTable) (.ref X_BadTable)=some true)∧(PySem.W.subIn K (.ref X_BadTable) (.ref X_BadFrame)=some false)∧(PySem.W.subIn K (.ref X_BadTable) (.ref X_BadText)=some false)∧(PySem.W.subIn K (.ref X_BadTable) (.ref X_BadLine)=some false)∧(PySem.W.subIn K (.ref X_BadTable) (.ref X_BadTruth)=some false)∧(PySem.W.subIn K (.ref X_BadTable) (.ref X_Untrue)=some false)∧(PySem.W.subIn K (.ref X_BadTable) (.ref X_UnknownBlock)=some false)∧(PySem.W.subIn K (.ref X_BadTable) (.ref X_UnknownName)=some false)∧(PySem.W.subIn K (.ref X_BadTable) (.ref X_TooMany)=some false)∧(PySem.W.subIn K (.ref X_BadTable) (.ref X_NothingToUndo)=some false)
abbrev Bz_s_BadFrame (K:PySem.W.Frag) (X_BadRow X_BadBlock X_BadInput X_BadLabels X_BadStop X_BadWay X_BadShown X_BadValues X_BadShape X_BadMark X_BadOption X_BadWish X_BadTable X_BadFrame X_BadText X_BadLine X_BadTruth X_Untrue X_UnknownBlock X_UnknownName X_TooMany X_NothingToUndo:Addr):Prop:=(PySem.W.subIn K (.ref X_BadFrame) (.ref X_BadRow)=some false)∧(PySem.W.subIn K (.ref X_BadFrame) (.ref X_BadBlock)=some false)∧(PySem.W.subIn K (.ref X_BadFrame) (.ref X_BadInput)=some false)∧(PySem.W.subIn K (.ref X_BadFrame) (.ref X_BadLabels)=some false)∧(PySem.W.subIn K (.ref X_BadFrame) (.ref X_BadStop)=some false)∧(PySem.W.subIn K (.ref X_BadFrame) (.ref X_BadWay)=some false)∧(PySem.W.subIn K (.ref X_BadFrame) (.ref X_BadShown)=some false)∧(PySem.W.subIn K (.ref X_BadFrame) (.ref X_BadValues)=some false)∧(PySem.W.subIn K (.ref X_BadFrame) (.ref X_BadShape)=some false)∧(PySem.W.subIn K (.ref X_BadFrame) (.ref X_BadMark)=some false)∧(PySem.W.subIn K (.ref X_BadFrame) (.ref X_BadOption)=some false)∧(PySem.W.subIn K (.ref X_BadFrame) (.ref X_BadWish)=some false)∧(PySem.W.subIn K (.ref X_BadFrame) (.ref X_BadTable)=some false)∧(PySem.W.subIn K (.ref X_BadFrame) (.ref X_BadFrame)=some true)∧(PySem.W.subIn K (.ref X_BadFrame) (.ref X_BadText)=some false)∧(PySem.W.subIn K (.ref X_BadFrame) (.ref X_BadLine)=some false)∧(PySem.W.subIn K (.ref X_BadFrame) (.ref X_BadTruth)=some false)∧(PySem.W.subIn K (.ref X_BadFrame) (.ref X_Untrue)=some false)∧(PySem.W.subIn K (.ref X_BadFrame) (.ref X_UnknownBlock)=some false)∧(PySem.W.subIn K (.ref X_BadFrame) (.ref X_UnknownName)=some false)∧(PySem.W.subIn K (.ref X_BadFrame) (.ref X_TooMany)=some false)∧(PySem.W.subIn K (.ref X_BadFrame) (.ref X_NothingToUndo)=some false)
abbrev Bz_s_BadText (K:PySem.W.Frag) (X_BadRow X_BadBlock X_BadInput X_BadLabels X_BadStop X_BadWay X_BadShown X_BadValues X_BadShape X_BadMark X_BadOption X_BadWish X_BadTable X_BadFrame X_BadText X_BadLine X_BadTruth X_Untrue X_UnknownBlock X_UnknownName X_TooMany X_NothingToUndo:Addr):Prop:=(PySem.W.subIn K (.ref X_BadText) (.ref X_BadRow)=some false)∧(PySem.W.subIn K (.ref X_BadText) (.ref X_BadBlock)=some false)∧(PySem.W.subIn K (.ref X_BadText) (.ref X_BadInput)=some false)∧(PySem.W.subIn K (.ref X_BadText) (.ref X_BadLabels)=some false)∧(PySem.W.subIn K (.ref X_BadText) (.ref X_BadStop)=some false)∧(PySem.W.subIn K (.ref X_BadText) (.ref X_BadWay)=some false)∧(PySem.W.subIn K (.ref X_BadText) (.ref X_BadShown)=some false)∧(PySem.W.subIn K (.ref X_BadText) (.ref X_BadValues)=some false)∧(PySem.W.subIn K (.ref X_BadText) (.ref X_BadShape)=some false)∧(PySem.W.subIn K (.ref X_BadText) (.ref X_BadMark)=some false)∧(PySem.W.subIn K (.ref X_BadText) (.ref X_BadOption)=some false)∧(PySem.W.subIn K (.ref X_BadText) (.ref X_BadWish)=some false)∧(PySem.W.subIn K (.ref X_BadText) (.ref X_BadTable)=some false)∧(PySem.W.subIn K (.ref X_BadText) (.ref X_BadFrame)=some false)∧(PySem.W.subIn K (.ref X_BadText) (.ref X_BadText)=some true)∧(PySem.W.subIn K (.ref X_BadText) (.ref X_BadLine)=some false)∧(PySem.W.subIn K (.ref X_BadText) (.ref X_BadTruth)=some false)∧(PySem.W.subIn K (.ref X_BadText) (.ref X_Untrue)=some false)∧(PySem.W.subIn K (.ref X_BadText) (.ref X_UnknownBlock)=some false)∧(PySem.W.subIn K (.ref X_BadText) (.ref X_UnknownName)=some false)∧(PySem.W.subIn K (.ref X_BadText) (.ref X_TooMany)=some false)∧(PySem.W.subIn K (.ref X_BadText) (.ref X_NothingToUndo)=some false)
abbrev Bz_s_BadLine (K:PySem.W.Frag) (X_BadRow X_BadBlock X_BadInput X_BadLabels X_BadStop X_BadWay X_BadShown X_BadValues X_BadShape X_BadMark X_BadOption X_BadWish X_BadTable X_BadFrame X_BadText X_BadLine X_BadTruth X_Untrue X_UnknownBlock X_UnknownName X_TooMany X_NothingToUndo:Addr):Prop:=(PySem.W.subIn K (.ref X_BadLine) (.ref X_BadRow)=some false)∧(PySem.W.subIn K (.ref X_BadLine) (.ref X_BadBlock)=some false)∧(PySem.W.subIn K (.ref X_BadLine) (.ref X_BadInput)=some false)∧(PySem.W.subIn K (.ref X_BadLine) (.ref X_BadLabels)=some false)∧(PySem.W.subIn K (.ref X_BadLine) (.ref X_BadStop)=some false)∧(PySem.W.subIn K (.ref X_BadLine) (.ref X_BadWay)=some false)∧(PySem.W.subIn K (.ref X_BadLine) (.ref X_BadShown)=some false)∧(PySem.W.subIn K (.ref X_BadLine) (.ref X_BadValues)=some false)∧(PySem.W.subIn K (.ref X_BadLine) (.ref X_BadShape)=some false)∧(PySem.W.subIn K (.ref X_BadLine) (.ref X_BadMark)=some false)∧(PySem.W.subIn K (.ref X_BadLine) (.ref X_BadOption)=some false)∧(PySem.W.subIn K (.ref X_BadLine) (.ref X_BadWish)=some false)∧(PySem.W.subIn K (.ref X_BadLine) (.ref X_BadTable)=some false)∧(PySem.W.subIn K (.ref X_BadLine) (.ref X_BadFrame)=some false)∧(PySem.W.subIn K (.ref X_BadLine) (.ref X_BadText)=some false)∧(PySem.W.subIn K (.ref X_BadLine) (.ref X_BadLine)=some true)∧(PySem.W.subIn K (.ref X_BadLine) (.ref X_BadTruth)=some false)∧(PySem.W.subIn K (.ref X_BadLine) (.ref X_Untrue)=some false)∧(PySem.W.subIn K (.ref X_BadLine) (.ref X_UnknownBlock)=some false)∧(PySem.W.subIn K (.ref X_BadLine) (.ref X_UnknownName)=some false)∧(PySem.W.subIn K (.ref X_BadLine) (.ref X_TooMany)=some false)∧(PySem.W.subIn K (.ref X_BadLine) (.ref X_NothingToUndo)=some false)
abbrev Bz_s_BadTruth (K:PySem.W.Frag) (X_BadRow X_BadBlock X_BadInput X_BadLabels X_BadStop X_BadWay X_BadShown X_BadValues X_BadShape X_BadMark X_BadOption X_BadWish X_BadTable X_BadFrame X_BadText X_BadLine X_BadTruth X_Untrue X_UnknownBlock X_UnknownName X_TooMany X_NothingToUndo:Addr):Prop:=(PySem.W.subIn K (.ref X_BadTruth) (.ref X_BadRow)=some false)∧(PySem.W.subIn K (.ref X_BadTruth) (.ref X_BadBlock)=some false)∧(PySem.W.subIn K (.ref X_BadTruth) (.ref X_BadInput)=some false)∧(PySem.W.subIn K (.ref X_BadTruth) (.ref X_BadLabels)=some false)∧(PySem.W.subIn K (.ref X_BadTruth) (.ref X_BadStop)=some false)∧(PySem.W.subIn K (.ref X_BadTruth) (.ref X_BadWay)=some false)∧(PySem.W.subIn K (.ref X_BadTruth) (.ref X_BadShown)=some false)∧(PySem.W.subIn K (.ref X_BadTruth) (.ref X_BadValues)=some false)∧(PySem.W.subIn K (.ref X_BadTruth) (.ref X_BadShape)=some false)∧(PySem.W.subIn K (.ref X_BadTruth) (.ref X_BadMark)=some false)∧(PySem.W.subIn K (.ref X_BadTruth) (.ref X_BadOption)=some false)∧(PySem.W.subIn K (.ref X_BadTruth) (.ref X_BadWish)=some false)∧(PySem.W.subIn K (.ref X_BadTruth) (.ref X_BadTable)=some false)∧(PySem.W.subIn K (.ref X_BadTruth) (.ref X_BadFrame)=some false)∧(PySem.W.subIn K (.ref X_BadTruth) (.ref X_BadText)=some false)∧(PySem.W.subIn K (.ref X_BadTruth) (.ref X_BadLine)=some false)∧(PySem.W.subIn K (.ref X_BadTruth) (.ref X_BadTruth)=some true)∧(PySem.W.subIn K (.ref X_BadTruth) (.ref X_Untrue)=some false)∧(PySem.W.subIn K (.ref X_BadTruth) (.ref X_UnknownBlock)=some false)∧(PySem.W.subIn K (.ref X_BadTruth) (.ref X_UnknownName)=some false)∧(PySem.W.subIn K (.ref X_BadTruth) (.ref X_TooMany)=some false)∧(PySem.W.subIn K (.ref X_BadTruth) (.ref X_NothingToUndo)=some false)
abbrev Bz_s_Untrue (K:PySem.W.Frag) (X_BadRow X_BadBlock X_BadInput X_BadLabels X_BadStop X_BadWay X_BadShown X_BadValues X_BadShape X_BadMark X_BadOption X_BadWish X_BadTable X_BadFrame X_BadText X_BadLine X_BadTruth X_Untrue X_UnknownBlock X_UnknownName X_TooMany X_NothingToUndo:Addr):Prop:=(PySem.W.subIn K (.ref X_Untrue) (.ref X_BadRow)=some false)∧(PySem.W.subIn K (.ref X_Untrue) (.ref X_BadBlock)=some false)∧(PySem.W.subIn K (.ref X_Untrue) (.ref X_BadInput)=some false)∧(PySem.W.subIn K (.ref X_Untrue) (.ref X_BadLabels)=some false)∧(PySem.W.subIn K (.ref X_Untrue) (.ref X_BadStop)=some false)∧(PySem.W.subIn K (.ref X_Untrue) (.ref X_BadWay)=some false)∧(PySem.W.subIn K (.ref X_Untrue) (.ref X_BadShown)=some false)∧(PySem.W.subIn K (.ref X_Untrue) (.ref X_BadValues)=some false)∧(PySem.W.subIn K (.ref X_Untrue) (.ref X_BadShape)=some false)∧(PySem.W.subIn K (.ref X_Untrue) (.ref X_BadMark)=some false)∧(PySem.W.subIn K (.ref X_Untrue) (.ref X_BadOption)=some false)∧(PySem.W.subIn K (.ref X_Untrue) (.ref X_BadWish)=some false)∧(PySem.W.subIn K (.ref X_Untrue) (.ref X_BadTable)=some false)∧(PySem.W.subIn K (.ref X_Untrue) (.ref X_BadFrame)=some false)∧(PySem.W.subIn K (.ref X_Untrue) (.ref X_BadText)=some false)∧(PySem.W.subIn K (.ref X_Untrue) (.ref X_BadLine)=some false)∧(PySem.W.subIn K (.ref X_Untrue) (.ref X_BadTruth)=some false)∧(PySem.W.subIn K (.ref X_Untrue) (.ref X_Untrue)=some true)∧(PySem.W.subIn K (.ref X_Untrue) (.ref X_UnknownBlock)=some false)∧(PySem.W.subIn K (.ref X_Untrue) (.ref X_UnknownName)=some false)∧(PySem.W.subIn K (.ref X_Untrue) (.ref X_TooMany)=some false)∧(PySem.W.subIn K (.ref X_Untrue) (.ref X_NothingToUndo)=some false)
abbrev Bz_s_UnknownBlock (K:PySem.W.Frag) (X_BadRow X_BadBlock X_BadInput X_BadLabels X_BadStop X_BadWay X_BadShown X_BadValues X_BadShape X_BadMark X_BadOption X_BadWish X_BadTable X_BadFrame X_BadText X_BadLine X_BadTruth X_Untrue X_UnknownBlock X_UnknownName X_TooMany X_NothingToUndo:Addr):Prop:=(PySem.W.subIn K (.ref X_UnknownBlock) (.ref X_BadRow)=some false)∧(PySem.W.subIn K (.ref X_UnknownBlock) (.ref X_BadBlock)=some false)∧(PySem.W.subIn K (.ref X_UnknownBlock) (.ref X_BadInput)=some false)∧(PySem.W.subIn K (.ref X_UnknownBlock) (.ref X_BadLabels)=some false)∧(PySem.W.subIn K (.ref X_UnknownBlock) (.ref X_BadStop)=some false)∧(PySem.W.subIn K (.ref X_UnknownBlock) (.ref X_BadWay)=some false)∧(PySem.W.subIn K (.ref X_UnknownBlock) (.ref X_BadShown)=some false)∧(PySem.W.subIn K (.ref X_UnknownBlock) (.ref X_BadValues)=some false)∧(PySem.W.subIn K (.ref X_UnknownBlock) (.ref X_BadShape)=some false)∧(PySem.W.subIn K (.ref X_UnknownBlock) (.ref X_BadMark)=some false)∧(PySem.W.subIn K (.ref X_UnknownBlock) (.ref X_BadOption)=some false)∧(PySem.W.subIn K (.ref X_UnknownBlock) (.ref X_BadWish)=some false)∧(PySem.W.subIn K (.ref X_UnknownBlock) (.ref X_BadTable)=some false)∧(PySem.W.subIn K (.ref X_UnknownBlock) (.ref X_BadFrame)=some false)∧(PySem.W.subIn K (.ref X_UnknownBlock) (.ref X_BadText)=some false)∧(PySem.W.subIn K (.ref X_UnknownBlock) (.ref X_BadLine)=some false)∧(PySem.W.subIn K (.ref X_UnknownBlock) (.ref X_BadTruth)=some false)∧(PySem.W.subIn K (.ref X_UnknownBlock) (.ref X_Untrue)=some false)∧(PySem.W.subIn K (.ref X_UnknownBlock) (.ref X_UnknownBlock)=some true)∧(PySem.W.subIn K (.ref X_UnknownBlock) (.ref X_UnknownName)=some false)∧(PySem.W.subIn K (.ref X_UnknownBlock) (.ref X_TooMany)=some false)∧(PySem.W.subIn K (.ref X_UnknownBlock) (.ref X_NothingToUndo)=some false)
abbrev Bz_s_UnknownName (K:PySem.W.Frag) (X_BadRow X_BadBlock X_BadInput X_BadLabels X_BadStop X_BadWay X_BadShown X_BadValues X_BadShape X_BadMark X_BadOption X_BadWish X_BadTable X_BadFrame X_BadText X_BadLine X_BadTruth X_Untrue X_UnknownBlock X_UnknownName X_TooMany X_NothingToUndo:Addr):Prop:=(PySem.W.subIn K (.ref X_UnknownName) (.ref X_BadRow)=some false)∧(PySem.W.subIn K (.ref X_UnknownName) (.ref X_BadBlock)=some false)∧(PySem.W.subIn K (.ref X_UnknownName) (.ref X_BadInput)=some false)∧(PySem.W.subIn K (.ref X_UnknownName) (.ref X_BadLabels)=some false)∧(PySem.W.subIn K (.ref X_UnknownName) (.ref X_BadStop)=some false)∧(PySem.W.subIn K (.ref X_UnknownName) (.ref X_BadWay)=some false)∧(PySem.W.subIn K (.ref X_UnknownName) (.ref X_BadShown)=some false)∧(PySem.W.subIn K (.ref X_UnknownName) (.ref X_BadValues)=some false)∧(PySem.W.subIn K (.ref X_UnknownName) (.ref X_BadShape)=some false)∧(PySem.W.subIn K (.ref X_UnknownName) (.ref X_BadMark)=some false)∧(PySem.W.subIn K (.ref X_UnknownName) (.ref X_BadOption)=some false)∧(PySem.W.subIn K (.ref X_UnknownName) (.ref X_BadWish)=some false)∧(PySem.W.subIn K (.ref X_UnknownName) (.ref X_BadTable)=some false)∧(PySem.W.subIn K (.ref X_UnknownName) (.ref X_BadFrame)=some false)∧(PySem.W.subIn K (.ref X_UnknownName) (.ref X_BadText)=some false)∧(PySem.W.subIn K (.ref X_UnknownName) (.ref X_BadLine)=some false)∧(PySem.W.subIn K (.ref X_UnknownName) (.ref X_BadTruth)=some false)∧(PySem.W.subIn K (.ref X_UnknownName) (.ref X_Untrue)=some false)∧(PySem.W.subIn K (.ref X_UnknownName) (.ref X_UnknownBlock)=some false)∧(PySem.W.subIn K (.ref X_UnknownName) (.ref X_UnknownName)=some true)∧(PySem.W.subIn K (.ref X_UnknownName) (.ref X_TooMany)=some false)∧(PySem.W.subIn K (.ref X_UnknownName) (.ref X_NothingToUndo)=some false)
abbrev Bz_s_TooMany (K:PySem.W.Frag) (X_BadRow X_BadBlock X_BadInput X_BadLabels X_BadStop X_BadWay X_BadShown X_BadValues X_BadShape X_BadMark X_BadOption X_BadWish X_BadTable X_BadFrame X_BadText X_BadLine X_BadTruth X_Untrue X_UnknownBlock X_UnknownName X_TooMany X_NothingToUndo:Addr):Prop:=(PySem.W.subIn K (.ref X_TooMany) (.ref X_BadRow)=some false)∧(PySem.W.subIn K (.ref X_TooMany) (.ref X_BadBlock)=some false)∧(PySem.W.subIn K (.ref X_TooMany) (.ref X_BadInput)=some false)∧(PySem.W.subIn K (.ref X_TooMany) (.ref X_BadLabels)=some false)∧(PySem.W.subIn K (.ref X_TooMany) (.ref X_BadStop)=some false)∧(PySem.W.subIn K (.ref X_TooMany) (.ref X_BadWay)=some false)∧(PySem.W.subIn K (.ref X_TooMany) (.ref X_BadShown)=some false)∧(PySem.W.subIn K (.ref X_TooMany) (.ref X_BadValues)=some false)∧(PySem.W.subIn K (.ref X_TooMany) (.ref X_BadShape)=some false)∧(PySem.W.subIn K (.ref X_TooMany) (.ref X_BadMark)=some false)∧(PySem.W.subIn K (.ref X_TooMany) (.ref X_BadOption)=some false)∧(PySem.W.subIn K (.ref X_TooMany) (.ref X_BadWish)=some false)∧(PySem.W.subIn K (.ref X_TooMany) (.ref X_BadTable)=some false)∧(PySem.W.subIn K (.ref X_TooMany) (.ref X_BadFrame)=some false)∧(PySem.W.subIn K (.ref X_TooMany) (.ref X_BadText)=some false)∧(PySem.W.subIn K (.ref X_TooMany) (.ref X_BadLine)=some false)∧(PySem.W.subIn K (.ref X_TooMany) (.ref X_BadTruth)=some false)∧(PySem.W.subIn K (.ref X_TooMany) (.ref X_Untrue)=some false)∧(PySem.W.subIn K (.ref X_TooMany) (.ref X_UnknownBlock)=some false)∧(PySem.W.subIn K (.ref X_TooMany) (.ref X_UnknownName)=some false)∧(PySem.W.subIn K (.ref X_TooMany) (.ref X_TooMany)=some true)∧(PySem.W.subIn K (.ref X_TooMany) (.ref X_NothingToUndo)=some false)
abbrev Bz_s_NothingToUndo (K:PySem.W.Frag) (X_BadRow X_BadBlock X_BadInput X_BadLabels X_BadStop X_BadWay X_BadShown X_BadValues X_BadShape X_BadMark X_BadOption X_BadWish X_BadTable X_BadFrame X_BadText X_BadLine X_BadTruth X_Untrue X_UnknownBlock X_UnknownName X_TooMany X_NothingToUndo:Addr):Prop:=(PySem.W.subIn K (.ref X_NothingToUndo) (.ref X_BadRow)=some false)∧(PySem.W.subIn K (.ref X_NothingToUndo) (.ref X_BadBlock)=some false)∧(PySem.W.subIn K (.ref X_NothingToUndo) (.ref X_BadInput)=some false)∧(PySem.W.subIn K (.ref X_NothingToUndo) (.ref X_BadLabels)=some false)∧(PySem.W.subIn K (.ref X_NothingToUndo) (.ref X_BadStop)=some false)∧(PySem.W.subIn K (.ref X_NothingToUndo) (.ref X_BadWay)=some false)∧(PySem.W.subIn K (.ref X_NothingToUndo) (.ref X_BadShown)=some false)∧(PySem.W.subIn K (.ref X_NothingToUndo) (.ref X_BadValues)=some false)∧(PySem.W.subIn K (.ref X_NothingToUndo) (.ref X_BadShape)=some false)∧(PySem.W.subIn K (.ref X_NothingToUndo) (.ref X_BadMark)=some false)∧(PySem.W.subIn K (.ref X_NothingToUndo) (.ref X_BadOption)=some false)∧(PySem.W.subIn K (.ref X_NothingToUndo) (.ref X_BadWish)=some false)∧(PySem.W.subIn K (.ref X_NothingToUndo) (.ref X_BadTable)=some false)∧(PySem.W.subIn K (.ref X_NothingToUndo) (.ref X_BadFrame)=some false)∧(PySem.W.subIn K (.ref X_NothingToUndo) (.ref X_BadText)=some false)∧(PySem.W.subIn K (.ref X_NothingToUndo) (.ref X_BadLine)=some false)∧(PySem.W.subIn K (.ref X_NothingToUndo) (.ref X_BadTruth)=some false)∧(PySem.W.subIn K (.ref X_NothingToUndo) (.ref X_Untrue)=some false)∧(PySem.W.subIn K (.ref X_NothingToUndo) (.ref X_UnknownBlock)=some false)∧(PySem.W.subIn K (.ref X_NothingToUndo) (.ref X_UnknownName)=some false)∧(PySem.W.subIn K (.ref X_NothingToUndo) (.ref X_TooMany)=some false)∧(PySem.W.subIn K (.ref X_NothingToUndo) (.ref X_NothingToUndo)=some true)
abbrev Bz_i0 (K:PySem.W.Frag) (X_BadRow:Addr):Prop:= ∃ (I0:Addr),(PySem.W.nsIn K mainGlobals "BadBlock"=some (some (.ref I0)))∧(PySem.W.hasDictIn K I0=true)∧(PySem.W.typeIn K (.ref I0)=some (.type "type"))∧(PySem.W.subIn K (.ref X_BadRow) (.ref I0)=some false)∧((Value.ref X_BadRow==Value.ref I0)=false)
abbrev Bz_i1 (K:PySem.W.Frag) (X_BadBlock:Addr):Prop:= ∃ (I1:Addr),(PySem.W.nsIn K mainGlobals "BadRow"=some (some (.ref I1)))∧(PySem.W.hasDictIn K I1=true)∧(PySem.W.typeIn K (.ref I1)=some (.type "type"))∧(PySem.W.subIn K (.ref X_BadBlock) (.ref I1)=some false)∧((Value.ref X_BadBlock==Value.ref I1)=false)
abbrev Bz_i2 (K:PySem.W.Frag) (X_BadInput:Addr):Prop:= ∃ (I2:Addr),(PySem.W.nsIn K mainGlobals "BadWay"=some (some (.ref I2)))∧(PySem.W.hasDictIn K I2=true)∧(PySem.W.typeIn K (.ref I2)=some (.type "type"))∧(PySem.W.subIn K (.ref X_BadInput) (.ref I2)=some false)∧((Value.ref X_BadInput==Value.ref I2)=false)
abbrev Bz_i3 (K:PySem.W.Frag) (X_BadWay:Addr):Prop:= ∃ (I3:Addr),(PySem.W.nsIn K mainGlobals "BadInput"=some (some (.ref I3)))∧(PySem.W.hasDictIn K I3=true)∧(PySem.W.typeIn K (.ref I3)=some (.type "type"))∧(PySem.W.subIn K (.ref X_BadWay) (.ref I3)=some false)∧((Value.ref X_BadWay==Value.ref I3)=false)
abbrev Bz_i4 (K:PySem.W.Frag) (X_BadLabels:Addr):Prop:= ∃ (I4:Addr),(PySem.W.nsIn K mainGlobals "BadStop"=some (some (.ref I4)))∧(PySem.W.hasDictIn K I4=true)∧(PySem.W.typeIn K (.ref I4)=some (.type "type"))∧(PySem.W.subIn K (.ref X_BadLabels) (.ref I4)=some false)∧((Value.ref X_BadLabels==Value.ref I4)=false)
abbrev Bz_i5 (K:PySem.W.Frag) (X_BadStop:Addr):Prop:= ∃ (I5:Addr),(PySem.W.nsIn K mainGlobals "BadShown"=some (some (.ref I5)))∧(PySem.W.hasDictIn K I5=true)∧(PySem.W.typeIn K (.ref I5)=some (.type "type"))∧(PySem.W.subIn K (.ref X_BadStop) (.ref I5)=some false)∧((Value.ref X_BadStop==Value.ref I5)=false)
abbrev Bz_i6 (K:PySem.W.Frag) (X_BadShown:Addr):Prop:= ∃ (I6:Addr),(PySem.W.nsIn K mainGlobals "BadStop"=some (some (.ref I6)))∧(PySem.W.hasDictIn K I6=true)∧(PySem.W.typeIn K (.ref I6)=some (.type "type"))∧(PySem.W.subIn K (.ref X_BadShown) (.ref I6)=some false)∧((Value.ref X_BadShown==Value.ref I6)=false)
abbrev Bz_i7 (K:PySem.W.Frag) (X_BadValues:Addr):Prop:= ∃ (I7:Addr),(PySem.W.nsIn K mainGlobals "BadRow"=some (some (.ref I7)))∧(PySem.W.hasDictIn K I7=true)∧(PySem.W.typeIn K (.ref I7)=some (.type "type"))∧(PySem.W.subIn K (.ref X_BadValues) (.ref I7)=some false)∧((Value.ref X_BadValues==Value.ref I7)=false)
abbrev Bz_i8 (K:PySem.W.Frag) (X_BadShape:Addr):Prop:= ∃ (I8:Addr),(PySem.W.nsIn K mainGlobals "BadMark"=some (some (.ref I8)))∧(PySem.W.hasDictIn K I8=true)∧(PySem.W.typeIn K (.ref I8)=some (.type "type"))∧(PySem.W.subIn K (.ref X_BadShape) (.ref I8)=some false)∧((Value.ref X_BadShape==Value.ref I8)=false)
abbrev Bz_i9 (K:PySem.W.Frag) (X_BadMark:Addr):Prop:= ∃ (I9:Addr),(PySem.W.nsIn K mainGlobals "BadShape"=some (some (.ref I9)))∧(PySem.W.hasDictIn K I9=true)∧(PySem.W.typeIn K (.ref I9)=some (.type "type"))∧(PySem.W.subIn K (.ref X_BadMark) (.ref I9)=some false)∧((Value.ref X_BadMark==Value.ref I9)=false)
abbrev Bz_i10 (K:PySem.W.Frag) (X_BadOption:Addr):Prop:= ∃ (I10:Addr),(PySem.W.nsIn K mainGlobals "BadWish"=some (some (.ref I10)))∧(PySem.W.hasDictIn K I10=true)∧(PySem.W.typeIn K (.ref I10)=some (.type "type"))∧(PySem.W.subIn K (.ref X_BadOption) (.ref I10)=some false)∧((Value.ref X_BadOption==Value.ref I10)=false)
abbrev Bz_i11 (K:PySem.W.Frag) (X_BadWish:Addr):Prop:= ∃ (I11:Addr),(PySem.W.nsIn K mainGlobals "BadOption"=some (some (.ref I11)))∧(PySem.W.hasDictIn K I11=true)∧(PySem.W.typeIn K (.ref I11)=some (.type "type"))∧(PySem.W.subIn K (.ref X_BadWish) (.ref I11)=some false)∧((Value.ref X_BadWish==Value.ref I11)=false)
abbrev Bz_i12 (K:PySem.W.Frag) (X_BadTable:Addr):Prop:= ∃ (I12:Addr),(PySem.W.nsIn K mainGlobals "BadFrame"=some (some (.ref I12)))∧(PySem.W.hasDictIn K I12=true)∧(PySem.W.typeIn K (.ref I12)=some (.type "type"))∧(PySem.W.subIn K (.ref X_BadTable) (.ref I12)=some false)∧((Value.ref X_BadTable==Value.ref I12)=false)
abbrev Bz_i13 (K:PySem.W.Frag) (X_BadFrame:Addr):Prop:= ∃ (I13:Addr),(PySem.W.nsIn K mainGlobals "BadTable"=some (some (.ref I13)))∧(PySem.W.hasDictIn K I13=true)∧(PySem.W.typeIn K (.ref I13)=some (.type "type"))∧(PySem.W.subIn K (.ref X_BadFrame) (.ref I13)=some false)∧((Value.ref X_BadFrame==Value.ref I13)=false)
abbrev Bz_i14 (K:PySem.W.Frag) (X_BadText:Addr):Prop:= ∃ (I14:Addr),(PySem.W.nsIn K mainGlobals "BadLine"=some (some (.ref I14)))∧(PySem.W.hasDictIn K I14=true)∧(PySem.W.typeIn K (.ref I14)=some (.type "type"))∧(PySem.W.subIn K (.ref X_BadText) (.ref I14)=some false)∧((Value.ref X_BadText==Value.ref I14)=false)
abbrev Bz_i15 (K:PySem.W.Frag) (X_BadLine:Addr):Prop:= ∃ (I15:Addr),(PySem.W.nsIn K mainGlobals "BadText"=some (some (.ref I15)))∧(PySem.W.hasDictIn K I15=true)∧(PySem.W.typeIn K (.ref I15)=some (.type "type"))∧(PySem.W.subIn K (.ref X_BadLine) (.ref I15)=some false)∧((Value.ref X_BadLine==Value.ref I15)=false)
abbrev Bz_i16 (K:PySem.W.Frag) (X_BadTruth:Addr):Prop:= ∃ (I16:Addr),(PySem.W.nsIn K mainGlobals "Untrue"=some (some (.ref I16)))∧(PySem.W.hasDictIn K I16=true)∧(PySem.W.typeIn K (.ref I16)=some (.type "type"))∧(PySem.W.subIn K (.ref X_BadTruth) (.ref I16)=some false)∧((Value.ref X_BadTruth==Value.ref I16)=false)
abbrev Bz_i17 (K:PySem.W.Frag) (X_Untrue:Addr):Prop:= ∃ (I17:Addr),(PySem.W.nsIn K mainGlobals "BadShown"=some (some (.ref I17)))∧(PySem.W.hasDictIn K I17=true)∧(PySem.W.typeIn K (.ref I17)=some (.type "type"))∧(PySem.W.subIn K (.ref X_Untrue) (.ref I17)=some false)∧((Value.ref X_Untrue==Value.ref I17)=false)
abbrev Bz_i18 (K:PySem.W.Frag) (X_NothingToUndo:Addr):Prop:=(PySem.W.nsIn K mainGlobals "RuntimeError"=some none)∧(PySem.W.subIn K (.ref X_NothingToUndo) (.type "RuntimeError")=some true)
abbrev Bz_i19 (K:PySem.W.Frag) (X_NothingToUndo:Addr):Prop:= ∃ (I19:Addr),(PySem.W.nsIn K mainGlobals "ShownError"=some (some (.ref I19)))∧(PySem.W.hasDictIn K I19=true)∧(PySem.W.typeIn K (.ref I19)=some (.type "type"))∧(PySem.W.subIn K (.ref X_NothingToUndo) (.ref I19)=some false)∧((Value.ref X_NothingToUndo==Value.ref I19)=false)
abbrev Bz_i20 (K:PySem.W.Frag) (X_BadRow:Addr):Prop:= ∃ (I20:Addr),(PySem.W.nsIn K mainGlobals "ShownError"=some (some (.ref I20)))∧(PySem.W.hasDictIn K I20=true)∧(PySem.W.typeIn K (.ref I20)=some (.type "type"))∧(PySem.W.subIn K (.ref X_BadRow) (.ref I20)=some true)∧((Value.ref X_BadRow==Value.ref I20)=false)
abbrev Bz_i21 (K:PySem.W.Frag) (X_BadRow:Addr):Prop:=(PySem.W.nsIn K mainGlobals "ValueError"=some none)∧(PySem.W.subIn K (.ref X_BadRow) (.type "ValueError")=some true)
abbrev Bz_i22 (K:PySem.W.Frag) (X_BadBlock:Addr):Prop:= ∃ (I22:Addr),(PySem.W.nsIn K mainGlobals "ShownError"=some (some (.ref I22)))∧(PySem.W.hasDictIn K I22=true)∧(PySem.W.typeIn K (.ref I22)=some (.type "type"))∧(PySem.W.subIn K (.ref X_BadBlock) (.ref I22)=some true)∧((Value.ref X_BadBlock==Value.ref I22)=false)
abbrev Bz_i23 (K:PySem.W.Frag) (X_BadBlock:Addr):Prop:=(PySem.W.nsIn K mainGlobals "ValueError"=some none)∧(PySem.W.subIn K (.ref X_BadBlock) (.type "ValueError")=some true)
abbrev Bz_i24 (K:PySem.W.Frag) (X_BadInput:Addr):Prop:= ∃ (I24:Addr),(PySem.W.nsIn K mainGlobals "ShownError"=some (some (.ref I24)))∧(PySem.W.hasDictIn K I24=true)∧(PySem.W.typeIn K (.ref I24)=some (.type "type"))∧(PySem.W.subIn K (.ref X_BadInput) (.ref I24)=some true)∧((Value.ref X_BadInput==Value.ref I24)=false)
abbrev Bz_i25 (K:PySem.W.Frag) (X_BadInput:Addr):Prop:=(PySem.W.nsIn K mainGlobals "ValueError"=some none)∧(PySem.W.subIn K (.ref X_BadInput) (.type "ValueError")=some true)
abbrev Bz_i26 (K:PySem.W.Frag) (X_BadWay:Addr):Prop:= ∃ (I26:Addr),(PySem.W.nsIn K mainGlobals "ShownError"=some (some (.ref I26)))∧(PySem.W.hasDictIn K I26=true)∧(PySem.W.typeIn K (.ref I26)=some (.type "type"))∧(PySem.W.subIn K (.ref X_BadWay) (.ref I26)=some true)∧((Value.ref X_BadWay==Value.ref I26)=false)
abbrev Bz_i27 (K:PySem.W.Frag) (X_BadWay:Addr):Prop:=(PySem.W.nsIn K mainGlobals "ValueError"=some none)∧(PySem.W.subIn K (.ref X_BadWay) (.type "ValueError")=some true)
abbrev Bz_i28 (K:PySem.W.Frag) (X_BadLabels:Addr):Prop:= ∃ (I28:Addr),(PySem.W.nsIn K mainGlobals "ShownError"=some (some (.ref I28)))∧(PySem.W.hasDictIn K I28=true)∧(PySem.W.typeIn K (.ref I28)=some (.type "type"))∧(PySem.W.subIn K (.ref X_BadLabels) (.ref I28)=some true)∧((Value.ref X_BadLabels==Value.ref I28)=false)
abbrev Bz_i29 (K:PySem.W.Frag) (X_BadLabels:Addr):Prop:=(PySem.W.nsIn K mainGlobals "ValueError"=some none)∧(PySem.W.subIn K (.ref X_BadLabels) (.type "ValueError")=some true)
abbrev Bz_i30 (K:PySem.W.Frag) (X_BadStop:Addr):Prop:= ∃ (I30:Addr),(PySem.W.nsIn K mainGlobals "ShownError"=some (some (.ref I30)))∧(PySem.W.hasDictIn K I30=true)∧(PySem.W.typeIn K (.ref I30)=some (.type "type"))∧(PySem.W.subIn K (.ref X_BadStop) (.ref I30)=some true)∧((Value.ref X_BadStop==Value.ref I30)=false)
abbrev Bz_i31 (K:PySem.W.Frag) (X_BadStop:Addr):Prop:=(PySem.W.nsIn K mainGlobals "ValueError"=some none)∧(PySem.W.subIn K (.ref X_BadStop) (.type "ValueError")=some true)
abbrev Bz_i32 (K:PySem.W.Frag) (X_BadShown:Addr):Prop:= ∃ (I32:Addr),(PySem.W.nsIn K mainGlobals "ShownError"=some (some (.ref I32)))∧(PySem.W.hasDictIn K I32=true)∧(PySem.W.typeIn K (.ref I32)=some (.type "type"))∧(PySem.W.subIn K (.ref X_BadShown) (.ref I32)=some true)∧((Value.ref X_BadShown==Value.ref I32)=false)
abbrev Bz_i33 (K:PySem.W.Frag) (X_BadShown:Addr):Prop:=(PySem.W.nsIn K mainGlobals "ValueError"=some none)∧(PySem.W.subIn K (.ref X_BadShown) (.type "ValueError")=some true)
abbrev Bz_i34 (K:PySem.W.Frag) (X_BadValues:Addr):Prop:= ∃ (I34:Addr),(PySem.W.nsIn K mainGlobals "ShownError"=some (some (.ref I34)))∧(PySem.W.hasDictIn K I34=true)∧(PySem.W.typeIn K (.ref I34)=some (.type "type"))∧(PySem.W.subIn K (.ref X_BadValues) (.ref I34)=some true)∧((Value.ref X_BadValues==Value.ref I34)=false)
abbrev Bz_i35 (K:PySem.W.Frag) (X_BadValues:Addr):Prop:=(PySem.W.nsIn K mainGlobals "ValueError"=some none)∧(PySem.W.subIn K (.ref X_BadValues) (.type "ValueError")=some true)
abbrev Bz_i36 (K:PySem.W.Frag) (X_BadShape:Addr):Prop:= ∃ (I36:Addr),(PySem.W.nsIn K mainGlobals "ShownError"=some (some (.ref I36)))∧(PySem.W.hasDictIn K I36=true)∧(PySem.W.typeIn K (.ref I36)=some (.type "type"))∧(PySem.W.subIn K (.ref X_BadShape) (.ref I36)=some true)∧((Value.ref X_BadShape==Value.ref I36)=false)
abbrev Bz_i37 (K:PySem.W.Frag) (X_BadShape:Addr):Prop:=(PySem.W.nsIn K mainGlobals "ValueError"=some none)∧(PySem.W.subIn K (.ref X_BadShape) (.type "ValueError")=some true)
abbrev Bz_i38 (K:PySem.W.Frag) (X_BadMark:Addr):Prop:= ∃ (I38:Addr),(PySem.W.nsIn K mainGlobals "ShownError"=some (some (.ref I38)))∧(PySem.W.hasDictIn K I38=true)∧(PySem.W.typeIn K (.ref I38)=some (.type "type"))∧(PySem.W.subIn K (.ref X_BadMark) (.ref I38)=some true)∧((Value.ref X_BadMark==Value.ref I38)=false)
abbrev Bz_i39 (K:PySem.W.Frag) (X_BadMark:Addr):Prop:=(PySem.W.nsIn K mainGlobals "ValueError"=some none)∧(PySem.W.subIn K (.ref X_BadMark) (.type "ValueError")=some true)
abbrev Bz_i40 (K:PySem.W.Frag) (X_BadOption:Addr):Prop:= ∃ (I40:Addr),(PySem.W.nsIn K mainGlobals "ShownError"=some (some (.ref I40)))∧(PySem.W.hasDictIn K I40=true)∧(PySem.W.typeIn K (.ref I40)=some (.type "type"))∧(PySem.W.subIn K (.ref X_BadOption) (.ref I40)=some true)∧((Value.ref X_BadOption==Value.ref I40)=false)
abbrev Bz_i41 (K:PySem.W.Frag) (X_BadOption:Addr):Prop:=(PySem.W.nsIn K mainGlobals "ValueError"=some none)∧(PySem.W.subIn K (.ref X_BadOption) (.type "ValueError")=some true)
abbrev Bz_i42 (K:PySem.W.Frag) (X_BadWish:Addr):Prop:= ∃ (I42:Addr),(PySem.W.nsIn K mainGlobals "ShownError"=some (some (.ref I42)))∧(PySem.W.hasDictIn K I42=true)∧(PySem.W.typeIn K (.ref I42)=some (.type "type"))∧(PySem.W.subIn K (.ref X_BadWish) (.ref I42)=some true)∧((Value.ref X_BadWish==Value.ref I42)=false)
abbrev Bz_i43 (K:PySem.W.Frag) (X_BadWish:Addr):Prop:=(PySem.W.nsIn K mainGlobals "ValueError"=some none)∧(PySem.W.subIn K (.ref X_BadWish) (.type "ValueError")=some true)
abbrev Bz_i44 (K:PySem.W.Frag) (X_BadTable:Addr):Prop:= ∃ (I44:Addr),(PySem.W.nsIn K mainGlobals "ShownError"=some (some (.ref I44)))∧(PySem.W.hasDictIn K I44=true)∧(PySem.W.typeIn K (.ref I44)=some (.type "type"))∧(PySem.W.subIn K (.ref X_BadTable) (.ref I44)=some true)∧((Value.ref X_BadTable==Value.ref I44)=false)
abbrev Bz_i45 (K:PySem.W.Frag) (X_BadTable:Addr):Prop:=(PySem.W.nsIn K mainGlobals "ValueError"=some none)∧(PySem.W.subIn K (.ref X_BadTable) (.type "ValueError")=some true)
abbrev Bz_i46 (K:PySem.W.Frag) (X_BadFrame:Addr):Prop:= ∃ (I46:Addr),(PySem.W.nsIn K mainGlobals "ShownError"=some (some (.ref I46)))∧(PySem.W.hasDictIn K I46=true)∧(PySem.W.typeIn K (.ref I46)=some (.type "type"))∧(PySem.W.subIn K (.ref X_BadFrame) (.ref I46)=some true)∧((Value.ref X_BadFrame==Value.ref I46)=false)
abbrev Bz_i47 (K:PySem.W.Frag) (X_BadFrame:Addr):Prop:=(PySem.W.nsIn K mainGlobals "ValueError"=some none)∧(PySem.W.subIn K (.ref X_BadFrame) (.type "ValueError")=some true)
abbrev Bz_i48 (K:PySem.W.Frag) (X_BadText:Addr):Prop:= ∃ (I48:Addr),(PySem.W.nsIn K mainGlobals "ShownError"=some (some (.ref I48)))∧(PySem.W.hasDictIn K I48=true)∧(PySem.W.typeIn K (.ref I48)=some (.type "type"))∧(PySem.W.subIn K (.ref X_BadText) (.ref I48)=some true)∧((Value.ref X_BadText==Value.ref I48)=false)
abbrev Bz_i49 (K:PySem.W.Frag) (X_BadText:Addr):Prop:=(PySem.W.nsIn K mainGlobals "ValueError"=some none)∧(PySem.W.subIn K (.ref X_BadText) (.type "ValueError")=some true)
abbrev Bz_i50 (K:PySem.W.Frag) (X_BadLine:Addr):Prop:= ∃ (I50:Addr),(PySem.W.nsIn K mainGlobals "ShownError"=some (some (.ref I50)))∧(PySem.W.hasDictIn K I50=true)∧(PySem.W.typeIn K (.ref I50)=some (.type "type"))∧(PySem.W.subIn K (.ref X_BadLine) (.ref I50)=some true)∧((Value.ref X_BadLine==Value.ref I50)=false)
abbrev Bz_i51 (K:PySem.W.Frag) (X_BadLine:Addr):Prop:=(PySem.W.nsIn K mainGlobals "ValueError"=some none)∧(PySem.W.subIn K (.ref X_BadLine) (.type "ValueError")=some true)
abbrev Bz_i52 (K:PySem.W.Frag) (X_BadTruth:Addr):Prop:= ∃ (I52:Addr),(PySem.W.nsIn K mainGlobals "ShownError"=some (some (.ref I52)))∧(PySem.W.hasDictIn K I52=true)∧(PySem.W.typeIn K (.ref I52)=some (.type "type"))∧(PySem.W.subIn K (.ref X_BadTruth) (.ref I52)=some true)∧((Value.ref X_BadTruth==Value.ref I52)=false)
abbrev Bz_i53 (K:PySem.W.Frag) (X_BadTruth:Addr):Prop:=(PySem.W.nsIn K mainGlobals "ValueError"=some none)∧(PySem.W.subIn K (.ref X_BadTruth) (.type "ValueError")=some true)
abbrev Bz_i54 (K:PySem.W.Frag) (X_Untrue:Addr):Prop:= ∃ (I54:Addr),(PySem.W.nsIn K mainGlobals "ShownError"=some (some (.ref I54)))∧(PySem.W.hasDictIn K I54=true)∧(PySem.W.typeIn K (.ref I54)=some (.type "type"))∧(PySem.W.subIn K (.ref X_Untrue) (.ref I54)=some true)∧((Value.ref X_Untrue==Value.ref I54)=false)
abbrev Bz_i55 (K:PySem.W.Frag) (X_Untrue:Addr):Prop:=(PySem.W.nsIn K mainGlobals "ValueError"=some none)∧(PySem.W.subIn K (.ref X_Untrue) (.type "ValueError")=some true)
abbrev Bz_i56 (K:PySem.W.Frag) (X_UnknownBlock:Addr):Prop:=(PySem.W.nsIn K mainGlobals "KeyError"=some none)∧(PySem.W.subIn K (.ref X_UnknownBlock) (.type "KeyError")=some true)
abbrev Bz_i57 (K:PySem.W.Frag) (X_UnknownName:Addr):Prop:=(PySem.W.nsIn K mainGlobals "KeyError"=some none)∧(PySem.W.subIn K (.ref X_UnknownName) (.type "KeyError")=some true)
abbrev Bz_i58 (K:PySem.W.Frag) (X_TooMany:Addr):Prop:=(PySem.W.nsIn K mainGlobals "OverflowError"=some none)∧(PySem.W.subIn K (.ref X_TooMany) (.type "OverflowError")=some true)
abbrev Bz_i59 (K:PySem.W.Frag) (X_UnknownBlock:Addr):Prop:= ∃ (I59:Addr),(PySem.W.nsIn K mainGlobals "ShownError"=some (some (.ref I59)))∧(PySem.W.hasDictIn K I59=true)∧(PySem.W.typeIn K (.ref I59)=some (.type "type"))∧(PySem.W.subIn K (.ref X_UnknownBlock) (.ref I59)=some false)∧((Value.ref X_UnknownBlock==Value.ref I59)=false)
abbrev Bz_i60 (K:PySem.W.Frag) (X_UnknownName:Addr):Prop:= ∃ (I60:Addr),(PySem.W.nsIn K mainGlobals "ShownError"=some (some (.ref I60)))∧(PySem.W.hasDictIn K I60=true)∧(PySem.W.typeIn K (.ref I60)=some (.type "type"))∧(PySem.W.subIn K (.ref X_UnknownName) (.ref I60)=some false)∧((Value.ref X_UnknownName==Value.ref I60)=false)
abbrev Bz_i61 (K:PySem.W.Frag) (X_TooMany:Addr):Prop:= ∃ (I61:Addr),(PySem.W.nsIn K mainGlobals "ShownError"=some (some (.ref I61)))∧(PySem.W.hasDictIn K I61=true)∧(PySem.W.typeIn K (.ref I61)=some (.type "type"))∧(PySem.W.subIn K (.ref X_TooMany) (.ref I61)=some false)∧((Value.ref X_TooMany==Value.ref I61)=false)
abbrev Bz_i62 (K:PySem.W.Frag) (X_UnknownBlock:Addr):Prop:= ∃ (I62:Addr),(PySem.W.nsIn K mainGlobals "UnknownName"=some (some (.ref I62)))∧(PySem.W.hasDictIn K I62=true)∧(PySem.W.typeIn K (.ref I62)=some (.type "type"))∧(PySem.W.subIn K (.ref X_UnknownBlock) (.ref I62)=some false)∧((Value.ref X_UnknownBlock==Value.ref I62)=false)
abbrev Bz_i63 (K:PySem.W.Frag) (X_UnknownName:Addr):Prop:= ∃ (I63:Addr),(PySem.W.nsIn K mainGlobals "UnknownBlock"=some (some (.ref I63)))∧(PySem.W.hasDictIn K I63=true)∧(PySem.W.typeIn K (.ref I63)=some (.type "type"))∧(PySem.W.subIn K (.ref X_UnknownName) (.ref I63)=some false)∧((Value.ref X_UnknownName==Value.ref I63)=false)
abbrev Bz_z (K:PySem.W.Frag):Prop:=(PySem.W.nsIn K mainGlobals "len"=some none)∧(PySem.W.nsIn K mainGlobals "isinstance"=some none)∧(PySem.W.nsIn K mainGlobals "all"=some none)∧(PySem.W.nsIn K mainGlobals "any"=some none)∧(PySem.W.nsIn K mainGlobals "enumerate"=some none)∧(PySem.W.nsIn K mainGlobals "range"=some none)∧(PySem.W.nsIn K mainGlobals "max"=some none)∧(PySem.W.nsIn K mainGlobals "min"=some none)∧(PySem.W.nsIn K mainGlobals "sum"=some none)∧(PySem.W.nsIn K mainGlobals "abs"=some none)∧(PySem.W.nsIn K mainGlobals "int"=some none)∧(PySem.W.nsIn K mainGlobals "str"=some none)∧(PySem.W.nsIn K mainGlobals "tuple"=some none)∧(PySem.W.nsIn K mainGlobals "list"=some none)∧(PySem.W.nsIn K mainGlobals "dict"=some none)∧(PySem.W.nsIn K mainGlobals "sorted"=some none)∧(PySem.W.nsIn K mainGlobals "repr"=some none)∧(PySem.W.nsIn K mainGlobals "zip"=some none)∧(PySem.W.nsIn K mainGlobals "set"=some none)∧(PySem.W.nsIn K mainGlobals "bool"=some none)∧(PySem.W.nsIn K mainGlobals "ValueError"=some none)∧(PySem.W.nsIn K mainGlobals "KeyError"=some none)∧(PySem.W.nsIn K mainGlobals "RuntimeError"=some none)∧(PySem.W.nsIn K mainGlobals "OverflowError"=some none)∧(PySem.W.nsIn K mainGlobals "TypeError"=some none)∧(PySem.W.nsIn K mainGlobals "iter"=some none)∧(PySem.W.nsIn K mainGlobals "reversed"=some none)
def fnL:List FnS:=[fnE "_law_pool" none (fnV "_law_pool" "_law_pool" (defArgs (hS 25)) (defBody (hS 25)) (defScope (hS 25))),
  fnE "_law_draw" none (fnV "_law_draw" "_law_draw" (defArgs (hS 26)) (defBody (hS 26)) (defScope (hS 26))),
  fnE "_law_told" none (fnV "_law_told" "_law_told" (defArgs (hS 28)) (defBody (hS 28)) (defScope (hS 28))),
  fnE "_law_later" none (fnV "_law_later" "_law_later" (defArgs (hS 29)) (defBody (hS 29)) (defScope (hS 29))),
  fnE "_law_mixed" none (fnV "_law_mixed" "_law_mixed" (defArgs (hS 30)) (defBody (hS 30)) (defScope (hS 30))),
  fnE "law" none (fnV "law" "law" (defArgs (hS 31)) (defBody (hS 31)) (defScope (hS 31))),
  fnE "BadRow" (some "__init__") (fnV "__init__" "BadRow.__init__" (defArgs (hI 2 0)) (defBody (hI 2 0)) (defScope (hI 2 0))),
  fnE "BadBlock" (some "__init__") (fnV "__init__" "BadBlock.__init__" (defArgs (hI 3 0)) (defBody (hI 3 0)) (defScope (hI 3 0))),
  fnE "BadInput" (some "__init__") (fnV "__init__" "BadInput.__init__" (defArgs (hI 4 0)) (defBody (hI 4 0)) (defScope (hI 4 0))),
  fnE "BadLabels" (some "__init__") (fnV "__init__" "BadLabels.__init__" (defArgs (hI 5 0)) (defBody (hI 5 0)) (defScope (hI 5 0))),
  fnE "BadStop" (some "__init__") (fnV "__init__" "BadStop.__init__" (defArgs (hI 6 0)) (defBody (hI 6 0)) (defScope (hI 6 0))),
  fnE "BadWay" (some "__init__") (fnV "__init__" "BadWay.__init__" (defArgs (hI 7 0)) (defBody (hI 7 0)) (defScope (hI 7 0))),
  fnE "BadShown" (some "__init__") (fnV "__init__" "BadShown.__init__" (defArgs (hI 8 0)) (defBody (hI 8 0)) (defScope (hI 8 0))),
  fnE "BadValues" (some "__init__") (fnV "__init__" "BadValues.__init__" (defArgs (hI 9 0)) (defBody (hI 9 0)) (defScope (hI 9 0))),
  fnE "BadShape" (some "__init__") (fnV "__init__" "BadShape.__init__" (defArgs (hI 10 0)) (defBody (hI 10 0)) (defScope (hI 10 0))),
  fnE "BadMark" (some "__init__") (fnV "__init__" "BadMark.__init__" (defArgs (hI 11 0)) (defBody (hI 11 0)) (defScope (hI 11 0))),
  fnE "BadOption" (some "__init__") (fnV "__init__" "BadOption.__init__" (defArgs (hI 12 0)) (defBody (hI 12 0)) (defScope (hI 12 0))),
  fnE "BadWish" (some "__init__") (fnV "__init__" "BadWish.__init__" (defArgs (hI 13 0)) (defBody (hI 13 0)) (defScope (hI 13 0))),
  fnE "BadTable" (some "__init__") (fnV "__init__" "BadTable.__init__" (defArgs (hI 14 0)) (defBody (hI 14 0)) (defScope (hI 14 0))),
  fnE "BadFrame" (some "__init__") (fnV "__init__" "BadFrame.__init__" (defArgs (hI 15 0)) (defBody (hI 15 0)) (defScope (hI 15 0))),
  fnE "BadText" (some "__init__") (fnV "__init__" "BadText.__init__" (defArgs (hI 16 0)) (defBody (hI 16 0)) (defScope (hI 16 0))),
  fnE "BadLine" (some "__init__") (fnV "__init__" "BadLine.__init__" (defArgs (hI 17 0)) (defBody (hI 17 0)) (defScope (hI 17 0))),
  fnE "BadTruth" (some "__init__") (fnV "__init__" "BadTruth.__init__" (defArgs (hI 18 0)) (defBody (hI 18 0)) (defScope (hI 18 0))),
  fnE "Untrue" (some "__init__") (fnV "__init__" "Untrue.__init__" (defArgs (hI 19 0)) (defBody (hI 19 0)) (defScope (hI 19 0))),
  fnE "UnknownBlock" (some "__init__") (fnV "__init__" "UnknownBlock.__init__" (defArgs (hI 20 0)) (defBody (hI 20 0)) (defScope (hI 20 0))),
  fnE "UnknownName" (some "__init__") (fnV "__init__" "UnknownName.__init__" (defArgs (hI 21 0)) (defBody (hI 21 0)) (defScope (hI 21 0))),
  fnE "TooMany" (some "__init__") (fnV "__init__" "TooMany.__init__" (defArgs (hI 22 0)) (defBody (hI 22 0)) (defScope (hI 22 0))),
  fnE "NothingToUndo" (some "__init__") (fnV "__init__" "NothingToUndo.__init__" (defArgs (hI 23 0)) (defBody (hI 23 0)) (defScope (hI 23 0)))]
set_option synthInstance.maxHeartbeats 0 in
set_option synthInstance.maxSize 100000 in
def okL0:List (Fg→Bool):=[fun K=>hGl K "_law_pool"&&cdB K ("_law_pool",none) "_law_pool" t0,
  fun K=>hGl K "_law_draw"&&cdB K ("_law_draw",none) "_law_draw" t0,
  fun K=>hGl K "_law_told"&&cdB K ("_law_told",none) "_law_told" t0,
  fun K=>hGl K "_law_later"&&cdB K ("_law_later",none) "_law_later" t0,
  fun K=>hGl K "_law_mixed"&&cdB K ("_law_mixed",none) "_law_mixed" t0,
  fun K=>hGl K "law"&&cdB K ("law",none) "law" t0,
  fun K=>xB K "BadRow" "index" "BadRow.__init__" "ValueError.__new__" tlV&&boB K "ShownError" "ValueError.__init__",
  fun K=>xB K "BadBlock" "index" "BadBlock.__init__" "ValueError.__new__" tlV&&boB K "ShownError" "ValueError.__init__",
  fun K=>xB K "BadInput" "index" "BadInput.__init__" "ValueError.__new__" tlV&&boB K "ShownError" "ValueError.__init__",
  fun K=>xB K "BadLabels" "block" "BadLabels.__init__" "ValueError.__new__" tlV&&boB K "ShownError" "ValueError.__init__",
  fun K=>xB K "BadStop" "stop" "BadStop.__init__" "ValueError.__new__" tlV&&boB K "ShownError" "ValueError.__init__",
  fun K=>xB K "BadWay" "index" "BadWay.__init__" "ValueError.__new__" tlV&&boB K "ShownError" "ValueError.__init__",
  fun K=>xB K "BadShown" "what" "BadShown.__init__" "ValueError.__new__" tlV&&boB K "ShownError" "ValueError.__init__",
  fun K=>xB K "BadValues" "count" "BadValues.__init__" "ValueError.__new__" tlV&&boB K "ShownError" "ValueError.__init__",
  fun K=>xB K "BadShape" "part" "BadShape.__init__" "ValueError.__new__" tlV&&boB K "ShownError" "ValueError.__init__",
  fun K=>xB K "BadMark" "mark" "BadMark.__init__" "ValueError.__new__" tlV&&boB K "ShownError" "ValueError.__init__",
  fun K=>xB K "BadOption" "option" "BadOption.__init__" "ValueError.__new__" tlV&&boB K "ShownError" "ValueError.__init__",
  fun K=>xB K "BadWish" "index" "BadWish.__init__" "ValueError.__new__" tlV&&boB K "ShownError" "ValueError.__init__",
  fun K=>xB K "BadTable" "which" "BadTable.__init__" "ValueError.__new__" tlV&&boB K "ShownError" "ValueError.__init__",
  fun K=>xB K "BadFrame" "frame" "BadFrame.__init__" "ValueError.__new__" tlV&&boB K "ShownError" "ValueError.__init__"]
set_option synthInstance.maxHeartbeats 0 in
set_option synthInstance.maxSize 100000 in
def okL1:List (Fg→Bool):=[fun K=>xB K "BadText" "line" "BadText.__init__" "ValueError.__new__" tlV&&boB K "ShownError" "ValueError.__init__",
  fun K=>xB K "BadLine" "line" "BadLine.__init__" "ValueError.__new__" tlV&&boB K "ShownError" "ValueError.__init__",
  fun K=>xB K "BadTruth" "truth" "BadTruth.__init__" "ValueError.__new__" tlV&&boB K "ShownError" "ValueError.__init__",
  fun K=>xB K "Untrue" "what" "Untrue.__init__" "ValueError.__new__" tlV&&boB K "ShownError" "ValueError.__init__",
  fun K=>xB K "UnknownBlock" "block" "UnknownBlock.__init__" "LookupError.__new__" tlK&&bbB K "KeyError" "KeyError.__init__",
  fun K=>xB K "UnknownName" "name" "UnknownName.__init__" "LookupError.__new__" tlK&&bbB K "KeyError" "KeyError.__init__",
  fun K=>xB K "TooMany" "limit" "TooMany.__init__" "OverflowError.__new__" tlO&&bbB K "OverflowError" "OverflowError.__init__",
  fun K=>xB K "NothingToUndo" "name" "NothingToUndo.__init__" "RuntimeError.__new__" tlR&&bbB K "RuntimeError" "RuntimeError.__init__",
  fun K=>decide (Bz_s_BadRow K (He.ga K "BadRow") (He.ga K "BadBlock") (He.ga K "BadInput") (He.ga K "BadLabels") (He.ga K "BadStop") (He.ga K "BadWay") (He.ga K "BadShown") (He.ga K "BadValues") (He.ga K "BadShape") (He.ga K "BadMark") (He.ga K "BadOption") (He.ga K "BadWish") (He.ga K "BadTable") (He.ga K "BadFrame") (He.ga K "BadText") (He.ga K "BadLine") (He.ga K "BadTruth") (He.ga K "Untrue") (He.ga K "UnknownBlock") (He.ga K "UnknownName") (He.ga K "TooMany") (He.ga K "NothingToUndo")),
  fun K=>decide (Bz_s_BadBlock K (He.ga K "BadRow") (He.ga K "BadBlock") (He.ga K "BadInput") (He.ga K "BadLabels") (He.ga K "BadStop") (He.ga K "BadWay") (He.ga K "BadShown") (He.ga K "BadValues") (He.ga K "BadShape") (He.ga K "BadMark") (He.ga K "BadOption") (He.ga K "BadWish") (He.ga K "BadTable") (He.ga K "BadFrame") (He.ga K "BadText") (He.ga K "BadLine") (He.ga K "BadTruth") (He.ga K "Untrue") (He.ga K "UnknownBlock") (He.ga K "UnknownName") (He.ga K "TooMany") (He.ga K "NothingToUndo")),
  fun K=>decide (Bz_s_BadInput K (He.ga K "BadRow") (He.ga K "BadBlock") (He.ga K "BadInput") (He.ga K "BadLabels") (He.ga K "BadStop") (He.ga K "BadWay") (He.ga K "BadShown") (He.ga K "BadValues") (He.ga K "BadShape") (He.ga K "BadMark") (He.ga K "BadOption") (He.ga K "BadWish") (He.ga K "BadTable") (He.ga K "BadFrame") (He.ga K "BadText") (He.ga K "BadLine") (He.ga K "BadTruth") (He.ga K "Untrue") (He.ga K "UnknownBlock") (He.ga K "UnknownName") (He.ga K "TooMany") (He.ga K "NothingToUndo")),
  fun K=>decide (Bz_s_BadLabels K (He.ga K "BadRow") (He.ga K "BadBlock") (He.ga K "BadInput") (He.ga K "BadLabels") (He.ga K "BadStop") (He.ga K "BadWay") (He.ga K "BadShown") (He.ga K "BadValues") (He.ga K "BadShape") (He.ga K "BadMark") (He.ga K "BadOption") (He.ga K "BadWish") (He.ga K "BadTable") (He.ga K "BadFrame") (He.ga K "BadText") (He.ga K "BadLine") (He.ga K "BadTruth") (He.ga K "Untrue") (He.ga K "UnknownBlock") (He.ga K "UnknownName") (He.ga K "TooMany") (He.ga K "NothingToUndo")),
  fun K=>decide (Bz_s_BadStop K (He.ga K "BadRow") (He.ga K "BadBlock") (He.ga K "BadInput") (He.ga K "BadLabels") (He.ga K "BadStop") (He.ga K "BadWay") (He.ga K "BadShown") (He.ga K "BadValues") (He.ga K "BadShape") (He.ga K "BadMark") (He.ga K "BadOption") (He.ga K "BadWish") (He.ga K "BadTable") (He.ga K "BadFrame") (He.ga K "BadText") (He.ga K "BadLine") (He.ga K "BadTruth") (He.ga K "Untrue") (He.ga K "UnknownBlock") (He.ga K "UnknownName") (He.ga K "TooMany") (He.ga K "NothingToUndo")),
  fun K=>decide (Bz_s_BadWay K (He.ga K "BadRow") (He.ga K "BadBlock") (He.ga K "BadInput") (He.ga K "BadLabels") (He.ga K "BadStop") (He.ga K "BadWay") (He.ga K "BadShown") (He.ga K "BadValues") (He.ga K "BadShape") (He.ga K "BadMark") (He.ga K "BadOption") (He.ga K "BadWish") (He.ga K "BadTable") (He.ga K "BadFrame") (He.ga K "BadText") (He.ga K "BadLine") (He.ga K "BadTruth") (He.ga K "Untrue") (He.ga K "UnknownBlock") (He.ga K "UnknownName") (He.ga K "TooMany") (He.ga K "NothingToUndo")),
  fun K=>decide (Bz_s_BadShown K (He.ga K "BadRow") (He.ga K "BadBlock") (He.ga K "BadInput") (He.ga K "BadLabels") (He.ga K "BadStop") (He.ga K "BadWay") (He.ga K "BadShown") (He.ga K "BadValues") (He.ga K "BadShape") (He.ga K "BadMark") (He.ga K "BadOption") (He.ga K "BadWish") (He.ga K "BadTable") (He.ga K "BadFrame") (He.ga K "BadText") (He.ga K "BadLine") (He.ga K "BadTruth") (He.ga K "Untrue") (He.ga K "UnknownBlock") (He.ga K "UnknownName") (He.ga K "TooMany") (He.ga K "NothingToUndo")),
  fun K=>decide (Bz_s_BadValues K (He.ga K "BadRow") (He.ga K "BadBlock") (He.ga K "BadInput") (He.ga K "BadLabels") (He.ga K "BadStop") (He.ga K "BadWay") (He.ga K "BadShown") (He.ga K "BadValues") (He.ga K "BadShape") (He.ga K "BadMark") (He.ga K "BadOption") (He.ga K "BadWish") (He.ga K "BadTable") (He.ga K "BadFrame") (He.ga K "BadText") (He.ga K "BadLine") (He.ga K "BadTruth") (He.ga K "Untrue") (He.ga K "UnknownBlock") (He.ga K "UnknownName") (He.ga K "TooMany") (He.ga K "NothingToUndo")),
  fun K=>decide (Bz_s_BadShape K (He.ga K "BadRow") (He.ga K "BadBlock") (He.ga K "BadInput") (He.ga K "BadLabels") (He.ga K "BadStop") (He.ga K "BadWay") (He.ga K "BadShown") (He.ga K "BadValues") (He.ga K "BadShape") (He.ga K "BadMark") (He.ga K "BadOption") (He.ga K "BadWish") (He.ga K "BadTable") (He.ga K "BadFrame") (He.ga K "BadText") (He.ga K "BadLine") (He.ga K "BadTruth") (He.ga K "Untrue") (He.ga K "UnknownBlock") (He.ga K "UnknownName") (He.ga K "TooMany") (He.ga K "NothingToUndo")),
  fun K=>decide (Bz_s_BadMark K (He.ga K "BadRow") (He.ga K "BadBlock") (He.ga K "BadInput") (He.ga K "BadLabels") (He.ga K "BadStop") (He.ga K "BadWay") (He.ga K "BadShown") (He.ga K "BadValues") (He.ga K "BadShape") (He.ga K "BadMark") (He.ga K "BadOption") (He.ga K "BadWish") (He.ga K "BadTable") (He.ga K "BadFrame") (He.ga K "BadText") (He.ga K "BadLine") (He.ga K "BadTruth") (He.ga K "Untrue") (He.ga K "UnknownBlock") (He.ga K "UnknownName") (He.ga K "TooMany") (He.ga K "NothingToUndo")),
  fun K=>decide (Bz_s_BadOption K (He.ga K "BadRow") (He.ga K "BadBlock") (He.ga K "BadInput") (He.ga K "BadLabels") (He.ga K "BadStop") (He.ga K "BadWay") (He.ga K "BadShown") (He.ga K "BadValues") (He.ga K "BadShape") (He.ga K "BadMark") (He.ga K "BadOption") (He.ga K "BadWish") (He.ga K "BadTable") (He.ga K "BadFrame") (He.ga K "BadText") (He.ga K "BadLine") (He.ga K "BadTruth") (He.ga K "Untrue") (He.ga K "UnknownBlock") (He.ga K "UnknownName") (He.ga K "TooMany") (He.ga K "NothingToUndo")),
  fun K=>decide (Bz_s_BadWish K (He.ga K "BadRow") (He.ga K "BadBlock") (He.ga K "BadInput") (He.ga K "BadLabels") (He.ga K "BadStop") (He.ga K "BadWay") (He.ga K "BadShown") (He.ga K "BadValues") (He.ga K "BadShape") (He.ga K "BadMark") (He.ga K "BadOption") (He.ga K "BadWish") (He.ga K "BadTable") (He.ga K "BadFrame") (He.ga K "BadText") (He.ga K "BadLine") (He.ga K "BadTruth") (He.ga K "Untrue") (He.ga K "UnknownBlock") (He.ga K "UnknownName") (He.ga K "TooMany") (He.ga K "NothingToUndo"))]
set_option synthInstance.maxHeartbeats 0 in
set_option synthInstance.maxSize 100000 in
def okL2:List (Fg→Bool):=[fun K=>decide (Bz_s_BadTable K (He.ga K "BadRow") (He.ga K "BadBlock") (He.ga K "BadInput") (He.ga K "BadLabels") (He.ga K "BadStop") (He.ga K "BadWay") (He.ga K "BadShown") (He.ga K "BadValues") (He.ga K "BadShape") (He.ga K "BadMark") (He.ga K "BadOption") (He.ga K "BadWish") (He.ga K "BadTable") (He.ga K "BadFrame") (He.ga K "BadText") (He.ga K "BadLine") (He.ga K "BadTruth") (He.ga K "Untrue") (He.ga K "UnknownBlock") (He.ga K "UnknownName") (He.ga K "TooMany") (He.ga K "NothingToUndo")),
  fun K=>decide (Bz_s_BadFrame K (He.ga K "BadRow") (He.ga K "BadBlock") (He.ga K "BadInput") (He.ga K "BadLabels") (He.ga K "BadStop") (He.ga K "BadWay") (He.ga K "BadShown") (He.ga K "BadValues") (He.ga K "BadShape") (He.ga K "BadMark") (He.ga K "BadOption") (He.ga K "BadWish") (He.ga K "BadTable") (He.ga K "BadFrame") (He.ga K "BadText") (He.ga K "BadLine") (He.ga K "BadTruth") (He.ga K "Untrue") (He.ga K "UnknownBlock") (He.ga K "UnknownName") (He.ga K "TooMany") (He.ga K "NothingToUndo")),
  fun K=>decide (Bz_s_BadText K (He.ga K "BadRow") (He.ga K "BadBlock") (He.ga K "BadInput") (He.ga K "BadLabels") (He.ga K "BadStop") (He.ga K "BadWay") (He.ga K "BadShown") (He.ga K "BadValues") (He.ga K "BadShape") (He.ga K "BadMark") (He.ga K "BadOption") (He.ga K "BadWish") (He.ga K "BadTable") (He.ga K "BadFrame") (He.ga K "BadText") (He.ga K "BadLine") (He.ga K "BadTruth") (He.ga K "Untrue") (He.ga K "UnknownBlock") (He.ga K "UnknownName") (He.ga K "TooMany") (He.ga K "NothingToUndo")),
  fun K=>decide (Bz_s_BadLine K (He.ga K "BadRow") (He.ga K "BadBlock") (He.ga K "BadInput") (He.ga K "BadLabels") (He.ga K "BadStop") (He.ga K "BadWay") (He.ga K "BadShown") (He.ga K "BadValues") (He.ga K "BadShape") (He.ga K "BadMark") (He.ga K "BadOption") (He.ga K "BadWish") (He.ga K "BadTable") (He.ga K "BadFrame") (He.ga K "BadText") (He.ga K "BadLine") (He.ga K "BadTruth") (He.ga K "Untrue") (He.ga K "UnknownBlock") (He.ga K "UnknownName") (He.ga K "TooMany") (He.ga K "NothingToUndo")),
  fun K=>decide (Bz_s_BadTruth K (He.ga K "BadRow") (He.ga K "BadBlock") (He.ga K "BadInput") (He.ga K "BadLabels") (He.ga K "BadStop") (He.ga K "BadWay") (He.ga K "BadShown") (He.ga K "BadValues") (He.ga K "BadShape") (He.ga K "BadMark") (He.ga K "BadOption") (He.ga K "BadWish") (He.ga K "BadTable") (He.ga K "BadFrame") (He.ga K "BadText") (He.ga K "BadLine") (He.ga K "BadTruth") (He.ga K "Untrue") (He.ga K "UnknownBlock") (He.ga K "UnknownName") (He.ga K "TooMany") (He.ga K "NothingToUndo")),
  fun K=>decide (Bz_s_Untrue K (He.ga K "BadRow") (He.ga K "BadBlock") (He.ga K "BadInput") (He.ga K "BadLabels") (He.ga K "BadStop") (He.ga K "BadWay") (He.ga K "BadShown") (He.ga K "BadValues") (He.ga K "BadShape") (He.ga K "BadMark") (He.ga K "BadOption") (He.ga K "BadWish") (He.ga K "BadTable") (He.ga K "BadFrame") (He.ga K "BadText") (He.ga K "BadLine") (He.ga K "BadTruth") (He.ga K "Untrue") (He.ga K "UnknownBlock") (He.ga K "UnknownName") (He.ga K "TooMany") (He.ga K "NothingToUndo")),
  fun K=>decide (Bz_s_UnknownBlock K (He.ga K "BadRow") (He.ga K "BadBlock") (He.ga K "BadInput") (He.ga K "BadLabels") (He.ga K "BadStop") (He.ga K "BadWay") (He.ga K "BadShown") (He.ga K "BadValues") (He.ga K "BadShape") (He.ga K "BadMark") (He.ga K "BadOption") (He.ga K "BadWish") (He.ga K "BadTable") (He.ga K "BadFrame") (He.ga K "BadText") (He.ga K "BadLine") (He.ga K "BadTruth") (He.ga K "Untrue") (He.ga K "UnknownBlock") (He.ga K "UnknownName") (He.ga K "TooMany") (He.ga K "NothingToUndo")),
  fun K=>decide (Bz_s_UnknownName K (He.ga K "BadRow") (He.ga K "BadBlock") (He.ga K "BadInput") (He.ga K "BadLabels") (He.ga K "BadStop") (He.ga K "BadWay") (He.ga K "BadShown") (He.ga K "BadValues") (He.ga K "BadShape") (He.ga K "BadMark") (He.ga K "BadOption") (He.ga K "BadWish") (He.ga K "BadTable") (He.ga K "BadFrame") (He.ga K "BadText") (He.ga K "BadLine") (He.ga K "BadTruth") (He.ga K "Untrue") (He.ga K "UnknownBlock") (He.ga K "UnknownName") (He.ga K "TooMany") (He.ga K "NothingToUndo")),
  fun K=>decide (Bz_s_TooMany K (He.ga K "BadRow") (He.ga K "BadBlock") (He.ga K "BadInput") (He.ga K "BadLabels") (He.ga K "BadStop") (He.ga K "BadWay") (He.ga K "BadShown") (He.ga K "BadValues") (He.ga K "BadShape") (He.ga K "BadMark") (He.ga K "BadOption") (He.ga K "BadWish") (He.ga K "BadTable") (He.ga K "BadFrame") (He.ga K "BadText") (He.ga K "BadLine") (He.ga K "BadTruth") (He.ga K "Untrue") (He.ga K "UnknownBlock") (He.ga K "UnknownName") (He.ga K "TooMany") (He.ga K "NothingToUndo")),
  fun K=>decide (Bz_s_NothingToUndo K (He.ga K "BadRow") (He.ga K "BadBlock") (He.ga K "BadInput") (He.ga K "BadLabels") (He.ga K "BadStop") (He.ga K "BadWay") (He.ga K "BadShown") (He.ga K "BadValues") (He.ga K "BadShape") (He.ga K "BadMark") (He.ga K "BadOption") (He.ga K "BadWish") (He.ga K "BadTable") (He.ga K "BadFrame") (He.ga K "BadText") (He.ga K "BadLine") (He.ga K "BadTruth") (He.ga K "Untrue") (He.ga K "UnknownBlock") (He.ga K "UnknownName") (He.ga K "TooMany") (He.ga K "NothingToUndo")),
  fun K=>decide ((PySem.W.nsIn K mainGlobals "BadBlock"=some (some (.ref (He.ga K "BadBlock"))))∧(PySem.W.hasDictIn K (He.ga K "BadBlock")=true)∧(PySem.W.typeIn K (.ref (He.ga K "BadBlock"))=some (.type "type"))∧(PySem.W.subIn K (.ref (He.ga K "BadRow")) (.ref (He.ga K "BadBlock"))=some false)∧((Value.ref (He.ga K "BadRow")==Value.ref (He.ga K "BadBlock"))=false)),
  fun K=>decide ((PySem.W.nsIn K mainGlobals "BadRow"=some (some (.ref (He.ga K "BadRow"))))∧(PySem.W.hasDictIn K (He.ga K "BadRow")=true)∧(PySem.W.typeIn K (.ref (He.ga K "BadRow"))=some (.type "type"))∧(PySem.W.subIn K (.ref (He.ga K "BadBlock")) (.ref (He.ga K "BadRow"))=some false)∧((Value.ref (He.ga K "BadBlock")==Value.ref (He.ga K "BadRow"))=false)),
  fun K=>decide ((PySem.W.nsIn K mainGlobals "BadWay"=some (some (.ref (He.ga K "BadWay"))))∧(PySem.W.hasDictIn K (He.ga K "BadWay")=true)∧(PySem.W.typeIn K (.ref (He.ga K "BadWay"))=some (.type "type"))∧(PySem.W.subIn K (.ref (He.ga K "BadInput")) (.ref (He.ga K "BadWay"))=some false)∧((Value.ref (He.ga K "BadInput")==Value.ref (He.ga K "BadWay"))=false)),
  fun K=>decide ((PySem.W.nsIn K mainGlobals "BadInput"=some (some (.ref (He.ga K "BadInput"))))∧(PySem.W.hasDictIn K (He.ga K "BadInput")=true)∧(PySem.W.typeIn K (.ref (He.ga K "BadInput"))=some (.type "type"))∧(PySem.W.subIn K (.ref (He.ga K "BadWay")) (.ref (He.ga K "BadInput"))=some false)∧((Value.ref (He.ga K "BadWay")==Value.ref (He.ga K "BadInput"))=false)),
  fun K=>decide ((PySem.W.nsIn K mainGlobals "BadStop"=some (some (.ref (He.ga K "BadStop"))))∧(PySem.W.hasDictIn K (He.ga K "BadStop")=true)∧(PySem.W.typeIn K (.ref (He.ga K "BadStop"))=some (.type "type"))∧(PySem.W.subIn K (.ref (He.ga K "BadLabels")) (.ref (He.ga K "BadStop"))=some false)∧((Value.ref (He.ga K "BadLabels")==Value.ref (He.ga K "BadStop"))=false)),
  fun K=>decide ((PySem.W.nsIn K mainGlobals "BadShown"=some (some (.ref (He.ga K "BadShown"))))∧(PySem.W.hasDictIn K (He.ga K "BadShown")=true)∧(PySem.W.typeIn K (.ref (He.ga K "BadShown"))=some (.type "type"))∧(PySem.W.subIn K (.ref (He.ga K "BadStop")) (.ref (He.ga K "BadShown"))=some false)∧((Value.ref (He.ga K "BadStop")==Value.ref (He.ga K "BadShown"))=false)),
  fun K=>decide ((PySem.W.nsIn K mainGlobals "BadStop"=some (some (.ref (He.ga K "BadStop"))))∧(PySem.W.hasDictIn K (He.ga K "BadStop")=true)∧(PySem.W.typeIn K (.ref (He.ga K "BadStop"))=some (.type "type"))∧(PySem.W.subIn K (.ref (He.ga K "BadShown")) (.ref (He.ga K "BadStop"))=some false)∧((Value.ref (He.ga K "BadShown")==Value.ref (He.ga K "BadStop"))=false)),
  fun K=>decide ((PySem.W.nsIn K mainGlobals "BadRow"=some (some (.ref (He.ga K "BadRow"))))∧(PySem.W.hasDictIn K (He.ga K "BadRow")=true)∧(PySem.W.typeIn K (.ref (He.ga K "BadRow"))=some (.type "type"))∧(PySem.W.subIn K (.ref (He.ga K "BadValues")) (.ref (He.ga K "BadRow"))=some false)∧((Value.ref (He.ga K "BadValues")==Value.ref (He.ga K "BadRow"))=false)),
  fun K=>decide ((PySem.W.nsIn K mainGlobals "BadMark"=some (some (.ref (He.ga K "BadMark"))))∧(PySem.W.hasDictIn K (He.ga K "BadMark")=true)∧(PySem.W.typeIn K (.ref (He.ga K "BadMark"))=some (.type "type"))∧(PySem.W.subIn K (.ref (He.ga K "BadShape")) (.ref (He.ga K "BadMark"))=some false)∧((Value.ref (He.ga K "BadShape")==Value.ref (He.ga K "BadMark"))=false)),
  fun K=>decide ((PySem.W.nsIn K mainGlobals "BadShape"=some (some (.ref (He.ga K "BadShape"))))∧(PySem.W.hasDictIn K (He.ga K "BadShape")=true)∧(PySem.W.typeIn K (.ref (He.ga K "BadShape"))=some (.type "type"))∧(PySem.W.subIn K (.ref (He.ga K "BadMark")) (.ref (He.ga K "BadShape"))=some false)∧((Value.ref (He.ga K "BadMark")==Value.ref (He.ga K "BadShape"))=false))]
set_option synthInstance.maxHeartbeats 0 in
set_option synthInstance.maxSize 100000 in
def okL3:List (Fg→Bool):=[fun K=>decide ((PySem.W.nsIn K mainGlobals "BadWish"=some (some (.ref (He.ga K "BadWish"))))∧(PySem.W.hasDictIn K (He.ga K "BadWish")=true)∧(PySem.W.typeIn K (.ref (He.ga K "BadWish"))=some (.type "type"))∧(PySem.W.subIn K (.ref (He.ga K "BadOption")) (.ref (He.ga K "BadWish"))=some false)∧((Value.ref (He.ga K "BadOption")==Value.ref (He.ga K "BadWish"))=false)),
  fun K=>decide ((PySem.W.nsIn K mainGlobals "BadOption"=some (some (.ref (He.ga K "BadOption"))))∧(PySem.W.hasDictIn K (He.ga K "BadOption")=true)∧(PySem.W.typeIn K (.ref (He.ga K "BadOption"))=some (.type "type"))∧(PySem.W.subIn K (.ref (He.ga K "BadWish")) (.ref (He.ga K "BadOption"))=some false)∧((Value.ref (He.ga K "BadWish")==Value.ref (He.ga K "BadOption"))=false)),
  fun K=>decide ((PySem.W.nsIn K mainGlobals "BadFrame"=some (some (.ref (He.ga K "BadFrame"))))∧(PySem.W.hasDictIn K (He.ga K "BadFrame")=true)∧(PySem.W.typeIn K (.ref (He.ga K "BadFrame"))=some (.type "type"))∧(PySem.W.subIn K (.ref (He.ga K "BadTable")) (.ref (He.ga K "BadFrame"))=some false)∧((Value.ref (He.ga K "BadTable")==Value.ref (He.ga K "BadFrame"))=false)),
  fun K=>decide ((PySem.W.nsIn K mainGlobals "BadTable"=some (some (.ref (He.ga K "BadTable"))))∧(PySem.W.hasDictIn K (He.ga K "BadTable")=true)∧(PySem.W.typeIn K (.ref (He.ga K "BadTable"))=some (.type "type"))∧(PySem.W.subIn K (.ref (He.ga K "BadFrame")) (.ref (He.ga K "BadTable"))=some false)∧((Value.ref (He.ga K "BadFrame")==Value.ref (He.ga K "BadTable"))=false)),
  fun K=>decide ((PySem.W.nsIn K mainGlobals "BadLine"=some (some (.ref (He.ga K "BadLine"))))∧(PySem.W.hasDictIn K (He.ga K "BadLine")=true)∧(PySem.W.typeIn K (.ref (He.ga K "BadLine"))=some (.type "type"))∧(PySem.W.subIn K (.ref (He.ga K "BadText")) (.ref (He.ga K "BadLine"))=some false)∧((Value.ref (He.ga K "BadText")==Value.ref (He.ga K "BadLine"))=false)),
  fun K=>decide ((PySem.W.nsIn K mainGlobals "BadText"=some (some (.ref (He.ga K "BadText"))))∧(PySem.W.hasDictIn K (He.ga K "BadText")=true)∧(PySem.W.typeIn K (.ref (He.ga K "BadText"))=some (.type "type"))∧(PySem.W.subIn K (.ref (He.ga K "BadLine")) (.ref (He.ga K "BadText"))=some false)∧((Value.ref (He.ga K "BadLine")==Value.ref (He.ga K "BadText"))=false)),
  fun K=>decide ((PySem.W.nsIn K mainGlobals "Untrue"=some (some (.ref (He.ga K "Untrue"))))∧(PySem.W.hasDictIn K (He.ga K "Untrue")=true)∧(PySem.W.typeIn K (.ref (He.ga K "Untrue"))=some (.type "type"))∧(PySem.W.subIn K (.ref (He.ga K "BadTruth")) (.ref (He.ga K "Untrue"))=some false)∧((Value.ref (He.ga K "BadTruth")==Value.ref (He.ga K "Untrue"))=false)),
  fun K=>decide ((PySem.W.nsIn K mainGlobals "BadShown"=some (some (.ref (He.ga K "BadShown"))))∧(PySem.W.hasDictIn K (He.ga K "BadShown")=true)∧(PySem.W.typeIn K (.ref (He.ga K "BadShown"))=some (.type "type"))∧(PySem.W.subIn K (.ref (He.ga K "Untrue")) (.ref (He.ga K "BadShown"))=some false)∧((Value.ref (He.ga K "Untrue")==Value.ref (He.ga K "BadShown"))=false)),
  fun K=>decide (Bz_i18 K (He.ga K "NothingToUndo")),
  fun K=>decide ((PySem.W.nsIn K mainGlobals "ShownError"=some (some (.ref (He.ga K "ShownError"))))∧(PySem.W.hasDictIn K (He.ga K "ShownError")=true)∧(PySem.W.typeIn K (.ref (He.ga K "ShownError"))=some (.type "type"))∧(PySem.W.subIn K (.ref (He.ga K "NothingToUndo")) (.ref (He.ga K "ShownError"))=some false)∧((Value.ref (He.ga K "NothingToUndo")==Value.ref (He.ga K "ShownError"))=false)),
  fun K=>decide ((PySem.W.nsIn K mainGlobals "ShownError"=some (some (.ref (He.ga K "ShownError"))))∧(PySem.W.hasDictIn K (He.ga K "ShownError")=true)∧(PySem.W.typeIn K (.ref (He.ga K "ShownError"))=some (.type "type"))∧(PySem.W.subIn K (.ref (He.ga K "BadRow")) (.ref (He.ga K "ShownError"))=some true)∧((Value.ref (He.ga K "BadRow")==Value.ref (He.ga K "ShownError"))=false)),
  fun K=>decide (Bz_i21 K (He.ga K "BadRow")),
  fun K=>decide ((PySem.W.nsIn K mainGlobals "ShownError"=some (some (.ref (He.ga K "ShownError"))))∧(PySem.W.hasDictIn K (He.ga K "ShownError")=true)∧(PySem.W.typeIn K (.ref (He.ga K "ShownError"))=some (.type "type"))∧(PySem.W.subIn K (.ref (He.ga K "BadBlock")) (.ref (He.ga K "ShownError"))=some true)∧((Value.ref (He.ga K "BadBlock")==Value.ref (He.ga K "ShownError"))=false)),
  fun K=>decide (Bz_i23 K (He.ga K "BadBlock")),
  fun K=>decide ((PySem.W.nsIn K mainGlobals "ShownError"=some (some (.ref (He.ga K "ShownError"))))∧(PySem.W.hasDictIn K (He.ga K "ShownError")=true)∧(PySem.W.typeIn K (.ref (He.ga K "ShownError"))=some (.type "type"))∧(PySem.W.subIn K (.ref (He.ga K "BadInput")) (.ref (He.ga K "ShownError"))=some true)∧((Value.ref (He.ga K "BadInput")==Value.ref (He.ga K "ShownError"))=false)),
  fun K=>decide (Bz_i25 K (He.ga K "BadInput")),
  fun K=>decide ((PySem.W.nsIn K mainGlobals "ShownError"=some (some (.ref (He.ga K "ShownError"))))∧(PySem.W.hasDictIn K (He.ga K "ShownError")=true)∧(PySem.W.typeIn K (.ref (He.ga K "ShownError"))=some (.type "type"))∧(PySem.W.subIn K (.ref (He.ga K "BadWay")) (.ref (He.ga K "ShownError"))=some true)∧((Value.ref (He.ga K "BadWay")==Value.ref (He.ga K "ShownError"))=false)),
  fun K=>decide (Bz_i27 K (He.ga K "BadWay")),
  fun K=>decide ((PySem.W.nsIn K mainGlobals "ShownError"=some (some (.ref (He.ga K "ShownError"))))∧(PySem.W.hasDictIn K (He.ga K "ShownError")=true)∧(PySem.W.typeIn K (.ref (He.ga K "ShownError"))=some (.type "type"))∧(PySem.W.subIn K (.ref (He.ga K "BadLabels")) (.ref (He.ga K "ShownError"))=some true)∧((Value.ref (He.ga K "BadLabels")==Value.ref (He.ga K "ShownError"))=false)),
  fun K=>decide (Bz_i29 K (He.ga K "BadLabels"))]
set_option synthInstance.maxHeartbeats 0 in
set_option synthInstance.maxSize 100000 in
def okL4:List (Fg→Bool):=[fun K=>decide ((PySem.W.nsIn K mainGlobals "ShownError"=some (some (.ref (He.ga K "ShownError"))))∧(PySem.W.hasDictIn K (He.ga K "ShownError")=true)∧(PySem.W.typeIn K (.ref (He.ga K "ShownError"))=some (.type "type"))∧(PySem.W.subIn K (.ref (He.ga K "BadStop")) (.ref (He.ga K "ShownError"))=some true)∧((Value.ref (He.ga K "BadStop")==Value.ref (He.ga K "ShownError"))=false)),
  fun K=>decide (Bz_i31 K (He.ga K "BadStop")),
  fun K=>decide ((PySem.W.nsIn K mainGlobals "ShownError"=some (some (.ref (He.ga K "ShownError"))))∧(PySem.W.hasDictIn K (He.ga K "ShownError")=true)∧(PySem.W.typeIn K (.ref (He.ga K "ShownError"))=some (.type "type"))∧(PySem.W.subIn K (.ref (He.ga K "BadShown")) (.ref (He.ga K "ShownError"))=some true)∧((Value.ref (He.ga K "BadShown")==Value.ref (He.ga K "ShownError"))=false)),
  fun K=>decide (Bz_i33 K (He.ga K "BadShown")),
  fun K=>decide ((PySem.W.nsIn K mainGlobals "ShownError"=some (some (.ref (He.ga K "ShownError"))))∧(PySem.W.hasDictIn K (He.ga K "ShownError")=true)∧(PySem.W.typeIn K (.ref (He.ga K "ShownError"))=some (.type "type"))∧(PySem.W.subIn K (.ref (He.ga K "BadValues")) (.ref (He.ga K "ShownError"))=some true)∧((Value.ref (He.ga K "BadValues")==Value.ref (He.ga K "ShownError"))=false)),
  fun K=>decide (Bz_i35 K (He.ga K "BadValues")),
  fun K=>decide ((PySem.W.nsIn K mainGlobals "ShownError"=some (some (.ref (He.ga K "ShownError"))))∧(PySem.W.hasDictIn K (He.ga K "ShownError")=true)∧(PySem.W.typeIn K (.ref (He.ga K "ShownError"))=some (.type "type"))∧(PySem.W.subIn K (.ref (He.ga K "BadShape")) (.ref (He.ga K "ShownError"))=some true)∧((Value.ref (He.ga K "BadShape")==Value.ref (He.ga K "ShownError"))=false)),
  fun K=>decide (Bz_i37 K (He.ga K "BadShape")),
  fun K=>decide ((PySem.W.nsIn K mainGlobals "ShownError"=some (some (.ref (He.ga K "ShownError"))))∧(PySem.W.hasDictIn K (He.ga K "ShownError")=true)∧(PySem.W.typeIn K (.ref (He.ga K "ShownError"))=some (.type "type"))∧(PySem.W.subIn K (.ref (He.ga K "BadMark")) (.ref (He.ga K "ShownError"))=some true)∧((Value.ref (He.ga K "BadMark")==Value.ref (He.ga K "ShownError"))=false)),
  fun K=>decide (Bz_i39 K (He.ga K "BadMark")),
  fun K=>decide ((PySem.W.nsIn K mainGlobals "ShownError"=some (some (.ref (He.ga K "ShownError"))))∧(PySem.W.hasDictIn K (He.ga K "ShownError")=true)∧(PySem.W.typeIn K (.ref (He.ga K "ShownError"))=some (.type "type"))∧(PySem.W.subIn K (.ref (He.ga K "BadOption")) (.ref (He.ga K "ShownError"))=some true)∧((Value.ref (He.ga K "BadOption")==Value.ref (He.ga K "ShownError"))=false)),
  fun K=>decide (Bz_i41 K (He.ga K "BadOption")),
  fun K=>decide ((PySem.W.nsIn K mainGlobals "ShownError"=some (some (.ref (He.ga K "ShownError"))))∧(PySem.W.hasDictIn K (He.ga K "ShownError")=true)∧(PySem.W.typeIn K (.ref (He.ga K "ShownError"))=some (.type "type"))∧(PySem.W.subIn K (.ref (He.ga K "BadWish")) (.ref (He.ga K "ShownError"))=some true)∧((Value.ref (He.ga K "BadWish")==Value.ref (He.ga K "ShownError"))=false)),
  fun K=>decide (Bz_i43 K (He.ga K "BadWish")),
  fun K=>decide ((PySem.W.nsIn K mainGlobals "ShownError"=some (some (.ref (He.ga K "ShownError"))))∧(PySem.W.hasDictIn K (He.ga K "ShownError")=true)∧(PySem.W.typeIn K (.ref (He.ga K "ShownError"))=some (.type "type"))∧(PySem.W.subIn K (.ref (He.ga K "BadTable")) (.ref (He.ga K "ShownError"))=some true)∧((Value.ref (He.ga K "BadTable")==Value.ref (He.ga K "ShownError"))=false)),
  fun K=>decide (Bz_i45 K (He.ga K "BadTable")),
  fun K=>decide ((PySem.W.nsIn K mainGlobals "ShownError"=some (some (.ref (He.ga K "ShownError"))))∧(PySem.W.hasDictIn K (He.ga K "ShownError")=true)∧(PySem.W.typeIn K (.ref (He.ga K "ShownError"))=some (.type "type"))∧(PySem.W.subIn K (.ref (He.ga K "BadFrame")) (.ref (He.ga K "ShownError"))=some true)∧((Value.ref (He.ga K "BadFrame")==Value.ref (He.ga K "ShownError"))=false)),
  fun K=>decide (Bz_i47 K (He.ga K "BadFrame")),
  fun K=>decide ((PySem.W.nsIn K mainGlobals "ShownError"=some (some (.ref (He.ga K "ShownError"))))∧(PySem.W.hasDictIn K (He.ga K "ShownError")=true)∧(PySem.W.typeIn K (.ref (He.ga K "ShownError"))=some (.type "type"))∧(PySem.W.subIn K (.ref (He.ga K "BadText")) (.ref (He.ga K "ShownError"))=some true)∧((Value.ref (He.ga K "BadText")==Value.ref (He.ga K "ShownError"))=false)),
  fun K=>decide (Bz_i49 K (He.ga K "BadText"))]
set_option synthInstance.maxHeartbeats 0 in
set_option synthInstance.maxSize 100000 in
def okL5:List (Fg→Bool):=[fun K=>decide ((PySem.W.nsIn K mainGlobals "ShownError"=some (some (.ref (He.ga K "ShownError"))))∧(PySem.W.hasDictIn K (He.ga K "ShownError")=true)∧(PySem.W.typeIn K (.ref (He.ga K "ShownError"))=some (.type "type"))∧(PySem.W.subIn K (.ref (He.ga K "BadLine")) (.ref (He.ga K "ShownError"))=some true)∧((Value.ref (He.ga K "BadLine")==Value.ref (He.ga K "ShownError"))=false)),
  fun K=>decide (Bz_i51 K (He.ga K "BadLine")),
  fun K=>decide ((PySem.W.nsIn K mainGlobals "ShownError"=some (some (.ref (He.ga K "ShownError"))))∧(PySem.W.hasDictIn K (He.ga K "ShownError")=true)∧(PySem.W.typeIn K (.ref (He.ga K "ShownError"))=some (.type "type"))∧(PySem.W.subIn K (.ref (He.ga K "BadTruth")) (.ref (He.ga K "ShownError"))=some true)∧((Value.ref (He.ga K "BadTruth")==Value.ref (He.ga K "ShownError"))=false)),
  fun K=>decide (Bz_i53 K (He.ga K "BadTruth")),
  fun K=>decide ((PySem.W.nsIn K mainGlobals "ShownError"=some (some (.ref (He.ga K "ShownError"))))∧(PySem.W.hasDictIn K (He.ga K "ShownError")=true)∧(PySem.W.typeIn K (.ref (He.ga K "ShownError"))=some (.type "type"))∧(PySem.W.subIn K (.ref (He.ga K "Untrue")) (.ref (He.ga K "ShownError"))=some true)∧((Value.ref (He.ga K "Untrue")==Value.ref (He.ga K "ShownError"))=false)),
  fun K=>decide (Bz_i55 K (He.ga K "Untrue")),
  fun K=>decide (Bz_i56 K (He.ga K "UnknownBlock")),
  fun K=>decide (Bz_i57 K (He.ga K "UnknownName")),
  fun K=>decide (Bz_i58 K (He.ga K "TooMany")),
  fun K=>decide ((PySem.W.nsIn K mainGlobals "ShownError"=some (some (.ref (He.ga K "ShownError"))))∧(PySem.W.hasDictIn K (He.ga K "ShownError")=true)∧(PySem.W.typeIn K (.ref (He.ga K "ShownError"))=some (.type "type"))∧(PySem.W.subIn K (.ref (He.ga K "UnknownBlock")) (.ref (He.ga K "ShownError"))=some false)∧((Value.ref (He.ga K "UnknownBlock")==Value.ref (He.ga K "ShownError"))=false)),
  fun K=>decide ((PySem.W.nsIn K mainGlobals "ShownError"=some (some (.ref (He.ga K "ShownError"))))∧(PySem.W.hasDictIn K (He.ga K "ShownError")=true)∧(PySem.W.typeIn K (.ref (He.ga K "ShownError"))=some (.type "type"))∧(PySem.W.subIn K (.ref (He.ga K "UnknownName")) (.ref (He.ga K "ShownError"))=some false)∧((Value.ref (He.ga K "UnknownName")==Value.ref (He.ga K "ShownError"))=false)),
  fun K=>decide ((PySem.W.nsIn K mainGlobals "ShownError"=some (some (.ref (He.ga K "ShownError"))))∧(PySem.W.hasDictIn K (He.ga K "ShownError")=true)∧(PySem.W.typeIn K (.ref (He.ga K "ShownError"))=some (.type "type"))∧(PySem.W.subIn K (.ref (He.ga K "TooMany")) (.ref (He.ga K "ShownError"))=some false)∧((Value.ref (He.ga K "TooMany")==Value.ref (He.ga K "ShownError"))=false)),
  fun K=>decide ((PySem.W.nsIn K mainGlobals "UnknownName"=some (some (.ref (He.ga K "UnknownName"))))∧(PySem.W.hasDictIn K (He.ga K "UnknownName")=true)∧(PySem.W.typeIn K (.ref (He.ga K "UnknownName"))=some (.type "type"))∧(PySem.W.subIn K (.ref (He.ga K "UnknownBlock")) (.ref (He.ga K "UnknownName"))=some false)∧((Value.ref (He.ga K "UnknownBlock")==Value.ref (He.ga K "UnknownName"))=false)),
  fun K=>decide ((PySem.W.nsIn K mainGlobals "UnknownBlock"=some (some (.ref (He.ga K "UnknownBlock"))))∧(PySem.W.hasDictIn K (He.ga K "UnknownBlock")=true)∧(PySem.W.typeIn K (.ref (He.ga K "UnknownBlock"))=some (.type "type"))∧(PySem.W.subIn K (.ref (He.ga K "UnknownName")) (.ref (He.ga K "UnknownBlock"))=some false)∧((Value.ref (He.ga K "UnknownName")==Value.ref (He.ga K "UnknownBlock"))=false)),
  fun K=>decide (Bz_z K)]
def okL:List (Fg→Bool):=okL0++okL1++okL2++okL3++okL4++okL5
def tn0:List Str:=[("ShownError":Str),("BadRow":Str),("BadBlock":Str),("BadInput":Str),("BadLabels":Str),("BadStop":Str),("BadWay":Str),("BadShown":Str),("BadValues":Str),("BadShape":Str),("BadMark":Str),("BadOption":Str),("BadWish":Str),("BadTable":Str),("BadFrame":Str),("BadText":Str),("BadLine":Str),("BadTruth":Str),("Untrue":Str),("UnknownBlock":Str),("UnknownName":Str),("TooMany":Str),("NothingToUndo":Str),("_law_pool":Str),("_law_draw":Str),("_law_pick":Str),("_law_told":Str),("_law_later":Str),("_law_mixed":Str)]
def tnL:List Str:=tn0
abbrev hR:PySem.W.OpenRow:=PySem.W.OpenLaw.row PySem.Challenge.rw_valueshown_k23_errors_told
def sfL:List SmS:=[]
abbrev hk:PySem.W.Hook:=hookM adL okL fnL sfL
def ob (s:PySem.W.SharedT):AlM:=obsMG adL okL fnL sfL (HandSHeadRun.getT s)
theorem ob_eq (s:PySem.W.SharedT):ob s=hk.obs s.abs:=obsMG_eq (HandSHeadRun.getT_eq s)
theorem run (w:World):HandSHeadRun.RunEq hR (PySem.W.view hR.prog [31]) hk ob 20000 tnL w:=by
  intro os
  kernel_rfl
end K23
namespace Mi
open PySem PySem.Spec PyProof.Rows L2
def RepT (G:GE) (ρ:List Addr) (H:Hp) (M:List Addr):D→V→Prop
  | .lst ds,v=> ∃ a vs,v= .ref a∧H a=some (.lst vs)∧RepDs G ρ H M ds vs
  | .dic ks ds,v=> ∃ a vs,v= .ref a∧Rd H a (.dK (ks.zip vs))∧ks.length=vs.length∧RepDs G ρ H M ds vs
  | .ins c fs ds,v=> ∃ a C dx vs,v= .ref a∧G.cls c=some C∧H a=some (.ins C dx (fs.zip vs))∧fs.length=vs.length∧RepDs G ρ H M ds vs
  | .dct ks ds,v=> ∃ a bs vs,v= .ref a∧Rd H a (DtO G.w a (zip3 ks bs vs))∧ks.length=vs.length∧kfDs 8 ks=true∧RepDs G ρ H M ks (bs.map V.ref)∧RepDs G ρ H M ds vs
  | .scr ns,v=> ∃ a,v= .ref a∧SqL G.K H a (ns.map V.int)
  |d,v=>RepD G ρ H M d v
section
variable {G:GE} {ρ:List Addr} {H:Hp} {M:List Addr} {h:List O} {L:List (O×V)}
theorem RepD.view: ∀ {d:D} {v:V},RepD G ρ H M d v→RepT G ρ H M d v
  | .non,v,h=>h
  | .bl b,v,h=>h
  | .int i,v,h=>h
  | .str x,v,h=>h
  | .tup ds,v,h=>h
  | .lst ds,v,h=>by obtain ⟨a,vs,e,t,n,r⟩:=h;exact ⟨a,vs,e,t,r⟩
  | .dic ks ds,v,h=>by obtain ⟨a,vs,e,t,l,n,r⟩:=h;exact ⟨a,vs,e,t,l,r⟩
  | .ins c fs ds,v,h=>by obtain ⟨a,C,dx,vs,e,g,t,l,n,r⟩:=h;exact ⟨a,C,dx,vs,e,g,t,l,r⟩
  | .dct ks ds,v,h=>by obtain ⟨a,bs,vs,e,t,l,fk,n,rk,r⟩:=h;exact ⟨a,bs,vs,e,t,l,fk,rk,r⟩
  | .loc n,v,h=>h
  | .fn f,v,h=>h
  | .scr ns,v,h=>by
    obtain ⟨a,e,t|t⟩:=h
    · exact ⟨a,e,.inl t.1⟩
    · exact ⟨a,e,.inr t⟩
  | .ty n,v,h=>h
  | .cls c,v,h=>h
  | .xn c f d,v,h=>h
  | .xv c f d,v,h=>h
  | .lk o kvs,v,h=>h
theorem Own.view {o:O} {v:V} {A:List Addr} (w:Own G ρ H M o v A):RepT G ρ H M (Mi.frz o) v:=by
  cases o with
  |fz d=>exact w.1.view
  |lst ds=>obtain ⟨a,vs,e,t,r,f⟩:=w;exact ⟨a,vs,e,t,r⟩
  |dic ks ds=>obtain ⟨a,vs,e,t,l,r,f⟩:=w;exact ⟨a,vs,e,.inl t,l,r⟩
  |ins c fs ds=>obtain ⟨a,C,dx,vs,e,g,t,l,r,f⟩:=w;exact ⟨a,C,dx,vs,e,g,t,l,r⟩
  |dct ks ds=>obtain ⟨a,bs,vs,e,t,l,fk,rk,r,f⟩:=w;exact ⟨a,bs,vs,e,.inl t,l,fk,rk,r⟩
theorem Owns.mem: ∀ {L:List (O×V)} {F:List Addr} {p:O×V},Owns G ρ H M L F→p∈L→∃ A,Own G ρ H M p.1 p.2 A
  |[],_,_,_,hp=>by simp at hp
  | q::L,F,p,w,hp=>by
    obtain ⟨A,B,e,h1,h2⟩:=w
    rcases List.mem_cons.mp hp with z|z
    · subst z;exact ⟨A,h1⟩
    · exact Owns.mem h2 z
theorem Cp.view {o:O} {v:V} {d:D} (c:Cp G ρ H M h L) (hp:(o,v)∈L) (e:deref h (frz o)=some d):RepT G ρ H M d v:=by
  obtain ⟨A,w⟩:=Owns.mem c.2.1 (List.mem_append_right _ hp)
  have q:=w.view
  have gen: ∀ d0,deref h d0=some d→RepT G ρ H M d0 v→RepT G ρ H M d v:=by
    intro d0 e0 q0
    cases d0 with
    | loc n=>
      simp only [deref,Option.map_eq_some_iff] at e0
      obtain ⟨o',ho,eo⟩:=e0
      obtain ⟨a,ev,er⟩:=q0
      obtain ⟨X,Y,q1,q2⟩:=zip_at ho er
      obtain ⟨A',w'⟩:=Owns.mem (p:=(o',.ref a)) c.2.1 (List.mem_append_left _ (by rw [q1];simp))
      rw [ev,←eo]
      exact w'.view
    |_=>all_goals (simp only [deref,Option.some.injEq] at e0;subst e0;exact q0)
  exact gen _ e q
theorem Own.kind {o:O} {v:V} {F:List Addr} (w:Own G ρ H M o v F): ∀ b∈F,∃ x,H b=some x∧Mut (some x):=by
  cases o with
  |fz d=>rw [w.2];intro b hb;simp at hb
  |lst ds=>obtain ⟨a,vs,e,t,r,f⟩:=w;rw [f];intro b hb;simp at hb;subst hb;exact ⟨_,t,trivial⟩
  |dic ks ds=>obtain ⟨a,vs,e,t,l,r,f⟩:=w;rw [f];intro b hb;simp at hb;subst hb;exact ⟨_,t,trivial⟩
  |ins c fs ds=>obtain ⟨a,C,dx,vs,e,g,t,l,r,f⟩:=w;rw [f];intro b hb;simp at hb;subst hb;exact ⟨_,t,trivial⟩
  |dct ks ds=>obtain ⟨a,bs,vs,e,t,l,fk,rk,r,f⟩:=w;rw [f];intro b hb;simp at hb;subst hb;exact ⟨_,t,trivial⟩
theorem Owns.kind: ∀ {L:List (O×V)} {F:List Addr},Owns G ρ H M L F→∀ b∈F,∃ x,H b=some x∧Mut (some x)
  |[],F,w,b,hb=>by rw [show F=[] from w] at hb;simp at hb
  | p::ps,F,w,b,hb=>by
    obtain ⟨A,B,e,h1,h2⟩:=w
    subst e
    rcases List.mem_append.mp hb with hb|hb
    · exact h1.kind b hb
    · exact Owns.kind h2 b hb
theorem Cp.tupF {a:Addr} {vs:List V} {ds:List D} (c:Cp G ρ H M h L) (t:Tr G H M a vs) (r:RepDs G ρ H M ds vs):Cf G H h ((.fz (.tup ds),.ref a)::L):=
  Cf.fz1.mpr ⟨ρ,M,c,a,vs,rfl,t,r⟩
theorem mem_ow {o:O} {v:V}: ∀ {Φ:List (R×V)},(R.own o,v)∈Φ→(o,v)∈ow Φ
  | (.own o',v')::r,hp=>by
    rcases List.mem_cons.mp hp with z|z
    · injection z with z1 z2;injection z1 with z1;subst z1;subst z2;simp [ow]
    · exact List.mem_cons_of_mem _ (mem_ow z)
  | (.bor _,_)::r,hp=>by
    rcases List.mem_cons.mp hp with z|z
    · cases z
    · exact mem_ow (Φ:=r) z
theorem CfS.peek {σr:Sr} {s:S} {Φ:List (R×V)} {r:R} {v:V} {d:D} (c:CfS G σr H s Φ) (hp:(r,v)∈Φ) (e:peek s r=some d) (cp:Cp G ρ H M s.h (slp s.σ σr++ow Φ)):RepT G ρ H M d v:=by
  cases r with
  |own o=>exact cp.view (List.mem_append_right _ (mem_ow hp)) e
  | bor i=>
    simp only [Mi.peek] at e
    split at e
    · rename_i o eo
      obtain ⟨X,Y,q1,q2⟩:=slp_at eo (c.bo i v hp)
      exact cp.view (List.mem_append_left _ (by rw [q1];simp)) e
    · cases e
theorem CfS.parts {σr:Sr} {s:S} {Φ:List (R×V)} (c:CfS G σr H s Φ): ∃ ρ M,Cp G ρ H M s.h (slp s.σ σr++ow Φ):=c.cf
theorem CfS.more {σr:Sr} {s:S} {K Φ:List (R×V)} {H':Hp} {o:O} {v:V} (c:CfS G σr H s (K++Φ)) (q:Cf G H' s.h ((o,v)::(slp s.σ σr++ow (K++Φ)))):CfS G σr H' s ((.own o,v)::Φ):=by
  refine ⟨c.sl,fun i w z=>?_, ?_⟩
  · rcases List.mem_cons.mp z with z|z
    · cases z
    · exact c.bo i w (List.mem_append_right _ z)
  · show Cf G H' s.h (slp s.σ σr++(o,v)::ow Φ)
    rw [ow_append] at q
    have q2:Cf G H' s.h (ow K++((o,v)::(slp s.σ σr++ow Φ))):=q.perm (by
      rw [←List.append_assoc]
      refine List.Perm.trans (List.Perm.cons _ (List.perm_append_comm.append_right _)) ?_
      rw [List.append_assoc]
      exact List.perm_middle.symm)
    exact (Cf.dropN q2).perm List.perm_middle.symm
theorem CfS.cpMore {σr:Sr} {s:S} {K Φ:List (R×V)} {d:D} {v:V} (c:CfS G σr H s (K++Φ)) (cp:Cp G ρ H M s.h (slp s.σ σr++ow (K++Φ))) (r:RepD G ρ H M d v):CfS G σr H s ((.own (.fz d),v)::Φ):=
  c.more (Cf.fz1.mpr ⟨ρ,M,cp,r⟩)
end
def ExR (G:GE) (σr:Sr) (H:Hp) (s:S) (Φ:List (R×V)) (c:Str) (d:D) (cls:Value) (dx:Option Addr):Prop:=
  ∃ C f a v,cls= .ref C∧G.exc c=some (C,f)∧dx=some a∧H a=some (.xd [(f,v)])∧CfS G σr H s ((.own (.fz d),v)::Φ)
def Aft (G:GE) (W:WX) (σr:Sr) (Φ:List (R×V)) {α:Type} (P:α→S→Prop):Out α→Prop
  | .ok a s=>P a s
  | .exc c d s=> ∀ cls dx H,ExR G σr H s Φ c d cls dx→W cls dx σr H
  | .bad=>False
section
variable {G:GE} {W:WX} {σr:Sr} {Φ K:List (R×V)} {α β:Type} {P P':α→S→Prop}
theorem Aft.mono {x:Out α} (a:Aft G W σr Φ P x) (f: ∀ y s,P y s→P' y s):Aft G W σr Φ P' x:=by
  cases x with
  |ok y s=>exact f _ _ a
  |exc c d s=>exact a
  |bad=>exact a
theorem Aft.bind {Pb:β→S→Prop} {x:Out α} {k:α→S→Out β} (a:Aft G W σr Φ Pb (x.bind k)):Aft G W σr Φ (fun y s=>Aft G W σr Φ Pb (k y s)) x:=by
  cases x with
  |ok y s=>exact a
  |exc c d s=>exact a
  |bad=>exact a
theorem Aft.frame {x:Out α} (a:Aft G W σr Φ P x):Aft G W σr (K++Φ) P x:=by
  cases x with
  |ok y s=>exact a
  | exc c d s=>
    rintro cls dx H ⟨C,f,b,v,e1,e2,e3,e4,c5⟩
    refine a cls dx H ⟨C,f,b,v,e1,e2,e3,e4, ?_⟩
    have c6:CfS G σr H s (K++(.own (.fz d),v)::Φ):=c5.perm (List.perm_middle.symm)
    exact c6.dropN
  |bad=>exact a
theorem Aft.frame1 {p:R×V} {x:Out α} (a:Aft G W σr Φ P x):Aft G W σr (p::Φ) P x:=Aft.frame (K:=[p]) a
theorem Aft.lift {s:S} {x:Option α} (a:Aft G W σr Φ P (lift s x)): ∃ y,x=some y∧P y s:=by
  cases x with
  |none=>exact a.elim
  |some y=>exact ⟨y,rfl,a⟩
end
abbrev PV (G:GE) (σr:Sr) (Φ:List (R×V)) (Q:VK):R→S→Prop:=fun r s=> ∀ v H,CfS G σr H s ((r,v)::Φ)→Q v H
def tE (G:GE) (W:WX) (call:Call) (m:E):TE:=fun σr H Q=> ∃ s Φ,CfS G σr H s Φ∧Aft G W σr Φ (PV G σr Φ Q) (m call s)
abbrev PB (G:GE) (σr:Sr) (Φ:List (R×V)) (Q:Bool→Hp→Prop):Bool→S→Prop:=fun b s=> ∀ H,CfS G σr H s Φ→Q b H
def tB_ (G:GE) (W:WX) (call:Call) (m:B):TT:=fun σr H Q=> ∃ s Φ,CfS G σr H s Φ∧Aft G W σr Φ (PB G σr Φ Q) (m call s)
def FzR (ds:List D) (vs:List V):List (R×V):=List.zipWith (fun d v=>(R.own (.fz d),v)) ds vs
abbrev PL (G:GE) (σr:Sr) (Φ:List (R×V)) (Q:List V→Hp→Prop):List D→S→Prop:=fun ds s=> ∀ vs H,ds.length=vs.length→CfS G σr H s (FzR ds vs++Φ)→Q vs H
def tL (G:GE) (W:WX) (call:Call) (m:As):TA:=fun σr H Q=> ∃ s Φ,CfS G σr H s Φ∧Aft G W σr Φ (PL G σr Φ Q) (m call s)
theorem _root_.L2.PE.of {X:Cx} {e:Expr} {t t':TE} (h:PE X e t') (i: ∀ σ H Q,t σ H Q→t' σ H Q):PE X e t:=⟨fun pins s σ H Q I q=>h.run pins s σ H Q I (i σ H Q q)⟩
theorem _root_.L2.PT.of {X:Cx} {e:Expr} {t t':TT} (h:PT X e t') (i: ∀ σ H Q,t σ H Q→t' σ H Q):PT X e t:=⟨fun pins s σ H Q I q=>h.run pins s σ H Q I (i σ H Q q)⟩
theorem _root_.L2.PA.of {X:Cx} {e:List Expr} {t t':TA} (h:PA X e t') (i: ∀ σ H Q,t σ H Q→t' σ H Q):PA X e t:=⟨fun pos pins s σ H Q I q=>h.run pos pins s σ H Q I (i σ H Q q)⟩
def r1 (G:GE) (f:D→Option O):V→Hp→VK→Prop:=fun x H Q=> ∃ ρ M h L d o,Cp G ρ H M h L∧RepT G ρ H M d x∧f d=some o∧∀ v H',Cf G H' h ((o,v)::L)→Q v H'
def r2 (G:GE) (f:D→D→Option O):R2:=fun x y H Q=> ∃ ρ M h L d1 d2 o,Cp G ρ H M h L∧RepT G ρ H M d1 x∧RepT G ρ H M d2 y∧f d1 d2=some o∧∀ v H',Cf G H' h ((o,v)::L)→Q v H'
def mTwo (f:D→D→Option O) (a b:E):E:=fun call s=>(a call s).bind fun x s1=>(b call s1).bind fun y s2=>lift s2 ((peek s2 x).bind fun d1=>(peek s2 y).bind fun d2=>(f d1 d2).map R.own)
def mOne (f:D→Option O) (a:E):E:=fun call s=>(a call s).bind fun x s1=>lift s1 ((peek s1 x).bind fun d1=>(f d1).map R.own)
section
variable {G:GE} {W:WX} {call:Call}
theorem tOne {f:D→Option O} {a:E} {σr:Sr} {H:Hp} {Q:VK} (h:tE G W call (mOne f a) σr H Q):tE G W call a σr H fun x H1=>r1 G f x H1 Q:=by
  obtain ⟨s,Φ,c,h⟩:=h
  refine ⟨s,Φ,c,(Aft.bind h).mono fun x s1 h1=>fun v H1 c1=>?_⟩
  obtain ⟨y,e,q⟩:=Aft.lift h1
  simp only [Option.bind_eq_some_iff,Option.map_eq_some_iff] at e
  obtain ⟨d1,e1,o,eo,ey⟩:=e
  subst ey
  obtain ⟨ρ,M,cp⟩:=c1.parts
  exact ⟨ρ,M,_,_,d1,o,cp,c1.peek (by simp) e1 cp,eo,fun w H2 c2=>q w H2 (CfS.more (K:=[(x,v)]) c1 c2)⟩
theorem tTwo {f:D→D→Option O} {a b:E} {σr:Sr} {H:Hp} {Q:VK} (h:tE G W call (mTwo f a b) σr H Q):tE G W call a σr H fun x H1=>tE G W call b σr H1 fun y H2=>r2 G f x y H2 Q:=by
  obtain ⟨s,Φ,c,h⟩:=h
  refine ⟨s,Φ,c,(Aft.bind h).mono fun x s1 h1=>fun v1 H1 c1=>⟨s1,_,c1,((Aft.bind h1).frame1).mono fun y s2 h2=>fun v2 H2 c2=>?_⟩⟩
  obtain ⟨z,e,q⟩:=Aft.lift h2
  simp only [Option.bind_eq_some_iff,Option.map_eq_some_iff] at e
  obtain ⟨d1,e1,d2,e2,o,eo,ey⟩:=e
  subst ey
  obtain ⟨ρ,M,cp⟩:=c2.parts
  exact ⟨ρ,M,_,_,d1,d2,o,cp,c2.peek (by simp) e1 cp,c2.peek (by simp) e2 cp,eo,fun w H3 c3=>q w H3 (CfS.more (K:=[(y,v2),(x,v1)]) c2 c3)⟩
variable {X:Cx}
theorem pe_bin {f:D→D→Option O} {op:Operator} {a b:Expr} {ma mb:E} {pos:Pos} (ho:OpR X (binaryOp op) (r2 G f)) (ha:PE X a (tE G W call ma)) (hb:PE X b (tE G W call mb)):PE X (.BinOp a op b pos) (tE G W call (mTwo f ma mb)):=
  (pe_op ho ha hb).of fun σ H Q h=>tTwo h
theorem pe_cmp1 {f:D→D→Option O} {op:CmpOp} {a b:Expr} {ma mb:E} {pos:Pos} (ho:OpR X (compareOp op) (r2 G f)) (ha:PE X a (tE G W call ma)) (hb:PE X b (tE G W call mb)) (hm:behindInMarks op b=false):PE X (.Compare a [op] [b] pos) (tE G W call (mTwo f ma mb)):=
  (pe_cmpR ho ha hb hm).of fun σ H Q h=>tTwo h
theorem pe_sub1 {f:D→D→Option O} {a b:Expr} {ma mb:E} {pos:Pos} (ho:IxR X (r2 G f)) (ha:PE X a (tE G W call ma)) (hb:PE X b (tE G W call mb)) (hs:PlainIx b):PE X (.Subscript a b pos) (tE G W call (mTwo f ma mb)):=
  (pe_ix ho ha hb hs).of fun σ H Q h=>tTwo h
end
end Mi
namespace Mi
open PySem PySem.Spec PyProof.Rows L2
structure OxC (K:PySem.W.Frag) (C:Addr) (initId:String):Prop where
  cls: ∃ tl newId,XB tl newId initId∧∃ nm q N bs bm sno sub abc0 cl ddd k0 k1 k2 k3 k5,K.lookup C=some (excClassObj nm q C N bs bm true sno sub abc0 cl ddd k0 k1 k2 k3 k5 newId)∧refsT tl bm=true
  sa:PySem.W.findIn K (.ref C) "__setattr__"=some (some (.builtin "object.__setattr__"))
  exC:PySem.W.subIn K (.ref C) (.type "BaseException")=some true
  tyC:PySem.W.typeIn K (.ref C)=some (.type "type")
  kC:PySem.W.keepIn K (.ref C)=true
section
open Builtin Builtin.ObjectAttr
variable {prog:Program} {w:World} {A:Around} {E:Value→Shared→Prop} {R:Result→Shared→Prop} {hp:Heap} {g:Array GenState} {d:Drawn} {t:Nat} {os:OsState}
theorem x_osa {K:PySem.W.Frag} {tl:List Value} {newId initId:String} (hB:XB tl newId initId) {name:Str} {tkn:Tok} {v:Value} {x C:Addr} {fvs:Array Value} {cd:ClassData}
    (X:K.In hp) (hx:hp.get? x=some {cls:=.ref C,data:=.fields fvs}) (hcd:W.clsIn K C=some cd) (hm:refsT tl cd.mro=true) (hh:cd.hasDict=true) (ha:W.findIn K (.ref C) name=some none)
    (nxt: ∀ h' tk' dx,(∀ b o,b≠x→hp.get? b=some o→h'.get? b=some o)→hp.objs.size≤dx→dx≠x→h'.get? x=some {cls:=.ref C,dict:=some dx,data:=.fields fvs}→
      h'.Ns1 dx (fun y=>if y=name then some v else none)→R (.ok (.ret .none)) ⟨h',g,d,tk',os⟩):
    codeAny (model prog w) A (.call (.builtin "object.__setattr__") ⟨[.ref x,.str name tkn,v],[]⟩) R ⟨hp,g,d,t,os⟩:=by
  have instx:W.InstAt hp x {cls:=.ref C,data:=.fields fvs} C none:=⟨hx,rfl,rfl,trivial⟩
  have FO:=F.store_object
  have hne:cd.mro.isEmpty=false:=by
    cases hc:cd.mro with
    | nil=>
      rw [hc] at hm
      rcases refsT_split [] hm with ⟨c,r,q,_⟩|q
      · cases q
      · exact absurd q.symm hB.hne
    |cons _ _=>rfl
  have hob:cd.mro.contains (.type "object")=true:=(refsT_has "object" _ hm).trans hB.hobj
  have xfar:x≠hp.objs.size:=Nat.ne_of_lt (Heap.lt_size hx)
  have isob:W.Looks (model prog w) hp (isInstance (.ref x) (.type "object")) true:=instx.type.andThen (W.looks_mroIn X (by unfold W.mroIn;rw [hcd,Option.bind_some,if_neg (by rw [hne];decide),hob]))
  refine codeAny_call_builtin FO.slot.plain FO.entry (@W.check_slot (model prog w) _ _ ⟨hp,g,d,t,os⟩ "object.__setattr__" "object" "__setattr__" (.ref x) [.str name tkn,v] [] _ FO.kind FO.split isob (FO.args (.ref x) (.str name tkn) v) ?_)
  have lm:W.Looks (model prog w) hp (mroOf (.ref C)) cd.mro:=(W.looks_clsIn X hcd).andThen .now
  have lt:W.Looks (model prog w) hp (storeTaker? none) none:=.now
  have lc:W.Looks (model prog w) hp (classData C) cd:=W.looks_clsIn X hcd
  rw [W.osa_eq,refuse_eq]
  refine wpAny_bind (wpAny_bind (instx.type.at (wpAny_bind (lm.at ?_))))
  rw [refsT_pass _ (hB.pass _) _ hm]
  refine wpAny_pure (wpAny_bind (instx.type.at (wpAny_bind ((W.looks_findIn X ha).at (wpAny_bind (lt.at ?_))))))
  show wpAny _ _ (storeInOwnDict (.ref x) (.ref C) (.str name tkn) name v false) _ _ _
  obtain ⟨nm,bs,mro,ns,qna,hd,sno,sbc,abc0,cl,del⟩:=cd
  dsimp only at hh
  subst hh
  unfold storeInOwnDict ownDictForStores
  repeat (first|with_reducible refine PySem.HandSPX.store_in_new ?_ ?_|with_reducible refine wpAny_loadPart_at hx ?_|with_reducible refine lc.at ?_|wp_step)
  · exact ⟨_,#[],_,(Heap.get?_update_ne _ _ _ _ xfar.symm).trans (Heap.get?_push_at rfl rfl),rfl,fun e he=>absurd he (by simp),fun _=>rfl⟩
  · intro h' tk' hn' hs
    have hx1:(hp.push {cls:=.type "dict",data:=.dict #[]}).get? x=some {cls:=.ref C,data:=.fields fvs}:=Heap.get?_push_of_some _ hx
    refine nxt h' tk' hp.objs.size (fun b o hb oat=>?_) (Nat.le_refl _) xfar.symm ?_ hn'
    · exact (hs.2 b (Nat.ne_of_lt (Heap.lt_size oat))).trans ((Heap.get?_update_ne _ _ _ _ hb).trans (Heap.get?_push_of_some _ oat))
    · exact (hs.2 x xfar).trans (Heap.get?_update_self _ hx1 rfl)
end
section
variable {X:Cx} {pins:List (Addr×Obj)} {σ:L2.St} {H:Hp} {s:Shared} {a C dx:Addr} {f:Str} {y:V} {u:Value} {initId:String} {Q:Unit→Shared→Prop} {E:Value→Shared→Prop} {A:Around}
theorem x_store (T:OxC X.K C initId) (I:Inv X pins σ H s) (e:H a=some (exo a C none)) (hno:PySem.W.findIn X.K (.ref C) f=some none) (ry:RelV y u)
    (h: ∀ dx s',H dx=none→dx≠a→Inv X pins σ (upd (upd H dx (exd dx [(f,y)])) a (exo a C (some dx))) s'→Q () s'):wpAny (model X.prog X.w) A (setAttr (.ref a) f u) Q E s:=by
  obtain ⟨tl,newId,hB,nm,q,N,bs,bm,sno,sub,abc0,cl,ddd,k0,k1,k2,k3,k5,hC,hbm⟩:=T.cls
  have hcl:PySem.W.clsIn X.K C=some {name:=nm,bases:=bs,mro:=.ref C::bm,ns:=N,qualname:=q,hasDict:=true,slotNames:=sno,subclasses:=sub,abstract:=abc0,collection:=cl,hasDel:=false}:=by
    unfold PySem.W.clsIn;rw [hC]<;>rfl
  obtain ⟨tq,oat⟩:=exo_at I.hok e
  obtain ⟨hp,g,d,t,os⟩:=s
  refine PySem.W.set_plain I.kIn (ox:=exObj C tq) (od:=none) ⟨oat,rfl,rfl,trivial⟩ T.sa ?_
  refine x_osa hB I.kIn oat hcl (show refsT tl (.ref C::bm)=true from hbm) rfl hno (fun h' tk' dx kp dbg dne hx fre=>?_)
  have fdx:H dx=none:=I.hok.fresh dbg
  have ndx: ∀ {b:Addr} {o:Obj},hp.get? b=some o→b≠dx:=fun {b o} q=>Nat.ne_of_lt (Nat.lt_of_lt_of_le (Heap.lt_size q) dbg)
  have na: ∀ {b:Addr},H b=none→b≠a:=fun {b} n z=>by rw [z,e] at n;cases n
  have U1:Un X.fs [] H (upd (upd H dx (exd dx [(f,y)])) a (exo a C (some dx))) hp h':=by
    refine ⟨fun b o q n _ _=>kp b o (na n) q,fun b o q n _ _=>⟨o.slots,kp b o (na n) q⟩,fun b o q n _=>?_,fun b o q _=>?_,fun b xs q=>?_,fun b o v q=>?_,fun b ps q=>⟨#[], ?_⟩⟩
    · rw [upd_ne (na n),upd_ne (ndx q)];exact n
    · by_cases hb:b=a
      · exact ⟨_,by rw [hb];exact hx⟩
      · exact ⟨o,kp b o hb q⟩
    · rw [upd_ne (at_ne e q exo_tup),upd_ne (ne_of_none q fdx)];exact q
    · rw [upd_ne (at_ne e q exo_frz),upd_ne (ne_of_none q fdx)];exact q
    · rw [upd_ne (at_ne e q exo_tbl),upd_ne (ne_of_none q fdx),q];simp
  refine h dx _ fdx dne (I.un (t':=tk') U1 fun b o q=>?_)
  by_cases hb:b=a
  · subst hb
    rw [upd_same] at q
    cases q
    exact exo_ok hx
  · rw [upd_ne hb] at q
    by_cases hd:b=dx
    · subst hd
      rw [upd_same] at q
      cases q
      exact exd_ok fre (relO_put (fs:=[]) ry fun g=>True.intro)
    · rw [upd_ne hd] at q
      refine (I.hok b o q).stay (fun c v hc z=>kp c v ?_ z) (fun c hc=>?_) (fun c xs hc=>?_)
      · rcases hc with hc|hc
        · rw [hc];exact hb
        · exact at_ne e hc exo_own
      · rw [upd_ne (at_ne e hc exo_own),upd_ne (ne_of_none hc fdx)];exact hc
      · rw [upd_ne (at_ne e hc exo_tup),upd_ne (ne_of_none hc fdx)];exact hc
theorem x_base {uus:List Value} {Q:Value→Shared→Prop} (T:OxC X.K C initId) (I:Inv X pins σ H s) (e:H a=some (exo a C none)) (lnn:uus.length≤sizeLine) (h: ∀ s',Inv X pins σ H s'→Q .none s'):
    wpAny (model X.prog X.w) A (call (.builtin initId) (.ref a::uus)) Q E s:=by
  obtain ⟨tl,newId,hB,nm,q,N,bs,bm,sno,sub,abc0,cl,ddd,k0,k1,k2,k3,k5,hC,hbm⟩:=T.cls
  obtain ⟨tq,oat⟩:=exo_at I.hok e
  obtain ⟨hp,g,d,t,os⟩:=s
  refine wpAny_call (hB.ini hbm (I.kIn _ _ hC) oat lnn fun h' t2 kp hx=>?_)
  have J:=I.write (t':=t) (x:=a) (e:=a) (o:=exo a C none) (by rw [e];exact True.intro) (.inl rfl) kp ⟨_,hx⟩ (exo_ok hx)
  rw [show upd H a (exo a C none)=H from funext fun b=>by
    by_cases hb:b=a
    · rw [hb,upd_same,e]
    · rw [upd_ne hb]] at J
  exact h _ J
end
def tBI (K:PySem.W.Frag) (initId:String) (ta:TA):TE:=fun σ H Q=>ta σ H fun vs Hp1=> ∃ (a C:Addr) (wws:List V),vs= .ref a::wws∧wws.length≤1000∧OxC K C initId∧Hp1 a=some (exo a C none)∧Q .non Hp1
def tXs (K:PySem.W.Frag) (f:Str) (to te:TE):TS:=fun D σ H=>te σ H fun y Hp1=>to σ Hp1 fun x Hp2=> ∃ (a C:Addr) (initId:String),x= .ref a∧OxC K C initId∧PySem.W.findIn K (.ref C) f=some none∧
  Hp2 a=some (exo a C none)∧∀ dx,Hp2 dx=none→dx≠a→D.nx σ (upd (upd Hp2 dx (exd dx [(f,y)])) a (exo a C (some dx)))
section
variable {X:Cx} {o e:Expr} {es:List Expr} {to te:TE} {ta:TA} {f b:Str} {initId:String} {p p' p1 p2 pos:Pos}
theorem pe_ownInit {pl:Sem Bool} {SB:Addr} {mc:Value} (hg:Gl X b) (hm:X.mg b=some (.ref SB)) (hsp:PySem.W.specialIn X.K (.ref SB) "__getattribute__"=some (some (.builtin "type.__getattribute__"))) (hrd:PySem.W.readsIn X.K SB mc=true)
    (hf:PySem.W.findCls X.K (.ref SB) mc "__init__"=some (.val (.builtin initId))) (hh:PySem.W.handedIn (.builtin initId)=true) (hdb:(b==("__debug__":Str))=false) (ha:PA X (e::es) ta)
    (hc:eval (.Call (.Attribute (.Name b p1) "__init__" p2) (e::es) [] pos) X.env=(do
      let ov ←eval (.Name b p1) X.env
      standAt p2.atName
      let (f,first) ←holding [ov] (getMethod ov "__init__" pl)
      callWith pos f first (backTo pos (starEach (e::es) X.env)) (backToKw pos (keywordEach [] X.env))))
    (he:starEach (e::es) X.env=(false,eval e X.env)::starEach es X.env) (hpl:(backTo pos (starEach es X.env)).any (·.1)=false):
    PE X (.Call (.Attribute (.Name b p1) "__init__" p2) (e::es) [] pos) (tBI X.K initId ta):=by
  refine ⟨fun pins s σ H Q I h=>?_⟩
  refine PySem.W.methodCall_KW (ld_glob I hg hm ?_ hdb) hc
  refine PySem.W.method_cls I.kIn hsp (PySem.W.cls_value I.kIn hrd hf hh ?_)
  show wpAny _ _ (callWith pos (Value.builtin initId) [] (backTo pos (starEach (e::es) X.env)) []) _ _ _
  refine PyProof.Rows.callWith_method1 (thn (ha.run pos pins _ σ H _ (I.tok _) h) fun uus sh1 ⟨vs,Hp1,In1,rl1,a,C,wws,ev,lnn,T,ea,q⟩=>?_) he hpl
  subst ev
  cases rl1 with
  | @cons _ u0 _ ur ra rw'=>
    obtain rfl:u0=Value.ref a:=ra
    exact x_base T In1 ea (by rw [←Paired.length rw',sizeLine_eq];omega) fun s' J=>⟨.non,Hp1,J,rfl,q⟩
theorem pe_bltInit {pl:Sem Bool} {B:String} (hg:Gl X b) (hm:X.mg b=none) (hbt:bootBuiltins b=some (.type B)) (hty:typeOf (.type B)=pure (.type "type")) (hst:Manifest.isStub B=false)
    (hf:PySem.W.findCls X.K (.type B) (.type "type") "__init__"=some (.val (.builtin initId))) (hh:PySem.W.handedIn (.builtin initId)=true) (h1:b≠"__name__") (hdb:(b==("__debug__":Str))=false) (ha:PA X (e::es) ta)
    (hc:eval (.Call (.Attribute (.Name b p1) "__init__" p2) (e::es) [] pos) X.env=(do
      let ov ←eval (.Name b p1) X.env
      standAt p2.atName
      let (f,first) ←holding [ov] (getMethod ov "__init__" pl)
      callWith pos f first (backTo pos (starEach (e::es) X.env)) (backToKw pos (keywordEach [] X.env))))
    (he:starEach (e::es) X.env=(false,eval e X.env)::starEach es X.env) (hpl:(backTo pos (starEach es X.env)).any (·.1)=false):
    PE X (.Call (.Attribute (.Name b p1) "__init__" p2) (e::es) [] pos) (tBI X.K initId ta):=by
  refine ⟨fun pins s σ H Q I h=>?_⟩
  refine PySem.W.methodCall_KW (ld_blt I hg hm hbt ?_ h1 hdb) hc
  obtain ⟨m,fr⟩:=I.fr
  refine PySem.W.method_type fr I.ok.mod.kin hty hst hf hh ?_
  show wpAny _ _ (callWith pos (Value.builtin initId) [] (backTo pos (starEach (e::es) X.env)) []) _ _ _
  refine PyProof.Rows.callWith_method1 (thn (ha.run pos pins _ σ H _ (I.tok _) h) fun uus sh1 ⟨vs,Hp1,In1,rl1,a,C,wws,ev,lnn,T,ea,q⟩=>?_) he hpl
  subst ev
  cases rl1 with
  | @cons _ u0 _ ur ra rw'=>
    obtain rfl:u0=Value.ref a:=ra
    exact x_base T In1 ea (by rw [←Paired.length rw',sizeLine_eq];omega) fun s' J=>⟨.non,Hp1,J,rfl,q⟩
theorem ps_xs (oat:PE X o to) (he:PE X e te) (hs:swapsWith e (some (.Attribute o f p')) pos.line X.env=pure false):PS X (.Assign [.Attribute o f p'] e pos) (tXs X.K f to te):=by
  refine ⟨fun pins s σ H D I h=>?_⟩
  refine plainObj_wpAny_Assign_Attribute (thn (he.run pins s σ H _ I h) fun v sh1 ⟨y,Hp1,In1,rl1,qr1⟩=>thn (oat.run pins sh1 σ Hp1 _ In1 qr1) fun u s2 ⟨x,Hp2,In2,r2,a,C,ii,ex,T,hno,ea,q⟩=>?_) hs
  subst ex
  obtain rfl:u=Value.ref a:=r2
  exact x_store T In2 ea hno rl1 fun dx s' n ne J=>⟨σ,_,J,q dx n ne⟩
end
end Mi
namespace Mi
open PySem PySem.Spec PyProof.Rows L2
theorem meth_eval {o:Expr} {name:Str} {apos pos:Pos} {args:List Expr} {env:Env} (hbase:attributeBase o name env (eval o env)=eval o env)
    (hfew:((backTo pos (starEach args env)).all (fun x=>!x.1)&&(backToKw pos (keywordEach [] env)).all (fun x=>x.1.isSome)
      &&decide (args.length+([]:List Keyword).length+(if ([]:List Keyword).isEmpty then 0 else 1)<30))=true) (hline:(apos.endLine==pos.line)=true):
    ∃ pl,eval (.Call (.Attribute o name apos) args [] pos) env=(do
      let ov ←eval o env
      standAt apos.atName
      let (f,first) ←holding [ov] (getMethod ov name pl)
      callWith pos f first (backTo pos (starEach args env)) (backToKw pos (keywordEach [] env))):=by
  have hform:methodCallForm (args.length+([]:List Keyword).length) (backTo pos (starEach args env)) (backToKw pos (keywordEach [] env))=true:=hfew
  have hpos:methodCallPos true o env apos pos=pure pos:=by unfold methodCallPos;simp [hline]
  refine ⟨(do return (←importBound o env).getD true), ?_⟩
  rw [arm_eval_Call,hbase]
  unfold methodCall calleeOf
  rw [hform,hpos]
  rfl
structure BInit (K:PySem.W.Frag) (mg:Str→Option Value) (b:Str) (initId:String):Prop where
  hh:PySem.W.handedIn (.builtin initId)=true
  db:(b==("__debug__":Str))=false
  by_:(∃ SB mc,mg b=some (.ref SB)∧PySem.W.specialIn K (.ref SB) "__getattribute__"=some (some (.builtin "type.__getattribute__"))∧PySem.W.readsIn K SB mc=true∧PySem.W.findCls K (.ref SB) mc "__init__"=some (.val (.builtin initId)))∨
    (∃ B:String,mg b=none∧bootBuiltins b=some (.type B)∧typeOf (.type B)=pure (.type "type")∧Manifest.isStub B=false∧PySem.W.findCls K (.type B) (.type "type") "__init__"=some (.val (.builtin initId))∧b≠"__name__")
def initBody (b f m:Str) (j:Nat) (q:List Pos):List Stmt:=match q with
  |[q1,q2,q3,q4,q5,q6,q7,q8,q9,q10]=>[.Expr (.Call (.Attribute (.Name b q1) "__init__" q2) [.Name "self" q3,.Constant (.str m) j q4] [] q5) q6,.Assign [.Attribute (.Name "self" q7) f q8] (.Name f q9) q10]
  |_=>[]
structure InitTxt (st:Stmt) (b f:Str):Prop where
  body: ∃ m j q,q.length=10∧defBody st=initBody b f m j q∧((q.getD 1 ⟨0,0,0,0⟩).endLine==(q.getD 4 ⟨0,0,0,0⟩).line)=true
  S:FnScope ["self",f] ["self",f] (defScope st)
  ls:(defScope st).names.lookup ("self":Str)=some .local
  lf:(defScope st).names.lookup f=some .local
  gb:(defScope st).names.lookup b=some .globalImplicit
  d1:(f==("__debug__":Str))=false
  d2:(f==("__classdict__":Str))=false
def spX (C:Addr) (f:Str):Sp:=fun vs H Q _=> ∃ (a:Addr) (y:V),vs=[.ref a,y]∧H a=some (exo a C none)∧∀ dx,H dx=none→dx≠a→Q .non (upd (upd H dx (exd dx [(f,y)])) a (exo a C (some dx)))
theorem init_ok {P:Program} {w:World} {K:PySem.W.Frag} {mg:Str→Option Value} {base:Heap} {C fI:Addr} {initId:String} {b f x qual:Str} {st:Stmt} {fd:FuncData} (T:OxC K C initId) (hno:PySem.W.findIn K (.ref C) f=some none) (BI:BInit K mg b initId)
    (Fn:Fun K x qual st fI fd) (I:InitTxt st b f):FnOk P w K mg base CX0 1 fI fd ["self",f] (spX C f):=by
  refine Fn.ok (k:=0) I.S (fun vs H Q E h=>?_) (fun cdv A outer s H vs Q E hr h=>?_)
  · obtain ⟨a,y,rfl,_⟩:=h;rfl
  · obtain ⟨m,j,q,hq,hb,hln⟩:=I.body
    match q,hq,hb,hln with
    | [q1,q2,q3,q4,q5,q6,q7,q8,q9,q10],_,hb,hln=>
      rw [hb]
      let X:Cx:=(cxOf CX0 P w K mg base ["self",f] qual (defScope st) fI cdv A outer s H E).nox
      have v0: ∀ pos,PE X (.Name "self" pos) (tVar 0):=fun pos=>pe_var (X:=X) (i:=0) (x:="self") rfl (.inl I.ls) (by decide) (by decide)
      have v1: ∀ pos,PE X (.Name f pos) (tVar 1):=fun pos=>pe_var (X:=X) (i:=1) (x:=f) rfl (.inl I.lf) I.d1 I.d2
      have ha:PA X [.Name "self" q3,.Constant (.str m) j q4] (tCons (tVar 0) (tCons (tC (.str m)) tNil)):=pa_cons (v0 q3) (pa_cons pe_str pa_nil)
      have hg:Gl X b:=I.gb
      have call:PE X (.Call (.Attribute (.Name b q1) "__init__" q2) [.Name "self" q3,.Constant (.str m) j q4] [] q5) (tBI X.K initId (tCons (tVar 0) (tCons (tC (.str m)) tNil))):=by
        obtain ⟨pl,hpl⟩:=meth_eval (o:=.Name b q1) (name:="__init__") (apos:=q2) (pos:=q5) (args:=[.Name "self" q3,.Constant (.str m) j q4]) (env:=X.env) rfl rfl hln
        rcases BI.by_ with ⟨SB,mc,e1,e2,e3,e4⟩|⟨B,e1,e2,e3,e4,e5,e6⟩
        · exact pe_ownInit hg e1 e2 e3 e4 BI.hh BI.db ha hpl rfl rfl
        · exact pe_bltInit hg e1 e2 e3 e4 e5 BI.hh e6 BI.db ha hpl rfl rfl
      refine ⟨_,pss_cons (ps_expr call) (pss_one (ps_xs (v0 q7) (v1 q9) rfl)), ?_⟩
      obtain ⟨a,y,rfl,ea,k⟩:=h
      exact ⟨_,rfl,a,C,[.str m],rfl,by simp,T,ea,_,rfl,_,rfl,a,C,initId,rfl,T,hno,ea,fun dx n ne=>k dx n ne⟩
structure XRow (K:PySem.W.Frag) (mg:Str→Option Value) (c:Str) (C:Addr) (f:Str):Prop where
  ex: ∃ (initId:String) (fI:Addr) (b x qual:Str) (st:Stmt) (fd:FuncData),OxC K C initId∧PySem.W.findIn K (.ref C) f=some none∧BInit K mg b initId∧Fun K x qual st fI fd∧InitTxt st b f∧Binds K fd ["self",f] []∧
    PySem.W.findIn K (.ref C) "__init__"=some (some (.ref fI))∧PySem.W.typeIn K (.ref fI)=some (.type "function")
  gC:mg c=some (.ref C)
  db:(c==("__debug__":Str))=false
  rd:XfC K C
  kx: ∃ (initId:String) (fI:Addr) (b x qual:Str) (st:Stmt) (fd:FuncData),OxC K C initId∧PySem.W.findIn K (.ref C) f=some none∧BInit K mg b initId∧Fun K x qual st fI fd∧InitTxt st b f∧
    (∀ (s:Shared) (u v:Value),BindsTo s fd ⟨[u],[(f,v)]⟩ (((["self",f]:List Str)).zip [u,v]))∧PySem.W.findIn K (.ref C) "__init__"=some (some (.ref fI))∧PySem.W.typeIn K (.ref fI)=some (.type "function")
end Mi
namespace Mi
open PySem PySem.Spec PyProof.Rows L2
abbrev Clause:=Value×Option Nat×(Addr→Value→Option Addr→TS)
abbrev SuiteOk (X:Cx) (st:List Stmt) (ts:Addr→Value→Option Addr→TS):Prop:=
  ∀ (a:Addr) (oe:Obj) (cls:Value) (d:Option Addr) (pn:List (Addr×Obj)),Zc cls d oe→(∃ vs,oe.data= .fields vs)→PSs (X.suite a ((a,oe)::pn)) st (ts a cls d)
inductive HdCl (X:Cx):List ExceptHandler→List Clause→Prop
  |nil:HdCl X [] []
  |named {x n:Str} {c:Value} {i:Nat} {ts:Addr→Value→Option Addr→TS} {b0:Stmt} {su:List Stmt} {np pos':Pos} {hds:List ExceptHandler} {l:List Clause} (hc:Names X x c) (hi:X.N[i]?=some n) (hl:X.env.kindOf n=some .local)
      (hs:SuiteOk X (b0::su) ts) (r:HdCl X hds l):HdCl X (.ExceptHandler (some (.Name x np)) (some n) (b0::su) pos'::hds) ((c,some i,ts)::l)
  |bare {x:Str} {c:Value} {ts:Addr→Value→Option Addr→TS} {b0:Stmt} {su:List Stmt} {np pos':Pos} {hds:List ExceptHandler} {l:List Clause} (hc:Names X x c)
      (hs:SuiteOk X (b0::su) ts) (r:HdCl X hds l):HdCl X (.ExceptHandler (some (.Name x np)) none (b0::su) pos'::hds) ((c,none,ts)::l)
section
variable {X:Cx} {body:List Stmt} {h0:ExceptHandler} {hds:List ExceptHandler} {l:List Clause} {pos:Pos} {tb:WX→TS} {Wout:WX}
end
end Mi
namespace Mi
open PySem PySem.Spec PyProof.Rows L2
def AftR (G:GE) (Φ:List (O×V)) (Q:VK) (E:XK):Res→Prop
  | .ok o h=> ∀ v H,Cf G H h ((o,v)::Φ)→Q v H
  | .exc c d h=> ∀ C f a v H,G.exc c=some (C,f)→H a=some (.xd [(f,v)])→Cf G H h ((.fz d,v)::Φ)→E (.ref C) (some a) H
  | .bad=>False
def spC (G:GE) (call:Call) (f:Str) (n:Nat):Sp:=fun vs H Q E=>vs.length=n∧∃ h Φ ds,ds.length=vs.length∧Cf G H h (Fz ds vs++Φ)∧AftR G Φ Q E (call f ds h)
def blts:List Str:=["len","isinstance","all","any","enumerate","range","max","min","sum","abs","int","str","tuple","list","dict","sorted","repr","zip","set","bool","ValueError","KeyError","RuntimeError","OverflowError","TypeError","iter","reversed"]
structure CC where
  N:List Str
  sc:Scope
  con:Str→Option D
  fns:List Str
  top:Bool
  bare:Bool
  cells:List Str
  exs:List (Str×Str):=[]
  flds:List Str:=[]
  news:List Str:=[]
  isx:List (Str×Str×Bool):=[]
  shp:List (Str×Nat×List Str):=[]
  mns:List (Str×Nat):=[]
  ml:List (Str×Str):=[]
  insN:List Str:=[]
  celF:List Str:=[]
  frzN:List Str:=[]
  sts:List (Str×Str):=[]
def mkey (c m:Str):Str:=c++(".":Str)++m
structure FnG (P:Program) (w:World) (K:PySem.W.Frag) (mg:Str→Option Value) (base:Heap) (T:CXT) (n:Nat) (a:Addr) (fd:FuncData) (ps:List Str) (q:Sp):Prop where
  ln: ∀ vs H Q E,q vs H Q E→vs.length=ps.length
  go: ∀ (A:Around) (out:List Env) (s:Shared) (H:Hp) (args:Args) (us:List Value) (vs:List V) (Q:VK) (E:XK),Room n A→A.guards=some []→Env0 P w K mg base A out s H→BindsTo s fd args (ps.zip us)→Vals vs us→q vs H Q E→
    codeAny (model P w) A (.call (.ref a) args) (CR T out P w H s Q E) s
def BindSh (G:GE) (K:PySem.W.Frag) (fd:FuncData) (ps:List Str) (n:Nat) (kws:List Str) (ds:List D):Prop:=
  n+kws.length+ds.length=ps.length∧∃ (dV:List Value) (dvs:List V),Vals dvs dV∧(∀ ρ H M,RepDs G ρ H M ds dvs)∧∀ (s:Shared) (us ks:List Value),K.In s.heap→us.length=n→ks.length=kws.length→BindsTo s fd ⟨us,kws.zip ks⟩ (ps.zip (us++(ks++dV)))
def Fills (call:Call) (f:Str) (n:Nat) (ds:List D):Prop:= ∀ xs h,xs.length=n→call f xs h=call f (xs++ds) h
def CallOk (G:GE) (call:Call) (X:Cx) (k:Nat) (f:Str) (a:Addr) (fd:FuncData) (ps:List Str):Prop:=FnG X.prog X.w X.K X.mg X.base (L2.CX X.prog X.w) (2*k+2) a fd ps (spC G call f ps.length)
def ShOk (G:GE) (call:Call) (X:Cx) (f:Str) (fd:FuncData) (ps:List Str) (n:Nat) (kws:List Str):Prop:= ∃ ds,BindSh G X.K fd ps n kws ds∧Fills call f (n+kws.length) ds
def dataT:List String:=["NoneType","bool","int","str","tuple","list","dict"]
def ClsX (K:PySem.W.Frag) (C:Addr):Prop:=PySem.W.findIn K (.ref C) "__class__"=some (some (.builtin "object.__class__"))∧PySem.W.specialIn K (.builtin "object.__class__") "__get__"=some (some (.builtin "getset_descriptor.__get__"))∧PySem.W.takesIn K (.builtin "object.__class__")=some true∧PySem.W.typeIn K (.ref C)=some (.type "type")∧∀ t∈dataT,PySem.W.subIn K (.type t) (.ref C)=some false
def ClsTwo (K:PySem.W.Frag) (c:Str) (C:Addr) (c':Str) (C':Addr):Prop:=PySem.W.notFirst K C (.ref C')=true∧(c=c'∨(c≠c'∧(Value.ref C==Value.ref C')=false∧PySem.W.subIn K (.ref C) (.ref C')=some false))
def selfObj (K:PySem.W.Frag) (C:Addr):Bool:=(PySem.W.clsIn K C).any fun cd=>cd.mro==[.ref C,.type "object"]
def OpX (K:PySem.W.Frag) (C:Addr):Prop:=selfObj K C=true∧PySem.W.findIn K (.ref C) "__iadd__"=some none
def TupK (K:PySem.W.Frag) (a:Addr) (vs:List V):Prop:= ∃ o its n,List.lookup a K=some o∧o.cls=Value.type "tuple"∧o.data=Data.seq its n∧its.size≤sizeLine∧Vals vs its.toList∧o.dict=none
structure StM (K:PySem.W.Frag) (C:Addr) (m:Str) (p g:Addr):Prop where
  rd:PySem.W.readsIn K C (.type "type")=true
  ga:PySem.W.specialIn K (.ref C) "__getattribute__"=some (some (.builtin "type.__getattribute__"))
  at_:PySem.W.findCls K (.ref C) (.type "type") m=some (.get (.builtin "staticmethod.__get__") (.ref p) .none (.ref C))
  rc: ∃ rest,PySem.W.recIn K p "staticmethod"=some (.ref g::rest)
structure GoodB (G:GE) (cc:CC) (X:Cx):Prop where
  N:X.N=cc.N
  bare:G.bare=cc.bare
  nd:cc.N.Nodup
  sc:X.env.scope=cc.sc
  K:X.K=G.K
  units:X.A.units+64<cLine
  wd:X.w=G.w
  gd:X.A.guards=some []
  blt: ∀ x∈blts,X.mg x=none
  con: ∀ x d v,cc.con x=some d→simple d=some v→∃ u,X.mg x=some u∧RelV v u
  conT: ∀ x ds,cc.con x=some (.tup ds)→∃ a vs,X.mg x=some (.ref a)∧TupK X.K a vs∧ds.map simple=vs.map some
  exs: ∀ c f,(c,f)∈cc.exs→∃ C,G.exc c=some (C,f)
  xr: ∀ c C f,G.exc c=some (C,f)→XRow X.K X.mg c C f
  sub: ∀ c C f c' C' f',G.exc c=some (C,f)→G.exc c'=some (C',f')→PySem.W.exmOne X.K (.ref C) (.ref C')=some (decide (c=c'))
  cls: ∀ c C,G.cls c=some C→L2.Cls X.K C∧X.mg c=some (.ref C)
  fld: ∀ c C f,G.cls c=some C→f∈cc.flds→NoAttr X.K C f
  clb: ∀ c C c' C',G.cls c=some C→G.cls c'=some C'→ClsTwo X.K c C c' C'
  ceq: ∀ c C,G.cls c=some C→PySem.W.findIn X.K (.ref C) "__ne__"=some (some (.builtin "object.__ne__"))∧PySem.W.mroIn X.K C (.type "object")=some true∧PySem.W.noSeq X.K C=true∧ClsX X.K C
  isx: ∀ c C f nm b,G.exc c=some (C,f)→(c,nm,b)∈cc.isx→ExcC X.K C∧∃ u cv,RelV u cv∧(∀ w,RelV u w→w=cv)∧((X.mg nm=some cv)∨(X.mg nm=none∧bootBuiltins nm=some cv∧nm≠"__name__"))∧PySem.W.kitOne X.K (.ref C) cv=some b
  opx: ∀ c C,G.cls c=some C→OpX X.K C
  fnx: ∀ f a,G.fns f=some a→f∈cc.fns
  cur: ∀ a a' C,G.cur=some (a,a',C)→∃ oe,(a,oe)∈X.pn∧oe.cls= .ref C∧oe.dict=some a'∧∃ vs,oe.data= .fields vs
structure Good (G:GE) (k:Nat) (call:Call) (cc:CC) (W:WX) (X:Cx):Prop extends GoodB G cc X where
  calm:X.calm=true
  cold:G.cur=none
  tk:Takes X W
  room:Room (2*k+3) X.A
  fn:cc.top=true→∀ x,X.fn x=true
  po:PassesOwn (model X.prog X.w) X.A X.env X.xe
  stk:cc.top=true→X.stack=X.env::X.outer∧X.env.frame=some X.env.locals
  fns: ∀ f∈cc.fns,∃ a fd ps,G.fns f=some a∧X.mg f=some (.ref a)∧PySem.W.keepIn X.K (.ref a)=true∧CallOk G call X k f a fd ps∧∀ n kws,(f,n,kws)∈cc.shp→ShOk G call X f fd ps n kws
  news: ∀ c∈cc.news,∃ C a fd ps,G.cls c=some C∧Mk X.K C a∧CallOk G call X k (mkey c "__init__") a fd ps∧∀ n kws,(mkey c "__init__",n,kws)∈cc.shp→ShOk G call X (mkey c "__init__") fd ps n kws
  mths: ∀ c C m n,G.cls c=some C→(m,n)∈cc.mns→(c,m)∈cc.ml→∃ a,Meth X.K C m a∧PySem.W.fnIn X.K a=true∧((∃ fd ps,CallOk G call X k (mkey c m) a fd ps∧ShOk G call X (mkey c m) fd ps (n+1) [])∨∀ xs h,xs.length=n+1→call (mkey c m) xs h= .bad)
  sts: ∀ c m,(c,m)∈cc.sts→∃ C p a fd ps,G.cls c=some C∧StM X.K C m p a∧PySem.W.keepIn X.K (.ref a)=true∧CallOk G call X k (mkey c m) a fd ps∧∀ n kws,(mkey c m,n,kws)∈cc.shp→ShOk G call X (mkey c m) fd ps n kws
section
variable {G:GE} {k:Nat} {call:Call} {cc:CC} {W:WX} {X:Cx}
def mVar (i:Nat):E:=fun _ s=>match s.σ[i]? with
  |some (some _)=>.ok (.bor i) s
  |_=>.bad
theorem e_var (g:GoodB G cc X) {i:Nat} {x:Str} {pos:Pos} (hi:cc.N[i]?=some x) (hv:Vis cc.sc x) (hd:(x==("__debug__":Str))=false) (hcd:(x==("__classdict__":Str))=false):PE X (.Name x pos) (tE G W call (mVar i)):=by
  refine (pe_var (i:=i) (by rw [g.N];exact hi) (by rw [g.sc];exact hv) hd hcd).of fun σ H Q h=>?_
  obtain ⟨s,Φ,c,a⟩:=h
  unfold mVar at a
  split at a
  · rename_i o e
    obtain ⟨v,ev,c'⟩:=c.name e
    exact ⟨v,ev,a v H c'⟩
  · exact a.elim
def mCon (d:D):E:=fun _ s=>.ok (.own (.fz d)) s
theorem CfS.simple {σr:Sr} {H:Hp} {s:S} {Φ:List (R×V)} {d:D} {v:V} (c:CfS G σr H s Φ) (e:simple d=some v):CfS G σr H s ((.own (.fz d),v)::Φ):=
  CfS.more (K:=[]) c (c.cf.simple e)
theorem tCon {d:D} {v:V} (e:simple d=some v) {σr:Sr} {H:Hp} {Q:VK} (h:tE G W call (mCon d) σr H Q):tC v σr H Q:=by
  obtain ⟨s,Φ,c,a⟩:=h
  exact a v H (c.simple e)
theorem e_int {i:Int} {j:Nat} {pos:Pos}:PE X (.Constant (.int i) j pos) (tE G W call (mCon (.int i))):=pe_int.of fun σ H Q h=>tCon rfl h
theorem e_bl {i:Bool} {j:Nat} {pos:Pos}:PE X (.Constant (.bool i) j pos) (tE G W call (mCon (.bl i))):=pe_bl.of fun σ H Q h=>tCon rfl h
theorem e_str {i:Str} {j:Nat} {pos:Pos}:PE X (.Constant (.str i) j pos) (tE G W call (mCon (.str i))):=pe_str.of fun σ H Q h=>tCon rfl h
theorem e_non {j:Nat} {pos:Pos}:PE X (.Constant .none j pos) (tE G W call (mCon .non)):=pe_non.of fun σ H Q h=>tCon rfl h
theorem e_glo (g:GoodB G cc X) {x:Str} {d:D} {v:V} {pos:Pos} (hg:cc.sc.names.lookup x=some .globalImplicit) (hc:cc.con x=some d) (hs:simple d=some v) (hd:(x==("__debug__":Str))=false):PE X (.Name x pos) (tE G W call (mCon d)):=by
  obtain ⟨u,hu,r⟩:=g.con x d v hc hs
  exact (pe_glob (by show X.env.scope.names.lookup x=_;rw [g.sc];exact hg) hu r hd).of fun σ H Q h=>tCon hs h
theorem reps_simple {ρ:List Addr} {H:Hp} {M:List Addr}: ∀ {ds:List D} {vs:List V},ds.map Mi.simple=vs.map some→RepDs G ρ H M ds vs
  |[],[],_=>rfl
  | d::ds,v::vs,h=>by
    simp only [List.map_cons,List.cons.injEq] at h
    refine ⟨v,vs,rfl, ?_,reps_simple h.2⟩
    have e:=h.1
    cases d<;>simp [Mi.simple] at e<;>subst e<;>rfl
  |[],_::_,h=>by simp at h
  |_::_,[],h=>by simp at h
theorem e_gloT (g:GoodB G cc X) {x:Str} {ds:List D} {pos:Pos} (hg:cc.sc.names.lookup x=some .globalImplicit) (hc:cc.con x=some (.tup ds)) (hd:(x==("__debug__":Str))=false):PE X (.Name x pos) (tE G W call (mCon (.tup ds))):=by
  obtain ⟨a,vs,hm,⟨o,its,n,t1,t2,t3,t4,t5,t6⟩,hs⟩:=g.conT x ds hc
  refine (pe_glob (v:=.ref a) (by show X.env.scope.names.lookup x=_;rw [g.sc];exact hg) hm rfl hd).of fun σ H Q h=>?_
  obtain ⟨s,Φ,c,q⟩:=h
  refine q (.ref a) H ?_
  obtain ⟨ρ,M,cp⟩:=c.parts
  exact CfS.more (K:=[]) c (Cf.fz1.mpr ⟨ρ,M,cp,a,vs,rfl,.inr ⟨o,its,n,by rw [←g.K];exact t1,t2,t3,t4,t5,fun _=>t6⟩,reps_simple hs⟩)
theorem GoodB.gl (g:GoodB G cc X) {x:Str} (hg:cc.sc.names.lookup x=some .globalImplicit):Gl X x:=by
  show X.env.scope.names.lookup x=_;rw [g.sc];exact hg
def notStar:Expr→Bool
  | .Starred _ _=>false
  |_=>true
theorem star_cons {e:Expr} {es:List Expr} {env:Env} (h:notStar e=true):starEach (e::es) env=(false,eval e env)::starEach es env:=by
  cases e<;>first|rfl|cases h
theorem star_any {pos:Pos} {env:Env}: ∀ {es:List Expr},es.all notStar=true→(backTo pos (starEach es env)).any (·.1)=false
  |[],_=>rfl
  | e::es,h=>by
    simp only [List.all_cons,Bool.and_eq_true] at h
    rw [star_cons h.1]
    show ((false:Bool)||(backTo pos (starEach es env)).any (·.1))=false
    rw [star_any h.2];rfl
def aNil:As:=fun _ s=>.ok [] s
def aCons (a:E) (r:As):As:=fun call s=>(a call s).bind fun x s1=>match take s1 x with
  |some (d,s2)=>(r call s2).bind fun ds s3=>.ok (d::ds) s3
  |none=>.bad
theorem a_nil:PA X [] (tL G W call aNil):=pa_nil.of fun σ H Q h=>by
  obtain ⟨s,Φ,c,a⟩:=h
  exact a [] H rfl c
theorem a_cons {e:Expr} {es:List Expr} {m:E} {r:As} (he:PE X e (tE G W call m)) (hr:PA X es (tL G W call r)) (hn:notStar e=true):PA X (e::es) (tL G W call (aCons m r)):=by
  refine (pa_cons he hr (star_cons hn)).of fun σ H Q h=>?_
  obtain ⟨s,Φ,c,a⟩:=h
  refine ⟨s,Φ,c,(Aft.bind a).mono fun x s1 a1=>fun v H1 c1=>?_⟩
  split at a1
  · rename_i d s2 et
    have c2:=c1.take et
    refine ⟨s2,_,c2,((Aft.bind a1).frame1).mono fun ds s3 a3=>fun vs H3 l c3=>?_⟩
    refine a3 (v::vs) H3 (by simp [l]) ?_
    exact c3.perm (List.perm_middle)
  · exact a1.elim
theorem ow_fz: ∀ {ds:List D} {vs:List V},ow (FzR ds vs)=Fz ds vs
  |[],_=>by simp [FzR,Fz,ow]
  |_::_,[]=>by simp [FzR,Fz,ow]
  | d::ds,v::vs=>by
    show (O.fz d,v)::ow (FzR ds vs)=(O.fz d,v)::Fz ds vs
    rw [ow_fz]
theorem nob_fz: ∀ {ds:List D} {vs:List V} {i:Nat} {v:V},(R.bor i,v)∉FzR ds vs
  |[],_,_,_=>by simp [FzR]
  |_::_,[],_,_=>by simp [FzR]
  | d::ds,v::vs,i,w=>by
    show (R.bor i,w)∉(R.own (.fz d),v)::FzR ds vs
    intro h
    rcases List.mem_cons.mp h with h|h
    · cases h
    · exact nob_fz h
theorem CfS.pack {σr:Sr} {H H':Hp} {s:S} {Φ:List (R×V)} {ds:List D} {vs:List V} {o:O} {v:V} (c:CfS G σr H s (FzR ds vs++Φ)) (f: ∀ L,Cf G H s.h (Fz ds vs++L)→Cf G H' s.h ((o,v)::L)):CfS G σr H' s ((.own o,v)::Φ):=
  c.by_ (fun i w q=>by
    rcases List.mem_cons.mp q with q|q
    · cases q
    · exact List.mem_append_right _ q) fun L q=>by
    rw [ow_append,ow_fz,List.append_assoc] at q
    exact f _ q
def fitsB (n:Nat):Bool:=decide (n≤100000)
theorem fits {n:Nat} (h:fitsB n=true):n≤sizeLine:=Nat.le_trans (of_decide_eq_true h) (by decide)
def mTup (r:As):E:=fun call s=>(r call s).bind fun ds s1=>if fitsB ds.length then .ok (.own (.fz (.tup ds))) s1 else .bad
def mLst (r:As):E:=fun call s=>(r call s).bind fun ds s1=>if fitsB ds.length then .ok (.own (.lst ds)) s1 else .bad
theorem pe_tupB {es:List Expr} {t:TA} {n:Nat} {pos:Pos} (h:PA X es t):PE X (.Tuple es n pos) (fun σ H Q=>t σ H fun xs H1=>xs.length≤sizeLine∧∀ p ob,ob.dict=none→H1 p=none→Q (.ref p) (upd H1 p (.frz ob (.tup xs)))):=by
  refine ⟨fun pins s σ H Q I hq=>?_⟩
  refine wpAny_Tuple_spliced (thn (h.run pos pins s σ H _ I hq) fun us s1 ⟨xs,H1,I1,r,z,q⟩=>⟨by rw [←r.length];exact z, ?_⟩)
  have hf:H1 s1.heap.objs.size=none:=I1.hok.fresh (Nat.le_refl _)
  refine ⟨.ref s1.heap.objs.size,upd H1 s1.heap.objs.size (.frz {cls:=.type "tuple",data:=.seq us.toArray} (.tup xs)),I1.laid (t':=s1.toks) (fun b u e=>Heap.get?_push_of_some _ e) (Nat.le_refl _) ?_,rfl,q _ _ rfl hf⟩
  exact ⟨Heap.get?_push_size _ rfl,z,us,r,⟨_,Heap.get?_push_size _ rfl,rfl,_,rfl⟩⟩
theorem e_tup {es:List Expr} {r:As} {n:Nat} {pos:Pos} (h:PA X es (tL G W call r)):PE X (.Tuple es n pos) (tE G W call (mTup r)):=by
  cases hb:G.bare with
  | false=>
    refine (pe_tup h).of fun σ H Q q=>?_
    obtain ⟨s,Φ,c,a⟩:=q
    refine ⟨s,Φ,c,(Aft.bind a).mono fun ds s1 a1=>fun vs H1 l c1=>?_⟩
    split at a1
    · rename_i hf
      exact ⟨by rw [←l];exact fits hf,fun p hp=>a1 _ _ (c1.pack fun L q=>Cf.newTup l q hp ⟨hb,rfl⟩)⟩
    · exact a1.elim
  | true=>
    refine (pe_tupB h).of fun σ H Q q=>?_
    obtain ⟨s,Φ,c,a⟩:=q
    refine ⟨s,Φ,c,(Aft.bind a).mono fun ds s1 a1=>fun vs H1 l c1=>?_⟩
    split at a1
    · rename_i hf
      exact ⟨by rw [←l];exact fits hf,fun p ob ho hp=>a1 _ _ (c1.pack fun L q=>Cf.newTup l q hp ⟨rfl,fun _=>ho⟩)⟩
    · exact a1.elim
theorem e_lst {es:List Expr} {r:As} {pos:Pos} (h:PA X es (tL G W call r)):PE X (.List es pos) (tE G W call (mLst r)):=by
  refine (pe_lst h).of fun σ H Q q=>?_
  obtain ⟨s,Φ,c,a⟩:=q
  refine ⟨s,Φ,c,(Aft.bind a).mono fun ds s1 a1=>fun vs H1 l c1=>?_⟩
  split at a1
  · rename_i hf
    exact ⟨by rw [←l];exact fits hf,fun p hp=>a1 _ _ (c1.pack fun L q=>Cf.newLst l q hp)⟩
  · exact a1.elim
def truD:D→Option Bool
  | .non=>some false
  | .bl b=>some b
  | .int i=>some (i !=0)
  | .str x=>if fitsB x.length then some ((x.length:Int) !=0) else none
  | .tup ds=>some (!ds.isEmpty)
  | .lst ds=>some (!ds.isEmpty)
  | .dic ks ds=>none
  |_=>none
theorem RepDs.isEmpty {ρ:List Addr} {H:Hp} {M:List Addr} {ds:List D} {vs:List V} (r:RepDs G ρ H M ds vs):ds.isEmpty=vs.isEmpty:=by
  have:=r.length
  cases ds<;>cases vs<;>simp at this<;>rfl
theorem tru_of {ρ:List Addr} {H:Hp} {M:List Addr} {d:D} {v:V} {b:Bool} (hK:X.K=G.K) (r:RepT G ρ H M d v) (e:truD d=some b):TruV X.K v H b:=by
  rw [hK]
  cases d with
  |non=>simp only [truD,Option.some.injEq] at e;subst e;obtain rfl:=(show v=_ from r);rfl
  |bl b=>simp only [truD,Option.some.injEq] at e;subst e;obtain rfl:=(show v=_ from r);rfl
  |int b=>simp only [truD,Option.some.injEq] at e;subst e;obtain rfl:=(show v=_ from r);rfl
  | str x=>
    simp only [truD] at e
    split at e
    · rename_i hf
      simp only [Option.some.injEq] at e;subst e;obtain rfl:=(show v=_ from r);exact ⟨fits hf,rfl⟩
    · cases e
  | tup ds=>
    simp only [truD,Option.some.injEq] at e;subst e
    obtain ⟨a,vs,rfl,t,r⟩:=r
    exact .inr (.inl ⟨vs,t.sq,by rw [r.isEmpty]⟩)
  | lst ds=>
    simp only [truD,Option.some.injEq] at e;subst e
    obtain ⟨a,vs,rfl,t,r⟩:=r
    exact .inl ⟨vs,.inl (.inl t),by rw [r.isEmpty]⟩
  |dic ks ds=>simp [truD] at e
  |ins c fs ds=>simp [truD] at e
  |dct ks ds=>simp [truD] at e
  |loc n=>simp [truD] at e
  |fn f=>simp [truD] at e
  |scr ns=>simp [truD] at e
  |ty n=>simp [truD] at e
  |cls c=>simp [truD] at e
  |xn c f d=>simp [truD] at e
  |xv c f d=>simp [truD] at e
  |lk o kvs=>simp [truD] at e
def truR (s:S) (x:R):Option Bool:=(peek s x).bind truD
def bVal (m:E):B:=fun call s=>(m call s).bind fun x s1=>lift s1 (truR s1 x)
theorem t_val (g:GoodB G cc X) {e:Expr} {m:E} (h:PE X e (tE G W call m)) (he: ∀ env whole,isTrue e env whole=(do let v ←whole;standAt e.pos;holding [v] (truthy v))):PT X e (tB_ G W call (bVal m)):=by
  refine (pt_truth h (he _)).of fun σ H Q q=>?_
  obtain ⟨s,Φ,c,a⟩:=q
  refine ⟨s,Φ,c,(Aft.bind a).mono fun x s1 a1=>fun v H1 c1=>?_⟩
  obtain ⟨b,e1,q⟩:=Aft.lift a1
  simp only [truR,Option.bind_eq_some_iff] at e1
  obtain ⟨d,e2,e3⟩:=e1
  obtain ⟨ρ,M,cp⟩:=c1.parts
  exact ⟨b,tru_of g.K (c1.peek (by simp) e2 cp) e3,q H1 c1.drop⟩
def isB (s:S) (x:R):Option Bool:=(peek s x).bind fun d=>match d with| .bl b=>some b|_=>none
def bCmp (m:E):B:=fun call s=>(m call s).bind fun x s1=>lift s1 (isB s1 x)
theorem t_cmp1 {f:D→D→Option O} {op:CmpOp} {a b:Expr} {ma mb:E} {pos:Pos} (ho:OpR X (compareOp op) (r2 G f)) (ha:PE X a (tE G W call ma)) (hb:PE X b (tE G W call mb)) (hm:behindInMarks op b=false):PT X (.Compare a [op] [b] pos) (tB_ G W call (bCmp (mTwo f ma mb))):=by
  refine (pt_cmpR ho ha hb hm).of fun σ H Q q=>?_
  obtain ⟨s,Φ,c,a⟩:=q
  refine tTwo ⟨s,Φ,c,(Aft.bind a).mono fun x s1 a1=>fun v H1 c1=>?_⟩
  obtain ⟨b,e1,q⟩:=Aft.lift a1
  simp only [isB,Option.bind_eq_some_iff] at e1
  obtain ⟨d,e2,e3⟩:=e1
  obtain ⟨ρ,M,cp⟩:=c1.parts
  have r:=c1.peek (v:=v) (by simp) e2 cp
  split at e3
  · rename_i b'
    simp only [Option.some.injEq] at e3
    subst e3
    exact ⟨b',r,q H1 c1.drop⟩
  · cases e3
def bNot (m:B):B:=fun call s=>(m call s).bind fun b s1=>.ok (!b) s1
theorem t_not {a:Expr} {m:B} {pos:Pos} (h:PT X a (tB_ G W call m)):PT X (.UnaryOp .Not a pos) (tB_ G W call (bNot m)):=by
  refine (pt_not h).of fun σ H Q q=>?_
  obtain ⟨s,Φ,c,a⟩:=q
  exact ⟨s,Φ,c,(Aft.bind a).mono fun b s1 a1=>fun H1 c1=>a1 H1 c1⟩
def bAnd (a b:B):B:=fun call s=>(a call s).bind fun x s1=>if x then b call s1 else .ok false s1
def bOr (a b:B):B:=fun call s=>(a call s).bind fun x s1=>if x then .ok true s1 else b call s1
theorem w_and1 {a:Expr} {m:B} {pos:Pos} (h:PT X a (tB_ G W call m)):PW X (.BoolOp .And [a] pos) (tB_ G W call m):=pw_and1 h
theorem w_or1 {a:Expr} {m:B} {pos:Pos} (h:PT X a (tB_ G W call m)):PW X (.BoolOp .Or [a] pos) (tB_ G W call m):=pw_or1 h
theorem _root_.L2.PW.of {X:Cx} {e:Expr} {t t':TT} (h:PW X e t') (i: ∀ σ H Q,t σ H Q→t' σ H Q):PW X e t:=⟨fun w pins s σ H Q I q=>h.run w pins s σ H Q I (i σ H Q q)⟩
theorem w_or {a b:Expr} {rest:List Expr} {m n:B} {pos:Pos} (h:PT X a (tB_ G W call m)) (h2:PW X (.BoolOp .Or (b::rest) pos) (tB_ G W call n)):PW X (.BoolOp .Or (a::b::rest) pos) (tB_ G W call (bOr m n)):=by
  refine (pw_or h h2).of fun σ H Q q=>?_
  obtain ⟨s,Φ,c,a⟩:=q
  refine ⟨s,Φ,c,(Aft.bind a).mono fun b s1 a1=>fun H1 c1=>?_⟩
  cases b with
  |true=>exact a1 H1 c1
  |false=>exact ⟨s1,Φ,c1,a1⟩
def mAnd (a b:E):E:=fun call s=>(a call s).bind fun x s1=>match truR s1 x with
  |some true=>b call s1
  |some false=>.ok x s1
  |none=>.bad
def mNot (a:E):E:=fun call s=>(a call s).bind fun x s1=>match truR s1 x with
  |some b=>.ok (.own (.fz (.bl (!b)))) s1
  |none=>.bad
def mIf (c:B) (a b:E):E:=fun call s=>(c call s).bind fun x s1=>if x then a call s1 else b call s1
theorem e_if {c a b:Expr} {mc:B} {ma mb:E} {pos:Pos} (hc:PT X c (tB_ G W call mc)) (ha:PE X a (tE G W call ma)) (hb:PE X b (tE G W call mb)):PE X (.IfExp c a b pos) (tE G W call (mIf mc ma mb)):=by
  refine (pe_ifExp hc ha hb).of fun σ H Q q=>?_
  obtain ⟨s,Φ,c,a⟩:=q
  refine ⟨s,Φ,c,(Aft.bind a).mono fun x s1 a1=>fun H1 c1=>?_⟩
  cases x with
  |true=>exact iteT ⟨s1,Φ,c1,a1⟩
  |false=>exact iteF ⟨s1,Φ,c1,a1⟩
def mCall (f:Str) (r:As):E:=fun call s=>(r call s).bind fun ds s1=>match call f ds s1.h with
  | .ok o h=>.ok (.own o) ⟨s1.σ,h⟩
  | .exc c d h=>.exc c d ⟨s1.σ,h⟩
  | .bad=>.bad
theorem call_of {f:Str} {n:Nat} {σr:Sr} {H1:Hp} {s1:S} {Φ:List (R×V)} {ds:List D} {vs:List V} {Q:VK} (hn:vs.length=n) (l:ds.length=vs.length) (c1:CfS G σr H1 s1 (FzR ds vs++Φ))
    (a1:Aft G W σr Φ (PV G σr Φ Q) (match call f ds s1.h with
      | .ok o h=>Out.ok (.own o) ⟨s1.σ,h⟩
      | .exc c d h=>.exc c d ⟨s1.σ,h⟩
      | .bad=>.bad)):spC G call f n vs H1 Q (WE W σr):=by
  refine ⟨hn,s1.h,slp s1.σ σr++ow Φ,ds,l, ?_, ?_⟩
  · have q:=c1.cf
    rw [ow_append,ow_fz] at q
    refine q.perm ?_
    rw [←List.append_assoc,←List.append_assoc]
    exact List.perm_append_comm.append_right _
  · cases e:call f ds s1.h with
    | ok o h=>
      rw [e] at a1
      intro v H' q
      refine a1 v H' ⟨c1.sl,fun i w z=>?_,q.perm ?_⟩
      · rcases List.mem_cons.mp z with z|z
        · cases z
        · exact c1.bo i w (List.mem_append_right _ z)
      · exact List.perm_middle.symm
    | exc cn d h=>
      rw [e] at a1
      intro C fl a v H' e1 e2 q
      refine a1 _ _ H' ⟨C,fl,a,v,rfl,e1,rfl,e2,c1.sl,fun i w z=>?_,q.perm ?_⟩
      · rcases List.mem_cons.mp z with z|z
        · cases z
        · exact c1.bo i w (List.mem_append_right _ z)
      · exact List.perm_middle.symm
    |bad=>rw [e] at a1;exact a1.elim
theorem Cf.addK {H:Hp} {h:List O} {L:List (O×V)} {ds es:List D} {vs us:List V} (l:ds.length=vs.length) (c:Cf G H h (Fz ds vs++L)) (r: ∀ ρ H M,RepDs G ρ H M es us):Cf G H h (Fz (ds++es) (vs++us)++L):=by
  obtain ⟨ρ,M,cp,q⟩:=(Cf.fz l).mp c
  have q2:=q.append (r ρ H M)
  exact (Cf.fz q2.length).mpr ⟨ρ,M,cp,q2⟩
theorem FzR_append {ds es:List D} {vs us:List V} (l:ds.length=vs.length):FzR (ds++es) (vs++us)=FzR ds vs++FzR es us:=by
  unfold FzR
  rw [List.zipWith_append l]
theorem fzr_nob (i:Nat) (w:V): ∀ {es:List D} {us:List V},(R.bor i,w)∉FzR es us
  |[],_=>by simp [FzR]
  |_::_,[]=>by simp [FzR]
  | e::es,u::us=>by
    have ih:=fzr_nob i w (es:=es) (us:=us)
    unfold FzR at ih ⊢
    intro z
    rw [List.zipWith_cons_cons] at z
    rcases List.mem_cons.mp z with z|z
    · cases z
    · exact ih z
theorem CfS.addK {σr:Sr} {H:Hp} {s:S} {Φ:List (R×V)} {ds es:List D} {vs us:List V} (l:ds.length=vs.length) (c:CfS G σr H s (FzR ds vs++Φ)) (r: ∀ ρ H M,RepDs G ρ H M es us):CfS G σr H s (FzR (ds++es) (vs++us)++Φ):=by
  have le:es.length=us.length:=(r [] H []).length
  refine ⟨c.sl,fun i w z=>?_, ?_⟩
  · rcases List.mem_append.mp z with z|z
    · rw [FzR_append l] at z
      rcases List.mem_append.mp z with z|z
      · exact c.bo i w (List.mem_append_left _ z)
      · exact absurd z (fzr_nob i w)
    · exact c.bo i w (List.mem_append_right _ z)
  · have q:=c.cf
    rw [ow_append,ow_fz] at q
    rw [ow_append,ow_fz]
    have q1:Cf G H s.h (Fz ds vs++(slp s.σ σr++ow Φ)):=q.perm (by
      rw [←List.append_assoc,←List.append_assoc]
      exact List.perm_append_comm.append_right _)
    refine (q1.addK l r).perm ?_
    rw [←List.append_assoc,←List.append_assoc]
    exact List.perm_append_comm.append_right _
theorem run_fnG {T:CXT} {n:Nat} {a:Addr} {fd:FuncData} {ps kws:List Str} {q:Sp} {E:Sr→XK} {pins:List (Addr×Obj)} {σ:Sr} {H:Hp} {s:Shared} {Q:VK} {us ws:List Value} {vs zs:List V} {m:Nat} {ds:List D} (F:FnG X.prog X.w X.K X.mg X.base T n a fd ps q) (rm:Room n X.A) (gd:X.A.guards=some [])
    (bs:BindSh G X.K fd ps m kws ds) (pa:PassesAt T X σ (E σ)) (I:Inv X pins σ H s) (rv:Vals vs us) (rz:Vals zs ws) (hm:us.length=m) (hk:ws.length=kws.length) (told: ∀ dvs,(∀ ρ H M,RepDs G ρ H M ds dvs)→q (vs++(zs++dvs)) H Q (E σ)):
    wpAny (model X.prog X.w) X.A (PySem.call (.ref a) us (kws.zip ws)) (EP X pins σ Q) X.xe s:=by
  obtain ⟨_,dV,dvs,rd,rep,bt⟩:=bs
  have t:=told dvs rep
  refine wpAny_call (codeAny_mono (F.go X.A X.stack s H ⟨us,kws.zip ws⟩ _ _ Q (E σ) rm gd I.env0 (bt s us ws I.kIn hm hk) (rv.append (rz.append rd)) t) fun res s2 back=>?_)
  cases res with
  |error e=>exact pa pins H s e s2 I back
  | ok fl=>
    cases fl with
    |ret u=>exact I.after back
    |_=>all_goals exact False.elim back
theorem call_fill {f:Str} {n:Nat} {ps:List Str} {σr:Sr} {H1:Hp} {s1:S} {Φ:List (R×V)} {xs ds:List D} {vs dvs:List V} {Q:VK} (fl:Fills call f n ds) (hx:xs.length=n) (hp:n+ds.length=ps.length) (l:xs.length=vs.length) (c1:CfS G σr H1 s1 (FzR xs vs++Φ)) (rep: ∀ ρ H M,RepDs G ρ H M ds dvs)
    (a1:Aft G W σr Φ (PV G σr Φ Q) (match call f xs s1.h with
      | .ok o h=>Out.ok (.own o) ⟨s1.σ,h⟩
      | .exc c d h=>.exc c d ⟨s1.σ,h⟩
      | .bad=>.bad)):spC G call f ps.length (vs++dvs) H1 Q (WE W σr):=by
  rw [fl xs s1.h hx] at a1
  have le:ds.length=dvs.length:=(rep [] H1 []).length
  exact call_of (by rw [List.length_append,←l,←le,hx];exact hp) (by rw [List.length_append,List.length_append,l,le]) (c1.addK l rep) a1
def lenA (r:As) (n:Nat):Prop:= ∀ call s xs s',r call s= .ok xs s'→xs.length=n
theorem e_call (g:Good G k call cc W X) {f:Str} {e:Expr} {es:List Expr} {r:As} {p pos:Pos} (hf:f∈cc.fns) (hs:(f,es.length+1,[])∈cc.shp) (hg:cc.sc.names.lookup f=some .globalImplicit) (h:PA X (e::es) (tL G W call r)) (hl:lenA r (es.length+1)) (hn:(e::es).all notStar=true) (hd:(f==("__debug__":Str))=false):
    PE X (.Call (.Name f p) (e::es) [] pos) (tE G W call (mCall f r)):=by
  obtain ⟨a,fd,ps,ga,hm,hk,F,hb⟩:=g.fns f hf
  obtain ⟨ds,bs,fl⟩:=hb _ _ hs
  simp only [List.all_cons,Bool.and_eq_true] at hn
  refine ⟨fun pins s σ H Q I q=>?_⟩
  refine wpAny_Call_Name_kw (ld_glob I (g.gl hg) hm ?_ hd)
  have ev:tL G W call r σ H (fun vs H1=>vs.length=es.length+1∧∀ dvs,(∀ ρ H M,RepDs G ρ H M ds dvs)→spC G call f ps.length (vs++([]++dvs)) H1 Q (WE W σ)):=by
    obtain ⟨st,Φ,c,a⟩:=q
    unfold mCall at a
    have a':=Aft.bind a
    refine ⟨st,Φ,c, ?_⟩
    cases er:r call st with
    | ok xs s1=>
      rw [er] at a'
      intro vs H1 l c1
      have hx:=hl call st xs s1 er
      refine ⟨by rw [←l];exact hx,fun dvs rep=>?_⟩
      rw [List.nil_append]
      exact call_fill fl hx bs.1 l c1 rep a'
    |exc cn d s1=>rw [er] at a';exact a'
    |bad=>rw [er] at a';exact a'
  refine PySem.W.callWith_K (h₀:=X.base) I.ok.mod.kin hk (thn (h.run pos pins s σ H _ I ev) fun us s1 ⟨vs,H1,I1,rv,hvl,told⟩=>⟨I1.kIn, ?_⟩) (star_cons hn.1) (star_any hn.2)
  exact run_fnG (us:=us) (kws:=[]) (ws:=[]) (zs:=[]) F (g.room.mono (by omega)) g.gd bs (passAt g.tk σ) I1 rv .nil (by rw [←rv.length];exact hvl) rfl told
abbrev AsR:=Call→S→Out (List R)
abbrev PR (G:GE) (σr:Sr) (Φ:List (R×V)) (Q:List V→Hp→Prop):List R→S→Prop:=fun rs s=> ∀ vs H,rs.length=vs.length→CfS G σr H s (rs.zip vs++Φ)→Q vs H
def tR (G:GE) (W:WX) (call:Call) (m:AsR):TA:=fun σr H Q=> ∃ s Φ,CfS G σr H s Φ∧Aft G W σr Φ (PR G σr Φ Q) (m call s)
def rNil:AsR:=fun _ s=>.ok [] s
def rCons (a:E) (r:AsR):AsR:=fun call s=>(a call s).bind fun x s1=>(r call s1).bind fun rs s2=>.ok (x::rs) s2
theorem r_nil:PA X [] (tR G W call rNil):=pa_nil.of fun σ H Q h=>by
  obtain ⟨s,Φ,c,a⟩:=h
  exact a [] H rfl c
theorem r_cons {e:Expr} {es:List Expr} {m:E} {r:AsR} (he:PE X e (tE G W call m)) (hr:PA X es (tR G W call r)) (hn:notStar e=true):PA X (e::es) (tR G W call (rCons m r)):=by
  refine (pa_cons he hr (star_cons hn)).of fun σ H Q h=>?_
  obtain ⟨s,Φ,c,a⟩:=h
  refine ⟨s,Φ,c,(Aft.bind a).mono fun x s1 a1=>fun v H1 c1=>?_⟩
  refine ⟨s1,_,c1,((Aft.bind a1).frame1).mono fun rs s3 a3=>fun vs H3 l c3=>?_⟩
  refine a3 (v::vs) H3 (by simp [l]) ?_
  exact c3.perm (List.perm_middle)
def peeks (s:S):List R→Option (List D)
  |[]=>some []
  |r::rs=>(peek s r).bind fun d=>(peeks s rs).bind fun ds=>some (d::ds)
def RepTs (G:GE) (ρ:List Addr) (H:Hp) (M:List Addr):List D→List V→Prop
  |[],vs=>vs=[]
  |d::ds,vs=> ∃ v r,vs=v::r∧RepT G ρ H M d v∧RepTs G ρ H M ds r
def rN (G:GE) (f:List D→Option O):List V→Hp→VK→Prop:=fun vs H Q=> ∃ ρ M h L ds o,Cp G ρ H M h L∧RepTs G ρ H M ds vs∧f ds=some o∧∀ v H',Cf G H' h ((o,v)::L)→Q v H'
def mBlt (f:List D→Option O) (r:AsR):E:=fun call s=>(r call s).bind fun rs s1=>lift s1 ((peeks s1 rs).bind fun ds=>(f ds).map R.own)
theorem peeks_of {ρ:List Addr} {H:Hp} {M:List Addr} {σr:Sr} {s:S} {Φ:List (R×V)} (c:CfS G σr H s Φ) (cp:Cp G ρ H M s.h (slp s.σ σr++ow Φ)): ∀ {rs:List R} {vs:List V} {ds:List D},rs.length=vs.length→(∀ p∈rs.zip vs,p∈Φ)→peeks s rs=some ds→RepTs G ρ H M ds vs
  | [],[],ds,_,_,e=>by
    simp only [peeks,Option.some.injEq] at e;subst e;rfl
  | r::rs,v::vs,ds,l,hm,e=>by
    simp only [peeks,Option.bind_eq_some_iff] at e
    obtain ⟨d,e1,ds',e2,e3⟩:=e
    simp only [Option.some.injEq] at e3
    subst e3
    exact ⟨v,vs,rfl,c.peek (hm (r,v) (by simp)) e1 cp,peeks_of c cp (by simpa using l) (fun p hp=>hm p (by simp [hp])) e2⟩
  |[],_::_,_,l,_,_=>by simp at l
  |_::_,[],_,l,_,_=>by simp at l
theorem tBlt {f:List D→Option O} {r:AsR} {σr:Sr} {H:Hp} {Q:VK} (h:tE G W call (mBlt f r) σr H Q):tR G W call r σr H fun vs H1=>rN G f vs H1 Q:=by
  obtain ⟨s,Φ,c,a⟩:=h
  refine ⟨s,Φ,c,(Aft.bind a).mono fun rs s1 a1=>fun vs H1 l c1=>?_⟩
  obtain ⟨y,e,q⟩:=Aft.lift a1
  simp only [Option.bind_eq_some_iff,Option.map_eq_some_iff] at e
  obtain ⟨ds,e1,o,eo,ey⟩:=e
  subst ey
  obtain ⟨ρ,M,cp⟩:=c1.parts
  exact ⟨ρ,M,_,_,ds,o,cp,peeks_of c1 cp l (fun p hp=>List.mem_append_left _ hp) e1,eo,fun w H2 c2=>q w H2 (CfS.more (K:=rs.zip vs) c1 c2)⟩
theorem e_blt (g:GoodB G cc X) {f:List D→Option O} {id:String} {x:Str} {e:Expr} {es:List Expr} {r:AsR} {p pos:Pos} (hc:CallR X (.builtin id) (rN G f)) (hb:x∈blts) (hg:cc.sc.names.lookup x=some .globalImplicit) (hv:bootBuiltins x=some (.builtin id))
    (h:PA X (e::es) (tR G W call r)) (hn:(e::es).all notStar=true) (h1:x≠"__name__") (h2:(x==("__debug__":Str))=false):PE X (.Call (.Name x p) (e::es) [] pos) (tE G W call (mBlt f r)):=by
  simp only [List.all_cons,Bool.and_eq_true] at hn
  exact (pe_callB hc (g.gl hg) (g.blt x hb) hv h h1 h2 (star_cons hn.1) (star_any hn.2)).of fun σ H Q q=>tBlt q
theorem e_ty (g:GoodB G cc X) {f:List D→Option O} {id:String} {x:Str} {e:Expr} {es:List Expr} {r:AsR} {p pos:Pos} (hc:CallR X (.type id) (rN G f)) (hb:x∈blts) (hg:cc.sc.names.lookup x=some .globalImplicit) (hv:bootBuiltins x=some (.type id))
    (h:PA X (e::es) (tR G W call r)) (hn:(e::es).all notStar=true) (h1:x≠"__name__") (h2:(x==("__debug__":Str))=false):PE X (.Call (.Name x p) (e::es) [] pos) (tE G W call (mBlt f r)):=by
  simp only [List.all_cons,Bool.and_eq_true] at hn
  exact (pe_callTy hc (g.gl hg) (g.blt x hb) hv h h1 h2 (star_cons hn.1) (star_any hn.2)).of fun σ H Q q=>tBlt q
theorem e_tyName (g:GoodB G cc X) {x:Str} {n:String} {pos:Pos} (hb:x∈blts) (hg:cc.sc.names.lookup x=some .globalImplicit) (hv:bootBuiltins x=some (.type n)) (h1:x≠"__name__") (h2:(x==("__debug__":Str))=false):PE X (.Name x pos) (tE G W call (mCon (.ty n))):=
  (pe_bltn (v:=.ty n) (g.gl hg) (g.blt x hb) hv rfl h1 h2).of fun σ H Q h=>tCon rfl h
end
end Mi
namespace Mi
open PySem PySem.Spec PyProof.Rows L2
theorem _root_.L2.OpR.imp {X:Cx} {f:Value→Value→Sem Value} {r r':R2} (h:OpR X f r') (i: ∀ x y H Q,r x y H Q→r' x y H Q):OpR X f r:=fun pins s σ H x y v u Q I rx ry q=>h pins s σ H x y v u Q I rx ry (i x y H Q q)
theorem _root_.L2.IxR.imp {X:Cx} {r r':R2} (h:IxR X r') (i: ∀ x y H Q,r x y H Q→r' x y H Q):IxR X r:=fun a b pins s σ H x y v u Q I rx ry q=>h a b pins s σ H x y v u Q I rx ry (i x y H Q q)
theorem _root_.L2.CallR.imp {X:Cx} {f:Value} {r r':List V→Hp→VK→Prop} (h:CallR X f r') (i: ∀ x H Q,r x H Q→r' x H Q):CallR X f r:=fun pins s σ H xs us Q I rx q=>h pins s σ H xs us Q I rx (i xs H Q q)
mutual
def toP:D→Option PyData
  | .non=>some .none
  | .bl b=>some (.bool b)
  | .int i=>some (.int i)
  | .str x=>some (.str x)
  | .tup ds=>(toPs ds).map .tuple
  | .lst ds=>(toPs ds).map .list
  | .scr ns=>some (.list (ns.map .int))
  |_=>none
def toPs:List D→Option (List PyData)
  |[]=>some []
  |d::ds=>(toP d).bind fun p=>(toPs ds).bind fun ps=>some (p::ps)
end
section
variable {G:GE} {ρ:List Addr} {H:Hp} {M:List Addr}
theorem dp_ints {K:PySem.W.Frag}: ∀ ns:List Int,DpAll K H (ns.map V.int) (ns.map PyData.int)
  |[]=>.nil
  |n::ns=>.cons (.int n) (dp_ints ns)
mutual
theorem RepD.dp: ∀ (d:D) (v:V) (p:PyData),RepD G ρ H M d v→toP d=some p→Dp G.K H v p
  | .non,v,p,r,e=>by simp only [toP,Option.some.injEq] at e;subst e;obtain rfl:=(show v=_ from r);exact .non
  | .bl b,v,p,r,e=>by simp only [toP,Option.some.injEq] at e;subst e;obtain rfl:=(show v=_ from r);exact .bl b
  | .int b,v,p,r,e=>by simp only [toP,Option.some.injEq] at e;subst e;obtain rfl:=(show v=_ from r);exact .int b
  | .str b,v,p,r,e=>by simp only [toP,Option.some.injEq] at e;subst e;obtain rfl:=(show v=_ from r);exact .str b
  | .tup ds,v,p,r,e=>by
    simp only [toP,Option.map_eq_some_iff] at e
    obtain ⟨ps,e1,e2⟩:=e
    subst e2
    obtain ⟨a,vs,rfl,t,q⟩:=r
    exact .tup t.sq (RepDs.dp ds vs ps q e1)
  | .lst ds,v,p,r,e=>by
    simp only [toP,Option.map_eq_some_iff] at e
    obtain ⟨ps,e1,e2⟩:=e
    subst e2
    obtain ⟨a,vs,rfl,t,n,q⟩:=r
    exact .lst (.inl (.inl t)) (RepDs.dp ds vs ps q e1)
  | .scr ns,v,p,r,e=>by
    simp only [toP,Option.some.injEq] at e
    subst e
    obtain ⟨a,rfl,t|t⟩:=r
    · exact .lst (.inl t.1) (dp_ints ns)
    · exact .lst (.inr t) (dp_ints ns)
  | .dic _ _,_,_,_,e=>by simp [toP] at e
  | .dct _ _,_,_,_,e=>by simp [toP] at e
  | .ins _ _ _,_,_,_,e=>by simp [toP] at e
  | .loc _,_,_,_,e=>by simp [toP] at e
  | .fn _,_,_,_,e=>by simp [toP] at e
  | .ty _,_,_,_,e=>by simp [toP] at e
  | .cls _,_,_,_,e=>by simp [toP] at e
  | .xn _ _ _,_,_,_,e=>by simp [toP] at e
  | .xv _ _ _,_,_,_,e=>by simp [toP] at e
  | .lk _ _,_,_,_,e=>by simp [toP] at e
theorem RepDs.dp: ∀ (ds:List D) (vs:List V) (ps:List PyData),RepDs G ρ H M ds vs→toPs ds=some ps→DpAll G.K H vs ps
  |[],vs,ps,r,e=>by simp only [toPs,Option.some.injEq] at e;subst e;rw [show vs=[] from r];exact .nil
  | d::ds,vs,ps,r,e=>by
    simp only [toPs,Option.bind_eq_some_iff] at e
    obtain ⟨p,e1,ps',e2,e3⟩:=e
    simp only [Option.some.injEq] at e3
    subst e3
    obtain ⟨v,r',e4,r1,r2⟩:=r
    subst e4
    exact .cons (RepD.dp d v p r1 e1) (RepDs.dp ds r' ps' r2 e2)
end
theorem RepT.dp {d:D} {v:V} {p:PyData} (r:RepT G ρ H M d v) (e:toP d=some p):Dp G.K H v p:=by
  cases d with
  | tup ds=>
    simp only [toP,Option.map_eq_some_iff] at e
    obtain ⟨ps,e1,e2⟩:=e
    subst e2
    obtain ⟨a,vs,rfl,t,q⟩:=r
    exact .tup t.sq (RepDs.dp ds vs ps q e1)
  | lst ds=>
    simp only [toP,Option.map_eq_some_iff] at e
    obtain ⟨ps,e1,e2⟩:=e
    subst e2
    obtain ⟨a,vs,rfl,t,q⟩:=r
    exact .lst (.inl (.inl t)) (RepDs.dp ds vs ps q e1)
  | scr ns=>
    simp only [toP,Option.some.injEq] at e
    subst e
    obtain ⟨a,rfl,t⟩:=r
    exact .lst t (dp_ints ns)
  |non=>exact RepD.dp (G:=G) (ρ:=ρ) (M:=M) .non v p r e
  |bl b=>exact RepD.dp (G:=G) (ρ:=ρ) (M:=M) (.bl b) v p r e
  |int b=>exact RepD.dp (G:=G) (ρ:=ρ) (M:=M) (.int b) v p r e
  |str b=>exact RepD.dp (G:=G) (ρ:=ρ) (M:=M) (.str b) v p r e
  |dic _ _=>simp [toP] at e
  |ins _ _ _=>simp [toP] at e
  |dct _ _=>simp [toP] at e
  |loc _=>simp [toP] at e
  |fn _=>simp [toP] at e
  |ty _=>simp [toP] at e
  |cls _=>simp [toP] at e
  |xn _ _ _=>simp [toP] at e
  |xv _ _ _=>simp [toP] at e
  |lk _ _=>simp [toP] at e
end
def fI (i:Int):Option O:=some (.fz (.int i))
def fB (b:Bool):Option O:=some (.fz (.bl b))
def addD:D→D→Option O
  | .int i,.int j=>fI (i+j)
  | .str x,.str y=>if fitsB (x.length+y.length) then some (.fz (.str (x++y))) else none
  | .lst a,.lst b=>if fitsB (a.length+b.length) then some (.lst (a++b)) else none
  | .tup a,.tup b=>if fitsB (a.length+b.length) then some (.fz (.tup (a++b))) else none
  |_,_=>none
def subD:D→D→Option O
  | .int i,.int j=>fI (i - j)
  |_,_=>none
def smallI (i:Int):Bool:=decide (-(2^64)<i)&&decide (i<2^64)
def mulD:D→D→Option O
  | .int i,.int j=>if smallI i||smallI j then fI (i*j) else none
  | .lst a,.int k=>if decide (-(2^63)≤k)&&decide (k<2^63)&&fitsB (a.length*k.toNat) then some (.lst (List.replicate k.toNat a).flatten) else none
  |_,_=>none
def modD:D→D→Option O
  | .int i,.int j=>if 0<j then fI (i%j) else none
  |_,_=>none
def fdivD:D→D→Option O
  | .int i,.int j=>if 0<j∧j<1073741824 then fI (i/j) else none
  |_,_=>none
def powD:D→D→Option O
  | .int i,.int j=>if 0≤j∧j≤1000000∧i.natAbs<2^64 then fI (i^j.toNat) else none
  |_,_=>none
def negD:D→Option O
  | .int i=>fI (-i)
  |_=>none
section
variable {G:GE} {X:Cx}
theorem Cp.int {ρ M:List Addr} {H:Hp} {h:List O} {L:List (O×V)} (c:Cp G ρ H M h L) (i:Int):Cf G H h ((.fz (.int i),.int i)::L):=c.cf.simple rfl
theorem Cp.bl {ρ M:List Addr} {H:Hp} {h:List O} {L:List (O×V)} (c:Cp G ρ H M h L) (i:Bool):Cf G H h ((.fz (.bl i),.bl i)::L):=c.cf.simple rfl
theorem Cp.lstNew {ρ M:List Addr} {H:Hp} {h:List O} {L:List (O×V)} {ds:List D} {vs:List V} {p:Addr} (c:Cp G ρ H M h L) (r:RepDs G ρ H M ds vs) (hp:H p=none):Cf G (upd H p (.lst vs)) h ((.lst ds,.ref p)::L):=
  Cf.newLst r.length ((Cf.fz r.length).mpr ⟨ρ,M,c,r⟩) hp
theorem Cp.tupNew {ρ M:List Addr} {H:Hp} {h:List O} {L:List (O×V)} {ds:List D} {vs:List V} {p:Addr} {ho:HO} (c:Cp G ρ H M h L) (r:RepDs G ρ H M ds vs) (hp:H p=none) (ht:isTupO G vs ho):Cf G (upd H p ho) h ((.fz (.tup ds),.ref p)::L):=
  Cf.newTup r.length ((Cf.fz r.length).mpr ⟨ρ,M,c,r⟩) hp ht
theorem o_add (hK:X.K=G.K) (hb:G.bare=false):OpR X (binaryOp .Add) (r2 G addD):=(((op_add.or op_add_str).or op_cat).or op_catA).imp fun x y H Q ⟨ρ,M,h,L,d1,d2,o,cp,t1,t2,e,q⟩=>by
  unfold addD at e
  split at e
  · rename_i i j
    cases e
    exact .inl (.inl (.inl ⟨i,j,t1,t2,q _ _ (cp.int _)⟩))
  · rename_i a b
    split at e
    · rename_i hf
      cases e
      exact .inl (.inl (.inr ⟨a,b,t1,t2,fits hf,q _ _ (cp.cf.simple rfl)⟩))
    · cases e
  · rename_i a b
    split at e
    · rename_i hf
      cases e
      obtain ⟨l1,v1,rfl,k1,q1⟩:=t1
      obtain ⟨l2,v2,rfl,k2,q2⟩:=t2
      exact .inl (.inr ⟨l1,l2,v1,v2,rfl,rfl,k1,k2,by rw [←q1.length,←q2.length];exact fits hf,fun p hp=>q _ _ (cp.lstNew (q1.append q2) hp)⟩)
    · cases e
  · rename_i a b
    split at e
    · rename_i hf
      cases e
      obtain ⟨l1,v1,rfl,k1,q1⟩:=t1
      obtain ⟨l2,v2,rfl,k2,q2⟩:=t2
      refine .inr ⟨l1,l2,v1,v2,rfl,rfl,by rw [hK];exact k1.sq,by rw [hK];exact k2.sq,by rw [←q1.length,←q2.length];exact fits hf,fun z=>?_,fun _ z=>?_,fun _ _ p hp=>q _ _ (cp.tupNew (q1.append q2) hp ⟨hb,rfl⟩)⟩
      · subst z
        have e0:a=[]:=List.length_eq_zero_iff.mp q1.length
        subst e0
        exact q _ _ (cp.tupF k2 q2)
      · subst z
        have e0:b=[]:=List.length_eq_zero_iff.mp q2.length
        subst e0
        rw [List.append_nil] at q
        exact q _ _ (cp.tupF k1 q1)
    · cases e
  · cases e
theorem o_mul:OpR X (binaryOp .Mult) (r2 G mulD):=(op_mul.or op_rep).imp fun x y H Q ⟨ρ,M,h,L,d1,d2,o,cp,t1,t2,e,q⟩=>by
  unfold mulD at e
  split at e
  · rename_i i j
    split at e
    · rename_i hs
      cases e
      refine .inl ⟨i,j,t1,t2, ?_,q _ _ (cp.int _)⟩
      simp only [smallI,Bool.or_eq_true,Bool.and_eq_true,decide_eq_true_eq] at hs
      exact hs
    · cases e
  · rename_i a k
    split at e
    · rename_i hs
      simp only [Bool.and_eq_true,decide_eq_true_eq] at hs
      cases e
      obtain ⟨l1,v1,rfl,k1,q1⟩:=t1
      refine .inr ⟨l1,k,v1,rfl,t2,k1,hs.1.1,hs.1.2,by rw [←q1.length];exact fits hs.2,fun p hp=>q _ _ ?_⟩
      have:=cp.lstNew (q1.flatten_rep k.toNat) hp
      exact this
    · cases e
  · cases e
theorem o_mod:OpR X (binaryOp .Mod) (r2 G modD):=op_mod.imp fun x y H Q ⟨ρ,M,h,L,d1,d2,o,cp,t1,t2,e,q⟩=>by
  unfold modD at e
  split at e
  · rename_i i j
    split at e
    · rename_i hs
      cases e
      exact ⟨i,j,t1,t2,hs,q _ _ (cp.int _)⟩
    · cases e
  · cases e
theorem o_fdiv:OpR X (binaryOp .FloorDiv) (r2 G fdivD):=op_fdiv.imp fun x y H Q ⟨ρ,M,h,L,d1,d2,o,cp,t1,t2,e,q⟩=>by
  unfold fdivD at e
  split at e
  · rename_i i j
    split at e
    · rename_i hs
      cases e
      exact ⟨i,j,t1,t2,hs,q _ _ (cp.int _)⟩
    · cases e
  · cases e
theorem o_pow:OpR X (binaryOp .Pow) (r2 G powD):=op_pow.imp fun x y H Q ⟨ρ,M,h,L,d1,d2,o,cp,t1,t2,e,q⟩=>by
  unfold powD at e
  split at e
  · rename_i i j
    split at e
    · rename_i hs
      cases e
      exact ⟨i,j,t1,t2,hs,q _ _ (cp.int _)⟩
    · cases e
  · cases e
def ltD:D→D→Option O| .int i,.int j=>fB (decide (i<j))|_,_=>none
def leD:D→D→Option O| .int i,.int j=>fB (decide (i≤j))|_,_=>none
def gtD:D→D→Option O| .int i,.int j=>fB (decide (j<i))|_,_=>none
def geD:D→D→Option O| .int i,.int j=>fB (decide (j≤i))|_,_=>none
theorem o_lt:OpR X (compareOp .Lt) (r2 G ltD):=op_lt.imp fun x y H Q ⟨ρ,M,h,L,d1,d2,o,cp,t1,t2,e,q⟩=>by
  unfold ltD at e
  split at e
  · rename_i i j;cases e;exact ⟨i,j,t1,t2,q _ _ (cp.bl _)⟩
  · cases e
theorem o_gt:OpR X (compareOp .Gt) (r2 G gtD):=op_gt.imp fun x y H Q ⟨ρ,M,h,L,d1,d2,o,cp,t1,t2,e,q⟩=>by
  unfold gtD at e
  split at e
  · rename_i i j;cases e;exact ⟨i,j,t1,t2,q _ _ (cp.bl _)⟩
  · cases e
theorem o_ge:OpR X (compareOp .GtE) (r2 G geD):=op_ge.imp fun x y H Q ⟨ρ,M,h,L,d1,d2,o,cp,t1,t2,e,q⟩=>by
  unfold geD at e
  split at e
  · rename_i i j;cases e;exact ⟨i,j,t1,t2,q _ _ (cp.bl _)⟩
  · cases e
def eqB (d e:D):Option Bool:=match d,e with
  | .str x,.str y=>some (decide (x=y))
  | .int x,.int y=>some (decide (x=y))
  | .non,.non=>some true
  | .non,.int _=>some false| .int _,.non=>some false| .non,.str _=>some false| .str _,.non=>some false
  | .int _,.str _=>some false| .str _,.int _=>some false
  |_,_=>(toP d).bind fun p=>(toP e).bind fun q=>if SeqAt.shaped p&&SeqAt.shaped q then some (PyData.eqv p q) else none
def eqD (d e:D):Option O:=(eqB d e).map fun b=>.fz (.bl b)
def neD (d e:D):Option O:=(eqB d e).map fun b=>.fz (.bl (!b))
theorem eq_of {K:PySem.W.Frag} (hK:K=G.K) {ρ M:List Addr} {H:Hp} {d e:D} {x y:V} {b:Bool} (t1:RepT G ρ H M d x) (t2:RepT G ρ H M e y) (q:eqB d e=some b):
    (scal x y=true∧decide (x=y)=b)∨(∃ p q,Dp K H x p∧Dp K H y q∧SeqAt.shaped p=true∧SeqAt.shaped q=true∧PyData.eqv p q=b):=by
  subst hK
  unfold eqB at q
  split at q
  · rename_i i j
    cases q;obtain rfl:=(show x=_ from t1);obtain rfl:=(show y=_ from t2)
    exact .inl ⟨rfl,by simp⟩
  · rename_i i j
    cases q;obtain rfl:=(show x=_ from t1);obtain rfl:=(show y=_ from t2)
    exact .inl ⟨rfl,by simp⟩
  · cases q;obtain rfl:=(show x=_ from t1);obtain rfl:=(show y=_ from t2)
    exact .inl ⟨rfl,by simp⟩
  · cases q;obtain rfl:=(show x=_ from t1);obtain rfl:=(show y=_ from t2)
    exact .inl ⟨rfl,by simp⟩
  · cases q;obtain rfl:=(show x=_ from t1);obtain rfl:=(show y=_ from t2)
    exact .inl ⟨rfl,by simp⟩
  · cases q;obtain rfl:=(show x=_ from t1);obtain rfl:=(show y=_ from t2)
    exact .inl ⟨rfl,by simp⟩
  · cases q;obtain rfl:=(show x=_ from t1);obtain rfl:=(show y=_ from t2)
    exact .inl ⟨rfl,by simp⟩
  · cases q;obtain rfl:=(show x=_ from t1);obtain rfl:=(show y=_ from t2)
    exact .inl ⟨rfl,by simp⟩
  · cases q;obtain rfl:=(show x=_ from t1);obtain rfl:=(show y=_ from t2)
    exact .inl ⟨rfl,by simp⟩
  · simp only [Option.bind_eq_some_iff] at q
    obtain ⟨p1,e1,p2,e2,e3⟩:=q
    split at e3
    · rename_i hs
      simp only [Bool.and_eq_true] at hs
      cases e3
      exact .inr ⟨p1,p2,t1.dp e1,t2.dp e2,hs.1,hs.2,rfl⟩
    · cases e3
theorem o_eq (hK:X.K=G.K) (hu:X.A.units+64<cLine):OpR X (compareOp .Eq) (r2 G eqD):=(op_eq.or (op_eqD hu)).imp fun x y H Q ⟨ρ,M,h,L,d1,d2,o,cp,t1,t2,e,q⟩=>by
  simp only [eqD,Option.map_eq_some_iff] at e
  obtain ⟨b,e1,e2⟩:=e
  subst e2
  rcases eq_of hK t1 t2 e1 with ⟨s1,s2⟩|⟨p,p',s1,s2,s3,s4,s5⟩
  · exact .inl ⟨s1,by rw [s2];exact q _ _ (cp.bl _)⟩
  · exact .inr ⟨p,p',s1,s2,s3,s4,by rw [s5];exact q _ _ (cp.bl _)⟩
theorem o_ne (hK:X.K=G.K) (hu:X.A.units+64<cLine):OpR X (compareOp .NotEq) (r2 G neD):=(op_ne.or (op_neD hu)).imp fun x y H Q ⟨ρ,M,h,L,d1,d2,o,cp,t1,t2,e,q⟩=>by
  simp only [neD,Option.map_eq_some_iff] at e
  obtain ⟨b,e1,e2⟩:=e
  subst e2
  rcases eq_of hK t1 t2 e1 with ⟨s1,s2⟩|⟨p,p',s1,s2,s3,s4,s5⟩
  · exact .inl ⟨s1,by rw [s2];exact q _ _ (cp.bl _)⟩
  · exact .inr ⟨p,p',s1,s2,s3,s4,by rw [s5];exact q _ _ (cp.bl _)⟩
end
end Mi
namespace Mi
open PySem PySem.Spec PyProof.Rows L2
section
variable {G:GE} {X:Cx}
def itemsD:D→Option (List D)
  | .tup ds=>some ds
  | .lst ds=>some ds
  | .scr ns=>some (ns.map .int)
  |_=>none
theorem rep_ints {ρ M:List Addr} {H:Hp}: ∀ ns:List Int,RepDs G ρ H M (ns.map D.int) (ns.map V.int)
  |[]=>rfl
  |n::ns=>⟨_,_,rfl,rfl,rep_ints ns⟩
def listD:D→Option (List D)
  | .lst ds=>some ds
  | .scr ns=>some (ns.map .int)
  |_=>none
theorem listD_of {ρ M:List Addr} {H:Hp} {d:D} {v:V} {ds:List D} (r:RepT G ρ H M d v) (e:listD d=some ds): ∃ a vs,v= .ref a∧SqL G.K H a vs∧RepDs G ρ H M ds vs:=by
  cases d with
  |lst ds'=>cases e;obtain ⟨a,vs,rfl,t,q⟩:=r;exact ⟨a,vs,rfl,.inl (.inl t),q⟩
  |scr ns=>cases e;obtain ⟨a,rfl,t⟩:=r;exact ⟨a,_,rfl,t,rep_ints ns⟩
  |_=>cases e
theorem itemsD_of {ρ M:List Addr} {H:Hp} {d:D} {v:V} {ds:List D} (r:RepT G ρ H M d v) (e:itemsD d=some ds): ∃ a vs,v= .ref a∧(SqL G.K H a vs∨SqT G.K H a vs)∧RepDs G ρ H M ds vs:=by
  cases d with
  |tup ds'=>cases e;obtain ⟨a,vs,rfl,t,q⟩:=r;exact ⟨a,vs,rfl,.inr t.sq,q⟩
  |lst ds'=>cases e;obtain ⟨a,vs,rfl,t,q⟩:=r;exact ⟨a,vs,rfl,.inl (.inl (.inl t)),q⟩
  |scr ns=>cases e;obtain ⟨a,rfl,t⟩:=r;exact ⟨a,_,rfl,.inl t,rep_ints ns⟩
  |_=>cases e
def flatD:D→Option V
  | .non=>some .non| .bl b=>some (.bl b)| .int i=>some (.int i)| .str x=>some (.str x)|_=>none
def flatsD:List D→Option (List V)
  |[]=>some []
  |d::ds=>(flatD d).bind fun v=>(flatsD ds).bind fun vs=>some (v::vs)
theorem flatD_of {ρ M:List Addr} {H:Hp} {d:D} {v u:V} (r:RepD G ρ H M d v) (e:flatD d=some u):v=u∧flatV u=true:=by
  cases d<;>simp only [flatD,Option.some.injEq,reduceCtorEq] at e<;>subst e<;>exact ⟨r,rfl⟩
theorem flatsD_of {ρ M:List Addr} {H:Hp}: ∀ {ds:List D} {vs us:List V},RepDs G ρ H M ds vs→flatsD ds=some us→vs=us∧us.all flatV=true
  |[],vs,us,r,e=>by simp only [flatsD,Option.some.injEq] at e;subst e;exact ⟨r,rfl⟩
  | d::ds,vs,us,r,e=>by
    simp only [flatsD,Option.bind_eq_some_iff,Option.some.injEq] at e
    obtain ⟨v,e1,us',e2,e3⟩:=e
    subst e3
    obtain ⟨w,r',e4,h1,h2⟩:=r
    subst e4
    obtain ⟨a1,a2⟩:=flatD_of h1 e1
    obtain ⟨b1,b2⟩:=flatsD_of h2 e2
    subst a1;subst b1
    exact ⟨rfl,by simp [a2,b2]⟩
def rInE (K:PySem.W.Frag) (neg:Bool):R2:=fun x y H Q=> ∃ d ds,Dp K H x d∧Dp K H y (.list ds)∧SeqAt.shaped d=true∧SeqAt.shaped (.list ds)=true∧d.depth≤63∧Q (.bl (if neg then !ds.any fun z=>PyData.eqv z d else ds.any fun z=>PyData.eqv z d)) H
theorem op_inE {X:Cx} (hu:X.A.units+64<cLine):OpR X (compareOp .In) (rInE X.K false):=by
  intro pins s σ H x y v u Q I rx ry h
  obtain ⟨d,ds,hd,he,sd,se,hx,q⟩:=h
  obtain ⟨as,r1⟩:=Dp.reads I d x v hd rx
  obtain ⟨bs,r2⟩:=Dp.reads I (.list ds) y u he ry
  exact SeqAt.in_list_reads r2 r1 (SeqAt.canLay_of_shaped se) (SeqAt.canLay_of_shaped sd) (by have:=Nat.min_le_right (PyData.depthAll ds) d.depth;omega) ⟨.bl _,H,I,rfl,q⟩
def inDp (d:D):D→Option Bool
  | .lst es=>(toP d).bind fun p=>(toPs es).bind fun ps=>if SeqAt.shaped p&&(SeqAt.shaped (.list ps)&&decide (p.depth≤63)) then some (ps.any fun z=>PyData.eqv z p) else none
  |_=>none
theorem inDp_ok {K:PySem.W.Frag} (hK:K=G.K) {ρ M:List Addr} {H:Hp} {d e:D} {x y:V} {b:Bool} (t1:RepT G ρ H M d x) (t2:RepT G ρ H M e y) (q:inDp d e=some b):
    ∃ p ps,Dp K H x p∧Dp K H y (.list ps)∧SeqAt.shaped p=true∧SeqAt.shaped (.list ps)=true∧p.depth≤63∧(ps.any fun z=>PyData.eqv z p)=b:=by
  subst hK
  cases e with
  | lst es=>
    simp only [inDp,Option.bind_eq_some_iff] at q
    obtain ⟨p,e1,ps,e2,e3⟩:=q
    split at e3
    · rename_i hs
      simp only [Bool.and_eq_true,decide_eq_true_eq] at hs
      cases e3
      exact ⟨p,ps,t1.dp e1,t2.dp (show toP (.lst es)=some (.list ps) by simp only [toP,e2,Option.map_some]),hs.1,hs.2.1,hs.2.2,rfl⟩
    · cases e3
  |_=>all_goals cases q
def inB:D→D→Option Bool
  | .str x,.str y=>some (!(Builtin.Str.occurrences y x 0 y.length 1).isEmpty)
  | d,e=>match (flatD d).bind fun v=>(itemsD e).bind fun ds=>(flatsD ds).bind fun vs=>some (inV v vs) with
    |some b=>some b
    |none=>inDp d e
def inD (d e:D):Option O:=(inB d e).map fun b=>.fz (.bl b)
def notInD (d e:D):Option O:=(inB d e).map fun b=>.fz (.bl (!b))
theorem RepT.flat {ρ M:List Addr} {H:Hp} {d:D} {v u:V} (r:RepT G ρ H M d v) (e:flatD d=some u):v=u∧flatV u=true:=by
  cases d<;>simp only [flatD,Option.some.injEq,reduceCtorEq] at e<;>subst e<;>exact ⟨r,rfl⟩
theorem o_in (hK:X.K=G.K) (hu:X.A.units+64<cLine):OpR X (compareOp .In) (r2 G inD):=((op_in_str.or op_in_seq).or (op_inE hu)).imp fun x y H Q ⟨ρ,M,h,L,d1,d2,o,cp,t1,t2,e,q⟩=>by
  simp only [inD,Option.map_eq_some_iff] at e
  obtain ⟨b,e1,e2⟩:=e
  subst e2
  unfold inB at e1
  split at e1
  · cases e1
    obtain rfl:=(show x=_ from t1);obtain rfl:=(show y=_ from t2)
    exact .inl (.inl ⟨_,_,rfl,rfl,q _ _ (cp.bl _)⟩)
  · split at e1
    · rename_i b0 hz
      cases e1
      simp only [Option.bind_eq_some_iff,Option.some.injEq] at hz
      obtain ⟨v,f1,ds,f2,vs,f3,f4⟩:=hz
      obtain ⟨rfl,fl⟩:=t1.flat f1
      obtain ⟨a,us,rfl,t,r⟩:=itemsD_of t2 f2
      obtain ⟨rfl,fv⟩:=flatsD_of r f3
      refine .inl (.inr ⟨a,us,rfl,by rw [hK];exact t,fl,fv, ?_⟩)
      have:(if false then !inV x us else inV x us)=b:=by simpa using f4
      rw [this]
      exact q _ _ (cp.bl _)
    · obtain ⟨p,ps,s1,s2,s3,s4,s5,s6⟩:=inDp_ok hK t1 t2 e1
      exact .inr ⟨p,ps,s1,s2,s3,s4,s5,by rw [s6];exact q _ _ (cp.bl _)⟩
def isNon:D→Bool
  | .non=>true
  |_=>false
def isNoneD (d e:D):Option O:=match e with
  | .non=>fB (isNon d)
  |_=>none
def atD (d i:D):Option O:=match i with
  | .int i=>match d with
    | .str z=>if fitsB z.length then (atI z.cps.toList i).map fun c=>.fz (.str ⟨#[c]⟩) else none
    |_=>(itemsD d).bind fun ds=>(atI ds i).map .fz
  |_=>none
theorem atI_len {α β:Type} {xs:List α} {ys:List β} {i:Int} {x:α} (l:xs.length=ys.length) (e:atI xs i=some x): ∃ j y,ixN ys.length i=some j∧xs[j]?=some x∧ys[j]?=some y∧atI ys i=some y:=by
  simp only [atI,Option.bind_eq_some_iff] at e
  obtain ⟨j,e1,e2⟩:=e
  have hj:j<ys.length:=by
    rw [←l]
    rcases Nat.lt_or_ge j xs.length with z|z
    · exact z
    · rw [List.getElem?_eq_none z] at e2;cases e2
  refine ⟨j,ys[j],by rw [←l];exact e1,e2,by simp [hj], ?_⟩
  simp only [atI,←l,e1,Option.bind_some]
  simp [hj]
theorem o_at (hK:X.K=G.K):IxR X (r2 G atD):=ix_seq.imp fun x y H Q ⟨ρ,M,h,L,d1,d2,o,cp,t1,t2,e,q⟩=>by
  unfold atD at e
  split at e
  · rename_i i
    obtain rfl:=(show y=_ from t2)
    split at e
    · rename_i z
      split at e
      · rename_i hf
        simp only [Option.map_eq_some_iff] at e
        obtain ⟨c,e1,e2⟩:=e
        subst e2
        obtain rfl:=(show x=_ from t1)
        exact .inr (.inr ⟨z,i,c,rfl,rfl,fits hf,e1,q _ _ (cp.cf.simple rfl)⟩)
      · cases e
    · simp only [Option.bind_eq_some_iff,Option.map_eq_some_iff] at e
      obtain ⟨ds,e1,d,e2,e3⟩:=e
      subst e3
      obtain ⟨a,vs,rfl,t,r⟩:=itemsD_of t1 e1
      obtain ⟨j,v,_,g1,g2,g3⟩:=atI_len r.length e2
      obtain ⟨v',g4,rd⟩:=r.get g1
      rw [g2] at g4
      cases g4
      have fin:=q v H (Cf.fz1.mpr ⟨ρ,M,cp,rd⟩)
      rcases t with t|t
      · exact .inl ⟨a,vs,i,v,rfl,rfl,by rw [hK];exact t,g3,fin⟩
      · exact .inr (.inl ⟨a,vs,i,v,rfl,rfl,by rw [hK];exact t,g3,fin⟩)
  · cases e
end
end Mi
namespace Mi
open PySem PySem.Spec PyProof.Rows L2
section
variable {G:GE} {W:WX} {call:Call} {X:Cx}
abbrev PP (G:GE) (σr:Sr) (Φ:List (R×V)) (Q:Option Int→Hp→Prop):Option Int→S→Prop:=fun i s=> ∀ H,CfS G σr H s Φ→Q i H
abbrev Pt:=Call→S→Out (Option Int)
def tP (G:GE) (W:WX) (call:Call) (m:Pt):TO:=fun σr H Q=> ∃ s Φ,CfS G σr H s Φ∧Aft G W σr Φ (PP G σr Φ Q) (m call s)
def pNone:Pt:=fun _ s=>.ok none s
def pSome (m:E):Pt:=fun call s=>(m call s).bind fun x s1=>match peek s1 x with
  |some (.int i)=>.ok (some i) s1
  |_=>.bad
theorem _root_.L2.PO.of {X:Cx} {e:Option Expr} {t t':TO} (h:PO X e t') (i: ∀ σ H Q,t σ H Q→t' σ H Q):PO X e t:=⟨fun pins s σ H Q I q=>h.run pins s σ H Q I (i σ H Q q)⟩
theorem p_none:PO X none (tP G W call pNone):=po_none.of fun σ H Q h=>by
  obtain ⟨s,Φ,c,a⟩:=h
  exact a H c
theorem p_some {e:Expr} {m:E} (h:PE X e (tE G W call m)):PO X (some e) (tP G W call (pSome m)):=(po_some h).of fun σ H Q h=>by
  obtain ⟨s,Φ,c,a⟩:=h
  refine ⟨s,Φ,c,(Aft.bind a).mono fun x s1 a1=>fun v H1 c1=>?_⟩
  split at a1
  · rename_i i e
    obtain ⟨ρ,M,cp⟩:=c1.parts
    exact ⟨i,c1.peek (by simp) e cp,a1 H1 c1.drop⟩
  · exact a1.elim
def cutD {α:Type} (xs:List α) (lo hi:Option Int):List α:=(xs.drop (HT.sIx xs.length 0 lo)).take (HT.sIx xs.length xs.length hi - HT.sIx xs.length 0 lo)
theorem RepDs.cut {ρ M:List Addr} {H:Hp} {ds:List D} {vs:List V} (r:RepDs G ρ H M ds vs) (lo hi:Option Int):RepDs G ρ H M (cutD ds lo hi) (cutV vs lo hi):=by
  unfold cutD cutV
  rw [r.length]
  exact (r.drop _).take _
def slD (d:D) (lo hi:Option Int):Option O:=match d with
  | .tup ds=>some (.fz (.tup (cutD ds lo hi)))
  |_=>(listD d).map fun ds=>.lst (cutD ds lo hi)
def mSl (m:E) (lo hi:Pt):E:=fun call s=>(m call s).bind fun x s1=>(lo call s1).bind fun l s2=>(hi call s2).bind fun u s3=>lift s3 ((peek s3 x).bind fun d=>(slD d l u).map R.own)
def rS (G:GE):V→Option Int→Option Int→Hp→VK→Prop:=fun x lo hi H Q=> ∃ ρ M h L d o,Cp G ρ H M h L∧RepT G ρ H M d x∧slD d lo hi=some o∧∀ v H',Cf G H' h ((o,v)::L)→Q v H'
theorem e_sl {e:Expr} {lo hi:Option Expr} {m:E} {ml mh:Pt} {p2 pos:Pos} (ho:SlR X (rS G)) (he:PE X e (tE G W call m)) (hl:PO X lo (tP G W call ml)) (hh:PO X hi (tP G W call mh)):PE X (.Subscript e (.Slice lo hi none p2) pos) (tE G W call (mSl m ml mh)):=by
  refine (pe_slice ho he hl hh).of fun σ H Q h=>?_
  obtain ⟨s,Φ,c,h⟩:=h
  refine ⟨s,Φ,c,(Aft.bind h).mono fun x s1 h1=>fun v1 H1 c1=>⟨s1,_,c1,((Aft.bind h1).frame1).mono fun l s2 h2=>fun H2 c2=>⟨s2,_,c2,((Aft.bind h2).frame1).mono fun u s3 h3=>fun H3 c3=>?_⟩⟩⟩
  obtain ⟨z,e,q⟩:=Aft.lift h3
  simp only [Option.bind_eq_some_iff,Option.map_eq_some_iff] at e
  obtain ⟨d,e1,o,eo,ey⟩:=e
  subst ey
  obtain ⟨ρ,M,cp⟩:=c3.parts
  exact ⟨ρ,M,_,_,d,o,cp,c3.peek (by simp) e1 cp,eo,fun w H4 c4=>q w H4 (CfS.more (K:=[(x,v1)]) c3 c4)⟩
theorem sl_tupB:SlR X (fun x lo hi H Q=> ∃ a xs,x= .ref a∧SqT X.K H a xs∧(HT.sIx xs.length 0 lo=0∧HT.sIx xs.length xs.length hi=xs.length→Q (.ref a) H)∧
    (¬(HT.sIx xs.length 0 lo=0∧HT.sIx xs.length xs.length hi=xs.length)→∀ p ob,ob.dict=none→H p=none→Q (.ref p) (upd H p (.frz ob (.tup (cutV xs lo hi)))))):=by
  intro pins s σ H x v vl vu lo hi sl Q I rx hs pl pu h
  obtain ⟨a,xs,rfl,hx,q1,q2⟩:=h
  cases rx
  obtain ⟨its,r,ht,hz⟩:=I.tuple hx
  have hlen:its.toArray.size=xs.length:=by rw [List.size_toArray];exact r.length.symm
  refine ⟨"tuple",_,PyProof.Rows.slot_tuple_getitem.lookup,ht.typeIs, ?_⟩
  by_cases hw:HT.sIx xs.length 0 lo=0∧HT.sIx xs.length xs.length hi=xs.length
  · exact getItem_tuple_whole ht hs pl pu (by rw [hlen];exact hw) ⟨.ref a,H,I,rfl,q1 hw⟩
  · refine HT.getItem_tuple_cut ht hs pl pu (by rw [hlen];exact hw) ?_ (by rw [hlen];exact hz)
    rw [hlen]
    refine ⟨.ref s.heap.objs.size,_,I.laid (t':=s.toks) (o:=.frz {cls:=.type "tuple",data:=.seq (List.take (HT.sIx xs.length xs.length hi - HT.sIx xs.length 0 lo) (List.drop (HT.sIx xs.length 0 lo) its.toArray.toList)).toArray} (.tup (cutV xs lo hi))) (fun b ob q=>Heap.get?_push_of_some _ q) (Nat.le_refl _) ?_,rfl,q2 hw _ _ rfl (I.hok.fresh (Nat.le_refl _))⟩
    exact ⟨Heap.get?_push_size _ rfl,Nat.le_trans (cutV_length xs lo hi) hz,_,(r.drop (HT.sIx xs.length 0 lo)).take (HT.sIx xs.length xs.length hi - HT.sIx xs.length 0 lo),IsTup.new _ _⟩
theorem o_sl (hK:X.K=G.K):SlR X (rS G):=fun pins s σ H x v vl vu lo hi sl Q I rx hs pl pu ⟨ρ,M,h,L,d,o,cp,t,e,q⟩=>by
  unfold slD at e
  split at e
  · rename_i ds
    cases e
    obtain ⟨a,vs,rfl,t,r⟩:=t
    have whole:HT.sIx vs.length 0 lo=0∧HT.sIx vs.length vs.length hi=vs.length→Q (.ref a) H:=fun z=>by
      have e0:cutD ds lo hi=ds:=by
        unfold cutD
        rw [r.length,z.1,z.2,Nat.sub_zero,List.drop_zero,←r.length,List.take_length]
      rw [e0] at q
      exact q _ _ (cp.tupF t r)
    cases hb:G.bare with
    |false=>exact sl_tupA pins s σ H _ v vl vu lo hi sl Q I rx hs pl pu ⟨a,vs,rfl,by rw [hK];exact t.sq,whole,fun _ p hp=>q _ _ (cp.tupNew (r.cut lo hi) hp ⟨hb,rfl⟩)⟩
    |true=>exact sl_tupB pins s σ H _ v vl vu lo hi sl Q I rx hs pl pu ⟨a,vs,rfl,by rw [hK];exact t.sq,whole,fun _ p ob ho hp=>q _ _ (cp.tupNew (r.cut lo hi) hp ⟨rfl,fun _=>ho⟩)⟩
  · simp only [Option.map_eq_some_iff] at e
    obtain ⟨ds,e1,e2⟩:=e
    subst e2
    obtain ⟨a,vs,rfl,t,r⟩:=listD_of t e1
    exact sl_list pins s σ H _ v vl vu lo hi sl Q I rx hs pl pu ⟨a,vs,rfl,by rw [hK];exact t,fun p hp=>q _ _ (cp.lstNew (r.cut lo hi) hp)⟩
def lenD:List D→Option O
  |[.str x]=>if fitsB x.length then fI x.length else none
  |[d]=>(itemsD d).bind fun ds=>fI ds.length
  |_=>none
theorem RepTs.one {ρ M:List Addr} {H:Hp} {d:D} {vs:List V} (r:RepTs G ρ H M [d] vs): ∃ v,vs=[v]∧RepT G ρ H M d v:=by
  obtain ⟨v,r',e,h1,h2⟩:=r
  exact ⟨v,by rw [e,show r'=[] from h2],h1⟩
theorem RepTs.two {ρ M:List Addr} {H:Hp} {d d':D} {vs:List V} (r:RepTs G ρ H M [d,d'] vs): ∃ v v',vs=[v,v']∧RepT G ρ H M d v∧RepT G ρ H M d' v':=by
  obtain ⟨v,r',e,h1,h2⟩:=r
  obtain ⟨v',e2,h3⟩:=RepTs.one h2
  exact ⟨v,v',by rw [e,e2],h1,h3⟩
theorem b_len (hK:X.K=G.K):CallR X (.builtin "len") (rN G lenD):=call_len.imp fun vs H Q ⟨ρ,M,h,L,ds,o,cp,t,e,q⟩=>by
  unfold lenD at e
  split at e
  · rename_i x
    split at e
    · rename_i hf
      cases e
      obtain ⟨v,rfl,r⟩:=t.one
      obtain rfl:=(show v=_ from r)
      exact ⟨_,x.length,rfl,⟨fits hf,rfl⟩,q _ _ (cp.int _)⟩
    · cases e
  · rename_i d _
    simp only [Option.bind_eq_some_iff] at e
    obtain ⟨ds,e1,e2⟩:=e
    cases e2
    obtain ⟨v,rfl,r⟩:=t.one
    obtain ⟨a,us,rfl,t,r⟩:=itemsD_of r e1
    refine ⟨_,us.length,rfl, ?_,by rw [←r.length];exact q _ _ (cp.int _)⟩
    rw [hK]
    rcases t with t|t
    · exact .inl ⟨us,t,rfl⟩
    · exact .inr ⟨us,t,rfl⟩
  · cases e
def absD:List D→Option O
  |[.int i]=>fI (if i<0 then -i else i)
  |_=>none
theorem b_abs:CallR X (.builtin "abs") (rN G absD):=call_abs.imp fun vs H Q ⟨ρ,M,h,L,ds,o,cp,t,e,q⟩=>by
  unfold absD at e
  split at e
  · rename_i i
    cases e
    obtain ⟨v,rfl,r⟩:=t.one
    obtain rfl:=(show v=_ from r)
    exact ⟨i,rfl,q _ _ (cp.int _)⟩
  · cases e
def maxD:List D→Option O
  |[.int i,.int j]=>fI (if j>i then j else i)
  |_=>none
def minD:List D→Option O
  |[.int i,.int j]=>fI (if j<i then j else i)
  |_=>none
theorem b_max (hc:X.calm=true):CallR X (.builtin "max") (rN G maxD):=(call_max2 hc).imp fun vs H Q ⟨ρ,M,h,L,ds,o,cp,t,e,q⟩=>by
  unfold maxD at e
  split at e
  · rename_i i j
    cases e
    obtain ⟨v,v',rfl,r,r'⟩:=t.two
    obtain rfl:=(show v=_ from r);obtain rfl:=(show v'=_ from r')
    exact ⟨i,j,rfl,q _ _ (cp.int _)⟩
  · cases e
theorem b_min (hc:X.calm=true):CallR X (.builtin "min") (rN G minD):=(call_min2 hc).imp fun vs H Q ⟨ρ,M,h,L,ds,o,cp,t,e,q⟩=>by
  unfold minD at e
  split at e
  · rename_i i j
    cases e
    obtain ⟨v,v',rfl,r,r'⟩:=t.two
    obtain rfl:=(show v=_ from r);obtain rfl:=(show v'=_ from r')
    exact ⟨i,j,rfl,q _ _ (cp.int _)⟩
  · cases e
def intsD:List D→Option (List Int)
  |[]=>some []
  | .int i::ds=>(intsD ds).map (i:: ·)
  |_=>none
theorem intsD_of {ρ M:List Addr} {H:Hp}: ∀ {ds:List D} {vs:List V} {ns:List Int},RepDs G ρ H M ds vs→intsD ds=some ns→vs=ns.map V.int
  |[],vs,ns,r,e=>by simp only [intsD,Option.some.injEq] at e;subst e;exact r
  | d ::ds,vs,ns,r,e=>by
    cases d with
    | int i=>
      simp only [intsD,Option.map_eq_some_iff] at e
      obtain ⟨ns',e1,e2⟩:=e
      subst e2
      obtain ⟨w,r',e4,h1,h2⟩:=r
      subst e4
      rw [intsD_of h2 e1,show w=_ from h1];rfl
    |_=>simp [intsD] at e
def sumD:List D→Option O
  |[d]=>(listD d).bind fun ds=>(intsD ds).bind fun ns=>fI ns.sum
  |_=>none
theorem b_sum (hK:X.K=G.K) (hc:X.calm=true):CallR X (.builtin "sum") (rN G sumD):=(cr_sum hc).imp fun vs H Q ⟨ρ,M,h,L,ds,o,cp,t,e,q⟩=>by
  unfold sumD at e
  split at e
  · rename_i d
    simp only [Option.bind_eq_some_iff] at e
    obtain ⟨ds,e1,ns,e2,e3⟩:=e
    cases e3
    obtain ⟨v,rfl,r⟩:=t.one
    obtain ⟨a,us,rfl,t,r⟩:=listD_of r e1
    have:=intsD_of r e2
    subst this
    exact ⟨a,ns,rfl,by rw [hK];exact t,q _ _ (cp.int _)⟩
  · cases e
def boolsD:List D→Option (List Bool)
  |[]=>some []
  | .bl i::ds=>(boolsD ds).map (i:: ·)
  |_=>none
def allD:List D→Option O
  |[d]=>(listD d).bind fun ds=>(boolsD ds).bind fun ns=>fB (ns.all id)
  |_=>none
def intD:List D→Option O
  |[.int i]=>fI i
  |[.bl k]=>fI (if k then 1 else 0)
  |_=>none
theorem b_int:CallR X (.type "int") (rN G intD):=call_int1.imp fun vs H Q ⟨ρ,M,h,L,ds,o,cp,t,e,q⟩=>by
  unfold intD at e
  split at e
  · rename_i i
    cases e
    obtain ⟨v,rfl,r⟩:=t.one
    obtain rfl:=(show v=_ from r)
    exact .inl ⟨i,rfl,q _ _ (cp.int _)⟩
  · rename_i i
    cases e
    obtain ⟨v,rfl,r⟩:=t.one
    obtain rfl:=(show v=_ from r)
    exact .inr ⟨i,rfl,q _ _ (cp.int _)⟩
  · cases e
def listOfD:List D→Option O
  |[d]=>(itemsD d).map .lst
  |_=>none
def tupleOfD:List D→Option O
  |[d]=>(itemsD d).map fun ds=>.fz (.tup ds)
  |_=>none
def tyD:D→Option String
  | .non=>some "NoneType"| .bl _=>some "bool"| .int _=>some "int"| .str _=>some "str"
  | .tup _=>some "tuple"| .lst _=>some "list"| .scr _=>some "list"| .dic _ _=>some "dict"
  |_=>none
def isiB (d c:D):Option Bool:=match c with
  | .ty n=>(tyD d).bind fun m=>kitB m n
  |_=>none
def isiD:List D→Option O
  |[d,c]=>(isiB d c).map fun b=>.fz (.bl b)
  |_=>none
end
end Mi
namespace Mi
open PySem PySem.Spec PyProof.Rows L2
def pr (σ:List (Option O)) (σr:Sr) (i:Nat):List (O×V):=match σ[i]?,σr[i]? with
  |some (some o),some (some v)=>[(o,v)]
  |_,_=>[]
theorem slp_eq: ∀ {σ:List (Option O)} {σr:Sr},σ.length=σr.length→slp σ σr=(List.range σ.length).flatMap (pr σ σr)
  |[],[],_=>rfl
  | a::σ,b::σr,l=>by
    have ih:=slp_eq (σ:=σ) (σr:=σr) (by simpa using l)
    rw [List.length_cons,List.range_succ_eq_map,List.flatMap_cons,List.flatMap_map]
    have e:(fun i=>pr (a::σ) (b::σr) (Nat.succ i))=pr σ σr:=by funext i;simp [pr]
    rw [e,←ih]
    cases a<;>cases b<;>simp [slp,pr]
  |[],_::_,l=>by simp at l
  |_::_,[],l=>by simp at l
theorem perm_part {α:Type} (p:Nat→Bool) (f:Nat→List α): ∀ l:List Nat,(l.flatMap f).Perm ((l.filter fun i=>!p i).flatMap f++(l.filter p).flatMap f)
  |[]=>.refl _
  | x ::l=>by
    have ih:=perm_part p f l
    cases hx:p x with
    | false=>
      simp only [List.flatMap_cons,List.filter_cons,hx,Bool.not_false,if_true,Bool.false_eq_true,if_false,List.append_assoc]
      exact ih.append_left _
    | true=>
      simp only [List.flatMap_cons,List.filter_cons,hx,Bool.not_true,if_true,Bool.false_eq_true,if_false]
      refine (ih.append_left (f x)).trans ?_
      rw [←List.append_assoc,←List.append_assoc]
      exact List.perm_append_comm.append_right _
theorem flatMap_nil {α:Type} {f:Nat→List α}: ∀ {l:List Nat},(∀ i∈l,f i=[])→l.flatMap f=[]
  |[],_=>rfl
  |x::l,h=>by rw [List.flatMap_cons,h x (by simp),flatMap_nil fun i hi=>h i (by simp [hi])];rfl
theorem flatMap_congr' {α:Type} {f g:Nat→List α}: ∀ {l:List Nat},(∀ i∈l,f i=g i)→l.flatMap f=l.flatMap g
  |[],_=>rfl
  |x::l,h=>by rw [List.flatMap_cons,List.flatMap_cons,h x (by simp),flatMap_congr' fun i hi=>h i (by simp [hi])]
def wipeO (σ:List (Option O)):List Nat→List (Option O)
  |[]=>σ
  |v::vs=>(wipeO σ vs).set v none
def rst (τ σ:List (Option O)):List Nat→List (Option O)
  |[]=>τ
  |v::vs=>(rst τ σ vs).set v ((σ[v]?).getD none)
theorem wipeO_len (σ:List (Option O)): ∀ vs,(wipeO σ vs).length=σ.length
  |[]=>rfl
  |v::vs=>by rw [wipeO,List.length_set,wipeO_len σ vs]
theorem rst_len (τ σ:List (Option O)): ∀ vs,(rst τ σ vs).length=τ.length
  |[]=>rfl
  |v::vs=>by rw [rst,List.length_set,rst_len τ σ vs]
theorem wipeO_in {σ:List (Option O)} {i:Nat}: ∀ {vs:List Nat},i∈vs→∀ o,(wipeO σ vs)[i]?≠some (some o)
  | v ::vs,h,o=>by
    rw [wipeO]
    by_cases e:v=i
    · subst e
      rw [List.getElem?_set]
      split
      · split<;>simp
      · intro h2;contradiction
    · rw [List.getElem?_set_ne e]
      exact wipeO_in (by rcases List.mem_cons.mp h with z|z;exact absurd z.symm e;exact z) o
theorem wipeO_out {σ:List (Option O)} {i:Nat}: ∀ {vs:List Nat},i∉vs→(wipeO σ vs)[i]?=σ[i]?
  |[],_=>rfl
  | v::vs,h=>by
    rw [wipeO,List.getElem?_set_ne (fun z=>h (by simp [z]))]
    exact wipeO_out fun z=>h (by simp [z])
theorem wipe_out {σ:Sr} {i:Nat}: ∀ {vs:List Nat},i∉vs→(wipe σ vs)[i]?=σ[i]?
  |[],_=>rfl
  | v::vs,h=>by
    rw [wipe,List.getElem?_set_ne (fun z=>h (by simp [z]))]
    exact wipe_out fun z=>h (by simp [z])
theorem wipe_in {σ:Sr} {i:Nat} {vs:List Nat} (h:i∈vs) (v:V):(wipe σ vs)[i]?≠some (some v):=fun z=>(wipe_some z).2 h
theorem rst_out {τ σ:List (Option O)} {i:Nat}: ∀ {vs:List Nat},i∉vs→(rst τ σ vs)[i]?=τ[i]?
  |[],_=>rfl
  | v::vs,h=>by
    rw [rst,List.getElem?_set_ne (fun z=>h (by simp [z]))]
    exact rst_out fun z=>h (by simp [z])
theorem rst_in {τ σ:List (Option O)} (l:τ.length=σ.length) {i:Nat}: ∀ {vs:List Nat},i∈vs→(rst τ σ vs)[i]?=σ[i]?
  | v ::vs,h=>by
    rw [rst]
    by_cases e:v=i
    · subst e
      rw [List.getElem?_set]
      simp only [if_true,rst_len,l]
      by_cases hv:v<σ.length
      · rw [if_pos hv];simp [hv]
      · rw [if_neg hv,List.getElem?_eq_none (by omega)]
    · rw [List.getElem?_set_ne e]
      exact rst_in l (by rcases List.mem_cons.mp h with z|z;exact absurd z.symm e;exact z)
theorem slp_wipe {σ:List (Option O)} {σr:Sr} (ok:SlOk σ σr) (vs:List Nat): ∃ Z,(slp σ σr).Perm (slp (wipeO σ vs) (wipe σr vs)++Z)∧SlOk (wipeO σ vs) (wipe σr vs)∧
    ∀ τ,SlOk τ (wipe σr vs)→(slp (rst τ σ vs) σr).Perm (slp τ (wipe σr vs)++Z)∧SlOk (rst τ σ vs) σr:=by
  refine ⟨((List.range σ.length).filter fun i=>decide (i∈vs)).flatMap (pr σ σr), ?_,⟨by rw [wipeO_len,wipe_length,ok.len],fun i o q=>?_⟩,fun τ okt=>?_⟩
  · rw [slp_eq ok.len,slp_eq (by rw [wipeO_len,wipe_length,ok.len]),wipeO_len]
    refine (perm_part (fun i=>decide (i∈vs)) (pr σ σr) _).trans ?_
    refine List.Perm.append_right _ ?_
    refine List.Perm.trans ?_ (perm_part (fun i=>decide (i∈vs)) (pr (wipeO σ vs) (wipe σr vs)) _).symm
    rw [flatMap_nil (l:=(List.range σ.length).filter fun i=>decide (i∈vs)) fun i hi=>?_,List.append_nil]
    · rw [flatMap_congr' fun i hi=>?_]
      have hi':i∉vs:=by simpa using (List.mem_filter.mp hi).2
      simp only [pr]
      rw [wipeO_out hi',wipe_out hi']
    · have hi':i∈vs:=by simpa using (List.mem_filter.mp hi).2
      simp only [pr]
      split
      · rename_i o v e1 e2
        exact absurd e1 (wipeO_in hi' o)
      · rfl
  · by_cases hi:i∈vs
    · exact absurd q (wipeO_in hi o)
    · rw [wipeO_out hi] at q
      rw [wipe_out hi]
      exact ok.at_ i o q
  · have lt:τ.length=σ.length:=by rw [okt.len,wipe_length,ok.len]
    have okr:SlOk (rst τ σ vs) σr:=⟨by rw [rst_len,lt,ok.len],fun i o q=>by
      by_cases hi:i∈vs
      · rw [rst_in lt hi] at q
        exact ok.at_ i o q
      · rw [rst_out hi] at q
        have:=okt.at_ i o q
        rw [wipe_out hi] at this
        exact this⟩
    refine ⟨?_,okr⟩
    rw [slp_eq okr.len,slp_eq okt.len,rst_len,lt]
    refine (perm_part (fun i=>decide (i∈vs)) (pr (rst τ σ vs) σr) _).trans ?_
    refine (List.Perm.append_right _ ?_).trans (List.Perm.append_left _ ?_)
    · refine List.Perm.trans ?_ (perm_part (fun i=>decide (i∈vs)) (pr τ (wipe σr vs)) _).symm
      rw [flatMap_nil (l:=(List.range σ.length).filter fun i=>decide (i∈vs)) (f:=pr τ (wipe σr vs)) fun i hi=>?_,List.append_nil]
      · rw [flatMap_congr' fun i hi=>?_]
        have hi':i∉vs:=by simpa using (List.mem_filter.mp hi).2
        simp only [pr]
        rw [rst_out hi',wipe_out hi']
      · have hi':i∈vs:=by simpa using (List.mem_filter.mp hi).2
        simp only [pr]
        split
        · rename_i o v e1 e2
          exact absurd e2 (wipe_in hi' v)
        · rfl
    · rw [flatMap_congr' fun i hi=>?_]
      have hi':i∈vs:=by simpa using (List.mem_filter.mp hi).2
      simp only [pr]
      rw [rst_in lt hi']
def NoB (Φ:List (R×V)):Prop:= ∀ i v,(R.bor i,v)∉Φ
def AftS (G:GE) (W:WX) (Φ:List (R×V)) (D:Ends):Fl→Prop
  | .nx s=> ∀ σr H,CfS G σr H s Φ→D.nx σr H
  | .rt o s=> ∀ σr v H,CfS G σr H s ((.own o,v)::Φ)→D.rt v H
  | .bk s=> ∀ σr H,CfS G σr H s Φ→D.bk σr H
  | .ct s=> ∀ σr H,CfS G σr H s Φ→D.ct σr H
  | .exc c d s=> ∀ σr cls dx H,ExR G σr H s Φ c d cls dx→W cls dx σr H
  | .bad=>False
def tS (G:GE) (W:WX) (call:Call) (m:C):TS:=fun D σr H=> ∃ s Φ,NoB Φ∧CfS G σr H s Φ∧AftS G W Φ D (m call s)
theorem _root_.L2.PS.of {X:Cx} {st:Stmt} {t t':TS} (h:PS X st t') (i: ∀ D σ H,t D σ H→t' D σ H):PS X st t:=⟨fun pins s σ H D I q=>h.run pins s σ H D I (i D σ H q)⟩
theorem _root_.L2.PSs.of {X:Cx} {st:List Stmt} {t t':TS} (h:PSs X st t') (i: ∀ D σ H,t D σ H→t' D σ H):PSs X st t:=⟨fun pins s σ H D I q=>h.run pins s σ H D I (i D σ H q)⟩
section
variable {G:GE} {k:Nat} {call:Call} {cc:CC} {W:WX} {X:Cx}
theorem AftS.flow {α:Type} {Φ:List (R×V)} {D:Ends} {σr:Sr} {x:Out α} {f:α→S→Fl} (a:AftS G W Φ D (x.flow f)):Aft G W σr Φ (fun y s=>AftS G W Φ D (f y s)) x:=by
  cases x with
  |ok y s=>exact a
  |exc c d s=>exact fun cls dx H q=>a σr cls dx H q
  |bad=>exact a
def Fl.then (x:Fl) (f:S→Fl):Fl:=match x with
  | .nx s=>f s
  |y=>y
def cNil:C:=fun _ s=>.nx s
def cSeq (a b:C):C:=fun call s=>(a call s).then fun s1=>b call s1
theorem s_nil:PSs X [] (tS G W call cNil):=pss_nil.of fun D σ H q=>by
  obtain ⟨s,Φ,nb,c,a⟩:=q
  exact a σ H c
theorem s_cons {st:Stmt} {r:List Stmt} {a b:C} (h1:PS X st (tS G W call a)) (h2:PSs X r (tS G W call b)):PSs X (st::r) (tS G W call (cSeq a b)):=by
  refine (pss_cons h1 h2).of fun D σ H q=>?_
  obtain ⟨s,Φ,nb,c,q⟩:=q
  refine ⟨s,Φ,nb,c, ?_⟩
  unfold cSeq at q
  cases e:a call s with
  |nx s1=>rw [e] at q;exact fun σ1 H1 c1=>⟨s1,Φ,nb,c1,q⟩
  |rt o s1=>rw [e] at q;exact q
  |bk s1=>rw [e] at q;exact q
  |ct s1=>rw [e] at q;exact q
  |exc cn d s1=>rw [e] at q;exact q
  |bad=>rw [e] at q;exact q
def cIf (c:B) (a b:C):C:=fun call s=>(c call s).flow fun x s1=>if x then a call s1 else b call s1
theorem s_if {c:Expr} {a b:List Stmt} {mc:B} {ma mb:C} {pos:Pos} (hc:PT X c (tB_ G W call mc)) (ha:PSs X a (tS G W call ma)) (hb:PSs X b (tS G W call mb)):PS X (.If c a b pos) (tS G W call (cIf mc ma mb)):=by
  refine (ps_if hc ha hb).of fun D σ H q=>?_
  obtain ⟨s,Φ,nb,c,q⟩:=q
  refine ⟨s,Φ,c,(AftS.flow q).mono fun x s1 a1=>fun H1 c1=>?_⟩
  cases x with
  |true=>exact iteT ⟨s1,Φ,nb,c1,a1⟩
  |false=>exact iteF ⟨s1,Φ,nb,c1,a1⟩
def give (s:S):R→Option (O×S)
  | .own o=>some (o,s)
  | .bor i=>match s.σ[i]? with
    |some (some o)=>some (o,⟨s.σ.set i none,s.h⟩)
    |_=>none
theorem slp_out: ∀ {σ:List (Option O)} {σr:Sr} {i:Nat} {o:O} {v:V},σ[i]?=some (some o)→σr[i]?=some (some v)→(slp σ σr).Perm ((o,v)::slp (σ.set i none) σr)
  |[],_,_,_,_,e,_=>by simp at e
  |_::_,[],_,_,_,_,e=>by simp at e
  | a::σ,b::σr,0,o,v,e1,e2=>by
    simp at e1 e2
    subst e1;subst e2
    exact .refl _
  | a ::σ,b::σr,i+1,o,v,e1,e2=>by
    have ih:=slp_out (σ:=σ) (σr:=σr) (i:=i) (o:=o) (v:=v) (by simpa using e1) (by simpa using e2)
    cases a with
    |none=>exact ih
    | some a=>
      cases b with
      |none=>exact ih
      |some b=>exact (ih.cons (a,b)).trans (.swap _ _ _)
theorem CfS.give {σr:Sr} {H:Hp} {s s':S} {Φ:List (R×V)} {r:R} {v:V} {o:O} (c:CfS G σr H s ((r,v)::Φ)) (e:give s r=some (o,s')):CfS G σr H s' ((.own o,v)::Φ):=by
  cases r with
  | own o'=>
    simp only [Mi.give,Option.some.injEq,Prod.mk.injEq] at e
    obtain ⟨e1,e2⟩:=e
    subst e1;subst e2
    exact c
  | bor i =>
    simp only [Mi.give] at e
    have ev:σr[i]?=some (some v):=c.bo i v (by simp)
    split at e
    · rename_i o' eo
      simp only [Option.some.injEq,Prod.mk.injEq] at e
      obtain ⟨e1,e2⟩:=e
      subst e1;subst e2
      refine ⟨⟨by simp [c.sl.len],fun j o2 q=>?_⟩,fun j w q=>?_, ?_⟩
      · by_cases hj:i=j
        · subst hj
          rw [List.getElem?_set] at q
          simp at q
        · exact c.sl.at_ j o2 (by simpa [List.getElem?_set,hj] using q)
      · rcases List.mem_cons.mp q with q|q
        · cases q
        · exact c.bo j w (List.mem_cons_of_mem _ q)
      · have cf:Cf G H s.h (slp s.σ σr++ow Φ):=c.cf
        refine cf.perm ?_
        refine ((slp_out eo ev).append_right _).trans ?_
        exact List.perm_middle.symm
    · cases e
def cRet (m:E):C:=fun call s=>(m call s).flow fun x s1=>match Mi.give s1 x with
  |some (o,s2)=>.rt o s2
  |none=>.bad
theorem s_ret {e:Expr} {m:E} {pos:Pos} (h:PE X e (tE G W call m)):PS X (.Return (some e) pos) (tS G W call (cRet m)):=by
  refine (ps_ret h).of fun D σ H q=>?_
  obtain ⟨s,Φ,nb,c,q⟩:=q
  refine ⟨s,Φ,c,(AftS.flow q).mono fun x s1 a1=>fun v H1 c1=>?_⟩
  split at a1
  · rename_i o s2 e2
    exact a1 σ v H1 (c1.give e2)
  · exact a1.elim
def noComp:Expr→Bool
  | .ListComp .. =>false| .SetComp .. =>false| .DictComp .. =>false|_=>true
theorem noComp_sw {e:Expr} {t:Option Expr} {l:Nat} {env:Env} (h:noComp e=true):swapsWith e t l env=pure false:=by
  cases e<;>first|rfl|cases h
theorem sw_sub {e x i:Expr} {p:Pos} {l:Nat} {env:Env}:swapsWith e (some (.Subscript x i p)) l env=pure false:=by cases e<;>rfl
theorem sw_att {e x:Expr} {a:Str} {p:Pos} {l:Nat} {env:Env}:swapsWith e (some (.Attribute x a p)) l env=pure false:=by cases e<;>rfl
def cExpr (m:E):C:=fun call s=>(m call s).flow fun _ s1=>.nx s1
end
end Mi
namespace Mi
open PySem PySem.Spec PyProof.Rows L2
abbrev Tg:=O→S→Option S
abbrev Tgs:=List D→S→Option S
def tG (G:GE) (g:Tg):TG:=fun v σr H Q=> ∃ s Φ o s',NoB Φ∧CfS G σr H s ((.own o,v)::Φ)∧g o s=some s'∧∀ σr',CfS G σr' H s' Φ→σr'.length=σr.length→Q σr' H
def tGs (G:GE) (g:Tgs):TGs:=fun vs σr H Q=> ∃ s Φ ds s',NoB Φ∧ds.length=vs.length∧CfS G σr H s (FzR ds vs++Φ)∧g ds s=some s'∧∀ σr',CfS G σr' H s' Φ→σr'.length=σr.length→Q σr' H
theorem _root_.L2.PG.of {X:Cx} {e:Expr} {t t':TG} (h:PG X e t') (i: ∀ v σ H Q,t v σ H Q→t' v σ H Q):PG X e t:=⟨fun pins s σ H v u Q I r q=>h.run pins s σ H v u Q I r (i v σ H Q q)⟩
theorem _root_.L2.PGs.of {X:Cx} {e:List Expr} {t t':TGs} (h:PGs X e t') (i: ∀ v σ H Q,t v σ H Q→t' v σ H Q):PGs X e t:=⟨fun pins s σ H v u Q I r q=>h.run pins s σ H v u Q I r (i v σ H Q q)⟩
def gN (i:Nat):Tg:=fun o s=>if i<s.σ.length then some ⟨s.σ.set i (some o),s.h⟩ else none
def gsNil:Tgs:=fun ds s=>match ds with
  |[]=>some s
  |_=>none
def gsCons (g:Tg) (r:Tgs):Tgs:=fun ds s=>match ds with
  |d::ds=>(g (.fz d) s).bind fun s1=>r ds s1
  |[]=>none
def gT (n:Nat) (r:Tgs):Tg:=fun o s=>match o with
  | .fz (.tup ds)=>if ds.length=n then r ds s else none
  | .fz (.lst ds)=>if ds.length=n then r ds s else none
  | .lst ds=>if ds.length=n then r ds s else none
  |_=>none
theorem noB_fz {ds:List D} {vs:List V} {Φ:List (R×V)} (h:NoB Φ):NoB (FzR ds vs++Φ):=fun i v q=>by
  rcases List.mem_append.mp q with q|q
  · exact nob_fz q
  · exact h i v q
theorem noB_cons {o:O} {v:V} {Φ:List (R×V)} (h:NoB Φ):NoB ((.own o,v)::Φ):=fun i w q=>by
  rcases List.mem_cons.mp q with q|q
  · cases q
  · exact h i w q
section
variable {G:GE} {k:Nat} {call:Call} {cc:CC} {W:WX} {X:Cx}
theorem CfS.put {σr:Sr} {H:Hp} {s:S} {Φ:List (R×V)} {i:Nat} {o:O} {v:V} (nb:NoB Φ) (c:CfS G σr H s ((.own o,v)::Φ)) (hi:i<s.σ.length):CfS G (σr.set i (some v)) H ⟨s.σ.set i (some o),s.h⟩ Φ:=by
  refine ⟨⟨by simp [c.sl.len],fun j o' q=>?_⟩,fun j w q=>absurd q (nb j w), ?_⟩
  · by_cases hj:i=j
    · subst hj
      exact ⟨v,by rw [List.getElem?_set];simp [←c.sl.len,hi]⟩
    · rw [List.getElem?_set_ne hj]
      exact c.sl.at_ j o' (by simpa [List.getElem?_set,hj] using q)
  · obtain ⟨X,Z,Y,q1,q2,q3⟩:=slp_set (o:=o) (v:=v) hi (by rw [←c.sl.len];exact hi)
    show Cf G H s.h (slp (s.σ.set i (some o)) (σr.set i (some v))++ow Φ)
    rw [q2]
    have cf:Cf G H s.h (slp s.σ σr++(o,v)::ow Φ):=c.cf
    rw [q1] at cf
    have c2:Cf G H s.h (Z++((o,v)::(X++(Y++ow Φ)))):=cf.perm (by
      have e1:X++(Z++Y)++(o,v)::ow Φ=(X++Z++Y)++(o,v)::ow Φ:=by simp
      rw [e1]
      refine List.perm_middle.trans (List.Perm.trans (List.Perm.cons _ ?_) List.perm_middle.symm)
      rw [List.append_assoc,List.append_assoc]
      exact List.perm_append_comm_assoc X Z _)
    exact (Cf.dropN c2).perm (by
      simp only [List.append_assoc,List.cons_append]
      exact List.perm_middle.symm)
theorem g_name (g:Good G k call cc W X) {i:Nat} {x:Str} {pos:Pos} (hi:cc.N[i]?=some x) (hx:cc.sc.names.lookup x=some .local∨(cc.top=true∧cc.sc.names.lookup x=some .cell)):PG X (.Name x pos) (tG G (gN i)):=by
  have hl:Loc X.env.scope x:=by
    rw [g.sc]
    rcases hx with h|⟨_,h⟩
    · exact .inl h
    · exact .inr h
  have hf:X.fn x=true∨X.env.scope.names.lookup x=some .local:=by
    rw [g.sc]
    rcases hx with h|⟨h,_⟩
    · exact .inr h
    · exact .inl (g.fn h x)
  refine (pg_name (by rw [g.N];exact g.nd) (by rw [g.N];exact hi) hl hf).of fun v σ H Q q=>?_
  obtain ⟨s,Φ,o,s',nb,c,e,q⟩:=q
  simp only [gN] at e
  split at e
  · rename_i hl
    cases e
    exact q _ (c.put nb hl) (by simp)
  · cases e
theorem gs_nil:PGs X [] (tGs G gsNil):=pgs_nil.of fun vs σ H Q q=>by
  obtain ⟨s,Φ,ds,s',nb,l,c,e,q⟩:=q
  cases ds with
  | nil=>
    cases e
    have:vs=[]:=List.length_eq_zero_iff.mp l.symm
    subst this
    exact ⟨rfl,q σ c rfl⟩
  |cons d ds=>cases e
def plainT:Expr→Bool
  | .Starred _ _=>false
  |_=>true
theorem asg_cons {e:Expr} {es:List Expr} {env:Env} (h:plainT e=true):assignEach (e::es) env=(false,assign e env)::assignEach es env:=by
  cases e<;>first|rfl|cases h
theorem gs_cons {e:Expr} {es:List Expr} {g:Tg} {r:Tgs} (h1:PG X e (tG G g)) (h2:PGs X es (tGs G r)) (hp:plainT e=true):PGs X (e::es) (tGs G (gsCons g r)):=by
  refine (pgs_cons h1 h2 (by rw [asg_cons hp];rfl)).of fun vs σ H Q q=>?_
  obtain ⟨s,Φ,ds,s',nb,l,c,e,q⟩:=q
  cases ds with
  |nil=>cases e
  | cons d ds=>
    cases vs with
    |nil=>simp at l
    | cons v vs=>
      simp only [gsCons,Option.bind_eq_some_iff] at e
      obtain ⟨s1,e1,e2⟩:=e
      refine ⟨v,vs,rfl,s,FzR ds vs++Φ,.fz d,s1,noB_fz nb,c,e1,fun σ1 c1 l1=>?_⟩
      exact ⟨s1,Φ,ds,s',nb,by simpa using l,c1,e2,fun σ2 c2 l2=>q σ2 c2 (l2.trans l1)⟩
theorem asg_len {env:Env}: ∀ {es:List Expr},es.all plainT=true→(assignEach es env).length=es.length∧(assignEach es env).findIdx? (·.1)=none
  |[],_=>⟨rfl,rfl⟩
  | e::es,h=>by
    simp only [List.all_cons,Bool.and_eq_true] at h
    obtain ⟨h1,h2⟩:=asg_len (env:=env) h.2
    rw [asg_cons h.1]
    refine ⟨by simp [h1], ?_⟩
    rw [List.findIdx?_cons]
    simp [h2]
theorem _root_.L2.PG.or {e:Expr} {t t':TG} (h:PG X e t) (h':PG X e t'):PG X e (fun v σ H Q=>t v σ H Q∨t' v σ H Q):=⟨fun pins s σ H v u Q I r q=>by
  rcases q with q|q
  · exact h.run pins s σ H v u Q I r q
  · exact h'.run pins s σ H v u Q I r q⟩
theorem CfS.spread {σr:Sr} {H:Hp} {s:S} {Φ:List (R×V)} {ds:List D} {vs:List V} {p:O×V} (c:CfS G σr H s Φ) (nb:NoB Φ) (z:Cf G H s.h (Fz ds vs++p::(slp s.σ σr++ow Φ))):CfS G σr H s (FzR ds vs++Φ):=by
  refine ⟨c.sl,fun i v q=>?_, ?_⟩
  · rcases List.mem_append.mp q with q|q
    · exact absurd q nob_fz
    · exact c.bo i v q
  · rw [ow_append,ow_fz]
    have z1:Cf G H s.h (Fz ds vs++(slp s.σ σr++ow Φ)):=(Cf.unrot z).drop
    exact z1.perm (List.perm_append_comm_assoc _ _ _)
theorem g_tup (g:Good G k call cc W X) {es:List Expr} {r:Tgs} {n:Nat} {pos:Pos} (h:PGs X es (tGs G r)) (hp:es.all plainT=true):PG X (.Tuple es n pos) (tG G (gT es.length r)):=by
  refine ((pg_tup g.calm h (asg_len hp).1 (asg_len hp).2).or (pg_lst g.calm h (asg_len hp).1 (asg_len hp).2)).of fun v σ H Q q=>?_
  obtain ⟨s,Φ,o,s',nb,c,e,q⟩:=q
  have cf:Cf G H s.h ((o,v)::(slp s.σ σ++ow Φ)):=c.cf.perm List.perm_middle
  unfold gT at e
  split at e
  · rename_i ds
    split at e
    · rename_i hl
      obtain ⟨a,vs,rfl,t,l,z⟩:=Cf.tupF cf
      exact .inl ⟨a,vs,rfl,by rw [g.K];exact t,by rw [←l,hl],s,Φ,ds,s',nb,l,CfS.spread c.drop nb z,e,q⟩
    · cases e
  · rename_i ds
    split at e
    · rename_i hl
      obtain ⟨a,vs,rfl,t,l,z⟩:=Cf.lstF cf
      exact .inr ⟨a,vs,rfl,.inl (.inl t),by rw [←l,hl],s,Φ,ds,s',nb,l,CfS.spread c.drop nb z,e,q⟩
    · cases e
  · rename_i ds
    split at e
    · rename_i hl
      obtain ⟨a,vs,rfl,t,l,z⟩:=Cf.lst cf
      exact .inr ⟨a,vs,rfl,.inl (.inl t),by rw [←l,hl],s,Φ,ds,s',nb,l,CfS.spread c.drop nb (Cf.rot z),e,q⟩
    · cases e
  · cases e
def keep (s:S):R→Option (O×S)
  | .own o=>some (o,s)
  | .bor i=>(take s (.bor i)).map fun p=>(.fz p.1,p.2)
theorem CfS.keep {σr:Sr} {H:Hp} {s s':S} {Φ:List (R×V)} {r:R} {v:V} {o:O} (c:CfS G σr H s ((r,v)::Φ)) (e:keep s r=some (o,s')):CfS G σr H s' ((.own o,v)::Φ):=by
  cases r with
  | own o'=>
    simp only [Mi.keep,Option.some.injEq,Prod.mk.injEq] at e
    obtain ⟨e1,e2⟩:=e
    subst e1;subst e2
    exact c
  | bor i=>
    simp only [Mi.keep,Option.map_eq_some_iff] at e
    obtain ⟨⟨d,s2⟩,e1,e2⟩:=e
    cases e2
    exact c.take e1
def cAsg (m:E) (g:Tg):C:=fun call s=>(m call s).flow fun x s1=>match (keep s1 x).bind fun p=>g p.1 p.2 with
  |some s2=>.nx s2
  |none=>.bad
theorem tAsg_of {m:E} {g:Tg} {D:Ends} {σ:Sr} {H:Hp} (q:tS G W call (cAsg m g) D σ H):tAsg (tE G W call m) (tG G g) D σ H:=by
  obtain ⟨s,Φ,nb,c,q⟩:=q
  refine ⟨s,Φ,c,(AftS.flow q).mono fun x s1 a1=>fun v H1 c1=>?_⟩
  split at a1
  · rename_i s2 e2
    simp only [Option.bind_eq_some_iff] at e2
    obtain ⟨⟨o,s3⟩,e3,e4⟩:=e2
    exact ⟨s3,Φ,o,s2,nb,c1.keep e3,e4,fun σ' c' _=>a1 σ' H1 c'⟩
  · exact a1.elim
theorem s_asg {tg e:Expr} {m:E} {g:Tg} {pos:Pos} (he:PE X e (tE G W call m)) (hg:PG X tg (tG G g)) (hn:noComp e=true) (hw:swappedStores [tg] e X.env=pure none) (hp:plainT tg=true):PS X (.Assign [tg] e pos) (tS G W call (cAsg m g)):=
  (ps_asg he hg (noComp_sw hn) hw (by rw [asg_cons hp];rfl)).of fun D σ H q=>tAsg_of q
def keepAll (s:S):List R→Option (List O×S)
  |[]=>some ([],s)
  |r::rs=>(keep s r).bind fun p=>(keepAll p.2 rs).bind fun q=>some (p.1::q.1,q.2)
def asgAll:List Tg→List O→S→Option S
  |[],[],s=>some s
  |g::gs,o::os,s=>(g o s).bind fun s1=>asgAll gs os s1
  |_,_,_=>none
def OwR (os:List O) (vs:List V):List (R×V):=List.zipWith (fun o v=>(R.own o,v)) os vs
theorem nob_ow: ∀ {os:List O} {vs:List V} {i:Nat} {v:V},(R.bor i,v)∉OwR os vs
  |[],_,_,_=>by simp [OwR]
  |_::_,[],_,_=>by simp [OwR]
  | o::os,v::vs,i,w=>by
    show (R.bor i,w)∉(R.own o,v)::OwR os vs
    intro h
    rcases List.mem_cons.mp h with h|h
    · cases h
    · exact nob_ow h
def tGsO (G:GE) (gs:List Tg):TGs:=fun vs σr H Q=> ∃ s Φ os s',NoB Φ∧os.length=vs.length∧CfS G σr H s (OwR os vs++Φ)∧asgAll gs os s=some s'∧∀ σr',CfS G σr' H s' Φ→Q σr' H
theorem gso_nil:PGs X [] (tGsO G []):=pgs_nil.of fun vs σ H Q q=>by
  obtain ⟨s,Φ,os,s',nb,l,c,e,q⟩:=q
  cases os with
  | nil=>
    cases e
    have:vs=[]:=List.length_eq_zero_iff.mp l.symm
    subst this
    exact ⟨rfl,q σ c⟩
  |cons d ds=>cases e
theorem gso_cons {e:Expr} {es:List Expr} {g:Tg} {gs:List Tg} (h1:PG X e (tG G g)) (h2:PGs X es (tGsO G gs)) (hp:plainT e=true):PGs X (e::es) (tGsO G (g::gs)):=by
  refine (pgs_cons h1 h2 (by rw [asg_cons hp];rfl)).of fun vs σ H Q q=>?_
  obtain ⟨s,Φ,os,s',nb,l,c,e,q⟩:=q
  cases os with
  |nil=>cases e
  | cons o os=>
    cases vs with
    |nil=>simp at l
    | cons v vs=>
      simp only [asgAll,Option.bind_eq_some_iff] at e
      obtain ⟨s1,e1,e2⟩:=e
      have nb2:NoB (OwR os vs++Φ):=fun i w q=>by
        rcases List.mem_append.mp q with q|q
        · exact nob_ow q
        · exact nb i w q
      refine ⟨v,vs,rfl,s,OwR os vs++Φ,o,s1,nb2,c,e1,fun σ1 c1 _=>?_⟩
      exact ⟨s1,Φ,os,s',nb,by simpa using l,c1,e2,q⟩
def cMul (r:AsR) (gs:List Tg):C:=fun call s=>(r call s).flow fun rs s1=>if fitsB rs.length then (match (keepAll s1 rs).bind fun p=>asgAll gs p.1 p.2 with
  |some s2=>.nx s2
  |none=>.bad) else .bad
end
end Mi
namespace Mi
open PySem PySem.Spec PyProof.Rows L2
def Walks (G:GE) (J:It) (K:List (R×V)) (ds:List D):Prop:= ∀ (σr:Sr) (H:Hp) (s:S) (Φ:List (R×V)),CfS G σr H s (K++Φ)→
  (∀ i,i<ds.length→J.go i H)∧(∀ i d x H',ds[i]?=some d→J.yld i H x H'→CfS G σr H' s ((.own (.fz d),x)::(K++Φ)))∧J.stop ds.length H
abbrev Iv:=Call→S→Out (List D)
def tI (G:GE) (W:WX) (call:Call) (m:Iv):TI:=fun σr H Rr=> ∃ s Φ,CfS G σr H s Φ∧Aft G W σr Φ (fun ds s1=> ∀ K J H1,NoB K→CfS G σr H1 s1 (K++Φ)→Walks G J K ds→Rr J H1) (m call s)
theorem _root_.L2.PI.of {X:Cx} {tg e:Expr} {t t':TI} (h:PI X tg e t') (i: ∀ σ H Q,t σ H Q→t' σ H Q):PI X tg e t:=⟨fun pins s σ H Q I q=>h.run pins s σ H Q I (i σ H Q q)⟩
theorem _root_.L2.PI.or {X:Cx} {tg e:Expr} {t t':TI} (h:PI X tg e t) (h':PI X tg e t'):PI X tg e (fun σ H R=>t σ H R∨t' σ H R):=⟨fun pins s σ H Q I q=>by
  rcases q with q|q
  · exact h.run pins s σ H Q I q
  · exact h'.run pins s σ H Q I q⟩
def signs (x:Str):List D:=x.cps.toList.map fun c=>.str ⟨#[c]⟩
def iterD:D→Option (List D)
  | .str x=>some (signs x)
  |d=>itemsD d
def iVal (m:E):Iv:=fun call s=>(m call s).bind fun x s1=>match take s1 x with
  |some (d,s2)=>lift s2 (iterD d)
  |none=>.bad
section
variable {G:GE} {k:Nat} {call:Call} {cc:CC} {W:WX} {X:Cx}
theorem walks_list {d:D} {ds:List D} {v:V} {a:Addr} (e:listD d=some ds) (hv:v= .ref a):Walks G (Itl G.K a) [(.own (.fz d),v)] ds:=by
  intro σr H s Φ c
  subst hv
  obtain ⟨ρ,M,cp⟩:=c.parts
  have r:=c.peek (r:=.own (.fz d)) (v:=.ref a) (d:=d) (by simp) (by cases d<;>first|rfl|cases e) cp
  obtain ⟨a',vs,ea,t,rd⟩:=listD_of r e
  cases ea
  exact ⟨fun i hi=>⟨vs,vs[i]'(by rw [←rd.length];exact hi),t,by simp⟩,fun i d' x H' ei ⟨eH,y⟩=>by
    subst eH
    have ex:=y vs t
    obtain ⟨w,hw,q⟩:=rd.get ei
    rw [ex] at hw
    cases hw
    exact CfS.cpMore (K:=[]) c cp q,⟨vs,t,by rw [rd.length];exact Nat.le_refl _⟩⟩
theorem walks_tup {ds:List D} {v:V} {a:Addr} (hv:v= .ref a):Walks G (Itt G.K a) [(.own (.fz (.tup ds)),v)] ds:=by
  intro σr H s Φ c
  subst hv
  obtain ⟨ρ,M,cp⟩:=c.parts
  have r:=c.peek (r:=.own (.fz (.tup ds))) (v:=.ref a) (d:=.tup ds) (by simp) rfl cp
  obtain ⟨a',vs,ea,t0,rd⟩:=r
  have t:=t0.sq
  cases ea
  exact ⟨fun i hi=>⟨vs,vs[i]'(by rw [←rd.length];exact hi),t,by simp⟩,fun i d' x H' ei ⟨eH,y⟩=>by
    subst eH
    have ex:=y vs t
    obtain ⟨w,hw,q⟩:=rd.get ei
    rw [ex] at hw
    cases hw
    exact CfS.cpMore (K:=[]) c cp q,⟨vs,t,by rw [rd.length];exact Nat.le_refl _⟩⟩
theorem walks_str {x:Str}:Walks G (Its x) [] (signs x):=by
  intro σr H s Φ c
  refine ⟨fun i hi=>by simpa [signs,Its] using hi,fun i d' y H' ei ⟨eH,cp,ec,ey⟩=>?_,by simp [signs,Its]⟩
  subst eH;subst ey
  have:d'= .str ⟨#[cp]⟩:=by
    simp only [signs,List.getElem?_map,Option.map_eq_some_iff] at ei
    obtain ⟨z,e1,e2⟩:=ei
    rw [Array.getElem?_toList,ec] at e1
    cases e1
    exact e2.symm
  subst this
  exact c.simple rfl
theorem i_val (g:Good G k call cc W X) {tg e:Expr} {m:E} (h:PE X e (tE G W call m)):PI X tg e (tI G W call (iVal m)):=by
  refine (((pi_list h).or (pi_tup h)).or (pi_str h)).of fun σ H Q q=>?_
  obtain ⟨s,Φ,c,q⟩:=q
  have q1:=Aft.bind q
  cases em:m call s with
  |bad=>rw [em] at q1;exact q1.elim
  |exc cn d s1=>exact .inl (.inl ⟨s,Φ,c,by rw [em] at q1 ⊢;exact q1⟩)
  | ok x s1=>
    rw [em] at q1
    have q2:Aft G W σ Φ _ (match take s1 x with
      |some (d,s2)=>lift s2 (iterD d)
      |none=>.bad):=q1
    split at q2
    · rename_i d s2 et
      obtain ⟨ds,ed,q3⟩:=Aft.lift q2
      cases d with
      | str z=>
        cases ed
        refine .inr ⟨s,Φ,c, ?_⟩
        rw [em]
        intro v H1 c1
        have c2:=c1.take et
        have ev:v= .str z:=by obtain ⟨ρ,M,cp⟩:=c2.parts;exact c2.peek (r:=.own (.fz (.str z))) (d:=.str z) (by simp) rfl cp
        exact ⟨z,ev,q3 [] _ H1 (fun _ _ z=>by simp at z) c2.drop walks_str⟩
      | tup ds'=>
        cases ed
        refine .inl (.inr ⟨s,Φ,c, ?_⟩)
        rw [em]
        intro v H1 c1
        have c2:=c1.take et
        obtain ⟨ρ,M,cp⟩:=c2.parts
        obtain ⟨a,vs,ea,t,rd⟩:=c2.peek (r:=.own (.fz (.tup ds))) (d:=.tup ds) (v:=v) (by simp) rfl cp
        exact ⟨a,ea,⟨vs,by rw [g.K];exact t.sq⟩,by rw [g.K];exact q3 [(.own (.fz (.tup ds)),v)] _ H1 (noB_cons fun _ _ z=>by simp at z) c2 (walks_tup ea)⟩
      | lst ds'=>
        have e2:listD (.lst ds')=some ds:=ed
        refine .inl (.inl ⟨s,Φ,c, ?_⟩)
        rw [em]
        intro v H1 c1
        have c2:=c1.take et
        obtain ⟨ρ,M,cp⟩:=c2.parts
        obtain ⟨a,vs,ea,t,rd⟩:=listD_of (c2.peek (r:=.own (.fz (.lst ds'))) (d:=.lst ds') (v:=v) (by simp) rfl cp) e2
        exact ⟨a,ea,⟨vs,by rw [g.K];exact t⟩,by rw [g.K];exact q3 [(.own (.fz (.lst ds')),v)] _ H1 (noB_cons fun _ _ z=>by simp at z) c2 (walks_list e2 ea)⟩
      | scr ns=>
        have e2:listD (.scr ns)=some ds:=ed
        refine .inl (.inl ⟨s,Φ,c, ?_⟩)
        rw [em]
        intro v H1 c1
        have c2:=c1.take et
        obtain ⟨ρ,M,cp⟩:=c2.parts
        obtain ⟨a,vs,ea,t,rd⟩:=listD_of (c2.peek (r:=.own (.fz (.scr ns))) (d:=.scr ns) (v:=v) (by simp) rfl cp) e2
        exact ⟨a,ea,⟨vs,by rw [g.K];exact t⟩,by rw [g.K];exact q3 [(.own (.fz (.scr ns)),v)] _ H1 (noB_cons fun _ _ z=>by simp at z) c2 (walks_list e2 ea)⟩
      |non=>cases ed
      |bl _=>cases ed
      |int _=>cases ed
      |dic _ _=>cases ed
      |ins _ _ _=>cases ed
      |dct _ _=>cases ed
      |loc _=>cases ed
      |fn _=>cases ed
      |ty _=>cases ed
      |cls _=>cases ed
      |xn _ _ _=>cases ed
      |xv _ _ _=>cases ed
      |lk _ _=>cases ed
    · exact q2.elim
def rangeD (lo:Int) (n:Nat):List D:=(List.range n).map fun i=>.int (lo+(i:Nat))
def smallR (i:Int):Bool:=decide (-(2^62)≤i)&&decide (i<2^62)
def iRg1 (r:AsR):Iv:=fun call s=>(r call s).bind fun rs s1=>match peeks s1 rs with
  |some [.int j]=>if smallR j then .ok (rangeD 0 j.toNat) s1 else .bad
  |_=>.bad
theorem walks_range {lo:Int} {n:Nat}:Walks G (Itr lo n) [] (rangeD lo n):=by
  intro σr H s Φ c
  refine ⟨fun i hi=>by simpa [rangeD,Itr] using hi,fun i d' y H' ei ⟨eH,ey⟩=>?_,by simp [rangeD,Itr]⟩
  subst eH;subst ey
  simp only [rangeD,List.getElem?_map,Option.map_eq_some_iff] at ei
  obtain ⟨z,e1,e2⟩:=ei
  have hz:z=i:=by
    by_cases hi:i<n
    · rw [List.getElem?_range hi] at e1;cases e1;rfl
    · rw [List.getElem?_eq_none (by simpa using hi)] at e1;cases e1
  subst hz;subst e2
  exact c.simple rfl
theorem i_range1 (g:Good G k call cc W X) {tg a:Expr} {r:AsR} {p pos:Pos} (hg:cc.sc.names.lookup ("range":Str)=some .globalImplicit) (h:PA X [a] (tR G W call r)) (hn:notStar a=true):PI X tg (.Call (.Name "range" p) [a] [] pos) (tI G W call (iRg1 r)):=by
  refine (pi_range1 (g.gl hg) (g.blt _ (by decide)) h (star_cons hn)).of fun σ H Q q=>?_
  obtain ⟨s,Φ,c,q⟩:=q
  refine ⟨s,Φ,c,(Aft.bind q).mono fun rs s1 a1=>fun vs H1 l c1=>?_⟩
  split at a1
  · rename_i j e
    split at a1
    · rename_i hs
      simp only [smallR,Bool.and_eq_true,decide_eq_true_eq] at hs
      obtain ⟨ρ,M,cp⟩:=c1.parts
      obtain ⟨v,rfl,r⟩:=(peeks_of c1 cp l (fun p hp=>List.mem_append_left _ hp) e).one
      obtain rfl:=(show v=_ from r)
      exact ⟨j,rfl,hs.1,hs.2,a1 [] _ H1 (fun _ _ z=>by simp at z) c1.dropN walks_range⟩
    · exact a1.elim
  · exact a1.elim
def forL (call:Call) (g:Tg) (body:C):List D→S→Fl
  |[],s=>.nx s
  | d ::ds,s=>match g (.fz d) s with
    |none=>.bad
    | some s1=>match body call s1 with
      | .nx s2=>forL call g body ds s2
      | .ct s2=>forL call g body ds s2
      | .bk s2=>.nx s2
      | .rt o s2=>.rt o s2
      | .exc c d s2=>.exc c d s2
      | .bad=>.bad
def cFor (m:Iv) (g:Tg) (body:C):C:=fun call s=>(m call s).flow fun ds s1=>forL call g body ds s1
theorem AftS.imp {Φ:List (R×V)} {D:Ends} {x:Fl} (a:AftS G W Φ D x) {K:List (R×V)} {D':Ends} (h1: ∀ s,x= .nx s→∀ σ H,CfS G σ H s (K++Φ)→D'.nx σ H) (h2: ∀ s,x= .bk s→∀ σ H,CfS G σ H s (K++Φ)→D'.bk σ H) (h3: ∀ s,x= .ct s→∀ σ H,CfS G σ H s (K++Φ)→D'.ct σ H) (h4: ∀ v H,D.rt v H→D'.rt v H):AftS G W (K++Φ) D' x:=by
  cases x with
  |nx s=>exact h1 s rfl
  |bk s=>exact h2 s rfl
  |ct s=>exact h3 s rfl
  |rt o s=>exact fun σ v H c=>h4 v H (a σ v H (CfS.dropN (K:=K) (c.perm List.perm_middle.symm)))
  | exc cn d s=>
    rintro σ cls dx H ⟨C,f,b,v,e1,e2,e3,e4,c5⟩
    exact a σ cls dx H ⟨C,f,b,v,e1,e2,e3,e4,CfS.dropN (K:=K) (c5.perm List.perm_middle.symm)⟩
  |bad=>exact a
theorem for_walk {J:It} {K Φ:List (R×V)} {ds:List D} {g:Tg} {body:C} {D:Ends} {σ:Sr} {H:Hp} {s:S} (nk:NoB K) (nb:NoB Φ) (w:Walks G J K ds) (c:CfS G σ H s (K++Φ)) (a:AftS G W Φ D (forL call g body ds s)):
    ∃ Wr:Nat→Nat→Sr→Hp→Prop,(∃ m,Wr 0 m σ H)∧∀ i m σ H,Wr i m σ H→
      (J.stop i H∧D.nx σ H)∨(J.go i H∧∃ N:Sr→Hp→Prop,(∀ σ' H',N σ' H'→∃ m',m'<m∧Wr (i+1) m' σ' H')∧∀ x H',J.yld i H x H'→tG G g x σ H' fun σ2 H2=>tS G W call body {D with nx:=N,ct:=N,bk:=D.nx} σ2 H2):=by
  have nkb:NoB (K++Φ):=fun i v z=>by
    rcases List.mem_append.mp z with z|z
    · exact nk i v z
    · exact nb i v z
  refine ⟨fun i m σ H=>m=ds.length - i∧i≤ds.length∧∃ s,CfS G σ H s (K++Φ)∧AftS G W Φ D (forL call g body (ds.drop i) s),⟨ds.length,by simp,Nat.zero_le _,s,c,a⟩, ?_⟩
  rintro i m σ H ⟨rfl,hi,s,c,a⟩
  obtain ⟨w1,w2,w3⟩:=w σ H s Φ c
  by_cases hlt:i<ds.length
  · refine .inr ⟨w1 i hlt,fun σ' H'=> ∃ s,CfS G σ' H' s (K++Φ)∧AftS G W Φ D (forL call g body (ds.drop (i+1)) s),fun σ' H' p'=>⟨ds.length - (i+1),by omega,rfl,hlt,p'⟩,fun x H' y=>?_⟩
    have e:ds.drop i=ds[i]::ds.drop (i+1):=List.drop_eq_getElem_cons hlt
    rw [e] at a
    have c1:=w2 i ds[i] x H' (by simp [hlt]) y
    simp only [forL] at a
    split at a
    · exact a.elim
    · rename_i s1 eg
      refine ⟨s,K++Φ,.fz ds[i],s1,nkb,c1,eg,fun σ2 c2 _=>⟨s1,K++Φ,nkb,c2, ?_⟩⟩
      cases eb:body call s1 with
      |nx s2=>rw [eb] at a;exact fun σ3 H3 c3=>⟨s2,c3,a⟩
      |ct s2=>rw [eb] at a;exact fun σ3 H3 c3=>⟨s2,c3,a⟩
      |bk s2=>rw [eb] at a;exact fun σ3 H3 c3=>a σ3 H3 (CfS.dropN c3)
      |rt o s2=>rw [eb] at a;exact fun σ3 v H3 c3=>a σ3 v H3 (CfS.dropN (K:=K) (c3.perm List.perm_middle.symm))
      | exc cn d s2=>
        rw [eb] at a
        rintro σ3 cls dx H3 ⟨C,f,b,v,e1,e2,e3,e4,c5⟩
        exact a σ3 cls dx H3 ⟨C,f,b,v,e1,e2,e3,e4,CfS.dropN (K:=K) (c5.perm List.perm_middle.symm)⟩
      |bad=>rw [eb] at a;exact a
  · have e:i=ds.length:=by omega
    subst e
    rw [List.drop_length] at a
    exact .inl ⟨w3,a σ H (CfS.dropN c)⟩
theorem s_for (g:Good G k call cc W X) {tg it:Expr} {b:List Stmt} {m:Iv} {t:Tg} {mb:C} {pos:Pos} (hi:PI X tg it (tI G W call m)) (hg:PG X tg (tG G t)) (hb:PSs X b (tS G W call mb)) (hs: ∀ x,foldedSetIterable it X.env x=pure x):PS X (.For tg it b [] pos) (tS G W call (cFor m t mb)):=by
  refine (ps_for g.po g.calm hi hg hb hs).of fun D σ H q=>?_
  obtain ⟨s,Φ,nb,c,q⟩:=q
  exact ⟨s,Φ,c,(AftS.flow q).mono fun ds s1 a1=>fun K J H1 nk c1 w=>for_walk nk nb w c1 a1⟩
end
end Mi
namespace Mi
open PySem PySem.Spec PyProof.Rows L2
def Agree (vs:List Nat) (σ σ':Sr):Prop:=σ'.length=σ.length∧∀ (i:Nat),i∉vs→σ'[i]?=σ[i]?
theorem wipe_at {σ:Sr} {i:Nat}: ∀ {vs:List Nat},i∈vs→i<σ.length→(wipe σ vs)[i]?=some none
  | v ::vs,h,hl=>by
    rw [wipe]
    by_cases e:v=i
    · subst e
      rw [List.getElem?_set]
      simp [wipe_length,hl]
    · rw [List.getElem?_set_ne e]
      exact wipe_at (by rcases List.mem_cons.mp h with z|z;exact absurd z.symm e;exact z) hl
theorem Agree.wipe {vs:List Nat} {σ σ':Sr} (a:Agree vs σ σ'):L2.wipe σ' vs=L2.wipe σ vs:=by
  refine List.ext_getElem? fun i=>?_
  by_cases hi:i∈vs
  · by_cases hl:i<σ.length
    · rw [wipe_at hi hl,wipe_at hi (by rw [a.1];exact hl)]
    · rw [List.getElem?_eq_none (by rw [wipe_length,a.1];omega),List.getElem?_eq_none (by rw [wipe_length];omega)]
  · rw [wipe_out hi,wipe_out hi,a.2 i hi]
theorem Agree.refl (vs:List Nat) (σ:Sr):Agree vs σ σ:=⟨rfl,fun _ _=>rfl⟩
theorem Agree.trans {vs:List Nat} {σ σ' σ'':Sr} (a:Agree vs σ σ') (b:Agree vs σ' σ''):Agree vs σ σ'':=⟨b.1.trans a.1,fun i hi=>(b.2 i hi).trans (a.2 i hi)⟩
theorem Agree.set {vs:List Nat} {σ:Sr} {i:Nat} {v:Option V} (h:i∈vs):Agree vs σ (σ.set i v):=⟨by simp,fun j hj=>by rw [List.getElem?_set_ne fun z:i=j=>hj (by rw [←z];exact h)]⟩
theorem wipe_wipe {σ:Sr} {vs:List Nat}:L2.wipe (L2.wipe σ vs) vs=L2.wipe σ vs:=Agree.wipe (σ:=σ) ⟨wipe_length σ vs,fun i hi=>wipe_out hi⟩
def tGA (G:GE) (vs:List Nat) (g:Tg):TG:=fun v σr H Q=> ∃ s Φ o s',NoB Φ∧CfS G σr H s ((.own o,v)::Φ)∧g o s=some s'∧∀ σr',CfS G σr' H s' Φ→Agree vs σr σr'→Q σr' H
def tGAs (G:GE) (vs:List Nat) (g:Tgs):TGs:=fun us σr H Q=> ∃ s Φ ds s',NoB Φ∧ds.length=us.length∧CfS G σr H s (FzR ds us++Φ)∧g ds s=some s'∧∀ σr',CfS G σr' H s' Φ→Agree vs σr σr'→Q σr' H
abbrev noW:WX:=fun _ _ _ _=>False
section
variable {G:GE} {k:Nat} {call:Call} {cc:CC} {W:WX} {X:Cx} {vs:List Nat}
theorem ga_name (g:Good G k call cc W X) {i:Nat} {x:Str} {pos:Pos} (hi:cc.N[i]?=some x) (hx:cc.sc.names.lookup x=some .local) (hv:i∈vs):PG X (.Name x pos) (tGA G vs (gN i)):=by
  refine (pg_name (by rw [g.N];exact g.nd) (by rw [g.N];exact hi) (by rw [g.sc];exact .inl hx) (.inr (by rw [g.sc];exact hx))).of fun v σ H Q q=>?_
  obtain ⟨s,Φ,o,s',nb,c,e,q⟩:=q
  simp only [gN] at e
  split at e
  · rename_i hl
    cases e
    exact q _ (c.put nb hl) (Agree.set hv)
  · cases e
theorem gas_nil:PGs X [] (tGAs G vs gsNil):=pgs_nil.of fun us σ H Q q=>by
  obtain ⟨s,Φ,ds,s',nb,l,c,e,q⟩:=q
  cases ds with
  | nil=>
    cases e
    have:us=[]:=List.length_eq_zero_iff.mp l.symm
    subst this
    exact ⟨rfl,q σ c (Agree.refl _ _)⟩
  |cons d ds=>cases e
theorem gas_cons {e:Expr} {es:List Expr} {g:Tg} {r:Tgs} (h1:PG X e (tGA G vs g)) (h2:PGs X es (tGAs G vs r)) (hp:plainT e=true):PGs X (e::es) (tGAs G vs (gsCons g r)):=by
  refine (pgs_cons h1 h2 (by rw [asg_cons hp];rfl)).of fun us σ H Q q=>?_
  obtain ⟨s,Φ,ds,s',nb,l,c,e,q⟩:=q
  cases ds with
  |nil=>cases e
  | cons d ds=>
    cases us with
    |nil=>simp at l
    | cons v us=>
      simp only [gsCons,Option.bind_eq_some_iff] at e
      obtain ⟨s1,e1,e2⟩:=e
      refine ⟨v,us,rfl,s,FzR ds us++Φ,.fz d,s1,noB_fz nb,c,e1,fun σ1 c1 l1=>?_⟩
      exact ⟨s1,Φ,ds,s',nb,by simpa using l,c1,e2,fun σ2 c2 l2=>q σ2 c2 (l1.trans l2)⟩
theorem ga_tup (g:Good G k call cc W X) {es:List Expr} {r:Tgs} {n:Nat} {pos:Pos} (h:PGs X es (tGAs G vs r)) (hp:es.all plainT=true):PG X (.Tuple es n pos) (tGA G vs (gT es.length r)):=by
  refine ((pg_tup g.calm h (asg_len hp).1 (asg_len hp).2).or (pg_lst g.calm h (asg_len hp).1 (asg_len hp).2)).of fun v σ H Q q=>?_
  obtain ⟨s,Φ,o,s',nb,c,e,q⟩:=q
  have cf:Cf G H s.h ((o,v)::(slp s.σ σ++ow Φ)):=c.cf.perm List.perm_middle
  unfold gT at e
  split at e
  · rename_i ds
    split at e
    · rename_i hl
      obtain ⟨a,us,rfl,t,l,z⟩:=Cf.tupF cf
      exact .inl ⟨a,us,rfl,by rw [g.K];exact t,by rw [←l,hl],s,Φ,ds,s',nb,l,CfS.spread c.drop nb z,e,q⟩
    · cases e
  · rename_i ds
    split at e
    · rename_i hl
      obtain ⟨a,us,rfl,t,l,z⟩:=Cf.lstF cf
      exact .inr ⟨a,us,rfl,.inl (.inl t),by rw [←l,hl],s,Φ,ds,s',nb,l,CfS.spread c.drop nb z,e,q⟩
    · cases e
  · rename_i ds
    split at e
    · rename_i hl
      obtain ⟨a,us,rfl,t,l,z⟩:=Cf.lst cf
      exact .inr ⟨a,us,rfl,.inl (.inl t),by rw [←l,hl],s,Φ,ds,s',nb,l,CfS.spread c.drop nb (Cf.rot z),e,q⟩
    · cases e
  · cases e
def lcL (call:Call) (g:Tg) (tt:B) (te:E) (vs:List Nat):List D→List D→S→Out (List D)
  |[],acc,s=>.ok acc s
  | d ::ds,acc,s=>match g (.fz d) s with
    |none=>.bad
    | some s1=>match tt call s1 with
      | .ok true s2=>(match te call s2 with
        | .ok x s3=>(match take s3 x with
          |some (y,s4)=>if fitsB (acc.length+1) then lcL call g tt te vs ds (acc++[y]) ⟨wipeO s4.σ vs,s4.h⟩ else .bad
          |none=>.bad)
        |_=>.bad)
      | .ok false s2=>lcL call g tt te vs ds acc ⟨wipeO s2.σ vs,s2.h⟩
      |_=>.bad
def mLc (m:Iv) (g:Tg) (tt:B) (te:E) (vs:List Nat):E:=fun call s=>(m call s).bind fun ds s1=>match lcL call g tt te vs ds [] ⟨wipeO s1.σ vs,s1.h⟩ with
  | .ok acc s2=>.ok (.own (.lst acc)) ⟨rst s2.σ s1.σ vs,s2.h⟩
  |_=>.bad
def ownR (Z:List (O×V)):List (R×V):=Z.map fun p=>(R.own p.1,p.2)
theorem ow_ownR: ∀ Z,ow (ownR Z)=Z
  |[]=>rfl
  |(o,v)::Z=>by show (o,v)::ow (ownR Z)=_;rw [ow_ownR Z]
theorem nob_ownR {Z:List (O×V)}:NoB (ownR Z):=fun i v h=>by
  simp only [ownR,List.mem_map] at h
  obtain ⟨p,_,e⟩:=h
  cases e
theorem noB_app {Φ Ψ:List (R×V)} (a:NoB Φ) (b:NoB Ψ):NoB (Φ++Ψ):=fun i v z=>by
  rcases List.mem_append.mp z with z|z
  · exact a i v z
  · exact b i v z
theorem CfS.wipe {σr:Sr} {H:Hp} {s:S} {Φ:List (R×V)} (nb:NoB Φ) (c:CfS G σr H s Φ) (vs:List Nat):CfS G (L2.wipe σr vs) H ⟨wipeO s.σ vs,s.h⟩ Φ:=by
  obtain ⟨Z,p1,ok,_⟩:=slp_wipe c.sl vs
  refine ⟨ok,fun i v z=>absurd z (nb i v), ?_⟩
  have cf:=c.cf.perm (p1.append_right (ow Φ))
  have c2:Cf G H s.h (Z++(slp (wipeO s.σ vs) (L2.wipe σr vs)++ow Φ)):=cf.perm (by
    rw [List.append_assoc]
    exact List.perm_append_comm_assoc _ _ _)
  exact Cf.dropN c2
theorem CfS.append {σr:Sr} {H:Hp} {s:S} {Φ:List (R×V)} {acc:List D} {d:D} {p:Addr} {y:V} (c:CfS G σr H s ((.own (.fz d),y)::(.own (.lst acc),.ref p)::Φ)):
    ∃ us,H p=some (.lst us)∧us.length=acc.length∧CfS G σr (upd H p (.lst (us++[y]))) s ((.own (.lst (acc++[d])),.ref p)::Φ):=by
  have cf:Cf G H s.h ((.lst acc,.ref p)::(.fz d,y)::(slp s.σ σr++ow Φ)):=c.cf.perm (by
    refine (List.perm_middle).trans ?_
    refine (List.Perm.cons _ List.perm_middle).trans (.swap _ _ _))
  obtain ⟨a,us,ea,t,l,z⟩:=Cf.lst cf
  cases ea
  refine ⟨us,t,l.symm,c.sl,fun i v q=>?_, ?_⟩
  · rcases List.mem_cons.mp q with q|q
    · cases q
    · exact c.bo i v (by simp [q])
  · have z2:Cf G H s.h ((.lst acc,.ref p)::(Fz (acc++[d]) (us++[y])++(slp s.σ σr++ow Φ))):=by
      rw [Fz_append l,List.append_assoc]
      exact z
    exact (z2.change (ho:=.lst (us++[y])) (o':=.lst (acc++[d])) (by simp [l]) (fun _ h=>by cases h) fun ρ M H' e r=>⟨p,_,rfl,e,r,rfl⟩).perm List.perm_middle.symm
theorem lc_walk {J:It} {K Φ:List (R×V)} {ds:List D} {g:Tg} {tt:B} {te:E} {σ:Sr} {H1:Hp} {s1:S} {Q:VK} {Dd:Addr} (nk:NoB K) (bo: ∀ i v,(R.bor i,v)∈Φ→σ[i]?=some (some v)) (w:Walks G J K ds) (c:CfS G σ H1 s1 (K++Φ)) (hD:H1 Dd=none)
    (a:Aft G W σ Φ (PV G σ Φ Q) (match lcL call g tt te vs ds [] ⟨wipeO s1.σ vs,s1.h⟩ with
      | .ok acc s2=>.ok (.own (.lst acc)) ⟨rst s2.σ s1.σ vs,s2.h⟩
      |_=>.bad)):
    ∃ Wr:Nat→Nat→Hp→Prop,(∃ m,Wr 0 m (upd H1 Dd (.lst [])))∧∀ i m H,Wr i m H→
      (J.stop i H∧Q (.ref Dd) H)∨(J.go i H∧∃ Nx:Hp→Prop,(∀ H',Nx H'→∃ m',m'<m∧Wr (i+1) m' H')∧∀ x H',J.yld i H x H'→tGA G vs g x (L2.wipe σ vs) H' fun σ2 H2=>L2.wipe σ2 vs=L2.wipe σ vs∧tB_ G noW call tt σ2 H2 fun b H3=>
        if b=true then tE G noW call te σ2 H3 fun y H4=> ∃ acc,H4 Dd=some (.lst acc)∧acc.length<sizeLine∧Nx (upd H4 Dd (.lst (acc++[y]))) else Nx H3):=by
  obtain ⟨Z,p1,ok,back⟩:=slp_wipe c.sl vs
  let Ψ:=K++(ownR Z++ownR (ow Φ))
  have nΨ:NoB Ψ:=noB_app nk (noB_app nob_ownR nob_ownR)
  let St:List D→S→Hp→Prop:=fun acc s H=>CfS G (L2.wipe σ vs) H s ((.own (.lst acc),.ref Dd)::Ψ)
  let Fin:List D→List D→S→Prop:=fun rest acc s=>Aft G W σ Φ (PV G σ Φ Q) (match lcL call g tt te vs rest acc s with
      | .ok acc s2=>.ok (.own (.lst acc)) ⟨rst s2.σ s1.σ vs,s2.h⟩
      |_=>.bad)
  have st0:St [] ⟨wipeO s1.σ vs,s1.h⟩ (upd H1 Dd (.lst [])):=by
    refine ⟨ok,fun i v z=>absurd z (noB_cons nΨ i v), ?_⟩
    have cf:=c.cf.perm (p1.append_right (ow (K++Φ)))
    have cf2:Cf G H1 s1.h (Fz [] []++(slp (wipeO s1.σ vs) (L2.wipe σ vs)++ow Ψ)):=cf.perm (by
      show List.Perm _ (slp (wipeO s1.σ vs) (L2.wipe σ vs)++ow Ψ)
      simp only [Ψ,ow_append,ow_ownR,List.append_assoc]
      exact List.Perm.append_left _ (List.perm_append_comm_assoc _ _ _))
    exact (Cf.newLst rfl cf2 hD).perm List.perm_middle.symm
  refine ⟨fun i m H=>m=ds.length - i∧i≤ds.length∧∃ acc s,St acc s H∧Fin (ds.drop i) acc s,⟨ds.length,by simp,Nat.zero_le _,[],_,st0,a⟩, ?_⟩
  rintro i m H ⟨rfl,hi,acc,s,c,a⟩
  have cK:CfS G (L2.wipe σ vs) H s (K++((.own (.lst acc),.ref Dd)::(ownR Z++ownR (ow Φ)))):=c.perm List.perm_middle.symm
  obtain ⟨w1,w2,w3⟩:=w _ H s _ cK
  by_cases hlt:i<ds.length
  · refine .inr ⟨w1 i hlt,fun H'=> ∃ acc s,St acc s H'∧Fin (ds.drop (i+1)) acc s,fun H' p'=>⟨ds.length - (i+1),by omega,rfl,hlt,p'⟩,fun x H' y=>?_⟩
    have e:ds.drop i=ds[i]::ds.drop (i+1):=List.drop_eq_getElem_cons hlt
    have a':Fin (ds[i]::ds.drop (i+1)) acc s:=by rw [←e];exact a
    have c1:=w2 i ds[i] x H' (by simp [hlt]) y
    have c1':CfS G (L2.wipe σ vs) H' s ((.own (.fz ds[i]),x)::((.own (.lst acc),.ref Dd)::Ψ)):=c1.perm (List.Perm.cons _ List.perm_middle)
    simp only [Fin,lcL] at a'
    cases eg:g (.fz ds[i]) s with
    |none=>simp only [eg] at a';exact a'.elim
    | some s2 =>
      simp only [eg] at a'
      refine ⟨s,_,.fz ds[i],s2,noB_cons nΨ,c1',eg,fun σ2 c2 ag=>?_⟩
      have ew:L2.wipe σ2 vs=L2.wipe σ vs:=by rw [ag.wipe,wipe_wipe]
      refine ⟨ew,s2,_,c2, ?_⟩
      cases et:tt call s2 with
      |bad=>simp only [et] at a';exact a'.elim
      |exc cn d s3=>simp only [et] at a';exact a'.elim
      | ok b s3 =>
        cases b with
        | false=>
          simp only [et] at a'
          exact fun H3 c3=>iteF ⟨acc,_,by have:=c3.wipe (noB_cons nΨ) vs;rw [ew] at this;exact this,a'⟩
        | true=>
          simp only [et] at a'
          intro H3 c3
          refine iteT ⟨s3,_,c3, ?_⟩
          cases ee:te call s3 with
          |bad=>simp only [ee] at a';exact a'.elim
          |exc cn d s4=>simp only [ee] at a';exact a'.elim
          | ok r s4=>
            simp only [ee] at a'
            intro yv H4 c4
            cases ek:take s4 r with
            |none=>simp only [ek] at a';exact a'.elim
            | some q=>
              obtain ⟨d,s5⟩:=q
              simp only [ek] at a'
              by_cases hf:fitsB (acc.length+1)=true
              · rw [if_pos hf] at a'
                have c5:=c4.take ek
                obtain ⟨us,t,l,c6⟩:=c5.append
                refine ⟨us,t, ?_,acc++[d],⟨wipeO s5.σ vs,s5.h⟩, ?_,a'⟩
                · rw [l]
                  exact Nat.lt_of_succ_le (fits hf)
                · have:=c6.wipe (noB_cons nΨ) vs
                  rw [ew] at this
                  exact this
              · rw [if_neg hf] at a'
                exact a'.elim
  · have e:i=ds.length:=by omega
    subst e
    have a':Fin [] acc s:=by have:=a;rw [List.drop_length] at this;exact this
    refine .inl ⟨w3,a' (.ref Dd) H ?_⟩
    obtain ⟨p2,ok2⟩:=back s.σ c.sl
    refine ⟨ok2,fun j v z=>?_, ?_⟩
    · rcases List.mem_cons.mp z with z|z
      · cases z
      · exact bo j v z
    · have cf:Cf G H s.h (slp s.σ (L2.wipe σ vs)++(.lst acc,.ref Dd)::ow Ψ):=c.cf
      have cf2:Cf G H s.h (ow K++(slp (rst s.σ s1.σ vs) σ++(.lst acc,.ref Dd)::ow Φ)):=cf.perm (by
        simp only [Ψ,ow_append,ow_ownR]
        refine List.perm_middle.trans ?_
        refine List.Perm.trans (List.Perm.cons _ ?_) (((List.perm_middle).append_left (ow K)).trans List.perm_middle).symm
        refine (List.perm_append_comm_assoc _ _ _).trans (List.Perm.append_left _ ?_)
        rw [←List.append_assoc]
        exact p2.symm.append_right _)
      exact Cf.dropN cf2
theorem e_lc (g:Good G k call cc W X) {elt tg it:Expr} {ifs:List Expr} {scope:Scope} {own:List (Str×Nat)} {pos:Pos} {m:Iv} {t:Tg} {mt:B} {me:E} (hi:PI X tg it (tI G W call m)) (ok:BlkOk cc.N cc.sc scope own)
    (hg: ∀ (s:Shared) (H:Hp) (C:Addr) (cl:List (Str×Addr)) (fp:List Addr),PG (X.blk s H scope (compEnvC scope cl C X.env) fp) tg (tGA G (own.map (·.2)) t))
    (ht: ∀ (s:Shared) (H:Hp) (C:Addr) (cl:List (Str×Addr)) (fp:List Addr),PTs (X.blk s H scope (compEnvC scope cl C X.env) fp) ifs (tB_ G noW call mt))
    (he: ∀ (s:Shared) (H:Hp) (C:Addr) (cl:List (Str×Addr)) (fp:List Addr),PE (X.blk s H scope (compEnvC scope cl C X.env) fp) elt (tE G noW call me)) (hs: ∀ x,foldedSetIterable it X.env x=pure x):
    PE X (.ListComp elt [⟨tg,it,ifs,0⟩] scope pos) (tE G W call (mLc m t mt me (own.map (·.2)))):=by
  refine (pe_lc g.calm (by rw [g.N];exact g.nd) hi (by rw [g.N,g.sc];exact ok) hg ht he hs).of fun σ H Q q=>?_
  obtain ⟨s,Φ,c,q⟩:=q
  exact ⟨s,Φ,c,(Aft.bind q).mono fun ds s1 a1=>fun K J H1 nk c1 w=>fun Dd hD=>lc_walk nk c.bo w c1 hD a1⟩
theorem s_setLc (g:Good G k call cc W X) {i:Nat} {y:Str} {py:Pos} {elt tg it:Expr} {ifs:List Expr} {scope:Scope} {own:List (Str×Nat)} {pos spos:Pos} {m:Iv} {t:Tg} {mt:B} {me:E} (hy:cc.N[i]?=some y) (hyl:cc.sc.names.lookup y=some .local) (hk:cc.sc.kind= .function)
    (hl:(py.line==pos.line)=true) (ha:(scope.names.any fun (n,k)=>n==y&&(k== .local||k== .cell))=false) (hi:PI X tg it (tI G W call m)) (ok:BlkOk cc.N cc.sc scope own)
    (hg: ∀ (s:Shared) (H:Hp) (C:Addr) (cl:List (Str×Addr)) (fp:List Addr),PG (X.blk s H scope (compEnvC scope cl C X.env) fp) tg (tGA G (own.map (·.2)) t))
    (ht: ∀ (s:Shared) (H:Hp) (C:Addr) (cl:List (Str×Addr)) (fp:List Addr),PTs (X.blk s H scope (compEnvC scope cl C X.env) fp) ifs (tB_ G noW call mt))
    (he: ∀ (s:Shared) (H:Hp) (C:Addr) (cl:List (Str×Addr)) (fp:List Addr),PE (X.blk s H scope (compEnvC scope cl C X.env) fp) elt (tE G noW call me)) (hs: ∀ x,foldedSetIterable it X.env x=pure x):
    PS X (.Assign [.Name y py] (.ListComp elt [⟨tg,it,ifs,0⟩] scope pos) spos) (tS G W call (cAsg (mLc m t mt me (own.map (·.2))) (gN i))):=by
  refine (ps_setLc (i:=i) g.calm (by rw [g.N];exact g.nd) (by rw [g.N];exact hy) (by rw [g.sc];exact hyl) (sw_true (by rw [g.sc];exact hk) (by rw [g.sc];exact hyl) hl ha) hi (by rw [g.N,g.sc];exact ok) hg ht he hs).of fun D σ H q=>?_
  have q2:=tAsg_of q
  obtain ⟨s,Φ,c,q3⟩:=q2
  refine ⟨s,Φ,c,(Aft.bind q3).mono fun ds s1 a1=>fun K J H1 nk c1 w=>fun Dd hD=>lc_walk (Q:=fun x H1=>gName i x σ H1 D.nx) nk c.bo w c1 hD (a1.mono fun r s2 p=>fun v H2 c2=>?_)⟩
  have q4:=p v H2 c2
  obtain ⟨s5,Φ5,o5,s6,nb5,c5,e5,q5⟩:=q4
  simp only [gN] at e5
  split at e5
  · rename_i hl5
    cases e5
    exact q5 _ (c5.put nb5 hl5) (by simp)
  · cases e5
end
end Mi
namespace Mi
open PySem PySem.Spec PyProof.Rows L2
def mutD (h:List O) (f:List D→Option (List D)):D→Option (List O)
  | .loc n=>match h[n]? with
    |some (.lst ds)=>(f ds).map fun ds'=>h.set n (.lst ds')
    |_=>none
  |_=>none
def mutL (s:S) (f:List D→Option (List D)):R→Option S
  | .own (.fz d)=>(mutD s.h f d).map fun h=>⟨s.σ,h⟩
  | .own _=>none
  | .bor i=>match s.σ[i]? with
    |some (some (.lst ds))=>(f ds).map fun ds'=>⟨s.σ.set i (some (.lst ds')),s.h⟩
    |some (some (.fz d))=>(mutD s.h f d).map fun h=>⟨s.σ,h⟩
    |_=>none
def seeL (s:S) (r:R):Option (List D):=match peek s r with
  |some (.lst ds)=>some ds
  |_=>none
section
variable {G:GE} {k:Nat} {call:Call} {cc:CC} {W:WX} {X:Cx}
theorem Cf.mutCell {H:Hp} {h h':List O} {L:List (O×V)} {f:List D→Option (List D)} {d:D} {v:V} (c:Cf G H h L) (hm:(O.fz d,v)∈L) (e:mutD h f d=some h'): ∃ p us ds ds',v= .ref p∧H p=some (.lst us)∧f ds=some ds'∧deref h d=some (.lst ds)∧ds.length=us.length∧
    ∀ us' es ys K,es.length=ys.length→L.Perm (Fz es ys++K)→(∀ ρ H' M,RepDs G ρ H' M ds us→RepDs G ρ H' M es ys→RepDs G ρ H' M ds' us')→Cf G (upd H p (.lst us')) h' K:=by
  unfold mutD at e
  split at e
  · rename_i n
    split at e
    · rename_i ds hn
      simp only [Option.map_eq_some_iff] at e
      obtain ⟨ds',ef,eh⟩:=e
      subst eh
      obtain ⟨X,Y,eL⟩:=List.append_of_mem hm
      have c1:Cf G H h ((.fz (.loc n),v)::L):=by
        have:Cf G H h ((.fz (.loc n),v)::(X++Y)):=c.perm (by rw [eL];exact List.perm_middle)
        exact this.dup.perm (List.Perm.cons _ (by rw [eL];exact List.perm_middle.symm))
      obtain ⟨p,us,ev,t,l,c2⟩:=Cf.cellLst c1 hn
      subst ev
      refine ⟨p,us,ds,ds',rfl,t,ef,by simp [deref,hn,Mi.frz],l,fun us' es ys K le pm rep=>?_⟩
      have c3:Cf G H h (Fz ds us++(.fz (.loc n),.ref p)::(Fz es ys++K)):=c2.perm (List.Perm.append_left _ (List.Perm.cons _ pm))
      have c4:Cf G H h (Fz (ds++es) (us++ys)++(.fz (.loc n),.ref p)::K):=by
        rw [Fz_append l,List.append_assoc]
        exact c3.perm (List.Perm.append_left _ List.perm_middle.symm)
      have hlen:(ds++es).length=(us++ys).length:=by simp [l,le]
      exact (Cf.putCell (o':=.lst ds') (ho:=.lst us') hlen c4 hn (fun _ z=>by cases z) fun ρ M H' e r=>by
        have r1:RepDs G ρ H' M ds us:=by have:=RepDs.take ds.length r;rw [List.take_left,l,List.take_left] at this;exact this
        have r2:RepDs G ρ H' M es ys:=by have:=RepDs.drop ds.length r;rw [List.drop_left,l,List.drop_left] at this;exact this
        exact ⟨p,us',rfl,e,rep ρ H' M r1 r2,rfl⟩).drop
    · cases e
  · cases e
theorem CfS.mutate {σr:Sr} {H:Hp} {s s':S} {Φ:List (R×V)} {f:List D→Option (List D)} {r:R} {v:V} {es:List D} {ys:List V} (le:es.length=ys.length) (c:CfS G σr H s (FzR es ys++((r,v)::Φ))) (e:mutL s f r=some s'):
    ∃ p us ds ds',v= .ref p∧H p=some (.lst us)∧f ds=some ds'∧seeL s r=some ds∧ds.length=us.length∧
      ∀ us',(∀ ρ H' M,RepDs G ρ H' M ds us→RepDs G ρ H' M es ys→RepDs G ρ H' M ds' us')→CfS G σr (upd H p (.lst us')) s' Φ:=by
  have bo: ∀ i w,(R.bor i,w)∈Φ→σr[i]?=some (some w):=fun i w q=>c.bo i w (List.mem_append_right _ (List.mem_cons_of_mem _ q))
  have cell: ∀ (d:D) (h':List O),(O.fz d,v)∈slp s.σ σr++ow (FzR es ys++((r,v)::Φ))→mutD s.h f d=some h'→s'=⟨s.σ,h'⟩→(∃ x,ow ((r,v)::Φ)=x++ow Φ)→(∀ ds,deref s.h d=some (.lst ds)→seeL s r=some ds)→
      ∃ p us ds ds',v= .ref p∧H p=some (.lst us)∧f ds=some ds'∧seeL s r=some ds∧ds.length=us.length∧
      ∀ us',(∀ ρ H' M,RepDs G ρ H' M ds us→RepDs G ρ H' M es ys→RepDs G ρ H' M ds' us')→CfS G σr (upd H p (.lst us')) s' Φ:=by
    intro d h' hm em es' ⟨x,hx⟩ hsee
    obtain ⟨p,us,ds,ds',ev,t,ef,ed,l,q⟩:=Cf.mutCell c.cf hm em
    refine ⟨p,us,ds,ds',ev,t,ef,hsee ds ed,l,fun us' rep=>?_⟩
    subst es'
    have:=q us' es ys (slp s.σ σr++ow ((r,v)::Φ)) le (by
      rw [ow_append,ow_fz]
      exact List.perm_append_comm_assoc _ _ _) rep
    refine ⟨c.sl,bo, ?_⟩
    rw [hx] at this
    exact Cf.dropN (K:=x) (this.perm (List.perm_append_comm_assoc _ _ _))
  cases r with
  | own o=>
    cases o with
    | fz d=>
      simp only [mutL,Option.map_eq_some_iff] at e
      obtain ⟨h',em,eh⟩:=e
      refine cell d h' (List.mem_append_right _ ?_) em eh.symm ⟨[(.fz d,v)],rfl⟩ (fun ds q=>by simp [Mi.seeL,Mi.peek,Mi.frz,q])
      rw [ow_append]
      exact List.mem_append_right _ (by simp [ow])
    |lst ds=>cases e
    |dic ks ds=>cases e
    |ins cn fs ds=>cases e
    |dct ks ds=>cases e
  | bor i=>
    have ev:σr[i]?=some (some v):=c.bo i v (by simp)
    simp only [mutL] at e
    split at e
    · rename_i ds es1
      simp only [Option.map_eq_some_iff] at e
      obtain ⟨ds',ef,eh⟩:=e
      subst eh
      obtain ⟨X,Y,q1,q2⟩:=slp_at es1 ev
      have cf:Cf G H s.h (slp s.σ σr++ow (FzR es ys++Φ)):=by
        have:=c.cf
        rw [ow_append] at this ⊢
        exact this
      rw [q1,ow_append,ow_fz] at cf
      have c1:Cf G H s.h ((.lst ds,v)::(Fz es ys++(X++Y++ow Φ))):=cf.perm (by
        have e1:X++(O.lst ds,v)::Y++(Fz es ys++ow Φ)=X++(O.lst ds,v)::(Y++(Fz es ys++ow Φ)):=by simp
        rw [e1]
        refine List.perm_middle.trans (List.Perm.cons _ ?_)
        rw [←List.append_assoc]
        exact List.perm_append_comm_assoc _ _ _)
      obtain ⟨p,us,epv,t,l,z⟩:=Cf.lst c1
      subst epv
      refine ⟨p,us,ds,ds',rfl,t,ef,by simp [Mi.seeL,Mi.peek,es1,Mi.frz,deref],l,fun us' rep=>?_⟩
      have z2:Cf G H s.h ((.lst ds,.ref p)::(Fz (ds++es) (us++ys)++(X++Y++ow Φ))):=by
        rw [Fz_append l,List.append_assoc]
        exact z
      have z3:=z2.change (ho:=.lst us') (o':=.lst ds') (by simp [l,le]) (fun _ h=>by cases h) fun ρ M H' e r=>by
        have r1:RepDs G ρ H' M ds us:=by have:=RepDs.take ds.length r;rw [List.take_left,l,List.take_left] at this;exact this
        have r2:RepDs G ρ H' M es ys:=by have:=RepDs.drop ds.length r;rw [List.drop_left,l,List.drop_left] at this;exact this
        exact ⟨p,us',rfl,e,rep ρ H' M r1 r2,rfl⟩
      refine ⟨⟨by simp [c.sl.len],fun j o' q=>?_⟩,bo, ?_⟩
      · by_cases hj:i=j
        · subst hj;exact ⟨_,ev⟩
        · exact c.sl.at_ j o' (by simpa [List.getElem?_set,hj] using q)
      · show Cf G _ s.h (slp (s.σ.set i (some (.lst ds'))) σr++ow Φ)
        rw [q2]
        refine z3.perm ?_
        rw [List.append_assoc,List.append_assoc]
        exact List.perm_middle.symm
    · rename_i d es1
      simp only [Option.map_eq_some_iff] at e
      obtain ⟨h',em,eh⟩:=e
      obtain ⟨X,Y,q1,q2⟩:=slp_at es1 ev
      exact cell d h' (List.mem_append_left _ (by rw [q1];simp)) em eh.symm ⟨[],rfl⟩ (fun ds q=>by simp [Mi.seeL,Mi.peek,es1,Mi.frz,q])
    · cases e
theorem CfS.seeL {σr:Sr} {H:Hp} {s:S} {Φ:List (R×V)} {r:R} {v:V} {ds:List D} (c:CfS G σr H s Φ) (hm:(r,v)∈Φ) (e:seeL s r=some ds): ∃ p us,v= .ref p∧H p=some (.lst us)∧us.length=ds.length:=by
  simp only [Mi.seeL] at e
  split at e
  · rename_i ds' ep
    cases e
    obtain ⟨ρ,M,cp⟩:=c.parts
    obtain ⟨a,us,ea,t,rd⟩:=c.peek hm ep cp
    exact ⟨a,us,ea,t,rd.length.symm⟩
  · cases e
def plainO:Expr→Bool
  | .Call (.Name _ _) [] [] _=>false
  |_=>true
theorem base_ok {o:Expr} {a:Str} {env:Env} (h:plainO o=true):attributeBase o a env (eval o env)=eval o env:=by
  unfold attributeBase
  split
  · cases h
  · rfl
def fewB (n:Nat):Bool:=decide (n<29)
theorem few_ok {cpos:Pos} {es:List Expr} {env:Env} (h:es.all notStar=true) (hn:fewB es.length=true):((backTo cpos (starEach es env)).all (fun x=>!x.1)&&(backToKw cpos (keywordEach [] env)).all (fun x=>x.1.isSome)
      &&decide (es.length+([]:List Keyword).length+(if ([]:List Keyword).isEmpty then 0 else 1)<30))=true:=by
  have h1:(backTo cpos (starEach es env)).all (fun x=>!x.1)=true:=by
    have:=star_any (pos:=cpos) (env:=env) h
    rw [List.any_eq_false] at this
    rw [List.all_eq_true]
    intro x hx
    have:=this x hx
    simpa using this
  have h2:es.length<29:=of_decide_eq_true hn
  rw [h1]
  show (true&&true&&decide (es.length+0+0<30))=true
  simp;omega
def cApp (mx me:E):C:=fun call s=>(mx call s).flow fun x s1=>match Mi.seeL s1 x with
  |none=>.bad
  | some _=>(me call s1).flow fun y s2=>match take s2 y with
    | some (d,s3)=>(match mutL s3 (fun ds=>if fitsB (ds.length+1) then some (ds++[d]) else none) x with
      |some s4=>.nx s4
      |none=>.bad)
    |none=>.bad
theorem s_app (g:Good G k call cc W X) {x e:Expr} {mx me:E} {p pos spos:Pos} (hx:PE X x (tE G W call mx)) (he:PE X e (tE G W call me)) (hn:notStar e=true) (hp:plainO x=true) (hl:(p.endLine==pos.line)=true):
    PS X (.Expr (.Call (.Attribute x "append" p) [e] [] pos) spos) (tS G W call (cApp mx me)):=by
  have hall:[e].all notStar=true:=by simp [hn]
  refine (ps_expr (pe_bm PySem.F.plainAttrs_list PySem.F.slot_list_append PySem.F.type_list_append mt_append hx (pa_cons he pa_nil (star_cons hn)) (base_ok hp) (few_ok hall rfl) hl (star_cons hn) rfl) rfl).of fun D σ H q=>?_
  obtain ⟨s,Φ,nb,c,q⟩:=q
  refine ⟨s,Φ,c,(AftS.flow q).mono fun x s1 a1=>fun v H1 c1=>?_⟩
  split at a1
  · exact a1.elim
  · rename_i ds es
    obtain ⟨pp,us,ev,t,_⟩:=c1.seeL (v:=v) (by simp) es
    subst ev
    refine ⟨.inl ⟨rfl,us,.inl (.inl t)⟩,s1,_,c1,((AftS.flow a1).frame1).mono fun y s2 a2=>fun yv H2 c2=>?_⟩
    split at a2
    · rename_i d s3 et
      split at a2
      · rename_i s4 em
        have c3:CfS G σ H2 s3 (FzR [d] [yv]++((x,.ref pp)::Φ)):=c2.take et
        obtain ⟨p',us',ds1,ds2,ep,t',ef,_,l,fin⟩:=CfS.mutate rfl c3 em
        cases ep
        split at ef
        · rename_i hf
          cases ef
          refine ⟨pp,us',yv,rfl,rfl,t', ?_, ?_⟩
          · rw [←l];exact Nat.lt_of_succ_le (fits hf)
          · exact a2 σ _ (fin (us'++[yv]) fun ρ H' M r1 r2=>r1.append r2)
        · cases ef
      · exact a2.elim
    · exact a2.elim
def cSetL (me mx mi:E):C:=fun call s=>(me call s).flow fun y s1=>match take s1 y with
  |none=>.bad
  | some (d,s2)=>(mx call s2).flow fun x s3=>(mi call s3).flow fun i s4=>match peek s4 i with
    | some (.int i)=>(match mutL s4 (fun ds=>(ixN ds.length i).map fun j=>ds.set j d) x with
      |some s5=>.nx s5
      |none=>.bad)
    |_=>.bad
def noSw:Expr→Bool
  | .Tuple .. =>false
  | .List .. =>false
  | .Starred .. =>false
  |_=>true
theorem sw_none {tg e:Expr} {env:Env} (h:noSw tg=true):swappedStores [tg] e env=pure none:=by
  cases tg<;>first|rfl|cases h
def notSlice:Expr→Bool
  | .Slice .. =>false
  |_=>true
theorem asg_sub {x i:Expr} {p:Pos} {env:Env} (h:notSlice i=true) (v:Value):assign (.Subscript x i p) env v=(do
    let ov ←holding [v] (eval x env)
    let iv ←holding [v,ov] (eval i env)
    standAt p
    holding [v,ov,iv] (setItem ov iv v)
    release [v,ov,iv] []):=by
  cases i<;>first|rfl|cases h
theorem plain_ix {i:Expr} (h:notSlice i=true):PlainIx i:=fun o j=>by
  cases i<;>first|rfl|cases h
theorem s_setL (g:Good G k call cc W X) {e x i:Expr} {me mx mi:E} {p pos:Pos} (he:PE X e (tE G W call me)) (hx:PE X x (tE G W call mx)) (hi:PE X i (tE G W call mi)) (hs:notSlice i=true):
    PS X (.Assign [.Subscript x i p] e pos) (tS G W call (cSetL me mx mi)):=by
  have hsw:swapsWithSole [.Subscript x i p] e pos.line X.env=pure false:=by
    show swapsWith e (some (.Subscript x i p)) pos.line X.env=pure false
    exact sw_sub
  refine (ps_asg he (pg_sub hx hi set_list (asg_sub hs)) hsw rfl rfl).of fun D σ H q=>?_
  obtain ⟨s,Φ,nb,c,q⟩:=q
  refine ⟨s,Φ,c,(AftS.flow q).mono fun y s1 a1=>fun yv H1 c1=>?_⟩
  split at a1
  · exact a1.elim
  · rename_i d s2 et
    have c2:=c1.take et
    refine ⟨s2,_,c2,((AftS.flow a1).frame1).mono fun x s3 a3=>fun xv H3 c3=>⟨s3,_,c3,((AftS.flow a3).frame (K:=[(x,xv),(.own (.fz d),yv)])).mono fun i s4 a4=>fun iv H4 c4=>?_⟩⟩
    split at a4
    · rename_i n ei
      split at a4
      · rename_i s5 em
        obtain ⟨ρ,M,cp⟩:=c4.parts
        have ev:iv= .int n:=c4.peek (by simp) ei cp
        subst ev
        have c5:CfS G σ H4 s4 (FzR [d] [yv]++((x,xv)::Φ)):=c4.drop.swap
        obtain ⟨pp,us,ds1,ds2,ex,t,ef,_,l,fin⟩:=CfS.mutate rfl c5 em
        subst ex
        simp only [Option.map_eq_some_iff] at ef
        obtain ⟨j,e1,e2⟩:=ef
        subst e2
        refine ⟨pp,us,n,j,rfl,rfl,t,by rw [←l];exact e1, ?_⟩
        exact a4 σ _ (fin (us.set j yv) fun ρ H' M r1 r2=>by
          obtain ⟨w,r',ew,q1,q2⟩:=r2
          cases ew
          exact r1.set j q1)
      · exact a4.elim
    · exact a4.elim
end
end Mi
namespace Mi
open PySem PySem.Spec PyProof.Rows L2
theorem enum_new1 {v:Value} {o:Obj} {H:Heap→Prop} (bg:Begins v o H):
    Meets (Builtin.«enumerate.__new__» ⟨[.type "enumerate",v],[]⟩) (fun _ R s=>H s.heap∧
      R (.ok (.ret (.ref (s.heap.push o).objs.size))) {s with heap:=(s.heap.push o).push {cls:=.type "enumerate",data:=.fields #[.none,.bool false,.ref s.heap.objs.size,rawInt 0,.none,.none]}}):=
  .of_wp fun prog w A R s z=>by
    obtain ⟨hp,g,d,tk,os⟩:=s;obtain ⟨z1,z⟩:=z
    have hsub:=sub_enumerate
    have q0: ∀ {A':Around} {E:Value→Shared→Prop} {Q:Value→Shared→Prop},Q (.ref hp.objs.size) ⟨hp.push o,g,d,tk,os⟩→wpAny (model prog w) A' (pyIter v) Q E ⟨hp,g,d,tk,os⟩:=
      fun q=>bg.iter prog w _ _ ⟨hp,g,d,tk,os⟩ _ z1 q
    wp_walk using q0
    refine wpAny_stack_any fun st=>wpAny_pure ?_
    split
    · rename_i cl _ _ _ _ _
      cases (cl==Value.type "enumerate")
      · wp_walk using q0
        exact ⟨_,rfl,z⟩
      · wp_walk using q0
        exact ⟨_,rfl,z⟩
    · wp_walk using q0
      exact ⟨_,rfl,z⟩
theorem enum_begin1 {prog:Program} {w:World} {A:Around} {E:Value→Shared→Prop} {s:Shared} {v:Value} {o:Obj} {H:Heap→Prop} {Q:Value→Shared→Prop} (bg:Begins v o H) (z1:H s.heap)
    (z: ∀ h',IsEnum h' (s.heap.objs.size+1) s.heap.objs.size 0 .none→h'.get? s.heap.objs.size=some o→(∀ b u,s.heap.get? b=some u→h'.get? b=some u)→Q (.ref (s.heap.objs.size+1)) {s with heap:=h'}):
    wpAny (model prog w) A (call (.type "enumerate") [v]) Q E s:=by
  refine callType_new F.called_enumerate (by decide) (F.typeCall_enumerate_1 _) (F.newCall_enumerate_1 _) (fun obj=>F.args_object_init_2 obj _) F.entry_enumerate_new (enum_new1 bg) ⟨z1, ?_⟩
  have hz:(s.heap.push o).objs.size=s.heap.objs.size+1:=Heap.size_push ..
  show _∧_
  rw [hz]
  have he:IsEnum ((s.heap.push o).push {cls:=.type "enumerate",data:=.fields #[.none,.bool false,.ref s.heap.objs.size,rawInt 0,.none,.none]}) (s.heap.objs.size+1) s.heap.objs.size 0 .none:=by
    have q:=Heap.get?_push_size (s.heap.push o) (o:={cls:=.type "enumerate",data:=.fields #[.none,.bool false,.ref s.heap.objs.size,rawInt 0,.none,.none]}) rfl
    rw [hz] at q
    exact q
  exact ⟨⟨_,he,rfl⟩,z _ he (Heap.get?_push_of_some _ (Heap.get?_push_size _ bg.free)) fun b u x=>Heap.get?_push_of_some _ (Heap.get?_push_of_some _ x)⟩
def pairO (b:Bool) (i:Nat) (x:V) (ho:HO):Prop:=if b=true then ∃ ob,ho= .frz ob (.tup [.int (i:Nat),x])∧ob.dict=none else ho= .tup [.int (i:Nat),x]
def IteT (K:PySem.W.Frag) (a:Addr) (b:Bool):It:=
  ⟨fun i H=> ∃ (xs:List V) (x:V),SqT K H a xs∧xs[i]?=some x,fun i H v H'=> ∃ T x ho,v= .ref T∧H T=none∧H'=upd H T ho∧pairO b i x ho∧∀ xs,SqT K H a xs→xs[i]?=some x,fun i H=> ∃ xs:List V,SqT K H a xs∧xs.length=i⟩
theorem turn_enumT {P:Program} {w:World} {K:PySem.W.Frag} {elts:List Expr} {kk:Nat} {tpos:Pos} (bb:Bool) (a e it:Addr) (hat:a≠it) (hae:a≠e):
    Turn P w K (.Tuple elts kk tpos) (IteT K a bb) [e,it] e (fun i h=>(∃ old,IsEnum h e it ((i:Nat):Int) old)∧h.IsTupleIter it a i∧e≠it) where
  mem:=by simp
  obj:=fun i h st b hb=>by
    obtain ⟨⟨old,he⟩,⟨o,ho,hc,hd⟩,_⟩:=st
    rcases (show b=e∨b=it by simpa using hb) with z|z
    · subst z;exact ⟨_,he,fun v q=>nomatch q⟩
    · subst z;exact ⟨o,ho,fun v q=>by rw [hd] at q;cases q⟩
  keep:=fun i h h' st kp=>by
    obtain ⟨⟨old,he⟩,hi,hne⟩:=st
    exact ⟨⟨old,kp e (by simp) _ he⟩,hi.at fun o q=>kp it (by simp) o q,hne⟩
  item:=by
    intro X hP hw hK hc i pins s σ H E I hf st hg
    subst hP hw hK
    obtain ⟨⟨old,he⟩,hit,hne⟩:=st
    obtain ⟨xs,x,hq,hx⟩:=hg
    obtain ⟨its,rv,p,hz⟩:=I.tuple hq
    obtain ⟨u,hu,ru⟩:=rv.get hx
    have hel:=Heap.lt_size he
    have hil:it<s.heap.objs.size:=by obtain ⟨_,q,_⟩:=hit;exact Heap.lt_size q
    have hlt:i<its.toArray.size:=by
      rcases Nat.lt_or_ge i its.length with z|z
      · simpa using z
      · rw [List.getElem?_eq_none z] at hu;cases hu
    have Dr:Draws X.prog X.w X.A.in1 it [it,a] its.toArray.size (fun i v=>its.toArray[i]?=some v) (fun i h=>h.IsTupleIter it a i∧h.IsTuple a its.toArray):=Draws.tuple (show X.A.in1.handled=none from I.ok.hd hc) it a hat _
    refine wpAny_pyNext_enum_itemD Dr he ⟨hit,p⟩ hlt hne (by simp [hne,Ne.symm hae]) fun y h' tk hy ho hst hT hsz hk=>?_
    have ey:y=u:=by
      have:its.toArray[i]?=some u:=by simpa using hu
      rw [this] at hy
      exact (Option.some.inj hy).symm
    subst ey
    refine ⟨_,rfl,wpAny_letOwnedTupleGo_enum (s:={s with heap:=h',toks:=tk+1}) ho fun h2 he2 sb=>?_⟩
    have hT2:h2.get? s.heap.objs.size=some {cls:=.type "tuple",data:=.seq #[.int i tk,y]}:=(sb.2 _ (Nat.ne_of_gt hel)).trans hT
    obtain ⟨ho2,hpo,new⟩: ∃ ho2,pairO bb i x ho2∧ObjOk X.prog X.w (upd H s.heap.objs.size ho2) h2 s.heap.objs.size ho2:=by
      cases bb with
      |false=>exact ⟨.tup [.int (i:Nat),x],rfl,by show 2≤sizeLine;decide,[.int i tk,y],.cons ⟨_,rfl⟩ (.cons ru .nil),⟨_,hT2,rfl,_,rfl⟩⟩
      |true=>exact ⟨.frz _ (.tup [.int (i:Nat),x]),⟨_,rfl,rfl⟩,hT2,by show 2≤sizeLine;decide,[.int i tk,y],.cons ⟨_,rfl⟩ (.cons ru .nil),⟨_,hT2,rfl,_,rfl⟩⟩
    have I1:Inv X pins σ (upd H s.heap.objs.size ho2) {s with heap:=h2,toks:=tk+1}:=
      I.turnedNew (ch:=[e,it]) (fun b ob hb q=>(sb.2 b (fun z=>hb (by simp [z]))).trans (hk b ob (fun z=>hb (by simp [z])) (fun z=>hb (by simp [z])) q)) hf (Nat.le_refl _) new
    refine ⟨.ref s.heap.objs.size,_,I1,rfl,⟨_,x,ho2,rfl,I.hok.fresh (Nat.le_refl _),rfl,hpo,fun ys hys=>?_⟩,⟨⟨y, ?_⟩,hst.1.at fun o q=>(sb.2 it (Ne.symm hne)).trans q,hne⟩,fun b hb=>?_⟩
    · rw [I.tuple_inj hys hq];exact hx
    · have e1:((i+1:Nat):Int)=(i:Int)+1:=by omega
      rw [e1];exact he2
    · have hb':b<s.heap.objs.size:=by
        rcases (show b=e∨b=it by simpa using hb) with z|z
        · rw [z];exact hel
        · rw [z];exact hil
      rw [upd_ne (Nat.ne_of_lt hb')]
      exact (hf b hb).1
  done:=by
    intro X hP hw hK hc i pins s σ H E I hf st hg
    subst hP hw hK
    obtain ⟨⟨old,he⟩,hit,hne⟩:=st
    obtain ⟨xs,hq,hx⟩:=hg
    obtain ⟨its,rv,p,hz⟩:=I.tuple hq
    obtain ⟨f0,f1,f2,f3,f4,f5⟩:=hf it (by simp)
    have Dr:Draws X.prog X.w X.A.in1 it [it,a] its.toArray.size (fun i v=>its.toArray[i]?=some v) (fun i h=>h.IsTupleIter it a i∧h.IsTuple a its.toArray):=Draws.tuple (show X.A.in1.handled=none from I.ok.hd hc) it a hat _
    have en:its.toArray.size=i:=by rw [←hx,rv.length];simp
    exact wpAny_pyNext_enum_endD Dr he (by rw [en];exact ⟨hit,p⟩) fun h' eb=>⟨rfl,I.turned (t':=s.toks) (fun b o hb q=>eb b o hb q) f0 f1 f3 f4 f5⟩
  self:=fun A i s Q E st h=>by
    obtain ⟨⟨_,he⟩,_⟩:=st
    exact wpAny_pyIter_enum he h
def iEnumT (K:PySem.W.Frag) (b:Bool) (ta:TA):TI:=fun σ H R=>ta σ H fun vs H1=> ∃ a xs,vs=[.ref a]∧SqT K H1 a xs∧R (IteT K a b) H1
theorem pi_enumT {X:Cx} {bb:Bool} {e:Expr} {ta:TA} {p pos tpos:Pos} {elts:List Expr} {kk:Nat} (hg:Gl X "enumerate") (hm:X.mg "enumerate"=none) (ha:PA X [e] ta) (hs:starEach [e] X.env=[(false,eval e X.env)]):
    PI X (.Tuple elts kk tpos) (.Call (.Name "enumerate" p) [e] [] pos) (iEnumT X.K bb ta):=by
  refine ⟨fun pins s σ H R I h=>?_⟩
  refine Call_ (ld_blt I hg hm boot_enumerate (PyProof.Rows.callWith_type1 (thn (ha.run pos pins s σ H _ I h) fun us s1 ⟨vs,H1,I1,r1,q1⟩=>?_) hs rfl))
  obtain ⟨a,xs,ex,hq,q⟩:=q1
  subst ex
  cases r1 with
  | cons r rr=>
    cases rr
    cases r
    obtain ⟨its,rv,p',hz⟩:=I1.tuple hq
    have hal:a<s1.heap.objs.size:=by obtain ⟨_,z,_⟩:=p';exact Heap.lt_size z
    refine enum_begin1 (begins_tuple a its.toArray) p' fun h' he hit hk=>wpAny_pyIter_enum he ?_
    have I2:Inv X pins σ H1 {s1 with heap:=h'}:=I1.kept (t':=s1.toks) hk
    refine ⟨s1.heap.objs.size+1,[s1.heap.objs.size+1,s1.heap.objs.size],_,_,H1,rfl,I2,turn_enumT bb a (s1.heap.objs.size+1) s1.heap.objs.size (Nat.ne_of_lt hal) (Nat.ne_of_lt (Nat.lt_succ_of_lt hal)),⟨⟨.none,he⟩,⟨_,hit,rfl,rfl⟩,Nat.succ_ne_self _⟩,fun b hb=>?_,q⟩
    have hle:s1.heap.objs.size≤b:=by
      rcases (show b=s1.heap.objs.size+1∨b=s1.heap.objs.size by simpa using hb) with z|z
      · rw [z];exact Nat.le_succ _
      · rw [z];exact Nat.le_refl _
    exact I1.fpOk hle (I1.hok.fresh hle)
section
variable {G:GE} {k:Nat} {call:Call} {cc:CC} {W:WX} {X:Cx}
def enumD (ds:List D):List D:=ds.mapIdx fun i d=>.tup [.int (i:Nat),d]
def iEnB (m:As):Iv:=fun call s=>(m call s).bind fun ds s1=>match ds with
  |[.tup ds]=>.ok (enumD ds) s1
  |_=>.bad
def iEn (m:As):Iv:=fun call s=>(m call s).bind fun ds s1=>match ds with
  |[d]=>lift s1 ((itemsD d).map enumD)
  |_=>.bad
theorem CfS.pair {σr:Sr} {H:Hp} {s:S} {Φ:List (R×V)} {d:D} {v:V} {i:Int} {T:Addr} (c:CfS G σr H s ((.own (.fz d),v)::Φ)) (hT:H T=none) {ho:HO} (ht:isTupO G [.int i,v] ho):CfS G σr (upd H T ho) s ((.own (.fz (.tup [.int i,d])),.ref T)::Φ):=by
  have c2:CfS G σr H s (FzR [.int i,d] [.int i,v]++Φ):=c.simple (d:=.int i) rfl
  exact c2.pack fun L q=>Cf.newTup rfl q hT ht
theorem walks_enum {d:D} {ds:List D} {v:V} {a:Addr} (hb:G.bare=false) (e:listD d=some ds) (hv:v= .ref a):Walks G (Ite G.K a) [(.own (.fz d),v)] (enumD ds):=by
  intro σr H s Φ c
  subst hv
  obtain ⟨ρ,M,cp⟩:=c.parts
  have r:=c.peek (r:=.own (.fz d)) (v:=.ref a) (d:=d) (by simp) (by cases d<;>first|rfl|cases e) cp
  obtain ⟨a',vs,ea,t,rd⟩:=listD_of r e
  cases ea
  refine ⟨fun i hi=>⟨vs,vs[i]'(by rw [←rd.length];simpa [enumD] using hi),t,by simp⟩,fun i d' x H' ei ⟨T,y,ex,hT,eH,hy⟩=>?_,⟨vs,t,by rw [←rd.length];simp [enumD]⟩⟩
  subst eH;subst ex
  have ey:=hy vs t
  simp only [enumD,List.getElem?_mapIdx,Option.map_eq_some_iff] at ei
  obtain ⟨d0,e0,e1⟩:=ei
  subst e1
  obtain ⟨w,hw,q⟩:=rd.get e0
  rw [ey] at hw
  cases hw
  exact CfS.pair (CfS.cpMore (K:=[]) c cp q) hT ⟨hb,rfl⟩
theorem pairO_of {i:Nat} {x:V} {ho:HO} (h:pairO G.bare i x ho):isTupO G [.int (i:Nat),x] ho:=by
  unfold pairO at h
  split at h
  · obtain ⟨ob,e,d⟩:=h;subst e;exact ⟨rfl,fun _=>d⟩
  · rename_i hb
    subst h
    exact ⟨by simpa using hb,rfl⟩
theorem walks_enumT {ds:List D} {v:V} {a:Addr} (hv:v= .ref a):Walks G (IteT G.K a G.bare) [(.own (.fz (.tup ds)),v)] (enumD ds):=by
  intro σr H s Φ c
  subst hv
  obtain ⟨ρ,M,cp⟩:=c.parts
  have r:=c.peek (r:=.own (.fz (.tup ds))) (v:=.ref a) (d:=.tup ds) (by simp) rfl cp
  obtain ⟨a',vs,ea,t0,rd⟩:=r
  have t:=t0.sq
  cases ea
  refine ⟨fun i hi=>⟨vs,vs[i]'(by rw [←rd.length];simpa [enumD] using hi),t,by simp⟩,fun i d' x H' ei ⟨T,y,ho,ex,hT,eH,hpo,hy⟩=>?_,⟨vs,t,by rw [←rd.length];simp [enumD]⟩⟩
  subst eH;subst ex
  have ey:=hy vs t
  simp only [enumD,List.getElem?_mapIdx,Option.map_eq_some_iff] at ei
  obtain ⟨d0,e0,e1⟩:=ei
  subst e1
  obtain ⟨w,hw,q⟩:=rd.get e0
  rw [ey] at hw
  cases hw
  exact CfS.pair (CfS.cpMore (K:=[]) c cp q) hT (pairO_of hpo)
theorem i_enum (g:Good G k call cc W X) (hb:G.bare=false) {e:Expr} {elts:List Expr} {kk:Nat} {m:As} {p pos tpos:Pos} (hg:cc.sc.names.lookup ("enumerate":Str)=some .globalImplicit) (h:PA X [e] (tL G W call m)) (hn:notStar e=true):PI X (.Tuple elts kk tpos) (.Call (.Name "enumerate" p) [e] [] pos) (tI G W call (iEn m)):=by
  refine ((pi_enum (g.gl hg) (g.blt _ (by decide)) h (star_cons hn)).or (pi_enumT (bb:=G.bare) (g.gl hg) (g.blt _ (by decide)) h (star_cons hn))).of fun σ H Q q=>?_
  obtain ⟨s,Φ,c,q⟩:=q
  have q1:=Aft.bind q
  cases em:m call s with
  |bad=>rw [em] at q1;exact q1.elim
  |exc cn d s1=>exact .inl ⟨s,Φ,c,by rw [em] at q1 ⊢;exact q1⟩
  | ok ds s1=>
    rw [em] at q1
    match ds,em,q1 with
    |[],em,q1=>exact q1.elim
    |_::_::_,em,q1=>exact q1.elim
    | [d],em,q1=>
      obtain ⟨es,ed,q3⟩:=Aft.lift (x:=(itemsD d).map enumD) q1
      simp only [Option.map_eq_some_iff] at ed
      obtain ⟨is,ei,ee⟩:=ed
      subst ee
      have two: ∀ vs:List V,[d].length=vs.length→∃ v,vs=[v]:=fun vs l=>by
        match vs,l with
        |[v],_=>exact ⟨v,rfl⟩
      cases d with
      | tup ds'=>
        cases ei
        refine .inr ⟨s,Φ,c, ?_⟩
        rw [em]
        intro vs H1 l c1
        obtain ⟨v,rfl⟩:=two vs l
        obtain ⟨ρ,M,cp⟩:=c1.parts
        obtain ⟨a,us,ea,t,rd⟩:=c1.peek (r:=.own (.fz (.tup is))) (d:=.tup is) (v:=v) (by simp [FzR]) rfl cp
        subst ea
        exact ⟨a,us,rfl,by rw [g.K];exact t.sq,by rw [g.K];exact q3 [(.own (.fz (.tup is)),.ref a)] _ H1 (noB_cons fun _ _ z=>by simp at z) c1 (walks_enumT rfl)⟩
      | lst ds'=>
        have e2:listD (.lst ds')=some is:=ei
        refine .inl ⟨s,Φ,c, ?_⟩
        rw [em]
        intro vs H1 l c1
        obtain ⟨v,rfl⟩:=two vs l
        obtain ⟨ρ,M,cp⟩:=c1.parts
        obtain ⟨a,us,ea,t,rd⟩:=listD_of (c1.peek (r:=.own (.fz (.lst ds'))) (d:=.lst ds') (v:=v) (by simp [FzR]) rfl cp) e2
        subst ea
        exact ⟨a,us,rfl,by rw [g.K];exact t,by rw [g.K];exact q3 [(.own (.fz (.lst ds')),.ref a)] _ H1 (noB_cons fun _ _ z=>by simp at z) c1 (walks_enum hb e2 rfl)⟩
      | scr ns=>
        have e2:listD (.scr ns)=some is:=ei
        refine .inl ⟨s,Φ,c, ?_⟩
        rw [em]
        intro vs H1 l c1
        obtain ⟨v,rfl⟩:=two vs l
        obtain ⟨ρ,M,cp⟩:=c1.parts
        obtain ⟨a,us,ea,t,rd⟩:=listD_of (c1.peek (r:=.own (.fz (.scr ns))) (d:=.scr ns) (v:=v) (by simp [FzR]) rfl cp) e2
        subst ea
        exact ⟨a,us,rfl,by rw [g.K];exact t,by rw [g.K];exact q3 [(.own (.fz (.scr ns)),.ref a)] _ H1 (noB_cons fun _ _ z=>by simp at z) c1 (walks_enum hb e2 rfl)⟩
      |_=>cases ei
theorem i_enumB (g:Good G k call cc W X) {e:Expr} {elts:List Expr} {kk:Nat} {m:As} {p pos tpos:Pos} (hg:cc.sc.names.lookup ("enumerate":Str)=some .globalImplicit) (h:PA X [e] (tL G W call m)) (hn:notStar e=true):PI X (.Tuple elts kk tpos) (.Call (.Name "enumerate" p) [e] [] pos) (tI G W call (iEnB m)):=by
  refine (pi_enumT (bb:=G.bare) (g.gl hg) (g.blt _ (by decide)) h (star_cons hn)).of fun σ H Q q=>?_
  obtain ⟨s,Φ,c,q⟩:=q
  refine ⟨s,Φ,c,(Aft.bind q).mono fun ds s1 a1=>fun vs H1 l c1=>?_⟩
  split at a1
  · rename_i is
    obtain ⟨v,rfl⟩: ∃ v,vs=[v]:=by
      match vs,l with
      |[v],_=>exact ⟨v,rfl⟩
    obtain ⟨ρ,M,cp⟩:=c1.parts
    obtain ⟨a,us,ea,t,rd⟩:=c1.peek (r:=.own (.fz (.tup is))) (d:=.tup is) (v:=v) (by simp [FzR]) rfl cp
    subst ea
    exact ⟨a,us,rfl,by rw [g.K];exact t.sq,by rw [g.K];exact a1 [(.own (.fz (.tup is)),.ref a)] _ H1 (noB_cons fun _ _ z=>by simp at z) c1 (walks_enumT rfl)⟩
  · exact a1.elim
def mChain (f f':D→D→Option O) (a b c:E):E:=fun call s=>(a call s).bind fun x s1=>(b call s1).bind fun y s2=>match (peek s2 x).bind fun d1=>(peek s2 y).bind fun d2=>f d1 d2 with
  |some (.fz (.bl true))=>(c call s2).bind fun z s3=>lift s3 ((peek s3 y).bind fun d2=>(peek s3 z).bind fun d3=>(f' d2 d3).map R.own)
  |some (.fz (.bl false))=>.ok (.own (.fz (.bl false))) s2
  |_=>.bad
def mDic0:E:=fun _ s=>.ok (.own (.dic [] [])) s
def isCont:O→Bool
  | .fz _=>false
  |_=>true
def mCell (m:E):E:=fun call s=>(m call s).bind fun x s1=>match x with
  | .own o=>if isCont o then .ok (.own (.fz (.loc s1.h.length))) ⟨s1.σ,s1.h++[o]⟩ else .bad
  |_=>.bad
theorem e_cell {e:Expr} {m:E} (h:PE X e (tE G W call m)):PE X e (tE G W call (mCell m)):=h.of fun σ H Q q=>by
  obtain ⟨s,Φ,c,a⟩:=q
  refine ⟨s,Φ,c,(Aft.bind a).mono fun x s1 a1=>fun v H1 c1=>?_⟩
  split at a1
  · rename_i o
    split at a1
    · rename_i hc
      refine a1 v H1 ⟨c1.sl,fun i w z=>?_, ?_⟩
      · rcases List.mem_cons.mp z with z|z
        · cases z
        · exact c1.bo i w (List.mem_cons_of_mem _ z)
      · have c2:Cf G H1 s1.h ((o,v)::(slp s1.σ σ++ow Φ)):=c1.cf.perm List.perm_middle
        exact (c2.newCell fun d z=>by subst z;cases hc).perm List.perm_middle.symm
    · exact a1.elim
  · exact a1.elim
end
end Mi
namespace Mi
open PySem PySem.Spec PyProof.Rows L2
section
variable {G:GE} {k:Nat} {call:Call} {cc:CC} {W:WX} {X:Cx}
theorem Cf.alloc {H:Hp} {h:List O} {L:List (O×V)} {p:Addr} {o:HO} (c:Cf G H h L) (hp:H p=none):Cf G (upd H p o) h L:=by
  obtain ⟨ρ,M,cp⟩:=c
  exact ⟨ρ,M,(Cp.alloc cp hp).1⟩
theorem CfS.alloc {σr:Sr} {H:Hp} {s:S} {Φ:List (R×V)} {p:Addr} {o:HO} (c:CfS G σr H s Φ) (hp:H p=none):CfS G σr (upd H p o) s Φ:=⟨c.sl,c.bo,c.cf.alloc hp⟩
def cRaise (c:Str) (r:As):C:=fun call s=>(r call s).flow fun ds s1=>match ds with
  |[d]=>.exc c d s1
  |_=>.bad
def fldD (f:Str):D→Option O
  | .ins c fs xs=>((fs.zip xs).lookup f).map .fz
  | .xn _ g d=>if f=g then some (.fz d) else none
  |_=>none
theorem _root_.L2.PE.or {X:Cx} {e:Expr} {t t':TE} (h:PE X e t) (h':PE X e t'):PE X e (fun σ H Q=>t σ H Q∨t' σ H Q):=⟨fun pins s σ H Q I q=>by
  rcases q with q|q
  · exact h.run pins s σ H Q I q
  · exact h'.run pins s σ H Q I q⟩
def fldX (f:Str):D→Option O
  | .xn _ g d=>if f=g then some (.fz d) else none
  | .xv _ g d=>if f=g then some (.fz d) else none
  |_=>none
theorem e_fldX (g:GoodB G cc X) {e:Expr} {m:E} {f:Str} {pos:Pos} (he:PE X e (tE G W call m)) (hb:attributeBase e f X.env (eval e X.env)=eval e X.env):PE X (.Attribute e f pos) (tE G W call (mOne (fldX f) m)):=by
  refine ⟨fun pins s σ H Q I h=>?_⟩
  obtain ⟨st,Φ,c,q⟩:=tOne h
  refine attr_of hb (thn (he.run pins s σ H _ I ⟨st,Φ,c,q⟩) fun u s1 ⟨x,H1,I1,rx,rr⟩=>?_)
  obtain ⟨ρ,M,h0,L,d,o,cp,t,ef,fin⟩:=rr
  unfold fldX at ef
  split at ef
  · rename_i cn gf d1
    split at ef
    · rename_i hfg
      cases ef
      subst hfg
      obtain ⟨a,a',C,v,hcur,ex,hE,hH,_,rv⟩:=t
      subst ex
      obtain ⟨oe,hm,hc,hdct,vs,hdat⟩:=g.cur a a' C hcur
      obtain rfl:u=Value.ref a:=rx
      have R:=g.xr cn C f hE
      have hno:PySem.W.findIn X.K (.ref C) f=some none:=by
        obtain ⟨_,_,_,_,_,_,_,_,z,_⟩:=R.ex
        exact z
      have T:=R.rd
      obtain ⟨atA,_⟩:=I1.pin (a,oe) (List.mem_append_left _ hm)
      have hx:ObjOk X.prog X.w H1 s1.heap a' (.xd [(f,v)]):=I1.hok a' _ hH
      obtain ⟨mA,hns,hr⟩:=hx
      obtain ⟨od,ho,hl⟩:=lookIn_ns hns
      have l:List.lookup f [(f,v)]=some v:=by simp [List.lookup]
      obtain ⟨u,hu,ru⟩:=RelO.some_of (v:=v) (o:=mA f) (by rw [←l];exact hr f)
      have J:PySem.W.InstAt s1.heap a oe C (some od):=⟨atA,hc,by unfold PySem.W.notCls;rw [hdat]<;>rfl,by rw [hdct];exact ho⟩
      exact HandSPX.exc_get I1.kIn J T.ga T.gg T.exC (PySem.W.findObj_own T.hdC hno rfl (by rw [hl,hu])) (handed_of ru) ⟨v,H1,I1.tok _,ru,fin v H1 (Cf.fz1.mpr ⟨ρ,M,cp,rv⟩)⟩
    · cases ef
  · rename_i cn gf d1
    split at ef
    · rename_i hfg
      cases ef
      subst hfg
      obtain ⟨a,oe,u0,a',C,v,ex,hE,hA,_,hc,hdct,⟨vs,hdat⟩,hH,_,rv⟩:=t
      subst ex
      obtain rfl:u=Value.ref a:=rx
      have R:=g.xr cn C f hE
      have hno:PySem.W.findIn X.K (.ref C) f=some none:=by
        obtain ⟨_,_,_,_,_,_,_,_,z,_⟩:=R.ex
        exact z
      have T:=R.rd
      have atA:s1.heap.get? a=some oe:=(show ObjOk X.prog X.w H1 s1.heap a (.frz oe u0) from I1.hok a _ hA).1
      have hx:ObjOk X.prog X.w H1 s1.heap a' (.xd [(f,v)]):=I1.hok a' _ hH
      obtain ⟨mA,hns,hr⟩:=hx
      obtain ⟨od,ho,hl⟩:=lookIn_ns hns
      have l:List.lookup f [(f,v)]=some v:=by simp [List.lookup]
      obtain ⟨u,hu,ru⟩:=RelO.some_of (v:=v) (o:=mA f) (by rw [←l];exact hr f)
      have J:PySem.W.InstAt s1.heap a oe C (some od):=⟨atA,hc,by unfold PySem.W.notCls;rw [hdat]<;>rfl,by rw [hdct];exact ho⟩
      exact HandSPX.exc_get I1.kIn J T.ga T.gg T.exC (PySem.W.findObj_own T.hdC hno rfl (by rw [hl,hu])) (handed_of ru) ⟨v,H1,I1.tok _,ru,fin v H1 (Cf.fz1.mpr ⟨ρ,M,cp,rv⟩)⟩
    · cases ef
  · cases ef
end
end Mi
namespace Mi
open PySem PySem.Spec PyProof.Rows L2
mutual
def cleanD:D→Bool
  | .xn _ _ _=>false
  | .xv _ _ d=>cleanD d
  | .tup ds=>cleanDs ds
  | .lst ds=>cleanDs ds
  | .dic _ ds=>cleanDs ds
  | .ins _ _ ds=>cleanDs ds
  | .dct _ ds=>cleanDs ds
  |_=>true
def cleanDs:List D→Bool
  |[]=>true
  |d::ds=>cleanD d&&cleanDs ds
end
def cleanO:O→Bool
  | .fz d=>cleanD d
  | .lst ds=>cleanDs ds
  | .dic _ ds=>cleanDs ds
  | .ins _ _ ds=>cleanDs ds
  | .dct _ ds=>cleanDs ds
mutual
theorem kf_clean: ∀ (n:Nat) (d:D),kfD n d=true→cleanD d=true
  |_,.non,_=>rfl
  |_,.bl _,_=>rfl
  |_,.int _,_=>rfl
  |_,.str _,_=>rfl
  |n+1,.tup ds,h=>kfs_clean n ds h
  |0,.tup ds,h=>by cases h
  |n,.lst _,h=>by cases n<;>cases h
  |n,.dic _ _,h=>by cases n<;>cases h
  |n,.ins _ _ _,h=>by cases n<;>cases h
  |n,.dct _ _,h=>by cases n<;>cases h
  |n,.loc _,h=>by cases n<;>cases h
  |n,.fn _,h=>by cases n<;>cases h
  |n,.scr _,h=>by cases n<;>cases h
  |n,.ty _,h=>by cases n<;>cases h
  |n,.cls _,h=>by cases n<;>cases h
  |n,.xn _ _ _,h=>by cases n<;>cases h
  |n,.xv _ _ _,h=>by cases n<;>cases h
  |n,.lk _ _,h=>by cases n<;>cases h
theorem kfs_clean: ∀ (n:Nat) (ds:List D),kfDs n ds=true→cleanDs ds=true
  |_,[],_=>rfl
  | n,d::ds,h=>by
    have z:(kfD n d&&kfDs n ds)=true:=by cases n<;>exact h
    obtain ⟨h1,h2⟩:=Bool.and_eq_true_iff.mp z
    show (cleanD d&&cleanDs ds)=true
    rw [kf_clean n d h1,kfs_clean n ds h2];rfl
end
abbrev GE.at (G:GE) (z:Option (Addr×Addr×Addr)):GE:={G with cur:=z}
section
variable {G:GE} {z:Option (Addr×Addr×Addr)} {ρ:List Addr} {H:Hp} {M:List Addr}
mutual
theorem RepD.into (hz:G.cur=none): ∀ (d:D) (v:V),RepD G ρ H M d v→RepD (G.at z) ρ H M d v∧cleanD d=true
  | .non,v,h=>⟨h,rfl⟩
  | .bl b,v,h=>⟨h,rfl⟩
  | .int i,v,h=>⟨h,rfl⟩
  | .str x,v,h=>⟨h,rfl⟩
  | .tup ds,v,h=>by obtain ⟨a,vs,e,t,r⟩:=h;have q:=RepDs.into hz ds vs r;exact ⟨⟨a,vs,e,t,q.1⟩,q.2⟩
  | .lst ds,v,h=>by obtain ⟨a,vs,e,t,n,r⟩:=h;have q:=RepDs.into hz ds vs r;exact ⟨⟨a,vs,e,t,n,q.1⟩,q.2⟩
  | .dic ks ds,v,h=>by obtain ⟨a,vs,e,t,l,n,r⟩:=h;have q:=RepDs.into hz ds vs r;exact ⟨⟨a,vs,e,t,l,n,q.1⟩,q.2⟩
  | .ins c fs ds,v,h=>by obtain ⟨a,C,dx,vs,e,g,t,l,n,r⟩:=h;have q:=RepDs.into hz ds vs r;exact ⟨⟨a,C,dx,vs,e,g,t,l,n,q.1⟩,q.2⟩
  | .dct ks ds,v,h=>by obtain ⟨a,bs,vs,e,t,l,fk,n,rk,r⟩:=h;have q:=RepDs.into hz ds vs r;exact ⟨⟨a,bs,vs,e,t,l,fk,n,(RepDs.into hz ks _ rk).1,q.1⟩,q.2⟩
  | .loc n,v,h=>⟨h,rfl⟩
  | .fn f,v,h=>⟨h,rfl⟩
  | .scr ns,v,h=>⟨h,rfl⟩
  | .ty n,v,h=>⟨h,rfl⟩
  | .cls c,v,h=>⟨h,rfl⟩
  | .lk o kvs,v,h=>⟨h,rfl⟩
  | .xn c f d,v,h=>by obtain ⟨a,a',C,v',e1,_⟩:=h;rw [hz] at e1;cases e1
  | .xv c f d,v,h=>by obtain ⟨a,oe,u,a',C,v',e2,e3,ta,na,c1,c2,c3,t,n,r⟩:=h;have q:=RepD.into hz d v' r;exact ⟨⟨a,oe,u,a',C,v',e2,e3,ta,na,c1,c2,c3,t,n,q.1⟩,q.2⟩
theorem RepDs.into (hz:G.cur=none): ∀ (ds:List D) (vs:List V),RepDs G ρ H M ds vs→RepDs (G.at z) ρ H M ds vs∧cleanDs ds=true
  |[],vs,h=>⟨h,rfl⟩
  | d::ds,vs,h=>by
    obtain ⟨v,r,e,h1,h2⟩:=h
    have q1:=RepD.into hz d v h1
    have q2:=RepDs.into hz ds r h2
    exact ⟨⟨v,r,e,q1.1,q2.1⟩,by simp only [cleanDs,q1.2,q2.2,Bool.and_self]⟩
end
mutual
theorem RepD.out: ∀ (d:D) (v:V),cleanD d=true→RepD (G.at z) ρ H M d v→RepD G ρ H M d v
  | .non,v,_,h=>h
  | .bl b,v,_,h=>h
  | .int i,v,_,h=>h
  | .str x,v,_,h=>h
  | .tup ds,v,c,h=>by obtain ⟨a,vs,e,t,r⟩:=h;exact ⟨a,vs,e,t,RepDs.out ds vs c r⟩
  | .lst ds,v,c,h=>by obtain ⟨a,vs,e,t,n,r⟩:=h;exact ⟨a,vs,e,t,n,RepDs.out ds vs c r⟩
  | .dic ks ds,v,c,h=>by obtain ⟨a,vs,e,t,l,n,r⟩:=h;exact ⟨a,vs,e,t,l,n,RepDs.out ds vs c r⟩
  | .ins cn fs ds,v,c,h=>by obtain ⟨a,C,dx,vs,e,g,t,l,n,r⟩:=h;exact ⟨a,C,dx,vs,e,g,t,l,n,RepDs.out ds vs c r⟩
  | .dct ks ds,v,c,h=>by obtain ⟨a,bs,vs,e,t,l,fk,n,rk,r⟩:=h;exact ⟨a,bs,vs,e,t,l,fk,n,RepDs.out ks _ (kfs_clean 8 ks fk) rk,RepDs.out ds vs c r⟩
  | .loc n,v,_,h=>h
  | .fn f,v,_,h=>h
  | .scr ns,v,_,h=>h
  | .ty n,v,_,h=>h
  | .cls c,v,_,h=>h
  | .lk o kvs,v,_,h=>h
  | .xn _ _ _,v,c,h=>by cases c
  | .xv cn f d,v,cc,h=>by obtain ⟨a,oe,u,a',C,v',e2,e3,ta,na,c1,c2,c3,t,n,r⟩:=h;exact ⟨a,oe,u,a',C,v',e2,e3,ta,na,c1,c2,c3,t,n,RepD.out d v' cc r⟩
theorem RepDs.out: ∀ (ds:List D) (vs:List V),cleanDs ds=true→RepDs (G.at z) ρ H M ds vs→RepDs G ρ H M ds vs
  |[],vs,_,h=>h
  | d::ds,vs,c,h=>by
    simp only [cleanDs,Bool.and_eq_true] at c
    obtain ⟨v,r,e,h1,h2⟩:=h
    exact ⟨v,r,e,RepD.out d v c.1 h1,RepDs.out ds r c.2 h2⟩
end
theorem Own.into (hz:G.cur=none) {o:O} {v:V} {F:List Addr} (w:Own G ρ H M o v F):Own (G.at z) ρ H M o v F∧cleanO o=true:=by
  cases o with
  |fz d=>exact ⟨⟨(RepD.into hz d v w.1).1,w.2⟩,(RepD.into (z:=z) hz d v w.1).2⟩
  |lst ds=>obtain ⟨a,vs,e,t,r,f⟩:=w;have q:=RepDs.into (z:=z) hz ds vs r;exact ⟨⟨a,vs,e,t,q.1,f⟩,q.2⟩
  |dic ks ds=>obtain ⟨a,vs,e,t,l,r,f⟩:=w;have q:=RepDs.into (z:=z) hz ds vs r;exact ⟨⟨a,vs,e,t,l,q.1,f⟩,q.2⟩
  |ins c fs ds=>obtain ⟨a,C,dx,vs,e,g,t,l,r,f⟩:=w;have q:=RepDs.into (z:=z) hz ds vs r;exact ⟨⟨a,C,dx,vs,e,g,t,l,q.1,f⟩,q.2⟩
  |dct ks ds=>obtain ⟨a,bs,vs,e,t,l,fk,rk,r,f⟩:=w;have q:=RepDs.into (z:=z) hz ds vs r;exact ⟨⟨a,bs,vs,e,t,l,fk,(RepDs.into (z:=z) hz ks _ rk).1,q.1,f⟩,q.2⟩
theorem Own.out {o:O} {v:V} {F:List Addr} (c:cleanO o=true) (w:Own (G.at z) ρ H M o v F):Own G ρ H M o v F:=by
  cases o with
  |fz d=>exact ⟨RepD.out d v c w.1,w.2⟩
  |lst ds=>obtain ⟨a,vs,e,t,r,f⟩:=w;exact ⟨a,vs,e,t,RepDs.out ds vs c r,f⟩
  |dic ks ds=>obtain ⟨a,vs,e,t,l,r,f⟩:=w;exact ⟨a,vs,e,t,l,RepDs.out ds vs c r,f⟩
  |ins cn fs ds=>obtain ⟨a,C,dx,vs,e,g,t,l,r,f⟩:=w;exact ⟨a,C,dx,vs,e,g,t,l,RepDs.out ds vs c r,f⟩
  |dct ks ds=>obtain ⟨a,bs,vs,e,t,l,fk,rk,r,f⟩:=w;exact ⟨a,bs,vs,e,t,l,fk,RepDs.out ks _ (kfs_clean 8 ks fk) rk,RepDs.out ds vs c r,f⟩
theorem Owns.into (hz:G.cur=none): ∀ {L:List (O×V)} {F:List Addr},Owns G ρ H M L F→Owns (G.at z) ρ H M L F∧∀ p∈L,cleanO p.1=true
  |[],F,h=>⟨h,by simp⟩
  | p::ps,F,h=>by
    obtain ⟨A,B,e,h1,h2⟩:=h
    have q1:=Own.into (z:=z) hz h1
    have q2:=Owns.into hz h2
    exact ⟨⟨A,B,e,q1.1,q2.1⟩,List.forall_mem_cons.mpr ⟨q1.2,q2.2⟩⟩
theorem Owns.out: ∀ {L:List (O×V)} {F:List Addr},(∀ p∈L,cleanO p.1=true)→Owns (G.at z) ρ H M L F→Owns G ρ H M L F
  |[],F,_,h=>h
  | p::ps,F,c,h=>by
    obtain ⟨A,B,e,h1,h2⟩:=h
    exact ⟨A,B,e,h1.out (c p (by simp)),Owns.out (fun q hq=>c q (by simp [hq])) h2⟩
end
section
variable {G:GE} {z:Option (Addr×Addr×Addr)} {H:Hp} {h:List O} {L:List (O×V)}
theorem Cf.into (hz:G.cur=none) (c:Cf G H h L):Cf (G.at z) H h L∧(∀ o∈h,cleanO o=true)∧∀ p∈L,cleanO p.1=true:=by
  obtain ⟨ρ,M,l,ow,n⟩:=c
  obtain ⟨q1,q2⟩:=Owns.into (z:=z) hz ow
  refine ⟨⟨ρ,M,l,q1,n⟩,fun o ho=>?_,fun p hp=>q2 p (List.mem_append_right _ hp)⟩
  obtain ⟨i,hi,e⟩:=List.getElem_of_mem ho
  have hi2:i<(ρ.map V.ref).length:=by rw [List.length_map,l];exact hi
  refine q2 (o,(ρ.map V.ref)[i]) (List.mem_append_left _ ?_)
  rw [←e]
  have:(h.zip (ρ.map V.ref))[i]'(by simp;omega)=(h[i],(ρ.map V.ref)[i]):=List.getElem_zip
  rw [←this]
  exact List.getElem_mem _
theorem Cf.out (ch: ∀ o∈h,cleanO o=true) (cL: ∀ p∈L,cleanO p.1=true) (c:Cf (G.at z) H h L):Cf G H h L:=by
  obtain ⟨ρ,M,l,ow,n⟩:=c
  refine ⟨ρ,M,l,ow.out fun p hp=>?_,n⟩
  rcases List.mem_append.mp hp with q|q
  · exact ch p.1 (List.of_mem_zip (show (p.1,p.2)∈_ from q)).1
  · exact cL p q
end
structure CH (cc:CC) (e:Expr) where
  m:E
  ok: ∀ G call W X,GoodB G cc X→PE X e (tE G W call m)
  keep: ∀ call s r s',m call s= .ok r s'→s'.h=s.h
section
variable {G:GE} {k:Nat} {call:Call} {cc:CC} {W:WX} {X:Cx}
inductive HdT (cc:CC):List ExceptHandler→List (Str×Option Nat×E)→Type
  |nil:HdT cc [] []
  |named {x n f:Str} {e:Expr} {np rp pos':Pos} {hds:List ExceptHandler} {l:List (Str×Option Nat×E)} (hx:(x,f)∈cc.exs) (hg:cc.sc.names.lookup x=some .globalImplicit) (i:Nat) (hi:cc.N[i]?=some n) (hl:cc.sc.names.lookup n=some .local) (m:CH cc e) (r:HdT cc hds l):
      HdT cc (.ExceptHandler (some (.Name x np)) (some n) [.Return (some e) rp] pos'::hds) ((x,some i,m.m)::l)
  |bare {x f:Str} {e:Expr} {np rp pos':Pos} {hds:List ExceptHandler} {l:List (Str×Option Nat×E)} (hx:(x,f)∈cc.exs) (hg:cc.sc.names.lookup x=some .globalImplicit) (m:CH cc e) (r:HdT cc hds l):
      HdT cc (.ExceptHandler (some (.Name x np)) none [.Return (some e) rp] pos'::hds) ((x,none,m.m)::l)
end
end Mi
namespace Mi
open PySem PySem.Spec PyProof.Rows L2
mutual
def blw (n:Nat):D→Bool
  | .loc m=>decide (m<n)
  | .tup ds=>blws n ds
  | .lst ds=>blws n ds
  | .dic _ ds=>blws n ds
  | .ins _ _ ds=>blws n ds
  | .dct _ ds=>blws n ds
  | .xn _ _ d=>blw n d
  | .xv _ _ d=>blw n d
  |_=>true
def blws (n:Nat):List D→Bool
  |[]=>true
  |d::ds=>blw n d&&blws n ds
end
mutual
def sbD (f:Nat→Option D):D→Option D
  | .loc m=>f m
  | .tup ds=>(sbDs f ds).map .tup
  | .lst ds=>(sbDs f ds).map .lst
  | .dic ks ds=>(sbDs f ds).map (.dic ks)
  | .ins c fs ds=>(sbDs f ds).map (.ins c fs)
  | .dct ks ds=>(sbDs f ds).map (.dct ks)
  | .xn _ _ _=>none
  | .xv _ _ _=>none
  |d=>some d
def sbDs (f:Nat→Option D):List D→Option (List D)
  |[]=>some []
  |d::ds=>(sbD f d).bind fun e=>(sbDs f ds).map fun es=>e::es
end
mutual
theorem kf_blw: ∀ (n m:Nat) (d:D),kfD n d=true→blw m d=true
  |_,m,.non,_=>rfl
  |_,m,.bl _,_=>rfl
  |_,m,.int _,_=>rfl
  |_,m,.str _,_=>rfl
  |n+1,m,.tup ds,h=>kfs_blw n m ds h
  |0,m,.tup ds,h=>by cases h
  |n,m,.lst _,h=>by cases n<;>cases h
  |n,m,.dic _ _,h=>by cases n<;>cases h
  |n,m,.ins _ _ _,h=>by cases n<;>cases h
  |n,m,.dct _ _,h=>by cases n<;>cases h
  |n,m,.loc _,h=>by cases n<;>cases h
  |n,m,.fn _,h=>by cases n<;>cases h
  |n,m,.scr _,h=>by cases n<;>cases h
  |n,m,.ty _,h=>by cases n<;>cases h
  |n,m,.cls _,h=>by cases n<;>cases h
  |n,m,.xn _ _ _,h=>by cases n<;>cases h
  |n,m,.xv _ _ _,h=>by cases n<;>cases h
  |n,m,.lk _ _,h=>by cases n<;>cases h
theorem kfs_blw: ∀ (n m:Nat) (ds:List D),kfDs n ds=true→blws m ds=true
  |_,m,[],_=>rfl
  | n,m,d::ds,h=>by
    have z:(kfD n d&&kfDs n ds)=true:=by cases n<;>exact h
    obtain ⟨h1,h2⟩:=Bool.and_eq_true_iff.mp z
    show (blw m d&&blws m ds)=true
    rw [kf_blw n m d h1,kfs_blw n m ds h2];rfl
end
def frzN (n:Nat) (h:List O):Nat→Nat→Option D
  |0,m=>if m<n then some (.loc m) else none
  |k+1,m=>if m<n then some (.loc m) else (h[m]?).bind fun o=>sbD (frzN n h k) (frz o)
section
variable {G:GE} {ρ:List Addr} {H:Hp} {M M':List Addr} {n:Nat}
mutual
theorem RepD.blw: ∀ (d:D) (v:V),RepD G ρ H M d v→blw ρ.length d=true
  | .non,v,h=>rfl
  | .bl b,v,h=>rfl
  | .int i,v,h=>rfl
  | .str x,v,h=>rfl
  | .tup ds,v,h=>by obtain ⟨a,vs,e,t,r⟩:=h;exact RepDs.blw ds vs r
  | .lst ds,v,h=>by obtain ⟨a,vs,e,t,n,r⟩:=h;exact RepDs.blw ds vs r
  | .dic ks ds,v,h=>by obtain ⟨a,vs,e,t,l,n,r⟩:=h;exact RepDs.blw ds vs r
  | .ins c fs ds,v,h=>by obtain ⟨a,C,dx,vs,e,g,t,l,n,r⟩:=h;exact RepDs.blw ds vs r
  | .dct ks ds,v,h=>by obtain ⟨a,bs,vs,e,t,l,fk,n,rk,r⟩:=h;exact RepDs.blw ds vs r
  | .loc n,v,h=>by
    obtain ⟨a,e,r⟩:=h
    refine decide_eq_true ?_
    rcases Nat.lt_or_ge n ρ.length with z|z
    · exact z
    · rw [List.getElem?_eq_none z] at r;cases r
  | .fn f,v,h=>rfl
  | .scr ns,v,h=>rfl
  | .ty n,v,h=>rfl
  | .cls c,v,h=>rfl
  | .lk o kvs,v,h=>rfl
  | .xn c f d,v,h=>by obtain ⟨a,a',C,v',e1,e2,e3,t,n,r⟩:=h;exact RepD.blw d v' r
  | .xv c f d,v,h=>by obtain ⟨a,oe,u,a',C,v',e2,e3,ta,na,c1,c2,c3,t,n,r⟩:=h;exact RepD.blw d v' r
theorem RepDs.blw: ∀ (ds:List D) (vs:List V),RepDs G ρ H M ds vs→blws ρ.length ds=true
  |[],vs,h=>rfl
  | d::ds,vs,h=>by
    obtain ⟨v,r,e,h1,h2⟩:=h
    exact Bool.and_eq_true_iff.mpr ⟨RepD.blw d v h1,RepDs.blw ds r h2⟩
end
theorem take_at {n m:Nat} {a:Addr} (hm:m<n) (e:ρ[m]?=some a):(ρ.take n)[m]?=some a:=by rw [List.getElem?_take_of_lt hm];exact e
variable (hM: ∀ b∈M',b∈M)
include hM
theorem Tr.less {a:Addr} {vs:List V} (t:Tr G H M a vs):Tr G H M' a vs:=t.stay (fun _ _ e _=>e) (fun b hb=>.inl (hM b hb))
mutual
theorem RepD.low: ∀ (d:D) (v:V),RepD G ρ H M d v→Mi.blw n d=true→RepD G (ρ.take n) H M' d v
  | .non,v,h,_=>h
  | .bl b,v,h,_=>h
  | .int i,v,h,_=>h
  | .str x,v,h,_=>h
  | .tup ds,v,h,b=>by
    obtain ⟨a,vs,e,t,r⟩:=h
    exact ⟨a,vs,e,Tr.less hM t,RepDs.low ds vs r b⟩
  | .lst ds,v,h,b=>by
    obtain ⟨a,vs,e,t,q,r⟩:=h
    exact ⟨a,vs,e,t,fun z=>q (hM _ z),RepDs.low ds vs r b⟩
  | .dic ks ds,v,h,b=>by
    obtain ⟨a,vs,e,t,l,q,r⟩:=h
    exact ⟨a,vs,e,t,l,fun z=>q (hM _ z),RepDs.low ds vs r b⟩
  | .ins c fs ds,v,h,b=>by
    obtain ⟨a,C,dx,vs,e,g,t,l,q,r⟩:=h
    exact ⟨a,C,dx,vs,e,g,t,l,fun z=>q (hM _ z),RepDs.low ds vs r b⟩
  | .dct ks ds,v,h,b=>by
    obtain ⟨a,bs,vs,e,t,l,fk,q,rk,r⟩:=h
    exact ⟨a,bs,vs,e,t,l,fk,fun z=>q (hM _ z),RepDs.low ks _ rk (kfs_blw 8 n ks fk),RepDs.low ds vs r b⟩
  | .loc m,v,h,b=>by
    obtain ⟨a,e,r⟩:=h
    exact ⟨a,e,take_at (of_decide_eq_true b) r⟩
  | .fn f,v,h,_=>h
  | .scr ns,v,h,_=>by
    obtain ⟨a,e,t|t⟩:=h
    · exact ⟨a,e,.inl ⟨t.1,fun z=>t.2 (hM _ z)⟩⟩
    · exact ⟨a,e,.inr t⟩
  | .ty n,v,h,_=>h
  | .cls c,v,h,_=>h
  | .lk o kvs,v,h,_=>by
    obtain ⟨a,e,t,q⟩:=h
    exact ⟨a,e,t,fun z=>q (hM _ z)⟩
  | .xn c f d,v,h,b=>by
    obtain ⟨a,a',C,v',e1,e2,e3,t,q,r⟩:=h
    exact ⟨a,a',C,v',e1,e2,e3,t,fun z=>q (hM _ z),RepD.low d v' r b⟩
  | .xv c f d,v,h,b=>by
    obtain ⟨a,oe,u,a',C,v',e2,e3,ta,na,c1,c2,c3,t,q,r⟩:=h
    exact ⟨a,oe,u,a',C,v',e2,e3,ta,fun z=>na (hM _ z),c1,c2,c3,t,fun z=>q (hM _ z),RepD.low d v' r b⟩
theorem RepDs.low: ∀ (ds:List D) (vs:List V),RepDs G ρ H M ds vs→blws n ds=true→RepDs G (ρ.take n) H M' ds vs
  |[],vs,h,_=>h
  | d::ds,vs,h,b=>by
    obtain ⟨v,r,e,h1,h2⟩:=h
    obtain ⟨b1,b2⟩:=Bool.and_eq_true_iff.mp b
    exact ⟨v,r,e,RepD.low d v h1 b1,RepDs.low ds r h2 b2⟩
end
theorem Own.low {o:O} {v:V} {F:List Addr} (w:Own G ρ H M o v F) (b:Mi.blw n (Mi.frz o)=true):Own G (ρ.take n) H M' o v F:=by
  cases o with
  |fz d=>exact ⟨RepD.low hM d v w.1 b,w.2⟩
  | lst ds=>
    obtain ⟨a,vs,e,t,r,f⟩:=w
    exact ⟨a,vs,e,t,RepDs.low hM ds vs r b,f⟩
  | dic ks ds=>
    obtain ⟨a,vs,e,t,l,r,f⟩:=w
    exact ⟨a,vs,e,t,l,RepDs.low hM ds vs r b,f⟩
  | ins c fs ds=>
    obtain ⟨a,C,dx,vs,e,g,t,l,r,f⟩:=w
    exact ⟨a,C,dx,vs,e,g,t,l,RepDs.low hM ds vs r b,f⟩
  | dct ks ds=>
    obtain ⟨a,bs,vs,e,t,l,fk,rk,r,f⟩:=w
    exact ⟨a,bs,vs,e,t,l,fk,RepDs.low hM ks _ rk (kfs_blw 8 n ks fk),RepDs.low hM ds vs r b,f⟩
theorem Owns.low: ∀ {L:List (O×V)} {F:List Addr},Owns G ρ H M L F→(∀ p∈L,Mi.blw n (Mi.frz p.1)=true)→Owns G (ρ.take n) H M' L F
  |[],F,w,_=>w
  | p::L,F,w,b=>by
    obtain ⟨A,B,e,w1,w2⟩:=w
    exact ⟨A,B,e,Own.low hM w1 (b p (by simp)),Owns.low w2 fun q hq=>b q (by simp [hq])⟩
section
variable (f:Nat→Option D) (hf: ∀ m a d,ρ[m]?=some a→f m=some d→RepD G (ρ.take n) H M' d (.ref a))
include hf
mutual
theorem RepD.sub: ∀ (d:D) (v:V) (d':D),RepD G ρ H M d v→sbD f d=some d'→RepD G (ρ.take n) H M' d' v
  | .non,v,d',h,e=>by cases e;exact h
  | .bl b,v,d',h,e=>by cases e;exact h
  | .int i,v,d',h,e=>by cases e;exact h
  | .str x,v,d',h,e=>by cases e;exact h
  | .tup ds,v,d',h,e=>by
    obtain ⟨a,vs,ev,t,r⟩:=h
    simp only [sbD,Option.map_eq_some_iff] at e
    obtain ⟨es,e1,e2⟩:=e
    subst e2
    exact ⟨a,vs,ev,Tr.less hM t,RepDs.sub ds vs es r e1⟩
  | .lst ds,v,d',h,e=>by
    obtain ⟨a,vs,ev,t,q,r⟩:=h
    simp only [sbD,Option.map_eq_some_iff] at e
    obtain ⟨es,e1,e2⟩:=e
    subst e2
    exact ⟨a,vs,ev,t,fun z=>q (hM _ z),RepDs.sub ds vs es r e1⟩
  | .dic ks ds,v,d',h,e=>by
    obtain ⟨a,vs,ev,t,l,q,r⟩:=h
    simp only [sbD,Option.map_eq_some_iff] at e
    obtain ⟨es,e1,e2⟩:=e
    subst e2
    exact ⟨a,vs,ev,t,l,fun z=>q (hM _ z),RepDs.sub ds vs es r e1⟩
  | .ins c fs ds,v,d',h,e=>by
    obtain ⟨a,C,dx,vs,ev,g,t,l,q,r⟩:=h
    simp only [sbD,Option.map_eq_some_iff] at e
    obtain ⟨es,e1,e2⟩:=e
    subst e2
    exact ⟨a,C,dx,vs,ev,g,t,l,fun z=>q (hM _ z),RepDs.sub ds vs es r e1⟩
  | .dct ks ds,v,d',h,e=>by
    obtain ⟨a,bs,vs,ev,t,l,fk,q,rk,r⟩:=h
    simp only [sbD,Option.map_eq_some_iff] at e
    obtain ⟨es,e1,e2⟩:=e
    subst e2
    exact ⟨a,bs,vs,ev,t,l,fk,fun z=>q (hM _ z),RepDs.low hM ks _ rk (kfs_blw 8 n ks fk),RepDs.sub ds vs es r e1⟩
  | .loc m,v,d',h,e=>by
    obtain ⟨a,ev,r⟩:=h
    subst ev
    exact hf m a d' r e
  | .fn f,v,d',h,e=>by cases e;exact h
  | .scr ns,v,d',h,e=>by cases e;exact RepD.low (n:=n) hM (.scr ns) v h rfl
  | .ty n,v,d',h,e=>by cases e;exact h
  | .cls c,v,d',h,e=>by cases e;exact h
  | .lk o kvs,v,d',h,e=>by cases e;exact RepD.low (n:=n) hM (.lk o kvs) v h rfl
  | .xn c f d,v,d',h,e=>by cases e
  | .xv c f d,v,d',h,e=>by cases e
theorem RepDs.sub: ∀ (ds:List D) (vs:List V) (ds':List D),RepDs G ρ H M ds vs→sbDs f ds=some ds'→RepDs G (ρ.take n) H M' ds' vs
  |[],vs,ds',h,e=>by cases e;exact h
  | d::ds,vs,ds',h,e=>by
    obtain ⟨v,r,ev,h1,h2⟩:=h
    simp only [sbDs,Option.bind_eq_some_iff,Option.map_eq_some_iff] at e
    obtain ⟨d1,e1,ds1,e2,e3⟩:=e
    subst e3
    exact ⟨v,r,ev,RepD.sub d v d1 h1 e1,RepDs.sub ds r ds1 h2 e2⟩
end
theorem Own.sub {o:O} {v:V} {F:List Addr} {d':D} (w:Own G ρ H M o v F) (hF: ∀ b∈F,b∉M') (e:sbD f (Mi.frz o)=some d'):RepD G (ρ.take n) H M' d' v:=by
  cases o with
  |fz d=>exact RepD.sub hM f hf d v d' w.1 e
  | lst ds=>
    obtain ⟨a,vs,ev,t,r,g⟩:=w
    simp only [Mi.frz,sbD,Option.map_eq_some_iff] at e
    obtain ⟨es,e1,e2⟩:=e
    subst e2
    exact ⟨a,vs,ev,t,hF a (by rw [g];simp),RepDs.sub hM f hf ds vs es r e1⟩
  | dic ks ds=>
    obtain ⟨a,vs,ev,t,l,r,g⟩:=w
    simp only [Mi.frz,sbD,Option.map_eq_some_iff] at e
    obtain ⟨es,e1,e2⟩:=e
    subst e2
    exact ⟨a,vs,ev,.inl t,l,hF a (by rw [g];simp),RepDs.sub hM f hf ds vs es r e1⟩
  | ins c fs ds=>
    obtain ⟨a,C,dx,vs,ev,gc,t,l,r,g⟩:=w
    simp only [Mi.frz,sbD,Option.map_eq_some_iff] at e
    obtain ⟨es,e1,e2⟩:=e
    subst e2
    exact ⟨a,C,dx,vs,ev,gc,t,l,hF a (by rw [g];simp),RepDs.sub hM f hf ds vs es r e1⟩
  | dct ks ds=>
    obtain ⟨a,bs,vs,ev,t,l,fk,rk,r,g⟩:=w
    simp only [Mi.frz,sbD,Option.map_eq_some_iff] at e
    obtain ⟨es,e1,e2⟩:=e
    subst e2
    exact ⟨a,bs,vs,ev,.inl t,l,fk,hF a (by rw [g];simp),RepDs.low hM ks _ rk (kfs_blw 8 n ks fk),RepDs.sub hM f hf ds vs es r e1⟩
end
end
section
variable {G:GE} {H:Hp}
theorem Owns.blw {ρ M:List Addr}: ∀ {L:List (O×V)} {F:List Addr},Owns G ρ H M L F→∀ p∈L,Mi.blw ρ.length (Mi.frz p.1)=true
  |[],F,w,p,hp=>by simp at hp
  | q ::L,F,w,p,hp=>by
    obtain ⟨A,B,e,w1,w2⟩:=w
    rcases List.mem_cons.mp hp with z|z
    · subst z
      obtain ⟨o,v⟩:=p
      cases o with
      |fz d=>exact RepD.blw d v w1.1
      |lst ds=>obtain ⟨a,vs,e,t,r,f⟩:=w1;exact RepDs.blw ds vs r
      |dic ks ds=>obtain ⟨a,vs,e,t,l,r,f⟩:=w1;exact RepDs.blw ds vs r
      |ins c fs ds=>obtain ⟨a,C,dx,vs,e,g,t,l,r,f⟩:=w1;exact RepDs.blw ds vs r
      |dct ks ds=>obtain ⟨a,bs,vs,e,t,l,fk,rk,r,f⟩:=w1;exact RepDs.blw ds vs r
    · exact Owns.blw w2 p z
theorem Cf.blw {h:List O} {L:List (O×V)} (c:Cf G H h L):(∀ p∈L,Mi.blw h.length (Mi.frz p.1)=true)∧∀ o∈h,Mi.blw h.length (Mi.frz o)=true:=by
  obtain ⟨ρ,M,l,ow,nd⟩:=c
  refine ⟨fun p hp=>?_,fun o ho=>?_⟩
  · rw [←l];exact Owns.blw ow p (List.mem_append_right _ hp)
  · obtain ⟨i,hi,e⟩:=List.getElem_of_mem ho
    obtain ⟨X,Y,q1,_⟩:=zip_at (h:=h) (ρ:=ρ) (n:=i) (o:=o) (a:=ρ[i]'(by omega)) (by rw [List.getElem?_eq_getElem hi,e]) (List.getElem?_eq_getElem (by omega))
    rw [←l]
    exact Owns.blw ow (o,.ref (ρ[i]'(by omega))) (List.mem_append_left _ (by rw [q1];simp))
end
end Mi
namespace Mi
open PySem PySem.Spec PyProof.Rows L2
section
variable {G:GE} {k:Nat} {call:Call} {cc:CC} {W:WX} {X:Cx}
def putL (f:Str) (d:D) (fs:List Str) (xs:List D):List Str×List D:=if f∈fs then (fs,xs.set (fs.findIdx fun g=>decide (g=f)) d) else (fs++[f],xs++[d])
theorem putF_in {α:Type} {f:Str} {v:V}: ∀ {fs:List Str} {vs:List V},fs.length=vs.length→f∈fs→putF f v (fs.zip vs)=fs.zip (vs.set (fs.findIdx fun g=>decide (g=f)) v)
  |[],_,_,h=>by simp at h
  |_::_,[],l,_=>by simp at l
  | g ::fs,w::vs,l,h=>by
    by_cases e:g=f
    · subst e
      simp [putF,List.findIdx_cons]
    · have hm:f∈fs:=by
        rcases List.mem_cons.mp h with z|z
        · exact absurd z.symm e
        · exact z
      simp only [List.zip_cons_cons,putF,if_neg e,List.findIdx_cons,decide_eq_false e,cond_false,List.set_cons_succ]
      rw [putF_in (α:=α) (by simpa using l) hm]
theorem putF_out {f:Str} {v:V}: ∀ {fs:List Str} {vs:List V},fs.length=vs.length→f∉fs→putF f v (fs.zip vs)=(fs++[f]).zip (vs++[v])
  |[],[],_,_=>rfl
  |[],_::_,l,_=>by simp at l
  |_::_,[],l,_=>by simp at l
  | g::fs,w::vs,l,h=>by
    have e: ¬g=f:=fun z=>h (by simp [z])
    simp only [List.zip_cons_cons,putF,if_neg e,List.cons_append]
    rw [putF_out (by simpa using l) fun z=>h (by simp [z])]
def setFld (h:List O) (f:Str) (d:D):D→Option (List O)
  | .loc n=>match h[n]? with
    |some (.ins c fs xs)=>if fs.length<900 then some (h.set n (.ins c (putL f d fs xs).1 (putL f d fs xs).2)) else none
    |_=>none
  |_=>none
def cFld (me mx:E) (f:Str):C:=fun call s=>(me call s).flow fun y s1=>match take s1 y with
  |none=>.bad
  | some (d,s2)=>(mx call s2).flow fun x s3=>match take s3 x with
    |none=>.bad
    | some (dx,s4)=>(match setFld s4.h f d dx with
      |some h=>.nx ⟨s4.σ,h⟩
      |none=>.bad)
theorem Cf.cellIns {H:Hp} {h:List O} {L:List (O×V)} {n:Nat} {v:V} {c:Str} {fs:List Str} {ds:List D} (cf:Cf G H h ((.fz (.loc n),v)::L)) (hn:h[n]?=some (.ins c fs ds)):
    ∃ a C dx vs,v= .ref a∧G.cls c=some C∧H a=some (.ins C dx (fs.zip vs))∧fs.length=vs.length∧ds.length=vs.length∧Cf G H h (Fz ds vs++(.fz (.loc n),v)::L):=by
  obtain ⟨a,e,ρ,M,A,hr,cp,a',C,dx,vs,e',hC,t,l,r,f⟩:=cf.cell hn
  cases e'
  refine ⟨a,C,dx,vs,e,hC,t,l,r.length, ?_⟩
  have:=(Cf.fz (L:=L) (ds:=ds++[.loc n]) (vs:=vs++[v]) (by simp [r.length])).mpr ⟨ρ,M,cp,r.append (.one (d:=.loc n) ⟨a,e,hr⟩)⟩
  rw [Fz,List.zipWith_append r.length,List.append_assoc] at this
  exact this
theorem s_fld (g:Good G k call cc W X) {o e:Expr} {f:Str} {me mx:E} {p pos:Pos} (hfl:f∈cc.flds) (he:PE X e (tE G W call me)) (ho:PE X o (tE G W call mx)) (hs:swapsWith e (some (.Attribute o f p)) pos.line X.env=pure false):
    PS X (.Assign [.Attribute o f p] e pos) (tS G W call (cFld me mx f)):=by
  refine (ps_fld ho he hs).of fun En σ H q=>?_
  obtain ⟨s,Φ,nb,c,q⟩:=q
  refine ⟨s,Φ,c,(AftS.flow q).mono fun y s1 a1=>fun yv H1 c1=>?_⟩
  split at a1
  · exact a1.elim
  · rename_i d s2 et
    have c2:=c1.take et
    refine ⟨s2,_,c2,((AftS.flow a1).frame1).mono fun x s3 a3=>fun xv H2 c3=>?_⟩
    split at a3
    · exact a3.elim
    · rename_i dx s4 et2
      have c4:=c3.take et2
      split at a3
      · rename_i h' es
        unfold setFld at es
        split at es
        · rename_i n
          split at es
          · rename_i cn fs xs hn
            split at es
            · rename_i hin
              cases es
              have cf:Cf G H2 s4.h ((.fz (.loc n),xv)::(.fz d,yv)::(slp s4.σ σ++ow Φ)):=c4.cf.perm (by
                show (slp s4.σ σ++(O.fz (.loc n),xv)::(O.fz d,yv)::ow Φ).Perm _
                refine List.perm_middle.trans (.cons _ List.perm_middle))
              obtain ⟨a,C,dd,vs,ex,hC,hH,l1,l2,cf2⟩:=cf.cellIns hn
              subst ex
              have key:Cf G H2 s4.h (Fz (xs++[d]) (vs++[yv])++(.fz (.loc n),.ref a)::(slp s4.σ σ++ow Φ)):=by
                rw [Fz_append l2,List.append_assoc]
                refine cf2.perm (List.Perm.append_left _ ?_)
                show ((O.fz (.loc n),V.ref a)::(O.fz d,yv)::_).Perm ((O.fz d,yv)::(O.fz (.loc n),V.ref a)::_)
                exact .swap _ _ _
              have fin:Cf G (upd H2 a (.ins C dd (putF f yv (fs.zip vs)))) (s4.h.set n (.ins cn (putL f d fs xs).1 (putL f d fs xs).2)) ((.fz (.loc n),.ref a)::(slp s4.σ σ++ow Φ)):=by
                refine Cf.putCell (by simp [l2]) key hn (fun d=>by simp) fun ρ M H' e r=>?_
                have r0:RepDs G ρ H' M xs vs:=by
                  have:=RepDs.take xs.length r
                  rw [List.take_left,l2,List.take_left] at this
                  exact this
                have r1:RepD G ρ H' M d yv:=by
                  have:=RepDs.drop xs.length r
                  rw [List.drop_left,l2,List.drop_left] at this
                  obtain ⟨v',r',e',q1,_⟩:=this
                  cases e'
                  exact q1
                by_cases hf:f∈fs
                · refine ⟨a,C,dd,vs.set (fs.findIdx fun g=>decide (g=f)) yv,rfl,hC, ?_, ?_, ?_,rfl⟩
                  · rw [e,putF_in (α:=Nat) l1 hf];simp [putL,hf]
                  · simp [putL,hf,l1]
                  · simp only [putL,hf,if_true];exact r0.set _ r1
                · refine ⟨a,C,dd,vs++[yv],rfl,hC, ?_, ?_, ?_,rfl⟩
                  · rw [e,putF_out l1 hf];simp [putL,hf]
                  · simp [putL,hf,l1]
                  · simp only [putL,hf,if_false];exact r0.append (.one r1)
              refine ⟨a,C,dd,fs.zip vs,rfl,hH,(g.cls cn C hC).1,g.fld cn C f hC hfl,by rw [List.length_zip];omega, ?_⟩
              refine a3 σ _ ⟨c4.sl,fun i w hw=>absurd hw (nb i w),fin.drop⟩
            · cases es
          · cases es
        · cases es
      · exact a3.elim
def resOut (σ:List (Option O)):Res→Out R
  | .ok o h=>.ok (.own o) ⟨σ,h⟩
  | .exc c d h=>.exc c d ⟨σ,h⟩
  | .bad=>.bad
def mMeth (ml:List (Str×Str)) (m:Str) (mx:E) (r:As):E:=fun call s=>(mx call s).bind fun x s1=>match take s1 x with
  |none=>.bad
  | some (d,s2)=>match deref s2.h d with
    |some (.ins c fs _)=>if (c,m)∈ml∧(fs.all fun g=>!decide (g=m))=true then (r call s2).bind fun ds s3=>resOut s3.σ (call (mkey c m) (d::ds) s3.h) else .bad
    |_=>.bad
end
end Mi
namespace Mi
open PySem PySem.Spec PyProof.Rows L2
def keyD:D→Option Key
  | .int i=>some (.inl i)
  | .str x=>some (.inr x)
  |_=>none
def kD:Key→D
  | .inl i=>.int i
  | .inr x=>.str x
def valD (ks:List Key) (xs:List D) (k:Key):Option D:=((ks.zip xs).find? fun p=>decide (p.1=k)).map (·.2)
def putD (ks:List Key) (xs:List D) (k:Key) (d:D):List Key×List D:=if (ks.any fun g=>decide (g=k))=true then (ks,List.zipWith (fun g x=>if g=k then d else x) ks xs) else (ks++[k],xs++[d])
def mergeD (kds:List (Key×D)) (acc:List Key×List D):List Key×List D:=kds.foldl (fun a p=>putD a.1 a.2 p.1 p.2) acc
section
variable {G:GE} {ρ:List Addr} {H:Hp} {M:List Addr}
theorem key_of' {d:D} {v:V} {k:Key} (r:RepT G ρ H M d v) (e:keyD d=some k):v=kV k:=by
  cases d<;>first|(cases e;exact r)|cases e
theorem val_of: ∀ {ks:List Key} {xs:List D} {vs:List V} {k:Key},ks.length=vs.length→RepDs G ρ H M xs vs→(∀ d,valD ks xs k=some d→∃ v,valV (ks.zip vs) k=some v∧RepD G ρ H M d v)∧(valD ks xs k=none→valV (ks.zip vs) k=none)
  |[],xs,vs,k,l,r=>⟨fun d e=>by simp [valD] at e,fun _=>rfl⟩
  | g ::ks,xs,vs,k,l,r=>by
    cases vs with
    |nil=>simp at l
    | cons w vs=>
      cases xs with
      |nil=>cases r
      | cons x xs=>
        obtain ⟨v,us,e,r1,r2⟩:=r
        cases e
        have ih:=val_of (ks:=ks) (xs:=xs) (vs:=vs) (k:=k) (by simpa using l) r2
        by_cases hg:g=k
        · subst hg
          refine ⟨fun d e=>?_,fun e=>?_⟩
          · simp only [valD,List.zip_cons_cons,List.find?_cons,decide_true,Option.map_some,Option.some.injEq] at e
            subst e
            exact ⟨w,by simp [valV,List.find?_cons],r1⟩
          · simp [valD,List.find?_cons] at e
        · have h1:valD (g::ks) (x::xs) k=valD ks xs k:=by simp [valD,List.find?_cons,hg]
          have h2:valV ((g::ks).zip (w::vs)) k=valV (ks.zip vs) k:=by simp [valV,List.find?_cons,hg]
          rw [h1,h2]
          exact ih
theorem put_of: ∀ {ks:List Key} {xs:List D} {vs:List V} {k:Key} {d:D} {v:V},ks.length=vs.length→RepDs G ρ H M xs vs→RepD G ρ H M d v→
    ∃ vs',putK (ks.zip vs) k v=(putD ks xs k d).1.zip vs'∧(putD ks xs k d).1.length=vs'.length∧RepDs G ρ H M (putD ks xs k d).2 vs':=by
  intro ks xs vs k d v l r rd
  have hany:((ks.zip vs).any fun kv=>decide (kv.1=k))=(ks.any fun g=>decide (g=k)):=by
    clear r
    induction ks generalizing vs with
    |nil=>rfl
    | cons g ks ih=>
      cases vs with
      |nil=>simp at l
      |cons w vs=>simp only [List.zip_cons_cons,List.any_cons,ih (by simpa using l)]
  by_cases hk:(ks.any fun g=>decide (g=k))=true
  · refine ⟨List.zipWith (fun g w=>if g=k then v else w) ks vs, ?_, ?_, ?_⟩
    · simp only [putK,hany,hk,if_true,putD]
      clear r hany hk
      induction ks generalizing vs with
      |nil=>rfl
      | cons g ks ih=>
        cases vs with
        |nil=>simp at l
        | cons w vs=>
          simp only [List.zip_cons_cons,List.map_cons,List.zipWith_cons_cons]
          rw [ih (by simpa using l)]
          by_cases hg:g=k<;>simp [hg]
    · simp [putD,hk,l]
    · simp only [putD,hk,if_true]
      clear hany hk
      induction ks generalizing xs vs with
      |nil=>rfl
      | cons g ks ih=>
        cases vs with
        |nil=>simp at l
        | cons w vs=>
          cases xs with
          |nil=>cases r
          | cons x xs=>
            obtain ⟨v',us,e,r1,r2⟩:=r
            cases e
            refine ⟨if g=k then v else w,List.zipWith (fun g w=>if g=k then v else w) ks vs,rfl, ?_,ih (by simpa using l) r2⟩
            by_cases hg:g=k
            · simp only [hg,if_true];exact rd
            · simp only [hg,if_false];exact r1
  · refine ⟨vs++[v], ?_, ?_, ?_⟩
    · simp only [putK,hany,hk,putD,if_false,Bool.false_eq_true]
      rw [List.zip_append l];rfl
    · simp [putD,hk,l]
    · simp only [putD,hk,if_false];exact r.append (.one rd)
end
section
variable {G:GE} {k:Nat} {call:Call} {cc:CC} {W:WX} {X:Cx}
def dAt (d i:D):Option O:=match d with
  | .dic ks xs=>(keyD i).bind fun k=>(valD ks xs k).map .fz
  |_=>none
theorem o_dat (hu:X.A.units+1<cLine):IxR X (r2 G dAt):=by
  intro value slice pins s σ H x y v u Q I rx ry h hs
  obtain ⟨ρ,M,h0,L,d1,d2,o,cp,t1,t2,e,q⟩:=h
  unfold dAt at e
  split at e
  · rename_i ks xs
    simp only [Option.bind_eq_some_iff,Option.map_eq_some_iff] at e
    obtain ⟨kk,ek,d,ed,eo⟩:=e
    subst eo
    obtain ⟨a,vs,ex,hr,l,rd⟩:=t1
    subst ex
    obtain rfl:v=Value.ref a:=rx
    obtain rfl:=key_of' t2 ek
    obtain ⟨w,ew,rw'⟩:=(val_of l rd).1 d ed
    have dg:DGet H a (kV kk) (some w):=.inl ⟨ks.zip vs,kk,hr,rfl,ew.symm⟩
    have hT:=dict_typeIs I dg
    unfold subscriptTail
    refine wpAny_bind ?_
    rw [getitemInPython_of_ne hT.not_modules]
    refine wpAny_bind (wpAny_specialOf hT PySem.F.slot_dict_getitem.lookup ?_)
    have go:wpAny (model X.prog X.w) X.A (subscripted slice false (.ref a) u) (fun r s3=>wpAny (model X.prog X.w) X.A (letTemporaryGo value (.ref a) r >>= fun _=>pure r) (EP X pins σ Q) X.xe s3) X.xe s:=by
      rw [hs]
      exact wpAny_operating (wpAny_mono (d_getItem hu I dg ry fun w' s3 I3 r3=>(show EP X pins σ Q w' s3 from ⟨w,H,I3,r3,q w H (Cf.fz1.mpr ⟨ρ,M,cp,rw'⟩)⟩)) (fun r s3 h3=>wpAny_bind (wpAny_letTemporaryGo (wpAny_pure h3))) fun _ _ x=>x)
    first
      |exact wpAny_pure (wpAny_bind go)
      |exact wpAny_bind (wpAny_pure (wpAny_bind go))
      |exact wpAny_bind go
  · cases e
def dIn (i d:D):Option O:=match d with
  | .dic ks xs=>(keyD i).map fun k=>.fz (.bl (valD ks xs k).isSome)
  |_=>none
def dNotIn (i d:D):Option O:=match d with
  | .dic ks xs=>(keyD i).map fun k=>.fz (.bl (!(valD ks xs k).isSome))
  |_=>none
theorem val_some {ρ:List Addr} {H:Hp} {M:List Addr} {ks:List Key} {xs:List D} {vs:List V} {kk:Key} (l:ks.length=vs.length) (rd:RepDs G ρ H M xs vs):(valV (ks.zip vs) kk).isSome=(valD ks xs kk).isSome:=by
  cases ed:valD ks xs kk with
  |none=>rw [(val_of l rd).2 ed];rfl
  |some d=>obtain ⟨w,ew,_⟩:=(val_of l rd).1 d ed;rw [ew];rfl
theorem o_din (hu:X.A.units+1<cLine):OpR X (compareOp .In) (r2 G dIn):=by
  intro pins s σ H x y v u Q I rx ry h
  obtain ⟨ρ,M,h0,L,d1,d2,o,cp,t1,t2,e,q⟩:=h
  unfold dIn at e
  split at e
  · rename_i ks xs
    simp only [Option.map_eq_some_iff] at e
    obtain ⟨kk,ek,eo⟩:=e
    subst eo
    obtain ⟨a,vs,ex,hr,l,rd⟩:=t2
    subst ex
    obtain rfl:u=Value.ref a:=ry
    obtain rfl:=key_of' t1 ek
    refine d_in hu I (.inl ⟨ks.zip vs,kk,hr,rfl,rfl⟩) rx fun s3 I3=>⟨.bl (valV (ks.zip vs) kk).isSome,H,I3,rfl, ?_⟩
    rw [val_some l rd]
    exact q _ H (cp.bl _)
  · cases e
def dLen:List D→Option O
  |[.dic ks _]=>fI ks.length
  |_=>none
theorem b_dlen:CallR X (.builtin "len") (rN G dLen):=by
  intro pins s σ H xs us Q I r h
  obtain ⟨ρ,M,h0,L,ds,o,cp,t,e,q⟩:=h
  unfold dLen at e
  split at e
  · rename_i ks xs'
    cases e
    obtain ⟨v,ev,t⟩:=t.one
    obtain ⟨a,vs,ex,hr,l,rd⟩:=t
    subst ex
    subst ev
    obtain ⟨u,rfl,ru⟩:=vals1 r
    cases ru
    refine d_len I hr fun t s' I'=>⟨.int (ks.zip vs).length,H,I',⟨t,rfl⟩, ?_⟩
    have:(ks.zip vs).length=ks.length:=by rw [List.length_zip];omega
    rw [this]
    exact q _ H (cp.int _)
  · cases e
end
end Mi
namespace Mi
open PySem PySem.Spec PyProof.Rows L2
section
variable {G:GE} {k:Nat} {call:Call} {cc:CC} {W:WX} {X:Cx}
def mutKD (h:List O) (kk:Key) (d:D):D→Option (List O)
  | .loc n=>match h[n]? with
    |some (.dic ks xs)=>if fitsB ks.length then some (h.set n (.dic (putD ks xs kk d).1 (putD ks xs kk d).2)) else none
    |_=>none
  |_=>none
def mutK (s:S) (kk:Key) (d:D):R→Option S
  | .own (.fz dd)=>(mutKD s.h kk d dd).map fun h=>⟨s.σ,h⟩
  | .own _=>none
  | .bor i=>match s.σ[i]? with
    |some (some (.dic ks xs))=>if fitsB ks.length then some ⟨s.σ.set i (some (.dic (putD ks xs kk d).1 (putD ks xs kk d).2)),s.h⟩ else none
    |some (some (.fz dd))=>(mutKD s.h kk d dd).map fun h=>⟨s.σ,h⟩
    |_=>none
theorem Cf.cellDic {H:Hp} {h:List O} {L:List (O×V)} {n:Nat} {v:V} {ks:List Key} {ds:List D} (cf:Cf G H h ((.fz (.loc n),v)::L)) (hn:h[n]?=some (.dic ks ds)):
    ∃ a vs,v= .ref a∧H a=some (.dK (ks.zip vs))∧ks.length=vs.length∧ds.length=vs.length∧Cf G H h (Fz ds vs++(.fz (.loc n),v)::L):=by
  obtain ⟨a,e,ρ,M,A,hr,cp,a',vs,e',t,l,r,f⟩:=cf.cell hn
  cases e'
  refine ⟨a,vs,e,t,l,r.length, ?_⟩
  have:=(Cf.fz (L:=L) (ds:=ds++[.loc n]) (vs:=vs++[v]) (by simp [r.length])).mpr ⟨ρ,M,cp,r.append (.one (d:=.loc n) ⟨a,e,hr⟩)⟩
  rw [Fz,List.zipWith_append r.length,List.append_assoc] at this
  exact this
theorem Cf.dicO {H:Hp} {h:List O} {L:List (O×V)} {v:V} {ks:List Key} {ds:List D} (cf:Cf G H h ((.dic ks ds,v)::L)): ∃ a vs,v= .ref a∧H a=some (.dK (ks.zip vs))∧ks.length=vs.length∧ds.length=vs.length∧Cf G H h ((.dic ks ds,v)::(Fz ds vs++L)):=by
  obtain ⟨ρ,M,l,ow,n⟩:=cf
  obtain ⟨A,B,o1,o2,pm⟩:=ow.ahead
  obtain ⟨a,vs,e,t,lk,r,f⟩:=o1
  refine ⟨a,vs,e,t,lk,r.length, ?_⟩
  have c2:Cf G H h (Fz ds vs++(.dic ks ds,v)::L):=(Cf.fz r.length).mpr ⟨ρ,M,⟨l,ow,n⟩,r⟩
  exact c2.perm List.perm_middle
theorem reps_split {ρ:List Addr} {H:Hp} {M:List Addr} {xs:List D} {vs:List V} {d:D} {v:V} (l:xs.length=vs.length) (r:RepDs G ρ H M (xs++[d]) (vs++[v])):RepDs G ρ H M xs vs∧RepD G ρ H M d v:=by
  have r0:=RepDs.take xs.length r
  rw [List.take_left,l,List.take_left] at r0
  have r1:=RepDs.drop xs.length r
  rw [List.drop_left,l,List.drop_left] at r1
  obtain ⟨v',r',e',q1,_⟩:=r1
  cases e'
  exact ⟨r0,q1⟩
theorem CfS.mutateK {σr:Sr} {H:Hp} {s s':S} {Φ:List (R×V)} {kk:Key} {r:R} {v:V} {d:D} {yv:V} (c:CfS G σr H s ((r,v)::(.own (.fz d),yv)::Φ)) (e:mutK s kk d r=some s'):
    ∃ p kvs,v= .ref p∧H p=some (.dK kvs)∧kvs.length<sizeLine∧CfS G σr (upd H p (.dK (putK kvs kk yv))) s' Φ:=by
  have bo: ∀ i w,(R.bor i,w)∈Φ→σr[i]?=some (some w):=fun i w q=>c.bo i w (List.mem_cons_of_mem _ (List.mem_cons_of_mem _ q))
  have szl: ∀ {ks:List Key} {vs:List V},fitsB ks.length=true→(ks.zip vs).length<sizeLine:=fun {ks vs} h=>by
    have h1:=of_decide_eq_true h
    have h2:(100001:Nat)≤sizeLine:=by rw [sizeLine_eq];decide
    rw [List.length_zip]
    omega
  have cell : ∀ (dd:D) (h':List O) (L:List (O×V)),Cf G H s.h ((.fz dd,v)::(.fz d,yv)::L)→mutKD s.h kk d dd=some h'→∃ p kvs,v= .ref p∧H p=some (.dK kvs)∧kvs.length<sizeLine∧Cf G (upd H p (.dK (putK kvs kk yv))) h' ((.fz dd,v)::L):=by
    intro dd h' L cf em
    unfold mutKD at em
    split at em
    · rename_i n
      split at em
      · rename_i ks xs hn
        split at em
        · rename_i hfit
          cases em
          obtain ⟨a,vs,ex,hH,l1,l2,cf2⟩:=cf.cellDic hn
          subst ex
          have key:Cf G H s.h (Fz (xs++[d]) (vs++[yv])++(.fz (.loc n),.ref a)::L):=by
            rw [Fz_append l2,List.append_assoc]
            exact cf2.perm (List.Perm.append_left _ (.swap _ _ _))
          refine ⟨a,ks.zip vs,rfl,hH,szl hfit,Cf.putCell (by simp [l2]) key hn (fun d=>by simp) fun ρ M H' e r=>?_⟩
          obtain ⟨r0,r1⟩:=reps_split l2 r
          obtain ⟨vs',z1,z2,z3⟩:=put_of (k:=kk) l1 r0 r1
          exact ⟨a,vs',rfl,by rw [e,z1],z2,z3,rfl⟩
        · cases em
      · cases em
    · cases em
  cases r with
  | own o=>
    cases o with
    | fz dd=>
      simp only [mutK,Option.map_eq_some_iff] at e
      obtain ⟨h',em,eh⟩:=e
      subst eh
      obtain ⟨p,kvs,ev,hH,hz,cf⟩:=cell dd h' (slp s.σ σr++ow Φ) (c.cf.perm (by
        show (slp s.σ σr++(O.fz dd,v)::(O.fz d,yv)::ow Φ).Perm _
        exact List.perm_middle.trans (.cons _ List.perm_middle))) em
      exact ⟨p,kvs,ev,hH,hz,c.sl,bo,cf.drop⟩
    |_=>all_goals cases e
  | bor i =>
    have ev:σr[i]?=some (some v):=c.bo i v (by simp)
    have cfY:Cf G H s.h (slp s.σ σr++(.fz d,yv)::ow Φ):=c.cf
    simp only [mutK] at e
    split at e
    · rename_i ks xs es1
      split at e
      · rename_i hfit
        cases e
        obtain ⟨Xl,Yl,q1,q2⟩:=slp_at es1 ev
        rw [q1] at cfY
        have c1:Cf G H s.h ((.dic ks xs,v)::((.fz d,yv)::(Xl++Yl++ow Φ))):=cfY.perm (by
          rw [show Xl++(O.dic ks xs,v)::Yl++(O.fz d,yv)::ow Φ=Xl++(O.dic ks xs,v)::(Yl++(O.fz d,yv)::ow Φ) by simp]
          refine List.perm_middle.trans (.cons _ ?_)
          rw [←List.append_assoc]
          exact List.perm_middle)
        obtain ⟨a,vs,ex,hH,l1,l2,cf2⟩:=c1.dicO
        subst ex
        have key:Cf G H s.h ((.dic ks xs,.ref a)::(Fz (xs++[d]) (vs++[yv])++(Xl++Yl++ow Φ))):=by
          rw [Fz_append l2,List.append_assoc]
          exact cf2
        refine ⟨a,ks.zip vs,rfl,hH,szl hfit, ?_⟩
        have z3:=key.change (ho:=.dK (putK (ks.zip vs) kk yv)) (o':=.dic (putD ks xs kk d).1 (putD ks xs kk d).2) (by simp [l2]) (fun _ h=>by cases h) fun ρ M H' e r=>by
          obtain ⟨r0,r1⟩:=reps_split l2 r
          obtain ⟨vs',z1,z2,z3⟩:=put_of (k:=kk) l1 r0 r1
          exact ⟨a,vs',rfl,by rw [e,z1],z2,z3,rfl⟩
        refine ⟨⟨by simp [c.sl.len],fun j o' q=>?_⟩,bo, ?_⟩
        · by_cases hj:i=j
          · subst hj;exact ⟨_,ev⟩
          · exact c.sl.at_ j o' (by simpa [List.getElem?_set,hj] using q)
        · show Cf G _ s.h (slp (s.σ.set i (some _)) σr++ow Φ)
          rw [q2]
          refine z3.perm ?_
          rw [List.append_assoc,List.append_assoc]
          exact List.perm_middle.symm
      · cases e
    · rename_i dd es1
      simp only [Option.map_eq_some_iff] at e
      obtain ⟨h',em,eh⟩:=e
      subst eh
      obtain ⟨Xl,Yl,q1,q2⟩:=slp_at es1 ev
      rw [q1] at cfY
      obtain ⟨p,kvs,evv,hH,hz,cf⟩:=cell dd h' (Xl++Yl++ow Φ) (cfY.perm (by
        rw [show Xl++(O.fz dd,v)::Yl++(O.fz d,yv)::ow Φ=Xl++(O.fz dd,v)::(Yl++(O.fz d,yv)::ow Φ) by simp]
        refine List.perm_middle.trans (.cons _ ?_)
        rw [←List.append_assoc]
        exact List.perm_middle)) em
      refine ⟨p,kvs,evv,hH,hz,c.sl,bo, ?_⟩
      rw [q1]
      refine cf.perm ?_
      rw [List.append_assoc,List.append_assoc]
      exact List.perm_middle.symm
    · cases e
def cSetK (me mx mi:E):C:=fun call s=>(me call s).flow fun y s1=>match take s1 y with
  |none=>.bad
  | some (d,s2)=>(mx call s2).flow fun x s3=>(mi call s3).flow fun i s4=>match (peek s4 i).bind keyD with
    | some kk=>(match mutK s4 kk d x with
      |some s5=>.nx s5
      |none=>.bad)
    |none=>.bad
theorem s_setK (g:Good G k call cc W X) {e x i:Expr} {me mx mi:E} {p pos:Pos} (he:PE X e (tE G W call me)) (hx:PE X x (tE G W call mx)) (hi:PE X i (tE G W call mi)):
    PS X (.Assign [.Subscript x i p] e pos) (tS G W call (cSetK me mx mi)):=by
  refine (ps_dput (Nat.lt_of_le_of_lt (Nat.add_le_add_left (by decide) _) g.units) hx hi he sw_sub).of fun En σ H q=>?_
  obtain ⟨s,Φ,nb,c,q⟩:=q
  refine ⟨s,Φ,c,(AftS.flow q).mono fun y s1 a1=>fun yv H1 c1=>?_⟩
  split at a1
  · exact a1.elim
  · rename_i d s2 et
    have c2:=c1.take et
    refine ⟨s2,_,c2,((AftS.flow a1).frame1).mono fun x s3 a3=>fun xv H2 c3=>?_⟩
    refine ⟨s3,_,c3,((AftS.flow a3).frame (K:=[(x,xv),(.own (.fz d),yv)])).mono fun i s4 a4=>fun iv H3 c4=>?_⟩
    split at a4
    · rename_i kk ek
      split at a4
      · rename_i s5 em
        simp only [Option.bind_eq_some_iff] at ek
        obtain ⟨di,e1,e2⟩:=ek
        obtain ⟨ρ,M,cp⟩:=c4.parts
        have hiv:=key_of' (c4.peek (r:=i) (v:=iv) (by simp) e1 cp) e2
        obtain ⟨pp,kvs,ev,hH,hz,fin⟩:=CfS.mutateK c4.drop em
        subst ev
        subst hiv
        exact ⟨pp,_,rfl,.inl ⟨kvs,kk,hH,rfl,hz,rfl⟩,a4 σ _ fin⟩
      · exact a4.elim
    · exact a4.elim
def cSetX0 (me mx mi:E):C:=fun call s=>match cSetL me mx mi call s with
  | .bad=>cSetK me mx mi call s
  |y=>y
theorem s_setX0 (g:Good G k call cc W X) {e x i:Expr} {me mx mi:E} {p pos:Pos} (he:PE X e (tE G W call me)) (hx:PE X x (tE G W call mx)) (hi:PE X i (tE G W call mi)) (hs:notSlice i=true):
    PS X (.Assign [.Subscript x i p] e pos) (tS G W call (cSetX0 me mx mi)):=by
  have h1:=s_setL g (p:=p) (pos:=pos) he hx hi hs
  have h2:=s_setK g (p:=p) (pos:=pos) he hx hi
  refine ⟨fun pins s σ H D I q=>?_⟩
  obtain ⟨st,Φ,nb,c,q⟩:=q
  unfold cSetX0 at q
  cases es:cSetL me mx mi call st with
  |bad=>rw [es] at q;exact h2.run pins s σ H D I ⟨st,Φ,nb,c,q⟩
  |_=>all_goals (rw [es] at q;exact h1.run pins s σ H D I ⟨st,Φ,nb,c,by rw [es];exact q⟩)
def mPairs:List (E×E)→Call→S→Out (List (Key×D))
  |[],_,s=>.ok [] s
  | (mk,mv)::r,call,s=>(mk call s).bind fun x s1=>match (peek s1 x).bind keyD with
    |none=>.bad
    | some kk=>(mv call s1).bind fun y s2=>match take s2 y with
      |none=>.bad
      |some (d,s3)=>(mPairs r call s3).bind fun kds s4=>.ok ((kk,d)::kds) s4
def mDisp (ps:List (E×E)):E:=fun call s=>(mPairs ps call s).bind fun kds s1=>if kds.length≤15 then .ok (.own (.dic (mergeD kds ([],[])).1 (mergeD kds ([],[])).2)) s1 else .bad
end
end Mi
namespace Mi
open PySem PySem.Spec PyProof.Rows L2
section
variable {G:GE} {ρ:List Addr} {H:Hp} {M:List Addr} {d:Addr} {kvs:List (Key×V)} {od:Obj}
abbrev lockH (H:Hp) (d:Addr) (od:Obj) (kvs:List (Key×V)):Hp:=upd H d (.frz od (.dK kvs))
theorem lock_ne {a:Addr} (z:a≠d):lockH H d od kvs a=H a:=upd_ne z
theorem lock_keep (hd:H d=some (.dK kvs)) {a:Addr} {o:HO} (e:H a=some o) (h: ∀ x,o≠.dK x):lockH H d od kvs a=some o:=by
  have:a≠d:=fun z=>by subst z;rw [hd] at e;cases e;exact h _ rfl
  rw [lock_ne this];exact e
theorem lock_rd (hd:H d=some (.dK kvs)) {a:Addr} {u:HO} (r:Rd H a u):Rd (lockH H d od kvs) a u:=by
  by_cases z:a=d
  · subst z
    rcases r with r|⟨o,r⟩
    · rw [hd] at r;cases r;exact .inr ⟨od,upd_same⟩
    · rw [hd] at r;cases r
  · rcases r with r|⟨o,r⟩
    · exact .inl (by rw [lock_ne z];exact r)
    · exact .inr ⟨o,by rw [lock_ne z];exact r⟩
mutual
theorem RepD.lock (hd:H d=some (.dK kvs)): ∀ (x:D) (v:V),RepD G ρ H M x v→RepD G ρ (lockH H d od kvs) M x v
  | .non,v,h=>h
  | .bl b,v,h=>h
  | .int i,v,h=>h
  | .str x,v,h=>h
  | .tup ds,v,h=>by
    obtain ⟨a,vs,e,t,r⟩:=h
    refine ⟨a,vs,e, ?_,RepDs.lock hd ds vs r⟩
    rcases t with ⟨ho,q,i,n⟩|t
    · exact .inl ⟨ho,lock_keep hd q (fun x z=>by subst z;exact i.elim),i,n⟩
    · exact .inr t
  | .lst ds,v,h=>by obtain ⟨a,vs,e,t,n,r⟩:=h;exact ⟨a,vs,e,lock_keep hd t (by simp),n,RepDs.lock hd ds vs r⟩
  | .dic ks ds,v,h=>by obtain ⟨a,vs,e,t,l,n,r⟩:=h;exact ⟨a,vs,e,lock_rd hd t,l,n,RepDs.lock hd ds vs r⟩
  | .ins c fs ds,v,h=>by obtain ⟨a,C,dx,vs,e,g,t,l,n,r⟩:=h;exact ⟨a,C,dx,vs,e,g,lock_keep hd t (by simp),l,n,RepDs.lock hd ds vs r⟩
  | .dct ks ds,v,h=>by obtain ⟨a,bs,vs,e,t,l,fk,n,rk,r⟩:=h;exact ⟨a,bs,vs,e,lock_rd hd t,l,fk,n,RepDs.lock hd ks _ rk,RepDs.lock hd ds vs r⟩
  | .loc n,v,h=>h
  | .fn f,v,h=>h
  | .scr ns,v,h=>by
    obtain ⟨a,e,t|t⟩:=h
    · exact ⟨a,e,.inl ⟨lock_rd hd t.1,t.2⟩⟩
    · exact ⟨a,e,.inr t⟩
  | .ty n,v,h=>h
  | .cls c,v,h=>h
  | .lk o x,v,h=>by obtain ⟨a,e,t,n⟩:=h;exact ⟨a,e,lock_keep hd t (by simp),n⟩
  | .xn c f x,v,h=>by obtain ⟨a,a',C,v',e1,e2,e3,t,n,r⟩:=h;exact ⟨a,a',C,v',e1,e2,e3,lock_keep hd t (by simp),n,RepD.lock hd x v' r⟩
  | .xv c f x,v,h=>by obtain ⟨a,oe,u,a',C,v',e2,e3,ta,na,c1,c2,c3,t,n,r⟩:=h;exact ⟨a,oe,u,a',C,v',e2,e3,lock_keep hd ta (by simp),na,c1,c2,c3,lock_keep hd t (by simp),n,RepD.lock hd x v' r⟩
theorem RepDs.lock (hd:H d=some (.dK kvs)): ∀ (ds:List D) (vs:List V),RepDs G ρ H M ds vs→RepDs G ρ (lockH H d od kvs) M ds vs
  |[],vs,h=>h
  | x::ds,vs,h=>by
    obtain ⟨v,r,e,h1,h2⟩:=h
    exact ⟨v,r,e,RepD.lock hd x v h1,RepDs.lock hd ds r h2⟩
end
theorem Own.lock (hd:H d=some (.dK kvs)) {o:O} {v:V} {F:List Addr} (w:Own G ρ H M o v F) (hF:d∉F):Own G ρ (lockH H d od kvs) M o v F:=by
  cases o with
  |fz x=>exact ⟨RepD.lock hd x v w.1,w.2⟩
  |lst ds=>obtain ⟨a,vs,e,t,r,f⟩:=w;exact ⟨a,vs,e,lock_keep hd t (by simp),RepDs.lock hd ds vs r,f⟩
  | dic ks ds=>
    obtain ⟨a,vs,e,t,l,r,f⟩:=w
    refine ⟨a,vs,e, ?_,l,RepDs.lock hd ds vs r,f⟩
    rw [lock_ne (fun z:a=d=>hF (by rw [f];simp [z]))];exact t
  |ins c fs ds=>obtain ⟨a,C,dx,vs,e,g,t,l,r,f⟩:=w;exact ⟨a,C,dx,vs,e,g,lock_keep hd t (by simp),l,RepDs.lock hd ds vs r,f⟩
  |dct ks ds=>obtain ⟨a,bs,vs,e,t,l,fk,rk,r,f⟩:=w;exact ⟨a,bs,vs,e,lock_keep hd t (by simp [DtO]),l,fk,RepDs.lock hd ks _ rk,RepDs.lock hd ds vs r,f⟩
theorem Owns.lock (hd:H d=some (.dK kvs)): ∀ {L:List (O×V)} {F:List Addr},Owns G ρ H M L F→d∉F→Owns G ρ (lockH H d od kvs) M L F
  |[],F,h,_=>h
  | p::ps,F,h,hF=>by
    obtain ⟨A,B,e,h1,h2⟩:=h
    subst e
    exact ⟨A,B,rfl,h1.lock hd fun z=>hF (List.mem_append_left _ z),Owns.lock hd h2 fun z=>hF (List.mem_append_right _ z)⟩
end
section
variable {G:GE} {k:Nat} {call:Call} {cc:CC} {W:WX} {X:Cx}
theorem CfS.lockD {σr:Sr} {H:Hp} {s:S} {Φ:List (R×V)} {ks:List Key} {xs:List D} {v:V} (c:CfS G σr H s ((.own (.fz (.dic ks xs)),v)::Φ)):
    ∃ d kvs,v= .ref d∧((∃ o,H d=some (.frz o (.dK kvs))∧CfS G σr H s ((.own (.fz (.lk o (.dK kvs))),v)::(.own (.fz (.dic ks xs)),v)::Φ))∨
      (H d=some (.dK kvs)∧∀ od,CfS G σr (lockH H d od kvs) s ((.own (.fz (.lk od (.dK kvs))),v)::(.own (.fz (.dic ks xs)),v)::Φ))):=by
  obtain ⟨ρ,M,cp⟩:=c.parts
  obtain ⟨A,w⟩:=Owns.mem (p:=(O.fz (.dic ks xs),v)) cp.2.1 (List.mem_append_right _ (List.mem_append_right _ (by simp [ow])))
  obtain ⟨a,vs,ev,hr,l,n,rd⟩:=w.1
  have bo: ∀ (o:Obj) (kvs:List (Key×V)) i u,(R.bor i,u)∈(R.own (.fz (.lk o (.dK kvs))),v)::(R.own (.fz (.dic ks xs)),v)::Φ→σr[i]?=some (some u):=fun o kvs i u hu=>by
    rcases List.mem_cons.mp hu with z|z
    · cases z
    · exact c.bo i u z
  refine ⟨a,ks.zip vs,ev, ?_⟩
  rcases hr with hr|⟨o,hr⟩
  · refine .inr ⟨hr,fun od=>⟨c.sl,bo od _, ?_⟩⟩
    have cp':Cp G ρ (lockH H a od (ks.zip vs)) M s.h (slp s.σ σr++ow ((.own (.fz (.dic ks xs)),v)::Φ)):=⟨cp.1,cp.2.1.lock hr n,cp.2.2⟩
    have q:Cf G (lockH H a od (ks.zip vs)) s.h ((.fz (.lk od (.dK (ks.zip vs))),v)::(slp s.σ σr++ow ((.own (.fz (.dic ks xs)),v)::Φ))):=Cf.fz1.mpr ⟨ρ,M,cp',a,ev,upd_same,n⟩
    exact q.perm List.perm_middle.symm
  · refine .inl ⟨o,hr,c.sl,bo o _, ?_⟩
    have q:Cf G H s.h ((.fz (.lk o (.dK (ks.zip vs))),v)::(slp s.σ σr++ow ((.own (.fz (.dic ks xs)),v)::Φ))):=Cf.fz1.mpr ⟨ρ,M,cp,a,ev,hr,n⟩
    exact q.perm List.perm_middle.symm
theorem lk_see {σr:Sr} {H:Hp} {s:S} {Φ:List (R×V)} {ks:List Key} {xs:List D} {d:Addr} {o:Obj} {kvs:List (Key×V)} (c:CfS G σr H s ([(.own (.fz (.lk o (.dK kvs))),.ref d),(.own (.fz (.dic ks xs)),.ref d)]++Φ)):
    H d=some (.frz o (.dK kvs))∧∃ ρ M vs,Cp G ρ H M s.h (slp s.σ σr++ow ([(.own (.fz (.lk o (.dK kvs))),.ref d),(.own (.fz (.dic ks xs)),.ref d)]++Φ))∧kvs=ks.zip vs∧ks.length=vs.length∧RepDs G ρ H M xs vs:=by
  obtain ⟨ρ,M,cp⟩:=c.parts
  obtain ⟨_,w1⟩:=Owns.mem (p:=(O.fz (.lk o (.dK kvs)),V.ref d)) cp.2.1 (List.mem_append_right _ (List.mem_append_right _ (by simp [ow])))
  obtain ⟨_,w2⟩:=Owns.mem (p:=(O.fz (.dic ks xs),V.ref d)) cp.2.1 (List.mem_append_right _ (List.mem_append_right _ (by simp [ow])))
  obtain ⟨a,ea,hH,_⟩:=w1.1
  cases ea
  obtain ⟨b,vs,eb,hr,l,_,rd⟩:=w2.1
  cases eb
  refine ⟨hH,ρ,M,vs,cp, ?_,l,rd⟩
  rcases hr with hr|⟨o',hr⟩
  · rw [hH] at hr;cases hr
  · rw [hH] at hr;cases hr;rfl
theorem walks_keys {ks:List Key} {xs:List D} {d:Addr} {o:Obj} {kvs:List (Key×V)} (hl:ks.length=xs.length):Walks G (Itk d o kvs) [(.own (.fz (.lk o (.dK kvs))),.ref d),(.own (.fz (.dic ks xs)),.ref d)] (ks.map kD):=by
  intro σr H s Φ c
  obtain ⟨hH,ρ,M,vs,cp,rfl,l,rd⟩:=lk_see c
  have lz:(ks.zip vs).length=ks.length:=by rw [List.length_zip,l];exact Nat.min_self _
  refine ⟨fun i hi=>⟨hH,by rw [lz];simpa using hi⟩,fun i d' x H' ei y=>?_,⟨hH,by rw [lz];simp⟩⟩
  obtain ⟨rfl,kk,v,hk,rfl⟩:=y
  rw [List.getElem?_zip_eq_some] at hk
  rw [List.getElem?_map,hk.1] at ei
  cases ei
  refine CfS.cpMore (K:=[]) c cp ?_
  cases kk<;>rfl
theorem _root_.L2.PE.locks {e:Expr} {t:TE} (h:PE X e t):PE X e (fun σ H Q=>t σ H fun x H1=>Q x H1∨∃ d u,H1 d=some u∧Mut (some u)∧∀ od,Q x (upd H1 d (.frz od u))):=by
  refine ⟨fun pins s σ H Q I q=>thn (h.run pins s σ H _ I q) fun v s1 ⟨x,H1,I1,rx,z⟩=>?_⟩
  rcases z with z|⟨d,u,hd,mu,z⟩
  · exact ⟨x,H1,I1,rx,z⟩
  · obtain ⟨od,I2⟩:=I1.lock hd mu
    exact ⟨x,_,I2,rx,z od⟩
def iVals_ (m:E):Iv:=fun call s=>(m call s).bind fun x s1=>match take s1 x with
  |some (.dic _ xs,s2)=>.ok xs s2
  |_=>.bad
def iKeys_ (m:E):Iv:=fun call s=>(m call s).bind fun x s1=>match take s1 x with
  |some (.dic ks xs,s2)=>if ks.length=xs.length then .ok (ks.map kD) s2 else .bad
  |_=>.bad
theorem i_keys {tg e:Expr} {m:E} (he:PE X e (tE G W call m)):PI X tg e (tI G W call (iKeys_ m)):=by
  refine (pi_keys (tg:=tg) he.locks).of fun σ H Rr q=>?_
  obtain ⟨s,Φ,c,a⟩:=q
  refine ⟨s,Φ,c,(Aft.bind a).mono fun x s1 a1=>fun v H1 c1=>?_⟩
  split at a1
  · rename_i ks xs s2 et
    split at a1
    · rename_i hln
      have c2:=c1.take et
      obtain ⟨d,kvs,rfl,⟨o,hH,c3⟩|⟨hH,c3⟩⟩:=c2.lockD
      · exact .inl ⟨d,o,rfl,.inl ⟨kvs,hH,a1 _ _ _ (fun i u z=>by simp at z) c3 (walks_keys hln)⟩⟩
      · exact .inr ⟨d,.dK kvs,hH,trivial,fun od=>⟨d,od,rfl,.inl ⟨kvs,upd_same,a1 _ _ _ (fun i u z=>by simp at z) (c3 od) (walks_keys hln)⟩⟩⟩
    · exact a1.elim
  · exact a1.elim
def iAny (m:E):Iv:=fun call s=>match iVal m call s with
  | .bad=>iKeys_ m call s
  |y=>y
theorem i_any (g:Good G k call cc W X) {tg e:Expr} {m:E} (he:PE X e (tE G W call m)):PI X tg e (tI G W call (iAny m)):=by
  have h1:=i_val (tg:=tg) g he
  have h2:=i_keys (tg:=tg) he
  refine ⟨fun pins s σ H R I q=>?_⟩
  obtain ⟨st,Φ,c,q⟩:=q
  unfold iAny at q
  cases es:iVal m call st with
  |bad=>rw [es] at q;exact h2.run pins s σ H R I ⟨st,Φ,c,q⟩
  |_=>all_goals (rw [es] at q;exact h1.run pins s σ H R I ⟨st,Φ,c,by rw [es];exact q⟩)
end
end Mi
namespace Mi
open PySem PySem.Spec PyProof.Rows L2
section
open PySem.W PySem.Calls
variable {prog:Program} {w:World} {A:Around} {E:Value→Shared→Prop} {s:Shared} {K:Frag} {x C:Addr} {ox od:Obj}
theorem x_class {Q:Option Value→Shared→Prop} (T:ExcC K C) (Kin:K.In s.heap) (In:InstAt s.heap x ox C (some od)) (nxt:Q (some (.ref C)) {s with toks:=s.toks+1}):wpAny (model prog w) A (getAttr? (.ref x) "__class__") Q E s:=by
  have found:findObj K C (some od) "__class__"=some (.bind (.builtin "getset_descriptor.__get__") (.builtin "object.__class__")):=
    findObj_data (by obtain ⟨cd,hc,_⟩:=any_some T.hd;rw [hc];rfl) T.ha T.hn T.ht
  obtain ⟨hp,g,d,t,os⟩:=s
  have isT:=In.type (M:=model prog w)
  have isG:=looks_findIn (M:=model prog w) Kin T.hg
  have noG:=looks_findIn (M:=model prog w) Kin T.hk
  have isF:=looks_find (M:=model prog w) Kin In found
  have isB:Looks (model prog w) hp (isInstance (.ref x) (.type "BaseException")) true:=isT.andThen (looks_subIn Kin T.hs)
  have n1:(onTheHeap (Value.ref C)&&Value.builtin "BaseException.__getattribute__"==Value.builtin "object.__getattribute__")=false:=by
    rw [show (Value.builtin "BaseException.__getattribute__"==Value.builtin "object.__getattribute__")=false by decide+kernel];rfl
  unfold getAttr? getAttrBy? getAttrBy
  refine wpAny_bind (wpAny_mkText (wpAny_bind (wpAny_attempt (wpAny_holding (wpAny_bind (isT.at (wpAny_bind (isG.at ?_))))))))
  show wpAny _ _ (if (onTheHeap (Value.ref C)&&Value.builtin "BaseException.__getattribute__"==Value.builtin "object.__getattribute__")=true then _ else _) _ _ _
  rw [n1,if_neg Bool.false_ne_true]
  unfold getAttrByItsOwn hookBefore
  refine wpAny_bind ?_
  rw [if_pos (show onTheHeap (Value.ref C)=true from rfl)]
  refine noG.at ?_
  refine wpAny_bind (wpAny_attempt (wpAny_holding ?_))
  unfold callGetattribute
  rw [if_neg (show ¬(false&&onTheHeap (Value.builtin "BaseException.__getattribute__"))=true from Bool.false_ne_true)]
  unfold boundAndCalled
  rw [PySem.F.excAttr_ValueError.ga.bind (.ref x)]
  refine wpAny_bind (wpAny_pure ?_)
  show wpAny _ _ (call (.builtin "BaseException.__getattribute__") [.ref x,.str "__class__" t]) _ _ _
  refine wpAny_call (codeAny_call_builtin PySem.F.excAttr_ValueError.ga.plain PySem.F.entry_bexc_ga (@check_slot (model prog w) _ _ ⟨hp,g,d,t+1,os⟩ "BaseException.__getattribute__" "BaseException" "__getattribute__" (.ref x) [.str "__class__" t] [] _ (by decide+kernel) (by decide+kernel) isB
    (PySem.F.args_bexc_ga (.ref x) (.str "__class__" t)) ?_))
  unfold Builtin.«object.__getattribute__»
  refine wpAny_bind (wpAny_of_eq (a:=((Value.ref x:Value),[Value.str "__class__" t])) (by first|rfl|(simp only [slotArgs];rfl)) ?_)
  refine wpAny_bind (wpAny_pure (wpAny_bind (isT.at (wpAny_bind (isF.at ?_)))))
  show wpAny _ _ (holding [Value.builtin "object.__class__"] (call (.builtin "getset_descriptor.__get__") [.builtin "object.__class__",.ref x,.ref C]) >>= ret) _ _ _
  refine wpAny_bind (wpAny_holding (wpAny_call (class_get (s:=⟨hp,g,d,t+1,os⟩) (ox:=ox) (od:=some od) Kin In T.hm ?_)))
  refine wpAny_pure ?_
  show wpAny _ _ (handedOut (.ref C)) _ _ _
  rw [handedOut_of (v:=.ref C) rfl]
  first
    |exact wpAny_pure (wpAny_pure nxt)
    |exact wpAny_pure nxt
    |exact wpAny_pure (wpAny_bind (wpAny_pure (wpAny_pure nxt)))
theorem x_kit (T:ExcC K C):KitX K (.ref x) (.ref C) (fun h=>InstAt h x ox C (some od)):=by
  obtain ⟨cd,hc,_⟩:=any_some T.hd
  refine ⟨fun _ _ _ In=>In.type,fun _ _ Kin _=>?_,fun h tp dd its n sl Kin htp=>?_,fun Kin In nxt=>x_class T Kin In nxt⟩
  · unfold clsIn at hc
    split at hc
    · rename_i c' d' cd' sl' ho
      intro A' Q' E' s' kp q
      unfold isType loadHead
      exact wpAny_bind (wpAny_loadPart (kp _ _ (Kin _ _ ho)) (wpAny_pure q))
    · cases hc
  · refine Bool.eq_false_iff.mpr fun q=>?_
    obtain rfl:C=tp:=Value.ref.inj (beq_iff_eq.mp q)
    unfold clsIn at hc
    split at hc
    · rename_i c' d' cd' sl' ho
      have z:=(Kin _ _ ho).symm.trans htp
      cases z
    · cases hc
end
section
variable {G:GE} {k:Nat} {call:Call} {cc:CC} {W:WX} {X:Cx}
def isxD (tb:List (Str×Str×Bool)) (nm:Str):D→Option O
  | .xn c _ _=>(tb.find? fun p=>decide (p.1=c)&&decide (p.2.1=nm)).map fun p=>.fz (.bl p.2.2)
  | .xv c _ _=>(tb.find? fun p=>decide (p.1=c)&&decide (p.2.1=nm)).map fun p=>.fz (.bl p.2.2)
  |_=>none
theorem pe_nm {nm:Str} {p2:Pos} (hg:Gl X nm) (hd:(nm==("__debug__":Str))=false):PE X (.Name nm p2) (fun _ H Q=> ∃ u cv,RelV u cv∧((X.mg nm=some cv)∨(X.mg nm=none∧bootBuiltins nm=some cv∧nm≠"__name__"))∧Q u H):=by
  refine ⟨fun pins s σ H Q I h=>?_⟩
  obtain ⟨u,cv,r,hm|⟨hm,hb,hn⟩,q⟩:=h
  · exact ld_glob I hg hm ⟨u,H,I,r,q⟩ hd
  · exact ld_blt I hg hm hb ⟨u,H,I,r,q⟩ hn hd
theorem call_isX:CallR X (.builtin "isinstance") (fun xs H Q=> ∃ (a:Addr) (oe:Obj) (C dd:Addr) (fs:List (Str×V)) (c:V) (cv:Value) (b:Bool),xs=[.ref a,c]∧((a,oe)∈X.pn∨∃ u,H a=some (.frz oe u))∧oe.cls= .ref C∧oe.dict=some dd∧(∃ vs,oe.data= .fields vs)∧H dd=some (.xd fs)∧ExcC X.K C∧
    (∀ w,RelV c w→w=cv)∧PySem.W.kitOne X.K (.ref C) cv=some b∧Q (.bl b) H):=by
  intro pins s σ H xs us Q I r h
  obtain ⟨a,oe,C,dd,fs,c,cv,b,rfl,hm,hc,hdct,⟨vs,hdat⟩,hH,T,hcv,e,q⟩:=h
  obtain ⟨u1,u2,rfl,ra,rb⟩:=vals2 r
  obtain rfl:u1=Value.ref a:=ra
  obtain rfl:=hcv _ rb
  have atA:s.heap.get? a=some oe:=by
    rcases hm with hm|⟨u,hu⟩
    · exact (I.pin (a,oe) (List.mem_append_left _ hm)).1
    · exact (show ObjOk X.prog X.w H s.heap a (.frz oe u) from I.hok a _ hu).1
  have hx:ObjOk X.prog X.w H s.heap dd (.xd fs):=I.hok dd _ hH
  obtain ⟨mA,hns,_⟩:=hx
  obtain ⟨od,ho,_⟩:=lookIn_ns hns
  have In:PySem.W.InstAt s.heap a oe C (some od):=⟨atA,hc,by unfold PySem.W.notCls;rw [hdat]<;>rfl,by rw [hdct];exact ho⟩
  exact PySem.W.kia_one (x_kit T) I.kIn In e (fun z=>nomatch z) fun tk=>⟨.bl b,H,I.kept (t':=tk) fun _ _ z=>z,rfl,q⟩
theorem e_isx (g:GoodB G cc X) {e:Expr} {m:E} {nm:Str} {p p2 pos:Pos} (he:PE X e (tE G W call m)) (hn:notStar e=true) (hi:cc.sc.names.lookup ("isinstance":Str)=some .globalImplicit) (hg:cc.sc.names.lookup nm=some .globalImplicit) (hd:(nm==("__debug__":Str))=false):
    PE X (.Call (.Name "isinstance" p) [e,.Name nm p2] [] pos) (tE G W call (mOne (isxD cc.isx nm) m)):=by
  have mi:X.mg "isinstance"=none:=g.blt _ (by decide)
  refine (pe_callB call_isX (g.gl hi) mi (show bootBuiltins "isinstance"=some (.builtin "isinstance") by decide+kernel) (pa_cons he (pa_cons (pe_nm (p2:=p2) (g.gl hg) hd) pa_nil) (star_cons hn)) (by decide) (by decide) (star_cons hn) rfl).of fun σ H Q q=>?_
  obtain ⟨st,Φ,c,q⟩:=tOne q
  refine ⟨st,Φ,c,q.mono fun y s1 z=>fun v H1 c1=>?_⟩
  obtain ⟨ρ,M,h0,L,d,o,cp,t,ef,fin⟩:=z v H1 c1
  unfold isxD at ef
  split at ef
  · rename_i cn f d1
    simp only [Option.map_eq_some_iff] at ef
    obtain ⟨tr,ht,eo⟩:=ef
    subst eo
    have hmem:=List.mem_of_find?_eq_some ht
    have hprop:=List.find?_some ht
    simp only [Bool.and_eq_true,decide_eq_true_eq] at hprop
    obtain ⟨a,a',C,v',hcur,ex,hE,hH,_,rv⟩:=t
    subst ex
    obtain ⟨oe,hm,hc,hdct,hdat⟩:=g.cur a a' C hcur
    obtain ⟨t1,t2,t3⟩:=tr
    simp only at hprop hmem
    obtain ⟨rfl,rfl⟩:=hprop
    obtain ⟨T,u,cv,ru,rall,hv,kit⟩:=g.isx _ C f _ _ hE hmem
    exact ⟨u,cv,ru,hv,a,oe,C,a',_,u,cv,t3,rfl,.inl hm,hc,hdct,hdat,hH,T,rall,kit,fin _ H1 (cp.bl _)⟩
  · rename_i cn f d1
    simp only [Option.map_eq_some_iff] at ef
    obtain ⟨tr,ht,eo⟩:=ef
    subst eo
    have hmem:=List.mem_of_find?_eq_some ht
    have hprop:=List.find?_some ht
    simp only [Bool.and_eq_true,decide_eq_true_eq] at hprop
    obtain ⟨a,oe,u0,a',C,v',ex,hE,hA,_,hc,hdct,hdat,hH,_,rv⟩:=t
    subst ex
    obtain ⟨t1,t2,t3⟩:=tr
    simp only at hprop hmem
    obtain ⟨rfl,rfl⟩:=hprop
    obtain ⟨T,u,cv,ru,rall,hv,kit⟩:=g.isx _ C f _ _ hE hmem
    exact ⟨u,cv,ru,hv,a,oe,C,a',_,u,cv,t3,rfl,.inr ⟨u0,hA⟩,hc,hdct,hdat,hH,T,rall,kit,fin _ H1 (cp.bl _)⟩
  · cases ef
def kitAnyB (t:String):List String→Option Bool
  |[]=>some false
  | c::r=>match kitB t c with
    |some true=>some true
    |some false=>kitAnyB t r
    |none=>none
def isiT (ts:List String) (d:D):Option O:=(tyD d).bind fun t=>(kitAnyB t ts).map fun b=>.fz (.bl b)
inductive TyNames (cc:CC):List Expr→List String→Prop
  |nil:TyNames cc [] []
  |cons {x:Str} {p:Pos} {t:String} {es:List Expr} {ts:List String} (hb:x∈blts) (hg:cc.sc.names.lookup x=some .globalImplicit) (hv:bootBuiltins x=some (.type t)) (n1:x≠"__name__") (n2:(x==("__debug__":Str))=false) (r:TyNames cc es ts):TyNames cc (.Name x p::es) (t::ts)
def repS (x:Str) (n:Int):Str:=if (n==1||x.length==0)=true then x else ⟨(List.replicate n.toNat x.cps).foldl (· ++ ·) #[]⟩
theorem fold_size (a:Array Nat): ∀ (m:Nat) (acc:Array Nat),((List.replicate m a).foldl (· ++ ·) acc).size=acc.size+m*a.size
  |0,acc=>by simp
  | m+1,acc=>by
    rw [List.replicate_succ,List.foldl_cons,fold_size a m,Array.size_append,Nat.succ_mul]
    omega
theorem op_repS:OpR X (binaryOp .Mult) (fun x y H Q=> ∃ i n,x= .str i∧y= .int n∧1≤n∧n≤1000∧i.length≤1000∧Q (.str (repS i n)) H):=by
  intro pins s σ H x y v u Q I rx ry h
  obtain ⟨i,n,rfl,rfl,h1,h2,h3,q⟩:=h
  obtain ⟨t,rfl⟩:=rx
  obtain ⟨t',rfl⟩:=ry
  have hz:i.length*n.toNat≤1000*1000:=Nat.mul_le_mul h3 (by omega)
  refine P.mul_str (by rw [decide_eq_false (by omega),decide_eq_false (by omega)];rfl) (fun _ _=>?_) (fun _ _=>?_) ?_
  · have hm:(i.length:Int)*n≤1000*1000:=Int.mul_le_mul (by omega) h2 (by omega) (by omega)
    have:=(Int.le_ediv_iff_mul_le (a:=(i.length:Int)) (b:=2^63 - 1) (c:=n) (by omega)).mpr (by omega)
    omega
  · have hq:(1000000:Nat)≤sizeLine:=by decide
    exact decide_eq_false (by omega)
  · rw [if_neg (by omega)]
    unfold repS at q
    split
    · rename_i hc
      rw [if_pos hc] at q
      exact ⟨.str i,H,I,⟨_,rfl⟩,q⟩
    · rename_i hc
      rw [if_neg hc] at q
      refine ⟨?_,⟨.str _,H,I.tok _,⟨_,rfl⟩,q⟩⟩
      have hq:(1000000:Nat)≤sizeLine:=by decide
      show ((List.replicate n.toNat i.cps).foldl (· ++ ·) #[]).size≤sizeLine
      rw [fold_size]
      have:n.toNat*i.cps.size=i.length*n.toNat:=Nat.mul_comm _ _
      simp only [Array.size_empty]
      omega
def mulT:D→D→Option O
  | .tup a,.int j=>if a≠[]∧2≤j∧j≤1000∧a.length≤1000 then some (.fz (.tup (List.replicate j.toNat a).flatten)) else none
  | .str x,.int j=>if 1≤j∧j≤1000∧x.length≤1000 then some (.fz (.str (repS x j))) else none
  |_,_=>none
theorem o_mulT (hK:X.K=G.K) (hb:G.bare=false):OpR X (binaryOp .Mult) (r2 G mulT):=(op_repT.or op_repS).imp fun x y H Q ⟨ρ,M,h,L,d1,d2,o,cp,t1,t2,e,q⟩=>by
  unfold mulT at e
  split at e
  · rename_i a j
    split at e
    · rename_i hc
      cases e
      obtain ⟨p,vs,rfl,t,r⟩:=t1
      obtain rfl:=(show y=_ from t2)
      refine .inl ⟨p,j,vs,rfl,rfl,by rw [hK];exact t.sq,fun z=>?_,hc.2.1,hc.2.2.1,by rw [←r.length];exact hc.2.2.2,fun p' hp=>q _ _ ?_⟩
      · subst z
        have:=r.length
        exact hc.1 (List.length_eq_zero_iff.mp (by simpa using this))
      · exact cp.tupNew (r.flatten_rep _) hp ⟨hb,rfl⟩
    · cases e
  · rename_i a j
    split at e
    · rename_i hc
      cases e
      obtain rfl:=(show x=_ from t1)
      obtain rfl:=(show y=_ from t2)
      exact .inr ⟨a,j,rfl,rfl,hc.1,hc.2.1,hc.2.2,q _ _ (cp.cf.simple rfl)⟩
    · cases e
  · cases e
end
end Mi
namespace Mi
open PySem PySem.Spec PyProof.Rows L2
def or2 (f g:D→D→Option O) (d e:D):Option O:=match f d e with
  |some o=>some o
  |none=>g d e
def orN (f g:List D→Option O) (ds:List D):Option O:=match f ds with
  |some o=>some o
  |none=>g ds
section
variable {G:GE} {k:Nat} {call:Call} {cc:CC} {W:WX} {X:Cx}
theorem r2_or {f g:D→D→Option O} {x y:V} {H:Hp} {Q:VK} (h:r2 G (or2 f g) x y H Q):r2 G f x y H Q∨r2 G g x y H Q:=by
  obtain ⟨ρ,M,h0,L,d1,d2,o,cp,t1,t2,e,q⟩:=h
  unfold or2 at e
  split at e
  · rename_i o' ef
    cases e
    exact .inl ⟨ρ,M,h0,L,d1,d2,o,cp,t1,t2,ef,q⟩
  · exact .inr ⟨ρ,M,h0,L,d1,d2,o,cp,t1,t2,e,q⟩
theorem o_or {F:Value→Value→Sem Value} {f g:D→D→Option O} (h1:OpR X F (r2 G f)) (h2:OpR X F (r2 G g)):OpR X F (r2 G (or2 f g)):=(h1.or h2).imp fun _ _ _ _ h=>r2_or h
theorem ix_or {f g:D→D→Option O} (h1:IxR X (r2 G f)) (h2:IxR X (r2 G g)):IxR X (r2 G (or2 f g)):=(h1.or h2).imp fun _ _ _ _ h=>r2_or h
theorem b_or {F:Value} {f g:List D→Option O} (h1:CallR X F (rN G f)) (h2:CallR X F (rN G g)):CallR X F (rN G (orN f g)):=by
  intro pins s σ H xs us Q I r h
  obtain ⟨ρ,M,h0,L,ds,o,cp,t,e,q⟩:=h
  unfold orN at e
  split at e
  · rename_i o' ef
    cases e
    exact h1 pins s σ H xs us Q I r ⟨ρ,M,h0,L,ds,o,cp,t,ef,q⟩
  · exact h2 pins s σ H xs us Q I r ⟨ρ,M,h0,L,ds,o,cp,t,e,q⟩
abbrev atX0:D→D→Option O:=or2 atD dAt
abbrev inX0:D→D→Option O:=or2 inD dIn
abbrev notInX0:D→D→Option O:=or2 notInD dNotIn
abbrev mulX:D→D→Option O:=or2 mulD mulT
abbrev lenX:List D→Option O:=orN lenD dLen
theorem hu_of' (h:X.A.units+64<cLine):X.A.units+1<cLine:=Nat.lt_of_le_of_lt (Nat.add_le_add_left (by decide) _) h
end
end Mi
namespace Mi
open PySem PySem.Spec PyProof.Rows L2
def bin2 (f:Call→S→R→R→Out R) (a b:E):E:=fun call s=>(a call s).bind fun x s1=>(b call s1).bind fun y s2=>f call s2 x y
def rB (G:GE) (W:WX) (call:Call) (f:Call→S→R→R→Out R) (σ:Sr):R2:=fun xv yv H Q=> ∃ s Φ x y,CfS G σ H s ((y,yv)::(x,xv)::Φ)∧Aft G W σ Φ (PV G σ Φ Q) (f call s x y)
section
variable {G:GE} {W:WX} {call:Call} {X:Cx}
theorem tBin2 {f:Call→S→R→R→Out R} {a b:E} {σ:Sr} {H:Hp} {Q:VK} (h:tE G W call (bin2 f a b) σ H Q):tE G W call a σ H fun x H1=>tE G W call b σ H1 fun y H2=>rB G W call f σ x y H2 Q:=by
  obtain ⟨s,Φ,c,h⟩:=h
  refine ⟨s,Φ,c,(Aft.bind h).mono fun x s1 h1=>fun v1 H1 c1=>⟨s1,_,c1,((Aft.bind h1).frame1).mono fun y s2 h2=>fun v2 H2 c2=>?_⟩⟩
  exact ⟨s2,Φ,x,y,c2,h2⟩
def OpS (X:Cx) (f:Value→Value→Sem Value) (r:Sr→R2):Prop:=
  ∀ (pins:List (Addr×Obj)) (s:Shared) (σ:Sr) (H:Hp) (x y:V) (v u:Value) (Q:VK),Inv X pins σ H s→RelV x v→RelV y u→r σ x y H Q→wpAny (model X.prog X.w) X.A (f v u) (EP X pins σ Q) X.xe s
theorem e_cmp2 {f:Call→S→R→R→Out R} {op:CmpOp} {a b:Expr} {ma mb:E} {pos:Pos} (ho:OpS X (compareOp op) (rB G W call f)) (ha:PE X a (tE G W call ma)) (hb:PE X b (tE G W call mb)) (hm:behindInMarks op b=false):PE X (.Compare a [op] [b] pos) (tE G W call (bin2 f ma mb)):=
  ⟨fun pins s σ H Q I h=>wpAny_Compare1 (binT ha hb I (tBin2 h) fun v u s2 x y H2 I2 rx ry q=>ho pins s2 σ H2 x y v u Q I2 rx ry q) hm⟩
theorem t_cmp2 {f:Call→S→R→R→Out R} {op:CmpOp} {a b:Expr} {ma mb:E} {pos:Pos} (ho:OpS X (compareOp op) (rB G W call f)) (ha:PE X a (tE G W call ma)) (hb:PE X b (tE G W call mb)) (hm:behindInMarks op b=false):PT X (.Compare a [op] [b] pos) (tB_ G W call (bCmp (bin2 f ma mb))):=by
  refine ⟨fun pins s σ H Q I q=>?_⟩
  obtain ⟨st,Φ,c,a⟩:=q
  have h:tE G W call (bin2 f ma mb) σ H fun x H'=> ∃ k,x= .bl k∧Q k H':=⟨st,Φ,c,(Aft.bind a).mono fun x s1 a1=>fun v H1 c1=>by
    obtain ⟨b,e1,q⟩:=Aft.lift a1
    simp only [isB,Option.bind_eq_some_iff] at e1
    obtain ⟨d,e2,e3⟩:=e1
    obtain ⟨ρ,M,cp⟩:=c1.parts
    have r:=c1.peek (v:=v) (by simp) e2 cp
    split at e3
    · rename_i b'
      simp only [Option.some.injEq] at e3
      subst e3
      exact ⟨b',r,q H1 c1.drop⟩
    · cases e3⟩
  refine wpAny_isTrue_Compare1 (thn (ha.run pins s σ H _ I (tBin2 h)) fun v s1 ⟨x,H1,I1,r1,q1⟩=>thn (hb.run pins s1 σ H1 _ I1 q1) fun u s2 ⟨y,H2,I2,r2,q2⟩=>
    thn (ho pins s2 σ H2 x y v u _ I2 r1 r2 q2) fun c s3 ⟨z,H3,I3,r3,k,e,q3⟩=>?_) hm
  subst e
  cases r3
  exact wpAny_truthy_bool ⟨H3,I3,q3⟩
end
def postOut (post:O→Option O) (σ:List (Option O)):Res→Out R
  | .ok o h=>match post o with
    |some o'=>.ok (.own o') ⟨σ,h⟩
    |none=>.bad
  | .exc c d h=>.exc c d ⟨σ,h⟩
  | .bad=>.bad
def spM1 (ml:List (Str×Str)) (m:Str) (post:O→Option O) (call:Call) (s:S) (x y:R):Out R:=match peek s x with
  | some (.ins c _ _)=>if (c,m)∈ml then (match take s x with
    |none=>.bad
    | some (d,s1)=>match take s1 y with
      |none=>.bad
      |some (e,s2)=>postOut post s2.σ (call (mkey c m) [d,e] s2.h)) else .bad
  |_=>.bad
section
variable {G:GE} {k:Nat} {call:Call} {cc:CC} {W:WX} {X:Cx}
def isIns (s:S) (x:R):Bool:=match peek s x with
  |some (.ins _ _ _)=>true
  |_=>false
def pBool (neg:Bool):O→Option O
  | .fz (.bl b)=>some (.fz (.bl (b !=neg)))
  |_=>none
def inF (ml:List (Str×Str)) (neg:Bool):Call→S→R→R→Out R:=fun call s x y=>if isIns s y then spM1 ml "__contains__" (pBool neg) call s y x
  else lift s ((peek s x).bind fun d1=>(peek s y).bind fun d2=>((if neg then notInX0 else inX0) d1 d2).map R.own)
end
end Mi
namespace Mi
open PySem PySem.Spec PyProof.Rows L2
section
variable {G:GE} {k:Nat} {call:Call} {cc:CC} {W:WX} {X:Cx}
def atF (ml:List (Str×Str)):Call→S→R→R→Out R:=fun call s x y=>if isIns s x then spM1 ml "__getitem__" some call s x y
  else lift s ((peek s x).bind fun d1=>(peek s y).bind fun d2=>(atX0 d1 d2).map R.own)
section
variable {prog:Program} {w:World} {A:Around} {E:Value→Shared→Prop} {s:Shared} {K:PySem.W.Frag} {x C f:Addr} {ox:Obj} {od:Option Obj} {b tb:Value}
end
end
end Mi
namespace Mi
open PySem PySem.Spec PyProof.Rows L2
section
variable {G:GE} {k:Nat} {call:Call} {cc:CC} {W:WX} {X:Cx}
def seqD:D→Option (List D)
  | .lst ds=>some ds
  | .tup ds=>some ds
  |_=>none
def aStar (m:E) (r:As):As:=fun call s=>(m call s).bind fun x s1=>match (peek s1 x).bind seqD with
  |some ds=>(r call s1).bind fun es s2=>.ok (ds++es) s2
  |none=>.bad
end
end Mi
namespace Mi
open PySem PySem.Spec PyProof.Rows L2
def lc2L (call:Call) (g:Tg) (tt:B) (m1:Iv) (g1:Tg) (tt1:B) (te:E) (vs vs1:List Nat):List D→List D→S→Out (List D)
  |[],acc,s=>.ok acc s
  | d ::ds,acc,s=>match g (.fz d) s with
    |none=>.bad
    | some s1=>match tt call s1 with
      | .ok true s2=>(match m1 call s2 with
        | .ok es s3=>(match lcL call g1 tt1 te vs1 es acc ⟨wipeO s3.σ vs1,s3.h⟩ with
          | .ok acc' s4=>lc2L call g tt m1 g1 tt1 te vs vs1 ds acc' ⟨wipeO s4.σ vs,s4.h⟩
          |_=>.bad)
        |_=>.bad)
      | .ok false s2=>lc2L call g tt m1 g1 tt1 te vs vs1 ds acc ⟨wipeO s2.σ vs,s2.h⟩
      |_=>.bad
def mLc2 (m:Iv) (g:Tg) (tt:B) (m1:Iv) (g1:Tg) (tt1:B) (te:E) (vs vs1:List Nat):E:=fun call s=>(m call s).bind fun ds s1=>match lc2L call g tt m1 g1 tt1 te vs vs1 ds [] ⟨wipeO s1.σ vs,s1.h⟩ with
  | .ok acc s2=>.ok (.own (.lst acc)) ⟨rst s2.σ s1.σ vs,s2.h⟩
  |_=>.bad
section
variable {G:GE} {k:Nat} {call:Call} {cc:CC} {W:WX} {X:Cx}
theorem lc_in {J:It} {K Ψ:List (R×V)} {ds acc0 acc':List D} {g:Tg} {tt:B} {te:E} {vs:List Nat} {σ:Sr} {H1:Hp} {s1 s':S} {Nx:Hp→Prop} {Dd:Addr} (nk:NoB K) (nΨ:NoB Ψ) (w:Walks G J K ds) (c:CfS G σ H1 s1 (K++((.own (.lst acc0),.ref Dd)::Ψ)))
    (run:lcL call g tt te vs ds acc0 ⟨wipeO s1.σ vs,s1.h⟩= .ok acc' s') (fin: ∀ H,CfS G (L2.wipe σ vs) H s' ((.own (.lst acc'),.ref Dd)::Ψ)→Nx H):
    ∃ Wr:Nat→Nat→Hp→Prop,(∃ m,Wr 0 m H1)∧∀ i m H,Wr i m H→
      (J.stop i H∧Nx H)∨(J.go i H∧∃ Nx1:Hp→Prop,(∀ H',Nx1 H'→∃ m',m'<m∧Wr (i+1) m' H')∧∀ x H',J.yld i H x H'→tGA G vs g x (L2.wipe σ vs) H' fun σ2 H2=>L2.wipe σ2 vs=L2.wipe σ vs∧tB_ G noW call tt σ2 H2 fun b H3=>
        if b=true then tE G noW call te σ2 H3 fun y H4=> ∃ acc,H4 Dd=some (.lst acc)∧acc.length<sizeLine∧Nx1 (upd H4 Dd (.lst (acc++[y]))) else Nx1 H3):=by
  have nΨ2:NoB (K++Ψ):=noB_app nk nΨ
  have nAll: ∀ acc,NoB (K++((R.own (.lst acc),V.ref Dd)::Ψ)):=fun acc=>noB_app nk (noB_cons nΨ)
  let St:List D→S→Hp→Prop:=fun acc s H=>CfS G (L2.wipe σ vs) H s ((.own (.lst acc),.ref Dd)::(K++Ψ))
  refine ⟨fun i m H=>m=ds.length - i∧i≤ds.length∧∃ acc s,St acc s H∧lcL call g tt te vs (ds.drop i) acc s= .ok acc' s',⟨ds.length,by simp,Nat.zero_le _,acc0,_,(c.wipe (nAll acc0) vs).perm List.perm_middle,run⟩, ?_⟩
  rintro i m H ⟨rfl,hi,acc,s,c,a⟩
  have cK:CfS G (L2.wipe σ vs) H s (K++((.own (.lst acc),.ref Dd)::Ψ)):=c.perm List.perm_middle.symm
  obtain ⟨w1,w2,w3⟩:=w _ H s _ cK
  by_cases hlt:i<ds.length
  · refine .inr ⟨w1 i hlt,fun H'=> ∃ acc s,St acc s H'∧lcL call g tt te vs (ds.drop (i+1)) acc s= .ok acc' s',fun H' p'=>⟨ds.length - (i+1),by omega,rfl,hlt,p'⟩,fun x H' y=>?_⟩
    have e:ds.drop i=ds[i]::ds.drop (i+1):=List.drop_eq_getElem_cons hlt
    rw [e] at a
    have c1:=w2 i ds[i] x H' (by simp [hlt]) y
    have c1':CfS G (L2.wipe σ vs) H' s ((.own (.fz ds[i]),x)::((.own (.lst acc),.ref Dd)::(K++Ψ))):=c1.perm (List.Perm.cons _ List.perm_middle)
    simp only [lcL] at a
    cases eg:g (.fz ds[i]) s with
    |none=>simp only [eg] at a;cases a
    | some s2 =>
      simp only [eg] at a
      refine ⟨s,_,.fz ds[i],s2,noB_cons nΨ2,c1',eg,fun σ2 c2 ag=>?_⟩
      have ew:L2.wipe σ2 vs=L2.wipe σ vs:=by rw [ag.wipe,wipe_wipe]
      refine ⟨ew,s2,_,c2, ?_⟩
      cases et:tt call s2 with
      |bad=>simp only [et] at a;cases a
      |exc cn d s3=>simp only [et] at a;cases a
      | ok b s3 =>
        cases b with
        | false=>
          simp only [et] at a
          exact fun H3 c3=>iteF ⟨acc,_,by have:=c3.wipe (noB_cons nΨ2) vs;rw [ew] at this;exact this,a⟩
        | true=>
          simp only [et] at a
          intro H3 c3
          refine iteT ⟨s3,_,c3, ?_⟩
          cases ee:te call s3 with
          |bad=>simp only [ee] at a;cases a
          |exc cn d s4=>simp only [ee] at a;cases a
          | ok r s4=>
            simp only [ee] at a
            intro yv H4 c4
            cases ek:take s4 r with
            |none=>simp only [ek] at a;cases a
            | some q=>
              obtain ⟨d,s5⟩:=q
              simp only [ek] at a
              by_cases hf:fitsB (acc.length+1)=true
              · rw [if_pos hf] at a
                have c5:=c4.take ek
                obtain ⟨us,t,l,c6⟩:=c5.append
                refine ⟨us,t, ?_,acc++[d],⟨wipeO s5.σ vs,s5.h⟩, ?_,a⟩
                · rw [l]
                  exact Nat.lt_of_succ_le (fits hf)
                · have:=c6.wipe (noB_cons nΨ2) vs
                  rw [ew] at this
                  exact this
              · rw [if_neg hf] at a
                cases a
  · have e:i=ds.length:=by omega
    subst e
    rw [List.drop_length] at a
    simp only [lcL,Out.ok.injEq] at a
    obtain ⟨rfl,rfl⟩:=a
    exact .inl ⟨w3,fin H (cK.dropN)⟩
theorem wipe_sub {σ σ2:Sr} {vs vs1:List Nat} (hv: ∀ i∈vs1,i∈vs) (e:L2.wipe σ2 vs=L2.wipe σ vs):L2.wipe (L2.wipe σ2 vs1) vs=L2.wipe σ vs:=by
  rw [←e]
  exact Agree.wipe (σ:=σ2) ⟨wipe_length σ2 vs1,fun i hi=>wipe_out fun z=>hi (hv i z)⟩
theorem lc2_walk {J:It} {K Φ:List (R×V)} {ds:List D} {g:Tg} {tt:B} {m1:Iv} {g1:Tg} {tt1:B} {te:E} {vs vs1:List Nat} {σ:Sr} {H1:Hp} {s1:S} {Q:VK} {Dd:Addr} (hv: ∀ i∈vs1,i∈vs) (nk:NoB K) (bo: ∀ i v,(R.bor i,v)∈Φ→σ[i]?=some (some v)) (w:Walks G J K ds) (c:CfS G σ H1 s1 (K++Φ)) (hD:H1 Dd=none)
    (a:Aft G W σ Φ (PV G σ Φ Q) (match lc2L call g tt m1 g1 tt1 te vs vs1 ds [] ⟨wipeO s1.σ vs,s1.h⟩ with
      | .ok acc s2=>.ok (.own (.lst acc)) ⟨rst s2.σ s1.σ vs,s2.h⟩
      |_=>.bad)):
    ∃ Wr:Nat→Nat→Hp→Prop,(∃ m,Wr 0 m (upd H1 Dd (.lst [])))∧∀ i m H,Wr i m H→
      (J.stop i H∧Q (.ref Dd) H)∨(J.go i H∧∃ Nx:Hp→Prop,(∀ H',Nx H'→∃ m',m'<m∧Wr (i+1) m' H')∧∀ x H',J.yld i H x H'→tGA G vs g x (L2.wipe σ vs) H' fun σ2 H2=>L2.wipe σ2 vs=L2.wipe σ vs∧tB_ G noW call tt σ2 H2 fun b H3=>
        if b=true then tI G noW call m1 σ2 H3 fun J1 H4=> ∃ W1:Nat→Nat→Hp→Prop,(∃ m,W1 0 m H4)∧∀ j k H,W1 j k H→
          (J1.stop j H∧Nx H)∨(J1.go j H∧∃ Nx1:Hp→Prop,(∀ H',Nx1 H'→∃ k',k'<k∧W1 (j+1) k' H')∧∀ x H',J1.yld j H x H'→tGA G vs1 g1 x (L2.wipe σ2 vs1) H' fun σ3 H5=>L2.wipe σ3 vs1=L2.wipe σ2 vs1∧tB_ G noW call tt1 σ3 H5 fun b H6=>
            if b=true then tE G noW call te σ3 H6 fun y H7=> ∃ acc,H7 Dd=some (.lst acc)∧acc.length<sizeLine∧Nx1 (upd H7 Dd (.lst (acc++[y]))) else Nx1 H6)
        else Nx H3):=by
  obtain ⟨Z,p1,ok,back⟩:=slp_wipe c.sl vs
  let Ψ:=K++(ownR Z++ownR (ow Φ))
  have nΨ:NoB Ψ:=noB_app nk (noB_app nob_ownR nob_ownR)
  let St:List D→S→Hp→Prop:=fun acc s H=>CfS G (L2.wipe σ vs) H s ((.own (.lst acc),.ref Dd)::Ψ)
  let Fin:List D→List D→S→Prop:=fun rest acc s=>Aft G W σ Φ (PV G σ Φ Q) (match lc2L call g tt m1 g1 tt1 te vs vs1 rest acc s with
      | .ok acc s2=>.ok (.own (.lst acc)) ⟨rst s2.σ s1.σ vs,s2.h⟩
      |_=>.bad)
  have st0:St [] ⟨wipeO s1.σ vs,s1.h⟩ (upd H1 Dd (.lst [])):=by
    refine ⟨ok,fun i v z=>absurd z (noB_cons nΨ i v), ?_⟩
    have cf:=c.cf.perm (p1.append_right (ow (K++Φ)))
    have cf2:Cf G H1 s1.h (Fz [] []++(slp (wipeO s1.σ vs) (L2.wipe σ vs)++ow Ψ)):=cf.perm (by
      show List.Perm _ (slp (wipeO s1.σ vs) (L2.wipe σ vs)++ow Ψ)
      simp only [Ψ,ow_append,ow_ownR,List.append_assoc]
      exact List.Perm.append_left _ (List.perm_append_comm_assoc _ _ _))
    exact (Cf.newLst rfl cf2 hD).perm List.perm_middle.symm
  refine ⟨fun i m H=>m=ds.length - i∧i≤ds.length∧∃ acc s,St acc s H∧Fin (ds.drop i) acc s,⟨ds.length,by simp,Nat.zero_le _,[],_,st0,a⟩, ?_⟩
  rintro i m H ⟨rfl,hi,acc,s,c,a⟩
  have cK:CfS G (L2.wipe σ vs) H s (K++((.own (.lst acc),.ref Dd)::(ownR Z++ownR (ow Φ)))):=c.perm List.perm_middle.symm
  obtain ⟨w1,w2,w3⟩:=w _ H s _ cK
  by_cases hlt:i<ds.length
  · refine .inr ⟨w1 i hlt,fun H'=> ∃ acc s,St acc s H'∧Fin (ds.drop (i+1)) acc s,fun H' p'=>⟨ds.length - (i+1),by omega,rfl,hlt,p'⟩,fun x H' y=>?_⟩
    have e:ds.drop i=ds[i]::ds.drop (i+1):=List.drop_eq_getElem_cons hlt
    have a':Fin (ds[i]::ds.drop (i+1)) acc s:=by rw [←e];exact a
    have c1:=w2 i ds[i] x H' (by simp [hlt]) y
    have c1':CfS G (L2.wipe σ vs) H' s ((.own (.fz ds[i]),x)::((.own (.lst acc),.ref Dd)::Ψ)):=c1.perm (List.Perm.cons _ List.perm_middle)
    simp only [Fin,lc2L] at a'
    cases eg:g (.fz ds[i]) s with
    |none=>simp only [eg] at a';exact a'.elim
    | some s2 =>
      simp only [eg] at a'
      refine ⟨s,_,.fz ds[i],s2,noB_cons nΨ,c1',eg,fun σ2 c2 ag=>?_⟩
      have ew:L2.wipe σ2 vs=L2.wipe σ vs:=by rw [ag.wipe,wipe_wipe]
      refine ⟨ew,s2,_,c2, ?_⟩
      cases et:tt call s2 with
      |bad=>simp only [et] at a';exact a'.elim
      |exc cn d s3=>simp only [et] at a';exact a'.elim
      | ok b s3=>
        cases b with
        | false=>
          simp only [et] at a'
          exact fun H3 c3=>iteF ⟨acc,_,by have:=c3.wipe (noB_cons nΨ) vs;rw [ew] at this;exact this,a'⟩
        | true=>
          simp only [et] at a'
          intro H3 c3
          refine iteT ⟨s3,_,c3, ?_⟩
          cases em:m1 call s3 with
          |bad=>simp only [em] at a';exact a'.elim
          |exc cn d s4=>simp only [em] at a';exact a'.elim
          | ok es s4=>
            simp only [em] at a'
            intro K1 J1 H4 nk1 c4 ww
            cases er:lcL call g1 tt1 te vs1 es acc ⟨wipeO s4.σ vs1,s4.h⟩ with
            |bad=>simp only [er] at a';exact a'.elim
            |exc cn d s5=>simp only [er] at a';exact a'.elim
            | ok acc' s5=>
              simp only [er] at a'
              refine lc_in nk1 nΨ ww c4 er fun H9 c9=>⟨acc',⟨wipeO s5.σ vs,s5.h⟩, ?_,a'⟩
              have:=c9.wipe (noB_cons nΨ) vs
              rw [wipe_sub hv ew] at this
              exact this
  · have e:i=ds.length:=by omega
    subst e
    have a':Fin [] acc s:=by have:=a;rw [List.drop_length] at this;exact this
    refine .inl ⟨w3,a' (.ref Dd) H ?_⟩
    obtain ⟨p2,ok2⟩:=back s.σ c.sl
    refine ⟨ok2,fun j v z=>?_, ?_⟩
    · rcases List.mem_cons.mp z with z|z
      · cases z
      · exact bo j v z
    · have cf:Cf G H s.h (slp s.σ (L2.wipe σ vs)++(.lst acc,.ref Dd)::ow Ψ):=c.cf
      have cf2:Cf G H s.h (ow K++(slp (rst s.σ s1.σ vs) σ++(.lst acc,.ref Dd)::ow Φ)):=cf.perm (by
        simp only [Ψ,ow_append,ow_ownR]
        refine List.perm_middle.trans ?_
        refine List.Perm.trans (List.Perm.cons _ ?_) (((List.perm_middle).append_left (ow K)).trans List.perm_middle).symm
        refine (List.perm_append_comm_assoc _ _ _).trans (List.Perm.append_left _ ?_)
        rw [←List.append_assoc]
        exact p2.symm.append_right _)
      exact Cf.dropN cf2
theorem e_lc2 (g:Good G k call cc W X) {elt tg it tg1 it1:Expr} {ifs ifs1:List Expr} {scope:Scope} {own:List (Str×Nat)} {vs1:List Nat} {pos:Pos} {m m1:Iv} {t t1:Tg} {mt mt1:B} {me:E} (hi:PI X tg it (tI G W call m)) (ok:BlkOk cc.N cc.sc scope own) (hv: ∀ i∈vs1,i∈own.map (·.2))
    (hg: ∀ (s:Shared) (H:Hp) (C:Addr) (cl:List (Str×Addr)) (fp:List Addr),PG (X.blk s H scope (compEnvC scope cl C X.env) fp) tg (tGA G (own.map (·.2)) t))
    (ht: ∀ (s:Shared) (H:Hp) (C:Addr) (cl:List (Str×Addr)) (fp:List Addr),PTs (X.blk s H scope (compEnvC scope cl C X.env) fp) ifs (tB_ G noW call mt))
    (hi1: ∀ (s:Shared) (H:Hp) (C:Addr) (cl:List (Str×Addr)) (fp:List Addr),PI (X.blk s H scope (compEnvC scope cl C X.env) fp) tg1 it1 (tI G noW call m1))
    (hg1: ∀ (s:Shared) (H:Hp) (C:Addr) (cl:List (Str×Addr)) (fp:List Addr),PG (X.blk s H scope (compEnvC scope cl C X.env) fp) tg1 (tGA G vs1 t1))
    (ht1: ∀ (s:Shared) (H:Hp) (C:Addr) (cl:List (Str×Addr)) (fp:List Addr),PTs (X.blk s H scope (compEnvC scope cl C X.env) fp) ifs1 (tB_ G noW call mt1))
    (he: ∀ (s:Shared) (H:Hp) (C:Addr) (cl:List (Str×Addr)) (fp:List Addr),PE (X.blk s H scope (compEnvC scope cl C X.env) fp) elt (tE G noW call me)) (hs: ∀ x,foldedSetIterable it X.env x=pure x) (hs1: ∀ env x,foldedSetIterable it1 env x=pure x):
    PE X (.ListComp elt [⟨tg,it,ifs,0⟩,⟨tg1,it1,ifs1,0⟩] scope pos) (tE G W call (mLc2 m t mt m1 t1 mt1 me (own.map (·.2)) vs1)):=by
  refine (pe_lc2 g.calm (by rw [g.N];exact g.nd) hi (by rw [g.N,g.sc];exact ok) hv hg ht hi1 hg1 ht1 he hs hs1).of fun σ H Q q=>?_
  obtain ⟨s,Φ,c,q⟩:=q
  exact ⟨s,Φ,c,(Aft.bind q).mono fun ds s1 a1=>fun K J H1 nk c1 w=>fun Dd hD=>lc2_walk hv nk c.bo w c1 hD a1⟩
end
end Mi
namespace Mi
open PySem PySem.Spec PyProof.Rows L2
def leS (a b:Str):Prop:=ltCps b.cps.toList a.cps.toList=false
theorem leS_iff {a b:Str}:leS a b↔a.cps.toList≤b.cps.toList:=by
  unfold leS
  rw [ltCps_eq,decide_eq_false_iff_not]
  exact Iff.rfl
theorem leS_total (a b:Str):leS a b∨leS b a:=by rw [leS_iff,leS_iff];exact List.le_total _ _
theorem leS_trans {a b c:Str} (h:leS a b) (h':leS b c):leS a c:=by rw [leS_iff] at*;exact List.le_trans h h'
theorem leS_anti {a b:Str} (h:leS a b) (h':leS b a):a=b:=by
  rw [leS_iff] at*
  have:=List.le_antisymm h h'
  cases a;cases b
  simp only at this
  rw [Array.toList_inj] at this
  rw [this]
instance (a b:Str):Decidable (leS a b):=by unfold leS;infer_instance
def insS (x:Str):List Str→List Str
  |[]=>[x]
  |y::r=>if leS x y then x::y::r else y::insS x r
def sortS:List Str→List Str
  |[]=>[]
  |x::r=>insS x (sortS r)
theorem insS_perm (x:Str): ∀ l,(insS x l).Perm (x::l)
  |[]=>.refl _
  | y::r=>by
    unfold insS
    split
    · exact .refl _
    · exact (List.Perm.cons y (insS_perm x r)).trans (.swap _ _ _)
theorem sortS_perm: ∀ l,(sortS l).Perm l
  |[]=>.refl _
  |x::r=>(insS_perm x _).trans (.cons x (sortS_perm r))
def SortedS (l:List Str):Prop:=l.Pairwise leS
theorem insS_sorted (x:Str): ∀ {l},SortedS l→SortedS (insS x l)
  |[],_=>by simp [insS,SortedS]
  | y ::r,h=>by
    unfold insS
    have h':=List.pairwise_cons.mp h
    split
    · rename_i hxy
      exact List.pairwise_cons.mpr ⟨fun z hz=>by
        rcases List.mem_cons.mp hz with e|hz
        · rw [e];exact hxy
        · exact leS_trans hxy (h'.1 z hz),h⟩
    · rename_i hxy
      refine List.pairwise_cons.mpr ⟨fun z hz=>?_,insS_sorted x h'.2⟩
      rcases List.mem_cons.mp ((insS_perm x r).mem_iff.mp hz) with e|hz
      · rw [e];exact (leS_total x y).resolve_left hxy
      · exact h'.1 z hz
theorem sortS_sorted: ∀ l,SortedS (sortS l)
  |[]=>List.Pairwise.nil
  |x::r=>insS_sorted x (sortS_sorted r)
theorem sorted_uniq: ∀ {a b:List Str},SortedS a→SortedS b→a.Perm b→a=b
  |[],b,_,_,p=>p.nil_eq
  |x::a,[],_,_,p=>by have:=p.length_eq;simp at this
  | x ::a,y::b,ha,hb,p=>by
    have h1:=List.pairwise_cons.mp ha
    have h2:=List.pairwise_cons.mp hb
    have e:x=y:=by
      have hx:x∈y::b:=p.mem_iff.mp (by simp)
      have hy:y∈x::a:=p.mem_iff.mpr (by simp)
      rcases List.mem_cons.mp hx with e|hx
      · exact e
      · rcases List.mem_cons.mp hy with e|hy
        · exact e.symm
        · exact leS_anti (h1.1 y hy) (h2.1 x hx)
    subst e
    rw [sorted_uniq h1.2 h2.2 (List.perm_cons x |>.mp p)]
theorem rising_of: ∀ {l:List Str} {x:Str},risingS x l=true→SortedS (x::l)
  |[],x,_=>by simp [SortedS]
  | y::r,x,h=>by
    unfold risingS at h
    simp only [Bool.and_eq_true,Bool.not_eq_true'] at h
    have ih:=rising_of h.2
    refine List.pairwise_cons.mpr ⟨fun z hz=>?_,ih⟩
    rcases List.mem_cons.mp hz with e|hz
    · rw [e];exact h.1
    · exact leS_trans (show leS x y from h.1) ((List.pairwise_cons.mp ih).1 z hz)
theorem sortedS_of {l:List Str} (h:sortedS l=true):SortedS l:=by
  cases l with
  |nil=>exact List.Pairwise.nil
  |cons x r=>exact rising_of h
def reprD:List D→Option O
  |[d]=>(toP d).bind fun p=>if p.showable=true∧p.hasDict=false∧p.depth≤40∧fitsB p.shown.length=true then some (.fz (.str p.shown)) else none
  |_=>none
section
variable {G:GE} {X:Cx}
theorem b_repr (hK:X.K=G.K) (hu:X.A.units+64<cLine) (hg:X.A.guards=some []):CallR X (.builtin "repr") (rN G reprD):=by
  intro pins s σ H vs us Q I rv ⟨ρ,M,h,L,ds,o,cp,t,e,q⟩
  unfold reprD at e
  split at e
  · rename_i d
    simp only [Option.bind_eq_some_iff] at e
    obtain ⟨p,e1,e2⟩:=e
    split at e2
    · rename_i hc
      obtain ⟨h1,h2,h3,h4⟩:=hc
      cases e2
      obtain ⟨v,r,ev,tv,er⟩:=t
      subst ev
      rw [show r=[] from er] at rv
      obtain ⟨u,eu,ru⟩:=vals1 rv
      subst eu
      obtain ⟨as,rd⟩:=Dp.reads I p v u (by rw [hK];exact tv.dp e1) ru
      have fin: ∀ (h':Heap) (tk:Nat) (tt:Tok),(∀ b ob,s.heap.get? b=some ob→h'.get? b=some ob)→EP X pins σ Q (.str p.shown tt) {s with heap:=h',toks:=tk}:=fun h' tk tt hk=>⟨.str p.shown,H,I.kept (t':=tk) hk,⟨tt,rfl⟩,q _ _ (cp.cf.simple rfl)⟩
      cases u with
      |ref a=>exact repr_of_reads' rd h1 (fun z=>by rw [h2] at z;cases z) hg (by omega) (fun _ _ z=>z) (fun h' uu tk hk=>fin h' tk uu hk) (fits h4)
      | str x t=>
        cases rd
        exact P.repr_of_str (fin s.heap _ _ fun _ _ z=>z) (fits h4)
      | int i t=>
        cases rd
        exact P.repr_of_int (of_decide_eq_true h1) (fin s.heap _ _ fun _ _ z=>z)
      | bool b=>
        cases rd
        exact P.repr_of_bool (by have:=fin s.heap (s.toks+1) s.toks fun _ _ z=>z;exact this)
      | none=>
        cases rd
        exact P.repr_of_none (fin s.heap _ _ fun _ _ z=>z)
      |_=>all_goals cases rd
    · cases e2
  · cases e
end
end Mi
namespace Mi
open PySem PySem.Spec PyProof.Rows L2
def listKD:List D→Option O
  |[.dic ks _]=>some (.lst (ks.map kD))
  |_=>none
def listX:List D→Option O:=orN listOfD listKD
def pairD:D→Option (Key×D)
  | .tup [a,b]=>(keyD a).map fun k=>(k,b)
  |_=>none
def pairsD:List D→Option (List (Key×D))
  |[]=>some []
  |d::ds=>(pairD d).bind fun p=>(pairsD ds).map fun ps=>p::ps
def dictOfD:List D→Option O
  |[.dic ks xs]=>some (.dic ks xs)
  |_=>none
def dictPD:List D→Option O
  |[.lst ds]=>(pairsD ds).bind fun ps=>some (.dic (mergeD ps ([],[])).1 (mergeD ps ([],[])).2)
  |_=>none
def dictX:List D→Option O:=orN dictOfD dictPD
section
variable {G:GE} {X:Cx} {ρ:List Addr} {H:Hp} {M:List Addr}
end
end Mi
namespace Mi
open PySem PySem.Spec PyProof.Rows L2
open Classical in
noncomputable def forC (call:Call) (g:Tg) (body:C) (n:Nat) (all:List D):List D→S→Fl
  |[],s=>if s.h[n]?=some (.lst all) then .nx s else .bad
  | d ::ds,s=>if s.h[n]?=some (.lst all) then (match g (.fz d) s with
    |none=>.bad
    | some s1=>match body call s1 with
      | .nx s2=>forC call g body n all ds s2
      | .ct s2=>forC call g body n all ds s2
      | .bk s2=>.nx s2
      | .rt o s2=>.rt o s2
      | .exc c d s2=>.exc c d s2
      | .bad=>.bad) else .bad
section
variable {G:GE} {k:Nat} {call:Call} {cc:CC} {W:WX} {X:Cx}
end
def brwN:List Str:=["_law_told"]
def celN:List Str:=["_law_past_here"]
def celY:Expr→Expr→Bool
  | .Name x _,.List _ _=>decide (x∈celN)
  |_,_=>false
def isBrw:Expr→Bool
  | .Name x _=>decide (x∈brwN)
  |_=>false
end Mi
namespace Mi
open PySem PySem.Spec PyProof.Rows L2
section
variable {G:GE} {k:Nat} {call:Call} {cc:CC} {W:WX} {X:Cx}
noncomputable def kFen (call:Call) (g:Tg) (body:C):Out (List D)→Fl
  | .ok [.loc n] s=>(match s.h[n]? with
    |some (.lst ds)=>forC call g body n ds (enumD ds) s
    |_=>.bad)
  | .ok [d] s=>(lift s ((itemsD d).map enumD)).flow fun ds s1=>forL call g body ds s1
  | .ok _ _=>.bad
  | .exc c d s=>.exc c d s
  | .bad=>.bad
noncomputable def cForEn (m:As) (g:Tg) (body:C):C:=fun call s=>kFen call g body (m call s)
end
end Mi
namespace Mi
open PySem PySem.Spec PyProof.Rows L2
section
variable {G:GE} {X:Cx}
def valsD:D→Option O
  | .dic ks xs=>if ks.length=xs.length then some (.lst xs) else none
  |_=>none
def valsOf:D→Option (List D)
  | .dic ks xs=>if ks.length=xs.length then some xs else none
  |_=>none
def aStarV (m:E) (r:As):As:=fun call s=>(m call s).bind fun x s1=>match (peek s1 x).bind valsOf with
  |some ds=>(r call s1).bind fun es s2=>.ok (ds++es) s2
  |none=>.bad
end
end Mi
namespace Mi
open PySem PySem.Spec PyProof.Rows L2
def txt (e:Int×Value):Str:=match e.2 with
  | .str x _=>x
  |_=>""
def TxtE (P:Program) (w:World) (e:Int×Value):Prop:= ∃ x t,e.2= .str x t∧e.1=(mixKind P w).hash (.inr x)
def TxtSet (P:Program) (w:World) (h:Heap) (a:Addr) (l:List Str):Prop:=
  ∃ o es ep t,h.get? a=some o∧o.ExactSet∧o.data= .set es ep t∧(∀ e∈es.toList,TxtE P w e)∧(es.toList.map txt).Perm l∧l.Nodup∧es.size<scanBound∧t.fits es.size=true∧Ris t.place.toList∧(w.params.followText "set-order"=true∨t.led=true)
section
variable {P:Program} {w:World} {A:Around} {E:Value→Shared→Prop} {s:Shared} {a:Addr} {l:List Str} {h h':Heap}
theorem txt_is {x y:Str} {t:Tok}:(mixKind P w).is (.inr y) (.str x t)=true↔x=y:=by
  constructor
  · intro z
    rcases keyIs_shape (k:=.inr y) (v:=.str x t) z with ⟨i,u,e,_⟩|⟨x',u,e,e2⟩
    · cases e
    · cases e;cases e2;rfl
  · intro e
    subst e
    exact kV_is (k:=.inr x) ⟨t,rfl⟩
theorem TxtE.is {e:Int×Value} (g:TxtE P w e) (y:Str):(mixKind P w).is (.inr y) e.2=true↔txt e=y:=by
  obtain ⟨x,t,h1,_⟩:=g
  unfold txt
  rw [h1]
  exact txt_is
theorem TxtE.elems {es:List (Int×Value)} (g: ∀ e∈es,TxtE P w e):ElemsOf (mixKind P w) es:=fun e he=>by
  obtain ⟨x,t,h1,h2⟩:=g e he
  exact ⟨⟨.inr x,by rw [h1];exact txt_is.mpr rfl,h2⟩,by rw [h1];rfl⟩
theorem TxtSet.stay (R:TxtSet P w h a l) (k: ∀ o,h.get? a=some o→h'.get? a=some o):TxtSet P w h' a l:=by
  obtain ⟨o,es,ep,t,ho,r⟩:=R
  exact ⟨o,es,ep,t,k o ho,r⟩
theorem txt_tail {g:Bool→Sem Unit} (hg: ∀ (b:Bool) (s₁:Shared) (Q':Unit→Shared→Prop),Q' () s₁→wpAny (model P w) A (g b) Q' E s₁)
    {o:Obj} {es:Array (Int×Value)} {ep:Nat} {t:SetTable} (ho:s.heap.get? a=some o) (hex:o.ExactSet) (hd:o.data= .set es ep t)
    {es1:Array (Int×Value)} {t2:SetTable} (g1: ∀ e∈es1.toList,TxtE P w e) (m1:(es1.toList.map txt).Perm l) (nd:l.Nodup) (hb1:es1.size<scanBound) (hf2:t2.fits es1.size=true) (hr:Ris t2.place.toList) (hl:w.params.followText "set-order"=true∨t2.led=true)
    {wasDummy:Bool} {R:Option Bool→Shared→Prop} (hR: ∀ h',Heap.SameBut a s.heap h'→TxtSet P w h' a l→R (some true) {s with heap:=h'}):
    wpAny (model P w) A (do
        storeSet a es1 t2
        if (!wasDummy&&t2.tooFull)=true then do
            g (relayAll t2 es1 (SetTable.grown es1.size)).2.2
            storeSet a (relayAll t2 es1 (SetTable.grown es1.size)).1 (relayAll t2 es1 (SetTable.grown es1.size)).2.1
            pure (some true)
          else pure (some true)) R E s:=by
  refine wpAny_bind (wpAny_storeSet_of ho hd ?_ (fits_of_scanBound hb1))
  have o1:=PpSet.storeB_at (es':=es1) (t':=t2) ho hd
  have s1:=Heap.SameBut.update s.heap a (Obj.putSet es1 t2)
  by_cases hc:(!wasDummy&&t2.tooFull)=true
  · rw [if_pos hc]
    have z1:=relayAll_perm t2 es1 (SetTable.grown es1.size)
    have z2:=relayAll_fits t2 es1 (SetTable.grown es1.size)
    have z3:=relayAll_ris t2 es1 (SetTable.grown es1.size)
    have z4:=relayAll_led t2 es1 (SetTable.grown es1.size)
    revert z1 z2 z3 z4
    rcases relayAll t2 es1 (SetTable.grown es1.size) with ⟨es2,t3,gave⟩
    intro z1 z2 z3 z4
    have hz:es2.size=es1.size:=by rw [←Array.length_toList,z1.length_eq,Array.length_toList]
    refine wpAny_bind (hg _ _ _ (wpAny_bind (wpAny_storeSet_of o1 rfl ?_ (fits_of_scanBound (hz.symm▸hb1)))))
    have o2:=PpSet.storeB_at (es':=es2) (t':=t3) o1 rfl
    exact wpAny_pure (hR _ (s1.trans (Heap.SameBut.update _ a _)) ⟨_,es2,_,t3,o2,hex,rfl,fun e he=>g1 e (z1.mem_iff.mp he),(z1.map txt).trans m1,nd,hz.symm▸hb1,z2,z3,hl.imp id fun q=>z4.trans q⟩)
  · rw [if_neg hc]
    exact wpAny_pure (hR _ s1 ⟨_,es1,_,t2,o1,hex,rfl,g1,m1,nd,hb1,hf2,hr,hl⟩)
theorem txt_mem {es:List (Int×Value)} (g: ∀ e∈es,TxtE P w e) (m:(es.map txt).Perm l) (y:Str):y∈l↔∃ e∈es,(mixKind P w).is (.inr y) e.2=true:=by
  rw [←m.mem_iff,List.mem_map]
  exact ⟨fun ⟨e,he,q⟩=>⟨e,he,((g e he).is y).mpr q⟩,fun ⟨e,he,q⟩=>⟨e,he,((g e he).is y).mp q⟩⟩
theorem txt_put {x:Str} {t0:Tok} {Q:Bool→Shared→Prop} (R:TxtSet P w s.heap a l) (room:l.length+1<scanBound)
    (hQ: ∀ b h',Heap.SameBut a s.heap h'→TxtSet P w h' a (if x∈l then l else l++[x])→Q b {s with heap:=h'}):wpAny (model P w) A (setAddHashed a (.str x t0) ((mixKind P w).hash (.inr x))) Q E s:=by
  obtain ⟨o,es,ep,t,ho,hex,hd,g,m,nd,hb,hf,hr,hl⟩:=R
  have hk:(mixKind P w).is (.inr x) (.str x t0)=true:=txt_is.mpr rfl
  have hsc:(Value.str x t0).scannable=true:=rfl
  have el:=TxtE.elems g
  have hn:es.size=l.length:=by rw [←m.length_eq,List.length_map,Array.length_toList]
  unfold setAddHashed setAddHashedIn
  refine wpAny_holding (wpAny_bind (wpAny_setState_of ho hd hf ?_))
  dsimp only
  rw [byScan_of hsc hb el]
  simp only [↓reduceIte]
  unfold setAddByScan
  refine wpAny_bind (wpAny_bind (wpAny_rule (wpAny_bind (wpAny_setScan_of hk ho hd hf el ?_))))
  cases hfi:List.findIdx? (fun e=>(mixKind P w).is (.inr x) e.2) es.toList with
  | none=>
    dsimp only
    have hx:x∉l:=fun z=>by
      obtain ⟨e,he,q⟩:=(txt_mem g m x).mp z
      have c:=List.findIdx?_eq_none_iff.mp hfi e he
      rw [q] at c;cases c
    have z1:=layNew_perm t es ((mixKind P w).hash (.inr x)) (.str x t0)
    have z2:=layNew_fits t es ((mixKind P w).hash (.inr x)) (.str x t0)
    have z3:=layNew_ris t es ((mixKind P w).hash (.inr x)) (.str x t0) hr
    have z4:=layNew_led t es ((mixKind P w).hash (.inr x)) (.str x t0)
    revert z1 z2 z3 z4
    rcases layNew t es ((mixKind P w).hash (.inr x)) (.str x t0) with ⟨es1,t1,wasDummy,gave⟩
    intro z1 z2 z3 z4
    dsimp only at z1 z2 z3 z4 ⊢
    rw [Array.toList_push] at z1
    have g1: ∀ e∈es1.toList,TxtE P w e:=fun e he=>by
      rcases List.mem_append.mp (z1.mem_iff.mp he) with q|q
      · exact g e q
      · rw [List.mem_singleton.mp q];exact ⟨x,t0,rfl,rfl⟩
    have m1:(es1.toList.map txt).Perm (l++[x]):=by
      have q:=z1.map txt
      rw [List.map_append] at q
      exact q.trans (m.append_right [x])
    have nd1:(l++[x]).Nodup:=List.nodup_append.mpr ⟨nd,by simp,fun y hy z hz=>by
      rw [List.mem_singleton.mp hz];exact fun e=>hx (e▸hy)⟩
    have hb1:es1.size<scanBound:=by
      have:=m1.length_eq
      rw [List.length_map,Array.length_toList,List.length_append] at this
      rw [this];exact room
    have led:w.params.followText "set-order"=true∨t1.led=true:=hl.imp id fun q=>z4.trans q
    have fin: ∀ h',Heap.SameBut a s.heap h'→TxtSet P w h' a (l++[x])→Q true {s with heap:=h'}:=fun h' sb r=>hQ true h' sb (by rw [if_neg hx];exact r)
    have gw: ∀ (b:Bool) {s₁:Shared} {Q':Unit→Shared→Prop},Q' () s₁→wpAny (model P w) A (match b with|true=>rule "set.scan.the-table-gave-way"|false=>pure ()) Q' E s₁:=fun b s₁ Q' q=>by
      cases b
      · exact wpAny_pure q
      · exact wpAny_rule q
    refine wpAny_bind (gw _ ?_)
    split
    · refine wpAny_bind ?_
      rw [hashByValue_scannable 8 hsc]
      refine wpAny_pure (txt_tail (fun b s₁ Q' q=>gw b q) ho hex hd g1 m1 nd1 hb1 ?_ ?_ ?_ fun h' sb r=>wpAny_pure (fin h' sb r))
      · first|(split<;>first|exact z2|exact SetTable.fits_plain_off z2)|exact z2
      · first|(split<;>exact z3)|exact z3
      · first|(split<;>exact led)|exact led
    · refine wpAny_bind (wpAny_pure ?_)
      simp only [↓reduceIte]
      exact txt_tail (fun b s₁ Q' q=>gw b q) ho hex hd g1 m1 nd1 hb1 z2 z3 led fun h' sb r=>wpAny_pure (fin h' sb r)
  | some j=>
    dsimp only
    obtain ⟨hj,pj,_⟩:=List.findIdx?_eq_some_iff_getElem.mp hfi
    have hx:x∈l:=(txt_mem g m x).mpr ⟨es.toList[j],List.getElem_mem hj,pj⟩
    exact wpAny_pure (wpAny_pure (hQ false s.heap (Heap.SameBut.refl a s.heap) (by rw [if_pos hx];exact ⟨o,es,ep,t,ho,hex,hd,g,m,nd,hb,hf,hr,hl⟩)))
theorem TxtSet.setOf (R:TxtSet P w h a l):h.SetOf (mixKind P w) a (fun k=>match k with| .inr y=>decide (y∈l)| .inl _=>false) l.length:=by
  obtain ⟨o,es,ep,t,ho,hex,hd,g,m,nd,hb,hf,hr,hl⟩:=R
  refine ⟨o,es,ep,t,ho,hex,hd,TxtE.elems g,fun k=>?_,hb,hf,by rw [←m.length_eq,List.length_map,Array.length_toList]⟩
  cases k with
  | inl i=>
    refine ⟨fun z=>(nomatch z),fun ⟨e,he,q⟩=>?_⟩
    obtain ⟨x,t',h1,_⟩:=g e he
    rw [h1] at q
    rcases keyIs_shape (k:=.inl i) (v:=.str x t') q with ⟨_,_,_,e2⟩|⟨_,_,e2,_⟩<;>cases e2
  | inr y=>
    simp only [decide_eq_true_eq]
    exact txt_mem g m y
theorem txt_add {x:Str} {t0:Tok} {Q:Value→Shared→Prop} (R:TxtSet P w s.heap a l) (room:l.length+1<scanBound)
    (hQ: ∀ h',Heap.SameBut a s.heap h'→TxtSet P w h' a (if x∈l then l else l++[x])→Q .none {s with heap:=h',toks:=s.toks+1}):wpAny (model P w) A (call (.builtin "set.add") [.ref a,.str x t0]) Q E s:=by
  refine wpAny_call_entry F.slot_set_add R.setOf.typeIs F.entry_set_add ?_ (F.args_set_add_2 _ _)
  unfold Builtin.«set.add» Builtin.Frozenset.oneOther
  simp only [List.isEmpty_nil,bind_assoc]
  unfold Builtin.Frozenset.addrOf setAdd
  refine wpAny_bind (wpAny_pure ?_)
  refine wpAny_bind (wpAny_pure ?_)
  refine wpAny_bind (wpAny_holding (wpAny_bind ((mixKind P w).pyHash (txt_is.mpr rfl) ?_)))
  refine txt_put (s:={s with toks:=s.toks+1}) R room fun b h' sb r=>?_
  show wpAny _ _ (ret Value.none) _ _ _
  exact wpAny_pure ⟨_,rfl,hQ h' sb r⟩
theorem txt_fresh {h:Heap}:TxtSet P w (h.push {cls:=.type "set",dict:=none,data:=.set #[] 0 (.fresh 0 0 (!w.params.followText "set-order"))}) h.objs.size []:=
  ⟨_,#[],0,_,Heap.get?_push_size _ rfl,⟨rfl,rfl,rfl⟩,rfl,fun e he=>by simp at he,by simp,by simp,by decide,rfl,List.Pairwise.nil,by
    show _∨(!w.params.followText "set-order")=true
    cases w.params.followText "set-order"
    · exact .inr rfl
    · exact .inl rfl⟩
end
end Mi
namespace Mi
open PySem PySem.Spec PyProof.Rows L2
def TxtO (P:Program) (w:World) (a:Addr) (l:List Str):HO:=.ext fun h=>TxtSet P w h a l
def addT (l:List Str) (x:Str):List Str:=if x∈l then l else l++[x]
theorem txtO_new {P:Program} {w:World} {H:Hp} {h:Heap} {a:Addr} {l:List Str} (R:TxtSet P w h a l):ObjOk P w H h a (TxtO P w a l):=by
  obtain ⟨o,_,_,_,ho,_⟩:=id R
  exact ⟨R,⟨o,ho⟩,fun h1 h2 p k=>TxtSet.stay p k⟩
def txtV:Value→Str
  | .str x _=>x
  |_=>""
theorem strs_txtV: ∀ (l:List Value),(∀ v∈l,∃ x t,v=Value.str x t)→StrsAre l (l.map txtV)
  |[],_=>.nil
  | v::l,h=>by
    obtain ⟨x,t,rfl⟩:=h v List.mem_cons_self
    exact .cons x t (strs_txtV l fun u hu=>h u (List.mem_cons_of_mem _ hu))
section
variable {X:Cx}
theorem b_sortedT (hcalm:X.calm=true):CallR X (.builtin "sorted") (fun xs H Q=> ∃ a l,xs=[.ref a]∧H a=some (TxtO X.prog X.w a l)∧l.length<64∧∀ p,H p=none→Q (.ref p) (upd H p (.lst ((sortS l).map V.str)))):=by
  intro pins s σ H xs us Q I r q
  obtain ⟨a,l,ex,hd,h64,q⟩:=q
  subst ex
  obtain ⟨u,eu,rx⟩:=vals1 r
  subst eu
  cases rx
  obtain ⟨o,es,ep,t,ho,hex,hdt,g,m,nd,hb,hf,hr,hl⟩:TxtSet X.prog X.w s.heap a l:=(I.hok a _ hd).1
  refine Calls.call_function_entry kind_sorted plain_sorted entry_sorted (args_sorted1 _) ?_
  unfold Builtin.«sorted»
  refine wpAny_bind (m:=checkCount "sorted" 1 1 _) (wpAny_pure ?_)
  refine wpAny_bind (collect_set (A:=X.A.in1) (I.ok.hd hcalm) ⟨o,ho,hex.1,hdt⟩ hf hb hr hl fun s1 vs k1 hz g1 o1 pm=>?_)
  have e0:(es.toList.map (·.2)).map txtV=es.toList.map txt:=by
    rw [List.map_map]
    refine List.map_congr_left fun e he=>?_
    obtain ⟨x,tt,h1,_⟩:=g e he
    show txtV e.2=txt e
    unfold txt txtV
    rw [h1]
  have pl:(vs.map txtV).Perm l:=by
    have z:=pm.map txtV
    rw [e0] at z
    exact z.trans m
  have hvl:vs.length=l.length:=by rw [←pl.length_eq,List.length_map]
  have hS:StrsAre vs (vs.map txtV):=strs_txtV vs fun v hv=>by
    obtain ⟨e,he,z⟩:=List.mem_map.mp (pm.mem_iff.mp hv)
    obtain ⟨x,tt,h1,_⟩:=g e he
    exact ⟨x,tt,by rw [←z];exact h1⟩
  have I1:Inv X pins σ H s1:=I.call' (ch:=[]) o1 (Un.kept k1) (I.hok.kept k1) (by rw [g1];exact I.bare) (fun _ z=>nomatch z)
  refine wpAny_bind (wpAny_newList ?_ (by rw [hvl,sizeLine_eq];omega))
  have hoL:(s1.heap.push (seqObj "list" vs.toArray 0)).get? s1.heap.objs.size=some (seqObj "list" vs.toArray 0):=Heap.get?_push_size _ rfl
  refine wpAny_bind (wpAny_holding (wpAny_call_entry slot_list_sort ⟨_,hoL,rfl⟩ entry_list_sort
    (list_sort_treeK strKind_oneLt (s:={s1 with heap:=s1.heap.push (seqObj "list" vs.toArray 0)}) hoL hS.keysOf (fun v₁ v₂ rest e=>keyKind_strs (by rw [←e];exact hS)) (by rw [hvl];exact h64) fun st' hp hs=>⟨_,rfl, ?_⟩)
    (args_list_sort _)))
  obtain ⟨ys,y1,y2,y3⟩:=sorted_out_str hS hp hs
  obtain ⟨e',he'⟩:=sortedHeap_at (vs:=vs) (out:=(arrOf st').map (·.2)) hoL
  have ey:ys=sortS l:=sorted_uniq (sortedS_of y3) (sortS_sorted l) (y2.trans (pl.trans (sortS_perm l).symm))
  have hlen:(ys.map V.str).length≤sizeLine:=by
    rw [List.length_map,y2.length_eq,pl.length_eq]
    exact Nat.le_trans (Nat.le_of_lt h64) (by decide)
  refine wpAny_pure ⟨_,rfl,.ref s1.heap.objs.size,upd H s1.heap.objs.size (.lst (ys.map V.str)),I1.laid (t':=s1.toks) (fun b u e=>?_) (Nat.le_refl _)
    (show ObjOk X.prog X.w _ _ _ (.lst (ys.map V.str)) from ⟨hlen,((arrOf st').map (·.2)).toList,e',vals_of_strs y1,by rw [Array.toArray_toList];exact he'⟩),rfl,by rw [ey];exact q _ (I1.hok.fresh (Nat.le_refl _))⟩
  have hb:b<s1.heap.objs.size:=Heap.lt_size e
  rw [sortedHeap_old (Nat.ne_of_lt hb) (by rw [size_push'];exact Nat.lt_succ_of_lt hb)]
  exact Heap.get?_push_of_some _ e
def tTc (P:Program) (w:World) (wi:TI) (g:TG) (tt:TT) (te:TE) (vs:List Nat):TE:=fun σ H Q=>wi σ H fun J H1=> ∃ W:Nat→Nat→List Str→Hp→Prop,(∃ m,W 0 m [] H1)∧∀ i m l H,W i m l H→
  (J.stop i H∧∀ D,H D=none→Q (.ref D) (upd H D (TxtO P w D l)))∨(J.go i H∧∃ Nx:List Str→Hp→Prop,(∀ l' H',Nx l' H'→∃ m',m'<m∧W (i+1) m' l' H')∧∀ x H',J.yld i H x H'→g x (wipe σ vs) H' fun σ2 H2=>
    wipe σ2 vs=wipe σ vs∧tt σ2 H2 fun b H3=>if b=true then te σ2 H3 fun y H4=> ∃ t,y= .str t∧l.length+1<scanBound∧Nx (addT l t) H4 else Nx l H3)
theorem txt_cell {P:Program} {w:World} {h:Heap} {a:Addr} {l:List Str} (R:TxtSet P w h a l): ∃ o,h.get? a=some o∧∀ v,o.data≠.cell v:=by
  obtain ⟨o,es,ep,t,ho,_,hd,_⟩:=R
  exact ⟨o,ho,fun v z=>by rw [hd] at z;cases z⟩
theorem e_txt {elt tg iter:Expr} {ifs:List Expr} {scope:Scope} {own:List (Str×Nat)} {pos:Pos} {wi:TI} {g:TG} {tt:TT} {te:TE} (hc:X.calm=true) (hN:X.N.Nodup) (hi:PI X tg iter wi) (ok:BlkOk X.N X.env.scope scope own)
    (hg: ∀ (s:Shared) (H:Hp) (C:Addr) (cl:List (Str×Addr)) (fp:List Addr),PG (X.blk s H scope (compEnvC scope cl C X.env) fp) tg g) (ht: ∀ (s:Shared) (H:Hp) (C:Addr) (cl:List (Str×Addr)) (fp:List Addr),PTs (X.blk s H scope (compEnvC scope cl C X.env) fp) ifs tt)
    (he: ∀ (s:Shared) (H:Hp) (C:Addr) (cl:List (Str×Addr)) (fp:List Addr),PE (X.blk s H scope (compEnvC scope cl C X.env) fp) elt te) (hs: ∀ x,foldedSetIterable iter X.env x=pure x):
    PE X (.SetComp elt [⟨tg,iter,ifs,0⟩] scope pos) (tTc X.prog X.w wi g tt te (own.map (·.2))):=by
  refine ⟨fun pins s σ H Q I h=>?_⟩
  rw [PpSet.eval_SetComp]
  have hfree: ∀ y∈scope.names,y.2= .free→∃ c,X.env.cells.lookup y.1=some c:=fun y hy e=>(ok.free y hy e).elim (fun k=>I.ok.has _ (.inl k)) fun k=>I.ok.has _ (.inr k)
  refine wpAny_comprehension_free (use:=none) rfl hs (closure_ok hfree) ok.kind (fun y hy e=>by rw [ok.uniq y hy,e])
    (thn (hi.run pins s σ H _ I h) fun xv s1 hx=>thn hx fun itv s2 h2=>?_)
  obtain ⟨it,fp,tn,J,H2,e,I2,T,st2,f2,q⟩:=h2
  subst e
  refine PpSet.newSet_ok (newEnv_comp ?_)
  generalize hD:s2.heap.objs.size=D
  have hDn:H2 D=none:=I2.hok.fresh (Nat.le_of_eq hD)
  obtain ⟨W,⟨m0,w0⟩,turn⟩:=q
  generalize hs3:({s2 with heap:=s2.heap.push {cls:=.type "set",dict:=none,data:=.set #[] 0 (.fresh 0 0 (!X.w.params.followText "set-order"))}}:Shared)=s3
  have h3:s3.heap=s2.heap.push {cls:=.type "set",dict:=none,data:=.set #[] 0 (.fresh 0 0 (!X.w.params.followText "set-order"))}:=by rw [←hs3]
  have I3:Inv X pins σ H2 s3:=by
    rw [←hs3]
    exact I2.kept (t':=s2.toks) fun b o e=>Heap.get?_push_of_some _ e
  have t3:TxtSet X.prog X.w s3.heap D []:=by rw [h3,←hD];exact txt_fresh
  have sz: ∀ b∈fp,b<s2.heap.objs.size:=fun b hb=>by
    obtain ⟨o,e,_⟩:=T.obj _ _ st2 b hb
    exact Heap.lt_size e
  have nD: ∀ b∈fp,b≠D:=fun b hb=>by rw [←hD];exact Nat.ne_of_lt (sz b hb)
  have fD:FpOk X pins H2 D:=I2.fpOk (Nat.le_of_eq hD) hDn
  have f3: ∀ b∈D::fp,FpOk X pins H2 b∧b<s3.heap.objs.size:=fun b hb=>by
    rcases List.mem_cons.mp hb with z|z
    · subst z
      exact ⟨fD,by rw [h3,Heap.size_push];omega⟩
    · exact ⟨f2 b z,by rw [h3,Heap.size_push];exact Nat.lt_succ_of_lt (sz b z)⟩
  have st3:tn 0 s3.heap:=T.keep _ _ _ st2 fun b _ o e=>by rw [h3];exact Heap.get?_push_of_some _ e
  have I4:=block_start I3 ok hN f3
  have pg:=hg s3 H2 s3.heap.objs.size (cellsFrom (s3.heap.objs.size+1) scope.names (cloFrom X.env.cells scope.names [])) (D::fp)
  have pt:=ht s3 H2 s3.heap.objs.size (cellsFrom (s3.heap.objs.size+1) scope.names (cloFrom X.env.cells scope.names [])) (D::fp)
  have pe:=he s3 H2 s3.heap.objs.size (cellsFrom (s3.heap.objs.size+1) scope.names (cloFrom X.env.cells scope.names [])) (D::fp)
  show codeAny _ _ (.compStart (.SetComp elt [⟨tg,iter,ifs,0⟩] scope pos) 0 (.ref it) (.ref D) (compEnvC scope (cellsFrom (s3.heap.objs.size+1) scope.names (cloFrom X.env.cells scope.names [])) s3.heap.objs.size X.env)) (compPost (model X.prog X.w) X.A X.xe none _ (.ref D) s3.heap.objs.size) {s3 with heap:=pushCells (s3.heap.push {cls:=.type "dict",data:=.dict #[]}) scope.names}
  have n3: ∀ b∈D::fp,H2 b=none:=fun b hb=>(f3 b hb).1.1
  generalize hce:compEnvC scope (cellsFrom (s3.heap.objs.size+1) scope.names (cloFrom X.env.cells scope.names [])) s3.heap.objs.size X.env=ce at I4 pg pt pe ⊢
  have cL:ce.locals=s3.heap.objs.size:=by subst hce;rfl
  generalize hs4:({s3 with heap:=pushCells (s3.heap.push {cls:=.type "dict",data:=.dict #[]}) scope.names}:Shared)=s4 at I4 ⊢
  have k4: ∀ b o,s3.heap.get? b=some o→s4.heap.get? b=some o:=fun b o e=>by rw [←hs4];exact pushCells_keeps _ _ _ _ (Heap.get?_push_of_some _ e)
  have st4:tn 0 s4.heap:=T.keep _ _ _ st3 fun b _ o e=>k4 b o e
  have t4:TxtSet X.prog X.w s4.heap D []:=t3.stay fun o e=>k4 D o e
  have stat: ∀ {σ':L2.St} {H':Hp} {s':Shared},Inv (X.blk s3 H2 scope ce (D::fp)) [] σ' H' s'→(∀ b∈D::fp,H' b=none)→∀ b∈D::fp,FpOk (X.blk s3 H2 scope ce (D::fp)) [] H' b:=fun {σ' H' s'} I' hn b hb=>
    ⟨hn b hb,(I'.ok.exf b hb).1,I'.ok.exfs b hb,.inl hb,fun x c e=>(I'.ok.exf b hb).2 x c e,fun p hp=>absurd (show p∈([]:List (Addr×Obj))++[] from hp) (by simp)⟩
  have held: ∀ {σ':L2.St} {H':Hp} {s0 s':Shared} {pl:List (Addr×Obj)} {ff:List Addr},Inv (X.blk s3 H2 scope ce (D::fp)) (pl++pinsAt ff s0.heap) σ' H' s'→∀ b∈ff,∀ o,s0.heap.get? b=some o→s'.heap.get? b=some o∧H' b=none:=fun I' b hb o e=>
    let z:=I'.pin (b,o) (List.mem_append_right _ (List.mem_append_right _ (mem_pinsAt hb e)))
    ⟨z.1,z.2.1⟩
  have loop:codeAny (model X.prog X.w) X.A (.compLoop (.SetComp elt [⟨tg,iter,ifs,0⟩] scope pos) 0 (.ref it) (.ref D) ce) (compPost (model X.prog X.w) X.A X.xe none (EP X pins σ Q) (.ref D) s3.heap.objs.size) s4:=by
    refine PpSet.compLoopS_any (fun n s'=> ∃ i l H',Inv (X.blk s3 H2 scope ce (D::fp)) [] (wipe σ (own.map (·.2))) H' s'∧tn i s'.heap∧TxtSet X.prog X.w s'.heap D l∧(∀ b∈D::fp,H' b=none)∧W i n l H') ?_ m0 ⟨0,[],H2,I4,st4,t4,n3,w0⟩
    rintro n s5 ⟨i,l,H5,I5,st5,t5,n5,w5⟩
    have c5:=txt_cell t5
    have sD:=stat I5 n5 D List.mem_cons_self
    have I5p:Inv (X.blk s3 H2 scope ce (D::fp)) ([]++pinsAt [D] s5.heap) (wipe σ (own.map (·.2))) H5 s5:=I5.pinned (fun b hb=>by rw [List.mem_singleton.mp hb];exact sD) fun b hb=>by rw [List.mem_singleton.mp hb];exact c5
    have fpp: ∀ b∈fp,FpOk (X.blk s3 H2 scope ce (D::fp)) ([]++pinsAt [D] s5.heap) H5 b:=fun b hb=>by
      obtain ⟨a1,a2,a3,a4,a5,_⟩:=stat I5 n5 b (List.mem_cons_of_mem _ hb)
      refine ⟨a1,a2,a3,a4,a5,fun p hp=>?_⟩
      have hp:p∈pinsAt [D] s5.heap:=hp
      obtain ⟨z,_⟩:=of_pinsAt hp
      rw [List.mem_singleton.mp z]
      exact (nD b hb).symm
    rcases turn i n l H5 w5 with ⟨stop,qq⟩|⟨go,Nx,hNx,step⟩
    · have td:=T.done (X.blk s3 H2 scope ce (D::fp)) rfl rfl rfl hc i _ s5 _ H5 (fun _ _=>False) I5p fpp st5 stop
      refine thnF td fun r s6 ⟨hr,I6⟩=>?_
      subst hr
      have t6:TxtSet X.prog X.w s6.heap D l:=t5.stay fun o e=>(held I6 D List.mem_cons_self o e).1
      have I7:Inv X pins σ H5 s6:=I3.call' (ch:=D::fp) I6.os I6.base I6.hok I6.bare fun b hb=>⟨(f3 b hb).1.2.2.2.1,(f3 b hb).1.2.1,(f3 b hb).1.2.2.2.2.1,(f3 b hb).1.2.2.2.2.2⟩
      have nC:H5 s3.heap.objs.size=none:=by
        have z:H5 ce.locals=none:=I6.free
        rw [cL] at z
        exact z
      obtain ⟨m,hn,_⟩:=I6.loc
      have hn:s6.heap.Ns ce.locals m:=hn
      rw [cL] at hn
      refine ⟨m,hn,fun h'' sb=>?_⟩
      obtain ⟨c0,c1,c2,c3,c4,c5⟩:=I3.fpOk (b:=s3.heap.objs.size) (Nat.le_refl _) nC
      have neC:D≠s3.heap.objs.size:=Nat.ne_of_lt (f3 D List.mem_cons_self).2
      have I8:Inv X pins σ H5 {s6 with heap:=h''}:=I7.turned (t':=s6.toks) (fun b o hb e=>(sb.2 b hb).trans e) c0 c1 c3 c4 c5
      have t8:TxtSet X.prog X.w h'' D l:=t6.stay fun o e=>(sb.2 D neC).trans e
      obtain ⟨_,d1,d2,d3,d4,d5⟩:=fD
      have I9:Inv X pins σ (upd H5 D (TxtO X.prog X.w D l)) {s6 with heap:=h''}:=I8.take (h':=h'') (t':=s6.toks) (fun b ob _ e=>e) ⟨n5 D List.mem_cons_self,d1,d2,d3,d4,d5⟩ (txtO_new t8)
      exact ⟨.ref D,_,I9,rfl,qq D (n5 D List.mem_cons_self)⟩
    · have ti:=T.item (X.blk s3 H2 scope ce (D::fp)) rfl rfl rfl hc i _ s5 _ H5 (fun _ _=>False) I5p fpp st5 go
      refine thnF ti fun r s6 ⟨u,hr,h6⟩=>?_
      subst hr
      refine thnF h6 fun _ s7 ⟨x,H7,I7,r7,y7,st7,n7⟩=>?_
      have t7:TxtSet X.prog X.w s7.heap D l:=t5.stay fun o e=>(held I7 D List.mem_cons_self o e).1
      obtain ⟨oD,eD,_⟩:=c5
      have n7': ∀ b∈D::fp,H7 b=none:=fun b hb=>by
        rcases List.mem_cons.mp hb with z|z
        · rw [z];exact (held I7 D List.mem_cons_self oD eD).2
        · exact n7 b z
      have I7u:Inv (X.blk s3 H2 scope ce (D::fp)) [] (wipe σ (own.map (·.2))) H7 s7:=I7.unpinned (pins:=[])
      have I7':=I7u.pinned (stat I7u n7') (fun b hb=>by
        rcases List.mem_cons.mp hb with z|z
        · rw [z];exact txt_cell t7
        · exact T.obj _ _ st7 b z)
      refine thnF (pg.run _ s7 _ H7 x u _ I7' r7 (step x H7 y7)) fun _ s8 ⟨σ8,H8,I8,hw8,q8⟩=>?_
      refine thnF (pt.run _ s8 σ8 H8 _ I8 q8) fun b s9 ⟨H9,I9,q9⟩=>?_
      have fin: ∀ {s':Shared} {H':Hp} {l':List Str},Inv (X.blk s3 H2 scope ce (D::fp)) [] σ8 H' s'→(∀ b∈fp,∀ o,s7.heap.get? b=some o→s'.heap.get? b=some o)→(∀ b∈D::fp,H' b=none)→TxtSet X.prog X.w s'.heap D l'→Nx l' H'→
          ∃ m,m<n∧∃ i l H',Inv (X.blk s3 H2 scope ce (D::fp)) [] (wipe σ (own.map (·.2))) H' s'∧tn i s'.heap∧TxtSet X.prog X.w s'.heap D l∧(∀ b∈D::fp,H' b=none)∧W i m l H':=fun {s' H' l'} I' pin' n' t' nx=>by
        obtain ⟨m',hm,w'⟩:=hNx l' H' nx
        have hl:(wipe σ (own.map (·.2))).length=σ8.length:=by rw [←hw8,wipe_length]
        refine ⟨m',hm,i+1,l',H',I'.weak hl (fun j v e=>?_),T.keep _ _ _ st7 fun b hb o e=>pin' b hb o e,t',n',w'⟩
        rw [←hw8] at e
        exact (wipe_some e).1
      have hnone: ∀ {σ':L2.St} {H':Hp} {s':Shared},Inv (X.blk s3 H2 scope ce (D::fp)) ([]++pinsAt (D::fp) s7.heap) σ' H' s'→∀ b∈D::fp,H' b=none:=fun I' b hb=>by
        rcases List.mem_cons.mp hb with z|z
        · subst z
          obtain ⟨o,e,_⟩:=txt_cell t7
          exact (held I' _ hb o e).2
        · obtain ⟨o,e,_⟩:=T.obj _ _ st7 b z
          exact (held I' _ hb o e).2
      cases b with
      | false=>
        simp only [Bool.false_eq_true,if_false] at q9 ⊢
        exact fin (I9.unpinned (pins:=[])) (fun b hb o e=>(held I9 b (List.mem_cons_of_mem _ hb) o e).1) (hnone I9) (t7.stay fun o e=>(held I9 D List.mem_cons_self o e).1) q9
      | true=>
        simp only [if_true] at q9 ⊢
        refine thnF (pe.run _ s9 σ8 H9 _ I9 q9) fun z s10 ⟨yv,H10,I10,r10,tx,ey,hz10,nx⟩=>?_
        subst ey
        obtain ⟨tk,ez⟩: ∃ t,z=Value.str tx t:=r10
        subst ez
        have t10:TxtSet X.prog X.w s10.heap D l:=t7.stay fun o e=>(held I10 D List.mem_cons_self o e).1
        have n10:=hnone I10
        have I10u:Inv (X.blk s3 H2 scope ce (D::fp)) [] σ8 H10 s10:=I10.unpinned (pins:=[])
        refine txt_add t10 hz10 fun h' sb t11=>?_
        have s10D:=stat I10u n10 D List.mem_cons_self
        obtain ⟨d0,d1,d2,d3,d4,d5⟩:=s10D
        exact fin (I10u.turned (t':=s10.toks+1) (fun b o hb e=>(sb.2 b hb).trans e) d0 d1 d3 d4 d5) (fun b hb o e=>(sb.2 b (nD b hb)).trans (held I10 b (List.mem_cons_of_mem _ hb) o e).1) n10 t11 nx
  exact PpSet.codeAny_compStart_set loop (T.self X.A 0 _ _ _ st4 loop)
end
end Mi
namespace Mi
open PySem PySem.Spec PyProof.Rows L2
def dedG:Option (List Str)→D→Option (List Str)
  |some l,.str x=>some (addT l x)
  |_,_=>none
def dedS (acc:List D):Option (List Str):=acc.foldl dedG (some [])
theorem ded_none: ∀ (t:List D),t.foldl dedG none=none
  |[]=>rfl
  |d::t=>by rw [List.foldl_cons];exact ded_none t
theorem add_len (l:List Str) (x:Str):l.length≤(addT l x).length:=by
  unfold addT
  split
  · exact Nat.le_refl _
  · simp
theorem ded_grow: ∀ (t:List D) {l l':List Str},t.foldl dedG (some l)=some l'→l.length≤l'.length
  |[],l,l',e=>by cases e;exact Nat.le_refl _
  | d::t,l,l',e=>by
    rw [List.foldl_cons] at e
    cases d with
    |str x=>exact Nat.le_trans (add_len l x) (ded_grow t e)
    |_=>all_goals (simp only [dedG] at e;rw [ded_none] at e;cases e)
theorem ded_part {acc t:List D} {l':List Str} (e:dedS (acc++t)=some l'): ∃ l,dedS acc=some l∧l.length≤l'.length:=by
  unfold dedS at e ⊢
  rw [List.foldl_append] at e
  cases h:List.foldl dedG (some []) acc with
  |none=>rw [h,ded_none] at e;cases e
  |some l=>rw [h] at e;exact ⟨l,rfl,ded_grow t e⟩
theorem ded_snoc {acc:List D} {d:D} {l l':List Str} (h:dedS acc=some l) (e:dedS (acc++[d])=some l'): ∃ x,d= .str x∧l'=addT l x:=by
  unfold dedS at h e
  rw [List.foldl_append,h] at e
  cases d with
  |str x=>cases e;exact ⟨x,rfl,rfl⟩
  |_=>all_goals cases e
section
variable {G:GE} {k:Nat} {call:Call} {cc:CC} {W:WX} {X:Cx} {vs:List Nat}
theorem lcL_more {g:Tg} {tt:B} {te:E}: ∀ (ds acc:List D) (s:S) {acc':List D} {s':S},lcL call g tt te vs ds acc s= .ok acc' s'→∃ t,acc'=acc++t
  |[],acc,s,acc',s',e=>by cases e;exact ⟨[],by simp⟩
  | d ::ds,acc,s,acc',s',e=>by
    unfold lcL at e
    split at e
    · cases e
    · split at e
      · split at e
        · split at e
          · split at e
            · rename_i y _ _ _
              obtain ⟨t,ht⟩:=lcL_more ds _ _ e
              exact ⟨y::t,by rw [ht];simp⟩
            · cases e
          · cases e
        · cases e
      · exact lcL_more ds _ _ e
      · cases e
def stsO (s2:S) (σ1:List (Option O)) (vs:List Nat) (acc:List D):Out R:=match dedS acc with
  |some l=>if l.length<64 then .ok (.own (.lst ((sortS l).map .str))) ⟨rst s2.σ σ1 vs,s2.h⟩ else .bad
  |none=>.bad
def mSts (m:Iv) (g:Tg) (tt:B) (te:E) (vs:List Nat):E:=fun call s=>(m call s).bind fun ds s1=>match lcL call g tt te vs ds [] ⟨wipeO s1.σ vs,s1.h⟩ with
  | .ok acc s2=>stsO s2 s1.σ vs acc
  |_=>.bad
theorem reps_str {ρ:List Addr} {H:Hp} {M:List Addr}: ∀ (l:List Str),RepDs G ρ H M (l.map .str) (l.map V.str)
  |[]=>rfl
  |x::l=>⟨.str x,l.map V.str,rfl,rfl,reps_str l⟩
theorem st_walk {P:Program} {J:It} {K Φ:List (R×V)} {ds:List D} {g:Tg} {tt:B} {te:E} {σ:Sr} {H1:Hp} {s1:S} {Q:VK} (nk:NoB K) (bo: ∀ i v,(R.bor i,v)∈Φ→σ[i]?=some (some v)) (w:Walks G J K ds) (c:CfS G σ H1 s1 (K++Φ))
    (a:Aft G W σ Φ (PV G σ Φ Q) (match lcL call g tt te vs ds [] ⟨wipeO s1.σ vs,s1.h⟩ with
      | .ok acc s2=>stsO s2 s1.σ vs acc
      |_=>.bad)) {wd:World}:
    ∃ Wr:Nat→Nat→List Str→Hp→Prop,(∃ m,Wr 0 m [] H1)∧∀ i m l H,Wr i m l H→
      (J.stop i H∧∀ Dd,H Dd=none→∃ a l',[V.ref Dd]=[.ref a]∧(upd H Dd (TxtO P wd Dd l)) a=some (TxtO P wd a l')∧l'.length<64∧∀ p,(upd H Dd (TxtO P wd Dd l)) p=none→Q (.ref p) (upd (upd H Dd (TxtO P wd Dd l)) p (.lst ((sortS l').map V.str))))∨
      (J.go i H∧∃ Nx:List Str→Hp→Prop,(∀ l' H',Nx l' H'→∃ m',m'<m∧Wr (i+1) m' l' H')∧∀ x H',J.yld i H x H'→tGA G vs g x (L2.wipe σ vs) H' fun σ2 H2=>L2.wipe σ2 vs=L2.wipe σ vs∧tB_ G noW call tt σ2 H2 fun b H3=>
        if b=true then tE G noW call te σ2 H3 fun y H4=> ∃ t,y= .str t∧l.length+1<scanBound∧Nx (addT l t) H4 else Nx l H3):=by
  obtain ⟨Z,p1,ok,back⟩:=slp_wipe c.sl vs
  let Ψ:=K++(ownR Z++ownR (ow Φ))
  have nΨ:NoB Ψ:=noB_app nk (noB_app nob_ownR nob_ownR)
  let St:S→Hp→Prop:=fun s H=>CfS G (L2.wipe σ vs) H s Ψ
  let Fin:List D→List D→S→Prop:=fun rest acc s=>Aft G W σ Φ (PV G σ Φ Q) (match lcL call g tt te vs rest acc s with
      | .ok acc s2=>stsO s2 s1.σ vs acc
      |_=>.bad)
  have part: ∀ {rest acc:List D} {s:S},Fin rest acc s→∃ l,dedS acc=some l∧l.length<64:=fun {rest acc s} f=>by
    simp only [Fin] at f
    cases e:lcL call g tt te vs rest acc s with
    | ok acc' s'=>
      rw [e] at f
      obtain ⟨t,ht⟩:=lcL_more _ _ _ e
      simp only [stsO] at f
      cases hd:dedS acc' with
      |none=>rw [hd] at f;exact f.elim
      | some l'=>
        rw [hd] at f
        by_cases h64:l'.length<64
        · rw [ht] at hd
          obtain ⟨l,h1,h2⟩:=ded_part hd
          exact ⟨l,h1,by omega⟩
        · simp only [h64,if_false] at f;exact f.elim
    |exc _ _ _=>rw [e] at f;exact f.elim
    |bad=>rw [e] at f;exact f.elim
  have st0:St ⟨wipeO s1.σ vs,s1.h⟩ H1:=by
    refine ⟨ok,fun i v z=>absurd z (nΨ i v), ?_⟩
    have cf:=c.cf.perm (p1.append_right (ow (K++Φ)))
    exact cf.perm (by
      simp only [Ψ,ow_append,ow_ownR,List.append_assoc]
      exact List.Perm.append_left _ (List.perm_append_comm_assoc _ _ _))
  refine ⟨fun i m l H=>m=ds.length - i∧i≤ds.length∧∃ acc s,dedS acc=some l∧St s H∧Fin (ds.drop i) acc s,⟨ds.length,by simp,Nat.zero_le _,[],_,rfl,st0,a⟩, ?_⟩
  rintro i m l H ⟨rfl,hi,acc,s,hdd,c,a⟩
  have cK:CfS G (L2.wipe σ vs) H s (K++(ownR Z++ownR (ow Φ))):=c
  obtain ⟨w1,w2,w3⟩:=w _ H s _ cK
  by_cases hlt:i<ds.length
  · refine .inr ⟨w1 i hlt,fun l' H'=> ∃ acc s,dedS acc=some l'∧St s H'∧Fin (ds.drop (i+1)) acc s,fun l' H' p'=>⟨ds.length - (i+1),by omega,rfl,hlt,p'⟩,fun x H' y=>?_⟩
    have e:ds.drop i=ds[i]::ds.drop (i+1):=List.drop_eq_getElem_cons hlt
    have a':Fin (ds[i]::ds.drop (i+1)) acc s:=by rw [←e];exact a
    have c1:=w2 i ds[i] x H' (by simp [hlt]) y
    obtain ⟨l0,hl0,hl64⟩:=part a'
    have el0:l0=l:=by rw [hdd] at hl0;cases hl0;rfl
    subst el0
    simp only [Fin,lcL] at a'
    cases eg:g (.fz ds[i]) s with
    |none=>simp only [eg] at a';exact a'.elim
    | some s2 =>
      simp only [eg] at a'
      refine ⟨s,_,.fz ds[i],s2,nΨ,c1,eg,fun σ2 c2 ag=>?_⟩
      have ew:L2.wipe σ2 vs=L2.wipe σ vs:=by rw [ag.wipe,wipe_wipe]
      refine ⟨ew,s2,_,c2, ?_⟩
      cases et:tt call s2 with
      |bad=>simp only [et] at a';exact a'.elim
      |exc cn d s3=>simp only [et] at a';exact a'.elim
      | ok b s3 =>
        cases b with
        | false=>
          simp only [et] at a'
          exact fun H3 c3=>iteF ⟨acc,_,hdd,by have:=c3.wipe nΨ vs;rw [ew] at this;exact this,a'⟩
        | true=>
          simp only [et] at a'
          intro H3 c3
          refine iteT ⟨s3,_,c3, ?_⟩
          cases ee:te call s3 with
          |bad=>simp only [ee] at a';exact a'.elim
          |exc cn d s4=>simp only [ee] at a';exact a'.elim
          | ok r s4=>
            simp only [ee] at a'
            intro yv H4 c4
            cases ek:take s4 r with
            |none=>simp only [ek] at a';exact a'.elim
            | some q=>
              obtain ⟨d,s5⟩:=q
              simp only [ek] at a'
              by_cases hf:fitsB (acc.length+1)=true
              · rw [if_pos hf] at a'
                have c5:=c4.take ek
                obtain ⟨l2,hl2,_⟩:=part a'
                obtain ⟨t,ed,el⟩:=ded_snoc hdd hl2
                subst ed
                obtain ⟨ρ,M,cp⟩:=c5.parts
                have ey:yv= .str t:=c5.peek (r:=.own (.fz (.str t))) (d:=.str t) (by simp) rfl cp
                refine ⟨t,ey,by rw [show scanBound=4096 from rfl];omega,acc++[.str t],⟨wipeO s5.σ vs,s5.h⟩,by rw [hl2,el], ?_,a'⟩
                have:=c5.drop.wipe nΨ vs
                rw [ew] at this
                exact this
              · rw [if_neg hf] at a'
                exact a'.elim
  · have e:i=ds.length:=by omega
    obtain ⟨l0,hl0,hl64⟩:=part a
    have el0:l0=l:=by rw [hdd] at hl0;cases hl0;rfl
    subst el0
    subst e
    have a':Fin [] acc s:=by have:=a;rw [List.drop_length] at this;exact this
    refine .inl ⟨w3,fun Dd hD=>⟨Dd,l0,rfl,upd_same,hl64,fun p hp=>?_⟩⟩
    have a2:Aft G W σ Φ (PV G σ Φ Q) (stsO s s1.σ vs acc):=a'
    simp only [stsO,hdd,if_pos hl64] at a2
    refine a2 (.ref p) _ ?_
    obtain ⟨p2,ok2⟩:=back s.σ c.sl
    refine ⟨ok2,fun j v z=>?_, ?_⟩
    · rcases List.mem_cons.mp z with z|z
      · cases z
      · exact bo j v z
    · have cf:Cf G H s.h (slp s.σ (L2.wipe σ vs)++ow Ψ):=c.cf
      have cf2:Cf G H s.h (ow K++(slp (rst s.σ s1.σ vs) σ++ow Φ)):=cf.perm (by
        simp only [Ψ,ow_append,ow_ownR]
        refine (List.perm_append_comm_assoc _ _ _).trans (List.Perm.append_left _ ?_)
        rw [←List.append_assoc]
        exact p2.symm.append_right _)
      have cf3:Cf G H s.h (slp (rst s.σ s1.σ vs) σ++ow Φ):=Cf.dropN cf2
      have cf4:Cf G (upd H Dd (TxtO P wd Dd l0)) s.h (slp (rst s.σ s1.σ vs) σ++ow Φ):=cf3.alloc hD
      obtain ⟨ρ,M,cp⟩:=cf4
      have cf5:Cf G (upd H Dd (TxtO P wd Dd l0)) s.h (Fz ((sortS l0).map .str) ((sortS l0).map V.str)++(slp (rst s.σ s1.σ vs) σ++ow Φ)):=(Cf.fz (by simp)).mpr ⟨ρ,M,cp,reps_str _⟩
      exact (Cf.newLst (by simp) cf5 hp).perm List.perm_middle.symm
theorem e_sts (g:Good G k call cc W X) {elt tg it:Expr} {ifs:List Expr} {scope:Scope} {own:List (Str×Nat)} {p pos pos2:Pos} {m:Iv} {t:Tg} {mt:B} {me:E} (hi:PI X tg it (tI G W call m)) (ok:BlkOk cc.N cc.sc scope own)
    (hg: ∀ (s:Shared) (H:Hp) (C:Addr) (cl:List (Str×Addr)) (fp:List Addr),PG (X.blk s H scope (compEnvC scope cl C X.env) fp) tg (tGA G (own.map (·.2)) t))
    (ht: ∀ (s:Shared) (H:Hp) (C:Addr) (cl:List (Str×Addr)) (fp:List Addr),PTs (X.blk s H scope (compEnvC scope cl C X.env) fp) ifs (tB_ G noW call mt))
    (he: ∀ (s:Shared) (H:Hp) (C:Addr) (cl:List (Str×Addr)) (fp:List Addr),PE (X.blk s H scope (compEnvC scope cl C X.env) fp) elt (tE G noW call me)) (hs: ∀ x,foldedSetIterable it X.env x=pure x) (hgl:cc.sc.names.lookup ("sorted":Str)=some .globalImplicit):
    PE X (.Call (.Name "sorted" p) [.SetComp elt [⟨tg,it,ifs,0⟩] scope pos] [] pos2) (tE G W call (mSts m t mt me (own.map (·.2)))):=by
  refine (pe_callB (b_sortedT g.calm) (g.gl hgl) (g.blt "sorted" (by decide)) (by decide+kernel) (pa_cons (e_txt g.calm (by rw [g.N];exact g.nd) hi (by rw [g.N,g.sc];exact ok) hg ht he hs) pa_nil (star_cons rfl)) (by decide) (by decide) (star_cons rfl) (star_any rfl)).of fun σ H Q q=>?_
  obtain ⟨s,Φ,c,q⟩:=q
  exact ⟨s,Φ,c,(Aft.bind q).mono fun ds s1 a1=>fun K J H1 nk c1 w=>st_walk nk c.bo w c1 a1⟩
end
end Mi
namespace Mi
open PySem PySem.Spec PyProof.Rows L2
def tkD:D→Bool
  | .tup ds=>kfDs 7 ds
  |_=>false
def valT (ks xs:List D) (k:D):Option D:=((ks.zip xs).find? fun p=>decide (nkD p.1=nkD k)).map (·.2)
def putT (ks xs:List D) (k d:D):List D×List D:=if (ks.any fun g=>decide (nkD g=nkD k))=true then (ks,List.zipWith (fun g x=>if nkD g=nkD k then d else x) ks xs) else (ks++[k],xs++[d])
abbrev T3:=NestedKey×Addr×V
def putP (ps:List T3) (k:NestedKey) (b:Addr) (v:V):List T3:=if (ps.any fun p=>decide (p.1=k))=true then ps.map (fun p=>if p.1=k then (p.1,p.2.1,v) else p) else ps++[(k,b,v)]
abbrev PR3 (p:T3) (q:NestedKey×Addr×Value):Prop:=p.1=q.1∧p.2.1=q.2.1∧RelV p.2.2 q.2.2
mutual
theorem kf_depth: ∀ (n:Nat) (d:D),kfD n d=true→(nkD d).depth≤n
  |n,.non,_=>Nat.zero_le _
  |n,.bl _,_=>Nat.zero_le _
  |n,.int _,_=>Nat.zero_le _
  |n,.str _,_=>Nat.zero_le _
  | n+1,.tup ds,h=>by
    show NestedKey.depthAll (nkDs ds)+1≤n+1
    exact Nat.succ_le_succ (kfs_depth n ds h)
  |0,.tup ds,h=>by cases h
  |n,.lst _,h=>by cases n<;>cases h
  |n,.dic _ _,h=>by cases n<;>cases h
  |n,.ins _ _ _,h=>by cases n<;>cases h
  |n,.dct _ _,h=>by cases n<;>cases h
  |n,.loc _,h=>by cases n<;>cases h
  |n,.fn _,h=>by cases n<;>cases h
  |n,.scr _,h=>by cases n<;>cases h
  |n,.ty _,h=>by cases n<;>cases h
  |n,.cls _,h=>by cases n<;>cases h
  |n,.xn _ _ _,h=>by cases n<;>cases h
  |n,.xv _ _ _,h=>by cases n<;>cases h
  |n,.lk _ _,h=>by cases n<;>cases h
theorem kfs_depth: ∀ (n:Nat) (ds:List D),kfDs n ds=true→NestedKey.depthAll (nkDs ds)≤n
  |n,[],_=>Nat.zero_le _
  | n,d::ds,h=>by
    have z:(kfD n d&&kfDs n ds)=true:=by cases n<;>exact h
    obtain ⟨h1,h2⟩:=Bool.and_eq_true_iff.mp z
    show max (nkD d).depth (NestedKey.depthAll (nkDs ds))≤n
    exact Nat.max_le.mpr ⟨kf_depth n d h1,kfs_depth n ds h2⟩
end
theorem kfs_cons {n:Nat} {d:D} {ds:List D} (h:kfDs n (d::ds)=true):kfD n d=true∧kfDs n ds=true:=by
  have z:(kfD n d&&kfDs n ds)=true:=by cases n<;>exact h
  exact Bool.and_eq_true_iff.mp z
theorem kfs_app {n:Nat}: ∀ {ds:List D} {d:D},kfDs n ds=true→kfD n d=true→kfDs n (ds++[d])=true
  | [],d,_,h=>by
    have:kfDs n [d]=(kfD n d&&kfDs n []):=by cases n<;>rfl
    rw [List.nil_append,this,h];cases n<;>rfl
  | x::ds,d,h,hd=>by
    obtain ⟨h1,h2⟩:=kfs_cons h
    have:kfDs n (x::(ds++[d]))=(kfD n x&&kfDs n (ds++[d])):=by cases n<;>rfl
    rw [List.cons_append,this,h1,kfs_app h2 hd];rfl
section
variable {G:GE} {ρ:List Addr} {H:Hp} {M:List Addr} {X:Cx} {pins:List (Addr×Obj)} {σ:L2.St} {s:Shared}
mutual
theorem rep_nest (I:Inv X pins σ H s) (hK:X.K=G.K): ∀ (n:Nat) (d:D) (v:V) (u:Value),kfD n d=true→RepD G ρ H M d v→RelV v u→NestedIs s.heap (nkD d) u
  | n,.non,v,u,_,h,r=>by
    obtain rfl:v= .non:=h
    obtain rfl:u= .none:=r
    exact .none
  | n,.bl b,v,u,_,h,r=>by
    obtain rfl:v= .bl b:=h
    obtain rfl:u= .bool b:=r
    exact .bool rfl
  | n,.int i,v,u,_,h,r=>by
    obtain rfl:v= .int i:=h
    obtain ⟨t,rfl⟩: ∃ t,u=Value.int i t:=r
    exact .int i t
  | n,.str x,v,u,_,h,r=>by
    obtain rfl:v= .str x:=h
    obtain ⟨t,rfl⟩: ∃ t,u=Value.str x t:=r
    exact .text x t
  | n+1,.tup ds,v,u,hk,h,r=>by
    obtain ⟨a,vs,rfl,t,rd⟩:=h
    obtain rfl:u=Value.ref a:=r
    have sq:=t.sq
    rw [←hK] at sq
    obtain ⟨its,rv,⟨o,h1,h2,m,h3⟩,_⟩:=I.tuple sq
    exact .tup h1 h2 h3 (by rw [List.toList_toArray];exact reps_nest I hK n ds vs its hk rd rv)
  |0,.tup ds,v,u,hk,h,r=>by cases hk
  |n,.lst _,_,_,h,_,_=>by cases n<;>cases h
  |n,.dic _ _,_,_,h,_,_=>by cases n<;>cases h
  |n,.ins _ _ _,_,_,h,_,_=>by cases n<;>cases h
  |n,.dct _ _,_,_,h,_,_=>by cases n<;>cases h
  |n,.loc _,_,_,h,_,_=>by cases n<;>cases h
  |n,.fn _,_,_,h,_,_=>by cases n<;>cases h
  |n,.scr _,_,_,h,_,_=>by cases n<;>cases h
  |n,.ty _,_,_,h,_,_=>by cases n<;>cases h
  |n,.cls _,_,_,h,_,_=>by cases n<;>cases h
  |n,.xn _ _ _,_,_,h,_,_=>by cases n<;>cases h
  |n,.xv _ _ _,_,_,h,_,_=>by cases n<;>cases h
  |n,.lk _ _,_,_,h,_,_=>by cases n<;>cases h
theorem reps_nest (I:Inv X pins σ H s) (hK:X.K=G.K): ∀ (n:Nat) (ds:List D) (vs:List V) (us:List Value),kfDs n ds=true→RepDs G ρ H M ds vs→Vals vs us→NestedAll s.heap (nkDs ds) us
  | n,[],vs,us,_,h,r=>by
    obtain rfl:vs=[]:=h
    cases r
    exact .nil
  | n,d::ds,vs,us,hk,h,r=>by
    obtain ⟨v,r',rfl,h1,h2⟩:=h
    obtain ⟨k1,k2⟩:=kfs_cons hk
    cases r with
    |cons r1 r2=>exact .cons (rep_nest I hK n d v _ k1 h1 r1) (reps_nest I hK n ds r' _ k2 h2 r2)
end
theorem key_is (I:Inv X pins σ H s) (hK:X.K=G.K) {d:D} {v:V} (hk:tkD d=true) (h:RepD G ρ H M d v): ∃ b,v= .ref b∧(nestedKind X.prog X.w).is s.heap (nkD d) b:=by
  cases d with
  | tup ds=>
    have k8:kfD 8 (.tup ds)=true:=hk
    obtain ⟨a,vs,e,t,rd⟩:=id h
    exact ⟨a,e,rep_nest I hK 8 (.tup ds) v (.ref a) k8 h (by rw [e];rfl),kf_depth 8 _ k8⟩
  |_=>all_goals cases hk
theorem tk_tup {d:D} {v:V} (hk:tkD d=true) (r:RepT G ρ H M d v):RepD G ρ H M d v:=by
  cases d with
  |tup ds=>exact r
  |_=>all_goals cases hk
def TV (G:GE) (H:Hp) (a:Addr) (ks:List D) (bs:List Addr) (vs:List V):Prop:=Rd H a (DtO G.w a (zip3 ks bs vs))∨(ks=[]∧bs=[]∧vs=[]∧Rd H a (.dK []))
theorem nks_len: ∀ (ds:List D),(nkDs ds).length=ds.length
  |[]=>rfl
  |d::ds=>by show (nkDs ds).length+1=_;rw [nks_len ds];rfl
theorem zip3_cons {k:D} {ks:List D} {b:Addr} {bs:List Addr} {v:V} {vs:List V}:zip3 (k::ks) (b::bs) (v::vs)=(nkD k,b,v)::zip3 ks bs vs:=rfl
theorem is_all (I:Inv X pins σ H s) (hK:X.K=G.K): ∀ {ks:List D} {bs:List Addr} {vs:List V} {xs:List (NestedKey×Addr×Value)},kfDs 8 ks=true→RepDs G ρ H M ks (bs.map V.ref)→ks.length=vs.length→Paired PR3 (zip3 ks bs vs) xs→∀ x∈xs,(nestedKind X.prog X.w).is s.heap x.1 x.2.1
  | [],bs,vs,xs,_,_,_,p=>by
    have:zip3 [] bs vs=[]:=rfl
    rw [this] at p
    cases p
    intro x hx;cases hx
  | k ::ks,bs,vs,xs,hk,r,l,p=>by
    obtain ⟨v,r',e,h1,h2⟩:=r
    cases bs with
    |nil=>cases e
    | cons b bs=>
      cases vs with
      |nil=>simp at l
      | cons w vs=>
        rw [List.map_cons] at e
        injection e with e1 e2
        subst e1;subst e2
        rw [zip3_cons] at p
        obtain ⟨k1,k2⟩:=kfs_cons hk
        cases p with
        | cons p1 p2=>
          intro x hx
          rcases List.mem_cons.mp hx with z|z
          · subst z
            rw [←p1.1,←p1.2.1]
            exact ⟨rep_nest I hK 8 k _ _ k1 h1 rfl,kf_depth 8 k k1⟩
          · exact is_all I hK k2 h2 (by simpa using l) p2 x z
theorem dt_at (I:Inv X pins σ H s) (hK:X.K=G.K) (hw:X.w=G.w) {a:Addr} {ks:List D} {bs:List Addr} {vs:List V} (t:TV G H a ks bs vs) (fk:kfDs 8 ks=true) (rk:RepDs G ρ H M ks (bs.map V.ref)) (l:ks.length=vs.length):
    ∃ xs,Paired PR3 (zip3 ks bs vs) xs∧s.heap.DictOfH (nestedKind X.prog X.w) a xs∧(a==sysModules)=false∧(zip3 ks bs vs).length≤sizeLine:=by
  rcases t with t|⟨rfl,rfl,rfl,t⟩
  · obtain ⟨⟨xs,pr,hs,hz,o,es,ep,h1,h2,h3,h4,h5⟩,_⟩:ObjOk X.prog X.w H s.heap a (DtO G.w a (zip3 ks bs vs)):=t.ok I.hok
    refine ⟨xs,pr,⟨o,es,ep,h1,h2,h3, ?_,is_all I hK fk rk l pr,h5⟩,hs,hz⟩
    rw [h4,←hw]
    rfl
  · obtain ⟨z,hs,us,rel,o,es,ep,h1,h2,h3,h4,h5,h6⟩:=(show ObjOk X.prog X.w H s.heap a (.dK []) from t.ok I.hok)
    cases rel
    refine ⟨[],.nil,⟨o,es,ep,h1,h2,h3, ?_,fun x hx=>(nomatch hx),List.nodup_nil⟩,hs,Nat.zero_le _⟩
    generalize hes:es.toList=el at h5 ⊢
    cases h5
    rfl
theorem room8 {A:Around} (h:A.units+64<cLine):A.in1.units+8<cLine:=by
  show A.units+1+8<cLine
  omega
theorem val_atT: ∀ {ks:List D} {bs:List Addr} {vs:List V} {ds:List D} {xs:List (NestedKey×Addr×Value)} {k:D},ks.length=vs.length→RepDs G ρ H M ks (bs.map V.ref)→RepDs G ρ H M ds vs→Paired PR3 (zip3 ks bs vs) xs→
    (∀ d,valT ks ds k=some d→∃ p v,atKey xs (nkD k)=some p∧RelV v p.2∧RepD G ρ H M d v)∧(atKey xs (nkD k)).isSome=(valT ks ds k).isSome
  | [],bs,vs,ds,xs,k,_,_,_,p=>by
    have:zip3 [] bs vs=[]:=rfl
    rw [this] at p
    cases p
    exact ⟨fun d e=>by simp [valT] at e,rfl⟩
  | g ::ks,bs,vs,ds,xs,k,l,rk,rd,p=>by
    obtain ⟨v0,r',e,h1,h2⟩:=rk
    cases bs with
    |nil=>cases e
    | cons b bs=>
      cases vs with
      |nil=>simp at l
      | cons w vs=>
        cases ds with
        |nil=>cases rd
        | cons d0 ds=>
          rw [List.map_cons] at e
          injection e with e1 e2
          subst e1;subst e2
          obtain ⟨v1,us,e3,r1,r2⟩:=rd
          cases e3
          rw [zip3_cons] at p
          cases p with
          | @cons _ q _ xs p1 p2=>
            have ih:=val_atT (k:=k) (by simpa using l) h2 r2 p2
            by_cases hg:nkD g=nkD k
            · have z1:valT (g::ks) (d0::ds) k=some d0:=by simp [valT,List.find?_cons,hg]
              have z2:atKey (q::xs) (nkD k)=some q.2:=by simp [atKey,List.find?_cons,←p1.1,hg]
              rw [z1,z2]
              exact ⟨fun d e=>by cases e;exact ⟨q.2,w,rfl,p1.2.2,r1⟩,rfl⟩
            · have z1:valT (g::ks) (d0::ds) k=valT ks ds k:=by simp [valT,List.find?_cons,hg]
              have hq: ¬q.1=nkD k:=by rw [←p1.1];exact hg
              have z2:atKey (q::xs) (nkD k)=atKey xs (nkD k):=by simp [atKey,List.find?_cons,hq]
              rw [z1,z2]
              exact ih
end
section
variable {G:GE} {k:Nat} {call:Call} {cc:CC} {W:WX} {X:Cx}
def asT:D→Option (List D×List D)
  | .dct ks xs=>some (ks,xs)
  | .dic [] []=>some ([],[])
  |_=>none
theorem asT_rep {ρ:List Addr} {H:Hp} {M:List Addr} {d:D} {v:V} {ks xs:List D} (e:asT d=some (ks,xs)) (r:RepT G ρ H M d v):
    ∃ a bs vs,v= .ref a∧TV G H a ks bs vs∧ks.length=vs.length∧kfDs 8 ks=true∧RepDs G ρ H M ks (bs.map V.ref)∧RepDs G ρ H M xs vs:=by
  unfold asT at e
  split at e
  · cases e
    obtain ⟨a,bs,vs,ev,t,l,fk,rk,rd⟩:=r
    exact ⟨a,bs,vs,ev,.inl t,l,fk,rk,rd⟩
  · cases e
    obtain ⟨a,vs,ev,t,l,rd⟩:=r
    have:vs=[]:=List.length_eq_zero_iff.mp l.symm
    subst this
    exact ⟨a,[],[],ev,.inr ⟨rfl,rfl,rfl,t⟩,rfl,rfl,rfl,rfl⟩
  · cases e
def tAt (d i:D):Option O:=(asT d).bind fun p=>if tkD i then (valT p.1 p.2 i).map .fz else none
def tIn (i d:D):Option O:=(asT d).bind fun p=>if tkD i then some (.fz (.bl (valT p.1 p.2 i).isSome)) else none
def tNotIn (i d:D):Option O:=(asT d).bind fun p=>if tkD i then some (.fz (.bl (!(valT p.1 p.2 i).isSome))) else none
theorem o_tin (g:GoodB G cc X):OpR X (compareOp .In) (r2 G tIn):=by
  intro pins s σ H x y v u Q I rx ry h
  obtain ⟨ρ,M,h0,L,d1,d2,o,cp,t1,t2,e,q⟩:=h
  simp only [tIn,Option.bind_eq_some_iff] at e
  obtain ⟨⟨ks,xs⟩,ea,e⟩:=e
  split at e
  · rename_i hk
    cases e
    obtain ⟨a,bs,vs,rfl,tv,l,fk,rk,rd⟩:=asT_rep ea t2
    obtain rfl:u=Value.ref a:=ry
    obtain ⟨b,rfl,hi⟩:=key_is I g.K hk (tk_tup hk t1)
    obtain rfl:v=Value.ref b:=rx
    obtain ⟨ps,pr,dd,hs,_⟩:=dt_at I g.K g.wd tv fk rk l
    refine wpAny_in_heap (knd:=nestedKind X.prog X.w) (room8 g.units) hi hs dd ⟨.bl (atKey ps (nkD d1)).isSome,H,I.tok _,rfl, ?_⟩
    rw [(val_atT (k:=d1) l rk rd pr).2]
    exact q _ H (cp.bl _)
  · cases e
theorem o_tat (g:GoodB G cc X):IxR X (r2 G tAt):=by
  intro value slice pins s σ H x y v u Q I rx ry h hs
  obtain ⟨ρ,M,h0,L,d1,d2,o,cp,t1,t2,e,q⟩:=h
  simp only [tAt,Option.bind_eq_some_iff] at e
  obtain ⟨⟨ks,xs⟩,ea,e⟩:=e
  split at e
  · rename_i hk
    simp only [Option.map_eq_some_iff] at e
    obtain ⟨d,ed,eo⟩:=e
    subst eo
    obtain ⟨a,bs,vs,rfl,tv,l,fk,rk,rd⟩:=asT_rep ea t1
    obtain rfl:v=Value.ref a:=rx
    obtain ⟨b,rfl,hi⟩:=key_is I g.K hk (tk_tup hk t2)
    obtain rfl:u=Value.ref b:=ry
    obtain ⟨ps,pr,dd,hsm,_⟩:=dt_at I g.K g.wd tv fk rk l
    obtain ⟨p,w,ep,rw',rq⟩:=(val_atT (k:=d2) l rk rd pr).1 d ed
    have hT:=dd.typeIs
    unfold subscriptTail
    refine wpAny_bind ?_
    rw [getitemInPython_of_ne hT.not_modules]
    refine wpAny_bind (wpAny_specialOf hT PySem.F.slot_dict_getitem.lookup ?_)
    have go:wpAny (model X.prog X.w) X.A (subscripted slice false (.ref a) (.ref b)) (fun r s3=>wpAny (model X.prog X.w) X.A (letTemporaryGo value (.ref a) r >>= fun _=>pure r) (EP X pins σ Q) X.xe s3) X.xe s:=by
      rw [hs]
      refine wpAny_operating (wpAny_getItem_heap (knd:=nestedKind X.prog X.w) (room8 g.units) hi dd ep ?_)
      exact wpAny_bind (wpAny_letTemporaryGo (wpAny_pure (show EP X pins σ Q _ _ from ⟨w,H,I.tok _,rw',q w H (Cf.fz1.mpr ⟨ρ,M,cp,rq⟩)⟩)))
    first
      |exact wpAny_pure (wpAny_bind go)
      |exact wpAny_bind (wpAny_pure (wpAny_bind go))
      |exact wpAny_bind go
  · cases e
end
end Mi
namespace Mi
open PySem PySem.Spec PyProof.Rows L2
section
variable {G:GE} {ρ:List Addr} {H:Hp} {M:List Addr}
theorem putT_of {ks:List D} {bs:List Addr} {vs:List V} {xs:List D} {k d:D} {b:Addr} {v:V} (lk:ks.length=bs.length) (l:ks.length=vs.length) (rk:RepDs G ρ H M ks (bs.map V.ref)) (rd:RepDs G ρ H M xs vs) (hk:RepD G ρ H M k (.ref b)) (hd:RepD G ρ H M d v):
    ∃ bs' vs',putP (zip3 ks bs vs) (nkD k) b v=zip3 (putT ks xs k d).1 bs' vs'∧(putT ks xs k d).1.length=vs'.length∧RepDs G ρ H M (putT ks xs k d).1 (bs'.map V.ref)∧RepDs G ρ H M (putT ks xs k d).2 vs':=by
  have hany:((zip3 ks bs vs).any fun p=>decide (p.1=nkD k))=(ks.any fun g=>decide (nkD g=nkD k)):=by
    clear rk rd hk hd
    induction ks generalizing bs vs with
    |nil=>rfl
    | cons g ks ih=>
      cases vs with
      |nil=>simp at l
      | cons w vs=>
        cases bs with
        |nil=>simp at lk
        |cons b0 bs=>rw [zip3_cons];simp only [List.any_cons];rw [ih (by simpa using lk) (by simpa using l)]
  by_cases h:(ks.any fun g=>decide (nkD g=nkD k))=true
  · refine ⟨bs,List.zipWith (fun g w=>if nkD g=nkD k then v else w) ks vs, ?_, ?_, ?_, ?_⟩
    · simp only [putP,hany,h,if_true,putT]
      clear rk rd hk hd hany h
      induction ks generalizing bs vs with
      |nil=>rfl
      | cons g ks ih=>
        cases vs with
        |nil=>simp at l
        | cons w vs=>
          cases bs with
          |nil=>simp at lk
          | cons b0 bs=>
            rw [List.zipWith_cons_cons,zip3_cons,zip3_cons,List.map_cons,ih (by simpa using lk) (by simpa using l)]
            by_cases hg:nkD g=nkD k<;>simp [hg]
    · simp [putT,h,l]
    · simp only [putT,h,if_true];exact rk
    · simp only [putT,h,if_true]
      clear rk hk hany h lk
      induction ks generalizing xs vs with
      |nil=>rfl
      | cons g ks ih=>
        cases vs with
        |nil=>simp at l
        | cons w vs=>
          cases xs with
          |nil=>cases rd
          | cons x xs=>
            obtain ⟨v',us,e,r1,r2⟩:=rd
            cases e
            refine ⟨if nkD g=nkD k then v else w,List.zipWith (fun g w=>if nkD g=nkD k then v else w) ks vs,rfl, ?_,ih (by simpa using l) r2⟩
            by_cases hg:nkD g=nkD k
            · simp only [hg,if_true];exact hd
            · simp only [hg,if_false];exact r1
  · refine ⟨bs++[b],vs++[v], ?_, ?_, ?_, ?_⟩
    · simp only [putP,hany,h,putT,if_false,Bool.false_eq_true]
      clear rk rd hk hd hany h
      induction ks generalizing bs vs with
      | nil=>
        have e1:bs=[]:=List.length_eq_zero_iff.mp lk.symm
        have e2:vs=[]:=List.length_eq_zero_iff.mp l.symm
        subst e1;subst e2;rfl
      | cons g ks ih=>
        cases vs with
        |nil=>simp at l
        | cons w vs=>
          cases bs with
          |nil=>simp at lk
          | cons b0 bs=>
            rw [List.cons_append,List.cons_append,List.cons_append,zip3_cons,zip3_cons,List.cons_append,ih (by simpa using lk) (by simpa using l)]
    · simp [putT,h,l]
    · simp only [putT,h,if_false];rw [List.map_append];exact rk.append (.one hk)
    · simp only [putT,h,if_false];exact rd.append (.one hd)
theorem putT_kf {ks xs:List D} {k d:D} (h:kfDs 8 ks=true) (hk:tkD k=true):kfDs 8 (putT ks xs k d).1=true:=by
  unfold putT
  split
  · exact h
  · refine kfs_app h ?_
    cases k with
    |tup ds=>exact hk
    |_=>all_goals cases hk
end
section
variable {X:Cx} {pins:List (Addr×Obj)} {σ:L2.St} {H:Hp} {s:Shared}
theorem paired_put: ∀ {ps:List T3} {xs:List (NestedKey×Addr×Value)} {k:NestedKey} {b:Addr} {v:V} {r:Value},Paired PR3 ps xs→RelV v r→Paired PR3 (putP ps k b v) (storedH xs k b r):=by
  intro ps xs k b v r p rv
  have hany:(ps.any fun p=>decide (p.1=k))=(atKey xs k).isSome:=by
    induction p with
    |nil=>rfl
    | @cons p q ps xs p1 p2 ih=>
      by_cases hq:q.1=k
      · simp [atKey,List.find?_cons,hq,p1.1]
      · have e2:atKey (q::xs) k=atKey xs k:=by simp [atKey,List.find?_cons,hq]
        have hp: ¬p.1=k:=by rw [p1.1];exact hq
        rw [e2,←ih]
        simp [hp]
  unfold putP storedH
  rw [hany]
  by_cases h:(atKey xs k).isSome=true
  · rw [if_pos h,if_pos h]
    clear hany h
    induction p with
    |nil=>exact .nil
    | @cons p q ps xs p1 p2 ih=>
      refine .cons ?_ ih
      by_cases hq:q.1=k
      · have hp:p.1=k:=by rw [p1.1];exact hq
        simp only [putAt,hq,hp,if_true]
        exact ⟨rfl,p1.2.1,rv⟩
      · have hp: ¬p.1=k:=by rw [p1.1];exact hq
        simp only [putAt,hq,hp,if_false]
        exact p1
  · rw [if_neg h,if_neg h]
    clear hany h
    induction p with
    |nil=>exact .cons ⟨rfl,rfl,rv⟩ .nil
    |cons p1 p2 ih=>exact .cons p1 ih
theorem put_len {ps:List T3} {k:NestedKey} {b:Addr} {v:V}:(putP ps k b v).length≤ps.length+1:=by
  unfold putP
  split<;>simp
theorem t_setItem {G:GE} {ρ M:List Addr} {A:Around} {E:Value→Shared→Prop} {Q:Unit→Shared→Prop} {a b:Addr} {ks:List D} {bs:List Addr} {vs:List V} {d:D} {v:V} {r:Value} (hu:A.units+64<cLine) (I:Inv X pins σ H s) (hK:X.K=G.K) (hw:X.w=G.w) (t:TV G H a ks bs vs) (mu:Mut (H a)) (fk:kfDs 8 ks=true) (rk:RepDs G ρ H M ks (bs.map V.ref)) (l:ks.length=vs.length)
    (hk:tkD d=true) (rd:RepD G ρ H M d (.ref b)) (rv:RelV v r) (hz:(zip3 ks bs vs).length<sizeLine) (h: ∀ s',Inv X pins σ (upd H a (DtO G.w a (putP (zip3 ks bs vs) (nkD d) b v))) s'→Q () s'):
    wpAny (model X.prog X.w) A (setItem (.ref a) (.ref b) r) Q E s:=by
  obtain ⟨b',eb,hi⟩:=key_is I hK hk rd
  cases eb
  obtain ⟨xs,pr,dd,hs,_⟩:=dt_at I hK hw t fk rk l
  have hxl:xs.length≤sizeLine:=by rw [←Paired.length pr];omega
  refine wpAny_setItem_heap (knd:=nestedKind X.prog X.w) (hsz:=hxl) (room8 hu) hi dd fun h' dd' sb=>h _ ?_
  obtain ⟨o,es,ep,h1,h2,h3,h4,_,h5⟩:=dd'
  refine d_write I mu sb ⟨o,h1⟩ ⟨?_,⟨o,h1⟩,fun g1 g2 p k=>?_⟩
  · refine ⟨_,paired_put (k:=nkD d) (b:=b) pr rv,hs, ?_,o,es,ep,h1,h2,h3, ?_,h5⟩
    · have:=put_len (ps:=zip3 ks bs vs) (k:=nkD d) (b:=b) (v:=v);omega
    · rw [h4,←hw];rfl
  · obtain ⟨xs',p1,p2,p3,o',es',ep',q1,q2⟩:=p
    exact ⟨xs',p1,p2,p3,o',es',ep',k _ q1,q2⟩
end
section
variable {G:GE} {k:Nat} {call:Call} {cc:CC} {W:WX} {X:Cx}
def mutTO (kd d:D):O→Option O
  | .dct ks xs=>if fitsB ks.length then some (.dct (putT ks xs kd d).1 (putT ks xs kd d).2) else none
  | .dic [] []=>some (.dct [kd] [d])
  |_=>none
def mutTD (h:List O) (kd d:D):D→Option (List O)
  | .loc n=>(h[n]?).bind fun o=>(mutTO kd d o).map fun o'=>h.set n o'
  |_=>none
def mutT (s:S) (kd d:D):R→Option S
  | .own (.fz dd)=>(mutTD s.h kd d dd).map fun h=>⟨s.σ,h⟩
  | .own _=>none
  | .bor i=>match s.σ[i]? with
    |some (some (.fz dd))=>(mutTD s.h kd d dd).map fun h=>⟨s.σ,h⟩
    |some (some o)=>(mutTO kd d o).map fun o'=>⟨s.σ.set i (some o'),s.h⟩
    |_=>none
theorem own_mutT {o o':O} {kd d:D} (e:mutTO kd d o=some o') (hk:tkD kd=true) {ρ:List Addr} {H:Hp} {M F:List Addr} {v:V} (w:Own G ρ H M o v F):
    (∀ d,o≠.fz d)∧∃ p ks bs vs xs,v= .ref p∧F=[p]∧TV G H p ks bs vs∧Mut (H p)∧kfDs 8 ks=true∧ks.length=vs.length∧RepDs G ρ H M ks (bs.map V.ref)∧RepDs G ρ H M xs vs∧(zip3 ks bs vs).length<sizeLine∧
      ∀ (ρ':List Addr) (H':Hp) (M':List Addr) (b:Addr) (yv:V),RepDs G ρ' H' M' ks (bs.map V.ref)→RepDs G ρ' H' M' xs vs→RepD G ρ' H' M' kd (.ref b)→RepD G ρ' H' M' d yv→H' p=some (DtO G.w p (putP (zip3 ks bs vs) (nkD kd) b yv))→Own G ρ' H' M' o' (.ref p) [p]:=by
  have hz: ∀ {ks:List D} {bs:List Addr} {vs:List V},fitsB ks.length=true→(zip3 ks bs vs).length<sizeLine:=fun {ks bs vs} h=>by
    have h1:=of_decide_eq_true h
    have h2:(100001:Nat)≤sizeLine:=by rw [sizeLine_eq];decide
    unfold zip3
    rw [List.length_zip,nks_len]
    omega
  unfold mutTO at e
  split at e
  · rename_i ks xs
    split at e
    · rename_i hf
      cases e
      obtain ⟨a,bs,vs,ev,t,l,fk,rk,rd,f⟩:=w
      refine ⟨fun d z=>(nomatch z),a,ks,bs,vs,xs,ev,f,.inl (.inl t),by rw [t];exact True.intro,fk,l,rk,rd,hz hf,fun ρ' H' M' b yv rk' rd' rb ry hH=>?_⟩
      have lk:ks.length=bs.length:=by have:=rk'.length;simpa using this
      obtain ⟨bs',vs',z1,z2,z3,z4⟩:=putT_of lk l rk' rd' rb ry
      exact ⟨a,bs',vs',rfl,by rw [hH,z1],z2,putT_kf fk hk,z3,z4,rfl⟩
    · cases e
  · cases e
    obtain ⟨a,vs,ev,t,l,rd,f⟩:=w
    have:vs=[]:=List.length_eq_zero_iff.mp l.symm
    subst this
    refine ⟨fun d z=>(nomatch z),a,[],[],[],[],ev,f,.inr ⟨rfl,rfl,rfl,.inl t⟩,by rw [t];exact True.intro,rfl,rfl,rfl,rfl,by rw [sizeLine_eq];decide,fun ρ' H' M' b yv rk' rd' rb ry hH=>?_⟩
    refine ⟨a,[b],[yv],rfl,hH,rfl, ?_,.one rb,.one ry,rfl⟩
    exact putT_kf (ks:=[]) (xs:=[]) (d:=d) rfl hk
  · cases e
theorem CfS.mutateT {σr:Sr} {H:Hp} {s s':S} {Φ:List (R×V)} {kd:D} {r:R} {v:V} {d:D} {b:Addr} {yv:V} (hk:tkD kd=true) (c:CfS G σr H s ((r,v)::(.own (.fz kd),.ref b)::(.own (.fz d),yv)::Φ)) (e:mutT s kd d r=some s'):
    ∃ p ks bs vs ρ M,v= .ref p∧TV G H p ks bs vs∧Mut (H p)∧kfDs 8 ks=true∧RepDs G ρ H M ks (bs.map V.ref)∧ks.length=vs.length∧RepD G ρ H M kd (.ref b)∧(zip3 ks bs vs).length<sizeLine∧CfS G σr (upd H p (DtO G.w p (putP (zip3 ks bs vs) (nkD kd) b yv))) s' Φ:=by
  have bo: ∀ i w,(R.bor i,w)∈Φ→σr[i]?=some (some w):=fun i w q=>c.bo i w (List.mem_cons_of_mem _ (List.mem_cons_of_mem _ (List.mem_cons_of_mem _ q)))
  have split3: ∀ {ρ:List Addr} {H':Hp} {M:List Addr} {ks xs:List D} {us vs:List V},ks.length=us.length→RepDs G ρ H' M (ks++([kd]++(xs++[d]))) (us++([.ref b]++(vs++[yv])))→xs.length=vs.length→RepDs G ρ H' M ks us∧RepD G ρ H' M kd (.ref b)∧RepDs G ρ H' M xs vs∧RepD G ρ H' M d yv:=fun {ρ H' M ks xs us vs} l r lx=>by
    have r0:=RepDs.take ks.length r
    rw [List.take_left,l,List.take_left] at r0
    have r1:=RepDs.drop ks.length r
    rw [List.drop_left,l,List.drop_left] at r1
    obtain ⟨v',r',e',q1,q2⟩:=r1
    cases e'
    obtain ⟨q3,q4⟩:=reps_split lx q2
    exact ⟨r0,q1,q3,q4⟩
  have cell: ∀ (dd:D) (h':List O) (L:List (O×V)),Cf G H s.h ((.fz dd,v)::(.fz kd,.ref b)::(.fz d,yv)::L)→mutTD s.h kd d dd=some h'→∃ p ks bs vs ρ M,v= .ref p∧TV G H p ks bs vs∧Mut (H p)∧kfDs 8 ks=true∧RepDs G ρ H M ks (bs.map V.ref)∧ks.length=vs.length∧RepD G ρ H M kd (.ref b)∧(zip3 ks bs vs).length<sizeLine∧Cf G (upd H p (DtO G.w p (putP (zip3 ks bs vs) (nkD kd) b yv))) h' ((.fz dd,v)::L):=by
    intro dd h' L cf em
    unfold mutTD at em
    split at em
    · rename_i n
      simp only [Option.bind_eq_some_iff,Option.map_eq_some_iff] at em
      obtain ⟨o,hn,o',eo,eh⟩:=em
      subst eh
      obtain ⟨a,ev,ρ,M,A,hr,cp,ow⟩:=cf.cell hn
      obtain ⟨nf,p,ks,bs,vs,xs,ep,_,tv,mu,fk,l,rk,rx,hz,back⟩:=own_mutT eo hk ow
      cases ep
      have lk:ks.length=bs.length:=by have:=rk.length;simpa using this
      obtain ⟨ρ2,M2,cp2,r2⟩:=(Cf.fz (L:=L) (ds:=[kd,d]) (vs:=[.ref b,yv]) rfl).mp (show Cf G H s.h (Fz [kd,d] [.ref b,yv]++L) from cf.drop)
      obtain ⟨Xl,Yl,q1,q2⟩:=zip_at hn hr
      have cpA:=cp
      obtain ⟨A1,w1⟩:=Owns.mem (p:=(O.fz kd,V.ref b)) cpA.2.1 (List.mem_append_right _ (by simp))
      obtain ⟨A2,w2⟩:=Owns.mem (p:=(O.fz d,yv)) cpA.2.1 (List.mem_append_right _ (by simp))
      have key:Cf G H s.h (Fz (ks++([kd]++(xs++[d]))) (bs.map V.ref++([.ref b]++(vs++[yv])))++(.fz (.loc n),.ref a)::L):=by
        have rr:RepDs G ρ H M ((ks++([kd]++(xs++[d])))++[.loc n]) ((bs.map V.ref++([.ref b]++(vs++[yv])))++[.ref a]):=
          (rk.append ((RepDs.one w1.1).append (rx.append (.one w2.1)))).append (.one (d:=.loc n) ⟨a,rfl,hr⟩)
        have cpL:Cp G ρ H M s.h ((.fz kd,.ref b)::(.fz d,yv)::L):=cp
        have c3:Cf G H s.h (Fz ((ks++([kd]++(xs++[d])))++[.loc n]) ((bs.map V.ref++([.ref b]++(vs++[yv])))++[.ref a])++((.fz kd,.ref b)::(.fz d,yv)::L)):=(Cf.fz rr.length).mpr ⟨ρ,M,cpL,rr⟩
        rw [Fz_append (by simp [lk,rx.length]),List.append_assoc] at c3
        have c4:Cf G H s.h ([(O.fz kd,V.ref b),(O.fz d,yv)]++(Fz (ks++([kd]++(xs++[d]))) (bs.map V.ref++([.ref b]++(vs++[yv])))++(.fz (.loc n),.ref a)::L)):=c3.perm (by
          have e1:Fz (ks++([kd]++(xs++[d]))) (bs.map V.ref++([.ref b]++(vs++[yv])))++(Fz [.loc n] [.ref a]++(O.fz kd,V.ref b)::(O.fz d,yv)::L)=(Fz (ks++([kd]++(xs++[d]))) (bs.map V.ref++([.ref b]++(vs++[yv])))++[(O.fz (.loc n),V.ref a)])++([(O.fz kd,V.ref b),(O.fz d,yv)]++L):=by simp [Fz]
          have e2:[(O.fz kd,V.ref b),(O.fz d,yv)]++(Fz (ks++([kd]++(xs++[d]))) (bs.map V.ref++([.ref b]++(vs++[yv])))++(.fz (.loc n),.ref a)::L)=[(O.fz kd,V.ref b),(O.fz d,yv)]++((Fz (ks++([kd]++(xs++[d]))) (bs.map V.ref++([.ref b]++(vs++[yv])))++[(O.fz (.loc n),V.ref a)])++L):=by simp
          rw [e1,e2]
          exact List.perm_append_comm_assoc _ _ _)
        exact Cf.dropN c4
      subst ev
      refine ⟨a,ks,bs,vs,ρ,M,rfl,tv,mu,fk,rk,l,w1.1,hz,Cf.putCell (by simp [lk,rx.length]) key hn nf fun ρ' M' H' eH rr=>?_⟩
      obtain ⟨z1,z2,z3,z4⟩:=split3 (by simpa using lk) rr rx.length
      exact back ρ' H' M' b yv z1 z3 z2 z4 eH
    · cases em
  cases r with
  | own o=>
    cases o with
    | fz dd=>
      simp only [mutT,Option.map_eq_some_iff] at e
      obtain ⟨h',em,eh⟩:=e
      subst eh
      obtain ⟨p,ks,bs,vs,ρ,M,z1,z2,z3,z4,z5,z6,z7,z8,cf⟩:=cell dd h' (slp s.σ σr++ow Φ) (c.cf.perm (by
        show (slp s.σ σr++(O.fz dd,v)::(O.fz kd,V.ref b)::(O.fz d,yv)::ow Φ).Perm _
        exact List.perm_middle.trans (.cons _ (List.perm_middle.trans (.cons _ List.perm_middle))))) em
      exact ⟨p,ks,bs,vs,ρ,M,z1,z2,z3,z4,z5,z6,z7,z8,c.sl,bo,cf.drop⟩
    |_=>all_goals cases e
  | bor i =>
    have ev:σr[i]?=some (some v):=c.bo i v (by simp)
    have cfY:Cf G H s.h (slp s.σ σr++(.fz kd,.ref b)::(.fz d,yv)::ow Φ):=c.cf
    simp only [mutT] at e
    split at e
    · rename_i dd es1
      simp only [Option.map_eq_some_iff] at e
      obtain ⟨h',em,eh⟩:=e
      subst eh
      obtain ⟨Xl,Yl,q1,q2⟩:=slp_at es1 ev
      rw [q1] at cfY
      obtain ⟨p,ks,bs,vs,ρ,M,z1,z2,z3,z4,z5,z6,z7,z8,cf⟩:=cell dd h' (Xl++Yl++ow Φ) (cfY.perm (by
        rw [show Xl++(O.fz dd,v)::Yl++(O.fz kd,V.ref b)::(O.fz d,yv)::ow Φ=Xl++(O.fz dd,v)::(Yl++(O.fz kd,V.ref b)::(O.fz d,yv)::ow Φ) by simp]
        refine List.perm_middle.trans (.cons _ ?_)
        rw [←List.append_assoc]
        refine List.perm_middle.trans (.cons _ ?_)
        exact List.perm_middle)) em
      refine ⟨p,ks,bs,vs,ρ,M,z1,z2,z3,z4,z5,z6,z7,z8,c.sl,bo, ?_⟩
      rw [q1]
      refine cf.perm ?_
      rw [List.append_assoc,List.append_assoc]
      exact List.perm_middle.symm
    · rename_i o nfz es1
      simp only [Option.map_eq_some_iff] at e
      obtain ⟨o',eo,eh⟩:=e
      subst eh
      obtain ⟨Xl,Yl,q1,q2⟩:=slp_at es1 ev
      rw [q1] at cfY
      have c1:Cf G H s.h ((o,v)::((.fz kd,.ref b)::(.fz d,yv)::(Xl++Yl++ow Φ))):=cfY.perm (by
        rw [show Xl++(o,v)::Yl++(O.fz kd,V.ref b)::(O.fz d,yv)::ow Φ=Xl++(o,v)::(Yl++(O.fz kd,V.ref b)::(O.fz d,yv)::ow Φ) by simp]
        refine List.perm_middle.trans (.cons _ ?_)
        rw [←List.append_assoc]
        refine List.perm_middle.trans (.cons _ ?_)
        exact List.perm_middle)
      obtain ⟨ρ,M,cp⟩:=id c1
      obtain ⟨A0,w0⟩:=Owns.mem (p:=(o,v)) cp.2.1 (List.mem_append_right _ (by simp))
      obtain ⟨A1,w1⟩:=Owns.mem (p:=(O.fz kd,V.ref b)) cp.2.1 (List.mem_append_right _ (by simp))
      obtain ⟨A2,w2⟩:=Owns.mem (p:=(O.fz d,yv)) cp.2.1 (List.mem_append_right _ (by simp))
      obtain ⟨nf,p,ks,bs,vs,xs,ep,_,tv,mu,fk,l,rk,rx,hz,back⟩:=own_mutT eo hk w0
      subst ep
      have lk:ks.length=bs.length:=by have:=rk.length;simpa using this
      have key:Cf G H s.h ((o,.ref p)::(Fz (ks++([kd]++(xs++[d]))) (bs.map V.ref++([.ref b]++(vs++[yv])))++(Xl++Yl++ow Φ))):=by
        have rr:RepDs G ρ H M (ks++([kd]++(xs++[d]))) (bs.map V.ref++([.ref b]++(vs++[yv]))):=rk.append ((RepDs.one w1.1).append (rx.append (.one w2.1)))
        have c3:=(Cf.fz rr.length).mpr ⟨ρ,M,cp,rr⟩
        have c4:Cf G H s.h ([(O.fz kd,V.ref b),(O.fz d,yv)]++((o,.ref p)::(Fz (ks++([kd]++(xs++[d]))) (bs.map V.ref++([.ref b]++(vs++[yv])))++(Xl++Yl++ow Φ)))):=c3.perm (by
          have e1:Fz (ks++([kd]++(xs++[d]))) (bs.map V.ref++([.ref b]++(vs++[yv])))++(o,V.ref p)::(O.fz kd,V.ref b)::(O.fz d,yv)::(Xl++Yl++ow Φ)=(Fz (ks++([kd]++(xs++[d]))) (bs.map V.ref++([.ref b]++(vs++[yv])))++[(o,V.ref p)])++([(O.fz kd,V.ref b),(O.fz d,yv)]++(Xl++Yl++ow Φ)):=by simp
          rw [e1]
          refine (List.perm_append_comm_assoc _ _ _).trans (List.Perm.append_left _ ?_)
          rw [List.append_assoc]
          exact List.perm_middle)
        exact Cf.dropN c4
      have z3:=key.change (ho:=DtO G.w p (putP (zip3 ks bs vs) (nkD kd) b yv)) (o':=o') (by simp [lk,rx.length]) nf fun ρ' M' H' eH rr=>by
        obtain ⟨y1,y2,y3,y4⟩:=split3 (by simpa using lk) rr rx.length
        exact back ρ' H' M' b yv y1 y3 y2 y4 eH
      refine ⟨p,ks,bs,vs,ρ,M,rfl,tv,mu,fk,rk,l,w1.1,hz,⟨by simp [c.sl.len],fun j o' q=>?_⟩,bo, ?_⟩
      · by_cases hj:i=j
        · subst hj;exact ⟨_,ev⟩
        · exact c.sl.at_ j o' (by simpa [List.getElem?_set,hj] using q)
      · show Cf G _ s.h (slp (s.σ.set i (some _)) σr++ow Φ)
        rw [q2]
        refine z3.perm ?_
        rw [List.append_assoc,List.append_assoc]
        exact List.perm_middle.symm
    · cases e
def cSetT (me mx mi:E):C:=fun call s=>(me call s).flow fun y s1=>match take s1 y with
  |none=>.bad
  | some (d,s2)=>(mx call s2).flow fun x s3=>(mi call s3).flow fun i s4=>match take s4 i with
    | some (kd,s5)=>(match tkD kd with
      | true=>(match mutT s5 kd d x with
        |some s6=>.nx s6
        |none=>.bad)
      |false=>.bad)
    |none=>.bad
theorem s_setT (g:Good G k call cc W X) {e x i:Expr} {me mx mi:E} {p pos:Pos} (he:PE X e (tE G W call me)) (hx:PE X x (tE G W call mx)) (hi:PE X i (tE G W call mi)):
    PS X (.Assign [.Subscript x i p] e pos) (tS G W call (cSetT me mx mi)):=by
  refine ⟨fun pins s σ H D I h=>?_⟩
  obtain ⟨st,Φ,nb,c,q⟩:=h
  have h1 : tE G W call me σ H fun v H1=>tE G W call mx σ H1 fun xv H2=>tE G W call mi σ H2 fun iv H3=> ∃ p ks bs vs ρ M kd b,xv= .ref p∧iv= .ref b∧TV G H3 p ks bs vs∧Mut (H3 p)∧kfDs 8 ks=true∧RepDs G ρ H3 M ks (bs.map V.ref)∧ks.length=vs.length∧tkD kd=true∧RepD G ρ H3 M kd (.ref b)∧(zip3 ks bs vs).length<sizeLine∧D.nx σ (upd H3 p (DtO G.w p (putP (zip3 ks bs vs) (nkD kd) b v))):=by
    refine ⟨st,Φ,c,(AftS.flow q).mono fun y s1 a1=>fun yv H1 c1=>?_⟩
    split at a1
    · exact a1.elim
    · rename_i d s2 et
      have c2:=c1.take et
      refine ⟨s2,_,c2,((AftS.flow a1).frame1).mono fun x s3 a3=>fun xv H2 c3=>?_⟩
      refine ⟨s3,_,c3,((AftS.flow a3).frame (K:=[(x,xv),(.own (.fz d),yv)])).mono fun i s4 a4=>fun iv H3 c4=>?_⟩
      split at a4
      · rename_i kd s5 ek
        split at a4
        · rename_i hk
          split at a4
          · rename_i s6 em
            have c5:=c4.take ek
            have hb: ∃ b,iv= .ref b:=by
              obtain ⟨ρ,M,cp⟩:=c5.parts
              obtain ⟨A1,w1⟩:=Owns.mem (p:=(O.fz kd,iv)) cp.2.1 (List.mem_append_right _ (by simp [ow]))
              cases kd with
              |tup ds=>obtain ⟨a,vs,ev,_⟩:=w1.1;exact ⟨a,ev⟩
              |_=>all_goals cases hk
            obtain ⟨b,rfl⟩:=hb
            obtain ⟨p,ks,bs,vs,ρ,M,z1,z2,z3,z4,z5,z6,z7,z8,fin⟩:=CfS.mutateT (Φ:=Φ) hk (c5.perm (.swap _ _ _)) em
            exact ⟨p,ks,bs,vs,ρ,M,kd,b,z1,rfl,z2,z3,z4,z5,z6,hk,z7,z8,a4 σ _ fin⟩
          · exact a4.elim
        · exact a4.elim
      · exact a4.elim
  refine wpAny_Assign_Subscript (thn (he.run pins s σ H _ I h1) fun r s1 ⟨v,H1,I1,rv,q1⟩=>thn (hx.run pins s1 σ H1 _ I1 q1) fun u s2 ⟨x,H2,I2,rx,q2⟩=>thn (hi.run pins s2 σ H2 _ I2 q2) fun iv s3 ⟨y,H3,I3,ry,pp,ks,bs,vs,ρ,M,kd,b,ex,ey,tv,mu,fk,rk,l,hk,rd,hz,q3⟩=>?_) sw_sub
  subst ex
  subst ey
  obtain rfl:u=Value.ref pp:=rx
  obtain rfl:iv=Value.ref b:=ry
  exact t_setItem g.units I3 g.K g.wd tv mu fk rk l hk rd rv hz fun s4 I4=>⟨σ,_,I4,q3⟩
end
end Mi
namespace Mi
open PySem PySem.Spec PyProof.Rows L2
section
variable {X:Cx}
def tDx (DS:V→V→Addr→Hp→(Hp→Prop)→Prop) (wi:TI) (g:TG) (tt:TT) (tk tv:TE) (vs:List Nat):TE:=fun σ H Q=>wi σ H fun J H1=> ∀ D,H1 D=none→∃ W:Nat→Nat→Hp→Prop,(∃ m,W 0 m (upd H1 D (.dK [])))∧∀ i m H,W i m H→
  (J.stop i H∧Q (.ref D) H)∨(J.go i H∧∃ Nx:Hp→Prop,(∀ H',Nx H'→∃ m',m'<m∧W (i+1) m' H')∧∀ x H',J.yld i H x H'→g x (L2.wipe σ vs) H' fun σ2 H2=>L2.wipe σ2 vs=L2.wipe σ vs∧tt σ2 H2 fun b H3=>
    if b=true then tk σ2 H3 fun y H4=>tv σ2 H4 fun z H5=>DS y z D H5 Nx else Nx H3)
theorem dx_core {DS:V→V→Addr→Hp→(Hp→Prop)→Prop} {pins:List (Addr×Obj)} {s:Shared} {σ:Sr} {H:Hp} {Q:VK} {kx vx tg iter:Expr} {ifs:List Expr} {scope:Scope} {own:List (Str×Nat)} {pos pos':Pos} {wi:TI} {g:TG} {tt:TT} {tk tv:TE} {use:Option (Value→Sem Unit)} {Qf:Value→Shared→Prop}
    (hDS: ∀ (s0:Shared) (H0:Hp) (ce:Env) (fp:List Addr) (pins:List (Addr×Obj)) (σ:Sr) (s:Shared) (H:Hp) (D:Addr) (y z:V) (u r:Value) (N:Hp→Prop) (Qd:Unit→Shared→Prop) (E:Value→Shared→Prop),Inv (X.blk s0 H0 scope ce fp) pins σ H s→RelV y u→RelV z r→DS y z D H N→(∀ s' H',Inv (X.blk s0 H0 scope ce fp) pins σ H' s'→N H'→Qd () s')→wpAny (model X.prog X.w) X.A (dictSet D u r) Qd E s)
    (hc:X.calm=true) (hN:X.N.Nodup) (I:Inv X pins σ H s) (hi:PI X tg iter wi) (ok:BlkOk X.N X.env.scope scope own)
    (hg: ∀ (s:Shared) (H:Hp) (C:Addr) (cl:List (Str×Addr)) (fp:List Addr),PG (X.blk s H scope (compEnvC scope cl C X.env) fp) tg g) (ht: ∀ (s:Shared) (H:Hp) (C:Addr) (cl:List (Str×Addr)) (fp:List Addr),PTs (X.blk s H scope (compEnvC scope cl C X.env) fp) ifs tt)
    (hk: ∀ (s:Shared) (H:Hp) (C:Addr) (cl:List (Str×Addr)) (fp:List Addr),PE (X.blk s H scope (compEnvC scope cl C X.env) fp) kx tk)
    (he: ∀ (s:Shared) (H:Hp) (C:Addr) (cl:List (Str×Addr)) (fp:List Addr),PE (X.blk s H scope (compEnvC scope cl C X.env) fp) vx tv) (hs: ∀ x,foldedSetIterable iter X.env x=pure x)
    (h:tDx DS wi g tt tk tv (own.map (·.2)) σ H Q)
    (hRR: ∀ D C s' m H',Inv X pins σ H' s'→Q (.ref D) H'→s'.heap.Ns C m→FpOk X pins H' C→compPost (model X.prog X.w) X.A X.xe use Qf (.ref D) C (.ok .next) s'):
    wpAny (model X.prog X.w) X.A (comprehension (.DictComp kx vx [⟨tg,iter,ifs,0⟩] scope pos) scope X.env pos' newDict false (eval iter X.env) use) Qf X.xe s:=by
  have hfree: ∀ y∈scope.names,y.2= .free→∃ c,X.env.cells.lookup y.1=some c:=fun y hy e=>(ok.free y hy e).elim (fun k=>I.ok.has _ (.inl k)) fun k=>I.ok.has _ (.inr k)
  refine wpAny_comprehension_free (use:=use) rfl hs (closure_ok hfree) ok.kind (fun y hy e=>by rw [ok.uniq y hy,e])
    (thn (hi.run pins s σ H _ I h) fun xv s1 hx=>thn hx fun itv s2 h2=>?_)
  obtain ⟨it,fp,tn,J,H2,e,I2,T,st2,f2,q⟩:=h2
  subst e
  refine wpAny_newObj_type (newEnv_comp ?_)
  generalize hD:s2.heap.objs.size=D
  have hDn:H2 D=none:=I2.hok.fresh (Nat.le_of_eq hD)
  obtain ⟨W,⟨m0,w0⟩,turn⟩:=q D hDn
  generalize hs3:({s2 with heap:=s2.heap.push {cls:=.type "dict",data:=.dict #[]}}:Shared)=s3
  have I3:Inv X pins σ (upd H2 D (.dK [])) s3:=by
    rw [←hs3]
    refine I2.laid (t':=s2.toks) (fun b o e=>Heap.get?_push_of_some _ e) (Nat.le_of_eq hD) ?_
    rw [←hD]
    exact dk_empty s2.heap I2.big
  have h3:s3.heap=s2.heap.push {cls:=.type "dict",data:=.dict #[]}:=by rw [←hs3]
  have sz: ∀ b∈fp,b<s2.heap.objs.size:=fun b hb=>by
    obtain ⟨o,e,_⟩:=T.obj _ _ st2 b hb
    exact Heap.lt_size e
  have f3: ∀ b∈fp,FpOk X pins (upd H2 D (.dK [])) b∧b<s3.heap.objs.size:=fun b hb=>by
    have hlt:=sz b hb
    refine ⟨⟨?_,(f2 b hb).2⟩,by rw [h3,Heap.size_push];exact Nat.lt_succ_of_lt hlt⟩
    rw [upd_ne (by rw [←hD];exact Nat.ne_of_lt hlt)]
    exact (f2 b hb).1
  have st3:tn 0 s3.heap:=T.keep _ _ _ st2 fun b _ o e=>by rw [h3];exact Heap.get?_push_of_some _ e
  have I4:=block_start I3 ok hN f3
  have pg:=hg s3 (upd H2 D (.dK [])) s3.heap.objs.size (cellsFrom (s3.heap.objs.size+1) scope.names (cloFrom X.env.cells scope.names [])) fp
  have pt:=ht s3 (upd H2 D (.dK [])) s3.heap.objs.size (cellsFrom (s3.heap.objs.size+1) scope.names (cloFrom X.env.cells scope.names [])) fp
  have pk:=hk s3 (upd H2 D (.dK [])) s3.heap.objs.size (cellsFrom (s3.heap.objs.size+1) scope.names (cloFrom X.env.cells scope.names [])) fp
  have pe:=he s3 (upd H2 D (.dK [])) s3.heap.objs.size (cellsFrom (s3.heap.objs.size+1) scope.names (cloFrom X.env.cells scope.names [])) fp
  have pd:=hDS s3 (upd H2 D (.dK [])) (compEnvC scope (cellsFrom (s3.heap.objs.size+1) scope.names (cloFrom X.env.cells scope.names [])) s3.heap.objs.size X.env) fp
  show codeAny _ _ (.compStart (.DictComp kx vx [⟨tg,iter,ifs,0⟩] scope pos) 0 (.ref it) (.ref D) (compEnvC scope (cellsFrom (s3.heap.objs.size+1) scope.names (cloFrom X.env.cells scope.names [])) s3.heap.objs.size X.env)) (compPost (model X.prog X.w) X.A X.xe use Qf (.ref D) s3.heap.objs.size) {s3 with heap:=pushCells (s3.heap.push {cls:=.type "dict",data:=.dict #[]}) scope.names}
  have nfp: ∀ b∈fp,(upd H2 D (.dK [])) b=none:=fun b hb=>(f3 b hb).1.1
  generalize hce:compEnvC scope (cellsFrom (s3.heap.objs.size+1) scope.names (cloFrom X.env.cells scope.names [])) s3.heap.objs.size X.env=ce at I4 pg pt pk pe pd ⊢
  have cL:ce.locals=s3.heap.objs.size:=by subst hce;rfl
  generalize hH3:upd H2 D (.dK [])=H3 at I3 I4 pg pt pk pe pd w0 nfp f3
  generalize hs4:({s3 with heap:=pushCells (s3.heap.push {cls:=.type "dict",data:=.dict #[]}) scope.names}:Shared)=s4 at I4 ⊢
  have st4:tn 0 s4.heap:=T.keep _ _ _ st3 fun b _ o e=>by rw [←hs4];exact pushCells_keeps _ _ _ _ (Heap.get?_push_of_some _ e)
  have stat: ∀ {σ':Sr} {H':Hp} {s':Shared},Inv (X.blk s3 H3 scope ce fp) [] σ' H' s'→(∀ b∈fp,H' b=none)→∀ b∈fp,FpOk (X.blk s3 H3 scope ce fp) [] H' b:=fun {σ' H' s'} I' hn b hb=>
    ⟨hn b hb,(I'.ok.exf b hb).1,I'.ok.exfs b hb,.inl hb,fun x c e=>(I'.ok.exf b hb).2 x c e,fun p hp=>absurd (show p∈([]:List (Addr×Obj))++[] from hp) (by simp)⟩
  have loop:codeAny (model X.prog X.w) X.A (.compLoop (.DictComp kx vx [⟨tg,iter,ifs,0⟩] scope pos) 0 (.ref it) (.ref D) ce) (compPost (model X.prog X.w) X.A X.xe use Qf (.ref D) s3.heap.objs.size) s4:=by
    refine compLoop_anyD (fun n s'=> ∃ i H',Inv (X.blk s3 H3 scope ce fp) [] (L2.wipe σ (own.map (·.2))) H' s'∧tn i s'.heap∧(∀ b∈fp,H' b=none)∧W i n H') ?_ m0 ⟨0,H3,I4,st4,nfp,w0⟩
    rintro n s5 ⟨i,H5,I5,st5,n5,w5⟩
    rcases turn i n H5 w5 with ⟨stop,qq⟩|⟨go,Nx,hNx,step⟩
    · have td:=T.done (X.blk s3 H3 scope ce fp) rfl rfl rfl hc i [] s5 _ H5 (fun _ _=>False) I5 (stat I5 n5) st5 stop
      refine thnF td fun r s6 ⟨hr,I6⟩=>?_
      subst hr
      have I7:Inv X pins σ H5 s6:=I3.call' (ch:=fp) I6.os I6.base I6.hok I6.bare fun b hb=>⟨(f3 b hb).1.2.2.2.1,(f3 b hb).1.2.1,(f3 b hb).1.2.2.2.2.1,(f3 b hb).1.2.2.2.2.2⟩
      have nC:H5 s3.heap.objs.size=none:=by
        have z:H5 ce.locals=none:=I6.free
        rw [cL] at z
        exact z
      obtain ⟨m,hn,_⟩:=I6.loc
      have hn:s6.heap.Ns ce.locals m:=hn
      rw [cL] at hn
      exact hRR D s3.heap.objs.size s6 m H5 I7 qq hn (I3.fpOk (Nat.le_refl _) nC)
    · have ti:=T.item (X.blk s3 H3 scope ce fp) rfl rfl rfl hc i [] s5 _ H5 (fun _ _=>False) I5 (stat I5 n5) st5 go
      refine thnF ti fun r s6 ⟨u,hr,h6⟩=>?_
      subst hr
      refine thnF h6 fun _ s7 ⟨x,H7,I7,r7,y7,st7,n7⟩=>?_
      have I7':=I7.pinned (stat I7 n7) (T.obj _ _ st7)
      refine thnF (pg.run _ s7 _ H7 x u _ I7' r7 (step x H7 y7)) fun _ s8 ⟨σ8,H8,I8,hw8,q8⟩=>?_
      refine thnF (pt.run _ s8 σ8 H8 _ I8 q8) fun b s9 ⟨H9,I9,q9⟩=>?_
      have fin: ∀ {s':Shared} {H':Hp},Inv (X.blk s3 H3 scope ce fp) ([]++pinsAt fp s7.heap) σ8 H' s'→Nx H'→∃ m,m<n∧∃ i H',Inv (X.blk s3 H3 scope ce fp) [] (L2.wipe σ (own.map (·.2))) H' s'∧tn i s'.heap∧(∀ b∈fp,H' b=none)∧W i m H':=fun {s' H'} I' nx=>by
        obtain ⟨m',hm,w'⟩:=hNx H' nx
        have pin': ∀ b∈fp,∀ o,s7.heap.get? b=some o→s'.heap.get? b=some o∧H' b=none:=fun b hb o e=>
          let z:=I'.pin (b,o) (List.mem_append_right _ (List.mem_append_right _ (mem_pinsAt hb e)))
          ⟨z.1,z.2.1⟩
        have hl:(L2.wipe σ (own.map (·.2))).length=σ8.length:=by rw [←hw8,wipe_length]
        refine ⟨m',hm,i+1,H',(I'.unpinned (pins:=[])).weak hl (fun j v e=>?_),T.keep _ _ _ st7 fun b hb o e=>(pin' b hb o e).1,fun b hb=>?_,w'⟩
        · rw [←hw8] at e
          exact (wipe_some e).1
        · obtain ⟨o,e,_⟩:=T.obj _ _ st7 b hb
          exact (pin' b hb o e).2
      cases b with
      | false=>
        simp only [Bool.false_eq_true,if_false] at q9 ⊢
        exact fin I9 q9
      | true=>
        simp only [if_true] at q9 ⊢
        refine thnF (pk.run _ s9 σ8 H9 _ I9 q9) fun z s10 ⟨yk,H10,I10,r10,q10⟩=>?_
        refine thnF (pe.run _ s10 σ8 H10 _ I10 q10) fun z2 s11 ⟨yv,H11,I11,r11,ds⟩=>?_
        exact pd _ _ _ _ _ _ _ _ _ _ _ _ I11 r10 r11 ds fun s12 H12 I12 nx=>fin I12 nx
  exact codeAny_compStart_dict loop (T.self X.A 0 _ _ _ st4 loop)
end
def putO (kd d:D):O→Option O
  | .dic ks xs=>(match keyD kd with
    |some kk=>if fitsB ks.length then some (.dic (putD ks xs kk d).1 (putD ks xs kk d).2) else none
    |none=>if tkD kd=true∧ks=[]∧xs=[] then some (.dct [kd] [d]) else none)
  | .dct ks xs=>if tkD kd=true then mutTO kd d (.dct ks xs) else none
  |_=>none
def dsG (G:GE) (y z:V) (D:Addr) (H:Hp) (N:Hp→Prop):Prop:=
  (∃ kvs k,y=kV k∧H D=some (.dK kvs)∧kvs.length<sizeLine∧N (upd H D (.dK (putK kvs k z))))∨
  ∃ ks bs vs ρ M kd b,y= .ref b∧TV G H D ks bs vs∧Mut (H D)∧kfDs 8 ks=true∧RepDs G ρ H M ks (bs.map V.ref)∧ks.length=vs.length∧tkD kd=true∧RepD G ρ H M kd (.ref b)∧(zip3 ks bs vs).length<sizeLine∧N (upd H D (DtO G.w D (putP (zip3 ks bs vs) (nkD kd) b z)))
section
variable {X:Cx} {pins:List (Addr×Obj)} {σ:Sr} {H:Hp} {s:Shared}
theorem t_dictSet {G:GE} {ρ M:List Addr} {A:Around} {E:Value→Shared→Prop} {Q:Unit→Shared→Prop} {a b:Addr} {ks:List D} {bs:List Addr} {vs:List V} {d:D} {v:V} {r:Value} (hu:A.units+64<cLine) (I:Inv X pins σ H s) (hK:X.K=G.K) (hw:X.w=G.w) (t:TV G H a ks bs vs) (mu:Mut (H a)) (fk:kfDs 8 ks=true) (rk:RepDs G ρ H M ks (bs.map V.ref)) (l:ks.length=vs.length)
    (hk:tkD d=true) (rd:RepD G ρ H M d (.ref b)) (rv:RelV v r) (hz:(zip3 ks bs vs).length<sizeLine) (h: ∀ s',Inv X pins σ (upd H a (DtO G.w a (putP (zip3 ks bs vs) (nkD d) b v))) s'→Q () s'):
    wpAny (model X.prog X.w) A (dictSet a (.ref b) r) Q E s:=by
  obtain ⟨b',eb,hi⟩:=key_is I hK hk rd
  cases eb
  obtain ⟨xs,pr,dd,hs,_⟩:=dt_at I hK hw t fk rk l
  have hxl:xs.length≤sizeLine:=by rw [←Paired.length pr];omega
  refine wpAny_dictSet_heap (knd:=nestedKind X.prog X.w) (hsz:=hxl) (Nat.lt_of_le_of_lt (Nat.add_le_add_left (by decide) _) hu) hi dd fun h' dd' sb=>h _ ?_
  obtain ⟨o,es,ep,h1,h2,h3,h4,_,h5⟩:=dd'
  refine d_write I mu sb ⟨o,h1⟩ ⟨?_,⟨o,h1⟩,fun g1 g2 p k=>?_⟩
  · refine ⟨_,paired_put (k:=nkD d) (b:=b) pr rv,hs, ?_,o,es,ep,h1,h2,h3, ?_,h5⟩
    · have:=put_len (ps:=zip3 ks bs vs) (k:=nkD d) (b:=b) (v:=v);omega
    · rw [h4,←hw];rfl
  · obtain ⟨xs',p1,p2,p3,o',es',ep',q1,q2⟩:=p
    exact ⟨xs',p1,p2,p3,o',es',ep',k _ q1,q2⟩
theorem ds_run {G:GE} {y z:V} {D:Addr} {u r:Value} {N:Hp→Prop} {Qd:Unit→Shared→Prop} {E:Value→Shared→Prop} (hu:X.A.units+64<cLine) (hK:X.K=G.K) (hw:X.w=G.w) (I:Inv X pins σ H s) (ry:RelV y u) (rz:RelV z r) (d:dsG G y z D H N) (h: ∀ s' H',Inv X pins σ H' s'→N H'→Qd () s'):
    wpAny (model X.prog X.w) X.A (dictSet D u r) Qd E s:=by
  rcases d with ⟨kvs,k,ey,hD,hz,n⟩|⟨ks,bs,vs,ρ,M,kd,b,ey,t,mu,fk,rk,l,hk,rd,hz,n⟩
  · subst ey
    exact d_dictSet I hD hz ry rz fun s' I'=>h s' _ I' n
  · subst ey
    obtain rfl:u=Value.ref b:=ry
    exact t_dictSet hu I hK hw t mu fk rk l hk rd rz hz fun s' I'=>h s' _ I' n
end
section
variable {G:GE} {k:Nat} {call:Call} {cc:CC} {W:WX} {X:Cx} {vs:List Nat}
theorem CfS.putOwn {σr:Sr} {H:Hp} {s:S} {Φ:List (R×V)} {kd d:D} {o o':O} {kv yv:V} {p:Addr} {N:Hp→Prop} (c:CfS G σr H s ((.own (.fz d),yv)::(.own (.fz kd),kv)::(.own o,.ref p)::Φ)) (e:putO kd d o=some o')
    (n: ∀ H',CfS G σr H' s ((.own o',.ref p)::Φ)→N H'):dsG G kv yv p H N:=by
  have bo: ∀ o i w,(R.bor i,w)∈(R.own o,V.ref p)::Φ→σr[i]?=some (some w):=fun o i w q=>by
    rcases List.mem_cons.mp q with z|z
    · cases z
    · exact c.bo i w (by simp [z])
  have cf:Cf G H s.h ((o,.ref p)::(.fz d,yv)::(.fz kd,kv)::(slp s.σ σr++ow Φ)):=c.cf.perm (by
    show (slp s.σ σr++(O.fz d,yv)::(O.fz kd,kv)::(o,V.ref p)::ow Φ).Perm _
    refine List.perm_middle.trans ((List.Perm.cons _ (List.perm_middle.trans (List.Perm.cons _ List.perm_middle))).trans ?_)
    exact (List.Perm.cons _ (.swap _ _ _)).trans (.swap _ _ _))
  have szl: ∀ {ks:List Key} {vs:List V},fitsB ks.length=true→(ks.zip vs).length<sizeLine:=fun {ks vs} h=>by
    have h1:=of_decide_eq_true h
    have h2:(100001:Nat)≤sizeLine:=by rw [sizeLine_eq];decide
    rw [List.length_zip]
    omega
  have fin: ∀ {H':Hp} {o':O},Cf G H' s.h ((o',.ref p)::(slp s.σ σr++ow Φ))→CfS G σr H' s ((.own o',.ref p)::Φ):=fun {H' o'} z=>⟨c.sl,bo o',z.perm List.perm_middle.symm⟩
  have tup: ∀ {o o':O},Cf G H s.h ((o,.ref p)::(.fz d,yv)::(.fz kd,kv)::(slp s.σ σr++ow Φ))→mutTO kd d o=some o'→tkD kd=true→(∀ H',CfS G σr H' s ((.own o',.ref p)::Φ)→N H')→dsG G kv yv p H N:=fun {o o'} cf e hk n=>by
    obtain ⟨ρ,M,cp⟩:=id cf
    obtain ⟨A0,w0⟩:=Owns.mem (p:=(o,V.ref p)) cp.2.1 (List.mem_append_right _ (by simp))
    obtain ⟨A1,w1⟩:=Owns.mem (p:=(O.fz kd,kv)) cp.2.1 (List.mem_append_right _ (by simp))
    obtain ⟨A2,w2⟩:=Owns.mem (p:=(O.fz d,yv)) cp.2.1 (List.mem_append_right _ (by simp))
    have hb: ∃ b,kv= .ref b:=by
      cases kd with
      |tup ds=>obtain ⟨a,vs,ev,_⟩:=w1.1;exact ⟨a,ev⟩
      |_=>all_goals cases hk
    obtain ⟨b,rfl⟩:=hb
    obtain ⟨nf,p',ks,bs,vs,xs,ep,_,tv,mu,fk,l,rk,rx,hz,back⟩:=own_mutT e hk w0
    cases ep
    have lk:ks.length=bs.length:=by have:=rk.length;simpa using this
    refine .inr ⟨ks,bs,vs,ρ,M,kd,b,rfl,tv,mu,fk,rk,l,hk,w1.1,hz,n _ (fin ?_)⟩
    have key:Cf G H s.h ((o,.ref p)::(Fz (ks++([kd]++(xs++[d]))) (bs.map V.ref++([.ref b]++(vs++[yv])))++(slp s.σ σr++ow Φ))):=by
      have rr:RepDs G ρ H M (ks++([kd]++(xs++[d]))) (bs.map V.ref++([.ref b]++(vs++[yv]))):=rk.append ((RepDs.one w1.1).append (rx.append (.one w2.1)))
      have c3:=(Cf.fz rr.length).mpr ⟨ρ,M,cp,rr⟩
      have c4:Cf G H s.h ([(O.fz d,yv),(O.fz kd,V.ref b)]++((o,.ref p)::(Fz (ks++([kd]++(xs++[d]))) (bs.map V.ref++([.ref b]++(vs++[yv])))++(slp s.σ σr++ow Φ)))):=c3.perm (by
        have e1:Fz (ks++([kd]++(xs++[d]))) (bs.map V.ref++([.ref b]++(vs++[yv])))++((o,V.ref p)::(O.fz d,yv)::(O.fz kd,V.ref b)::(slp s.σ σr++ow Φ))=(Fz (ks++([kd]++(xs++[d]))) (bs.map V.ref++([.ref b]++(vs++[yv])))++[(o,V.ref p)])++([(O.fz d,yv),(O.fz kd,V.ref b)]++(slp s.σ σr++ow Φ)):=by simp
        rw [e1]
        refine (List.perm_append_comm_assoc _ _ _).trans (List.Perm.append_left _ ?_)
        rw [List.append_assoc]
        exact List.perm_middle)
      exact Cf.dropN c4
    exact key.change (ho:=DtO G.w p (putP (zip3 ks bs vs) (nkD kd) b yv)) (o':=o') (by simp [lk,rx.length]) nf fun ρ' M' H' eH rr=>by
      have r0:=RepDs.take ks.length rr
      rw [List.take_left,show ks.length=(bs.map V.ref).length by simp [lk],List.take_left] at r0
      have r1:=RepDs.drop ks.length rr
      rw [List.drop_left,show ks.length=(bs.map V.ref).length by simp [lk],List.drop_left] at r1
      obtain ⟨v',r',e',q1,q2⟩:=r1
      cases e'
      obtain ⟨q3,q4⟩:=reps_split rx.length q2
      exact back ρ' H' M' b yv r0 q3 q1 q4 eH
  cases o with
  | dic ks xs=>
    simp only [putO] at e
    cases hk:keyD kd with
    | some kk=>
      rw [hk] at e
      simp only at e
      split at e
      · rename_i hfit
        cases e
        have c1:Cf G H s.h ((.fz kd,kv)::((.dic ks xs,.ref p)::(.fz d,yv)::(slp s.σ σr++ow Φ))):=cf.perm (by
          refine (List.Perm.cons _ (.swap _ _ _)).trans ?_
          exact .swap _ _ _)
        obtain ⟨ρ,M,cp,rkd⟩:=Cf.fz1.mp c1
        have ekv:=key_of' (RepD.view rkd) hk
        subst ekv
        obtain ⟨a,vs,ex,hH,l1,l2,cf2⟩:=c1.drop.dicO
        cases ex
        have key:Cf G H s.h ((.dic ks xs,.ref p)::(Fz (xs++[d]) (vs++[yv])++(slp s.σ σr++ow Φ))):=by
          rw [Fz_append l2,List.append_assoc]
          exact cf2
        refine .inl ⟨ks.zip vs,kk,rfl,hH,szl hfit,n _ (fin ?_)⟩
        exact key.change (ho:=.dK (putK (ks.zip vs) kk yv)) (o':=.dic (putD ks xs kk d).1 (putD ks xs kk d).2) (by simp [l2]) (fun _ h=>by cases h) fun ρ M H' e r=>by
          obtain ⟨r0,r1⟩:=reps_split l2 r
          obtain ⟨vs',z1,z2,z3⟩:=put_of (k:=kk) l1 r0 r1
          exact ⟨p,vs',rfl,by rw [e,z1],z2,z3,rfl⟩
      · cases e
    | none=>
      rw [hk] at e
      simp only at e
      split at e
      · rename_i h
        obtain ⟨h1,rfl,rfl⟩:=h
        exact tup cf (by cases e;rfl) h1 n
      · cases e
  | dct ks xs=>
    simp only [putO] at e
    split at e
    · rename_i h
      exact tup cf e h n
    · cases e
  |fz _=>cases e
  |lst _=>cases e
  |ins _ _ _=>cases e
def dcL (call : Call) (g:Tg) (tt:B) (tk tv:E) (vs:List Nat):List D→O→S→Out O
  |[],o,s=>.ok o s
  | d :: ds, o, s=>match g (.fz d) s with
    |none=>.bad
    | some s1 =>match tt call s1 with
      | .ok true s2=>(match tk call s2 with
        | .ok rk s3=>(match take s3 rk with
          | some (kd,s4)=>(match tv call s4 with
            | .ok rv s5=>(match take s5 rv with
              | some (dv,s6)=>(match putO kd dv o with
                |some o'=>dcL call g tt tk tv vs ds o' ⟨wipeO s6.σ vs,s6.h⟩
                |none=>.bad)
              |none=>.bad)
            |_=>.bad)
          |none=>.bad)
        |_=>.bad)
      | .ok false s2=>dcL call g tt tk tv vs ds o ⟨wipeO s2.σ vs,s2.h⟩
      |_=>.bad
def dcO (σ1:List (Option O)) (vs:List Nat):Out O→Out R
  | .ok o s2=>.ok (.own o) ⟨rst s2.σ σ1 vs,s2.h⟩
  |_=>.bad
def mDc (m:Iv) (g:Tg) (tt:B) (tk tv:E) (vs:List Nat):E:=fun call s=>(m call s).bind fun ds s1=>dcO s1.σ vs (dcL call g tt tk tv vs ds (.dic [] []) ⟨wipeO s1.σ vs,s1.h⟩)
theorem dc_walk {J:It} {K Φ:List (R×V)} {ds:List D} {g:Tg} {tt:B} {tk tv:E} {σ:Sr} {H1:Hp} {s1:S} {Q:VK} {Dd:Addr} (nk:NoB K) (bo: ∀ i v,(R.bor i,v)∈Φ→σ[i]?=some (some v)) (w:Walks G J K ds) (c:CfS G σ H1 s1 (K++Φ)) (hD:H1 Dd=none)
    (a:Aft G W σ Φ (PV G σ Φ Q) (dcO s1.σ vs (dcL call g tt tk tv vs ds (.dic [] []) ⟨wipeO s1.σ vs,s1.h⟩))):
    ∃ Wr:Nat→Nat→Hp→Prop,(∃ m,Wr 0 m (upd H1 Dd (.dK [])))∧∀ i m H,Wr i m H→
      (J.stop i H∧Q (.ref Dd) H)∨(J.go i H∧∃ Nx:Hp→Prop,(∀ H',Nx H'→∃ m',m'<m∧Wr (i+1) m' H')∧∀ x H',J.yld i H x H'→tGA G vs g x (L2.wipe σ vs) H' fun σ2 H2=>L2.wipe σ2 vs=L2.wipe σ vs∧tB_ G noW call tt σ2 H2 fun b H3=>
        if b=true then tE G noW call tk σ2 H3 fun y H4=>tE G noW call tv σ2 H4 fun z H5=>dsG G y z Dd H5 Nx else Nx H3):=by
  obtain ⟨Z,p1,ok,back⟩:=slp_wipe c.sl vs
  let Ψ:=K++(ownR Z++ownR (ow Φ))
  have nΨ:NoB Ψ:=noB_app nk (noB_app nob_ownR nob_ownR)
  let St:O→S→Hp→Prop:=fun o s H=>CfS G (L2.wipe σ vs) H s ((.own o,.ref Dd)::Ψ)
  let Fin:List D→O→S→Prop:=fun rest o s=>Aft G W σ Φ (PV G σ Φ Q) (dcO s1.σ vs (dcL call g tt tk tv vs rest o s))
  have st0:St (.dic [] []) ⟨wipeO s1.σ vs,s1.h⟩ (upd H1 Dd (.dK [])):=by
    refine ⟨ok,fun i v z=>absurd z (noB_cons nΨ i v), ?_⟩
    have cf:=c.cf.perm (p1.append_right (ow (K++Φ)))
    have cf2:Cf G H1 s1.h (Fz [] []++(slp (wipeO s1.σ vs) (L2.wipe σ vs)++ow Ψ)):=cf.perm (by
      show List.Perm _ (slp (wipeO s1.σ vs) (L2.wipe σ vs)++ow Ψ)
      simp only [Ψ,ow_append,ow_ownR,List.append_assoc]
      exact List.Perm.append_left _ (List.perm_append_comm_assoc _ _ _))
    exact (Cf.newDic (ks:=[]) rfl rfl cf2 hD).perm List.perm_middle.symm
  refine ⟨fun i m H=>m=ds.length - i∧i≤ds.length∧∃ o s,St o s H∧Fin (ds.drop i) o s,⟨ds.length,by simp,Nat.zero_le _,_,_,st0,a⟩, ?_⟩
  rintro i m H ⟨rfl,hi,o,s,c,a⟩
  have cK:CfS G (L2.wipe σ vs) H s (K++((.own o,.ref Dd)::(ownR Z++ownR (ow Φ)))):=c.perm List.perm_middle.symm
  obtain ⟨w1,w2,w3⟩:=w _ H s _ cK
  by_cases hlt:i<ds.length
  · refine .inr ⟨w1 i hlt,fun H'=> ∃ o s,St o s H'∧Fin (ds.drop (i+1)) o s,fun H' p'=>⟨ds.length - (i+1),by omega,rfl,hlt,p'⟩,fun x H' y=>?_⟩
    have e:ds.drop i=ds[i]::ds.drop (i+1):=List.drop_eq_getElem_cons hlt
    have a':Fin (ds[i]::ds.drop (i+1)) o s:=by rw [←e];exact a
    have c1:=w2 i ds[i] x H' (by simp [hlt]) y
    have c1':CfS G (L2.wipe σ vs) H' s ((.own (.fz ds[i]),x)::((.own o,.ref Dd)::Ψ)):=c1.perm (List.Perm.cons _ List.perm_middle)
    simp only [Fin,dcL] at a'
    cases eg:g (.fz ds[i]) s with
    |none=>simp only [eg] at a';exact a'.elim
    | some s2 =>
      simp only [eg] at a'
      refine ⟨s,_,.fz ds[i],s2,noB_cons nΨ,c1',eg,fun σ2 c2 ag=>?_⟩
      have ew:L2.wipe σ2 vs=L2.wipe σ vs:=by rw [ag.wipe,wipe_wipe]
      refine ⟨ew,s2,_,c2, ?_⟩
      cases et:tt call s2 with
      |bad=>simp only [et] at a';exact a'.elim
      |exc cn d s3=>simp only [et] at a';exact a'.elim
      | ok b s3 =>
        cases b with
        | false=>
          simp only [et] at a'
          exact fun H3 c3=>iteF ⟨o,_,by have:=c3.wipe (noB_cons nΨ) vs;rw [ew] at this;exact this,a'⟩
        | true=>
          simp only [et] at a'
          intro H3 c3
          refine iteT ⟨s3,_,c3, ?_⟩
          cases ee:tk call s3 with
          |bad=>simp only [ee] at a';exact a'.elim
          |exc cn d s4=>simp only [ee] at a';exact a'.elim
          | ok r s4 =>
            simp only [ee] at a'
            intro yk H4 c4
            cases ek:take s4 r with
            |none=>simp only [ek] at a';exact a'.elim
            | some q=>
              obtain ⟨kd,s5⟩:=q
              simp only [ek] at a'
              have c5:=c4.take ek
              refine ⟨s5,_,c5, ?_⟩
              cases ev:tv call s5 with
              |bad=>simp only [ev] at a';exact a'.elim
              |exc cn d s6=>simp only [ev] at a';exact a'.elim
              | ok rv s6=>
                simp only [ev] at a'
                intro yv H5 c6
                cases ew2:take s6 rv with
                |none=>simp only [ew2] at a';exact a'.elim
                | some q2=>
                  obtain ⟨dv,s7⟩:=q2
                  simp only [ew2] at a'
                  have c7:=c6.take ew2
                  cases eo:putO kd dv o with
                  |none=>simp only [eo] at a';exact a'.elim
                  | some o'=>
                    simp only [eo] at a'
                    refine c7.putOwn eo fun H' c8=>⟨o',⟨wipeO s7.σ vs,s7.h⟩, ?_,a'⟩
                    have:=c8.wipe (noB_cons nΨ) vs
                    rw [ew] at this
                    exact this
  · have e:i=ds.length:=by omega
    subst e
    have a':Fin [] o s:=by have:=a;rw [List.drop_length] at this;exact this
    refine .inl ⟨w3,a' (.ref Dd) H ?_⟩
    obtain ⟨p2,ok2⟩:=back s.σ c.sl
    refine ⟨ok2,fun j v z=>?_, ?_⟩
    · rcases List.mem_cons.mp z with z|z
      · cases z
      · exact bo j v z
    · have cf:Cf G H s.h (slp s.σ (L2.wipe σ vs)++(o,.ref Dd)::ow Ψ):=c.cf
      have cf2:Cf G H s.h (ow K++(slp (rst s.σ s1.σ vs) σ++(o,.ref Dd)::ow Φ)):=cf.perm (by
        simp only [Ψ,ow_append,ow_ownR]
        refine List.perm_middle.trans ?_
        refine List.Perm.trans (List.Perm.cons _ ?_) (((List.perm_middle).append_left (ow K)).trans List.perm_middle).symm
        refine (List.perm_append_comm_assoc _ _ _).trans (List.Perm.append_left _ ?_)
        rw [←List.append_assoc]
        exact p2.symm.append_right _)
      exact Cf.dropN cf2
theorem e_dc (g:Good G k call cc W X) {kx vx tg it:Expr} {ifs:List Expr} {scope:Scope} {own:List (Str×Nat)} {pos:Pos} {m:Iv} {t:Tg} {mt:B} {mk mv:E} (hi:PI X tg it (tI G W call m)) (ok:BlkOk cc.N cc.sc scope own)
    (hg: ∀ (s:Shared) (H:Hp) (C:Addr) (cl:List (Str×Addr)) (fp:List Addr),PG (X.blk s H scope (compEnvC scope cl C X.env) fp) tg (tGA G (own.map (·.2)) t))
    (ht: ∀ (s:Shared) (H:Hp) (C:Addr) (cl:List (Str×Addr)) (fp:List Addr),PTs (X.blk s H scope (compEnvC scope cl C X.env) fp) ifs (tB_ G noW call mt))
    (hk: ∀ (s:Shared) (H:Hp) (C:Addr) (cl:List (Str×Addr)) (fp:List Addr),PE (X.blk s H scope (compEnvC scope cl C X.env) fp) kx (tE G noW call mk))
    (he: ∀ (s:Shared) (H:Hp) (C:Addr) (cl:List (Str×Addr)) (fp:List Addr),PE (X.blk s H scope (compEnvC scope cl C X.env) fp) vx (tE G noW call mv)) (hs: ∀ x,foldedSetIterable it X.env x=pure x):
    PE X (.DictComp kx vx [⟨tg,it,ifs,0⟩] scope pos) (tE G W call (mDc m t mt mk mv (own.map (·.2)))):=by
  refine ⟨fun pins s σ H Q I h=>?_⟩
  have h':tDx (dsG G) (tI G W call m) (tGA G (own.map (·.2)) t) (tB_ G noW call mt) (tE G noW call mk) (tE G noW call mv) (own.map (·.2)) σ H Q:=by
    obtain ⟨s,Φ,c,q⟩:=h
    exact ⟨s,Φ,c,(Aft.bind q).mono fun ds s1 a1=>fun K J H1 nk c1 w=>fun Dd hD=>dc_walk nk c.bo w c1 hD a1⟩
  rw [arm_eval_DictComp]
  refine dx_core (fun s0 H0 ce fp pins σ s H D y z u r N Qd E I ry rz d h=>ds_run (X:=X.blk s0 H0 scope ce fp) g.units g.K g.wd I ry rz d h) g.calm (by rw [g.N];exact g.nd) I hi (by rw [g.N,g.sc];exact ok) hg ht hk he hs h' fun D C s' m H' I' q hn f=>⟨m,hn,fun h'' sb=>?_⟩
  obtain ⟨f0,f1,f2,f3,f4,f5⟩:=f
  exact ⟨.ref D,H',I'.turned (t':=s'.toks) (fun b o hb e=>(sb.2 b hb).trans e) f0 f1 f3 f4 f5,rfl,q⟩
end
end Mi
namespace Mi
open PySem PySem.Spec PyProof.Rows L2
abbrev Tx:=Call→O→S→Option S
def tGX (G:GE) (call:Call) (g:Tx):TG:=fun v σr H Q=> ∃ s Φ o s',NoB Φ∧CfS G σr H s ((.own o,v)::Φ)∧g call o s=some s'∧∀ σr' H',CfS G σr' H' s' Φ→Q σr' H'
def asgX (call:Call):List Tx→List O→S→Option S
  |[],[],s=>some s
  |g::gs,o::os,s=>(g call o s).bind fun s1=>asgX call gs os s1
  |_,_,_=>none
def tGsX (G:GE) (call:Call) (gs:List Tx):TGs:=fun vs σr H Q=> ∃ s Φ os s',NoB Φ∧os.length=vs.length∧CfS G σr H s (OwR os vs++Φ)∧asgX call gs os s=some s'∧∀ σr' H',CfS G σr' H' s' Φ→Q σr' H'
def xAtt (mx:E) (f:Str):Tx:=fun call o s=>match mx call s with
  | .ok x s3=>(match take s3 x with
    | some (dx,s4)=>(match setFld s4.h f (frz o) dx with
      |some h=>some ⟨s4.σ,h⟩
      |none=>none)
    |none=>none)
  |_=>none
def xCel (g:Tx):Tx:=fun call o s=>match o with
  | .fz d=>g call (.fz d) s
  |o=>g call (.fz (.loc s.h.length)) ⟨s.σ,s.h++[o]⟩
section
variable {G:GE} {k:Nat} {call:Call} {cc:CC} {W:WX} {X:Cx}
theorem fld_put (g:Good G k call cc W X) {f:Str} (hfl:f∈cc.flds) {σ:Sr} {H2:Hp} {s4:S} {dx d:D} {xv yv:V} {Φ:List (R×V)} {h':List O} (nb:NoB Φ) (c4:CfS G σ H2 s4 ((.own (.fz dx),xv)::(.own (.fz d),yv)::Φ)) (es:setFld s4.h f d dx=some h'):
    ∃ a C dd fs,xv= .ref a∧H2 a=some (.ins C dd fs)∧L2.Cls X.K C∧NoAttr X.K C f∧fs.length<1000∧CfS G σ (upd H2 a (.ins C dd (putF f yv fs))) ⟨s4.σ,h'⟩ Φ:=by
  unfold setFld at es
  split at es
  · rename_i n
    split at es
    · rename_i cn fs xs hn
      split at es
      · rename_i hin
        cases es
        have cf:Cf G H2 s4.h ((.fz (.loc n),xv)::(.fz d,yv)::(slp s4.σ σ++ow Φ)):=c4.cf.perm (by
          show (slp s4.σ σ++(O.fz (.loc n),xv)::(O.fz d,yv)::ow Φ).Perm _
          refine List.perm_middle.trans (.cons _ List.perm_middle))
        obtain ⟨a,C,dd,vs,ex,hC,hH,l1,l2,cf2⟩:=cf.cellIns hn
        subst ex
        have key:Cf G H2 s4.h (Fz (xs++[d]) (vs++[yv])++(.fz (.loc n),.ref a)::(slp s4.σ σ++ow Φ)):=by
          rw [Fz_append l2,List.append_assoc]
          refine cf2.perm (List.Perm.append_left _ ?_)
          show ((O.fz (.loc n),V.ref a)::(O.fz d,yv)::_).Perm ((O.fz d,yv)::(O.fz (.loc n),V.ref a)::_)
          exact .swap _ _ _
        have fin:Cf G (upd H2 a (.ins C dd (putF f yv (fs.zip vs)))) (s4.h.set n (.ins cn (putL f d fs xs).1 (putL f d fs xs).2)) ((.fz (.loc n),.ref a)::(slp s4.σ σ++ow Φ)):=by
          refine Cf.putCell (by simp [l2]) key hn (fun d=>by simp) fun ρ M H' e r=>?_
          obtain ⟨r0,r1⟩:=reps_split l2 r
          by_cases hf:f∈fs
          · refine ⟨a,C,dd,vs.set (fs.findIdx fun g=>decide (g=f)) yv,rfl,hC, ?_, ?_, ?_,rfl⟩
            · rw [e,putF_in (α:=Nat) l1 hf];simp [putL,hf]
            · simp [putL,hf,l1]
            · simp only [putL,hf,if_true];exact r0.set _ r1
          · refine ⟨a,C,dd,vs++[yv],rfl,hC, ?_, ?_, ?_,rfl⟩
            · rw [e,putF_out l1 hf];simp [putL,hf]
            · simp [putL,hf,l1]
            · simp only [putL,hf,if_false];exact r0.append (.one r1)
        exact ⟨a,C,dd,fs.zip vs,rfl,hH,(g.cls cn C hC).1,g.fld cn C f hC hfl,by rw [List.length_zip];omega,c4.sl,fun i w hw=>absurd hw (nb i w),fin.drop⟩
      · cases es
    · cases es
  · cases es
theorem gx_att (g:Good G k call cc W X) {o:Expr} {f:Str} {mx:E} {pos:Pos} (hfl:f∈cc.flds) (ho:PE X o (tE G W call mx)):PG X (.Attribute o f pos) (tGX G call (xAtt mx f)):=by
  refine ⟨fun pins s σ H v u Q I r q=>?_⟩
  obtain ⟨st,Φ,ob,s',nb,c,e,q⟩:=q
  unfold xAtt at e
  cases em:mx call st with
  | ok x s3=>
    rw [em] at e
    simp only at e
    cases et:take s3 x with
    |none=>rw [et] at e;cases e
    | some p=>
      obtain ⟨dx,s4⟩:=p
      rw [et] at e
      simp only at e
      cases ef:setFld s4.h f (frz ob) dx with
      |none=>rw [ef] at e;cases e
      | some h'=>
        rw [ef] at e
        cases e
        have h1:tE G W call mx σ H fun xv H1=> ∃ a C dd fs,xv= .ref a∧H1 a=some (.ins C dd fs)∧L2.Cls X.K C∧NoAttr X.K C f∧fs.length<1000∧Q σ (upd H1 a (.ins C dd (putF f v fs))):=by
          refine ⟨st,_,c.frz, ?_⟩
          rw [em]
          intro xv H1 c1
          obtain ⟨a,C,dd,fs,z1,z2,z3,z4,z5,z6⟩:=fld_put g hfl nb (c1.take et) ef
          exact ⟨a,C,dd,fs,z1,z2,z3,z4,z5,q _ _ z6⟩
        refine PySem.W.kas_attr (thn (ho.run pins s σ H _ I h1) fun ov s2 ⟨x2,H2,I2,rx,a,C,dx2,fs,ex,ea,cl,n,l,q2⟩=>?_)
        subst ex
        obtain rfl:ov=Value.ref a:=rx
        exact setattr_ok I2 ea cl n l r fun s3 I3=>⟨σ,_,I3,q2⟩
  |exc _ _ _=>rw [em] at e;cases e
  |bad=>rw [em] at e;cases e
theorem gx_cel {e:Expr} {t:Tx} (h:PG X e (tGX G call t)):PG X e (tGX G call (xCel t)):=h.of fun v σ H Q q=>by
  obtain ⟨s,Φ,o,s',nb,c,e,q⟩:=q
  have gen:(∀ d,o≠.fz d)→t call (.fz (.loc s.h.length)) ⟨s.σ,s.h++[o]⟩=some s'→tGX G call t v σ H Q:=fun hf e=>by
    refine ⟨⟨s.σ,s.h++[o]⟩,Φ,_,s',nb,⟨c.sl,fun i w z=>?_, ?_⟩,e,q⟩
    · rcases List.mem_cons.mp z with z|z
      · cases z
      · exact c.bo i w (by simp [z])
    · have cf:Cf G H s.h ((o,v)::(slp s.σ σ++ow Φ)):=c.cf.perm List.perm_middle
      exact (cf.newCell hf).perm List.perm_middle.symm
  cases o with
  |fz d=>exact ⟨s,Φ,.fz d,s',nb,c,e,q⟩
  |lst _=>exact gen (fun _ z=>nomatch z) e
  |dic _ _=>exact gen (fun _ z=>nomatch z) e
  |ins _ _ _=>exact gen (fun _ z=>nomatch z) e
  |dct _ _=>exact gen (fun _ z=>nomatch z) e
theorem nob_owr {os:List O} {vs:List V} {Φ:List (R×V)} (nb:NoB Φ):NoB (OwR os vs++Φ):=fun i w q=>by
  rcases List.mem_append.mp q with q|q
  · exact nob_ow q
  · exact nb i w q
theorem gxs_nil:PGs X [] (tGsX G call []):=pgs_nil.of fun vs σ H Q q=>by
  obtain ⟨s,Φ,os,s',nb,l,c,e,q⟩:=q
  cases os with
  | nil=>
    cases e
    have:vs=[]:=List.length_eq_zero_iff.mp l.symm
    subst this
    exact ⟨rfl,q σ H c⟩
  |cons d ds=>cases e
theorem gxs_cons {e:Expr} {es:List Expr} {t:Tx} {gs:List Tx} (h1:PG X e (tGX G call t)) (h2:PGs X es (tGsX G call gs)) (hp:plainT e=true):PGs X (e::es) (tGsX G call (t::gs)):=by
  refine (pgs_cons h1 h2 (by rw [asg_cons hp];rfl)).of fun vs σ H Q q=>?_
  obtain ⟨s,Φ,os,s',nb,l,c,e,q⟩:=q
  cases os with
  |nil=>cases e
  | cons o os=>
    cases vs with
    |nil=>simp at l
    | cons v vs=>
      simp only [asgX,Option.bind_eq_some_iff] at e
      obtain ⟨s1,e1,e2⟩:=e
      exact ⟨v,vs,rfl,s,OwR os vs++Φ,o,s1,nob_owr nb,c,e1,fun σ1 H1 c1=>⟨s1,Φ,os,s',nb,by simpa using l,c1,e2,q⟩⟩
end
end Mi
namespace Mi
open PySem PySem.Spec PyProof.Rows L2
section
variable {G:GE} {k:Nat} {call:Call} {cc:CC} {W:WX} {X:Cx}
abbrev atX:D→D→Option O:=or2 atX0 tAt
abbrev inX:D→D→Option O:=or2 inX0 tIn
abbrev notInX:D→D→Option O:=or2 notInX0 tNotIn
theorem o_inX (g:GoodB G cc X):OpR X (compareOp .In) (r2 G inX):=o_or (o_or (o_in g.K g.units) (o_din (hu_of' g.units))) (o_tin g)
theorem o_atX (g:GoodB G cc X):IxR X (r2 G atX):=ix_or (ix_or (o_at g.K) (o_dat (hu_of' g.units))) (o_tat g)
def cSetX (me mx mi:E):C:=fun call s=>match cSetX0 me mx mi call s with
  | .bad=>cSetT me mx mi call s
  |y=>y
theorem s_setX (g:Good G k call cc W X) {e x i:Expr} {me mx mi:E} {p pos:Pos} (he:PE X e (tE G W call me)) (hx:PE X x (tE G W call mx)) (hi:PE X i (tE G W call mi)) (hs:notSlice i=true):
    PS X (.Assign [.Subscript x i p] e pos) (tS G W call (cSetX me mx mi)):=by
  have h1:=s_setX0 g (p:=p) (pos:=pos) he hx hi hs
  have h2:=s_setT g (p:=p) (pos:=pos) he hx hi
  refine ⟨fun pins s σ H D I q=>?_⟩
  obtain ⟨st,Φ,nb,c,q⟩:=q
  unfold cSetX at q
  cases es:cSetX0 me mx mi call st with
  |bad=>rw [es] at q;exact h2.run pins s σ H D I ⟨st,Φ,nb,c,q⟩
  |_=>all_goals (rw [es] at q;exact h1.run pins s σ H D I ⟨st,Φ,nb,c,by rw [es];exact q⟩)
theorem sw_trueD {kx vx:Expr} {gs:List Comprehension} {scope:Scope} {pos py:Pos} {y:Str} {l:Nat} {env:Env} (hk:env.scope.kind= .function) (hy:env.scope.names.lookup y=some .local) (hl:(py.line==pos.line)=true)
    (ha:(scope.names.any fun (n,k)=>n==y&&(k== .local||k== .cell))=false):swapsWith (.DictComp kx vx gs scope pos) (some (.Name y py)) l env=pure true:=by
  have ky:env.kindOf y=some .local:=hy
  have hb:env.blockKind= .function:=by unfold Env.blockKind;rw [hk];rfl
  unfold swapsWith
  simp only [hb,ky,ha,Expr.pos,hl]
  rfl
theorem ps_setDx {DS:V→V→Addr→Hp→(Hp→Prop)→Prop} {i:Nat} {y:Str} {py:Pos} {kx vx tg iter:Expr} {ifs:List Expr} {scope:Scope} {own:List (Str×Nat)} {pos spos:Pos} {wi:TI} {g:TG} {tt:TT} {tk tv:TE}
    (hDS: ∀ (s0:Shared) (H0:Hp) (ce:Env) (fp:List Addr) (pins:List (Addr×Obj)) (σ:Sr) (s:Shared) (H:Hp) (D:Addr) (y z:V) (u r:Value) (N:Hp→Prop) (Qd:Unit→Shared→Prop) (E:Value→Shared→Prop),Inv (X.blk s0 H0 scope ce fp) pins σ H s→RelV y u→RelV z r→DS y z D H N→(∀ s' H',Inv (X.blk s0 H0 scope ce fp) pins σ H' s'→N H'→Qd () s')→wpAny (model X.prog X.w) X.A (dictSet D u r) Qd E s)
    (hc:X.calm=true) (hN:X.N.Nodup) (hy:X.N[i]?=some y) (hyl:X.env.scope.names.lookup y=some .local) (hsw:swapsWith (.DictComp kx vx [⟨tg,iter,ifs,0⟩] scope pos) (some (.Name y py)) spos.line X.env=pure true) (hi:PI X tg iter wi) (ok:BlkOk X.N X.env.scope scope own)
    (hg: ∀ (s:Shared) (H:Hp) (C:Addr) (cl:List (Str×Addr)) (fp:List Addr),PG (X.blk s H scope (compEnvC scope cl C X.env) fp) tg g) (ht: ∀ (s:Shared) (H:Hp) (C:Addr) (cl:List (Str×Addr)) (fp:List Addr),PTs (X.blk s H scope (compEnvC scope cl C X.env) fp) ifs tt)
    (hk: ∀ (s:Shared) (H:Hp) (C:Addr) (cl:List (Str×Addr)) (fp:List Addr),PE (X.blk s H scope (compEnvC scope cl C X.env) fp) kx tk)
    (he: ∀ (s:Shared) (H:Hp) (C:Addr) (cl:List (Str×Addr)) (fp:List Addr),PE (X.blk s H scope (compEnvC scope cl C X.env) fp) vx tv) (hs: ∀ x,foldedSetIterable iter X.env x=pure x):
    PS X (.Assign [.Name y py] (.DictComp kx vx [⟨tg,iter,ifs,0⟩] scope pos) spos) (tAsg (tDx DS wi g tt tk tv (own.map (·.2))) (gName i)):=by
  refine ⟨fun pins s σ H D I h=>?_⟩
  rw [exec_Assign_Name_used _ _ _ _ hsw]
  refine wpAny_bind (wpAny_standAt (wpAny_bind ?_))
  show wpAny _ X.A (do let _ ←comprehension (.DictComp kx vx [⟨tg,iter,ifs,0⟩] scope pos) scope X.env (firstIterPos [⟨tg,iter,ifs,0⟩] pos) newDict false (eval iter X.env) (some (assign (.Name y py) X.env))) _ _ s
  have h:tDx DS wi g tt tk tv (own.map (·.2)) σ H (fun x H1=>gName i x σ H1 D.nx):=h
  refine wpAny_bind (thn (dx_core (Qf:=fun _ s'=>SP X pins D .next s') hDS hc hN I hi ok hg ht hk he hs h fun L C s' m H' I' q hn f=>?_) fun _ s' hq=>wpAny_pure (wpAny_pure hq))
  show wpAny _ _ (assign (.Name y py) X.env (.ref L)) _ _ _
  refine wpAny_assign_Name (store_ok2 (v:=V.ref L) I' hN hy (.inl hyl) rfl (fun s2 I2 ⟨a,sb,ha⟩=>?_) (.inr hyl))
  obtain ⟨f0,f1,f2,f3,f4,f5⟩:=f
  have haC:C≠a:=by
    rcases ha with z|z
    · rw [z];exact f1
    · exact fun e=>f4 y a z e.symm
  refine ⟨m,hn.sameBut sb haC,fun h3 sb3=>?_⟩
  exact ⟨_,H',I2.turned (t':=s2.toks) (fun b o hb e=>(sb3.2 b hb).trans e) f0 f1 f3 f4 f5,q⟩
theorem s_setDc (g:Good G k call cc W X) {i:Nat} {y:Str} {py:Pos} {kx vx tg it:Expr} {ifs:List Expr} {scope:Scope} {own:List (Str×Nat)} {pos spos:Pos} {m:Iv} {t:Tg} {mt:B} {mk mv:E} (hy:cc.N[i]?=some y) (hyl:cc.sc.names.lookup y=some .local) (hkf:cc.sc.kind= .function)
    (hl:(py.line==pos.line)=true) (ha:(scope.names.any fun (n,k)=>n==y&&(k== .local||k== .cell))=false) (hi:PI X tg it (tI G W call m)) (ok:BlkOk cc.N cc.sc scope own)
    (hg: ∀ (s:Shared) (H:Hp) (C:Addr) (cl:List (Str×Addr)) (fp:List Addr),PG (X.blk s H scope (compEnvC scope cl C X.env) fp) tg (tGA G (own.map (·.2)) t))
    (ht: ∀ (s:Shared) (H:Hp) (C:Addr) (cl:List (Str×Addr)) (fp:List Addr),PTs (X.blk s H scope (compEnvC scope cl C X.env) fp) ifs (tB_ G noW call mt))
    (hk: ∀ (s:Shared) (H:Hp) (C:Addr) (cl:List (Str×Addr)) (fp:List Addr),PE (X.blk s H scope (compEnvC scope cl C X.env) fp) kx (tE G noW call mk))
    (he: ∀ (s:Shared) (H:Hp) (C:Addr) (cl:List (Str×Addr)) (fp:List Addr),PE (X.blk s H scope (compEnvC scope cl C X.env) fp) vx (tE G noW call mv)) (hs: ∀ x,foldedSetIterable it X.env x=pure x):
    PS X (.Assign [.Name y py] (.DictComp kx vx [⟨tg,it,ifs,0⟩] scope pos) spos) (tS G W call (cAsg (mDc m t mt mk mv (own.map (·.2))) (gN i))):=by
  refine (ps_setDx (DS:=dsG G) (i:=i) (fun s0 H0 ce fp pins σ s H D y z u r N Qd E I ry rz d h=>ds_run (X:=X.blk s0 H0 scope ce fp) g.units g.K g.wd I ry rz d h) g.calm (by rw [g.N];exact g.nd) (by rw [g.N];exact hy) (by rw [g.sc];exact hyl) (sw_trueD (by rw [g.sc];exact hkf) (by rw [g.sc];exact hyl) hl ha) hi (by rw [g.N,g.sc];exact ok) hg ht hk he hs).of fun D σ H q=>?_
  have q2:=tAsg_of q
  obtain ⟨s,Φ,c,q3⟩:=q2
  refine ⟨s,Φ,c,(Aft.bind q3).mono fun ds s1 a1=>fun K J H1 nk c1 w=>fun Dd hD=>dc_walk (Q:=fun x H1=>gName i x σ H1 D.nx) nk c.bo w c1 hD (a1.mono fun r s2 p=>fun v H2 c2=>?_)⟩
  have q4:=p v H2 c2
  obtain ⟨s5,Φ5,o5,s6,nb5,c5,e5,q5⟩:=q4
  simp only [gN] at e5
  split at e5
  · rename_i hl5
    cases e5
    exact q5 _ (c5.put nb5 hl5) (by simp)
  · cases e5
theorem s_setLc2 (g:Good G k call cc W X) {i:Nat} {y:Str} {py:Pos} {elt tg it tg1 it1:Expr} {ifs ifs1:List Expr} {scope:Scope} {own:List (Str×Nat)} {vs1:List Nat} {pos spos:Pos} {m m1:Iv} {t t1:Tg} {mt mt1:B} {me:E} (hy:cc.N[i]?=some y) (hyl:cc.sc.names.lookup y=some .local) (hk:cc.sc.kind= .function)
    (hl:(py.line==pos.line)=true) (ha:(scope.names.any fun (n,k)=>n==y&&(k== .local||k== .cell))=false) (hi:PI X tg it (tI G W call m)) (ok:BlkOk cc.N cc.sc scope own) (hv: ∀ i∈vs1,i∈own.map (·.2))
    (hg: ∀ (s:Shared) (H:Hp) (C:Addr) (cl:List (Str×Addr)) (fp:List Addr),PG (X.blk s H scope (compEnvC scope cl C X.env) fp) tg (tGA G (own.map (·.2)) t))
    (ht: ∀ (s:Shared) (H:Hp) (C:Addr) (cl:List (Str×Addr)) (fp:List Addr),PTs (X.blk s H scope (compEnvC scope cl C X.env) fp) ifs (tB_ G noW call mt))
    (hi1: ∀ (s:Shared) (H:Hp) (C:Addr) (cl:List (Str×Addr)) (fp:List Addr),PI (X.blk s H scope (compEnvC scope cl C X.env) fp) tg1 it1 (tI G noW call m1))
    (hg1: ∀ (s:Shared) (H:Hp) (C:Addr) (cl:List (Str×Addr)) (fp:List Addr),PG (X.blk s H scope (compEnvC scope cl C X.env) fp) tg1 (tGA G vs1 t1))
    (ht1: ∀ (s:Shared) (H:Hp) (C:Addr) (cl:List (Str×Addr)) (fp:List Addr),PTs (X.blk s H scope (compEnvC scope cl C X.env) fp) ifs1 (tB_ G noW call mt1))
    (he: ∀ (s:Shared) (H:Hp) (C:Addr) (cl:List (Str×Addr)) (fp:List Addr),PE (X.blk s H scope (compEnvC scope cl C X.env) fp) elt (tE G noW call me)) (hs: ∀ x,foldedSetIterable it X.env x=pure x) (hs1: ∀ env x,foldedSetIterable it1 env x=pure x):
    PS X (.Assign [.Name y py] (.ListComp elt [⟨tg,it,ifs,0⟩,⟨tg1,it1,ifs1,0⟩] scope pos) spos) (tS G W call (cAsg (mLc2 m t mt m1 t1 mt1 me (own.map (·.2)) vs1) (gN i))):=by
  refine (ps_setLc2 (i:=i) g.calm (by rw [g.N];exact g.nd) (by rw [g.N];exact hy) (by rw [g.sc];exact hyl) (sw_true (by rw [g.sc];exact hk) (by rw [g.sc];exact hyl) hl ha) hi (by rw [g.N,g.sc];exact ok) hv hg ht hi1 hg1 ht1 he hs hs1).of fun D σ H q=>?_
  have q2:=tAsg_of q
  obtain ⟨s,Φ,c,q3⟩:=q2
  refine ⟨s,Φ,c,(Aft.bind q3).mono fun ds s1 a1=>fun K J H1 nk c1 w=>fun Dd hD=>lc2_walk (Q:=fun x H1=>gName i x σ H1 D.nx) hv nk c.bo w c1 hD (a1.mono fun r s2 p=>fun v H2 c2=>?_)⟩
  have q4:=p v H2 c2
  obtain ⟨s5,Φ5,o5,s6,nb5,c5,e5,q5⟩:=q4
  simp only [gN] at e5
  split at e5
  · rename_i hl5
    cases e5
    exact q5 _ (c5.put nb5 hl5) (by simp)
  · cases e5
end
end Mi
namespace Mi
open PySem PySem.Spec PyProof.Rows L2
def strN:List Str:=["_law_held"]
section
variable {G:GE} {k:Nat} {call:Call} {cc:CC} {W:WX} {X:Cx}
end
end Mi
namespace Mi
open PySem PySem.Spec PyProof.Rows L2
def sh63 (p:PyData):Bool:=p.canLay0&&decide (p.depth≤63)
def eqK:List Key→List D→List Key→List D→Option Bool
  |[],_,_,_=>some true
  | k::ks,x::xs,ls,ys=>(match valD ls ys k with
    |none=>some false
    |some y=>(toP x).bind fun p=>(toP y).bind fun q=>if sh63 p&&sh63 q then (eqK ks xs ls ys).map (PyData.eqv p q&& ·) else none)
  |_::_,[],_,_=>none
def dEqB:D→D→Option Bool
  | .dic ks xs,.dic ls ys=>if ks.length=xs.length∧ls.length=ys.length then (eqK ks xs ls ys).map (decide (ks.length=ls.length)&& ·) else none
  |_,_=>none
def dEq (d e:D):Option O:=(dEqB d e).map fun b=>.fz (.bl b)
def dNe (d e:D):Option O:=(dEqB d e).map fun b=>.fz (.bl (!b))
section
variable {G:GE} {k:Nat} {call:Call} {cc:CC} {W:WX} {X:Cx} {pins:List (Addr×Obj)} {σ:Sr} {H:Hp} {s:Shared}
theorem hits_of (I:Inv X pins σ H s) (hK:X.K=G.K) (hu:X.A.units+64<cLine) {ρ M ρ' M':List Addr} {ls:List Key} {ys:List D} {us:List V} (ll:ls.length=us.length) (ry:RepDs G ρ' H M' ys us) {vb:List (Key×Value)} (rb:KV (ls.zip us) vb):
    ∀ {ks:List Key} {xs:List D} {vs:List V} {va:List (Key×Value)} {r:Bool},ks.length=vs.length→RepDs G ρ H M xs vs→KV (ks.zip vs) va→eqK ks xs ls ys=some r→PySem.W.KeqHits X.A.in1 s vb va r
  | [],xs,vs,va,r,l,rx,ra,e=>by
    cases e
    have:vs=[]:=List.length_eq_zero_iff.mp l.symm
    subst this
    cases ra
    exact .nil
  |k::ks,[],vs,va,r,l,rx,ra,e=>by cases e
  | k ::ks,x::xs,vs,va,r,l,rx,ra,e=>by
    obtain ⟨v,vr,rfl,r1,r2⟩:=rx
    rw [List.zip_cons_cons] at ra
    cases ra with
    | @cons p q ps qs h t=>
      obtain ⟨h1,h2⟩:=h
      obtain ⟨key,val⟩:=q
      have h1:k=key:=h1
      subst h1
      have h2:RelV v val:=h2
      simp only [eqK] at e
      have vo:=val_of (k:=k) ll ry
      cases hv:valD ls ys k with
      | none=>
        rw [hv] at e
        cases e
        have rr:=rb.val k
        rw [vo.2 hv] at rr
        exact .miss rr.none_of
      | some y=>
        rw [hv] at e
        simp only [Option.bind_eq_some_iff] at e
        obtain ⟨p,hp,q,hq,e⟩:=e
        split at e
        · rename_i hs
          simp only [Option.map_eq_some_iff] at e
          obtain ⟨b,hb,rfl⟩:=e
          obtain ⟨u,hu1,hu2⟩:=vo.1 y hv
          have rr:=rb.val k
          rw [hu1] at rr
          obtain ⟨uu,huu,ru⟩:=rr.some_of
          simp only [sh63,Bool.and_eq_true,decide_eq_true_eq] at hs
          obtain ⟨as,e1⟩:=Dp.reads I p v val (by rw [hK];exact RepD.dp x v p r1 hp) h2
          obtain ⟨bs,e2⟩:=Dp.reads I q u uu (by rw [hK];exact RepD.dp y u q hu2 hq) ru
          refine .hit huu (SeqAt.eqAt_reads p q X.A.in1 s val uu as bs e1 e2 hs.1.1 hs.2.1 ?_) (hits_of I hK hu ll ry rb (by simpa using l) r2 t hb)
          show X.A.units+1+_<cLine
          have:=Nat.min_le_left p.depth q.depth
          omega
        · cases e
theorem dic_two (I:Inv X pins σ H s) (hK:X.K=G.K) (hu:X.A.units+64<cLine) {ρ M:List Addr} {d e:D} {x y:V} {b:Bool} (t1:RepT G ρ H M d x) (t2:RepT G ρ H M e y) (hb:dEqB d e=some b) {v u:Value} (rx:RelV x v) (ry:RelV y u):
    ∃ a c ka kb r,v= .ref a∧u= .ref c∧(a==sysModules)=false∧(c==sysModules)=false∧s.heap.DictOf (mixKind X.prog X.w) a ka∧s.heap.DictOf (mixKind X.prog X.w) c kb∧PySem.W.KeqHits X.A.in1 s kb ka r∧(ka.length==kb.length&&r)=b:=by
  unfold dEqB at hb
  split at hb
  · rename_i ks xs ls ys
    split at hb
    · simp only [Option.map_eq_some_iff] at hb
      obtain ⟨r,hr,rfl⟩:=hb
      obtain ⟨a,vs,rfl,h1,l1,r1⟩:=t1
      obtain ⟨c,us,rfl,h2,l2,r2⟩:=t2
      obtain ⟨_,hs1,va,ra,da⟩:=dk_rd I.hok h1
      obtain ⟨_,hs2,vb,rb,db⟩:=dk_rd I.hok h2
      refine ⟨a,c,va,vb,r,rx,ry,hs1,hs2,da,db,hits_of I hK hu l2 r2 rb l1 r1 ra hr, ?_⟩
      have e1:va.length=ks.length:=by
        rw [←Paired.length ra,List.length_zip,←l1];exact Nat.min_self _
      have e2:vb.length=ls.length:=by
        rw [←Paired.length rb,List.length_zip,←l2];exact Nat.min_self _
      rw [e1,e2]
      congr 1
    · cases hb
  · cases hb
theorem o_dEq (g:GoodB G cc X):OpR X (compareOp .Eq) (r2 G dEq):=by
  intro pins s σ H x y v u Q I rx ry ⟨ρ,M,h,L,d1,d2,o,cp,t1,t2,e,q⟩
  simp only [dEq,Option.map_eq_some_iff] at e
  obtain ⟨b,hb,rfl⟩:=e
  obtain ⟨a,c,ka,kb,r,rfl,rfl,hs1,hs2,da,db,hits,rfl⟩:=dic_two I g.K g.units t1 t2 hb rx ry
  exact PySem.W.keq_eq hs1 hs2 da db (by have:=g.units;omega) (fun _=>hits) ⟨.bl _,H,I,rfl,q _ _ (cp.bl _)⟩
theorem o_dNe (g:GoodB G cc X):OpR X (compareOp .NotEq) (r2 G dNe):=by
  intro pins s σ H x y v u Q I rx ry ⟨ρ,M,h,L,d1,d2,o,cp,t1,t2,e,q⟩
  simp only [dNe,Option.map_eq_some_iff] at e
  obtain ⟨b,hb,rfl⟩:=e
  obtain ⟨a,c,ka,kb,r,rfl,rfl,hs1,hs2,da,db,hits,rfl⟩:=dic_two I g.K g.units t1 t2 hb rx ry
  exact PySem.W.keq_ne hs1 hs2 da db (by have:=g.units;omega) (fun _=>hits) ⟨.bl _,H,I,rfl,q _ _ (cp.bl _)⟩
abbrev eqX:D→D→Option O:=or2 eqD dEq
abbrev neX:D→D→Option O:=or2 neD dNe
theorem o_eqX (g:GoodB G cc X):OpR X (compareOp .Eq) (r2 G eqX):=o_or (o_eq g.K g.units) (o_dEq g)
theorem o_neX (g:GoodB G cc X):OpR X (compareOp .NotEq) (r2 G neX):=o_or (o_ne g.K g.units) (o_dNe g)
end
end Mi
namespace Mi
open PySem PySem.Spec PyProof.Rows L2
def seesC (h:List O):List D→Option (List D)
  |[]=>some []
  |d::ds=>(deref h d).bind fun e=>(seesC h ds).map (e:: ·)
def neC (h:List O) (d e:D):Option O:=match d,e with
  | .lst ds,.lst bs=>(seesC h ds).bind fun es=>(toPs es).bind fun ps=>(seesC h bs).bind fun cs=>(toPs cs).bind fun qs=>if SeqAt.shaped (.list ps)&&SeqAt.shaped (.list qs) then some (.fz (.bl (!(PyData.eqv (.list ps) (.list qs))))) else none
  |_,_=>none
section
variable {G:GE} {W:WX} {call:Call} {X:Cx}
def isPL:Expr→Bool
  | .List [.Name a _,.Name b _] _=>decide (a="_law_past")&&decide (b="_law_later")
  |_=>false
end
end Mi
namespace Mi
open PySem PySem.Spec PyProof.Rows L2
def bYes:B:=fun _ s=>.ok true s
structure MFn where
  N:List Str
  np:Nat
  body:C
  df:List D:=[]
def start0 (N:List Str) (ds:List D):List (Option O):=ds.map (fun d=>some (.fz d))++List.replicate (N.length - ds.length) none
def fill (np:Nat) (df ds:List D):List D:=ds++df.drop (df.length - (np - ds.length))
def runFn (mf:MFn) (call:Call) (ds:List D) (h:List O):Res:=if (fill mf.np mf.df ds).length=mf.np then (match mf.body call ⟨start0 mf.N (fill mf.np mf.df ds),h⟩ with
  | .rt o s=>.ok o s.h
  | .nx s=>.ok (.fz .non) s.h
  | .exc c d s=>.exc c d s.h
  |_=>.bad) else .bad
theorem fill_full {np:Nat} {df ds:List D} (h:ds.length=np):fill np df ds=ds:=by
  unfold fill
  rw [h,Nat.sub_self,Nat.sub_zero,List.drop_length,List.append_nil]
def callN (tab:Str→Option MFn):Nat→Call
  |0=>fun _ _ _=>.bad
  | k+1=>fun f ds h=>match tab f with
    |some mf=>runFn mf (callN tab k) ds h
    |none=>.bad
end Mi
namespace Mi
open PySem PySem.Spec PyProof.Rows L2
def allM0:List (Str×Str):=[("Beside","woven"),("Beside","pairs"),("Beside","shown"),("Beside","way_apart"),("Beside","parting"),("Beside","is_alike"),("Beside","parts"),("Console","run"),("Console","stepping"),("Console","short"),("Console","about"),("Core","add_open"),("Core","add"),("Core","twin"),("Core","do"),("Core","told_value"),("Stack","__len__"),("Stack","check_depth"),("Stack","led_in"),("Stack","beneath"),("Stack","shown"),("Stack","shown_names"),("Menu","__len__"),("Menu","__iter__"),("Menu","__getitem__")]
def allM1:List (Str×Str):=[("Menu","__contains__"),("Menu","__add__"),("Menu","__eq__"),("Menu","is_chosen"),("Menu","check_chosen"),("Menu","__call__"),("Menu","stays"),("Marks","add"),("Marks","add_mark"),("Marks","behind_rows"),("Marks","needed"),("Marks","depth"),("Marks","spot_of"),("Marks","holds_in"),("Loom","rows_to"),("Loom","all_rows"),("Loom","weave"),("Loom","up_to"),("Loom","stood"),("Loom","at"),("Loom","always"),("Loom","unlike_way"),("Loom","step_back"),("Loom","fails"),("Made","__eq__")]
def allM2:List (Str×Str):=[("Made","code"),("Made","rows"),("Made","returned"),("Made","labels"),("Made","stops"),("Made","all_stops"),("Made","has_stop"),("Made","label"),("Made","place_of"),("Made","places"),("Made","entry_of"),("Made","with_rows"),("Made","with_copy"),("Made","plain"),("Walk","terms"),("Walk","term"),("Walk","named"),("Walk","late"),("Walk","held"),("Walk","shown"),("Walk","history"),("Walk","coming"),("Walk","returned"),("Player","play_row"),("Session","strict")]
def allM3:List (Str×Str):=[("Session","be_strict"),("Session","__len__"),("Session","table"),("Session","put"),("Session","show"),("Session","hide"),("Session","undo"),("Session","trial"),("Session","attempt"),("Session","keep"),("Trial","__enter__"),("Trial","accept"),("Trial","__exit__"),("Shape","opening"),("Shape","__len__"),("Shape","__contains__"),("Shape","__iter__"),("Shape","__eq__"),("Shape","__and__"),("Shape","__le__"),("Shape","value"),("Shape","all_marks"),("Shape","holds"),("Source","__iter__"),("Source","__contains__")]
def allM4:List (Str×Str):=[("Source","__len__"),("Source","__getitem__"),("Source","__eq__"),("Source","blocks"),("Source","rows"),("Source","end"),("Source","nexts"),("Source","names"),("Source","reached"),("Standing","__len__"),("Standing","__iter__"),("Standing","__getitem__"),("Standing","at"),("Standing","up_to"),("Table","__getitem__"),("Table","__len__"),("Table","__iter__"),("Table","__eq__"),("Table","__or__"),("Table","__le__"),("Table","__call__"),("Table","rows"),("Table","entry"),("Table","without"),("Table","with_entry")]
def allM5:List (Str×Str):=[("Teller","nodes_at"),("Teller","is_asked"),("Teller","asked_stops"),("Teller","check"),("Teller","tells"),("Teller","by_places"),("Teller","told_by"),("Pool","number"),("Pool","build"),("Pool","term"),("Pool","nothing"),("Reader","refuse"),("Reader","here"),("Reader","inner"),("Reader","next_block"),("Worker","begin"),("Worker","result"),("Worker","do"),("Worker","copied"),("Worker","behind"),("Trip","last"),("Trip","at_source"),("Trip","at_made"),("Trip","shown_number"),("Trip","check_name")]
def allM6:List (Str×Str):=[("Trip","past_numbers"),("Trip","later_numbers"),("Trip","returned_numbers")]
def allM:List (Str×Str):=allM0++allM1++allM2++allM3++allM4++allM5++allM6
end Mi
namespace Mi
open PySem PySem.Spec PyProof.Rows L2
def rngT:D→Option O
  | .int n=>if decide (0≤n)&&decide (n≤100000) then some (.fz (.tup (rangeD 0 n.toNat))) else none
  |_=>none
section
variable {G:GE} {W:WX} {call:Call} {X:Cx}
theorem rep_rg {ρ M:List Addr} {H:Hp} {n:Int}:RepDs G ρ H M (rangeD 0 n.toNat) (rgV 0 n):=by
  have e1:rangeD 0 n.toNat=((List.range n.toNat).map fun i=>(0:Int)+(i:Nat)).map D.int:=by rw [rangeD,List.map_map];rfl
  have e2:rgV 0 n=((List.range n.toNat).map fun i=>(0:Int)+(i:Nat)).map V.int:=by rw [rgV,List.map_map,Int.sub_zero];rfl
  rw [e1,e2]
  exact rep_ints _
theorem e_trg (hb:G.bare=false) (hc:X.calm=true) {a:Expr} {m:E} {p p2 pos pos2:Pos} (hl:Gl X "tuple") (hlm:X.mg "tuple"=none) (hr:Gl X "range") (hrm:X.mg "range"=none) (he:PE X a (tE G W call m)) (hs:notStar a=true):
    PE X (.Call (.Name "tuple" p) [.Call (.Name "range" p2) [a] [] pos2] [] pos) (tE G W call (mOne rngT m)):=by
  refine (pe_tupRg hc hl hlm (prg_1 hr hrm he (star_cons hs))).of fun σ H Q q=>?_
  obtain ⟨st,Φ,c,q⟩:=tOne q
  refine ⟨st,Φ,c,q.mono fun y s1 z=>fun v H1 c1=>?_⟩
  obtain ⟨ρ,M,h0,L,d,o,cp,t,ef,fin⟩:=z v H1 c1
  unfold rngT at ef
  split at ef
  · rename_i n
    split at ef
    · rename_i hn
      simp only [Bool.and_eq_true,decide_eq_true_eq] at hn
      cases ef
      exact ⟨n,t,.of_le (by omega) (by omega) (by omega) (by omega),fun q hq=>fin _ _ (cp.tupNew rep_rg hq ⟨hb,rfl⟩)⟩
    · cases ef
  · cases ef
end
end Mi
namespace Mi
open PySem PySem.Spec PyProof.Rows L2
def kFs (go:Str→E) (acc:Str) (call:Call) (s:S):Option D→Out R
  |some (.str y)=>if fitsB (acc.length+y.length) then go (acc++y) call s else .bad
  |_=>.bad
def mFs:List E→Str→E
  |[],acc=>fun _ s=>.ok (.own (.fz (.str acc))) s
  |m::ms,acc=>fun call s=>(m call s).bind fun x s1=>kFs (mFs ms) acc call s1 (peek s1 x)
section
variable {G:GE} {k:Nat} {call:Call} {cc:CC} {W:WX} {X:Cx}
theorem tE_mono {m:E} {σ:Sr} {H:Hp} {P P':VK} (h:tE G W call m σ H P) (f: ∀ v H1,P v H1→P' v H1):tE G W call m σ H P':=by
  obtain ⟨s,Φ,c,a⟩:=h
  exact ⟨s,Φ,c,a.mono fun x s1 a1 v H1 c1=>f v H1 (a1 v H1 c1)⟩
theorem fs_nil {acc:Str} {σ:Sr} {H:Hp} {Q:VK} (h:tE G W call (mFs [] acc) σ H Q):Q (.str acc) H:=by
  obtain ⟨s,Φ,c,a⟩:=h
  obtain ⟨ρ,M,cp⟩:=c.parts
  exact a (.str acc) H (CfS.cpMore (K:=[]) c cp rfl)
theorem fs_cons {m:E} {ms:List E} {acc:Str} {σ:Sr} {H:Hp} {Q:VK} (h:tE G W call (mFs (m::ms) acc) σ H Q):
    tE G W call m σ H fun v H1=> ∃ y:Str,v= .str y∧y.length≤sizeLine∧(acc++y).length≤sizeLine∧tE G W call (mFs ms (acc++y)) σ H1 Q:=by
  obtain ⟨s,Φ,c,a⟩:=h
  refine ⟨s,Φ,c,(Aft.bind a).mono fun x s1 a1=>fun v H1 c1=>?_⟩
  cases ep:peek s1 x with
  |none=>rw [ep] at a1;exact a1.elim
  | some d=>
    rw [ep] at a1
    cases d with
    | str y=>
      have a2:Aft G W σ Φ (PV G σ Φ Q) (if fitsB (acc.length+y.length) then mFs ms (acc++y) call s1 else .bad):=a1
      split at a2
      · rename_i hf
        obtain ⟨ρ,M,cp⟩:=c1.parts
        have r:v=V.str y:=c1.peek (r:=x) (v:=v) (by simp) ep cp
        have hz:=fits hf
        refine ⟨y,r,by omega,by rw [strLen_append];exact hz,s1,(x,v)::Φ,c1,a2.frame1.mono fun z s2 q=>fun v2 H2 c2=>q v2 H2 ?_⟩
        exact (c2.perm (List.Perm.swap _ _ _)).dropN (K:=[(x,v)])
      · exact a2.elim
    |_=>all_goals exact a1.elim
def FsOk (G:GE) (W:WX) (call:Call) (X:Cx) (es:List Expr) (ms:List E):Prop:= ∃ ts,PJ X es ts∧∀ (acc:Str) (σ:Sr) (H:Hp) (Q:VK),tE G W call (mFs ms acc) σ H Q→tJs ts acc σ H (fun out H1=>Q (.str out) H1)
theorem fs_ok0:FsOk G W call X [] []:=⟨[],.nil,fun acc σ H Q h=>fs_nil h⟩
theorem fs_okT {e:Expr} {m:E} {es:List Expr} {ms:List E} (he:PE X e (tE G W call m)) (r:FsOk G W call X es ms):FsOk G W call X (e::es) (m::ms):=by
  obtain ⟨ts,pj,ih⟩:=r
  refine ⟨_,.cons he pj,fun acc σ H Q h=>?_⟩
  exact tE_mono (fs_cons h) fun v H1 ⟨y,e,h1,h2,q⟩=>⟨y,e,h2,ih _ _ _ _ q⟩
theorem fs_okF {e:Expr} {m:E} {es:List Expr} {ms:List E} {pos:Pos} (he:PE X e (tE G W call m)) (r:FsOk G W call X es ms):FsOk G W call X (.FormattedValue e (-1) none pos::es) (m::ms):=by
  obtain ⟨ts,pj,ih⟩:=r
  refine ⟨_,.cons (pe_fmt he) pj,fun acc σ H Q h=>?_⟩
  exact tE_mono (fs_cons h) fun v H1 ⟨y,e,h1,h2,q⟩=>.inl ⟨y,e,h1,y,rfl,h2,ih _ _ _ _ q⟩
end
section
variable {P:Program} {w:World} {K:PySem.W.Frag} {tg:Expr} {d:Addr} {o:Obj} {es:Array DictEntry} {ep:Nat}
end
section
variable {G:GE} {ρ M:List Addr} {H:Hp} {X:Cx} {pins:List (Addr×Obj)} {σ:L2.St} {s:Shared}
structure PrK (G:GE) (ρ:List Addr) (H:Hp) (M:List Addr) (X:Cx) (s:Shared) (z:D×Addr×(NestedKey×Addr×Value)):Prop where
  tup:s.heap.IsTuple z.2.1 #[.ref z.2.2.2.1,z.2.2.2.2]
  key:nkD z.1=z.2.2.1
  rep:RepD G ρ H M z.1 (.ref z.2.2.2.1)
  is:(nestedKind X.prog X.w).is s.heap z.2.2.1 z.2.2.2.1
end
section
variable {G:GE} {k:Nat} {call:Call} {cc:CC} {W:WX} {X:Cx}
end
end Mi
namespace Mi
open PySem PySem.Spec PyProof.Rows L2
section
variable {G:GE} {ρ:List Addr} {H:Hp} {M:List Addr} {d:Addr} {φ:Heap→Prop} {od:Obj}
abbrev lockX (H:Hp) (d:Addr) (od:Obj) (φ:Heap→Prop):Hp:=upd H d (.frz od (.ext φ))
theorem lockX_ne {a:Addr} (z:a≠d):lockX H d od φ a=H a:=upd_ne z
theorem lockX_keep (hd:H d=some (.ext φ)) {a:Addr} {o:HO} (e:H a=some o) (h: ∀ x,o≠.ext x):lockX H d od φ a=some o:=by
  have:a≠d:=fun z=>by subst z;rw [hd] at e;cases e;exact h _ rfl
  rw [lockX_ne this];exact e
theorem lockX_rd (hd:H d=some (.ext φ)) {a:Addr} {u:HO} (r:Rd H a u):Rd (lockX H d od φ) a u:=by
  by_cases z:a=d
  · subst z
    rcases r with r|⟨o,r⟩
    · rw [hd] at r;cases r;exact .inr ⟨od,upd_same⟩
    · rw [hd] at r;cases r
  · rcases r with r|⟨o,r⟩
    · exact .inl (by rw [lockX_ne z];exact r)
    · exact .inr ⟨o,by rw [lockX_ne z];exact r⟩
mutual
theorem RepD.lockX (hd:H d=some (.ext φ)): ∀ (x:D) (v:V),RepD G ρ H M x v→RepD G ρ (lockX H d od φ) M x v
  | .non,v,h=>h
  | .bl b,v,h=>h
  | .int i,v,h=>h
  | .str x,v,h=>h
  | .tup ds,v,h=>by
    obtain ⟨a,vs,e,t,r⟩:=h
    refine ⟨a,vs,e, ?_,RepDs.lockX hd ds vs r⟩
    rcases t with ⟨ho,q,i,n⟩|t
    · exact .inl ⟨ho,lockX_keep hd q (fun x z=>by subst z;exact i.elim),i,n⟩
    · exact .inr t
  | .lst ds,v,h=>by obtain ⟨a,vs,e,t,n,r⟩:=h;exact ⟨a,vs,e,lockX_keep hd t (by simp),n,RepDs.lockX hd ds vs r⟩
  | .dic ks ds,v,h=>by obtain ⟨a,vs,e,t,l,n,r⟩:=h;exact ⟨a,vs,e,lockX_rd hd t,l,n,RepDs.lockX hd ds vs r⟩
  | .ins c fs ds,v,h=>by obtain ⟨a,C,dx,vs,e,g,t,l,n,r⟩:=h;exact ⟨a,C,dx,vs,e,g,lockX_keep hd t (by simp),l,n,RepDs.lockX hd ds vs r⟩
  | .dct ks ds,v,h=>by obtain ⟨a,bs,vs,e,t,l,fk,n,rk,r⟩:=h;exact ⟨a,bs,vs,e,lockX_rd hd t,l,fk,n,RepDs.lockX hd ks _ rk,RepDs.lockX hd ds vs r⟩
  | .loc n,v,h=>h
  | .fn f,v,h=>h
  | .scr ns,v,h=>by
    obtain ⟨a,e,t|t⟩:=h
    · exact ⟨a,e,.inl ⟨lockX_rd hd t.1,t.2⟩⟩
    · exact ⟨a,e,.inr t⟩
  | .ty n,v,h=>h
  | .cls c,v,h=>h
  | .lk o x,v,h=>by obtain ⟨a,e,t,n⟩:=h;exact ⟨a,e,lockX_keep hd t (by simp),n⟩
  | .xn c f x,v,h=>by obtain ⟨a,a',C,v',e1,e2,e3,t,n,r⟩:=h;exact ⟨a,a',C,v',e1,e2,e3,lockX_keep hd t (by simp),n,RepD.lockX hd x v' r⟩
  | .xv c f x,v,h=>by obtain ⟨a,oe,u,a',C,v',e2,e3,ta,na,c1,c2,c3,t,n,r⟩:=h;exact ⟨a,oe,u,a',C,v',e2,e3,lockX_keep hd ta (by simp),na,c1,c2,c3,lockX_keep hd t (by simp),n,RepD.lockX hd x v' r⟩
theorem RepDs.lockX (hd:H d=some (.ext φ)): ∀ (ds:List D) (vs:List V),RepDs G ρ H M ds vs→RepDs G ρ (lockX H d od φ) M ds vs
  |[],vs,h=>h
  | x::ds,vs,h=>by
    obtain ⟨v,r,e,h1,h2⟩:=h
    exact ⟨v,r,e,RepD.lockX hd x v h1,RepDs.lockX hd ds r h2⟩
end
theorem Own.lockX (hd:H d=some (.ext φ)) {o:O} {v:V} {F:List Addr} (w:Own G ρ H M o v F) (hF:d∉F):Own G ρ (lockX H d od φ) M o v F:=by
  cases o with
  |fz x=>exact ⟨RepD.lockX hd x v w.1,w.2⟩
  |lst ds=>obtain ⟨a,vs,e,t,r,f⟩:=w;exact ⟨a,vs,e,lockX_keep hd t (by simp),RepDs.lockX hd ds vs r,f⟩
  |dic ks ds=>obtain ⟨a,vs,e,t,l,r,f⟩:=w;exact ⟨a,vs,e,lockX_keep hd t (by simp),l,RepDs.lockX hd ds vs r,f⟩
  |ins c fs ds=>obtain ⟨a,C,dx,vs,e,g,t,l,r,f⟩:=w;exact ⟨a,C,dx,vs,e,g,lockX_keep hd t (by simp),l,RepDs.lockX hd ds vs r,f⟩
  | dct ks ds=>
    obtain ⟨a,bs,vs,e,t,l,fk,rk,r,f⟩:=w
    refine ⟨a,bs,vs,e, ?_,l,fk,RepDs.lockX hd ks _ rk,RepDs.lockX hd ds vs r,f⟩
    rw [lockX_ne (fun z:a=d=>hF (by rw [f];simp [z]))];exact t
theorem Owns.lockX (hd:H d=some (.ext φ)): ∀ {L:List (O×V)} {F:List Addr},Owns G ρ H M L F→d∉F→Owns G ρ (lockX H d od φ) M L F
  |[],F,h,_=>h
  | p::ps,F,h,hF=>by
    obtain ⟨A,B,e,h1,h2⟩:=h
    subst e
    exact ⟨A,B,rfl,h1.lockX hd fun z=>hF (List.mem_append_left _ z),Owns.lockX hd h2 fun z=>hF (List.mem_append_right _ z)⟩
end
section
variable {P:Program} {w:World} {K:PySem.W.Frag} {tg:Expr} {d:Addr} {o:Obj} {es:Array DictEntry} {ep:Nat} {φ:Heap→Prop}
end
section
variable {G:GE} {k:Nat} {call:Call} {cc:CC} {W:WX} {X:Cx}
end
end Mi
namespace Mi
open PySem PySem.Spec PyProof.Rows L2
theorem getmethsm_ok {X:Cx} {pins:List (Addr×Obj)} {σ:Sr} {H:Hp} {s:Shared} {C p g:Addr} {m:Str} {A:Around} {E:Value→Shared→Prop} {pl:Sem Bool} {Q:Value×List Value→Shared→Prop} (I:Inv X pins σ H s) (k:StM X.K C m p g)
    (h: ∀ s',Inv X pins σ H s'→Q (.ref g,[]) s'):wpAny (model X.prog X.w) A (getMethod (.ref C) m pl) Q E s:=by
  obtain ⟨rest,hp⟩:=k.rc
  exact PySem.W.method_cls I.kIn k.ga (PySem.W.cls_bind I.kIn k.rd k.at_ (wpAny_call (PySem.W.sm_get (s:={s with toks:=s.toks+1}) I.kIn hp (PySem.W.handed_on rfl (h _ (I.tok _))))))
section
variable {G:GE} {k:Nat} {call:Call} {cc:CC} {W:WX} {X:Cx}
theorem e_sm (g:Good G k call cc W X) {c m:Str} {e:Expr} {es:List Expr} {r:As} {p apos pos:Pos} {C P a:Addr} {fd:FuncData} {ps:List Str} (hC:G.cls c=some C) (hS:StM X.K C m P a) (hk:PySem.W.keepIn X.K (.ref a)=true) (F:CallOk G call X k (mkey c m) a fd ps) (hb:ShOk G call X (mkey c m) fd ps (es.length+1) [])
    (hg:cc.sc.names.lookup c=some .globalImplicit) (h:PA X (e::es) (tL G W call r)) (hl:lenA r (es.length+1)) (hn:(e::es).all notStar=true) (hfew:fewB (e::es).length=true) (hln:(apos.endLine==pos.line)=true) (hd:(c==("__debug__":Str))=false):
    PE X (.Call (.Attribute (.Name c p) m apos) (e::es) [] pos) (tE G W call (mCall (mkey c m) r)):=by
  obtain ⟨ds,bs,fl⟩:=hb
  obtain ⟨pl,hpl⟩:=meth_eval (o:=.Name c p) (name:=m) (apos:=apos) (pos:=pos) (args:=e::es) (env:=X.env) (base_ok rfl) (few_ok hn hfew) hln
  simp only [List.all_cons,Bool.and_eq_true] at hn
  refine ⟨fun pins s σ H Q I q=>?_⟩
  have ev:tL G W call r σ H (fun vs H1=>vs.length=es.length+1∧∀ dvs,(∀ ρ H M,RepDs G ρ H M ds dvs)→spC G call (mkey c m) ps.length (vs++([]++dvs)) H1 Q (WE W σ)):=by
    obtain ⟨st,Φ,c',a⟩:=q
    unfold mCall at a
    have a':=Aft.bind a
    refine ⟨st,Φ,c', ?_⟩
    cases er:r call st with
    | ok xs s1=>
      rw [er] at a'
      intro vs H1 l c1
      have hx:=hl call st xs s1 er
      refine ⟨by rw [←l];exact hx,fun dvs rep=>?_⟩
      rw [List.nil_append]
      exact call_fill fl hx bs.1 l c1 rep a'
    |exc cn d s1=>rw [er] at a';exact a'
    |bad=>rw [er] at a';exact a'
  have pn:PE X (.Name c p) (tC (.ref C)):=pe_glob (v:=.ref C) (by show X.env.scope.names.lookup c=_;rw [g.sc];exact hg) (g.cls c C hC).2 rfl hd
  refine PySem.W.methodCall_KW (pl:=pl) (thn (pn.run pins s σ H (fun x H1=>x= .ref C∧tL G W call r σ H1 _) I ⟨rfl,ev⟩) fun u s1 ⟨x,H1,I1,rx,ex,tl⟩=>?_) hpl
  subst ex
  obtain rfl:u=Value.ref C:=rx
  refine getmethsm_ok I1 hS fun s2 I2=>?_
  refine PySem.W.callWith_K (first:=[]) (h₀:=X.base) I.ok.mod.kin hk (thn (h.run pos pins s2 σ H1 _ I2 tl) fun us s3 ⟨vs,H2,I3,rv,hvl,told⟩=>⟨I3.kIn, ?_⟩) (star_cons hn.1) (star_any hn.2)
  exact run_fnG (us:=us) (kws:=[]) (ws:=[]) (zs:=[]) F (g.room.mono (by omega)) g.gd bs (passAt g.tk σ) I3 rv .nil (by rw [←rv.length];exact hvl) rfl told
end
end Mi
namespace Mi
open PySem PySem.Spec PyProof.Rows L2
section
variable {prog:Program} {w:World} {K:Type} [DecidableEq K] {knd:KeyKind prog w K} {A:Around} {E:Value→Shared→Prop} {s:Shared}
end
section
variable {X:Cx}
end
section
variable {G:GE} {H:Hp} {σr:Sr} {s:S} {Φ:List (R×V)} {p:Addr}
end
section
variable {G:GE} {k:Nat} {call:Call} {cc:CC} {W:WX} {X:Cx}
end
section
variable {G:GE} {k:Nat} {call:Call} {cc:CC} {W:WX} {X:Cx}
end
end Mi
namespace Mi
open PySem PySem.Spec PyProof.Rows L2
def keysD:List D→Option (List Key)
  |[]=>some []
  |d::ds=>(keyD d).bind fun k=>(keysD ds).map fun ks=>k::ks
section
variable {G:GE} {X:Cx} {ρ:List Addr} {H:Hp} {M:List Addr}
theorem RepDs.keysOf: ∀ {ds:List D} {vs:List V} {ks:List Key},RepDs G ρ H M ds vs→keysD ds=some ks→vs=ks.map kV
  | [],vs,ks,r,e=>by
    cases e
    exact r
  | d::ds,vs,ks,r,e=>by
    obtain ⟨v,r',ev,h1,h2⟩:=r
    subst ev
    simp only [keysD,Option.bind_eq_some_iff,Option.map_eq_some_iff] at e
    obtain ⟨k,e1,ks',e2,e3⟩:=e
    subst e3
    rw [List.map_cons,←RepDs.keysOf h2 e2,key_of' (RepD.view h1) e1]
end
section
variable {G:GE} {call:Call} {cc:CC} {W:WX} {X:Cx}
end
end Mi
namespace Mi
open PySem PySem.Spec PyProof.Rows L2
section
variable {G:GE} {k:Nat} {call:Call} {cc:CC} {W:WX} {X:Cx}
def isNm:Expr→Bool
  | .Name .. =>true
  |_=>false
structure M2g (X:Cx) (o:Expr) (m:Str) (apos:Pos) (e f:Expr) (cpos:Pos):Prop where
  base:attributeBase o m X.env (eval o X.env)=eval o X.env
  few:((backTo cpos (starEach [e,f] X.env)).all (fun x=>!x.1)&&(backToKw cpos (keywordEach [] X.env)).all (fun x=>x.1.isSome)
    &&decide (([e,f]:List Expr).length+([]:List Keyword).length+(if ([]:List Keyword).isEmpty then 0 else 1)<30))=true
  line:(apos.endLine==cpos.line)=true∨isNm o=false
  trees:backTo cpos (starEach [e,f] X.env)=[(false,eval e X.env),(false,eval f X.env)]
end
end Mi
namespace Mi
open PySem PySem.Spec PyProof.Rows L2
section
variable {G:GE} {k:Nat} {call:Call} {cc:CC} {W:WX} {X:Cx}
theorem e_bin2 {f:Call→S→R→R→Out R} {op:Operator} {a b:Expr} {ma mb:E} {pos:Pos} (ho:OpS X (binaryOp op) (rB G W call f)) (ha:PE X a (tE G W call ma)) (hb:PE X b (tE G W call mb)):PE X (.BinOp a op b pos) (tE G W call (bin2 f ma mb)):=
  ⟨fun pins s σ H Q I h=>wpAny_BinOp (binT ha hb I (tBin2 h) fun v u s2 x y H2 I2 rx ry q=>ho pins s2 σ H2 x y v u Q I2 rx ry q)⟩
end
end Mi
namespace Mi
open PySem PySem.Spec PyProof.Rows L2
noncomputable section
end
section
variable {G:GE} {k:Nat} {call:Call} {cc:CC} {W:WX} {X:Cx}
end
end Mi
namespace Mi
open PySem PySem.Spec PyProof.Rows L2
section
variable {G:GE} {cc:CC} {X:Cx}
end
end Mi
namespace Mi
open PySem PySem.Spec PyProof.Rows L2
section
variable {G:GE} {k:Nat} {call:Call} {cc:CC} {W:WX} {X:Cx}
theorem Cf.fnv {H:Hp} {h:List O} {L:List (O×V)} {f:Str} {a:Addr} (c:Cf G H h L) (e:G.fns f=some a):Cf G H h ((.fz (.fn f),.ref a)::L):=by
  obtain ⟨ρ,M,cp⟩:=c
  exact Cf.fz1.mpr ⟨ρ,M,cp,a,rfl,e⟩
theorem e_fnV (g:Good G k call cc W X) {f:Str} {p:Pos} (hf:f∈cc.fns) (hg:cc.sc.names.lookup f=some .globalImplicit) (hd:(f==("__debug__":Str))=false):PE X (.Name f p) (tE G W call (mCon (.fn f))):=by
  obtain ⟨a,fd,ps,ga,hm,hk,F,hb⟩:=g.fns f hf
  refine (pe_glob (v:=.ref a) (g.gl hg) hm rfl hd).of fun σ H Q h=>?_
  obtain ⟨s,Φ,c,q⟩:=h
  exact q _ H (CfS.more (K:=[]) c (c.cf.fnv ga))
end
end Mi
namespace Mi
open PySem PySem.Spec PyProof.Rows L2
section
variable {G:GE} {k:Nat} {call:Call} {cc:CC} {W:WX} {X:Cx}
end
end Mi
namespace Mi
open PySem PySem.Spec PyProof.Rows L2
section
variable {G:GE} {k:Nat} {call:Call} {cc:CC} {W:WX} {X:Cx}
theorem CfS.two {σr:Sr} {H:Hp} {s:S} {Φ:List (R×V)} {d e:D} {v w:V} {T:Addr} (c:CfS G σr H s ((.own (.fz e),w)::(.own (.fz d),v)::Φ)) (hT:H T=none) (hb:G.bare=false):CfS G σr (upd H T (.tup [v,w])) s ((.own (.fz (.tup [d,e])),.ref T)::Φ):=by
  have c2:CfS G σr H s (FzR [d,e] [v,w]++Φ):=c.swap
  exact c2.pack fun L q=>Cf.newTup rfl q hT ⟨hb,rfl⟩
end
end Mi
namespace PySem.SeqAt
open AutoSeq1 (wpAny_loadPart')
open MeetsSeq MeetsSeq2 MeetsSeq3 SeqRoads2
section
variable {prog:Program} {w:World}
end
end PySem.SeqAt
namespace Mi
open PySem PySem.Spec PyProof.Rows L2
section
variable {G:GE} {cc:CC} {X:Cx} {pins:List (Addr×Obj)} {σ:Sr} {H:Hp} {s:Shared}
theorem Owns.at {ρ:List Addr} {M:List Addr}: ∀ {L:List (O×V)} {F:List Addr} {i:Nat} {o:O} {v:V},Owns G ρ H M L F→L[i]?=some (o,v)→∃ A,Own G ρ H M o v A∧∀ b∈A,b∈F
  |[],F,i,o,v,h,e=>by simp at e
  | p::ps,F,0,o,v,h,e=>by
    obtain ⟨A,B,ef,h1,h2⟩:=h
    simp only [List.getElem?_cons_zero,Option.some.injEq] at e
    subst e ef
    exact ⟨A,h1,fun b hb=>List.mem_append_left _ hb⟩
  | p::ps,F,i+1,o,v,h,e=>by
    obtain ⟨A,B,ef,h1,h2⟩:=h
    subst ef
    obtain ⟨A',o',hm⟩:=Owns.at h2 (by simpa using e)
    exact ⟨A',o',fun b hb=>List.mem_append_right _ (hm b hb)⟩
end
end Mi
namespace Mi
open PySem PySem.Spec PyProof.Rows L2
section
variable {G:GE} {X:Cx}
end
end Mi
namespace L2
open PySem PySem.Spec PyProof.Rows
section
variable {M:Model} {A:Around} {E:Value→Shared→Prop} {s:Shared} {env:Env} {outer l:List Env} {B:Heap} {a L:Addr} {Z:Obj→Prop}
def TrA (B:Heap) (l:List Env) (a:Addr) (Z:Obj→Prop) (h:Heap):Prop:=B.StaysIn h∧B.get? a=none∧h.FunFrames B l∧∃ fl,HandSPX.TracedZ h B a Z fl
def SkA (B:Heap) (l:List Env) (a:Addr) (Z:Obj→Prop) (h:Heap):Prop:=
  (B.StaysIn h∧B.get? a=none∧h.FunFrames B l∧∃ oe vs,h.get? a=some oe∧Z oe∧oe.data= .fields vs∧vs[1]?=some .none)∨TrA B l a Z h
theorem Sky.any {h:Heap} (x:Sky B l a Z L h):SkA B l a Z h:=by
  rcases x with x|⟨a1,a2,a3,a4⟩|⟨a1,a2,a3,a4⟩
  · exact .inl x
  · exact .inr ⟨a1,a2,a3,_,a4⟩
  · exact .inr ⟨a1,a2,a3,_,a4⟩
theorem note_any {Q:Unit→Shared→Prop} (hZ:HandSPX.Steady Z) (hfr:A.frames=some (env::outer)) (hf:env.frame=some L) (x:SkA B (env::outer) a Z s.heap)
    (hQ: ∀ h',TrA B (env::outer) a Z h'→s.heap.UpToSlots h'→Q () {s with heap:=h'}):wpAny M A (noteFrame (.ref a) env) Q E s:=by
  rcases x with ⟨hB,hn,hl,oe,vs,he,hz,hd,h1⟩|⟨hB,hn,hl,fl,ht⟩
  · exact HandSPX.look_newZ hZ hfr hl hf he hB hn hd h1 hz fun h' hh up=>hQ h' ⟨hh.1,hh.2.1,hh.2.2.1,_,hh.2.2.2⟩ up
  · have ht0:=ht
    obtain ⟨ox,fs,T,oT,ts,hx,zx,dx,f1,nT,Tne,gT,dT,f3⟩:=ht
    unfold noteFrame
    simp only [hf]
    refine wpAny_bind (wpAny_field hx dx f1 ?_)
    rw [if_pos (show (Value.ref T !=Value.none)=true from by simp)]
    refine wpAny_bind (wpAny_field gT dT f3 ?_)
    by_cases hb:(fl==rawInt L)=true
    · rw [if_pos hb]
      exact wpAny_pure (hQ s.heap ⟨hB,hn,hl,fl,ht0⟩ (Heap.UpToSlots.refl _))
    · rw [if_neg hb]
      refine wpAny_bind (wpAny_setField gT dT (Array.getElem?_eq_some_iff.mp f3).1 ?_)
      have oth: ∀ b,b≠T→(s.heap.update T (Obj.mapFields (·.setIfInBounds 3 Value.none))).get? b=s.heap.get? b:=fun b q=>Heap.get?_update_other _ _ (Ne.symm q)
      have noR: ∀ b o,s.heap.get? b=some o→(∀ vs,o.data≠.fields vs)→b≠T:=fun b o q nf z=>by
        rw [z,gT] at q
        injection q with q
        subst q
        exact nf ts dT
      refine HandSPX.wpAny_entryZ hZ hfr (hl.of_keeps fun b o q nf=>⟨o,(oth b (noR b o q nf)).trans q,rfl⟩) hf ((oth a (Ne.symm Tne)).trans hx)
        (fun b o q=>(oth b fun z=>by rw [z,nT] at q;cases q).trans (hB b o q)) hn dx (Array.getElem?_eq_some_iff.mp f1).1 zx fun h' hN=>?_
      obtain ⟨x1,x2,x3,x4⟩:=hN
      exact hQ h' ⟨x1,hn,x2,_,x3⟩ fun b o q nf=>x4 b o ((oth b (noR b o q nf)).trans q) nf
theorem flight_any {Q:Unit→Shared→Prop} {fr:Option Addr} (x:TrA B l a Z s.heap)
    (hQ: ∀ h',(B.StaysIn h'∧B.get? a=none∧h'.FunFrames B l∧HandSPX.TracedZ h' B a Z (fr.elim Value.none fun f=>rawInt f))→s.heap.UpToSlots h'→Q () {s with heap:=h'}):
    wpAny M A (setFlight (.ref a) fr) Q E s:=by
  obtain ⟨hB,hn,hl,fl,ht⟩:=x
  exact HandSPX.setFlight_anyZ hB hl ht fun h' k1 k2 k3 k4=>hQ h' ⟨k1,hn,k2,k3⟩ k4
theorem field1_any {Q:Value→Shared→Prop} {h:Heap} (x:TrA B l a Z h) (e:h=s.heap) (hQ: ∀ T,Q (.ref T) s):wpAny M A (field (.ref a) 1) Q E s:=by
  subst e
  obtain ⟨hB,hn,hl,fl,ox,fs,T,oT,ts,hx,zx,dx,f1,_⟩:=x
  exact wpAny_field hx dx f1 (hQ T)
theorem TrA.same {C:Addr} {m m':Str→Option Value} {h h' B':Heap} (x:TrA B l a Z h) (hn:h.Ns C m) (hn':h'.Ns C m') (hs:Heap.SameBut C h h') (hB: ∀ b,b≠C→B'.get? b=B.get? b) (hC:B'.get? C=none):TrA B' l a Z h':=by
  obtain ⟨x1,x2,x3,fl,ox,fs,T,oT,ts,hx,zx,dx,f1,nT,Tne,gT,dT,f3⟩:=x
  obtain ⟨oL,es,ep,hoL,hdL,_⟩:=hn
  have neA:a≠C:=fun q=>by
    rw [q,hoL] at hx
    have z:=Option.some.inj hx
    rw [←z,hdL] at dx
    cases dx
  have neT:T≠C:=fun q=>by
    rw [q,hoL] at gT
    have z:=Option.some.inj gT
    rw [←z,hdL] at dT
    cases dT
  refine ⟨fun b o q=>?_,by rw [hB a neA];exact x2, ?_,fl,ox,fs,T,oT,ts,(hs.2 a neA).trans hx,zx,dx,f1,by rw [hB T neT];exact nT,Tne,(hs.2 T neT).trans gT,dT,f3⟩
  · have nb:b≠C:=fun z=>by rw [z,hC] at q;cases q
    rw [hB b nb] at q
    exact (hs.2 b nb).trans (x1 b o q)
  · refine funFrames_none (Heap.FunFrames.sameBut hs hn' x3) fun L hL=>?_
    by_cases z:L=C
    · rw [z];exact hC
    · rw [hB L z]
      have fm: ∀ {l:List Env},h.FunFrames B l→∀ L∈frs l,B.get? L=none:=fun {l}=>by
        induction l with
        |nil=>intro _ L hL;cases hL
        | cons e l ih=>
          rintro ⟨_,⟨L',o,hf,hb,_⟩,hr⟩ L hL
          simp only [frs,List.filterMap_cons,hf] at hL
          rcases List.mem_cons.mp hL with rfl|hL
          · exact hb
          · exact ih hr L hL
      exact fm x3 L hL
end
section
variable {X Xb:Cx} {W:WX} {σ:St}
def XB (X Xb:Cx) (W:WX) (σ:St) (u:Value) (s':Shared):Prop:=
  ∃ (a:Addr) (B:Heap) (sI:Shared) (pins:List (Addr×Obj)) (σ':St) (H:Hp) (cls:Value) (d:Option Addr),
    u = .ref a∧Inv Xb pins σ' H sI∧(∀ b o,sI.heap.get? b=some o→b∉frs X.stack→B.get? b=some o)∧sI.heap.UpToSlots s'.heap∧
      SkA B X.stack a (Zc cls d) s'.heap∧H a=none∧s'.os=sI.os∧AllBare s'.gens∧W cls d σ H
theorem Cx.Ok.xe {X:Cx} {E:Value→Shared→Prop} (o:X.Ok):({X with xe:=E}:Cx).Ok:=⟨o.mod,o.kind,o.glob,o.blt,o.above,o.inj,o.has,o.cab,o.hd,o.frames,o.stk,o.exf,o.bs,o.bsz,o.noex,o.exfs,o.funs,o.frf⟩
theorem Inv.xe {X:Cx} {E:Value→Shared→Prop} {pins:List (Addr×Obj)} {σ:St} {H:Hp} {s:Shared} (I:Inv X pins σ H s):Inv {X with xe:=E} pins σ H s:=⟨I.ok.xe,I.os,I.bare,I.base,I.loc,I.cell,I.free,I.freeC,I.pin,I.hok,I.len⟩
variable {s3:Shared} {H3:Hp} {scope:Scope} {ce:Env} {fp:List Addr}
theorem XB.noted {e:Value} {s':Shared} {Q:Value→Shared→Prop} (hs:X.stack=X.env::X.outer) (hf:X.env.frame=some X.env.locals) (hce:ce.frame=X.env.frame)
    (x:XB X (X.blk s3 H3 scope ce fp) W σ e s') (hQ: ∀ a B sI pins σ' H cls d h',e= .ref a→Inv (X.blk s3 H3 scope ce fp) pins σ' H sI→(∀ b o,sI.heap.get? b=some o→b∉frs X.stack→B.get? b=some o)→sI.heap.UpToSlots h'→
      TrA B X.stack a (Zc cls d) h'→H a=none→s'.os=sI.os→AllBare s'.gens→W cls d σ H→Q e {s' with heap:=h'}):notedBy (model X.prog X.w) X.A ce Q e s':=by
  obtain ⟨a,B,sI,pins,σ',H,cls,d,rfl,I,nb,up,sky,na,os,ag,w⟩:=x
  show wpAny _ _ (noteFrame (.ref a) ce) _ _ s'
  rw [noteFrame_env (env:=X.env) _ hce]
  have hfr:X.A.frames=some X.stack:=I.ok.frames
  rw [hs] at sky hfr
  refine note_any Zc.steady hfr hf sky fun h' tr up'=>?_
  rw [←hs] at tr
  exact hQ a B sI pins σ' H cls d h' rfl I nb (up.trans up') tr na os ag w
theorem XB.out {pins0:List (Addr×Obj)} {e:Value} {s':Shared} (tk:Takes X W) (hs:X.stack=X.env::X.outer) (hf:X.env.frame=some X.env.locals) (hce:ce.frame=X.env.frame) (hL:ce.locals=s3.heap.objs.size)
    (I3:Inv X pins0 σ H3 s3) (hfp: ∀ b∈fp,FpOk X pins0 H3 b) (x:XB X (X.blk s3 H3 scope ce fp) W σ e s'):notedBy (model X.prog X.w) X.A ce (CompFails (model X.prog X.w) X.A X.xe ce) e s':=by
  refine XB.noted hs hf hce x fun a B sI pins σ' H cls d h' ea I nb up tr na os ag w=>?_
  subst ea
  obtain ⟨m,hn,_⟩:=I.loc
  have hn:sI.heap.Ns ce.locals m:=hn
  have hn':h'.Ns ce.locals m:=hn.upToSlots up
  refine ⟨m,hn',fun h₂ m₂ hn₂ hs₂=>?_⟩
  obtain ⟨B',b1,b2⟩:=restrict B fun b=>decide (b≠ce.locals)
  obtain ⟨G,g1,g2⟩:=restrict sI.heap fun b=>decide (b≠ce.locals)
  have tr2:TrA B' X.stack a (Zc cls d) h₂:=tr.same hn' hn₂ hs₂ (fun b q=>b1 b (decide_eq_true q)) (b2 _ (by simp))
  unfold PySem.passOn
  refine wpAny_bind (field1_any tr2 rfl fun T=>?_)
  rw [if_neg (show ¬((Value.ref T==Value.none)=true) from by simp)]
  refine wpAny_bind (flight_any tr2 fun h₃ k up3=>?_)
  refine wpAny_throw ?_
  have J:Inv X pins0 σ H sI:=I3.call' (ch:=fp) I.os I.base I.hok I.bare fun b hb=>⟨(hfp b hb).2.2.2.1,(hfp b hb).2.1,(hfp b hb).2.2.2.2.1,(hfp b hb).2.2.2.2.2⟩
  have nC:H s3.heap.objs.size=none:=by
    have z:H ce.locals=none:=I.free
    rw [hL] at z
    exact z
  obtain ⟨f0,f1,f2,f3,f4,f5⟩:=I3.fpOk (H':=H) (Nat.le_refl _) nC
  have J2:Inv X pins0 σ H {sI with heap:=G,toks:=sI.toks}:=J.turned (fun b o q e=>(g1 b (decide_eq_true (by rw [hL];exact q))).trans e) f0 f1 f3 f4 f5
  have hide: ∀ b o,G.get? b=some o→b≠ce.locals∧sI.heap.get? b=some o:=fun b o q=>by
    by_cases z:b=ce.locals
    · rw [z,g2 _ (by simp)] at q;cases q
    · exact ⟨z,(g1 b (decide_eq_true z)).symm.trans q⟩
  refine tk _ _ ⟨a,B',{sI with heap:=G,toks:=sI.toks},pins0,σ,H,cls,d,rfl,J2,fun b o q nf=>?_,fun b o q nf=>?_,.inr (.inr ?_),na,os,ag,w⟩
  · obtain ⟨q1,q2⟩:=hide b o q
    rw [b1 b (decide_eq_true q1)]
    exact nb b o q2 nf
  · obtain ⟨q1,q2⟩:=hide b o q
    obtain ⟨sl,z⟩:=up b o q2 nf
    obtain ⟨sl',z'⟩:=up3 b _ ((hs₂.2 b q1).trans z) nf
    exact ⟨sl',z'⟩
  · rw [hce,hf] at k
    exact k
end
end L2
namespace L2
open PySem PySem.Spec PyProof.Rows
structure BlkIs (X:Cx) (scope:Scope) (ce:Env) (fp:List Addr) (sB:Shared) (HB:Hp) (σ:St) (nm:List Nat) (tn:Nat→Heap→Prop) (Wr:Nat→Nat→Hp→Prop) (n:Nat) (s:Shared):Prop where
  at_: ∃ i H,Inv (X.blk sB HB scope ce fp) [] (wipe σ nm) H s∧tn i s.heap∧(∀ b∈fp,H b=none)∧Wr i n H
section
variable {X:Cx} {pins:List (Addr×Obj)} {σ:St} {elt tg:Expr} {ifs:List Expr} {scope:Scope} {nm:List Nat} {tn:Nat→Heap→Prop} {J:It} {it D:Addr} {fp:List Addr} {sB:Shared} {HB:Hp} {ce:Env}
  {Wr:Nat→Nat→Hp→Prop} {g:TG} {tt:TT} {te:TE} {Wx:WX} {Q:VK}
theorem BlkIs.next {σ8:St} {H':Hp} {s7 s':Shared} {i n:Nat} {Nx:Hp→Prop} (T:Turn X.prog X.w X.K tg J fp it tn) (st:tn (i+1) s7.heap) (hw:wipe σ8 nm=wipe σ nm) (hNx: ∀ H',Nx H'→∃ m',m'<n∧Wr (i+1) m' H')
    (I:Inv (X.blk sB HB scope ce fp) ([]++pinsAt fp s7.heap) σ8 H' s') (nx:Nx H'): ∃ m,m<n∧BlkIs X scope ce fp sB HB σ nm tn Wr m s':=by
  obtain ⟨m',hm,w⟩:=hNx H' nx
  have pinned: ∀ b∈fp,∀ o,s7.heap.get? b=some o→s'.heap.get? b=some o∧H' b=none:=fun b hb o e=>by
    have z:=I.pin (b,o) (List.mem_append_right _ (List.mem_append_right _ (mem_pinsAt hb e)))
    exact ⟨z.1,z.2.1⟩
  refine ⟨m',hm,⟨i+1,H',(I.unpinned (pins:=[])).weak (by rw [←hw,wipe_length]) (fun j v e=>?_),T.keep _ _ _ st fun b hb o e=>(pinned b hb o e).1,fun b hb=>?_,w⟩⟩
  · rw [←hw] at e
    exact (wipe_some e).1
  · obtain ⟨o,e,_⟩:=T.obj _ _ st b hb
    exact (pinned b hb o e).2
end
section
variable {X:Cx}
end
end L2
namespace Mi
open PySem PySem.Spec PyProof.Rows L2
section
variable {G:GE} {k:Nat} {call:Call} {cc:CC} {W:WX} {X:Cx} {vs:List Nat}
end
end Mi
namespace Mi
open PySem PySem.Spec PyProof.Rows L2
section
variable {X:Cx} {pins:List (Addr×Obj)} {σ:L2.St} {H:Hp} {s:Shared} {a C d:Addr} {f:Str} {y:V}
theorem exd_frz {e:Addr} {fs:List (Str×V)} {o:Obj} {u:HO}:exd e fs≠.frz o u:=fun z=>by
  have z':HO.ext _=HO.frz o u:=z
  cases z'
theorem exd_tbl {e:Addr} {fs:List (Str×V)} {ps:Array Value}:exd e fs≠.tbl ps:=fun z=>by
  have z':HO.ext _=HO.tbl ps:=z
  cases z'
theorem inv_xv (I:Inv X pins σ H s) (ea:H a=some (exo a C (some d))) (ed:H d=some (exd d [(f,y)])) (hne:d≠a):
    ∃ oe:Obj,oe.cls= .ref C∧oe.dict=some d∧(∃ vs,oe.data= .fields vs)∧Inv X pins σ (upd (upd H d (.xd [(f,y)])) a (.frz oe (exo a C (some d)))) s:=by
  obtain ⟨t1,oat⟩:=exo_at I.hok ea
  refine ⟨({cls:=.ref C,dict:=some d,data:=.fields #[.ref t1,.none,.none,.none,.bool false,.none]}:Obj),rfl,rfl,⟨_,rfl⟩, ?_⟩
  have na: ∀ {b:Addr},H b=none→b≠a:=fun {b} n z=>by rw [z,ea] at n;cases n
  have nd: ∀ {b:Addr},H b=none→b≠d:=fun {b} n z=>by rw [z,ed] at n;cases n
  have U1:Un X.fs [] H (upd (upd H d (.xd [(f,y)])) a (.frz ({cls:=.ref C,dict:=some d,data:=.fields #[.ref t1,.none,.none,.none,.bool false,.none]}:Obj) (exo a C (some d)))) s.heap s.heap:=by
    refine ⟨fun b o q n _ _=>q,fun b o q n _ _=>⟨o.slots,q⟩,fun b o q n _=>?_,fun b o q _=>⟨o,q⟩,fun b xs q=>?_,fun b o v q=>?_,fun b ps q=>⟨#[], ?_⟩⟩
    · rw [upd_ne (na n),upd_ne (nd n)];exact n
    · rw [upd_ne (at_ne ea q exo_tup),upd_ne (at_ne ed q exd_tup)];exact q
    · rw [upd_ne (at_ne ea q exo_frz),upd_ne (at_ne ed q exd_frz)];exact q
    · rw [upd_ne (at_ne ea q exo_tbl),upd_ne (at_ne ed q exd_tbl),q];simp
  refine I.un (t':=s.toks) U1 fun b o q=>?_
  by_cases hb:b=a
  · subst hb
    rw [upd_same] at q
    cases q
    exact ⟨oat,exo_ok oat⟩
  · rw [upd_ne hb] at q
    by_cases hd:b=d
    · subst hd
      rw [upd_same] at q
      cases q
      exact exd_at I.hok ed
    · rw [upd_ne hd] at q
      refine (I.hok b o q).stay (fun c v hc z=>z) (fun c hc=>?_) (fun c xs hc=>?_)
      · rw [upd_ne (at_ne ea hc exo_own),upd_ne (at_ne ed hc exd_own)];exact hc
      · rw [upd_ne (at_ne ea hc exo_tup),upd_ne (at_ne ed hc exd_tup)];exact hc
def tXv (C:Addr) (f:Str) (ta:TA):TE:=fun σ H Q=>ta σ H fun vs H1=> ∃ y,vs=[y]∧∀ (a d:Addr) (oe:Obj) (u:HO),H1 a=none→H1 d=none→d≠a→oe.cls= .ref C→oe.dict=some d→(∃ vs,oe.data= .fields vs)→Q (.ref a) (upd (upd H1 d (.xd [(f,y)])) a (.frz oe u))
theorem xv_upd {H1:Hp} {u1 u2:HO} {u3 u4 u5:HO} (hne:d≠a):upd (upd (upd (upd (upd H1 a u1) d u2) a u3) d u4) a u5=upd (upd H1 d u4) a u5:=by
  funext z
  by_cases h1:z=a
  · subst h1;rw [upd_same,upd_same]
  · rw [upd_ne h1,upd_ne h1]
    by_cases h2:z=d
    · subst h2;rw [upd_same,upd_same]
    · rw [upd_ne h2,upd_ne h2,upd_ne h1,upd_ne h2,upd_ne h1]
theorem xv_run {Q:VK} {hp:Heap} {g:Array GenState} {dr:Drawn} {tkn:Nat} {os:OsState} {us:List Value} {kw:List (Str×Value)} {args:Args} {u:Value} {fI:Addr} {fd:FuncData} (F1:FnOk X.prog X.w X.K X.mg X.base CX0 1 fI fd ["self",f] (spX C f))
    (In1:Inv X pins σ H ⟨hp,g,dr,tkn,os⟩) (ry:RelV y u) (hr:Room 2 X.A)
    (hb: ∀ s:Shared,X.K.In s.heap→BindsTo s fd args ((["self",f]:List Str).zip [Value.ref (hp.objs.size+1),u]))
    (q: ∀ (a d:Addr) (oe:Obj) (u:HO),H a=none→H d=none→d≠a→oe.cls= .ref C→oe.dict=some d→(∃ vs,oe.data= .fields vs)→Q (.ref a) (upd (upd H d (.xd [(f,y)])) a (.frz oe u))):
    codeAny (model X.prog X.w) (X.A.under (.builtin "type.__call__" ⟨.ref C::us,kw⟩)) (.call (.ref fI) args) (PySem.W.InitBack (hp.objs.size+1) fun r s'=>match r with
      | .ok (.ret w)=>EP X pins σ Q w s'
      | .ok _=>False
      | .error e=>X.xe e s') ⟨(hp.push (PySem.W.kdv_tup us)).push (exObj C hp.objs.size),g,dr,tkn,os⟩:=by
  have szl:hp.objs.size≤hp.objs.size+1:=Nat.le_succ _
  have fre:H (hp.objs.size+1)=none:=In1.hok.fresh szl
  have k2': ∀ b o,hp.get? b=some o→((hp.push (PySem.W.kdv_tup us)).push (exObj C hp.objs.size)).get? b=some o:=fun b o e=>Heap.get?_push_of_some _ (Heap.get?_push_of_some _ e)
  have hget:((hp.push (PySem.W.kdv_tup us)).push (exObj C hp.objs.size)).get? (hp.objs.size+1)=some (exObj C hp.objs.size):=by heap_get
  have In2:Inv X pins σ (upd H (hp.objs.size+1) (exo (hp.objs.size+1) C none)) ⟨(hp.push (PySem.W.kdv_tup us)).push (exObj C hp.objs.size),g,dr,tkn,os⟩:=
    In1.laid (t':=tkn) (a:=hp.objs.size+1) (o:=exo (hp.objs.size+1) C none) (h':=(hp.push (PySem.W.kdv_tup us)).push (exObj C hp.objs.size)) k2' szl (exo_ok hget)
  have r2:Vals [V.ref (hp.objs.size+1),y] [Value.ref (hp.objs.size+1),u]:=.cons rfl (.cons ry .nil)
  have nxt:spX C f [V.ref (hp.objs.size+1),y] (upd H (hp.objs.size+1) (exo (hp.objs.size+1) C none)) (fun v H'=>v= .non∧∃ dx,H dx=none∧dx≠hp.objs.size+1∧H'=upd (upd (upd H (hp.objs.size+1) (exo (hp.objs.size+1) C none)) dx (exd dx [(f,y)])) (hp.objs.size+1) (exo (hp.objs.size+1) C (some dx))) (fun _ _ _=>False):=
    ⟨_,y,rfl,upd_same,fun dx hn hne=>⟨rfl,dx,by rw [upd_ne hne] at hn;exact hn,hne,rfl⟩⟩
  refine codeAny_mono (F1.run _ X.stack _ _ args [Value.ref (hp.objs.size+1),u] _ _ (fun _ _ _=>False) (hr.make C us kw) (In2.env0.make C us kw) (hb _ In2.kIn) r2 nxt) fun r s' back=>?_
  cases r with
  |error e=>exact (back:False).elim
  | ok fl=>
    cases fl with
    | ret w=>
      obtain ⟨v,H',In,ru,ev,dx,hn,hne,eH⟩:=In2.after back
      subst ev;subst eH
      obtain ⟨oe,c1,c2,c3,In3⟩:=inv_xv (C:=C) (f:=f) (y:=y) In upd_same (by rw [upd_ne hne,upd_same]) hne
      rw [xv_upd hne] at In3
      exact ⟨ru,⟨V.ref (hp.objs.size+1),_,In3,rfl,q _ _ oe _ fre hn hne c1 c2 c3⟩⟩
    |_=>all_goals exact False.elim back
theorem pe_xv {c:Str} {e:Expr} {ta:TA} {p pos:Pos} (R:XRow X.K X.mg c C f) (hr:Room 2 X.A) (hg:Gl X c) (ha:PA X [e] ta)
    (he:starEach (e::[]) X.env=(false,eval e X.env)::starEach [] X.env):PE X (.Call (.Name c p) [e] [] pos) (tXv C f ta):=by
  obtain ⟨initId,fI,b,x,qual,st,fd,T,hno,BI,Fn,It,hb,iC,tI⟩:=R.ex
  have F1:=init_ok (P:=X.prog) (w:=X.w) (mg:=X.mg) (base:=X.base) T hno BI Fn It
  refine ⟨fun pins s σ H Q I h=>?_⟩
  obtain ⟨tl,newId,hB,nm,q,N,bs,bm,sno,sub,abc0,cl,ddd,k0,k1,k2,k3,k5,hC,hbm⟩:=T.cls
  refine wpAny_Call_Name_kw (ld_glob I hg R.gC ?_ R.db)
  refine PySem.W.callWith_K (h₀:=X.base) I.ok.mod.kin T.kC (thn (ha.run pos pins s σ H _ I h) fun uus sh1 ⟨vs,Hp1,In1,rl1,y,ev,q⟩=>⟨In1.kIn, ?_⟩) he rfl
  subst ev
  obtain ⟨u,rfl,ry⟩: ∃ u,uus=[u]∧RelV y u:=by
    cases rl1 with
    |cons r1 r2=>cases r2;exact ⟨_,rfl,r1⟩
  show wpAny _ _ (call (.ref C) [u]) _ _ _
  obtain ⟨hp,g,dr,tkn,os⟩:=sh1
  refine wpAny_call (hB.made hbm (In1.kIn _ _ hC) (PySem.W.looks_findIn In1.kIn iC) (fun self=>PySem.W.bind_fn In1.kIn self tI) (by rw [sizeLine_eq];simp) ?_)
  exact xv_run F1 In1 ry hr (fun s ks=>by have z:=hb s [Value.ref (hp.objs.size+1),u] ks rfl;rwa [List.append_nil] at z) q
theorem pe_xvK {c:Str} {kws:List Keyword} {ta:TA} {p pos:Pos} (R:XRow X.K X.mg c C f) (hr:Room 2 X.A) (hg:Gl X c) (hkw:PK X kws ta) (hall:(backToKw pos (keywordEach kws X.env)).all (·.1.isSome)=true) (hks:(backToKw pos (keywordEach kws X.env)).filterMap (·.1)=[f])
    (hpl:((backTo pos (starEach [] X.env)).any (·.1)||(backToKw pos (keywordEach kws X.env)).any (·.1.isNone))=false):PE X (.Call (.Name c p) [] kws pos) (tXv C f ta):=by
  obtain ⟨initId,fI,b,x,qual,st,fd,T,hno,BI,Fn,It,hb,iC,tI⟩:=R.kx
  have F1:=init_ok (P:=X.prog) (w:=X.w) (mg:=X.mg) (base:=X.base) T hno BI Fn It
  refine ⟨fun pins s σ H Q I h=>?_⟩
  obtain ⟨tl,newId,hB,nm,q,N,bs,bm,sno,sub,abc0,cl,ddd,k0,k1,k2,k3,k5,hC,hbm⟩:=T.cls
  refine wpAny_Call_Name_kw (ld_glob I hg R.gC ?_ R.db)
  refine PySem.W.callWith_KW0 (h₀:=X.base) I.ok.mod.kin T.kC hall (thn (hkw.run pos pins s σ H _ I h) fun uus sh1 ⟨vs,Hp1,In1,rl1,y,ev,q⟩=>⟨In1.kIn, ?_⟩) hpl
  subst ev
  obtain ⟨u,rfl,ry⟩: ∃ u,uus=[u]∧RelV y u:=by
    cases rl1 with
    |cons r1 r2=>cases r2;exact ⟨_,rfl,r1⟩
  rw [hks]
  show wpAny _ _ (call (.ref C) [] [(f,u)]) _ _ _
  obtain ⟨hp,g,dr,tkn,os⟩:=sh1
  refine wpAny_call (hB.madeK hbm (In1.kIn _ _ hC) (PySem.W.looks_findIn In1.kIn iC) (fun self=>PySem.W.bind_fn In1.kIn self tI) ?_)
  exact xv_run F1 In1 ry hr (fun s _=>hb s _ u) q
end
section
variable {G:GE} {k:Nat} {call:Call} {cc:CC} {W:WX} {X:Cx}
def kXv (c f:Str) (ds:List D) (s:S):Out R:=match ds with
  |[d]=>.ok (.own (.fz (.xv c f d))) s
  |_=>.bad
def mXv (c f:Str) (r:As):E:=fun call s=>(r call s).bind (kXv c f)
theorem Cf.newXv {c f:Str} {C a dd:Addr} {oe:Obj} {u:HO} {H:Hp} {h:List O} {L:List (O×V)} {d:D} {y:V} (hE:G.exc c=some (C,f)) (cf:Cf G H h ((.fz d,y)::L)) (ha:H a=none) (hd:H dd=none) (hne:dd≠a) (e1:oe.cls= .ref C) (e2:oe.dict=some dd) (e3: ∃ vs,oe.data= .fields vs):
    Cf G (upd (upd H dd (.xd [(f,y)])) a (.frz oe u)) h ((.fz (.xv c f d),.ref a)::L):=by
  obtain ⟨ρ,M,cp,r⟩:=Cf.fz1.mp cf
  obtain ⟨cp1,_,r1,n1⟩:=cp.alloc (o:=.xd [(f,y)]) hd
  have ha2:upd H dd (.xd [(f,y)]) a=none:=by rw [upd_ne (Ne.symm hne)];exact ha
  obtain ⟨cp2,_,r2,n2⟩:=cp1.alloc (o:=.frz oe u) ha2
  have r3:=r2 [d] [y] (r1 [d] [y] (.one r))
  obtain ⟨v,l,ev,rd,_⟩:=r3
  cases ev
  exact Cf.fz1.mpr ⟨ρ,M,cp2,a,oe,u,dd,C,y,rfl,hE,upd_same,n2,e1,e2,e3,by rw [upd_ne hne,upd_same],n1,rd⟩
theorem xv_told {c f:Str} {C:Addr} {r:As} {σ:Sr} {H:Hp} {Q:VK} (hE:G.exc c=some (C,f)) (q:tE G W call (mXv c f r) σ H Q):tXv C f (tL G W call r) σ H Q:=by
  obtain ⟨st,Φ,cf,q⟩:=q
  refine ⟨st,Φ,cf,(Aft.bind q).mono fun ds s1 a1=>fun vs H1 l c1=>?_⟩
  match ds,a1,l,c1 with
  | [d],a1,l,c1=>
    match vs,l,c1 with
    | [y],_,c1=>
      refine ⟨y,rfl,fun a dd oe u ha hd hne e1 e2 e3=>?_⟩
      exact a1 (.ref a) _ ⟨c1.sl,fun i v hm=>c1.bo i v ((List.mem_cons.mp hm).elim (fun z=>nomatch z) fun z=>List.mem_append_right _ z),by
        have z:=c1.cf.perm (L':=(.fz d,y)::(slp s1.σ σ++ow Φ)) (List.perm_middle)
        exact (Cf.newXv hE z ha hd hne e1 e2 e3).perm List.perm_middle.symm⟩
  |[],a1,_,_=>exact a1.elim
  |_::_::_,a1,_,_=>exact a1.elim
theorem e_xv (g:Good G k call cc W X) {c f:Str} {e:Expr} {r:As} {p pos:Pos} (hc:(c,f)∈cc.exs) (hg:cc.sc.names.lookup c=some .globalImplicit) (h:PA X [e] (tL G W call r)) (hn:notStar e=true):
    PE X (.Call (.Name c p) [e] [] pos) (tE G W call (mXv c f r)):=by
  obtain ⟨C,hE⟩:=g.exs c f hc
  exact (pe_xv (p:=p) (pos:=pos) (g.xr c C f hE) (g.room.mono (by omega)) (g.gl hg) h (star_cons hn)).of fun σ H Q q=>xv_told hE q
theorem e_xvK (g:Good G k call cc W X) {c f:Str} {e:Expr} {m:E} {p kp pos:Pos} (hc:(c,f)∈cc.exs) (hg:cc.sc.names.lookup c=some .globalImplicit) (hk:PK X [⟨some f,e,kp⟩] (tL G W call (aCons m aNil))):
    PE X (.Call (.Name c p) [] [⟨some f,e,kp⟩] pos) (tE G W call (mXv c f (aCons m aNil))):=by
  obtain ⟨C,hE⟩:=g.exs c f hc
  exact (pe_xvK (p:=p) (pos:=pos) (g.xr c C f hE) (g.room.mono (by omega)) (g.gl hg) hk rfl rfl rfl).of fun σ H Q q=>xv_told hE q
end
end Mi
namespace Mi
open PySem PySem.Spec PyProof.Rows L2
noncomputable section
structure CE (cc:CC) (e:Expr) where
  m:E
  ok: ∀ G k call W X,Good G k call cc W X→PE X e (tE G W call m)
structure CB (cc:CC) (e:Expr) where
  m:B
  ok: ∀ G k call W X,Good G k call cc W X→PT X e (tB_ G W call m)
structure CA (cc:CC) (es:List Expr) where
  m:As
  ns:es.all notStar=true
  ln:lenA m es.length
  ok: ∀ G k call W X,Good G k call cc W X→PA X es (tL G W call m)
structure CI (cc:CC) (es:List Expr) where
  m:As
  ok: ∀ G k call W X,Good G k call cc W X→PA X es (tL G W call m)
structure CR (cc:CC) (es:List Expr) where
  m:AsR
  ns:es.all notStar=true
  ok: ∀ G k call W X,Good G k call cc W X→PA X es (tR G W call m)
structure CP (cc:CC) (e:Option Expr) where
  m:Pt
  ok: ∀ G k call W X,Good G k call cc W X→PO X e (tP G W call m)
structure CTg (cc:CC) (e:Expr) where
  m:Tg
  pl:plainT e=true
  ok: ∀ G k call W X,Good G k call cc W X→PG X e (tG G m)
structure CTs (cc:CC) (es:List Expr) where
  m:Tgs
  ms:List Tg
  pl:es.all plainT=true
  ln:es.length=ms.length
  ok: ∀ G k call W X,Good G k call cc W X→PGs X es (tGs G m)
  oks: ∀ G k call W X,Good G k call cc W X→PGs X es (tGsO G ms)
structure CGA (cc:CC) (vs:List Nat) (e:Expr) where
  m:Tg
  pl:plainT e=true
  ok: ∀ G k call W X,Good G k call cc W X→PG X e (tGA G vs m)
structure CGAs (cc:CC) (vs:List Nat) (es:List Expr) where
  m:Tgs
  pl:es.all plainT=true
  ok: ∀ G k call W X,Good G k call cc W X→PGs X es (tGAs G vs m)
structure CIv (cc:CC) (tg it:Expr) where
  m:Iv
  fs: ∀ env x,foldedSetIterable it env x=pure x
  ok: ∀ G k call W X,Good G k call cc W X→PI X tg it (tI G W call m)
structure CS (cc:CC) (st:Stmt) where
  m:C
  ok: ∀ G k call W X,Good G k call cc W X→PS X st (tS G W call m)
structure CSs (cc:CC) (st:List Stmt) where
  m:C
  ok: ∀ G k call W X,Good G k call cc W X→PSs X st (tS G W call m)
structure CF (cc:CC) (es:List Expr) where
  m:List E
  ok: ∀ G k call W X,Good G k call cc W X→FsOk G W call X es m
structure Tn where
  e: ∀ cc e,Option (CE cc e)
  b: ∀ cc e,Option (CB cc e)
  s: ∀ cc st,Option (CS cc st)
def idx (N:List Str) (x:Str):Nat:=N.findIdx (fun y=>decide (y=x))
def okName (x:Str):Bool:=!(x==("__debug__":Str))&&!(x==("__classdict__":Str))
def visB (sc:Scope) (x:Str):Bool:=match sc.names.lookup x with
  |some .local=>true
  |some .cell=>true
  |some .free=>true
  |_=>false
theorem vis_of {sc:Scope} {x:Str} (h:visB sc x=true):Vis sc x:=by
  unfold visB at h
  split at h
  · exact .inl (by assumption)
  · exact .inr (.inl (by assumption))
  · exact .inr (.inr (by assumption))
  · cases h
def glB (sc:Scope) (x:Str):Bool:=match sc.names.lookup x with
  |some .globalImplicit=>true
  |_=>false
theorem gl_of {sc:Scope} {x:Str} (h:glB sc x=true):sc.names.lookup x=some .globalImplicit:=by
  unfold glB at h
  split at h
  · assumption
  · cases h
def locB (sc:Scope) (x:Str):Bool:=match sc.names.lookup x with
  |some .local=>true
  |_=>false
theorem loc_of {sc:Scope} {x:Str} (h:locB sc x=true):sc.names.lookup x=some .local:=by
  unfold locB at h
  split at h
  · assumption
  · cases h
def celB (sc:Scope) (x:Str):Bool:=match sc.names.lookup x with
  |some .cell=>true
  |_=>false
theorem cel_of {sc:Scope} {x:Str} (h:celB sc x=true):sc.names.lookup x=some .cell:=by
  unfold celB at h
  split at h
  · assumption
  · cases h
theorem ok1 {x:Str} (h:okName x=true):(x==("__debug__":Str))=false:=by
  simp only [okName,Bool.and_eq_true,Bool.not_eq_true'] at h;exact h.1
theorem ok2 {x:Str} (h:okName x=true):(x==("__classdict__":Str))=false:=by
  simp only [okName,Bool.and_eq_true,Bool.not_eq_true'] at h;exact h.2
def tName (cc:CC) (x:Str) (pos:Pos):Option (CE cc (.Name x pos)):=
  if ho : okName x=true then
    if h:visB cc.sc x=true then
      (if h1:cc.N[idx cc.N x]?=some x then some ⟨mVar (idx cc.N x),fun G k call W X g=>e_var g.toGoodB h1 (vis_of h) (ok1 ho) (ok2 ho)⟩ else none)
    else if hg:glB cc.sc x=true then
      (match hc:cc.con x with
      | some d=>(match hs:simple d with
        |some v=>some ⟨mCon d,fun G k call W X g=>e_glo g.toGoodB (gl_of hg) hc hs (ok1 ho)⟩
        | none=>(match d,hc with
          | .tup ds,hc=>some ⟨mCon (.tup ds),fun G k call W X g=>e_gloT g.toGoodB (gl_of hg) hc (ok1 ho)⟩
          |_,_=>none))
      | none=>
        if h:x="str" then some ⟨mCon (.ty "str"),fun G k call W X g=>e_tyName g.toGoodB (by subst h;decide) (gl_of hg) (by subst h;decide+kernel) (by subst h;decide) (ok1 ho)⟩
        else if h:x="tuple" then some ⟨mCon (.ty "tuple"),fun G k call W X g=>e_tyName g.toGoodB (by subst h;decide) (gl_of hg) (by subst h;decide+kernel) (by subst h;decide) (ok1 ho)⟩
        else if h:x="list" then some ⟨mCon (.ty "list"),fun G k call W X g=>e_tyName g.toGoodB (by subst h;decide) (gl_of hg) (by subst h;decide+kernel) (by subst h;decide) (ok1 ho)⟩
        else if h:x="int" then some ⟨mCon (.ty "int"),fun G k call W X g=>e_tyName g.toGoodB (by subst h;decide) (gl_of hg) (by subst h;decide+kernel) (by subst h;decide) (ok1 ho)⟩
        else if h:x="bool" then some ⟨mCon (.ty "bool"),fun G k call W X g=>e_tyName g.toGoodB (by subst h;decide) (gl_of hg) (by subst h;decide+kernel) (by subst h;decide) (ok1 ho)⟩
        else if h:x="dict" then some ⟨mCon (.ty "dict"),fun G k call W X g=>e_tyName g.toGoodB (by subst h;decide) (gl_of hg) (by subst h;decide+kernel) (by subst h;decide) (ok1 ho)⟩
        else if h:x∈cc.fns then some ⟨mCon (.fn x),fun G k call W X g=>e_fnV g h (gl_of hg) (ok1 ho)⟩
        else none)
    else none
  else none
theorem len_nil:lenA aNil 0:=fun call s xs s' e=>by cases e;rfl
theorem len_cons {m:E} {r:As} {n:Nat} (h:lenA r n):lenA (aCons m r) (n+1):=fun call s xs s' e=>by
  unfold aCons at e
  cases e1:m call s with
  | ok x s1=>
    rw [e1] at e
    simp only [Out.bind_ok] at e
    cases e2:take s1 x with
    |none=>rw [e2] at e;cases e
    | some q=>
      obtain ⟨d,s2⟩:=q
      rw [e2] at e
      simp only at e
      cases e3:r call s2 with
      | ok ds s3=>
        rw [e3] at e
        cases e
        rw [List.length_cons,h _ _ _ _ e3]
      |exc c d s3=>rw [e3] at e;cases e
      |bad=>rw [e3] at e;cases e
  |exc c d s1=>rw [e1] at e;cases e
  |bad=>rw [e1] at e;cases e
def tA (T:Tn) (cc:CC):(es:List Expr)→Option (CA cc es)
  |[]=>some ⟨aNil,rfl,len_nil,fun _ _ _ _ _ _=>a_nil⟩
  | e ::es=>if hn:notStar e=true then
      (T.e cc e).bind fun a=>(tA T cc es).map fun r=>⟨aCons a.m r.m,by simp [hn,r.ns],len_cons r.ln,fun G k call W X g=>a_cons (a.ok G k call W X g) (r.ok G k call W X g) hn⟩
    else none
def tItems (T:Tn) (cc:CC):(es:List Expr)→Option (CI cc es)
  |[]=>some ⟨aNil,fun _ _ _ _ _ _=>a_nil⟩
  | .Starred (.Call (.Attribute e mt apos) [] [] cpos) p::es=>if h:mt="values"∧plainO e=true∧(apos.endLine==cpos.line)=true then
      (T.e cc e).bind fun a=>(tItems T cc es).bind fun r=>none
    else (T.e cc (.Call (.Attribute e mt apos) [] [] cpos)).bind fun a=>(tItems T cc es).bind fun r=>none
  | .Starred e p::es=>(T.e cc e).bind fun a=>(tItems T cc es).bind fun r=>none
  | e ::es=>if hn:notStar e=true then
      (T.e cc e).bind fun a=>(tItems T cc es).map fun r=>⟨aCons a.m r.m,fun G k call W X g=>a_cons (a.ok G k call W X g) (r.ok G k call W X g) hn⟩
    else none
def tR_ (T:Tn) (cc:CC):(es:List Expr)→Option (CR cc es)
  |[]=>some ⟨rNil,rfl,fun _ _ _ _ _ _=>r_nil⟩
  | e ::es=>if hn:notStar e=true then
      (T.e cc e).bind fun a=>(tR_ T cc es).map fun r=>⟨rCons a.m r.m,by simp [hn,r.ns],fun G k call W X g=>r_cons (a.ok G k call W X g) (r.ok G k call W X g) hn⟩
    else none
def tAndE (T:Tn) (cc:CC) (pos:Pos):(es:List Expr)→Option (CE cc (.BoolOp .And es pos))
  |[]=>none
  |[a]=>(T.e cc a).map fun c=>⟨c.m,fun G k call W X g=>pe_one (c.ok G k call W X g)⟩
  |a::b::r=>(T.e cc a).bind fun c=>(tAndE T cc pos (b::r)).bind fun d=>none
def tOrE (T:Tn) (cc:CC) (pos:Pos):(es:List Expr)→Option (CE cc (.BoolOp .Or es pos))
  |[]=>none
  |[a]=>(T.e cc a).map fun c=>⟨c.m,fun G k call W X g=>pe_one (c.ok G k call W X g)⟩
  |a::b::r=>(T.e cc a).bind fun c=>(tOrE T cc pos (b::r)).bind fun d=>none
structure CW (cc:CC) (e:Expr) where
  m:B
  ok: ∀ G k call W X,Good G k call cc W X→PW X e (tB_ G W call m)
def tAndB (T:Tn) (cc:CC) (pos:Pos):(es:List Expr)→Option (CW cc (.BoolOp .And es pos))
  |[]=>none
  |[a]=>(T.b cc a).map fun c=>⟨c.m,fun G k call W X g=>w_and1 (c.ok G k call W X g)⟩
  |a::b::r=>(T.b cc a).bind fun c=>(tAndB T cc pos (b::r)).bind fun d=>none
def tOrB (T:Tn) (cc:CC) (pos:Pos):(es:List Expr)→Option (CW cc (.BoolOp .Or es pos))
  |[]=>none
  |[a]=>(T.b cc a).map fun c=>⟨c.m,fun G k call W X g=>w_or1 (c.ok G k call W X g)⟩
  |a::b::r=>(T.b cc a).bind fun c=>(tOrB T cc pos (b::r)).map fun d=>⟨bOr c.m d.m,fun G k call W X g=>w_or (c.ok G k call W X g) (d.ok G k call W X g)⟩
structure OB (b:Bool) (op:Operator) where
  f:D→D→Option O
  ok: ∀ (G:GE) (X:Cx),X.K=G.K→G.bare=b→OpR X (binaryOp op) (r2 G f)
def tOp2:(b:Bool)→(op:Operator)→Option (OB b op)
  |false,.Add=>some ⟨addD,fun _ _ h hb=>o_add h hb⟩
  |true,.Add=>none
  |_,.Sub=>none
  |false,.Mult=>some ⟨mulX,fun _ _ h hb=>o_or o_mul (o_mulT h hb)⟩
  |true,.Mult=>none
  |_,.Mod=>some ⟨modD,fun _ _ _ _=>o_mod⟩
  |_,.FloorDiv=>some ⟨fdivD,fun _ _ _ _=>o_fdiv⟩
  |_,.Pow=>some ⟨powD,fun _ _ _ _=>o_pow⟩
  |_,_=>none
structure OC (op:CmpOp) where
  f:D→D→Option O
  ok: ∀ (G:GE) (cc:CC) (X:Cx),GoodB G cc X→OpR X (compareOp op) (r2 G f)
def tCmp2:(op:CmpOp)→Option (OC op)
  | .Lt=>some ⟨ltD,fun _ _ _ _=>o_lt⟩
  | .LtE=>none
  | .Gt=>some ⟨gtD,fun _ _ _ _=>o_gt⟩
  | .GtE=>some ⟨geD,fun _ _ _ _=>o_ge⟩
  | .Eq=>some ⟨eqX,fun _ _ _ g=>o_eqX g⟩
  | .NotEq=>some ⟨neX,fun _ _ _ g=>o_neX g⟩
  | .In=>some ⟨inX,fun _ _ _ g=>o_inX g⟩
  | .NotIn=>none
  | .Is=>none
  | .IsNot=>none
structure OCs (cc:CC) (op:CmpOp) where
  f:Call→S→R→R→Out R
  ok: ∀ G k call W X,Good G k call cc W X→OpS X (compareOp op) (rB G W call f)
def strB (cc:CC) (b:Bool):Bool:=b&&decide (("+str":Str)∈cc.cells)
def isLV:Expr→Bool
  | .Name x _=>x=="_law_value"||x=="_law_value_here"
  | .Call (.Name f _) _ _ _=>f=="_law_draw"
  |_=>false
def isLO:Expr→Bool
  | .Name x _=>x=="_law_operation"
  | .BinOp (.Name x _) _ _ _=>x=="_law_operation"
  | .BinOp (.BinOp (.Name x _) _ _ _) _ _ _=>x=="_law_operation"
  |_=>false
def tOp3 (cc:CC) (b:Bool) (op:Operator):Option (OB cc.bare op):=
  if h:cc.bare=false∧strB cc b=true then
    (match op with
    | .Add=>none
    |op=>tOp2 cc.bare op)
  else tOp2 cc.bare op
structure BF (x:Str) where
  f:List D→Option O
  ok: ∀ G k call cc W X,Good G k call cc W X→cc.sc.names.lookup x=some .globalImplicit→∀ e es r p pos,PA X (e::es) (tR G W call r)→(e::es).all notStar=true→PE X (.Call (.Name x p) (e::es) [] pos) (tE G W call (mBlt f r))
def bfOf (sx:Bool) (x:Str):Option (BF x):=
  if h:sx=true∧x="str" then none
  else if h:x="len" then some ⟨lenX,fun G k call cc W X g hl e es r p pos ha hn=>by subst h;exact e_blt g.toGoodB (b_or (b_len g.K) b_dlen) (by decide) hl PySem.boot_len ha hn (by decide) (by decide)⟩
  else if h:x="abs" then some ⟨absD,fun G k call cc W X g hl e es r p pos ha hn=>by subst h;exact e_blt g.toGoodB b_abs (by decide) hl (by decide+kernel) ha hn (by decide) (by decide)⟩
  else if h:x="max" then some ⟨maxD,fun G k call cc W X g hl e es r p pos ha hn=>by subst h;exact e_blt g.toGoodB (b_max g.calm) (by decide) hl (by decide+kernel) ha hn (by decide) (by decide)⟩
  else if h:x="min" then some ⟨minD,fun G k call cc W X g hl e es r p pos ha hn=>by subst h;exact e_blt g.toGoodB (b_min g.calm) (by decide) hl (by decide+kernel) ha hn (by decide) (by decide)⟩
  else if h:x="sum" then some ⟨sumD,fun G k call cc W X g hl e es r p pos ha hn=>by subst h;exact e_blt g.toGoodB (b_sum g.K g.calm) (by decide) hl (by decide+kernel) ha hn (by decide) (by decide)⟩
  else if h:x="all" then none
  else if h:x="isinstance" then none
  else if h:x="int" then some ⟨intD,fun G k call cc W X g hl e es r p pos ha hn=>by subst h;exact e_ty g.toGoodB b_int (by decide) hl (by decide+kernel) ha hn (by decide) (by decide)⟩
  else if h:x="list" then none
  else if h:x="dict" then none
  else if h:x="str" then none
  else if h:x="sorted" then none
  else if h:x="repr" then some ⟨reprD,fun G k call cc W X g hl e es r p pos ha hn=>by subst h;exact e_blt g.toGoodB (b_repr g.K g.units g.gd) (by decide) hl (by decide+kernel) ha hn (by decide) (by decide)⟩
  else if h:x="tuple" then none
  else none
def isInsE (cc:CC):Expr→Bool
  | .Name x _=>decide (x∈cc.insN)
  | .Attribute _ f _=>decide (f∈cc.insN)
  | .Call (.Name c _) _ [] _=>decide (c∈cc.news)
  | .Call (.Attribute _ m _) _ [] _=>decide (m∈cc.insN)
  | .BinOp (.Name x _) .BitOr _ _=>decide (x∈cc.insN)
  | .BinOp (.Name x _) .BitAnd _ _=>decide (x∈cc.insN)
  |_=>false
def isShB:Expr→Bool
  | .List [.Constant (.str a) _ _,.Name x _] _=>decide (a="shown")&&decide (x="_law_bare")
  |_=>false
def tCmpL (b:Expr):(op:CmpOp)→Option (OC op)
  | .NotEq=>if isShB b=true then none else tCmp2 .NotEq
  |op=>tCmp2 op
def tCmpI (cc:CC) (a b:Expr):(op:CmpOp)→Option (OCs cc op)
  | .In=>if h:isInsE cc b=true∧(("__contains__":Str),1)∈cc.mns then none else none
  | .NotIn=>if h:isInsE cc b=true∧(("__contains__":Str),1)∈cc.mns then none else none
  | .Eq=>if h:isInsE cc a=true∧(("__eq__":Str),1)∈cc.mns then none else none
  | .NotEq=>if h:isInsE cc a=true∧(("__eq__":Str),1)∈cc.mns then none else none
  | .LtE=>if h:isInsE cc a=true∧(("__le__":Str),1)∈cc.mns then none else none
  |_=>none
structure OBs (cc:CC) (op:Operator) where
  f:Call→S→R→R→Out R
  ok: ∀ G k call W X,Good G k call cc W X→OpS X (binaryOp op) (rB G W call f)
def tBinI (cc:CC) (a:Expr):(op:Operator)→Option (OBs cc op)
  | .BitOr=>if h:isInsE cc a=true∧(("__or__":Str),1)∈cc.mns then none else none
  | .BitAnd=>if h:isInsE cc a=true∧(("__and__":Str),1)∈cc.mns then none else none
  | .Add=>if h:isInsE cc a=true∧(("__add__":Str),1)∈cc.mns∧cc.bare=false then none else none
  |_=>none
def tNew (T:Tn) (cc:CC) (f:Str) (p pos:Pos):(es:List Expr)→Option (CE cc (.Call (.Name f p) es [] pos))
  |[]=>if h:(f∈cc.news∧glB cc.sc f=true∧okName f=true∧(mkey f "__init__",1,[])∈cc.shp) then
      none else none
  | e ::es=>if h:(f∈cc.news∧glB cc.sc f=true∧okName f=true∧(mkey f "__init__",es.length+2,[])∈cc.shp) then
      (tA T cc (e::es)).bind fun r=>none else none
theorem pk_one {X:Cx} {G:GE} {W:WX} {call:Call} {n:Option Str} {e:Expr} {m:E} {kp:Pos} (h:PE X e (tE G W call m)):PK X [⟨n,e,kp⟩] (tL G W call (aCons m aNil)):=
  ⟨fun pos pins s σ H Q I q=>(pk_cons h pk_nil).run pos pins s σ H Q I (by
    obtain ⟨s,Φ,c,a⟩:=q
    refine ⟨s,Φ,c,(Aft.bind a).mono fun x s1 a1=>fun v H1 c1=>?_⟩
    split at a1
    · rename_i d s2 et
      exact a1 [v] H1 rfl (c1.take et)
    · exact a1.elim)⟩
def excF (xs:List (Str×Str)) (c:Str):Option Str:=(xs.find? fun p=>decide (p.1=c)).map (·.2)
theorem excF_mem {xs:List (Str×Str)} {c f:Str} (h:excF xs c=some f):(c,f)∈xs:=by
  simp only [excF,Option.map_eq_some_iff] at h
  obtain ⟨p,hp,e⟩:=h
  have h1:=List.mem_of_find?_eq_some hp
  have h2:p.1=c:=by simpa using List.find?_some hp
  obtain ⟨a,b⟩:=p
  simp only at h2 e
  subst h2;subst e
  exact h1
def tXvP (T:Tn) (cc:CC) (f:Str) (p pos:Pos):(es:List Expr)→Option (CE cc (.Call (.Name f p) es [] pos))
  | [e]=>match hf:excF cc.exs f with
    |some fl=>if h:glB cc.sc f=true∧notStar e=true then (tA T cc [e]).map fun r=>⟨mXv f fl r.m,fun G k call W X g=>e_xv g (excF_mem hf) (gl_of h.1) (r.ok G k call W X g) h.2⟩ else none
    |none=>none
  |_=>none
def tXvK (T:Tn) (cc:CC) (f:Str) (p pos:Pos) (n:Str) (ke:Expr) (kp:Pos):Option (CE cc (.Call (.Name f p) [] [⟨some n,ke,kp⟩] pos)):=match hf:excF cc.exs f with
  |some fl=>if h:fl=n∧glB cc.sc f=true then (T.e cc ke).map fun v=>⟨mXv f fl (aCons v.m aNil),fun G k call W X g=>by
      obtain ⟨h1,h2⟩:=h
      subst h1
      exact e_xvK g (excF_mem hf) (gl_of h2) (pk_one (v.ok G k call W X g))⟩ else none
  |none=>none
def tNewR (T:Tn) (cc:CC):(e:Expr)→Option (CE cc e)
  | .Call (.Name f p) (e::es) [] pos=>if h:(f∈cc.news∧glB cc.sc f=true∧okName f=true∧(mkey f "__init__",es.length+2,[])∈cc.shp) then
      (tA T cc (e::es)).bind fun r=>none else none
  |_=>none
def tNewK (T:Tn) (cc:CC) (f:Str) (p pos:Pos) (n:Str) (ke:Expr) (kp:Pos):(es:List Expr)→Option (CE cc (.Call (.Name f p) es [⟨some n,ke,kp⟩] pos))
  |[]=>tXvK T cc f p pos n ke kp
  | e ::es=>if h:(f∈cc.news∧glB cc.sc f=true∧okName f=true∧(mkey f "__init__",es.length+2,[n])∈cc.shp) then
      (tA T cc (e::es)).bind fun r=>(T.e cc ke).bind fun v=>none else none
def tCall (T:Tn) (cc:CC) (f:Str) (p:Pos) (pos:Pos):(es:List Expr)→Option (CE cc (.Call (.Name f p) es [] pos))
  |[]=>tNew T cc f p pos []
  | e ::es=>if hg:glB cc.sc f=true then
      (if hf:f∈cc.fns then
        (if ho:okName f=true∧(f,es.length+1,[])∈cc.shp then (tA T cc (e::es)).map fun r=>if f∈cc.cells then ⟨mCell (mCall f r.m),fun G k call W X g=>e_cell (e_call g hf ho.2 (gl_of hg) (r.ok G k call W X g) r.ln r.ns (ok1 ho.1))⟩ else ⟨mCall f r.m,fun G k call W X g=>e_call g hf ho.2 (gl_of hg) (r.ok G k call W X g) r.ln r.ns (ok1 ho.1)⟩ else none)
      else if hw:f∈cc.news then tNew T cc f p pos (e::es)
      else if hl:f="len"∧es=[]∧isInsE cc e=true∧(("__len__":Str),0)∈cc.mns∧notStar e=true then
        (T.e cc e).bind fun a=>none
      else if (excF cc.exs f).isSome=true then tXvP T cc f p pos (e::es)
      else (bfOf (strB cc (isLV e)) f).bind fun b=>(tR_ T cc (e::es)).map fun r=>⟨mBlt b.f r.m,fun G k call W X g=>b.ok G k call cc W X g (gl_of hg) e es r.m p pos (r.ok G k call W X g) r.ns⟩)
    else none
def tTgN (cc:CC) (x:Str) (pos:Pos):Option (CTg cc (.Name x pos)):=
  if h1:cc.N[idx cc.N x]?=some x then
    (if hl:locB cc.sc x=true then some ⟨gN (idx cc.N x),rfl,fun G k call W X g=>g_name g h1 (.inl (loc_of hl))⟩
    else if hc:(celB cc.sc x&&cc.top)=true then some ⟨gN (idx cc.N x),rfl,fun G k call W X g=>g_name g h1 (.inr ⟨(Bool.and_eq_true_iff.mp hc).2,cel_of (Bool.and_eq_true_iff.mp hc).1⟩)⟩
    else none)
  else none
def tTgs (cc:CC):(es:List Expr)→Option (CTs cc es)
  |[]=>some ⟨gsNil,[],rfl,rfl,fun _ _ _ _ _ _=>gs_nil,fun _ _ _ _ _ _=>gso_nil⟩
  | .Name x pos::es=>(tTgN cc x pos).bind fun a=>(tTgs cc es).map fun r=>⟨gsCons a.m r.m,a.m::r.ms,by simp [a.pl,r.pl],by simp [r.ln],fun G k call W X g=>gs_cons (a.ok G k call W X g) (r.ok G k call W X g) a.pl,fun G k call W X g=>gso_cons (a.ok G k call W X g) (r.oks G k call W X g) a.pl⟩
  |_=>none
def tTg (cc:CC):(e:Expr)→Option (CTg cc e)
  | .Name x pos=>tTgN cc x pos
  | .Tuple es n pos=>(tTgs cc es).map fun r=>⟨gT es.length r.m,rfl,fun G k call W X g=>g_tup g (r.ok G k call W X g) r.pl⟩
  |_=>none
def tGaN (cc:CC) (vs:List Nat) (x:Str) (pos:Pos):Option (CGA cc vs (.Name x pos)):=
  if h1:cc.N[idx cc.N x]?=some x then
    (if hl:locB cc.sc x=true then (if hv:idx cc.N x∈vs then some ⟨gN (idx cc.N x),rfl,fun G k call W X g=>ga_name g h1 (loc_of hl) hv⟩ else none) else none)
  else none
def tGas (cc:CC) (vs:List Nat):(es:List Expr)→Option (CGAs cc vs es)
  |[]=>some ⟨gsNil,rfl,fun _ _ _ _ _ _=>gas_nil⟩
  | .Name x pos::es=>(tGaN cc vs x pos).bind fun a=>(tGas cc vs es).map fun r=>⟨gsCons a.m r.m,by simp [a.pl,r.pl],fun G k call W X g=>gas_cons (a.ok G k call W X g) (r.ok G k call W X g) a.pl⟩
  |_=>none
def tGa (cc:CC) (vs:List Nat):(e:Expr)→Option (CGA cc vs e)
  | .Name x pos=>tGaN cc vs x pos
  | .Tuple es n pos=>(tGas cc vs es).map fun r=>⟨gT es.length r.m,rfl,fun G k call W X g=>ga_tup g (r.ok G k call W X g) r.pl⟩
  |_=>none
def namesOf:Expr→List Str
  | .Name x _=>[x]
  | .Tuple es _ _=>es.filterMap fun e=>match e with| .Name x _=>some x|_=>none
  |_=>[]
def noSet:Expr→Bool
  | .Set .. =>false
  |_=>true
theorem fs_ok {it:Expr} (h:noSet it=true) (env:Env) (x:Value):foldedSetIterable it env x=pure x:=by
  unfold foldedSetIterable
  split
  · cases h
  · rfl
def dkN:List Str:=["_law_row_here"]
def isDk:Expr→Bool
  | .Name x _=>dkN.contains x
  |_=>false
def isDz (x:Str):Expr→Bool
  | .Tuple [.Name y _,.Name _ _] _ _=>x=="found"&&y=="operation"
  |_=>false
def codeX:Expr→Bool
  | .Subscript (.Name x _) _ _=>decide (x="_law_code_here")
  |_=>false
def frzW:List Str:=["_law_front","_law_rear","_law_values"]
def tIv (T:Tn) (cc:CC) (tg:Expr):(it:Expr)→Option (CIv cc tg it)
  | .Call (.Name f p) args [] pos=>
    if h:f="range"∧glB cc.sc "range"=true then
      (match args with
      |[a]=>(tR_ T cc [a]).map fun r=>⟨iRg1 r.m,fun env x=>rfl,fun G k call W X g=>by rw [h.1];exact i_range1 g (gl_of h.2) (r.ok G k call W X g) (by simpa using r.ns)⟩
      |[a,b]=>(tR_ T cc [a,b]).bind fun r=>none
      |_=>none)
    else if h:f="enumerate"∧glB cc.sc "enumerate"=true then
      (match args,tg with
      | [a],.Tuple elts kk tpos=>(tA T cc [a]).map fun r=>if hb:cc.bare=false then ⟨iEn r.m,fun env x=>rfl,fun G k call W X g=>by rw [h.1];exact i_enum g (g.bare.trans hb) (gl_of h.2) (r.ok G k call W X g) (by simpa using r.ns)⟩
        else ⟨iEnB r.m,fun env x=>rfl,fun G k call W X g=>by rw [h.1];exact i_enumB g (gl_of h.2) (r.ok G k call W X g) (by simpa using r.ns)⟩
      |_,_=>none)
    else if h:f="zip"∧glB cc.sc "zip"=true∧cc.bare=false then
      (match args,tg with
      |[a,b],.Tuple elts kk tpos=>(tA T cc [a,b]).bind fun r=>none
      |_,_=>none)
    else if h:f="dict"∧glB cc.sc "dict"=true∧isDk tg=true then
      (match args with
      | [a]=>if hs:notStar a=true then (T.e cc (.Call (.Name f p) [a] [] pos)).bind fun m0=>(T.e cc a).bind fun m1=>none
        else none
      |_=>none)
    else (T.e cc (.Call (.Name f p) args [] pos)).map fun a=>⟨iAny a.m,fun env x=>rfl,fun G k call W X g=>i_any g (a.ok G k call W X g)⟩
  | .Call (.Attribute o m apos) [] [] cpos=>if h:m="values"∧plainO o=true∧(apos.endLine==cpos.line)=true then
      (T.e cc o).bind fun a=>none
    else if h:m="items"∧cc.bare=false∧plainO o=true∧(apos.endLine==cpos.line)=true then
      (match tg with
      | .Tuple elts kk tpos=>(T.e cc o).bind fun a=>none
      |_=>none)
    else (T.e cc (.Call (.Attribute o m apos) [] [] cpos)).map fun a=>⟨iAny a.m,fun env x=>rfl,fun G k call W X g=>i_any g (a.ok G k call W X g)⟩
  | .Name x p=>if isDz x tg=true then (T.e cc (.Name x p)).bind fun a=>none
    else if frzW.contains x=true then (T.e cc (.Name x p)).bind fun a=>none
    else (T.e cc (.Name x p)).map fun a=>⟨iAny a.m,fs_ok rfl,fun G k call W X g=>i_any g (a.ok G k call W X g)⟩
  | it=>if hs:noSet it=true then (if codeX it=true then (T.e cc it).bind fun a=>none
    else (T.e cc it).map fun a=>⟨iAny a.m,fs_ok hs,fun G k call W X g=>i_any g (a.ok G k call W X g)⟩) else none
def CC.blk (cc:CC) (scope:Scope):CC:={cc with sc:=relS scope cc.sc,top:=false}
theorem good_blk {G:GE} {k:Nat} {call:Call} {cc:CC} {W:WX} {X:Cx} (g:Good G k call cc W X) (scope:Scope) (s:Shared) (H:Hp) (C:Addr) (cl:List (Str×Addr)) (fp:List Addr):
    Good G k call (cc.blk scope) noW (X.blk s H scope (compEnvC scope cl C X.env) fp) where
  N:=g.N
  bare:=g.bare
  nd:=g.nd
  sc:=by show relS scope X.env.scope=relS scope cc.sc;rw [g.sc]
  K:=g.K
  units:=g.units
  wd:=g.wd
  gd:=g.gd
  blt:=g.blt
  con:=g.con
  conT:=g.conT
  exs:=g.exs
  xr:=g.xr
  sub:=g.sub
  cls:=g.cls
  fld:=g.fld
  clb:=g.clb
  ceq:=g.ceq
  isx:=g.isx
  opx:=g.opx
  fnx:=g.fnx
  cur:=fun a a' C e=>by rw [g.cold] at e;cases e
  calm:=g.calm
  cold:=g.cold
  tk:=takes0
  room:=g.room
  fn:=fun h=>nomatch h
  po:=PassesOwn.never
  stk:=fun h=>nomatch h
  fns:=g.fns
  news:=g.news
  mths:=g.mths
  sts:=g.sts
structure CTt (cc:CC) (es:List Expr) where
  m:B
  ok: ∀ G k call W X,Good G k call cc W X→PTs X es (tB_ G W call m)
theorem b_yes {G:GE} {W:WX} {call:Call} {X:Cx}:PTs X [] (tB_ G W call bYes):=⟨fun pins s σ H Q I q=>pts_nil.run pins s σ H Q I (by obtain ⟨s,Φ,c,a⟩:=q;exact a H c)⟩
def tTt (T:Tn) (cc:CC):(es:List Expr)→Option (CTt cc es)
  |[]=>some ⟨bYes,fun _ _ _ _ _ _=>b_yes⟩
  |[e]=>(T.b cc e).map fun c=>⟨c.m,fun G k call W X g=>pts_one (c.ok G k call W X g)⟩
  |_=>none
def outX (cc:CC):Expr→Bool
  | .Call (.Name f _) _ _ _=>cc.top&&decide ((("~":Str)++f)∈cc.cells)
  |_=>false
def tLc (T:Tn) (cc:CC) (elt tg it:Expr) (ifs:List Expr) (scope:Scope) (pos:Pos):Option (CE cc (.ListComp elt [⟨tg,it,ifs,0⟩] scope pos)):=
  let own:List (Str×Nat):=(namesOf tg).map fun x=>(x,idx cc.N x)
  if hb:blkC cc.N cc.sc scope own=true then
    (tIv T cc tg it).bind fun i=>(tGa (cc.blk scope) (own.map (·.2)) tg).bind fun t=>(tTt T (cc.blk scope) ifs).bind fun c=>(T.e (cc.blk scope) elt).bind fun e=>if hx:outX cc elt=true then
      none
    else some
      ⟨mLc i.m t.m c.m e.m (own.map (·.2)),fun G k call W X g=>e_lc g (i.ok G k call W X g) (blkOk_by hb) (fun s H C cl fp=>t.ok _ _ _ _ _ (good_blk g scope s H C cl fp)) (fun s H C cl fp=>c.ok _ _ _ _ _ (good_blk g scope s H C cl fp)) (fun s H C cl fp=>e.ok _ _ _ _ _ (good_blk g scope s H C cl fp)) (i.fs _)⟩
  else none
def tLc2 (T:Tn) (cc:CC) (elt tg it tg1 it1:Expr) (ifs ifs1:List Expr) (scope:Scope) (pos:Pos):Option (CE cc (.ListComp elt [⟨tg,it,ifs,0⟩,⟨tg1,it1,ifs1,0⟩] scope pos)):=
  let own:List (Str×Nat):=(namesOf tg++namesOf tg1).map fun x=>(x,idx cc.N x)
  let vs1:List Nat:=(namesOf tg1).map fun x=>idx cc.N x
  if hb :blkC cc.N cc.sc scope own=true∧(vs1.all fun i=>decide (i∈own.map (·.2)))=true then
    (tIv T cc tg it).bind fun i=>(tGa (cc.blk scope) (own.map (·.2)) tg).bind fun t=>(tTt T (cc.blk scope) ifs).bind fun c=>(tIv T (cc.blk scope) tg1 it1).bind fun i1=>(tGa (cc.blk scope) vs1 tg1).bind fun t1=>(tTt T (cc.blk scope) ifs1).bind fun c1=>(T.e (cc.blk scope) elt).map fun e=>
      ⟨mLc2 i.m t.m c.m i1.m t1.m c1.m e.m (own.map (·.2)) vs1,fun G k call W X g=>e_lc2 g (i.ok G k call W X g) (blkOk_by hb.1) (fun j hj=>by have:=List.all_eq_true.mp hb.2 j hj;exact of_decide_eq_true this)
        (fun s H C cl fp=>t.ok _ _ _ _ _ (good_blk g scope s H C cl fp)) (fun s H C cl fp=>c.ok _ _ _ _ _ (good_blk g scope s H C cl fp)) (fun s H C cl fp=>i1.ok _ _ _ _ _ (good_blk g scope s H C cl fp)) (fun s H C cl fp=>t1.ok _ _ _ _ _ (good_blk g scope s H C cl fp)) (fun s H C cl fp=>c1.ok _ _ _ _ _ (good_blk g scope s H C cl fp)) (fun s H C cl fp=>e.ok _ _ _ _ _ (good_blk g scope s H C cl fp)) (i.fs _) i1.fs⟩
  else none
def cellV:Expr→Bool
  | .List [] _=>true
  | .Call (.Name f _) _ _ _=>decide (f="list")
  |_=>false
def cellT (T:Tn):Tn:={T with e:=fun cc e=>(T.e cc e).map fun a=>⟨mCell a.m,fun G k call W X g=>e_cell (a.ok G k call W X g)⟩}
def tDc (T:Tn) (cc:CC) (kx vx tg it:Expr) (ifs:List Expr) (scope:Scope) (pos:Pos):Option (CE cc (.DictComp kx vx [⟨tg,it,ifs,0⟩] scope pos)):=
  let own:List (Str×Nat):=(namesOf tg).map fun x=>(x,idx cc.N x)
  if hb:blkC cc.N cc.sc scope own=true then
    (tIv T cc tg it).bind fun i=>(tGa (cc.blk scope) (own.map (·.2)) tg).bind fun t=>(tTt T (cc.blk scope) ifs).bind fun c=>(T.e (cc.blk scope) kx).bind fun a=>((if cellV vx then cellT T else T).e (cc.blk scope) vx).map fun b=>
      ⟨mDc i.m t.m c.m a.m b.m (own.map (·.2)),fun G k call W X g=>e_dc g (i.ok G k call W X g) (blkOk_by hb) (fun s H C cl fp=>t.ok _ _ _ _ _ (good_blk g scope s H C cl fp)) (fun s H C cl fp=>c.ok _ _ _ _ _ (good_blk g scope s H C cl fp)) (fun s H C cl fp=>a.ok _ _ _ _ _ (good_blk g scope s H C cl fp)) (fun s H C cl fp=>b.ok _ _ _ _ _ (good_blk g scope s H C cl fp)) (i.fs _)⟩
  else none
def tSts (T:Tn) (cc:CC) (f:Str) (p:Pos) (elt tg it:Expr) (ifs:List Expr) (scope:Scope) (spos pos:Pos):Option (CE cc (.Call (.Name f p) [.SetComp elt [⟨tg,it,ifs,0⟩] scope spos] [] pos)):=
  let own:List (Str×Nat):=(namesOf tg).map fun x=>(x,idx cc.N x)
  if hb :blkC cc.N cc.sc scope own=true∧f="sorted"∧glB cc.sc "sorted"=true then
    (tIv T cc tg it).bind fun i=>(tGa (cc.blk scope) (own.map (·.2)) tg).bind fun t=>(tTt T (cc.blk scope) ifs).bind fun c=>(T.e (cc.blk scope) elt).map fun e=>
      ⟨mSts i.m t.m c.m e.m (own.map (·.2)),fun G k call W X g=>by
        rw [hb.2.1]
        exact e_sts g (i.ok G k call W X g) (blkOk_by hb.1) (fun s H C cl fp=>t.ok _ _ _ _ _ (good_blk g scope s H C cl fp)) (fun s H C cl fp=>c.ok _ _ _ _ _ (good_blk g scope s H C cl fp)) (fun s H C cl fp=>e.ok _ _ _ _ _ (good_blk g scope s H C cl fp)) (i.fs _) (gl_of hb.2.2)⟩
  else none
def tStrK (T:Tn) (cc:CC) (f:Str) (p:Pos) (y:Str) (yp cp:Pos) (x:Str) (xp:Pos) (o:Expr) (a:Str) (ap:Pos) (scope:Scope) (pos:Pos):Option (CE cc (.ListComp (.Call (.Name f p) [.Name y yp] [] cp) [⟨.Name x xp,.Attribute o a ap,[],0⟩] scope pos)):=
  if h:f="str"∧x=y∧blkC cc.N cc.sc scope [(y,idx cc.N y)]=true∧cc.N[idx cc.N y]?=some y∧locB (relS scope cc.sc) y=true∧glB (relS scope cc.sc) "str"=true∧okName y=true then
    (T.e cc (.Attribute o a ap)).bind fun m=>none
  else none
def tStrN (T:Tn) (cc:CC) (f:Str) (p:Pos) (y:Str) (yp cp:Pos) (x:Str) (xp:Pos) (o:Str) (op:Pos) (scope:Scope) (pos:Pos):Option (CE cc (.ListComp (.Call (.Name f p) [.Name y yp] [] cp) [⟨.Name x xp,.Name o op,[],0⟩] scope pos)):=
  if h:o∈strN∧f="str"∧x=y∧blkC cc.N cc.sc scope [(y,idx cc.N y)]=true∧cc.N[idx cc.N y]?=some y∧locB (relS scope cc.sc) y=true∧glB (relS scope cc.sc) "str"=true∧okName y=true then
    (T.e cc (.Name o op)).bind fun m=>none
  else none
def pcB (cc:CC):Expr→Bool
  | .Name x _=>decide ((("%":Str)++x)∈cc.cells)
  |_=>false
def tStrS (T:Tn) (cc:CC) (f:Str) (p:Pos) (y:Str) (yp cp:Pos) (x:Str) (xp:Pos) (o:Expr) (i:Expr) (ap:Pos) (scope:Scope) (pos:Pos):Option (CE cc (.ListComp (.Call (.Name f p) [.Name y yp] [] cp) [⟨.Name x xp,.Subscript o i ap,[],0⟩] scope pos)):=
  if h:f="str"∧x=y∧blkC cc.N cc.sc scope [(y,idx cc.N y)]=true∧cc.N[idx cc.N y]?=some y∧locB (relS scope cc.sc) y=true∧glB (relS scope cc.sc) "str"=true∧okName y=true∧pcB cc o=true then
    (T.e cc (.Subscript o i ap)).bind fun m=>none
  else none
def tPart (T:Tn) (cc:CC):(e:Option Expr)→Option (CP cc e)
  |none=>some ⟨pNone,fun _ _ _ _ _ _=>p_none⟩
  |some e=>(T.e cc e).map fun c=>⟨pSome c.m,fun G k call W X g=>p_some (c.ok G k call W X g)⟩
def tCount (T:Tn) (cc:CC) (x:Expr) (name:Str) (p:Pos) (e:Expr) (pos:Pos):Option (CE cc (.Call (.Attribute x name p) [e] [] pos)):=
  if h:name="count"∧cc.bare=true then
    (if hc:(notStar e&&plainO x&&(p.endLine==pos.line))=true then
      (T.e cc x).bind fun a=>(T.e cc e).bind fun b=>none
    else none)
  else none
def isSome_:Option Expr→Bool
  |some _=>true
  |none=>false
def theKeys:List (Option Expr)→List Expr
  |some e::r=>e::theKeys r
  |none::r=>theKeys r
  |[]=>[]
structure CPs (cc:CC) (ks vs:List Expr) where
  ps:List (E×E)
  ok: ∀ G k call W X pos,Good G k call cc W X→PPs X pos (ks.map some) vs (ps.map fun p=>(tE G W call p.1,tE G W call p.2))
def hashK (cc:CC):Expr→Bool
  | .Constant (.str x) _ _=>decide ((("#":Str)++x)∈cc.cells)
  |_=>false
def tPs (T:Tn) (cc:CC):(ks vs:List Expr)→Option (CPs cc ks vs)
  |[],[]=>some ⟨[],fun _ _ _ _ _ _ _=>pps_nil⟩
  |k::ks,.Dict [] [] dp::vs=>(T.e cc k).bind fun a=>(tPs T cc ks vs).bind fun r=>none
  |k::ks,v::vs=>(T.e cc k).bind fun a=>(T.e cc v).bind fun b=>(tPs T cc ks vs).map fun r=>if hashK cc k=true then ⟨(a.m,mCell b.m)::r.ps,fun G k' call W X pos g=>pps_cons (a.ok G k' call W X g) (e_cell (b.ok G k' call W X g)) (r.ok G k' call W X pos g)⟩ else ⟨(a.m,b.m)::r.ps,fun G k' call W X pos g=>pps_cons (a.ok G k' call W X g) (b.ok G k' call W X g) (r.ok G k' call W X pos g)⟩
  |_,_=>none
def tDict (T:Tn) (cc:CC) (ks:List (Option Expr)) (vs:List Expr) (pos:Pos):Option (CE cc (.Dict ks vs pos)):=
  if h:ks.all isSome_=true∧(theKeys ks).length=vs.length∧theKeys ks≠[]∧(theKeys ks).length≤15 then
    (tPs T cc (theKeys ks) vs).bind fun r=>none
  else none
def tyOf (x:Str):Option String:=if x="str" then some "str" else if x="tuple" then some "tuple" else if x="list" then some "list" else if x="int" then some "int" else if x="bool" then some "bool" else if x="dict" then some "dict" else none
theorem tyOf_ok {x:Str} {t:String} (h:tyOf x=some t):x∈blts∧bootBuiltins x=some (.type t)∧x≠"__name__"∧(x==("__debug__":Str))=false:=by
  unfold tyOf at h
  repeat' (split at h)
  all_goals first|(cases h;done)|(rename_i hx;cases h;subst hx;exact ⟨by decide,by decide+kernel,by decide,by decide⟩)
structure CTy (cc:CC) (es:List Expr) where
  ts:List String
  ok:TyNames cc es ts
def tTys (cc:CC):(es:List Expr)→Option (CTy cc es)
  |[]=>some ⟨[],.nil⟩
  | .Name x p::es=>match hx:tyOf x with
    |some t=>if hg:glB cc.sc x=true then (tTys cc es).map fun r=>⟨t::r.ts,.cons (tyOf_ok hx).1 (gl_of hg) (tyOf_ok hx).2.1 (tyOf_ok hx).2.2.1 (tyOf_ok hx).2.2.2 r.ok⟩ else none
    |none=>none
  |_=>none
def tIso (T:Tn) (cc:CC) (f:Str) (p:Pos) (e:Expr) (nm:Str) (p2 pos:Pos):Option (CE cc (.Call (.Name f p) [e,.Name nm p2] [] pos)):=
  if h:f="isinstance"∧notStar e=true∧glB cc.sc "isinstance"=true∧nm∈cc.news∧glB cc.sc nm=true∧okName nm=true then
    (T.e cc e).bind fun a=>none
  else none
def tFs (T:Tn) (cc:CC):(es:List Expr)→Option (CF cc es)
  |[]=>some ⟨[],fun _ _ _ _ _ _=>fs_ok0⟩
  | .FormattedValue e c none pos::es=>if h:c= -1 then (T.e cc e).bind fun a=>(tFs T cc es).map fun r=>⟨a.m::r.m,fun G k call W X g=>by rw [h];exact fs_okF (a.ok G k call W X g) (r.ok G k call W X g)⟩ else none
  | .Constant (.str x) j pc::es=>(T.e cc (.Constant (.str x) j pc)).bind fun a=>(tFs T cc es).map fun r=>⟨a.m::r.m,fun G k call W X g=>fs_okT (a.ok G k call W X g) (r.ok G k call W X g)⟩
  |_=>none
def tIsxE (T:Tn) (cc:CC) (f:Str) (p:Pos) (e:Expr) (nm:Str) (p2 pos:Pos):Option (CE cc (.Call (.Name f p) [e,.Name nm p2] [] pos)):=
  if h:f="isinstance"∧(cc.isx.any fun t=>decide (t.2.1=nm))=true∧notStar e=true∧glB cc.sc "isinstance"=true∧glB cc.sc nm=true∧okName nm=true then
    (T.e cc e).map fun a=>⟨mOne (isxD cc.isx nm) a.m,fun G k call W X g=>by rw [h.1];exact e_isx g.toGoodB (a.ok G k call W X g) h.2.2.1 (gl_of h.2.2.2.1) (gl_of h.2.2.2.2.1) (ok1 h.2.2.2.2.2)⟩ else none
def tIsiT (T:Tn) (cc:CC) (p:Pos) (e:Expr) (es:List Expr) (n:Nat) (tp pos:Pos):Option (CE cc (.Call (.Name "isinstance" p) [e,.Tuple es n tp] [] pos)):=
  if h:notStar e=true∧glB cc.sc "isinstance"=true then
    (T.e cc e).bind fun a=>(tTys cc es).bind fun t=>if hl:t.ts.length≤1000 then none else none
  else none
def tMethE (T:Tn) (cc:CC) (o:Expr) (m:Str) (apos:Pos) (es:List Expr) (pos:Pos):Option (CE cc (.Call (.Attribute o m apos) es [] pos)):=
  if h:(m,es.length)∈cc.mns∧fewB es.length=true∧plainO o=true∧(apos.endLine==pos.line)=true then
    (match es,h with
    |[],h=>(T.e cc o).bind fun a=>none
    |e::es,h=>(T.e cc o).bind fun a=>(tA T cc (e::es)).bind fun r=>none)
  else none
def tSm (T:Tn) (cc:CC) (c:Str) (q:Pos) (m:Str) (p:Pos) (e:Expr) (es:List Expr) (pos:Pos):Option (CE cc (.Call (.Attribute (.Name c q) m p) (e::es) [] pos)):=
  if h:(c,m)∈cc.sts∧(mkey c m,es.length+1,[])∈cc.shp∧glB cc.sc c=true∧okName c=true∧fewB (e::es).length=true∧(p.endLine==pos.line)=true then
    (tA T cc (e::es)).map fun r=>⟨mCall (mkey c m) r.m,fun G k call W X g=>by
      obtain ⟨C,P,a,fd,ps,h1,h2,h3,F,hb⟩:=g.sts c m h.1
      exact e_sm g h1 h2 h3 F (hb _ _ h.2.1) (gl_of h.2.2.1) (r.ok G k call W X g) r.ln r.ns h.2.2.2.2.1 h.2.2.2.2.2 (ok1 h.2.2.2.1)⟩
  else none
def tPop0 (T:Tn) (cc:CC) (x:Expr) (name:Str) (p:Pos) (e:Expr) (pos:Pos):Option (CE cc (.Call (.Attribute x name p) [e] [] pos)):=match e with
  | .Constant (.int 0) j p0=>if h:name="pop"∧plainO x=true∧(p.endLine==pos.line)=true then (T.e cc x).bind fun a=>none else none
  |_=>none
def tListIt (T:Tn) (cc:CC) (f:Str) (p:Pos) (o:Expr) (m:Str) (apos cpos pos:Pos):Option (CE cc (.Call (.Name f p) [.Call (.Attribute o m apos) [] [] cpos] [] pos)):=
  if h:f="list"∧m="items"∧cc.bare=false∧glB cc.sc "list"=true∧plainO o=true∧(apos.endLine==cpos.line)=true then
    (T.e cc o).bind fun a=>none
  else if h:f="list"∧m="values"∧glB cc.sc "list"=true∧plainO o=true∧(apos.endLine==cpos.line)=true then
    (T.e cc o).bind fun a=>none
  else none
def tLRg (T:Tn) (cc:CC) (f:Str) (p:Pos) (r:Str) (p2:Pos) (a:Expr) (pos2 pos:Pos):Option (CE cc (.Call (.Name f p) [.Call (.Name r p2) [a] [] pos2] [] pos)):=
  if h:f="list"∧r="range"∧notStar a=true∧glB cc.sc "list"=true∧glB cc.sc "range"=true then
    (T.e cc a).bind fun x=>none
  else if h:f="tuple"∧r="range"∧notStar a=true∧glB cc.sc "tuple"=true∧glB cc.sc "range"=true∧cc.bare=false then
    (T.e cc a).map fun x=>⟨mOne rngT x.m,fun G k call W X g=>by
      obtain ⟨rfl,rfl,h3,h4,h5,h6⟩:=h
      exact e_trg (g.bare.trans h6) g.calm (g.gl (gl_of h4)) (g.blt "tuple" (by decide)) (g.gl (gl_of h5)) (g.blt "range" (by decide)) (x.ok G k call W X g) h3⟩
  else none
def tDictZ (T:Tn) (cc:CC) (f:Str) (p:Pos) (r:Str) (p2:Pos) (a b:Expr) (pos2 pos:Pos):Option (CE cc (.Call (.Name f p) [.Call (.Name r p2) [a,b] [] pos2] [] pos)):=
  if h:f="dict"∧r="zip"∧glB cc.sc "dict"=true∧glB cc.sc "zip"=true∧[a,b].all notStar=true then
    (tR_ T cc [a,b]).bind fun x=>none
  else none
def tJoin (T:Tn) (cc:CC) (x:Expr) (name:Str) (p:Pos) (e:Expr) (pos:Pos):Option (CE cc (.Call (.Attribute x name p) [e] [] pos)):=match x with
  | .Constant (.str a) j pc=>if h:name="join"∧notStar e=true∧(p.endLine==pos.line)=true then (T.e cc e).bind fun m=>none else none
  |_=>none
def tCallI (T:Tn) (cc:CC) (f:Str) (p pos:Pos):(es:List Expr)→Option (CE cc (.Call (.Name f p) es [] pos))
  |[]=>none
  |e::es=>if h:isInsE cc (.Name f p)=true∧visB cc.sc f=true∧((Str.ofString "__call__"),es.length+1)∈cc.mns then (T.e cc (.Name f p)).bind fun a=>(tA T cc (e::es)).bind fun r=>none else none
def fnVs (cc:CC) (n:Nat):List Str:=cc.fns.filter fun f=>decide ((("&":Str)++f)∈cc.cells)&&decide ((f,n,([]:List Str))∈cc.shp)
def tCallF (T:Tn) (cc:CC) (f:Str) (p pos:Pos):(es:List Expr)→Option (CE cc (.Call (.Name f p) es [] pos))
  |[]=>none
  |e::es=>if visB cc.sc f=true∧(fnVs cc (es.length+1)).isEmpty=false then (T.e cc (.Name f p)).bind fun a=>(tA T cc (e::es)).bind fun r=>none else none
def tMethF (T:Tn) (cc:CC) (o:Expr) (m:Str) (apos:Pos) (es:List Expr) (pos:Pos):Option (CE cc (.Call (.Attribute o m apos) es [] pos)):=match es with
  |[]=>none
  | e ::es=>if h:m∈cc.flds∧(fnVs cc (es.length+1)).isEmpty=false∧fewB (e::es).length=true∧plainO o=true∧(apos.endLine==pos.line)=true then
      (T.e cc o).bind fun a=>(tA T cc (e::es)).bind fun r=>none
    else none
def tGet (T:Tn) (cc:CC) (x:Expr) (name:Str) (p:Pos) (e f:Expr) (pos:Pos):Option (CE cc (.Call (.Attribute x name p) [e,f] [] pos)):=
  if h:name="get"∧plainO x=true∧((p.endLine==pos.line)=true∨isNm x=false)∧notStar e=true∧notStar f=true then
    (T.e cc x).bind fun a=>(T.e cc e).bind fun b=>(T.e cc f).bind fun c=>none
  else none
def tBin (T:Tn) (cc:CC) (a:Expr) (op:Operator) (b:Expr) (pos:Pos):Option (CE cc (.BinOp a op b pos)):=
  ((tBinI cc a op).bind fun o=>(T.e cc a).bind fun x=>(T.e cc b).map fun y=>(⟨bin2 o.f x.m y.m,fun G k call W X g=>e_bin2 (o.ok G k call W X g) (x.ok G k call W X g) (y.ok G k call W X g)⟩:CE cc (.BinOp a op b pos))).orElse fun _=>
    (tOp3 cc (isLO a) op).bind fun o=>(T.e cc a).bind fun x=>(T.e cc b).map fun y=>⟨mTwo o.f x.m y.m,fun G k call W X g=>pe_bin (o.ok G X g.K g.bare) (x.ok G k call W X g) (y.ok G k call W X g)⟩
def tCmpE (T:Tn) (cc:CC) (a b:Expr) (op:CmpOp) (pos:Pos):Option (CE cc (.Compare a [op] [b] pos)):=
  if hm:behindInMarks op b=false then
    ((tCmpI cc a b op).bind fun o=>(T.e cc a).bind fun x=>(T.e cc b).map fun y=>(⟨bin2 o.f x.m y.m,fun G k call W X g=>e_cmp2 (o.ok G k call W X g) (x.ok G k call W X g) (y.ok G k call W X g) hm⟩:CE cc (.Compare a [op] [b] pos))).orElse fun _=>
      (tCmp2 op).bind fun o=>(T.e cc a).bind fun x=>(T.e cc b).map fun y=>⟨mTwo o.f x.m y.m,fun G k call W X g=>pe_cmp1 (o.ok G cc X g.toGoodB) (x.ok G k call W X g) (y.ok G k call W X g) hm⟩
  else none
def isPr (cc:CC):Expr→Bool
  | .Call (.Name f _) _ [] _=>decide ((("$":Str)++f)∈cc.cells)
  |_=>false
def tCmpC (T:Tn) (cc:CC) (a b:Expr):(op:CmpOp)→(pos:Pos)→Option (CB cc (.Compare a [op] [b] pos))
  | .NotEq,pos=>if isPL a then if hm:behindInMarks .NotEq b=false then (T.e cc a).bind fun x=>(T.e cc b).bind fun y=>none else none
    else if isPr cc a=true then if hm:behindInMarks .NotEq b=false then (T.e cc a).bind fun x=>(T.e cc b).bind fun y=>none else none else none
  |_,_=>none
def tCmpB (T:Tn) (cc:CC) (a b:Expr) (op:CmpOp) (pos:Pos):Option (CB cc (.Compare a [op] [b] pos)):=
  if hm:behindInMarks op b=false then
    (tCmpC T cc a b op pos).orElse fun _=>((tCmpI cc a b op).bind fun o=>(T.e cc a).bind fun x=>(T.e cc b).map fun y=>(⟨bCmp (bin2 o.f x.m y.m),fun G k call W X g=>t_cmp2 (o.ok G k call W X g) (x.ok G k call W X g) (y.ok G k call W X g) hm⟩:CB cc (.Compare a [op] [b] pos))).orElse fun _=>
      (tCmpL b op).bind fun o=>(T.e cc a).bind fun x=>(T.e cc b).map fun y=>⟨bCmp (mTwo o.f x.m y.m),fun G k call W X g=>t_cmp1 (o.ok G cc X g.toGoodB) (x.ok G k call W X g) (y.ok G k call W X g) hm⟩
  else none
def tMths (T:Tn) (cc:CC) (x:Expr) (name:Str) (p:Pos) (pos:Pos):(es:List Expr)→Option (CE cc (.Call (.Attribute x name p) es [] pos))
  |[e]=>(tCount T cc x name p e pos).orElse fun _=>(tPop0 T cc x name p e pos).orElse fun _=>(tJoin T cc x name p e pos).orElse fun _=>tMethE T cc x name p [e] pos
  |[e,f]=>(tGet T cc x name p e f pos).orElse fun _=>(tMethE T cc x name p [e,f] pos).orElse fun _=>tMethF T cc x name p [e,f] pos
  |es=>tMethE T cc x name p es pos
def turnE (T:Tn) (cc:CC):(e:Expr)→Option (CE cc e)
  | .Constant (.int i) j pos=>some ⟨mCon (.int i),fun _ _ _ _ _ _=>e_int⟩
  | .Constant (.bool i) j pos=>some ⟨mCon (.bl i),fun _ _ _ _ _ _=>e_bl⟩
  | .Constant (.str i) j pos=>some ⟨mCon (.str i),fun _ _ _ _ _ _=>e_str⟩
  | .Constant .none j pos=>some ⟨mCon .non,fun _ _ _ _ _ _=>e_non⟩
  | .Name x pos=>tName cc x pos
  | .BoolOp .And es pos=>tAndE T cc pos es
  | .BoolOp .Or es pos=>tOrE T cc pos es
  | .UnaryOp .Not a pos=>(T.e cc a).bind fun c=>none
  | .UnaryOp .USub a pos=>(T.e cc a).bind fun c=>none
  | .BinOp a op b pos=>tBin T cc a op b pos
  | .Compare a [op] [b] pos=>tCmpE T cc a b op pos
  | .Compare a [op,op'] [b,c] pos=>if hm:behindInMarks op' c=false then
      (tCmp2 op).bind fun o=>(tCmp2 op').bind fun o'=>(T.e cc a).bind fun x=>(T.e cc b).bind fun y=>(T.e cc c).bind fun z=>none
    else none
  | .IfExp c a b pos=>(T.b cc c).bind fun t=>(T.e cc a).bind fun x=>(T.e cc b).map fun y=>⟨mIf t.m x.m y.m,fun G k call W X g=>e_if (t.ok G k call W X g) (x.ok G k call W X g) (y.ok G k call W X g)⟩
  | .JoinedStr (v1::v2::rest) pos=>(tFs T cc (v1::v2::rest)).bind fun r=>none
  | .Tuple es n pos=>(tItems T cc es).map fun r=>⟨mTup r.m,fun G k call W X g=>e_tup (r.ok G k call W X g)⟩
  | .List es pos=>(tItems T cc es).map fun r=>⟨mLst r.m,fun G k call W X g=>e_lst (r.ok G k call W X g)⟩
  | .Subscript a (.Slice lo hi none p2) pos=>(T.e cc a).bind fun x=>(tPart T cc lo).bind fun l=>(tPart T cc hi).map fun h=>⟨mSl x.m l.m h.m,fun G k call W X g=>e_sl (o_sl g.K) (x.ok G k call W X g) (l.ok G k call W X g) (h.ok G k call W X g)⟩
  | .Subscript a (.Slice none none (some (.UnaryOp .USub (.Constant (.int 1) kk p1) p2)) p3) pos=>(T.e cc a).bind fun x=>none
  | .Subscript a i pos=>if hs:notSlice i=true then
      (if hi:isInsE cc a=true∧(("__getitem__":Str),1)∈cc.mns then (T.e cc a).bind fun x=>(T.e cc i).bind fun y=>none
      else (T.e cc a).bind fun x=>(T.e cc i).map fun y=>⟨mTwo atX x.m y.m,fun G k call W X g=>pe_sub1 (o_atX g.toGoodB) (x.ok G k call W X g) (y.ok G k call W X g) (plain_ix hs)⟩)
    else none
  | .Dict [] [] pos=>none
  | .Dict [none,some kx] [e,vx] pos=>(T.e cc e).bind fun a=>(T.e cc kx).bind fun b=>(T.e cc vx).bind fun c=>none
  | .Dict ks vs pos=>tDict T cc ks vs pos
  | .Attribute o f pos=>if h:plainO o=true∧f∈cc.flds then (T.e cc o).bind fun a=>none
    else if hx:plainO o=true then (T.e cc o).map fun a=>⟨mOne (fldX f) a.m,fun G k call W X g=>e_fldX g.toGoodB (a.ok G k call W X g) (base_ok hx)⟩ else none
  | .Call (.Name f p) [e,.Tuple es n tp] [] pos=>if h:f="isinstance" then (tIsiT T cc p e es n tp pos).map fun a=>⟨a.m,fun G k call W X g=>by rw [h];exact a.ok G k call W X g⟩ else tCall T cc f p pos [e,.Tuple es n tp]
  | .Call (.Name f p) [e,.Name nm p2] [] pos=>(tIso T cc f p e nm p2 pos).orElse fun _=>(tIsxE T cc f p e nm p2 pos).orElse fun _=>tCall T cc f p pos [e,.Name nm p2]
  | .Call (.Name f p) [.Call (.Name r p2) [a] [] pos2] [] pos=>(tLRg T cc f p r p2 a pos2 pos).orElse fun _=>tCall T cc f p pos [.Call (.Name r p2) [a] [] pos2]
  | .Call (.Name f p) [.Call (.Name r p2) [a,b] [] pos2] [] pos=>(tDictZ T cc f p r p2 a b pos2 pos).orElse fun _=>tCall T cc f p pos [.Call (.Name r p2) [a,b] [] pos2]
  | .Call (.Name f p) [.Call (.Attribute o m apos) [] [] cpos] [] pos=>(tListIt T cc f p o m apos cpos pos).orElse fun _=>tCall T cc f p pos [.Call (.Attribute o m apos) [] [] cpos]
  | .Call (.Name f p) [.SetComp elt [⟨tg,it,ifs,0⟩] scope spos] [] pos=>tSts T cc f p elt tg it ifs scope spos pos
  | .DictComp kx vx [⟨tg,it,ifs,0⟩] scope pos=>tDc T cc kx vx tg it ifs scope pos
  | .Call (.Name f p) es [] pos=>(tCallI T cc f p pos es).orElse fun _=>(tCallF T cc f p pos es).orElse fun _=>tCall T cc f p pos es
  | .Call (.Name f p) es [⟨some n,ke,kp⟩] pos=>tNewK T cc f p pos n ke kp es
  | .Call (.Attribute (.Name c q) m p) (e::es) [] pos=>(tSm T cc c q m p e es pos).orElse fun _=>tMths T cc (.Name c q) m p pos (e::es)
  | .Call (.Attribute x name p) [e] [] pos=>(tCount T cc x name p e pos).orElse fun _=>(tPop0 T cc x name p e pos).orElse fun _=>(tJoin T cc x name p e pos).orElse fun _=>tMethE T cc x name p [e] pos
  | .Call (.Attribute x name p) [e,f] [] pos=>(tGet T cc x name p e f pos).orElse fun _=>(tMethE T cc x name p [e,f] pos).orElse fun _=>tMethF T cc x name p [e,f] pos
  | .Call (.Attribute x name p) es [] pos=>tMethE T cc x name p es pos
  | .ListComp (.Call (.Name f p) [.Name y yp] [] cp) [⟨.Name x xp,.Attribute o a ap,[],0⟩] scope pos=>(tStrK T cc f p y yp cp x xp o a ap scope pos).orElse fun _=>tLc T cc (.Call (.Name f p) [.Name y yp] [] cp) (.Name x xp) (.Attribute o a ap) [] scope pos
  | .ListComp (.Call (.Name f p) [.Name y yp] [] cp) [⟨.Name x xp,.Name o op,[],0⟩] scope pos=>(tStrN T cc f p y yp cp x xp o op scope pos).orElse fun _=>tLc T cc (.Call (.Name f p) [.Name y yp] [] cp) (.Name x xp) (.Name o op) [] scope pos
  | .ListComp (.Call (.Name f p) [.Name y yp] [] cp) [⟨.Name x xp,.Subscript o i ap,[],0⟩] scope pos=>(tStrS T cc f p y yp cp x xp o i ap scope pos).orElse fun _=>tLc T cc (.Call (.Name f p) [.Name y yp] [] cp) (.Name x xp) (.Subscript o i ap) [] scope pos
  | .ListComp elt [⟨tg,it,ifs,0⟩] scope pos=>tLc T cc elt tg it ifs scope pos
  | .ListComp elt [⟨tg,it,ifs,0⟩,⟨tg1,it1,ifs1,0⟩] scope pos=>tLc2 T cc elt tg it tg1 it1 ifs ifs1 scope pos
  |_=>none
def plainB:Expr→Bool
  | .UnaryOp .Not _ _=>false
  | .BoolOp .. =>false
  | .IfExp .. =>false
  | .Compare .. =>false
  |_=>true
theorem plainB_ok {e:Expr} (h:plainB e=true) (env:Env) (whole:Sem Value):isTrue e env whole=(do let v ←whole;standAt e.pos;holding [v] (truthy v)):=by
  cases e with
  |UnaryOp op a p=>cases op<;>first|rfl|cases h
  |BoolOp=>cases h
  |IfExp=>cases h
  |Compare=>cases h
  |_=>rfl
def turnB (T:Tn) (cc:CC):(e:Expr)→Option (CB cc e)
  | .UnaryOp .Not a pos=>(T.b cc a).map fun c=>⟨bNot c.m,fun G k call W X g=>t_not (c.ok G k call W X g)⟩
  | .BoolOp .And es pos=>(tAndB T cc pos es).map fun c=>⟨c.m,fun G k call W X g=>(c.ok G k call W X g).pt⟩
  | .BoolOp .Or es pos=>(tOrB T cc pos es).map fun c=>⟨c.m,fun G k call W X g=>(c.ok G k call W X g).pt⟩
  | .Compare a [op] [b] pos=>tCmpB T cc a b op pos
  | .Compare a [op,op'] [b,c] pos=>if hm:behindInMarks op' c=false then
      (tCmp2 op).bind fun o=>(tCmp2 op').bind fun o'=>(T.e cc a).bind fun x=>(T.e cc b).bind fun y=>(T.e cc c).bind fun z=>none
    else none
  |e=>if hp:plainB e=true then (T.e cc e).map fun c=>⟨bVal c.m,fun G k call W X g=>t_val g.toGoodB (c.ok G k call W X g) (plainB_ok hp)⟩ else none
end
end Mi
namespace Mi
open PySem PySem.Spec PyProof.Rows L2
def rest (mf:MFn) (n:Nat):List D:=mf.df.drop (mf.df.length - (mf.np - n))
theorem fills_of {tab:Str→Option MFn} {f:Str} {mf:MFn} (ht:tab f=some mf) {n:Nat} (hn:n+(rest mf n).length=mf.np): ∀ k,Fills (callN tab k) f n (rest mf n)
  |0=>fun _ _ _=>rfl
  | k+1=>fun xs h hx=>by
    have e1:fill mf.np mf.df xs=xs++rest mf n:=by unfold fill rest;rw [hx]
    have e2:fill mf.np mf.df (xs++rest mf n)=xs++rest mf n:=fill_full (by rw [List.length_append,hx];exact hn)
    simp only [callN,ht,runFn,e1,e2]
theorem bad_of {tab:Str→Option MFn} {f:Str} {n:Nat} (hb: ∀ mf,tab f=some mf→¬n+(rest mf n).length=mf.np): ∀ k xs h,xs.length=n→callN tab k f xs h= .bad
  |0,_,_,_=>rfl
  | k +1,xs,h,hx=>by
    simp only [callN]
    cases e:tab f with
    |none=>rfl
    | some mf=>
      have e1:fill mf.np mf.df xs=xs++rest mf n:=by unfold fill rest;rw [hx]
      have:=hb mf e
      simp only [runFn,e1,List.length_append,hx,if_neg this]
end Mi
namespace Mi
open PySem PySem.Spec PyProof.Rows L2
noncomputable section
def swNames (sc:Scope) (ts:List Expr):List Str:=ts.filterMap fun
      | .Name id pos=>if (sc.names.lookup id==some .local&&pos.line==(ts.head?.map (·.pos.line)).getD 0)=true then some id else none
      |_=>none
def swN (sc:Scope) (ts vs:List Expr):Option (Option (List Str)):=
  if (!(ts.length==2||ts.length==3)||vs.length !=ts.length)=true then some none
  else if (vs.any fun| .Starred .. =>true|_=>false)=true then some none
  else if ((swNames sc ts).length !=ts.length||(swNames sc ts).eraseDups.length !=(swNames sc ts).length)=true then some none
  else if vs.all (foldedForSure 8)=true then some none
  else if vs.all (constantsAlone 8)=true then none
  else some (some (swNames sc ts))
def noTup:Expr→Bool
  | .Tuple .. =>false
  |_=>true
theorem sw_noTup {tg e:Expr} {env:Env} (h:noTup e=true):swappedStores [tg] e env=pure none:=by
  cases e<;>first|(cases tg<;>rfl)|cases h
section
variable {G:GE} {k:Nat} {call:Call} {cc:CC} {W:WX} {X:Cx}
end
def keepH (m:E):Prop:= ∀ call s r s',m call s= .ok r s'→s'.h=s.h
theorem kh_con {d:D}:keepH (mCon d):=fun call s r s' e=>by cases e;rfl
theorem kh_var {i:Nat}:keepH (mVar i):=fun call s r s' e=>by
  unfold mVar at e
  split at e
  · cases e;rfl
  · cases e
theorem bind_ok {α β:Type} {x:Out α} {f:α→S→Out β} {r:β} {s':S} (e:x.bind f= .ok r s'): ∃ a s1,x= .ok a s1∧f a s1= .ok r s':=by
  cases x with
  |ok a s1=>exact ⟨a,s1,rfl,e⟩
  |exc c d s1=>cases e
  |bad=>cases e
theorem lift_ok {α:Type} {s s':S} {x:Option α} {r:α} (e:lift s x= .ok r s'):s'=s:=by
  cases x with
  |none=>cases e
  |some a=>cases e;rfl
theorem take_h {s s':S} {r:R} {d:D} (e:take s r=some (d,s')):s'.h=s.h:=by
  cases r with
  |own o=>cases e;rfl
  | bor i=>
    simp only [take] at e
    split at e
    · cases e;rfl
    · cases e
theorem kh_one {f:D→Option O} {m:E} (h:keepH m):keepH (mOne f m):=fun call s r s' e=>by
  obtain ⟨a,s1,e1,e2⟩:=bind_ok e
  rw [lift_ok e2];exact h call s a s1 e1
theorem kh_two {f:D→D→Option O} {m n:E} (h:keepH m) (h2:keepH n):keepH (mTwo f m n):=fun call s r s' e=>by
  obtain ⟨a,s1,e1,e2⟩:=bind_ok e
  obtain ⟨b,s2,e3,e4⟩:=bind_ok e2
  rw [lift_ok e4,h2 call s1 b s2 e3];exact h call s a s1 e1
structure CHs (cc:CC) (es:List Expr) where
  m:As
  ns:es.all notStar=true
  ok: ∀ G call W X,GoodB G cc X→PA X es (tL G W call m)
  keep: ∀ call s r s',m call s= .ok r s'→s'.h=s.h
def hAs (T: ∀ e,Option (CH cc e)):(es:List Expr)→Option (CHs cc es)
  |[]=>some ⟨aNil,rfl,fun _ _ _ _ _=>a_nil,fun call s r s' e=>by cases e;rfl⟩
  | e ::es=>if hn:notStar e=true then (T e).bind fun a=>(hAs T es).map fun r=>⟨aCons a.m r.m,by simp [hn,r.ns],fun G call W X g=>a_cons (a.ok G call W X g) (r.ok G call W X g) hn,fun call s x s' e=>by
      obtain ⟨b,s1,e1,e2⟩:=bind_ok e
      have h1:=a.keep call s b s1 e1
      cases et:take s1 b with
      |none=>simp only [et] at e2;cases e2
      | some p=>
        obtain ⟨d,s2⟩:=p
        simp only [et] at e2
        obtain ⟨ds,s3,e3,e4⟩:=bind_ok e2
        have h3:=r.keep call s2 ds s3 e3
        have h2:=take_h et
        cases e4
        exact h3.trans (h2.trans h1)⟩
    else none
def hE:Nat→(cc:CC)→(e:Expr)→Option (CH cc e)
  |0,_,_=>none
  |_+1,cc,.Constant (.int i) j pos=>some ⟨mCon (.int i),fun _ _ _ _ _=>e_int,kh_con⟩
  |_+1,cc,.Constant (.bool i) j pos=>some ⟨mCon (.bl i),fun _ _ _ _ _=>e_bl,kh_con⟩
  |_+1,cc,.Constant (.str i) j pos=>some ⟨mCon (.str i),fun _ _ _ _ _=>e_str,kh_con⟩
  |_+1,cc,.Constant .none j pos=>some ⟨mCon .non,fun _ _ _ _ _=>e_non,kh_con⟩
  |_+1,cc,.Name x pos=>if h:okName x=true∧visB cc.sc x=true∧cc.N[idx cc.N x]?=some x then some ⟨mVar (idx cc.N x),fun G call W X g=>e_var g h.2.2 (vis_of h.2.1) (ok1 h.1) (ok2 h.1),kh_var⟩ else none
  | n +1,cc,.Attribute o f pos=>if h:plainO o=true then (if hf:f∈cc.flds then (hE n cc o).bind fun a=>none
      else (hE n cc o).map fun a=>⟨mOne (fldX f) a.m,fun G call W X g=>e_fldX g (a.ok G call W X g) (base_ok h),kh_one a.keep⟩) else none
  | n + 1,cc,.Call (.Name f p) [e] [] pos=>if h:f="repr"∧notStar e=true∧glB cc.sc "repr"=true then
      (hE n cc e).map fun a=>⟨mBlt reprD (rCons a.m rNil),fun G call W X g=>by rw [h.1];exact e_blt g (b_repr g.K g.units g.gd) (by decide) (gl_of h.2.2) (by decide+kernel) (r_cons (a.ok G call W X g) r_nil h.2.1) (by simp [h.2.1]) (by decide) (by decide),fun call s r s' e=>by
        obtain ⟨rs,s1,e1,e2⟩:=bind_ok e
        rw [lift_ok e2]
        obtain ⟨x,s2,e3,e4⟩:=bind_ok e1
        obtain ⟨ys,s3,e5,e6⟩:=bind_ok e4
        cases e5
        cases e6
        exact a.keep call s x _ e3⟩
    else none
  | n +1,cc,.List es pos=>(hAs (hE n cc) es).map fun r=>⟨mLst r.m,fun G call W X g=>e_lst (r.ok G call W X g),fun call s x s' e=>by
      obtain ⟨ds,s1,e1,e2⟩:=bind_ok e
      have h1:=r.keep call s ds s1 e1
      split at e2
      · cases e2;exact h1
      · cases e2⟩
  | n +1,cc,.Call (.Name f p) [e,.Name nm p2] [] pos=>if h:f="isinstance"∧notStar e=true∧glB cc.sc "isinstance"=true∧glB cc.sc nm=true∧okName nm=true then
      (hE n cc e).map fun a=>⟨mOne (isxD cc.isx nm) a.m,fun G call W X g=>by rw [h.1];exact e_isx g (a.ok G call W X g) h.2.1 (gl_of h.2.2.1) (gl_of h.2.2.2.1) (ok1 h.2.2.2.2),kh_one a.keep⟩
    else none
  |n+1,cc,.Compare a [op] [b] pos=>if hm:behindInMarks op b=false then (tCmp2 op).bind fun o=>(hE n cc a).bind fun x=>(hE n cc b).map fun y=>⟨mTwo o.f x.m y.m,fun G call W X g=>pe_cmp1 (o.ok G cc X g) (x.ok G call W X g) (y.ok G call W X g) hm,kh_two x.keep y.keep⟩ else none
  |n+1,cc,.BoolOp .And [a,b] pos=>(hE n cc a).bind fun x=>(hE n cc b).bind fun y=>none
  |_+1,_,_=>none
structure CHd (cc:CC) (hds:List ExceptHandler) where
  l:List (Str×Option Nat×E)
  t:HdT cc hds l
def tHds (cc:CC):(hds:List ExceptHandler)→Option (CHd cc hds)
  |[]=>some ⟨[],.nil⟩
  | .ExceptHandler (some (.Name x np)) (some n) [.Return (some e) rp] pos'::hds=>match hf:excF cc.exs x with
    |some f=>if h:glB cc.sc x=true∧cc.N[idx cc.N n]?=some n∧locB cc.sc n=true then (hE 12 cc e).bind fun m=>(tHds cc hds).map fun r=>⟨(x,some (idx cc.N n),m.m)::r.l,.named (excF_mem hf) (gl_of h.1) (idx cc.N n) h.2.1 (loc_of h.2.2) m r.t⟩ else none
    |none=>none
  | .ExceptHandler (some (.Name x np)) none [.Return (some e) rp] pos'::hds=>match hf:excF cc.exs x with
    |some f=>if h:glB cc.sc x=true then (hE 12 cc e).bind fun m=>(tHds cc hds).map fun r=>⟨(x,none,m.m)::r.l,.bare (excF_mem hf) (gl_of h) m r.t⟩ else none
    |none=>none
  |_=>none
def tSs (T:Tn) (cc:CC):(sts:List Stmt)→Option (CSs cc sts)
  |[]=>some ⟨cNil,fun _ _ _ _ _ _=>s_nil⟩
  |st::r=>(T.s cc st).bind fun a=>(tSs T cc r).map fun b=>⟨cSeq a.m b.m,fun G k call W X g=>s_cons (a.ok G k call W X g) (b.ok G k call W X g)⟩
def isCl:Expr→Bool
  | .Call .. =>true
  |_=>false
def tMeth1 (T:Tn) (cc:CC) (x:Expr) (name:Str) (p:Pos) (e:Expr) (pos spos:Pos):Option (CS cc (.Expr (.Call (.Attribute x name p) [e] [] pos) spos)):=
  if h:name="append" then
    (if hc:(notStar e&&plainO x&&(p.endLine==pos.line))=true then
      (T.e cc x).bind fun a=>(T.e cc e).map fun b=>if isCl x then ⟨cApp (mCell a.m) b.m,fun G k call W X g=>by
        simp only [Bool.and_eq_true] at hc
        subst h
        exact s_app g (e_cell (a.ok G k call W X g)) (b.ok G k call W X g) hc.1.1 hc.1.2 hc.2⟩ else ⟨cApp a.m b.m,fun G k call W X g=>by
        simp only [Bool.and_eq_true] at hc
        subst h
        exact s_app g (a.ok G k call W X g) (b.ok G k call W X g) hc.1.1 hc.1.2 hc.2⟩
    else none)
  else if h:name="extend" then
    (if hc:(notStar e&&plainO x&&(p.endLine==pos.line))=true then
      (T.e cc x).bind fun a=>(T.e cc e).bind fun b=>none
    else none)
  else if hn:noComp (.Call (.Attribute x name p) [e] [] pos)=true then (T.e cc (.Call (.Attribute x name p) [e] [] pos)).bind fun a=>none else none
def tMeth0 (T:Tn) (cc:CC) (x:Expr) (name:Str) (p:Pos) (pos spos:Pos):Option (CS cc (.Expr (.Call (.Attribute x name p) [] [] pos) spos)):=
  if h:name="pop" then
    (if hc:(plainO x&&(p.endLine==pos.line))=true then
      (T.e cc x).bind fun a=>none
    else none)
  else if hn:noComp (.Call (.Attribute x name p) [] [] pos)=true then (T.e cc (.Call (.Attribute x name p) [] [] pos)).bind fun a=>none else none
def celW:Expr→Expr→Bool
  | .Name x _,.Call (.Name f _) _ _ _=>decide (x="_law_more_here")&&decide (f="dict")
  |_,_=>false
def funK (sc:Scope):Bool:=match sc.kind with
  | .function=>true
  |_=>false
theorem funK_of {sc:Scope} (h:funK sc=true):sc.kind= .function:=by
  unfold funK at h
  split at h
  · assumption
  · cases h
def celTg (cc:CC):Expr→Bool
  | .Name x _=>decide (("=":Str)++x∈cc.cells)
  |_=>false
def celA (cc:CC):Expr→Bool
  | .Name x _=>decide (("@":Str)++x∈cc.cells)
  |_=>false
def tPar (T0:Tn) (cc:CC) (ts vs:List Expr) (k1:Nat) (p1:Pos) (k2:Nat) (p2 pos:Pos):Option (CS cc (.Assign [.Tuple ts k1 p1] (.Tuple vs k2 p2) pos)):=
  let T:Tn:=if ts.any (celTg cc) then cellT T0 else T0
  if hk : funK cc.sc=true then
    (match hs:swN cc.sc ts vs with
    |some none=>(tR_ T cc vs).bind fun r=>(tTgs cc ts).bind fun t=>none
    | some (some names)=>(match ts,vs,names,hs with
      | [.Name x px,.Name y py],[a,b],[x',y'],hs=>
        if hc:(x=x'∧y=y'∧cc.N[idx cc.N x]?=some x∧cc.N[idx cc.N y]?=some y∧idx cc.N x≠idx cc.N y∧locB cc.sc x=true∧locB cc.sc y=true) then
          (tR_ T cc [a,b]).bind fun r=>none
        else none
      | [.Name x px,.Name y py,.Name z pz],[a,b,c],[x',y',z'],hs=>
        if hc:(x=x'∧y=y'∧z=z'∧cc.N[idx cc.N x]?=some x∧cc.N[idx cc.N y]?=some y∧cc.N[idx cc.N z]?=some z∧idx cc.N x≠idx cc.N y∧idx cc.N x≠idx cc.N z∧idx cc.N y≠idx cc.N z∧locB cc.sc x=true∧locB cc.sc y=true∧locB cc.sc z=true) then
          (tR_ T cc [a,b,c]).bind fun r=>none
        else none
      |_,_,_,_=>none)
    |none=>none)
  else none
def tSetLc (T:Tn) (cc:CC) (y:Str) (py:Pos) (elt tg it:Expr) (ifs:List Expr) (scope:Scope) (pos spos:Pos):Option (CS cc (.Assign [.Name y py] (.ListComp elt [⟨tg,it,ifs,0⟩] scope pos) spos)):=
  let own:List (Str×Nat):=(namesOf tg).map fun x=>(x,idx cc.N x)
  if hb :blkC cc.N cc.sc scope own=true then
    (if hc:(cc.N[idx cc.N y]?=some y∧locB cc.sc y=true∧funK cc.sc=true∧(py.line==pos.line)=true∧(scope.names.any fun (n,k)=>n==y&&(k== .local||k== .cell))=false) then
      (tIv T cc tg it).bind fun i=>(tGa (cc.blk scope) (own.map (·.2)) tg).bind fun t=>(tTt T (cc.blk scope) ifs).bind fun c=>(T.e (cc.blk scope) elt).map fun e=>
        ⟨cAsg (mLc i.m t.m c.m e.m (own.map (·.2))) (gN (idx cc.N y)),fun G k call W X g=>s_setLc g hc.1 (loc_of hc.2.1) (funK_of hc.2.2.1) hc.2.2.2.1 hc.2.2.2.2 (i.ok G k call W X g) (blkOk_by hb) (fun s H C cl fp=>t.ok _ _ _ _ _ (good_blk g scope s H C cl fp)) (fun s H C cl fp=>c.ok _ _ _ _ _ (good_blk g scope s H C cl fp)) (fun s H C cl fp=>e.ok _ _ _ _ _ (good_blk g scope s H C cl fp)) (i.fs _)⟩
    else none)
  else none
theorem sw_cell {y:Str} {py:Pos} {elt:Expr} {gs:List Comprehension} {scope:Scope} {pos:Pos} {l:Nat} {env:Env} (h:env.scope.names.lookup y=some .cell):swapsWith (.ListComp elt gs scope pos) (some (.Name y py)) l env=pure false:=by
  unfold swapsWith
  have hk:env.kindOf y=some .cell:=h
  simp only [hk]
  have h2:((some NameKind.cell==some NameKind.local):Bool)=false:=by decide
  simp [h2]
def tSetLcC (T:Tn) (cc:CC) (y:Str) (py:Pos) (elt tg it:Expr) (ifs:List Expr) (scope:Scope) (pos spos:Pos):Option (CS cc (.Assign [.Name y py] (.ListComp elt [⟨tg,it,ifs,0⟩] scope pos) spos)):=
  if hc : (celB cc.sc y&&cc.top)=true then
    (if h1:cc.N[idx cc.N y]?=some y then
      (tLc T cc elt tg it ifs scope pos).map fun a=>⟨cAsg a.m (gN (idx cc.N y)),fun G k call W X g=>
        have hg:PG X (.Name y py) (tG G (gN (idx cc.N y))):=g_name g h1 (.inr ⟨(Bool.and_eq_true_iff.mp hc).2,cel_of (Bool.and_eq_true_iff.mp hc).1⟩)
        have hsw:swapsWithSole [.Name y py] (.ListComp elt [⟨tg,it,ifs,0⟩] scope pos) spos.line X.env=pure false:=by
          show swapsWith (.ListComp elt [⟨tg,it,ifs,0⟩] scope pos) (some (.Name y py)) spos.line X.env=pure false
          exact sw_cell (by rw [g.sc];exact cel_of (Bool.and_eq_true_iff.mp hc).1)
        (ps_asg (a.ok G k call W X g) hg hsw rfl rfl).of fun D σ H q=>tAsg_of q⟩
    else none)
  else none
structure CX (cc:CC) (e:Expr) where
  m:Tx
  pl:plainT e=true
  ok: ∀ G k call W X,Good G k call cc W X→PG X e (tGX G call m)
structure CXs (cc:CC) (es:List Expr) where
  ms:List Tx
  pl:es.all plainT=true
  ln:es.length=ms.length
  ok: ∀ G k call W X,Good G k call cc W X→PGs X es (tGsX G call ms)
def tX (T:Tn) (cc:CC):(e:Expr)→Option (CX cc e)
  | .Name x pos=>(tTgN cc x pos).bind fun t=>none
  | .Attribute o f pos=>if hf:f∈cc.flds then (T.e cc o).map fun a=>if f∈cc.celF then ⟨xCel (xAtt a.m f),rfl,fun G k call W X g=>gx_cel (gx_att g hf (a.ok G k call W X g))⟩ else ⟨xAtt a.m f,rfl,fun G k call W X g=>gx_att g hf (a.ok G k call W X g)⟩ else none
  | .Subscript x i pos=>if hs:notSlice i=true then (T.e cc x).bind fun a=>(T.e cc i).bind fun b=>none else none
  |_=>none
def othX:Expr→Bool
  | .Subscript (.Name x _) _ _=>decide (x="_law_other")
  |_=>false
def isDictX:Expr→Bool
  | .Call (.Name f _) _ _ _=>decide (f="dict")
  |_=>false
def celX {cc:CC} {e:Expr} (v:Option Expr) (t:CX cc e):CX cc e:=match v with
  |some (.Dict [] [] _)=>⟨xCel t.m,t.pl,fun G k call W X g=>gx_cel (t.ok G k call W X g)⟩
  |some v=>if (othX e&&isDictX v)=true then ⟨xCel t.m,t.pl,fun G k call W X g=>gx_cel (t.ok G k call W X g)⟩ else t
  |_=>t
def tXsT (T:Tn) (cc:CC):(es vs:List Expr)→Option (CXs cc es)
  |[],_=>some ⟨[],rfl,rfl,fun _ _ _ _ _ _=>gxs_nil⟩
  |e::es,vs=>(tX T cc e).bind fun a0=>(tXsT T cc es vs.tail).map fun r=>let a:=celX vs.head? a0;⟨a.m::r.ms,by simp [a.pl,r.pl],by simp [r.ln],fun G k call W X g=>gxs_cons (a.ok G k call W X g) (r.ok G k call W X g) a.pl⟩
def isName:Expr→Bool
  | .Name .. =>true
  |_=>false
def tMulX (T:Tn) (cc:CC) (ts vs:List Expr) (k1:Nat) (p1:Pos) (k2:Nat) (p2 pos:Pos):Option (CS cc (.Assign [.Tuple ts k1 p1] (.Tuple vs k2 p2) pos)):=
  if hk:funK cc.sc=true then
    (match hs:swN cc.sc ts vs with
    |some none=>(tR_ T cc vs).bind fun r=>(tXsT T cc ts vs).bind fun t=>none
    |_=>none)
  else none
def tAsgTX (T:Tn) (cc:CC) (ts:List Expr) (k1:Nat) (p1:Pos) (e:Expr) (pos:Pos):Option (CS cc (.Assign [.Tuple ts k1 p1] e pos)):=
  if hn:noComp e=true∧noTup e=true then (T.e cc e).bind fun a=>(tXsT T cc ts []).bind fun t=>none else none
def tSetDc (T:Tn) (cc:CC) (y:Str) (py:Pos) (kx vx tg it:Expr) (ifs:List Expr) (scope:Scope) (pos spos:Pos):Option (CS cc (.Assign [.Name y py] (.DictComp kx vx [⟨tg,it,ifs,0⟩] scope pos) spos)):=
  let own:List (Str×Nat):=(namesOf tg).map fun x=>(x,idx cc.N x)
  if hb :blkC cc.N cc.sc scope own=true then
    (if hc:(cc.N[idx cc.N y]?=some y∧locB cc.sc y=true∧funK cc.sc=true∧(py.line==pos.line)=true∧(scope.names.any fun (n,k)=>n==y&&(k== .local||k== .cell))=false) then
      (tIv T cc tg it).bind fun i=>(tGa (cc.blk scope) (own.map (·.2)) tg).bind fun t=>(tTt T (cc.blk scope) ifs).bind fun c=>(T.e (cc.blk scope) kx).bind fun a=>((if cellV vx then cellT T else T).e (cc.blk scope) vx).map fun b=>
        ⟨cAsg (mDc i.m t.m c.m a.m b.m (own.map (·.2))) (gN (idx cc.N y)),fun G k call W X g=>s_setDc g hc.1 (loc_of hc.2.1) (funK_of hc.2.2.1) hc.2.2.2.1 hc.2.2.2.2 (i.ok G k call W X g) (blkOk_by hb) (fun s H C cl fp=>t.ok _ _ _ _ _ (good_blk g scope s H C cl fp)) (fun s H C cl fp=>c.ok _ _ _ _ _ (good_blk g scope s H C cl fp)) (fun s H C cl fp=>a.ok _ _ _ _ _ (good_blk g scope s H C cl fp)) (fun s H C cl fp=>b.ok _ _ _ _ _ (good_blk g scope s H C cl fp)) (i.fs _)⟩
    else none)
  else none
theorem sw_cellD {y:Str} {py:Pos} {kx vx:Expr} {gs:List Comprehension} {scope:Scope} {pos:Pos} {l:Nat} {env:Env} (h:env.scope.names.lookup y=some .cell):swapsWith (.DictComp kx vx gs scope pos) (some (.Name y py)) l env=pure false:=by
  unfold swapsWith
  have hk:env.kindOf y=some .cell:=h
  simp only [hk]
  have h2:((some NameKind.cell==some NameKind.local):Bool)=false:=by decide
  simp [h2]
def tSetDcC (T:Tn) (cc:CC) (y:Str) (py:Pos) (kx vx tg it:Expr) (ifs:List Expr) (scope:Scope) (pos spos:Pos):Option (CS cc (.Assign [.Name y py] (.DictComp kx vx [⟨tg,it,ifs,0⟩] scope pos) spos)):=
  if hc : (celB cc.sc y&&cc.top)=true then
    (if h1:cc.N[idx cc.N y]?=some y then
      (tDc T cc kx vx tg it ifs scope pos).map fun a=>⟨cAsg a.m (gN (idx cc.N y)),fun G k call W X g=>
        have hg:PG X (.Name y py) (tG G (gN (idx cc.N y))):=g_name g h1 (.inr ⟨(Bool.and_eq_true_iff.mp hc).2,cel_of (Bool.and_eq_true_iff.mp hc).1⟩)
        have hsw:swapsWithSole [.Name y py] (.DictComp kx vx [⟨tg,it,ifs,0⟩] scope pos) spos.line X.env=pure false:=by
          show swapsWith (.DictComp kx vx [⟨tg,it,ifs,0⟩] scope pos) (some (.Name y py)) spos.line X.env=pure false
          exact sw_cellD (by rw [g.sc];exact cel_of (Bool.and_eq_true_iff.mp hc).1)
        (ps_asg (a.ok G k call W X g) hg hsw rfl rfl).of fun D σ H q=>tAsg_of q⟩
    else none)
  else none
def tSetLc2 (T:Tn) (cc:CC) (y:Str) (py:Pos) (elt tg it tg1 it1:Expr) (ifs ifs1:List Expr) (scope:Scope) (pos spos:Pos):Option (CS cc (.Assign [.Name y py] (.ListComp elt [⟨tg,it,ifs,0⟩,⟨tg1,it1,ifs1,0⟩] scope pos) spos)):=
  let own:List (Str×Nat):=(namesOf tg++namesOf tg1).map fun x=>(x,idx cc.N x)
  let vs1:List Nat:=(namesOf tg1).map fun x=>idx cc.N x
  if hb : blkC cc.N cc.sc scope own=true∧(vs1.all fun i=>decide (i∈own.map (·.2)))=true then
    (if hc:(cc.N[idx cc.N y]?=some y∧locB cc.sc y=true∧funK cc.sc=true∧(py.line==pos.line)=true∧(scope.names.any fun (n,k)=>n==y&&(k== .local||k== .cell))=false) then
      (tIv T cc tg it).bind fun i=>(tGa (cc.blk scope) (own.map (·.2)) tg).bind fun t=>(tTt T (cc.blk scope) ifs).bind fun c=>(tIv T (cc.blk scope) tg1 it1).bind fun i1=>(tGa (cc.blk scope) vs1 tg1).bind fun t1=>(tTt T (cc.blk scope) ifs1).bind fun c1=>(T.e (cc.blk scope) elt).map fun e=>
        ⟨cAsg (mLc2 i.m t.m c.m i1.m t1.m c1.m e.m (own.map (·.2)) vs1) (gN (idx cc.N y)),fun G k call W X g=>s_setLc2 g hc.1 (loc_of hc.2.1) (funK_of hc.2.2.1) hc.2.2.2.1 hc.2.2.2.2 (i.ok G k call W X g) (blkOk_by hb.1) (fun j hj=>by have:=List.all_eq_true.mp hb.2 j hj;exact of_decide_eq_true this)
          (fun s H C cl fp=>t.ok _ _ _ _ _ (good_blk g scope s H C cl fp)) (fun s H C cl fp=>c.ok _ _ _ _ _ (good_blk g scope s H C cl fp)) (fun s H C cl fp=>i1.ok _ _ _ _ _ (good_blk g scope s H C cl fp)) (fun s H C cl fp=>t1.ok _ _ _ _ _ (good_blk g scope s H C cl fp)) (fun s H C cl fp=>c1.ok _ _ _ _ _ (good_blk g scope s H C cl fp)) (fun s H C cl fp=>e.ok _ _ _ _ _ (good_blk g scope s H C cl fp)) (i.fs _) i1.fs⟩
    else none)
  else none
def tTry (T:Tn) (cc:CC) (body:List Stmt) (h0:ExceptHandler) (hds:List ExceptHandler) (pos:Pos):Option (CS cc (.Try body (h0::hds) [] [] pos)):=
  if ht:cc.top=true then
    (tSs T cc body).bind fun b=>(tHds cc (h0::hds)).bind fun r=>none
  else none
def tRaise (T:Tn) (cc:CC) (c:Str) (p:Pos) (e:Expr) (pos pos2:Pos):Option (CS cc (.Raise (some (.Call (.Name c p) [e] [] pos)) none pos2)):=match hf:excF cc.exs c with
  |some f=>if h:glB cc.sc c=true∧notStar e=true then (tA T cc [e]).bind fun r=>none else none
  |none=>none
def isRws:Expr→Expr→List Stmt→Bool
  | .Name x _,.Name y _,.If (.BoolOp .Or _ _) _ _ _::_=>decide (x="row")&&decide (y="rows")
  |_,_,_=>false
def tFor (T:Tn) (cc:CC) (tg it:Expr) (b:List Stmt) (pos:Pos):Option (CS cc (.For tg it b [] pos)):=
  if isRws tg it b then (if hs:noSet it=true then (T.e cc it).bind fun i=>(tTg cc tg).bind fun t=>(tSs T cc b).bind fun y=>none else none) else
  if isBrw it then (if hs:noSet it=true then (T.e cc it).bind fun i=>(tTg cc tg).bind fun t=>(tSs T cc b).bind fun y=>none else none)
  else (tIv T cc tg it).bind fun i=>(tTg cc tg).bind fun t=>(tSs T cc b).map fun y=>⟨cFor i.m t.m y.m,fun G k call W X g=>s_for g (i.ok G k call W X g) (t.ok G k call W X g) (y.ok G k call W X g) (i.fs _)⟩
def isNI (cc:CC):Expr→Bool
  | .Name x _=>decide (x="NotImplemented")
  |_=>false
def rawA (cc:CC):Expr→Bool
  | .Name x _=>decide (("!":Str)++x∈cc.cells)
  |_=>false
def eOf (T:Tn) (cc:CC) (tg e:Expr):Option (CE cc e):=if rawA cc tg=true then tNewR T cc e else T.e cc e
def turnS (T:Tn) (cc:CC):(st:Stmt)→Option (CS cc st)
  | .Return (some e) pos=>if isNI cc e=true then none else (T.e cc e).map fun a=>⟨cRet a.m,fun G k call W X g=>s_ret (a.ok G k call W X g)⟩
  | .Return none pos=>none
  | .Pass pos=>none
  | .Break pos=>none
  | .Continue pos=>none
  | .If c a b pos=>(T.b cc c).bind fun x=>(tSs T cc a).bind fun y=>(tSs T cc b).map fun z=>⟨cIf x.m y.m z.m,fun G k call W X g=>s_if (x.ok G k call W X g) (y.ok G k call W X g) (z.ok G k call W X g)⟩
  | .For (.Tuple elts kk tpos) (.Call (.Name f p) [a] [] ipos) b [] pos=>if h:f="enumerate"∧glB cc.sc "enumerate"=true∧cc.bare=false then
      (tA T cc [a]).bind fun r=>(tTg cc (.Tuple elts kk tpos)).bind fun t=>(tSs T cc b).bind fun y=>none
    else tFor T cc (.Tuple elts kk tpos) (.Call (.Name f p) [a] [] ipos) b pos
  | .For (.Name x px) (.List es lp) b [] pos=>if x∈brwN then
      (tItems (cellT T) cc es).bind fun r=>(tTg cc (.Name x px)).bind fun t=>(tSs T cc b).map fun y=>⟨cFor (iAny (mLst r.m)) t.m y.m,fun G k call W X g=>s_for g (i_any g (e_lst (r.ok G k call W X g))) (t.ok G k call W X g) (y.ok G k call W X g) (fun _=>rfl)⟩
    else tFor T cc (.Name x px) (.List es lp) b pos
  | .For tg it b [] pos=>tFor T cc tg it b pos
  | .While c b [] pos=>(T.b cc c).bind fun x=>(tSs T cc b).bind fun y=>none
  | .Try body (h0::hds) [] [] pos=>tTry T cc body h0 hds pos
  | .Raise (some (.Call (.Name c p) [e] [] pos)) none pos2=>tRaise T cc c p e pos pos2
  | .Expr (.Call (.Attribute x name p) [e] [] pos) spos=>tMeth1 T cc x name p e pos spos
  | .Expr (.Call (.Attribute x name p) [] [] pos) spos=>tMeth0 T cc x name p pos spos
  | .Expr e pos=>if hn:noComp e=true then (T.e cc e).bind fun a=>none else none
  | .AugAssign (.Name x p) .Add e pos=>if h1:cc.N[idx cc.N x]?=some x then (if hl:locB cc.sc x=true then (T.e cc e).bind fun a=>none else none) else none
  | .AugAssign (.Attribute o f p) .Add (.Constant (.int j) jj jp) pos=>if h:f∈cc.flds then (T.e cc o).bind fun a=>none else none
  | .Assign [.Tuple ts k1 p1] (.Tuple vs k2 p2) pos=>if ts.all isName=true then tPar T cc ts vs k1 p1 k2 p2 pos else tMulX T cc ts vs k1 p1 k2 p2 pos
  | .Assign [.Name y py] (.DictComp kx vx [⟨tg,it,ifs,0⟩] scope pos) spos=>(tSetDc T cc y py kx vx tg it ifs scope pos spos).orElse fun _=>tSetDcC T cc y py kx vx tg it ifs scope pos spos
  | .Assign [.Name y py] (.ListComp elt [⟨tg,it,ifs,0⟩,⟨tg1,it1,ifs1,0⟩] scope pos) spos=>tSetLc2 T cc y py elt tg it tg1 it1 ifs ifs1 scope pos spos
  | .Assign [.Name y py] (.ListComp elt [⟨tg,it,ifs,0⟩] scope pos) spos=>(tSetLc T cc y py elt tg it ifs scope pos spos).orElse fun _=>tSetLcC T cc y py elt tg it ifs scope pos spos
  | .Assign [.Subscript x i p] (.Dict [] [] dp) pos=>if hs:notSlice i=true then (T.e cc x).bind fun b=>(T.e cc i).bind fun c=>none else none
  | .Assign [.Subscript x i p] e pos=>if hs:notSlice i=true then (T.e cc e).bind fun a=>(T.e cc x).bind fun b=>(T.e cc i).map fun c=>
      if (celY x e||celW x e)=true then ⟨cSetX (mCell a.m) b.m c.m,fun G k call W X g=>s_setX g (e_cell (a.ok G k call W X g)) (b.ok G k call W X g) (c.ok G k call W X g) hs⟩
      else ⟨cSetX a.m b.m c.m,fun G k call W X g=>s_setX g (a.ok G k call W X g) (b.ok G k call W X g) (c.ok G k call W X g) hs⟩ else none
  | .Assign [.Attribute o f p] e pos=>if hn:f∈cc.flds then (T.e cc e).bind fun a=>(T.e cc o).map fun b=>
      if f∈cc.celF then ⟨cFld (mCell a.m) b.m f,fun G k call W X g=>s_fld g hn (e_cell (a.ok G k call W X g)) (b.ok G k call W X g) sw_att⟩
      else ⟨cFld a.m b.m f,fun G k call W X g=>s_fld g hn (a.ok G k call W X g) (b.ok G k call W X g) sw_att⟩ else none
  | .Assign [.Tuple ts k1 p1] e pos=>if ts.all isName=true then
      (if hn:noComp e=true∧noTup e=true then (T.e cc e).bind fun a=>(tTg cc (.Tuple ts k1 p1)).map fun t=>⟨cAsg a.m t.m,fun G k call W X g=>s_asg (a.ok G k call W X g) (t.ok G k call W X g) hn.1 (sw_noTup hn.2) t.pl⟩ else none)
    else tAsgTX T cc ts k1 p1 e pos
  | .Assign [tg] e pos=>if hn:noComp e=true then
      (if hw:(noTup e||noSw tg)=true then (eOf T cc tg e).bind fun a=>(tTg cc tg).map fun t=>if celA cc tg then ⟨cAsg (mCell a.m) t.m,fun G k call W X g=>s_asg (e_cell (a.ok G k call W X g)) (t.ok G k call W X g) hn (by
          rcases Bool.or_eq_true_iff.mp hw with h|h
          · exact sw_noTup h
          · exact sw_none h) t.pl⟩ else ⟨cAsg a.m t.m,fun G k call W X g=>s_asg (a.ok G k call W X g) (t.ok G k call W X g) hn (by
          rcases Bool.or_eq_true_iff.mp hw with h|h
          · exact sw_noTup h
          · exact sw_none h) t.pl⟩
      else none)
    else none
  |_=>none
def Tn.at:Nat→Tn
  |0=>⟨fun _ _=>none,fun _ _=>none,fun _ _=>none⟩
  |n+1=>⟨turnE (Tn.at n),turnB (Tn.at n),turnS (Tn.at n)⟩
def turn (cc:CC) (sts:List Stmt):Option (CSs cc sts):=tSs (Tn.at 40) cc sts
section
variable {P:Program} {w:World} {mg:Str→Option Value} {base:Heap} {G:GE}
theorem slp_start: ∀ {ds:List D} {vs:List V} (n:Nat),ds.length=vs.length→slp (ds.map (fun d=>some (.fz d))++List.replicate n none) (vs.map some++List.replicate n none)=Fz ds vs
  | [],[],n,_=>by
    show slp (List.replicate n none) (List.replicate n none)=[]
    induction n with
    |zero=>rfl
    |succ n ih=>rw [List.replicate_succ,List.replicate_succ];exact ih
  | d::ds,v::vs,n,l=>by
    show (O.fz d,v)::slp (ds.map (fun d=>some (.fz d))++List.replicate n none) (vs.map some++List.replicate n none)=(O.fz d,v)::Fz ds vs
    rw [slp_start n (by simpa using l)]
  |[],_::_,_,l=>by simp at l
  |_::_,[],_,l=>by simp at l
theorem slok_start {ds:List D} {vs:List V} (n:Nat) (l:ds.length=vs.length):SlOk (ds.map (fun d=>some (O.fz d))++List.replicate n none) (vs.map some++List.replicate n none):=by
  refine ⟨by simp [l],fun i o q=>?_⟩
  by_cases hi:i<ds.length
  · have hv:i<vs.length:=by omega
    exact ⟨vs[i],by rw [List.getElem?_append_left (by simpa using hv)];simp [hv]⟩
  · rw [List.getElem?_append_right (by simpa using hi)] at q
    simp only [List.getElem?_replicate] at q
    split at q<;>cases q
structure PD where
  con:Str→Option D
  names:List Str
  cells:List Str
  exs:List (Str×Str):=[]
  flds:List Str:=[]
  news:List Str:=[]
  isx:List (Str×Str×Bool):=[]
  shp:List (Str×Nat×List Str):=[]
  mns:List (Str×Nat):=[]
  ml:List (Str×Str):=[]
  insN:List Str:=[]
  celF:List Str:=[]
  frzN:List Str:=[]
  sts:List (Str×Str):=[]
def PD.cc (pd:PD) (bare:Bool) (N:List Str) (sc:Scope):CC:=⟨N,sc,pd.con,pd.names,true,bare,pd.cells,pd.exs,pd.flds,pd.news,pd.isx,pd.shp,pd.mns,pd.ml,pd.insN,pd.celF,pd.frzN,pd.sts⟩
structure Glob (G:GE) (mg:Str→Option Value) (pd:PD):Prop where
  blt: ∀ x∈blts,mg x=none
  con: ∀ x d v,pd.con x=some d→simple d=some v→∃ u,mg x=some u∧RelV v u
  conT: ∀ x ds,pd.con x=some (.tup ds)→∃ a vs,mg x=some (.ref a)∧TupK G.K a vs∧ds.map simple=vs.map some
  exs: ∀ c f,(c,f)∈pd.exs→∃ C,G.exc c=some (C,f)
  xr: ∀ c C f,G.exc c=some (C,f)→XRow G.K mg c C f
  sub: ∀ c C f c' C' f',G.exc c=some (C,f)→G.exc c'=some (C',f')→PySem.W.exmOne G.K (.ref C) (.ref C')=some (decide (c=c'))
  cls: ∀ c C,G.cls c=some C→L2.Cls G.K C∧mg c=some (.ref C)
  fld: ∀ c C f,G.cls c=some C→f∈pd.flds→NoAttr G.K C f
  clb: ∀ c C c' C',G.cls c=some C→G.cls c'=some C'→ClsTwo G.K c C c' C'
  ceq: ∀ c C,G.cls c=some C→PySem.W.findIn G.K (.ref C) "__ne__"=some (some (.builtin "object.__ne__"))∧PySem.W.mroIn G.K C (.type "object")=some true∧PySem.W.noSeq G.K C=true∧ClsX G.K C
  isx: ∀ c C f nm b,G.exc c=some (C,f)→(c,nm,b)∈pd.isx→ExcC G.K C∧∃ u cv,RelV u cv∧(∀ w,RelV u w→w=cv)∧((mg nm=some cv)∨(mg nm=none∧bootBuiltins nm=some cv∧nm≠"__name__"))∧PySem.W.kitOne G.K (.ref C) cv=some b
  cold:G.cur=none
  opx: ∀ c C,G.cls c=some C→OpX G.K C
  fnx: ∀ f a,G.fns f=some a→f∈pd.names
structure FunA (K:PySem.W.Frag) (st:Stmt) (a:Addr) (fd:FuncData):Prop where
  ex: ∃ (x qual:Str) (oc:Value) (od:Option Addr) (dV kV doc pm:Value) (an:Option Addr) (cdv ct:Value) (osl:Array (Option Value)),
    fd=PySem.W.fnOf x qual (defArgs st) (defBody st) (defScope st) dV kV doc pm an cdv ct∧K.lookup a=some ⟨oc,od,.func fd,osl⟩∧PySem.W.codeIn K cdv qual=true
structure DefAt (G:GE) (pd:PD) (tab:Str→Option MFn) (f:Str) (a:Addr) (fd:FuncData) (ps:List Str):Prop where
  ex: ∃ (st:Stmt) (N:List Str) (c:CSs (pd.cc G.bare N (defScope st)) (defBody st)) (df:List D),FunA G.K st a fd∧FnScope N ps (defScope st)∧tab f=some ⟨N,ps.length,c.m,df⟩∧
    ∀ n kws,(f,n,kws)∈pd.shp→BindSh G G.K fd ps n kws (rest ⟨N,ps.length,c.m,df⟩ (n+kws.length))
structure Rows (G:GE) (mg:Str→Option Value) (pd:PD) (tab:Str→Option MFn):Prop where
  fns: ∀ f∈pd.names,∃ a fd ps,G.fns f=some a∧mg f=some (.ref a)∧PySem.W.keepIn G.K (.ref a)=true∧DefAt G pd tab f a fd ps
  news: ∀ c∈pd.news,∃ C a fd ps,G.cls c=some C∧Mk G.K C a∧DefAt G pd tab (mkey c "__init__") a fd ps
  mths: ∀ c C m n,G.cls c=some C→(m,n)∈pd.mns→(c,m)∈pd.ml→∃ a,Meth G.K C m a∧PySem.W.fnIn G.K a=true∧((∃ fd ps,DefAt G pd tab (mkey c m) a fd ps∧(mkey c m,n+1,[])∈pd.shp)∨∀ mf,tab (mkey c m)=some mf→¬n+1+(rest mf (n+1)).length=mf.np)
  sts: ∀ c m,(c,m)∈pd.sts→∃ C p a fd ps,G.cls c=some C∧StM G.K C m p a∧PySem.W.keepIn G.K (.ref a)=true∧DefAt G pd tab (mkey c m) a fd ps
theorem fnG_of {T:CXT} {K:PySem.W.Frag} {n:Nat} {a:Addr} {nm qual:Str} {par:Arguments} {body:List Stmt} {sc:Scope} {dV kV doc pm cdv ct oc:Value} {an od:Option Addr} {osl:Array (Option Value)} {N ps:List Str} {q:Sp}
    (at_:K.lookup a=some ⟨oc,od,.func (PySem.W.fnOf nm qual par body sc dV kV doc pm an cdv ct),osl⟩) (cd:PySem.W.codeIn K cdv qual=true) (Sc:FnScope N ps sc) (ln: ∀ vs H Q E,q vs H Q E→vs.length=ps.length)
    (main: ∀ (A:Around) (out:List Env) (s:Shared) (H:Hp) (vs:List V) (Q:VK) (E:XK),Room n (A.deeper (envOfC qual sc s.heap.objs.size a cdv))→A.guards=some []→q vs H Q E→
      ∃ t,PSs (cxOf T P w K mg base N qual sc a cdv A out s H E) body t∧t {nx:=fun _ H'=>Q .non H',rt:=Q} (L2.start N vs) H):
    FnG P w K mg base T (n+1) a (PySem.W.fnOf nm qual par body sc dV kV doc pm an cdv ct) ps q:=by
  refine ⟨ln,fun A out s H args us vs Q E rm gd en bd rv told=>?_⟩
  have len:=ln _ _ _ _ told
  have keep:=fun b o e=>(en.bs b o e).1
  have KI:K.In s.heap:=en.mod.kin.keeps keep
  have cells: ∀ y∈ps.zip us,sc.names.lookup y.1=some .local∨(sc.names.lookup y.1=some .cell∧((cellsFrom (s.heap.objs.size+1) sc.names []).lookup y.1).isSome=true):=fun y hy=>by
    rcases Sc.par y.1 (List.of_mem_zip (show (y.1,y.2)∈ps.zip us from hy)).1 with z|z
    · exact .inl z
    · exact .inr ⟨z,PySem.W.cellsFrom_some _ _ _ (.inl z)⟩
  refine codeAny_call_function rm.depth (KI _ _ at_) rfl Sc.co Sc.gen rfl (PySem.W.codeRec_of KI cd) (bd _ _ _ _ ?_)
  refine wpAny_newFunctionEnv_cells Sc.kind cells fun env he s1 x=>?_
  subst he
  refine ⟨(en.mod.nolimit.keeps keep).keeps x.toInCall.keep,codeAny_func ?_⟩
  obtain ⟨t,run,wish⟩:=main A out s H vs Q E (rm.deeper _) gd told
  have I:Inv (cxOf T P w K mg base N qual sc a cdv A out s H E) [] (L2.start N vs) H s1:=inv_start Sc rm.hd en len rv x
  refine wpAny_mono (run.run [] s1 (L2.start N vs) H _ I wish) (fun fl s2 back=>?_) fun _ _ z=>z
  cases fl with
  | ret u=>
    obtain ⟨v,σ1,H1,J,rv1,q1⟩:=back
    exact ⟨v,H1,J.os,J.bare,J.base,J.hok,rv1,q1⟩
  | next=>
    obtain ⟨σ1,H1,J,q1⟩:=back
    exact ⟨.non,H1,J.os,J.bare,J.base,J.hok,rfl,q1⟩
  |brk=>exact (show False by obtain ⟨_,_,_,z⟩:=back;exact z).elim
  |cont=>exact (show False by obtain ⟨_,_,_,z⟩:=back;exact z).elim
theorem sh_of {pd:PD} {tab:Str→Option MFn} {k:Nat} {f:Str} {a:Addr} {fd:FuncData} {ps:List Str} {X:Cx} (hK:X.K=G.K) (Df:DefAt G pd tab f a fd ps) {n:Nat} {kws:List Str} (h:(f,n,kws)∈pd.shp):ShOk G (callN tab k) X f fd ps n kws:=by
  obtain ⟨st,N,c,df,_,_,ht,sh⟩:=Df.ex
  have b:=sh n kws h
  exact ⟨_,by rw [hK];exact b,fills_of ht b.1 k⟩
theorem fn_ok {pd:PD} {tab:Str→Option MFn} {k:Nat} {f:Str} {a:Addr} {fd:FuncData} {ps:List Str} (hwd:w=G.w) (gl:Glob G mg pd) (rows:Rows G mg pd tab)
    (ih: ∀ f a fd ps,DefAt G pd tab f a fd ps→FnG P w G.K mg base (L2.CX P w) (2*k+2) a fd ps (spC G (callN tab k) f ps.length))
    (Df:DefAt G pd tab f a fd ps):FnG P w G.K mg base (L2.CX P w) (2*k+3+1) a fd ps (spC G (callN tab (k+1)) f ps.length):=by
  obtain ⟨st,N,c,df,⟨x,qual,oc,od,dV,kV,doc,pm,an,cdv,ct,osl,rfl,lk,hcd⟩,S,ht,_⟩:=Df.ex
  refine fnG_of lk hcd S (fun vs H Q E h=>h.1) fun A outer s H vs Q E hr hgd h=>?_
  obtain ⟨hl,h0,Φ,ds,ld,cf,aft⟩:=h
  have hpl:ps.length≤N.length:=by have z:=congrArg List.length S.pre;rw [List.length_take] at z;omega
  let XX:Cx:=cxOf (L2.CX P w) P w G.K mg base N qual (defScope st) a cdv A outer s H E
  have gb:GoodB G (pd.cc G.bare N (defScope st)) XX:=⟨rfl,rfl,S.nd,rfl,rfl,hr.units,hwd,hgd,gl.blt,gl.con,gl.conT,gl.exs,gl.xr,gl.sub,gl.cls,gl.fld,gl.clb,gl.ceq,gl.isx,gl.opx,gl.fnx,fun a a' C e=>by rw [gl.cold] at e;cases e⟩
  have g:Good G k (callN tab k) (pd.cc G.bare N (defScope st)) (fun cls d _ H=>E cls d H) XX:=⟨gb,rfl,gl.cold,takes_of rfl rfl rfl rfl,hr,fun _ _=>rfl,passes_of rfl,fun _=>⟨rfl,rfl⟩,fun f hf=>by
      obtain ⟨a,fd,ps,g1,g2,g3,Df⟩:=rows.fns f hf
      exact ⟨a,fd,ps,g1,g2,g3,ih f a fd ps Df,fun n kws h=>sh_of rfl Df h⟩,fun c hc=>by
      obtain ⟨C,a,fd,ps,g1,g2,Df⟩:=rows.news c hc
      exact ⟨C,a,fd,ps,g1,g2,ih _ a fd ps Df,fun n kws h=>sh_of rfl Df h⟩,fun c C m n hC hm hin=>by
      obtain ⟨a,g2,g3,⟨fd,ps,Df,hs⟩|z⟩:=rows.mths c C m n hC hm hin
      · exact ⟨a,g2,g3,.inl ⟨fd,ps,ih _ a fd ps Df,sh_of rfl Df hs⟩⟩
      · exact ⟨a,g2,g3,.inr fun xs h hx=>bad_of z k xs h hx⟩,fun c m h=>by
      obtain ⟨C,p,a,fd,ps,g1,g2,g3,Df⟩:=rows.sts c m h
      exact ⟨C,p,a,fd,ps,g1,g2,g3,ih _ a fd ps Df,fun n kws h=>sh_of rfl Df h⟩⟩
  refine ⟨_,c.ok G k (callN tab k) _ _ g,⟨start0 N ds,h0⟩,ownR Φ,nob_ownR,⟨?_,fun i v z=>absurd z (nob_ownR i v), ?_⟩, ?_⟩
  · show SlOk (start0 N ds) (L2.start N vs)
    unfold start0 L2.start
    rw [ld]
    exact slok_start _ ld
  · show Cf G H h0 (slp (start0 N ds) (L2.start N vs)++ow (ownR Φ))
    unfold start0 L2.start
    rw [ld,slp_start _ ld,ow_ownR]
    exact cf
  · simp only [callN,ht,runFn,fill_full (ld.trans hl),ld.trans hl,if_true] at aft
    cases e:c.m (callN tab k) ⟨start0 N ds,h0⟩ with
    | nx s1=>
      simp only [e] at aft
      intro σ1 H1 c1
      refine aft .non H1 ?_
      have c2:=(c1.simple (d:=.non) rfl).cf
      rw [show ow ((R.own (.fz .non),V.non)::ownR Φ)=(.fz .non,.non)::Φ by show _::ow (ownR Φ)=_;rw [ow_ownR]] at c2
      exact Cf.dropN c2
    | rt o s1=>
      simp only [e] at aft
      intro σ1 v H1 c1
      refine aft v H1 ?_
      have c2:=c1.cf
      rw [show ow ((R.own o,v)::ownR Φ)=(o,v)::Φ by show _::ow (ownR Φ)=_;rw [ow_ownR]] at c2
      exact Cf.dropN c2
    | exc cn d s1=>
      simp only [e] at aft
      rintro σ1 cls dx H1 ⟨C,fl,b,v,e1,e2,e3,e4,c5⟩
      subst e1;subst e3
      refine aft C fl b v H1 e2 e4 ?_
      have c2:=c5.cf
      rw [show ow ((R.own (.fz d),v)::ownR Φ)=(.fz d,v)::Φ by show _::ow (ownR Φ)=_;rw [ow_ownR]] at c2
      exact Cf.dropN c2
    |bk s1=>simp only [e] at aft;exact aft.elim
    |ct s1=>simp only [e] at aft;exact aft.elim
    |bad=>simp only [e] at aft;exact aft.elim
theorem all_ok {pd:PD} {tab:Str→Option MFn} (hwd:w=G.w) (gl:Glob G mg pd) (rows:Rows G mg pd tab) (k:Nat):
    ∀ f a fd ps,DefAt G pd tab f a fd ps→FnG P w G.K mg base (L2.CX P w) (2*k+2) a fd ps (spC G (callN tab k) f ps.length):=by
  induction k with
  | zero=>
    intro f a fd ps Df
    refine ⟨fun vs H Q E h=>h.1,fun A outer s H args us vs Q E hr _ he hb hv h=>?_⟩
    obtain ⟨_,h0,Φ,ds,ld,cf,aft⟩:=h
    exact aft.elim
  | succ k ih=>
    intro f a fd ps Df
    exact fn_ok hwd gl rows ih Df
end
end
end Mi
namespace Mi
open PySem PySem.Spec PyProof.Rows L2
def dedup:List Str→List Str→List Str
  |[],acc=>acc.reverse
  |x::r,acc=>if acc.contains x then dedup r acc else dedup r (x::acc)
def mkN (st:Stmt):List Str:=
  dedup (((defArgs st).args++(defArgs st).kwonlyargs).map (·.arg)++((defScope st).names.filterMap fun (n,k)=>match k with| .local=>some n| .cell=>some n|_=>none)++((defScope st).more.filterMap fun (n,c)=>match c with| .str x=>if n==("fast":Str) then some x else none|_=>none)) []
def mkP (st:Stmt):List Str:=((defArgs st).args++(defArgs st).kwonlyargs).map (·.arg)
def conOf (l:List (Str×D)) (x:Str):Option D:=match l with
  |[]=>none
  |(y,d)::r=>if x=y then some d else conOf r x
def funScB (N ps:List Str) (sc:Scope):Bool:=
  funK sc&&!sc.isCoroutine&&!sc.isGenerator&&decide N.Nodup&&decide (N.take ps.length=ps)&&ps.all (fun x=>locB sc x||celB sc x)&&sc.names.all (fun y=>match y.2 with| .free=>false|_=>true)
theorem funSc_of {N ps:List Str} {sc:Scope} (h:funScB N ps sc=true):FnScope N ps sc:=by
  simp only [funScB,Bool.and_eq_true,Bool.not_eq_true',decide_eq_true_eq,List.all_eq_true] at h
  obtain ⟨⟨⟨⟨⟨⟨h1,h2⟩,h3⟩,h4⟩,h5⟩,h6⟩,h7⟩:=h
  refine ⟨funK_of h1,h2,h3,h4,h5,fun x hx=>?_,fun y hy e=>?_⟩
  · have:=h6 x hx
    simp only [Bool.or_eq_true] at this
    rcases this with z|z
    · exact .inl (loc_of z)
    · exact .inr (cel_of z)
  · have:=h7 y hy
    rw [e] at this
    cases this
theorem def_mk {G:GE} {pd:PD} {tab:Str→Option MFn} {f:Str} {st:Stmt} {a:Addr} {fd:FuncData} {m:C} {np:Nat} {df:List D} (F:FunA G.K st a fd) (hS:funScB (mkN st) (mkP st) (defScope st)=true) (ht:tab f=some ⟨mkN st,np,m,df⟩) (hn:(mkP st).length=np)
    (hm:(turn (pd.cc G.bare (mkN st) (defScope st)) (defBody st)).map (·.m)=some m) (b: ∀ n kws,(f,n,kws)∈pd.shp→BindSh G G.K fd (mkP st) n kws (rest ⟨mkN st,np,m,df⟩ (n+kws.length))):DefAt G pd tab f a fd (mkP st):=by
  simp only [Option.map_eq_some_iff] at hm
  obtain ⟨c,_,e⟩:=hm
  subst e
  subst hn
  exact ⟨⟨st,mkN st,c,df,F,funSc_of hS,ht,b⟩⟩
theorem funA_mk {K:PySem.W.Frag} {x qual:Str} {st:Stmt} {f:Addr} {oc:Value} {od an:Option Addr} {osl:Array (Option Value)} {dV kV doc pm cdv ct:Value} (l:K.lookup f=some ⟨oc,od,.func (PySem.W.fnOf x qual (defArgs st) (defBody st) (defScope st) dV kV doc pm an cdv ct),osl⟩)
    (c:PySem.W.codeIn K cdv qual=true):FunA K st f (PySem.W.fnOf x qual (defArgs st) (defBody st) (defScope st) dV kV doc pm an cdv ct):=⟨x,qual,oc,od,dV,kV,doc,pm,an,cdv,ct,osl,rfl,l,c⟩
def clsBody:Stmt→List Stmt
  | .ClassDef (body:=b) .. =>b
  |_=>[]
def spL (K:PySem.W.Frag) (bare:Bool) (call:Call):Sp:=fun vs H Q E=>vs.length=1∧∀ G:GE,G.K=K→G.bare=bare→spC G call "law" 1 vs H Q E
theorem spL_of {K:PySem.W.Frag} {bare:Bool} {call:Call} {H:Hp} {a:Addr} {ns:List Int} {h':List O} (hS:SqL K H a (ns.map V.int)) (e:call "law" [.scr ns] []= .ok (.fz (.bl true)) h'):spL K bare call [.ref a] H (fun v _=>v= .bl true) (fun _ _ _=>False):=by
  refine ⟨rfl,fun G hK _=>⟨rfl,[],[],[.scr ns],rfl, ?_, ?_⟩⟩
  · refine Cf.fz1.mpr ⟨[],[],⟨rfl,rfl,List.nodup_nil⟩,a,rfl, ?_⟩
    subst hK
    rcases hS with z|z
    · exact .inl ⟨z,by simp⟩
    · exact .inr z
  · rw [e]
    exact fun v H' c=>c.bl
theorem fn_law {P:Program} {w:World} {mg:Str→Option Value} {base:Heap} {G:GE} {a:Addr} {fd:FuncData} {ps:List Str} {k:Nat} {call:Call} (hl:ps.length=1) (F:FnG P w G.K mg base (L2.CX P w) k a fd ps (spC G call "law" ps.length)):FnG P w G.K mg base (L2.CX P w) k a fd ps (spL G.K G.bare call):=
  ⟨fun vs H Q E h=>h.1.trans hl.symm,fun A out s H args us vs Q E rm gd en bd rv h=>F.go A out s H args us vs Q E rm gd en bd rv (by rw [hl];exact h.2 G rfl rfl)⟩
theorem callG {P:Program} {w:World} {K:PySem.W.Frag} {mg mb:Str→Option Value} {T:CXT} {n:Nat} {fa l:Addr} {fd:FuncData} {x:Str} {q:Sp} {s1:Shared} {its:List Value} {ns:List Int}
    (KI:K.In s1.heap) (gl:s1.heap.Ns mainGlobals mg) (bl:s1.heap.Ns builtinsNs mb) (boot: ∀ x:Str,x≠"__name__"→mb x=bootBuiltins x) (lim:s1.heap.NoLimit) (gens:s1.gens= #[])
    (at_:s1.heap.get? l=some {cls:=.type "list",data:=.seq its.toArray}) (hin:IntsAre its ns) (few:ns.length≤sizeLine) (rm:Room n callerA)
    (F: ∀ base:Heap,K.In base→base.Ns mainGlobals mg→FnG P w K mg base T n fa fd [x] q) (bind1: ∀ (s:Shared) (u:Value),BindsTo s fd ⟨[u],[]⟩ [(x,u)])
    (told: ∀ H:Hp,SqL K H l (ns.map V.int)→q [.ref l] H (fun v _=>v= .bl true) fun _ _ _=>False) (none_: ∀ H e s',T [] H s1 (fun _ _ _=>False) e s'→False):
    codeAny (model P w) callerA (.call (.ref fa) ⟨[.ref l],[]⟩) (fun r s'=>r= .ok (.ret (.bool true))∧OldK s1.heap s'.heap∧s'.os=s1.os∧AllBare s'.gens) s1:=by
  have vals:=vals_ints hin
  have main: ∀ H:Hp,(∀ b,H b=none∨(b=l∧∃ o xs,H b=some (.frz o (.lst xs))))→SqL K H l (ns.map V.int)→HOk P w H s1.heap→(H l≠none→K.lookup l=none)→
      codeAny (model P w) callerA (.call (.ref fa) ⟨[.ref l],[]⟩) (fun r s'=>r= .ok (.ret (.bool true))∧OldK s1.heap s'.heap∧s'.os=s1.os∧AllBare s'.gens) s1:=by
    intro H only sq hok hK
    have there: ∀ {b:Addr} {o:Obj},s1.heap.get? b=some o→H b=none→(hidT s1.heap H).get? b=some o:=fun e z=>hidT_get e z
    have free: ∀ {b:Addr} {o:Obj} {es:Array DictEntry} {ep:Nat},s1.heap.get? b=some o→o.data= .dict es ep→H b=none:=fun {b o es ep} e dd=>by
      rcases only b with z|⟨rfl,_⟩
      · exact z
      · rw [at_] at e
        cases e
        cases (show Data.seq its.toArray _=Data.dict es ep from dd)
    have nsAt: ∀ {b:Addr} {m:Str→Option Value},s1.heap.Ns b m→(hidT s1.heap H).Ns b m:=fun {b m} ⟨o,es,ep,e,dd,r⟩=>⟨o,es,ep,there e (free e dd),dd,r⟩
    have KB:K.In (hidT s1.heap H):=fun b o e=>there (KI b o e) (by
      rcases only b with z|⟨rfl,o',xs,z⟩
      · exact z
      · rw [hK (by rw [z];simp)] at e;cases e)
    obtain ⟨mc,lim1,lim2⟩:=lim
    have en:Env0 P w K mg (hidT s1.heap H) callerA [] s1 H:=⟨rfl,⟨KB,nsAt gl,⟨mb,nsAt bl,boot⟩,⟨mc,nsAt lim1,lim2⟩⟩,fun b o e=>of_hidT e,Nat.le_of_eq (hidT_size _ _),trivial,(fun b hb=>nomatch hb),hok,.of_eq gens⟩
    refine codeAny_mono ((F _ KB (nsAt gl)).go callerA [] s1 H ⟨[.ref l],[]⟩ [.ref l] [.ref l] _ _ rm rfl en (bind1 s1 (.ref l)) (.cons rfl .nil) (told H sq)) fun res s2 back=>?_
    cases res with
    |error e=>exact (none_ H e s2 back).elim
    | ok fl=>
      cases fl with
      | ret u=>
        obtain ⟨v,H2,os,bare,un,hok2,rv,ev⟩:=back
        have ev':v= .bl true:=ev
        subst ev'
        cases (show u=Value.bool true from rv)
        refine ⟨rfl,OldK.of_keep fun b o e=>?_,os,bare⟩
        rcases only b with z|⟨_,ob,xs,z⟩
        · exact un.keep b o e z (fun z=>nomatch z) (fun z=>nomatch z)
        · have f1:=(hok b _ z).1
          rw [e] at f1
          cases f1
          exact (hok2 b _ (un.frzs b _ _ z)).1
      |_=>all_goals exact False.elim back
  have lenV:=hin.length
  cases hk:K.lookup l with
  | some o=>
    have e:=KI l o hk
    rw [at_] at e
    cases e
    refine main (fun _=>none) (fun _=>.inl rfl) (.inr ⟨_,its.toArray,_,hk,rfl,rfl,rfl, ?_,by simpa using vals⟩) (fun b u z=>nomatch z) fun z=>absurd rfl z
    rw [List.size_toArray,lenV];exact few
  | none=>
    let H:Hp:=fun b=>if b=l then some (.frz {cls:=.type "list",data:=.seq its.toArray} (.lst (ns.map V.int))) else none
    have Hl: ∀ b u,H b=some u→b=l∧u= .frz {cls:=.type "list",data:=.seq its.toArray} (.lst (ns.map V.int)):=fun b u z=>by
      by_cases hb:b=l
      · have z2:=(if_pos hb).symm.trans z
        cases z2
        exact ⟨hb,rfl⟩
      · have z2:=(if_neg hb).symm.trans z
        cases z2
    refine main H (fun b=>?_) (.inl (.inr ⟨{cls:=.type "list",data:=.seq its.toArray},if_pos rfl⟩)) (fun b u z=>?_) fun _=>hk
    · by_cases hb:b=l
      · exact .inr ⟨hb,_,_,if_pos hb⟩
      · exact .inl (if_neg hb)
    · obtain ⟨rfl,rfl⟩:=Hl b u z
      exact ⟨at_,by rw [List.length_map];exact few,its,_,vals,at_⟩
theorem cx_no {P:Program} {w:World} {H:Hp} {s:Shared} {e:Value} {s':Shared} (h:L2.CX P w [] H s (fun _ _ _=>False) e s'):False:=by
  obtain ⟨_,_,_,_,_,_,_,_,_,_,_,_,z⟩:=h
  exact z
def MgCon (mg:Str→Option Value) (x:Str) (d:D):Prop:= ∀ v,simple d=some v→∃ u,mg x=some u∧RelV v u
def MgTup (K:PySem.W.Frag) (mg:Str→Option Value) (x:Str):D→Prop
  | .tup ds=> ∃ a vs,mg x=some (.ref a)∧TupK K a vs∧ds.map simple=vs.map some
  |_=>True
theorem tup_all {K:PySem.W.Frag} {mg:Str→Option Value}: ∀ {l:List (Str×D)},(∀ p∈l,MgTup K mg p.1 p.2)→∀ x ds,conOf l x=some (.tup ds)→∃ a vs,mg x=some (.ref a)∧TupK K a vs∧ds.map simple=vs.map some
  |[],_,x,ds,e=>by cases e
  | (y,d0)::l,h,x,ds,e=>by
    unfold conOf at e
    split at e
    · rename_i hx
      cases e
      subst hx
      exact h (x,.tup ds) (by simp)
    · exact tup_all (fun p hp=>h p (by simp [hp])) x ds e
theorem con_all {mg:Str→Option Value}: ∀ {l:List (Str×D)},(∀ p∈l,MgCon mg p.1 p.2)→∀ x d v,conOf l x=some d→simple d=some v→∃ u,mg x=some u∧RelV v u
  |[],_,x,d,v,e,_=>by cases e
  | (y,d0)::r,h,x,d,v,e,es=>by
    unfold conOf at e
    split at e
    · rename_i hx
      cases e
      subst hx
      exact h (x,d0) (by simp) v es
    · exact con_all (fun p hp=>h p (by simp [hp])) x d v e es
end Mi
namespace Mi
open PySem PySem.Spec PyProof.Rows L2
def lookA {α:Type}:List (Str×α)→Str→Option α
  |[],_=>none
  |(x,a)::r,c=>if c=x then some a else lookA r c
theorem lookA_mem {α:Type} {c:Str} {a:α}: ∀ {l:List (Str×α)},lookA l c=some a→(c,a)∈l
  |[],e=>by cases e
  | (x,b)::r,e=>by
    unfold lookA at e
    split at e
    · rename_i h
      cases e
      subst h
      exact List.mem_cons_self ..
    · exact List.mem_cons_of_mem _ (lookA_mem e)
def initGet:List Stmt→Option (Str×Str×Str×Nat×List Pos)
  | [.Expr (.Call (.Attribute (.Name b q1) i q2) [.Name s1 q3,.Constant (.str m) j q4] [] q5) q6,.Assign [.Attribute (.Name s2 q7) f q8] (.Name f2 q9) q10]=>
    if i="__init__"∧s1="self"∧s2="self"∧f2=f then some (b,f,m,j,[q1,q2,q3,q4,q5,q6,q7,q8,q9,q10]) else none
  |_=>none
theorem initGet_ok {l:List Stmt} {b f m:Str} {j:Nat} {q:List Pos} (h:initGet l=some (b,f,m,j,q)):l=initBody b f m j q∧q.length=10:=by
  unfold initGet at h
  split at h
  · split at h
    · rename_i hc
      obtain ⟨rfl,rfl,rfl,rfl⟩:=hc
      cases h
      exact ⟨rfl,rfl⟩
    · cases h
  · cases h
def initB (st:Stmt) (b f:Str):Bool:=(match initGet (defBody st) with
  |some (b',f',_,_,q)=>decide (b'=b)&&decide (f'=f)&&((q.getD 1 ⟨0,0,0,0⟩).endLine==(q.getD 4 ⟨0,0,0,0⟩).line)
  |none=>false)&&funScB ["self",f] ["self",f] (defScope st)&&locB (defScope st) "self"&&locB (defScope st) f&&glB (defScope st) b&&!(f==("__debug__":Str))&&!(f==("__classdict__":Str))
theorem initB_ok {st:Stmt} {b f:Str} (h:initB st b f=true):InitTxt st b f:=by
  simp only [initB,Bool.and_eq_true,Bool.not_eq_true'] at h
  obtain ⟨⟨⟨⟨⟨⟨h0,h1⟩,h2⟩,h3⟩,h4⟩,h5⟩,h6⟩:=h
  refine ⟨?_,funSc_of h1,loc_of h2,loc_of h3,gl_of h4,h5,h6⟩
  cases e:initGet (defBody st) with
  |none=>rw [e] at h0;cases h0
  | some p=>
    obtain ⟨b',f',m,j,q⟩:=p
    rw [e] at h0
    simp only [Bool.and_eq_true,decide_eq_true_eq] at h0
    obtain ⟨⟨rfl,rfl⟩,h0⟩:=h0
    obtain ⟨e1,e2⟩:=initGet_ok e
    exact ⟨m,j,q,e2,e1,h0⟩
section
variable {K:PySem.W.Frag} {h:Heap} {mg:Str→Option Value}
theorem binit_own (X:K.In h) (G:h.Ns mainGlobals mg) {b:Str} {SB:Addr} {initId:String} (hh:PySem.W.handedIn (.builtin initId)=true) (db:(b==("__debug__":Str))=false) (q:PySem.W.nsIn K mainGlobals b=some (some (.ref SB)))
    (sp:PySem.W.specialIn K (.ref SB) "__getattribute__"=some (some (.builtin "type.__getattribute__"))) (rd:PySem.W.readsIn K SB (.type "type")=true) (fc:PySem.W.findCls K (.ref SB) (.type "type") "__init__"=some (.val (.builtin initId))):BInit K mg b initId:=
  ⟨hh,db,.inl ⟨SB,.type "type",PySem.W.mg_of X G q,sp,rd,fc⟩⟩
theorem binit_blt (X:K.In h) (G:h.Ns mainGlobals mg) {b:Str} {B initId:String} (hh:PySem.W.handedIn (.builtin initId)=true) (db:(b==("__debug__":Str))=false) (z:PySem.W.nsIn K mainGlobals b=some none) (bt:bootBuiltins b=some (.type B))
    (km:PySem.W.kitMeta B=true) (st:Manifest.isStub B=false) (hn:b≠"__name__") (fc:PySem.W.findCls K (.type B) (.type "type") "__init__"=some (.val (.builtin initId))):BInit K mg b initId:=
  ⟨hh,db,.inr ⟨B,PySem.W.mg_none_of X G z,bt,PySem.W.kitMeta_of km,st,fc,hn⟩⟩
structure XLook (K:PySem.W.Frag) (C:Addr):Prop where
  sa:PySem.W.findIn K (.ref C) "__setattr__"=some (some (.builtin "object.__setattr__"))
  exC:PySem.W.subIn K (.ref C) (.type "BaseException")=some true
  tyC:PySem.W.typeIn K (.ref C)=some (.type "type")
  kC:PySem.W.keepIn K (.ref C)=true
  ga:PySem.W.findIn K (.ref C) "__getattribute__"=some (some (.builtin "BaseException.__getattribute__"))
  gg:PySem.W.findIn K (.ref C) "__getattr__"=some none
  hd:PySem.W.hasDictIn K C=true
  ha:PySem.W.findIn K (.ref C) "__class__"=some (some (.builtin "object.__class__"))
  hn:PySem.W.specialIn K (.builtin "object.__class__") "__get__"=some (some (.builtin "getset_descriptor.__get__"))
  ht:PySem.W.takesIn K (.builtin "object.__class__")=some true
  hm:PySem.W.mroIn K C (.type "object")=some true
theorem XLook.exc {C:Addr} (L:XLook K C):ExcC K C:=⟨L.ga,L.gg,L.exC,L.hd,L.ha,L.hn,L.ht,L.hm⟩
theorem xrow_mk (X:K.In h) (G:h.Ns mainGlobals mg) {c f b qual:Str} {C fI:Addr} {st:Stmt} {tl:List Value} {newId initId:String} (hB:XB tl newId initId) (qC:PySem.W.nsIn K mainGlobals c=some (some (.ref C))) (db:(c==("__debug__":Str))=false)
    {nm q:Str} {N:Addr} {bs bm:List Value} {sno:List Str} {sub:List Value} {abc0:Bool} {cl:Option Bool} {ddd:Option Addr} {k0 k1 k2 k3 k5:Option Value} (lC:K.lookup C=some (excClassObj nm q C N bs bm true sno sub abc0 cl ddd k0 k1 k2 k3 k5 newId)) (hm:refsT tl bm=true)
    (L:XLook K C) (hno:PySem.W.findIn K (.ref C) f=some none) (BI:BInit K mg b initId) (iC:PySem.W.findIn K (.ref C) "__init__"=some (some (.ref fI))) (tI:PySem.W.typeIn K (.ref fI)=some (.type "function"))
    {oc:Value} {od an:Option Addr} {osl:Array (Option Value)} {kV doc pm cdv ct:Value} (l:K.lookup fI=some ⟨oc,od,.func (PySem.W.fnOf "__init__" qual (defArgs st) (defBody st) (defScope st) .none kV doc pm an cdv ct),osl⟩)
    (cI:PySem.W.codeIn K cdv qual=true) (kI:PySem.W.keepIn K (.ref fI)=true) (I:InitTxt st b f) (hb: ∀ (kV doc pm:Value) (an:Option Addr) (cdv ct:Value) (us:List Value),us.length=2→bindArgs (PySem.W.fnOf "__init__" qual (defArgs st) (defBody st) (defScope st) .none kV doc pm an cdv ct) ⟨us,[]⟩=pure ((["self",f]:List Str).zip us))
    (hk: ∀ (kV doc pm:Value) (an:Option Addr) (cdv ct u v:Value),bindArgs (PySem.W.fnOf "__init__" qual (defArgs st) (defBody st) (defScope st) .none kV doc pm an cdv ct) ⟨[u],[(f,v)]⟩=pure (((["self",f]:List Str)).zip [u,v])):XRow K mg c C f:=
  have F:=fun_mk (st:=st) l cI kI
  ⟨⟨initId,fI,b,"__init__",qual,st,_,⟨⟨tl,newId,hB,_,_,_,_,_,_,_,_,_,_,_,_,_,_,_,lC,hm⟩,L.sa,L.exC,L.tyC,L.kC⟩,hno,BI,F,I,F.binds (ps:=(["self",f]:List Str)) hb,iC,tI⟩,PySem.W.mg_of X G qC,db,⟨L.ga,L.gg,L.exC,L.hd⟩,
    initId,fI,b,"__init__",qual,st,_,⟨⟨tl,newId,hB,_,_,_,_,_,_,_,_,_,_,_,_,_,_,_,lC,hm⟩,L.sa,L.exC,L.tyC,L.kC⟩,hno,BI,F,I,(fun s u v=>BindsTo.of_eq (hk _ _ _ _ _ _ u v)),iC,tI⟩
theorem exm_mk {C:Addr} {cls:Value} {b b':Bool} (L:XLook K C) (hs:PySem.W.subIn K cls (.ref C)=some b) (e:b'=b):PySem.W.exmOne K cls (.ref C)=some b':=by
  rw [e];exact PySem.W.exm_ref L.exC L.hd L.tyC hs
def IsxOk (K:PySem.W.Frag) (mg:Str→Option Value) (C:Addr) (nm:Str) (b:Bool):Prop:= ∃ u cv,RelV u cv∧(∀ w,RelV u w→w=cv)∧((mg nm=some cv)∨(mg nm=none∧bootBuiltins nm=some cv∧nm≠"__name__"))∧PySem.W.kitOne K (.ref C) cv=some b
theorem isx_own (X:K.In h) (G:h.Ns mainGlobals mg) {nm:Str} {C D:Addr} {b:Bool} (q:PySem.W.nsIn K mainGlobals nm=some (some (.ref D))) (hd:PySem.W.hasDictIn K D=true) (ty:PySem.W.typeIn K (.ref D)=some (.type "type")) (hs:PySem.W.subIn K (.ref C) (.ref D)=some b) (hne:(Value.ref C==Value.ref D)=false):IsxOk K mg C nm b:=by
  refine ⟨.ref D,.ref D,rfl,fun w r=>r,.inl (PySem.W.mg_of X G q), ?_⟩
  obtain ⟨cd,hc,_⟩:=PySem.W.any_some hd
  have e2:((PySem.W.clsIn K D).isSome&&PySem.W.typeIn K (.ref D)==some (.type "type"))=true:=by rw [hc,ty]<;>rfl
  show (if (Value.ref C==Value.ref D)=true then some true else (if ((PySem.W.clsIn K D).isSome&&PySem.W.typeIn K (.ref D)==some (.type "type"))=true then PySem.W.subIn K (.ref C) (.ref D) else none))=some b
  rw [hne,if_neg Bool.false_ne_true,if_pos e2]
  exact hs
theorem isx_blt (X:K.In h) (G:h.Ns mainGlobals mg) {nm:Str} {C:Addr} {T:String} {b:Bool} (z:PySem.W.nsIn K mainGlobals nm=some none) (bt:bootBuiltins nm=some (.type T)) (hn:nm≠"__name__") (km:PySem.W.kitMeta T=true) (hs:PySem.W.subIn K (.ref C) (.type T)=some b):IsxOk K mg C nm b:=by
  refine ⟨.ty T,.type T,rfl,fun w r=>r,.inr ⟨PySem.W.mg_none_of X G z,bt,hn⟩, ?_⟩
  show (if (Value.ref C==Value.type T)=true then some true else (if PySem.W.kitMeta T=true then PySem.W.subIn K (.ref C) (.type T) else none))=some b
  rw [if_neg (show ¬(Value.ref C==Value.type T)=true from fun z=>by cases z),if_pos km]
  exact hs
end
def shpOf (l:List (Str×Nat×List Str)) (f:Str):List (Nat×List Str):=l.filterMap fun p=>if p.1=f then some p.2 else none
theorem shp_mem {l:List (Str×Nat×List Str)} {f:Str} {n:Nat} {kws:List Str} (h:(f,n,kws)∈l):(n,kws)∈shpOf l f:=List.mem_filterMap.mpr ⟨_,h,by simp⟩
section
variable {G:GE} {K:PySem.W.Frag} {fd:FuncData} {ps:List Str} {f:Str} {l:List (Str×Nat×List Str)}
theorem rest_all {N:List Str} {np:Nat} {m:C} {df:List D}:rest ⟨N,np,m,df⟩ np=[]:=by
  unfold rest
  show df.drop (df.length - (np - np))=[]
  rw [Nat.sub_self,Nat.sub_zero,List.drop_length]
theorem bs_all {N:List Str} {np:Nat} {m:C} {df:List D} (hp:ps.length=np) (hb: ∀ (s:Shared) (us:List Value),K.In s.heap→us.length=np→BindsTo s fd ⟨us,[]⟩ (ps.zip us)):BindSh G K fd ps np [] (rest ⟨N,np,m,df⟩ (np+0)):=by
  rw [Nat.add_zero,rest_all]
  refine ⟨by simp [hp],[],[],.nil,fun _ _ _=>rfl,fun s us ks KI hu hk=>?_⟩
  rw [List.length_eq_zero_iff.mp hk,List.append_nil,List.append_nil]
  exact hb s us KI hu
theorem bs_one {N:List Str} {np:Nat} {m:C} {df:List D} (hs:shpOf l f=[(np,[])]) (b:BindSh G K fd ps np [] (rest ⟨N,np,m,df⟩ (np+0))): ∀ n kws,(f,n,kws)∈l→BindSh G K fd ps n kws (rest ⟨N,np,m,df⟩ (n+kws.length)):=fun n kws h=>by
  have z:=shp_mem h
  rw [hs] at z
  simp only [List.mem_singleton,Prod.mk.injEq] at z
  obtain ⟨rfl,rfl⟩:=z
  exact b
end
def geOf (K:PySem.W.Frag) (cls fns:List (Str×Addr)) (exc:List (Str×Addr×Str)) (bare:Bool) (w:World):GE:=⟨K,lookA cls,lookA fns,lookA exc,bare,none,w⟩
theorem glob_mk {K:PySem.W.Frag} {h:Heap} {mg:Str→Option Value} {clsT fnsT:List (Str×Addr)} {exT:List (Str×Addr×Str)} {bare:Bool} {w:World} {pd:PD}
    (blt: ∀ x∈blts,mg x=none) (con: ∀ x d v,pd.con x=some d→simple d=some v→∃ u,mg x=some u∧RelV v u) (conT: ∀ x ds,pd.con x=some (.tup ds)→∃ a vs,mg x=some (.ref a)∧TupK K a vs∧ds.map simple=vs.map some)
    (exs: ∀ p∈pd.exs,∃ C,lookA exT p.1=some (C,p.2)) (xr: ∀ p∈exT,XRow K mg p.1 p.2.1 p.2.2) (sub: ∀ p∈exT,∀ q∈exT,PySem.W.exmOne K (.ref p.2.1) (.ref q.2.1)=some (decide (p.1=q.1)))
    (cls: ∀ p∈clsT,L2.Cls K p.2∧mg p.1=some (.ref p.2)) (fld: ∀ p∈clsT,∀ f∈pd.flds,NoAttr K p.2 f) (clb: ∀ p∈clsT,∀ q∈clsT,ClsTwo K p.1 p.2 q.1 q.2) (ceq: ∀ p∈clsT,PySem.W.findIn K (.ref p.2) "__ne__"=some (some (.builtin "object.__ne__"))∧PySem.W.mroIn K p.2 (.type "object")=some true∧PySem.W.noSeq K p.2=true∧ClsX K p.2)
    (isx: ∀ p∈pd.isx,∀ C f,lookA exT p.1=some (C,f)→ExcC K C∧IsxOk K mg C p.2.1 p.2.2) (opx: ∀ p∈clsT,OpX K p.2) (fnx: ∀ p∈fnsT,p.1∈pd.names):Glob (geOf K clsT fnsT exT bare w) mg pd where
  blt:=blt
  con:=con
  conT:=conT
  exs:=fun c f e=>exs (c,f) e
  xr:=fun c C f e=>xr (c,C,f) (lookA_mem e)
  sub:=fun c C f c' C' f' e e'=>sub (c,C,f) (lookA_mem e) (c',C',f') (lookA_mem e')
  cls:=fun c C e=>cls (c,C) (lookA_mem e)
  fld:=fun c C f e hm=>fld (c,C) (lookA_mem e) f hm
  clb:=fun c C c' C' e e'=>clb (c,C) (lookA_mem e) (c',C') (lookA_mem e')
  ceq:=fun c C e=>ceq (c,C) (lookA_mem e)
  isx:=fun c C f nm b e hm=>isx (c,nm,b) hm C f e
  cold:=rfl
  opx:=fun c C e=>opx (c,C) (lookA_mem e)
  fnx:=fun f a e=>fnx (f,a) (lookA_mem e)
end Mi
namespace Mi
open PySem PySem.Spec PyProof.Rows L2
theorem lcL_map {call:Call} {g:Tg} {tt:B} {te:E} {vs:List Nat} {f:D→D} {p:D→Bool} {s:S}: ∀ (ds acc:List D),
    (∀ d∈ds,∃ s1,g (.fz d) s=some s1∧tt call s1= .ok (p d) s1∧(p d=true→∃ r,te call s1= .ok r s1∧take s1 r=some (f d,s1))∧(⟨wipeO s1.σ vs,s1.h⟩:S)=s)→
    fitsB (acc.length+ds.length)=true→lcL call g tt te vs ds acc s= .ok (acc++(ds.filter p).map f) s
  |[],acc,_,_=>by simp [lcL]
  | d ::ds,acc,h,hf=>by
    obtain ⟨s1,e1,e2,e3,e4⟩:=h d (by simp)
    have hf':fitsB (acc.length+1)=true:=by
      simp only [fitsB,decide_eq_true_eq,List.length_cons] at hf ⊢;omega
    simp only [lcL,e1,e2]
    cases hp:p d with
    | false=>
      simp only []
      rw [e4,lcL_map ds acc (fun x hx=>h x (by simp [hx])) (by simp only [fitsB,decide_eq_true_eq,List.length_cons] at hf ⊢;omega)]
      simp [hp]
    | true=>
      obtain ⟨r,e5,e6⟩:=e3 hp
      simp only [e5,e6,hf',if_true]
      rw [e4,lcL_map ds (acc++[f d]) (fun x hx=>h x (by simp [hx])) (by simp only [fitsB,decide_eq_true_eq,List.length_cons,List.length_append,List.length_nil] at hf ⊢;omega)]
      simp [hp]
theorem forL_inv {call:Call} {g:Tg} {body:C} (I:S→Prop): ∀ (ds:List D) (s:S),I s→
    (∀ d∈ds,∀ s,I s→∃ s1,g (.fz d) s=some s1∧∃ s2,(body call s1= .nx s2∨body call s1= .ct s2)∧I s2)→∃ s',forL call g body ds s= .nx s'∧I s'
  |[],s,hi,_=>⟨s,rfl,hi⟩
  | d::ds,s,hi,h=>by
    obtain ⟨s1,e1,s2,e2,i2⟩:=h d (by simp) s hi
    obtain ⟨s',e,i'⟩:=forL_inv I ds s2 i2 fun x hx=>h x (by simp [hx])
    refine ⟨s', ?_,i'⟩
    rcases e2 with e2|e2<;>simp only [forL,e1,e2,e]
theorem filt_true {α:Type}: ∀ l:List α,l.filter (fun _=>true)=l
  |[]=>rfl
  |a::l=>by rw [List.filter_cons,if_pos rfl,filt_true l]
theorem lcL_all {call:Call} {g:Tg} {te:E} {vs:List Nat} {f:D→D} {s:S} (ds:List D)
    (h: ∀ d∈ds,∃ s1,g (.fz d) s=some s1∧(∃ r,te call s1= .ok r s1∧take s1 r=some (f d,s1))∧(⟨wipeO s1.σ vs,s1.h⟩:S)=s) (hf:fitsB ds.length=true):lcL call g bYes te vs ds [] s= .ok (ds.map f) s:=by
  rw [lcL_map (p:=fun _=>true) (f:=f) ds [] (fun d hd=>by
    obtain ⟨s1,e1,e2,e3⟩:=h d hd
    exact ⟨s1,e1,rfl,fun _=>e2,e3⟩) (by simpa using hf),filt_true,List.nil_append]
def fin:Fl→Res
  | .rt o s=>.ok o s.h
  | .nx s=>.ok (.fz .non) s.h
  | .exc c d s=>.exc c d s.h
  |_=>.bad
theorem call_at {tab:Str→Option MFn} {f:Str} {mf:MFn} (h:tab f=some mf) {k:Nat} {ds:List D} {hp:List O} (σ:List (Option O)) (hn:ds.length=mf.np) (hs:start0 mf.N ds=σ):callN tab (k+1) f ds hp=fin (mf.body (callN tab k) ⟨σ,hp⟩):=by
  simp only [callN,h,runFn,fill_full hn,hn,if_true,hs,fin]
  all_goals (cases mf.body (callN tab k) ⟨σ,hp⟩<;>rfl)
theorem at0 {a:D} {r:List D}:atI (a::r) 0=some a:=atI_nat (j:=0) rfl
theorem at1 {a b:D} {r:List D}:atI (a::b::r) 1=some b:=atI_nat (j:=1) rfl
end Mi
namespace Mi
open PySem PySem.Spec PyProof.Rows L2
variable {call:Call} {s:S} {σ:List (Option O)} {h:List O} {α β:Type}
theorem y_bo {a:α} {f:α→S→Out β}:(Out.ok a s).bind f=f a s:=id rfl
theorem y_fo {a:α} {f:α→S→Fl}:(Out.ok a s).flow f=f a s:=id rfl
theorem y_ob {a:α} {f:α→Option β}:(some a).bind f=f a:=id rfl
theorem xT_nx {f:S→Fl}:(Fl.nx s).then f=f s:=id rfl
theorem xT_rt {o:O} {f:S→Fl}:(Fl.rt o s).then f= .rt o s:=id rfl
theorem xT_exc {c:Str} {e:D} {f:S→Fl}:(Fl.exc c e s).then f= .exc c e s:=id rfl
theorem x_seq {a b:C}:cSeq a b call s=(a call s).then (b call):=id rfl
theorem x_nil:cNil call s= .nx s:=id rfl
def kIf (a b:C) (call:Call) (x:Bool) (s:S):Fl:=if x then a call s else b call s
theorem x_if {c:B} {a b:C}:cIf c a b call s=(c call s).flow (kIf a b call):=id rfl
theorem x_ifT {a b:C}:kIf a b call true s=a call s:=id rfl
theorem x_ifF {a b:C}:kIf a b call false s=b call s:=id rfl
def kGv (σ:List (Option O)) (h:List O) (i:Nat):Option (Option O)→Option (O×S)
  |some (some o)=>some (o,⟨σ.set i none,h⟩)
  |_=>none
def kRet2:Option (O×S)→Fl
  |some (o,s2)=>.rt o s2
  |none=>.bad
def kRet (x:R) (s:S):Fl:=kRet2 (give s x)
theorem x_ret {m:E}:cRet m call s=(m call s).flow kRet:=id rfl
theorem x_ret1 {x:R}:kRet x s=kRet2 (give s x):=id rfl
theorem x_ret2 {o:O}:kRet2 (some (o,s))= .rt o s:=id rfl
theorem x_gvO {o:O}:give s (.own o)=some (o,s):=id rfl
theorem x_gvB {i:Nat}:give ⟨σ,h⟩ (.bor i)=kGv σ h i (σ[i]?):=by
  show (match σ[i]? with|some (some o)=>_|_=>_)=_;cases σ[i]? with
  |none=>rfl
  |some z=>cases z<;>rfl
theorem x_gv {o:O} {i:Nat}:kGv σ h i (some (some o))=some (o,⟨σ.set i none,h⟩):=id rfl
theorem x_frz1 {d:D}:frz (.fz d)=d:=id rfl
theorem x_frz2 {l:List D}:frz (.lst l)= .lst l:=id rfl
def kPk (h:List O):Option (Option O)→Option D
  |some (some o)=>deref h (frz o)
  |_=>none
def kTk (σ:List (Option O)) (h:List O) (i:Nat):Option (Option O)→Option (D×S)
  |some (some o)=>some (frz o,⟨σ.set i (some (.fz (frz o))),h⟩)
  |_=>none
theorem x_pkO {o:O}:peek ⟨σ,h⟩ (.own o)=deref h (frz o):=id rfl
theorem x_pkB {i:Nat}:peek ⟨σ,h⟩ (.bor i)=kPk h (σ[i]?):=by
  show (match σ[i]? with|some (some o)=>_|_=>_)=_;cases σ[i]? with
  |none=>rfl
  |some z=>cases z<;>rfl
theorem x_pk {o:O}:kPk h (some (some o))=deref h (frz o):=id rfl
theorem x_tkO {o:O}:take s (.own o)=some (frz o,s):=id rfl
theorem x_tkB {i:Nat}:take ⟨σ,h⟩ (.bor i)=kTk σ h i (σ[i]?):=by
  show (match σ[i]? with|some (some o)=>_|_=>_)=_;cases σ[i]? with
  |none=>rfl
  |some z=>cases z<;>rfl
theorem x_tk {o:O} {i:Nat}:kTk σ h i (some (some o))=some (frz o,⟨σ.set i (some (.fz (frz o))),h⟩):=id rfl
theorem x_kpO {o:O}:keep s (.own o)=some (o,s):=id rfl
theorem x_dl {n:Nat}:deref h (.loc n)=(h[n]?).map frz:=id rfl
theorem x_d_bl {b:Bool}:deref h (.bl b)=some (.bl b):=id rfl
theorem x_d_int {b:Int}:deref h (.int b)=some (.int b):=id rfl
theorem x_d_str {b:Str}:deref h (.str b)=some (.str b):=id rfl
theorem x_d_tup {b:List D}:deref h (.tup b)=some (.tup b):=id rfl
theorem x_d_lst {b:List D}:deref h (.lst b)=some (.lst b):=id rfl
theorem x_d_scr {b:List Int}:deref h (.scr b)=some (.scr b):=id rfl
theorem x_d_dic {ks:List Key} {l:List D}:deref h (.dic ks l)=some (.dic ks l):=id rfl
def kVar (i:Nat) (s:S):Option (Option O)→Out R
  |some (some _)=>.ok (.bor i) s
  |_=>.bad
theorem x_var {i:Nat}:mVar i call ⟨σ,h⟩=kVar i ⟨σ,h⟩ (σ[i]?):=by
  show (match σ[i]? with|some (some o)=>_|_=>_)=_;cases σ[i]? with
  |none=>rfl
  |some z=>cases z<;>rfl
theorem x_var1 {i:Nat} {o:O}:kVar i s (some (some o))= .ok (.bor i) s:=id rfl
theorem x_con {d:D}:mCon d call s= .ok (.own (.fz d)) s:=id rfl
def kA3 (d:D) (ds:List D) (s:S):Out (List D):=.ok (d::ds) s
def kA2 (r:As) (call:Call):Option (D×S)→Out (List D)
  |some (d,s2)=>(r call s2).bind (kA3 d)
  |none=>.bad
def kA1 (r:As) (call:Call) (x:R) (s:S):Out (List D):=kA2 r call (take s x)
def kR2 (x:R) (rs:List R) (s:S):Out (List R):=.ok (x::rs) s
def kR1 (r:AsR) (call:Call) (x:R) (s:S):Out (List R):=(r call s).bind (kR2 x)
theorem x_aNil:aNil call s= .ok [] s:=id rfl
theorem x_aCons {a:E} {r:As}:aCons a r call s=(a call s).bind (kA1 r call):=id rfl
theorem x_a1 {r:As} {x:R}:kA1 r call x s=kA2 r call (take s x):=id rfl
theorem x_a2 {r:As} {e:D}:kA2 r call (some (e,s))=(r call s).bind (kA3 e):=id rfl
theorem x_a3 {e:D} {ds:List D}:kA3 e ds s= .ok (e::ds) s:=id rfl
theorem x_rNil:rNil call s= .ok [] s:=id rfl
theorem x_rCons {a:E} {r:AsR}:rCons a r call s=(a call s).bind (kR1 r call):=id rfl
theorem x_r1 {r:AsR} {x:R}:kR1 r call x s=(r call s).bind (kR2 x):=id rfl
theorem x_r2 {x:R} {rs:List R}:kR2 x rs s= .ok (x::rs) s:=id rfl
def kT3 (f:D→D→Option O) (d1 d2:D):Option R:=(f d1 d2).map R.own
def kT2 (f:D→D→Option O) (p2:Option D) (d1:D):Option R:=p2.bind (kT3 f d1)
def kTb (f:D→D→Option O) (x y:R) (s:S):Out R:=lift s ((peek s x).bind (kT2 f (peek s y)))
def kTa (f:D→D→Option O) (b:E) (call:Call) (x:R) (s:S):Out R:=(b call s).bind (kTb f x)
def kO2 (f:D→Option O) (d1:D):Option R:=(f d1).map R.own
def kO (f:D→Option O) (x:R) (s:S):Out R:=lift s ((peek s x).bind (kO2 f))
theorem x_two {f:D→D→Option O} {a b:E}:mTwo f a b call s=(a call s).bind (kTa f b call):=id rfl
theorem x_ta {f:D→D→Option O} {b:E} {x:R}:kTa f b call x s=(b call s).bind (kTb f x):=id rfl
theorem x_tb {f:D→D→Option O} {x y:R}:kTb f x y s=lift s ((peek s x).bind (kT2 f (peek s y))):=id rfl
theorem x_t2 {f:D→D→Option O} {p:D} {e:D}:kT2 f (some p) e=kT3 f e p:=id rfl
theorem x_t3 {f:D→D→Option O} {d e:D}:kT3 f d e=(f d e).map R.own:=id rfl
theorem x_one {f:D→Option O} {a:E}:mOne f a call s=(a call s).bind (kO f):=id rfl
theorem x_o {f:D→Option O} {x:R}:kO f x s=lift s ((peek s x).bind (kO2 f)):=id rfl
theorem x_o2 {f:D→Option O} {e:D}:kO2 f e=(f e).map R.own:=id rfl
def kTup (ds:List D) (s:S):Out R:=if fitsB ds.length then .ok (.own (.fz (.tup ds))) s else .bad
def kLst (ds:List D) (s:S):Out R:=if fitsB ds.length then .ok (.own (.lst ds)) s else .bad
theorem x_tup {r:As}:mTup r call s=(r call s).bind kTup:=id rfl
theorem x_lst {r:As}:mLst r call s=(r call s).bind kLst:=id rfl
theorem x_tupK0:kTup [] s= .ok (.own (.fz (.tup []))) s:=id rfl
theorem x_lstK0:kLst [] s= .ok (.own (.lst [])) s:=id rfl
theorem x_lstK1 {a:D}:kLst [a] s= .ok (.own (.lst [a])) s:=id rfl
theorem x_lstK2 {a b:D}:kLst [a,b] s= .ok (.own (.lst [a,b])) s:=id rfl
theorem x_lstK3 {a b c:D}:kLst [a,b,c] s= .ok (.own (.lst [a,b,c])) s:=id rfl
theorem x_lstK4 {a b c d:D}:kLst [a,b,c,d] s= .ok (.own (.lst [a,b,c,d])) s:=id rfl
theorem x_lstK5 {a b c d e:D}:kLst [a,b,c,d,e] s= .ok (.own (.lst [a,b,c,d,e])) s:=id rfl
theorem x_lstK6 {a b c d e f:D}:kLst [a,b,c,d,e,f] s= .ok (.own (.lst [a,b,c,d,e,f])) s:=id rfl
def kVal (x:R) (s:S):Out Bool:=lift s ((peek s x).bind truD)
def isBl:D→Option Bool
  | .bl b=>some b
  |_=>none
def kCmp (x:R) (s:S):Out Bool:=lift s ((peek s x).bind isBl)
def kNotB (b:Bool) (s:S):Out Bool:=.ok (!b) s
def kOrB (b:B) (call:Call) (x:Bool) (s:S):Out Bool:=if x then .ok true s else b call s
def kIfE (a b:E) (call:Call) (x:Bool) (s:S):Out R:=if x then a call s else b call s
theorem x_bval {m:E}:bVal m call s=(m call s).bind kVal:=id rfl
theorem x_val {x:R}:kVal x s=lift s ((peek s x).bind truD):=id rfl
theorem x_bcmp {m:E}:bCmp m call s=(m call s).bind kCmp:=id rfl
theorem x_cmp {x:R}:kCmp x s=lift s ((peek s x).bind isBl):=id rfl
theorem x_isbl {b:Bool}:isBl (.bl b)=some b:=id rfl
theorem x_bnot {m:B}:bNot m call s=(m call s).bind kNotB:=id rfl
theorem x_notB {b:Bool}:kNotB b s= .ok (!b) s:=id rfl
theorem x_bor {a b:B}:bOr a b call s=(a call s).bind (kOrB b call):=id rfl
theorem x_orF {b:B}:kOrB b call false s=b call s:=id rfl
theorem x_ife {c:B} {a b:E}:mIf c a b call s=(c call s).bind (kIfE a b call):=id rfl
theorem x_ifeT {a b:E}:kIfE a b call true s=a call s:=id rfl
theorem x_ifeF {a b:E}:kIfE a b call false s=b call s:=id rfl
theorem x_tr_b {b:Bool}:truD (.bl b)=some b:=id rfl
def kRes (σ:List (Option O)):Res→Out R
  | .ok o h=>.ok (.own o) ⟨σ,h⟩
  | .exc c d h=>.exc c d ⟨σ,h⟩
  | .bad=>.bad
def kCall (f:Str) (call:Call) (ds:List D) (s:S):Out R:=kRes s.σ (call f ds s.h)
theorem x_call {f:Str} {r:As}:mCall f r call s=(r call s).bind (kCall f call):=id rfl
theorem x_kcall {f:Str} {ds:List D}:kCall f call ds ⟨σ,h⟩=kRes σ (call f ds h):=id rfl
theorem x_res1 {o:O}:kRes σ (.ok o h)= .ok (.own o) ⟨σ,h⟩:=id rfl
def kBlt2 (f:List D→Option O) (ds:List D):Option R:=(f ds).map R.own
def kBlt (f:List D→Option O) (rs:List R) (s:S):Out R:=lift s ((peeks s rs).bind (kBlt2 f))
def kPs2 (d:D) (ds:List D):Option (List D):=some (d::ds)
def kPs (ps:Option (List D)) (d:D):Option (List D):=ps.bind (kPs2 d)
theorem x_blt {f:List D→Option O} {r:AsR}:mBlt f r call s=(r call s).bind (kBlt f):=id rfl
theorem x_kblt {f:List D→Option O} {rs:List R}:kBlt f rs s=lift s ((peeks s rs).bind (kBlt2 f)):=id rfl
theorem x_kblt2 {f:List D→Option O} {ds:List D}:kBlt2 f ds=(f ds).map R.own:=id rfl
theorem x_ps0:peeks s []=some []:=id rfl
theorem x_ps {r:R} {rs:List R}:peeks s (r::rs)=(peek s r).bind (kPs (peeks s rs)):=id rfl
theorem x_ps1 {ps:List D} {e:D}:kPs (some ps) e=some (e::ps):=id rfl
def kCell (x:R) (s:S):Out R:=match x with
  | .own o=>if isCont o then .ok (.own (.fz (.loc s.h.length))) ⟨s.σ,s.h++[o]⟩ else .bad
  |_=>.bad
theorem x_cell {m:E}:mCell m call s=(m call s).bind kCell:=id rfl
theorem x_cellL {l:List D}:kCell (.own (.lst l)) ⟨σ,h⟩= .ok (.own (.fz (.loc h.length))) ⟨σ,h++[.lst l]⟩:=id rfl
def kAsg2:Option S→Fl
  |some s2=>.nx s2
  |none=>.bad
def kAsg1 (g:Tg) (p:O×S):Option S:=g p.1 p.2
def kAsg (g:Tg) (x:R) (s:S):Fl:=kAsg2 ((keep s x).bind (kAsg1 g))
theorem x_asg {m:E} {g:Tg}:cAsg m g call s=(m call s).flow (kAsg g):=id rfl
theorem x_asg1 {g:Tg} {x:R}:kAsg g x s=kAsg2 ((keep s x).bind (kAsg1 g)):=id rfl
theorem x_asg2 {g:Tg} {o:O}:kAsg1 g (o,s)=g o s:=id rfl
theorem x_asg3:kAsg2 (some s)= .nx s:=id rfl
def gUp (a:Option O) (s:S):S:=⟨a::s.σ,s.h⟩
theorem x_g0 {a:Option O} {o:O}:gN 0 o ⟨a::σ,h⟩=some ⟨some o::σ,h⟩:=by simp [gN]
theorem x_gS {a:Option O} {o:O} {i:Nat}:gN (i+1) o ⟨a::σ,h⟩=(gN i o ⟨σ,h⟩).map (gUp a):=by
  simp only [gN,List.length_cons,Nat.add_lt_add_iff_right];split<;>rfl
theorem x_gU {a:Option O}:gUp a ⟨σ,h⟩=⟨a::σ,h⟩:=id rfl
def kGs (r:Tgs) (ds:List D) (s:S):Option S:=r ds s
theorem x_gsN:gsNil [] s=some s:=id rfl
theorem x_gsC {g:Tg} {r:Tgs} {e:D} {ds:List D}:gsCons g r (e::ds) s=(g (.fz e) s).bind (kGs r ds):=id rfl
theorem x_gs {r:Tgs} {ds:List D}:kGs r ds s=r ds s:=id rfl
theorem x_gTo2 {r:Tgs} {a b:D}:gT 2 r (.lst [a,b]) s=r [a,b] s:=id rfl
def kMut (σ:List (Option O)) (h:List O) (f:List D→Option (List D)) (i:Nat):Option (Option O)→Option S
  |some (some (.lst ds))=>(f ds).map fun ds'=>⟨σ.set i (some (.lst ds')),h⟩
  |some (some (.fz d))=>(mutD h f d).map fun h=>⟨σ,h⟩
  |_=>none
theorem x_mutB {f:List D→Option (List D)} {i:Nat}:mutL ⟨σ,h⟩ f (.bor i)=kMut σ h f i (σ[i]?):=by
  show (match σ[i]? with|some (some (.lst ds))=>_|some (some (.fz d))=>_|_=>_)=_
  cases σ[i]? with
  |none=>rfl
  | some z=>cases z with
    |none=>rfl
    |some o=>cases o<;>rfl
def stL (i:Int) (e:D) (ds:List D):Option (List D):=(ixN ds.length i).map fun j=>ds.set j e
def kMuC (σ:List (Option O)):Option (List O)→Option S
  |some h=>some ⟨σ,h⟩
  |none=>none
def kMc2 (h:List O) (n:Nat):Option (List D)→Option (List O)
  |some ds=>some (h.set n (.lst ds))
  |none=>none
def kMc (h:List O) (f:List D→Option (List D)) (n:Nat):Option O→Option (List O)
  |some (.lst ds)=>kMc2 h n (f ds)
  |_=>none
theorem x_mutF {f:List D→Option (List D)} {i:Nat} {e:D}:kMut σ h f i (some (some (.fz e)))=kMuC σ (mutD h f e):=by show Option.map _ (mutD h f e)=_;cases mutD h f e<;>rfl
theorem x_muC:kMuC σ (some h)=some ⟨σ,h⟩:=id rfl
theorem x_mc {f:List D→Option (List D)} {n:Nat}:mutD h f (.loc n)=kMc h f n (h[n]?):=by
  show (match h[n]? with|some (.lst ds)=>_|_=>_)=_;cases h[n]? with
  |none=>rfl
  | some o=>cases o with
    |lst ds=>show Option.map _ (f ds)=kMc2 h n (f ds);cases f ds<;>rfl
    |_=>all_goals rfl
theorem x_mc1 {f:List D→Option (List D)} {n:Nat} {ds:List D}:kMc h f n (some (.lst ds))=kMc2 h n (f ds):=id rfl
theorem x_mc2 {n:Nat} {ds:List D}:kMc2 h n (some ds)=some (h.set n (.lst ds)):=id rfl
def kFor (g:Tg) (body:C) (call:Call) (ds:List D) (s:S):Fl:=forL call g body ds s
def kLc2 (σ:List (Option O)) (vs:List Nat):Out (List D)→Out R
  | .ok acc s2=>.ok (.own (.lst acc)) ⟨rst s2.σ σ vs,s2.h⟩
  |_=>.bad
def kLc (g:Tg) (tt:B) (te:E) (vs:List Nat) (call:Call) (ds:List D) (s:S):Out R:=kLc2 s.σ vs (lcL call g tt te vs ds [] ⟨wipeO s.σ vs,s.h⟩)
def kRg2 (s:S):Option (List D)→Out (List D)
  |some [.int j]=>if smallR j then .ok (rangeD 0 j.toNat) s else .bad
  |_=>.bad
def kRg (rs:List R) (s:S):Out (List D):=kRg2 s (peeks s rs)
theorem x_for {m:Iv} {g:Tg} {b:C}:cFor m g b call s=(m call s).flow (kFor g b call):=id rfl
theorem x_forL {g:Tg} {b:C} {ds:List D}:kFor g b call ds s=forL call g b ds s:=id rfl
theorem x_lc {m:Iv} {g:Tg} {tt:B} {te:E} {vs:List Nat}:mLc m g tt te vs call s=(m call s).bind (kLc g tt te vs call):=id rfl
theorem x_lc1 {g:Tg} {tt:B} {te:E} {vs:List Nat} {ds:List D}:kLc g tt te vs call ds ⟨σ,h⟩=kLc2 σ vs (lcL call g tt te vs ds [] ⟨wipeO σ vs,h⟩):=id rfl
theorem x_lc2 {τ:List (Option O)} {vs:List Nat} {l:List D}:kLc2 σ vs (.ok l ⟨τ,h⟩)= .ok (.own (.lst l)) ⟨rst τ σ vs,h⟩:=id rfl
theorem x_wp0:wipeO σ []=σ:=id rfl
theorem x_wp {v:Nat} {vs:List Nat}:wipeO σ (v::vs)=(wipeO σ vs).set v none:=id rfl
theorem x_rs0 {τ:List (Option O)}:rst τ σ []=τ:=id rfl
theorem x_rs {τ:List (Option O)} {v:Nat} {vs:List Nat}:rst τ σ (v::vs)=(rst τ σ vs).set v ((σ[v]?).getD none):=id rfl
theorem x_rg {r:AsR}:iRg1 r call s=(r call s).bind kRg:=id rfl
theorem x_rg1 {rs:List R}:kRg rs s=kRg2 s (peeks s rs):=id rfl
theorem x_rgK {j:Int} (h1:0≤j) (h2:j<100000):kRg2 s (some [.int j])= .ok (rangeD 0 j.toNat) s:=by
  have:smallR j=true:=by simp only [smallR,Bool.and_eq_true,decide_eq_true_eq];exact ⟨by omega,by omega⟩
  simp only [kRg2,this,if_true]
def isInt (s:S):Option D→Out (Option Int)
  |some (.int i)=>.ok (some i) s
  |_=>.bad
def kPS (x:R) (s:S):Out (Option Int):=isInt s (peek s x)
def kSl3 (l u:Option Int) (d:D):Option R:=(slD d l u).map R.own
def kSl2 (x:R) (l u:Option Int) (s:S):Out R:=lift s ((peek s x).bind (kSl3 l u))
def kSl1 (hi:Pt) (call:Call) (x:R) (l:Option Int) (s:S):Out R:=(hi call s).bind (kSl2 x l)
def kSl (lo hi:Pt) (call:Call) (x:R) (s:S):Out R:=(lo call s).bind (kSl1 hi call x)
theorem x_pn:pNone call s= .ok none s:=id rfl
theorem x_psm {m:E}:pSome m call s=(m call s).bind kPS:=id rfl
theorem x_psm1 {x:R}:kPS x s=isInt s (peek s x):=id rfl
theorem x_psm2 {i:Int}:isInt s (some (.int i))= .ok (some i) s:=id rfl
theorem x_sl {m:E} {lo hi:Pt}:mSl m lo hi call s=(m call s).bind (kSl lo hi call):=id rfl
theorem x_sl0 {lo hi:Pt} {x:R}:kSl lo hi call x s=(lo call s).bind (kSl1 hi call x):=id rfl
theorem x_sl1 {hi:Pt} {x:R} {l:Option Int}:kSl1 hi call x l s=(hi call s).bind (kSl2 x l):=id rfl
theorem x_sl2 {x:R} {l u:Option Int}:kSl2 x l u s=lift s ((peek s x).bind (kSl3 l u)):=id rfl
theorem x_sl3 {l u:Option Int} {e:D}:kSl3 l u e=(slD e l u).map R.own:=id rfl
theorem x_slC {l u:Option Int} {ds:List Int}:slD (.scr ds) l u=some (.lst (cutD (ds.map D.int) l u)):=id rfl
theorem x_ltII {i j:Int}:ltD (.int i) (.int j)=some (.fz (.bl (decide (i<j)))):=id rfl
theorem x_gtII {i j:Int}:gtD (.int i) (.int j)=some (.fz (.bl (decide (j<i)))):=id rfl
theorem x_geII {i j:Int}:geD (.int i) (.int j)=some (.fz (.bl (decide (j≤i)))):=id rfl
theorem x_lenC {l:List Int}:lenD [.scr l]=some (.fz (.int (l.map D.int).length)):=id rfl
theorem x_atT {l:List D} {i:Int}:atD (.tup l) (.int i)=(atI l i).map .fz:=id rfl
theorem x_atL {l:List D} {i:Int}:atD (.lst l) (.int i)=(atI l i).map .fz:=id rfl
theorem x_atC {l:List Int} {i:Int}:atD (.scr l) (.int i)=(atI (l.map D.int) i).map .fz:=id rfl
theorem x_max {i j:Int}:maxD [.int i,.int j]=some (.fz (.int (if j>i then j else i))):=id rfl
theorem x_min {i j:Int}:minD [.int i,.int j]=some (.fz (.int (if j<i then j else i))):=id rfl
theorem x_intI {i:Int}:intD [.int i]=some (.fz (.int i)):=id rfl
theorem x_intB {i:Bool}:intD [.bl i]=some (.fz (.int (if i then 1 else 0))):=id rfl
theorem x_mXI {i j:Int}:or2 mulD mulT (.int i) (.int j)=mulD (.int i) (.int j):=by
  unfold or2;cases hz:mulD (.int i) (.int j)<;>rfl
theorem x_mXL {l:List D} {j:Int}:or2 mulD mulT (.lst l) (.int j)=mulD (.lst l) (.int j):=by
  unfold or2;cases hz:mulD (.lst l) (.int j)<;>rfl
theorem x_lX_scr {l:List Int}:orN lenD dLen [.scr l]=lenD [.scr l]:=by
  unfold orN;cases hz:lenD [.scr l]<;>rfl
theorem x_aYT {l:List D} {i:Int}:or2 (or2 atD dAt) tAt (.tup l) (.int i)=atD (.tup l) (.int i):=by
  show (match or2 atD dAt (.tup l) (.int i) with|some o=>some o|none=>_)=_;unfold or2;cases hz:atD (.tup l) (.int i)<;>rfl
theorem x_aYL {l:List D} {i:Int}:or2 (or2 atD dAt) tAt (.lst l) (.int i)=atD (.lst l) (.int i):=by
  show (match or2 atD dAt (.lst l) (.int i) with|some o=>some o|none=>_)=_;unfold or2;cases hz:atD (.lst l) (.int i)<;>rfl
theorem x_aYC {l:List Int} {i:Int}:or2 (or2 atD dAt) tAt (.scr l) (.int i)=atD (.scr l) (.int i):=by
  show (match or2 atD dAt (.scr l) (.int i) with|some o=>some o|none=>_)=_;unfold or2;cases hz:atD (.scr l) (.int i)<;>rfl
theorem x_iY_lst {a:D} {l:List D}:or2 (or2 inD dIn) tIn a (.lst l)=inD a (.lst l):=by
  show (match or2 inD dIn a (.lst l) with|some o=>some o|none=>_)=_;unfold or2;cases hz:inD a (.lst l)<;>rfl
theorem x_eX_lst {x:List D} {e:D}:or2 eqD dEq (.lst x) e=eqD (.lst x) e:=by
  unfold or2;cases hz:eqD (.lst x) e<;>rfl
theorem x_neX_str {x:Str} {e:D}:or2 neD dNe (.str x) e=neD (.str x) e:=by
  unfold or2;cases hz:neD (.str x) e<;>rfl
theorem x_neX_lst {x:List D} {e:D}:or2 neD dNe (.lst x) e=neD (.lst x) e:=by
  unfold or2;cases hz:neD (.lst x) e<;>rfl
def kAy3 (e:D) (s:S):Out (List D):=match e with
  | .dic ks xs=>if ks.length=xs.length then .ok (ks.map kD) s else .bad
  |e=>lift s (iterD e)
def kAy2:Option (D×S)→Out (List D)
  |some (e,s)=>kAy3 e s
  |none=>.bad
def kAy (x:R) (s:S):Out (List D):=kAy2 (take s x)
theorem x_ay {m:E}:iAny m call s=(m call s).bind kAy:=by
  unfold iAny iVal iKeys_
  cases m call s with
  |exc c e s1=>rfl
  |bad=>rfl
  | ok x s1=>
    simp only [Out.bind_ok]
    show _=kAy2 (take s1 x)
    cases take s1 x with
    |none=>rfl
    | some p=>
      obtain ⟨e,s2⟩:=p
      cases e<;>rfl
theorem x_ay1 {x:R}:kAy x s=kAy2 (take s x):=id rfl
theorem x_ay2 {e:D}:kAy2 (some (e,s))=kAy3 e s:=id rfl
theorem x_ayL {l:List D}:kAy3 (.lst l) s= .ok l s:=id rfl
def kSx5 (e:D) (x:R) (s:S) (k:Key):Option S→Fl
  |some s2=>.nx s2
  |none=>kAsg2 (mutK s k e x)
def kSx4 (e:D) (x:R) (s:S):Option D→Fl
  |some (.int i)=>kSx5 e x s (.inl i) (mutL s (stL i e) x)
  |some (.str k)=>kAsg2 (mutK s (.inr k) e x)
  |_=>.bad
def kSx3 (e:D) (x i:R) (s:S):Fl:=kSx4 e x s (peek s i)
def kSx2 (mi:E) (call:Call) (e:D) (x:R) (s:S):Fl:=(mi call s).flow (kSx3 e x)
def kSx1 (mx mi:E) (call:Call):Option (D×S)→Fl
  |some (e,s2)=>(mx call s2).flow (kSx2 mi call e)
  |none=>.bad
def kSx (mx mi:E) (call:Call) (y:R) (s:S):Fl:=kSx1 mx mi call (take s y)
theorem x_sx0 {me mx mi:E}:cSetX0 me mx mi call s=(me call s).flow (kSx mx mi call):=by
  unfold cSetX0 cSetL cSetK
  cases me call s with
  |exc c e s1=>rfl
  |bad=>rfl
  | ok y s1 =>
    simp only [Out.flow_ok]
    show _=kSx1 mx mi call (take s1 y)
    cases take s1 y with
    |none=>rfl
    | some p=>
      obtain ⟨e,s2⟩:=p
      show _=(mx call s2).flow (kSx2 mi call e)
      simp only []
      cases mx call s2 with
      |exc c e s1=>rfl
      |bad=>rfl
      | ok x s3=>
        simp only [Out.flow_ok]
        show _=(mi call s3).flow (kSx3 e x)
        cases mi call s3 with
        |exc c e s1=>rfl
        |bad=>rfl
        | ok i s4=>
          simp only [Out.flow_ok]
          show _=kSx4 e x s4 (peek s4 i)
          cases peek s4 i with
          |none=>rfl
          | some ei=>cases ei with
            | int j=>
              show _=kSx5 e x s4 (.inl j) (mutL s4 (stL j e) x)
              simp only [Option.bind_some,keyD,show (fun ds:List D=>(ixN ds.length j).map fun j'=>ds.set j' e)=stL j e from rfl]
              cases mutL s4 (stL j e) x with
              |none=>simp only [kSx5];cases mutK s4 (.inl j) e x<;>rfl
              |some s5=>rfl
            | str k=>
              show _=kAsg2 (mutK s4 (.inr k) e x)
              simp only [Option.bind_some,keyD]
              cases mutK s4 (.inr k) e x<;>rfl
            |_=>all_goals rfl
def kSyT (e:D) (x:R):Option (D×S)→Fl
  | some (kd,s5)=>(match tkD kd with
    |true=>kAsg2 (mutT s5 kd e x)
    |false=>.bad)
  |none=>.bad
def kSy4 (e:D) (x i:R) (s:S):Option D→Fl
  |some (.int j)=>kSx5 e x s (.inl j) (mutL s (stL j e) x)
  |some (.str k)=>kAsg2 (mutK s (.inr k) e x)
  |_=>kSyT e x (take s i)
def kSy3 (e:D) (x i:R) (s:S):Fl:=kSy4 e x i s (peek s i)
def kSy2 (mi:E) (call:Call) (e:D) (x:R) (s:S):Fl:=(mi call s).flow (kSy3 e x)
def kSy1 (mx mi:E) (call:Call):Option (D×S)→Fl
  |some (e,s2)=>(mx call s2).flow (kSy2 mi call e)
  |none=>.bad
def kSy (mx mi:E) (call:Call) (y:R) (s:S):Fl:=kSy1 mx mi call (take s y)
theorem peek_take {s s':S} {r:R} {e:D} (h:take s r=some (e,s')):peek s r=deref s.h e:=by
  cases r with
  |own o=>cases h;rfl
  | bor i=>
    simp only [take] at h
    simp only [peek]
    cases eo:s.σ[i]? with
    |none=>rw [eo] at h;cases h
    | some z=>cases z with
      |none=>rw [eo] at h;cases h
      |some o=>rw [eo] at h;cases h;rfl
theorem sy_no {e:D} {x i:R} (hp: ∀ ds,peek s i≠some (.tup ds)):kSyT e x (take s i)= .bad:=by
  cases et:take s i with
  |none=>rfl
  | some p=>
    obtain ⟨kd,s5⟩:=p
    have:=peek_take et
    cases kd with
    |tup ds=>exact absurd this (hp ds)
    |_=>all_goals rfl
theorem x_sx {me mx mi:E}:cSetX me mx mi call s=(me call s).flow (kSy mx mi call):=by
  unfold cSetX
  rw [x_sx0]
  unfold cSetT
  cases me call s with
  |exc c e s1=>rfl
  |bad=>rfl
  | ok y s1 =>
    simp only [Out.flow_ok]
    show (match kSx1 mx mi call (take s1 y) with| .bad=>_|y=>y)=kSy1 mx mi call (take s1 y)
    cases take s1 y with
    |none=>rfl
    | some p=>
      obtain ⟨e,s2⟩:=p
      show (match (mx call s2).flow (kSx2 mi call e) with| .bad=>_|y=>y)=(mx call s2).flow (kSy2 mi call e)
      simp only []
      cases mx call s2 with
      |exc c e s1=>rfl
      |bad=>rfl
      | ok x s3 =>
        simp only [Out.flow_ok]
        show (match (mi call s3).flow (kSx3 e x) with| .bad=>_|y=>y)=(mi call s3).flow (kSy3 e x)
        cases mi call s3 with
        |exc c e s1=>rfl
        |bad=>rfl
        | ok i s4=>
          simp only [Out.flow_ok]
          have eT:(match take s4 i with
            | some (kd,s5)=>(match tkD kd with
              | true=>(match mutT s5 kd e x with
                |some s6=>Fl.nx s6
                |none=>.bad)
              |false=>.bad)
            |none=>.bad)=kSyT e x (take s4 i):=by
            cases take s4 i with
            |none=>rfl
            | some p=>
              obtain ⟨kd,s5⟩:=p
              simp only [kSyT]
              cases tkD kd with
              |false=>rfl
              |true=>cases mutT s5 kd e x<;>rfl
          refine (congrArg (fun q=>match kSx3 e x i s4 with| .bad=>q|y=>y) eT).trans ?_
          show (match kSx4 e x s4 (peek s4 i) with| .bad=>kSyT e x (take s4 i)|y=>y)=kSy4 e x i s4 (peek s4 i)
          cases hp:peek s4 i with
          |none=>rfl
          | some ei=>cases ei with
            | int j=>
              have:=sy_no (e:=e) (x:=x) (s:=s4) (i:=i) (fun ds z=>by rw [hp] at z;cases z)
              show (match kSx5 e x s4 (.inl j) (mutL s4 (stL j e) x) with| .bad=>kSyT e x (take s4 i)|y=>y)=kSx5 e x s4 (.inl j) (mutL s4 (stL j e) x)
              rw [this]
              cases kSx5 e x s4 (.inl j) (mutL s4 (stL j e) x)<;>rfl
            | str k=>
              have:=sy_no (e:=e) (x:=x) (s:=s4) (i:=i) (fun ds z=>by rw [hp] at z;cases z)
              show (match kAsg2 (mutK s4 (.inr k) e x) with| .bad=>kSyT e x (take s4 i)|y=>y)=kAsg2 (mutK s4 (.inr k) e x)
              rw [this]
              cases kAsg2 (mutK s4 (.inr k) e x)<;>rfl
            |_=>all_goals rfl
theorem x_sx1 {mx mi:E} {y:R}:kSy mx mi call y s=kSy1 mx mi call (take s y):=id rfl
theorem x_sx2 {mx mi:E} {e:D}:kSy1 mx mi call (some (e,s))=(mx call s).flow (kSy2 mi call e):=id rfl
theorem x_sx3 {mi:E} {e:D} {x:R}:kSy2 mi call e x s=(mi call s).flow (kSy3 e x):=id rfl
theorem x_sx4 {e:D} {x i:R}:kSy3 e x i s=kSy4 e x i s (peek s i):=id rfl
theorem x_sxI {e:D} {x r:R} {i:Int}:kSy4 e x r s (some (.int i))=kSx5 e x s (.inl i) (mutL s (stL i e) x):=id rfl
theorem x_sx5 {e:D} {x:R} {k:Key} {s2:S}:kSx5 e x s k (some s2)= .nx s2:=id rfl
theorem x_finR {o:O}:fin (.rt o ⟨σ,h⟩)= .ok o h:=id rfl
end Mi
namespace Mi
open PySem PySem.Spec PyProof.Rows L2
theorem fits_of {n:Nat} (h:n≤100000):fitsB n=true:=by simp only [fitsB,decide_eq_true_eq];exact h
def okC (c:Option (Nat×List D)) (h:List O):Prop:= ∀ n all,c=some (n,all)→h[n]?=some (.lst all)
theorem okC_none {h:List O}:okC none h:=fun _ _ e=>by cases e
inductive ArgL (h:List O):D→List D→Option (Nat×List D)→Prop
  |tup {ds:List D}:ArgL h (.tup ds) ds none
  |lst {ds:List D}:ArgL h (.lst ds) ds none
  |loc {n:Nat} {ds:List D} (e:h[n]?=some (.lst ds)):ArgL h (.loc n) ds (some (n,ds))
theorem ArgL.ok {h:List O} {d:D} {ds:List D} {c:Option (Nat×List D)} (a:ArgL h d ds c):okC c h:=by
  cases a with
  |tup=>exact okC_none
  |lst=>exact okC_none
  |loc e=>intro n all z;cases z;exact e
end Mi
namespace Mi
open PySem PySem.Spec PyProof.Rows L2
def SameF:Option MFn→Option MFn→Prop
  |some x,some y=>x.N.length=y.N.length∧x.np=y.np∧x.body=y.body∧x.df=y.df
  |none,none=>True
  |_,_=>False
theorem SameF.rfl_: ∀ a,SameF a a
  |some _=>⟨rfl,rfl,rfl,rfl⟩
  |none=>trivial
theorem callN_same {tab tab':Str→Option MFn} (h: ∀ f,SameF (tab f) (tab' f)): ∀ k,callN tab k=callN tab' k
  |0=>rfl
  | k + 1=>by
    funext f ds hp
    have hf:=h f
    show (match tab f with|some mf=>runFn mf (callN tab k) ds hp|none=>.bad)=(match tab' f with|some mf=>runFn mf (callN tab' k) ds hp|none=>.bad)
    rw [callN_same h k]
    cases e1:tab f with
    | none=>cases e2:tab' f with
      |none=>rfl
      |some y=>rw [e1,e2] at hf;exact hf.elim
    | some x=>cases e2:tab' f with
      |none=>rw [e1,e2] at hf;exact hf.elim
      | some y=>
        rw [e1,e2] at hf
        obtain ⟨a,b,c,d⟩:=hf
        show runFn x _ ds hp=runFn y _ ds hp
        simp only [runFn,start0,a,b,c,d]
end Mi
local macro_rules
  | `(tactic|simp_arith [$xs,*])=> `(tactic|simp only [$xs,*,Mi.y_bo,List.getElem?_cons_zero,Mi.x_frz1,Mi.x_var,Mi.x_var1,Mi.y_ob,Mi.lift_some,Mi.x_pkO,Option.map_some,Mi.x_seq,Mi.x_pkB,Mi.x_pk,Mi.y_fo,List.getElem?_cons_succ,Mi.x_con,Mi.x_t2,Mi.x_t3,Mi.x_ta,Mi.x_tb,Mi.x_two,Mi.x_d_int,Mi.x_d_bl,List.set_cons_zero,Mi.x_aNil,Mi.x_a1,Mi.x_a2,Mi.x_aCons,Mi.x_a3,List.set_cons_succ,Mi.x_tkB,Mi.x_tk,Mi.xT_nx,Mi.x_tkO,Mi.x_ps1,Mi.x_if,Mi.x_r1,Mi.x_rNil,Mi.x_r2,Mi.x_rCons,Mi.x_ps,Mi.x_ps0,Mi.x_kblt2,Mi.x_call,Mi.x_kcall,Mi.x_kblt,Mi.x_res1,Mi.x_blt,Mi.x_ret,Mi.x_bcmp,Mi.x_cmp,Mi.x_isbl,Mi.x_tr_b,Mi.x_ret1,Mi.x_ret2,Mi.xT_rt,Mi.x_finR,Mi.x_d_lst,Mi.x_d_tup,Mi.x_gvO,Mi.x_nil,Mi.x_frz2,Mi.x_ifF,Mi.x_ifT,Mi.x_val,Mi.x_bval,Mi.x_d_str,Mi.x_asg3,Mi.x_aYT,Mi.x_atT,Mi.x_notB,Mi.x_bnot,Mi.x_kpO,Mi.x_gS,Mi.x_g0,Mi.x_gU,Bool.not_true,Mi.x_asg,Mi.x_asg1,Mi.x_asg2,Mi.x_bor,Mi.x_d_dic,Mi.x_orF,decide_false,Bool.not_false,Mi.x_one,Mi.x_o,Mi.x_o2,Mi.xT_exc,decide_true])
namespace Mi
open PySem PySem.Spec PyProof.Rows L2
def m_pool (add:D→D→Option O):C:=(cSeq (cAsg (mIf (bCmp (mTwo ltD (mVar 1) (mBlt lenX (rCons (mVar 0) rNil)))) (mTwo atX (mVar 0) (mVar 1)) (mTwo add (mTwo mulX (mCon (.int 7)) (mBlt sumD (rCons (mSl (mVar 0) pNone (pSome (mCon (.int 63)))) rNil))) (mVar 1))) (gN 2)) (cSeq (cAsg (mBlt absD (rCons (mVar 2) rNil)) (gN 3)) (cSeq (cAsg (mTwo add (mTwo add (mTwo add (mTwo modD (mBlt intD (rCons (mVar 3) rNil)) (mCon (.int 2147483629))) (mTwo mulX (mTwo mulX (mCon (.int 7919)) (mVar 1)) (mVar 1))) (mTwo mulX (mCon (.int 31)) (mVar 1))) (mCon (.int 17))) (gN 4)) (cSeq (cAsg (mTwo modD (mBlt intD (rCons (mTwo mulX (mVar 4) (mCon (.int 48271))) rNil)) (mCon (.int 2147483647))) (gN 4)) (cSeq (cRet (mLst (aCons (mTwo mulX (mVar 3) (mBlt intD (rCons (mTwo geD (mVar 3) (mTwo powD (mCon (.int 10)) (mCon (.int 18)))) rNil))) (aCons (mTwo modD (mBlt intD (rCons (mTwo mulX (mVar 4) (mVar 4)) rNil)) (mCon (.int 2147483629))) aNil)))) cNil)))))
def m_draw (add:D→D→Option O):C:=(cSeq (cIf (bCmp (mTwo gtD (mTwo atX (mVar 0) (mCon (.int 0))) (mCon (.int 0)))) (cSeq (cAsg (mTwo modD (mBlt intD (rCons (mTwo atX (mVar 0) (mCon (.int 0))) rNil)) (mVar 1)) (gN 2)) (cSeq (cSetX (mTwo fdivD (mTwo atX (mVar 0) (mCon (.int 0))) (mVar 1)) (mVar 0) (mCon (.int 0))) (cSeq (cRet (mVar 2)) cNil))) cNil) (cSeq (cSetX (mTwo modD (mBlt intD (rCons (mTwo add (mTwo mulX (mTwo atX (mVar 0) (mCon (.int 1))) (mCon (.int 48271))) (mCon (.int 11))) rNil)) (mCon (.int 2147483647))) (mVar 0) (mCon (.int 1))) (cSeq (cRet (mTwo modD (mBlt intD (rCons (mTwo fdivD (mTwo modD (mBlt intD (rCons (mTwo mulX (mTwo atX (mVar 0) (mCon (.int 1))) (mTwo atX (mVar 0) (mCon (.int 1)))) rNil)) (mCon (.int 2147483629))) (mCon (.int 16))) rNil)) (mVar 1))) cNil)))
def m_pick:C:=(cSeq (cRet (mTwo atX (mVar 1) (mCall "_law_draw" (aCons (mVar 0) (aCons (mBlt lenX (rCons (mVar 1) rNil)) aNil))))) cNil)
def PoolAt (h:List O) (n:Nat):Prop:= ∃ a b:Int,h[n]?=some (.lst [.int a,.int b])∧0≤a∧0≤b∧b<2147483647
def AddI (add:D→D→Option O):Prop:= ∀ i j:Int,add (.int i) (.int j)=fI (i+j)
theorem addI_D:AddI addD:=fun _ _=>rfl
theorem smallI_of {i:Int} (h1:0≤i) (h2:i<2147483648):smallI i=true:=by
  simp only [smallI,Bool.and_eq_true,decide_eq_true_eq]
  exact ⟨by omega,by omega⟩
structure Draws (tab:Str→Option MFn) (add:D→D→Option O):Prop where
  addI:AddI add
  pool: ∃ N,N.length=5∧tab "_law_pool"=some ⟨N,2,m_pool add,[]⟩
  draw: ∃ N,N.length=3∧tab "_law_draw"=some ⟨N,2,m_draw add,[]⟩
  pick: ∃ N,N.length=2∧tab "_law_pick"=some ⟨N,2,m_pick,[]⟩
def PoolTo (n:Nat) (h h':List O):Prop:=h'.length=h.length∧(∀ i,i≠n→h'[i]?=h[i]?)∧PoolAt h' n
theorem PoolTo.refl {n:Nat} {h:List O} (p:PoolAt h n):PoolTo n h h:=⟨rfl,fun _ _=>rfl,p⟩
theorem PoolTo.trans {n:Nat} {h h' h'':List O} (a:PoolTo n h h') (b:PoolTo n h' h''):PoolTo n h h'':=⟨b.1.trans a.1,fun i hi=>(b.2.1 i hi).trans (a.2.1 i hi),b.2.2⟩
theorem PoolTo.at {n:Nat} {h h':List O} (a:PoolTo n h h'):PoolAt h' n:=a.2.2
theorem PoolTo.set {n:Nat} {h:List O} {a b:Int} (p:PoolAt h n) (h1:0≤a) (h2:0≤b) (h3:b<2147483647):PoolTo n h (h.set n (.lst [.int a,.int b])):=by
  obtain ⟨x,y,e,_⟩:=p
  have hl:n<h.length:=by
    rcases Nat.lt_or_ge n h.length with z|z
    · exact z
    · rw [List.getElem?_eq_none z] at e;cases e
  refine ⟨by simp,fun i hi=>by rw [List.getElem?_set_ne (fun z=>hi z.symm)],a,b, ?_,h1,h2,h3⟩
  rw [List.getElem?_set_self hl]
theorem st0_2 {N:List Str} {a b:D} {m:Nat} (h:N.length=m+2):start0 N [a,b]=some (.fz a)::some (.fz b)::List.replicate m none:=by
  simp only [start0,h,List.length_cons,List.length_nil,List.map_cons,List.map_nil]
  rfl
variable {tab:Str→Option MFn} {add:D→D→Option O}
theorem ix0:ixN 2 0=some 0:=rfl
theorem ix1:ixN 2 1=some 1:=rfl
theorem atI_lt {l:List D} {r:Int} (h1:0≤r) (h2:r<l.length): ∃ d,d∈l∧atI l r=some d∧l[r.toNat]?=some d:=by
  have hl:r.toNat<l.length:=by omega
  refine ⟨l[r.toNat],List.getElem_mem hl, ?_,by simp [hl]⟩
  have:=atI_nat (xs:=l) (j:=r.toNat) (v:=l[r.toNat]) (by simp [hl])
  rwa [Int.toNat_of_nonneg h1] at this
theorem ints_map (ns:List Int):intsD (ns.map .int)=some ns:=by
  induction ns with
  |nil=>rfl
  |cons a l ih=>simp only [List.map_cons,intsD,ih,Option.map_some]
def m_pool0 (add:D→D→Option O):E:=(mIf (bCmp (mTwo ltD (mVar 1) (mBlt lenX (rCons (mVar 0) rNil)))) (mTwo atX (mVar 0) (mVar 1)) (mTwo add (mTwo mulX (mCon (.int 7)) (mBlt sumD (rCons (mSl (mVar 0) pNone (pSome (mCon (.int 63)))) rNil))) (mVar 1)))
theorem pool0_ok {call:Call} (hadd:AddI add) (ns:List Int) {i:Int} (h1:0≤i) (h2:i<64) (h:List O):
    ∃ c:Int,m_pool0 add call ⟨[some (.fz (.scr ns)),some (.fz (.int i)),none,none,none],h⟩= .ok (.own (.fz (.int c))) ⟨[some (.fz (.scr ns)),some (.fz (.int i)),none,none,none],h⟩:=by
  by_cases hlt:i<(ns.map D.int).length
  · have d1:decide (i<((ns.map D.int).length:Int))=true:=decide_eq_true hlt
    obtain ⟨d,hd,ea,_⟩:=atI_lt (l:=ns.map D.int) h1 hlt
    obtain ⟨c,hc,rfl⟩:=List.mem_map.mp hd
    refine ⟨c, ?_⟩
    simp_arith [m_pool0,d1,ea,x_ife,x_d_scr,x_lX_scr,x_lenC,x_ltII,x_ifeT,x_aYC,x_atC]
  · have d1:decide (i<((ns.map D.int).length:Int))=false:=decide_eq_false hlt
    refine ⟨(7*(cutD ns none (some 63)).sum+i), ?_⟩
    have s7:smallI 7=true:=rfl
    have ec:cutD (ns.map D.int) none (some 63)=(cutD ns none (some 63)).map D.int:=by
      simp only [cutD,List.length_map,List.map_drop,List.map_take]
    simp_arith [m_pool0,d1,ec,sumD,listD,ints_map,mulD,s7,Bool.true_or,if_true,hadd _ _,x_ife,x_d_scr,x_lX_scr,x_lenC,x_ltII,x_ifeF,x_sl,x_sl0,x_pn,x_sl1,x_psm,x_psm1,x_psm2,x_sl2,x_sl3,x_slC,fI,x_mXI]
end Mi
namespace Vs
open PySem PySem.Spec PyProof.Rows L2 Mi
noncomputable section
def m_is_name:C:=(cSeq (cRet (mAnd (mBlt isiD (rCons (mVar 0) (rCons (mCon (.ty "str")) rNil))) (mAnd (mChain leD leD (mCon (.int 1)) (mBlt lenX (rCons (mVar 0) rNil)) (mCon (.int 8))) (mBlt allD (rCons (mLc (iAny (mVar 0)) (gN 1) bYes (mTwo inX (mVar 1) (mCon (.str "abcdefghijklmnopqrstuvwxyz"))) [1]) rNil))))) cNil)
def v_is_name:MFn:=⟨["value","sign"],1,m_is_name,[]⟩
def m_are_names:C:=(cSeq (cRet (mAnd (mBlt isiD (rCons (mVar 0) (rCons (mCon (.ty "tuple")) rNil))) (mBlt allD (rCons (mLc (iAny (mVar 0)) (gN 1) bYes (mCall "is_name" (aCons (mVar 1) aNil)) [1]) rNil)))) cNil)
def v_are_names:MFn:=⟨["value","item"],1,m_are_names,[]⟩
def m_has_kind:C:=(cSeq (cRet (mAnd (mBlt isiD (rCons (mVar 0) (rCons (mCon (.ty "tuple")) rNil))) (mAnd (mTwo eqX (mBlt lenX (rCons (mVar 0) rNil)) (mVar 2)) (mAnd (mBlt isiD (rCons (mTwo atX (mVar 0) (mCon (.int 0))) (rCons (mCon (.ty "str")) rNil))) (mTwo eqX (mTwo atX (mVar 0) (mCon (.int 0))) (mVar 1)))))) cNil)
def v_has_kind:MFn:=⟨["value","kind","many"],3,m_has_kind,[]⟩
def m_is_row:C:=(cSeq (cIf (bVal (mCall "has_kind" (aCons (mVar 0) (aCons (mCon (.str "copy")) (aCons (mCon (.int 3)) aNil))))) (cSeq (cRet (mAnd (mCall "is_name" (aCons (mTwo atX (mVar 0) (mCon (.int 1))) aNil)) (mCall "is_name" (aCons (mTwo atX (mVar 0) (mCon (.int 2))) aNil)))) cNil) cNil) (cSeq (cIf (bOr (bNot (bVal (mCall "has_kind" (aCons (mVar 0) (aCons (mCon (.str "set")) (aCons (mCon (.int 4)) aNil)))))) (bOr (bNot (bVal (mCall "is_name" (aCons (mTwo atX (mVar 0) (mCon (.int 1))) aNil)))) (bNot (bVal (mCall "is_name" (aCons (mTwo atX (mVar 0) (mCon (.int 2))) aNil)))))) (cSeq (cRet (mCon (.bl false))) cNil) cNil) (cSeq (cRet (mAnd (mCall "are_names" (aCons (mTwo atX (mVar 0) (mCon (.int 3))) aNil)) (mTwo leD (mBlt lenX (rCons (mTwo atX (mVar 0) (mCon (.int 3))) rNil)) (mCon (.int 2))))) cNil)))
def v_is_row:MFn:=⟨["value"],1,m_is_row,[]⟩
def m_is_end:C:=(cSeq (cIf (bOr (bVal (mCall "has_kind" (aCons (mVar 0) (aCons (mCon (.str "go")) (aCons (mCon (.int 2)) aNil))))) (bVal (mCall "has_kind" (aCons (mVar 0) (aCons (mCon (.str "return")) (aCons (mCon (.int 2)) aNil)))))) (cSeq (cRet (mCall "is_name" (aCons (mTwo atX (mVar 0) (mCon (.int 1))) aNil))) cNil) cNil) (cSeq (cRet (mAnd (mCall "has_kind" (aCons (mVar 0) (aCons (mCon (.str "either")) (aCons (mCon (.int 3)) aNil)))) (mAnd (mCall "is_name" (aCons (mTwo atX (mVar 0) (mCon (.int 1))) aNil)) (mAnd (mCall "is_name" (aCons (mTwo atX (mVar 0) (mCon (.int 2))) aNil)) (mTwo neX (mTwo atX (mVar 0) (mCon (.int 1))) (mTwo atX (mVar 0) (mCon (.int 2)))))))) cNil))
def v_is_end:MFn:=⟨["value"],1,m_is_end,[]⟩
structure Words (tab:Str→Option MFn):Prop where
  is_name:tab "is_name"=some v_is_name
  are_names:tab "are_names"=some v_are_names
  has_kind:tab "has_kind"=some v_has_kind
  is_row:tab "is_row"=some v_is_row
  is_end:tab "is_end"=some v_is_end
def m_is_block:C:=(cSeq (cIf (bOr (bNot (bVal (mBlt isiD (rCons (mVar 0) (rCons (mCon (.ty "tuple")) rNil))))) (bOr (bCmp (mTwo neX (mBlt lenX (rCons (mVar 0) rNil)) (mCon (.int 3)))) (bOr (bNot (bVal (mCall "is_name" (aCons (mTwo atX (mVar 0) (mCon (.int 0))) aNil)))) (bNot (bVal (mBlt isiD (rCons (mTwo atX (mVar 0) (mCon (.int 1))) (rCons (mCon (.ty "tuple")) rNil)))))))) (cSeq (cRet (mCon (.bl false))) cNil) cNil) (cSeq (cRet (mAnd (mTwo leD (mBlt lenX (rCons (mTwo atX (mVar 0) (mCon (.int 1))) rNil)) (mCon (.int 6))) (mAnd (mBlt allD (rCons (mLc (iAny (mTwo atX (mVar 0) (mCon (.int 1)))) (gN 1) bYes (mCall "is_row" (aCons (mVar 1) aNil)) [1]) rNil)) (mCall "is_end" (aCons (mTwo atX (mVar 0) (mCon (.int 2))) aNil))))) cNil))
def v_is_block:MFn:=⟨["value","row"],1,m_is_block,[]⟩
def m_next_blocks:C:=(cSeq (cRet (mIf (bCmp (mTwo eqX (mTwo atX (mVar 0) (mCon (.int 0))) (mCon (.str "return")))) (mTup aNil) (mSl (mVar 0) (pSome (mCon (.int 1))) pNone))) cNil)
def v_next_blocks:MFn:=⟨["end"],1,m_next_blocks,[]⟩
def m_checked_blocks:C:=(cSeq (cIf (bNot (bVal (mOne (isiT ["list","tuple"]) (mVar 0)))) (cSeq (cRaise "BadBlock" (aCons (mCon .non) aNil)) cNil) cNil) (cSeq (cAsg mDic0 (gN 1)) (cSeq (cForEn (aCons (mVar 0) aNil) (gT 2 (gsCons (gN 2) (gsCons (gN 3) gsNil))) (cSeq (cIf (bOr (bNot (bVal (mCall "is_block" (aCons (mVar 3) aNil)))) (bCmp (mTwo inX (mTwo atX (mVar 3) (mCon (.int 0))) (mVar 1)))) (cSeq (cRaise "BadBlock" (aCons (mVar 2) aNil)) cNil) cNil) (cSeq (cSetX (mTup (aCons (mTwo atX (mVar 3) (mCon (.int 1))) (aCons (mTwo atX (mVar 3) (mCon (.int 2))) aNil))) (mVar 1) (mTwo atX (mVar 3) (mCon (.int 0)))) cNil))) (cSeq (cIf (bCmp (mTwo gtD (mBlt lenX (rCons (mVar 1) rNil)) (mCon (.int 8)))) (cSeq (cRaise "TooMany" (aCons (mCon (.int 8)) aNil)) cNil) cNil) (cSeq (cIf (bCmp (mTwo eqX (mBlt lenX (rCons (mVar 1) rNil)) (mCon (.int 0)))) (cSeq (cRaise "BadBlock" (aCons (mCon .non) aNil)) cNil) cNil) (cSeq (cFor (iVals_ (mVar 1)) (gT 2 (gsCons (gN 4) (gsCons (gN 5) gsNil))) (cSeq (cFor (iAny (mCall "next_blocks" (aCons (mVar 5) aNil))) (gN 6) (cSeq (cIf (bCmp (mTwo notInX (mVar 6) (mVar 1))) (cSeq (cRaise "UnknownBlock" (aCons (mVar 6) aNil)) cNil) cNil) cNil)) cNil)) (cSeq (cRet (mVar 1)) cNil)))))))
def v_checked_blocks:MFn:=⟨["blocks","found","index","value","rows","end","block"],1,m_checked_blocks,[]⟩
def m_checked_inputs:C:=(cSeq (cIf (bNot (bVal (mOne (isiT ["list","tuple"]) (mVar 0)))) (cSeq (cRaise "BadInput" (aCons (mCon .non) aNil)) cNil) cNil) (cSeq (cForEn (aCons (mVar 0) aNil) (gT 2 (gsCons (gN 1) (gsCons (gN 2) gsNil))) (cSeq (cIf (bOr (bNot (bVal (mCall "is_name" (aCons (mVar 2) aNil)))) (bCmp (mTwo inX (mVar 2) (mSl (mVar 0) pNone (pSome (mVar 1)))))) (cSeq (cRaise "BadInput" (aCons (mVar 1) aNil)) cNil) cNil) cNil)) (cSeq (cIf (bCmp (mTwo gtD (mBlt lenX (rCons (mVar 0) rNil)) (mCon (.int 6)))) (cSeq (cRaise "TooMany" (aCons (mCon (.int 6)) aNil)) cNil) cNil) (cSeq (cRet (mBlt tupleOfD (rCons (mVar 0) rNil))) cNil))))
def v_checked_inputs:MFn:=⟨["inputs","index","value"],1,m_checked_inputs,[]⟩
structure Srcs (tab:Str→Option MFn):Prop extends Words tab where
  is_block:tab "is_block"=some v_is_block
  next_blocks:tab "next_blocks"=some v_next_blocks
  checked_blocks:tab "checked_blocks"=some v_checked_blocks
  checked_inputs:tab "checked_inputs"=some v_checked_inputs
def m_law_names:C:=(cSeq (cAsg (mCon (.str "abcdefghijklmnopqrstuvwxyz")) (gN 2)) (cSeq (cMul (rCons (mCall "_law_draw" (aCons (mVar 0) (aCons (mCon (.int 26)) aNil))) (rCons (mTwo addD (mCon (.int 1)) (mTwo mulX (mCon (.int 2)) (mCall "_law_draw" (aCons (mVar 0) (aCons (mCon (.int 6)) aNil))))) rNil)) [(gN 3),(gN 4)]) (cSeq (cAsg (mLst (aCons (mTup (aCons (mCon (.str "")) (aCons (mCon (.str "")) aNil))) (aCons (mTup (aCons (mCon (.str "")) (aCons (mCon (.str "q")) aNil))) (aCons (mTup (aCons (mCon (.str "ab")) (aCons (mCon (.str "")) aNil))) (aCons (mTup (aCons (mCon (.str "abcdefg")) (aCons (mCon (.str "")) aNil))) (aCons (mTup (aCons (mCon (.str "")) (aCons (mCon (.str "abcdefg")) aNil))) aNil)))))) (gN 5)) (cSeq (cAsg (mCall "_law_pick" (aCons (mVar 0) (aCons (mVar 5) aNil))) (gT 2 (gsCons (gN 6) (gsCons (gN 7) gsNil)))) (cSeq (cRet (mLc (iRg1 (rCons (mVar 1) rNil)) (gN 8) bYes (mTwo addD (mTwo addD (mVar 6) (mTwo atX (mVar 2) (mTwo modD (mBlt intD (rCons (mTwo addD (mVar 3) (mTwo mulX (mVar 4) (mVar 8))) rNil)) (mCon (.int 26))))) (mVar 7)) [8])) cNil)))))
def v_law_names:MFn:=⟨["_law_pool_here","_law_count","_law_signs","_law_origin","_law_step","_law_ends","_law_head","_law_tail","_law_k"],2,m_law_names,[]⟩
def m_law_row:C:=(cSeq (cAsg (mCall "_law_pick" (aCons (mVar 0) (aCons (mVar 1) aNil))) (gN 3)) (cSeq (cIf (bCmp (mTwo eqX (mCall "_law_draw" (aCons (mVar 0) (aCons (mCon (.int 3)) aNil))) (mCon (.int 0)))) (cSeq (cRet (mTup (aCons (mCon (.str "copy")) (aCons (mVar 3) (aCons (mCall "_law_pick" (aCons (mVar 0) (aCons (mVar 1) aNil))) aNil))))) cNil) cNil) (cSeq (cAsg (mCall "_law_pick" (aCons (mVar 0) (aCons (mVar 2) aNil))) (gN 4)) (cSeq (cAsg (mLc (iRg1 (rCons (mCall "_law_draw" (aCons (mVar 0) (aCons (mCon (.int 3)) aNil))) rNil)) (gN 6) bYes (mCall "_law_pick" (aCons (mVar 0) (aCons (mVar 1) aNil))) [6]) (gN 5)) (cSeq (cRet (mTup (aCons (mCon (.str "set")) (aCons (mVar 3) (aCons (mVar 4) (aCons (mBlt tupleOfD (rCons (mVar 5) rNil)) aNil)))))) cNil)))))
def v_law_row:MFn:=⟨["_law_pool_here","_law_words","_law_ops","_law_x","_law_op","_law_some","_law_turn"],3,m_law_row,[]⟩
def m_law_end:C:=(cSeq (cAsg (mCall "_law_draw" (aCons (mVar 0) (aCons (mCon (.int 4)) aNil))) (gN 3)) (cSeq (cIf (bOr (bCmp (mTwo eqX (mVar 3) (mCon (.int 0)))) (bAnd (bCmp (mTwo eqX (mBlt lenX (rCons (mVar 1) rNil)) (mCon (.int 1)))) (bCmp (mTwo neX (mVar 3) (mCon (.int 1)))))) (cSeq (cRet (mTup (aCons (mCon (.str "return")) (aCons (mCall "_law_pick" (aCons (mVar 0) (aCons (mVar 2) aNil))) aNil)))) cNil) cNil) (cSeq (cIf (bCmp (mTwo eqX (mVar 3) (mCon (.int 1)))) (cSeq (cRet (mTup (aCons (mCon (.str "go")) (aCons (mCall "_law_pick" (aCons (mVar 0) (aCons (mVar 1) aNil))) aNil)))) cNil) cNil) (cSeq (cAsg (mCall "_law_draw" (aCons (mVar 0) (aCons (mBlt lenX (rCons (mVar 1) rNil)) aNil))) (gN 4)) (cSeq (cAsg (mTwo addD (mTwo addD (mVar 4) (mCon (.int 1))) (mCall "_law_draw" (aCons (mVar 0) (aCons (mTwo subD (mBlt lenX (rCons (mVar 1) rNil)) (mCon (.int 1))) aNil)))) (gN 5)) (cSeq (cRet (mTup (aCons (mCon (.str "either")) (aCons (mTwo atX (mVar 1) (mVar 4)) (aCons (mTwo atX (mVar 1) (mTwo modD (mBlt intD (rCons (mVar 5) rNil)) (mBlt lenX (rCons (mVar 1) rNil)))) aNil))))) cNil))))))
def v_law_end:MFn:=⟨["_law_pool_here","_law_blocks","_law_words","_law_kind","_law_at","_law_far"],3,m_law_end,[]⟩
def m_law_source:C:=(cSeq (cAsg (mCall "_law_names" (aCons (mVar 0) (aCons (mTwo addD (mCon (.int 1)) (mCall "_law_draw" (aCons (mVar 0) (aCons (mVar 1) aNil)))) aNil))) (gN 2)) (cSeq (cAsg (mCall "_law_names" (aCons (mVar 0) (aCons (mTwo addD (mCon (.int 2)) (mCall "_law_draw" (aCons (mVar 0) (aCons (mCon (.int 2)) aNil)))) aNil))) (gN 3)) (cSeq (cMul (rCons (mCall "_law_names" (aCons (mVar 0) (aCons (mCon (.int 2)) aNil))) (rCons (mLst aNil) rNil)) [(gN 4),(gN 5)]) (cSeq (cFor (iAny (mVar 2)) (gN 6) (cSeq (cAsg (mBlt tupleOfD (rCons (mLc (iRg1 (rCons (mCall "_law_draw" (aCons (mVar 0) (aCons (mCon (.int 4)) aNil))) rNil)) (gN 9) bYes (mCall "_law_row" (aCons (mVar 0) (aCons (mVar 3) (aCons (mVar 4) aNil)))) [9]) rNil)) (gN 7)) (cSeq (cApp (mVar 5) (mTup (aCons (mVar 6) (aCons (mVar 7) (aCons (mCall "_law_end" (aCons (mVar 0) (aCons (mVar 2) (aCons (mVar 3) aNil)))) aNil))))) cNil))) (cSeq (cAsg (mCall "_law_draw" (aCons (mVar 0) (aCons (mTwo addD (mBlt lenX (rCons (mVar 3) rNil)) (mCon (.int 1))) aNil))) (gN 8)) (cSeq (cRet (mDisp [((mCon (.str "blocks")),(mVar 5)),((mCon (.str "inputs")),(mSl (mVar 3) pNone (pSome (mVar 8)))),((mCon (.str "words")),(mVar 3)),((mCon (.str "ops")),(mVar 4))])) cNil))))))
def v_law_source:MFn:=⟨["_law_pool_here","_law_most","_law_blocks","_law_words","_law_ops","_law_rows","_law_block","_law_some","_law_many","_law_turn"],2,m_law_source,[]⟩
structure Gens (tab:Str→Option MFn):Prop extends Draws tab addD where
  law_names:tab "_law_names"=some v_law_names
  law_row:tab "_law_row"=some v_law_row
  law_end:tab "_law_end"=some v_law_end
  law_source:tab "_law_source"=some v_law_source
end
end Vs
namespace Vs
open PySem PySem.Spec PyProof.Rows L2 Mi
abbrev abc:Str:="abcdefghijklmnopqrstuvwxyz"
def isL (c:Nat):Bool:=!(Builtin.Str.occurrences abc ⟨#[c]⟩ 0 abc.length 1).isEmpty
def isName:D→Bool
  | .str x=>decide (1≤x.length)&&decide (x.length≤8)&&x.cps.toList.all isL
  |_=>false
def okD:D→Bool
  | .dct _ _=>false
  | .str x=>fitsB x.length&&fitsB x.cps.toList.length
  |d=>(tyD d).isSome
variable {tab:Str→Option MFn}
def okT:D→Bool
  | .tup ds=>fitsB ds.length&&ds.all okD
  |d=>okD d
def first:List D→Option Str
  | .str x::_=>some x
  |_=>none
def hasKind (d:D) (kind:Str) (many:Int):Bool:=match d with
  | .tup r=>decide ((r.length:Int)=many)&&decide (first r=some kind)
  |_=>false
def areNames:D→Bool
  | .tup ws=>ws.all isName
  |_=>false
def lenT:D→Nat
  | .tup ws=>ws.length
  |_=>0
def isRow (d:D):Bool:=match d with
  | .tup [a,b,c]=>decide (first [a,b,c]=some ("copy":Str))&&(isName b&&isName c)
  | .tup [a,b,c,e]=>decide (first [a,b,c,e]=some ("set":Str))&&(isName b&&(isName c&&(areNames e&&decide (lenT e≤2))))
  |_=>false
def okU:D→Bool
  | .tup ds=>fitsB ds.length&&ds.all okT
  |d=>okD d
theorem two {r:List D} {kd:Str} (h:hasKind (.tup r) kd 2=true): ∃ a b,r=[a,b]∧first [a,b]=some kd:=by
  simp only [hasKind,Bool.and_eq_true,decide_eq_true_eq] at h
  match r,h with
  |[a,b],h=>exact ⟨a,b,rfl,h.2⟩
  |[],hk=>simp at hk
  |[_],hk=>simp at hk
  |_::_::_::_,hk=>simp at hk;omega
def isEnd (d:D):Bool:=match d with
  | .tup [a,b]=>(decide (first [a,b]=some ("go":Str))||decide (first [a,b]=some ("return":Str)))&&isName b
  | .tup [a,b,c]=>decide (first [a,b,c]=some ("either":Str))&&(isName b&&(isName c&&!decide (first [b]=first [c])))
  |_=>false
end Vs
namespace Vs
open PySem PySem.Spec PyProof.Rows L2 Mi
variable {tab:Str→Option MFn}
def isBlock:D→Bool
  | .tup [a,.tup rs,e]=>isName a&&(decide (rs.length≤6)&&(rs.all isRow&&isEnd e))
  |_=>false
def okRs:D→Bool
  | .tup rs=>fitsB rs.length&&rs.all okU
  |d=>okD d
def okB:D→Bool
  | .tup [a,b,c]=>okD a&&(okRs b&&okU c)
  |d=>okD d
def nexts:D→List D
  | .tup (.str x::r)=>if x="return" then [] else r
  |_=>[]
def strOf:D→Str
  | .tup (.str x::_)=>x
  |_=>""
inductive Ck
  |ok
  |exc (c:Str) (d:D)
end Vs
namespace Vs
open PySem PySem.Spec PyProof.Rows L2 Mi
variable {tab:Str→Option MFn}
def seqD (t:Bool) (l:List D):D:=if t then .tup l else .lst l
end Vs
namespace Vs
open PySem PySem.Spec PyProof.Rows L2 Mi
variable {tab:Str→Option MFn}
def ends5:List (Str×Str):=[("",""),("","q"),("ab",""),("abcdefg",""),("","abcdefg")]
def letter (m:Nat):Str:=⟨#[97+m]⟩
def nm (p:Str×Str) (m:Nat):Str:=p.1++letter m++p.2
def nmB (p:Str×Str) (m:Nat):Bool:=fitsB (p.1.length+(letter m).length)&&(fitsB ((p.1++letter m).length+p.2.length)&&(isName (.str (nm p m))&&(okD (.str (nm p m))&&(PyData.strOk (nm p m)&&(!decide (nm p m="zzzzz")&&decide (atI abc.cps.toList (m:Int)=some (97+m)))))))
theorem nm_all:ends5.all (fun p=>(List.range 26).all fun m=>nmB p m)=true:=by decide+kernel
theorem nm_ok {p:Str×Str} (hp:p∈ends5) {m:Nat} (hm:m<26):nmB p m=true:=by
  have:=List.all_eq_true.mp nm_all p hp
  exact List.all_eq_true.mp this m (List.mem_range.mpr hm)
def Word0 (w:Str):Prop:= ∃ p∈ends5,∃ m,m<26∧w=nm p m
def Word (w:Str):Prop:=Word0 w∨w="lonely"
theorem Word.is {w:Str} (h:Word w):isName (.str w)=true∧okD (.str w)=true∧PyData.strOk w=true∧w≠"zzzzz":=by
  rcases h with ⟨p,hp,m,hm,rfl⟩|rfl
  case inr=>decide+kernel
  have:=nm_ok hp hm
  simp only [nmB,Bool.and_eq_true,Bool.not_eq_true',decide_eq_false_iff_not] at this
  exact ⟨this.2.2.1,this.2.2.2.1,this.2.2.2.2.1,this.2.2.2.2.2.1⟩
end Vs
namespace Vs
open PySem PySem.Spec PyProof.Rows L2 Mi
variable {tab:Str→Option MFn}
theorem rangeD_eq (c:Nat):rangeD 0 c=(List.range c).map fun i:Nat=>D.int ((i:Nat):Int):=by
  simp [rangeD]
inductive Row (ws ops:List Str):D→Prop
  |copy {x y:Str}:x∈ws→y∈ws→Row ws ops (.tup [.str "copy",.str x,.str y])
  |set {x op:Str} {l:List Str}:x∈ws→op∈ops→(∀ w∈l,w∈ws)→l.length≤2→Row ws ops (.tup [.str "set",.str x,.str op,.tup (l.map D.str)])
inductive End (bs ws:List Str):D→Prop
  |ret {w:Str}:w∈ws→End bs ws (.tup [.str "return",.str w])
  |go {b:Str}:b∈bs→End bs ws (.tup [.str "go",.str b])
  |either {b c:Str}:b∈bs→c∈bs→b≠c→End bs ws (.tup [.str "either",.str b,.str c])
end Vs
namespace Vs
open PySem PySem.Spec PyProof.Rows L2 Mi
variable {tab:Str→Option MFn}
structure Blk (bs ws ops:List Str) (b:Str) (rs:List D) (e:D):Prop where
  few:rs.length≤3
  rows: ∀ r∈rs,Row ws ops r
  fin:End bs ws e
inductive Blks (bs ws ops:List Str):List Str→List D→Prop
  |nil:Blks bs ws ops [] []
  |cons {b:Str} {r:List Str} {rs:List D} {e:D} {l:List D}:Blk bs ws ops b rs e→Blks bs ws ops r l→Blks bs ws ops (b::r) (.tup [.str b,.tup rs,e]::l)
structure Src (most:Nat) (bs ws ops:List Str) (rows:List D):Prop where
  b0:0<bs.length
  b1:bs.length≤most
  bd:bs.Nodup
  bw: ∀ w∈bs,Word w
  w0:2≤ws.length
  w1:ws.length≤3
  wd:ws.Nodup
  ww: ∀ w∈ws,Word w
  o0:ops.length=2
  od:ops.Nodup
  ow: ∀ w∈ops,Word w
  rows:Blks bs ws ops bs rows
end Vs
namespace Vs
open PySem PySem.Spec PyProof.Rows L2 Mi
theorem fits_le {n:Nat} (h:n≤100000):fitsB n=true:=by simp only [fitsB,decide_eq_true_eq];exact h
theorem Row.is {ws ops:List Str} (hw: ∀ w∈ws,Word w) (ho: ∀ w∈ops,Word w) {d:D} (h:Row ws ops d):isRow d=true∧okU d=true:=by
  cases h with
  | copy hx hy=>
    have a:=(hw _ hx).is
    have b:=(hw _ hy).is
    refine ⟨by simp [isRow,first,a.1,b.1], ?_⟩
    simp only [okU,List.all_cons,List.all_nil,okT,a.2.1,b.2.1,Bool.and_true]
    rfl
  | @set x op l hx hop hl h2=>
    have a:=(hw _ hx).is
    have b:=(ho _ hop).is
    have c:(l.map D.str).all isName=true:=by
      simp only [List.all_map,List.all_eq_true]
      exact fun w hw'=>(hw w (hl w hw')).is.1
    have c2:(l.map D.str).all okD=true:=by
      simp only [List.all_map,List.all_eq_true]
      exact fun w hw'=>(hw w (hl w hw')).is.2.1
    refine ⟨by simp [isRow,first,a.1,b.1,areNames,c,lenT,h2], ?_⟩
    simp only [okU,List.all_cons,List.all_nil,okT,a.2.1,b.2.1,c2,List.length_map,fits_le (show l.length≤100000 by omega),Bool.and_true]
    rfl
theorem End.is {bs ws:List Str} (hb: ∀ w∈bs,Word w) (hw: ∀ w∈ws,Word w) {d:D} (h:End bs ws d):isEnd d=true∧okU d=true∧∀ x∈nexts d,∃ b∈bs,x= .str b:=by
  have n1:("go":Str)≠"return":=by decide+kernel
  have n2:("either":Str)≠"return":=by decide+kernel
  cases h with
  | ret hx=>
    have a:=(hw _ hx).is
    refine ⟨by simp [isEnd,first,a.1], ?_,fun x hx=>by simp [nexts] at hx⟩
    simp only [okU,List.all_cons,List.all_nil,okT,a.2.1,Bool.and_true]
    rfl
  | go hx=>
    have a:=(hb _ hx).is
    refine ⟨by simp [isEnd,first,a.1], ?_,fun x hx'=>?_⟩
    · simp only [okU,List.all_cons,List.all_nil,okT,a.2.1,Bool.and_true]
      rfl
    · simp only [nexts,n1,if_false,List.mem_singleton] at hx'
      exact ⟨_,hx,hx'⟩
  | either hx hy hne=>
    have a:=(hb _ hx).is
    have b:=(hb _ hy).is
    refine ⟨by simp [isEnd,first,a.1,b.1,hne], ?_,fun x hx'=>?_⟩
    · simp only [okU,List.all_cons,List.all_nil,okT,a.2.1,b.2.1,Bool.and_true]
      rfl
    · simp only [nexts,n2,if_false,List.mem_cons,List.not_mem_nil,or_false] at hx'
      rcases hx' with e|e
      · exact ⟨_,hx,e⟩
      · exact ⟨_,hy,e⟩
theorem Blks.all {bs ws ops rest_:List Str} {rows:List D} (h:Blks bs ws ops rest_ rows):(∀ d∈rows,∃ b rs e,d= .tup [.str b,.tup rs,e]∧b∈rest_∧Blk bs ws ops b rs e)∧rows.map strOf=rest_:=by
  induction h with
  |nil=>exact ⟨fun d hd=>(nomatch hd),rfl⟩
  | @cons b r rs e l hB _ ih=>
    refine ⟨fun d hd=>?_,by simp [strOf,ih.2]⟩
    rcases List.mem_cons.mp hd with rfl|hd
    · exact ⟨b,rs,e,rfl,by simp,hB⟩
    · obtain ⟨b',rs',e',h1,h2,h3⟩:=ih.1 d hd
      exact ⟨b',rs',e',h1,by simp [h2],h3⟩
theorem Blk.is {bs ws ops:List Str} (hb: ∀ w∈bs,Word w) (hw: ∀ w∈ws,Word w) (ho: ∀ w∈ops,Word w) {b:Str} {rs:List D} {e:D} (hB:b∈bs) (h:Blk bs ws ops b rs e):
    isBlock (.tup [.str b,.tup rs,e])=true∧okB (.tup [.str b,.tup rs,e])=true∧okRs (.tup rs)=true∧okU e=true∧rs.all isRow=true:=by
  have a:=(hb _ hB).is
  have c:rs.all isRow=true:=by
    simp only [List.all_eq_true]
    exact fun r hr=>((h.rows r hr).is hw ho).1
  have c2:rs.all okU=true:=by
    simp only [List.all_eq_true]
    exact fun r hr=>((h.rows r hr).is hw ho).2
  have d:=h.fin.is hb hw
  have f:rs.length≤6:=by have:=h.few;omega
  have o:okRs (.tup rs)=true:=by simp only [okRs,c2,fits_le (show rs.length≤100000 by omega),Bool.and_true]
  refine ⟨by simp [isBlock,a.1,f,c,d.1],by simp only [okB,a.2.1,o,d.2.1,Bool.and_true],o,d.2.1,c⟩
end Vs
namespace Vs
open PySem PySem.Spec PyProof.Rows L2 Mi
noncomputable section
def m_Source___contains__:C:=(cSeq (cRet (mAnd (mBlt isiD (rCons (mVar 1) (rCons (mCon (.ty "str")) rNil))) (mTwo inX (mVar 1) (mOne (fldD "own_blocks") (mVar 0))))) cNil)
def v_Source___contains__:MFn:=⟨["self","block"],2,m_Source___contains__,[]⟩
def m_Source___getitem__:C:=(cSeq (cIf (bCmp (bin2 (inF allM true) (mVar 1) (mVar 0))) (cSeq (cRaise "UnknownBlock" (aCons (mVar 1) aNil)) cNil) cNil) (cSeq (cRet (mTwo atX (mOne (fldD "own_blocks") (mVar 0)) (mVar 1))) cNil))
def v_Source___getitem__:MFn:=⟨["self","block"],2,m_Source___getitem__,[]⟩
def m_Source_blocks:C:=(cSeq (cRet (mBlt listX (rCons (mOne (fldD "own_blocks") (mVar 0)) rNil))) cNil)
def v_Source_blocks:MFn:=⟨["self"],1,m_Source_blocks,[]⟩
def m_Source_nexts:C:=(cSeq (cRet (mBlt listX (rCons (mCall "next_blocks" (aCons (mTwo atX (bin2 (atF allM) (mVar 0) (mVar 1)) (mCon (.int 1))) aNil)) rNil))) cNil)
def v_Source_nexts:MFn:=⟨["self","block"],2,m_Source_nexts,[]⟩
end
end Vs
namespace Vs
open PySem PySem.Spec PyProof.Rows L2 Mi
abbrev Bk:=Str×List D×D
def strsOf:List D→List Str
  |[]=>[]
  | .str x::r=>x::strsOf r
  |_::r=>strsOf r
def nxB (p:Bk):List Str:=strsOf (nexts p.2.2)
structure WfP (P:List Bk):Prop where
  nd:(P.map (·.1)).Nodup
  ne:P≠[]
  few:P.length≤8
  en: ∀ p∈P,∃ x r,p.2.2= .tup (.str x::r)
  nx: ∀ p∈P,nexts p.2.2=(nxB p).map .str
  to: ∀ p∈P,∀ y∈nxB p,y∈P.map (·.1)
  two: ∀ p∈P,(nxB p).length≤2
variable {tab:Str→Option MFn} {P:List Bk} {ins:List Str}
def kd:D→Bool
  | .non| .bl _| .int _| .str _| .tup _| .lst _=>true
  |_=>false
structure SrcG (tab:Str→Option MFn):Prop extends Srcs tab where
  contains:tab "Source.__contains__"=some v_Source___contains__
  getitem:tab "Source.__getitem__"=some v_Source___getitem__
  blocks:tab "Source.blocks"=some v_Source_blocks
structure SrcM (tab:Str→Option MFn):Prop extends SrcG tab where
  nexts:tab "Source.nexts"=some v_Source_nexts
end Vs
namespace Vs
open PySem PySem.Spec PyProof.Rows L2 Mi
noncomputable section
def m_Source_rows:C:=(cSeq (cRet (mTwo atX (bin2 (atF allM) (mVar 0) (mVar 1)) (mCon (.int 0)))) cNil)
def v_Source_rows:MFn:=⟨["self","block"],2,m_Source_rows,[]⟩
def m_Source_end:C:=(cSeq (cRet (mTwo atX (bin2 (atF allM) (mVar 0) (mVar 1)) (mCon (.int 1)))) cNil)
def v_Source_end:MFn:=⟨["self","block"],2,m_Source_end,[]⟩
end
end Vs
namespace Vs
open PySem PySem.Spec PyProof.Rows L2 Mi
variable {tab:Str→Option MFn} {P:List Bk} {ins:List Str}
end Vs
namespace Vs
open PySem PySem.Spec PyProof.Rows L2 Mi
mutual
def lyD:Nat→D→Bool
  |_,.non=>true
  |_,.bl _=>true
  |_,.int _=>true
  |_,.str x=>PyData.strOk x
  |n+1,.tup ds=>lyDs n ds
  |n+1,.lst ds=>lyDs n ds
  |_,_=>false
def lyDs:Nat→List D→Bool
  |_,[]=>true
  |n,d::ds=>lyD n d&&lyDs n ds
end
mutual
theorem ly_toP: ∀ (n:Nat) (d:D),lyD n d=true→∃ p,toP d=some p∧p.canLay0=true∧p.depth≤n
  |_,.non,_=>⟨.none,rfl,rfl,by simp [PyData.depth]⟩
  |_,.bl b,_=>⟨.bool b,rfl,rfl,by simp [PyData.depth]⟩
  |_,.int i,_=>⟨.int i,rfl,rfl,by simp [PyData.depth]⟩
  |_,.str x,h=>⟨.str x,rfl,by simpa [PyData.canLay0,lyD] using h,by simp [PyData.depth]⟩
  | n+1,.tup ds,h=>by
    obtain ⟨ps,h1,h2,h3⟩:=ly_toPs n ds (by simpa [lyD] using h)
    exact ⟨.tuple ps,by simp [toP,h1],by simpa [PyData.canLay0] using h2,by simp only [PyData.depth];omega⟩
  | n+1,.lst ds,h=>by
    obtain ⟨ps,h1,h2,h3⟩:=ly_toPs n ds (by simpa [lyD] using h)
    exact ⟨.list ps,by simp [toP,h1],by simpa [PyData.canLay0] using h2,by simp only [PyData.depth];omega⟩
  |0,.tup ds,h=>by simp [lyD] at h
  |0,.lst ds,h=>by simp [lyD] at h
  |_,.scr _,h=>by simp [lyD] at h
  |_,.dic _ _,h=>by simp [lyD] at h
  |_,.ins _ _ _,h=>by simp [lyD] at h
  |_,.loc _,h=>by simp [lyD] at h
  |_,.fn _,h=>by simp [lyD] at h
  |_,.ty _,h=>by simp [lyD] at h
  |_,.cls _,h=>by simp [lyD] at h
  |_,.xn _ _ _,h=>by simp [lyD] at h
  |_,.xv _ _ _,h=>by simp [lyD] at h
  |_,.lk _ _,h=>by simp [lyD] at h
  |_,.dct _ _,h=>by simp [lyD] at h
theorem ly_toPs: ∀ (n:Nat) (ds:List D),lyDs n ds=true→∃ ps,toPs ds=some ps∧PyData.canLayAll0 ps=true∧PyData.depthAll ps≤n
  |_,[],_=>⟨[],rfl,rfl,by simp [PyData.depthAll]⟩
  | n,d::ds,h=>by
    simp only [lyDs,Bool.and_eq_true] at h
    obtain ⟨p,h1,h2,h3⟩:=ly_toP n d h.1
    obtain ⟨ps,h4,h5,h6⟩:=ly_toPs n ds h.2
    exact ⟨p::ps,by simp [toPs,h1,h4],by simp [PyData.canLayAll0,h2,h5],by simp only [PyData.depthAll];omega⟩
end
theorem ly_shaped {n:Nat} {d:D} (hn:n≤64) (h:lyD n d=true): ∃ p,toP d=some p∧SeqAt.shaped p=true∧PyData.eqv p p=true:=by
  obtain ⟨p,h1,h2,h3⟩:=ly_toP n d h
  refine ⟨p,h1, ?_,SeqAt.eqv_refl p h2⟩
  simp only [SeqAt.shaped,h2,Bool.true_and,decide_eq_true_eq]
  omega
theorem eqB_self {n:Nat} {ds:List D} (hn:n≤64) (h:lyD n (.lst ds)=true):eqB (.lst ds) (.lst ds)=some true:=by
  obtain ⟨p,h1,h2,h3⟩:=ly_shaped hn h
  simp only [eqB,h1,Option.bind_some,h2,Bool.and_self,if_true,h3]
theorem lyDs_all {n:Nat}: ∀ {ds:List D},(∀ d∈ds,lyD n d=true)→lyDs n ds=true
  |[],_=>by simp [lyDs]
  | d::ds,h=>by
    simp only [lyDs,h d (by simp),Bool.true_and]
    exact lyDs_all fun x hx=>h x (by simp [hx])
theorem ly_strs {n:Nat} {l:List Str} (h: ∀ x∈l,PyData.strOk x=true):lyDs n (l.map D.str)=true:=lyDs_all fun d hd=>by
  obtain ⟨x,hx,rfl⟩:=List.mem_map.mp hd
  simpa [lyD] using h x hx
end Vs
namespace Vs
open PySem PySem.Spec PyProof.Rows L2 Mi
end Vs
namespace Mi
open PySem PySem.Spec PyProof.Rows L2
def Ends (Q:S→Prop) (r:Fl):Prop:= ∃ s,r= .nx s∧Q s
theorem ends_nx {Q:S→Prop} {s:S} (h:Q s):Ends Q (.nx s):=⟨s,rfl,h⟩
theorem Ends.mono {Q Q':S→Prop} {r:Fl} (h:Ends Q r) (f: ∀ s,Q s→Q' s):Ends Q' r:=by
  obtain ⟨s,e,q⟩:=h
  exact ⟨s,e,f s q⟩
theorem Ends.then_ {Q Q':S→Prop} {r:Fl} {f:S→Fl} (h:Ends Q r) (g: ∀ s,Q s→Ends Q' (f s)):Ends Q' (r.then f):=by
  obtain ⟨s,e,q⟩:=h
  subst e
  exact g s q
theorem ends_inv {call:Call} {g:Tg} {body:C} (I:S→Prop) (ds:List D) (s:S) (h0:I s) (h: ∀ d∈ds,∀ s,I s→∃ s1,g (.fz d) s=some s1∧Ends I (body call s1)):Ends I (forL call g body ds s):=by
  obtain ⟨s',e,q⟩:=forL_inv (call:=call) (g:=g) (body:=body) I ds s h0 fun d hd s hs=>by
    obtain ⟨s1,e1,s2,e2,q⟩:=h d hd s hs
    exact ⟨s1,e1,s2,.inl e2,q⟩
  exact ⟨s',e,q⟩
end Mi
namespace Vs
open PySem PySem.Spec PyProof.Rows L2 Mi
mutual
def pur:D→Bool
  | .loc _=>false
  | .dct _ _=>false
  | .xn _ _ _=>false
  | .xv _ _ _=>false
  | .tup ds=>purs ds
  | .lst ds=>purs ds
  | .dic _ ds=>purs ds
  | .ins _ _ ds=>purs ds
  |_=>true
def purs:List D→Bool
  |[]=>true
  |d::ds=>pur d&&purs ds
end
mutual
theorem sbD_pur (f:Nat→Option D): ∀ (d:D),pur d=true→sbD f d=some d
  | .non,_=>rfl
  | .bl _,_=>rfl
  | .int _,_=>rfl
  | .str _,_=>rfl
  | .fn _,_=>rfl
  | .scr _,_=>rfl
  | .ty _,_=>rfl
  | .cls _,_=>rfl
  | .lk _ _,_=>rfl
  | .loc _,h=>by cases h
  | .dct _ _,h=>by cases h
  | .xn _ _ _,h=>by cases h
  | .xv _ _ _,h=>by cases h
  | .tup ds,h=>by simp only [sbD,sbDs_pur f ds h,Option.map_some]
  | .lst ds,h=>by simp only [sbD,sbDs_pur f ds h,Option.map_some]
  | .dic _ ds,h=>by simp only [sbD,sbDs_pur f ds h,Option.map_some]
  | .ins _ _ ds,h=>by simp only [sbD,sbDs_pur f ds h,Option.map_some]
theorem sbDs_pur (f:Nat→Option D): ∀ (ds:List D),purs ds=true→sbDs f ds=some ds
  |[],_=>rfl
  | d::ds,h=>by
    obtain ⟨h1,h2⟩:=Bool.and_eq_true_iff.mp h
    simp only [sbDs,sbD_pur f d h1,sbDs_pur f ds h2,Option.bind_some,Option.map_some]
end
section
variable {most:Nat} {bs ws ops:List Str} {rows:List D}
end
variable {tab:Str→Option MFn} {most:Nat} {bs ws ops:List Str} {rows:List D}
end Vs
namespace Vs
open PySem PySem.Spec PyProof.Rows L2 Mi
noncomputable section
def m_is_integer:C:=(cSeq (cRet (mAnd (mBlt isiD (rCons (mVar 0) (rCons (mCon (.ty "int")) rNil))) (mNot (mBlt isiD (rCons (mVar 0) (rCons (mCon (.ty "bool")) rNil)))))) cNil)
def v_is_integer:MFn:=⟨["value"],1,m_is_integer,[]⟩
def m_are_unlike:C:=(cSeq (cRet (mBlt allD (rCons (mLc (iEn (aCons (mVar 0) aNil)) (gT 2 (gsCons (gN 1) (gsCons (gN 2) gsNil))) bYes (mTwo notInX (mVar 2) (mSl (mVar 0) pNone (pSome (mVar 1)))) [1,2]) rNil))) cNil)
def v_are_unlike:MFn:=⟨["values","at","value"],1,m_are_unlike,[]⟩
def m_is_made_row:C:=(cSeq (cIf (bNot (bVal (mCall "has_kind" (aCons (mVar 0) (aCons (mCon (.str "call")) (aCons (mCon (.int 5)) aNil)))))) (cSeq (cRet (mCall "is_row" (aCons (mVar 0) aNil))) cNil) cNil) (cSeq (cIf (bNot (bVal (mCall "is_row" (aCons (mTup (aCons (mCon (.str "set")) (aCons (mTwo atX (mVar 0) (mCon (.int 1))) (aCons (mTwo atX (mVar 0) (mCon (.int 2))) (aCons (mTwo atX (mVar 0) (mCon (.int 3))) aNil))))) aNil)))) (cSeq (cRet (mCon (.bl false))) cNil) cNil) (cSeq (cRet (mAnd (mCall "are_names" (aCons (mTwo atX (mVar 0) (mCon (.int 4))) aNil)) (mCall "are_unlike" (aCons (mTwo atX (mVar 0) (mCon (.int 4))) aNil)))) cNil)))
def v_is_made_row:MFn:=⟨["value"],1,m_is_made_row,[]⟩
def m_check_names:C:=(cSeq (cFor (iAny (mMeth allM "blocks" (mVar 0) aNil)) (gN 2) (cSeq (cIf (bCmp (mTwo notInX (mVar 2) (mVar 1))) (cSeq (cRaise "UnknownBlock" (aCons (mVar 2) aNil)) cNil) cNil) cNil)) (cSeq (cFor (iAny (mVar 1)) (gN 2) (cSeq (cIf (bCmp (bin2 (inF allM true) (mVar 2) (mVar 0))) (cSeq (cRaise "UnknownBlock" (aCons (mVar 2) aNil)) cNil) cNil) cNil)) cNil))
def v_check_names:MFn:=⟨["source","blocks","block"],2,m_check_names,[]⟩
def m_has_return:C:=(cSeq (cRet (mTwo eqX (mTwo atX (mMeth allM "end" (mVar 0) (aCons (mVar 1) aNil)) (mCon (.int 0))) (mCon (.str "return")))) cNil)
def v_has_return:MFn:=⟨["source","block"],2,m_has_return,[]⟩
def m_split_rows:C:=(cSeq (cIf (bNot (bVal (mBlt isiD (rCons (mVar 2) (rCons (mCon (.ty "tuple")) rNil))))) (cSeq (cRet (mCon .non)) cNil) cNil) (cSeq (cMul (rCons (mVar 2) (rCons (mCon .non) rNil)) [(gN 3),(gN 4)]) (cSeq (cIf (bVal (mCall "has_return" (aCons (mVar 0) (aCons (mVar 1) aNil)))) (cSeq (cIf (bOr (bCmp (mTwo eqX (mBlt lenX (rCons (mVar 2) rNil)) (mCon (.int 0)))) (bOr (bNot (bVal (mCall "has_kind" (aCons (mTwo atX (mVar 2) (mOne negD (mCon (.int 1)))) (aCons (mCon (.str "return")) (aCons (mCon (.int 2)) aNil)))))) (bNot (bVal (mCall "is_name" (aCons (mTwo atX (mTwo atX (mVar 2) (mOne negD (mCon (.int 1)))) (mCon (.int 1))) aNil)))))) (cSeq (cRet (mCon .non)) cNil) cNil) (cSeq (cMul (rCons (mSl (mVar 2) pNone (pSome (mOne negD (mCon (.int 1))))) (rCons (mTwo atX (mTwo atX (mVar 2) (mOne negD (mCon (.int 1)))) (mCon (.int 1))) rNil)) [(gN 3),(gN 4)]) cNil)) cNil) (cSeq (cIf (bOr (bCmp (mTwo gtD (mBlt lenX (rCons (mVar 3) rNil)) (mCon (.int 16)))) (bNot (bVal (mBlt allD (rCons (mLc (iAny (mVar 3)) (gN 5) bYes (mCall "is_made_row" (aCons (mVar 5) aNil)) [5]) rNil))))) (cSeq (cRet (mCon .non)) cNil) cNil) (cSeq (cRet (mTup (aCons (mVar 3) (aCons (mVar 4) aNil)))) cNil)))))
def v_split_rows:MFn:=⟨["source","block","value","rows","place","row"],3,m_split_rows,[]⟩
def m_are_labels:C:=(cSeq (cAsg (mBlt lenX (rCons (mMeth allM "rows" (mVar 0) (aCons (mVar 1) aNil)) rNil)) (gN 4)) (cSeq (cIf (bOr (bNot (bVal (mBlt isiD (rCons (mVar 3) (rCons (mCon (.ty "tuple")) rNil))))) (bCmp (mTwo neX (mBlt lenX (rCons (mVar 3) rNil)) (mTwo addD (mBlt lenX (rCons (mVar 2) rNil)) (mCon (.int 1)))))) (cSeq (cRet (mCon (.bl false))) cNil) cNil) (cSeq (cRet (mAnd (mBlt allD (rCons (mLc (iAny (mVar 3)) (gN 5) bYes (mAnd (mCall "is_integer" (aCons (mVar 5) aNil)) (mChain leD leD (mCon (.int 0)) (mVar 5) (mVar 4))) [5]) rNil)) (mTwo eqX (mTwo atX (mVar 3) (mOne negD (mCon (.int 1)))) (mVar 4)))) cNil)))
def v_are_labels:MFn:=⟨["source","block","rows","value","most","label"],4,m_are_labels,[]⟩
def m_checked_lies:C:=(cSeq (cAsg mDic0 (gN 2)) (cSeq (cForEn (aCons (mOne (fldD "inputs") (mVar 0)) aNil) (gT 2 (gsCons (gN 3) (gsCons (gN 4) gsNil))) (cSeq (cIf (bOr (bCmp (mTwo notInX (mVar 4) (mVar 1))) (bOr (bNot (bVal (mCall "is_name" (aCons (mTwo atX (mVar 1) (mVar 4)) aNil)))) (bCmp (mTwo inX (mTwo atX (mVar 1) (mVar 4)) (mOne valsD (mVar 2)))))) (cSeq (cRaise "BadInput" (aCons (mVar 3) aNil)) cNil) cNil) (cSeq (cSetX (mTwo atX (mVar 1) (mVar 4)) (mVar 2) (mVar 4)) cNil))) (cSeq (cIf (bCmp (mTwo neX (mBlt lenX (rCons (mVar 1) rNil)) (mBlt lenX (rCons (mVar 2) rNil)))) (cSeq (cRaise "BadInput" (aCons (mCon .non) aNil)) cNil) cNil) (cSeq (cRet (mVar 2)) cNil))))
def v_checked_lies:MFn:=⟨["source","lies","found","index","name"],2,m_checked_lies,[]⟩
def m_Made_init:C:=(cSeq (cExpr (mCall "check_names" (aCons (mVar 1) (aCons (mVar 2) aNil)))) (cSeq (cFld (mVar 1) (mVar 0) "source") (cSeq (cFld (mCell mDic0) (mVar 0) "codes") (cSeq (cFor (iAny (mMeth allM "blocks" (mVar 1) aNil)) (gN 6) (cSeq (cAsg (mCall "split_rows" (aCons (mVar 1) (aCons (mVar 6) (aCons (mTwo atX (mVar 2) (mVar 6)) aNil)))) (gN 7)) (cSeq (cIf (bCmp (mTwo isNoneD (mVar 7) (mCon .non))) (cSeq (cRaise "BadRow" (aCons (mVar 6) aNil)) cNil) cNil) (cSeq (cSetX (mVar 7) (mOne (fldD "codes") (mVar 0)) (mVar 6)) cNil)))) (cSeq (cFld (mCell mDic0) (mVar 0) "marks") (cSeq (cFor (iAny (mMeth allM "blocks" (mVar 1) aNil)) (gN 6) (cSeq (cIf (bOr (bCmp (mTwo notInX (mVar 6) (mVar 3))) (bNot (bVal (mCall "are_labels" (aCons (mVar 1) (aCons (mVar 6) (aCons (mTwo atX (mTwo atX (mOne (fldD "codes") (mVar 0)) (mVar 6)) (mCon (.int 0))) (aCons (mTwo atX (mVar 3) (mVar 6)) aNil)))))))) (cSeq (cRaise "BadLabels" (aCons (mVar 6) aNil)) cNil) cNil) (cSeq (cSetX (mTwo atX (mVar 3) (mVar 6)) (mOne (fldD "marks") (mVar 0)) (mVar 6)) cNil))) (cSeq (cFld (mCall "checked_lies" (aCons (mVar 1) (aCons (mVar 4) aNil))) (mVar 0) "homes") (cSeq (cIf (bOr (bNot (bVal (mCall "are_names" (aCons (mVar 5) aNil)))) (bNot (bVal (mCall "are_unlike" (aCons (mTup (aStar (mVar 5) (aStarV (mOne (fldD "homes") (mVar 0)) aNil))) aNil))))) (cSeq (cRaise "BadShown" (aCons (mVar 5) aNil)) cNil) cNil) (cSeq (cFld (mVar 5) (mVar 0) "entries") cNil)))))))))
def v_Made_init:MFn:=⟨["self","source","blocks","labels","lies","entries","block","code"],6,m_Made_init,[(.tup [])]⟩
def m_law_mapped:C:=(cSeq (cIf (bCmp (mTwo eqX (mTwo atX (mVar 1) (mCon (.int 0))) (mCon (.str "copy")))) (cSeq (cRet (mTup (aCons (mCon (.str "copy")) (aCons (mTwo atX (mVar 0) (mTwo atX (mVar 1) (mCon (.int 1)))) (aCons (mTwo atX (mVar 0) (mTwo atX (mVar 1) (mCon (.int 2)))) aNil))))) cNil) cNil) (cSeq (cRet (mTup (aCons (mCon (.str "set")) (aCons (mTwo atX (mVar 0) (mTwo atX (mVar 1) (mCon (.int 1)))) (aCons (mTwo atX (mVar 1) (mCon (.int 2))) (aCons (mBlt tupleOfD (rCons (mLc (iAny (mTwo atX (mVar 1) (mCon (.int 3)))) (gN 2) bYes (mTwo atX (mVar 0) (mVar 2)) [2]) rNil)) aNil)))))) cNil))
def v_law_mapped:MFn:=⟨["_law_seat","_law_row_here","_law_word"],2,m_law_mapped,[]⟩
def m_law_bent_rows:C:=(cSeq (cAsg (mCall "_law_draw" (aCons (mVar 0) (aCons (mCon (.int 6)) aNil))) (gN 4)) (cSeq (cAsg (mCall "_law_draw" (aCons (mVar 0) (aCons (mTwo addD (mBlt lenX (rCons (mVar 1) rNil)) (mCon (.int 1))) aNil))) (gN 5)) (cSeq (cIf (bAnd (bCmp (mTwo eqX (mVar 4) (mCon (.int 0)))) (bCmp (mTwo ltD (mVar 5) (mBlt lenX (rCons (mVar 1) rNil))))) (cSeq (cRet (mTwo addD (mSl (mVar 1) pNone (pSome (mVar 5))) (mSl (mVar 1) (pSome (mTwo addD (mVar 5) (mCon (.int 1)))) pNone))) cNil) cNil) (cSeq (cIf (bAnd (bCmp (mTwo eqX (mVar 4) (mCon (.int 1)))) (bCmp (mTwo ltD (mBlt lenX (rCons (mVar 1) rNil)) (mCon (.int 8))))) (cSeq (cAsg (mIf (bCmp (mTwo ltD (mVar 5) (mBlt lenX (rCons (mVar 1) rNil)))) (mTwo atX (mTwo atX (mVar 1) (mVar 5)) (mCon (.int 1))) (mCon .non)) (gN 6)) (cSeq (cAsg (mCall "_law_pick" (aCons (mVar 0) (aCons (mVar 2) aNil))) (gN 7)) (cSeq (cRet (mTwo addD (mTwo addD (mSl (mVar 1) pNone (pSome (mVar 5))) (mLst (aCons (mLst (aCons (mTup (aCons (mCon (.str "copy")) (aCons (mVar 7) (aCons (mCall "_law_pick" (aCons (mVar 0) (aCons (mVar 2) aNil))) aNil)))) (aCons (mVar 6) aNil))) aNil))) (mSl (mVar 1) (pSome (mVar 5)) pNone))) cNil))) cNil) (cSeq (cIf (bAnd (bCmp (mTwo eqX (mVar 4) (mCon (.int 2)))) (bCmp (mTwo ltD (mTwo addD (mVar 5) (mCon (.int 1))) (mBlt lenX (rCons (mVar 1) rNil))))) (cSeq (cRet (mTwo addD (mTwo addD (mSl (mVar 1) pNone (pSome (mVar 5))) (mLst (aCons (mTwo atX (mVar 1) (mTwo addD (mVar 5) (mCon (.int 1)))) (aCons (mTwo atX (mVar 1) (mVar 5)) aNil)))) (mSl (mVar 1) (pSome (mTwo addD (mVar 5) (mCon (.int 2)))) pNone))) cNil) cNil) (cSeq (cIf (bAnd (bCmp (mTwo eqX (mVar 4) (mCon (.int 3)))) (bAnd (bCmp (mTwo ltD (mVar 5) (mBlt lenX (rCons (mVar 1) rNil)))) (bCmp (mTwo eqX (mTwo atX (mTwo atX (mTwo atX (mVar 1) (mVar 5)) (mCon (.int 0))) (mCon (.int 0))) (mCon (.str "set")))))) (cSeq (cAsg (mTwo atX (mVar 1) (mVar 5)) (gT 2 (gsCons (gN 8) (gsCons (gN 6) gsNil)))) (cSeq (cAsg (mBlt tupleOfD (rCons (mLc (iAny (mVar 2)) (gN 7) (bCmp (mTwo gtD (mCall "_law_draw" (aCons (mVar 0) (aCons (mCon (.int 3)) aNil))) (mCon (.int 0)))) (mVar 7) [7]) rNil)) (gN 9)) (cSeq (cAsg (mTup (aCons (mCon (.str "call")) (aCons (mTwo atX (mVar 8) (mCon (.int 1))) (aCons (mTwo atX (mVar 8) (mCon (.int 2))) (aCons (mTwo atX (mVar 8) (mCon (.int 3))) (aCons (mVar 9) aNil)))))) (gN 10)) (cSeq (cRet (mTwo addD (mTwo addD (mSl (mVar 1) pNone (pSome (mVar 5))) (mLst (aCons (mLst (aCons (mVar 10) (aCons (mVar 6) aNil))) aNil))) (mSl (mVar 1) (pSome (mTwo addD (mVar 5) (mCon (.int 1)))) pNone))) cNil)))) cNil) (cSeq (cIf (bAnd (bCmp (mTwo eqX (mVar 4) (mCon (.int 4)))) (bCmp (mTwo ltD (mVar 5) (mBlt lenX (rCons (mVar 1) rNil))))) (cSeq (cAsg (mTwo atX (mVar 1) (mVar 5)) (gT 2 (gsCons (gN 8) (gsCons (gN 6) gsNil)))) (cSeq (cAsg (mTwo addD (mTup (aCons (mTwo atX (mVar 8) (mCon (.int 0))) (aCons (mCall "_law_pick" (aCons (mVar 0) (aCons (mVar 2) aNil))) aNil))) (mSl (mVar 8) (pSome (mCon (.int 2))) pNone)) (gN 11)) (cSeq (cRet (mTwo addD (mTwo addD (mSl (mVar 1) pNone (pSome (mVar 5))) (mLst (aCons (mLst (aCons (mVar 11) (aCons (mVar 6) aNil))) aNil))) (mSl (mVar 1) (pSome (mTwo addD (mVar 5) (mCon (.int 1)))) pNone))) cNil))) cNil) (cSeq (cRet (mVar 1)) cNil))))))))
def v_law_bent_rows:MFn:=⟨["_law_pool_here","_law_rows","_law_spots","_law_ops","_law_kind","_law_at","_law_label","_law_spot","_law_row_here","_law_kept","_law_call","_law_other"],4,m_law_bent_rows,[]⟩
def m_law_code:C:=(cSeq (cAsg (mTwo addD (mLc (iRg1 (rCons (mBlt lenX (rCons (mTwo atX (mVar 1) (mCon (.str "words"))) rNil)) rNil)) (gN 14) bYes (mTwo mulX (mCon (.str "r")) (mTwo addD (mVar 14) (mCon (.int 1)))) [14]) (mLst (aCons (mCon (.str "s")) (aCons (mCon (.str "ss")) aNil)))) (gN 3)) (cSeq (cAsg (mBlt dictX (rCons (mLc (iRg1 (rCons (mBlt lenX (rCons (mTwo atX (mVar 1) (mCon (.str "words"))) rNil)) rNil)) (gN 14) bYes (mTup (aCons (mTwo atX (mTwo atX (mVar 1) (mCon (.str "words"))) (mVar 14)) (aCons (mTwo atX (mVar 3) (mVar 14)) aNil))) [14]) rNil)) (gN 4)) (cSeq (cAsg (mDisp [((mCon (.str "spots")),(mVar 3)),((mCon (.str "seat")),(mVar 4)),((mCon (.str "entries")),(mTup aNil))]) (gN 5)) (cSeq (cFor (iAny (mLst (aCons (mCon (.str "rows")) (aCons (mCon (.str "labels")) (aCons (mCon (.str "ret")) (aCons (mCon (.str "lies")) aNil)))))) (gN 6) (cSeq (cSetX (mCell mDic0) (mVar 5) (mVar 6)) cNil)) (cSeq (cFor (iAny (mTwo atX (mVar 1) (mCon (.str "blocks")))) (gT 3 (gsCons (gN 7) (gsCons (gN 8) (gsCons (gN 9) gsNil)))) (cSeq (cAsg (mLc (iRg1 (rCons (mBlt lenX (rCons (mVar 8) rNil)) rNil)) (gN 15) bYes (mLst (aCons (mCall "_law_mapped" (aCons (mVar 4) (aCons (mTwo atX (mVar 8) (mVar 15)) aNil))) (aCons (mVar 15) aNil))) [15]) (gN 10)) (cSeq (cFor (iRg1 (rCons (mCall "_law_draw" (aCons (mVar 0) (aCons (mTwo addD (mVar 2) (mCon (.int 1))) aNil))) rNil)) (gN 11) (cSeq (cAsg (mCall "_law_bent_rows" (aCons (mVar 0) (aCons (mVar 10) (aCons (mVar 3) (aCons (mTwo atX (mVar 1) (mCon (.str "ops"))) aNil))))) (gN 10)) cNil)) (cSeq (cSetX (mLc (iAny (mVar 10)) (gN 16) bYes (mTwo atX (mVar 16) (mCon (.int 0))) [16]) (mTwo atX (mVar 5) (mCon (.str "rows"))) (mVar 7)) (cSeq (cAsg (mLc (iAny (mVar 10)) (gN 16) bYes (mIf (bCmp (mTwo isNoneD (mTwo atX (mVar 16) (mCon (.int 1))) (mCon .non))) (mBlt lenX (rCons (mVar 8) rNil)) (mTwo atX (mVar 16) (mCon (.int 1)))) [16]) (gN 12)) (cSeq (cSetX (mTwo addD (mVar 12) (mLst (aCons (mBlt lenX (rCons (mVar 8) rNil)) aNil))) (mTwo atX (mVar 5) (mCon (.str "labels"))) (mVar 7)) (cSeq (cSetX (mIf (bCmp (mTwo eqX (mTwo atX (mVar 9) (mCon (.int 0))) (mCon (.str "return")))) (mTwo atX (mVar 4) (mTwo atX (mVar 9) (mCon (.int 1)))) (mCon .non)) (mTwo atX (mVar 5) (mCon (.str "ret"))) (mVar 7)) cNil))))))) (cSeq (cFor (iAny (mTwo atX (mVar 1) (mCon (.str "inputs")))) (gN 13) (cSeq (cSetX (mTwo atX (mVar 4) (mVar 13)) (mTwo atX (mVar 5) (mCon (.str "lies"))) (mVar 13)) cNil)) (cSeq (cIf (bCmp (mTwo eqX (mCall "_law_draw" (aCons (mVar 0) (aCons (mCon (.int 3)) aNil))) (mCon (.int 0)))) (cSeq (cSetX (mTup (aCons (mCon (.str "ss")) aNil)) (mVar 5) (mCon (.str "entries"))) cNil) cNil) (cSeq (cRet (mVar 5)) cNil))))))))
def v_law_code:MFn:=⟨["_law_pool_here","_law_s","_law_many","_law_spots","_law_seat","_law_code_here","_law_key","_law_block","_law_rows","_law_end_here","_law_mine","_law_turn","_law_marks","_law_word","_law_k","_law_at","_law_row_here"],3,m_law_code,[]⟩
end
end Vs
namespace Vs
open PySem PySem.Spec PyProof.Rows L2 Mi
variable {tab:Str→Option MFn} {P:List Bk} {ins:List Str}
structure MadeT (tab:Str→Option MFn):Prop extends SrcG tab where
  rows_:tab "Source.rows"=some v_Source_rows
  end_:tab "Source.end"=some v_Source_end
  is_integer:tab "is_integer"=some v_is_integer
  are_unlike:tab "are_unlike"=some v_are_unlike
  is_made_row:tab "is_made_row"=some v_is_made_row
  check_names:tab "check_names"=some v_check_names
  has_return:tab "has_return"=some v_has_return
  split_rows:tab "split_rows"=some v_split_rows
  are_labels:tab "are_labels"=some v_are_labels
  checked_lies:tab "checked_lies"=some v_checked_lies
  init:tab "Made.__init__"=some v_Made_init
def isInt:D→Bool
  | .int _=>true
  |_=>false
end Vs
namespace Vs
open PySem PySem.Spec PyProof.Rows L2 Mi
variable {tab:Str→Option MFn} {P:List Bk} {ins:List Str}
def retB (p:Bk):Bool:=match p.2.2 with
  | .tup (.str x::_)=>decide (x="return")
  |_=>false
def labB (most:Nat):D→Bool
  | .int i=>decide (0≤i)&&decide (i≤most)
  |_=>false
def lastI (most:Nat) (vs:List D):Bool:=match vs.getLast? with
  |some (.int i)=>decide (i=most)
  |_=>false
def labels (most n:Nat):D→Bool
  | .tup vs=>decide (vs.length=n+1)&&(vs.all (labB most)&&lastI most vs)
  |_=>false
end Vs
namespace Vs
open PySem PySem.Spec PyProof.Rows L2 Mi
variable {tab:Str→Option MFn} {P:List Bk} {ins:List Str}
end Vs
namespace Vs
open PySem PySem.Spec PyProof.Rows L2 Mi
section
variable {h r:List O} {a b c x:O}
theorem hp0:(h++a::r)[h.length]?=some a:=by simp
theorem hs1:(h++a::b::r).set (h.length+1) x=h++a::x::r:=by rw [List.set_append_right _ _ (by omega)];simp
theorem hs2:(h++a::b::c::r).set (h.length+2) x=h++a::b::x::r:=by rw [List.set_append_right _ _ (by omega)];simp
theorem hl2:(h++[a,b]).length=h.length+2:=by simp
theorem ha2:(h++[a,b])++[c]=h++[a,b,c]:=by simp
end
theorem put_fld {f:Str} {d:D} {fs:List Str} {xs:List D} (h:f∉fs):putL f d fs xs=(fs++[f],xs++[d]):=if_neg h
theorem pm1 {d:D}:putL "source" d [] []=((["source"]:List Str),[d]):=rfl
theorem pm2 {d a:D}:putL "codes" d ["source"] [a]=((["source","codes"]:List Str),[a,d]):=put_fld (by decide+kernel)
theorem pm3 {d a b:D}:putL "marks" d ["source","codes"] [a,b]=((["source","codes","marks"]:List Str),[a,b,d]):=put_fld (by decide+kernel)
theorem pm4 {d a b c:D}:putL "homes" d ["source","codes","marks"] [a,b,c]=((["source","codes","marks","homes"]:List Str),[a,b,c,d]):=put_fld (by decide+kernel)
theorem pm5 {d a b c e:D}:putL "entries" d ["source","codes","marks","homes"] [a,b,c,e]=((["source","codes","marks","homes","entries"]:List Str),[a,b,c,e,d]):=put_fld (by decide+kernel)
theorem f2:decide ((2:Nat)<900)=true:=rfl
theorem f3:decide ((3:Nat)<900)=true:=rfl
theorem f4:decide ((4:Nat)<900)=true:=rfl
variable {tab:Str→Option MFn} {P:List Bk} {ins:List Str}
end Vs
namespace Vs
open PySem PySem.Spec PyProof.Rows L2 Mi
variable {tab:Str→Option MFn} {P:List Bk} {ins:List Str}
section
variable (T:MadeT tab) (W:WfP P) {ks lks sks:List Str} {xs lxs sxs:List D} {en:D}
include T W
end
end Vs
namespace Vs
open PySem PySem.Spec PyProof.Rows L2 Mi
inductive Rw where
  |copy (x y:Str)
  |set (x o:Str) (l:List Str)
  |call (x o:Str) (l kp:List Str)
def RwOk (sp ops:List Str):Rw→Prop
  | .copy x y=>x∈sp∧y∈sp
  | .set x o l=>x∈sp∧o∈ops∧(∀ w∈l,w∈sp)∧l.length≤2
  | .call x o l kp=>x∈sp∧o∈ops∧(∀ w∈l,w∈sp)∧l.length≤2∧kp.Sublist sp
def Rw.plain:Rw→Bool
  | .call _ _ _ _=>false
  |_=>true
variable {tab:Str→Option MFn}
def Rw.at (z:Str):Rw→Rw
  | .copy _ y=>.copy z y
  | .set _ o l=>.set z o l
  | .call _ o l kp=>.call z o l kp
end Vs
namespace Vs
open PySem PySem.Spec PyProof.Rows L2 Mi
section
variable {g r:List O} {q:Nat} {a b c d x:O}
end
structure Cb where
  rows:List Rw
  labs:List Nat
  ret:Option Str
structure CbOk (f:Str→Str) (sp ops:List Str) (p:Bk) (c:Cb):Prop where
  few:c.rows.length≤7
  rows: ∀ r∈c.rows,RwOk sp ops r
  len:c.labs.length=c.rows.length+1
  labs: ∀ x∈c.labs,x≤p.2.1.length
  last:c.labs.getLast?=some p.2.1.length
  ret:(∃ w,p.2.2= .tup [.str "return",.str w]∧c.ret=some (f w))∨(retB p=false∧c.ret=none)
inductive CodesOk (f:Str→Str) (sp ops:List Str):List Bk→List Cb→Prop
  |nil:CodesOk f sp ops [] []
  |cons {p:Bk} {c:Cb} {P:List Bk} {C:List Cb}:CbOk f sp ops p c→CodesOk f sp ops P C→CodesOk f sp ops (p::P) (c::C)
theorem CodesOk.len {f:Str→Str} {sp ops:List Str} {P:List Bk} {C:List Cb} (h:CodesOk f sp ops P C):P.length=C.length:=by
  induction h with
  |nil=>rfl
  |cons _ _ ih=>simp [ih]
section
variable {a b c d e f g:D}
end
variable {tab:Str→Option MFn}
structure CodeT (tab:Str→Option MFn):Prop extends Gens tab where
  mapped:tab "_law_mapped"=some v_law_mapped
  bent:tab "_law_bent_rows"=some v_law_bent_rows
  code:tab "_law_code"=some v_law_code
end Vs
namespace Vs
open PySem PySem.Spec PyProof.Rows L2 Mi
def spotsR:Nat→List Str
  |2=>["r","rr"]
  |_=>["r","rr","rrr"]
def spots (n:Nat):List Str:=spotsR n++(["s","ss"]:List Str)
variable {tab:Str→Option MFn}
section
variable {g:List O} {n q:Nat} {bs ws ops:List Str} {most:Nat} {rows:List D}
end
end Vs
namespace Mi
open PySem PySem.Spec PyProof.Rows L2
theorem walkGE {l:PySem.W.OpenLaw} {n k:Nat} {q:Program} {loose:List Str} {XP:(Str→Option Value)→Heap→Prop} {YP:World→Heap→Prop} {d:DefRec} {T:World→CXT} {x:Str}
    (most:l.most=some n) (few:n≤sizeLine) (hdf:d.params.defaults=[]) (rm:Room k callerA)
    (F: ∀ (w:World) (mg:Str→Option Value) (fa:Addr) (h:Heap),YP w h→h.Ns mainGlobals mg→mg d.name=some (.ref fa)→∃ (K:Fg) (fd:FuncData) (sp:Sp),K.In h∧(∀ (s:Shared) (u:Value),BindsTo s fd ⟨[u],[]⟩ [(x,u)])∧
      (∀ (H:Hp) (a:Addr) (ns:List Int),ns.length≤n→SqL K H a (ns.map V.int)→sp [.ref a] H (fun v _=>v= .bl true) fun _ _ _=>False)∧
      ∀ base:Heap,K.In base→base.Ns mainGlobals mg→FnG l.prog w K mg base (T w) k fa fd [x] sp)
    (none_: ∀ (w:World) (H:Hp) (s:Shared) (e:Value) (s':Shared),T w [] H s (fun _ _ _=>False) e s'→False):PySem.W.WalkO q loose XP YP l.row.toRowW d [] (fun f vs=>PySem.call f vs):=by
  refine Att.attach_call most hdf fun w s₀ s1 mg mb fa o pm cd doc a vs ns G Y ho hd hcd hmg hobj hints hlen hg=>?_
  obtain ⟨K,fd,sp,KI,hb,told,hF⟩:=F w mg fa _ Y G.T.g hmg
  exact callG KI G.T.g G.T.b G.T.builtins G.T.nolimit hg hobj hints (Nat.le_trans hlen few) rm hF hb (fun H hS=>told H a ns hlen hS) fun H e s'=>none_ w H s1 e s'
end Mi
namespace K23
open PySem PySem.Spec PyProof.Rows L2 Mi
noncomputable section
def tops:List Stmt:=PySem.Challenge.pw_valueshown_k23_errors_told.main.body
def topS (i:Nat):Stmt:=tops.getD i (.Pass ⟨0,0,0,0⟩)
def inS (i j:Nat):Stmt:=(clsBody (topS i)).getD j (.Pass ⟨0,0,0,0⟩)
def cons:List (Str×D):=[]
def con:Str→Option D:=conOf cons
def names:List Str:=[("_law_pool":Str),("_law_draw":Str),("_law_told":Str),("_law_later":Str),("_law_mixed":Str),("law":Str)]
def cells:List Str:=["_law_pool"]
def exs:List (Str×Str):=[("BadRow","index"),("BadBlock","index"),("BadInput","index"),("BadLabels","block"),("BadStop","stop"),("BadWay","index"),("BadShown","what"),("BadValues","count"),("BadShape","part"),("BadMark","mark"),("BadOption","option"),("BadWish","index"),("BadTable","which"),("BadFrame","frame"),("BadText","line"),("BadLine","line"),("BadTruth","truth"),("Untrue","what"),("UnknownBlock","block"),("UnknownName","name"),("TooMany","limit"),("NothingToUndo","name")]
def flds:List Str:=[]
def news:List Str:=[]
def shp:List (Str×Nat×List Str):=[(("_law_pool":Str),(2:Nat),([]:List Str)),(("_law_draw":Str),(2:Nat),([]:List Str)),(("_law_told":Str),(1:Nat),([]:List Str)),(("_law_later":Str),(1:Nat),([]:List Str)),(("_law_mixed":Str),(1:Nat),([]:List Str)),(("law":Str),(1:Nat),([]:List Str))]
def mns:List (Str×Nat):=[]
def isx:List (Str×Str×Bool):=[(("BadRow":Str),("BadBlock":Str),false),(("BadBlock":Str),("BadRow":Str),false),(("BadInput":Str),("BadWay":Str),false),(("BadWay":Str),("BadInput":Str),false),(("BadLabels":Str),("BadStop":Str),false),(("BadStop":Str),("BadShown":Str),false),(("BadShown":Str),("BadStop":Str),false),(("BadValues":Str),("BadRow":Str),false),(("BadShape":Str),("BadMark":Str),false),(("BadMark":Str),("BadShape":Str),false),(("BadOption":Str),("BadWish":Str),false),(("BadWish":Str),("BadOption":Str),false),(("BadTable":Str),("BadFrame":Str),false),(("BadFrame":Str),("BadTable":Str),false),(("BadText":Str),("BadLine":Str),false),(("BadLine":Str),("BadText":Str),false),(("BadTruth":Str),("Untrue":Str),false),(("Untrue":Str),("BadShown":Str),false),(("NothingToUndo":Str),("RuntimeError":Str),true),(("NothingToUndo":Str),("ShownError":Str),false),(("BadRow":Str),("ShownError":Str),true),(("BadRow":Str),("ValueError":Str),true),(("BadBlock":Str),("ShownError":Str),true),(("BadBlock":Str),("ValueError":Str),true),(("BadInput":Str),("ShownError":Str),true),(("BadInput":Str),("ValueError":Str),true),(("BadWay":Str),("ShownError":Str),true),(("BadWay":Str),("ValueError":Str),true),(("BadLabels":Str),("ShownError":Str),true),(("BadLabels":Str),("ValueError":Str),true),(("BadStop":Str),("ShownError":Str),true),(("BadStop":Str),("ValueError":Str),true),(("BadShown":Str),("ShownError":Str),true),(("BadShown":Str),("ValueError":Str),true),(("BadValues":Str),("ShownError":Str),true),(("BadValues":Str),("ValueError":Str),true),(("BadShape":Str),("ShownError":Str),true),(("BadShape":Str),("ValueError":Str),true),(("BadMark":Str),("ShownError":Str),true),(("BadMark":Str),("ValueError":Str),true),(("BadOption":Str),("ShownError":Str),true),(("BadOption":Str),("ValueError":Str),true),(("BadWish":Str),("ShownError":Str),true),(("BadWish":Str),("ValueError":Str),true),(("BadTable":Str),("ShownError":Str),true),(("BadTable":Str),("ValueError":Str),true),(("BadFrame":Str),("ShownError":Str),true),(("BadFrame":Str),("ValueError":Str),true),(("BadText":Str),("ShownError":Str),true),(("BadText":Str),("ValueError":Str),true),(("BadLine":Str),("ShownError":Str),true),(("BadLine":Str),("ValueError":Str),true),(("BadTruth":Str),("ShownError":Str),true),(("BadTruth":Str),("ValueError":Str),true),(("Untrue":Str),("ShownError":Str),true),(("Untrue":Str),("ValueError":Str),true),(("UnknownBlock":Str),("KeyError":Str),true),(("UnknownName":Str),("KeyError":Str),true),(("TooMany":Str),("OverflowError":Str),true),(("UnknownBlock":Str),("ShownError":Str),false),(("UnknownName":Str),("ShownError":Str),false),(("TooMany":Str),("ShownError":Str),false),(("UnknownBlock":Str),("UnknownName":Str),false),(("UnknownName":Str),("UnknownBlock":Str),false)]
def insL:List Str:=["self","source","other","made","table","one","menu","_law_source_here","_law_made_here","_law_made","_law_again","_law_other_source","_law_second","_law_table_here","_law_here"]
def celL:List Str:=["codes","marks","numbers","built","own","elder","past"]
def frzL:List Str:=["Source","Made","Table"]
def sts:List (Str×Str):=[]
def pd:PD:=⟨con,names,cells,exs,flds,news,isx,shp,mns,allM,insL,celL,frzL,sts⟩
def m_law_pool:C:=(cSeq (cAsg (mIf (bCmp (mTwo ltD (mVar 1) (mBlt lenX (rCons (mVar 0) rNil)))) (mTwo atX (mVar 0) (mVar 1)) (mTwo addD (mTwo mulX (mCon (.int 7)) (mBlt sumD (rCons (mSl (mVar 0) pNone (pSome (mCon (.int 63)))) rNil))) (mVar 1))) (gN 2)) (cSeq (cAsg (mBlt absD (rCons (mVar 2) rNil)) (gN 3)) (cSeq (cAsg (mTwo addD (mTwo addD (mTwo addD (mTwo modD (mBlt intD (rCons (mVar 3) rNil)) (mCon (.int 2147483629))) (mTwo mulX (mTwo mulX (mCon (.int 7919)) (mVar 1)) (mVar 1))) (mTwo mulX (mCon (.int 31)) (mVar 1))) (mCon (.int 17))) (gN 4)) (cSeq (cAsg (mTwo modD (mBlt intD (rCons (mTwo mulX (mVar 4) (mCon (.int 48271))) rNil)) (mCon (.int 2147483647))) (gN 4)) (cSeq (cRet (mLst (aCons (mTwo mulX (mVar 3) (mBlt intD (rCons (mTwo geD (mVar 3) (mTwo powD (mCon (.int 10)) (mCon (.int 18)))) rNil))) (aCons (mTwo modD (mBlt intD (rCons (mTwo mulX (mVar 4) (mVar 4)) rNil)) (mCon (.int 2147483629))) aNil)))) cNil)))))
theorem t_law_pool:(turn (pd.cc false (mkN (topS 25)) (defScope (topS 25))) (defBody (topS 25))).map (·.m)=some m_law_pool:=by kernel_rfl
def f_law_pool:MFn:=⟨["_law_script","_law_k","_law_cell","_law_size","_law_mixed_here"],2,m_law_pool,[]⟩
theorem n_law_pool:mkN (topS 25)=(["_law_script","_law_k","_law_cell","_law_size","_law_mixed_here"]:List Str):=by decide+kernel
def m_law_draw:C:=(cSeq (cIf (bCmp (mTwo gtD (mTwo atX (mVar 0) (mCon (.int 0))) (mCon (.int 0)))) (cSeq (cAsg (mTwo modD (mBlt intD (rCons (mTwo atX (mVar 0) (mCon (.int 0))) rNil)) (mVar 1)) (gN 2)) (cSeq (cSetX (mTwo fdivD (mTwo atX (mVar 0) (mCon (.int 0))) (mVar 1)) (mVar 0) (mCon (.int 0))) (cSeq (cRet (mVar 2)) cNil))) cNil) (cSeq (cSetX (mTwo modD (mBlt intD (rCons (mTwo addD (mTwo mulX (mTwo atX (mVar 0) (mCon (.int 1))) (mCon (.int 48271))) (mCon (.int 11))) rNil)) (mCon (.int 2147483647))) (mVar 0) (mCon (.int 1))) (cSeq (cRet (mTwo modD (mBlt intD (rCons (mTwo fdivD (mTwo modD (mBlt intD (rCons (mTwo mulX (mTwo atX (mVar 0) (mCon (.int 1))) (mTwo atX (mVar 0) (mCon (.int 1)))) rNil)) (mCon (.int 2147483629))) (mCon (.int 16))) rNil)) (mVar 1))) cNil)))
theorem t_law_draw:(turn (pd.cc false (mkN (topS 26)) (defScope (topS 26))) (defBody (topS 26))).map (·.m)=some m_law_draw:=by kernel_rfl
def f_law_draw:MFn:=⟨["_law_pool_here","_law_many","_law_found"],2,m_law_draw,[]⟩
theorem n_law_draw:mkN (topS 26)=(["_law_pool_here","_law_many","_law_found"]:List Str):=by decide+kernel
def m_law_told:C:=(cSeq (cAsg (mLst (aCons (mXv "BadRow" "index" (aCons (mVar 0) aNil)) (aCons (mXv "BadBlock" "index" (aCons (mVar 0) aNil)) (aCons (mXv "BadInput" "index" (aCons (mVar 0) aNil)) (aCons (mXv "BadWay" "index" (aCons (mVar 0) aNil)) aNil))))) (gN 1)) (cSeq (cAsg (mLc (iAny (mVar 1)) (gN 5) bYes (mOne (fldX "index") (mVar 5)) [5]) (gN 2)) (cSeq (cAsg (mLst (aCons (mXv "BadLabels" "block" (aCons (mVar 0) aNil)) (aCons (mXv "BadStop" "stop" (aCons (mVar 0) aNil)) (aCons (mXv "BadShown" "what" (aCons (mVar 0) aNil)) (aCons (mXv "BadValues" "count" (aCons (mVar 0) aNil)) aNil))))) (gN 3)) (cSeq (cAsg (mTwo addD (mVar 2) (mLst (aCons (mOne (fldX "block") (mTwo atX (mVar 3) (mCon (.int 0)))) (aCons (mOne (fldX "stop") (mTwo atX (mVar 3) (mCon (.int 1)))) (aCons (mOne (fldX "what") (mTwo atX (mVar 3) (mCon (.int 2)))) (aCons (mOne (fldX "count") (mTwo atX (mVar 3) (mCon (.int 3)))) aNil)))))) (gN 2)) (cSeq (cAsg (mLst (aCons (mXv "BadShape" "part" (aCons (mVar 0) aNil)) (aCons (mXv "BadMark" "mark" (aCons (mVar 0) aNil)) aNil))) (gN 4)) (cSeq (cAsg (mTwo addD (mVar 2) (mLst (aCons (mOne (fldX "part") (mTwo atX (mVar 4) (mCon (.int 0)))) (aCons (mOne (fldX "mark") (mTwo atX (mVar 4) (mCon (.int 1)))) aNil)))) (gN 2)) (cSeq (cRet (mLst (aCons (mTwo addD (mTwo addD (mVar 1) (mVar 3)) (mVar 4)) (aCons (mTwo eqX (mLc (iAny (mVar 2)) (gN 6) bYes (mBlt reprD (rCons (mVar 6) rNil)) [6]) (mTwo mulX (mLst (aCons (mBlt reprD (rCons (mVar 0) rNil)) aNil)) (mCon (.int 10)))) aNil)))) cNil)))))))
theorem t_law_told:(turn (pd.cc false (mkN (topS 28)) (defScope (topS 28))) (defBody (topS 28))).map (·.m)=some m_law_told:=by kernel_rfl
def f_law_told:MFn:=⟨["_law_thing","_law_by_index","_law_told_here","_law_found","_law_more","_law_e","_law_one"],1,m_law_told,[]⟩
theorem n_law_told:mkN (topS 28)=(["_law_thing","_law_by_index","_law_told_here","_law_found","_law_more","_law_e","_law_one"]:List Str):=by decide+kernel
def m_law_later:C:=(cSeq (cAsg (mLst (aCons (mXv "BadOption" "option" (aCons (mVar 0) aNil)) (aCons (mXv "BadWish" "index" (aCons (mVar 0) aNil)) (aCons (mXv "BadTable" "which" (aCons (mVar 0) aNil)) (aCons (mXv "BadFrame" "frame" (aCons (mVar 0) aNil)) (aCons (mXv "BadText" "line" (aCons (mVar 0) aNil)) aNil)))))) (gN 1)) (cSeq (cAsg (mLst (aCons (mOne (fldX "option") (mTwo atX (mVar 1) (mCon (.int 0)))) (aCons (mOne (fldX "index") (mTwo atX (mVar 1) (mCon (.int 1)))) (aCons (mOne (fldX "which") (mTwo atX (mVar 1) (mCon (.int 2)))) (aCons (mOne (fldX "frame") (mTwo atX (mVar 1) (mCon (.int 3)))) (aCons (mOne (fldX "line") (mTwo atX (mVar 1) (mCon (.int 4)))) aNil)))))) (gN 2)) (cSeq (cAsg (mLst (aCons (mXv "BadLine" "line" (aCons (mVar 0) aNil)) (aCons (mXv "BadTruth" "truth" (aCons (mVar 0) aNil)) (aCons (mXv "Untrue" "what" (aCons (mVar 0) aNil)) aNil)))) (gN 3)) (cSeq (cAsg (mTwo addD (mVar 2) (mLst (aCons (mOne (fldX "line") (mTwo atX (mVar 3) (mCon (.int 0)))) (aCons (mOne (fldX "truth") (mTwo atX (mVar 3) (mCon (.int 1)))) (aCons (mOne (fldX "what") (mTwo atX (mVar 3) (mCon (.int 2)))) aNil))))) (gN 2)) (cSeq (cRet (mLst (aCons (mTwo addD (mVar 1) (mVar 3)) (aCons (mTwo eqX (mLc (iAny (mVar 2)) (gN 4) bYes (mBlt reprD (rCons (mVar 4) rNil)) [4]) (mTwo mulX (mLst (aCons (mBlt reprD (rCons (mVar 0) rNil)) aNil)) (mCon (.int 8)))) aNil)))) cNil)))))
theorem t_law_later:(turn (pd.cc false (mkN (topS 29)) (defScope (topS 29))) (defBody (topS 29))).map (·.m)=some m_law_later:=by kernel_rfl
def f_law_later:MFn:=⟨["_law_thing","_law_found","_law_told_here","_law_more","_law_one"],1,m_law_later,[]⟩
theorem n_law_later:mkN (topS 29)=(["_law_thing","_law_found","_law_told_here","_law_more","_law_one"]:List Str):=by decide+kernel
def m_law_mixed:C:=(cSeq (cAsg (mLst (aCons (mOne (isxD isx "BadBlock") (mTwo atX (mVar 0) (mCon (.int 0)))) (aCons (mOne (isxD isx "BadRow") (mTwo atX (mVar 0) (mCon (.int 1)))) (aCons (mOne (isxD isx "BadWay") (mTwo atX (mVar 0) (mCon (.int 2)))) aNil)))) (gN 1)) (cSeq (cAsg (mTwo addD (mVar 1) (mLst (aCons (mOne (isxD isx "BadInput") (mTwo atX (mVar 0) (mCon (.int 3)))) (aCons (mOne (isxD isx "BadStop") (mTwo atX (mVar 0) (mCon (.int 4)))) (aCons (mOne (isxD isx "BadShown") (mTwo atX (mVar 0) (mCon (.int 5)))) aNil))))) (gN 1)) (cSeq (cAsg (mTwo addD (mVar 1) (mLst (aCons (mOne (isxD isx "BadStop") (mTwo atX (mVar 0) (mCon (.int 6)))) (aCons (mOne (isxD isx "BadRow") (mTwo atX (mVar 0) (mCon (.int 7)))) (aCons (mOne (isxD isx "BadMark") (mTwo atX (mVar 0) (mCon (.int 8)))) aNil))))) (gN 1)) (cSeq (cAsg (mTwo addD (mVar 1) (mLst (aCons (mOne (isxD isx "BadShape") (mTwo atX (mVar 0) (mCon (.int 9)))) (aCons (mOne (isxD isx "BadWish") (mTwo atX (mVar 0) (mCon (.int 10)))) (aCons (mOne (isxD isx "BadOption") (mTwo atX (mVar 0) (mCon (.int 11)))) aNil))))) (gN 1)) (cSeq (cAsg (mTwo addD (mVar 1) (mLst (aCons (mOne (isxD isx "BadFrame") (mTwo atX (mVar 0) (mCon (.int 12)))) (aCons (mOne (isxD isx "BadTable") (mTwo atX (mVar 0) (mCon (.int 13)))) (aCons (mOne (isxD isx "BadLine") (mTwo atX (mVar 0) (mCon (.int 14)))) aNil))))) (gN 1)) (cSeq (cAsg (mTwo addD (mVar 1) (mLst (aCons (mOne (isxD isx "BadText") (mTwo atX (mVar 0) (mCon (.int 15)))) (aCons (mOne (isxD isx "Untrue") (mTwo atX (mVar 0) (mCon (.int 16)))) (aCons (mOne (isxD isx "BadShown") (mTwo atX (mVar 0) (mCon (.int 17)))) aNil))))) (gN 1)) (cSeq (cRet (mTwo inX (mCon (.bl true)) (mVar 1))) cNil)))))))
theorem t_law_mixed:(turn (pd.cc false (mkN (topS 30)) (defScope (topS 30))) (defBody (topS 30))).map (·.m)=some m_law_mixed:=by kernel_rfl
def f_law_mixed:MFn:=⟨["_law_found","_law_pairs"],1,m_law_mixed,[]⟩
theorem n_law_mixed:mkN (topS 30)=(["_law_found","_law_pairs"]:List Str):=by decide+kernel
def m_law:C:=(cSeq (cFor (iRg1 (rCons (mBlt maxD (rCons (mCon (.int 1)) (rCons (mBlt minD (rCons (mBlt lenX (rCons (mVar 0) rNil)) (rCons (mCon (.int 3)) rNil))) rNil))) rNil)) (gN 1) (cSeq (cAsg (mCell (mCall "_law_pool" (aCons (mVar 0) (aCons (mVar 1) aNil)))) (gN 2)) (cSeq (cFor (iAny (mLst (aCons (mCall "_law_draw" (aCons (mVar 2) (aCons (mTwo powD (mCon (.int 10)) (mCon (.int 9))) aNil))) (aCons (mCon (.str "x")) (aCons (mCon .non) (aCons (mLst (aCons (mCon (.int 1)) (aCons (mCon (.int 2)) aNil))) (aCons (mTup aNil) (aCons (mCon (.bl true)) aNil)))))))) (gN 3) (cSeq (cAsg (mCall "_law_told" (aCons (mVar 3) aNil)) (gT 2 (gsCons (gN 4) (gsCons (gN 5) gsNil)))) (cSeq (cAsg (mCall "_law_later" (aCons (mVar 3) aNil)) (gT 2 (gsCons (gN 6) (gsCons (gN 7) gsNil)))) (cSeq (cAsg (mTwo addD (mVar 4) (mVar 6)) (gN 4)) (cSeq (cIf (bOr (bNot (bVal (mVar 5))) (bNot (bVal (mVar 7)))) (cSeq (cRet (mCon (.bl false))) cNil) cNil) (cSeq (cAsg (mXv "NothingToUndo" "name" (aCons (mVar 3) aNil)) (gN 8)) (cSeq (cIf (bOr (bCmp (mTwo neX (mBlt reprD (rCons (mOne (fldX "name") (mVar 8)) rNil)) (mBlt reprD (rCons (mVar 3) rNil)))) (bOr (bNot (bVal (mOne (isxD isx "RuntimeError") (mVar 8)))) (bVal (mOne (isxD isx "ShownError") (mVar 8))))) (cSeq (cRet (mCon (.bl false))) cNil) cNil) (cSeq (cIf (bCmp (mTwo neX (mLc (iAny (mVar 4)) (gN 10) (bOr (bNot (bVal (mOne (isxD isx "ShownError") (mVar 10)))) (bNot (bVal (mOne (isxD isx "ValueError") (mVar 10))))) (mVar 10) [10]) (mLst aNil))) (cSeq (cRet (mCon (.bl false))) cNil) cNil) (cSeq (cAsg (mLst (aCons (mXv "UnknownBlock" "block" (aCons (mVar 3) aNil)) (aCons (mXv "UnknownName" "name" (aCons (mVar 3) aNil)) (aCons (mXv "TooMany" "limit" (aCons (mVar 3) aNil)) aNil)))) (gN 9)) (cSeq (cIf (bCmp (mTwo neX (mLst (aCons (mBlt reprD (rCons (mOne (fldX "block") (mTwo atX (mVar 9) (mCon (.int 0)))) rNil)) (aCons (mBlt reprD (rCons (mOne (fldX "name") (mTwo atX (mVar 9) (mCon (.int 1)))) rNil)) (aCons (mBlt reprD (rCons (mOne (fldX "limit") (mTwo atX (mVar 9) (mCon (.int 2)))) rNil)) aNil)))) (mTwo mulX (mLst (aCons (mBlt reprD (rCons (mVar 3) rNil)) aNil)) (mCon (.int 3))))) (cSeq (cRet (mCon (.bl false))) cNil) cNil) (cSeq (cIf (bOr (bNot (bVal (mOne (isxD isx "KeyError") (mTwo atX (mVar 9) (mCon (.int 0)))))) (bNot (bVal (mOne (isxD isx "KeyError") (mTwo atX (mVar 9) (mCon (.int 1))))))) (cSeq (cRet (mCon (.bl false))) cNil) cNil) (cSeq (cIf (bOr (bNot (bVal (mOne (isxD isx "OverflowError") (mTwo atX (mVar 9) (mCon (.int 2)))))) (bCmp (mTwo neX (mLc (iAny (mVar 9)) (gN 10) (bVal (mOne (isxD isx "ShownError") (mVar 10))) (mVar 10) [10]) (mLst aNil)))) (cSeq (cRet (mCon (.bl false))) cNil) cNil) (cSeq (cIf (bOr (bVal (mCall "_law_mixed" (aCons (mVar 4) aNil))) (bOr (bVal (mOne (isxD isx "UnknownName") (mTwo atX (mVar 9) (mCon (.int 0))))) (bVal (mOne (isxD isx "UnknownBlock") (mTwo atX (mVar 9) (mCon (.int 1))))))) (cSeq (cRet (mCon (.bl false))) cNil) cNil) cNil))))))))))))) cNil))) (cSeq (cRet (mCon (.bl true))) cNil))
theorem t_law:(turn (pd.cc false (mkN (topS 31)) (defScope (topS 31))) (defBody (topS 31))).map (·.m)=some m_law:=by kernel_rfl
def f_law:MFn:=⟨["_law_script","_law_k","_law_pool_here","_law_thing","_law_found","_law_is_kept_well","_law_later_here","_law_are_kept","_law_last","_law_others","_law_e"],1,m_law,[]⟩
theorem n_law:mkN (topS 31)=(["_law_script","_law_k","_law_pool_here","_law_thing","_law_found","_law_is_kept_well","_law_later_here","_law_are_kept","_law_last","_law_others","_law_e"]:List Str):=by decide+kernel
def tabL:List (Str×MFn):=[(("_law_pool":Str),f_law_pool),(("_law_draw":Str),f_law_draw),(("_law_told":Str),f_law_told),(("_law_later":Str),f_law_later),(("_law_mixed":Str),f_law_mixed),(("law":Str),f_law)]
def tab (x:Str):Option MFn:=tabL.lookup x
theorem u_law_pool:tab "_law_pool"=some f_law_pool:=by kernel_rfl
theorem u_law_draw:tab "_law_draw"=some f_law_draw:=by kernel_rfl
theorem u_law_told:tab "_law_told"=some f_law_told:=by kernel_rfl
theorem u_law_later:tab "_law_later"=some f_law_later:=by kernel_rfl
theorem u_law_mixed:tab "_law_mixed"=some f_law_mixed:=by kernel_rfl
theorem u_law:tab "law"=some f_law:=by kernel_rfl
end
end K23
namespace K23
open PySem PySem.Spec PyProof.Rows L2 Mi Vs
noncomputable def tabV:Str→Option MFn:=fun f=>tab f
theorem tabS: ∀ f,SameF (tab f) (tabV f):=fun f=>.rfl_ _
theorem sw {f:Str} {v:MFn} (e:tab f=some v):tabV f=some v:=e
theorem draw1 (k:Nat) {h:List O} {n:Nat} (hp:PoolAt h n) {m:Int} (h1:0<m) (h2:m<1073741824):
    ∃ r h',callN tabV (k+1) "_law_draw" [.loc n,.int m] h= .ok (.fz (.int r)) h'∧0≤r∧r<m∧PoolTo n h h':=by
  have e:=sw u_law_draw
  have hadd:AddI addD:=addI_D
  rw [call_at e [some (.fz (.loc n)),some (.fz (.int m)),none] rfl rfl]
  have hp0:=hp
  obtain ⟨a,b,eh,ha,hb,hb2⟩:=hp
  have hsm:smallI b=true:=smallI_of hb (by omega)
  simp_arith [f_law_draw,m_law_draw,eh,List.replicate,x_dl,x_aYL,x_atL,at0,x_gtII]
  by_cases hz:0<a
  · have e0:decide (0<a)=true:=decide_eq_true hz
    simp_arith [e0,modD,fdivD,h1,h2,if_true,and_self,eh,ix0,stL,fI,x_dl,x_aYL,x_atL,at0,x_intI,x_sx,x_sx1,x_sx2,x_sx3,x_sx4,x_sxI,x_mutB,x_mutF,x_mc,x_mc1,List.length_cons,List.length_nil,Nat.reduceAdd,x_mc2,x_muC,x_sx5,x_gvB,x_gv]
    exact ⟨_,_,rfl,Int.emod_nonneg _ (by omega),Int.emod_lt_of_pos _ h1,PoolTo.set hp0 (Int.ediv_nonneg ha (by omega)) hb hb2⟩
  · have e0:decide (0<a)=false:=decide_eq_false hz
    have hsm2:smallI 48271=true:=rfl
    have hq:(0:Int)<2147483647:=by decide
    have hq2:(0:Int)<2147483629:=by decide
    have hq3:(0:Int)<16∧(16:Int)<1073741824:=by decide
    have l1:0≤(b*48271+11)%2147483647:=Int.emod_nonneg _ (by omega)
    have l2:(b*48271+11)%2147483647<2147483647:=Int.emod_lt_of_pos _ (by omega)
    have hsm3:smallI ((b*48271+11)%2147483647)=true:=smallI_of l1 (by omega)
    have hl:n<h.length:=by
      rcases Nat.lt_or_ge n h.length with z|z
      · exact z
      · rw [List.getElem?_eq_none z] at eh;cases eh
    have es: ∀ o:O,(h.set n o)[n]?=some o:=fun o=>List.getElem?_set_self hl
    simp_arith [e0,modD,fdivD,mulD,hadd _ _,h1,h2,if_true,and_self,eh,ix1,hsm,hsm2,Bool.or_true,hq,es,hsm3,hq2,hq3,stL,fI,x_sx,x_dl,x_aYL,x_atL,at1,x_mXI,x_intI,x_sx1,x_sx2,x_sx3,x_sx4,x_sxI,x_mutB,x_mutF,x_mc,x_mc1,List.length_cons,List.length_nil,Nat.reduceAdd,x_mc2,x_muC,x_sx5]
    exact ⟨_,_,rfl,Int.emod_nonneg _ (by omega),Int.emod_lt_of_pos _ h1,PoolTo.set hp0 ha l1 l2⟩
theorem pool1 (k:Nat) (ns:List Int) {i:Int} (h1:0≤i) (h2:i<64) (h:List O):
    ∃ a b:Int,callN tabV (k+1) "_law_pool" [.scr ns,.int i] h= .ok (.lst [.int a,.int b]) h∧0≤a∧0≤b∧b<2147483647:=by
  have e:tabV "_law_pool"=some ⟨["_law_script","_law_k","_law_cell","_law_size","_law_mixed_here"],2,m_pool addD,[]⟩:=sw u_law_pool
  have hN:(["_law_script","_law_k","_law_cell","_law_size","_law_mixed_here"]:List Str).length=5:=rfl
  have hadd:AddI addD:=addI_D
  rw [call_at e _ rfl (st0_2 hN)]
  obtain ⟨c,ec⟩:=pool0_ok (call:=callN tabV k) hadd ns h1 h2 h
  have c0:0≤(if c<0 then -c else c):=by split<;>omega
  generalize hcc:(if c<0 then -c else c)=z at c0
  have hq:(0:Int)<2147483647:=by decide
  have hq2:(0:Int)<2147483629:=by decide
  have s1:smallI 7919=true:=rfl
  have s2:smallI 31=true:=rfl
  have s3:smallI 48271=true:=rfl
  have si:smallI i=true:=smallI_of h1 (by omega)
  have hpw:(0:Int)≤18∧(18:Int)≤1000000∧Int.natAbs 10<2^64:=by decide
  generalize hm:((z%2147483629+7919*i*i+31*i+17)*48271)%2147483647=m
  have m0:0≤m:=by rw [←hm];exact Int.emod_nonneg _ (by omega)
  have m1:m<2147483647:=by rw [←hm];exact Int.emod_lt_of_pos _ (by omega)
  have sm:smallI m=true:=smallI_of m0 (by omega)
  have sb: ∀ q:Bool,smallI (if q then 1 else 0)=true:=by decide
  refine ⟨z*(if decide ((10:Int)^Int.toNat 18≤z) then 1 else 0),(m*m)%2147483629, ?_, ?_,Int.emod_nonneg _ (by omega), ?_⟩
  · simp only [m_pool,x_seq,x_asg]
    show fin (((m_pool0 addD (callN tabV k) _).flow _).then _)=_
    simp only [List.replicate]
    rw [ec]
    simp_arith [absD,hcc,modD,mulD,hadd _ _,hq,hq2,s1,s2,s3,si,hpw,powD,Bool.or_true,Bool.true_or,and_self,hm,sm,sb,if_true,fI,x_intI,x_mXI,x_lst,x_geII,x_intB,x_lstK2]
  · split<;>omega
  · have:=Int.emod_lt_of_pos (m*m) (show (0:Int)<2147483629 by decide)
    omega
section
variable {call:Call} {s:Mi.S} {h:List O}
theorem x_xv {c f:Str} {r:As}:mXv c f r call s=(r call s).bind (kXv c f):=rfl
theorem x_xv1 {c f:Str} {d:D}:kXv c f [d] s= .ok (.own (.fz (.xv c f d))) s:=rfl
theorem x_dxv {c f:Str} {d:D}:deref h (.xv c f d)=some (.xv c f d):=rfl
theorem x_fxv {c f:Str} {d:D}:fldX f (.xv c f d)=some (.fz d):=if_pos rfl
end
def isxB (c nm:Str):Option Bool:=(isx.find? fun p=>decide (p.1=c)&&decide (p.2.1=nm)).map (·.2.2)
theorem isx_eq {nm c f:Str} {d:D} {b:Bool} (h:isxB c nm=some b):isxD isx nm (.xv c f d)=some (.fz (.bl b)):=by
  unfold isxB at h
  obtain ⟨t,h1,h2⟩:=Option.map_eq_some_iff.mp h
  simp only [isxD,h1,Option.map_some,h2]
structure Th (d:D) (y:Str):Prop where
  dr: ∀ h,deref h d=some d
  rp:reprD [d]=some (.fz (.str y))
  ok:PyData.strOk y=true
def tolds (d:D):List D:=[.xv "BadRow" "index" d,.xv "BadBlock" "index" d,.xv "BadInput" "index" d,.xv "BadWay" "index" d,.xv "BadLabels" "block" d,.xv "BadStop" "stop" d,.xv "BadShown" "what" d,.xv "BadValues" "count" d,.xv "BadShape" "part" d,.xv "BadMark" "mark" d]
def lates (d:D):List D:=[.xv "BadOption" "option" d,.xv "BadWish" "index" d,.xv "BadTable" "which" d,.xv "BadFrame" "frame" d,.xv "BadText" "line" d,.xv "BadLine" "line" d,.xv "BadTruth" "truth" d,.xv "Untrue" "what" d]
def olds (d:D):List D:=[.xv "BadRow" "index" d,.xv "BadBlock" "index" d,.xv "BadInput" "index" d,.xv "BadWay" "index" d,.xv "BadLabels" "block" d,.xv "BadStop" "stop" d,.xv "BadShown" "what" d,.xv "BadValues" "count" d,.xv "BadShape" "part" d,.xv "BadMark" "mark" d,.xv "BadOption" "option" d,.xv "BadWish" "index" d,.xv "BadTable" "which" d,.xv "BadFrame" "frame" d,.xv "BadText" "line" d,.xv "BadLine" "line" d,.xv "BadTruth" "truth" d,.xv "Untrue" "what" d]
def oneL:List (Str×Str):=[(("BadRow":Str),("index":Str)),(("BadBlock":Str),("index":Str)),(("BadInput":Str),("index":Str)),(("BadWay":Str),("index":Str)),(("BadLabels":Str),("block":Str)),(("BadStop":Str),("stop":Str)),(("BadShown":Str),("what":Str)),(("BadValues":Str),("count":Str)),(("BadShape":Str),("part":Str)),(("BadMark":Str),("mark":Str)),(("BadOption":Str),("option":Str)),(("BadWish":Str),("index":Str)),(("BadTable":Str),("which":Str)),(("BadFrame":Str),("frame":Str)),(("BadText":Str),("line":Str)),(("BadLine":Str),("line":Str)),(("BadTruth":Str),("truth":Str)),(("Untrue":Str),("what":Str))]
theorem olds_mem {d e:D} (h:e∈olds d): ∃ p∈oneL,e= .xv p.1 p.2 d:=by
  have e1:olds d=oneL.map fun p=>.xv p.1 p.2 d:=rfl
  rw [e1] at h
  obtain ⟨p,hp,rfl⟩:=List.mem_map.mp h
  exact ⟨p,hp,rfl⟩
theorem all_err: ∀ p∈oneL,isxB p.1 "ShownError"=some true∧isxB p.1 "ValueError"=some true:=by decide+kernel
theorem ly_strs: ∀ {ys:List Str},(∀ y∈ys,PyData.strOk y=true)→lyDs 1 (ys.map .str)=true
  |[],_=>rfl
  | y::ys,h=>by
    show (lyD 1 (.str y)&&lyDs 1 (ys.map .str))=true
    rw [ly_strs (ys:=ys) fun z hz=>h z (by simp [hz]),Bool.and_true]
    exact h y (by simp)
theorem same_n {y:Str} (h:PyData.strOk y=true) (n:Nat):eqB (.lst ((List.replicate n y).map .str)) (.lst ((List.replicate n y).map .str))=some true:=
  eqB_self (n:=2) (by decide) (show lyDs 1 _=true from ly_strs fun z hz=>by rw [List.eq_of_mem_replicate hz];exact h)
theorem mul_n {y:Str} {n:Nat} (hn:n≤20):mulD (.lst [.str y]) (.int (n:Nat))=some (.lst ((List.replicate n y).map .str)):=by
  have e1:(List.replicate n [D.str y]).flatten=(List.replicate n y).map .str:=by
    induction n with
    |zero=>rfl
    |succ n ih=>rw [List.replicate_succ,List.flatten_cons,ih (by omega),List.replicate_succ,List.map_cons];rfl
  have c1:decide (-(2^63)≤(n:Int))=true:=decide_eq_true (by omega)
  have c2:decide ((n:Int)<2^63)=true:=decide_eq_true (by omega)
  have c3:fitsB ([D.str y].length*n)=true:=fits_of (by simp;omega)
  simp only [mulD,c1,c2,c3,Bool.and_self,if_true,Int.toNat_natCast,e1]
theorem c_told {d:D} {y:Str} (T:Th d y) (k:Nat) (h:List O):callN tabV (k+1) "_law_told" [d] h= .ok (.lst [.lst (tolds d),.bl true]) h:=by
  rw [call_at (sw u_law_told) [some (.fz d),none,none,none,none,none,none] rfl rfl]
  have dd:=T.dr
  have rp:=T.rp
  have a0: ∀ p q r t:D,atI [p,q,r,t] 0=some p:=fun _ _ _ _=>rfl
  have a1: ∀ p q r t:D,atI [p,q,r,t] 1=some q:=fun _ _ _ _=>rfl
  have a2: ∀ p q r t:D,atI [p,q,r,t] 2=some r:=fun _ _ _ _=>rfl
  have a3: ∀ p q r t:D,atI [p,q,r,t] 3=some t:=fun _ _ _ _=>rfl
  have b0: ∀ p q:D,atI [p,q] 0=some p:=fun _ _=>rfl
  have b1: ∀ p q:D,atI [p,q] 1=some q:=fun _ _=>rfl
  have lc1: ∀ x2 x3 x4 x6,lcL (callN tabV k) (gN 5) bYes (mOne (fldX "index") (mVar 5)) [5] [.xv "BadRow" "index" d,.xv "BadBlock" "index" d,.xv "BadInput" "index" d,.xv "BadWay" "index" d] [] ⟨[some (.fz d),some (.fz (.lst [.xv "BadRow" "index" d,.xv "BadBlock" "index" d,.xv "BadInput" "index" d,.xv "BadWay" "index" d])),x2,x3,x4,none,x6],h⟩= .ok [d,d,d,d] ⟨[some (.fz d),some (.fz (.lst [.xv "BadRow" "index" d,.xv "BadBlock" "index" d,.xv "BadInput" "index" d,.xv "BadWay" "index" d])),x2,x3,x4,none,x6],h⟩:=fun x2 x3 x4 x6=>
    lcL_all (f:=fun _=>d) [.xv "BadRow" "index" d,.xv "BadBlock" "index" d,.xv "BadInput" "index" d,.xv "BadWay" "index" d] (fun e he=>by
      obtain ⟨c,rfl⟩: ∃ c,e= .xv c "index" d:=by
        simp only [List.mem_cons,List.not_mem_nil,or_false] at he
        rcases he with rfl|rfl|rfl|rfl<;>exact ⟨_,rfl⟩
      refine ⟨⟨[some (.fz d),some (.fz (.lst [.xv "BadRow" "index" d,.xv "BadBlock" "index" d,.xv "BadInput" "index" d,.xv "BadWay" "index" d])),x2,x3,x4,some (.fz (.xv c "index" d)),x6],h⟩,rfl,⟨.own (.fz d), ?_,rfl⟩,rfl⟩
      simp_arith [x_dxv,x_fxv]) (fits_of (by simp))
  have lc2: ∀ x1 x3 x4,lcL (callN tabV k) (gN 6) bYes (mBlt reprD (rCons (mVar 6) rNil)) [6] [d,d,d,d,d,d,d,d,d,d] [] ⟨[some (.fz d),x1,some (.fz (.lst [d,d,d,d,d,d,d,d,d,d])),x3,x4,none,none],h⟩= .ok ((List.replicate 10 y).map .str) ⟨[some (.fz d),x1,some (.fz (.lst [d,d,d,d,d,d,d,d,d,d])),x3,x4,none,none],h⟩:=fun x1 x3 x4=>
    lcL_all (f:=fun _=>.str y) [d,d,d,d,d,d,d,d,d,d] (fun e he=>by
      obtain rfl:e=d:=by simpa using he
      refine ⟨⟨[some (.fz e),x1,some (.fz (.lst [e,e,e,e,e,e,e,e,e,e])),x3,x4,none,some (.fz e)],h⟩,rfl,⟨.own (.fz (.str y)), ?_,rfl⟩,rfl⟩
      simp_arith [dd,rp]) (fits_of (by simp))
  have ad1: ∀ p q r t:D,addD (.lst [p,q,r,t]) (.lst [p,q,r,t])=some (.lst [p,q,r,t,p,q,r,t]):=fun _ _ _ _=>rfl
  have ad2: ∀ a b c e f g i j k l:D,addD (.lst [a,b,c,e,f,g,i,j]) (.lst [k,l])=some (.lst [a,b,c,e,f,g,i,j,k,l]):=fun _ _ _ _ _ _ _ _ _ _=>rfl
  have ad3: ∀ a b c e f g i j:D,addD (.lst [a,b,c,e]) (.lst [f,g,i,j])=some (.lst [a,b,c,e,f,g,i,j]):=fun _ _ _ _ _ _ _ _=>rfl
  have mu:=mul_n (y:=y) (n:=10) (by omega)
  have mu':mulD (.lst [.str y]) (.int 10)=some (.lst ((List.replicate 10 y).map .str)):=mu
  have eq:eqD (.lst ((List.replicate 10 y).map .str)) (.lst ((List.replicate 10 y).map .str))=some (.fz (.bl true)):=by simp only [eqD,same_n T.ok,Option.map_some]
  simp_arith [tolds,f_law_told,m_law_told,x_xv,x_xv1,x_dxv,x_fxv,dd,rp,a0,a1,a2,a3,b0,b1,lc1,lc2,ad1,ad2,ad3,mu',eq,x_lst,x_lstK4,x_lc,x_ay,x_ay1,x_ay2,x_ayL,x_lc1,x_wp,x_wp0,x_lc2,x_rs,x_rs0,Option.getD_some,x_aYL,x_atL,x_lstK2,x_lstK1,x_mXL,x_eX_lst]
theorem c_later {d:D} {y:Str} (T:Th d y) (k:Nat) (h:List O):callN tabV (k+1) "_law_later" [d] h= .ok (.lst [.lst (lates d),.bl true]) h:=by
  rw [call_at (sw u_law_later) [some (.fz d),none,none,none,none] rfl rfl]
  have dd:=T.dr
  have rp:=T.rp
  have a0: ∀ p q r t u:D,atI [p,q,r,t,u] 0=some p:=fun _ _ _ _ _=>rfl
  have a1: ∀ p q r t u:D,atI [p,q,r,t,u] 1=some q:=fun _ _ _ _ _=>rfl
  have a2: ∀ p q r t u:D,atI [p,q,r,t,u] 2=some r:=fun _ _ _ _ _=>rfl
  have a3: ∀ p q r t u:D,atI [p,q,r,t,u] 3=some t:=fun _ _ _ _ _=>rfl
  have a4: ∀ p q r t u:D,atI [p,q,r,t,u] 4=some u:=fun _ _ _ _ _=>rfl
  have b0: ∀ p q r:D,atI [p,q,r] 0=some p:=fun _ _ _=>rfl
  have b1: ∀ p q r:D,atI [p,q,r] 1=some q:=fun _ _ _=>rfl
  have b2: ∀ p q r:D,atI [p,q,r] 2=some r:=fun _ _ _=>rfl
  have lc2: ∀ x1 x3,lcL (callN tabV k) (gN 4) bYes (mBlt reprD (rCons (mVar 4) rNil)) [4] [d,d,d,d,d,d,d,d] [] ⟨[some (.fz d),x1,some (.fz (.lst [d,d,d,d,d,d,d,d])),x3,none],h⟩= .ok ((List.replicate 8 y).map .str) ⟨[some (.fz d),x1,some (.fz (.lst [d,d,d,d,d,d,d,d])),x3,none],h⟩:=fun x1 x3=>
    lcL_all (f:=fun _=>.str y) [d,d,d,d,d,d,d,d] (fun e he=>by
      obtain rfl:e=d:=by simpa using he
      refine ⟨⟨[some (.fz e),x1,some (.fz (.lst [e,e,e,e,e,e,e,e])),x3,some (.fz e)],h⟩,rfl,⟨.own (.fz (.str y)), ?_,rfl⟩,rfl⟩
      simp_arith [dd,rp]) (fits_of (by simp))
  have ad1: ∀ a b c e f g i j:D,addD (.lst [a,b,c,e,f]) (.lst [g,i,j])=some (.lst [a,b,c,e,f,g,i,j]):=fun _ _ _ _ _ _ _ _=>rfl
  have mu':mulD (.lst [.str y]) (.int 8)=some (.lst ((List.replicate 8 y).map .str)):=mul_n (y:=y) (n:=8) (by omega)
  have eq:eqD (.lst ((List.replicate 8 y).map .str)) (.lst ((List.replicate 8 y).map .str))=some (.fz (.bl true)):=by simp only [eqD,same_n T.ok,Option.map_some]
  simp_arith [lates,f_law_later,m_law_later,x_xv,x_xv1,x_dxv,x_fxv,dd,rp,a0,a1,a2,a3,a4,b0,b1,b2,lc2,ad1,mu',eq,x_lst,x_lstK5,x_aYL,x_atL,x_lstK3,x_lc,x_ay,x_ay1,x_ay2,x_ayL,x_lc1,x_wp,x_wp0,x_lc2,x_rs,x_rs0,Option.getD_some,x_lstK1,x_mXL,x_eX_lst,x_lstK2]
theorem c_mixed (d:D) (k:Nat) (h:List O):callN tabV (k+1) "_law_mixed" [.lst (olds d)] h= .ok (.fz (.bl false)) h:=by
  rw [call_at (sw u_law_mixed) [some (.fz (.lst (olds d))),none] rfl rfl]
  have a0:atI (olds d) 0=some (.xv "BadRow" "index" d):=rfl
  have i0:isxD isx "BadBlock" (.xv "BadRow" "index" d)=some (.fz (.bl false)):=isx_eq (by decide+kernel)
  have a1:atI (olds d) 1=some (.xv "BadBlock" "index" d):=rfl
  have i1:isxD isx "BadRow" (.xv "BadBlock" "index" d)=some (.fz (.bl false)):=isx_eq (by decide+kernel)
  have a2:atI (olds d) 2=some (.xv "BadInput" "index" d):=rfl
  have i2:isxD isx "BadWay" (.xv "BadInput" "index" d)=some (.fz (.bl false)):=isx_eq (by decide+kernel)
  have a3:atI (olds d) 3=some (.xv "BadWay" "index" d):=rfl
  have i3:isxD isx "BadInput" (.xv "BadWay" "index" d)=some (.fz (.bl false)):=isx_eq (by decide+kernel)
  have a4:atI (olds d) 4=some (.xv "BadLabels" "block" d):=rfl
  have i4:isxD isx "BadStop" (.xv "BadLabels" "block" d)=some (.fz (.bl false)):=isx_eq (by decide+kernel)
  have a5:atI (olds d) 5=some (.xv "BadStop" "stop" d):=rfl
  have i5:isxD isx "BadShown" (.xv "BadStop" "stop" d)=some (.fz (.bl false)):=isx_eq (by decide+kernel)
  have a6:atI (olds d) 6=some (.xv "BadShown" "what" d):=rfl
  have i6:isxD isx "BadStop" (.xv "BadShown" "what" d)=some (.fz (.bl false)):=isx_eq (by decide+kernel)
  have a7:atI (olds d) 7=some (.xv "BadValues" "count" d):=rfl
  have i7:isxD isx "BadRow" (.xv "BadValues" "count" d)=some (.fz (.bl false)):=isx_eq (by decide+kernel)
  have a8:atI (olds d) 8=some (.xv "BadShape" "part" d):=rfl
  have i8:isxD isx "BadMark" (.xv "BadShape" "part" d)=some (.fz (.bl false)):=isx_eq (by decide+kernel)
  have a9:atI (olds d) 9=some (.xv "BadMark" "mark" d):=rfl
  have i9:isxD isx "BadShape" (.xv "BadMark" "mark" d)=some (.fz (.bl false)):=isx_eq (by decide+kernel)
  have a10:atI (olds d) 10=some (.xv "BadOption" "option" d):=rfl
  have i10:isxD isx "BadWish" (.xv "BadOption" "option" d)=some (.fz (.bl false)):=isx_eq (by decide+kernel)
  have a11:atI (olds d) 11=some (.xv "BadWish" "index" d):=rfl
  have i11:isxD isx "BadOption" (.xv "BadWish" "index" d)=some (.fz (.bl false)):=isx_eq (by decide+kernel)
  have a12:atI (olds d) 12=some (.xv "BadTable" "which" d):=rfl
  have i12:isxD isx "BadFrame" (.xv "BadTable" "which" d)=some (.fz (.bl false)):=isx_eq (by decide+kernel)
  have a13:atI (olds d) 13=some (.xv "BadFrame" "frame" d):=rfl
  have i13:isxD isx "BadTable" (.xv "BadFrame" "frame" d)=some (.fz (.bl false)):=isx_eq (by decide+kernel)
  have a14:atI (olds d) 14=some (.xv "BadText" "line" d):=rfl
  have i14:isxD isx "BadLine" (.xv "BadText" "line" d)=some (.fz (.bl false)):=isx_eq (by decide+kernel)
  have a15:atI (olds d) 15=some (.xv "BadLine" "line" d):=rfl
  have i15:isxD isx "BadText" (.xv "BadLine" "line" d)=some (.fz (.bl false)):=isx_eq (by decide+kernel)
  have a16:atI (olds d) 16=some (.xv "BadTruth" "truth" d):=rfl
  have i16:isxD isx "Untrue" (.xv "BadTruth" "truth" d)=some (.fz (.bl false)):=isx_eq (by decide+kernel)
  have a17:atI (olds d) 17=some (.xv "Untrue" "what" d):=rfl
  have i17:isxD isx "BadShown" (.xv "Untrue" "what" d)=some (.fz (.bl false)):=isx_eq (by decide+kernel)
  have ad3: ∀ v0 v1 v2 v3 v4 v5:D,addD (.lst [v0,v1,v2]) (.lst [v3,v4,v5])=some (.lst [v0,v1,v2,v3,v4,v5]):=fun _ _ _ _ _ _=>rfl
  have ad6: ∀ v0 v1 v2 v3 v4 v5 v6 v7 v8:D,addD (.lst [v0,v1,v2,v3,v4,v5]) (.lst [v6,v7,v8])=some (.lst [v0,v1,v2,v3,v4,v5,v6,v7,v8]):=fun _ _ _ _ _ _ _ _ _=>rfl
  have ad9: ∀ v0 v1 v2 v3 v4 v5 v6 v7 v8 v9 v10 v11:D,addD (.lst [v0,v1,v2,v3,v4,v5,v6,v7,v8]) (.lst [v9,v10,v11])=some (.lst [v0,v1,v2,v3,v4,v5,v6,v7,v8,v9,v10,v11]):=fun _ _ _ _ _ _ _ _ _ _ _ _=>rfl
  have ad12: ∀ v0 v1 v2 v3 v4 v5 v6 v7 v8 v9 v10 v11 v12 v13 v14:D,addD (.lst [v0,v1,v2,v3,v4,v5,v6,v7,v8,v9,v10,v11]) (.lst [v12,v13,v14])=some (.lst [v0,v1,v2,v3,v4,v5,v6,v7,v8,v9,v10,v11,v12,v13,v14]):=fun _ _ _ _ _ _ _ _ _ _ _ _ _ _ _=>rfl
  have ad15: ∀ v0 v1 v2 v3 v4 v5 v6 v7 v8 v9 v10 v11 v12 v13 v14 v15 v16 v17:D,addD (.lst [v0,v1,v2,v3,v4,v5,v6,v7,v8,v9,v10,v11,v12,v13,v14]) (.lst [v15,v16,v17])=some (.lst [v0,v1,v2,v3,v4,v5,v6,v7,v8,v9,v10,v11,v12,v13,v14,v15,v16,v17]):=fun _ _ _ _ _ _ _ _ _ _ _ _ _ _ _ _ _ _=>rfl
  have ii:inD (.bl true) (.lst [.bl false,.bl false,.bl false,.bl false,.bl false,.bl false,.bl false,.bl false,.bl false,.bl false,.bl false,.bl false,.bl false,.bl false,.bl false,.bl false,.bl false,.bl false])=some (.fz (.bl false)):=by kernel_rfl
  simp_arith [f_law_mixed,m_law_mixed,a0,i0,a1,i1,a2,i2,a3,i3,a4,i4,a5,i5,a6,i6,a7,i7,a8,i8,a9,i9,a10,i10,a11,i11,a12,i12,a13,i13,a14,i14,a15,i15,a16,i16,a17,i17,ad3,ad6,ad9,ad12,ad15,ii,x_dxv,x_lst,x_aYL,x_atL,x_lstK3,x_iY_lst]
end K23
namespace K23
open PySem PySem.Spec PyProof.Rows L2 Mi Vs
noncomputable section
def b_0_0:C:=(cAsg (mCell (mCall "_law_pool" (aCons (mVar 0) (aCons (mVar 1) aNil)))) (gN 2))
def b_0_1_0:C:=(cAsg (mCall "_law_told" (aCons (mVar 3) aNil)) (gT 2 (gsCons (gN 4) (gsCons (gN 5) gsNil))))
def b_0_1_1:C:=(cAsg (mCall "_law_later" (aCons (mVar 3) aNil)) (gT 2 (gsCons (gN 6) (gsCons (gN 7) gsNil))))
def b_0_1_2:C:=(cAsg (mTwo addD (mVar 4) (mVar 6)) (gN 4))
def b_0_1_3:C:=(cIf (bOr (bNot (bVal (mVar 5))) (bNot (bVal (mVar 7)))) (cSeq (cRet (mCon (.bl false))) cNil) cNil)
def b_0_1_4:C:=(cAsg (mXv "NothingToUndo" "name" (aCons (mVar 3) aNil)) (gN 8))
def b_0_1_5:C:=(cIf (bOr (bCmp (mTwo neX (mBlt reprD (rCons (mOne (fldX "name") (mVar 8)) rNil)) (mBlt reprD (rCons (mVar 3) rNil)))) (bOr (bNot (bVal (mOne (isxD isx "RuntimeError") (mVar 8)))) (bVal (mOne (isxD isx "ShownError") (mVar 8))))) (cSeq (cRet (mCon (.bl false))) cNil) cNil)
def b_0_1_6:C:=(cIf (bCmp (mTwo neX (mLc (iAny (mVar 4)) (gN 10) (bOr (bNot (bVal (mOne (isxD isx "ShownError") (mVar 10)))) (bNot (bVal (mOne (isxD isx "ValueError") (mVar 10))))) (mVar 10) [10]) (mLst aNil))) (cSeq (cRet (mCon (.bl false))) cNil) cNil)
def b_0_1_7:C:=(cAsg (mLst (aCons (mXv "UnknownBlock" "block" (aCons (mVar 3) aNil)) (aCons (mXv "UnknownName" "name" (aCons (mVar 3) aNil)) (aCons (mXv "TooMany" "limit" (aCons (mVar 3) aNil)) aNil)))) (gN 9))
def b_0_1_8:C:=(cIf (bCmp (mTwo neX (mLst (aCons (mBlt reprD (rCons (mOne (fldX "block") (mTwo atX (mVar 9) (mCon (.int 0)))) rNil)) (aCons (mBlt reprD (rCons (mOne (fldX "name") (mTwo atX (mVar 9) (mCon (.int 1)))) rNil)) (aCons (mBlt reprD (rCons (mOne (fldX "limit") (mTwo atX (mVar 9) (mCon (.int 2)))) rNil)) aNil)))) (mTwo mulX (mLst (aCons (mBlt reprD (rCons (mVar 3) rNil)) aNil)) (mCon (.int 3))))) (cSeq (cRet (mCon (.bl false))) cNil) cNil)
def b_0_1_9:C:=(cIf (bOr (bNot (bVal (mOne (isxD isx "KeyError") (mTwo atX (mVar 9) (mCon (.int 0)))))) (bNot (bVal (mOne (isxD isx "KeyError") (mTwo atX (mVar 9) (mCon (.int 1))))))) (cSeq (cRet (mCon (.bl false))) cNil) cNil)
def b_0_1_10:C:=(cIf (bOr (bNot (bVal (mOne (isxD isx "OverflowError") (mTwo atX (mVar 9) (mCon (.int 2)))))) (bCmp (mTwo neX (mLc (iAny (mVar 9)) (gN 10) (bVal (mOne (isxD isx "ShownError") (mVar 10))) (mVar 10) [10]) (mLst aNil)))) (cSeq (cRet (mCon (.bl false))) cNil) cNil)
def b_0_1_11:C:=(cIf (bOr (bVal (mCall "_law_mixed" (aCons (mVar 4) aNil))) (bOr (bVal (mOne (isxD isx "UnknownName") (mTwo atX (mVar 9) (mCon (.int 0))))) (bVal (mOne (isxD isx "UnknownBlock") (mTwo atX (mVar 9) (mCon (.int 1))))))) (cSeq (cRet (mCon (.bl false))) cNil) cNil)
def body_0_1:C:=(cSeq b_0_1_0 (cSeq b_0_1_1 (cSeq b_0_1_2 (cSeq b_0_1_3 (cSeq b_0_1_4 (cSeq b_0_1_5 (cSeq b_0_1_6 (cSeq b_0_1_7 (cSeq b_0_1_8 (cSeq b_0_1_9 (cSeq b_0_1_10 (cSeq b_0_1_11 cNil))))))))))))
def b_0_1:C:=(cFor (iAny (mLst (aCons (mCall "_law_draw" (aCons (mVar 2) (aCons (mTwo powD (mCon (.int 10)) (mCon (.int 9))) aNil))) (aCons (mCon (.str "x")) (aCons (mCon .non) (aCons (mLst (aCons (mCon (.int 1)) (aCons (mCon (.int 2)) aNil))) (aCons (mTup aNil) (aCons (mCon (.bl true)) aNil)))))))) (gN 3) body_0_1)
def body_0:C:=(cSeq b_0_0 (cSeq b_0_1 cNil))
def b_0:C:=(cFor (iRg1 (rCons (mBlt maxD (rCons (mCon (.int 1)) (rCons (mBlt minD (rCons (mBlt lenX (rCons (mVar 0) rNil)) (rCons (mCon (.int 3)) rNil))) rNil))) rNil)) (gN 1) body_0)
def b_1:C:=(cRet (mCon (.bl true)))
def body:C:=(cSeq b_0 (cSeq b_1 cNil))
end
variable {ns:List Int} {i:Int} {n:Nat} {d:D} {y:Str} {h:List O}
theorem ne_y (y:Str):neD (.str y) (.str y)=some (.fz (.bl false)):=by simp only [neD,eqB,decide_true,Option.map_some,Bool.not_true]
theorem ne_nil:neD (.lst []) (.lst [])=some (.fz (.bl false)):=by kernel_rfl
theorem st_a (T:Th d y) (x4 x5 x6 x7 x8 x9 x10:Option O):cSeq b_0_1_0 (cSeq b_0_1_1 (cSeq b_0_1_2 (cSeq b_0_1_3 (cSeq b_0_1_4 cNil)))) (callN tabV 18) ⟨[some (.fz (.scr ns)),some (.fz (.int i)),some (.fz (.loc n)),some (.fz d),x4,x5,x6,x7,x8,x9,x10],h⟩= .nx ⟨[some (.fz (.scr ns)),some (.fz (.int i)),some (.fz (.loc n)),some (.fz d),some (.lst (olds d)),some (.fz (.bl true)),some (.fz (.lst (lates d))),some (.fz (.bl true)),some (.fz (.xv "NothingToUndo" "name" d)),x9,x10],h⟩:=by
  have dd:=T.dr
  have e1:=c_told T 17 h
  have e2:=c_later T 17 h
  have ad:addD (.lst (tolds d)) (.lst (lates d))=some (.lst (olds d)):=rfl
  have e1':callN tabV 18 "_law_told" [d] h= .ok (.lst [.lst (tolds d),.bl true]) h:=e1
  have e2':callN tabV 18 "_law_later" [d] h= .ok (.lst [.lst (lates d),.bl true]) h:=e2
  simp_arith [b_0_1_0,b_0_1_1,b_0_1_2,b_0_1_3,b_0_1_4,dd,e1',e2',ad,x_xv,x_xv1,x_dxv,x_gTo2,x_gsC,x_gs,x_gsN]
theorem st_b (T:Th d y) (x9 x10:Option O):b_0_1_5 (callN tabV 18) ⟨[some (.fz (.scr ns)),some (.fz (.int i)),some (.fz (.loc n)),some (.fz d),some (.lst (olds d)),some (.fz (.bl true)),some (.fz (.lst (lates d))),some (.fz (.bl true)),some (.fz (.xv "NothingToUndo" "name" d)),x9,x10],h⟩= .nx ⟨[some (.fz (.scr ns)),some (.fz (.int i)),some (.fz (.loc n)),some (.fz d),some (.lst (olds d)),some (.fz (.bl true)),some (.fz (.lst (lates d))),some (.fz (.bl true)),some (.fz (.xv "NothingToUndo" "name" d)),x9,x10],h⟩:=by
  have dd:=T.dr
  have rp:=T.rp
  have i1:isxD isx "RuntimeError" (.xv "NothingToUndo" "name" d)=some (.fz (.bl true)):=isx_eq (by decide+kernel)
  have i2:isxD isx "ShownError" (.xv "NothingToUndo" "name" d)=some (.fz (.bl false)):=isx_eq (by decide+kernel)
  have ny:=ne_y y
  simp_arith [b_0_1_5,dd,rp,i1,i2,ny,x_fxv,x_dxv,x_neX_str]
theorem lc_none (call:Call) (tt:B) {ds:List D} {σ:List (Option O)} (hi:σ[10]?=some none) (hl:ds.length≤20) (ht: ∀ e∈ds,tt call ⟨σ.set 10 (some (.fz e)),h⟩= .ok false ⟨σ.set 10 (some (.fz e)),h⟩):lcL call (gN 10) tt (mVar 10) [10] ds [] ⟨σ,h⟩= .ok [] ⟨σ,h⟩:=by
  have il:10<σ.length:=(List.getElem?_eq_some_iff.mp hi).1
  rw [lcL_map (p:=fun _=>false) (f:=fun d=>d) ds [] (fun e he=>⟨⟨σ.set 10 (some (.fz e)),h⟩,by simp only [gN,il,if_true],ht e he,(fun z=>by cases z),by
    show (⟨(σ.set 10 (some (.fz e))).set 10 none,h⟩:Mi.S)=⟨σ,h⟩
    rw [List.set_set]
    obtain ⟨hlt,z⟩:=List.getElem?_eq_some_iff.mp hi
    rw [←z,List.set_getElem_self]⟩) (fits_of (by rw [List.length_nil];omega))]
  simp
theorem st_c (x9 x10:Option O):b_0_1_6 (callN tabV 18) ⟨[some (.fz (.scr ns)),some (.fz (.int i)),some (.fz (.loc n)),some (.fz d),some (.lst (olds d)),some (.fz (.bl true)),some (.fz (.lst (lates d))),some (.fz (.bl true)),some (.fz (.xv "NothingToUndo" "name" d)),x9,x10],h⟩= .nx ⟨[some (.fz (.scr ns)),some (.fz (.int i)),some (.fz (.loc n)),some (.fz d),some (.fz (.lst (olds d))),some (.fz (.bl true)),some (.fz (.lst (lates d))),some (.fz (.bl true)),some (.fz (.xv "NothingToUndo" "name" d)),x9,x10],h⟩:=by
  have el:=lc_none (callN tabV 18) (bOr (bNot (bVal (mOne (isxD isx "ShownError") (mVar 10)))) (bNot (bVal (mOne (isxD isx "ValueError") (mVar 10))))) (ds:=olds d) (σ:=[some (.fz (.scr ns)),some (.fz (.int i)),some (.fz (.loc n)),some (.fz d),some (.fz (.lst (olds d))),some (.fz (.bl true)),some (.fz (.lst (lates d))),some (.fz (.bl true)),some (.fz (.xv "NothingToUndo" "name" d)),x9,none]) (h:=h) rfl (by show (18:Nat)≤20;decide) (fun e he=>by
    obtain ⟨p,hp,rfl⟩:=olds_mem he
    have i1:=isx_eq (nm:="ShownError") (c:=p.1) (f:=p.2) (d:=d) (all_err p hp).1
    have i2:=isx_eq (nm:="ValueError") (c:=p.1) (f:=p.2) (d:=d) (all_err p hp).2
    simp_arith [i1,i2,x_dxv])
  have nn:=ne_nil
  simp_arith [b_0_1_6,el,nn,x_lc,x_ay,x_ay1,x_ay2,x_ayL,x_lc1,x_wp,x_wp0,x_lc2,x_rs,x_rs0,Option.getD_some,x_lst,x_lstK0,x_neX_lst]
theorem st_d (T:Th d y) (x9 x10:Option O):cSeq b_0_1_7 (cSeq b_0_1_8 (cSeq b_0_1_9 cNil)) (callN tabV 18) ⟨[some (.fz (.scr ns)),some (.fz (.int i)),some (.fz (.loc n)),some (.fz d),some (.fz (.lst (olds d))),some (.fz (.bl true)),some (.fz (.lst (lates d))),some (.fz (.bl true)),some (.fz (.xv "NothingToUndo" "name" d)),x9,x10],h⟩= .nx ⟨[some (.fz (.scr ns)),some (.fz (.int i)),some (.fz (.loc n)),some (.fz d),some (.fz (.lst (olds d))),some (.fz (.bl true)),some (.fz (.lst (lates d))),some (.fz (.bl true)),some (.fz (.xv "NothingToUndo" "name" d)),some (.lst [.xv "UnknownBlock" "block" d,.xv "UnknownName" "name" d,.xv "TooMany" "limit" d]),x10],h⟩:=by
  have dd:=T.dr
  have rp:=T.rp
  have a0: ∀ p q r:D,atI [p,q,r] 0=some p:=fun _ _ _=>rfl
  have a1: ∀ p q r:D,atI [p,q,r] 1=some q:=fun _ _ _=>rfl
  have a2: ∀ p q r:D,atI [p,q,r] 2=some r:=fun _ _ _=>rfl
  have mu':mulD (.lst [.str y]) (.int 3)=some (.lst [.str y,.str y,.str y]):=mul_n (y:=y) (n:=3) (by omega)
  have eq:neD (.lst [.str y,.str y,.str y]) (.lst [.str y,.str y,.str y])=some (.fz (.bl false)):=by
    have z:=same_n T.ok 3
    have z':eqB (.lst [.str y,.str y,.str y]) (.lst [.str y,.str y,.str y])=some true:=z
    simp only [neD,z',Option.map_some,Bool.not_true]
  have i1:isxD isx "KeyError" (.xv "UnknownBlock" "block" d)=some (.fz (.bl true)):=isx_eq (by decide+kernel)
  have i2:isxD isx "KeyError" (.xv "UnknownName" "name" d)=some (.fz (.bl true)):=isx_eq (by decide+kernel)
  simp_arith [b_0_1_7,b_0_1_8,b_0_1_9,dd,rp,a0,a1,a2,mu',eq,i1,i2,x_xv,x_xv1,x_fxv,x_dxv,x_lst,x_lstK3,x_aYL,x_atL,x_lstK1,x_mXL,x_neX_lst]
theorem st_e (x10:Option O):b_0_1_10 (callN tabV 18) ⟨[some (.fz (.scr ns)),some (.fz (.int i)),some (.fz (.loc n)),some (.fz d),some (.fz (.lst (olds d))),some (.fz (.bl true)),some (.fz (.lst (lates d))),some (.fz (.bl true)),some (.fz (.xv "NothingToUndo" "name" d)),some (.lst [.xv "UnknownBlock" "block" d,.xv "UnknownName" "name" d,.xv "TooMany" "limit" d]),x10],h⟩= .nx ⟨[some (.fz (.scr ns)),some (.fz (.int i)),some (.fz (.loc n)),some (.fz d),some (.fz (.lst (olds d))),some (.fz (.bl true)),some (.fz (.lst (lates d))),some (.fz (.bl true)),some (.fz (.xv "NothingToUndo" "name" d)),some (.fz (.lst [.xv "UnknownBlock" "block" d,.xv "UnknownName" "name" d,.xv "TooMany" "limit" d])),x10],h⟩:=by
  have a2: ∀ p q r:D,atI [p,q,r] 2=some r:=fun _ _ _=>rfl
  have i1:isxD isx "OverflowError" (.xv "TooMany" "limit" d)=some (.fz (.bl true)):=isx_eq (by decide+kernel)
  have el:=lc_none (callN tabV 18) (bVal (mOne (isxD isx "ShownError") (mVar 10))) (ds:=[.xv "UnknownBlock" "block" d,.xv "UnknownName" "name" d,.xv "TooMany" "limit" d]) (σ:=[some (.fz (.scr ns)),some (.fz (.int i)),some (.fz (.loc n)),some (.fz d),some (.fz (.lst (olds d))),some (.fz (.bl true)),some (.fz (.lst (lates d))),some (.fz (.bl true)),some (.fz (.xv "NothingToUndo" "name" d)),some (.fz (.lst [.xv "UnknownBlock" "block" d,.xv "UnknownName" "name" d,.xv "TooMany" "limit" d])),none]) (h:=h) rfl (by simp) (fun e he=>by
    obtain ⟨c,f,hc,rfl⟩: ∃ c f,isxB c "ShownError"=some false∧e= .xv c f d:=by
      simp only [List.mem_cons,List.not_mem_nil,or_false] at he
      rcases he with rfl|rfl|rfl<;>exact ⟨_,_,by decide+kernel,rfl⟩
    have i1:=isx_eq (nm:="ShownError") (c:=c) (f:=f) (d:=d) hc
    simp_arith [i1,x_dxv])
  have nn:=ne_nil
  simp_arith [b_0_1_10,a2,i1,el,nn,x_dxv,x_aYL,x_atL,x_lc,x_ay,x_ay1,x_ay2,x_ayL,x_lc1,x_wp,x_wp0,x_lc2,x_rs,x_rs0,Option.getD_some,x_lst,x_lstK0,x_neX_lst]
theorem st_f (x10:Option O):cSeq b_0_1_11 cNil (callN tabV 18) ⟨[some (.fz (.scr ns)),some (.fz (.int i)),some (.fz (.loc n)),some (.fz d),some (.fz (.lst (olds d))),some (.fz (.bl true)),some (.fz (.lst (lates d))),some (.fz (.bl true)),some (.fz (.xv "NothingToUndo" "name" d)),some (.fz (.lst [.xv "UnknownBlock" "block" d,.xv "UnknownName" "name" d,.xv "TooMany" "limit" d])),x10],h⟩= .nx ⟨[some (.fz (.scr ns)),some (.fz (.int i)),some (.fz (.loc n)),some (.fz d),some (.fz (.lst (olds d))),some (.fz (.bl true)),some (.fz (.lst (lates d))),some (.fz (.bl true)),some (.fz (.xv "NothingToUndo" "name" d)),some (.fz (.lst [.xv "UnknownBlock" "block" d,.xv "UnknownName" "name" d,.xv "TooMany" "limit" d])),x10],h⟩:=by
  have a0: ∀ p q r:D,atI [p,q,r] 0=some p:=fun _ _ _=>rfl
  have a1: ∀ p q r:D,atI [p,q,r] 1=some q:=fun _ _ _=>rfl
  have em:callN tabV 18 "_law_mixed" [.lst (olds d)] h= .ok (.fz (.bl false)) h:=c_mixed d 17 h
  have i1:isxD isx "UnknownName" (.xv "UnknownBlock" "block" d)=some (.fz (.bl false)):=isx_eq (by decide+kernel)
  have i2:isxD isx "UnknownBlock" (.xv "UnknownName" "name" d)=some (.fz (.bl false)):=isx_eq (by decide+kernel)
  simp_arith [b_0_1_11,a0,a1,em,i1,i2,x_dxv,x_aYL,x_atL]
theorem then_nx {r:Fl} {f:Mi.S→Fl} {s':Mi.S} (e:r.then f= .nx s'): ∃ s1,r= .nx s1∧f s1= .nx s':=by
  cases r<;>first|exact ⟨_,rfl,e⟩|cases e
theorem seq1 {a r:C} {call:Call} {s s':Mi.S} (e:a call s= .nx s'):cSeq a r call s=r call s':=by
  show (a call s).then (r call)=_
  rw [e,xT_nx]
theorem turn_d (T:Th d y) (x4 x5 x6 x7 x8 x9 x10:Option O): ∃ s',body_0_1 (callN tabV 18) ⟨[some (.fz (.scr ns)),some (.fz (.int i)),some (.fz (.loc n)),some (.fz d),x4,x5,x6,x7,x8,x9,x10],h⟩= .nx s'∧∃ y3 y4 y5 y6 y7 y8 y9 y10,s'=⟨[some (.fz (.scr ns)),some (.fz (.int i)),some (.fz (.loc n)),y3,y4,y5,y6,y7,y8,y9,y10],h⟩:=by
  have ea:=st_a T x4 x5 x6 x7 x8 x9 x10 (ns:=ns) (i:=i) (n:=n) (h:=h)
  have eb:=st_b T x9 x10 (ns:=ns) (i:=i) (n:=n) (h:=h)
  have ec:=st_c x9 x10 (ns:=ns) (i:=i) (n:=n) (d:=d) (h:=h)
  have ed:=st_d T x9 x10 (ns:=ns) (i:=i) (n:=n) (h:=h)
  have ee:=st_e x10 (ns:=ns) (i:=i) (n:=n) (d:=d) (h:=h)
  have ef:=st_f x10 (ns:=ns) (i:=i) (n:=n) (d:=d) (h:=h)
  obtain ⟨s0,p0,ea⟩:=then_nx ea
  obtain ⟨s1,p1,ea⟩:=then_nx ea
  obtain ⟨s2,p2,ea⟩:=then_nx ea
  obtain ⟨s3,p3,ea⟩:=then_nx ea
  obtain ⟨s4,p4,ea⟩:=then_nx ea
  obtain rfl:=Fl.nx.inj ea
  obtain ⟨t7,q7,ed⟩:=then_nx ed
  obtain ⟨t8,q8,ed⟩:=then_nx ed
  obtain ⟨t9,q9,ed⟩:=then_nx ed
  obtain rfl:=Fl.nx.inj ed
  refine ⟨⟨[some (.fz (.scr ns)),some (.fz (.int i)),some (.fz (.loc n)),some (.fz d),some (.fz (.lst (olds d))),some (.fz (.bl true)),some (.fz (.lst (lates d))),some (.fz (.bl true)),some (.fz (.xv "NothingToUndo" "name" d)),some (.fz (.lst [.xv "UnknownBlock" "block" d,.xv "UnknownName" "name" d,.xv "TooMany" "limit" d])),x10],h⟩, ?_,_,_,_,_,_,_,_,_,rfl⟩
  · rw [body_0_1,seq1 p0,seq1 p1,seq1 p2,seq1 p3,seq1 p4,seq1 eb,seq1 ec,seq1 q7,seq1 q8,seq1 q9,seq1 ee]
    exact ef
theorem th_x:Th (.str "x") "'x'":=⟨fun _=>rfl,by kernel_rfl,by decide+kernel⟩
theorem th_n:Th .non "None":=⟨fun _=>rfl,by kernel_rfl,by decide+kernel⟩
theorem th_l:Th (.lst [.int 1,.int 2]) "[1, 2]":=⟨fun _=>rfl,by kernel_rfl,by decide+kernel⟩
theorem th_t:Th (.tup []) "()":=⟨fun _=>rfl,by kernel_rfl,by decide+kernel⟩
theorem th_b:Th (.bl true) "True":=⟨fun _=>rfl,by kernel_rfl,by decide+kernel⟩
theorem ok_text (s:String):PyData.strOk (Str.ofString s)=true:=by
  rw [Str.ofString_eq_toList]
  show (List.map Char.toNat s.toList).toArray.all (· <0x110000)=true
  rw [←Array.all_toList]
  simp only [List.all_eq_true,List.mem_map,decide_eq_true_eq]
  rintro x ⟨c,_,rfl⟩
  have z:=c.valid
  rcases z with z|z
  · have:c.toNat<0xd800:=z
    omega
  · exact z.2
theorem th_int {r:Int} (h0:0≤r) (h1:r<1000000000): ∃ y,Th (.int r) y:=by
  have lg:r.natAbs.log2<31:=by
    by_cases z:r.natAbs=0
    · rw [z];decide
    · exact (Nat.log2_lt z).mpr (by omega)
  have ln:(PyData.shown (.int r)).length≤32:=by
    show (Str.ofString (toString r)).length≤32
    rw [ofString_len]
    exact int_text_length_le (by decide) lg
  refine ⟨PyData.shown (.int r),fun _=>rfl, ?_,ok_text (toString r)⟩
  have c4:fitsB (PyData.shown (.int r)).length=true:=fits_of (by omega)
  show (if (PyData.int r).showable=true∧(PyData.int r).hasDict=false∧(PyData.int r).depth≤40∧fitsB (PyData.int r).shown.length=true then some (O.fz (.str (PyData.int r).shown)) else none)=_
  refine if_pos ⟨?_,rfl,by simp [PyData.depth],c4⟩
  simp only [PyData.showable,decide_eq_true_eq]
  omega
def Sl0 (ns:List Int) (s:Mi.S):Prop:= ∃ x1 x2 x3 x4 x5 x6 x7 x8 x9 x10,s.σ=[some (.fz (.scr ns)),x1,x2,x3,x4,x5,x6,x7,x8,x9,x10]
theorem turn (ns:List Int) (i:Nat) (hi:i<3) (x2 x3 x4 x5 x6 x7 x8 x9 x10:Option O) (h:List O):
    Ends (Sl0 ns) (body_0 (callN tabV 18) ⟨[some (.fz (.scr ns)),some (.fz (.int i)),x2,x3,x4,x5,x6,x7,x8,x9,x10],h⟩):=by
  obtain ⟨pa,pb,e0,a0,a1,a2⟩:=pool1 17 ns (i:=(i:Int)) (by omega) (by omega) h
  have p0:PoolAt (h++[.lst [.int pa,.int pb]]) h.length:=⟨pa,pb,by simp,a0,a1,a2⟩
  obtain ⟨r,h1,e1,r0,r1,p1⟩:=draw1 17 p0 (m:=1000000000) (by omega) (by omega)
  have pw:powD (.int 10) (.int 9)=some (.fz (.int 1000000000)):=by kernel_rfl
  obtain ⟨yr,hr⟩:=th_int r0 r1
  rw [body_0,x_seq]
  simp_arith [b_0_0,e0,x_cell,x_cellL]
  simp_arith [b_0_1,pw,e1,x_for,x_ay,x_lst,x_lstK2,x_tup,x_tupK0,x_lstK6,x_ay1,x_ay2,x_ayL,x_forL]
  refine Ends.then_ (ends_inv (call:=callN tabV 18) (g:=gN 3) (body:=body_0_1) (fun s=> ∃ y3 y4 y5 y6 y7 y8 y9 y10,s=⟨[some (.fz (.scr ns)),some (.fz (.int (i:Nat))),some (.fz (.loc h.length)),y3,y4,y5,y6,y7,y8,y9,y10],h1⟩) _ _ ⟨_,_,_,_,_,_,_,_,rfl⟩ fun e he s hs=>?_) ?_
  · obtain ⟨y3,y4,y5,y6,y7,y8,y9,y10,rfl⟩:=hs
    refine ⟨_,rfl, ?_⟩
    obtain ⟨y,T⟩: ∃ y,Th e y:=by
      simp only [List.mem_cons,List.not_mem_nil,or_false] at he
      rcases he with rfl|rfl|rfl|rfl|rfl|rfl
      · exact ⟨_,hr⟩
      · exact ⟨_,th_x⟩
      · exact ⟨_,th_n⟩
      · exact ⟨_,th_l⟩
      · exact ⟨_,th_t⟩
      · exact ⟨_,th_b⟩
    obtain ⟨s',e2,z⟩:=turn_d T y4 y5 y6 y7 y8 y9 y10 (ns:=ns) (i:=i) (n:=h.length) (h:=h1)
    exact ⟨s',e2,z⟩
  · rintro s ⟨y3,y4,y5,y6,y7,y8,y9,y10,rfl⟩
    (try simp_arith [x_seq])
    exact ends_nx ⟨_,_,_,_,_,_,_,_,_,_,rfl⟩
theorem law_trueV (ns:List Int) (hl:ns.length≤63): ∃ h',callN tabV 19 "law" [.scr ns] []= .ok (.fz (.bl true)) h':=by
  rw [call_at (sw u_law) [some (.fz (.scr ns)),none,none,none,none,none,none,none,none,none,none] rfl rfl]
  show ∃ h',fin ((cSeq (cFor (iRg1 _) (gN 1) body_0) (cSeq (cRet (mCon (.bl true))) cNil)) (callN tabV 18) _)=_
  simp_arith [List.length_map,x_for,x_rg,x_d_scr,x_lX_scr,x_lenC,x_min,x_max,x_rg1]
  generalize hm:(if (1:Int)<(if (3:Int)<(ns.length:Int) then 3 else (ns.length:Int)) then (if (3:Int)<(ns.length:Int) then 3 else (ns.length:Int)) else 1)=m
  have m0:0≤m:=by rw [←hm];split<;>(try split)<;>omega
  have m1:m≤3:=by rw [←hm];split<;>(try split)<;>omega
  rw [x_rgK m0 (show m<100000 by omega)]
  obtain ⟨s',es,is⟩:=ends_inv (call:=callN tabV 18) (g:=gN 1) (body:=body_0) (Sl0 ns) (rangeD 0 m.toNat) ⟨[some (.fz (.scr ns)),none,none,none,none,none,none,none,none,none,none],[]⟩ ⟨_,_,_,_,_,_,_,_,_,_,rfl⟩ (fun d hd s hs=>by
    rw [rangeD_eq] at hd
    obtain ⟨i,hi,rfl⟩:=List.mem_map.mp hd
    have:=List.mem_range.mp hi
    obtain ⟨σ,h⟩:=s
    obtain ⟨x1,x2,x3,x4,x5,x6,x7,x8,x9,x10,rfl⟩:=hs
    exact ⟨_,rfl,turn ns i (by omega) x2 x3 x4 x5 x6 x7 x8 x9 x10 h⟩)
  simp_arith [x_seq,x_forL]
  rw [es]
  obtain ⟨σ,h3⟩:=s'
  simp_arith [x_seq]
  exact ⟨_,rfl⟩
theorem law_true (ns:List Int) (hl:ns.length≤63): ∃ h',callN tab 19 "law" [.scr ns] []= .ok (.fz (.bl true)) h':=by
  rw [callN_same tabS 19];exact law_trueV ns hl
end K23
namespace K23
open PySem PySem.Spec PyProof.Rows L2 Mi
abbrev Bz_d0 (K:W.Frag):Prop:= ∃ (a0:Addr) (od0 an0:Option Addr) (sl0:Array (Option Value)) (oc0 kV0 dc0 pm0 cd0 ct0:Value),(W.nsIn K mainGlobals "_law_pool"=some (some (.ref a0)))∧(K.lookup a0=some ⟨oc0,od0,.func (W.fnOf "_law_pool" "_law_pool" (defArgs (topS 25)) (defBody (topS 25)) (defScope (topS 25)) .none kV0 dc0 pm0 an0 cd0 ct0),sl0⟩)∧(W.codeIn K cd0 "_law_pool"=true)∧(W.keepIn K (.ref a0)=true)
abbrev Bz_d1 (K:W.Frag):Prop:= ∃ (a1:Addr) (od1 an1:Option Addr) (sl1:Array (Option Value)) (oc1 kV1 dc1 pm1 cd1 ct1:Value),(W.nsIn K mainGlobals "_law_draw"=some (some (.ref a1)))∧(K.lookup a1=some ⟨oc1,od1,.func (W.fnOf "_law_draw" "_law_draw" (defArgs (topS 26)) (defBody (topS 26)) (defScope (topS 26)) .none kV1 dc1 pm1 an1 cd1 ct1),sl1⟩)∧(W.codeIn K cd1 "_law_draw"=true)∧(W.keepIn K (.ref a1)=true)
abbrev Bz_d2 (K:W.Frag):Prop:= ∃ (a2:Addr) (od2 an2:Option Addr) (sl2:Array (Option Value)) (oc2 kV2 dc2 pm2 cd2 ct2:Value),(W.nsIn K mainGlobals "_law_told"=some (some (.ref a2)))∧(K.lookup a2=some ⟨oc2,od2,.func (W.fnOf "_law_told" "_law_told" (defArgs (topS 28)) (defBody (topS 28)) (defScope (topS 28)) .none kV2 dc2 pm2 an2 cd2 ct2),sl2⟩)∧(W.codeIn K cd2 "_law_told"=true)∧(W.keepIn K (.ref a2)=true)
abbrev Bz_d3 (K:W.Frag):Prop:= ∃ (a3:Addr) (od3 an3:Option Addr) (sl3:Array (Option Value)) (oc3 kV3 dc3 pm3 cd3 ct3:Value),(W.nsIn K mainGlobals "_law_later"=some (some (.ref a3)))∧(K.lookup a3=some ⟨oc3,od3,.func (W.fnOf "_law_later" "_law_later" (defArgs (topS 29)) (defBody (topS 29)) (defScope (topS 29)) .none kV3 dc3 pm3 an3 cd3 ct3),sl3⟩)∧(W.codeIn K cd3 "_law_later"=true)∧(W.keepIn K (.ref a3)=true)
abbrev Bz_d4 (K:W.Frag):Prop:= ∃ (a4:Addr) (od4 an4:Option Addr) (sl4:Array (Option Value)) (oc4 kV4 dc4 pm4 cd4 ct4:Value),(W.nsIn K mainGlobals "_law_mixed"=some (some (.ref a4)))∧(K.lookup a4=some ⟨oc4,od4,.func (W.fnOf "_law_mixed" "_law_mixed" (defArgs (topS 30)) (defBody (topS 30)) (defScope (topS 30)) .none kV4 dc4 pm4 an4 cd4 ct4),sl4⟩)∧(W.codeIn K cd4 "_law_mixed"=true)∧(W.keepIn K (.ref a4)=true)
abbrev Bz_d5 (K:W.Frag) (fa:Addr):Prop:= ∃ (od5 an5:Option Addr) (sl5:Array (Option Value)) (oc5 kV5 dc5 pm5 cd5 ct5:Value),(W.nsIn K mainGlobals "law"=some (some (.ref fa)))∧(K.lookup fa=some ⟨oc5,od5,.func (W.fnOf "law" "law" (defArgs (topS 31)) (defBody (topS 31)) (defScope (topS 31)) .none kV5 dc5 pm5 an5 cd5 ct5),sl5⟩)∧(W.codeIn K cd5 "law"=true)∧(W.keepIn K (.ref fa)=true)
abbrev Bz_x_BadRow (K:W.Frag) (zu:Addr):Prop:= ∃ (zbn zuo:Addr) (zuq zuu:Str) (zwh zfr zwd:List Value) (zwb:List Str) (zvu:Bool) (zvr:Option Bool) (zvn ztv zvi:Option Addr) (zud zuz zwc zvj ztz:Option Value) (zty zwa ztq zvw zgf zuc:Value) (zvs:Array (Option Value)) (zcm:Addr),(W.nsIn K mainGlobals "BadRow"=some (some (.ref zu)))∧(K.lookup zu=some (excClassObj zuq zuu zu zuo zwh zfr true zwb zwd zvu zvr zvn zud zuz zwc zvj ztz "ValueError.__new__"))∧(refsT tlV zfr=true)∧(W.findIn K (.ref zu) "__setattr__"=some (some (.builtin "object.__setattr__")))∧(W.subIn K (.ref zu) (.type "BaseException")=some true)∧(W.typeIn K (.ref zu)=some (.type "type"))∧(W.keepIn K (.ref zu)=true)∧(W.findIn K (.ref zu) "__getattribute__"=some (some (.builtin "BaseException.__getattribute__")))∧(W.findIn K (.ref zu) "__getattr__"=some none)∧(W.hasDictIn K zu=true)∧(W.findIn K (.ref zu) "__class__"=some (some (.builtin "object.__class__")))∧(W.specialIn K (.builtin "object.__class__") "__get__"=some (some (.builtin "getset_descriptor.__get__")))∧(W.takesIn K (.builtin "object.__class__")=some true)∧(W.mroIn K zu (.type "object")=some true)∧(W.findIn K (.ref zu) "index"=some none)∧(W.findIn K (.ref zu) "__init__"=some (some (.ref zbn)))∧(W.typeIn K (.ref zbn)=some (.type "function"))∧(K.lookup zbn=some ⟨zty,ztv,.func (W.fnOf "__init__" "BadRow.__init__" (defArgs (inS 2 0)) (defBody (inS 2 0)) (defScope (inS 2 0)) .none zwa ztq zvw zvi zgf zuc),zvs⟩)∧(W.codeIn K zgf "BadRow.__init__"=true)∧(W.keepIn K (.ref zbn)=true)∧(W.nsIn K mainGlobals "ShownError"=some (some (.ref zcm)))∧(W.specialIn K (.ref zcm) "__getattribute__"=some (some (.builtin "type.__getattribute__")))∧(W.readsIn K zcm (.type "type")=true)∧(W.findCls K (.ref zcm) (.type "type") "__init__"=some (.val (.builtin "ValueError.__init__")))
abbrev Bz_x_BadBlock (K:W.Frag) (zm:Addr):Prop:= ∃ (zai zkn:Addr) (zlc zmc:Str) (zne zeb zky:List Value) (zjl:List Str) (zlf:Bool) (zll:Option Bool) (zke zjw zmu:Option Addr) (zim zis zjm znk zio:Option Value) (zlr zik ziq zmk zdw zks:Value) (ziy:Array (Option Value)) (zaz:Addr),(W.nsIn K mainGlobals "BadBlock"=some (some (.ref zm)))∧(K.lookup zm=some (excClassObj zlc zmc zm zkn zne zeb true zjl zky zlf zll zke zim zis zjm znk zio "ValueError.__new__"))∧(refsT tlV zeb=true)∧(W.findIn K (.ref zm) "__setattr__"=some (some (.builtin "object.__setattr__")))∧(W.subIn K (.ref zm) (.type "BaseException")=some true)∧(W.typeIn K (.ref zm)=some (.type "type"))∧(W.keepIn K (.ref zm)=true)∧(W.findIn K (.ref zm) "__getattribute__"=some (some (.builtin "BaseException.__getattribute__")))∧(W.findIn K (.ref zm) "__getattr__"=some none)∧(W.hasDictIn K zm=true)∧(W.findIn K (.ref zm) "__class__"=some (some (.builtin "object.__class__")))∧(W.specialIn K (.builtin "object.__class__") "__get__"=some (some (.builtin "getset_descriptor.__get__")))∧(W.takesIn K (.builtin "object.__class__")=some true)∧(W.mroIn K zm (.type "object")=some true)∧(W.findIn K (.ref zm) "index"=some none)∧(W.findIn K (.ref zm) "__init__"=some (some (.ref zai)))∧(W.typeIn K (.ref zai)=some (.type "function"))∧(K.lookup zai=some ⟨zlr,zjw,.func (W.fnOf "__init__" "BadBlock.__init__" (defArgs (inS 3 0)) (defBody (inS 3 0)) (defScope (inS 3 0)) .none zik ziq zmk zmu zdw zks),ziy⟩)∧(W.codeIn K zdw "BadBlock.__init__"=true)∧(W.keepIn K (.ref zai)=true)∧(W.nsIn K mainGlobals "ShownError"=some (some (.ref zaz)))∧(W.specialIn K (.ref zaz) "__getattribute__"=some (some (.builtin "type.__getattribute__")))∧(W.readsIn K zaz (.type "type")=true)∧(W.findCls K (.ref zaz) (.type "type") "__init__"=some (.val (.builtin "ValueError.__init__")))
abbrev Bz_x_BadInput (K:W.Frag) (zi:Addr):Prop:= ∃ (zag zmg:Addr) (znf zmj:Str) (zjb zdr zkj:List Value) (znh:List Str) (zla:Bool) (zln:Option Bool) (zjn zmv zix:Option Addr) (znl zmi zjc zjz znq:Option Value) (zkd zku zkq zjr zdx zms:Value) (zna:Array (Option Value)) (zat:Addr),(W.nsIn K mainGlobals "BadInput"=some (some (.ref zi)))∧(K.lookup zi=some (excClassObj znf zmj zi zmg zjb zdr true znh zkj zla zln zjn znl zmi zjc zjz znq "ValueError.__new__"))∧(refsT tlV zdr=true)∧(W.findIn K (.ref zi) "__setattr__"=some (some (.builtin "object.__setattr__")))∧(W.subIn K (.ref zi) (.type "BaseException")=some true)∧(W.typeIn K (.ref zi)=some (.type "type"))∧(W.keepIn K (.ref zi)=true)∧(W.findIn K (.ref zi) "__getattribute__"=some (some (.builtin "BaseException.__getattribute__")))∧(W.findIn K (.ref zi) "__getattr__"=some none)∧(W.hasDictIn K zi=true)∧(W.findIn K (.ref zi) "__class__"=some (some (.builtin "object.__class__")))∧(W.specialIn K (.builtin "object.__class__") "__get__"=some (some (.builtin "getset_descriptor.__get__")))∧(W.takesIn K (.builtin "object.__class__")=some true)∧(W.mroIn K zi (.type "object")=some true)∧(W.findIn K (.ref zi) "index"=some none)∧(W.findIn K (.ref zi) "__init__"=some (some (.ref zag)))∧(W.typeIn K (.ref zag)=some (.type "function"))∧(K.lookup zag=some ⟨zkd,zmv,.func (W.fnOf "__init__" "BadInput.__init__" (defArgs (inS 4 0)) (defBody (inS 4 0)) (defScope (inS 4 0)) .none zku zkq zjr zix zdx zms),zna⟩)∧(W.codeIn K zdx "BadInput.__init__"=true)∧(W.keepIn K (.ref zag)=true)∧(W.nsIn K mainGlobals "ShownError"=some (some (.ref zat)))∧(W.specialIn K (.ref zat) "__getattribute__"=some (some (.builtin "type.__getattribute__")))∧(W.readsIn K zat (.type "type")=true)∧(W.findCls K (.ref zat) (.type "type") "__init__"=some (.val (.builtin "ValueError.__init__")))
abbrev Bz_x_BadLabels (K:W.Frag) (zd:Addr):Prop:= ∃ (zad zgt:Addr) (zht zhm:Str) (zia zcs zhp:List Value) (zhz:List Str) (zgj:Bool) (zhr:Option Bool) (zhd zha zhl:Option Addr) (zhw zgr zhi zgz zgc:Option Value) (zgi zgp zig zhf zcf zfp:Value) (zgw:Array (Option Value)) (zaj:Addr),(W.nsIn K mainGlobals "BadLabels"=some (some (.ref zd)))∧(K.lookup zd=some (excClassObj zht zhm zd zgt zia zcs true zhz zhp zgj zhr zhd zhw zgr zhi zgz zgc "ValueError.__new__"))∧(refsT tlV zcs=true)∧(W.findIn K (.ref zd) "__setattr__"=some (some (.builtin "object.__setattr__")))∧(W.subIn K (.ref zd) (.type "BaseException")=some true)∧(W.typeIn K (.ref zd)=some (.type "type"))∧(W.keepIn K (.ref zd)=true)∧(W.findIn K (.ref zd) "__getattribute__"=some (some (.builtin "BaseException.__getattribute__")))∧(W.findIn K (.ref zd) "__getattr__"=some none)∧(W.hasDictIn K zd=true)∧(W.findIn K (.ref zd) "__class__"=some (some (.builtin "object.__class__")))∧(W.specialIn K (.builtin "object.__class__") "__get__"=some (some (.builtin "getset_descriptor.__get__")))∧(W.takesIn K (.builtin "object.__class__")=some true)∧(W.mroIn K zd (.type "object")=some true)∧(W.findIn K (.ref zd) "block"=some none)∧(W.findIn K (.ref zd) "__init__"=some (some (.ref zad)))∧(W.typeIn K (.ref zad)=some (.type "function"))∧(K.lookup zad=some ⟨zgi,zha,.func (W.fnOf "__init__" "BadLabels.__init__" (defArgs (inS 5 0)) (defBody (inS 5 0)) (defScope (inS 5 0)) .none zgp zig zhf zhl zcf zfp),zgw⟩)∧(W.codeIn K zcf "BadLabels.__init__"=true)∧(W.keepIn K (.ref zad)=true)∧(W.nsIn K mainGlobals "ShownError"=some (some (.ref zaj)))∧(W.specialIn K (.ref zaj) "__getattribute__"=some (some (.builtin "type.__getattribute__")))∧(W.readsIn K zaj (.type "type")=true)∧(W.findCls K (.ref zaj) (.type "type") "__init__"=some (.val (.builtin "ValueError.__init__")))
abbrev Bz_x_BadStop (K:W.Frag) (zp:Addr):Prop:= ∃ (zba zss:Addr) (zon zqw:Str) (zsf zfj zsl:List Value) (zoy:List Str) (ztb:Bool) (zpj:Option Bool) (zrr zrz zsx:Option Addr) (ztc zsk zpi zro zqi:Option Value) (zse zqr zrj zps zfd zpt:Value) (zqu:Array (Option Value)) (zbo:Addr),(W.nsIn K mainGlobals "BadStop"=some (some (.ref zp)))∧(K.lookup zp=some (excClassObj zon zqw zp zss zsf zfj true zoy zsl ztb zpj zrr ztc zsk zpi zro zqi "ValueError.__new__"))∧(refsT tlV zfj=true)∧(W.findIn K (.ref zp) "__setattr__"=some (some (.builtin "object.__setattr__")))∧(W.subIn K (.ref zp) (.type "BaseException")=some true)∧(W.typeIn K (.ref zp)=some (.type "type"))∧(W.keepIn K (.ref zp)=true)∧(W.findIn K (.ref zp) "__getattribute__"=some (some (.builtin "BaseException.__getattribute__")))∧(W.findIn K (.ref zp) "__getattr__"=some none)∧(W.hasDictIn K zp=true)∧(W.findIn K (.ref zp) "__class__"=some (some (.builtin "object.__class__")))∧(W.specialIn K (.builtin "object.__class__") "__get__"=some (some (.builtin "getset_descriptor.__get__")))∧(W.takesIn K (.builtin "object.__class__")=some true)∧(W.mroIn K zp (.type "object")=some true)∧(W.findIn K (.ref zp) "stop"=some none)∧(W.findIn K (.ref zp) "__init__"=some (some (.ref zba)))∧(W.typeIn K (.ref zba)=some (.type "function"))∧(K.lookup zba=some ⟨zse,zrz,.func (W.fnOf "__init__" "BadStop.__init__" (defArgs (inS 6 0)) (defBody (inS 6 0)) (defScope (inS 6 0)) .none zqr zrj zps zsx zfd zpt),zqu⟩)∧(W.codeIn K zfd "BadStop.__init__"=true)∧(W.keepIn K (.ref zba)=true)∧(W.nsIn K mainGlobals "ShownError"=some (some (.ref zbo)))∧(W.specialIn K (.ref zbo) "__getattribute__"=some (some (.builtin "type.__getattribute__")))∧(W.readsIn K zbo (.type "type")=true)∧(W.findCls K (.ref zbo) (.type "type") "__init__"=some (.val (.builtin "ValueError.__init__")))
abbrev Bz_x_BadWay (K:W.Frag) (zt:Addr):Prop:= ∃ (zbk zva:Addr) (zuv ztr:Str) (zue zfq ztw:List Value) (zts:List Str) (zuk:Bool) (zvz:Option Bool) (zup zvf zul:Option Addr) (zuw zvp zui zvd zut:Option Value) (zuj zuh zvl zvb zhc zvh:Value) (zto:Array (Option Value)) (zbu:Addr),(W.nsIn K mainGlobals "BadWay"=some (some (.ref zt)))∧(K.lookup zt=some (excClassObj zuv ztr zt zva zue zfq true zts ztw zuk zvz zup zuw zvp zui zvd zut "ValueError.__new__"))∧(refsT tlV zfq=true)∧(W.findIn K (.ref zt) "__setattr__"=some (some (.builtin "object.__setattr__")))∧(W.subIn K (.ref zt) (.type "BaseException")=some true)∧(W.typeIn K (.ref zt)=some (.type "type"))∧(W.keepIn K (.ref zt)=true)∧(W.findIn K (.ref zt) "__getattribute__"=some (some (.builtin "BaseException.__getattribute__")))∧(W.findIn K (.ref zt) "__getattr__"=some none)∧(W.hasDictIn K zt=true)∧(W.findIn K (.ref zt) "__class__"=some (some (.builtin "object.__class__")))∧(W.specialIn K (.builtin "object.__class__") "__get__"=some (some (.builtin "getset_descriptor.__get__")))∧(W.takesIn K (.builtin "object.__class__")=some true)∧(W.mroIn K zt (.type "object")=some true)∧(W.findIn K (.ref zt) "index"=some none)∧(W.findIn K (.ref zt) "__init__"=some (some (.ref zbk)))∧(W.typeIn K (.ref zbk)=some (.type "function"))∧(K.lookup zbk=some ⟨zuj,zvf,.func (W.fnOf "__init__" "BadWay.__init__" (defArgs (inS 7 0)) (defBody (inS 7 0)) (defScope (inS 7 0)) .none zuh zvl zvb zul zhc zvh),zto⟩)∧(W.codeIn K zhc "BadWay.__init__"=true)∧(W.keepIn K (.ref zbk)=true)∧(W.nsIn K mainGlobals "ShownError"=some (some (.ref zbu)))∧(W.specialIn K (.ref zbu) "__getattribute__"=some (some (.builtin "type.__getattribute__")))∧(W.readsIn K zbu (.type "type")=true)∧(W.findCls K (.ref zbu) (.type "type") "__init__"=some (.val (.builtin "ValueError.__init__")))
abbrev Bz_x_BadShown (K:W.Frag) (zj:Addr):Prop:= ∃ (zao zit:Addr) (zoe zkm:Str) (zju zdv zlj:List Value) (zlm:List Str) (zlp:Bool) (zkr:Option Bool) (zlb zob zlq:Option Addr) (zkc zkl zjy zkg zkw:Option Value) (zml zng zkk ziz zec zoh:Value) (zno:Array (Option Value)) (zay:Addr),(W.nsIn K mainGlobals "BadShown"=some (some (.ref zj)))∧(K.lookup zj=some (excClassObj zoe zkm zj zit zju zdv true zlm zlj zlp zkr zlb zkc zkl zjy zkg zkw "ValueError.__new__"))∧(refsT tlV zdv=true)∧(W.findIn K (.ref zj) "__setattr__"=some (some (.builtin "object.__setattr__")))∧(W.subIn K (.ref zj) (.type "BaseException")=some true)∧(W.typeIn K (.ref zj)=some (.type "type"))∧(W.keepIn K (.ref zj)=true)∧(W.findIn K (.ref zj) "__getattribute__"=some (some (.builtin "BaseException.__getattribute__")))∧(W.findIn K (.ref zj) "__getattr__"=some none)∧(W.hasDictIn K zj=true)∧(W.findIn K (.ref zj) "__class__"=some (some (.builtin "object.__class__")))∧(W.specialIn K (.builtin "object.__class__") "__get__"=some (some (.builtin "getset_descriptor.__get__")))∧(W.takesIn K (.builtin "object.__class__")=some true)∧(W.mroIn K zj (.type "object")=some true)∧(W.findIn K (.ref zj) "what"=some none)∧(W.findIn K (.ref zj) "__init__"=some (some (.ref zao)))∧(W.typeIn K (.ref zao)=some (.type "function"))∧(K.lookup zao=some ⟨zml,zob,.func (W.fnOf "__init__" "BadShown.__init__" (defArgs (inS 8 0)) (defBody (inS 8 0)) (defScope (inS 8 0)) .none zng zkk ziz zlq zec zoh),zno⟩)∧(W.codeIn K zec "BadShown.__init__"=true)∧(W.keepIn K (.ref zao)=true)∧(W.nsIn K mainGlobals "ShownError"=some (some (.ref zay)))∧(W.specialIn K (.ref zay) "__getattribute__"=some (some (.builtin "type.__getattribute__")))∧(W.readsIn K zay (.type "type")=true)∧(W.findCls K (.ref zay) (.type "type") "__init__"=some (.val (.builtin "ValueError.__init__")))
abbrev Bz_x_BadValues (K:W.Frag) (ze:Addr):Prop:= ∃ (zae zhu:Addr) (zhs zhx:Str) (zfv zbz zhj:List Value) (zgg:List Str) (zfu:Bool) (zid:Option Bool) (zie zhg zhq:Option Addr) (zgs zif zgm zft zgq:Option Value) (zhy zic zfx zhb zbq zge:Value) (zgy:Array (Option Value)) (zak:Addr),(W.nsIn K mainGlobals "BadValues"=some (some (.ref ze)))∧(K.lookup ze=some (excClassObj zhs zhx ze zhu zfv zbz true zgg zhj zfu zid zie zgs zif zgm zft zgq "ValueError.__new__"))∧(refsT tlV zbz=true)∧(W.findIn K (.ref ze) "__setattr__"=some (some (.builtin "object.__setattr__")))∧(W.subIn K (.ref ze) (.type "BaseException")=some true)∧(W.typeIn K (.ref ze)=some (.type "type"))∧(W.keepIn K (.ref ze)=true)∧(W.findIn K (.ref ze) "__getattribute__"=some (some (.builtin "BaseException.__getattribute__")))∧(W.findIn K (.ref ze) "__getattr__"=some none)∧(W.hasDictIn K ze=true)∧(W.findIn K (.ref ze) "__class__"=some (some (.builtin "object.__class__")))∧(W.specialIn K (.builtin "object.__class__") "__get__"=some (some (.builtin "getset_descriptor.__get__")))∧(W.takesIn K (.builtin "object.__class__")=some true)∧(W.mroIn K ze (.type "object")=some true)∧(W.findIn K (.ref ze) "count"=some none)∧(W.findIn K (.ref ze) "__init__"=some (some (.ref zae)))∧(W.typeIn K (.ref zae)=some (.type "function"))∧(K.lookup zae=some ⟨zhy,zhg,.func (W.fnOf "__init__" "BadValues.__init__" (defArgs (inS 9 0)) (defBody (inS 9 0)) (defScope (inS 9 0)) .none zic zfx zhb zhq zbq zge),zgy⟩)∧(W.codeIn K zbq "BadValues.__init__"=true)∧(W.keepIn K (.ref zae)=true)∧(W.nsIn K mainGlobals "ShownError"=some (some (.ref zak)))∧(W.specialIn K (.ref zak) "__getattribute__"=some (some (.builtin "type.__getattribute__")))∧(W.readsIn K zak (.type "type")=true)∧(W.findCls K (.ref zak) (.type "type") "__init__"=some (.val (.builtin "ValueError.__init__")))
abbrev Bz_x_BadShape (K:W.Frag) (zl:Addr):Prop:= ∃ (zaf zmw:Addr) (zjg ziv:Str) (zlv zea znm:List Value) (zlo:List Str) (zlt:Bool) (zmt:Option Bool) (zjo zja zkx:Option Addr) (zir zlh zme zmd znj:Option Value) (zlw zkb zjq zje zed zlx:Value) (znr:Array (Option Value)) (zax:Addr),(W.nsIn K mainGlobals "BadShape"=some (some (.ref zl)))∧(K.lookup zl=some (excClassObj zjg ziv zl zmw zlv zea true zlo znm zlt zmt zjo zir zlh zme zmd znj "ValueError.__new__"))∧(refsT tlV zea=true)∧(W.findIn K (.ref zl) "__setattr__"=some (some (.builtin "object.__setattr__")))∧(W.subIn K (.ref zl) (.type "BaseException")=some true)∧(W.typeIn K (.ref zl)=some (.type "type"))∧(W.keepIn K (.ref zl)=true)∧(W.findIn K (.ref zl) "__getattribute__"=some (some (.builtin "BaseException.__getattribute__")))∧(W.findIn K (.ref zl) "__getattr__"=some none)∧(W.hasDictIn K zl=true)∧(W.findIn K (.ref zl) "__class__"=some (some (.builtin "object.__class__")))∧(W.specialIn K (.builtin "object.__class__") "__get__"=some (some (.builtin "getset_descriptor.__get__")))∧(W.takesIn K (.builtin "object.__class__")=some true)∧(W.mroIn K zl (.type "object")=some true)∧(W.findIn K (.ref zl) "part"=some none)∧(W.findIn K (.ref zl) "__init__"=some (some (.ref zaf)))∧(W.typeIn K (.ref zaf)=some (.type "function"))∧(K.lookup zaf=some ⟨zlw,zja,.func (W.fnOf "__init__" "BadShape.__init__" (defArgs (inS 10 0)) (defBody (inS 10 0)) (defScope (inS 10 0)) .none zkb zjq zje zkx zed zlx),znr⟩)∧(W.codeIn K zed "BadShape.__init__"=true)∧(W.keepIn K (.ref zaf)=true)∧(W.nsIn K mainGlobals "ShownError"=some (some (.ref zax)))∧(W.specialIn K (.ref zax) "__getattribute__"=some (some (.builtin "type.__getattribute__")))∧(W.readsIn K zax (.type "type")=true)∧(W.findCls K (.ref zax) (.type "type") "__init__"=some (.val (.builtin "ValueError.__init__")))
abbrev Bz_x_BadMark (K:W.Frag) (zq:Addr):Prop:= ∃ (zaw zou:Addr) (zrx zos:Str) (zql zfe zsq:List Value) (zpb:List Str) (zph:Bool) (zrh:Option Bool) (zrq zpz zsy:Option Addr) (ztn zpg zqj zsg zpd:Option Value) (zsv zrc zry zpm zff ztl:Value) (zpn:Array (Option Value)) (zbm:Addr),(W.nsIn K mainGlobals "BadMark"=some (some (.ref zq)))∧(K.lookup zq=some (excClassObj zrx zos zq zou zql zfe true zpb zsq zph zrh zrq ztn zpg zqj zsg zpd "ValueError.__new__"))∧(refsT tlV zfe=true)∧(W.findIn K (.ref zq) "__setattr__"=some (some (.builtin "object.__setattr__")))∧(W.subIn K (.ref zq) (.type "BaseException")=some true)∧(W.typeIn K (.ref zq)=some (.type "type"))∧(W.keepIn K (.ref zq)=true)∧(W.findIn K (.ref zq) "__getattribute__"=some (some (.builtin "BaseException.__getattribute__")))∧(W.findIn K (.ref zq) "__getattr__"=some none)∧(W.hasDictIn K zq=true)∧(W.findIn K (.ref zq) "__class__"=some (some (.builtin "object.__class__")))∧(W.specialIn K (.builtin "object.__class__") "__get__"=some (some (.builtin "getset_descriptor.__get__")))∧(W.takesIn K (.builtin "object.__class__")=some true)∧(W.mroIn K zq (.type "object")=some true)∧(W.findIn K (.ref zq) "mark"=some none)∧(W.findIn K (.ref zq) "__init__"=some (some (.ref zaw)))∧(W.typeIn K (.ref zaw)=some (.type "function"))∧(K.lookup zaw=some ⟨zsv,zpz,.func (W.fnOf "__init__" "BadMark.__init__" (defArgs (inS 11 0)) (defBody (inS 11 0)) (defScope (inS 11 0)) .none zrc zry zpm zsy zff ztl),zpn⟩)∧(W.codeIn K zff "BadMark.__init__"=true)∧(W.keepIn K (.ref zaw)=true)∧(W.nsIn K mainGlobals "ShownError"=some (some (.ref zbm)))∧(W.specialIn K (.ref zbm) "__getattribute__"=some (some (.builtin "type.__getattribute__")))∧(W.readsIn K zbm (.type "type")=true)∧(W.findCls K (.ref zbm) (.type "type") "__init__"=some (.val (.builtin "ValueError.__init__")))
abbrev Bz_x_BadOption (K:W.Frag) (zf:Addr):Prop:= ∃ (zac zgh:Addr) (zgk zgu:Str) (zgn zbs zfw:List Value) (zhv:List Str) (zfs:Bool) (zgx:Option Bool) (zfn zfo zho:Option Addr) (zfy zgd zib zhe zga:Option Value) (zgv zhk zgl zgb zcn zhh:Value) (zfz:Array (Option Value)) (zal:Addr),(W.nsIn K mainGlobals "BadOption"=some (some (.ref zf)))∧(K.lookup zf=some (excClassObj zgk zgu zf zgh zgn zbs true zhv zfw zfs zgx zfn zfy zgd zib zhe zga "ValueError.__new__"))∧(refsT tlV zbs=true)∧(W.findIn K (.ref zf) "__setattr__"=some (some (.builtin "object.__setattr__")))∧(W.subIn K (.ref zf) (.type "BaseException")=some true)∧(W.typeIn K (.ref zf)=some (.type "type"))∧(W.keepIn K (.ref zf)=true)∧(W.findIn K (.ref zf) "__getattribute__"=some (some (.builtin "BaseException.__getattribute__")))∧(W.findIn K (.ref zf) "__getattr__"=some none)∧(W.hasDictIn K zf=true)∧(W.findIn K (.ref zf) "__class__"=some (some (.builtin "object.__class__")))∧(W.specialIn K (.builtin "object.__class__") "__get__"=some (some (.builtin "getset_descriptor.__get__")))∧(W.takesIn K (.builtin "object.__class__")=some true)∧(W.mroIn K zf (.type "object")=some true)∧(W.findIn K (.ref zf) "option"=some none)∧(W.findIn K (.ref zf) "__init__"=some (some (.ref zac)))∧(W.typeIn K (.ref zac)=some (.type "function"))∧(K.lookup zac=some ⟨zgv,zfo,.func (W.fnOf "__init__" "BadOption.__init__" (defArgs (inS 12 0)) (defBody (inS 12 0)) (defScope (inS 12 0)) .none zhk zgl zgb zho zcn zhh),zfz⟩)∧(W.codeIn K zcn "BadOption.__init__"=true)∧(W.keepIn K (.ref zac)=true)∧(W.nsIn K mainGlobals "ShownError"=some (some (.ref zal)))∧(W.specialIn K (.ref zal) "__getattribute__"=some (some (.builtin "type.__getattribute__")))∧(W.readsIn K zal (.type "type")=true)∧(W.findCls K (.ref zal) (.type "type") "__init__"=some (.val (.builtin "ValueError.__init__")))
abbrev Bz_x_BadWish (K:W.Frag) (zn:Addr):Prop:= ∃ (zbf zso:Addr) (zrg zsw:Str) (zsi zfm ztg:List Value) (zrm:List Str) (zpq:Bool) (zta:Option Bool) (zru zsc zpw:Option Addr) (zqc zrt zrb zpr zsn:Option Value) (zqa zom zpa zpf zfh zqk:Value) (zrp:Array (Option Value)) (zbi:Addr),(W.nsIn K mainGlobals "BadWish"=some (some (.ref zn)))∧(K.lookup zn=some (excClassObj zrg zsw zn zso zsi zfm true zrm ztg zpq zta zru zqc zrt zrb zpr zsn "ValueError.__new__"))∧(refsT tlV zfm=true)∧(W.findIn K (.ref zn) "__setattr__"=some (some (.builtin "object.__setattr__")))∧(W.subIn K (.ref zn) (.type "BaseException")=some true)∧(W.typeIn K (.ref zn)=some (.type "type"))∧(W.keepIn K (.ref zn)=true)∧(W.findIn K (.ref zn) "__getattribute__"=some (some (.builtin "BaseException.__getattribute__")))∧(W.findIn K (.ref zn) "__getattr__"=some none)∧(W.hasDictIn K zn=true)∧(W.findIn K (.ref zn) "__class__"=some (some (.builtin "object.__class__")))∧(W.specialIn K (.builtin "object.__class__") "__get__"=some (some (.builtin "getset_descriptor.__get__")))∧(W.takesIn K (.builtin "object.__class__")=some true)∧(W.mroIn K zn (.type "object")=some true)∧(W.findIn K (.ref zn) "index"=some none)∧(W.findIn K (.ref zn) "__init__"=some (some (.ref zbf)))∧(W.typeIn K (.ref zbf)=some (.type "function"))∧(K.lookup zbf=some ⟨zqa,zsc,.func (W.fnOf "__init__" "BadWish.__init__" (defArgs (inS 13 0)) (defBody (inS 13 0)) (defScope (inS 13 0)) .none zom zpa zpf zpw zfh zqk),zrp⟩)∧(W.codeIn K zfh "BadWish.__init__"=true)∧(W.keepIn K (.ref zbf)=true)∧(W.nsIn K mainGlobals "ShownError"=some (some (.ref zbi)))∧(W.specialIn K (.ref zbi) "__getattribute__"=some (some (.builtin "type.__getattribute__")))∧(W.readsIn K zbi (.type "type")=true)∧(W.findCls K (.ref zbi) (.type "type") "__init__"=some (.val (.builtin "ValueError.__init__")))
abbrev Bz_x_BadTable (K:W.Frag) (zh:Addr):Prop:= ∃ (zam zkz:Addr) (zko zmy:Str) (zly zds zmm:List Value) (zma:List Str) (zjk:Bool) (zod:Option Bool) (ziw zjt zmz:Option Addr) (zjj zil zle zin zmp:Option Value) (zmq znz znp zld zdu zmn:Value) (zki:Array (Option Value)) (zas:Addr),(W.nsIn K mainGlobals "BadTable"=some (some (.ref zh)))∧(K.lookup zh=some (excClassObj zko zmy zh zkz zly zds true zma zmm zjk zod ziw zjj zil zle zin zmp "ValueError.__new__"))∧(refsT tlV zds=true)∧(W.findIn K (.ref zh) "__setattr__"=some (some (.builtin "object.__setattr__")))∧(W.subIn K (.ref zh) (.type "BaseException")=some true)∧(W.typeIn K (.ref zh)=some (.type "type"))∧(W.keepIn K (.ref zh)=true)∧(W.findIn K (.ref zh) "__getattribute__"=some (some (.builtin "BaseException.__getattribute__")))∧(W.findIn K (.ref zh) "__getattr__"=some none)∧(W.hasDictIn K zh=true)∧(W.findIn K (.ref zh) "__class__"=some (some (.builtin "object.__class__")))∧(W.specialIn K (.builtin "object.__class__") "__get__"=some (some (.builtin "getset_descriptor.__get__")))∧(W.takesIn K (.builtin "object.__class__")=some true)∧(W.mroIn K zh (.type "object")=some true)∧(W.findIn K (.ref zh) "which"=some none)∧(W.findIn K (.ref zh) "__init__"=some (some (.ref zam)))∧(W.typeIn K (.ref zam)=some (.type "function"))∧(K.lookup zam=some ⟨zmq,zjt,.func (W.fnOf "__init__" "BadTable.__init__" (defArgs (inS 14 0)) (defBody (inS 14 0)) (defScope (inS 14 0)) .none znz znp zld zmz zdu zmn),zki⟩)∧(W.codeIn K zdu "BadTable.__init__"=true)∧(W.keepIn K (.ref zam)=true)∧(W.nsIn K mainGlobals "ShownError"=some (some (.ref zas)))∧(W.specialIn K (.ref zas) "__getattribute__"=some (some (.builtin "type.__getattribute__")))∧(W.readsIn K zas (.type "type")=true)∧(W.findCls K (.ref zas) (.type "type") "__init__"=some (.val (.builtin "ValueError.__init__")))
abbrev Bz_x_BadFrame (K:W.Frag) (zk:Addr):Prop:= ∃ (zan zmb:Addr) (znn zjx:Str) (zkp zdy zlu:List Value) (zkh:List Str) (zny:Bool) (zmr:Option Bool) (zof znw zmx:Option Addr) (zka zlk ziu zjh zoc:Option Value) (zij zkt zns znu zee znd:Value) (znc:Array (Option Value)) (zbe:Addr),(W.nsIn K mainGlobals "BadFrame"=some (some (.ref zk)))∧(K.lookup zk=some (excClassObj znn zjx zk zmb zkp zdy true zkh zlu zny zmr zof zka zlk ziu zjh zoc "ValueError.__new__"))∧(refsT tlV zdy=true)∧(W.findIn K (.ref zk) "__setattr__"=some (some (.builtin "object.__setattr__")))∧(W.subIn K (.ref zk) (.type "BaseException")=some true)∧(W.typeIn K (.ref zk)=some (.type "type"))∧(W.keepIn K (.ref zk)=true)∧(W.findIn K (.ref zk) "__getattribute__"=some (some (.builtin "BaseException.__getattribute__")))∧(W.findIn K (.ref zk) "__getattr__"=some none)∧(W.hasDictIn K zk=true)∧(W.findIn K (.ref zk) "__class__"=some (some (.builtin "object.__class__")))∧(W.specialIn K (.builtin "object.__class__") "__get__"=some (some (.builtin "getset_descriptor.__get__")))∧(W.takesIn K (.builtin "object.__class__")=some true)∧(W.mroIn K zk (.type "object")=some true)∧(W.findIn K (.ref zk) "frame"=some none)∧(W.findIn K (.ref zk) "__init__"=some (some (.ref zan)))∧(W.typeIn K (.ref zan)=some (.type "function"))∧(K.lookup zan=some ⟨zij,znw,.func (W.fnOf "__init__" "BadFrame.__init__" (defArgs (inS 15 0)) (defBody (inS 15 0)) (defScope (inS 15 0)) .none zkt zns znu zmx zee znd),znc⟩)∧(W.codeIn K zee "BadFrame.__init__"=true)∧(W.keepIn K (.ref zan)=true)∧(W.nsIn K mainGlobals "ShownError"=some (some (.ref zbe)))∧(W.specialIn K (.ref zbe) "__getattribute__"=some (some (.builtin "type.__getattribute__")))∧(W.readsIn K zbe (.type "type")=true)∧(W.findCls K (.ref zbe) (.type "type") "__init__"=some (.val (.builtin "ValueError.__init__")))
abbrev Bz_x_BadText (K:W.Frag) (zr:Addr):Prop:= ∃ (zau zsj:Addr) (zor zrn:Str) (zqh zfi zsz:List Value) (zra:List Str) (zoq:Bool) (zrv:Option Bool) (zqp zsb zqm:Option Addr) (zrd zqb zpu ztj zre:Option Value) (zpv zqe zpx zol zfb zow:Value) (zqn:Array (Option Value)) (zbl:Addr),(W.nsIn K mainGlobals "BadText"=some (some (.ref zr)))∧(K.lookup zr=some (excClassObj zor zrn zr zsj zqh zfi true zra zsz zoq zrv zqp zrd zqb zpu ztj zre "ValueError.__new__"))∧(refsT tlV zfi=true)∧(W.findIn K (.ref zr) "__setattr__"=some (some (.builtin "object.__setattr__")))∧(W.subIn K (.ref zr) (.type "BaseException")=some true)∧(W.typeIn K (.ref zr)=some (.type "type"))∧(W.keepIn K (.ref zr)=true)∧(W.findIn K (.ref zr) "__getattribute__"=some (some (.builtin "BaseException.__getattribute__")))∧(W.findIn K (.ref zr) "__getattr__"=some none)∧(W.hasDictIn K zr=true)∧(W.findIn K (.ref zr) "__class__"=some (some (.builtin "object.__class__")))∧(W.specialIn K (.builtin "object.__class__") "__get__"=some (some (.builtin "getset_descriptor.__get__")))∧(W.takesIn K (.builtin "object.__class__")=some true)∧(W.mroIn K zr (.type "object")=some true)∧(W.findIn K (.ref zr) "line"=some none)∧(W.findIn K (.ref zr) "__init__"=some (some (.ref zau)))∧(W.typeIn K (.ref zau)=some (.type "function"))∧(K.lookup zau=some ⟨zpv,zsb,.func (W.fnOf "__init__" "BadText.__init__" (defArgs (inS 16 0)) (defBody (inS 16 0)) (defScope (inS 16 0)) .none zqe zpx zol zqm zfb zow),zqn⟩)∧(W.codeIn K zfb "BadText.__init__"=true)∧(W.keepIn K (.ref zau)=true)∧(W.nsIn K mainGlobals "ShownError"=some (some (.ref zbl)))∧(W.specialIn K (.ref zbl) "__getattribute__"=some (some (.builtin "type.__getattribute__")))∧(W.readsIn K zbl (.type "type")=true)∧(W.findCls K (.ref zbl) (.type "type") "__init__"=some (.val (.builtin "ValueError.__init__")))
abbrev Bz_x_BadLine (K:W.Frag) (zo:Addr):Prop:= ∃ (zbb zoz:Addr) (zsh zox:Str) (zpe zfl zsr:List Value) (zrk:List Str) (zpp:Bool) (zqg:Option Bool) (zqd zpy ztm:Option Addr) (zqz zsp zsm zsa zpk:Option Value) (zpl zok zsd ztk zfg zqo:Value) (zqf:Array (Option Value)) (zbj:Addr),(W.nsIn K mainGlobals "BadLine"=some (some (.ref zo)))∧(K.lookup zo=some (excClassObj zsh zox zo zoz zpe zfl true zrk zsr zpp zqg zqd zqz zsp zsm zsa zpk "ValueError.__new__"))∧(refsT tlV zfl=true)∧(W.findIn K (.ref zo) "__setattr__"=some (some (.builtin "object.__setattr__")))∧(W.subIn K (.ref zo) (.type "BaseException")=some true)∧(W.typeIn K (.ref zo)=some (.type "type"))∧(W.keepIn K (.ref zo)=true)∧(W.findIn K (.ref zo) "__getattribute__"=some (some (.builtin "BaseException.__getattribute__")))∧(W.findIn K (.ref zo) "__getattr__"=some none)∧(W.hasDictIn K zo=true)∧(W.findIn K (.ref zo) "__class__"=some (some (.builtin "object.__class__")))∧(W.specialIn K (.builtin "object.__class__") "__get__"=some (some (.builtin "getset_descriptor.__get__")))∧(W.takesIn K (.builtin "object.__class__")=some true)∧(W.mroIn K zo (.type "object")=some true)∧(W.findIn K (.ref zo) "line"=some none)∧(W.findIn K (.ref zo) "__init__"=some (some (.ref zbb)))∧(W.typeIn K (.ref zbb)=some (.type "function"))∧(K.lookup zbb=some ⟨zpl,zpy,.func (W.fnOf "__init__" "BadLine.__init__" (defArgs (inS 17 0)) (defBody (inS 17 0)) (defScope (inS 17 0)) .none zok zsd ztk ztm zfg zqo),zqf⟩)∧(W.codeIn K zfg "BadLine.__init__"=true)∧(W.keepIn K (.ref zbb)=true)∧(W.nsIn K mainGlobals "ShownError"=some (some (.ref zbj)))∧(W.specialIn K (.ref zbj) "__getattribute__"=some (some (.builtin "type.__getattribute__")))∧(W.readsIn K zbj (.type "type")=true)∧(W.findCls K (.ref zbj) (.type "type") "__init__"=some (.val (.builtin "ValueError.__init__")))
abbrev Bz_x_BadTruth (K:W.Frag) (zg:Addr):Prop:= ∃ (zah zmf:Addr) (zmh zjv:Str) (zog zdt zji:List Value) (zls:List Str) (zjp:Bool) (zlg:Option Bool) (znt zli zjf:Option Addr) (znx zkv znb zni zkf:Option Value) (zjs znv zmo zoa zdz zlz:Value) (zjd:Array (Option Value)) (zbd:Addr),(W.nsIn K mainGlobals "BadTruth"=some (some (.ref zg)))∧(K.lookup zg=some (excClassObj zmh zjv zg zmf zog zdt true zls zji zjp zlg znt znx zkv znb zni zkf "ValueError.__new__"))∧(refsT tlV zdt=true)∧(W.findIn K (.ref zg) "__setattr__"=some (some (.builtin "object.__setattr__")))∧(W.subIn K (.ref zg) (.type "BaseException")=some true)∧(W.typeIn K (.ref zg)=some (.type "type"))∧(W.keepIn K (.ref zg)=true)∧(W.findIn K (.ref zg) "__getattribute__"=some (some (.builtin "BaseException.__getattribute__")))∧(W.findIn K (.ref zg) "__getattr__"=some none)∧(W.hasDictIn K zg=true)∧(W.findIn K (.ref zg) "__class__"=some (some (.builtin "object.__class__")))∧(W.specialIn K (.builtin "object.__class__") "__get__"=some (some (.builtin "getset_descriptor.__get__")))∧(W.takesIn K (.builtin "object.__class__")=some true)∧(W.mroIn K zg (.type "object")=some true)∧(W.findIn K (.ref zg) "truth"=some none)∧(W.findIn K (.ref zg) "__init__"=some (some (.ref zah)))∧(W.typeIn K (.ref zah)=some (.type "function"))∧(K.lookup zah=some ⟨zjs,zli,.func (W.fnOf "__init__" "BadTruth.__init__" (defArgs (inS 18 0)) (defBody (inS 18 0)) (defScope (inS 18 0)) .none znv zmo zoa zjf zdz zlz),zjd⟩)∧(W.codeIn K zdz "BadTruth.__init__"=true)∧(W.keepIn K (.ref zah)=true)∧(W.nsIn K mainGlobals "ShownError"=some (some (.ref zbd)))∧(W.specialIn K (.ref zbd) "__getattribute__"=some (some (.builtin "type.__getattribute__")))∧(W.readsIn K zbd (.type "type")=true)∧(W.findCls K (.ref zbd) (.type "type") "__init__"=some (.val (.builtin "ValueError.__init__")))
abbrev Bz_x_Untrue (K:W.Frag) (zv:Addr):Prop:= ∃ (zbp zvk:Addr) (ztx zug:Str) (zvy zhn zvg:List Value) (zur:List Str) (ztu:Bool) (ztp:Option Bool) (zuy zus zun:Option Addr) (ztt zwe zvx zvv zvo:Option Value) (zve zuf zua zvm zgo zux:Value) (zvq:Array (Option Value)) (zbw:Addr),(W.nsIn K mainGlobals "Untrue"=some (some (.ref zv)))∧(K.lookup zv=some (excClassObj ztx zug zv zvk zvy zhn true zur zvg ztu ztp zuy ztt zwe zvx zvv zvo "ValueError.__new__"))∧(refsT tlV zhn=true)∧(W.findIn K (.ref zv) "__setattr__"=some (some (.builtin "object.__setattr__")))∧(W.subIn K (.ref zv) (.type "BaseException")=some true)∧(W.typeIn K (.ref zv)=some (.type "type"))∧(W.keepIn K (.ref zv)=true)∧(W.findIn K (.ref zv) "__getattribute__"=some (some (.builtin "BaseException.__getattribute__")))∧(W.findIn K (.ref zv) "__getattr__"=some none)∧(W.hasDictIn K zv=true)∧(W.findIn K (.ref zv) "__class__"=some (some (.builtin "object.__class__")))∧(W.specialIn K (.builtin "object.__class__") "__get__"=some (some (.builtin "getset_descriptor.__get__")))∧(W.takesIn K (.builtin "object.__class__")=some true)∧(W.mroIn K zv (.type "object")=some true)∧(W.findIn K (.ref zv) "what"=some none)∧(W.findIn K (.ref zv) "__init__"=some (some (.ref zbp)))∧(W.typeIn K (.ref zbp)=some (.type "function"))∧(K.lookup zbp=some ⟨zve,zus,.func (W.fnOf "__init__" "Untrue.__init__" (defArgs (inS 19 0)) (defBody (inS 19 0)) (defScope (inS 19 0)) .none zuf zua zvm zun zgo zux),zvq⟩)∧(W.codeIn K zgo "Untrue.__init__"=true)∧(W.keepIn K (.ref zbp)=true)∧(W.nsIn K mainGlobals "ShownError"=some (some (.ref zbw)))∧(W.specialIn K (.ref zbw) "__getattribute__"=some (some (.builtin "type.__getattribute__")))∧(W.readsIn K zbw (.type "type")=true)∧(W.findCls K (.ref zbw) (.type "type") "__init__"=some (.val (.builtin "ValueError.__init__")))
abbrev Bz_x_UnknownBlock (K:W.Frag) (zb:Addr):Prop:= ∃ (zaa zdi:Addr) (zdd zdf:Str) (zdb zbc zcz:List Value) (zda:List Str) (zdm:Bool) (zcy:Option Bool) (zdo zcv zde:Option Addr) (zdp zdg zdh zdc zdn:Option Value) (zcw zdq zdk zdl zav zcx:Value) (zdj:Array (Option Value)),(W.nsIn K mainGlobals "UnknownBlock"=some (some (.ref zb)))∧(K.lookup zb=some (excClassObj zdd zdf zb zdi zdb zbc true zda zcz zdm zcy zdo zdp zdg zdh zdc zdn "LookupError.__new__"))∧(refsT tlK zbc=true)∧(W.findIn K (.ref zb) "__setattr__"=some (some (.builtin "object.__setattr__")))∧(W.subIn K (.ref zb) (.type "BaseException")=some true)∧(W.typeIn K (.ref zb)=some (.type "type"))∧(W.keepIn K (.ref zb)=true)∧(W.findIn K (.ref zb) "__getattribute__"=some (some (.builtin "BaseException.__getattribute__")))∧(W.findIn K (.ref zb) "__getattr__"=some none)∧(W.hasDictIn K zb=true)∧(W.findIn K (.ref zb) "__class__"=some (some (.builtin "object.__class__")))∧(W.specialIn K (.builtin "object.__class__") "__get__"=some (some (.builtin "getset_descriptor.__get__")))∧(W.takesIn K (.builtin "object.__class__")=some true)∧(W.mroIn K zb (.type "object")=some true)∧(W.findIn K (.ref zb) "block"=some none)∧(W.findIn K (.ref zb) "__init__"=some (some (.ref zaa)))∧(W.typeIn K (.ref zaa)=some (.type "function"))∧(K.lookup zaa=some ⟨zcw,zcv,.func (W.fnOf "__init__" "UnknownBlock.__init__" (defArgs (inS 20 0)) (defBody (inS 20 0)) (defScope (inS 20 0)) .none zdq zdk zdl zde zav zcx),zdj⟩)∧(W.codeIn K zav "UnknownBlock.__init__"=true)∧(W.keepIn K (.ref zaa)=true)∧(W.nsIn K mainGlobals "KeyError"=some none)∧(W.findCls K (.type "KeyError") (.type "type") "__init__"=some (.val (.builtin "KeyError.__init__")))
abbrev Bz_x_UnknownName (K:W.Frag) (zc:Addr):Prop:= ∃ (zab zer:Addr) (zfa zen:Str) (zes zbg zeu:List Value) (zev:List Str) (zey:Bool) (zew:Option Bool) (zei zep zex:Option Addr) (zeo zem zet zeh zeq:Option Value) (zej zel zek zez zbh zeg:Value) (zef:Array (Option Value)),(W.nsIn K mainGlobals "UnknownName"=some (some (.ref zc)))∧(K.lookup zc=some (excClassObj zfa zen zc zer zes zbg true zev zeu zey zew zei zeo zem zet zeh zeq "LookupError.__new__"))∧(refsT tlK zbg=true)∧(W.findIn K (.ref zc) "__setattr__"=some (some (.builtin "object.__setattr__")))∧(W.subIn K (.ref zc) (.type "BaseException")=some true)∧(W.typeIn K (.ref zc)=some (.type "type"))∧(W.keepIn K (.ref zc)=true)∧(W.findIn K (.ref zc) "__getattribute__"=some (some (.builtin "BaseException.__getattribute__")))∧(W.findIn K (.ref zc) "__getattr__"=some none)∧(W.hasDictIn K zc=true)∧(W.findIn K (.ref zc) "__class__"=some (some (.builtin "object.__class__")))∧(W.specialIn K (.builtin "object.__class__") "__get__"=some (some (.builtin "getset_descriptor.__get__")))∧(W.takesIn K (.builtin "object.__class__")=some true)∧(W.mroIn K zc (.type "object")=some true)∧(W.findIn K (.ref zc) "name"=some none)∧(W.findIn K (.ref zc) "__init__"=some (some (.ref zab)))∧(W.typeIn K (.ref zab)=some (.type "function"))∧(K.lookup zab=some ⟨zej,zep,.func (W.fnOf "__init__" "UnknownName.__init__" (defArgs (inS 21 0)) (defBody (inS 21 0)) (defScope (inS 21 0)) .none zel zek zez zex zbh zeg),zef⟩)∧(W.codeIn K zbh "UnknownName.__init__"=true)∧(W.keepIn K (.ref zab)=true)∧(W.nsIn K mainGlobals "KeyError"=some none)∧(W.findCls K (.type "KeyError") (.type "type") "__init__"=some (.val (.builtin "KeyError.__init__")))
abbrev Bz_x_TooMany (K:W.Frag) (zs:Addr):Prop:= ∃ (zar zri:Addr) (zoo zqs:Str) (ztf zfk zqx:List Value) (zsu:List Str) (zqy:Bool) (zqq:Option Bool) (zti zpc zrs:Option Addr) (zth zrw zqv zqt zrl:Option Value) (zov zop ztd zrf zfc zot:Value) (zst:Array (Option Value)),(W.nsIn K mainGlobals "TooMany"=some (some (.ref zs)))∧(K.lookup zs=some (excClassObj zoo zqs zs zri ztf zfk true zsu zqx zqy zqq zti zth zrw zqv zqt zrl "OverflowError.__new__"))∧(refsT tlO zfk=true)∧(W.findIn K (.ref zs) "__setattr__"=some (some (.builtin "object.__setattr__")))∧(W.subIn K (.ref zs) (.type "BaseException")=some true)∧(W.typeIn K (.ref zs)=some (.type "type"))∧(W.keepIn K (.ref zs)=true)∧(W.findIn K (.ref zs) "__getattribute__"=some (some (.builtin "BaseException.__getattribute__")))∧(W.findIn K (.ref zs) "__getattr__"=some none)∧(W.hasDictIn K zs=true)∧(W.findIn K (.ref zs) "__class__"=some (some (.builtin "object.__class__")))∧(W.specialIn K (.builtin "object.__class__") "__get__"=some (some (.builtin "getset_descriptor.__get__")))∧(W.takesIn K (.builtin "object.__class__")=some true)∧(W.mroIn K zs (.type "object")=some true)∧(W.findIn K (.ref zs) "limit"=some none)∧(W.findIn K (.ref zs) "__init__"=some (some (.ref zar)))∧(W.typeIn K (.ref zar)=some (.type "function"))∧(K.lookup zar=some ⟨zov,zpc,.func (W.fnOf "__init__" "TooMany.__init__" (defArgs (inS 22 0)) (defBody (inS 22 0)) (defScope (inS 22 0)) .none zop ztd zrf zrs zfc zot),zst⟩)∧(W.codeIn K zfc "TooMany.__init__"=true)∧(W.keepIn K (.ref zar)=true)∧(W.nsIn K mainGlobals "OverflowError"=some none)∧(W.findCls K (.type "OverflowError") (.type "type") "__init__"=some (.val (.builtin "OverflowError.__init__")))
abbrev Bz_x_NothingToUndo (K:W.Frag) (za:Addr):Prop:= ∃ (zz zcg:Addr) (zct zcj:Str) (zcb zap zcd:List Value) (zcu:List Str) (zcp:Bool) (zbr:Option Bool) (zco zch zby:Option Addr) (zbt zcr zck zcc zca:Option Value) (zbv zci zce zcq zaq zcl:Value) (zbx:Array (Option Value)),(W.nsIn K mainGlobals "NothingToUndo"=some (some (.ref za)))∧(K.lookup za=some (excClassObj zct zcj za zcg zcb zap true zcu zcd zcp zbr zco zbt zcr zck zcc zca "RuntimeError.__new__"))∧(refsT tlR zap=true)∧(W.findIn K (.ref za) "__setattr__"=some (some (.builtin "object.__setattr__")))∧(W.subIn K (.ref za) (.type "BaseException")=some true)∧(W.typeIn K (.ref za)=some (.type "type"))∧(W.keepIn K (.ref za)=true)∧(W.findIn K (.ref za) "__getattribute__"=some (some (.builtin "BaseException.__getattribute__")))∧(W.findIn K (.ref za) "__getattr__"=some none)∧(W.hasDictIn K za=true)∧(W.findIn K (.ref za) "__class__"=some (some (.builtin "object.__class__")))∧(W.specialIn K (.builtin "object.__class__") "__get__"=some (some (.builtin "getset_descriptor.__get__")))∧(W.takesIn K (.builtin "object.__class__")=some true)∧(W.mroIn K za (.type "object")=some true)∧(W.findIn K (.ref za) "name"=some none)∧(W.findIn K (.ref za) "__init__"=some (some (.ref zz)))∧(W.typeIn K (.ref zz)=some (.type "function"))∧(K.lookup zz=some ⟨zbv,zch,.func (W.fnOf "__init__" "NothingToUndo.__init__" (defArgs (inS 23 0)) (defBody (inS 23 0)) (defScope (inS 23 0)) .none zci zce zcq zby zaq zcl),zbx⟩)∧(W.codeIn K zaq "NothingToUndo.__init__"=true)∧(W.keepIn K (.ref zz)=true)∧(W.nsIn K mainGlobals "RuntimeError"=some none)∧(W.findCls K (.type "RuntimeError") (.type "type") "__init__"=some (.val (.builtin "RuntimeError.__init__")))
theorem fmc_ {α:Type} {p:α→Prop} {a:α} {l:List α} (h:p a∧∀ x∈l,p x): ∀ x∈a::l,p x:=List.forall_mem_cons.mpr h
theorem DD0 {w:World} {K:W.Frag} {zx zy:List (Str×Addr)} {zw:List (Str×Addr×Str)} {a0:Addr} {od0 an0:Option Addr} {sl0:Array (Option Value)} {oc0 kV0 dc0 pm0 cd0 ct0:Value} (l0:K.lookup a0=some ⟨oc0,od0,.func (W.fnOf "_law_pool" "_law_pool" (defArgs (topS 25)) (defBody (topS 25)) (defScope (topS 25)) .none kV0 dc0 pm0 an0 cd0 ct0),sl0⟩) (c0:W.codeIn K cd0 "_law_pool"=true):DefAt (geOf K zx zy zw false w) pd tab "_law_pool" a0 (W.fnOf "_law_pool" "_law_pool" (defArgs (topS 25)) (defBody (topS 25)) (defScope (topS 25)) .none kV0 dc0 pm0 an0 cd0 ct0) (mkP (topS 25)):=by
  have h0:shpOf shp "_law_pool"=[((2:Nat),([]:List Str))]:=by decide+kernel
  have b0:=bs_one (G:=(geOf K zx zy zw false w)) (K:=K) h0 (bs_all (m:=m_law_pool) (df:=[]) (N:=mkN (topS 25)) (ps:=mkP (topS 25)) (by kernel_rfl) fun s us KI hl=>BindsTo.of_eq (match us,hl with|[_,_],_=>rfl:bindArgs (W.fnOf "_law_pool" "_law_pool" (defArgs (topS 25)) (defBody (topS 25)) (defScope (topS 25)) .none kV0 dc0 pm0 an0 cd0 ct0) ⟨us,[]⟩=pure ((mkP (topS 25)).zip us)))
  exact def_mk (G:=(geOf K zx zy zw false w)) (pd:=pd) (tab:=tab) (f:="_law_pool") (funA_mk (st:=(topS 25)) l0 c0) (by decide+kernel) (by rw [u_law_pool,n_law_pool];rfl) (by kernel_rfl) t_law_pool b0
theorem DD1 {w:World} {K:W.Frag} {zx zy:List (Str×Addr)} {zw:List (Str×Addr×Str)} {a1:Addr} {od1 an1:Option Addr} {sl1:Array (Option Value)} {oc1 kV1 dc1 pm1 cd1 ct1:Value} (l1:K.lookup a1=some ⟨oc1,od1,.func (W.fnOf "_law_draw" "_law_draw" (defArgs (topS 26)) (defBody (topS 26)) (defScope (topS 26)) .none kV1 dc1 pm1 an1 cd1 ct1),sl1⟩) (c1:W.codeIn K cd1 "_law_draw"=true):DefAt (geOf K zx zy zw false w) pd tab "_law_draw" a1 (W.fnOf "_law_draw" "_law_draw" (defArgs (topS 26)) (defBody (topS 26)) (defScope (topS 26)) .none kV1 dc1 pm1 an1 cd1 ct1) (mkP (topS 26)):=by
  have h1:shpOf shp "_law_draw"=[((2:Nat),([]:List Str))]:=by decide+kernel
  have b1:=bs_one (G:=(geOf K zx zy zw false w)) (K:=K) h1 (bs_all (m:=m_law_draw) (df:=[]) (N:=mkN (topS 26)) (ps:=mkP (topS 26)) (by kernel_rfl) fun s us KI hl=>BindsTo.of_eq (match us,hl with|[_,_],_=>rfl:bindArgs (W.fnOf "_law_draw" "_law_draw" (defArgs (topS 26)) (defBody (topS 26)) (defScope (topS 26)) .none kV1 dc1 pm1 an1 cd1 ct1) ⟨us,[]⟩=pure ((mkP (topS 26)).zip us)))
  exact def_mk (G:=(geOf K zx zy zw false w)) (pd:=pd) (tab:=tab) (f:="_law_draw") (funA_mk (st:=(topS 26)) l1 c1) (by decide+kernel) (by rw [u_law_draw,n_law_draw];rfl) (by kernel_rfl) t_law_draw b1
theorem DD2 {w:World} {K:W.Frag} {zx zy:List (Str×Addr)} {zw:List (Str×Addr×Str)} {a2:Addr} {od2 an2:Option Addr} {sl2:Array (Option Value)} {oc2 kV2 dc2 pm2 cd2 ct2:Value} (l2:K.lookup a2=some ⟨oc2,od2,.func (W.fnOf "_law_told" "_law_told" (defArgs (topS 28)) (defBody (topS 28)) (defScope (topS 28)) .none kV2 dc2 pm2 an2 cd2 ct2),sl2⟩) (c2:W.codeIn K cd2 "_law_told"=true):DefAt (geOf K zx zy zw false w) pd tab "_law_told" a2 (W.fnOf "_law_told" "_law_told" (defArgs (topS 28)) (defBody (topS 28)) (defScope (topS 28)) .none kV2 dc2 pm2 an2 cd2 ct2) (mkP (topS 28)):=by
  have h2:shpOf shp "_law_told"=[((1:Nat),([]:List Str))]:=by decide+kernel
  have b2:=bs_one (G:=(geOf K zx zy zw false w)) (K:=K) h2 (bs_all (m:=m_law_told) (df:=[]) (N:=mkN (topS 28)) (ps:=mkP (topS 28)) (by kernel_rfl) fun s us KI hl=>BindsTo.of_eq (match us,hl with|[_],_=>rfl:bindArgs (W.fnOf "_law_told" "_law_told" (defArgs (topS 28)) (defBody (topS 28)) (defScope (topS 28)) .none kV2 dc2 pm2 an2 cd2 ct2) ⟨us,[]⟩=pure ((mkP (topS 28)).zip us)))
  exact def_mk (G:=(geOf K zx zy zw false w)) (pd:=pd) (tab:=tab) (f:="_law_told") (funA_mk (st:=(topS 28)) l2 c2) (by decide+kernel) (by rw [u_law_told,n_law_told];rfl) (by kernel_rfl) t_law_told b2
theorem DD3 {w:World} {K:W.Frag} {zx zy:List (Str×Addr)} {zw:List (Str×Addr×Str)} {a3:Addr} {od3 an3:Option Addr} {sl3:Array (Option Value)} {oc3 kV3 dc3 pm3 cd3 ct3:Value} (l3:K.lookup a3=some ⟨oc3,od3,.func (W.fnOf "_law_later" "_law_later" (defArgs (topS 29)) (defBody (topS 29)) (defScope (topS 29)) .none kV3 dc3 pm3 an3 cd3 ct3),sl3⟩) (c3:W.codeIn K cd3 "_law_later"=true):DefAt (geOf K zx zy zw false w) pd tab "_law_later" a3 (W.fnOf "_law_later" "_law_later" (defArgs (topS 29)) (defBody (topS 29)) (defScope (topS 29)) .none kV3 dc3 pm3 an3 cd3 ct3) (mkP (topS 29)):=by
  have h3:shpOf shp "_law_later"=[((1:Nat),([]:List Str))]:=by decide+kernel
  have b3:=bs_one (G:=(geOf K zx zy zw false w)) (K:=K) h3 (bs_all (m:=m_law_later) (df:=[]) (N:=mkN (topS 29)) (ps:=mkP (topS 29)) (by kernel_rfl) fun s us KI hl=>BindsTo.of_eq (match us,hl with|[_],_=>rfl:bindArgs (W.fnOf "_law_later" "_law_later" (defArgs (topS 29)) (defBody (topS 29)) (defScope (topS 29)) .none kV3 dc3 pm3 an3 cd3 ct3) ⟨us,[]⟩=pure ((mkP (topS 29)).zip us)))
  exact def_mk (G:=(geOf K zx zy zw false w)) (pd:=pd) (tab:=tab) (f:="_law_later") (funA_mk (st:=(topS 29)) l3 c3) (by decide+kernel) (by rw [u_law_later,n_law_later];rfl) (by kernel_rfl) t_law_later b3
theorem DD4 {w:World} {K:W.Frag} {zx zy:List (Str×Addr)} {zw:List (Str×Addr×Str)} {a4:Addr} {od4 an4:Option Addr} {sl4:Array (Option Value)} {oc4 kV4 dc4 pm4 cd4 ct4:Value} (l4:K.lookup a4=some ⟨oc4,od4,.func (W.fnOf "_law_mixed" "_law_mixed" (defArgs (topS 30)) (defBody (topS 30)) (defScope (topS 30)) .none kV4 dc4 pm4 an4 cd4 ct4),sl4⟩) (c4:W.codeIn K cd4 "_law_mixed"=true):DefAt (geOf K zx zy zw false w) pd tab "_law_mixed" a4 (W.fnOf "_law_mixed" "_law_mixed" (defArgs (topS 30)) (defBody (topS 30)) (defScope (topS 30)) .none kV4 dc4 pm4 an4 cd4 ct4) (mkP (topS 30)):=by
  have h4:shpOf shp "_law_mixed"=[((1:Nat),([]:List Str))]:=by decide+kernel
  have b4:=bs_one (G:=(geOf K zx zy zw false w)) (K:=K) h4 (bs_all (m:=m_law_mixed) (df:=[]) (N:=mkN (topS 30)) (ps:=mkP (topS 30)) (by kernel_rfl) fun s us KI hl=>BindsTo.of_eq (match us,hl with|[_],_=>rfl:bindArgs (W.fnOf "_law_mixed" "_law_mixed" (defArgs (topS 30)) (defBody (topS 30)) (defScope (topS 30)) .none kV4 dc4 pm4 an4 cd4 ct4) ⟨us,[]⟩=pure ((mkP (topS 30)).zip us)))
  exact def_mk (G:=(geOf K zx zy zw false w)) (pd:=pd) (tab:=tab) (f:="_law_mixed") (funA_mk (st:=(topS 30)) l4 c4) (by decide+kernel) (by rw [u_law_mixed,n_law_mixed];rfl) (by kernel_rfl) t_law_mixed b4
theorem DD5 {w:World} {K:W.Frag} {zx zy:List (Str×Addr)} {zw:List (Str×Addr×Str)} {fa:Addr} {od5 an5:Option Addr} {sl5:Array (Option Value)} {oc5 kV5 dc5 pm5 cd5 ct5:Value} (l5:K.lookup fa=some ⟨oc5,od5,.func (W.fnOf "law" "law" (defArgs (topS 31)) (defBody (topS 31)) (defScope (topS 31)) .none kV5 dc5 pm5 an5 cd5 ct5),sl5⟩) (c5:W.codeIn K cd5 "law"=true):DefAt (geOf K zx zy zw false w) pd tab "law" fa (W.fnOf "law" "law" (defArgs (topS 31)) (defBody (topS 31)) (defScope (topS 31)) .none kV5 dc5 pm5 an5 cd5 ct5) (mkP (topS 31)):=by
  have h5:shpOf shp "law"=[((1:Nat),([]:List Str))]:=by decide+kernel
  have b5:=bs_one (G:=(geOf K zx zy zw false w)) (K:=K) h5 (bs_all (m:=m_law) (df:=[]) (N:=mkN (topS 31)) (ps:=mkP (topS 31)) (by kernel_rfl) fun s us KI hl=>BindsTo.of_eq (match us,hl with|[_],_=>rfl:bindArgs (W.fnOf "law" "law" (defArgs (topS 31)) (defBody (topS 31)) (defScope (topS 31)) .none kV5 dc5 pm5 an5 cd5 ct5) ⟨us,[]⟩=pure ((mkP (topS 31)).zip us)))
  exact def_mk (G:=(geOf K zx zy zw false w)) (pd:=pd) (tab:=tab) (f:="law") (funA_mk (st:=(topS 31)) l5 c5) (by decide+kernel) (by rw [u_law,n_law];rfl) (by kernel_rfl) t_law b5
theorem all_mk {l:W.OpenLaw} {w:World} {K:W.Frag} {h:Heap} {mg:Str→Option Value} {fa fa0:Addr} (X:K.In h) (G:h.Ns mainGlobals mg) (hfa:mg "law"=some (.ref fa0)) {zu zm zi zd zp zt zj ze zl zq zf zn zh zk zr zo zg zv zb zc zs za:Addr}
    (B_d0:Bz_d0 K)
    (B_d1:Bz_d1 K)
    (B_d2:Bz_d2 K)
    (B_d3:Bz_d3 K)
    (B_d4:Bz_d4 K)
    (B_d5:Bz_d5 K fa)
    (zyv:Bz_x_BadRow K zu)
    (zxa:Bz_x_BadBlock K zm)
    (zww:Bz_x_BadInput K zi)
    (zwi:Bz_x_BadLabels K zd)
    (zxg:Bz_x_BadStop K zp)
    (zyt:Bz_x_BadWay K zt)
    (zwu:Bz_x_BadShown K zj)
    (zwk:Bz_x_BadValues K ze)
    (zwo:Bz_x_BadShape K zl)
    (zxm:Bz_x_BadMark K zq)
    (zwm:Bz_x_BadOption K zf)
    (zxi:Bz_x_BadWish K zn)
    (zwt:Bz_x_BadTable K zh)
    (zwq:Bz_x_BadFrame K zk)
    (zxe:Bz_x_BadText K zr)
    (zxf:Bz_x_BadLine K zo)
    (zwp:Bz_x_BadTruth K zg)
    (zyw:Bz_x_Untrue K zv)
    (zoj:Bz_x_UnknownBlock K zb)
    (zpo:Bz_x_UnknownName K zc)
    (zxc:Bz_x_TooMany K zs)
    (zii:Bz_x_NothingToUndo K za)
    (zys:Bz_s_BadRow K zu zm zi zd zp zt zj ze zl zq zf zn zh zk zr zo zg zv zb zc zs za)
    (zxb:Bz_s_BadBlock K zu zm zi zd zp zt zj ze zl zq zf zn zh zk zr zo zg zv zb zc zs za)
    (zwz:Bz_s_BadInput K zu zm zi zd zp zt zj ze zl zq zf zn zh zk zr zo zg zv zb zc zs za)
    (zwn:Bz_s_BadLabels K zu zm zi zd zp zt zj ze zl zq zf zn zh zk zr zo zg zv zb zc zs za)
    (zxj:Bz_s_BadStop K zu zm zi zd zp zt zj ze zl zq zf zn zh zk zr zo zg zv zb zc zs za)
    (zyx:Bz_s_BadWay K zu zm zi zd zp zt zj ze zl zq zf zn zh zk zr zo zg zv zb zc zs za)
    (zwy:Bz_s_BadShown K zu zm zi zd zp zt zj ze zl zq zf zn zh zk zr zo zg zv zb zc zs za)
    (zwl:Bz_s_BadValues K zu zm zi zd zp zt zj ze zl zq zf zn zh zk zr zo zg zv zb zc zs za)
    (zwx:Bz_s_BadShape K zu zm zi zd zp zt zj ze zl zq zf zn zh zk zr zo zg zv zb zc zs za)
    (zxk:Bz_s_BadMark K zu zm zi zd zp zt zj ze zl zq zf zn zh zk zr zo zg zv zb zc zs za)
    (zwj:Bz_s_BadOption K zu zm zi zd zp zt zj ze zl zq zf zn zh zk zr zo zg zv zb zc zs za)
    (zxd:Bz_s_BadWish K zu zm zi zd zp zt zj ze zl zq zf zn zh zk zr zo zg zv zb zc zs za)
    (zws:Bz_s_BadTable K zu zm zi zd zp zt zj ze zl zq zf zn zh zk zr zo zg zv zb zc zs za)
    (zwv:Bz_s_BadFrame K zu zm zi zd zp zt zj ze zl zq zf zn zh zk zr zo zg zv zb zc zs za)
    (zxl:Bz_s_BadText K zu zm zi zd zp zt zj ze zl zq zf zn zh zk zr zo zg zv zb zc zs za)
    (zxh:Bz_s_BadLine K zu zm zi zd zp zt zj ze zl zq zf zn zh zk zr zo zg zv zb zc zs za)
    (zwr:Bz_s_BadTruth K zu zm zi zd zp zt zj ze zl zq zf zn zh zk zr zo zg zv zb zc zs za)
    (zyu:Bz_s_Untrue K zu zm zi zd zp zt zj ze zl zq zf zn zh zk zr zo zg zv zb zc zs za)
    (zoi:Bz_s_UnknownBlock K zu zm zi zd zp zt zj ze zl zq zf zn zh zk zr zo zg zv zb zc zs za)
    (zte:Bz_s_UnknownName K zu zm zi zd zp zt zj ze zl zq zf zn zh zk zr zo zg zv zb zc zs za)
    (zxn:Bz_s_TooMany K zu zm zi zd zp zt zj ze zl zq zf zn zh zk zr zo zg zv zb zc zs za)
    (zih:Bz_s_NothingToUndo K zu zm zi zd zp zt zj ze zl zq zf zn zh zk zr zo zg zv zb zc zs za)
    (B_i0:Bz_i0 K zu)
    (B_i1:Bz_i1 K zm)
    (B_i2:Bz_i2 K zi)
    (B_i3:Bz_i3 K zt)
    (B_i4:Bz_i4 K zd)
    (B_i5:Bz_i5 K zp)
    (B_i6:Bz_i6 K zj)
    (B_i7:Bz_i7 K ze)
    (B_i8:Bz_i8 K zl)
    (B_i9:Bz_i9 K zq)
    (zabi:Bz_i10 K zf)
    (zaai:Bz_i11 K zn)
    (zaaz:Bz_i12 K zh)
    (zabo:Bz_i13 K zk)
    (zabh:Bz_i14 K zr)
    (zaat:Bz_i15 K zo)
    (zaau:Bz_i16 K zg)
    (zaak:Bz_i17 K zv)
    (zaal:Bz_i18 K za)
    (zaba:Bz_i19 K za)
    (zaab:Bz_i20 K zu)
    (zaac:Bz_i21 K zu)
    (zabd:Bz_i22 K zm)
    (zaaf:Bz_i23 K zm)
    (zabe:Bz_i24 K zi)
    (zzr:Bz_i25 K zi)
    (zabm:Bz_i26 K zt)
    (zaao:Bz_i27 K zt)
    (zaam:Bz_i28 K zd)
    (zzx:Bz_i29 K zd)
    (zzw:Bz_i30 K zp)
    (zabr:Bz_i31 K zp)
    (zabf:Bz_i32 K zj)
    (zabp:Bz_i33 K zj)
    (zabc:Bz_i34 K ze)
    (zabb:Bz_i35 K ze)
    (zaaw:Bz_i36 K zl)
    (zzy:Bz_i37 K zl)
    (zaah:Bz_i38 K zq)
    (zabj:Bz_i39 K zq)
    (zaad:Bz_i40 K zf)
    (zaaq:Bz_i41 K zf)
    (zaae:Bz_i42 K zn)
    (zaay:Bz_i43 K zn)
    (zaaj:Bz_i44 K zh)
    (zaav:Bz_i45 K zh)
    (zaas:Bz_i46 K zk)
    (zabn:Bz_i47 K zk)
    (zaag:Bz_i48 K zr)
    (zabs:Bz_i49 K zr)
    (zaan:Bz_i50 K zo)
    (zzs:Bz_i51 K zo)
    (zabq:Bz_i52 K zg)
    (zzt:Bz_i53 K zg)
    (zzv:Bz_i54 K zv)
    (zabk:Bz_i55 K zv)
    (zaap:Bz_i56 K zb)
    (zabl:Bz_i57 K zc)
    (zaax:Bz_i58 K zs)
    (zabg:Bz_i59 K zb)
    (zaar:Bz_i60 K zc)
    (zaaa:Bz_i61 K zs)
    (zzu:Bz_i62 K zb)
    (zzz:Bz_i63 K zc)
    (B_z:Bz_z K)
    : ∃ fd:FuncData,(∀ (s:Shared) (v:Value),BindsTo s fd ⟨[v],[]⟩ [("_law_script",v)])∧∀ base:Heap,K.In base→base.Ns mainGlobals mg→FnG l.prog w K mg base (L2.CX l.prog w) 40 fa0 fd ["_law_script"] (spL K false (callN tab 19)):=by
  obtain ⟨a0,od0,an0,sl0,oc0,kV0,dc0,pm0,cd0,ct0,q0,l0,c0,k0⟩:=B_d0
  obtain ⟨a1,od1,an1,sl1,oc1,kV1,dc1,pm1,cd1,ct1,q1,l1,c1,k1⟩:=B_d1
  obtain ⟨a2,od2,an2,sl2,oc2,kV2,dc2,pm2,cd2,ct2,q2,l2,c2,k2⟩:=B_d2
  obtain ⟨a3,od3,an3,sl3,oc3,kV3,dc3,pm3,cd3,ct3,q3,l3,c3,k3⟩:=B_d3
  obtain ⟨a4,od4,an4,sl4,oc4,kV4,dc4,pm4,cd4,ct4,q4,l4,c4,k4⟩:=B_d4
  obtain ⟨od5,an5,sl5,oc5,kV5,dc5,pm5,cd5,ct5,q5,l5,c5,k5⟩:=B_d5
  obtain ⟨zbn,zuo,zuq,zuu,zwh,zfr,zwd,zwb,zvu,zvr,zvn,ztv,zvi,zud,zuz,zwc,zvj,ztz,zty,zwa,ztq,zvw,zgf,zuc,zvs,zcm,xg_BadRow,xc_BadRow,xr_BadRow,xsa_BadRow,xex_BadRow,xty_BadRow,xkc_BadRow,xga_BadRow,xgg_BadRow,xhd_BadRow,xha_BadRow,xhn_BadRow,xht_BadRow,xhm_BadRow,xf_BadRow,xi_BadRow,xt_BadRow,xL_BadRow,xC_BadRow,xK_BadRow,bq_BadRow,bs_BadRow,br_BadRow,bf_BadRow⟩:=zyv
  obtain ⟨zai,zkn,zlc,zmc,zne,zeb,zky,zjl,zlf,zll,zke,zjw,zmu,zim,zis,zjm,znk,zio,zlr,zik,ziq,zmk,zdw,zks,ziy,zaz,xg_BadBlock,xc_BadBlock,xr_BadBlock,xsa_BadBlock,xex_BadBlock,xty_BadBlock,xkc_BadBlock,xga_BadBlock,xgg_BadBlock,xhd_BadBlock,xha_BadBlock,xhn_BadBlock,xht_BadBlock,xhm_BadBlock,xf_BadBlock,xi_BadBlock,xt_BadBlock,xL_BadBlock,xC_BadBlock,xK_BadBlock,bq_BadBlock,bs_BadBlock,br_BadBlock,bf_BadBlock⟩:=zxa
  obtain ⟨zag,zmg,znf,zmj,zjb,zdr,zkj,znh,zla,zln,zjn,zmv,zix,znl,zmi,zjc,zjz,znq,zkd,zku,zkq,zjr,zdx,zms,zna,zat,xg_BadInput,xc_BadInput,xr_BadInput,xsa_BadInput,xex_BadInput,xty_BadInput,xkc_BadInput,xga_BadInput,xgg_BadInput,xhd_BadInput,xha_BadInput,xhn_BadInput,xht_BadInput,xhm_BadInput,xf_BadInput,xi_BadInput,xt_BadInput,xL_BadInput,xC_BadInput,xK_BadInput,bq_BadInput,bs_BadInput,br_BadInput,bf_BadInput⟩:=zww
  obtain ⟨zad,zgt,zht,zhm,zia,zcs,zhp,zhz,zgj,zhr,zhd,zha,zhl,zhw,zgr,zhi,zgz,zgc,zgi,zgp,zig,zhf,zcf,zfp,zgw,zaj,xg_BadLabels,xc_BadLabels,xr_BadLabels,xsa_BadLabels,xex_BadLabels,xty_BadLabels,xkc_BadLabels,xga_BadLabels,xgg_BadLabels,xhd_BadLabels,xha_BadLabels,xhn_BadLabels,xht_BadLabels,xhm_BadLabels,xf_BadLabels,xi_BadLabels,xt_BadLabels,xL_BadLabels,xC_BadLabels,xK_BadLabels,bq_BadLabels,bs_BadLabels,br_BadLabels,bf_BadLabels⟩:=zwi
  obtain ⟨zba,zss,zon,zqw,zsf,zfj,zsl,zoy,ztb,zpj,zrr,zrz,zsx,ztc,zsk,zpi,zro,zqi,zse,zqr,zrj,zps,zfd,zpt,zqu,zbo,xg_BadStop,xc_BadStop,xr_BadStop,xsa_BadStop,xex_BadStop,xty_BadStop,xkc_BadStop,xga_BadStop,xgg_BadStop,xhd_BadStop,xha_BadStop,xhn_BadStop,xht_BadStop,xhm_BadStop,xf_BadStop,xi_BadStop,xt_BadStop,xL_BadStop,xC_BadStop,xK_BadStop,bq_BadStop,bs_BadStop,br_BadStop,bf_BadStop⟩:=zxg
  obtain ⟨zbk,zva,zuv,ztr,zue,zfq,ztw,zts,zuk,zvz,zup,zvf,zul,zuw,zvp,zui,zvd,zut,zuj,zuh,zvl,zvb,zhc,zvh,zto,zbu,xg_BadWay,xc_BadWay,xr_BadWay,xsa_BadWay,xex_BadWay,xty_BadWay,xkc_BadWay,xga_BadWay,xgg_BadWay,xhd_BadWay,xha_BadWay,xhn_BadWay,xht_BadWay,xhm_BadWay,xf_BadWay,xi_BadWay,xt_BadWay,xL_BadWay,xC_BadWay,xK_BadWay,bq_BadWay,bs_BadWay,br_BadWay,bf_BadWay⟩:=zyt
  obtain ⟨zao,zit,zoe,zkm,zju,zdv,zlj,zlm,zlp,zkr,zlb,zob,zlq,zkc,zkl,zjy,zkg,zkw,zml,zng,zkk,ziz,zec,zoh,zno,zay,xg_BadShown,xc_BadShown,xr_BadShown,xsa_BadShown,xex_BadShown,xty_BadShown,xkc_BadShown,xga_BadShown,xgg_BadShown,xhd_BadShown,xha_BadShown,xhn_BadShown,xht_BadShown,xhm_BadShown,xf_BadShown,xi_BadShown,xt_BadShown,xL_BadShown,xC_BadShown,xK_BadShown,bq_BadShown,bs_BadShown,br_BadShown,bf_BadShown⟩:=zwu
  obtain ⟨zae,zhu,zhs,zhx,zfv,zbz,zhj,zgg,zfu,zid,zie,zhg,zhq,zgs,zif,zgm,zft,zgq,zhy,zic,zfx,zhb,zbq,zge,zgy,zak,xg_BadValues,xc_BadValues,xr_BadValues,xsa_BadValues,xex_BadValues,xty_BadValues,xkc_BadValues,xga_BadValues,xgg_BadValues,xhd_BadValues,xha_BadValues,xhn_BadValues,xht_BadValues,xhm_BadValues,xf_BadValues,xi_BadValues,xt_BadValues,xL_BadValues,xC_BadValues,xK_BadValues,bq_BadValues,bs_BadValues,br_BadValues,bf_BadValues⟩:=zwk
  obtain ⟨zaf,zmw,zjg,ziv,zlv,zea,znm,zlo,zlt,zmt,zjo,zja,zkx,zir,zlh,zme,zmd,znj,zlw,zkb,zjq,zje,zed,zlx,znr,zax,xg_BadShape,xc_BadShape,xr_BadShape,xsa_BadShape,xex_BadShape,xty_BadShape,xkc_BadShape,xga_BadShape,xgg_BadShape,xhd_BadShape,xha_BadShape,xhn_BadShape,xht_BadShape,xhm_BadShape,xf_BadShape,xi_BadShape,xt_BadShape,xL_BadShape,xC_BadShape,xK_BadShape,bq_BadShape,bs_BadShape,br_BadShape,bf_BadShape⟩:=zwo
  obtain ⟨zaw,zou,zrx,zos,zql,zfe,zsq,zpb,zph,zrh,zrq,zpz,zsy,ztn,zpg,zqj,zsg,zpd,zsv,zrc,zry,zpm,zff,ztl,zpn,zbm,xg_BadMark,xc_BadMark,xr_BadMark,xsa_BadMark,xex_BadMark,xty_BadMark,xkc_BadMark,xga_BadMark,xgg_BadMark,xhd_BadMark,xha_BadMark,xhn_BadMark,xht_BadMark,xhm_BadMark,xf_BadMark,xi_BadMark,xt_BadMark,xL_BadMark,xC_BadMark,xK_BadMark,bq_BadMark,bs_BadMark,br_BadMark,bf_BadMark⟩:=zxm
  obtain ⟨zac,zgh,zgk,zgu,zgn,zbs,zfw,zhv,zfs,zgx,zfn,zfo,zho,zfy,zgd,zib,zhe,zga,zgv,zhk,zgl,zgb,zcn,zhh,zfz,zal,xg_BadOption,xc_BadOption,xr_BadOption,xsa_BadOption,xex_BadOption,xty_BadOption,xkc_BadOption,xga_BadOption,xgg_BadOption,xhd_BadOption,xha_BadOption,xhn_BadOption,xht_BadOption,xhm_BadOption,xf_BadOption,xi_BadOption,xt_BadOption,xL_BadOption,xC_BadOption,xK_BadOption,bq_BadOption,bs_BadOption,br_BadOption,bf_BadOption⟩:=zwm
  obtain ⟨zbf,zso,zrg,zsw,zsi,zfm,ztg,zrm,zpq,zta,zru,zsc,zpw,zqc,zrt,zrb,zpr,zsn,zqa,zom,zpa,zpf,zfh,zqk,zrp,zbi,xg_BadWish,xc_BadWish,xr_BadWish,xsa_BadWish,xex_BadWish,xty_BadWish,xkc_BadWish,xga_BadWish,xgg_BadWish,xhd_BadWish,xha_BadWish,xhn_BadWish,xht_BadWish,xhm_BadWish,xf_BadWish,xi_BadWish,xt_BadWish,xL_BadWish,xC_BadWish,xK_BadWish,bq_BadWish,bs_BadWish,br_BadWish,bf_BadWish⟩:=zxi
  obtain ⟨zam,zkz,zko,zmy,zly,zds,zmm,zma,zjk,zod,ziw,zjt,zmz,zjj,zil,zle,zin,zmp,zmq,znz,znp,zld,zdu,zmn,zki,zas,xg_BadTable,xc_BadTable,xr_BadTable,xsa_BadTable,xex_BadTable,xty_BadTable,xkc_BadTable,xga_BadTable,xgg_BadTable,xhd_BadTable,xha_BadTable,xhn_BadTable,xht_BadTable,xhm_BadTable,xf_BadTable,xi_BadTable,xt_BadTable,xL_BadTable,xC_BadTable,xK_BadTable,bq_BadTable,bs_BadTable,br_BadTable,bf_BadTable⟩:=zwt
  obtain ⟨zan,zmb,znn,zjx,zkp,zdy,zlu,zkh,zny,zmr,zof,znw,zmx,zka,zlk,ziu,zjh,zoc,zij,zkt,zns,znu,zee,znd,znc,zbe,xg_BadFrame,xc_BadFrame,xr_BadFrame,xsa_BadFrame,xex_BadFrame,xty_BadFrame,xkc_BadFrame,xga_BadFrame,xgg_BadFrame,xhd_BadFrame,xha_BadFrame,xhn_BadFrame,xht_BadFrame,xhm_BadFrame,xf_BadFrame,xi_BadFrame,xt_BadFrame,xL_BadFrame,xC_BadFrame,xK_BadFrame,bq_BadFrame,bs_BadFrame,br_BadFrame,bf_BadFrame⟩:=zwq
  obtain ⟨zau,zsj,zor,zrn,zqh,zfi,zsz,zra,zoq,zrv,zqp,zsb,zqm,zrd,zqb,zpu,ztj,zre,zpv,zqe,zpx,zol,zfb,zow,zqn,zbl,xg_BadText,xc_BadText,xr_BadText,xsa_BadText,xex_BadText,xty_BadText,xkc_BadText,xga_BadText,xgg_BadText,xhd_BadText,xha_BadText,xhn_BadText,xht_BadText,xhm_BadText,xf_BadText,xi_BadText,xt_BadText,xL_BadText,xC_BadText,xK_BadText,bq_BadText,bs_BadText,br_BadText,bf_BadText⟩:=zxe
  obtain ⟨zbb,zoz,zsh,zox,zpe,zfl,zsr,zrk,zpp,zqg,zqd,zpy,ztm,zqz,zsp,zsm,zsa,zpk,zpl,zok,zsd,ztk,zfg,zqo,zqf,zbj,xg_BadLine,xc_BadLine,xr_BadLine,xsa_BadLine,xex_BadLine,xty_BadLine,xkc_BadLine,xga_BadLine,xgg_BadLine,xhd_BadLine,xha_BadLine,xhn_BadLine,xht_BadLine,xhm_BadLine,xf_BadLine,xi_BadLine,xt_BadLine,xL_BadLine,xC_BadLine,xK_BadLine,bq_BadLine,bs_BadLine,br_BadLine,bf_BadLine⟩:=zxf
  obtain ⟨zah,zmf,zmh,zjv,zog,zdt,zji,zls,zjp,zlg,znt,zli,zjf,znx,zkv,znb,zni,zkf,zjs,znv,zmo,zoa,zdz,zlz,zjd,zbd,xg_BadTruth,xc_BadTruth,xr_BadTruth,xsa_BadTruth,xex_BadTruth,xty_BadTruth,xkc_BadTruth,xga_BadTruth,xgg_BadTruth,xhd_BadTruth,xha_BadTruth,xhn_BadTruth,xht_BadTruth,xhm_BadTruth,xf_BadTruth,xi_BadTruth,xt_BadTruth,xL_BadTruth,xC_BadTruth,xK_BadTruth,bq_BadTruth,bs_BadTruth,br_BadTruth,bf_BadTruth⟩:=zwp
  obtain ⟨zbp,zvk,ztx,zug,zvy,zhn,zvg,zur,ztu,ztp,zuy,zus,zun,ztt,zwe,zvx,zvv,zvo,zve,zuf,zua,zvm,zgo,zux,zvq,zbw,xg_Untrue,xc_Untrue,xr_Untrue,xsa_Untrue,xex_Untrue,xty_Untrue,xkc_Untrue,xga_Untrue,xgg_Untrue,xhd_Untrue,xha_Untrue,xhn_Untrue,xht_Untrue,xhm_Untrue,xf_Untrue,xi_Untrue,xt_Untrue,xL_Untrue,xC_Untrue,xK_Untrue,bq_Untrue,bs_Untrue,br_Untrue,bf_Untrue⟩:=zyw
  obtain ⟨zaa,zdi,zdd,zdf,zdb,zbc,zcz,zda,zdm,zcy,zdo,zcv,zde,zdp,zdg,zdh,zdc,zdn,zcw,zdq,zdk,zdl,zav,zcx,zdj,xg_UnknownBlock,xc_UnknownBlock,xr_UnknownBlock,xsa_UnknownBlock,xex_UnknownBlock,xty_UnknownBlock,xkc_UnknownBlock,xga_UnknownBlock,xgg_UnknownBlock,xhd_UnknownBlock,xha_UnknownBlock,xhn_UnknownBlock,xht_UnknownBlock,xhm_UnknownBlock,xf_UnknownBlock,xi_UnknownBlock,xt_UnknownBlock,xL_UnknownBlock,xC_UnknownBlock,xK_UnknownBlock,bq_UnknownBlock,bf_UnknownBlock⟩:=zoj
  obtain ⟨zab,zer,zfa,zen,zes,zbg,zeu,zev,zey,zew,zei,zep,zex,zeo,zem,zet,zeh,zeq,zej,zel,zek,zez,zbh,zeg,zef,xg_UnknownName,xc_UnknownName,xr_UnknownName,xsa_UnknownName,xex_UnknownName,xty_UnknownName,xkc_UnknownName,xga_UnknownName,xgg_UnknownName,xhd_UnknownName,xha_UnknownName,xhn_UnknownName,xht_UnknownName,xhm_UnknownName,xf_UnknownName,xi_UnknownName,xt_UnknownName,xL_UnknownName,xC_UnknownName,xK_UnknownName,bq_UnknownName,bf_UnknownName⟩:=zpo
  obtain ⟨zar,zri,zoo,zqs,ztf,zfk,zqx,zsu,zqy,zqq,zti,zpc,zrs,zth,zrw,zqv,zqt,zrl,zov,zop,ztd,zrf,zfc,zot,zst,xg_TooMany,xc_TooMany,xr_TooMany,xsa_TooMany,xex_TooMany,xty_TooMany,xkc_TooMany,xga_TooMany,xgg_TooMany,xhd_TooMany,xha_TooMany,xhn_TooMany,xht_TooMany,xhm_TooMany,xf_TooMany,xi_TooMany,xt_TooMany,xL_TooMany,xC_TooMany,xK_TooMany,bq_TooMany,bf_TooMany⟩:=zxc
  obtain ⟨zz,zcg,zct,zcj,zcb,zap,zcd,zcu,zcp,zbr,zco,zch,zby,zbt,zcr,zck,zcc,zca,zbv,zci,zce,zcq,zaq,zcl,zbx,xg_NothingToUndo,xc_NothingToUndo,xr_NothingToUndo,xsa_NothingToUndo,xex_NothingToUndo,xty_NothingToUndo,xkc_NothingToUndo,xga_NothingToUndo,xgg_NothingToUndo,xhd_NothingToUndo,xha_NothingToUndo,xhn_NothingToUndo,xht_NothingToUndo,xhm_NothingToUndo,xf_NothingToUndo,xi_NothingToUndo,xt_NothingToUndo,xL_NothingToUndo,xC_NothingToUndo,xK_NothingToUndo,bq_NothingToUndo,bf_NothingToUndo⟩:=zii
  obtain ⟨s_BadRow_BadRow,s_BadRow_BadBlock,s_BadRow_BadInput,s_BadRow_BadLabels,s_BadRow_BadStop,s_BadRow_BadWay,s_BadRow_BadShown,s_BadRow_BadValues,s_BadRow_BadShape,s_BadRow_BadMark,s_BadRow_BadOption,s_BadRow_BadWish,s_BadRow_BadTable,s_BadRow_BadFrame,s_BadRow_BadText,s_BadRow_BadLine,s_BadRow_BadTruth,s_BadRow_Untrue,s_BadRow_UnknownBlock,s_BadRow_UnknownName,s_BadRow_TooMany,s_BadRow_NothingToUndo⟩:=zys
  obtain ⟨s_BadBlock_BadRow,s_BadBlock_BadBlock,s_BadBlock_BadInput,s_BadBlock_BadLabels,s_BadBlock_BadStop,s_BadBlock_BadWay,s_BadBlock_BadShown,s_BadBlock_BadValues,s_BadBlock_BadShape,s_BadBlock_BadMark,s_BadBlock_BadOption,s_BadBlock_BadWish,s_BadBlock_BadTable,s_BadBlock_BadFrame,s_BadBlock_BadText,s_BadBlock_BadLine,s_BadBlock_BadTruth,s_BadBlock_Untrue,s_BadBlock_UnknownBlock,s_BadBlock_UnknownName,s_BadBlock_TooMany,s_BadBlock_NothingToUndo⟩:=zxb
  obtain ⟨s_BadInput_BadRow,s_BadInput_BadBlock,s_BadInput_BadInput,s_BadInput_BadLabels,s_BadInput_BadStop,s_BadInput_BadWay,s_BadInput_BadShown,s_BadInput_BadValues,s_BadInput_BadShape,s_BadInput_BadMark,s_BadInput_BadOption,s_BadInput_BadWish,s_BadInput_BadTable,s_BadInput_BadFrame,s_BadInput_BadText,s_BadInput_BadLine,s_BadInput_BadTruth,s_BadInput_Untrue,s_BadInput_UnknownBlock,s_BadInput_UnknownName,s_BadInput_TooMany,s_BadInput_NothingToUndo⟩:=zwz
  obtain ⟨s_BadLabels_BadRow,s_BadLabels_BadBlock,s_BadLabels_BadInput,s_BadLabels_BadLabels,s_BadLabels_BadStop,s_BadLabels_BadWay,s_BadLabels_BadShown,s_BadLabels_BadValues,s_BadLabels_BadShape,s_BadLabels_BadMark,s_BadLabels_BadOption,s_BadLabels_BadWish,s_BadLabels_BadTable,s_BadLabels_BadFrame,s_BadLabels_BadText,s_BadLabels_BadLine,s_BadLabels_BadTruth,s_BadLabels_Untrue,s_BadLabels_UnknownBlock,s_BadLabels_UnknownName,s_BadLabels_TooMany,s_BadLabels_NothingToUndo⟩:=zwn
  obtain ⟨s_BadStop_BadRow,s_BadStop_BadBlock,s_BadStop_BadInput,s_BadStop_BadLabels,s_BadStop_BadStop,s_BadStop_BadWay,s_BadStop_BadShown,s_BadStop_BadValues,s_BadStop_BadShape,s_BadStop_BadMark,s_BadStop_BadOption,s_BadStop_BadWish,s_BadStop_BadTable,s_BadStop_BadFrame,s_BadStop_BadText,s_BadStop_BadLine,s_BadStop_BadTruth,s_BadStop_Untrue,s_BadStop_UnknownBlock,s_BadStop_UnknownName,s_BadStop_TooMany,s_BadStop_NothingToUndo⟩:=zxj
  obtain ⟨s_BadWay_BadRow,s_BadWay_BadBlock,s_BadWay_BadInput,s_BadWay_BadLabels,s_BadWay_BadStop,s_BadWay_BadWay,s_BadWay_BadShown,s_BadWay_BadValues,s_BadWay_BadShape,s_BadWay_BadMark,s_BadWay_BadOption,s_BadWay_BadWish,s_BadWay_BadTable,s_BadWay_BadFrame,s_BadWay_BadText,s_BadWay_BadLine,s_BadWay_BadTruth,s_BadWay_Untrue,s_BadWay_UnknownBlock,s_BadWay_UnknownName,s_BadWay_TooMany,s_BadWay_NothingToUndo⟩:=zyx
  obtain ⟨s_BadShown_BadRow,s_BadShown_BadBlock,s_BadShown_BadInput,s_BadShown_BadLabels,s_BadShown_BadStop,s_BadShown_BadWay,s_BadShown_BadShown,s_BadShown_BadValues,s_BadShown_BadShape,s_BadShown_BadMark,s_BadShown_BadOption,s_BadShown_BadWish,s_BadShown_BadTable,s_BadShown_BadFrame,s_BadShown_BadText,s_BadShown_BadLine,s_BadShown_BadTruth,s_BadShown_Untrue,s_BadShown_UnknownBlock,s_BadShown_UnknownName,s_BadShown_TooMany,s_BadShown_NothingToUndo⟩:=zwy
  obtain ⟨s_BadValues_BadRow,s_BadValues_BadBlock,s_BadValues_BadInput,s_BadValues_BadLabels,s_BadValues_BadStop,s_BadValues_BadWay,s_BadValues_BadShown,s_BadValues_BadValues,s_BadValues_BadShape,s_BadValues_BadMark,s_BadValues_BadOption,s_BadValues_BadWish,s_BadValues_BadTable,s_BadValues_BadFrame,s_BadValues_BadText,s_BadValues_BadLine,s_BadValues_BadTruth,s_BadValues_Untrue,s_BadValues_UnknownBlock,s_BadValues_UnknownName,s_BadValues_TooMany,s_BadValues_NothingToUndo⟩:=zwl
  obtain ⟨s_BadShape_BadRow,s_BadShape_BadBlock,s_BadShape_BadInput,s_BadShape_BadLabels,s_BadShape_BadStop,s_BadShape_BadWay,s_BadShape_BadShown,s_BadShape_BadValues,s_BadShape_BadShape,s_BadShape_BadMark,s_BadShape_BadOption,s_BadShape_BadWish,s_BadShape_BadTable,s_BadShape_BadFrame,s_BadShape_BadText,s_BadShape_BadLine,s_BadShape_BadTruth,s_BadShape_Untrue,s_BadShape_UnknownBlock,s_BadShape_UnknownName,s_BadShape_TooMany,s_BadShape_NothingToUndo⟩:=zwx
  obtain ⟨s_BadMark_BadRow,s_BadMark_BadBlock,s_BadMark_BadInput,s_BadMark_BadLabels,s_BadMark_BadStop,s_BadMark_BadWay,s_BadMark_BadShown,s_BadMark_BadValues,s_BadMark_BadShape,s_BadMark_BadMark,s_BadMark_BadOption,s_BadMark_BadWish,s_BadMark_BadTable,s_BadMark_BadFrame,s_BadMark_BadText,s_BadMark_BadLine,s_BadMark_BadTruth,s_BadMark_Untrue,s_BadMark_UnknownBlock,s_BadMark_UnknownName,s_BadMark_TooMany,s_BadMark_NothingToUndo⟩:=zxk
  obtain ⟨s_BadOption_BadRow,s_BadOption_BadBlock,s_BadOption_BadInput,s_BadOption_BadLabels,s_BadOption_BadStop,s_BadOption_BadWay,s_BadOption_BadShown,s_BadOption_BadValues,s_BadOption_BadShape,s_BadOption_BadMark,s_BadOption_BadOption,s_BadOption_BadWish,s_BadOption_BadTable,s_BadOption_BadFrame,s_BadOption_BadText,s_BadOption_BadLine,s_BadOption_BadTruth,s_BadOption_Untrue,s_BadOption_UnknownBlock,s_BadOption_UnknownName,s_BadOption_TooMany,s_BadOption_NothingToUndo⟩:=zwj
  obtain ⟨s_BadWish_BadRow,s_BadWish_BadBlock,s_BadWish_BadInput,s_BadWish_BadLabels,s_BadWish_BadStop,s_BadWish_BadWay,s_BadWish_BadShown,s_BadWish_BadValues,s_BadWish_BadShape,s_BadWish_BadMark,s_BadWish_BadOption,s_BadWish_BadWish,s_BadWish_BadTable,s_BadWish_BadFrame,s_BadWish_BadText,s_BadWish_BadLine,s_BadWish_BadTruth,s_BadWish_Untrue,s_BadWish_UnknownBlock,s_BadWish_UnknownName,s_BadWish_TooMany,s_BadWish_NothingToUndo⟩:=zxd
  obtain ⟨s_BadTable_BadRow,s_BadTable_BadBlock,s_BadTable_BadInput,s_BadTable_BadLabels,s_BadTable_BadStop,s_BadTable_BadWay,s_BadTable_BadShown,s_BadTable_BadValues,s_BadTable_BadShape,s_BadTable_BadMark,s_BadTable_BadOption,s_BadTable_BadWish,s_BadTable_BadTable,s_BadTable_BadFrame,s_BadTable_BadText,s_BadTable_BadLine,s_BadTable_BadTruth,s_BadTable_Untrue,s_BadTable_UnknownBlock,s_BadTable_UnknownName,s_BadTable_TooMany,s_BadTable_NothingToUndo⟩:=zws
  obtain ⟨s_BadFrame_BadRow,s_BadFrame_BadBlock,s_BadFrame_BadInput,s_BadFrame_BadLabels,s_BadFrame_BadStop,s_BadFrame_BadWay,s_BadFrame_BadShown,s_BadFrame_BadValues,s_BadFrame_BadShape,s_BadFrame_BadMark,s_BadFrame_BadOption,s_BadFrame_BadWish,s_BadFrame_BadTable,s_BadFrame_BadFrame,s_BadFrame_BadText,s_BadFrame_BadLine,s_BadFrame_BadTruth,s_BadFrame_Untrue,s_BadFrame_UnknownBlock,s_BadFrame_UnknownName,s_BadFrame_TooMany,s_BadFrame_NothingToUndo⟩:=zwv
  obtain ⟨s_BadText_BadRow,s_BadText_BadBlock,s_BadText_BadInput,s_BadText_BadLabels,s_BadText_BadStop,s_BadText_BadWay,s_BadText_BadShown,s_BadText_BadValues,s_BadText_BadShape,s_BadText_BadMark,s_BadText_BadOption,s_BadText_BadWish,s_BadText_BadTable,s_BadText_BadFrame,s_BadText_BadText,s_BadText_BadLine,s_BadText_BadTruth,s_BadText_Untrue,s_BadText_UnknownBlock,s_BadText_UnknownName,s_BadText_TooMany,s_BadText_NothingToUndo⟩:=zxl
  obtain ⟨s_BadLine_BadRow,s_BadLine_BadBlock,s_BadLine_BadInput,s_BadLine_BadLabels,s_BadLine_BadStop,s_BadLine_BadWay,s_BadLine_BadShown,s_BadLine_BadValues,s_BadLine_BadShape,s_BadLine_BadMark,s_BadLine_BadOption,s_BadLine_BadWish,s_BadLine_BadTable,s_BadLine_BadFrame,s_BadLine_BadText,s_BadLine_BadLine,s_BadLine_BadTruth,s_BadLine_Untrue,s_BadLine_UnknownBlock,s_BadLine_UnknownName,s_BadLine_TooMany,s_BadLine_NothingToUndo⟩:=zxh
  obtain ⟨s_BadTruth_BadRow,s_BadTruth_BadBlock,s_BadTruth_BadInput,s_BadTruth_BadLabels,s_BadTruth_BadStop,s_BadTruth_BadWay,s_BadTruth_BadShown,s_BadTruth_BadValues,s_BadTruth_BadShape,s_BadTruth_BadMark,s_BadTruth_BadOption,s_BadTruth_BadWish,s_BadTruth_BadTable,s_BadTruth_BadFrame,s_BadTruth_BadText,s_BadTruth_BadLine,s_BadTruth_BadTruth,s_BadTruth_Untrue,s_BadTruth_UnknownBlock,s_BadTruth_UnknownName,s_BadTruth_TooMany,s_BadTruth_NothingToUndo⟩:=zwr
  obtain ⟨s_Untrue_BadRow,s_Untrue_BadBlock,s_Untrue_BadInput,s_Untrue_BadLabels,s_Untrue_BadStop,s_Untrue_BadWay,s_Untrue_BadShown,s_Untrue_BadValues,s_Untrue_BadShape,s_Untrue_BadMark,s_Untrue_BadOption,s_Untrue_BadWish,s_Untrue_BadTable,s_Untrue_BadFrame,s_Untrue_BadText,s_Untrue_BadLine,s_Untrue_BadTruth,s_Untrue_Untrue,s_Untrue_UnknownBlock,s_Untrue_UnknownName,s_Untrue_TooMany,s_Untrue_NothingToUndo⟩:=zyu
  obtain ⟨s_UnknownBlock_BadRow,s_UnknownBlock_BadBlock,s_UnknownBlock_BadInput,s_UnknownBlock_BadLabels,s_UnknownBlock_BadStop,s_UnknownBlock_BadWay,s_UnknownBlock_BadShown,s_UnknownBlock_BadValues,s_UnknownBlock_BadShape,s_UnknownBlock_BadMark,s_UnknownBlock_BadOption,s_UnknownBlock_BadWish,s_UnknownBlock_BadTable,s_UnknownBlock_BadFrame,s_UnknownBlock_BadText,s_UnknownBlock_BadLine,s_UnknownBlock_BadTruth,s_UnknownBlock_Untrue,s_UnknownBlock_UnknownBlock,s_UnknownBlock_UnknownName,s_UnknownBlock_TooMany,s_UnknownBlock_NothingToUndo⟩:=zoi
  obtain ⟨s_UnknownName_BadRow,s_UnknownName_BadBlock,s_UnknownName_BadInput,s_UnknownName_BadLabels,s_UnknownName_BadStop,s_UnknownName_BadWay,s_UnknownName_BadShown,s_UnknownName_BadValues,s_UnknownName_BadShape,s_UnknownName_BadMark,s_UnknownName_BadOption,s_UnknownName_BadWish,s_UnknownName_BadTable,s_UnknownName_BadFrame,s_UnknownName_BadText,s_UnknownName_BadLine,s_UnknownName_BadTruth,s_UnknownName_Untrue,s_UnknownName_UnknownBlock,s_UnknownName_UnknownName,s_UnknownName_TooMany,s_UnknownName_NothingToUndo⟩:=zte
  obtain ⟨s_TooMany_BadRow,s_TooMany_BadBlock,s_TooMany_BadInput,s_TooMany_BadLabels,s_TooMany_BadStop,s_TooMany_BadWay,s_TooMany_BadShown,s_TooMany_BadValues,s_TooMany_BadShape,s_TooMany_BadMark,s_TooMany_BadOption,s_TooMany_BadWish,s_TooMany_BadTable,s_TooMany_BadFrame,s_TooMany_BadText,s_TooMany_BadLine,s_TooMany_BadTruth,s_TooMany_Untrue,s_TooMany_UnknownBlock,s_TooMany_UnknownName,s_TooMany_TooMany,s_TooMany_NothingToUndo⟩:=zxn
  obtain ⟨s_NothingToUndo_BadRow,s_NothingToUndo_BadBlock,s_NothingToUndo_BadInput,s_NothingToUndo_BadLabels,s_NothingToUndo_BadStop,s_NothingToUndo_BadWay,s_NothingToUndo_BadShown,s_NothingToUndo_BadValues,s_NothingToUndo_BadShape,s_NothingToUndo_BadMark,s_NothingToUndo_BadOption,s_NothingToUndo_BadWish,s_NothingToUndo_BadTable,s_NothingToUndo_BadFrame,s_NothingToUndo_BadText,s_NothingToUndo_BadLine,s_NothingToUndo_BadTruth,s_NothingToUndo_Untrue,s_NothingToUndo_UnknownBlock,s_NothingToUndo_UnknownName,s_NothingToUndo_TooMany,s_NothingToUndo_NothingToUndo⟩:=zih
  obtain ⟨I0,ia0,ib0,ic0,id0,ie0⟩:=B_i0
  obtain ⟨I1,ia1,ib1,ic1,id1,ie1⟩:=B_i1
  obtain ⟨I2,ia2,ib2,ic2,id2,ie2⟩:=B_i2
  obtain ⟨I3,ia3,ib3,ic3,id3,ie3⟩:=B_i3
  obtain ⟨I4,ia4,ib4,ic4,id4,ie4⟩:=B_i4
  obtain ⟨I5,ia5,ib5,ic5,id5,ie5⟩:=B_i5
  obtain ⟨I6,ia6,ib6,ic6,id6,ie6⟩:=B_i6
  obtain ⟨I7,ia7,ib7,ic7,id7,ie7⟩:=B_i7
  obtain ⟨I8,ia8,ib8,ic8,id8,ie8⟩:=B_i8
  obtain ⟨I9,ia9,ib9,ic9,id9,ie9⟩:=B_i9
  obtain ⟨I10,ia10,ib10,ic10,id10,ie10⟩:=zabi
  obtain ⟨I11,ia11,ib11,ic11,id11,ie11⟩:=zaai
  obtain ⟨I12,ia12,ib12,ic12,id12,ie12⟩:=zaaz
  obtain ⟨I13,ia13,ib13,ic13,id13,ie13⟩:=zabo
  obtain ⟨I14,ia14,ib14,ic14,id14,ie14⟩:=zabh
  obtain ⟨I15,ia15,ib15,ic15,id15,ie15⟩:=zaat
  obtain ⟨I16,ia16,ib16,ic16,id16,ie16⟩:=zaau
  obtain ⟨I17,ia17,ib17,ic17,id17,ie17⟩:=zaak
  obtain ⟨ia18,id18⟩:=zaal
  obtain ⟨I19,ia19,ib19,ic19,id19,ie19⟩:=zaba
  obtain ⟨I20,ia20,ib20,ic20,id20,ie20⟩:=zaab
  obtain ⟨ia21,id21⟩:=zaac
  obtain ⟨I22,ia22,ib22,ic22,id22,ie22⟩:=zabd
  obtain ⟨ia23,id23⟩:=zaaf
  obtain ⟨I24,ia24,ib24,ic24,id24,ie24⟩:=zabe
  obtain ⟨ia25,id25⟩:=zzr
  obtain ⟨I26,ia26,ib26,ic26,id26,ie26⟩:=zabm
  obtain ⟨ia27,id27⟩:=zaao
  obtain ⟨I28,ia28,ib28,ic28,id28,ie28⟩:=zaam
  obtain ⟨ia29,id29⟩:=zzx
  obtain ⟨I30,ia30,ib30,ic30,id30,ie30⟩:=zzw
  obtain ⟨ia31,id31⟩:=zabr
  obtain ⟨I32,ia32,ib32,ic32,id32,ie32⟩:=zabf
  obtain ⟨ia33,id33⟩:=zabp
  obtain ⟨I34,ia34,ib34,ic34,id34,ie34⟩:=zabc
  obtain ⟨ia35,id35⟩:=zabb
  obtain ⟨I36,ia36,ib36,ic36,id36,ie36⟩:=zaaw
  obtain ⟨ia37,id37⟩:=zzy
  obtain ⟨I38,ia38,ib38,ic38,id38,ie38⟩:=zaah
  obtain ⟨ia39,id39⟩:=zabj
  obtain ⟨I40,ia40,ib40,ic40,id40,ie40⟩:=zaad
  obtain ⟨ia41,id41⟩:=zaaq
  obtain ⟨I42,ia42,ib42,ic42,id42,ie42⟩:=zaae
  obtain ⟨ia43,id43⟩:=zaay
  obtain ⟨I44,ia44,ib44,ic44,id44,ie44⟩:=zaaj
  obtain ⟨ia45,id45⟩:=zaav
  obtain ⟨I46,ia46,ib46,ic46,id46,ie46⟩:=zaas
  obtain ⟨ia47,id47⟩:=zabn
  obtain ⟨I48,ia48,ib48,ic48,id48,ie48⟩:=zaag
  obtain ⟨ia49,id49⟩:=zabs
  obtain ⟨I50,ia50,ib50,ic50,id50,ie50⟩:=zaan
  obtain ⟨ia51,id51⟩:=zzs
  obtain ⟨I52,ia52,ib52,ic52,id52,ie52⟩:=zabq
  obtain ⟨ia53,id53⟩:=zzt
  obtain ⟨I54,ia54,ib54,ic54,id54,ie54⟩:=zzv
  obtain ⟨ia55,id55⟩:=zabk
  obtain ⟨ia56,id56⟩:=zaap
  obtain ⟨ia57,id57⟩:=zabl
  obtain ⟨ia58,id58⟩:=zaax
  obtain ⟨I59,ia59,ib59,ic59,id59,ie59⟩:=zabg
  obtain ⟨I60,ia60,ib60,ic60,id60,ie60⟩:=zaar
  obtain ⟨I61,ia61,ib61,ic61,id61,ie61⟩:=zaaa
  obtain ⟨I62,ia62,ib62,ic62,id62,ie62⟩:=zzu
  obtain ⟨I63,ia63,ib63,ic63,id63,ie63⟩:=zzz
  obtain ⟨z0,z1,z2,z3,z4,z5,z6,z7,z8,z9,z10,z11,z12,z13,z14,z15,z16,z17,z18,z19,z20,z21,z22,z23,z24,z25,z26⟩:=B_z
  have e0:=hfa.symm.trans (W.mg_of X G q5)
  cases e0
  have hL_BadRow:XLook K zu:=⟨xsa_BadRow,xex_BadRow,xty_BadRow,xkc_BadRow,xga_BadRow,xgg_BadRow,xhd_BadRow,xha_BadRow,xhn_BadRow,xht_BadRow,xhm_BadRow⟩
  have hX_BadRow:XRow K mg "BadRow" zu "index":=xrow_mk X G (st:=(inS 2 0)) xbV xg_BadRow (by decide+kernel) xc_BadRow xr_BadRow hL_BadRow xf_BadRow (binit_own X G (by decide+kernel) (by decide+kernel) bq_BadRow bs_BadRow br_BadRow bf_BadRow) xi_BadRow xt_BadRow xL_BadRow xC_BadRow xK_BadRow (initB_ok (by decide+kernel)) (fun _ _ _ _ _ _ us hl=>match us,hl with|[_,_],_=>rfl) fun _ _ _ _ _ _ _ _=>rfl
  have hL_BadBlock:XLook K zm:=⟨xsa_BadBlock,xex_BadBlock,xty_BadBlock,xkc_BadBlock,xga_BadBlock,xgg_BadBlock,xhd_BadBlock,xha_BadBlock,xhn_BadBlock,xht_BadBlock,xhm_BadBlock⟩
  have hX_BadBlock:XRow K mg "BadBlock" zm "index":=xrow_mk X G (st:=(inS 3 0)) xbV xg_BadBlock (by decide+kernel) xc_BadBlock xr_BadBlock hL_BadBlock xf_BadBlock (binit_own X G (by decide+kernel) (by decide+kernel) bq_BadBlock bs_BadBlock br_BadBlock bf_BadBlock) xi_BadBlock xt_BadBlock xL_BadBlock xC_BadBlock xK_BadBlock (initB_ok (by decide+kernel)) (fun _ _ _ _ _ _ us hl=>match us,hl with|[_,_],_=>rfl) fun _ _ _ _ _ _ _ _=>rfl
  have hL_BadInput:XLook K zi:=⟨xsa_BadInput,xex_BadInput,xty_BadInput,xkc_BadInput,xga_BadInput,xgg_BadInput,xhd_BadInput,xha_BadInput,xhn_BadInput,xht_BadInput,xhm_BadInput⟩
  have hX_BadInput:XRow K mg "BadInput" zi "index":=xrow_mk X G (st:=(inS 4 0)) xbV xg_BadInput (by decide+kernel) xc_BadInput xr_BadInput hL_BadInput xf_BadInput (binit_own X G (by decide+kernel) (by decide+kernel) bq_BadInput bs_BadInput br_BadInput bf_BadInput) xi_BadInput xt_BadInput xL_BadInput xC_BadInput xK_BadInput (initB_ok (by decide+kernel)) (fun _ _ _ _ _ _ us hl=>match us,hl with|[_,_],_=>rfl) fun _ _ _ _ _ _ _ _=>rfl
  have hL_BadLabels:XLook K zd:=⟨xsa_BadLabels,xex_BadLabels,xty_BadLabels,xkc_BadLabels,xga_BadLabels,xgg_BadLabels,xhd_BadLabels,xha_BadLabels,xhn_BadLabels,xht_BadLabels,xhm_BadLabels⟩
  have hX_BadLabels:XRow K mg "BadLabels" zd "block":=xrow_mk X G (st:=(inS 5 0)) xbV xg_BadLabels (by decide+kernel) xc_BadLabels xr_BadLabels hL_BadLabels xf_BadLabels (binit_own X G (by decide+kernel) (by decide+kernel) bq_BadLabels bs_BadLabels br_BadLabels bf_BadLabels) xi_BadLabels xt_BadLabels xL_BadLabels xC_BadLabels xK_BadLabels (initB_ok (by decide+kernel)) (fun _ _ _ _ _ _ us hl=>match us,hl with|[_,_],_=>rfl) fun _ _ _ _ _ _ _ _=>rfl
  have hL_BadStop:XLook K zp:=⟨xsa_BadStop,xex_BadStop,xty_BadStop,xkc_BadStop,xga_BadStop,xgg_BadStop,xhd_BadStop,xha_BadStop,xhn_BadStop,xht_BadStop,xhm_BadStop⟩
  have hX_BadStop:XRow K mg "BadStop" zp "stop":=xrow_mk X G (st:=(inS 6 0)) xbV xg_BadStop (by decide+kernel) xc_BadStop xr_BadStop hL_BadStop xf_BadStop (binit_own X G (by decide+kernel) (by decide+kernel) bq_BadStop bs_BadStop br_BadStop bf_BadStop) xi_BadStop xt_BadStop xL_BadStop xC_BadStop xK_BadStop (initB_ok (by decide+kernel)) (fun _ _ _ _ _ _ us hl=>match us,hl with|[_,_],_=>rfl) fun _ _ _ _ _ _ _ _=>rfl
  have hL_BadWay:XLook K zt:=⟨xsa_BadWay,xex_BadWay,xty_BadWay,xkc_BadWay,xga_BadWay,xgg_BadWay,xhd_BadWay,xha_BadWay,xhn_BadWay,xht_BadWay,xhm_BadWay⟩
  have hX_BadWay:XRow K mg "BadWay" zt "index":=xrow_mk X G (st:=(inS 7 0)) xbV xg_BadWay (by decide+kernel) xc_BadWay xr_BadWay hL_BadWay xf_BadWay (binit_own X G (by decide+kernel) (by decide+kernel) bq_BadWay bs_BadWay br_BadWay bf_BadWay) xi_BadWay xt_BadWay xL_BadWay xC_BadWay xK_BadWay (initB_ok (by decide+kernel)) (fun _ _ _ _ _ _ us hl=>match us,hl with|[_,_],_=>rfl) fun _ _ _ _ _ _ _ _=>rfl
  have hL_BadShown:XLook K zj:=⟨xsa_BadShown,xex_BadShown,xty_BadShown,xkc_BadShown,xga_BadShown,xgg_BadShown,xhd_BadShown,xha_BadShown,xhn_BadShown,xht_BadShown,xhm_BadShown⟩
  have hX_BadShown:XRow K mg "BadShown" zj "what":=xrow_mk X G (st:=(inS 8 0)) xbV xg_BadShown (by decide+kernel) xc_BadShown xr_BadShown hL_BadShown xf_BadShown (binit_own X G (by decide+kernel) (by decide+kernel) bq_BadShown bs_BadShown br_BadShown bf_BadShown) xi_BadShown xt_BadShown xL_BadShown xC_BadShown xK_BadShown (initB_ok (by decide+kernel)) (fun _ _ _ _ _ _ us hl=>match us,hl with|[_,_],_=>rfl) fun _ _ _ _ _ _ _ _=>rfl
  have hL_BadValues:XLook K ze:=⟨xsa_BadValues,xex_BadValues,xty_BadValues,xkc_BadValues,xga_BadValues,xgg_BadValues,xhd_BadValues,xha_BadValues,xhn_BadValues,xht_BadValues,xhm_BadValues⟩
  have hX_BadValues:XRow K mg "BadValues" ze "count":=xrow_mk X G (st:=(inS 9 0)) xbV xg_BadValues (by decide+kernel) xc_BadValues xr_BadValues hL_BadValues xf_BadValues (binit_own X G (by decide+kernel) (by decide+kernel) bq_BadValues bs_BadValues br_BadValues bf_BadValues) xi_BadValues xt_BadValues xL_BadValues xC_BadValues xK_BadValues (initB_ok (by decide+kernel)) (fun _ _ _ _ _ _ us hl=>match us,hl with|[_,_],_=>rfl) fun _ _ _ _ _ _ _ _=>rfl
  have hL_BadShape:XLook K zl:=⟨xsa_BadShape,xex_BadShape,xty_BadShape,xkc_BadShape,xga_BadShape,xgg_BadShape,xhd_BadShape,xha_BadShape,xhn_BadShape,xht_BadShape,xhm_BadShape⟩
  have hX_BadShape:XRow K mg "BadShape" zl "part":=xrow_mk X G (st:=(inS 10 0)) xbV xg_BadShape (by decide+kernel) xc_BadShape xr_BadShape hL_BadShape xf_BadShape (binit_own X G (by decide+kernel) (by decide+kernel) bq_BadShape bs_BadShape br_BadShape bf_BadShape) xi_BadShape xt_BadShape xL_BadShape xC_BadShape xK_BadShape (initB_ok (by decide+kernel)) (fun _ _ _ _ _ _ us hl=>match us,hl with|[_,_],_=>rfl) fun _ _ _ _ _ _ _ _=>rfl
  have hL_BadMark:XLook K zq:=⟨xsa_BadMark,xex_BadMark,xty_BadMark,xkc_BadMark,xga_BadMark,xgg_BadMark,xhd_BadMark,xha_BadMark,xhn_BadMark,xht_BadMark,xhm_BadMark⟩
  have hX_BadMark:XRow K mg "BadMark" zq "mark":=xrow_mk X G (st:=(inS 11 0)) xbV xg_BadMark (by decide+kernel) xc_BadMark xr_BadMark hL_BadMark xf_BadMark (binit_own X G (by decide+kernel) (by decide+kernel) bq_BadMark bs_BadMark br_BadMark bf_BadMark) xi_BadMark xt_BadMark xL_BadMark xC_BadMark xK_BadMark (initB_ok (by decide+kernel)) (fun _ _ _ _ _ _ us hl=>match us,hl with|[_,_],_=>rfl) fun _ _ _ _ _ _ _ _=>rfl
  have hL_BadOption:XLook K zf:=⟨xsa_BadOption,xex_BadOption,xty_BadOption,xkc_BadOption,xga_BadOption,xgg_BadOption,xhd_BadOption,xha_BadOption,xhn_BadOption,xht_BadOption,xhm_BadOption⟩
  have hX_BadOption:XRow K mg "BadOption" zf "option":=xrow_mk X G (st:=(inS 12 0)) xbV xg_BadOption (by decide+kernel) xc_BadOption xr_BadOption hL_BadOption xf_BadOption (binit_own X G (by decide+kernel) (by decide+kernel) bq_BadOption bs_BadOption br_BadOption bf_BadOption) xi_BadOption xt_BadOption xL_BadOption xC_BadOption xK_BadOption (initB_ok (by decide+kernel)) (fun _ _ _ _ _ _ us hl=>match us,hl with|[_,_],_=>rfl) fun _ _ _ _ _ _ _ _=>rfl
  have hL_BadWish:XLook K zn:=⟨xsa_BadWish,xex_BadWish,xty_BadWish,xkc_BadWish,xga_BadWish,xgg_BadWish,xhd_BadWish,xha_BadWish,xhn_BadWish,xht_BadWish,xhm_BadWish⟩
  have hX_BadWish:XRow K mg "BadWish" zn "index":=xrow_mk X G (st:=(inS 13 0)) xbV xg_BadWish (by decide+kernel) xc_BadWish xr_BadWish hL_BadWish xf_BadWish (binit_own X G (by decide+kernel) (by decide+kernel) bq_BadWish bs_BadWish br_BadWish bf_BadWish) xi_BadWish xt_BadWish xL_BadWish xC_BadWish xK_BadWish (initB_ok (by decide+kernel)) (fun _ _ _ _ _ _ us hl=>match us,hl with|[_,_],_=>rfl) fun _ _ _ _ _ _ _ _=>rfl
  have hL_BadTable:XLook K zh:=⟨xsa_BadTable,xex_BadTable,xty_BadTable,xkc_BadTable,xga_BadTable,xgg_BadTable,xhd_BadTable,xha_BadTable,xhn_BadTable,xht_BadTable,xhm_BadTable⟩
  have hX_BadTable:XRow K mg "BadTable" zh "which":=xrow_mk X G (st:=(inS 14 0)) xbV xg_BadTable (by decide+kernel) xc_BadTable xr_BadTable hL_BadTable xf_BadTable (binit_own X G (by decide+kernel) (by decide+kernel) bq_BadTable bs_BadTable br_BadTable bf_BadTable) xi_BadTable xt_BadTable xL_BadTable xC_BadTable xK_BadTable (initB_ok (by decide+kernel)) (fun _ _ _ _ _ _ us hl=>match us,hl with|[_,_],_=>rfl) fun _ _ _ _ _ _ _ _=>rfl
  have hL_BadFrame:XLook K zk:=⟨xsa_BadFrame,xex_BadFrame,xty_BadFrame,xkc_BadFrame,xga_BadFrame,xgg_BadFrame,xhd_BadFrame,xha_BadFrame,xhn_BadFrame,xht_BadFrame,xhm_BadFrame⟩
  have hX_BadFrame:XRow K mg "BadFrame" zk "frame":=xrow_mk X G (st:=(inS 15 0)) xbV xg_BadFrame (by decide+kernel) xc_BadFrame xr_BadFrame hL_BadFrame xf_BadFrame (binit_own X G (by decide+kernel) (by decide+kernel) bq_BadFrame bs_BadFrame br_BadFrame bf_BadFrame) xi_BadFrame xt_BadFrame xL_BadFrame xC_BadFrame xK_BadFrame (initB_ok (by decide+kernel)) (fun _ _ _ _ _ _ us hl=>match us,hl with|[_,_],_=>rfl) fun _ _ _ _ _ _ _ _=>rfl
  have hL_BadText:XLook K zr:=⟨xsa_BadText,xex_BadText,xty_BadText,xkc_BadText,xga_BadText,xgg_BadText,xhd_BadText,xha_BadText,xhn_BadText,xht_BadText,xhm_BadText⟩
  have hX_BadText:XRow K mg "BadText" zr "line":=xrow_mk X G (st:=(inS 16 0)) xbV xg_BadText (by decide+kernel) xc_BadText xr_BadText hL_BadText xf_BadText (binit_own X G (by decide+kernel) (by decide+kernel) bq_BadText bs_BadText br_BadText bf_BadText) xi_BadText xt_BadText xL_BadText xC_BadText xK_BadText (initB_ok (by decide+kernel)) (fun _ _ _ _ _ _ us hl=>match us,hl with|[_,_],_=>rfl) fun _ _ _ _ _ _ _ _=>rfl
  have hL_BadLine:XLook K zo:=⟨xsa_BadLine,xex_BadLine,xty_BadLine,xkc_BadLine,xga_BadLine,xgg_BadLine,xhd_BadLine,xha_BadLine,xhn_BadLine,xht_BadLine,xhm_BadLine⟩
  have hX_BadLine:XRow K mg "BadLine" zo "line":=xrow_mk X G (st:=(inS 17 0)) xbV xg_BadLine (by decide+kernel) xc_BadLine xr_BadLine hL_BadLine xf_BadLine (binit_own X G (by decide+kernel) (by decide+kernel) bq_BadLine bs_BadLine br_BadLine bf_BadLine) xi_BadLine xt_BadLine xL_BadLine xC_BadLine xK_BadLine (initB_ok (by decide+kernel)) (fun _ _ _ _ _ _ us hl=>match us,hl with|[_,_],_=>rfl) fun _ _ _ _ _ _ _ _=>rfl
  have hL_BadTruth:XLook K zg:=⟨xsa_BadTruth,xex_BadTruth,xty_BadTruth,xkc_BadTruth,xga_BadTruth,xgg_BadTruth,xhd_BadTruth,xha_BadTruth,xhn_BadTruth,xht_BadTruth,xhm_BadTruth⟩
  have hX_BadTruth:XRow K mg "BadTruth" zg "truth":=xrow_mk X G (st:=(inS 18 0)) xbV xg_BadTruth (by decide+kernel) xc_BadTruth xr_BadTruth hL_BadTruth xf_BadTruth (binit_own X G (by decide+kernel) (by decide+kernel) bq_BadTruth bs_BadTruth br_BadTruth bf_BadTruth) xi_BadTruth xt_BadTruth xL_BadTruth xC_BadTruth xK_BadTruth (initB_ok (by decide+kernel)) (fun _ _ _ _ _ _ us hl=>match us,hl with|[_,_],_=>rfl) fun _ _ _ _ _ _ _ _=>rfl
  have hL_Untrue:XLook K zv:=⟨xsa_Untrue,xex_Untrue,xty_Untrue,xkc_Untrue,xga_Untrue,xgg_Untrue,xhd_Untrue,xha_Untrue,xhn_Untrue,xht_Untrue,xhm_Untrue⟩
  have hX_Untrue:XRow K mg "Untrue" zv "what":=xrow_mk X G (st:=(inS 19 0)) xbV xg_Untrue (by decide+kernel) xc_Untrue xr_Untrue hL_Untrue xf_Untrue (binit_own X G (by decide+kernel) (by decide+kernel) bq_Untrue bs_Untrue br_Untrue bf_Untrue) xi_Untrue xt_Untrue xL_Untrue xC_Untrue xK_Untrue (initB_ok (by decide+kernel)) (fun _ _ _ _ _ _ us hl=>match us,hl with|[_,_],_=>rfl) fun _ _ _ _ _ _ _ _=>rfl
  have hL_UnknownBlock:XLook K zb:=⟨xsa_UnknownBlock,xex_UnknownBlock,xty_UnknownBlock,xkc_UnknownBlock,xga_UnknownBlock,xgg_UnknownBlock,xhd_UnknownBlock,xha_UnknownBlock,xhn_UnknownBlock,xht_UnknownBlock,xhm_UnknownBlock⟩
  have hX_UnknownBlock:XRow K mg "UnknownBlock" zb "block":=xrow_mk X G (st:=(inS 20 0)) xbK xg_UnknownBlock (by decide+kernel) xc_UnknownBlock xr_UnknownBlock hL_UnknownBlock xf_UnknownBlock (binit_blt X G (by decide+kernel) (by decide+kernel) bq_UnknownBlock (by decide+kernel) (by decide+kernel) (by decide+kernel) (by decide+kernel) bf_UnknownBlock) xi_UnknownBlock xt_UnknownBlock xL_UnknownBlock xC_UnknownBlock xK_UnknownBlock (initB_ok (by decide+kernel)) (fun _ _ _ _ _ _ us hl=>match us,hl with|[_,_],_=>rfl) fun _ _ _ _ _ _ _ _=>rfl
  have hL_UnknownName:XLook K zc:=⟨xsa_UnknownName,xex_UnknownName,xty_UnknownName,xkc_UnknownName,xga_UnknownName,xgg_UnknownName,xhd_UnknownName,xha_UnknownName,xhn_UnknownName,xht_UnknownName,xhm_UnknownName⟩
  have hX_UnknownName:XRow K mg "UnknownName" zc "name":=xrow_mk X G (st:=(inS 21 0)) xbK xg_UnknownName (by decide+kernel) xc_UnknownName xr_UnknownName hL_UnknownName xf_UnknownName (binit_blt X G (by decide+kernel) (by decide+kernel) bq_UnknownName (by decide+kernel) (by decide+kernel) (by decide+kernel) (by decide+kernel) bf_UnknownName) xi_UnknownName xt_UnknownName xL_UnknownName xC_UnknownName xK_UnknownName (initB_ok (by decide+kernel)) (fun _ _ _ _ _ _ us hl=>match us,hl with|[_,_],_=>rfl) fun _ _ _ _ _ _ _ _=>rfl
  have hL_TooMany:XLook K zs:=⟨xsa_TooMany,xex_TooMany,xty_TooMany,xkc_TooMany,xga_TooMany,xgg_TooMany,xhd_TooMany,xha_TooMany,xhn_TooMany,xht_TooMany,xhm_TooMany⟩
  have hX_TooMany:XRow K mg "TooMany" zs "limit":=xrow_mk X G (st:=(inS 22 0)) xbO xg_TooMany (by decide+kernel) xc_TooMany xr_TooMany hL_TooMany xf_TooMany (binit_blt X G (by decide+kernel) (by decide+kernel) bq_TooMany (by decide+kernel) (by decide+kernel) (by decide+kernel) (by decide+kernel) bf_TooMany) xi_TooMany xt_TooMany xL_TooMany xC_TooMany xK_TooMany (initB_ok (by decide+kernel)) (fun _ _ _ _ _ _ us hl=>match us,hl with|[_,_],_=>rfl) fun _ _ _ _ _ _ _ _=>rfl
  have hL_NothingToUndo:XLook K za:=⟨xsa_NothingToUndo,xex_NothingToUndo,xty_NothingToUndo,xkc_NothingToUndo,xga_NothingToUndo,xgg_NothingToUndo,xhd_NothingToUndo,xha_NothingToUndo,xhn_NothingToUndo,xht_NothingToUndo,xhm_NothingToUndo⟩
  have hX_NothingToUndo:XRow K mg "NothingToUndo" za "name":=xrow_mk X G (st:=(inS 23 0)) xbR xg_NothingToUndo (by decide+kernel) xc_NothingToUndo xr_NothingToUndo hL_NothingToUndo xf_NothingToUndo (binit_blt X G (by decide+kernel) (by decide+kernel) bq_NothingToUndo (by decide+kernel) (by decide+kernel) (by decide+kernel) (by decide+kernel) bf_NothingToUndo) xi_NothingToUndo xt_NothingToUndo xL_NothingToUndo xC_NothingToUndo xK_NothingToUndo (initB_ok (by decide+kernel)) (fun _ _ _ _ _ _ us hl=>match us,hl with|[_,_],_=>rfl) fun _ _ _ _ _ _ _ _=>rfl
  let zx:List (Str×Addr):=[]
  let zy:List (Str×Addr):=[(("_law_pool":Str),a0),(("_law_draw":Str),a1),(("_law_told":Str),a2),(("_law_later":Str),a3),(("_law_mixed":Str),a4),(("law":Str),fa)]
  let zw:List (Str×Addr×Str):=[("BadRow",zu,"index"),("BadBlock",zm,"index"),("BadInput",zi,"index"),("BadLabels",zd,"block"),("BadStop",zp,"stop"),("BadWay",zt,"index"),("BadShown",zj,"what"),("BadValues",ze,"count"),("BadShape",zl,"part"),("BadMark",zq,"mark"),("BadOption",zf,"option"),("BadWish",zn,"index"),("BadTable",zh,"which"),("BadFrame",zk,"frame"),("BadText",zr,"line"),("BadLine",zo,"line"),("BadTruth",zg,"truth"),("Untrue",zv,"what"),("UnknownBlock",zb,"block"),("UnknownName",zc,"name"),("TooMany",zs,"limit"),("NothingToUndo",za,"name")]
  have hb: ∀ x∈blts,mg x=none:=fmc_ ⟨W.mg_none_of X G z0,fmc_ ⟨W.mg_none_of X G z1,fmc_ ⟨W.mg_none_of X G z2,fmc_ ⟨W.mg_none_of X G z3,fmc_ ⟨W.mg_none_of X G z4,fmc_ ⟨W.mg_none_of X G z5,fmc_ ⟨W.mg_none_of X G z6,fmc_ ⟨W.mg_none_of X G z7,fmc_ ⟨W.mg_none_of X G z8,fmc_ ⟨W.mg_none_of X G z9,fmc_ ⟨W.mg_none_of X G z10,fmc_ ⟨W.mg_none_of X G z11,fmc_ ⟨W.mg_none_of X G z12,fmc_ ⟨W.mg_none_of X G z13,fmc_ ⟨W.mg_none_of X G z14,fmc_ ⟨W.mg_none_of X G z15,fmc_ ⟨W.mg_none_of X G z16,fmc_ ⟨W.mg_none_of X G z17,fmc_ ⟨W.mg_none_of X G z18,fmc_ ⟨W.mg_none_of X G z19,fmc_ ⟨W.mg_none_of X G z20,fmc_ ⟨W.mg_none_of X G z21,fmc_ ⟨W.mg_none_of X G z22,fmc_ ⟨W.mg_none_of X G z23,fmc_ ⟨W.mg_none_of X G z24,fmc_ ⟨W.mg_none_of X G z25,fmc_ ⟨W.mg_none_of X G z26,fun _ h=>nomatch h⟩⟩⟩⟩⟩⟩⟩⟩⟩⟩⟩⟩⟩⟩⟩⟩⟩⟩⟩⟩⟩⟩⟩⟩⟩⟩⟩
  have hc: ∀ p∈cons,MgCon mg p.1 p.2:=fun _ h=>absurd h List.not_mem_nil
  have hcT: ∀ p∈cons,MgTup K mg p.1 p.2:=fun _ h=>absurd h List.not_mem_nil
  have gl:Glob (geOf K zx zy zw false w) mg pd:=glob_mk (h:=h) hb (con_all hc) (tup_all hcT)
    (fmc_ ⟨⟨zu,by kernel_rfl⟩,fmc_ ⟨⟨zm,by kernel_rfl⟩,fmc_ ⟨⟨zi,by kernel_rfl⟩,fmc_ ⟨⟨zd,by kernel_rfl⟩,fmc_ ⟨⟨zp,by kernel_rfl⟩,fmc_ ⟨⟨zt,by kernel_rfl⟩,fmc_ ⟨⟨zj,by kernel_rfl⟩,fmc_ ⟨⟨ze,by kernel_rfl⟩,fmc_ ⟨⟨zl,by kernel_rfl⟩,fmc_ ⟨⟨zq,by kernel_rfl⟩,fmc_ ⟨⟨zf,by kernel_rfl⟩,fmc_ ⟨⟨zn,by kernel_rfl⟩,fmc_ ⟨⟨zh,by kernel_rfl⟩,fmc_ ⟨⟨zk,by kernel_rfl⟩,fmc_ ⟨⟨zr,by kernel_rfl⟩,fmc_ ⟨⟨zo,by kernel_rfl⟩,fmc_ ⟨⟨zg,by kernel_rfl⟩,fmc_ ⟨⟨zv,by kernel_rfl⟩,fmc_ ⟨⟨zb,by kernel_rfl⟩,fmc_ ⟨⟨zc,by kernel_rfl⟩,fmc_ ⟨⟨zs,by kernel_rfl⟩,fmc_ ⟨⟨za,by kernel_rfl⟩,fun _ h=>nomatch h⟩⟩⟩⟩⟩⟩⟩⟩⟩⟩⟩⟩⟩⟩⟩⟩⟩⟩⟩⟩⟩⟩)
    (fmc_ ⟨hX_BadRow,fmc_ ⟨hX_BadBlock,fmc_ ⟨hX_BadInput,fmc_ ⟨hX_BadLabels,fmc_ ⟨hX_BadStop,fmc_ ⟨hX_BadWay,fmc_ ⟨hX_BadShown,fmc_ ⟨hX_BadValues,fmc_ ⟨hX_BadShape,fmc_ ⟨hX_BadMark,fmc_ ⟨hX_BadOption,fmc_ ⟨hX_BadWish,fmc_ ⟨hX_BadTable,fmc_ ⟨hX_BadFrame,fmc_ ⟨hX_BadText,fmc_ ⟨hX_BadLine,fmc_ ⟨hX_BadTruth,fmc_ ⟨hX_Untrue,fmc_ ⟨hX_UnknownBlock,fmc_ ⟨hX_UnknownName,fmc_ ⟨hX_TooMany,fmc_ ⟨hX_NothingToUndo,fun _ h=>nomatch h⟩⟩⟩⟩⟩⟩⟩⟩⟩⟩⟩⟩⟩⟩⟩⟩⟩⟩⟩⟩⟩⟩)
    (fmc_ ⟨(fmc_ ⟨exm_mk hL_BadRow s_BadRow_BadRow (show decide (("BadRow":Str)="BadRow")=true by decide+kernel),fmc_ ⟨exm_mk hL_BadBlock s_BadRow_BadBlock (show decide (("BadRow":Str)="BadBlock")=false by decide+kernel),fmc_ ⟨exm_mk hL_BadInput s_BadRow_BadInput (show decide (("BadRow":Str)="BadInput")=false by decide+kernel),fmc_ ⟨exm_mk hL_BadLabels s_BadRow_BadLabels (show decide (("BadRow":Str)="BadLabels")=false by decide+kernel),fmc_ ⟨exm_mk hL_BadStop s_BadRow_BadStop (show decide (("BadRow":Str)="BadStop")=false by decide+kernel),fmc_ ⟨exm_mk hL_BadWay s_BadRow_BadWay (show decide (("BadRow":Str)="BadWay")=false by decide+kernel),fmc_ ⟨exm_mk hL_BadShown s_BadRow_BadShown (show decide (("BadRow":Str)="BadShown")=false by decide+kernel),fmc_ ⟨exm_mk hL_BadValues s_BadRow_BadValues (show decide (("BadRow":Str)="BadValues")=false by decide+kernel),fmc_ ⟨exm_mk hL_BadShape s_BadRow_BadShape (show decide (("BadRow":Str)="BadShape")=false by decide+kernel),fmc_ ⟨exm_mk hL_BadMark s_BadRow_BadMark (show decide (("BadRow":Str)="BadMark")=false by decide+kernel),fmc_ ⟨exm_mk hL_BadOption s_BadRow_BadOption (show decide (("BadRow":Str)="BadOption")=false by decide+kernel),fmc_ ⟨exm_mk hL_BadWish s_BadRow_BadWish (show decide (("BadRow":Str)="BadWish")=false by decide+kernel),fmc_ ⟨exm_mk hL_BadTable s_BadRow_BadTable (show decide (("BadRow":Str)="BadTable")=false by decide+kernel),fmc_ ⟨exm_mk hL_BadFrame s_BadRow_BadFrame (show decide (("BadRow":Str)="BadFrame")=false by decide+kernel),fmc_ ⟨exm_mk hL_BadText s_BadRow_BadText (show decide (("BadRow":Str)="BadText")=false by decide+kernel),fmc_ ⟨exm_mk hL_BadLine s_BadRow_BadLine (show decide (("BadRow":Str)="BadLine")=false by decide+kernel),fmc_ ⟨exm_mk hL_BadTruth s_BadRow_BadTruth (show decide (("BadRow":Str)="BadTruth")=false by decide+kernel),fmc_ ⟨exm_mk hL_Untrue s_BadRow_Untrue (show decide (("BadRow":Str)="Untrue")=false by decide+kernel),fmc_ ⟨exm_mk hL_UnknownBlock s_BadRow_UnknownBlock (show decide (("BadRow":Str)="UnknownBlock")=false by decide+kernel),fmc_ ⟨exm_mk hL_UnknownName s_BadRow_UnknownName (show decide (("BadRow":Str)="UnknownName")=false by decide+kernel),fmc_ ⟨exm_mk hL_TooMany s_BadRow_TooMany (show decide (("BadRow":Str)="TooMany")=false by decide+kernel),fmc_ ⟨exm_mk hL_NothingToUndo s_BadRow_NothingToUndo (show decide (("BadRow":Str)="NothingToUndo")=false by decide+kernel),fun _ h=>nomatch h⟩⟩⟩⟩⟩⟩⟩⟩⟩⟩⟩⟩⟩⟩⟩⟩⟩⟩⟩⟩⟩⟩),fmc_ ⟨(fmc_ ⟨exm_mk hL_BadRow s_BadBlock_BadRow (show decide (("BadBlock":Str)="BadRow")=false by decide+kernel),fmc_ ⟨exm_mk hL_BadBlock s_BadBlock_BadBlock (show decide (("BadBlock":Str)="BadBlock")=true by decide+kernel),fmc_ ⟨exm_mk hL_BadInput s_BadBlock_BadInput (show decide (("BadBlock":Str)="BadInput")=false by decide+kernel),fmc_ ⟨exm_mk hL_BadLabels s_BadBlock_BadLabels (show decide (("BadBlock":Str)="BadLabels")=false by decide+kernel),fmc_ ⟨exm_mk hL_BadStop s_BadBlock_BadStop (show decide (("BadBlock":Str)="BadStop")=false by decide+kernel),fmc_ ⟨exm_mk hL_BadWay s_BadBlock_BadWay (show decide (("BadBlock":Str)="BadWay")=false by decide+kernel),fmc_ ⟨exm_mk hL_BadShown s_BadBlock_BadShown (show decide (("BadBlock":Str)="BadShown")=false by decide+kernel),fmc_ ⟨exm_mk hL_BadValues s_BadBlock_BadValues (show decide (("BadBlock":Str)="BadValues")=false by decide+kernel),fmc_ ⟨exm_mk hL_BadShape s_BadBlock_BadShape (show decide (("BadBlock":Str)="BadShape")=false by decide+kernel),fmc_ ⟨exm_mk hL_BadMark s_BadBlock_BadMark (show decide (("BadBlock":Str)="BadMark")=false by decide+kernel),fmc_ ⟨exm_mk hL_BadOption s_BadBlock_BadOption (show decide (("BadBlock":Str)="BadOption")=false by decide+kernel),fmc_ ⟨exm_mk hL_BadWish s_BadBlock_BadWish (show decide (("BadBlock":Str)="BadWish")=false by decide+kernel),fmc_ ⟨exm_mk hL_BadTable s_BadBlock_BadTable (show decide (("BadBlock":Str)="BadTable")=false by decide+kernel),fmc_ ⟨exm_mk hL_BadFrame s_BadBlock_BadFrame (show decide (("BadBlock":Str)="BadFrame")=false by decide+kernel),fmc_ ⟨exm_mk hL_BadText s_BadBlock_BadText (show decide (("BadBlock":Str)="BadText")=false by decide+kernel),fmc_ ⟨exm_mk hL_BadLine s_BadBlock_BadLine (show decide (("BadBlock":Str)="BadLine")=false by decide+kernel),fmc_ ⟨exm_mk hL_BadTruth s_BadBlock_BadTruth (show decide (("BadBlock":Str)="BadTruth")=false by decide+kernel),fmc_ ⟨exm_mk hL_Untrue s_BadBlock_Untrue (show decide (("BadBlock":Str)="Untrue")=false by decide+kernel),fmc_ ⟨exm_mk hL_UnknownBlock s_BadBlock_UnknownBlock (show decide (("BadBlock":Str)="UnknownBlock")=false by decide+kernel),fmc_ ⟨exm_mk hL_UnknownName s_BadBlock_UnknownName (show decide (("BadBlock":Str)="UnknownName")=false by decide+kernel),fmc_ ⟨exm_mk hL_TooMany s_BadBlock_TooMany (show decide (("BadBlock":Str)="TooMany")=false by decide+kernel),fmc_ ⟨exm_mk hL_NothingToUndo s_BadBlock_NothingToUndo (show decide (("BadBlock":Str)="NothingToUndo")=false by decide+kernel),fun _ h=>nomatch h⟩⟩⟩⟩⟩⟩⟩⟩⟩⟩⟩⟩⟩⟩⟩⟩⟩⟩⟩⟩⟩⟩),fmc_ ⟨(fmc_ ⟨exm_mk hL_BadRow s_BadInput_BadRow (show decide (("BadInput":Str)="BadRow")=false by decide+kernel),fmc_ ⟨exm_mk hL_BadBlock s_BadInput_BadBlock (show decide (("BadInput":Str)="BadBlock")=false by decide+kernel),fmc_ ⟨exm_mk hL_BadInput s_BadInput_BadInput (show decide (("BadInput":Str)="BadInput")=true by decide+kernel),fmc_ ⟨exm_mk hL_BadLabels s_BadInput_BadLabels (show decide (("BadInput":Str)="BadLabels")=false by decide+kernel),fmc_ ⟨exm_mk hL_BadStop s_BadInput_BadStop (show decide (("BadInput":Str)="BadStop")=false by decide+kernel),fmc_ ⟨exm_mk hL_BadWay s_BadInput_BadWay (show decide (("BadInput":Str)="BadWay")=false by decide+kernel),fmc_ ⟨exm_mk hL_BadShown s_BadInput_BadShown (show decide (("BadInput":Str)="BadShown")=false by decide+kernel),fmc_ ⟨exm_mk hL_BadValues s_BadInput_BadValues (show decide (("BadInput":Str)="BadValues")=false by decide+kernel),fmc_ ⟨exm_mk hL_BadShape s_BadInput_BadShape (show decide (("BadInput":Str)="BadShape")=false by decide+kernel),fmc_ ⟨exm_mk hL_BadMark s_BadInput_BadMark (show decide (("BadInput":Str)="BadMark")=false by decide+kernel),fmc_ ⟨exm_mk hL_BadOption s_BadInput_BadOption (show decide (("BadInput":Str)="BadOption")=false by decide+kernel),fmc_ ⟨exm_mk hL_BadWish s_BadInput_BadWish (show decide (("BadInput":Str)="BadWish")=false by decide+kernel),fmc_ ⟨exm_mk hL_BadTable s_BadInput_BadTable (show decide (("BadInput":Str)="BadTable")=false by decide+kernel),fmc_ ⟨exm_mk hL_BadFrame s_BadInput_BadFrame (show decide (("BadInput":Str)="BadFrame")=false by decide+kernel),fmc_ ⟨exm_mk hL_BadText s_BadInput_BadText (show decide (("BadInput":Str)="BadText")=false by decide+kernel),fmc_ ⟨exm_mk hL_BadLine s_BadInput_BadLine (show decide (("BadInput":Str)="BadLine")=false by decide+kernel),fmc_ ⟨exm_mk hL_BadTruth s_BadInput_BadTruth (show decide (("BadInput":Str)="BadTruth")=false by decide+kernel),fmc_ ⟨exm_mk hL_Untrue s_BadInput_Untrue (show decide (("BadInput":Str)="Untrue")=false by decide+kernel),fmc_ ⟨exm_mk hL_UnknownBlock s_BadInput_UnknownBlock (show decide (("BadInput":Str)="UnknownBlock")=false by decide+kernel),fmc_ ⟨exm_mk hL_UnknownName s_BadInput_UnknownName (show decide (("BadInput":Str)="UnknownName")=false by decide+kernel),fmc_ ⟨exm_mk hL_TooMany s_BadInput_TooMany (show decide (("BadInput":Str)="TooMany")=false by decide+kernel),fmc_ ⟨exm_mk hL_NothingToUndo s_BadInput_NothingToUndo (show decide (("BadInput":Str)="NothingToUndo")=false by decide+kernel),fun _ h=>nomatch h⟩⟩⟩⟩⟩⟩⟩⟩⟩⟩⟩⟩⟩⟩⟩⟩⟩⟩⟩⟩⟩⟩),fmc_ ⟨(fmc_ ⟨exm_mk hL_BadRow s_BadLabels_BadRow (show decide (("BadLabels":Str)="BadRow")=false by decide+kernel),fmc_ ⟨exm_mk hL_BadBlock s_BadLabels_BadBlock (show decide (("BadLabels":Str)="BadBlock")=false by decide+kernel),fmc_ ⟨exm_mk hL_BadInput s_BadLabels_BadInput (show decide (("BadLabels":Str)="BadInput")=false by decide+kernel),fmc_ ⟨exm_mk hL_BadLabels s_BadLabels_BadLabels (show decide (("BadLabels":Str)="BadLabels")=true by decide+kernel),fmc_ ⟨exm_mk hL_BadStop s_BadLabels_BadStop (show decide (("BadLabels":Str)="BadStop")=false by decide+kernel),fmc_ ⟨exm_mk hL_BadWay s_BadLabels_BadWay (show decide (("BadLabels":Str)="BadWay")=false by decide+kernel),fmc_ ⟨exm_mk hL_BadShown s_BadLabels_BadShown (show decide (("BadLabels":Str)="BadShown")=false by decide+kernel),fmc_ ⟨exm_mk hL_BadValues s_BadLabels_BadValues (show decide (("BadLabels":Str)="BadValues")=false by decide+kernel),fmc_ ⟨exm_mk hL_BadShape s_BadLabels_BadShape (show decide (("BadLabels":Str)="BadShape")=false by decide+kernel),fmc_ ⟨exm_mk hL_BadMark s_BadLabels_BadMark (show decide (("BadLabels":Str)="BadMark")=false by decide+kernel),fmc_ ⟨exm_mk hL_BadOption s_BadLabels_BadOption (show decide (("BadLabels":Str)="BadOption")=false by decide+kernel),fmc_ ⟨exm_mk hL_BadWish s_BadLabels_BadWish (show decide (("BadLabels":Str)="BadWish")=false by decide+kernel),fmc_ ⟨exm_mk hL_BadTable s_BadLabels_BadTable (show decide (("BadLabels":Str)="BadTable")=false by decide+kernel),fmc_ ⟨exm_mk hL_BadFrame s_BadLabels_BadFrame (show decide (("BadLabels":Str)="BadFrame")=false by decide+kernel),fmc_ ⟨exm_mk hL_BadText s_BadLabels_BadText (show decide (("BadLabels":Str)="BadText")=false by decide+kernel),fmc_ ⟨exm_mk hL_BadLine s_BadLabels_BadLine (show decide (("BadLabels":Str)="BadLine")=false by decide+kernel),fmc_ ⟨exm_mk hL_BadTruth s_BadLabels_BadTruth (show decide (("BadLabels":Str)="BadTruth")=false by decide+kernel),fmc_ ⟨exm_mk hL_Untrue s_BadLabels_Untrue (show decide (("BadLabels":Str)="Untrue")=false by decide+kernel),fmc_ ⟨exm_mk hL_UnknownBlock s_BadLabels_UnknownBlock (show decide (("BadLabels":Str)="UnknownBlock")=false by decide+kernel),fmc_ ⟨exm_mk hL_UnknownName s_BadLabels_UnknownName (show decide (("BadLabels":Str)="UnknownName")=false by decide+kernel),fmc_ ⟨exm_mk hL_TooMany s_BadLabels_TooMany (show decide (("BadLabels":Str)="TooMany")=false by decide+kernel),fmc_ ⟨exm_mk hL_NothingToUndo s_BadLabels_NothingToUndo (show decide (("BadLabels":Str)="NothingToUndo")=false by decide+kernel),fun _ h=>nomatch h⟩⟩⟩⟩⟩⟩⟩⟩⟩⟩⟩⟩⟩⟩⟩⟩⟩⟩⟩⟩⟩⟩),fmc_ ⟨(fmc_ ⟨exm_mk hL_BadRow s_BadStop_BadRow (show decide (("BadStop":Str)="BadRow")=false by decide+kernel),fmc_ ⟨exm_mk hL_BadBlock s_BadStop_BadBlock (show decide (("BadStop":Str)="BadBlock")=false by decide+kernel),fmc_ ⟨exm_mk hL_BadInput s_BadStop_BadInput (show decide (("BadStop":Str)="BadInput")=false by decide+kernel),fmc_ ⟨exm_mk hL_BadLabels s_BadStop_BadLabels (show decide (("BadStop":Str)="BadLabels")=false by decide+kernel),fmc_ ⟨exm_mk hL_BadStop s_BadStop_BadStop (show decide (("BadStop":Str)="BadStop")=true by decide+kernel),fmc_ ⟨exm_mk hL_BadWay s_BadStop_BadWay (show decide (("BadStop":Str)="BadWay")=false by decide+kernel),fmc_ ⟨exm_mk hL_BadShown s_BadStop_BadShown (show decide (("BadStop":Str)="BadShown")=false by decide+kernel),fmc_ ⟨exm_mk hL_BadValues s_BadStop_BadValues (show decide (("BadStop":Str)="BadValues")=false by decide+kernel),fmc_ ⟨exm_mk hL_BadShape s_BadStop_BadShape (show decide (("BadStop":Str)="BadShape")=false by decide+kernel),fmc_ ⟨exm_mk hL_BadMark s_BadStop_BadMark (show decide (("BadStop":Str)="BadMark")=false by decide+kernel),fmc_ ⟨exm_mk hL_BadOption s_BadStop_BadOption (show decide (("BadStop":Str)="BadOption")=false by decide+kernel),fmc_ ⟨exm_mk hL_BadWish s_BadStop_BadWish (show decide (("BadStop":Str)="BadWish")=false by decide+kernel),fmc_ ⟨exm_mk hL_BadTable s_BadStop_BadTable (show decide (("BadStop":Str)="BadTable")=false by decide+kernel),fmc_ ⟨exm_mk hL_BadFrame s_BadStop_BadFrame (show decide (("BadStop":Str)="BadFrame")=false by decide+kernel),fmc_ ⟨exm_mk hL_BadText s_BadStop_BadText (show decide (("BadStop":Str)="BadText")=false by decide+kernel),fmc_ ⟨exm_mk hL_BadLine s_BadStop_BadLine (show decide (("BadStop":Str)="BadLine")=false by decide+kernel),fmc_ ⟨exm_mk hL_BadTruth s_BadStop_BadTruth (show decide (("BadStop":Str)="BadTruth")=false by decide+kernel),fmc_ ⟨exm_mk hL_Untrue s_BadStop_Untrue (show decide (("BadStop":Str)="Untrue")=false by decide+kernel),fmc_ ⟨exm_mk hL_UnknownBlock s_BadStop_UnknownBlock (show decide (("BadStop":Str)="UnknownBlock")=false by decide+kernel),fmc_ ⟨exm_mk hL_UnknownName s_BadStop_UnknownName (show decide (("BadStop":Str)="UnknownName")=false by decide+kernel),fmc_ ⟨exm_mk hL_TooMany s_BadStop_TooMany (show decide (("BadStop":Str)="TooMany")=false by decide+kernel),fmc_ ⟨exm_mk hL_NothingToUndo s_BadStop_NothingToUndo (show decide (("BadStop":Str)="NothingToUndo")=false by decide+kernel),fun _ h=>nomatch h⟩⟩⟩⟩⟩⟩⟩⟩⟩⟩⟩⟩⟩⟩⟩⟩⟩⟩⟩⟩⟩⟩),fmc_ ⟨(fmc_ ⟨exm_mk hL_BadRow s_BadWay_BadRow (show decide (("BadWay":Str)="BadRow")=false by decide+kernel),fmc_ ⟨exm_mk hL_BadBlock s_BadWay_BadBlock (show decide (("BadWay":Str)="BadBlock")=false by decide+kernel),fmc_ ⟨exm_mk hL_BadInput s_BadWay_BadInput (show decide (("BadWay":Str)="BadInput")=false by decide+kernel),fmc_ ⟨exm_mk hL_BadLabels s_BadWay_BadLabels (show decide (("BadWay":Str)="BadLabels")=false by decide+kernel),fmc_ ⟨exm_mk hL_BadStop s_BadWay_BadStop (show decide (("BadWay":Str)="BadStop")=false by decide+kernel),fmc_ ⟨exm_mk hL_BadWay s_BadWay_BadWay (show decide (("BadWay":Str)="BadWay")=true by decide+kernel),fmc_ ⟨exm_mk hL_BadShown s_BadWay_BadShown (show decide (("BadWay":Str)="BadShown")=false by decide+kernel),fmc_ ⟨exm_mk hL_BadValues s_BadWay_BadValues (show decide (("BadWay":Str)="BadValues")=false by decide+kernel),fmc_ ⟨exm_mk hL_BadShape s_BadWay_BadShape (show decide (("BadWay":Str)="BadShape")=false by decide+kernel),fmc_ ⟨exm_mk hL_BadMark s_BadWay_BadMark (show decide (("BadWay":Str)="BadMark")=false by decide+kernel),fmc_ ⟨exm_mk hL_BadOption s_BadWay_BadOption (show decide (("BadWay":Str)="BadOption")=false by decide+kernel),fmc_ ⟨exm_mk hL_BadWish s_BadWay_BadWish (show decide (("BadWay":Str)="BadWish")=false by decide+kernel),fmc_ ⟨exm_mk hL_BadTable s_BadWay_BadTable (show decide (("BadWay":Str)="BadTable")=false by decide+kernel),fmc_ ⟨exm_mk hL_BadFrame s_BadWay_BadFrame (show decide (("BadWay":Str)="BadFrame")=false by decide+kernel),fmc_ ⟨exm_mk hL_BadText s_BadWay_BadText (show decide (("BadWay":Str)="BadText")=false by decide+kernel),fmc_ ⟨exm_mk hL_BadLine s_BadWay_BadLine (show decide (("BadWay":Str)="BadLine")=false by decide+kernel),fmc_ ⟨exm_mk hL_BadTruth s_BadWay_BadTruth (show decide (("BadWay":Str)="BadTruth")=false by decide+kernel),fmc_ ⟨exm_mk hL_Untrue s_BadWay_Untrue (show decide (("BadWay":Str)="Untrue")=false by decide+kernel),fmc_ ⟨exm_mk hL_UnknownBlock s_BadWay_UnknownBlock (show decide (("BadWay":Str)="UnknownBlock")=false by decide+kernel),fmc_ ⟨exm_mk hL_UnknownName s_BadWay_UnknownName (show decide (("BadWay":Str)="UnknownName")=false by decide+kernel),fmc_ ⟨exm_mk hL_TooMany s_BadWay_TooMany (show decide (("BadWay":Str)="TooMany")=false by decide+kernel),fmc_ ⟨exm_mk hL_NothingToUndo s_BadWay_NothingToUndo (show decide (("BadWay":Str)="NothingToUndo")=false by decide+kernel),fun _ h=>nomatch h⟩⟩⟩⟩⟩⟩⟩⟩⟩⟩⟩⟩⟩⟩⟩⟩⟩⟩⟩⟩⟩⟩),fmc_ ⟨(fmc_ ⟨exm_mk hL_BadRow s_BadShown_BadRow (show decide (("BadShown":Str)="BadRow")=false by decide+kernel),fmc_ ⟨exm_mk hL_BadBlock s_BadShown_BadBlock (show decide (("BadShown":Str)="BadBlock")=false by decide+kernel),fmc_ ⟨exm_mk hL_BadInput s_BadShown_BadInput (show decide (("BadShown":Str)="BadInput")=false by decide+kernel),fmc_ ⟨exm_mk hL_BadLabels s_BadShown_BadLabels (show decide (("BadShown":Str)="BadLabels")=false by decide+kernel),fmc_ ⟨exm_mk hL_BadStop s_BadShown_BadStop (show decide (("BadShown":Str)="BadStop")=false by decide+kernel),fmc_ ⟨exm_mk hL_BadWay s_BadShown_BadWay (show decide (("BadShown":Str)="BadWay")=false by decide+kernel),fmc_ ⟨exm_mk hL_BadShown s_BadShown_BadShown (show decide (("BadShown":Str)="BadShown")=true by decide+kernel),fmc_ ⟨exm_mk hL_BadValues s_BadShown_BadValues (show decide (("BadShown":Str)="BadValues")=false by decide+kernel),fmc_ ⟨exm_mk hL_BadShape s_BadShown_BadShape (show decide (("BadShown":Str)="BadShape")=false by decide+kernel),fmc_ ⟨exm_mk hL_BadMark s_BadShown_BadMark (show decide (("BadShown":Str)="BadMark")=false by decide+kernel),fmc_ ⟨exm_mk hL_BadOption s_BadShown_BadOption (show decide (("BadShown":Str)="BadOption")=false by decide+kernel),fmc_ ⟨exm_mk hL_BadWish s_BadShown_BadWish (show decide (("BadShown":Str)="BadWish")=false by decide+kernel),fmc_ ⟨exm_mk hL_BadTable s_BadShown_BadTable (show decide (("BadShown":Str)="BadTable")=false by decide+kernel),fmc_ ⟨exm_mk hL_BadFrame s_BadShown_BadFrame (show decide (("BadShown":Str)="BadFrame")=false by decide+kernel),fmc_ ⟨exm_mk hL_BadText s_BadShown_BadText (show decide (("BadShown":Str)="BadText")=false by decide+kernel),fmc_ ⟨exm_mk hL_BadLine s_BadShown_BadLine (show decide (("BadShown":Str)="BadLine")=false by decide+kernel),fmc_ ⟨exm_mk hL_BadTruth s_BadShown_BadTruth (show decide (("BadShown":Str)="BadTruth")=false by decide+kernel),fmc_ ⟨exm_mk hL_Untrue s_BadShown_Untrue (show decide (("BadShown":Str)="Untrue")=false by decide+kernel),fmc_ ⟨exm_mk hL_UnknownBlock s_BadShown_UnknownBlock (show decide (("BadShown":Str)="UnknownBlock")=false by decide+kernel),fmc_ ⟨exm_mk hL_UnknownName s_BadShown_UnknownName (show decide (("BadShown":Str)="UnknownName")=false by decide+kernel),fmc_ ⟨exm_mk hL_TooMany s_BadShown_TooMany (show decide (("BadShown":Str)="TooMany")=false by decide+kernel),fmc_ ⟨exm_mk hL_NothingToUndo s_BadShown_NothingToUndo (show decide (("BadShown":Str)="NothingToUndo")=false by decide+kernel),fun _ h=>nomatch h⟩⟩⟩⟩⟩⟩⟩⟩⟩⟩⟩⟩⟩⟩⟩⟩⟩⟩⟩⟩⟩⟩),fmc_ ⟨(fmc_ ⟨exm_mk hL_BadRow s_BadValues_BadRow (show decide (("BadValues":Str)="BadRow")=false by decide+kernel),fmc_ ⟨exm_mk hL_BadBlock s_BadValues_BadBlock (show decide (("BadValues":Str)="BadBlock")=false by decide+kernel),fmc_ ⟨exm_mk hL_BadInput s_BadValues_BadInput (show decide (("BadValues":Str)="BadInput")=false by decide+kernel),fmc_ ⟨exm_mk hL_BadLabels s_BadValues_BadLabels (show decide (("BadValues":Str)="BadLabels")=false by decide+kernel),fmc_ ⟨exm_mk hL_BadStop s_BadValues_BadStop (show decide (("BadValues":Str)="BadStop")=false by decide+kernel),fmc_ ⟨exm_mk hL_BadWay s_BadValues_BadWay (show decide (("BadValues":Str)="BadWay")=false by decide+kernel),fmc_ ⟨exm_mk hL_BadShown s_BadValues_BadShown (show decide (("BadValues":Str)="BadShown")=false by decide+kernel),fmc_ ⟨exm_mk hL_BadValues s_BadValues_BadValues (show decide (("BadValues":Str)="BadValues")=true by decide+kernel),fmc_ ⟨exm_mk hL_BadShape s_BadValues_BadShape (show decide (("BadValues":Str)="BadShape")=false by decide+kernel),fmc_ ⟨exm_mk hL_BadMark s_BadValues_BadMark (show decide (("BadValues":Str)="BadMark")=false by decide+kernel),fmc_ ⟨exm_mk hL_BadOption s_BadValues_BadOption (show decide (("BadValues":Str)="BadOption")=false by decide+kernel),fmc_ ⟨exm_mk hL_BadWish s_BadValues_BadWish (show decide (("BadValues":Str)="BadWish")=false by decide+kernel),fmc_ ⟨exm_mk hL_BadTable s_BadValues_BadTable (show decide (("BadValues":Str)="BadTable")=false by decide+kernel),fmc_ ⟨exm_mk hL_BadFrame s_BadValues_BadFrame (show decide (("BadValues":Str)="BadFrame")=false by decide+kernel),fmc_ ⟨exm_mk hL_BadText s_BadValues_BadText (show decide (("BadValues":Str)="BadText")=false by decide+kernel),fmc_ ⟨exm_mk hL_BadLine s_BadValues_BadLine (show decide (("BadValues":Str)="BadLine")=false by decide+kernel),fmc_ ⟨exm_mk hL_BadTruth s_BadValues_BadTruth (show decide (("BadValues":Str)="BadTruth")=false by decide+kernel),fmc_ ⟨exm_mk hL_Untrue s_BadValues_Untrue (show decide (("BadValues":Str)="Untrue")=false by decide+kernel),fmc_ ⟨exm_mk hL_UnknownBlock s_BadValues_UnknownBlock (show decide (("BadValues":Str)="UnknownBlock")=false by decide+kernel),fmc_ ⟨exm_mk hL_UnknownName s_BadValues_UnknownName (show decide (("BadValues":Str)="UnknownName")=false by decide+kernel),fmc_ ⟨exm_mk hL_TooMany s_BadValues_TooMany (show decide (("BadValues":Str)="TooMany")=false by decide+kernel),fmc_ ⟨exm_mk hL_NothingToUndo s_BadValues_NothingToUndo (show decide (("BadValues":Str)="NothingToUndo")=false by decide+kernel),fun _ h=>nomatch h⟩⟩⟩⟩⟩⟩⟩⟩⟩⟩⟩⟩⟩⟩⟩⟩⟩⟩⟩⟩⟩⟩),fmc_ ⟨(fmc_ ⟨exm_mk hL_BadRow s_BadShape_BadRow (show decide (("BadShape":Str)="BadRow")=false by decide+kernel),fmc_ ⟨exm_mk hL_BadBlock s_BadShape_BadBlock (show decide (("BadShape":Str)="BadBlock")=false by decide+kernel),fmc_ ⟨exm_mk hL_BadInput s_BadShape_BadInput (show decide (("BadShape":Str)="BadInput")=false by decide+kernel),fmc_ ⟨exm_mk hL_BadLabels s_BadShape_BadLabels (show decide (("BadShape":Str)="BadLabels")=false by decide+kernel),fmc_ ⟨exm_mk hL_BadStop s_BadShape_BadStop (show decide (("BadShape":Str)="BadStop")=false by decide+kernel),fmc_ ⟨exm_mk hL_BadWay s_BadShape_BadWay (show decide (("BadShape":Str)="BadWay")=false by decide+kernel),fmc_ ⟨exm_mk hL_BadShown s_BadShape_BadShown (show decide (("BadShape":Str)="BadShown")=false by decide+kernel),fmc_ ⟨exm_mk hL_BadValues s_BadShape_BadValues (show decide (("BadShape":Str)="BadValues")=false by decide+kernel),fmc_ ⟨exm_mk hL_BadShape s_BadShape_BadShape (show decide (("BadShape":Str)="BadShape")=true by decide+kernel),fmc_ ⟨exm_mk hL_BadMark s_BadShape_BadMark (show decide (("BadShape":Str)="BadMark")=false by decide+kernel),fmc_ ⟨exm_mk hL_BadOption s_BadShape_BadOption (show decide (("BadShape":Str)="BadOption")=false by decide+kernel),fmc_ ⟨exm_mk hL_BadWish s_BadShape_BadWish (show decide (("BadShape":Str)="BadWish")=false by decide+kernel),fmc_ ⟨exm_mk hL_BadTable s_BadShape_BadTable (show decide (("BadShape":Str)="BadTable")=false by decide+kernel),fmc_ ⟨exm_mk hL_BadFrame s_BadShape_BadFrame (show decide (("BadShape":Str)="BadFrame")=false by decide+kernel),fmc_ ⟨exm_mk hL_BadText s_BadShape_BadText (show decide (("BadShape":Str)="BadText")=false by decide+kernel),fmc_ ⟨exm_mk hL_BadLine s_BadShape_BadLine (show decide (("BadShape":Str)="BadLine")=false by decide+kernel),fmc_ ⟨exm_mk hL_BadTruth s_BadShape_BadTruth (show decide (("BadShape":Str)="BadTruth")=false by decide+kernel),fmc_ ⟨exm_mk hL_Untrue s_BadShape_Untrue (show decide (("BadShape":Str)="Untrue")=false by decide+kernel),fmc_ ⟨exm_mk hL_UnknownBlock s_BadShape_UnknownBlock (show decide (("BadShape":Str)="UnknownBlock")=false by decide+kernel),fmc_ ⟨exm_mk hL_UnknownName s_BadShape_UnknownName (show decide (("BadShape":Str)="UnknownName")=false by decide+kernel),fmc_ ⟨exm_mk hL_TooMany s_BadShape_TooMany (show decide (("BadShape":Str)="TooMany")=false by decide+kernel),fmc_ ⟨exm_mk hL_NothingToUndo s_BadShape_NothingToUndo (show decide (("BadShape":Str)="NothingToUndo")=false by decide+kernel),fun _ h=>nomatch h⟩⟩⟩⟩⟩⟩⟩⟩⟩⟩⟩⟩⟩⟩⟩⟩⟩⟩⟩⟩⟩⟩),fmc_ ⟨(fmc_ ⟨exm_mk hL_BadRow s_BadMark_BadRow (show decide (("BadMark":Str)="BadRow")=false by decide+kernel),fmc_ ⟨exm_mk hL_BadBlock s_BadMark_BadBlock (show decide (("BadMark":Str)="BadBlock")=false by decide+kernel),fmc_ ⟨exm_mk hL_BadInput s_BadMark_BadInput (show decide (("BadMark":Str)="BadInput")=false by decide+kernel),fmc_ ⟨exm_mk hL_BadLabels s_BadMark_BadLabels (show decide (("BadMark":Str)="BadLabels")=false by decide+kernel),fmc_ ⟨exm_mk hL_BadStop s_BadMark_BadStop (show decide (("BadMark":Str)="BadStop")=false by decide+kernel),fmc_ ⟨exm_mk hL_BadWay s_BadMark_BadWay (show decide (("BadMark":Str)="BadWay")=false by decide+kernel),fmc_ ⟨exm_mk hL_BadShown s_BadMark_BadShown (show decide (("BadMark":Str)="BadShown")=false by decide+kernel),fmc_ ⟨exm_mk hL_BadValues s_BadMark_BadValues (show decide (("BadMark":Str)="BadValues")=false by decide+kernel),fmc_ ⟨exm_mk hL_BadShape s_BadMark_BadShape (show decide (("BadMark":Str)="BadShape")=false by decide+kernel),fmc_ ⟨exm_mk hL_BadMark s_BadMark_BadMark (show decide (("BadMark":Str)="BadMark")=true by decide+kernel),fmc_ ⟨exm_mk hL_BadOption s_BadMark_BadOption (show decide (("BadMark":Str)="BadOption")=false by decide+kernel),fmc_ ⟨exm_mk hL_BadWish s_BadMark_BadWish (show decide (("BadMark":Str)="BadWish")=false by decide+kernel),fmc_ ⟨exm_mk hL_BadTable s_BadMark_BadTable (show decide (("BadMark":Str)="BadTable")=false by decide+kernel),fmc_ ⟨exm_mk hL_BadFrame s_BadMark_BadFrame (show decide (("BadMark":Str)="BadFrame")=false by decide+kernel),fmc_ ⟨exm_mk hL_BadText s_BadMark_BadText (show decide (("BadMark":Str)="BadText")=false by decide+kernel),fmc_ ⟨exm_mk hL_BadLine s_BadMark_BadLine (show decide (("BadMark":Str)="BadLine")=false by decide+kernel),fmc_ ⟨exm_mk hL_BadTruth s_BadMark_BadTruth (show decide (("BadMark":Str)="BadTruth")=false by decide+kernel),fmc_ ⟨exm_mk hL_Untrue s_BadMark_Untrue (show decide (("BadMark":Str)="Untrue")=false by decide+kernel),fmc_ ⟨exm_mk hL_UnknownBlock s_BadMark_UnknownBlock (show decide (("BadMark":Str)="UnknownBlock")=false by decide+kernel),fmc_ ⟨exm_mk hL_UnknownName s_BadMark_UnknownName (show decide (("BadMark":Str)="UnknownName")=false by decide+kernel),fmc_ ⟨exm_mk hL_TooMany s_BadMark_TooMany (show decide (("BadMark":Str)="TooMany")=false by decide+kernel),fmc_ ⟨exm_mk hL_NothingToUndo s_BadMark_NothingToUndo (show decide (("BadMark":Str)="NothingToUndo")=false by decide+kernel),fun _ h=>nomatch h⟩⟩⟩⟩⟩⟩⟩⟩⟩⟩⟩⟩⟩⟩⟩⟩⟩⟩⟩⟩⟩⟩),fmc_ ⟨(fmc_ ⟨exm_mk hL_BadRow s_BadOption_BadRow (show decide (("BadOption":Str)="BadRow")=false by decide+kernel),fmc_ ⟨exm_mk hL_BadBlock s_BadOption_BadBlock (show decide (("BadOption":Str)="BadBlock")=false by decide+kernel),fmc_ ⟨exm_mk hL_BadInput s_BadOption_BadInput (show decide (("BadOption":Str)="BadInput")=false by decide+kernel),fmc_ ⟨exm_mk hL_BadLabels s_BadOption_BadLabels (show decide (("BadOption":Str)="BadLabels")=false by decide+kernel),fmc_ ⟨exm_mk hL_BadStop s_BadOption_BadStop (show decide (("BadOption":Str)="BadStop")=false by decide+kernel),fmc_ ⟨exm_mk hL_BadWay s_BadOption_BadWay (show decide (("BadOption":Str)="BadWay")=false by decide+kernel),fmc_ ⟨exm_mk hL_BadShown s_BadOption_BadShown (show decide (("BadOption":Str)="BadShown")=false by decide+kernel),fmc_ ⟨exm_mk hL_BadValues s_BadOption_BadValues (show decide (("BadOption":Str)="BadValues")=false by decide+kernel),fmc_ ⟨exm_mk hL_BadShape s_BadOption_BadShape (show decide (("BadOption":Str)="BadShape")=false by decide+kernel),fmc_ ⟨exm_mk hL_BadMark s_BadOption_BadMark (show decide (("BadOption":Str)="BadMark")=false by decide+kernel),fmc_ ⟨exm_mk hL_BadOption s_BadOption_BadOption (show decide (("BadOption":Str)="BadOption")=true by decide+kernel),fmc_ ⟨exm_mk hL_BadWish s_BadOption_BadWish (show decide (("BadOption":Str)="BadWish")=false by decide+kernel),fmc_ ⟨exm_mk hL_BadTable s_BadOption_BadTable (show decide (("BadOption":Str)="BadTable")=false by decide+kernel),fmc_ ⟨exm_mk hL_BadFrame s_BadOption_BadFrame (show decide (("BadOption":Str)="BadFrame")=false by decide+kernel),fmc_ ⟨exm_mk hL_BadText s_BadOption_BadText (show decide (("BadOption":Str)="BadText")=false by decide+kernel),fmc_ ⟨exm_mk hL_BadLine s_BadOption_BadLine (show decide (("BadOption":Str)="BadLine")=false by decide+kernel),fmc_ ⟨exm_mk hL_BadTruth s_BadOption_BadTruth (show decide (("BadOption":Str)="BadTruth")=false by decide+kernel),fmc_ ⟨exm_mk hL_Untrue s_BadOption_Untrue (show decide (("BadOption":Str)="Untrue")=false by decide+kernel),fmc_ ⟨exm_mk hL_UnknownBlock s_BadOption_UnknownBlock (show decide (("BadOption":Str)="UnknownBlock")=false by decide+kernel),fmc_ ⟨exm_mk hL_UnknownName s_BadOption_UnknownName (show decide (("BadOption":Str)="UnknownName")=false by decide+kernel),fmc_ ⟨exm_mk hL_TooMany s_BadOption_TooMany (show decide (("BadOption":Str)="TooMany")=false by decide+kernel),fmc_ ⟨exm_mk hL_NothingToUndo s_BadOption_NothingToUndo (show decide (("BadOption":Str)="NothingToUndo")=false by decide+kernel),fun _ h=>nomatch h⟩⟩⟩⟩⟩⟩⟩⟩⟩⟩⟩⟩⟩⟩⟩⟩⟩⟩⟩⟩⟩⟩),fmc_ ⟨(fmc_ ⟨exm_mk hL_BadRow s_BadWish_BadRow (show decide (("BadWish":Str)="BadRow")=false by decide+kernel),fmc_ ⟨exm_mk hL_BadBlock s_BadWish_BadBlock (show decide (("BadWish":Str)="BadBlock")=false by decide+kernel),fmc_ ⟨exm_mk hL_BadInput s_BadWish_BadInput (show decide (("BadWish":Str)="BadInput")=false by decide+kernel),fmc_ ⟨exm_mk hL_BadLabels s_BadWish_BadLabels (show decide (("BadWish":Str)="BadLabels")=false by decide+kernel),fmc_ ⟨exm_mk hL_BadStop s_BadWish_BadStop (show decide (("BadWish":Str)="BadStop")=false by decide+kernel),fmc_ ⟨exm_mk hL_BadWay s_BadWish_BadWay (show decide (("BadWish":Str)="BadWay")=false by decide+kernel),fmc_ ⟨exm_mk hL_BadShown s_BadWish_BadShown (show decide (("BadWish":Str)="BadShown")=false by decide+kernel),fmc_ ⟨exm_mk hL_BadValues s_BadWish_BadValues (show decide (("BadWish":Str)="BadValues")=false by decide+kernel),fmc_ ⟨exm_mk hL_BadShape s_BadWish_BadShape (show decide (("BadWish":Str)="BadShape")=false by decide+kernel),fmc_ ⟨exm_mk hL_BadMark s_BadWish_BadMark (show decide (("BadWish":Str)="BadMark")=false by decide+kernel),fmc_ ⟨exm_mk hL_BadOption s_BadWish_BadOption (show decide (("BadWish":Str)="BadOption")=false by decide+kernel),fmc_ ⟨exm_mk hL_BadWish s_BadWish_BadWish (show decide (("BadWish":Str)="BadWish")=true by decide+kernel),fmc_ ⟨exm_mk hL_BadTable s_BadWish_BadTable (show decide (("BadWish":Str)="BadTable")=false by decide+kernel),fmc_ ⟨exm_mk hL_BadFrame s_BadWish_BadFrame (show decide (("BadWish":Str)="BadFrame")=false by decide+kernel),fmc_ ⟨exm_mk hL_BadText s_BadWish_BadText (show decide (("BadWish":Str)="BadText")=false by decide+kernel),fmc_ ⟨exm_mk hL_BadLine s_BadWish_BadLine (show decide (("BadWish":Str)="BadLine")=false by decide+kernel),fmc_ ⟨exm_mk hL_BadTruth s_BadWish_BadTruth (show decide (("BadWish":Str)="BadTruth")=false by decide+kernel),fmc_ ⟨exm_mk hL_Untrue s_BadWish_Untrue (show decide (("BadWish":Str)="Untrue")=false by decide+kernel),fmc_ ⟨exm_mk hL_UnknownBlock s_BadWish_UnknownBlock (show decide (("BadWish":Str)="UnknownBlock")=false by decide+kernel),fmc_ ⟨exm_mk hL_UnknownName s_BadWish_UnknownName (show decide (("BadWish":Str)="UnknownName")=false by decide+kernel),fmc_ ⟨exm_mk hL_TooMany s_BadWish_TooMany (show decide (("BadWish":Str)="TooMany")=false by decide+kernel),fmc_ ⟨exm_mk hL_NothingToUndo s_BadWish_NothingToUndo (show decide (("BadWish":Str)="NothingToUndo")=false by decide+kernel),fun _ h=>nomatch h⟩⟩⟩⟩⟩⟩⟩⟩⟩⟩⟩⟩⟩⟩⟩⟩⟩⟩⟩⟩⟩⟩),fmc_ ⟨(fmc_ ⟨exm_mk hL_BadRow s_BadTable_BadRow (show decide (("BadTable":Str)="BadRow")=false by decide+kernel),fmc_ ⟨exm_mk hL_BadBlock s_BadTable_BadBlock (show decide (("BadTable":Str)="BadBlock")=false by decide+kernel),fmc_ ⟨exm_mk hL_BadInput s_BadTable_BadInput (show decide (("BadTable":Str)="BadInput")=false by decide+kernel),fmc_ ⟨exm_mk hL_BadLabels s_BadTable_BadLabels (show decide (("BadTable":Str)="BadLabels")=false by decide+kernel),fmc_ ⟨exm_mk hL_BadStop s_BadTable_BadStop (show decide (("BadTable":Str)="BadStop")=false by decide+kernel),fmc_ ⟨exm_mk hL_BadWay s_BadTable_BadWay (show decide (("BadTable":Str)="BadWay")=false by decide+kernel),fmc_ ⟨exm_mk hL_BadShown s_BadTable_BadShown (show decide (("BadTable":Str)="BadShown")=false by decide+kernel),fmc_ ⟨exm_mk hL_BadValues s_BadTable_BadValues (show decide (("BadTable":Str)="BadValues")=false by decide+kernel),fmc_ ⟨exm_mk hL_BadShape s_BadTable_BadShape (show decide (("BadTable":Str)="BadShape")=false by decide+kernel),fmc_ ⟨exm_mk hL_BadMark s_BadTable_BadMark (show decide (("BadTable":Str)="BadMark")=false by decide+kernel),fmc_ ⟨exm_mk hL_BadOption s_BadTable_BadOption (show decide (("BadTable":Str)="BadOption")=false by decide+kernel),fmc_ ⟨exm_mk hL_BadWish s_BadTable_BadWish (show decide (("BadTable":Str)="BadWish")=false by decide+kernel),fmc_ ⟨exm_mk hL_BadTable s_BadTable_BadTable (show decide (("BadTable":Str)="BadTable")=true by decide+kernel),fmc_ ⟨exm_mk hL_BadFrame s_BadTable_BadFrame (show decide (("BadTable":Str)="BadFrame")=false by decide+kernel),fmc_ ⟨exm_mk hL_BadText s_BadTable_BadText (show decide (("BadTable":Str)="BadText")=false by decide+kernel),fmc_ ⟨exm_mk hL_BadLine s_BadTable_BadLine (show decide (("BadTable":Str)="BadLine")=false by decide+kernel),fmc_ ⟨exm_mk hL_BadTruth s_BadTable_BadTruth (show decide (("BadTable":Str)="BadTruth")=false by decide+kernel),fmc_ ⟨exm_mk hL_Untrue s_BadTable_Untrue (show decide (("BadTable":Str)="Untrue")=false by decide+kernel),fmc_ ⟨exm_mk hL_UnknownBlock s_BadTable_UnknownBlock (show decide (("BadTable":Str)="UnknownBlock")=false by decide+kernel),fmc_ ⟨exm_mk hL_UnknownName s_BadTable_UnknownName (show decide (("BadTable":Str)="UnknownName")=false by decide+kernel),fmc_ ⟨exm_mk hL_TooMany s_BadTable_TooMany (show decide (("BadTable":Str)="TooMany")=false by decide+kernel),fmc_ ⟨exm_mk hL_NothingToUndo s_BadTable_NothingToUndo (show decide (("BadTable":Str)="NothingToUndo")=false by decide+kernel),fun _ h=>nomatch h⟩⟩⟩⟩⟩⟩⟩⟩⟩⟩⟩⟩⟩⟩⟩⟩⟩⟩⟩⟩⟩⟩),fmc_ ⟨(fmc_ ⟨exm_mk hL_BadRow s_BadFrame_BadRow (show decide (("BadFrame":Str)="BadRow")=false by decide+kernel),fmc_ ⟨exm_mk hL_BadBlock s_BadFrame_BadBlock (show decide (("BadFrame":Str)="BadBlock")=false by decide+kernel),fmc_ ⟨exm_mk hL_BadInput s_BadFrame_BadInput (show decide (("BadFrame":Str)="BadInput")=false by decide+kernel),fmc_ ⟨exm_mk hL_BadLabels s_BadFrame_BadLabels (show decide (("BadFrame":Str)="BadLabels")=false by decide+kernel),fmc_ ⟨exm_mk hL_BadStop s_BadFrame_BadStop (show decide (("BadFrame":Str)="BadStop")=false by decide+kernel),fmc_ ⟨exm_mk hL_BadWay s_BadFrame_BadWay (show decide (("BadFrame":Str)="BadWay")=false by decide+kernel),fmc_ ⟨exm_mk hL_BadShown s_BadFrame_BadShown (show decide (("BadFrame":Str)="BadShown")=false by decide+kernel),fmc_ ⟨exm_mk hL_BadValues s_BadFrame_BadValues (show decide (("BadFrame":Str)="BadValues")=false by decide+kernel),fmc_ ⟨exm_mk hL_BadShape s_BadFrame_BadShape (show decide (("BadFrame":Str)="BadShape")=false by decide+kernel),fmc_ ⟨exm_mk hL_BadMark s_BadFrame_BadMark (show decide (("BadFrame":Str)="BadMark")=false by decide+kernel),fmc_ ⟨exm_mk hL_BadOption s_BadFrame_BadOption (show decide (("BadFrame":Str)="BadOption")=false by decide+kernel),fmc_ ⟨exm_mk hL_BadWish s_BadFrame_BadWish (show decide (("BadFrame":Str)="BadWish")=false by decide+kernel),fmc_ ⟨exm_mk hL_BadTable s_BadFrame_BadTable (show decide (("BadFrame":Str)="BadTable")=false by decide+kernel),fmc_ ⟨exm_mk hL_BadFrame s_BadFrame_BadFrame (show decide (("BadFrame":Str)="BadFrame")=true by decide+kernel),fmc_ ⟨exm_mk hL_BadText s_BadFrame_BadText (show decide (("BadFrame":Str)="BadText")=false by decide+kernel),fmc_ ⟨exm_mk hL_BadLine s_BadFrame_BadLine (show decide (("BadFrame":Str)="BadLine")=false by decide+kernel),fmc_ ⟨exm_mk hL_BadTruth s_BadFrame_BadTruth (show decide (("BadFrame":Str)="BadTruth")=false by decide+kernel),fmc_ ⟨exm_mk hL_Untrue s_BadFrame_Untrue (show decide (("BadFrame":Str)="Untrue")=false by decide+kernel),fmc_ ⟨exm_mk hL_UnknownBlock s_BadFrame_UnknownBlock (show decide (("BadFrame":Str)="UnknownBlock")=false by decide+kernel),fmc_ ⟨exm_mk hL_UnknownName s_BadFrame_UnknownName (show decide (("BadFrame":Str)="UnknownName")=false by decide+kernel),fmc_ ⟨exm_mk hL_TooMany s_BadFrame_TooMany (show decide (("BadFrame":Str)="TooMany")=false by decide+kernel),fmc_ ⟨exm_mk hL_NothingToUndo s_BadFrame_NothingToUndo (show decide (("BadFrame":Str)="NothingToUndo")=false by decide+kernel),fun _ h=>nomatch h⟩⟩⟩⟩⟩⟩⟩⟩⟩⟩⟩⟩⟩⟩⟩⟩⟩⟩⟩⟩⟩⟩),fmc_ ⟨(fmc_ ⟨exm_mk hL_BadRow s_BadText_BadRow (show decide (("BadText":Str)="BadRow")=false by decide+kernel),fmc_ ⟨exm_mk hL_BadBlock s_BadText_BadBlock (show decide (("BadText":Str)="BadBlock")=false by decide+kernel),fmc_ ⟨exm_mk hL_BadInput s_BadText_BadInput (show decide (("BadText":Str)="BadInput")=false by decide+kernel),fmc_ ⟨exm_mk hL_BadLabels s_BadText_BadLabels (show decide (("BadText":Str)="BadLabels")=false by decide+kernel),fmc_ ⟨exm_mk hL_BadStop s_BadText_BadStop (show decide (("BadText":Str)="BadStop")=false by decide+kernel),fmc_ ⟨exm_mk hL_BadWay s_BadText_BadWay (show decide (("BadText":Str)="BadWay")=false by decide+kernel),fmc_ ⟨exm_mk hL_BadShown s_BadText_BadShown (show decide (("BadText":Str)="BadShown")=false by decide+kernel),fmc_ ⟨exm_mk hL_BadValues s_BadText_BadValues (show decide (("BadText":Str)="BadValues")=false by decide+kernel),fmc_ ⟨exm_mk hL_BadShape s_BadText_BadShape (show decide (("BadText":Str)="BadShape")=false by decide+kernel),fmc_ ⟨exm_mk hL_BadMark s_BadText_BadMark (show decide (("BadText":Str)="BadMark")=false by decide+kernel),fmc_ ⟨exm_mk hL_BadOption s_BadText_BadOption (show decide (("BadText":Str)="BadOption")=false by decide+kernel),fmc_ ⟨exm_mk hL_BadWish s_BadText_BadWish (show decide (("BadText":Str)="BadWish")=false by decide+kernel),fmc_ ⟨exm_mk hL_BadTable s_BadText_BadTable (show decide (("BadText":Str)="BadTable")=false by decide+kernel),fmc_ ⟨exm_mk hL_BadFrame s_BadText_BadFrame (show decide (("BadText":Str)="BadFrame")=false by decide+kernel),fmc_ ⟨exm_mk hL_BadText s_BadText_BadText (show decide (("BadText":Str)="BadText")=true by decide+kernel),fmc_ ⟨exm_mk hL_BadLine s_BadText_BadLine (show decide (("BadText":Str)="BadLine")=false by decide+kernel),fmc_ ⟨exm_mk hL_BadTruth s_BadText_BadTruth (show decide (("BadText":Str)="BadTruth")=false by decide+kernel),fmc_ ⟨exm_mk hL_Untrue s_BadText_Untrue (show decide (("BadText":Str)="Untrue")=false by decide+kernel),fmc_ ⟨exm_mk hL_UnknownBlock s_BadText_UnknownBlock (show decide (("BadText":Str)="UnknownBlock")=false by decide+kernel),fmc_ ⟨exm_mk hL_UnknownName s_BadText_UnknownName (show decide (("BadText":Str)="UnknownName")=false by decide+kernel),fmc_ ⟨exm_mk hL_TooMany s_BadText_TooMany (show decide (("BadText":Str)="TooMany")=false by decide+kernel),fmc_ ⟨exm_mk hL_NothingToUndo s_BadText_NothingToUndo (show decide (("BadText":Str)="NothingToUndo")=false by decide+kernel),fun _ h=>nomatch h⟩⟩⟩⟩⟩⟩⟩⟩⟩⟩⟩⟩⟩⟩⟩⟩⟩⟩⟩⟩⟩⟩),fmc_ ⟨(fmc_ ⟨exm_mk hL_BadRow s_BadLine_BadRow (show decide (("BadLine":Str)="BadRow")=false by decide+kernel),fmc_ ⟨exm_mk hL_BadBlock s_BadLine_BadBlock (show decide (("BadLine":Str)="BadBlock")=false by decide+kernel),fmc_ ⟨exm_mk hL_BadInput s_BadLine_BadInput (show decide (("BadLine":Str)="BadInput")=false by decide+kernel),fmc_ ⟨exm_mk hL_BadLabels s_BadLine_BadLabels (show decide (("BadLine":Str)="BadLabels")=false by decide+kernel),fmc_ ⟨exm_mk hL_BadStop s_BadLine_BadStop (show decide (("BadLine":Str)="BadStop")=false by decide+kernel),fmc_ ⟨exm_mk hL_BadWay s_BadLine_BadWay (show decide (("BadLine":Str)="BadWay")=false by decide+kernel),fmc_ ⟨exm_mk hL_BadShown s_BadLine_BadShown (show decide (("BadLine":Str)="BadShown")=false by decide+kernel),fmc_ ⟨exm_mk hL_BadValues s_BadLine_BadValues (show decide (("BadLine":Str)="BadValues")=false by decide+kernel),fmc_ ⟨exm_mk hL_BadShape s_BadLine_BadShape (show decide (("BadLine":Str)="BadShape")=false by decide+kernel),fmc_ ⟨exm_mk hL_BadMark s_BadLine_BadMark (show decide (("BadLine":Str)="BadMark")=false by decide+kernel),fmc_ ⟨exm_mk hL_BadOption s_BadLine_BadOption (show decide (("BadLine":Str)="BadOption")=false by decide+kernel),fmc_ ⟨exm_mk hL_BadWish s_BadLine_BadWish (show decide (("BadLine":Str)="BadWish")=false by decide+kernel),fmc_ ⟨exm_mk hL_BadTable s_BadLine_BadTable (show decide (("BadLine":Str)="BadTable")=false by decide+kernel),fmc_ ⟨exm_mk hL_BadFrame s_BadLine_BadFrame (show decide (("BadLine":Str)="BadFrame")=false by decide+kernel),fmc_ ⟨exm_mk hL_BadText s_BadLine_BadText (show decide (("BadLine":Str)="BadText")=false by decide+kernel),fmc_ ⟨exm_mk hL_BadLine s_BadLine_BadLine (show decide (("BadLine":Str)="BadLine")=true by decide+kernel),fmc_ ⟨exm_mk hL_BadTruth s_BadLine_BadTruth (show decide (("BadLine":Str)="BadTruth")=false by decide+kernel),fmc_ ⟨exm_mk hL_Untrue s_BadLine_Untrue (show decide (("BadLine":Str)="Untrue")=false by decide+kernel),fmc_ ⟨exm_mk hL_UnknownBlock s_BadLine_UnknownBlock (show decide (("BadLine":Str)="UnknownBlock")=false by decide+kernel),fmc_ ⟨exm_mk hL_UnknownName s_BadLine_UnknownName (show decide (("BadLine":Str)="UnknownName")=false by decide+kernel),fmc_ ⟨exm_mk hL_TooMany s_BadLine_TooMany (show decide (("BadLine":Str)="TooMany")=false by decide+kernel),fmc_ ⟨exm_mk hL_NothingToUndo s_BadLine_NothingToUndo (show decide (("BadLine":Str)="NothingToUndo")=false by decide+kernel),fun _ h=>nomatch h⟩⟩⟩⟩⟩⟩⟩⟩⟩⟩⟩⟩⟩⟩⟩⟩⟩⟩⟩⟩⟩⟩),fmc_ ⟨(fmc_ ⟨exm_mk hL_BadRow s_BadTruth_BadRow (show decide (("BadTruth":Str)="BadRow")=false by decide+kernel),fmc_ ⟨exm_mk hL_BadBlock s_BadTruth_BadBlock (show decide (("BadTruth":Str)="BadBlock")=false by decide+kernel),fmc_ ⟨exm_mk hL_BadInput s_BadTruth_BadInput (show decide (("BadTruth":Str)="BadInput")=false by decide+kernel),fmc_ ⟨exm_mk hL_BadLabels s_BadTruth_BadLabels (show decide (("BadTruth":Str)="BadLabels")=false by decide+kernel),fmc_ ⟨exm_mk hL_BadStop s_BadTruth_BadStop (show decide (("BadTruth":Str)="BadStop")=false by decide+kernel),fmc_ ⟨exm_mk hL_BadWay s_BadTruth_BadWay (show decide (("BadTruth":Str)="BadWay")=false by decide+kernel),fmc_ ⟨exm_mk hL_BadShown s_BadTruth_BadShown (show decide (("BadTruth":Str)="BadShown")=false by decide+kernel),fmc_ ⟨exm_mk hL_BadValues s_BadTruth_BadValues (show decide (("BadTruth":Str)="BadValues")=false by decide+kernel),fmc_ ⟨exm_mk hL_BadShape s_BadTruth_BadShape (show decide (("BadTruth":Str)="BadShape")=false by decide+kernel),fmc_ ⟨exm_mk hL_BadMark s_BadTruth_BadMark (show decide (("BadTruth":Str)="BadMark")=false by decide+kernel),fmc_ ⟨exm_mk hL_BadOption s_BadTruth_BadOption (show decide (("BadTruth":Str)="BadOption")=false by decide+kernel),fmc_ ⟨exm_mk hL_BadWish s_BadTruth_BadWish (show decide (("BadTruth":Str)="BadWish")=false by decide+kernel),fmc_ ⟨exm_mk hL_BadTable s_BadTruth_BadTable (show decide (("BadTruth":Str)="BadTable")=false by decide+kernel),fmc_ ⟨exm_mk hL_BadFrame s_BadTruth_BadFrame (show decide (("BadTruth":Str)="BadFrame")=false by decide+kernel),fmc_ ⟨exm_mk hL_BadText s_BadTruth_BadText (show decide (("BadTruth":Str)="BadText")=false by decide+kernel),fmc_ ⟨exm_mk hL_BadLine s_BadTruth_BadLine (show decide (("BadTruth":Str)="BadLine")=false by decide+kernel),fmc_ ⟨exm_mk hL_BadTruth s_BadTruth_BadTruth (show decide (("BadTruth":Str)="BadTruth")=true by decide+kernel),fmc_ ⟨exm_mk hL_Untrue s_BadTruth_Untrue (show decide (("BadTruth":Str)="Untrue")=false by decide+kernel),fmc_ ⟨exm_mk hL_UnknownBlock s_BadTruth_UnknownBlock (show decide (("BadTruth":Str)="UnknownBlock")=false by decide+kernel),fmc_ ⟨exm_mk hL_UnknownName s_BadTruth_UnknownName (show decide (("BadTruth":Str)="UnknownName")=false by decide+kernel),fmc_ ⟨exm_mk hL_TooMany s_BadTruth_TooMany (show decide (("BadTruth":Str)="TooMany")=false by decide+kernel),fmc_ ⟨exm_mk hL_NothingToUndo s_BadTruth_NothingToUndo (show decide (("BadTruth":Str)="NothingToUndo")=false by decide+kernel),fun _ h=>nomatch h⟩⟩⟩⟩⟩⟩⟩⟩⟩⟩⟩⟩⟩⟩⟩⟩⟩⟩⟩⟩⟩⟩),fmc_ ⟨(fmc_ ⟨exm_mk hL_BadRow s_Untrue_BadRow (show decide (("Untrue":Str)="BadRow")=false by decide+kernel),fmc_ ⟨exm_mk hL_BadBlock s_Untrue_BadBlock (show decide (("Untrue":Str)="BadBlock")=false by decide+kernel),fmc_ ⟨exm_mk hL_BadInput s_Untrue_BadInput (show decide (("Untrue":Str)="BadInput")=false by decide+kernel),fmc_ ⟨exm_mk hL_BadLabels s_Untrue_BadLabels (show decide (("Untrue":Str)="BadLabels")=false by decide+kernel),fmc_ ⟨exm_mk hL_BadStop s_Untrue_BadStop (show decide (("Untrue":Str)="BadStop")=false by decide+kernel),fmc_ ⟨exm_mk hL_BadWay s_Untrue_BadWay (show decide (("Untrue":Str)="BadWay")=false by decide+kernel),fmc_ ⟨exm_mk hL_BadShown s_Untrue_BadShown (show decide (("Untrue":Str)="BadShown")=false by decide+kernel),fmc_ ⟨exm_mk hL_BadValues s_Untrue_BadValues (show decide (("Untrue":Str)="BadValues")=false by decide+kernel),fmc_ ⟨exm_mk hL_BadShape s_Untrue_BadShape (show decide (("Untrue":Str)="BadShape")=false by decide+kernel),fmc_ ⟨exm_mk hL_BadMark s_Untrue_BadMark (show decide (("Untrue":Str)="BadMark")=false by decide+kernel),fmc_ ⟨exm_mk hL_BadOption s_Untrue_BadOption (show decide (("Untrue":Str)="BadOption")=false by decide+kernel),fmc_ ⟨exm_mk hL_BadWish s_Untrue_BadWish (show decide (("Untrue":Str)="BadWish")=false by decide+kernel),fmc_ ⟨exm_mk hL_BadTable s_Untrue_BadTable (show decide (("Untrue":Str)="BadTable")=false by decide+kernel),fmc_ ⟨exm_mk hL_BadFrame s_Untrue_BadFrame (show decide (("Untrue":Str)="BadFrame")=false by decide+kernel),fmc_ ⟨exm_mk hL_BadText s_Untrue_BadText (show decide (("Untrue":Str)="BadText")=false by decide+kernel),fmc_ ⟨exm_mk hL_BadLine s_Untrue_BadLine (show decide (("Untrue":Str)="BadLine")=false by decide+kernel),fmc_ ⟨exm_mk hL_BadTruth s_Untrue_BadTruth (show decide (("Untrue":Str)="BadTruth")=false by decide+kernel),fmc_ ⟨exm_mk hL_Untrue s_Untrue_Untrue (show decide (("Untrue":Str)="Untrue")=true by decide+kernel),fmc_ ⟨exm_mk hL_UnknownBlock s_Untrue_UnknownBlock (show decide (("Untrue":Str)="UnknownBlock")=false by decide+kernel),fmc_ ⟨exm_mk hL_UnknownName s_Untrue_UnknownName (show decide (("Untrue":Str)="UnknownName")=false by decide+kernel),fmc_ ⟨exm_mk hL_TooMany s_Untrue_TooMany (show decide (("Untrue":Str)="TooMany")=false by decide+kernel),fmc_ ⟨exm_mk hL_NothingToUndo s_Untrue_NothingToUndo (show decide (("Untrue":Str)="NothingToUndo")=false by decide+kernel),fun _ h=>nomatch h⟩⟩⟩⟩⟩⟩⟩⟩⟩⟩⟩⟩⟩⟩⟩⟩⟩⟩⟩⟩⟩⟩),fmc_ ⟨(fmc_ ⟨exm_mk hL_BadRow s_UnknownBlock_BadRow (show decide (("UnknownBlock":Str)="BadRow")=false by decide+kernel),fmc_ ⟨exm_mk hL_BadBlock s_UnknownBlock_BadBlock (show decide (("UnknownBlock":Str)="BadBlock")=false by decide+kernel),fmc_ ⟨exm_mk hL_BadInput s_UnknownBlock_BadInput (show decide (("UnknownBlock":Str)="BadInput")=false by decide+kernel),fmc_ ⟨exm_mk hL_BadLabels s_UnknownBlock_BadLabels (show decide (("UnknownBlock":Str)="BadLabels")=false by decide+kernel),fmc_ ⟨exm_mk hL_BadStop s_UnknownBlock_BadStop (show decide (("UnknownBlock":Str)="BadStop")=false by decide+kernel),fmc_ ⟨exm_mk hL_BadWay s_UnknownBlock_BadWay (show decide (("UnknownBlock":Str)="BadWay")=false by decide+kernel),fmc_ ⟨exm_mk hL_BadShown s_UnknownBlock_BadShown (show decide (("UnknownBlock":Str)="BadShown")=false by decide+kernel),fmc_ ⟨exm_mk hL_BadValues s_UnknownBlock_BadValues (show decide (("UnknownBlock":Str)="BadValues")=false by decide+kernel),fmc_ ⟨exm_mk hL_BadShape s_UnknownBlock_BadShape (show decide (("UnknownBlock":Str)="BadShape")=false by decide+kernel),fmc_ ⟨exm_mk hL_BadMark s_UnknownBlock_BadMark (show decide (("UnknownBlock":Str)="BadMark")=false by decide+kernel),fmc_ ⟨exm_mk hL_BadOption s_UnknownBlock_BadOption (show decide (("UnknownBlock":Str)="BadOption")=false by decide+kernel),fmc_ ⟨exm_mk hL_BadWish s_UnknownBlock_BadWish (show decide (("UnknownBlock":Str)="BadWish")=false by decide+kernel),fmc_ ⟨exm_mk hL_BadTable s_UnknownBlock_BadTable (show decide (("UnknownBlock":Str)="BadTable")=false by decide+kernel),fmc_ ⟨exm_mk hL_BadFrame s_UnknownBlock_BadFrame (show decide (("UnknownBlock":Str)="BadFrame")=false by decide+kernel),fmc_ ⟨exm_mk hL_BadText s_UnknownBlock_BadText (show decide (("UnknownBlock":Str)="BadText")=false by decide+kernel),fmc_ ⟨exm_mk hL_BadLine s_UnknownBlock_BadLine (show decide (("UnknownBlock":Str)="BadLine")=false by decide+kernel),fmc_ ⟨exm_mk hL_BadTruth s_UnknownBlock_BadTruth (show decide (("UnknownBlock":Str)="BadTruth")=false by decide+kernel),fmc_ ⟨exm_mk hL_Untrue s_UnknownBlock_Untrue (show decide (("UnknownBlock":Str)="Untrue")=false by decide+kernel),fmc_ ⟨exm_mk hL_UnknownBlock s_UnknownBlock_UnknownBlock (show decide (("UnknownBlock":Str)="UnknownBlock")=true by decide+kernel),fmc_ ⟨exm_mk hL_UnknownName s_UnknownBlock_UnknownName (show decide (("UnknownBlock":Str)="UnknownName")=false by decide+kernel),fmc_ ⟨exm_mk hL_TooMany s_UnknownBlock_TooMany (show decide (("UnknownBlock":Str)="TooMany")=false by decide+kernel),fmc_ ⟨exm_mk hL_NothingToUndo s_UnknownBlock_NothingToUndo (show decide (("UnknownBlock":Str)="NothingToUndo")=false by decide+kernel),fun _ h=>nomatch h⟩⟩⟩⟩⟩⟩⟩⟩⟩⟩⟩⟩⟩⟩⟩⟩⟩⟩⟩⟩⟩⟩),fmc_ ⟨(fmc_ ⟨exm_mk hL_BadRow s_UnknownName_BadRow (show decide (("UnknownName":Str)="BadRow")=false by decide+kernel),fmc_ ⟨exm_mk hL_BadBlock s_UnknownName_BadBlock (show decide (("UnknownName":Str)="BadBlock")=false by decide+kernel),fmc_ ⟨exm_mk hL_BadInput s_UnknownName_BadInput (show decide (("UnknownName":Str)="BadInput")=false by decide+kernel),fmc_ ⟨exm_mk hL_BadLabels s_UnknownName_BadLabels (show decide (("UnknownName":Str)="BadLabels")=false by decide+kernel),fmc_ ⟨exm_mk hL_BadStop s_UnknownName_BadStop (show decide (("UnknownName":Str)="BadStop")=false by decide+kernel),fmc_ ⟨exm_mk hL_BadWay s_UnknownName_BadWay (show decide (("UnknownName":Str)="BadWay")=false by decide+kernel),fmc_ ⟨exm_mk hL_BadShown s_UnknownName_BadShown (show decide (("UnknownName":Str)="BadShown")=false by decide+kernel),fmc_ ⟨exm_mk hL_BadValues s_UnknownName_BadValues (show decide (("UnknownName":Str)="BadValues")=false by decide+kernel),fmc_ ⟨exm_mk hL_BadShape s_UnknownName_BadShape (show decide (("UnknownName":Str)="BadShape")=false by decide+kernel),fmc_ ⟨exm_mk hL_BadMark s_UnknownName_BadMark (show decide (("UnknownName":Str)="BadMark")=false by decide+kernel),fmc_ ⟨exm_mk hL_BadOption s_UnknownName_BadOption (show decide (("UnknownName":Str)="BadOption")=false by decide+kernel),fmc_ ⟨exm_mk hL_BadWish s_UnknownName_BadWish (show decide (("UnknownName":Str)="BadWish")=false by decide+kernel),fmc_ ⟨exm_mk hL_BadTable s_UnknownName_BadTable (show decide (("UnknownName":Str)="BadTable")=false by decide+kernel),fmc_ ⟨exm_mk hL_BadFrame s_UnknownName_BadFrame (show decide (("UnknownName":Str)="BadFrame")=false by decide+kernel),fmc_ ⟨exm_mk hL_BadText s_UnknownName_BadText (show decide (("UnknownName":Str)="BadText")=false by decide+kernel),fmc_ ⟨exm_mk hL_BadLine s_UnknownName_BadLine (show decide (("UnknownName":Str)="BadLine")=false by decide+kernel),fmc_ ⟨exm_mk hL_BadTruth s_UnknownName_BadTruth (show decide (("UnknownName":Str)="BadTruth")=false by decide+kernel),fmc_ ⟨exm_mk hL_Untrue s_UnknownName_Untrue (show decide (("UnknownName":Str)="Untrue")=false by decide+kernel),fmc_ ⟨exm_mk hL_UnknownBlock s_UnknownName_UnknownBlock (show decide (("UnknownName":Str)="UnknownBlock")=false by decide+kernel),fmc_ ⟨exm_mk hL_UnknownName s_UnknownName_UnknownName (show decide (("UnknownName":Str)="UnknownName")=true by decide+kernel),fmc_ ⟨exm_mk hL_TooMany s_UnknownName_TooMany (show decide (("UnknownName":Str)="TooMany")=false by decide+kernel),fmc_ ⟨exm_mk hL_NothingToUndo s_UnknownName_NothingToUndo (show decide (("UnknownName":Str)="NothingToUndo")=false by decide+kernel),fun _ h=>nomatch h⟩⟩⟩⟩⟩⟩⟩⟩⟩⟩⟩⟩⟩⟩⟩⟩⟩⟩⟩⟩⟩⟩),fmc_ ⟨(fmc_ ⟨exm_mk hL_BadRow s_TooMany_BadRow (show decide (("TooMany":Str)="BadRow")=false by decide+kernel),fmc_ ⟨exm_mk hL_BadBlock s_TooMany_BadBlock (show decide (("TooMany":Str)="BadBlock")=false by decide+kernel),fmc_ ⟨exm_mk hL_BadInput s_TooMany_BadInput (show decide (("TooMany":Str)="BadInput")=false by decide+kernel),fmc_ ⟨exm_mk hL_BadLabels s_TooMany_BadLabels (show decide (("TooMany":Str)="BadLabels")=false by decide+kernel),fmc_ ⟨exm_mk hL_BadStop s_TooMany_BadStop (show decide (("TooMany":Str)="BadStop")=false by decide+kernel),fmc_ ⟨exm_mk hL_BadWay s_TooMany_BadWay (show decide (("TooMany":Str)="BadWay")=false by decide+kernel),fmc_ ⟨exm_mk hL_BadShown s_TooMany_BadShown (show decide (("TooMany":Str)="BadShown")=false by decide+kernel),fmc_ ⟨exm_mk hL_BadValues s_TooMany_BadValues (show decide (("TooMany":Str)="BadValues")=false by decide+kernel),fmc_ ⟨exm_mk hL_BadShape s_TooMany_BadShape (show decide (("TooMany":Str)="BadShape")=false by decide+kernel),fmc_ ⟨exm_mk hL_BadMark s_TooMany_BadMark (show decide (("TooMany":Str)="BadMark")=false by decide+kernel),fmc_ ⟨exm_mk hL_BadOption s_TooMany_BadOption (show decide (("TooMany":Str)="BadOption")=false by decide+kernel),fmc_ ⟨exm_mk hL_BadWish s_TooMany_BadWish (show decide (("TooMany":Str)="BadWish")=false by decide+kernel),fmc_ ⟨exm_mk hL_BadTable s_TooMany_BadTable (show decide (("TooMany":Str)="BadTable")=false by decide+kernel),fmc_ ⟨exm_mk hL_BadFrame s_TooMany_BadFrame (show decide (("TooMany":Str)="BadFrame")=false by decide+kernel),fmc_ ⟨exm_mk hL_BadText s_TooMany_BadText (show decide (("TooMany":Str)="BadText")=false by decide+kernel),fmc_ ⟨exm_mk hL_BadLine s_TooMany_BadLine (show decide (("TooMany":Str)="BadLine")=false by decide+kernel),fmc_ ⟨exm_mk hL_BadTruth s_TooMany_BadTruth (show decide (("TooMany":Str)="BadTruth")=false by decide+kernel),fmc_ ⟨exm_mk hL_Untrue s_TooMany_Untrue (show decide (("TooMany":Str)="Untrue")=false by decide+kernel),fmc_ ⟨exm_mk hL_UnknownBlock s_TooMany_UnknownBlock (show decide (("TooMany":Str)="UnknownBlock")=false by decide+kernel),fmc_ ⟨exm_mk hL_UnknownName s_TooMany_UnknownName (show decide (("TooMany":Str)="UnknownName")=false by decide+kernel),fmc_ ⟨exm_mk hL_TooMany s_TooMany_TooMany (show decide (("TooMany":Str)="TooMany")=true by decide+kernel),fmc_ ⟨exm_mk hL_NothingToUndo s_TooMany_NothingToUndo (show decide (("TooMany":Str)="NothingToUndo")=false by decide+kernel),fun _ h=>nomatch h⟩⟩⟩⟩⟩⟩⟩⟩⟩⟩⟩⟩⟩⟩⟩⟩⟩⟩⟩⟩⟩⟩),fmc_ ⟨(fmc_ ⟨exm_mk hL_BadRow s_NothingToUndo_BadRow (show decide (("NothingToUndo":Str)="BadRow")=false by decide+kernel),fmc_ ⟨exm_mk hL_BadBlock s_NothingToUndo_BadBlock (show decide (("NothingToUndo":Str)="BadBlock")=false by decide+kernel),fmc_ ⟨exm_mk hL_BadInput s_NothingToUndo_BadInput (show decide (("NothingToUndo":Str)="BadInput")=false by decide+kernel),fmc_ ⟨exm_mk hL_BadLabels s_NothingToUndo_BadLabels (show decide (("NothingToUndo":Str)="BadLabels")=false by decide+kernel),fmc_ ⟨exm_mk hL_BadStop s_NothingToUndo_BadStop (show decide (("NothingToUndo":Str)="BadStop")=false by decide+kernel),fmc_ ⟨exm_mk hL_BadWay s_NothingToUndo_BadWay (show decide (("NothingToUndo":Str)="BadWay")=false by decide+kernel),fmc_ ⟨exm_mk hL_BadShown s_NothingToUndo_BadShown (show decide (("NothingToUndo":Str)="BadShown")=false by decide+kernel),fmc_ ⟨exm_mk hL_BadValues s_NothingToUndo_BadValues (show decide (("NothingToUndo":Str)="BadValues")=false by decide+kernel),fmc_ ⟨exm_mk hL_BadShape s_NothingToUndo_BadShape (show decide (("NothingToUndo":Str)="BadShape")=false by decide+kernel),fmc_ ⟨exm_mk hL_BadMark s_NothingToUndo_BadMark (show decide (("NothingToUndo":Str)="BadMark")=false by decide+kernel),fmc_ ⟨exm_mk hL_BadOption s_NothingToUndo_BadOption (show decide (("NothingToUndo":Str)="BadOption")=false by decide+kernel),fmc_ ⟨exm_mk hL_BadWish s_NothingToUndo_BadWish (show decide (("NothingToUndo":Str)="BadWish")=false by decide+kernel),fmc_ ⟨exm_mk hL_BadTable s_NothingToUndo_BadTable (show decide (("NothingToUndo":Str)="BadTable")=false by decide+kernel),fmc_ ⟨exm_mk hL_BadFrame s_NothingToUndo_BadFrame (show decide (("NothingToUndo":Str)="BadFrame")=false by decide+kernel),fmc_ ⟨exm_mk hL_BadText s_NothingToUndo_BadText (show decide (("NothingToUndo":Str)="BadText")=false by decide+kernel),fmc_ ⟨exm_mk hL_BadLine s_NothingToUndo_BadLine (show decide (("NothingToUndo":Str)="BadLine")=false by decide+kernel),fmc_ ⟨exm_mk hL_BadTruth s_NothingToUndo_BadTruth (show decide (("NothingToUndo":Str)="BadTruth")=false by decide+kernel),fmc_ ⟨exm_mk hL_Untrue s_NothingToUndo_Untrue (show decide (("NothingToUndo":Str)="Untrue")=false by decide+kernel),fmc_ ⟨exm_mk hL_UnknownBlock s_NothingToUndo_UnknownBlock (show decide (("NothingToUndo":Str)="UnknownBlock")=false by decide+kernel),fmc_ ⟨exm_mk hL_UnknownName s_NothingToUndo_UnknownName (show decide (("NothingToUndo":Str)="UnknownName")=false by decide+kernel),fmc_ ⟨exm_mk hL_TooMany s_NothingToUndo_TooMany (show decide (("NothingToUndo":Str)="TooMany")=false by decide+kernel),fmc_ ⟨exm_mk hL_NothingToUndo s_NothingToUndo_NothingToUndo (show decide (("NothingToUndo":Str)="NothingToUndo")=true by decide+kernel),fun _ h=>nomatch h⟩⟩⟩⟩⟩⟩⟩⟩⟩⟩⟩⟩⟩⟩⟩⟩⟩⟩⟩⟩⟩⟩),fun _ h=>nomatch h⟩⟩⟩⟩⟩⟩⟩⟩⟩⟩⟩⟩⟩⟩⟩⟩⟩⟩⟩⟩⟩⟩)
    (fun _ h=>absurd h List.not_mem_nil)
    (fun _ h=>absurd h List.not_mem_nil)
    (fun _ h=>absurd h List.not_mem_nil)
    (fun _ h=>absurd h List.not_mem_nil)
    (fmc_ ⟨fun C f ec=>by cases ec.symm.trans (show lookA zw "BadRow"=some (zu,("index":Str)) by kernel_rfl);exact ⟨hL_BadRow.exc,(isx_own X G ia0 ib0 ic0 id0 ie0)⟩,fmc_ ⟨fun C f ec=>by cases ec.symm.trans (show lookA zw "BadBlock"=some (zm,("index":Str)) by kernel_rfl);exact ⟨hL_BadBlock.exc,(isx_own X G ia1 ib1 ic1 id1 ie1)⟩,fmc_ ⟨fun C f ec=>by cases ec.symm.trans (show lookA zw "BadInput"=some (zi,("index":Str)) by kernel_rfl);exact ⟨hL_BadInput.exc,(isx_own X G ia2 ib2 ic2 id2 ie2)⟩,fmc_ ⟨fun C f ec=>by cases ec.symm.trans (show lookA zw "BadWay"=some (zt,("index":Str)) by kernel_rfl);exact ⟨hL_BadWay.exc,(isx_own X G ia3 ib3 ic3 id3 ie3)⟩,fmc_ ⟨fun C f ec=>by cases ec.symm.trans (show lookA zw "BadLabels"=some (zd,("block":Str)) by kernel_rfl);exact ⟨hL_BadLabels.exc,(isx_own X G ia4 ib4 ic4 id4 ie4)⟩,fmc_ ⟨fun C f ec=>by cases ec.symm.trans (show lookA zw "BadStop"=some (zp,("stop":Str)) by kernel_rfl);exact ⟨hL_BadStop.exc,(isx_own X G ia5 ib5 ic5 id5 ie5)⟩,fmc_ ⟨fun C f ec=>by cases ec.symm.trans (show lookA zw "BadShown"=some (zj,("what":Str)) by kernel_rfl);exact ⟨hL_BadShown.exc,(isx_own X G ia6 ib6 ic6 id6 ie6)⟩,fmc_ ⟨fun C f ec=>by cases ec.symm.trans (show lookA zw "BadValues"=some (ze,("count":Str)) by kernel_rfl);exact ⟨hL_BadValues.exc,(isx_own X G ia7 ib7 ic7 id7 ie7)⟩,fmc_ ⟨fun C f ec=>by cases ec.symm.trans (show lookA zw "BadShape"=some (zl,("part":Str)) by kernel_rfl);exact ⟨hL_BadShape.exc,(isx_own X G ia8 ib8 ic8 id8 ie8)⟩,fmc_ ⟨fun C f ec=>by cases ec.symm.trans (show lookA zw "BadMark"=some (zq,("mark":Str)) by kernel_rfl);exact ⟨hL_BadMark.exc,(isx_own X G ia9 ib9 ic9 id9 ie9)⟩,fmc_ ⟨fun C f ec=>by cases ec.symm.trans (show lookA zw "BadOption"=some (zf,("option":Str)) by kernel_rfl);exact ⟨hL_BadOption.exc,(isx_own X G ia10 ib10 ic10 id10 ie10)⟩,fmc_ ⟨fun C f ec=>by cases ec.symm.trans (show lookA zw "BadWish"=some (zn,("index":Str)) by kernel_rfl);exact ⟨hL_BadWish.exc,(isx_own X G ia11 ib11 ic11 id11 ie11)⟩,fmc_ ⟨fun C f ec=>by cases ec.symm.trans (show lookA zw "BadTable"=some (zh,("which":Str)) by kernel_rfl);exact ⟨hL_BadTable.exc,(isx_own X G ia12 ib12 ic12 id12 ie12)⟩,fmc_ ⟨fun C f ec=>by cases ec.symm.trans (show lookA zw "BadFrame"=some (zk,("frame":Str)) by kernel_rfl);exact ⟨hL_BadFrame.exc,(isx_own X G ia13 ib13 ic13 id13 ie13)⟩,fmc_ ⟨fun C f ec=>by cases ec.symm.trans (show lookA zw "BadText"=some (zr,("line":Str)) by kernel_rfl);exact ⟨hL_BadText.exc,(isx_own X G ia14 ib14 ic14 id14 ie14)⟩,fmc_ ⟨fun C f ec=>by cases ec.symm.trans (show lookA zw "BadLine"=some (zo,("line":Str)) by kernel_rfl);exact ⟨hL_BadLine.exc,(isx_own X G ia15 ib15 ic15 id15 ie15)⟩,fmc_ ⟨fun C f ec=>by cases ec.symm.trans (show lookA zw "BadTruth"=some (zg,("truth":Str)) by kernel_rfl);exact ⟨hL_BadTruth.exc,(isx_own X G ia16 ib16 ic16 id16 ie16)⟩,fmc_ ⟨fun C f ec=>by cases ec.symm.trans (show lookA zw "Untrue"=some (zv,("what":Str)) by kernel_rfl);exact ⟨hL_Untrue.exc,(isx_own X G ia17 ib17 ic17 id17 ie17)⟩,fmc_ ⟨fun C f ec=>by cases ec.symm.trans (show lookA zw "NothingToUndo"=some (za,("name":Str)) by kernel_rfl);exact ⟨hL_NothingToUndo.exc,(isx_blt (T:="RuntimeError") X G ia18 (by decide+kernel) (by decide+kernel) (by decide+kernel) id18)⟩,fmc_ ⟨fun C f ec=>by cases ec.symm.trans (show lookA zw "NothingToUndo"=some (za,("name":Str)) by kernel_rfl);exact ⟨hL_NothingToUndo.exc,(isx_own X G ia19 ib19 ic19 id19 ie19)⟩,fmc_ ⟨fun C f ec=>by cases ec.symm.trans (show lookA zw "BadRow"=some (zu,("index":Str)) by kernel_rfl);exact ⟨hL_BadRow.exc,(isx_own X G ia20 ib20 ic20 id20 ie20)⟩,fmc_ ⟨fun C f ec=>by cases ec.symm.trans (show lookA zw "BadRow"=some (zu,("index":Str)) by kernel_rfl);exact ⟨hL_BadRow.exc,(isx_blt (T:="ValueError") X G ia21 (by decide+kernel) (by decide+kernel) (by decide+kernel) id21)⟩,fmc_ ⟨fun C f ec=>by cases ec.symm.trans (show lookA zw "BadBlock"=some (zm,("index":Str)) by kernel_rfl);exact ⟨hL_BadBlock.exc,(isx_own X G ia22 ib22 ic22 id22 ie22)⟩,fmc_ ⟨fun C f ec=>by cases ec.symm.trans (show lookA zw "BadBlock"=some (zm,("index":Str)) by kernel_rfl);exact ⟨hL_BadBlock.exc,(isx_blt (T:="ValueError") X G ia23 (by decide+kernel) (by decide+kernel) (by decide+kernel) id23)⟩,fmc_ ⟨fun C f ec=>by cases ec.symm.trans (show lookA zw "BadInput"=some (zi,("index":Str)) by kernel_rfl);exact ⟨hL_BadInput.exc,(isx_own X G ia24 ib24 ic24 id24 ie24)⟩,fmc_ ⟨fun C f ec=>by cases ec.symm.trans (show lookA zw "BadInput"=some (zi,("index":Str)) by kernel_rfl);exact ⟨hL_BadInput.exc,(isx_blt (T:="ValueError") X G ia25 (by decide+kernel) (by decide+kernel) (by decide+kernel) id25)⟩,fmc_ ⟨fun C f ec=>by cases ec.symm.trans (show lookA zw "BadWay"=some (zt,("index":Str)) by kernel_rfl);exact ⟨hL_BadWay.exc,(isx_own X G ia26 ib26 ic26 id26 ie26)⟩,fmc_ ⟨fun C f ec=>by cases ec.symm.trans (show lookA zw "BadWay"=some (zt,("index":Str)) by kernel_rfl);exact ⟨hL_BadWay.exc,(isx_blt (T:="ValueError") X G ia27 (by decide+kernel) (by decide+kernel) (by decide+kernel) id27)⟩,fmc_ ⟨fun C f ec=>by cases ec.symm.trans (show lookA zw "BadLabels"=some (zd,("block":Str)) by kernel_rfl);exact ⟨hL_BadLabels.exc,(isx_own X G ia28 ib28 ic28 id28 ie28)⟩,fmc_ ⟨fun C f ec=>by cases ec.symm.trans (show lookA zw "BadLabels"=some (zd,("block":Str)) by kernel_rfl);exact ⟨hL_BadLabels.exc,(isx_blt (T:="ValueError") X G ia29 (by decide+kernel) (by decide+kernel) (by decide+kernel) id29)⟩,fmc_ ⟨fun C f ec=>by cases ec.symm.trans (show lookA zw "BadStop"=some (zp,("stop":Str)) by kernel_rfl);exact ⟨hL_BadStop.exc,(isx_own X G ia30 ib30 ic30 id30 ie30)⟩,fmc_ ⟨fun C f ec=>by cases ec.symm.trans (show lookA zw "BadStop"=some (zp,("stop":Str)) by kernel_rfl);exact ⟨hL_BadStop.exc,(isx_blt (T:="ValueError") X G ia31 (by decide+kernel) (by decide+kernel) (by decide+kernel) id31)⟩,fmc_ ⟨fun C f ec=>by cases ec.symm.trans (show lookA zw "BadShown"=some (zj,("what":Str)) by kernel_rfl);exact ⟨hL_BadShown.exc,(isx_own X G ia32 ib32 ic32 id32 ie32)⟩,fmc_ ⟨fun C f ec=>by cases ec.symm.trans (show lookA zw "BadShown"=some (zj,("what":Str)) by kernel_rfl);exact ⟨hL_BadShown.exc,(isx_blt (T:="ValueError") X G ia33 (by decide+kernel) (by decide+kernel) (by decide+kernel) id33)⟩,fmc_ ⟨fun C f ec=>by cases ec.symm.trans (show lookA zw "BadValues"=some (ze,("count":Str)) by kernel_rfl);exact ⟨hL_BadValues.exc,(isx_own X G ia34 ib34 ic34 id34 ie34)⟩,fmc_ ⟨fun C f ec=>by cases ec.symm.trans (show lookA zw "BadValues"=some (ze,("count":Str)) by kernel_rfl);exact ⟨hL_BadValues.exc,(isx_blt (T:="ValueError") X G ia35 (by decide+kernel) (by decide+kernel) (by decide+kernel) id35)⟩,fmc_ ⟨fun C f ec=>by cases ec.symm.trans (show lookA zw "BadShape"=some (zl,("part":Str)) by kernel_rfl);exact ⟨hL_BadShape.exc,(isx_own X G ia36 ib36 ic36 id36 ie36)⟩,fmc_ ⟨fun C f ec=>by cases ec.symm.trans (show lookA zw "BadShape"=some (zl,("part":Str)) by kernel_rfl);exact ⟨hL_BadShape.exc,(isx_blt (T:="ValueError") X G ia37 (by decide+kernel) (by decide+kernel) (by decide+kernel) id37)⟩,fmc_ ⟨fun C f ec=>by cases ec.symm.trans (show lookA zw "BadMark"=some (zq,("mark":Str)) by kernel_rfl);exact ⟨hL_BadMark.exc,(isx_own X G ia38 ib38 ic38 id38 ie38)⟩,fmc_ ⟨fun C f ec=>by cases ec.symm.trans (show lookA zw "BadMark"=some (zq,("mark":Str)) by kernel_rfl);exact ⟨hL_BadMark.exc,(isx_blt (T:="ValueError") X G ia39 (by decide+kernel) (by decide+kernel) (by decide+kernel) id39)⟩,fmc_ ⟨fun C f ec=>by cases ec.symm.trans (show lookA zw "BadOption"=some (zf,("option":Str)) by kernel_rfl);exact ⟨hL_BadOption.exc,(isx_own X G ia40 ib40 ic40 id40 ie40)⟩,fmc_ ⟨fun C f ec=>by cases ec.symm.trans (show lookA zw "BadOption"=some (zf,("option":Str)) by kernel_rfl);exact ⟨hL_BadOption.exc,(isx_blt (T:="ValueError") X G ia41 (by decide+kernel) (by decide+kernel) (by decide+kernel) id41)⟩,fmc_ ⟨fun C f ec=>by cases ec.symm.trans (show lookA zw "BadWish"=some (zn,("index":Str)) by kernel_rfl);exact ⟨hL_BadWish.exc,(isx_own X G ia42 ib42 ic42 id42 ie42)⟩,fmc_ ⟨fun C f ec=>by cases ec.symm.trans (show lookA zw "BadWish"=some (zn,("index":Str)) by kernel_rfl);exact ⟨hL_BadWish.exc,(isx_blt (T:="ValueError") X G ia43 (by decide+kernel) (by decide+kernel) (by decide+kernel) id43)⟩,fmc_ ⟨fun C f ec=>by cases ec.symm.trans (show lookA zw "BadTable"=some (zh,("which":Str)) by kernel_rfl);exact ⟨hL_BadTable.exc,(isx_own X G ia44 ib44 ic44 id44 ie44)⟩,fmc_ ⟨fun C f ec=>by cases ec.symm.trans (show lookA zw "BadTable"=some (zh,("which":Str)) by kernel_rfl);exact ⟨hL_BadTable.exc,(isx_blt (T:="ValueError") X G ia45 (by decide+kernel) (by decide+kernel) (by decide+kernel) id45)⟩,fmc_ ⟨fun C f ec=>by cases ec.symm.trans (show lookA zw "BadFrame"=some (zk,("frame":Str)) by kernel_rfl);exact ⟨hL_BadFrame.exc,(isx_own X G ia46 ib46 ic46 id46 ie46)⟩,fmc_ ⟨fun C f ec=>by cases ec.symm.trans (show lookA zw "BadFrame"=some (zk,("frame":Str)) by kernel_rfl);exact ⟨hL_BadFrame.exc,(isx_blt (T:="ValueError") X G ia47 (by decide+kernel) (by decide+kernel) (by decide+kernel) id47)⟩,fmc_ ⟨fun C f ec=>by cases ec.symm.trans (show lookA zw "BadText"=some (zr,("line":Str)) by kernel_rfl);exact ⟨hL_BadText.exc,(isx_own X G ia48 ib48 ic48 id48 ie48)⟩,fmc_ ⟨fun C f ec=>by cases ec.symm.trans (show lookA zw "BadText"=some (zr,("line":Str)) by kernel_rfl);exact ⟨hL_BadText.exc,(isx_blt (T:="ValueError") X G ia49 (by decide+kernel) (by decide+kernel) (by decide+kernel) id49)⟩,fmc_ ⟨fun C f ec=>by cases ec.symm.trans (show lookA zw "BadLine"=some (zo,("line":Str)) by kernel_rfl);exact ⟨hL_BadLine.exc,(isx_own X G ia50 ib50 ic50 id50 ie50)⟩,fmc_ ⟨fun C f ec=>by cases ec.symm.trans (show lookA zw "BadLine"=some (zo,("line":Str)) by kernel_rfl);exact ⟨hL_BadLine.exc,(isx_blt (T:="ValueError") X G ia51 (by decide+kernel) (by decide+kernel) (by decide+kernel) id51)⟩,fmc_ ⟨fun C f ec=>by cases ec.symm.trans (show lookA zw "BadTruth"=some (zg,("truth":Str)) by kernel_rfl);exact ⟨hL_BadTruth.exc,(isx_own X G ia52 ib52 ic52 id52 ie52)⟩,fmc_ ⟨fun C f ec=>by cases ec.symm.trans (show lookA zw "BadTruth"=some (zg,("truth":Str)) by kernel_rfl);exact ⟨hL_BadTruth.exc,(isx_blt (T:="ValueError") X G ia53 (by decide+kernel) (by decide+kernel) (by decide+kernel) id53)⟩,fmc_ ⟨fun C f ec=>by cases ec.symm.trans (show lookA zw "Untrue"=some (zv,("what":Str)) by kernel_rfl);exact ⟨hL_Untrue.exc,(isx_own X G ia54 ib54 ic54 id54 ie54)⟩,fmc_ ⟨fun C f ec=>by cases ec.symm.trans (show lookA zw "Untrue"=some (zv,("what":Str)) by kernel_rfl);exact ⟨hL_Untrue.exc,(isx_blt (T:="ValueError") X G ia55 (by decide+kernel) (by decide+kernel) (by decide+kernel) id55)⟩,fmc_ ⟨fun C f ec=>by cases ec.symm.trans (show lookA zw "UnknownBlock"=some (zb,("block":Str)) by kernel_rfl);exact ⟨hL_UnknownBlock.exc,(isx_blt (T:="KeyError") X G ia56 (by decide+kernel) (by decide+kernel) (by decide+kernel) id56)⟩,fmc_ ⟨fun C f ec=>by cases ec.symm.trans (show lookA zw "UnknownName"=some (zc,("name":Str)) by kernel_rfl);exact ⟨hL_UnknownName.exc,(isx_blt (T:="KeyError") X G ia57 (by decide+kernel) (by decide+kernel) (by decide+kernel) id57)⟩,fmc_ ⟨fun C f ec=>by cases ec.symm.trans (show lookA zw "TooMany"=some (zs,("limit":Str)) by kernel_rfl);exact ⟨hL_TooMany.exc,(isx_blt (T:="OverflowError") X G ia58 (by decide+kernel) (by decide+kernel) (by decide+kernel) id58)⟩,fmc_ ⟨fun C f ec=>by cases ec.symm.trans (show lookA zw "UnknownBlock"=some (zb,("block":Str)) by kernel_rfl);exact ⟨hL_UnknownBlock.exc,(isx_own X G ia59 ib59 ic59 id59 ie59)⟩,fmc_ ⟨fun C f ec=>by cases ec.symm.trans (show lookA zw "UnknownName"=some (zc,("name":Str)) by kernel_rfl);exact ⟨hL_UnknownName.exc,(isx_own X G ia60 ib60 ic60 id60 ie60)⟩,fmc_ ⟨fun C f ec=>by cases ec.symm.trans (show lookA zw "TooMany"=some (zs,("limit":Str)) by kernel_rfl);exact ⟨hL_TooMany.exc,(isx_own X G ia61 ib61 ic61 id61 ie61)⟩,fmc_ ⟨fun C f ec=>by cases ec.symm.trans (show lookA zw "UnknownBlock"=some (zb,("block":Str)) by kernel_rfl);exact ⟨hL_UnknownBlock.exc,(isx_own X G ia62 ib62 ic62 id62 ie62)⟩,fmc_ ⟨fun C f ec=>by cases ec.symm.trans (show lookA zw "UnknownName"=some (zc,("name":Str)) by kernel_rfl);exact ⟨hL_UnknownName.exc,(isx_own X G ia63 ib63 ic63 id63 ie63)⟩,fun _ h=>nomatch h⟩⟩⟩⟩⟩⟩⟩⟩⟩⟩⟩⟩⟩⟩⟩⟩⟩⟩⟩⟩⟩⟩⟩⟩⟩⟩⟩⟩⟩⟩⟩⟩⟩⟩⟩⟩⟩⟩⟩⟩⟩⟩⟩⟩⟩⟩⟩⟩⟩⟩⟩⟩⟩⟩⟩⟩⟩⟩⟩⟩⟩⟩⟩⟩)
    (fun _ h=>absurd h List.not_mem_nil) (fmc_ ⟨(show (("_law_pool":Str)∈names) by decide+kernel),fmc_ ⟨(show (("_law_draw":Str)∈names) by decide+kernel),fmc_ ⟨(show (("_law_told":Str)∈names) by decide+kernel),fmc_ ⟨(show (("_law_later":Str)∈names) by decide+kernel),fmc_ ⟨(show (("_law_mixed":Str)∈names) by decide+kernel),fmc_ ⟨(show (("law":Str)∈names) by decide+kernel),fun _ h=>nomatch h⟩⟩⟩⟩⟩⟩)
  have rows:Rows (geOf K zx zy zw false w) mg pd tab:={
    fns:=fmc_ ⟨⟨a0,_,_,by kernel_rfl,W.mg_of X G q0,k0,(DD0 l0 c0)⟩,fmc_ ⟨⟨a1,_,_,by kernel_rfl,W.mg_of X G q1,k1,(DD1 l1 c1)⟩,fmc_ ⟨⟨a2,_,_,by kernel_rfl,W.mg_of X G q2,k2,(DD2 l2 c2)⟩,fmc_ ⟨⟨a3,_,_,by kernel_rfl,W.mg_of X G q3,k3,(DD3 l3 c3)⟩,fmc_ ⟨⟨a4,_,_,by kernel_rfl,W.mg_of X G q4,k4,(DD4 l4 c4)⟩,fmc_ ⟨⟨fa,_,_,by kernel_rfl,W.mg_of X G q5,k5,(DD5 l5 c5)⟩,fun _ h=>nomatch h⟩⟩⟩⟩⟩⟩
    news:=fun _ h=>absurd h List.not_mem_nil
    mths:=fun c C m n hC hm hin=>(show ∀ p∈zx,∀ q∈mns,(p.1,q.1)∈allM→∃ a,Meth K p.2 q.1 a∧W.fnIn K a=true∧((∃ fd ps,DefAt (geOf K zx zy zw false w) pd tab (mkey p.1 q.1) a fd ps∧(mkey p.1 q.1,q.2+1,[])∈shp)∨∀ mf,tab (mkey p.1 q.1)=some mf→¬q.2+1+(rest mf (q.2+1)).length=mf.np) from fun _ h=>absurd h List.not_mem_nil) (c,C) (lookA_mem hC) (m,n) hm hin
    sts:=fun c m h=>(show ∀ p∈sts,∃ C sp a fd ps,GE.cls ((geOf K zx zy zw false w)) p.1=some C∧StM K C p.2 sp a∧W.keepIn K (.ref a)=true∧DefAt (geOf K zx zy zw false w) pd tab (mkey p.1 p.2) a fd ps from fun _ h=>absurd h List.not_mem_nil) (c,m) h}
  refine ⟨_,fun s v=>.of_eq rfl,fun base _ _=>fn_law (G:=(geOf K zx zy zw false w)) rfl (all_ok (P:=l.prog) (w:=w) (base:=base) rfl gl rows 19 "law" fa _ _ (DD5 l5 c5))⟩
set_option synthInstance.maxHeartbeats 0 in
set_option synthInstance.maxSize 100000 in
theorem says {l:W.OpenLaw} {w:World} {K:W.Frag} {h:Heap} {mg:Str→Option Value} {fa0:Addr} (X:K.In h) (G:h.Ns mainGlobals mg) (hfa:mg "law"=some (.ref fa0)) (c:SaysM okL fnL sfL K): ∃ fd:FuncData,(∀ (s:Shared) (v:Value),BindsTo s fd ⟨[v],[]⟩ [("_law_script",v)])∧∀ base:Heap,K.In base→base.Ns mainGlobals mg→FnG l.prog w K mg base (L2.CX l.prog w) 40 fa0 fd ["_law_script"] (spL K false (callN tab 19)):=
  all_mk X G hfa
    (hd_glo (c.df 0 rfl) (c.ck 0 rfl))
    (hd_glo (c.df 1 rfl) (c.ck 1 rfl))
    (hd_glo (c.df 2 rfl) (c.ck 2 rfl))
    (hd_glo (c.df 3 rfl) (c.ck 3 rfl))
    (hd_glo (c.df 4 rfl) (c.ck 4 rfl))
    (hd_law (c.df 5 rfl) (c.ck 5 rfl))
    (hd_xo (c.df 6 rfl) (c.ck 6 rfl))
    (hd_xo (c.df 7 rfl) (c.ck 7 rfl))
    (hd_xo (c.df 8 rfl) (c.ck 8 rfl))
    (hd_xo (c.df 9 rfl) (c.ck 9 rfl))
    (hd_xo (c.df 10 rfl) (c.ck 10 rfl))
    (hd_xo (c.df 11 rfl) (c.ck 11 rfl))
    (hd_xo (c.df 12 rfl) (c.ck 12 rfl))
    (hd_xo (c.df 13 rfl) (c.ck 13 rfl))
    (hd_xo (c.df 14 rfl) (c.ck 14 rfl))
    (hd_xo (c.df 15 rfl) (c.ck 15 rfl))
    (hd_xo (c.df 16 rfl) (c.ck 16 rfl))
    (hd_xo (c.df 17 rfl) (c.ck 17 rfl))
    (hd_xo (c.df 18 rfl) (c.ck 18 rfl))
    (hd_xo (c.df 19 rfl) (c.ck 19 rfl))
    (hd_xo (c.df 20 rfl) (c.ck 20 rfl))
    (hd_xo (c.df 21 rfl) (c.ck 21 rfl))
    (hd_xo (c.df 22 rfl) (c.ck 22 rfl))
    (hd_xo (c.df 23 rfl) (c.ck 23 rfl))
    (hd_xb (c.df 24 rfl) (c.ck 24 rfl))
    (hd_xb (c.df 25 rfl) (c.ck 25 rfl))
    (hd_xb (c.df 26 rfl) (c.ck 26 rfl))
    (hd_xb (c.df 27 rfl) (c.ck 27 rfl))
    (of_decide_eq_true (c.ck 28 rfl))
    (of_decide_eq_true (c.ck 29 rfl))
    (of_decide_eq_true (c.ck 30 rfl))
    (of_decide_eq_true (c.ck 31 rfl))
    (of_decide_eq_true (c.ck 32 rfl))
    (of_decide_eq_true (c.ck 33 rfl))
    (of_decide_eq_true (c.ck 34 rfl))
    (of_decide_eq_true (c.ck 35 rfl))
    (of_decide_eq_true (c.ck 36 rfl))
    (of_decide_eq_true (c.ck 37 rfl))
    (of_decide_eq_true (c.ck 38 rfl))
    (of_decide_eq_true (c.ck 39 rfl))
    (of_decide_eq_true (c.ck 40 rfl))
    (of_decide_eq_true (c.ck 41 rfl))
    (of_decide_eq_true (c.ck 42 rfl))
    (of_decide_eq_true (c.ck 43 rfl))
    (of_decide_eq_true (c.ck 44 rfl))
    (of_decide_eq_true (c.ck 45 rfl))
    (of_decide_eq_true (c.ck 46 rfl))
    (of_decide_eq_true (c.ck 47 rfl))
    (of_decide_eq_true (c.ck 48 rfl))
    (of_decide_eq_true (c.ck 49 rfl))
    ⟨He.ga K "BadBlock",of_decide_eq_true (c.ck 50 rfl)⟩
    ⟨He.ga K "BadRow",of_decide_eq_true (c.ck 51 rfl)⟩
    ⟨He.ga K "BadWay",of_decide_eq_true (c.ck 52 rfl)⟩
    ⟨He.ga K "BadInput",of_decide_eq_true (c.ck 53 rfl)⟩
    ⟨He.ga K "BadStop",of_decide_eq_true (c.ck 54 rfl)⟩
    ⟨He.ga K "BadShown",of_decide_eq_true (c.ck 55 rfl)⟩
    ⟨He.ga K "BadStop",of_decide_eq_true (c.ck 56 rfl)⟩
    ⟨He.ga K "BadRow",of_decide_eq_true (c.ck 57 rfl)⟩
    ⟨He.ga K "BadMark",of_decide_eq_true (c.ck 58 rfl)⟩
    ⟨He.ga K "BadShape",of_decide_eq_true (c.ck 59 rfl)⟩
    ⟨He.ga K "BadWish",of_decide_eq_true (c.ck 60 rfl)⟩
    ⟨He.ga K "BadOption",of_decide_eq_true (c.ck 61 rfl)⟩
    ⟨He.ga K "BadFrame",of_decide_eq_true (c.ck 62 rfl)⟩
    ⟨He.ga K "BadTable",of_decide_eq_true (c.ck 63 rfl)⟩
    ⟨He.ga K "BadLine",of_decide_eq_true (c.ck 64 rfl)⟩
    ⟨He.ga K "BadText",of_decide_eq_true (c.ck 65 rfl)⟩
    ⟨He.ga K "Untrue",of_decide_eq_true (c.ck 66 rfl)⟩
    ⟨He.ga K "BadShown",of_decide_eq_true (c.ck 67 rfl)⟩
    (of_decide_eq_true (c.ck 68 rfl))
    ⟨He.ga K "ShownError",of_decide_eq_true (c.ck 69 rfl)⟩
    ⟨He.ga K "ShownError",of_decide_eq_true (c.ck 70 rfl)⟩
    (of_decide_eq_true (c.ck 71 rfl))
    ⟨He.ga K "ShownError",of_decide_eq_true (c.ck 72 rfl)⟩
    (of_decide_eq_true (c.ck 73 rfl))
    ⟨He.ga K "ShownError",of_decide_eq_true (c.ck 74 rfl)⟩
    (of_decide_eq_true (c.ck 75 rfl))
    ⟨He.ga K "ShownError",of_decide_eq_true (c.ck 76 rfl)⟩
    (of_decide_eq_true (c.ck 77 rfl))
    ⟨He.ga K "ShownError",of_decide_eq_true (c.ck 78 rfl)⟩
    (of_decide_eq_true (c.ck 79 rfl))
    ⟨He.ga K "ShownError",of_decide_eq_true (c.ck 80 rfl)⟩
    (of_decide_eq_true (c.ck 81 rfl))
    ⟨He.ga K "ShownError",of_decide_eq_true (c.ck 82 rfl)⟩
    (of_decide_eq_true (c.ck 83 rfl))
    ⟨He.ga K "ShownError",of_decide_eq_true (c.ck 84 rfl)⟩
    (of_decide_eq_true (c.ck 85 rfl))
    ⟨He.ga K "ShownError",of_decide_eq_true (c.ck 86 rfl)⟩
    (of_decide_eq_true (c.ck 87 rfl))
    ⟨He.ga K "ShownError",of_decide_eq_true (c.ck 88 rfl)⟩
    (of_decide_eq_true (c.ck 89 rfl))
    ⟨He.ga K "ShownError",of_decide_eq_true (c.ck 90 rfl)⟩
    (of_decide_eq_true (c.ck 91 rfl))
    ⟨He.ga K "ShownError",of_decide_eq_true (c.ck 92 rfl)⟩
    (of_decide_eq_true (c.ck 93 rfl))
    ⟨He.ga K "ShownError",of_decide_eq_true (c.ck 94 rfl)⟩
    (of_decide_eq_true (c.ck 95 rfl))
    ⟨He.ga K "ShownError",of_decide_eq_true (c.ck 96 rfl)⟩
    (of_decide_eq_true (c.ck 97 rfl))
    ⟨He.ga K "ShownError",of_decide_eq_true (c.ck 98 rfl)⟩
    (of_decide_eq_true (c.ck 99 rfl))
    ⟨He.ga K "ShownError",of_decide_eq_true (c.ck 100 rfl)⟩
    (of_decide_eq_true (c.ck 101 rfl))
    ⟨He.ga K "ShownError",of_decide_eq_true (c.ck 102 rfl)⟩
    (of_decide_eq_true (c.ck 103 rfl))
    ⟨He.ga K "ShownError",of_decide_eq_true (c.ck 104 rfl)⟩
    (of_decide_eq_true (c.ck 105 rfl))
    (of_decide_eq_true (c.ck 106 rfl))
    (of_decide_eq_true (c.ck 107 rfl))
    (of_decide_eq_true (c.ck 108 rfl))
    ⟨He.ga K "ShownError",of_decide_eq_true (c.ck 109 rfl)⟩
    ⟨He.ga K "ShownError",of_decide_eq_true (c.ck 110 rfl)⟩
    ⟨He.ga K "ShownError",of_decide_eq_true (c.ck 111 rfl)⟩
    ⟨He.ga K "UnknownName",of_decide_eq_true (c.ck 112 rfl)⟩
    ⟨He.ga K "UnknownBlock",of_decide_eq_true (c.ck 113 rfl)⟩
    (of_decide_eq_true (c.ck 114 rfl))
end K23
open PySem PySem.W PyProof.Rows
theorem PySem.Challenge.cw_valueshown_k23_errors_told_holds : PySem.Challenge.rw_valueshown_k23_errors_told.Holds := by
  w_on;o_law
  refine HandSHeadRun.head_any (r:=OpenLaw.row PySem.Challenge.rw_valueshown_k23_errors_told) (q:=view (OpenLaw.row PySem.Challenge.rw_valueshown_k23_errors_told).prog [31]) (H:=K23.hk) (ob:=K23.ob) (M:=20000) (loose:=K23.tnL) (d:=HandSHeadRun.topDef (OpenLaw.row PySem.Challenge.rw_valueshown_k23_errors_told).prog 31) (kwd:=[]) K23.ob_eq
    (by kernel_rfl) (fun s=>by kernel_rfl) K23.run (by kernel_rfl) (by kernel_rfl) (by kernel_rfl) (by rfl) (by first|assumption|decide+kernel) (by decide+kernel) ⟨rfl,rfl,rfl,rfl,rfl,by decide+kernel⟩ ?hw ?hc
  case hw=>w_witness2
  case hc=>
    refine Mi.walkGE (l:=PySem.Challenge.rw_valueshown_k23_errors_told) (n:=63) (k:=40) (x:="_law_script") (T:=fun w=>L2.CX PySem.Challenge.rw_valueshown_k23_errors_told.prog w) rfl (by decide) (by kernel_rfl) ⟨rfl,by decide,by decide⟩ ?F (fun _ _ _ _ _ h=>Mi.cx_no h)
    intro w mg fa h Y G hmg0
    obtain ⟨K,KX,c⟩:=Y
    have hmg:mg ("law":PySem.Str)=some (.ref fa):=by
      have e:(HandSHeadRun.topDef (OpenLaw.row PySem.Challenge.rw_valueshown_k23_errors_told).prog 31).name=("law":PySem.Str):=by kernel_rfl
      rw [←e]
      exact hmg0
    obtain ⟨fd,hb,hF⟩:=K23.says KX G hmg c (l:=PySem.Challenge.rw_valueshown_k23_errors_told) (w:=w)
    exact ⟨K,fd,Mi.spL K false (Mi.callN K23.tab 19),KX,hb,fun H a ns hl hS=>(K23.law_true ns hl).elim fun _ e=>Mi.spL_of hS e,hF⟩
