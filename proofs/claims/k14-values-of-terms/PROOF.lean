import PyProof.Rows.All
import Wide.All
import OpenK.AllK
import Wide.FinOn
import PySem.Challenge.RW_valueshown_k14_values_of_terms
import HandS.ForMost
import HandS.Flow
import KE.KeyNested
import HandS.ForExc
import HandS.CallSlots
import HandS.ExcInit
import HandS.ExcField
import HandS.ExcIs
import KE.KExcInit
import PyProof.Rows.FactsExc_KeyError
import HandS.HeadHook2
import HandS.Head2
import HandS.IsInst
import HandS.Deep
import HandS.TupAny
import HandS.Style
import KE.GoesEnum
import KE.DataFind
import HandS.TupMul
import PyProof.InstNe
import HandS.Star
import PyProof.Rows.SortShellAny
import HandS.RaiseMore
import HandS.More
import HandS.Conv
import PyProof.ReprRoads
import HandS.ListItems
import HandS.SetBool
import HandS.Keys
import PyProof.Rows.TupTab
import HandS.DictComp
import KE.KAssignIn
import KE.KEqDict
import HandS.FStr
import KE.KDictKeyed
import HandS.Zip
import KE.KDictZip
import KE.GoesZip
import KE.KEqNest
import KE.GoesComp
import KE.GoesRaise
import HandS.Defaults
set_option Elab.async false
set_option linter.all false
set_option maxRecDepth 100000
set_option maxHeartbeats 0
namespace Mi
open PySem PySem.Spec PyProof.Rows L2
inductive D where
  |non|bl (b:Bool)|int (i:Int)|str (x:Str)
  |tup (xs:List D)|lst (xs:List D)|dic (ks:List Key) (xs:List D)|ins (c:Str) (fs:List Str) (xs:List D)
  |dct (ks:List D) (xs:List D)
  |loc (n:Nat)|fn (f:Str)
  |scr (ns:List Int)
  |ty (n:String)|cls (c:Str)
  |xn (c f:Str) (d:D)
  |lk (o:Obj) (u:HO)
inductive O where
  |fz (d:D)|lst (xs:List D)|dic (ks:List Key) (xs:List D)|ins (c:Str) (fs:List Str) (xs:List D)|dct (ks:List D) (xs:List D)
def frz:O→D
  | .fz d=>d
  | .lst xs=>.lst xs
  | .dic ks xs=>.dic ks xs
  | .ins c fs xs=>.ins c fs xs
  | .dct ks xs=>.dct ks xs
structure GE where
  K:PySem.W.Frag
  cls:Str→Option Addr
  fns:Str→Option Addr
  exc:Str→Option (Addr×Str)
  bare:Bool
  cur:Option (Addr×Addr×Addr):=none
  w:World
mutual
def nkD:D→NestedKey
  | .bl b=>.num (if b then 1 else 0)
  | .int i=>.num i
  | .str x=>.text x
  | .tup ds=>.tup (nkDs ds)
  |_=>.none
def nkDs:List D→List NestedKey
  |[]=>[]
  |d::ds=>nkD d::nkDs ds
end
mutual
def kfD:Nat→D→Bool
  |_,.non=>true
  |_,.bl _=>true
  |_,.int _=>true
  |_,.str _=>true
  |n+1,.tup ds=>kfDs n ds
  |_,_=>false
def kfDs:Nat→List D→Bool
  |_,[]=>true
  |n,d::ds=>kfD n d&&kfDs n ds
end
def DtP (w:World) (a:Addr) (ps:List (NestedKey×Addr×V)) (h:Heap):Prop:= ∃ xs:List (NestedKey×Addr×Value),Paired (fun p q=>p.1=q.1∧p.2.1=q.2.1∧RelV p.2.2 q.2.2) ps xs∧(a==sysModules)=false∧ps.length≤sizeLine∧
  ∃ o es ep,h.get? a=some o∧o.ExactDict∧o.data= .dict es ep∧es.toList=xs.map (fun x=>(⟨x.1.hash w,.ref x.2.1,x.2.2⟩:DictEntry))∧(xs.map (·.1)).Nodup
def DtO (w:World) (a:Addr) (ps:List (NestedKey×Addr×V)):HO:=.ext (DtP w a ps)
def zip3 (ks:List D) (bs:List Addr) (vs:List V):List (NestedKey×Addr×V):=(nkDs ks).zip (bs.zip vs)
def isTupO (G:GE) (vs:List V):HO→Prop
  | .tup us=>G.bare=false∧us=vs
  | .frz o (.tup us)=>us=vs∧(G.bare=true→o.dict=none)
  |_=>False
def Tr (G:GE) (H:Hp) (M:List Addr) (a:Addr) (vs:List V):Prop:=
  (∃ ho,H a=some ho∧isTupO G vs ho∧a∉M)∨∃ o its n,List.lookup a G.K=some o∧o.cls=Value.type "tuple"∧o.data=Data.seq its n∧its.size≤sizeLine∧Vals vs its.toList∧(G.bare=true→o.dict=none)
theorem isTupO.rd {G:GE} {H:Hp} {a:Addr} {vs:List V} {ho:HO} (h:H a=some ho) (t:isTupO G vs ho):Rd H a (.tup vs):=by
  unfold isTupO at t
  split at t
  · obtain ⟨_,e⟩:=t;subst e;exact .inl h
  · obtain ⟨e,_⟩:=t;subst e;exact .inr ⟨_,h⟩
  · exact t.elim
def Lr (G:GE) (H:Hp) (M:List Addr) (a:Addr) (vs:List V):Prop:=
  (Rd H a (.lst vs)∧a∉M)∨∃ o its n,List.lookup a G.K=some o∧o.cls=Value.type "list"∧o.dict=none∧o.data=Data.seq its n∧its.size≤sizeLine∧Vals vs its.toList
mutual
def RepD (G:GE) (ρ:List Addr) (H:Hp) (M:List Addr):D→V→Prop
  | .non,v=>v= .non
  | .bl b,v=>v= .bl b
  | .int i,v=>v= .int i
  | .str x,v=>v= .str x
  | .tup ds,v=> ∃ a vs,v= .ref a∧Tr G H M a vs∧RepDs G ρ H M ds vs
  | .lst ds,v=> ∃ a vs,v= .ref a∧H a=some (.lst vs)∧a∉M∧RepDs G ρ H M ds vs
  | .dic ks ds,v=> ∃ a vs,v= .ref a∧Rd H a (.dK (ks.zip vs))∧ks.length=vs.length∧a∉M∧RepDs G ρ H M ds vs
  | .ins c fs ds,v=> ∃ a C dx vs,v= .ref a∧G.cls c=some C∧H a=some (.ins C dx (fs.zip vs))∧fs.length=vs.length∧a∉M∧RepDs G ρ H M ds vs
  | .dct ks ds,v=> ∃ a bs vs,v= .ref a∧Rd H a (DtO G.w a (zip3 ks bs vs))∧ks.length=vs.length∧kfDs 8 ks=true∧a∉M∧RepDs G ρ H M ks (bs.map V.ref)∧RepDs G ρ H M ds vs
  | .loc n,v=> ∃ a,v= .ref a∧ρ[n]?=some a
  | .fn f,v=> ∃ a,v= .ref a∧G.fns f=some a
  | .scr ns,v=> ∃ a,v= .ref a∧Lr G H M a (ns.map V.int)
  | .ty n,v=>v= .ty n
  | .cls c,v=> ∃ C,v= .ref C∧G.cls c=some C
  | .lk o u,v=> ∃ a,v= .ref a∧H a=some (.frz o u)∧a∉M
  | .xn c f d,v=> ∃ a a' C v',G.cur=some (a,a',C)∧v= .ref a∧G.exc c=some (C,f)∧H a'=some (.xd [(f,v')])∧a'∉M∧RepD G ρ H M d v'
def RepDs (G:GE) (ρ:List Addr) (H:Hp) (M:List Addr):List D→List V→Prop
  |[],vs=>vs=[]
  |d::ds,vs=> ∃ v r,vs=v::r∧RepD G ρ H M d v∧RepDs G ρ H M ds r
end
def Own (G:GE) (ρ:List Addr) (H:Hp) (M:List Addr):O→V→List Addr→Prop
  | .fz d,v,F=>RepD G ρ H M d v∧F=[]
  | .lst ds,v,F=> ∃ a vs,v= .ref a∧H a=some (.lst vs)∧RepDs G ρ H M ds vs∧F=[a]
  | .dic ks ds,v,F=> ∃ a vs,v= .ref a∧H a=some (.dK (ks.zip vs))∧ks.length=vs.length∧RepDs G ρ H M ds vs∧F=[a]
  | .ins c fs ds,v,F=> ∃ a C dx vs,v= .ref a∧G.cls c=some C∧H a=some (.ins C dx (fs.zip vs))∧fs.length=vs.length∧RepDs G ρ H M ds vs∧F=[a]
  | .dct ks ds,v,F=> ∃ a bs vs,v= .ref a∧H a=some (DtO G.w a (zip3 ks bs vs))∧ks.length=vs.length∧kfDs 8 ks=true∧RepDs G ρ H M ks (bs.map V.ref)∧RepDs G ρ H M ds vs∧F=[a]
def Owns (G:GE) (ρ:List Addr) (H:Hp) (M:List Addr):List (O×V)→List Addr→Prop
  |[],F=>F=[]
  |p::ps,F=> ∃ A B,F=A++B∧Own G ρ H M p.1 p.2 A∧Owns G ρ H M ps B
def Cf (G:GE) (H:Hp) (h:List O) (L:List (O×V)):Prop:=
  ∃ ρ M,ρ.length=h.length∧Owns G ρ H M (h.zip (ρ.map V.ref)++L) M∧M.Nodup
section
variable {G:GE} {ρ ρ':List Addr} {H H':Hp} {M M':List Addr}
theorem Tr.stay {a:Addr} {vs:List V} (t:Tr G H M a vs) (hk: ∀ b o,H b=some o→b∉M→H' b=some o) (hm: ∀ b∈M',b∈M∨H b=none):Tr G H' M' a vs:=by
  rcases t with ⟨ho,r,i,n⟩|t
  · refine .inl ⟨ho,hk _ _ r n,i,fun z=>?_⟩
    rcases hm a z with z|z
    · exact n z
    · rw [r] at z;cases z
  · exact .inr t
theorem Rd.stay {a:Addr} {u:HO} (r:Rd H a u) (n:a∉M) (hk: ∀ b o,H b=some o→b∉M→H' b=some o) (hm: ∀ b∈M',b∈M∨H b=none):Rd H' a u∧a∉M':=by
  refine ⟨?_,fun z=>?_⟩
  · rcases r with r|⟨o,r⟩
    · exact .inl (hk _ _ r n)
    · exact .inr ⟨o,hk _ _ r n⟩
  · rcases hm a z with z|z
    · exact n z
    · rcases r with r|⟨o,r⟩<;>(rw [r] at z;cases z)
variable (hρ: ∀ (n:Nat) a,ρ[n]?=some a→ρ'[n]?=some a) (hk: ∀ b o,H b=some o→b∉M→H' b=some o) (hm: ∀ b∈M',b∈M∨H b=none)
include hρ hk hm
mutual
theorem RepD.stay: ∀ (d:D) (v:V),RepD G ρ H M d v→RepD G ρ' H' M' d v
  | .non,v,h=>h
  | .bl b,v,h=>h
  | .int i,v,h=>h
  | .str x,v,h=>h
  | .tup ds,v,h=>by
    obtain ⟨a,vs,e,t,r⟩:=h
    exact ⟨a,vs,e,t.stay hk hm,RepDs.stay ds vs r⟩
  | .lst ds,v,h=>by
    obtain ⟨a,vs,e,t,n,r⟩:=h
    exact ⟨a,vs,e,hk _ _ t n,(Rd.stay (.inl t) n hk hm).2,RepDs.stay ds vs r⟩
  | .dic ks ds,v,h=>by
    obtain ⟨a,vs,e,t,l,n,r⟩:=h
    exact ⟨a,vs,e,(Rd.stay t n hk hm).1,l,(Rd.stay t n hk hm).2,RepDs.stay ds vs r⟩
  | .ins c fs ds,v,h=>by
    obtain ⟨a,C,dx,vs,e,g,t,l,n,r⟩:=h
    exact ⟨a,C,dx,vs,e,g,hk _ _ t n,l,(Rd.stay (.inl t) n hk hm).2,RepDs.stay ds vs r⟩
  | .dct ks ds,v,h=>by
    obtain ⟨a,bs,vs,e,t,l,f,n,rk,r⟩:=h
    exact ⟨a,bs,vs,e,(Rd.stay t n hk hm).1,l,f,(Rd.stay t n hk hm).2,RepDs.stay ks _ rk,RepDs.stay ds vs r⟩
  | .loc n,v,h=>by
    obtain ⟨a,e,r⟩:=h
    exact ⟨a,e,hρ _ _ r⟩
  | .fn f,v,h=>h
  | .scr ns,v,h=>by
    obtain ⟨a,e,t|t⟩:=h
    · exact ⟨a,e,.inl ⟨(Rd.stay t.1 t.2 hk hm).1,(Rd.stay t.1 t.2 hk hm).2⟩⟩
    · exact ⟨a,e,.inr t⟩
  | .ty n,v,h=>h
  | .cls c,v,h=>h
  | .lk o kvs,v,h=>by
    obtain ⟨a,e,t,n⟩:=h
    exact ⟨a,e,hk _ _ t n,(Rd.stay (.inl t) n hk hm).2⟩
  | .xn c f d,v,h=>by
    obtain ⟨a,a',C,v',e1,e2,e3,t,n,r⟩:=h
    exact ⟨a,a',C,v',e1,e2,e3,hk _ _ t n,(Rd.stay (.inl t) n hk hm).2,RepD.stay d v' r⟩
theorem RepDs.stay: ∀ (ds:List D) (vs:List V),RepDs G ρ H M ds vs→RepDs G ρ' H' M' ds vs
  |[],vs,h=>h
  | d::ds,vs,h=>by
    obtain ⟨v,r,e,h1,h2⟩:=h
    exact ⟨v,r,e,RepD.stay d v h1,RepDs.stay ds r h2⟩
end
theorem Own.stay {o:O} {v:V} {F:List Addr} (h:Own G ρ H M o v F) (hF: ∀ b∈F,∀ x,H b=some x→H' b=some x):Own G ρ' H' M' o v F:=by
  cases o with
  |fz d=>exact ⟨RepD.stay hρ hk hm d v h.1,h.2⟩
  | lst ds=>
    obtain ⟨a,vs,e,t,r,f⟩:=h
    exact ⟨a,vs,e,hF a (by rw [f];simp) _ t,RepDs.stay hρ hk hm ds vs r,f⟩
  | dic ks ds=>
    obtain ⟨a,vs,e,t,l,r,f⟩:=h
    exact ⟨a,vs,e,hF a (by rw [f];simp) _ t,l,RepDs.stay hρ hk hm ds vs r,f⟩
  | ins c fs ds=>
    obtain ⟨a,C,dx,vs,e,g,t,l,r,f⟩:=h
    exact ⟨a,C,dx,vs,e,g,hF a (by rw [f];simp) _ t,l,RepDs.stay hρ hk hm ds vs r,f⟩
  | dct ks ds=>
    obtain ⟨a,bs,vs,e,t,l,fk,rk,r,f⟩:=h
    exact ⟨a,bs,vs,e,hF a (by rw [f];simp) _ t,l,fk,RepDs.stay hρ hk hm ks _ rk,RepDs.stay hρ hk hm ds vs r,f⟩
theorem Owns.stay: ∀ {L:List (O×V)} {F:List Addr},Owns G ρ H M L F→(∀ b∈F,∀ x,H b=some x→H' b=some x)→Owns G ρ' H' M' L F
  |[],F,h,_=>h
  | p::ps,F,h,hF=>by
    obtain ⟨A,B,e,h1,h2⟩:=h
    subst e
    exact ⟨A,B,rfl,h1.stay hρ hk hm fun b hb=>hF b (List.mem_append_left _ hb),Owns.stay h2 fun b hb=>hF b (List.mem_append_right _ hb)⟩
end
section
variable {G:GE} {ρ:List Addr} {H:Hp} {M:List Addr}
theorem RepDs.length: ∀ {ds:List D} {vs:List V},RepDs G ρ H M ds vs→ds.length=vs.length
  |[],vs,h=>by rw [show vs=[] from h];rfl
  | d::ds,vs,h=>by
    obtain ⟨v,r,e,h1,h2⟩:=h
    rw [e,List.length_cons,List.length_cons,RepDs.length h2]
theorem RepDs.get: ∀ {ds:List D} {vs:List V} {i:Nat} {d:D},RepDs G ρ H M ds vs→ds[i]?=some d→∃ v,vs[i]?=some v∧RepD G ρ H M d v
  |[],vs,i,d,h,e=>by simp at e
  | d::ds,vs,0,d',h,e=>by
    obtain ⟨v,r,e1,h1,h2⟩:=h
    simp at e;subst e;subst e1
    exact ⟨v,rfl,h1⟩
  | d::ds,vs,i+1,d',h,e=>by
    obtain ⟨v,r,e1,h1,h2⟩:=h
    subst e1
    obtain ⟨w,hw,q⟩:=RepDs.get (i:=i) h2 (by simpa using e)
    exact ⟨w,by simpa using hw,q⟩
theorem RepDs.append: ∀ {ds es:List D} {vs us:List V},RepDs G ρ H M ds vs→RepDs G ρ H M es us→RepDs G ρ H M (ds++es) (vs++us)
  |[],es,vs,us,h,q=>by rw [show vs=[] from h];exact q
  | d::ds,es,vs,us,h,q=>by
    obtain ⟨v,r,e,h1,h2⟩:=h
    subst e
    exact ⟨v,r++us,rfl,h1,RepDs.append h2 q⟩
theorem RepDs.take: ∀ {ds:List D} {vs:List V} (n:Nat),RepDs G ρ H M ds vs→RepDs G ρ H M (ds.take n) (vs.take n)
  |_,_,0,_=>by rw [List.take_zero,List.take_zero];rfl
  |[],vs,n+1,h=>by rw [show vs=[] from h];rfl
  | d::ds,vs,n+1,h=>by
    obtain ⟨v,r,e,h1,h2⟩:=h
    subst e
    exact ⟨v,r.take n,rfl,h1,RepDs.take n h2⟩
theorem RepDs.drop: ∀ {ds:List D} {vs:List V} (n:Nat),RepDs G ρ H M ds vs→RepDs G ρ H M (ds.drop n) (vs.drop n)
  |_,_,0,h=>h
  |[],vs,n+1,h=>by rw [show vs=[] from h];rfl
  | d::ds,vs,n+1,h=>by
    obtain ⟨v,r,e,h1,h2⟩:=h
    subst e
    exact RepDs.drop n h2
theorem RepDs.one {d:D} {v:V} (h:RepD G ρ H M d v):RepDs G ρ H M [d] [v]:=⟨v,[],rfl,h,rfl⟩
theorem RepDs.set: ∀ {ds:List D} {vs:List V} {d:D} {v:V} (i:Nat),RepDs G ρ H M ds vs→RepD G ρ H M d v→RepDs G ρ H M (ds.set i d) (vs.set i v)
  |[],vs,d,v,i,h,q=>by rw [show vs=[] from h];rfl
  | d0::ds,vs,d,v,0,h,q=>by
    obtain ⟨w,r,e,h1,h2⟩:=h
    subst e
    exact ⟨v,r,rfl,q,h2⟩
  | d0::ds,vs,d,v,i+1,h,q=>by
    obtain ⟨w,r,e,h1,h2⟩:=h
    subst e
    exact ⟨w,r.set i v,rfl,h1,RepDs.set i h2 q⟩
theorem RepDs.reverse: ∀ {ds:List D} {vs:List V},RepDs G ρ H M ds vs→RepDs G ρ H M ds.reverse vs.reverse
  |[],vs,h=>by rw [show vs=[] from h];rfl
  | d::ds,vs,h=>by
    obtain ⟨v,r,e,h1,h2⟩:=h
    subst e
    rw [List.reverse_cons,List.reverse_cons]
    exact (RepDs.reverse h2).append (.one h1)
theorem RepDs.of: ∀ {ds:List D} {vs:List V},ds.length=vs.length→(∀ (i:Nat) d v,ds[i]?=some d→vs[i]?=some v→RepD G ρ H M d v)→RepDs G ρ H M ds vs
  |[],[],_,_=>rfl
  |d::ds,v::vs,l,h=>⟨v,vs,rfl,h 0 d v rfl rfl,RepDs.of (by simpa using l) fun i d' v' h1 h2=>h (i+1) d' v' (by simpa using h1) (by simpa using h2)⟩
  |[],_::_,l,_=>by simp at l
  |_::_,[],l,_=>by simp at l
theorem RepDs.flatten_rep: ∀ {ds:List D} {vs:List V} (n:Nat),RepDs G ρ H M ds vs→RepDs G ρ H M (List.replicate n ds).flatten (List.replicate n vs).flatten
  |_,_,0,_=>rfl
  | ds,vs,n+1,h=>by
    rw [List.replicate_succ,List.replicate_succ,List.flatten_cons,List.flatten_cons]
    exact h.append (RepDs.flatten_rep n h)
theorem Owns.append: ∀ {L L':List (O×V)} {F F':List Addr},Owns G ρ H M L F→Owns G ρ H M L' F'→Owns G ρ H M (L++L') (F++F')
  |[],L',F,F',h,q=>by rw [show F=[] from h];exact q
  | p::ps,L',F,F',h,q=>by
    obtain ⟨A,B,e,h1,h2⟩:=h
    subst e
    exact ⟨A,B++F',by rw [List.append_assoc],h1,Owns.append h2 q⟩
theorem Owns.split: ∀ {L L':List (O×V)} {F:List Addr},Owns G ρ H M (L++L') F→∃ A B,F=A++B∧Owns G ρ H M L A∧Owns G ρ H M L' B
  |[],L',F,h=>⟨[],F,rfl,rfl,h⟩
  | p::ps,L',F,h=>by
    obtain ⟨A,B,e,h1,h2⟩:=h
    obtain ⟨A',B',e',h3,h4⟩:=Owns.split h2
    subst e;subst e'
    exact ⟨A++A',B',by rw [List.append_assoc],⟨A,A',rfl,h1,h3⟩,h4⟩
theorem Own.live {o:O} {v:V} {F:List Addr} (h:Own G ρ H M o v F): ∀ b∈F,∃ x,H b=some x:=by
  cases o with
  |fz d=>rw [h.2];intro b hb;simp at hb
  |lst ds=>obtain ⟨a,vs,e,t,r,f⟩:=h;rw [f];intro b hb;simp at hb;subst hb;exact ⟨_,t⟩
  |dic ks ds=>obtain ⟨a,vs,e,t,l,r,f⟩:=h;rw [f];intro b hb;simp at hb;subst hb;exact ⟨_,t⟩
  |ins c fs ds=>obtain ⟨a,C,dx,vs,e,g,t,l,r,f⟩:=h;rw [f];intro b hb;simp at hb;subst hb;exact ⟨_,t⟩
  |dct ks ds=>obtain ⟨a,bs,vs,e,t,l,fk,rk,r,f⟩:=h;rw [f];intro b hb;simp at hb;subst hb;exact ⟨_,t⟩
theorem Owns.live: ∀ {L:List (O×V)} {F:List Addr},Owns G ρ H M L F→∀ b∈F,∃ x,H b=some x
  |[],F,h,b,hb=>by rw [show F=[] from h] at hb;simp at hb
  | p::ps,F,h,b,hb=>by
    obtain ⟨A,B,e,h1,h2⟩:=h
    subst e
    rcases List.mem_append.mp hb with hb|hb
    · exact h1.live b hb
    · exact Owns.live h2 b hb
theorem Owns.perm: ∀ {L L':List (O×V)} {F:List Addr},L.Perm L'→Owns G ρ H M L F→∃ F',F.Perm F'∧Owns G ρ H M L' F':=by
  intro L L' F p
  induction p generalizing F with
  |nil=>intro h;exact ⟨F,.refl _,h⟩
  | cons x _ ih=>
    intro h
    obtain ⟨A,B,e,h1,h2⟩:=h
    obtain ⟨B',p',h3⟩:=ih h2
    subst e
    exact ⟨A++B',p'.append_left A,A,B',rfl,h1,h3⟩
  | swap x y l=>
    intro h
    obtain ⟨A,B,e,h1,A',B',e',h2,h3⟩:=h
    subst e;subst e'
    refine ⟨A'++(A++B'), ?_,A',A++B',rfl,h2,A,B',rfl,h1,h3⟩
    rw [←List.append_assoc,←List.append_assoc]
    exact (List.perm_append_comm).append_right B'
  | trans _ _ ih1 ih2=>
    intro h
    obtain ⟨F1,p1,h1⟩:=ih1 h
    obtain ⟨F2,p2,h2⟩:=ih2 h1
    exact ⟨F2,p1.trans p2,h2⟩
end
def Fz (ds:List D) (vs:List V):List (O×V):=List.zipWith (fun d v=>(O.fz d,v)) ds vs
section
variable {G:GE} {H:Hp} {h:List O} {L L':List (O×V)}
theorem Owns.fz {ρ:List Addr} {M:List Addr}: ∀ {ds:List D} {vs:List V} {L:List (O×V)} {F:List Addr},ds.length=vs.length→(Owns G ρ H M (Fz ds vs++L) F↔RepDs G ρ H M ds vs∧Owns G ρ H M L F)
  |[],[],L,F,_=>⟨fun q=>⟨rfl,q⟩,fun q=>q.2⟩
  | d ::ds,v::vs,L,F,l=>by
    have ih:=Owns.fz (ρ:=ρ) (M:=M) (ds:=ds) (vs:=vs) (L:=L) (F:=F) (by simpa using l)
    constructor
    · rintro ⟨A,B,e,⟨h1,eA⟩,h2⟩
      subst eA;subst e
      obtain ⟨r,q⟩:=Owns.fz (by simpa using l) |>.mp h2
      exact ⟨⟨v,vs,rfl,h1,r⟩,q⟩
    · rintro ⟨⟨v',r',e,h1,h2⟩,q⟩
      injection e with e1 e2
      subst e1;subst e2
      exact ⟨[],F,rfl,⟨h1,rfl⟩,ih.mpr ⟨h2,q⟩⟩
  |[],_::_,_,_,l=>by simp at l
  |_::_,[],_,_,l=>by simp at l
def Cp (G:GE) (ρ:List Addr) (H:Hp) (M:List Addr) (h:List O) (L:List (O×V)):Prop:=
  ρ.length=h.length∧Owns G ρ H M (h.zip (ρ.map V.ref)++L) M∧M.Nodup
theorem Cf.perm (p:L.Perm L') (c:Cf G H h L):Cf G H h L':=by
  obtain ⟨ρ,M,l,o,n⟩:=c
  obtain ⟨M',pm,o'⟩:=Owns.perm (List.Perm.append_left _ p) o
  refine ⟨ρ,M',l,o'.stay (fun _ _ q=>q) (fun _ _ q _=>q) (fun b hb=>.inl (pm.mem_iff.mpr hb)) (fun _ _ _ q=>q),pm.nodup_iff.mp n⟩
theorem Cf.sub {ρ:List Addr} {M F:List Addr} {h:List O} (l:ρ.length=h.length) (o:Owns G ρ H M (h.zip (ρ.map V.ref)++L) F) (s: ∀ b∈F,b∈M) (n:F.Nodup):Cf G H h L:=
  ⟨ρ,F,l,o.stay (fun _ _ q=>q) (fun _ _ q _=>q) (fun b hb=>.inl (s b hb)) (fun _ _ _ q=>q),n⟩
theorem Owns.ahead {ρ:List Addr} {M F:List Addr} {p:O×V} (o:Owns G ρ H M (h.zip (ρ.map V.ref)++p::L) F): ∃ A B,Own G ρ H M p.1 p.2 A∧Owns G ρ H M (h.zip (ρ.map V.ref)++L) B∧F.Perm (A++B):=by
  obtain ⟨A,B,e,h1,A',B',e',h2,h3⟩:=Owns.split o
  subst e;subst e'
  refine ⟨A',A++B',h2,h1.append h3, ?_⟩
  rw [←List.append_assoc,←List.append_assoc]
  exact (List.perm_append_comm).append_right B'
theorem Owns.behind {ρ:List Addr} {M A B:List Addr} {p:O×V} (o1:Own G ρ H M p.1 p.2 A) (o2:Owns G ρ H M (h.zip (ρ.map V.ref)++L) B): ∃ F,Owns G ρ H M (h.zip (ρ.map V.ref)++p::L) F∧F.Perm (A++B):=by
  obtain ⟨X,Y,e,h1,h2⟩:=Owns.split o2
  subst e
  refine ⟨X++(A++Y),h1.append ⟨A,Y,rfl,o1,h2⟩, ?_⟩
  rw [←List.append_assoc,←List.append_assoc]
  exact (List.perm_append_comm).append_right Y
theorem Cf.drop {p:O×V} (c:Cf G H h (p::L)):Cf G H h L:=by
  obtain ⟨ρ,M,l,o,n⟩:=c
  obtain ⟨A,B,o1,o2,pm⟩:=o.ahead
  exact Cf.sub l o2 (fun b hb=>pm.mem_iff.mpr (List.mem_append_right _ hb)) ((pm.nodup_iff.mp n).sublist (List.sublist_append_right _ _))
theorem Cf.dropN: ∀ {K L:List (O×V)},Cf G H h (K++L)→Cf G H h L
  |[],_,c=>c
  |_::K,_,c=>Cf.dropN (K:=K) c.drop
theorem Cf.fz {ds:List D} {vs:List V} (l:ds.length=vs.length):Cf G H h (Fz ds vs++L)↔∃ ρ M,Cp G ρ H M h L∧RepDs G ρ H M ds vs:=by
  constructor
  · intro c
    obtain ⟨ρ,M,lr,o,n⟩:=Cf.perm (L':=L++Fz ds vs) List.perm_append_comm c
    obtain ⟨M1,pm,o1⟩:=Owns.perm (L':=Fz ds vs++(h.zip (ρ.map V.ref)++L)) (by rw [←List.append_assoc];exact List.perm_append_comm) o
    obtain ⟨r,o2⟩:=(Owns.fz l).mp o1
    refine ⟨ρ,M1,⟨lr,o2.stay (fun _ _ q=>q) (fun _ _ q _=>q) (fun b hb=>.inl (pm.mem_iff.mpr hb)) (fun _ _ _ q=>q),pm.nodup_iff.mp n⟩,RepDs.stay (fun _ _ q=>q) (fun _ _ q _=>q) (fun b hb=>.inl (pm.mem_iff.mpr hb)) _ _ r⟩
  · rintro ⟨ρ,M,⟨lr,o,n⟩,r⟩
    have o1:=(Owns.fz l).mpr ⟨r,o⟩
    obtain ⟨M1,pm,o2⟩:=Owns.perm (L':=h.zip (ρ.map V.ref)++(Fz ds vs++L)) (by rw [←List.append_assoc,←List.append_assoc];exact List.perm_append_comm.append_right L) o1
    exact Cf.sub lr o2 (fun b hb=>pm.mem_iff.mpr hb) (pm.nodup_iff.mp n)
theorem Cf.fz1 {d:D} {v:V}:Cf G H h ((.fz d,v)::L)↔∃ ρ M,Cp G ρ H M h L∧RepD G ρ H M d v:=by
  have:=Cf.fz (G:=G) (H:=H) (h:=h) (L:=L) (ds:=[d]) (vs:=[v]) rfl
  constructor
  · intro c
    obtain ⟨ρ,M,cp,r⟩:=this.mp c
    obtain ⟨v',r',e,h1,h2⟩:=r
    injection e with e1 e2
    subst e1
    exact ⟨ρ,M,cp,h1⟩
  · rintro ⟨ρ,M,cp,r⟩
    exact this.mpr ⟨ρ,M,cp,.one r⟩
theorem Cp.cf {ρ M:List Addr} (c:Cp G ρ H M h L):Cf G H h L:=⟨ρ,M,c⟩
theorem Own.frz {ρ M B A:List Addr} {o:O} {v:V} (ow:Own G ρ H M o v A) (hs: ∀ b∈B,b∈M) (hd: ∀ b∈A,b∉B):RepD G ρ H B (frz o) v:=by
  have st: ∀ ds vs,RepDs G ρ H M ds vs→RepDs G ρ H B ds vs:=fun ds vs r=>RepDs.stay (fun _ _ q=>q) (fun _ _ q _=>q) (fun b hb=>.inl (hs b hb)) _ _ r
  cases o with
  |fz d=>exact RepD.stay (fun _ _ q=>q) (fun _ _ q _=>q) (fun b hb=>.inl (hs b hb)) _ _ ow.1
  |lst ds=>obtain ⟨a,vs,e,t,r,f⟩:=ow;exact ⟨a,vs,e,t,hd a (by rw [f];simp),st _ _ r⟩
  |dic ks ds=>obtain ⟨a,vs,e,t,l,r,f⟩:=ow;exact ⟨a,vs,e,.inl t,l,hd a (by rw [f];simp),st _ _ r⟩
  |ins c fs ds=>obtain ⟨a,C,dx,vs,e,g,t,l,r,f⟩:=ow;exact ⟨a,C,dx,vs,e,g,t,l,hd a (by rw [f];simp),st _ _ r⟩
  |dct ks ds=>obtain ⟨a,bs,vs,e,t,l,fk,rk,r,f⟩:=ow;exact ⟨a,bs,vs,e,.inl t,l,fk,hd a (by rw [f];simp),st _ _ rk,st _ _ r⟩
theorem Cf.frz {o:O} {v:V} (c:Cf G H h ((o,v)::L)):Cf G H h ((.fz (frz o),v)::L):=by
  obtain ⟨ρ,M,l,ow,n⟩:=c
  obtain ⟨A,B,o1,o2,pm⟩:=ow.ahead
  have n2:=pm.nodup_iff.mp n
  have hs: ∀ b∈B,b∈M:=fun b hb=>pm.mem_iff.mpr (List.mem_append_right _ hb)
  refine Cf.fz1.mpr ⟨ρ,B,⟨l,o2.stay (fun _ _ q=>q) (fun _ _ q _=>q) (fun b hb=>.inl (hs b hb)) (fun _ _ _ q=>q),(n2.sublist (List.sublist_append_right _ _))⟩, ?_⟩
  exact o1.frz hs fun b hb hb'=>(List.nodup_append.mp n2).2.2 b hb b hb' rfl
theorem Cf.dup {d:D} {v:V} (c:Cf G H h ((.fz d,v)::L)):Cf G H h ((.fz d,v)::(.fz d,v)::L):=by
  obtain ⟨ρ,M,cp,r⟩:=Cf.fz1.mp c
  exact (Cf.fz (ds:=[d,d]) (vs:=[v,v]) rfl).mpr ⟨ρ,M,cp,⟨_,_,rfl,r,.one r⟩⟩
theorem Cp.alloc {ρ M:List Addr} {p:Addr} {o:HO} (c:Cp G ρ H M h L) (hp:H p=none):Cp G ρ (upd H p o) M h L∧(∀ ds vs,RepDs G ρ H M ds vs→RepDs G ρ (upd H p o) (p::M) ds vs)∧(∀ ds vs,RepDs G ρ H M ds vs→RepDs G ρ (upd H p o) M ds vs)∧p∉M:=by
  obtain ⟨l,ow,n⟩:=c
  have hk: ∀ b x,H b=some x→b∉M→(upd H p o) b=some x:=fun b x e _=>by rw [upd_ne (ne_of_none e hp)];exact e
  refine ⟨⟨l,ow.stay (fun _ _ q=>q) hk (fun b hb=>.inl hb) (fun b _ x e=>by rw [upd_ne (ne_of_none e hp)];exact e),n⟩,fun ds vs r=>RepDs.stay (fun _ _ q=>q) hk (fun b hb=>?_) _ _ r,fun ds vs r=>RepDs.stay (fun _ _ q=>q) hk (fun b hb=>.inl hb) _ _ r,fun hb=>?_⟩
  · rcases List.mem_cons.mp hb with e|hb
    · rw [e];exact .inr hp
    · exact .inl hb
  · obtain ⟨x,e⟩:=ow.live p hb
    rw [hp] at e;cases e
theorem Cf.newTup {ds:List D} {vs:List V} {p:Addr} {ho:HO} (l:ds.length=vs.length) (c:Cf G H h (Fz ds vs++L)) (hp:H p=none) (ht:isTupO G vs ho):Cf G (upd H p ho) h ((.fz (.tup ds),.ref p)::L):=by
  obtain ⟨ρ,M,cp,r⟩:=(Cf.fz l).mp c
  obtain ⟨cp',_,r2,np⟩:=cp.alloc (o:=ho) hp
  exact Cf.fz1.mpr ⟨ρ,M,cp',p,vs,rfl,.inl ⟨ho,upd_same,ht,np⟩,r2 _ _ r⟩
theorem Cf.newOwn {p:Addr} {ho:HO} {o:O} {ds:List D} {vs:List V} (l:ds.length=vs.length) (c:Cf G H h (Fz ds vs++L)) (hp:H p=none)
    (own: ∀ ρ M H',H' p=some ho→RepDs G ρ H' M ds vs→Own G ρ H' M o (.ref p) [p]):Cf G (upd H p ho) h ((o,.ref p)::L):=by
  obtain ⟨ρ,M,cp,r⟩:=(Cf.fz l).mp c
  obtain ⟨cp',r1,r2,np⟩:=cp.alloc (o:=ho) hp
  have o1:Own G ρ (upd H p ho) (p::M) o (.ref p) [p]:=own ρ _ _ upd_same (r1 _ _ r)
  have o2:Owns G ρ (upd H p ho) (p::M) (h.zip (ρ.map V.ref)++L) M:=cp.2.1.stay (fun _ _ q=>q) (fun b x e _=>by rw [upd_ne (ne_of_none e hp)];exact e) (fun b hb=>by
    rcases List.mem_cons.mp hb with e|hb
    · rw [e];exact .inr hp
    · exact .inl hb) (fun b _ x e=>by rw [upd_ne (ne_of_none e hp)];exact e)
  obtain ⟨F,o3,pm⟩:=Owns.behind (p:=(o,.ref p)) o1 o2
  exact Cf.sub cp.1 o3 (fun b hb=>pm.mem_iff.mp hb) (pm.nodup_iff.mpr (List.nodup_cons.mpr ⟨np,cp.2.2⟩))
theorem Cf.newLst {ds:List D} {vs:List V} {p:Addr} (l:ds.length=vs.length) (c:Cf G H h (Fz ds vs++L)) (hp:H p=none):Cf G (upd H p (.lst vs)) h ((.lst ds,.ref p)::L):=
  c.newOwn l hp fun ρ M H' e r=>⟨p,vs,rfl,e,r,rfl⟩
theorem Cf.newDic {ks:List Key} {ds:List D} {vs:List V} {p:Addr} (l:ds.length=vs.length) (lk:ks.length=vs.length) (c:Cf G H h (Fz ds vs++L)) (hp:H p=none):Cf G (upd H p (.dK (ks.zip vs))) h ((.dic ks ds,.ref p)::L):=
  c.newOwn l hp fun ρ M H' e r=>⟨p,vs,rfl,e,lk,r,rfl⟩
theorem Cf.change {p:Addr} {ho:HO} {o o':O} {ds:List D} {vs:List V} (l:ds.length=vs.length) (c:Cf G H h ((o,.ref p)::(Fz ds vs++L))) (hn: ∀ d,o≠.fz d)
    (own: ∀ ρ M H',H' p=some ho→RepDs G ρ H' M ds vs→Own G ρ H' M o' (.ref p) [p]):Cf G (upd H p ho) h ((o',.ref p)::L):=by
  have c2:Cf G H h (Fz ds vs++(o,.ref p)::L):=c.perm (by
    have:(o,V.ref p)::(Fz ds vs++L)=[(o,V.ref p)]++(Fz ds vs++L):=rfl
    rw [this,←List.append_assoc]
    have e2:Fz ds vs++(o,V.ref p)::L=(Fz ds vs++[(o,V.ref p)])++L:=by simp
    rw [e2]
    exact List.perm_append_comm.append_right L)
  obtain ⟨ρ,M,⟨lr,ow,n⟩,r⟩:=(Cf.fz l).mp c2
  obtain ⟨A,B,o1,o2,pm⟩:=ow.ahead
  have hA:A=[p]:=by
    cases o with
    |fz d=>exact absurd rfl (hn d)
    |lst ds=>obtain ⟨a,vs,e,t,r,f⟩:=o1;cases e;exact f
    |dic ks ds=>obtain ⟨a,vs,e,t,l,r,f⟩:=o1;cases e;exact f
    |ins c fs ds=>obtain ⟨a,C,dx,vs,e,g,t,l,r,f⟩:=o1;cases e;exact f
    |dct ks ds=>obtain ⟨a,bs,vs,e,t,l,fk,rk,r,f⟩:=o1;cases e;exact f
  subst hA
  have n2:=pm.nodup_iff.mp n
  have np:p∉B:=(List.nodup_cons.mp n2).1
  have hpM:p∈M:=pm.mem_iff.mpr (by simp)
  have hk: ∀ b x,H b=some x→b∉M→(upd H p ho) b=some x:=fun b x e nb=>by rw [upd_ne (fun z:b=p=>nb (by rw [z];exact hpM))];exact e
  have hm: ∀ b∈p::B,b∈M∨H b=none:=fun b hb=>.inl (pm.mem_iff.mpr (by simpa using hb))
  have q1:Own G ρ (upd H p ho) (p::B) o' (.ref p) [p]:=own ρ _ _ upd_same (RepDs.stay (fun _ _ q=>q) hk hm _ _ r)
  have q2:Owns G ρ (upd H p ho) (p::B) (h.zip (ρ.map V.ref)++L) B:=o2.stay (fun _ _ q=>q) hk hm (fun b hb x e=>by rw [upd_ne (fun z:b=p=>np (by rw [←z];exact hb))];exact e)
  obtain ⟨F,q3,pm3⟩:=Owns.behind (p:=(o',.ref p)) q1 q2
  exact Cf.sub lr q3 (fun b hb=>by simpa using pm3.mem_iff.mp hb) (pm3.nodup_iff.mpr n2)
end
end Mi
namespace Mi
open PySem PySem.Spec PyProof.Rows L2
section
variable {G:GE} {H:Hp} {h:List O} {L L':List (O×V)}
theorem zip_at: ∀ {h:List O} {ρ:List Addr} {n:Nat} {o:O} {a:Addr},h[n]?=some o→ρ[n]?=some a→
    ∃ X Y,h.zip (ρ.map V.ref)=X++(o,.ref a)::Y∧∀ o',(h.set n o').zip (ρ.map V.ref)=X++(o',.ref a)::Y
  |[],_,_,_,_,e,_=>by simp at e
  |_::_,[],_,_,_,_,e=>by simp at e
  | o0::h,a0::ρ,0,o,a,e1,e2=>by
    simp at e1 e2
    subst e1;subst e2
    exact ⟨[],h.zip (ρ.map V.ref),rfl,fun o'=>rfl⟩
  | o0::h,a0::ρ,n+1,o,a,e1,e2=>by
    obtain ⟨X,Y,q1,q2⟩:=zip_at (h:=h) (ρ:=ρ) (n:=n) (o:=o) (a:=a) (by simpa using e1) (by simpa using e2)
    refine ⟨(o0,.ref a0)::X,Y, ?_,fun o'=>?_⟩
    · simp [q1]
    · simp [q2]
theorem Cf.cell {n:Nat} {v:V} {o:O} (c:Cf G H h ((.fz (.loc n),v)::L)) (hn:h[n]?=some o): ∃ a,v= .ref a∧∃ ρ M A,ρ[n]?=some a∧Cp G ρ H M h L∧Own G ρ H M o (.ref a) A:=by
  obtain ⟨ρ,M,cp,a,e,hr⟩:=Cf.fz1.mp c
  refine ⟨a,e,ρ,M, ?_⟩
  obtain ⟨X,Y,q1,q2⟩:=zip_at hn hr
  have ow:=cp.2.1
  rw [q1,List.append_assoc] at ow
  obtain ⟨A,B,_,_,A',B',_,h3,_⟩:=Owns.split ow
  exact ⟨A',hr,cp,h3⟩
theorem Cf.cellLst {n:Nat} {v:V} {ds:List D} (c:Cf G H h ((.fz (.loc n),v)::L)) (hn:h[n]?=some (.lst ds)): ∃ a vs,v= .ref a∧H a=some (.lst vs)∧ds.length=vs.length∧Cf G H h (Fz ds vs++(.fz (.loc n),v)::L):=by
  obtain ⟨a,e,ρ,M,A,hr,cp,a',vs,e',t,r,f⟩:=c.cell hn
  cases e'
  refine ⟨a,vs,e,t,r.length, ?_⟩
  have:=(Cf.fz (L:=L) (ds:=ds++[.loc n]) (vs:=vs++[v]) (by simp [r.length])).mpr ⟨ρ,M,cp,r.append (.one (d:=.loc n) ⟨a,e,hr⟩)⟩
  rw [Fz,List.zipWith_append r.length,List.append_assoc] at this
  exact this
theorem Cf.putCell {n:Nat} {p:Addr} {ho:HO} {o o':O} {ds:List D} {vs:List V} (l:ds.length=vs.length) (c:Cf G H h (Fz ds vs++(.fz (.loc n),.ref p)::L)) (hn:h[n]?=some o) (hf: ∀ d,o≠.fz d)
    (own: ∀ ρ M H',H' p=some ho→RepDs G ρ H' M ds vs→Own G ρ H' M o' (.ref p) [p]):Cf G (upd H p ho) (h.set n o') ((.fz (.loc n),.ref p)::L):=by
  have c1:Cf G H h (Fz (ds++[.loc n]) (vs++[.ref p])++L):=by
    rw [Fz,List.zipWith_append l,List.append_assoc]
    exact c
  obtain ⟨ρ,M,cp,r⟩:=(Cf.fz (by simp [l])).mp c1
  obtain ⟨lr,ow,n0⟩:=cp
  have r1:RepDs G ρ H M ds vs:=by
    have:=RepDs.take ds.length r
    rw [List.take_left,l,List.take_left] at this
    exact this
  obtain ⟨v',hv',a,e,hr⟩:=RepDs.get (i:=ds.length) (d:=.loc n) r (by simp)
  rw [l,List.getElem?_append_right (Nat.le_refl _)] at hv'
  simp at hv'
  subst hv'
  cases e
  obtain ⟨X,Y,q1,q2⟩:=zip_at hn hr
  rw [q1,List.append_assoc] at ow
  obtain ⟨A,B,eM,s1,A',B',eB,s2,s3⟩:=Owns.split ow
  have hA:A'=[p]:=by
    cases o with
    |fz d=>exact absurd rfl (hf d)
    |lst ds=>obtain ⟨a,vs,e,t,r,f⟩:=s2;cases e;exact f
    |dic ks ds=>obtain ⟨a,vs,e,t,l,r,f⟩:=s2;cases e;exact f
    |ins c fs ds=>obtain ⟨a,C,dx,vs,e,g,t,l,r,f⟩:=s2;cases e;exact f
    |dct ks ds=>obtain ⟨a,bs,vs,e,t,l,fk,rk,r,f⟩:=s2;cases e;exact f
  subst hA;subst eB
  have hpM:p∈M:=by rw [eM];simp
  have n1:(A++([p]++B')).Nodup:=by rw [←eM];exact n0
  have hpA:p∉A:=fun z=>(List.nodup_append.mp n1).2.2 p z p (by simp) rfl
  have hpB:p∉B':=(List.nodup_cons.mp (List.nodup_append.mp n1).2.1).1
  have hk: ∀ b x,H b=some x→b∉M→(upd H p ho) b=some x:=fun b x e nb=>by rw [upd_ne (fun z:b=p=>nb (by rw [z];exact hpM))];exact e
  have hm: ∀ b∈M,b∈M∨H b=none:=fun b hb=>.inl hb
  have t1:=s1.stay (H':=upd H p ho) (M':=M) (ρ':=ρ) (fun _ _ q=>q) hk hm (fun b hb x e=>by rw [upd_ne (fun z:b=p=>hpA (by rw [←z];exact hb))];exact e)
  have t3:=s3.stay (H':=upd H p ho) (M':=M) (ρ':=ρ) (fun _ _ q=>q) hk hm (fun b hb x e=>by rw [upd_ne (fun z:b=p=>hpB (by rw [←z];exact hb))];exact e)
  have t2:Own G ρ (upd H p ho) M o' (.ref p) [p]:=own ρ M _ upd_same (RepDs.stay (fun _ _ q=>q) hk hm _ _ r1)
  refine Cf.fz1.mpr ⟨ρ,M,⟨by rw [List.length_set];exact lr, ?_,n0⟩,p,rfl,hr⟩
  rw [q2,List.append_assoc]
  have:=t1.append (L':=(o',.ref p)::(Y++L)) (F':=[p]++B') ⟨[p],B',rfl,t2,t3⟩
  rw [←eM] at this
  exact this
theorem Cf.newCell {o:O} {v:V} (c:Cf G H h ((o,v)::L)) (hf: ∀ d,o≠.fz d):Cf G H (h++[o]) ((.fz (.loc h.length),v)::L):=by
  obtain ⟨ρ,M,l,ow,n⟩:=c
  obtain ⟨A,B,e,s1,A',B',e',s2,s3⟩:=Owns.split ow
  have hA: ∃ p,v= .ref p:=by
    cases o with
    |fz d=>exact absurd rfl (hf d)
    |lst ds=>obtain ⟨a,vs,e,t,r,f⟩:=s2;exact ⟨a,e⟩
    |dic ks ds=>obtain ⟨a,vs,e,t,l,r,f⟩:=s2;exact ⟨a,e⟩
    |ins c fs ds=>obtain ⟨a,C,dx,vs,e,g,t,l,r,f⟩:=s2;exact ⟨a,e⟩
    |dct ks ds=>obtain ⟨a,bs,vs,e,t,l,fk,rk,r,f⟩:=s2;exact ⟨a,e⟩
  obtain ⟨p,ep⟩:=hA
  subst ep
  have hρ: ∀ (n:Nat) a,ρ[n]?=some a→(ρ++[p])[n]?=some a:=fun n a q=>by
    rw [List.getElem?_append_left (by
      rcases Nat.lt_or_ge n ρ.length with z|z
      · exact z
      · rw [List.getElem?_eq_none z] at q;cases q)]
    exact q
  have hk: ∀ b x,H b=some x→b∉M→H b=some x:=fun _ _ q _=>q
  refine Cf.fz1.mpr ⟨ρ++[p],M,⟨by simp [l], ?_,n⟩,p,rfl,by rw [←l];simp⟩
  rw [List.map_append,List.zip_append (by simp [l]),List.append_assoc,e,e']
  have t1:=s1.stay (ρ':=ρ++[p]) (M':=M) hρ hk (fun b hb=>.inl hb) (fun _ _ _ q=>q)
  have t2:=s2.stay (ρ':=ρ++[p]) (M':=M) hρ hk (fun b hb=>.inl hb) (fun _ _ _ q=>q)
  have t3:=s3.stay (ρ':=ρ++[p]) (M':=M) hρ hk (fun b hb=>.inl hb) (fun _ _ _ q=>q)
  rw [e,e'] at t1 t2 t3
  exact t1.append ⟨A',B',rfl,t2,t3⟩
theorem Fz_append {ds es:List D} {vs us:List V} (l:ds.length=vs.length):Fz (ds++es) (vs++us)=Fz ds vs++Fz es us:=by
  rw [Fz,List.zipWith_append l];rfl
theorem Cf.lst {ds:List D} {v:V} (c:Cf G H h ((.lst ds,v)::L)): ∃ a vs,v= .ref a∧H a=some (.lst vs)∧ds.length=vs.length∧Cf G H h ((.lst ds,v)::(Fz ds vs++L)):=by
  obtain ⟨ρ,M,l,ow,n⟩:=c
  obtain ⟨A,B,o1,o2,pm⟩:=ow.ahead
  obtain ⟨a,vs,e,t,r,f⟩:=o1
  refine ⟨a,vs,e,t,r.length, ?_⟩
  have c2:Cf G H h (Fz ds vs++(.lst ds,v)::L):=(Cf.fz r.length).mpr ⟨ρ,M,⟨l,ow,n⟩,r⟩
  refine c2.perm ?_
  have e2:Fz ds vs++(O.lst ds,v)::L=(Fz ds vs++[(O.lst ds,v)])++L:=by simp
  rw [e2]
  exact List.perm_append_comm.append_right L
theorem Tr.sq {M:List Addr} {a:Addr} {vs:List V} (t:Tr G H M a vs):SqT G.K H a vs:=by
  rcases t with ⟨ho,t,i,n⟩|⟨o,its,n,t1,t2,t3,t4,t5,_⟩
  · exact .inl (isTupO.rd t i)
  · exact .inr ⟨o,its,n,t1,t2,t3,t4,t5⟩
theorem Cf.tupF {ds:List D} {v:V} (c:Cf G H h ((.fz (.tup ds),v)::L)): ∃ a vs,v= .ref a∧SqT G.K H a vs∧ds.length=vs.length∧Cf G H h (Fz ds vs++(.fz (.tup ds),v)::L):=by
  obtain ⟨ρ,M,cp,a,vs,e,t,r⟩:=Cf.fz1.mp c
  refine ⟨a,vs,e,t.sq,r.length, ?_⟩
  have:=(Cf.fz (L:=L) (ds:=ds++[.tup ds]) (vs:=vs++[v]) (by simp [r.length])).mpr ⟨ρ,M,cp,r.append (.one (d:=.tup ds) ⟨a,vs,e,t,r⟩)⟩
  rw [Fz_append r.length,List.append_assoc] at this
  exact this
theorem Cf.get {ds:List D} {vs:List V} {i:Nat} {d:D} (l:ds.length=vs.length) (c:Cf G H h (Fz ds vs++L)) (e:ds[i]?=some d): ∃ v,vs[i]?=some v∧Cf G H h ((.fz d,v)::L):=by
  obtain ⟨ρ,M,cp,r⟩:=(Cf.fz l).mp c
  obtain ⟨v,hv,q⟩:=r.get e
  exact ⟨v,hv,Cf.fz1.mpr ⟨ρ,M,cp,q⟩⟩
theorem Cf.swap {p q:O×V} (c:Cf G H h (p::q::L)):Cf G H h (q::p::L):=c.perm (.swap _ _ _)
theorem Cf.int {i:Int} {v:V} (c:Cf G H h ((.fz (.int i),v)::L)):v= .int i:=by obtain ⟨ρ,M,cp,e⟩:=Cf.fz1.mp c;exact e
theorem Cf.bl {i:Bool} {v:V} (c:Cf G H h ((.fz (.bl i),v)::L)):v= .bl i:=by obtain ⟨ρ,M,cp,e⟩:=Cf.fz1.mp c;exact e
theorem Cf.str {i:Str} {v:V} (c:Cf G H h ((.fz (.str i),v)::L)):v= .str i:=by obtain ⟨ρ,M,cp,e⟩:=Cf.fz1.mp c;exact e
theorem Cf.non {v:V} (c:Cf G H h ((.fz .non,v)::L)):v= .non:=by obtain ⟨ρ,M,cp,e⟩:=Cf.fz1.mp c;exact e
def simple:D→Option V
  | .non=>some .non| .bl b=>some (.bl b)| .int i=>some (.int i)| .str x=>some (.str x)| .ty n=>some (.ty n)|_=>none
theorem Cf.simple {d:D} {v:V} (c:Cf G H h L) (e:simple d=some v):Cf G H h ((.fz d,v)::L):=by
  obtain ⟨ρ,M,cp⟩:=c
  refine Cf.fz1.mpr ⟨ρ,M,cp, ?_⟩
  cases d<;>simp [Mi.simple] at e<;>subst e<;>rfl
end
end Mi
namespace Mi
open PySem PySem.Spec PyProof.Rows L2
abbrev Sr:=L2.St
structure S where
  σ:List (Option O)
  h:List O
inductive Out (α:Type) where
  |ok (a:α) (s:S)
  |exc (c:Str) (d:D) (s:S)
  |bad
inductive Res where
  |ok (o:O) (h:List O)
  |exc (c:Str) (d:D) (h:List O)
  |bad
inductive Fl where
  |nx (s:S)|rt (o:O) (s:S)|bk (s:S)|ct (s:S)|exc (c:Str) (d:D) (s:S)|bad
abbrev Call:=Str→List D→List O→Res
inductive R where
  |own (o:O)|bor (i:Nat)
abbrev E:=Call→S→Out R
abbrev B:=Call→S→Out Bool
abbrev As:=Call→S→Out (List D)
abbrev C:=Call→S→Fl
def Out.bind {α β:Type} (x:Out α) (f:α→S→Out β):Out β:=match x with
  | .ok a s=>f a s
  | .exc c d s=>.exc c d s
  | .bad=>.bad
def Out.flow {α:Type} (x:Out α) (f:α→S→Fl):Fl:=match x with
  | .ok a s=>f a s
  | .exc c d s=>.exc c d s
  | .bad=>.bad
@[simp] theorem Out.bind_ok {α β:Type} (a:α) (s:S) (f:α→S→Out β):(Out.ok a s).bind f=f a s:=rfl
@[simp] theorem Out.flow_ok {α:Type} (a:α) (s:S) (f:α→S→Fl):(Out.ok a s).flow f=f a s:=rfl
def lift {α:Type} (s:S):Option α→Out α
  |some a=>.ok a s
  |none=>.bad
@[simp] theorem lift_some {α:Type} (s:S) (a:α):lift s (some a)= .ok a s:=rfl
def slp:List (Option O)→Sr→List (O×V)
  |some o::os,some v::vs=>(o,v)::slp os vs
  |_::os,_::vs=>slp os vs
  |_,_=>[]
structure SlOk (σ:List (Option O)) (σr:Sr):Prop where
  len:σ.length=σr.length
  at_: ∀ (i:Nat) o,σ[i]?=some (some o)→∃ v,σr[i]?=some (some v)
def ow:List (R×V)→List (O×V)
  |(.own o,v)::r=>(o,v)::ow r
  |(.bor _,_)::r=>ow r
  |[]=>[]
structure CfS (G:GE) (σr:Sr) (H:Hp) (s:S) (Φ:List (R×V)):Prop where
  sl:SlOk s.σ σr
  bo: ∀ i v,(R.bor i,v)∈Φ→σr[i]?=some (some v)
  cf:Cf G H s.h (slp s.σ σr++ow Φ)
theorem slp_at: ∀ {σ:List (Option O)} {σr:Sr} {i:Nat} {o:O} {v:V},σ[i]?=some (some o)→σr[i]?=some (some v)→
    ∃ X Y,slp σ σr=X++(o,v)::Y∧(∀ o',slp (σ.set i (some o')) σr=X++(o',v)::Y)
  |[],_,_,_,_,e,_=>by simp at e
  |_::_,[],_,_,_,_,e=>by simp at e
  | a::σ,b::σr,0,o,v,e1,e2=>by
    simp at e1 e2
    subst e1;subst e2
    exact ⟨[],slp σ σr,rfl,fun o'=>rfl⟩
  | a ::σ,b::σr,i+1,o,v,e1,e2=>by
    obtain ⟨X,Y,q1,q2⟩:=slp_at (σ:=σ) (σr:=σr) (i:=i) (o:=o) (v:=v) (by simpa using e1) (by simpa using e2)
    cases a with
    |none=>exact ⟨X,Y,q1,fun o'=>q2 o'⟩
    | some a=>
      cases b with
      |none=>exact ⟨X,Y,q1,fun o'=>q2 o'⟩
      |some b=>exact ⟨(a,b)::X,Y,by simp [slp,q1],fun o'=>by simp [slp,q2]⟩
theorem slp_set: ∀ {σ:List (Option O)} {σr:Sr} {i:Nat} {o:O} {v:V},i<σ.length→i<σr.length→
    ∃ X Z Y,slp σ σr=X++(Z++Y)∧slp (σ.set i (some o)) (σr.set i (some v))=X++(o,v)::Y∧slp (σ.set i none) (σr.set i none)=X++Y
  |[],_,_,_,_,e,_=>by simp at e
  |_::_,[],_,_,_,_,e=>by simp at e
  | a ::σ,b::σr,0,o,v,_,_=>by
    cases a with
    |none=>exact ⟨[],[],slp σ σr,rfl,rfl,rfl⟩
    | some a=>
      cases b with
      |none=>exact ⟨[],[],slp σ σr,rfl,rfl,rfl⟩
      |some b=>exact ⟨[],[(a,b)],slp σ σr,rfl,rfl,rfl⟩
  | a ::σ,b::σr,i+1,o,v,e1,e2=>by
    obtain ⟨X,Z,Y,q1,q2,q3⟩:=slp_set (σ:=σ) (σr:=σr) (i:=i) (o:=o) (v:=v) (by simpa using e1) (by simpa using e2)
    cases a with
    |none=>exact ⟨X,Z,Y,q1,q2,q3⟩
    | some a=>
      cases b with
      |none=>exact ⟨X,Z,Y,q1,q2,q3⟩
      |some b=>exact ⟨(a,b)::X,Z,Y,by simp [slp,q1],by simp [slp,q2],by simp [slp,q3]⟩
theorem ow_append: ∀ (Φ Ψ:List (R×V)),ow (Φ++Ψ)=ow Φ++ow Ψ
  |[],_=>rfl
  |(.own o,v)::r,Ψ=>by simp [ow,ow_append r Ψ]
  |(.bor i,v)::r,Ψ=>by simp [ow,ow_append r Ψ]
theorem ow_perm {Φ Ψ:List (R×V)} (p:Φ.Perm Ψ):(ow Φ).Perm (ow Ψ):=by
  induction p with
  |nil=>exact .refl _
  |cons x _ ih=>cases x with|mk r v=>cases r<;>simp [ow,ih]
  | swap x y l=>
    cases x with|mk r v=>cases y with|mk r' v'=>cases r<;>cases r'<;>simp [ow];exact .swap _ _ _
  |trans _ _ a b=>exact a.trans b
def deref (h:List O):D→Option D
  | .loc n=>(h[n]?).map frz
  |d=>some d
def peek (s:S):R→Option D
  | .own o=>deref s.h (frz o)
  | .bor i=>match s.σ[i]? with
    |some (some o)=>deref s.h (frz o)
    |_=>none
def take (s:S):R→Option (D×S)
  | .own o=>some (frz o,s)
  | .bor i=>match s.σ[i]? with
    |some (some o)=>some (frz o,⟨s.σ.set i (some (.fz (frz o))),s.h⟩)
    |_=>none
section
variable {G:GE} {σr:Sr} {H:Hp} {s:S} {Φ:List (R×V)}
theorem CfS.by_ {Φ':List (R×V)} {H':Hp} {h':List O} (c:CfS G σr H s Φ) (hb: ∀ i v,(R.bor i,v)∈Φ'→(R.bor i,v)∈Φ) (f: ∀ L,Cf G H s.h (ow Φ++L)→Cf G H' h' (ow Φ'++L)):CfS G σr H' ⟨s.σ,h'⟩ Φ':=
  ⟨c.sl,fun i v q=>c.bo i v (hb i v q),(f _ (c.cf.perm List.perm_append_comm)).perm List.perm_append_comm⟩
theorem CfS.perm {Φ':List (R×V)} (p:Φ.Perm Φ') (c:CfS G σr H s Φ):CfS G σr H s Φ':=⟨c.sl,fun i v q=>c.bo i v (p.mem_iff.mpr q),c.cf.perm ((ow_perm p).append_left _)⟩
theorem CfS.drop {p:R×V} (c:CfS G σr H s (p::Φ)):CfS G σr H s Φ:=c.by_ (fun _ _ q=>List.mem_cons_of_mem _ q) fun L q=>by
  cases p with|mk r v=>cases r with
    |own o=>exact Cf.drop (p:=(o,v)) q
    |bor i=>exact q
theorem CfS.dropN: ∀ {K:List (R×V)},CfS G σr H s (K++Φ)→CfS G σr H s Φ
  |[],c=>c
  |_::K,c=>CfS.dropN (K:=K) c.drop
theorem CfS.swap {p q:R×V} (c:CfS G σr H s (p::q::Φ)):CfS G σr H s (q::p::Φ):=c.perm (.swap _ _ _)
theorem CfS.frz {o:O} {v:V} (c:CfS G σr H s ((.own o,v)::Φ)):CfS G σr H s ((.own (.fz (frz o)),v)::Φ):=c.by_ (fun _ _ q=>by simpa using q) fun L q=>Cf.frz q
theorem CfS.name {i:Nat} {o:O} (c:CfS G σr H s Φ) (e:s.σ[i]?=some (some o)): ∃ v,σr[i]?=some (some v)∧CfS G σr H s ((.bor i,v)::Φ):=by
  obtain ⟨v,ev⟩:=c.sl.at_ i o e
  refine ⟨v,ev,c.sl,fun j w q=>?_,c.cf⟩
  rcases List.mem_cons.mp q with q|q
  · injection q with q1 q2;injection q1 with q1;subst q1;subst q2;exact ev
  · exact c.bo j w q
theorem CfS.take {r:R} {v:V} {d:D} {s':S} (c:CfS G σr H s ((r,v)::Φ)) (e:take s r=some (d,s')):CfS G σr H s' ((.own (.fz d),v)::Φ):=by
  cases r with
  | own o=>
    simp only [Mi.take,Option.some.injEq,Prod.mk.injEq] at e
    obtain ⟨e1,e2⟩:=e
    subst e1;subst e2
    exact c.frz
  | bor i=>
    simp only [Mi.take] at e
    have ev:σr[i]?=some (some v):=c.bo i v (by simp)
    have cb:=fun j w q=>c.bo j w (List.mem_cons_of_mem _ q)
    have ok:=c.sl
    have cf:Cf G H s.h (slp s.σ σr++ow Φ):=c.cf
    split at e
    · rename_i o eo
      simp only [Option.some.injEq,Prod.mk.injEq] at e
      obtain ⟨e1,e2⟩:=e
      subst e1;subst e2
      refine ⟨⟨by simp [ok.len],fun j o' q=>?_⟩,fun j w q=>?_, ?_⟩
      · by_cases hj:i=j
        · subst hj;exact ⟨v,ev⟩
        · exact ok.at_ j o' (by simpa [List.getElem?_set,hj] using q)
      · rcases List.mem_cons.mp q with q|q
        · cases q
        · exact cb j w q
      · obtain ⟨X,Y,q1,q2⟩:=slp_at eo ev
        show Cf G H s.h (slp (s.σ.set i _) σr++(O.fz (Mi.frz o),v)::ow Φ)
        rw [q2]
        rw [q1] at cf
        have c1:Cf G H s.h ((o,v)::(X++Y++ow Φ)):=cf.perm (by simp)
        refine c1.frz.dup.perm ?_
        simp only [List.append_assoc,List.cons_append]
        refine List.Perm.trans (List.Perm.cons _ ?_) List.perm_middle.symm
        rw [←List.append_assoc,←List.append_assoc]
        exact List.perm_middle.symm
    · cases e
end
end Mi
namespace Mi
open PySem PySem.Spec PyProof.Rows L2
section
open Builtin Builtin.ObjectAttr
def refsT (tl:List Value):List Value→Bool
  | .ref _::r=>refsT tl r
  |l=>l==tl
theorem refsT_split {tl:List Value}: ∀ l:List Value,refsT tl l=true→(∃ c r,l= .ref c::r∧refsT tl r=true)∨l=tl
  | .ref c::r,e=>.inl ⟨c,r,rfl,e⟩
  |[],e=>.inr (by simpa [refsT] using e)
  | .none::_,e=>.inr (by simpa [refsT] using e)
  | .ellipsis::_,e=>.inr (by simpa [refsT] using e)
  | .notImplemented::_,e=>.inr (by simpa [refsT] using e)
  | .bool _::_,e=>.inr (by simpa [refsT] using e)
  | .int _ _::_,e=>.inr (by simpa [refsT] using e)
  | .float _ _::_,e=>.inr (by simpa [refsT] using e)
  | .str _ _::_,e=>.inr (by simpa [refsT] using e)
  | .bytes _ _::_,e=>.inr (by simpa [refsT] using e)
  | .type _::_,e=>.inr (by simpa [refsT] using e)
  | .builtin _::_,e=>.inr (by simpa [refsT] using e)
theorem refsT_has {tl:List Value} (Y:String): ∀ l:List Value,refsT tl l=true→l.contains (.type Y)=tl.contains (.type Y):=by
  intro l
  induction l with
  | nil=>
    intro e
    rcases refsT_split [] e with ⟨c,r,q,_⟩|q
    · cases q
    · rw [←q]
  | cons a r ih=>
    intro e
    rcases refsT_split (a::r) e with ⟨c,r',q,hr⟩|q
    · cases q
      rw [List.contains_cons,ih hr]
      rfl
    · rw [q]
theorem refsT_pass {tl:List Value} (self:Value) (hp:refuseLoop self "__setattr__" tl=pure ()): ∀ l:List Value,refsT tl l=true→refuseLoop self "__setattr__" l=pure ():=by
  intro l
  induction l with
  | nil=>
    intro e
    rcases refsT_split [] e with ⟨c,r,q,_⟩|q
    · cases q
    · rw [q];exact hp
  | cons a r ih=>
    intro e
    rcases refsT_split (a::r) e with ⟨c,r',q,hr⟩|q
    · cases q
      rw [refuseLoop_ref]
      exact ih hr
    · rw [q];exact hp
abbrev exObj (C t:Addr):Obj:=PySem.HandSPX.excO C t
structure XB (tl:List Value) (newId initId:String):Prop where
  pass: ∀ self,refuseLoop self "__setattr__" tl=pure ()
  hobj:tl.contains (.type "object")=true
  hne:tl≠[]
  made: ∀ {prog:Program} {w:World} {A:Around} {R:Result→Shared→Prop} {h:Heap} {g:Array GenState} {d:Drawn} {t:Nat} {os:OsState} {nam q:Str} {C N:Addr} {bas bm:List Value} {hdc:Bool} {sno:List Str} {sb:List Value} {abs0:Bool} {cl:Option Bool} {dd:Option Addr} {w0 w1 w2 w3 w5:Option Value} {more:List Value} {fI:Addr},
    refsT tl bm=true→h.get? C=some (excClassObj nam q C N bas bm hdc sno sb abs0 cl dd w0 w1 w2 w3 w5 newId)→W.Looks (model prog w) h (typeLookup (.ref C) "__init__") (some (.ref fI))→(∀ self,W.Looks (model prog w) h (bindSpecial (.ref fI) self) (.ref fI,[self]))→more.length≤sizeLine→
    codeAny (model prog w) (A.under (.builtin "type.__call__" ⟨.ref C::more,[]⟩)) (.call (.ref fI) ⟨.ref (h.objs.size+1)::more,[]⟩) (W.InitBack (h.objs.size+1) R) ⟨(h.push (W.kdv_tup more)).push (exObj C h.objs.size),g,d,t,os⟩→
    codeAny (model prog w) A (.call (.ref C) ⟨more,[]⟩) R ⟨h,g,d,t,os⟩
  ini: ∀ {prog:Program} {w:World} {A:Around} {R:Result→Shared→Prop} {h:Heap} {g:Array GenState} {d:Drawn} {t:Nat} {os:OsState} {nam q:Str} {C N:Addr} {bas bm:List Value} {hdc:Bool} {sno:List Str} {sb:List Value} {abs0:Bool} {cl:Option Bool} {dd:Option Addr} {w0 w1 w2 w3 w5:Option Value} {more:List Value} {e t0:Addr},
    refsT tl bm=true→h.get? C=some (excClassObj nam q C N bas bm hdc sno sb abs0 cl dd w0 w1 w2 w3 w5 newId)→h.get? e=some (exObj C t0)→more.length≤sizeLine→
    (∀ h' t1,(∀ b o,b≠e→h.get? b=some o→h'.get? b=some o)→h'.get? e=some (exObj C t1)→R (.ok (.ret .none)) ⟨h',g,d,t,os⟩)→
    codeAny (model prog w) A (.call (.builtin initId) ⟨.ref e::more,[]⟩) R ⟨h,g,d,t,os⟩
theorem XB.of {B newId initId:String} {tl:List Value} (F:ExcBaseFacts B newId initId tl) (hp: ∀ self,refuseLoop self "__setattr__" tl=pure ()) (old:tl.contains (.type "object")=true) (hne:tl≠[]):XB tl newId initId:=
  ⟨hp,old,hne,fun hr atC ini0 bnd hl nxt=>PySem.HandSPX.call_own F (fun Y=>refsT_has Y _ hr) atC ini0 bnd hl nxt,fun hr atC atE hl nxt=>PySem.HandSPX.init_base F (fun Y=>refsT_has Y _ hr) atC atE hl nxt⟩
abbrev tlK:List Value:=[.type "KeyError",.type "LookupError",.type "Exception",.type "BaseException",.type "object"]
section
variable {M:Model} {prog:Program} {w:World} {A:Around} {E:Value→Shared→Prop} {R:Result→Shared→Prop} {h:Heap} {g:Array GenState} {d:Drawn} {t:Nat} {os:OsState}
variable {nam q:Str} {C N:Addr} {bas bm:List Value} {hdc:Bool} {sno:List Str} {sb:List Value} {abs0:Bool} {cl:Option Bool} {dd:Option Addr} {w0 w1 w2 w3 w5:Option Value}
abbrev lkN:String:="LookupError.__new__"
theorem ke_has (hr:refsT tlK bm=true) (Y:String):(Value.ref C::bm).contains (.type Y)=tlK.contains (.type Y):=by
  rw [List.contains_cons,refsT_has Y bm hr];rfl
theorem ke_check_new (hr:refsT tlK bm=true) {more:List Value} {Q:Unit→Shared→Prop}
    (atC:h.get? C=some (excClassObj nam q C N bas bm hdc sno sb abs0 cl dd w0 w1 w2 w3 w5 lkN)) (nxt:Q () ⟨h,g,d,t,os⟩):wpAny M A (checkBuiltinCall lkN ⟨.ref C::more,[]⟩) Q E ⟨h,g,d,t,os⟩:=by
  have FLk:=F.excBase_LookupError
  have hin:(Value.ref C::bm).contains (.type "LookupError")=true:=(ke_has hr _).trans (by decide+kernel)
  have hns:=FLk.noStar
  simp only [checkBuiltinCall,FLk.newKind,FLk.newSplit,FLk.newRow]
  repeat (first|refine wpAny_loadPart_at atC ?_|(refine wpAny_isSubtype_exc atC ?_;rw [hin])|refine wpAny_staticBase_exc atC ?_|refine wpAny_madeBy_exc atC ?_|simp only [bne_self_eq_false,Bool.false_eq_true,if_false]|wp_step)
  exact nxt
theorem ke_new (hr:refsT tlK bm=true) {more:List Value} (atC:h.get? C=some (excClassObj nam q C N bas bm hdc sno sb abs0 cl dd w0 w1 w2 w3 w5 lkN))
    (nxt:R (.ok (.ret (.ref (h.objs.size+1)))) ⟨(h.push (W.kdv_tup more)).push (exObj C h.objs.size),g,d,t,os⟩) (hl:more.length≤sizeLine):
    codeAny (model prog w) A (.builtin lkN ⟨.ref C::more,[]⟩) R ⟨h,g,d,t,os⟩:=by
  have FLk:=F.excBase_LookupError
  have hends:=FLk.ends
  have i1:(Value.ref C::bm).contains (.type "LookupError")=true:=(ke_has hr _).trans (by decide+kernel)
  have i2:(Value.ref C::bm).contains (.type "AttributeError")=false:=(ke_has hr _).trans (by decide+kernel)
  have i3:(Value.ref C::bm).contains (.type "NameError")=false:=(ke_has hr _).trans (by decide+kernel)
  refine codeAny_builtinAt FLk.entry ?_
  unfold Builtin.«BaseException.__new__»
  refine PySem.wpAt_bind ?_
  show PySem.wpAt _ _ _ (stack >>= _) _ _ _
  refine PySem.wpAt_bind (PySem.wpAt_stack fun p below=>wpAt_of_wpAny ?_)
  wp_walk
  refine wpAt_of_wpAny ?_
  rw [FLk.owner]
  repeat (first|with_reducible refine wpAny_madeHere_exc FLk.canon atC ?_|with_reducible refine wpAny_loadPart_at atC ?_|(with_reducible refine wpAny_isSubtype_exc atC ?_;first|rw [i1]|rw [i2]|rw [i3])|wp_step)
  show R _ _
  rw [Heap.size_push]
  exact nxt
theorem ke_type_call (hr:refsT tlK bm=true) {more:List Value} {fI:Addr} {Q:Fin→Shared→Prop} (atC:h.get? C=some (excClassObj nam q C N bas bm hdc sno sb abs0 cl dd w0 w1 w2 w3 w5 lkN))
    (ini0:W.Looks (model prog w) h (typeLookup (.ref C) "__init__") (some (.ref fI))) (bnd: ∀ self,W.Looks (model prog w) h (bindSpecial (.ref fI) self) (.ref fI,[self])) (hl:more.length≤sizeLine)
    (nxt:codeAny (model prog w) A (.call (.ref fI) ⟨.ref (h.objs.size+1)::more,[]⟩) (fun r s'=>match r with| .ok (.ret v)=>v= .none∧Q (.done (.ret (.ref (h.objs.size+1)))) s'| .ok _=>False| .error e=>E e s')
      ⟨(h.push (W.kdv_tup more)).push (exObj C h.objs.size),g,d,t,os⟩):
    wpAny (model prog w) A (Builtin.«type.__call__» ⟨.ref C::more,[]⟩) Q E ⟨h,g,d,t,os⟩:=by
  have FLk:=F.excBase_LookupError
  repeat (first|with_reducible refine wpAny_loadPart_at atC ?_|with_reducible refine wpAny_madeBy_exc atC ?_|wp_step)
  refine codeAny_call_builtin_code (Code.quiet_builtin _ FLk.quiet) (ke_check_new hr atC ?_)
  refine ke_new hr atC ?_ hl
  show wpAny _ _ _ _ _ _
  have kp0: ∀ b o,h.get? b=some o→((h.push (W.kdv_tup more)).push (exObj C h.objs.size)).get? b=some o:=fun b o e=>Heap.get?_push_of_some _ (Heap.get?_push_of_some _ e)
  have hC2:=kp0 _ _ atC
  have hg2:((h.push (W.kdv_tup more)).push (exObj C h.objs.size)).get? (h.objs.size+1)=some (exObj C h.objs.size):=by heap_get
  have hself:(Value.ref C::bm).contains (.ref C)=true:=by simp
  have ik:=ini0.keeps kp0
  have bk:=(bnd (.ref (h.objs.size+1))).keeps kp0
  unfold isInstance
  repeat (first|with_reducible refine wpAny_loadPart_at hg2 ?_|(with_reducible refine wpAny_isSubtype_exc hC2 ?_;rw [hself])|wp_step)
  show wpAny _ _ (typeLookup (.ref C) _) _ _ _
  refine ik.at ?_
  refine wpAny_holding (wpAny_bind (bk.at ?_))
  refine wpAny_bind (wpAny_call (codeAny_mono nxt fun r s' z=>?_))
  rcases r with e|(v|_|_|_)<;>try (first|exact z|exact z.elim)
  obtain ⟨hv,z⟩:=z
  subst hv
  first
    |exact wpAny_pure (wpAny_pure z)
    |(wp_walk;exact z)
theorem ke_call (hr:refsT tlK bm=true) {more:List Value} {fI:Addr} (atC:h.get? C=some (excClassObj nam q C N bas bm hdc sno sb abs0 cl dd w0 w1 w2 w3 w5 lkN))
    (ini0:W.Looks (model prog w) h (typeLookup (.ref C) "__init__") (some (.ref fI))) (bnd: ∀ self,W.Looks (model prog w) h (bindSpecial (.ref fI) self) (.ref fI,[self])) (hl:more.length≤sizeLine)
    (nxt:codeAny (model prog w) (A.under (.builtin "type.__call__" ⟨.ref C::more,[]⟩)) (.call (.ref fI) ⟨.ref (h.objs.size+1)::more,[]⟩) (W.InitBack (h.objs.size+1) R) ⟨(h.push (W.kdv_tup more)).push (exObj C h.objs.size),g,d,t,os⟩):
    codeAny (model prog w) A (.call (.ref C) ⟨more,[]⟩) R ⟨h,g,d,t,os⟩:=by
  have l1:=PySem.tc_lookup
  have l2:=PySem.tc_bind (.ref C)
  have isTy:(⟨h,g,d,t,os⟩:Shared).TypeIs (.ref C) "type":=⟨_,atC,rfl⟩
  refine codeAny_of_tree ?_
  show wpAny _ _ (callAny (.ref C) _) _ _ _
  repeat (any_goals (first|assumption|with_reducible refine wpAny_loadPart_at atC ?_|wp_step))
  refine ⟨rfl, ?_⟩
  refine codeAny_call_builtin_at (Code.quiet_builtin _ (by decide+kernel)) PySem.entry_typeCall (wpAny_check_type_call_sub atC (ke_type_call hr atC ini0 bnd hl ?_))
  refine codeAny_mono nxt fun r s' z=>?_
  rcases r with e|(v|_|_|_)<;>exact z
theorem ke_init (hr:refsT tlK bm=true) {e t0:Addr} {more:List Value} (atC:h.get? C=some (excClassObj nam q C N bas bm hdc sno sb abs0 cl dd w0 w1 w2 w3 w5 lkN)) (atE:h.get? e=some (exObj C t0)) (hl:more.length≤sizeLine)
    (nxt: ∀ h' t1,(∀ b o,b≠e→h.get? b=some o→h'.get? b=some o)→h'.get? e=some (exObj C t1)→R (.ok (.ret .none)) ⟨h',g,d,t,os⟩):
    codeAny (model prog w) A (.call (.builtin "KeyError.__init__") ⟨.ref e::more,[]⟩) R ⟨h,g,d,t,os⟩:=by
  have FK:=excClass_KeyError
  have hin:(Value.ref C::bm).contains (.type "KeyError")=true:=(ke_has hr _).trans (by decide+kernel)
  have hsh:=FK.notStar
  refine codeAny_call_builtin FK.init.plain FK.initEntry ?_
  simp only [checkBuiltinCall,FK.initKind,FK.initSplit,FK.initSig]
  repeat (first|with_reducible refine wpAny_loadPart_at atE ?_|with_reducible refine wpAny_loadPart_at atC ?_|(with_reducible refine wpAny_isSubtype_exc atC ?_;rw [hin])|wp_step)
  refine wpAny_onRaise ?_
  rw [show ∀ (a b:String) (n:Nat),Bind.check ⟨.positional,"*","KeyError",.self,[⟨"args",.varPos,false⟩]⟩ a b n (List.map (fun x=>x.fst) ({pos:=Value.ref e::more}:Args).kw)=pure () from
    fun a b n=>check_star_args _ _ _ _ _ _]
  refine wpAny_pure ?_
  wp_walk
  refine nxt _ h.objs.size (fun b o bnd old=>?_) ?_
  · rw [Heap.get?_update_other _ _ (Ne.symm bnd)]
    exact Heap.get?_push_of_some _ old
  · rw [Heap.get?_update_self _ (Heap.get?_push_of_some _ atE) rfl]
    rfl
end
theorem ke_pass: ∀ self,refuseLoop self "__setattr__" tlK=pure ():=fun self=>by kernel_rfl
theorem xbK:XB tlK "LookupError.__new__" "KeyError.__init__":=⟨ke_pass,by decide+kernel,by simp,fun hr atC ini0 bnd hl nxt=>ke_call hr atC ini0 bnd hl nxt,fun hr atC atE hl nxt=>ke_init hr atC atE hl nxt⟩
end
end Mi
namespace Mi
open PySem PySem.Spec PyProof.Rows L2
open He (ga ma fAd eqO eqO_ok ba)
abbrev Fg:=PySem.W.Frag
def cdB (K:Fg) (p:Str×Option Str) (q:Str) (t:FuncData→Bool):Bool:=match K.lookup (fAd K p) with
  |some ⟨_,_,.func fd,_⟩=>PySem.W.codeIn K fd.code q&&t fd
  |_=>false
def fnV (n q:Str) (ps:Arguments) (bd:List Stmt) (sc:Scope):He.FnW:=some (n,q,ps,.stmts bd,sc,mainGlobals,[],builtinsNs)
theorem fnY {K:Fg} {p:Str×Option Str} {n q:Str} {ps:Arguments} {bd:List Stmt} {sc:Scope} {t:FuncData→Bool} (e:He.fnW K p=fnV n q ps bd sc) (c:cdB K p q t=true):
    ∃ (od an:Option Addr) (sl:Array (Option Value)) (oc dV kV dc pm cd ct:Value),K.lookup (fAd K p)=some ⟨oc,od,.func (PySem.W.fnOf n q ps bd sc dV kV dc pm an cd ct),sl⟩∧PySem.W.codeIn K cd q=true∧t (PySem.W.fnOf n q ps bd sc dV kV dc pm an cd ct)=true:=by
  unfold cdB at c
  unfold He.fnW fnV at e
  cases l:K.lookup (fAd K p) with
  |none=>rw [l] at c;cases c
  | some o=>
    obtain ⟨oc,od,dt,osl⟩:=o
    rw [l] at c e
    cases dt with
    | func fd=>
      obtain ⟨n1,n2,n3,n4,n5,n6,n7,n8,n9,n10,n11,n12,n13,n14,n15⟩:=fd
      have e2:(some (n1,n2,n3,n4,n5,n6,n7,n15):He.FnW)=some (n,q,ps,.stmts bd,sc,mainGlobals,[],builtinsNs):=e
      simp only [Option.some.injEq,Prod.mk.injEq] at e2
      obtain ⟨h1,h2,h3,h4,h5,h6,h7,h8⟩:=e2
      subst h1 h2 h3 h4 h5 h6 h7 h8
      obtain ⟨c1,c2⟩:=ba c
      exact ⟨od,n12,osl,oc,n8,n9,n10,n11,n13,n14,rfl,c1,c2⟩
    |_=>cases c
def isNo:Value→Bool
  | .none=>true
  |_=>false
theorem isNo_ok {v:Value} (h:isNo v=true):v= .none:=by cases v<;>first|rfl|cases h
def t0 (fd:FuncData):Bool:=isNo fd.defaults
section
variable {K:Fg} {n q:Str} {ps:Arguments} {bd:List Stmt} {sc:Scope} {dV kV dc pm cd ct:Value} {an:Option Addr}
theorem t0_ok (h:t0 (PySem.W.fnOf n q ps bd sc dV kV dc pm an cd ct)=true):dV= .none:=isNo_ok h
end
def hGl (K:Fg) (x:Str):Bool:=eqO (PySem.W.nsIn K mainGlobals x) (some (some (.ref (ga K x))))&&PySem.W.keepIn K (.ref (ga K x))
section
variable {K:Fg} {x c m n q:Str} {ps:Arguments} {bd:List Stmt} {sc:Scope}
theorem hd_law (e:He.fnW K (x,none)=fnV n q ps bd sc) (h:(hGl K x&&cdB K (x,none) q t0)=true):
    ∃ (od an:Option Addr) (sl:Array (Option Value)) (oc kV dc pm cd ct:Value),(PySem.W.nsIn K mainGlobals x=some (some (.ref (ga K x))))∧(K.lookup (ga K x)=some ⟨oc,od,.func (PySem.W.fnOf n q ps bd sc .none kV dc pm an cd ct),sl⟩)∧(PySem.W.codeIn K cd q=true)∧(PySem.W.keepIn K (.ref (ga K x))=true):=by
  obtain ⟨h1,h2⟩:=ba h
  obtain ⟨h3,h4⟩:=ba h1
  obtain ⟨od,an,sl,oc,dV,kV,dc,pm,cd,ct,l,c1,t⟩:=fnY e h2
  cases t0_ok t
  exact ⟨od,an,sl,oc,kV,dc,pm,cd,ct,eqO_ok h3,l,c1,h4⟩
theorem hd_glo (e:He.fnW K (x,none)=fnV n q ps bd sc) (h:(hGl K x&&cdB K (x,none) q t0)=true):
    ∃ (a:Addr) (od an:Option Addr) (sl:Array (Option Value)) (oc kV dc pm cd ct:Value),(PySem.W.nsIn K mainGlobals x=some (some (.ref a)))∧(K.lookup a=some ⟨oc,od,.func (PySem.W.fnOf n q ps bd sc .none kV dc pm an cd ct),sl⟩)∧(PySem.W.codeIn K cd q=true)∧(PySem.W.keepIn K (.ref a)=true):=⟨_,hd_law e h⟩
end
def isTy (n:String):Value→Bool
  | .type m=>decide (m=n)
  |_=>false
theorem isTy_ok {n:String} {v:Value} (h:isTy n v=true):v= .type n:=by
  cases v with
  |type m=>rw [show m=n from of_decide_eq_true h]
  |_=>all_goals cases h
def mroB (X:Addr) (tl:List Value):List Value→Bool
  | .ref a::bm=>decide (a=X)&&refsT tl bm
  |_=>false
theorem mroB_ok {X:Addr} {tl l:List Value} (h:mroB X tl l=true): ∃ bm,l= .ref X::bm∧refsT tl bm=true:=by
  cases l with
  |nil=>cases h
  | cons v bm=>
    cases v with
    | ref a=>
      obtain ⟨h1,h2⟩:=ba (show (decide (a=X)&&refsT tl bm)=true from h)
      exact ⟨bm,by rw [show a=X from of_decide_eq_true h1],h2⟩
    |_=>all_goals cases h
def isBu (n:String):Option Value→Bool
  |some (.builtin m)=>decide (m=n)
  |_=>false
theorem isBu_ok {n:String} {v:Option Value} (h:isBu n v=true):v=some (.builtin n):=by
  cases v with
  |none=>cases h
  | some v=>
    cases v with
    |builtin m=>rw [show m=n from of_decide_eq_true h]
    |_=>all_goals cases h
def slB (n:String):List (Option Value)→Bool
  |[_,_,_,_,v,_]=>isBu n v
  |_=>false
theorem slB_ok {n:String} {l:List (Option Value)} (h:slB n l=true): ∃ a b c d e,l=[a,b,c,d,some (.builtin n),e]:=by
  cases l with
  |nil=>cases h
  | cons a l => cases l with
    |nil=>cases h
    | cons b l=>cases l with
      |nil=>cases h
      | cons c l=>cases l with
        |nil=>cases h
        | cons d l=>cases l with
          |nil=>cases h
          | cons v l=>cases l with
            |nil=>cases h
            | cons e l=>cases l with
              | nil=>
                cases isBu_ok (show isBu n v=true from h)
                exact ⟨a,b,c,d,e,rfl⟩
              |cons _ _=>cases h
def xcD (X:Addr) (tl:List Value):Data→Bool
  | .cls c=>mroB X tl c.mro&&(c.hasDict&&!c.hasDel)
  |_=>false
def xcO (X:Addr) (n:String) (tl:List Value):Option Obj→Bool
  |some o=>isTy "type" o.cls&&(xcD X tl o.data&&slB n o.slots.toList)
  |none=>false
theorem xc_ok {K:Fg} {X:Addr} {n:String} {tl:List Value} (h:xcO X n tl (K.lookup X)=true):
    ∃ (N:Addr) (nm q:Str) (bs bm sub:List Value) (sn:List Str) (ab:Bool) (col:Option Bool) (dd:Option Addr) (k0 k1 k2 k3 k5:Option Value),K.lookup X=some (excClassObj nm q X N bs bm true sn sub ab col dd k0 k1 k2 k3 k5 n)∧refsT tl bm=true:=by
  cases l:K.lookup X with
  |none=>rw [l] at h;cases h
  | some o=>
    obtain ⟨oc,od,dt,sl⟩:=o
    rw [l] at h
    obtain ⟨h1,h2⟩:=ba (show (isTy "type" oc&&(xcD X tl dt&&slB n sl.toList))=true from h)
    obtain ⟨h3,h4⟩:=ba h2
    cases isTy_ok h1
    obtain ⟨a,b,c,d,e,es⟩:=slB_ok h4
    obtain ⟨sl⟩:=sl
    have es:sl=_:=es
    subst es
    cases dt with
    | cls cd=>
      obtain ⟨nm,bs,mro,ns,qn,hdc,sn,sub,ab,col,hdl⟩:=cd
      obtain ⟨h5,h6⟩:=ba (show (mroB X tl mro&&(hdc&&!hdl))=true from h3)
      obtain ⟨h7,h8⟩:=ba h6
      obtain ⟨bm,rfl,hr⟩:=mroB_ok h5
      cases h7
      cases hdl with
      |true=>cases h8
      |false=>exact ⟨ns,nm,qn,bs,bm,sub,sn,ab,col,od,a,b,c,d,e,rfl,hr⟩
    |_=>all_goals cases h3
def cfB (n:String):Option PySem.W.CFound→Bool
  |some (.val (.builtin m))=>decide (m=n)
  |_=>false
theorem cfB_ok {n:String} {o:Option PySem.W.CFound} (h:cfB n o=true):o=some (.val (.builtin n)):=by
  cases o with
  |none=>cases h
  | some o=>
    cases o with
    | val v=>
      cases v with
      |builtin m=>rw [show m=n from of_decide_eq_true h]
      |_=>all_goals cases h
    |get _ _ _ _=>cases h
abbrev XFacts (K:Fg) (X I:Addr) (x f:Str):Prop:=(PySem.W.nsIn K mainGlobals x=some (some (.ref X)))∧(PySem.W.findIn K (.ref X) "__setattr__"=some (some (.builtin "object.__setattr__")))∧(PySem.W.subIn K (.ref X) (.type "BaseException")=some true)∧(PySem.W.typeIn K (.ref X)=some (.type "type"))∧(PySem.W.keepIn K (.ref X)=true)∧(PySem.W.findIn K (.ref X) "__getattribute__"=some (some (.builtin "BaseException.__getattribute__")))∧(PySem.W.findIn K (.ref X) "__getattr__"=some none)∧(PySem.W.hasDictIn K X=true)∧(PySem.W.findIn K (.ref X) "__class__"=some (some (.builtin "object.__class__")))∧(PySem.W.specialIn K (.builtin "object.__class__") "__get__"=some (some (.builtin "getset_descriptor.__get__")))∧(PySem.W.takesIn K (.builtin "object.__class__")=some true)∧(PySem.W.mroIn K X (.type "object")=some true)∧(PySem.W.findIn K (.ref X) f=some none)∧(PySem.W.findIn K (.ref X) "__init__"=some (some (.ref I)))∧(PySem.W.typeIn K (.ref I)=some (.type "function"))∧(PySem.W.keepIn K (.ref I)=true)
def xB (K:Fg) (x f q:Str) (n:String) (tl:List Value):Bool:=xcO (ga K x) n tl (K.lookup (ga K x))&&(cdB K (x,some "__init__") q t0&&decide (XFacts K (ga K x) (ma K (ga K x) "__init__") x f))
def bbB (K:Fg) (b:String) (ini:String):Bool:=decide (PySem.W.nsIn K mainGlobals b=some none)&&cfB ini (PySem.W.findCls K (.type b) (.type "type") "__init__")
section
variable {K:Fg} {x f q:Str} {n ini:String} {tl:List Value} {ps:Arguments} {bd:List Stmt} {sc:Scope}
theorem hd_xb {b:String} (e:He.fnW K (x,some "__init__")=fnV "__init__" q ps bd sc) (h:(xB K x f q n tl&&bbB K b ini)=true):
    ∃ (xI xN:Addr) (xn xq:Str) (xb xm xu:List Value) (xs:List Str) (xa:Bool) (xl:Option Bool) (xd xo xp:Option Addr) (y0 y1 y2 y3 y5:Option Value) (zc zk zd zp zv zt:Value) (zl:Array (Option Value)),(PySem.W.nsIn K mainGlobals x=some (some (.ref (ga K x))))∧(K.lookup (ga K x)=some (excClassObj xn xq (ga K x) xN xb xm true xs xu xa xl xd y0 y1 y2 y3 y5 n))∧(refsT tl xm=true)∧(PySem.W.findIn K (.ref (ga K x)) "__setattr__"=some (some (.builtin "object.__setattr__")))∧(PySem.W.subIn K (.ref (ga K x)) (.type "BaseException")=some true)∧(PySem.W.typeIn K (.ref (ga K x))=some (.type "type"))∧(PySem.W.keepIn K (.ref (ga K x))=true)∧(PySem.W.findIn K (.ref (ga K x)) "__getattribute__"=some (some (.builtin "BaseException.__getattribute__")))∧(PySem.W.findIn K (.ref (ga K x)) "__getattr__"=some none)∧(PySem.W.hasDictIn K (ga K x)=true)∧(PySem.W.findIn K (.ref (ga K x)) "__class__"=some (some (.builtin "object.__class__")))∧(PySem.W.specialIn K (.builtin "object.__class__") "__get__"=some (some (.builtin "getset_descriptor.__get__")))∧(PySem.W.takesIn K (.builtin "object.__class__")=some true)∧(PySem.W.mroIn K (ga K x) (.type "object")=some true)∧(PySem.W.findIn K (.ref (ga K x)) f=some none)∧(PySem.W.findIn K (.ref (ga K x)) "__init__"=some (some (.ref xI)))∧(PySem.W.typeIn K (.ref xI)=some (.type "function"))∧(K.lookup xI=some ⟨zc,xo,.func (PySem.W.fnOf "__init__" q ps bd sc .none zk zd zp xp zv zt),zl⟩)∧(PySem.W.codeIn K zv q=true)∧(PySem.W.keepIn K (.ref xI)=true)∧(PySem.W.nsIn K mainGlobals b=some none)∧(PySem.W.findCls K (.type b) (.type "type") "__init__"=some (.val (.builtin ini))):=by
  obtain ⟨h1,h2⟩:=ba h
  obtain ⟨h3,h4⟩:=ba h1
  obtain ⟨h5,h6⟩:=ba h4
  obtain ⟨h7,h8⟩:=ba h2
  obtain ⟨a1,a2,a3,a4,a5,a6,a7,a8,a9,a10,a11,a12,a13,a14,a15,a16⟩:=of_decide_eq_true h6
  obtain ⟨N,nm,qq,bs,bm,sub,sn,ab,col,dd,k0,k1,k2,k3,k5,l1,hr⟩:=xc_ok h3
  obtain ⟨od,an,sl,oc,dV,kV,dc,pm,cd,ct,l2,c1,t⟩:=fnY e h5
  cases t0_ok t
  exact ⟨_,N,nm,qq,bs,bm,sub,sn,ab,col,dd,od,an,k0,k1,k2,k3,k5,oc,kV,dc,pm,cd,ct,sl,a1,l1,hr,a2,a3,a4,a5,a6,a7,a8,a9,a10,a11,a12,a13,a14,a15,l2,c1,a16,of_decide_eq_true h7,cfB_ok h8⟩
end
abbrev FnS:=(Str×Option Str)×He.FnW
abbrev fnE (a:Str) (b:Option Str) (v:He.FnW):FnS:=((a,b),v)
def smA (K:Fg) (C:Addr) (m:Str):Addr:=match PySem.W.recIn K (ma K C m) "staticmethod" with
  |some (.ref f::_)=>f
  |_=>0
def fnS (K:Fg) (p:Str×Str):He.FnW:=match K.lookup (smA K (ga K p.1) p.2) with
  |some ⟨_,_,.func fd,_⟩=>some (fd.name,fd.qualname,fd.params,fd.body,fd.scope,fd.globals,fd.closure,fd.builtins)
  |_=>none
abbrev SmS:=(Str×Str)×He.FnW
abbrev AlM:Type:=Bool×List He.FnW×List He.FnW
def obsM (ok:List (Fg→Bool)) (fn:List FnS) (sm:List SmS) (K:Fg):AlM:=(ok.all fun f=>f K,fn.map fun p=>He.fnW K p.1,sm.map fun p=>fnS K p.1)
def valM (fn:List FnS) (sm:List SmS):AlM:=(true,fn.map fun p=>p.2,sm.map fun p=>p.2)
def SaysM (ok:List (Fg→Bool)) (fn:List FnS) (sm:List SmS) (K:Fg):Prop:=obsM ok fn sm K=valM fn sm
def obsMG (n:List Addr) (ok:List (Fg→Bool)) (fn:List FnS) (sm:List SmS) (g:Addr→Option Obj):AlM:=obsM ok fn sm (He.frG g n)
def hookM (n:List Addr) (ok:List (Fg→Bool)) (fn:List FnS) (sm:List SmS):PySem.W.Hook where
  α:=AlM
  obs:=fun s=>obsMG n ok fn sm s.heap.get?
  val:=fun _=>valM fn sm
  says:=fun _ h=> ∃ K:Fg,K.In h∧SaysM ok fn sm K
  of:=fun _ _ e=>⟨_,He.frG_in,e⟩
  keeps:=fun _ _ _ ⟨K,hK,c⟩ k=>⟨K,PySem.W.Frag.In.keeps hK k,c⟩
theorem obsMG_eq {n:List Addr} {ok:List (Fg→Bool)} {fn:List FnS} {sm:List SmS} {g:Addr→Option Obj} {s:Shared} (h: ∀ a,g a=s.heap.get? a):obsMG n ok fn sm g=(hookM n ok fn sm).obs s:=by
  have e:g=s.heap.get?:=funext h
  rw [e]<;>rfl
section
variable {ok:List (Fg→Bool)} {fn:List FnS} {sm:List SmS} {K:Fg}
theorem SaysM.ck (c:SaysM ok fn sm K) (i:Nat) {f:Fg→Bool} (h:ok[i]?=some f):f K=true:=by
  have c1:(ok.all fun f=>f K)=true:=congrArg (fun z:AlM=>z.1) c
  exact List.all_eq_true.mp c1 f (List.mem_of_getElem? h)
theorem SaysM.df (c:SaysM ok fn sm K) (i:Nat) {p:Str×Option Str} {v:He.FnW} (h:fn[i]?=some (p,v)):He.fnW K p=v:=by
  have e:(fn.map fun p=>He.fnW K p.1)=fn.map fun p=>p.2:=congrArg (fun z:AlM=>z.2.1) c
  have e2:(fn.map fun p=>He.fnW K p.1)[i]?=(fn.map fun p=>p.2)[i]?:=by rw [e]
  rw [List.getElem?_map,List.getElem?_map,h] at e2
  exact Option.some.inj e2
end
section
variable {K:Fg} {n q c m:Str} {ps:Arguments} {bd:List Stmt} {sc:Scope} {dV kV dc pm cd ct:Value} {an:Option Addr}
end
end Mi
namespace K14
open PySem PySem.Spec PyProof.Rows L2 Mi
def adL:List Nat:=[3,2,31,30,28,27,39,38,46,45,53,52,60,59,65,64,70,69,77,76,82,81,89,88,96,95,101,100]
def hS (i:Nat):Stmt:=PySem.Challenge.pw_valueshown_k14_values_of_terms.main.body.getD i (.Pass ⟨0,0,0,0⟩)
def hC:Stmt→List Stmt
  | .ClassDef (body:=b) .. =>b
  |_=>[]
def hI (i j:Nat):Stmt:=(hC (hS i)).getD j (.Pass ⟨0,0,0,0⟩)
abbrev Bz_z (K:PySem.W.Frag):Prop:=(PySem.W.nsIn K mainGlobals "len"=some none)∧(PySem.W.nsIn K mainGlobals "isinstance"=some none)∧(PySem.W.nsIn K mainGlobals "all"=some none)∧(PySem.W.nsIn K mainGlobals "any"=some none)∧(PySem.W.nsIn K mainGlobals "enumerate"=some none)∧(PySem.W.nsIn K mainGlobals "range"=some none)∧(PySem.W.nsIn K mainGlobals "max"=some none)∧(PySem.W.nsIn K mainGlobals "min"=some none)∧(PySem.W.nsIn K mainGlobals "sum"=some none)∧(PySem.W.nsIn K mainGlobals "abs"=some none)∧(PySem.W.nsIn K mainGlobals "int"=some none)∧(PySem.W.nsIn K mainGlobals "str"=some none)∧(PySem.W.nsIn K mainGlobals "tuple"=some none)∧(PySem.W.nsIn K mainGlobals "list"=some none)∧(PySem.W.nsIn K mainGlobals "dict"=some none)∧(PySem.W.nsIn K mainGlobals "sorted"=some none)∧(PySem.W.nsIn K mainGlobals "repr"=some none)∧(PySem.W.nsIn K mainGlobals "zip"=some none)∧(PySem.W.nsIn K mainGlobals "set"=some none)∧(PySem.W.nsIn K mainGlobals "bool"=some none)∧(PySem.W.nsIn K mainGlobals "ValueError"=some none)∧(PySem.W.nsIn K mainGlobals "KeyError"=some none)∧(PySem.W.nsIn K mainGlobals "RuntimeError"=some none)∧(PySem.W.nsIn K mainGlobals "OverflowError"=some none)∧(PySem.W.nsIn K mainGlobals "TypeError"=some none)∧(PySem.W.nsIn K mainGlobals "iter"=some none)∧(PySem.W.nsIn K mainGlobals "reversed"=some none)
def fnL:List FnS:=[fnE "worth" none (fnV "worth" "worth" (defArgs (hS 3)) (defBody (hS 3)) (defScope (hS 3))),
  fnE "_law_pool" none (fnV "_law_pool" "_law_pool" (defArgs (hS 5)) (defBody (hS 5)) (defScope (hS 5))),
  fnE "_law_draw" none (fnV "_law_draw" "_law_draw" (defArgs (hS 6)) (defBody (hS 6)) (defScope (hS 6))),
  fnE "_law_pick" none (fnV "_law_pick" "_law_pick" (defArgs (hS 7)) (defBody (hS 7)) (defScope (hS 7))),
  fnE "_law_term" none (fnV "_law_term" "_law_term" (defArgs (hS 8)) (defBody (hS 8)) (defScope (hS 8))),
  fnE "_law_value" none (fnV "_law_value" "_law_value" (defArgs (hS 9)) (defBody (hS 9)) (defScope (hS 9))),
  fnE "_law_inputs_of" none (fnV "_law_inputs_of" "_law_inputs_of" (defArgs (hS 10)) (defBody (hS 10)) (defScope (hS 10))),
  fnE "_law_written" none (fnV "_law_written" "_law_written" (defArgs (hS 11)) (defBody (hS 11)) (defScope (hS 11))),
  fnE "_law_reckoned" none (fnV "_law_reckoned" "_law_reckoned" (defArgs (hS 12)) (defBody (hS 12)) (defScope (hS 12))),
  fnE "_law_refused" none (fnV "_law_refused" "_law_refused" (defArgs (hS 13)) (defBody (hS 13)) (defScope (hS 13))),
  fnE "law" none (fnV "law" "law" (defArgs (hS 14)) (defBody (hS 14)) (defScope (hS 14))),
  fnE "UnknownName" (some "__init__") (fnV "__init__" "UnknownName.__init__" (defArgs (hI 1 0)) (defBody (hI 1 0)) (defScope (hI 1 0)))]
set_option synthInstance.maxHeartbeats 0 in
set_option synthInstance.maxSize 100000 in
def okL0:List (Fg→Bool):=[fun K=>hGl K "worth"&&cdB K ("worth",none) "worth" t0,
  fun K=>hGl K "_law_pool"&&cdB K ("_law_pool",none) "_law_pool" t0,
  fun K=>hGl K "_law_draw"&&cdB K ("_law_draw",none) "_law_draw" t0,
  fun K=>hGl K "_law_pick"&&cdB K ("_law_pick",none) "_law_pick" t0,
  fun K=>hGl K "_law_term"&&cdB K ("_law_term",none) "_law_term" t0,
  fun K=>hGl K "_law_value"&&cdB K ("_law_value",none) "_law_value" t0,
  fun K=>hGl K "_law_inputs_of"&&cdB K ("_law_inputs_of",none) "_law_inputs_of" t0,
  fun K=>hGl K "_law_written"&&cdB K ("_law_written",none) "_law_written" t0,
  fun K=>hGl K "_law_reckoned"&&cdB K ("_law_reckoned",none) "_law_reckoned" t0,
  fun K=>hGl K "_law_refused"&&cdB K ("_law_refused",none) "_law_refused" t0,
  fun K=>hGl K "law"&&cdB K ("law",none) "law" t0,
  fun K=>xB K "UnknownName" "name" "UnknownName.__init__" "LookupError.__new__" tlK&&bbB K "KeyError" "KeyError.__init__",
  fun K=>decide (PySem.W.subIn K (.ref (He.ga K "UnknownName")) (.ref (He.ga K "UnknownName"))=some true),
  fun K=>decide (Bz_z K)]
def okL:List (Fg→Bool):=okL0
def tn0:List Str:=[("UnknownName":Str),("worth":Str),("_law_pool":Str),("_law_draw":Str),("_law_pick":Str),("_law_term":Str),("_law_value":Str),("_law_inputs_of":Str),("_law_written":Str),("_law_reckoned":Str),("_law_refused":Str)]
def tnL:List Str:=tn0
abbrev hR:PySem.W.OpenRow:=PySem.W.OpenLaw.row PySem.Challenge.rw_valueshown_k14_values_of_terms
def sfL:List SmS:=[]
abbrev hk:PySem.W.Hook:=hookM adL okL fnL sfL
def ob (s:PySem.W.SharedT):AlM:=obsMG adL okL fnL sfL (HandSHeadRun.getT s)
theorem ob_eq (s:PySem.W.SharedT):ob s=hk.obs s.abs:=obsMG_eq (HandSHeadRun.getT_eq s)
theorem run (w:World):HandSHeadRun.RunEq hR (PySem.W.view hR.prog [14]) hk ob 20000 tnL w:=by
  intro os
  kernel_rfl
end K14
namespace Mi
open PySem PySem.Spec PyProof.Rows L2
def RepT (G:GE) (ρ:List Addr) (H:Hp) (M:List Addr):D→V→Prop
  | .lst ds,v=> ∃ a vs,v= .ref a∧H a=some (.lst vs)∧RepDs G ρ H M ds vs
  | .dic ks ds,v=> ∃ a vs,v= .ref a∧Rd H a (.dK (ks.zip vs))∧ks.length=vs.length∧RepDs G ρ H M ds vs
  | .ins c fs ds,v=> ∃ a C dx vs,v= .ref a∧G.cls c=some C∧H a=some (.ins C dx (fs.zip vs))∧fs.length=vs.length∧RepDs G ρ H M ds vs
  | .dct ks ds,v=> ∃ a bs vs,v= .ref a∧Rd H a (DtO G.w a (zip3 ks bs vs))∧ks.length=vs.length∧kfDs 8 ks=true∧RepDs G ρ H M ks (bs.map V.ref)∧RepDs G ρ H M ds vs
  | .scr ns,v=> ∃ a,v= .ref a∧SqL G.K H a (ns.map V.int)
  |d,v=>RepD G ρ H M d v
section
variable {G:GE} {ρ:List Addr} {H:Hp} {M:List Addr} {h:List O} {L:List (O×V)}
theorem RepD.view: ∀ {d:D} {v:V},RepD G ρ H M d v→RepT G ρ H M d v
  | .non,v,h=>h
  | .bl b,v,h=>h
  | .int i,v,h=>h
  | .str x,v,h=>h
  | .tup ds,v,h=>h
  | .lst ds,v,h=>by obtain ⟨a,vs,e,t,n,r⟩:=h;exact ⟨a,vs,e,t,r⟩
  | .dic ks ds,v,h=>by obtain ⟨a,vs,e,t,l,n,r⟩:=h;exact ⟨a,vs,e,t,l,r⟩
  | .ins c fs ds,v,h=>by obtain ⟨a,C,dx,vs,e,g,t,l,n,r⟩:=h;exact ⟨a,C,dx,vs,e,g,t,l,r⟩
  | .dct ks ds,v,h=>by obtain ⟨a,bs,vs,e,t,l,fk,n,rk,r⟩:=h;exact ⟨a,bs,vs,e,t,l,fk,rk,r⟩
  | .loc n,v,h=>h
  | .fn f,v,h=>h
  | .scr ns,v,h=>by
    obtain ⟨a,e,t|t⟩:=h
    · exact ⟨a,e,.inl t.1⟩
    · exact ⟨a,e,.inr t⟩
  | .ty n,v,h=>h
  | .cls c,v,h=>h
  | .xn c f d,v,h=>h
  | .lk o kvs,v,h=>h
theorem Own.view {o:O} {v:V} {A:List Addr} (w:Own G ρ H M o v A):RepT G ρ H M (Mi.frz o) v:=by
  cases o with
  |fz d=>exact w.1.view
  |lst ds=>obtain ⟨a,vs,e,t,r,f⟩:=w;exact ⟨a,vs,e,t,r⟩
  |dic ks ds=>obtain ⟨a,vs,e,t,l,r,f⟩:=w;exact ⟨a,vs,e,.inl t,l,r⟩
  |ins c fs ds=>obtain ⟨a,C,dx,vs,e,g,t,l,r,f⟩:=w;exact ⟨a,C,dx,vs,e,g,t,l,r⟩
  |dct ks ds=>obtain ⟨a,bs,vs,e,t,l,fk,rk,r,f⟩:=w;exact ⟨a,bs,vs,e,.inl t,l,fk,rk,r⟩
theorem Owns.mem: ∀ {L:List (O×V)} {F:List Addr} {p:O×V},Owns G ρ H M L F→p∈L→∃ A,Own G ρ H M p.1 p.2 A
  |[],_,_,_,hp=>by simp at hp
  | q::L,F,p,w,hp=>by
    obtain ⟨A,B,e,h1,h2⟩:=w
    rcases List.mem_cons.mp hp with z|z
    · subst z;exact ⟨A,h1⟩
    · exact Owns.mem h2 z
theorem Cp.view {o:O} {v:V} {d:D} (c:Cp G ρ H M h L) (hp:(o,v)∈L) (e:deref h (frz o)=some d):RepT G ρ H M d v:=by
  obtain ⟨A,w⟩:=Owns.mem c.2.1 (List.mem_append_right _ hp)
  have q:=w.view
  have gen: ∀ d0,deref h d0=some d→RepT G ρ H M d0 v→RepT G ρ H M d v:=by
    intro d0 e0 q0
    cases d0 with
    | loc n=>
      simp only [deref,Option.map_eq_some_iff] at e0
      obtain ⟨o',ho,eo⟩:=e0
      obtain ⟨a,ev,er⟩:=q0
      obtain ⟨X,Y,q1,q2⟩:=zip_at ho er
      obtain ⟨A',w'⟩:=Owns.mem (p:=(o',.ref a)) c.2.1 (List.mem_append_left _ (by rw [q1];simp))
      rw [ev,←eo]
      exact w'.view
    |_=>all_goals (simp only [deref,Option.some.injEq] at e0;subst e0;exact q0)
  exact gen _ e q
theorem Own.kind {o:O} {v:V} {F:List Addr} (w:Own G ρ H M o v F): ∀ b∈F,∃ x,H b=some x∧Mut (some x):=by
  cases o with
  |fz d=>rw [w.2];intro b hb;simp at hb
  |lst ds=>obtain ⟨a,vs,e,t,r,f⟩:=w;rw [f];intro b hb;simp at hb;subst hb;exact ⟨_,t,trivial⟩
  |dic ks ds=>obtain ⟨a,vs,e,t,l,r,f⟩:=w;rw [f];intro b hb;simp at hb;subst hb;exact ⟨_,t,trivial⟩
  |ins c fs ds=>obtain ⟨a,C,dx,vs,e,g,t,l,r,f⟩:=w;rw [f];intro b hb;simp at hb;subst hb;exact ⟨_,t,trivial⟩
  |dct ks ds=>obtain ⟨a,bs,vs,e,t,l,fk,rk,r,f⟩:=w;rw [f];intro b hb;simp at hb;subst hb;exact ⟨_,t,trivial⟩
theorem Owns.kind: ∀ {L:List (O×V)} {F:List Addr},Owns G ρ H M L F→∀ b∈F,∃ x,H b=some x∧Mut (some x)
  |[],F,w,b,hb=>by rw [show F=[] from w] at hb;simp at hb
  | p::ps,F,w,b,hb=>by
    obtain ⟨A,B,e,h1,h2⟩:=w
    subst e
    rcases List.mem_append.mp hb with hb|hb
    · exact h1.kind b hb
    · exact Owns.kind h2 b hb
theorem Cp.tupF {a:Addr} {vs:List V} {ds:List D} (c:Cp G ρ H M h L) (t:Tr G H M a vs) (r:RepDs G ρ H M ds vs):Cf G H h ((.fz (.tup ds),.ref a)::L):=
  Cf.fz1.mpr ⟨ρ,M,c,a,vs,rfl,t,r⟩
theorem mem_ow {o:O} {v:V}: ∀ {Φ:List (R×V)},(R.own o,v)∈Φ→(o,v)∈ow Φ
  | (.own o',v')::r,hp=>by
    rcases List.mem_cons.mp hp with z|z
    · injection z with z1 z2;injection z1 with z1;subst z1;subst z2;simp [ow]
    · exact List.mem_cons_of_mem _ (mem_ow z)
  | (.bor _,_)::r,hp=>by
    rcases List.mem_cons.mp hp with z|z
    · cases z
    · exact mem_ow (Φ:=r) z
theorem CfS.peek {σr:Sr} {s:S} {Φ:List (R×V)} {r:R} {v:V} {d:D} (c:CfS G σr H s Φ) (hp:(r,v)∈Φ) (e:peek s r=some d) (cp:Cp G ρ H M s.h (slp s.σ σr++ow Φ)):RepT G ρ H M d v:=by
  cases r with
  |own o=>exact cp.view (List.mem_append_right _ (mem_ow hp)) e
  | bor i=>
    simp only [Mi.peek] at e
    split at e
    · rename_i o eo
      obtain ⟨X,Y,q1,q2⟩:=slp_at eo (c.bo i v hp)
      exact cp.view (List.mem_append_left _ (by rw [q1];simp)) e
    · cases e
theorem CfS.parts {σr:Sr} {s:S} {Φ:List (R×V)} (c:CfS G σr H s Φ): ∃ ρ M,Cp G ρ H M s.h (slp s.σ σr++ow Φ):=c.cf
theorem CfS.more {σr:Sr} {s:S} {K Φ:List (R×V)} {H':Hp} {o:O} {v:V} (c:CfS G σr H s (K++Φ)) (q:Cf G H' s.h ((o,v)::(slp s.σ σr++ow (K++Φ)))):CfS G σr H' s ((.own o,v)::Φ):=by
  refine ⟨c.sl,fun i w z=>?_, ?_⟩
  · rcases List.mem_cons.mp z with z|z
    · cases z
    · exact c.bo i w (List.mem_append_right _ z)
  · show Cf G H' s.h (slp s.σ σr++(o,v)::ow Φ)
    rw [ow_append] at q
    have q2:Cf G H' s.h (ow K++((o,v)::(slp s.σ σr++ow Φ))):=q.perm (by
      rw [←List.append_assoc]
      refine List.Perm.trans (List.Perm.cons _ (List.perm_append_comm.append_right _)) ?_
      rw [List.append_assoc]
      exact List.perm_middle.symm)
    exact (Cf.dropN q2).perm List.perm_middle.symm
theorem CfS.cpMore {σr:Sr} {s:S} {K Φ:List (R×V)} {d:D} {v:V} (c:CfS G σr H s (K++Φ)) (cp:Cp G ρ H M s.h (slp s.σ σr++ow (K++Φ))) (r:RepD G ρ H M d v):CfS G σr H s ((.own (.fz d),v)::Φ):=
  c.more (Cf.fz1.mpr ⟨ρ,M,cp,r⟩)
end
def ExR (G:GE) (σr:Sr) (H:Hp) (s:S) (Φ:List (R×V)) (c:Str) (d:D) (cls:Value) (dx:Option Addr):Prop:=
  ∃ C f a v,cls= .ref C∧G.exc c=some (C,f)∧dx=some a∧H a=some (.xd [(f,v)])∧CfS G σr H s ((.own (.fz d),v)::Φ)
def Aft (G:GE) (W:WX) (σr:Sr) (Φ:List (R×V)) {α:Type} (P:α→S→Prop):Out α→Prop
  | .ok a s=>P a s
  | .exc c d s=> ∀ cls dx H,ExR G σr H s Φ c d cls dx→W cls dx σr H
  | .bad=>False
section
variable {G:GE} {W:WX} {σr:Sr} {Φ K:List (R×V)} {α β:Type} {P P':α→S→Prop}
theorem Aft.mono {x:Out α} (a:Aft G W σr Φ P x) (f: ∀ y s,P y s→P' y s):Aft G W σr Φ P' x:=by
  cases x with
  |ok y s=>exact f _ _ a
  |exc c d s=>exact a
  |bad=>exact a
theorem Aft.bind {Pb:β→S→Prop} {x:Out α} {k:α→S→Out β} (a:Aft G W σr Φ Pb (x.bind k)):Aft G W σr Φ (fun y s=>Aft G W σr Φ Pb (k y s)) x:=by
  cases x with
  |ok y s=>exact a
  |exc c d s=>exact a
  |bad=>exact a
theorem Aft.frame {x:Out α} (a:Aft G W σr Φ P x):Aft G W σr (K++Φ) P x:=by
  cases x with
  |ok y s=>exact a
  | exc c d s=>
    rintro cls dx H ⟨C,f,b,v,e1,e2,e3,e4,c5⟩
    refine a cls dx H ⟨C,f,b,v,e1,e2,e3,e4, ?_⟩
    have c6:CfS G σr H s (K++(.own (.fz d),v)::Φ):=c5.perm (List.perm_middle.symm)
    exact c6.dropN
  |bad=>exact a
theorem Aft.frame1 {p:R×V} {x:Out α} (a:Aft G W σr Φ P x):Aft G W σr (p::Φ) P x:=Aft.frame (K:=[p]) a
theorem Aft.lift {s:S} {x:Option α} (a:Aft G W σr Φ P (lift s x)): ∃ y,x=some y∧P y s:=by
  cases x with
  |none=>exact a.elim
  |some y=>exact ⟨y,rfl,a⟩
end
abbrev PV (G:GE) (σr:Sr) (Φ:List (R×V)) (Q:VK):R→S→Prop:=fun r s=> ∀ v H,CfS G σr H s ((r,v)::Φ)→Q v H
def tE (G:GE) (W:WX) (call:Call) (m:E):TE:=fun σr H Q=> ∃ s Φ,CfS G σr H s Φ∧Aft G W σr Φ (PV G σr Φ Q) (m call s)
abbrev PB (G:GE) (σr:Sr) (Φ:List (R×V)) (Q:Bool→Hp→Prop):Bool→S→Prop:=fun b s=> ∀ H,CfS G σr H s Φ→Q b H
def tB_ (G:GE) (W:WX) (call:Call) (m:B):TT:=fun σr H Q=> ∃ s Φ,CfS G σr H s Φ∧Aft G W σr Φ (PB G σr Φ Q) (m call s)
def FzR (ds:List D) (vs:List V):List (R×V):=List.zipWith (fun d v=>(R.own (.fz d),v)) ds vs
abbrev PL (G:GE) (σr:Sr) (Φ:List (R×V)) (Q:List V→Hp→Prop):List D→S→Prop:=fun ds s=> ∀ vs H,ds.length=vs.length→CfS G σr H s (FzR ds vs++Φ)→Q vs H
def tL (G:GE) (W:WX) (call:Call) (m:As):TA:=fun σr H Q=> ∃ s Φ,CfS G σr H s Φ∧Aft G W σr Φ (PL G σr Φ Q) (m call s)
theorem _root_.L2.PE.of {X:Cx} {e:Expr} {t t':TE} (h:PE X e t') (i: ∀ σ H Q,t σ H Q→t' σ H Q):PE X e t:=⟨fun pins s σ H Q I q=>h.run pins s σ H Q I (i σ H Q q)⟩
theorem _root_.L2.PT.of {X:Cx} {e:Expr} {t t':TT} (h:PT X e t') (i: ∀ σ H Q,t σ H Q→t' σ H Q):PT X e t:=⟨fun pins s σ H Q I q=>h.run pins s σ H Q I (i σ H Q q)⟩
theorem _root_.L2.PA.of {X:Cx} {e:List Expr} {t t':TA} (h:PA X e t') (i: ∀ σ H Q,t σ H Q→t' σ H Q):PA X e t:=⟨fun pos pins s σ H Q I q=>h.run pos pins s σ H Q I (i σ H Q q)⟩
def r1 (G:GE) (f:D→Option O):V→Hp→VK→Prop:=fun x H Q=> ∃ ρ M h L d o,Cp G ρ H M h L∧RepT G ρ H M d x∧f d=some o∧∀ v H',Cf G H' h ((o,v)::L)→Q v H'
def r2 (G:GE) (f:D→D→Option O):R2:=fun x y H Q=> ∃ ρ M h L d1 d2 o,Cp G ρ H M h L∧RepT G ρ H M d1 x∧RepT G ρ H M d2 y∧f d1 d2=some o∧∀ v H',Cf G H' h ((o,v)::L)→Q v H'
def mTwo (f:D→D→Option O) (a b:E):E:=fun call s=>(a call s).bind fun x s1=>(b call s1).bind fun y s2=>lift s2 ((peek s2 x).bind fun d1=>(peek s2 y).bind fun d2=>(f d1 d2).map R.own)
def mOne (f:D→Option O) (a:E):E:=fun call s=>(a call s).bind fun x s1=>lift s1 ((peek s1 x).bind fun d1=>(f d1).map R.own)
section
variable {G:GE} {W:WX} {call:Call}
theorem tOne {f:D→Option O} {a:E} {σr:Sr} {H:Hp} {Q:VK} (h:tE G W call (mOne f a) σr H Q):tE G W call a σr H fun x H1=>r1 G f x H1 Q:=by
  obtain ⟨s,Φ,c,h⟩:=h
  refine ⟨s,Φ,c,(Aft.bind h).mono fun x s1 h1=>fun v H1 c1=>?_⟩
  obtain ⟨y,e,q⟩:=Aft.lift h1
  simp only [Option.bind_eq_some_iff,Option.map_eq_some_iff] at e
  obtain ⟨d1,e1,o,eo,ey⟩:=e
  subst ey
  obtain ⟨ρ,M,cp⟩:=c1.parts
  exact ⟨ρ,M,_,_,d1,o,cp,c1.peek (by simp) e1 cp,eo,fun w H2 c2=>q w H2 (CfS.more (K:=[(x,v)]) c1 c2)⟩
theorem tTwo {f:D→D→Option O} {a b:E} {σr:Sr} {H:Hp} {Q:VK} (h:tE G W call (mTwo f a b) σr H Q):tE G W call a σr H fun x H1=>tE G W call b σr H1 fun y H2=>r2 G f x y H2 Q:=by
  obtain ⟨s,Φ,c,h⟩:=h
  refine ⟨s,Φ,c,(Aft.bind h).mono fun x s1 h1=>fun v1 H1 c1=>⟨s1,_,c1,((Aft.bind h1).frame1).mono fun y s2 h2=>fun v2 H2 c2=>?_⟩⟩
  obtain ⟨z,e,q⟩:=Aft.lift h2
  simp only [Option.bind_eq_some_iff,Option.map_eq_some_iff] at e
  obtain ⟨d1,e1,d2,e2,o,eo,ey⟩:=e
  subst ey
  obtain ⟨ρ,M,cp⟩:=c2.parts
  exact ⟨ρ,M,_,_,d1,d2,o,cp,c2.peek (by simp) e1 cp,c2.peek (by simp) e2 cp,eo,fun w H3 c3=>q w H3 (CfS.more (K:=[(y,v2),(x,v1)]) c2 c3)⟩
variable {X:Cx}
theorem pe_bin {f:D→D→Option O} {op:Operator} {a b:Expr} {ma mb:E} {pos:Pos} (ho:OpR X (binaryOp op) (r2 G f)) (ha:PE X a (tE G W call ma)) (hb:PE X b (tE G W call mb)):PE X (.BinOp a op b pos) (tE G W call (mTwo f ma mb)):=
  (pe_op ho ha hb).of fun σ H Q h=>tTwo h
theorem pe_cmp1 {f:D→D→Option O} {op:CmpOp} {a b:Expr} {ma mb:E} {pos:Pos} (ho:OpR X (compareOp op) (r2 G f)) (ha:PE X a (tE G W call ma)) (hb:PE X b (tE G W call mb)) (hm:behindInMarks op b=false):PE X (.Compare a [op] [b] pos) (tE G W call (mTwo f ma mb)):=
  (pe_cmpR ho ha hb hm).of fun σ H Q h=>tTwo h
theorem pe_sub1 {f:D→D→Option O} {a b:Expr} {ma mb:E} {pos:Pos} (ho:IxR X (r2 G f)) (ha:PE X a (tE G W call ma)) (hb:PE X b (tE G W call mb)) (hs:PlainIx b):PE X (.Subscript a b pos) (tE G W call (mTwo f ma mb)):=
  (pe_ix ho ha hb hs).of fun σ H Q h=>tTwo h
end
end Mi
namespace Mi
open PySem PySem.Spec PyProof.Rows L2
structure OxC (K:PySem.W.Frag) (C:Addr) (initId:String):Prop where
  cls: ∃ tl newId,XB tl newId initId∧∃ nm q N bs bm sno sub abc0 cl ddd k0 k1 k2 k3 k5,K.lookup C=some (excClassObj nm q C N bs bm true sno sub abc0 cl ddd k0 k1 k2 k3 k5 newId)∧refsT tl bm=true
  sa:PySem.W.findIn K (.ref C) "__setattr__"=some (some (.builtin "object.__setattr__"))
  exC:PySem.W.subIn K (.ref C) (.type "BaseException")=some true
  tyC:PySem.W.typeIn K (.ref C)=some (.type "type")
  kC:PySem.W.keepIn K (.ref C)=true
section
open Builtin Builtin.ObjectAttr
variable {prog:Program} {w:World} {A:Around} {E:Value→Shared→Prop} {R:Result→Shared→Prop} {hp:Heap} {g:Array GenState} {d:Drawn} {t:Nat} {os:OsState}
theorem x_osa {K:PySem.W.Frag} {tl:List Value} {newId initId:String} (hB:XB tl newId initId) {name:Str} {tkn:Tok} {v:Value} {x C:Addr} {fvs:Array Value} {cd:ClassData}
    (X:K.In hp) (hx:hp.get? x=some {cls:=.ref C,data:=.fields fvs}) (hcd:W.clsIn K C=some cd) (hm:refsT tl cd.mro=true) (hh:cd.hasDict=true) (ha:W.findIn K (.ref C) name=some none)
    (nxt: ∀ h' tk' dx,(∀ b o,b≠x→hp.get? b=some o→h'.get? b=some o)→hp.objs.size≤dx→dx≠x→h'.get? x=some {cls:=.ref C,dict:=some dx,data:=.fields fvs}→
      h'.Ns1 dx (fun y=>if y=name then some v else none)→R (.ok (.ret .none)) ⟨h',g,d,tk',os⟩):
    codeAny (model prog w) A (.call (.builtin "object.__setattr__") ⟨[.ref x,.str name tkn,v],[]⟩) R ⟨hp,g,d,t,os⟩:=by
  have instx:W.InstAt hp x {cls:=.ref C,data:=.fields fvs} C none:=⟨hx,rfl,rfl,trivial⟩
  have FO:=F.store_object
  have hne:cd.mro.isEmpty=false:=by
    cases hc:cd.mro with
    | nil=>
      rw [hc] at hm
      rcases refsT_split [] hm with ⟨c,r,q,_⟩|q
      · cases q
      · exact absurd q.symm hB.hne
    |cons _ _=>rfl
  have hob:cd.mro.contains (.type "object")=true:=(refsT_has "object" _ hm).trans hB.hobj
  have xfar:x≠hp.objs.size:=Nat.ne_of_lt (Heap.lt_size hx)
  have isob:W.Looks (model prog w) hp (isInstance (.ref x) (.type "object")) true:=instx.type.andThen (W.looks_mroIn X (by unfold W.mroIn;rw [hcd,Option.bind_some,if_neg (by rw [hne];decide),hob]))
  refine codeAny_call_builtin FO.slot.plain FO.entry (@W.check_slot (model prog w) _ _ ⟨hp,g,d,t,os⟩ "object.__setattr__" "object" "__setattr__" (.ref x) [.str name tkn,v] [] _ FO.kind FO.split isob (FO.args (.ref x) (.str name tkn) v) ?_)
  have lm:W.Looks (model prog w) hp (mroOf (.ref C)) cd.mro:=(W.looks_clsIn X hcd).andThen .now
  have lt:W.Looks (model prog w) hp (storeTaker? none) none:=.now
  have lc:W.Looks (model prog w) hp (classData C) cd:=W.looks_clsIn X hcd
  rw [W.osa_eq,refuse_eq]
  refine wpAny_bind (wpAny_bind (instx.type.at (wpAny_bind (lm.at ?_))))
  rw [refsT_pass _ (hB.pass _) _ hm]
  refine wpAny_pure (wpAny_bind (instx.type.at (wpAny_bind ((W.looks_findIn X ha).at (wpAny_bind (lt.at ?_))))))
  show wpAny _ _ (storeInOwnDict (.ref x) (.ref C) (.str name tkn) name v false) _ _ _
  obtain ⟨nm,bs,mro,ns,qna,hd,sno,sbc,abc0,cl,del⟩:=cd
  dsimp only at hh
  subst hh
  unfold storeInOwnDict ownDictForStores
  repeat (first|with_reducible refine PySem.HandSPX.store_in_new ?_ ?_|with_reducible refine wpAny_loadPart_at hx ?_|with_reducible refine lc.at ?_|wp_step)
  · exact ⟨_,#[],_,(Heap.get?_update_ne _ _ _ _ xfar.symm).trans (Heap.get?_push_at rfl rfl),rfl,fun e he=>absurd he (by simp),fun _=>rfl⟩
  · intro h' tk' hn' hs
    have hx1:(hp.push {cls:=.type "dict",data:=.dict #[]}).get? x=some {cls:=.ref C,data:=.fields fvs}:=Heap.get?_push_of_some _ hx
    refine nxt h' tk' hp.objs.size (fun b o hb oat=>?_) (Nat.le_refl _) xfar.symm ?_ hn'
    · exact (hs.2 b (Nat.ne_of_lt (Heap.lt_size oat))).trans ((Heap.get?_update_ne _ _ _ _ hb).trans (Heap.get?_push_of_some _ oat))
    · exact (hs.2 x xfar).trans (Heap.get?_update_self _ hx1 rfl)
end
section
variable {X:Cx} {pins:List (Addr×Obj)} {σ:L2.St} {H:Hp} {s:Shared} {a C dx:Addr} {f:Str} {y:V} {u:Value} {initId:String} {Q:Unit→Shared→Prop} {E:Value→Shared→Prop} {A:Around}
theorem x_store (T:OxC X.K C initId) (I:Inv X pins σ H s) (e:H a=some (exo a C none)) (hno:PySem.W.findIn X.K (.ref C) f=some none) (ry:RelV y u)
    (h: ∀ dx s',H dx=none→dx≠a→Inv X pins σ (upd (upd H dx (exd dx [(f,y)])) a (exo a C (some dx))) s'→Q () s'):wpAny (model X.prog X.w) A (setAttr (.ref a) f u) Q E s:=by
  obtain ⟨tl,newId,hB,nm,q,N,bs,bm,sno,sub,abc0,cl,ddd,k0,k1,k2,k3,k5,hC,hbm⟩:=T.cls
  have hcl:PySem.W.clsIn X.K C=some {name:=nm,bases:=bs,mro:=.ref C::bm,ns:=N,qualname:=q,hasDict:=true,slotNames:=sno,subclasses:=sub,abstract:=abc0,collection:=cl,hasDel:=false}:=by
    unfold PySem.W.clsIn;rw [hC]<;>rfl
  obtain ⟨tq,oat⟩:=exo_at I.hok e
  obtain ⟨hp,g,d,t,os⟩:=s
  refine PySem.W.set_plain I.kIn (ox:=exObj C tq) (od:=none) ⟨oat,rfl,rfl,trivial⟩ T.sa ?_
  refine x_osa hB I.kIn oat hcl (show refsT tl (.ref C::bm)=true from hbm) rfl hno (fun h' tk' dx kp dbg dne hx fre=>?_)
  have fdx:H dx=none:=I.hok.fresh dbg
  have ndx: ∀ {b:Addr} {o:Obj},hp.get? b=some o→b≠dx:=fun {b o} q=>Nat.ne_of_lt (Nat.lt_of_lt_of_le (Heap.lt_size q) dbg)
  have na: ∀ {b:Addr},H b=none→b≠a:=fun {b} n z=>by rw [z,e] at n;cases n
  have U1:Un X.fs [] H (upd (upd H dx (exd dx [(f,y)])) a (exo a C (some dx))) hp h':=by
    refine ⟨fun b o q n _ _=>kp b o (na n) q,fun b o q n _ _=>⟨o.slots,kp b o (na n) q⟩,fun b o q n _=>?_,fun b o q _=>?_,fun b xs q=>?_,fun b o v q=>?_,fun b ps q=>⟨#[], ?_⟩⟩
    · rw [upd_ne (na n),upd_ne (ndx q)];exact n
    · by_cases hb:b=a
      · exact ⟨_,by rw [hb];exact hx⟩
      · exact ⟨o,kp b o hb q⟩
    · rw [upd_ne (at_ne e q exo_tup),upd_ne (ne_of_none q fdx)];exact q
    · rw [upd_ne (at_ne e q exo_frz),upd_ne (ne_of_none q fdx)];exact q
    · rw [upd_ne (at_ne e q exo_tbl),upd_ne (ne_of_none q fdx),q];simp
  refine h dx _ fdx dne (I.un (t':=tk') U1 fun b o q=>?_)
  by_cases hb:b=a
  · subst hb
    rw [upd_same] at q
    cases q
    exact exo_ok hx
  · rw [upd_ne hb] at q
    by_cases hd:b=dx
    · subst hd
      rw [upd_same] at q
      cases q
      exact exd_ok fre (relO_put (fs:=[]) ry fun g=>True.intro)
    · rw [upd_ne hd] at q
      refine (I.hok b o q).stay (fun c v hc z=>kp c v ?_ z) (fun c hc=>?_) (fun c xs hc=>?_)
      · rcases hc with hc|hc
        · rw [hc];exact hb
        · exact at_ne e hc exo_own
      · rw [upd_ne (at_ne e hc exo_own),upd_ne (ne_of_none hc fdx)];exact hc
      · rw [upd_ne (at_ne e hc exo_tup),upd_ne (ne_of_none hc fdx)];exact hc
theorem x_base {uus:List Value} {Q:Value→Shared→Prop} (T:OxC X.K C initId) (I:Inv X pins σ H s) (e:H a=some (exo a C none)) (lnn:uus.length≤sizeLine) (h: ∀ s',Inv X pins σ H s'→Q .none s'):
    wpAny (model X.prog X.w) A (call (.builtin initId) (.ref a::uus)) Q E s:=by
  obtain ⟨tl,newId,hB,nm,q,N,bs,bm,sno,sub,abc0,cl,ddd,k0,k1,k2,k3,k5,hC,hbm⟩:=T.cls
  obtain ⟨tq,oat⟩:=exo_at I.hok e
  obtain ⟨hp,g,d,t,os⟩:=s
  refine wpAny_call (hB.ini hbm (I.kIn _ _ hC) oat lnn fun h' t2 kp hx=>?_)
  have J:=I.write (t':=t) (x:=a) (e:=a) (o:=exo a C none) (by rw [e];exact True.intro) (.inl rfl) kp ⟨_,hx⟩ (exo_ok hx)
  rw [show upd H a (exo a C none)=H from funext fun b=>by
    by_cases hb:b=a
    · rw [hb,upd_same,e]
    · rw [upd_ne hb]] at J
  exact h _ J
end
def tBI (K:PySem.W.Frag) (initId:String) (ta:TA):TE:=fun σ H Q=>ta σ H fun vs Hp1=> ∃ (a C:Addr) (wws:List V),vs= .ref a::wws∧wws.length≤1000∧OxC K C initId∧Hp1 a=some (exo a C none)∧Q .non Hp1
def tXs (K:PySem.W.Frag) (f:Str) (to te:TE):TS:=fun D σ H=>te σ H fun y Hp1=>to σ Hp1 fun x Hp2=> ∃ (a C:Addr) (initId:String),x= .ref a∧OxC K C initId∧PySem.W.findIn K (.ref C) f=some none∧
  Hp2 a=some (exo a C none)∧∀ dx,Hp2 dx=none→dx≠a→D.nx σ (upd (upd Hp2 dx (exd dx [(f,y)])) a (exo a C (some dx)))
section
variable {X:Cx} {o e:Expr} {es:List Expr} {to te:TE} {ta:TA} {f b:Str} {initId:String} {p p' p1 p2 pos:Pos}
theorem pe_ownInit {pl:Sem Bool} {SB:Addr} {mc:Value} (hg:Gl X b) (hm:X.mg b=some (.ref SB)) (hsp:PySem.W.specialIn X.K (.ref SB) "__getattribute__"=some (some (.builtin "type.__getattribute__"))) (hrd:PySem.W.readsIn X.K SB mc=true)
    (hf:PySem.W.findCls X.K (.ref SB) mc "__init__"=some (.val (.builtin initId))) (hh:PySem.W.handedIn (.builtin initId)=true) (hdb:(b==("__debug__":Str))=false) (ha:PA X (e::es) ta)
    (hc:eval (.Call (.Attribute (.Name b p1) "__init__" p2) (e::es) [] pos) X.env=(do
      let ov ←eval (.Name b p1) X.env
      standAt p2.atName
      let (f,first) ←holding [ov] (getMethod ov "__init__" pl)
      callWith pos f first (backTo pos (starEach (e::es) X.env)) (backToKw pos (keywordEach [] X.env))))
    (he:starEach (e::es) X.env=(false,eval e X.env)::starEach es X.env) (hpl:(backTo pos (starEach es X.env)).any (·.1)=false):
    PE X (.Call (.Attribute (.Name b p1) "__init__" p2) (e::es) [] pos) (tBI X.K initId ta):=by
  refine ⟨fun pins s σ H Q I h=>?_⟩
  refine PySem.W.methodCall_KW (ld_glob I hg hm ?_ hdb) hc
  refine PySem.W.method_cls I.kIn hsp (PySem.W.cls_value I.kIn hrd hf hh ?_)
  show wpAny _ _ (callWith pos (Value.builtin initId) [] (backTo pos (starEach (e::es) X.env)) []) _ _ _
  refine PyProof.Rows.callWith_method1 (thn (ha.run pos pins _ σ H _ (I.tok _) h) fun uus sh1 ⟨vs,Hp1,In1,rl1,a,C,wws,ev,lnn,T,ea,q⟩=>?_) he hpl
  subst ev
  cases rl1 with
  | @cons _ u0 _ ur ra rw'=>
    obtain rfl:u0=Value.ref a:=ra
    exact x_base T In1 ea (by rw [←Paired.length rw',sizeLine_eq];omega) fun s' J=>⟨.non,Hp1,J,rfl,q⟩
theorem pe_bltInit {pl:Sem Bool} {B:String} (hg:Gl X b) (hm:X.mg b=none) (hbt:bootBuiltins b=some (.type B)) (hty:typeOf (.type B)=pure (.type "type")) (hst:Manifest.isStub B=false)
    (hf:PySem.W.findCls X.K (.type B) (.type "type") "__init__"=some (.val (.builtin initId))) (hh:PySem.W.handedIn (.builtin initId)=true) (h1:b≠"__name__") (hdb:(b==("__debug__":Str))=false) (ha:PA X (e::es) ta)
    (hc:eval (.Call (.Attribute (.Name b p1) "__init__" p2) (e::es) [] pos) X.env=(do
      let ov ←eval (.Name b p1) X.env
      standAt p2.atName
      let (f,first) ←holding [ov] (getMethod ov "__init__" pl)
      callWith pos f first (backTo pos (starEach (e::es) X.env)) (backToKw pos (keywordEach [] X.env))))
    (he:starEach (e::es) X.env=(false,eval e X.env)::starEach es X.env) (hpl:(backTo pos (starEach es X.env)).any (·.1)=false):
    PE X (.Call (.Attribute (.Name b p1) "__init__" p2) (e::es) [] pos) (tBI X.K initId ta):=by
  refine ⟨fun pins s σ H Q I h=>?_⟩
  refine PySem.W.methodCall_KW (ld_blt I hg hm hbt ?_ h1 hdb) hc
  obtain ⟨m,fr⟩:=I.fr
  refine PySem.W.method_type fr I.ok.mod.kin hty hst hf hh ?_
  show wpAny _ _ (callWith pos (Value.builtin initId) [] (backTo pos (starEach (e::es) X.env)) []) _ _ _
  refine PyProof.Rows.callWith_method1 (thn (ha.run pos pins _ σ H _ (I.tok _) h) fun uus sh1 ⟨vs,Hp1,In1,rl1,a,C,wws,ev,lnn,T,ea,q⟩=>?_) he hpl
  subst ev
  cases rl1 with
  | @cons _ u0 _ ur ra rw'=>
    obtain rfl:u0=Value.ref a:=ra
    exact x_base T In1 ea (by rw [←Paired.length rw',sizeLine_eq];omega) fun s' J=>⟨.non,Hp1,J,rfl,q⟩
theorem ps_xs (oat:PE X o to) (he:PE X e te) (hs:swapsWith e (some (.Attribute o f p')) pos.line X.env=pure false):PS X (.Assign [.Attribute o f p'] e pos) (tXs X.K f to te):=by
  refine ⟨fun pins s σ H D I h=>?_⟩
  refine plainObj_wpAny_Assign_Attribute (thn (he.run pins s σ H _ I h) fun v sh1 ⟨y,Hp1,In1,rl1,qr1⟩=>thn (oat.run pins sh1 σ Hp1 _ In1 qr1) fun u s2 ⟨x,Hp2,In2,r2,a,C,ii,ex,T,hno,ea,q⟩=>?_) hs
  subst ex
  obtain rfl:u=Value.ref a:=r2
  exact x_store T In2 ea hno rl1 fun dx s' n ne J=>⟨σ,_,J,q dx n ne⟩
theorem pmk_x {Rd:List V→Hp→XK→Prop} {CX:CXT} {x:Str} {C fI:Addr} {k:Nat} {fd:FuncData} {ps:List Str} {sp:Sp} (T:OxC X.K C initId) (iC:PySem.W.findIn X.K (.ref C) "__init__"=some (some (.ref fI))) (tI:PySem.W.typeIn X.K (.ref fI)=some (.type "function"))
    (F1:FnOk X.prog X.w X.K X.mg X.base CX k fI fd ps sp) (hr:Room (k+1) X.A) (hb:Binds X.K fd ps []) (hx:Passes CX X (fun _ _ _=>False)) (hg:Gl X x) (hm:X.mg x=some (.ref C)) (ha:PA X (e::es) ta)
    (hdb:(x==("__debug__":Str))=false) (he:starEach (e::es) X.env=(false,eval e X.env)::starEach es X.env) (hpl:(backTo pos (starEach es X.env)).any (·.1)=false)
    (conv: ∀ vs Hp1 Q,Rd vs Hp1 Q→vs.length≤1000∧∀ a,Hp1 a=none→sp (.ref a::(vs++[])) (upd Hp1 a (exo a C none))
      (fun v Hp2=>v= .non∧∃ (d:Addr) (fs:List (Str×V)),Hp2 a=some (exo a C (some d))∧Hp2 d=some (exd d fs)∧Hp1 d=none∧Q (.ref C) (some d) (upd (del Hp2 a) d (.xd fs))) (fun _ _ _=>False)):
    PMk X (.Call (.Name x p) (e::es) [] pos) (fun σ H Q=>ta σ H fun vs Hp1=>Rd vs Hp1 Q):=by
  intro pins s σ H Q I h
  obtain ⟨tl,newId,hB,nm,q,N,bs,bm,sno,sub,abc0,cl,ddd,k0,k1,k2,k3,k5,hC,hbm⟩:=T.cls
  refine wpAny_Call_Name_kw (ld_glob I hg hm ?_ hdb)
  refine PySem.W.callWith_K (h₀:=X.base) I.ok.mod.kin T.kC (thn (ha.run pos pins s σ H _ I h) fun uus sh1 ⟨vs,Hp1,In1,rl1,hRd⟩=>⟨In1.kIn, ?_⟩) he hpl
  obtain ⟨hz,qr1⟩:=conv vs Hp1 Q hRd
  show wpAny _ _ (call (.ref C) uus) _ _ _
  obtain ⟨hp,g,dr,tkn,os⟩:=sh1
  have szl:hp.objs.size≤hp.objs.size+1:=Nat.le_succ _
  have fre:Hp1 (hp.objs.size+1)=none:=In1.hok.fresh szl
  have nxt:=qr1 (hp.objs.size+1) fre
  have k2': ∀ b o,hp.get? b=some o→((hp.push (PySem.W.kdv_tup uus)).push (exObj C hp.objs.size)).get? b=some o:=fun b o e=>Heap.get?_push_of_some _ (Heap.get?_push_of_some _ e)
  have hget:((hp.push (PySem.W.kdv_tup uus)).push (exObj C hp.objs.size)).get? (hp.objs.size+1)=some (exObj C hp.objs.size):=by heap_get
  have In2:Inv X pins σ (upd Hp1 (hp.objs.size+1) (exo (hp.objs.size+1) C none)) ⟨(hp.push (PySem.W.kdv_tup uus)).push (exObj C hp.objs.size),g,dr,tkn,os⟩:=
    In1.laid (t':=tkn) (a:=hp.objs.size+1) (o:=exo (hp.objs.size+1) C none) (h':=(hp.push (PySem.W.kdv_tup uus)).push (exObj C hp.objs.size)) k2' szl (exo_ok hget)
  have r2:Vals (V.ref (hp.objs.size+1)::(vs++[])) (Value.ref (hp.objs.size+1)::(uus++[])):=.cons rfl (by rw [List.append_nil,List.append_nil];exact rl1)
  have lnn:(Value.ref (hp.objs.size+1)::uus++[]).length=ps.length:=by
    have e:=r2.length
    rw [F1.len _ _ _ _ nxt] at e
    exact e.symm
  have usl:uus.length≤sizeLine:=by
    rw [←Paired.length rl1,sizeLine_eq]
    omega
  have hb2:=hb _ (Value.ref (hp.objs.size+1)::uus) In2.kIn lnn
  rw [List.cons_append] at hb2
  refine wpAny_call (hB.made hbm (In1.kIn _ _ hC) (PySem.W.looks_findIn In1.kIn iC) (fun self=>PySem.W.bind_fn In1.kIn self tI) usl (codeAny_mono (F1.run _ X.stack _ _ ⟨Value.ref (hp.objs.size+1)::uus,[]⟩ (Value.ref (hp.objs.size+1)::(uus++[])) _ _ (fun _ _ _=>False)
    (hr.make C uus []) (In2.env0.make C uus []) hb2 r2 nxt) fun r s' hq'=>?_))
  cases r with
  |error ern=>exact hx pins σ _ _ ern s' In2 hq'
  | ok fl=>
    cases fl with
    | ret u=>
      obtain ⟨v,Hp2,osb,barb,unn,hok2b,rv,ev,d,fs,ea,ed,hd1,qr2⟩:=hq'
      subst ev
      obtain ⟨h2,g2,d2,t2,os'⟩:=s'
      exact ⟨rv,mk_end (raises_own T.exC T.tyC) In1 szl k2' unn hok2b osb barb ea ed hd1 qr2⟩
    |next=>exact False.elim hq'
    |brk=>exact False.elim hq'
    |cont=>exact False.elim hq'
end
end Mi
namespace Mi
open PySem PySem.Spec PyProof.Rows L2
theorem meth_eval {o:Expr} {name:Str} {apos pos:Pos} {args:List Expr} {env:Env} (hbase:attributeBase o name env (eval o env)=eval o env)
    (hfew:((backTo pos (starEach args env)).all (fun x=>!x.1)&&(backToKw pos (keywordEach [] env)).all (fun x=>x.1.isSome)
      &&decide (args.length+([]:List Keyword).length+(if ([]:List Keyword).isEmpty then 0 else 1)<30))=true) (hline:(apos.endLine==pos.line)=true):
    ∃ pl,eval (.Call (.Attribute o name apos) args [] pos) env=(do
      let ov ←eval o env
      standAt apos.atName
      let (f,first) ←holding [ov] (getMethod ov name pl)
      callWith pos f first (backTo pos (starEach args env)) (backToKw pos (keywordEach [] env))):=by
  have hform:methodCallForm (args.length+([]:List Keyword).length) (backTo pos (starEach args env)) (backToKw pos (keywordEach [] env))=true:=hfew
  have hpos:methodCallPos true o env apos pos=pure pos:=by unfold methodCallPos;simp [hline]
  refine ⟨(do return (←importBound o env).getD true), ?_⟩
  rw [arm_eval_Call,hbase]
  unfold methodCall calleeOf
  rw [hform,hpos]
  rfl
structure BInit (K:PySem.W.Frag) (mg:Str→Option Value) (b:Str) (initId:String):Prop where
  hh:PySem.W.handedIn (.builtin initId)=true
  db:(b==("__debug__":Str))=false
  by_:(∃ SB mc,mg b=some (.ref SB)∧PySem.W.specialIn K (.ref SB) "__getattribute__"=some (some (.builtin "type.__getattribute__"))∧PySem.W.readsIn K SB mc=true∧PySem.W.findCls K (.ref SB) mc "__init__"=some (.val (.builtin initId)))∨
    (∃ B:String,mg b=none∧bootBuiltins b=some (.type B)∧typeOf (.type B)=pure (.type "type")∧Manifest.isStub B=false∧PySem.W.findCls K (.type B) (.type "type") "__init__"=some (.val (.builtin initId))∧b≠"__name__")
def initBody (b f m:Str) (j:Nat) (q:List Pos):List Stmt:=match q with
  |[q1,q2,q3,q4,q5,q6,q7,q8,q9,q10]=>[.Expr (.Call (.Attribute (.Name b q1) "__init__" q2) [.Name "self" q3,.Constant (.str m) j q4] [] q5) q6,.Assign [.Attribute (.Name "self" q7) f q8] (.Name f q9) q10]
  |_=>[]
structure InitTxt (st:Stmt) (b f:Str):Prop where
  body: ∃ m j q,q.length=10∧defBody st=initBody b f m j q∧((q.getD 1 ⟨0,0,0,0⟩).endLine==(q.getD 4 ⟨0,0,0,0⟩).line)=true
  S:FnScope ["self",f] ["self",f] (defScope st)
  ls:(defScope st).names.lookup ("self":Str)=some .local
  lf:(defScope st).names.lookup f=some .local
  gb:(defScope st).names.lookup b=some .globalImplicit
  d1:(f==("__debug__":Str))=false
  d2:(f==("__classdict__":Str))=false
def spX (C:Addr) (f:Str):Sp:=fun vs H Q _=> ∃ (a:Addr) (y:V),vs=[.ref a,y]∧H a=some (exo a C none)∧∀ dx,H dx=none→dx≠a→Q .non (upd (upd H dx (exd dx [(f,y)])) a (exo a C (some dx)))
theorem init_ok {P:Program} {w:World} {K:PySem.W.Frag} {mg:Str→Option Value} {base:Heap} {C fI:Addr} {initId:String} {b f x qual:Str} {st:Stmt} {fd:FuncData} (T:OxC K C initId) (hno:PySem.W.findIn K (.ref C) f=some none) (BI:BInit K mg b initId)
    (Fn:Fun K x qual st fI fd) (I:InitTxt st b f):FnOk P w K mg base CX0 1 fI fd ["self",f] (spX C f):=by
  refine Fn.ok (k:=0) I.S (fun vs H Q E h=>?_) (fun cdv A outer s H vs Q E hr h=>?_)
  · obtain ⟨a,y,rfl,_⟩:=h;rfl
  · obtain ⟨m,j,q,hq,hb,hln⟩:=I.body
    match q,hq,hb,hln with
    | [q1,q2,q3,q4,q5,q6,q7,q8,q9,q10],_,hb,hln=>
      rw [hb]
      let X:Cx:=(cxOf CX0 P w K mg base ["self",f] qual (defScope st) fI cdv A outer s H E).nox
      have v0: ∀ pos,PE X (.Name "self" pos) (tVar 0):=fun pos=>pe_var (X:=X) (i:=0) (x:="self") rfl (.inl I.ls) (by decide) (by decide)
      have v1: ∀ pos,PE X (.Name f pos) (tVar 1):=fun pos=>pe_var (X:=X) (i:=1) (x:=f) rfl (.inl I.lf) I.d1 I.d2
      have ha:PA X [.Name "self" q3,.Constant (.str m) j q4] (tCons (tVar 0) (tCons (tC (.str m)) tNil)):=pa_cons (v0 q3) (pa_cons pe_str pa_nil)
      have hg:Gl X b:=I.gb
      have call:PE X (.Call (.Attribute (.Name b q1) "__init__" q2) [.Name "self" q3,.Constant (.str m) j q4] [] q5) (tBI X.K initId (tCons (tVar 0) (tCons (tC (.str m)) tNil))):=by
        obtain ⟨pl,hpl⟩:=meth_eval (o:=.Name b q1) (name:="__init__") (apos:=q2) (pos:=q5) (args:=[.Name "self" q3,.Constant (.str m) j q4]) (env:=X.env) rfl rfl hln
        rcases BI.by_ with ⟨SB,mc,e1,e2,e3,e4⟩|⟨B,e1,e2,e3,e4,e5,e6⟩
        · exact pe_ownInit hg e1 e2 e3 e4 BI.hh BI.db ha hpl rfl rfl
        · exact pe_bltInit hg e1 e2 e3 e4 e5 BI.hh e6 BI.db ha hpl rfl rfl
      refine ⟨_,pss_cons (ps_expr call) (pss_one (ps_xs (v0 q7) (v1 q9) rfl)), ?_⟩
      obtain ⟨a,y,rfl,ea,k⟩:=h
      exact ⟨_,rfl,a,C,[.str m],rfl,by simp,T,ea,_,rfl,_,rfl,a,C,initId,rfl,T,hno,ea,fun dx n ne=>k dx n ne⟩
def tMk1 (C:Addr) (f:Str) (ta:TA):L2.St→Hp→XK→Prop:=fun σ H Q=>ta σ H fun vs H1=> ∃ v,vs=[v]∧∀ d,H1 d=none→Q (.ref C) (some d) (upd H1 d (.xd [(f,v)]))
structure XRow (K:PySem.W.Frag) (mg:Str→Option Value) (c:Str) (C:Addr) (f:Str):Prop where
  ex: ∃ (initId:String) (fI:Addr) (b x qual:Str) (st:Stmt) (fd:FuncData),OxC K C initId∧PySem.W.findIn K (.ref C) f=some none∧BInit K mg b initId∧Fun K x qual st fI fd∧InitTxt st b f∧Binds K fd ["self",f] []∧
    PySem.W.findIn K (.ref C) "__init__"=some (some (.ref fI))∧PySem.W.typeIn K (.ref fI)=some (.type "function")
  gC:mg c=some (.ref C)
  db:(c==("__debug__":Str))=false
  rd:XfC K C
theorem pmk_row {X:Cx} {c f:Str} {C:Addr} {e:Expr} {ta:TA} {p pos:Pos} (R:XRow X.K X.mg c C f) (hr:Room 2 X.A) (hg:Gl X c) (ha:PA X [e] ta)
    (he:starEach (e::[]) X.env=(false,eval e X.env)::starEach [] X.env):PMk X (.Call (.Name c p) [e] [] pos) (tMk1 C f ta):=by
  obtain ⟨initId,fI,b,x,qual,st,fd,T,hno,BI,Fn,I,hb,iC,tI⟩:=R.ex
  have F1:=init_ok (P:=X.prog) (w:=X.w) (mg:=X.mg) (base:=X.base) T hno BI Fn I
  refine pmk_x (X:=X) (p:=p) (pos:=pos) (Rd:=fun vs H1 Q=> ∃ v,vs=[v]∧∀ d,H1 d=none→Q (.ref C) (some d) (upd H1 d (.xd [(f,v)]))) T iC tI F1 hr hb (fun _ _ _ _ _ _ _ h=>h.elim) hg R.gC ha R.db he rfl ?_
  rintro vs H1 Q ⟨v,rfl,k⟩
  refine ⟨by simp,fun a ha=>⟨a,v,rfl,upd_same,fun dx hn hne=>⟨rfl,dx,[(f,v)],upd_same, ?_, ?_, ?_⟩⟩⟩
  · rw [upd_ne hne,upd_same]
  · rw [upd_ne hne] at hn;exact hn
  · rw [upd_ne hne] at hn
    have e2:upd (del (upd (upd (upd H1 a (exo a C none)) dx (exd dx [(f,v)])) a (exo a C (some dx))) a) dx (.xd [(f,v)])=upd H1 dx (.xd [(f,v)]):=by
      funext z
      by_cases h1:z=dx
      · subst h1;rw [upd_same,upd_same]
      · rw [upd_ne h1,upd_ne h1]
        by_cases h2:z=a
        · subst h2;rw [del_same,ha]
        · rw [del_ne h2,upd_ne h2,upd_ne h1,upd_ne h2]
    rw [e2]
    exact k dx hn
end Mi
namespace Mi
open PySem PySem.Spec PyProof.Rows L2
abbrev Clause:=Value×Option Nat×(Addr→Value→Option Addr→TS)
def offEnds (i:Nat) (D:Ends):Ends:={nx:=fun σ' H'=>D.nx (σ'.set i none) H',rt:=D.rt,bk:=fun σ' H'=>D.bk (σ'.set i none) H',ct:=fun σ' H'=>D.ct (σ'.set i none) H'}
def runCl (p:Option Nat) (ts:Addr→Value→Option Addr→TS) (a:Addr) (cls:Value) (d:Option Addr) (D:Ends) (σ:L2.St) (H:Hp):Prop:=match p with
  |some i=>ts a cls d (offEnds i D) (σ.set i (some (.ref a))) H
  |none=>ts a cls d D σ H
def wCl (K:PySem.W.Frag) (Wout:WX) (D:Ends):List Clause→WX
  |[]=>Wout
  |q::r=>fun cls d σ H=> ∃ b,PySem.W.exmOne K cls q.1=some b∧(b=true→∀ a,H a=none→runCl q.2.1 q.2.2 a cls d D σ H)∧(b=false→wCl K Wout D r cls d σ H)
abbrev SuiteOk (X:Cx) (st:List Stmt) (ts:Addr→Value→Option Addr→TS):Prop:=
  ∀ (a:Addr) (oe:Obj) (cls:Value) (d:Option Addr) (pn:List (Addr×Obj)),Zc cls d oe→(∃ vs,oe.data= .fields vs)→PSs (X.suite a ((a,oe)::pn)) st (ts a cls d)
inductive HdCl (X:Cx):List ExceptHandler→List Clause→Prop
  |nil:HdCl X [] []
  |named {x n:Str} {c:Value} {i:Nat} {ts:Addr→Value→Option Addr→TS} {b0:Stmt} {su:List Stmt} {np pos':Pos} {hds:List ExceptHandler} {l:List Clause} (hc:Names X x c) (hi:X.N[i]?=some n) (hl:X.env.kindOf n=some .local)
      (hs:SuiteOk X (b0::su) ts) (r:HdCl X hds l):HdCl X (.ExceptHandler (some (.Name x np)) (some n) (b0::su) pos'::hds) ((c,some i,ts)::l)
  |bare {x:Str} {c:Value} {ts:Addr→Value→Option Addr→TS} {b0:Stmt} {su:List Stmt} {np pos':Pos} {hds:List ExceptHandler} {l:List Clause} (hc:Names X x c)
      (hs:SuiteOk X (b0::su) ts) (r:HdCl X hds l):HdCl X (.ExceptHandler (some (.Name x np)) none (b0::su) pos'::hds) ((c,none,ts)::l)
section
variable {X:Cx} {body:List Stmt} {h0:ExceptHandler} {hds:List ExceptHandler} {l:List Clause} {pos:Pos} {tb:WX→TS} {Wout:WX}
theorem ps_tryCl (hstk:X.stack=X.env::X.outer) (hfrm:X.env.frame=some X.env.locals) (hnd:X.N.Nodup) (tk:Takes X Wout)
    (hbody: ∀ (W:WX) (pn:List (Addr×Obj)) (xe:Value→Shared→Prop),Takes (X.tr pn xe) W→PassesOwn (model X.prog X.w) X.A X.env xe→PSs (X.tr pn xe) body (tb W))
    (hcl:HdCl X (h0::hds) l):PS X (.Try body (h0::hds) [] [] pos) (fun D σ H=>tb (wCl X.K Wout D l) D σ H):=by
  refine ⟨fun pins s σ H D I h=>?_⟩
  have okX:=I.ok
  have hframes:X.A.frames=some (X.env::X.outer):=by rw [okX.frames,hstk]
  refine wpAny_Try_except ?_
  let caught:Value→Shared→Prop:=fun e s1=>wpAny (model X.prog X.w) X.A (noteFrame e X.env) (fun _ s2=>wpAny (model X.prog X.w) X.A (setFlight e none) (fun _ s3=>
    wpAny (model X.prog X.w) X.A (handleBy e X.env (h0::hds)) (SP X pins D) X.xe s3) X.xe s2) X.xe s1
  have take :Takes (X.tr (X.pn++pins) caught) (wCl X.K Wout D l):=by
    rintro u s' ⟨a,B,sA,pins',σ',H',cls,d,rfl,Jv',nbs,gr,sk,na,os,agr,wsh⟩
    have Jv:Inv X pins σ' H' sA:=Jv'.ofTry okX
    have sky2:Sky B (X.env::X.outer) a (Zc cls d) X.env.locals s'.heap:=by rw [←hstk];exact sk
    show wpAny (model X.prog X.w) X.A (noteFrame (.ref a) X.env) _ _ _
    refine Sky.land Zc.steady hframes hfrm sky2 fun h3 ln3 gr3=>?_
    have Jv3:Inv X pins σ' H' {s' with heap:=h3}:=Jv.landed nbs ln3.1 (gr.trans gr3) os agr
    obtain ⟨ob3,vl3,at3,zc3,fd3⟩:=ln3.there
    have off:a∉frs (X.env::X.outer):=fun hmm=>by
      obtain ⟨_,o',e',hnf⟩:=ln3.2.2.1.mem hmm
      rw [at3] at e'
      cases e'
      exact hnf _ fd3
    have offL:a≠X.env.locals:=fun z=>off (List.mem_filterMap.mpr ⟨X.env,List.mem_cons_self,by rw [hfrm,z]⟩)
    have offF:a∉X.fs:=fun hmm=>by
      obtain ⟨e,he,q⟩:=List.mem_filterMap.mp hmm
      exact off (List.mem_filterMap.mpr ⟨e,List.mem_cons_of_mem _ he,q⟩)
    have Sv3:=Jv3.suite at3 fd3 na offL offF
    have tyA:PySem.W.Looks (model X.prog X.w) h3 (typeOf (.ref a)) cls:=fun A Q E s k q=>wpAny_typeOf_ref (k _ _ at3) (by rw [zc3.1];exact q)
    have look: ∀ {x:Str} {c:Value} {np:Pos} {Q:Value→Shared→Prop} {E:Value→Shared→Prop},Names X x c→Q c {s' with heap:=h3}→
        wpAny (model X.prog X.w) (X.A.mark (some (.ref a))) (eval (.Name x np) X.env) Q E {s' with heap:=h3}:=fun {x c np Q E} hc q=>by
      obtain ⟨hgl,hdb,hmm|⟨hmm,hvv,hnm⟩⟩:=hc
      · exact ld_glob (X:=X.suite a ((a,ob3)::(X.pn++pins))) Sv3 hgl hmm q hdb
      · exact ld_blt (X:=X.suite a ((a,ob3)::(X.pn++pins))) Sv3 hgl hmm hvv q hnm hdb
    have walk: ∀ {hd2:List ExceptHandler} {l2:List Clause},HdCl X hd2 l2→wCl X.K Wout D l2 cls d σ' H'→wpAny (model X.prog X.w) X.A (handleBy (.ref a) X.env hd2) (SP X pins D) X.xe {s' with heap:=h3}:=by
      intro hd2 l2 hk
      induction hk with
      | nil=>
        intro wsh
        refine wpAny_handleBy_nil ?_
        obtain ⟨_,_,_,oe,vs,T,oT,ts',he,hz,hd,h1,hr⟩:=id ln3
        unfold PySem.passOn
        refine wpAny_bind (wpAny_field he hd h1 ?_)
        rw [if_neg (show ¬((Value.ref T==Value.none)=true) from by simp)]
        have on:wpAny (model X.prog X.w) X.A (setFlight (.ref a) X.env.frame) (fun _ s4=>wpAny (model X.prog X.w) X.A (throw (.ref a):Sem Flow) (SP X pins D) X.xe s4) X.xe {s' with heap:=h3}:=by
          rw [hfrm]
          refine HandSPX.setFlight_upZ ln3 fun h4 hh4 gr4=>wpAny_throw (tk _ _ ⟨a,B,sA,pins,σ',H',cls,d,rfl,Jv,nbs,(gr.trans gr3).trans gr4,.inr (.inr ?_),na,os,agr,wsh⟩)
          rw [hstk];exact hh4
        first
          |exact wpAny_bind (wpAny_pure (wpAny_bind on))
          |exact wpAny_bind on
      | @named x n c i ts b0 su np pos' fd3 l3 hc hi hl hsu r ih=>
        rintro ⟨b,tells,yes,nay⟩
        have mtA:=PySem.W.exm_one (M:=model X.prog X.w) Jv3.kIn tyA tells
        refine wpAny_handleBy_cons (codeAny_handlers_test ?_) (by intro q;cases q)
        refine look hc (mtA.here ?_)
        cases b with
        |false=>exact ih (nay rfl)
        | true=>
          refine codeAny_handlers_suite_as ?_
          refine HandSPX.lands_againZ ln3 fun h4 ln4 gr4=>?_
          have Jv4:Inv X pins σ' H' {s' with heap:=h4}:=Jv.landed nbs ln4.1 ((gr.trans gr3).trans gr4) os agr
          obtain ⟨ob4,vl4,at4,zc4,fd4⟩:=ln4.there
          have Sv4:=Jv4.suite at4 fd4 na offL offF
          refine store_ok (X:=X.suite a ((a,ob4)::(X.pn++pins))) (v:=.ref a) Sv4 hnd hi (show Loc X.env.scope n from .inl hl) rfl (fun st5 Sv5=>?_) (.inr hl)
          refine wpAny_mono ((hsu a ob4 cls d (X.pn++pins) zc4 ⟨_,fd4⟩).run [] st5 _ H' _ Sv5 (yes rfl a na)) (fun f st6 end6=>?_) (fun _ _ z=>False.elim z)
          cases f with
          | next=>
            obtain ⟨τ6,Hq6,Sv6,qq6⟩:=end6
            exact gone_ok (Sv6.unsuite okX) hnd hi hl fun s7 Jv7=>⟨_,_,Jv7,qq6⟩
          | brk=>
            obtain ⟨τ6,Hq6,Sv6,qq6⟩:=end6
            exact gone_ok (Sv6.unsuite okX) hnd hi hl fun s7 Jv7=>⟨_,_,Jv7,qq6⟩
          | cont=>
            obtain ⟨τ6,Hq6,Sv6,qq6⟩:=end6
            exact gone_ok (Sv6.unsuite okX) hnd hi hl fun s7 Jv7=>⟨_,_,Jv7,qq6⟩
          | ret u=>
            obtain ⟨vv6,τ6,Hq6,Sv6,rr6,qq6⟩:=end6
            exact gone_ok (Sv6.unsuite okX) hnd hi hl fun s7 Jv7=>⟨_,_,_,Jv7,rr6,qq6⟩
      | @bare x c ts b0 su np pos' fd3 l3 hc hsu r ih=>
        rintro ⟨b,tells,yes,nay⟩
        have mtA:=PySem.W.exm_one (M:=model X.prog X.w) Jv3.kIn tyA tells
        refine wpAny_handleBy_cons (codeAny_handlers_test ?_) (by intro q;cases q)
        refine look hc (mtA.here ?_)
        cases b with
        |false=>exact ih (nay rfl)
        | true=>
          refine codeAny_handlers_suite ?_
          refine HandSPX.lands_againZ ln3 fun h4 ln4 gr4=>?_
          have Jv4:Inv X pins σ' H' {s' with heap:=h4}:=Jv.landed nbs ln4.1 ((gr.trans gr3).trans gr4) os agr
          obtain ⟨ob4,vl4,at4,zc4,fd4⟩:=ln4.there
          have Sv4:=Jv4.suite at4 fd4 na offL offF
          refine wpAny_mono ((hsu a ob4 cls d (X.pn++pins) zc4 ⟨_,fd4⟩).run [] _ _ H' _ Sv4 (yes rfl a na)) (fun f st6 end6=>?_) (fun _ _ z=>False.elim z)
          cases f with
          | ret u=>
            obtain ⟨vv6,τ6,Hq6,Sv6,rr6,qq6⟩:=end6
            exact ⟨_,_,_,Sv6.unsuite okX,rr6,qq6⟩
          | _=>
            all_goals (obtain ⟨τ6,Hq6,Sv6,qq6⟩:=end6;exact ⟨_,_,Sv6.unsuite okX,qq6⟩)
    exact walk hcl wsh
  refine wpAny_mono ((hbody (wCl X.K Wout D l) (X.pn++pins) caught take PassesOwn.looking).run [] s σ H D (I.toTry _) h) (fun f s1 end6=>?_) (fun e s1 he=>he)
  cases f with
  | next=>
    obtain ⟨σ',H',Jv',q⟩:=end6
    exact wpAny_execs_nil ⟨σ',H',Jv'.ofTry okX,q⟩
  | ret u=>
    obtain ⟨v,σ',H',Jv',r,q⟩:=end6
    exact ⟨v,σ',H',Jv'.ofTry okX,r,q⟩
  |_=>all_goals (obtain ⟨σ',H',Jv',q⟩:=end6;exact ⟨σ',H',Jv'.ofTry okX,q⟩)
end
end Mi
namespace Mi
open PySem PySem.Spec PyProof.Rows L2
def AftR (G:GE) (Φ:List (O×V)) (Q:VK) (E:XK):Res→Prop
  | .ok o h=> ∀ v H,Cf G H h ((o,v)::Φ)→Q v H
  | .exc c d h=> ∀ C f a v H,G.exc c=some (C,f)→H a=some (.xd [(f,v)])→Cf G H h ((.fz d,v)::Φ)→E (.ref C) (some a) H
  | .bad=>False
def spC (G:GE) (call:Call) (f:Str) (n:Nat):Sp:=fun vs H Q E=>vs.length=n∧∃ h Φ ds,ds.length=vs.length∧Cf G H h (Fz ds vs++Φ)∧AftR G Φ Q E (call f ds h)
def blts:List Str:=["len","isinstance","all","any","enumerate","range","max","min","sum","abs","int","str","tuple","list","dict","sorted","repr","zip","set","bool","ValueError","KeyError","RuntimeError","OverflowError","TypeError","iter","reversed"]
structure CC where
  N:List Str
  sc:Scope
  con:Str→Option D
  fns:List Str
  top:Bool
  bare:Bool
  cells:List Str
  exs:List (Str×Str):=[]
  flds:List Str:=[]
  news:List Str:=[]
  isx:List (Str×Str×Bool):=[]
  shp:List (Str×Nat×List Str):=[]
  mns:List (Str×Nat):=[]
  ml:List (Str×Str):=[]
  insN:List Str:=[]
  celF:List Str:=[]
  frzN:List Str:=[]
  sts:List (Str×Str):=[]
def mkey (c m:Str):Str:=c++(".":Str)++m
structure FnG (P:Program) (w:World) (K:PySem.W.Frag) (mg:Str→Option Value) (base:Heap) (T:CXT) (n:Nat) (a:Addr) (fd:FuncData) (ps:List Str) (q:Sp):Prop where
  ln: ∀ vs H Q E,q vs H Q E→vs.length=ps.length
  go: ∀ (A:Around) (out:List Env) (s:Shared) (H:Hp) (args:Args) (us:List Value) (vs:List V) (Q:VK) (E:XK),Room n A→A.guards=some []→Env0 P w K mg base A out s H→BindsTo s fd args (ps.zip us)→Vals vs us→q vs H Q E→
    codeAny (model P w) A (.call (.ref a) args) (CR T out P w H s Q E) s
def BindSh (G:GE) (K:PySem.W.Frag) (fd:FuncData) (ps:List Str) (n:Nat) (kws:List Str) (ds:List D):Prop:=
  n+kws.length+ds.length=ps.length∧∃ (dV:List Value) (dvs:List V),Vals dvs dV∧(∀ ρ H M,RepDs G ρ H M ds dvs)∧∀ (s:Shared) (us ks:List Value),K.In s.heap→us.length=n→ks.length=kws.length→BindsTo s fd ⟨us,kws.zip ks⟩ (ps.zip (us++(ks++dV)))
def Fills (call:Call) (f:Str) (n:Nat) (ds:List D):Prop:= ∀ xs h,xs.length=n→call f xs h=call f (xs++ds) h
def CallOk (G:GE) (call:Call) (X:Cx) (k:Nat) (f:Str) (a:Addr) (fd:FuncData) (ps:List Str):Prop:=FnG X.prog X.w X.K X.mg X.base (L2.CX X.prog X.w) (2*k+2) a fd ps (spC G call f ps.length)
def ShOk (G:GE) (call:Call) (X:Cx) (f:Str) (fd:FuncData) (ps:List Str) (n:Nat) (kws:List Str):Prop:= ∃ ds,BindSh G X.K fd ps n kws ds∧Fills call f (n+kws.length) ds
def dataT:List String:=["NoneType","bool","int","str","tuple","list","dict"]
def ClsX (K:PySem.W.Frag) (C:Addr):Prop:=PySem.W.findIn K (.ref C) "__class__"=some (some (.builtin "object.__class__"))∧PySem.W.specialIn K (.builtin "object.__class__") "__get__"=some (some (.builtin "getset_descriptor.__get__"))∧PySem.W.takesIn K (.builtin "object.__class__")=some true∧PySem.W.typeIn K (.ref C)=some (.type "type")∧∀ t∈dataT,PySem.W.subIn K (.type t) (.ref C)=some false
def ClsTwo (K:PySem.W.Frag) (c:Str) (C:Addr) (c':Str) (C':Addr):Prop:=PySem.W.notFirst K C (.ref C')=true∧(c=c'∨(c≠c'∧(Value.ref C==Value.ref C')=false∧PySem.W.subIn K (.ref C) (.ref C')=some false))
def selfObj (K:PySem.W.Frag) (C:Addr):Bool:=(PySem.W.clsIn K C).any fun cd=>cd.mro==[.ref C,.type "object"]
def OpX (K:PySem.W.Frag) (C:Addr):Prop:=selfObj K C=true∧PySem.W.findIn K (.ref C) "__iadd__"=some none
def TupK (K:PySem.W.Frag) (a:Addr) (vs:List V):Prop:= ∃ o its n,List.lookup a K=some o∧o.cls=Value.type "tuple"∧o.data=Data.seq its n∧its.size≤sizeLine∧Vals vs its.toList∧o.dict=none
structure StM (K:PySem.W.Frag) (C:Addr) (m:Str) (p g:Addr):Prop where
  rd:PySem.W.readsIn K C (.type "type")=true
  ga:PySem.W.specialIn K (.ref C) "__getattribute__"=some (some (.builtin "type.__getattribute__"))
  at_:PySem.W.findCls K (.ref C) (.type "type") m=some (.get (.builtin "staticmethod.__get__") (.ref p) .none (.ref C))
  rc: ∃ rest,PySem.W.recIn K p "staticmethod"=some (.ref g::rest)
structure GoodB (G:GE) (cc:CC) (X:Cx):Prop where
  N:X.N=cc.N
  bare:G.bare=cc.bare
  nd:cc.N.Nodup
  sc:X.env.scope=cc.sc
  K:X.K=G.K
  units:X.A.units+64<cLine
  wd:X.w=G.w
  gd:X.A.guards=some []
  blt: ∀ x∈blts,X.mg x=none
  con: ∀ x d v,cc.con x=some d→simple d=some v→∃ u,X.mg x=some u∧RelV v u
  conT: ∀ x ds,cc.con x=some (.tup ds)→∃ a vs,X.mg x=some (.ref a)∧TupK X.K a vs∧ds.map simple=vs.map some
  exs: ∀ c f,(c,f)∈cc.exs→∃ C,G.exc c=some (C,f)
  xr: ∀ c C f,G.exc c=some (C,f)→XRow X.K X.mg c C f
  sub: ∀ c C f c' C' f',G.exc c=some (C,f)→G.exc c'=some (C',f')→PySem.W.exmOne X.K (.ref C) (.ref C')=some (decide (c=c'))
  cls: ∀ c C,G.cls c=some C→L2.Cls X.K C∧X.mg c=some (.ref C)
  fld: ∀ c C f,G.cls c=some C→f∈cc.flds→NoAttr X.K C f
  clb: ∀ c C c' C',G.cls c=some C→G.cls c'=some C'→ClsTwo X.K c C c' C'
  ceq: ∀ c C,G.cls c=some C→PySem.W.findIn X.K (.ref C) "__ne__"=some (some (.builtin "object.__ne__"))∧PySem.W.mroIn X.K C (.type "object")=some true∧PySem.W.noSeq X.K C=true∧ClsX X.K C
  isx: ∀ c C f nm b,G.exc c=some (C,f)→(c,nm,b)∈cc.isx→ExcC X.K C∧∃ u cv,RelV u cv∧(∀ w,RelV u w→w=cv)∧((X.mg nm=some cv)∨(X.mg nm=none∧bootBuiltins nm=some cv∧nm≠"__name__"))∧PySem.W.kitOne X.K (.ref C) cv=some b
  opx: ∀ c C,G.cls c=some C→OpX X.K C
  fnx: ∀ f a,G.fns f=some a→f∈cc.fns
  cur: ∀ a a' C,G.cur=some (a,a',C)→∃ oe,(a,oe)∈X.pn∧oe.cls= .ref C∧oe.dict=some a'∧∃ vs,oe.data= .fields vs
structure Good (G:GE) (k:Nat) (call:Call) (cc:CC) (W:WX) (X:Cx):Prop extends GoodB G cc X where
  calm:X.calm=true
  cold:G.cur=none
  tk:Takes X W
  room:Room (2*k+3) X.A
  fn:cc.top=true→∀ x,X.fn x=true
  po:PassesOwn (model X.prog X.w) X.A X.env X.xe
  stk:cc.top=true→X.stack=X.env::X.outer∧X.env.frame=some X.env.locals
  fns: ∀ f∈cc.fns,∃ a fd ps,G.fns f=some a∧X.mg f=some (.ref a)∧PySem.W.keepIn X.K (.ref a)=true∧CallOk G call X k f a fd ps∧∀ n kws,(f,n,kws)∈cc.shp→ShOk G call X f fd ps n kws
  news: ∀ c∈cc.news,∃ C a fd ps,G.cls c=some C∧Mk X.K C a∧CallOk G call X k (mkey c "__init__") a fd ps∧∀ n kws,(mkey c "__init__",n,kws)∈cc.shp→ShOk G call X (mkey c "__init__") fd ps n kws
  mths: ∀ c C m n,G.cls c=some C→(m,n)∈cc.mns→(c,m)∈cc.ml→∃ a,Meth X.K C m a∧PySem.W.fnIn X.K a=true∧((∃ fd ps,CallOk G call X k (mkey c m) a fd ps∧ShOk G call X (mkey c m) fd ps (n+1) [])∨∀ xs h,xs.length=n+1→call (mkey c m) xs h= .bad)
  sts: ∀ c m,(c,m)∈cc.sts→∃ C p a fd ps,G.cls c=some C∧StM X.K C m p a∧PySem.W.keepIn X.K (.ref a)=true∧CallOk G call X k (mkey c m) a fd ps∧∀ n kws,(mkey c m,n,kws)∈cc.shp→ShOk G call X (mkey c m) fd ps n kws
section
variable {G:GE} {k:Nat} {call:Call} {cc:CC} {W:WX} {X:Cx}
def mVar (i:Nat):E:=fun _ s=>match s.σ[i]? with
  |some (some _)=>.ok (.bor i) s
  |_=>.bad
theorem e_var (g:GoodB G cc X) {i:Nat} {x:Str} {pos:Pos} (hi:cc.N[i]?=some x) (hv:Vis cc.sc x) (hd:(x==("__debug__":Str))=false) (hcd:(x==("__classdict__":Str))=false):PE X (.Name x pos) (tE G W call (mVar i)):=by
  refine (pe_var (i:=i) (by rw [g.N];exact hi) (by rw [g.sc];exact hv) hd hcd).of fun σ H Q h=>?_
  obtain ⟨s,Φ,c,a⟩:=h
  unfold mVar at a
  split at a
  · rename_i o e
    obtain ⟨v,ev,c'⟩:=c.name e
    exact ⟨v,ev,a v H c'⟩
  · exact a.elim
def mCon (d:D):E:=fun _ s=>.ok (.own (.fz d)) s
theorem CfS.simple {σr:Sr} {H:Hp} {s:S} {Φ:List (R×V)} {d:D} {v:V} (c:CfS G σr H s Φ) (e:simple d=some v):CfS G σr H s ((.own (.fz d),v)::Φ):=
  CfS.more (K:=[]) c (c.cf.simple e)
theorem tCon {d:D} {v:V} (e:simple d=some v) {σr:Sr} {H:Hp} {Q:VK} (h:tE G W call (mCon d) σr H Q):tC v σr H Q:=by
  obtain ⟨s,Φ,c,a⟩:=h
  exact a v H (c.simple e)
theorem e_int {i:Int} {j:Nat} {pos:Pos}:PE X (.Constant (.int i) j pos) (tE G W call (mCon (.int i))):=pe_int.of fun σ H Q h=>tCon rfl h
theorem e_bl {i:Bool} {j:Nat} {pos:Pos}:PE X (.Constant (.bool i) j pos) (tE G W call (mCon (.bl i))):=pe_bl.of fun σ H Q h=>tCon rfl h
theorem e_str {i:Str} {j:Nat} {pos:Pos}:PE X (.Constant (.str i) j pos) (tE G W call (mCon (.str i))):=pe_str.of fun σ H Q h=>tCon rfl h
theorem e_non {j:Nat} {pos:Pos}:PE X (.Constant .none j pos) (tE G W call (mCon .non)):=pe_non.of fun σ H Q h=>tCon rfl h
theorem e_glo (g:GoodB G cc X) {x:Str} {d:D} {v:V} {pos:Pos} (hg:cc.sc.names.lookup x=some .globalImplicit) (hc:cc.con x=some d) (hs:simple d=some v) (hd:(x==("__debug__":Str))=false):PE X (.Name x pos) (tE G W call (mCon d)):=by
  obtain ⟨u,hu,r⟩:=g.con x d v hc hs
  exact (pe_glob (by show X.env.scope.names.lookup x=_;rw [g.sc];exact hg) hu r hd).of fun σ H Q h=>tCon hs h
theorem reps_simple {ρ:List Addr} {H:Hp} {M:List Addr}: ∀ {ds:List D} {vs:List V},ds.map Mi.simple=vs.map some→RepDs G ρ H M ds vs
  |[],[],_=>rfl
  | d::ds,v::vs,h=>by
    simp only [List.map_cons,List.cons.injEq] at h
    refine ⟨v,vs,rfl, ?_,reps_simple h.2⟩
    have e:=h.1
    cases d<;>simp [Mi.simple] at e<;>subst e<;>rfl
  |[],_::_,h=>by simp at h
  |_::_,[],h=>by simp at h
theorem e_gloT (g:GoodB G cc X) {x:Str} {ds:List D} {pos:Pos} (hg:cc.sc.names.lookup x=some .globalImplicit) (hc:cc.con x=some (.tup ds)) (hd:(x==("__debug__":Str))=false):PE X (.Name x pos) (tE G W call (mCon (.tup ds))):=by
  obtain ⟨a,vs,hm,⟨o,its,n,t1,t2,t3,t4,t5,t6⟩,hs⟩:=g.conT x ds hc
  refine (pe_glob (v:=.ref a) (by show X.env.scope.names.lookup x=_;rw [g.sc];exact hg) hm rfl hd).of fun σ H Q h=>?_
  obtain ⟨s,Φ,c,q⟩:=h
  refine q (.ref a) H ?_
  obtain ⟨ρ,M,cp⟩:=c.parts
  exact CfS.more (K:=[]) c (Cf.fz1.mpr ⟨ρ,M,cp,a,vs,rfl,.inr ⟨o,its,n,by rw [←g.K];exact t1,t2,t3,t4,t5,fun _=>t6⟩,reps_simple hs⟩)
theorem GoodB.gl (g:GoodB G cc X) {x:Str} (hg:cc.sc.names.lookup x=some .globalImplicit):Gl X x:=by
  show X.env.scope.names.lookup x=_;rw [g.sc];exact hg
def notStar:Expr→Bool
  | .Starred _ _=>false
  |_=>true
theorem star_cons {e:Expr} {es:List Expr} {env:Env} (h:notStar e=true):starEach (e::es) env=(false,eval e env)::starEach es env:=by
  cases e<;>first|rfl|cases h
theorem star_any {pos:Pos} {env:Env}: ∀ {es:List Expr},es.all notStar=true→(backTo pos (starEach es env)).any (·.1)=false
  |[],_=>rfl
  | e::es,h=>by
    simp only [List.all_cons,Bool.and_eq_true] at h
    rw [star_cons h.1]
    show ((false:Bool)||(backTo pos (starEach es env)).any (·.1))=false
    rw [star_any h.2];rfl
def aNil:As:=fun _ s=>.ok [] s
def aCons (a:E) (r:As):As:=fun call s=>(a call s).bind fun x s1=>match take s1 x with
  |some (d,s2)=>(r call s2).bind fun ds s3=>.ok (d::ds) s3
  |none=>.bad
theorem a_nil:PA X [] (tL G W call aNil):=pa_nil.of fun σ H Q h=>by
  obtain ⟨s,Φ,c,a⟩:=h
  exact a [] H rfl c
theorem a_cons {e:Expr} {es:List Expr} {m:E} {r:As} (he:PE X e (tE G W call m)) (hr:PA X es (tL G W call r)) (hn:notStar e=true):PA X (e::es) (tL G W call (aCons m r)):=by
  refine (pa_cons he hr (star_cons hn)).of fun σ H Q h=>?_
  obtain ⟨s,Φ,c,a⟩:=h
  refine ⟨s,Φ,c,(Aft.bind a).mono fun x s1 a1=>fun v H1 c1=>?_⟩
  split at a1
  · rename_i d s2 et
    have c2:=c1.take et
    refine ⟨s2,_,c2,((Aft.bind a1).frame1).mono fun ds s3 a3=>fun vs H3 l c3=>?_⟩
    refine a3 (v::vs) H3 (by simp [l]) ?_
    exact c3.perm (List.perm_middle)
  · exact a1.elim
theorem ow_fz: ∀ {ds:List D} {vs:List V},ow (FzR ds vs)=Fz ds vs
  |[],_=>by simp [FzR,Fz,ow]
  |_::_,[]=>by simp [FzR,Fz,ow]
  | d::ds,v::vs=>by
    show (O.fz d,v)::ow (FzR ds vs)=(O.fz d,v)::Fz ds vs
    rw [ow_fz]
theorem CfS.pack {σr:Sr} {H H':Hp} {s:S} {Φ:List (R×V)} {ds:List D} {vs:List V} {o:O} {v:V} (c:CfS G σr H s (FzR ds vs++Φ)) (f: ∀ L,Cf G H s.h (Fz ds vs++L)→Cf G H' s.h ((o,v)::L)):CfS G σr H' s ((.own o,v)::Φ):=
  c.by_ (fun i w q=>by
    rcases List.mem_cons.mp q with q|q
    · cases q
    · exact List.mem_append_right _ q) fun L q=>by
    rw [ow_append,ow_fz,List.append_assoc] at q
    exact f _ q
def fitsB (n:Nat):Bool:=decide (n≤100000)
theorem fits {n:Nat} (h:fitsB n=true):n≤sizeLine:=Nat.le_trans (of_decide_eq_true h) (by decide)
def mTup (r:As):E:=fun call s=>(r call s).bind fun ds s1=>if fitsB ds.length then .ok (.own (.fz (.tup ds))) s1 else .bad
def mLst (r:As):E:=fun call s=>(r call s).bind fun ds s1=>if fitsB ds.length then .ok (.own (.lst ds)) s1 else .bad
theorem pe_tupB {es:List Expr} {t:TA} {n:Nat} {pos:Pos} (h:PA X es t):PE X (.Tuple es n pos) (fun σ H Q=>t σ H fun xs H1=>xs.length≤sizeLine∧∀ p ob,ob.dict=none→H1 p=none→Q (.ref p) (upd H1 p (.frz ob (.tup xs)))):=by
  refine ⟨fun pins s σ H Q I hq=>?_⟩
  refine wpAny_Tuple_spliced (thn (h.run pos pins s σ H _ I hq) fun us s1 ⟨xs,H1,I1,r,z,q⟩=>⟨by rw [←r.length];exact z, ?_⟩)
  have hf:H1 s1.heap.objs.size=none:=I1.hok.fresh (Nat.le_refl _)
  refine ⟨.ref s1.heap.objs.size,upd H1 s1.heap.objs.size (.frz {cls:=.type "tuple",data:=.seq us.toArray} (.tup xs)),I1.laid (t':=s1.toks) (fun b u e=>Heap.get?_push_of_some _ e) (Nat.le_refl _) ?_,rfl,q _ _ rfl hf⟩
  exact ⟨Heap.get?_push_size _ rfl,z,us,r,⟨_,Heap.get?_push_size _ rfl,rfl,_,rfl⟩⟩
theorem e_tup {es:List Expr} {r:As} {n:Nat} {pos:Pos} (h:PA X es (tL G W call r)):PE X (.Tuple es n pos) (tE G W call (mTup r)):=by
  cases hb:G.bare with
  | false=>
    refine (pe_tup h).of fun σ H Q q=>?_
    obtain ⟨s,Φ,c,a⟩:=q
    refine ⟨s,Φ,c,(Aft.bind a).mono fun ds s1 a1=>fun vs H1 l c1=>?_⟩
    split at a1
    · rename_i hf
      exact ⟨by rw [←l];exact fits hf,fun p hp=>a1 _ _ (c1.pack fun L q=>Cf.newTup l q hp ⟨hb,rfl⟩)⟩
    · exact a1.elim
  | true=>
    refine (pe_tupB h).of fun σ H Q q=>?_
    obtain ⟨s,Φ,c,a⟩:=q
    refine ⟨s,Φ,c,(Aft.bind a).mono fun ds s1 a1=>fun vs H1 l c1=>?_⟩
    split at a1
    · rename_i hf
      exact ⟨by rw [←l];exact fits hf,fun p ob ho hp=>a1 _ _ (c1.pack fun L q=>Cf.newTup l q hp ⟨rfl,fun _=>ho⟩)⟩
    · exact a1.elim
theorem e_lst {es:List Expr} {r:As} {pos:Pos} (h:PA X es (tL G W call r)):PE X (.List es pos) (tE G W call (mLst r)):=by
  refine (pe_lst h).of fun σ H Q q=>?_
  obtain ⟨s,Φ,c,a⟩:=q
  refine ⟨s,Φ,c,(Aft.bind a).mono fun ds s1 a1=>fun vs H1 l c1=>?_⟩
  split at a1
  · rename_i hf
    exact ⟨by rw [←l];exact fits hf,fun p hp=>a1 _ _ (c1.pack fun L q=>Cf.newLst l q hp)⟩
  · exact a1.elim
def truD:D→Option Bool
  | .non=>some false
  | .bl b=>some b
  | .int i=>some (i !=0)
  | .str x=>if fitsB x.length then some ((x.length:Int) !=0) else none
  | .tup ds=>some (!ds.isEmpty)
  | .lst ds=>some (!ds.isEmpty)
  | .dic ks ds=>none
  |_=>none
theorem RepDs.isEmpty {ρ:List Addr} {H:Hp} {M:List Addr} {ds:List D} {vs:List V} (r:RepDs G ρ H M ds vs):ds.isEmpty=vs.isEmpty:=by
  have:=r.length
  cases ds<;>cases vs<;>simp at this<;>rfl
theorem tru_of {ρ:List Addr} {H:Hp} {M:List Addr} {d:D} {v:V} {b:Bool} (hK:X.K=G.K) (r:RepT G ρ H M d v) (e:truD d=some b):TruV X.K v H b:=by
  rw [hK]
  cases d with
  |non=>simp only [truD,Option.some.injEq] at e;subst e;obtain rfl:=(show v=_ from r);rfl
  |bl b=>simp only [truD,Option.some.injEq] at e;subst e;obtain rfl:=(show v=_ from r);rfl
  |int b=>simp only [truD,Option.some.injEq] at e;subst e;obtain rfl:=(show v=_ from r);rfl
  | str x=>
    simp only [truD] at e
    split at e
    · rename_i hf
      simp only [Option.some.injEq] at e;subst e;obtain rfl:=(show v=_ from r);exact ⟨fits hf,rfl⟩
    · cases e
  | tup ds=>
    simp only [truD,Option.some.injEq] at e;subst e
    obtain ⟨a,vs,rfl,t,r⟩:=r
    exact .inr (.inl ⟨vs,t.sq,by rw [r.isEmpty]⟩)
  | lst ds=>
    simp only [truD,Option.some.injEq] at e;subst e
    obtain ⟨a,vs,rfl,t,r⟩:=r
    exact .inl ⟨vs,.inl (.inl t),by rw [r.isEmpty]⟩
  |dic ks ds=>simp [truD] at e
  |ins c fs ds=>simp [truD] at e
  |dct ks ds=>simp [truD] at e
  |loc n=>simp [truD] at e
  |fn f=>simp [truD] at e
  |scr ns=>simp [truD] at e
  |ty n=>simp [truD] at e
  |cls c=>simp [truD] at e
  |xn c f d=>simp [truD] at e
  |lk o kvs=>simp [truD] at e
def truR (s:S) (x:R):Option Bool:=(peek s x).bind truD
def bVal (m:E):B:=fun call s=>(m call s).bind fun x s1=>lift s1 (truR s1 x)
theorem t_val (g:GoodB G cc X) {e:Expr} {m:E} (h:PE X e (tE G W call m)) (he: ∀ env whole,isTrue e env whole=(do let v ←whole;standAt e.pos;holding [v] (truthy v))):PT X e (tB_ G W call (bVal m)):=by
  refine (pt_truth h (he _)).of fun σ H Q q=>?_
  obtain ⟨s,Φ,c,a⟩:=q
  refine ⟨s,Φ,c,(Aft.bind a).mono fun x s1 a1=>fun v H1 c1=>?_⟩
  obtain ⟨b,e1,q⟩:=Aft.lift a1
  simp only [truR,Option.bind_eq_some_iff] at e1
  obtain ⟨d,e2,e3⟩:=e1
  obtain ⟨ρ,M,cp⟩:=c1.parts
  exact ⟨b,tru_of g.K (c1.peek (by simp) e2 cp) e3,q H1 c1.drop⟩
def isB (s:S) (x:R):Option Bool:=(peek s x).bind fun d=>match d with| .bl b=>some b|_=>none
def bCmp (m:E):B:=fun call s=>(m call s).bind fun x s1=>lift s1 (isB s1 x)
theorem t_cmp1 {f:D→D→Option O} {op:CmpOp} {a b:Expr} {ma mb:E} {pos:Pos} (ho:OpR X (compareOp op) (r2 G f)) (ha:PE X a (tE G W call ma)) (hb:PE X b (tE G W call mb)) (hm:behindInMarks op b=false):PT X (.Compare a [op] [b] pos) (tB_ G W call (bCmp (mTwo f ma mb))):=by
  refine (pt_cmpR ho ha hb hm).of fun σ H Q q=>?_
  obtain ⟨s,Φ,c,a⟩:=q
  refine tTwo ⟨s,Φ,c,(Aft.bind a).mono fun x s1 a1=>fun v H1 c1=>?_⟩
  obtain ⟨b,e1,q⟩:=Aft.lift a1
  simp only [isB,Option.bind_eq_some_iff] at e1
  obtain ⟨d,e2,e3⟩:=e1
  obtain ⟨ρ,M,cp⟩:=c1.parts
  have r:=c1.peek (v:=v) (by simp) e2 cp
  split at e3
  · rename_i b'
    simp only [Option.some.injEq] at e3
    subst e3
    exact ⟨b',r,q H1 c1.drop⟩
  · cases e3
def bNot (m:B):B:=fun call s=>(m call s).bind fun b s1=>.ok (!b) s1
theorem t_not {a:Expr} {m:B} {pos:Pos} (h:PT X a (tB_ G W call m)):PT X (.UnaryOp .Not a pos) (tB_ G W call (bNot m)):=by
  refine (pt_not h).of fun σ H Q q=>?_
  obtain ⟨s,Φ,c,a⟩:=q
  exact ⟨s,Φ,c,(Aft.bind a).mono fun b s1 a1=>fun H1 c1=>a1 H1 c1⟩
def bAnd (a b:B):B:=fun call s=>(a call s).bind fun x s1=>if x then b call s1 else .ok false s1
def bOr (a b:B):B:=fun call s=>(a call s).bind fun x s1=>if x then .ok true s1 else b call s1
theorem w_and1 {a:Expr} {m:B} {pos:Pos} (h:PT X a (tB_ G W call m)):PW X (.BoolOp .And [a] pos) (tB_ G W call m):=pw_and1 h
theorem w_or1 {a:Expr} {m:B} {pos:Pos} (h:PT X a (tB_ G W call m)):PW X (.BoolOp .Or [a] pos) (tB_ G W call m):=pw_or1 h
theorem _root_.L2.PW.of {X:Cx} {e:Expr} {t t':TT} (h:PW X e t') (i: ∀ σ H Q,t σ H Q→t' σ H Q):PW X e t:=⟨fun w pins s σ H Q I q=>h.run w pins s σ H Q I (i σ H Q q)⟩
theorem w_and {a b:Expr} {rest:List Expr} {m n:B} {pos:Pos} (h:PT X a (tB_ G W call m)) (h2:PW X (.BoolOp .And (b::rest) pos) (tB_ G W call n)):PW X (.BoolOp .And (a::b::rest) pos) (tB_ G W call (bAnd m n)):=by
  refine (pw_and h h2).of fun σ H Q q=>?_
  obtain ⟨s,Φ,c,a⟩:=q
  refine ⟨s,Φ,c,(Aft.bind a).mono fun b s1 a1=>fun H1 c1=>?_⟩
  cases b with
  |true=>exact ⟨s1,Φ,c1,a1⟩
  |false=>exact a1 H1 c1
theorem w_or {a b:Expr} {rest:List Expr} {m n:B} {pos:Pos} (h:PT X a (tB_ G W call m)) (h2:PW X (.BoolOp .Or (b::rest) pos) (tB_ G W call n)):PW X (.BoolOp .Or (a::b::rest) pos) (tB_ G W call (bOr m n)):=by
  refine (pw_or h h2).of fun σ H Q q=>?_
  obtain ⟨s,Φ,c,a⟩:=q
  refine ⟨s,Φ,c,(Aft.bind a).mono fun b s1 a1=>fun H1 c1=>?_⟩
  cases b with
  |true=>exact a1 H1 c1
  |false=>exact ⟨s1,Φ,c1,a1⟩
def mAnd (a b:E):E:=fun call s=>(a call s).bind fun x s1=>match truR s1 x with
  |some true=>b call s1
  |some false=>.ok x s1
  |none=>.bad
def mNot (a:E):E:=fun call s=>(a call s).bind fun x s1=>match truR s1 x with
  |some b=>.ok (.own (.fz (.bl (!b)))) s1
  |none=>.bad
def mIf (c:B) (a b:E):E:=fun call s=>(c call s).bind fun x s1=>if x then a call s1 else b call s1
theorem e_if {c a b:Expr} {mc:B} {ma mb:E} {pos:Pos} (hc:PT X c (tB_ G W call mc)) (ha:PE X a (tE G W call ma)) (hb:PE X b (tE G W call mb)):PE X (.IfExp c a b pos) (tE G W call (mIf mc ma mb)):=by
  refine (pe_ifExp hc ha hb).of fun σ H Q q=>?_
  obtain ⟨s,Φ,c,a⟩:=q
  refine ⟨s,Φ,c,(Aft.bind a).mono fun x s1 a1=>fun H1 c1=>?_⟩
  cases x with
  |true=>exact iteT ⟨s1,Φ,c1,a1⟩
  |false=>exact iteF ⟨s1,Φ,c1,a1⟩
def mCall (f:Str) (r:As):E:=fun call s=>(r call s).bind fun ds s1=>match call f ds s1.h with
  | .ok o h=>.ok (.own o) ⟨s1.σ,h⟩
  | .exc c d h=>.exc c d ⟨s1.σ,h⟩
  | .bad=>.bad
theorem call_of {f:Str} {n:Nat} {σr:Sr} {H1:Hp} {s1:S} {Φ:List (R×V)} {ds:List D} {vs:List V} {Q:VK} (hn:vs.length=n) (l:ds.length=vs.length) (c1:CfS G σr H1 s1 (FzR ds vs++Φ))
    (a1:Aft G W σr Φ (PV G σr Φ Q) (match call f ds s1.h with
      | .ok o h=>Out.ok (.own o) ⟨s1.σ,h⟩
      | .exc c d h=>.exc c d ⟨s1.σ,h⟩
      | .bad=>.bad)):spC G call f n vs H1 Q (WE W σr):=by
  refine ⟨hn,s1.h,slp s1.σ σr++ow Φ,ds,l, ?_, ?_⟩
  · have q:=c1.cf
    rw [ow_append,ow_fz] at q
    refine q.perm ?_
    rw [←List.append_assoc,←List.append_assoc]
    exact List.perm_append_comm.append_right _
  · cases e:call f ds s1.h with
    | ok o h=>
      rw [e] at a1
      intro v H' q
      refine a1 v H' ⟨c1.sl,fun i w z=>?_,q.perm ?_⟩
      · rcases List.mem_cons.mp z with z|z
        · cases z
        · exact c1.bo i w (List.mem_append_right _ z)
      · exact List.perm_middle.symm
    | exc cn d h=>
      rw [e] at a1
      intro C fl a v H' e1 e2 q
      refine a1 _ _ H' ⟨C,fl,a,v,rfl,e1,rfl,e2,c1.sl,fun i w z=>?_,q.perm ?_⟩
      · rcases List.mem_cons.mp z with z|z
        · cases z
        · exact c1.bo i w (List.mem_append_right _ z)
      · exact List.perm_middle.symm
    |bad=>rw [e] at a1;exact a1.elim
theorem Cf.addK {H:Hp} {h:List O} {L:List (O×V)} {ds es:List D} {vs us:List V} (l:ds.length=vs.length) (c:Cf G H h (Fz ds vs++L)) (r: ∀ ρ H M,RepDs G ρ H M es us):Cf G H h (Fz (ds++es) (vs++us)++L):=by
  obtain ⟨ρ,M,cp,q⟩:=(Cf.fz l).mp c
  have q2:=q.append (r ρ H M)
  exact (Cf.fz q2.length).mpr ⟨ρ,M,cp,q2⟩
theorem FzR_append {ds es:List D} {vs us:List V} (l:ds.length=vs.length):FzR (ds++es) (vs++us)=FzR ds vs++FzR es us:=by
  unfold FzR
  rw [List.zipWith_append l]
theorem fzr_nob (i:Nat) (w:V): ∀ {es:List D} {us:List V},(R.bor i,w)∉FzR es us
  |[],_=>by simp [FzR]
  |_::_,[]=>by simp [FzR]
  | e::es,u::us=>by
    have ih:=fzr_nob i w (es:=es) (us:=us)
    unfold FzR at ih ⊢
    intro z
    rw [List.zipWith_cons_cons] at z
    rcases List.mem_cons.mp z with z|z
    · cases z
    · exact ih z
theorem CfS.addK {σr:Sr} {H:Hp} {s:S} {Φ:List (R×V)} {ds es:List D} {vs us:List V} (l:ds.length=vs.length) (c:CfS G σr H s (FzR ds vs++Φ)) (r: ∀ ρ H M,RepDs G ρ H M es us):CfS G σr H s (FzR (ds++es) (vs++us)++Φ):=by
  have le:es.length=us.length:=(r [] H []).length
  refine ⟨c.sl,fun i w z=>?_, ?_⟩
  · rcases List.mem_append.mp z with z|z
    · rw [FzR_append l] at z
      rcases List.mem_append.mp z with z|z
      · exact c.bo i w (List.mem_append_left _ z)
      · exact absurd z (fzr_nob i w)
    · exact c.bo i w (List.mem_append_right _ z)
  · have q:=c.cf
    rw [ow_append,ow_fz] at q
    rw [ow_append,ow_fz]
    have q1:Cf G H s.h (Fz ds vs++(slp s.σ σr++ow Φ)):=q.perm (by
      rw [←List.append_assoc,←List.append_assoc]
      exact List.perm_append_comm.append_right _)
    refine (q1.addK l r).perm ?_
    rw [←List.append_assoc,←List.append_assoc]
    exact List.perm_append_comm.append_right _
theorem run_fnG {T:CXT} {n:Nat} {a:Addr} {fd:FuncData} {ps kws:List Str} {q:Sp} {E:Sr→XK} {pins:List (Addr×Obj)} {σ:Sr} {H:Hp} {s:Shared} {Q:VK} {us ws:List Value} {vs zs:List V} {m:Nat} {ds:List D} (F:FnG X.prog X.w X.K X.mg X.base T n a fd ps q) (rm:Room n X.A) (gd:X.A.guards=some [])
    (bs:BindSh G X.K fd ps m kws ds) (pa:PassesAt T X σ (E σ)) (I:Inv X pins σ H s) (rv:Vals vs us) (rz:Vals zs ws) (hm:us.length=m) (hk:ws.length=kws.length) (told: ∀ dvs,(∀ ρ H M,RepDs G ρ H M ds dvs)→q (vs++(zs++dvs)) H Q (E σ)):
    wpAny (model X.prog X.w) X.A (PySem.call (.ref a) us (kws.zip ws)) (EP X pins σ Q) X.xe s:=by
  obtain ⟨_,dV,dvs,rd,rep,bt⟩:=bs
  have t:=told dvs rep
  refine wpAny_call (codeAny_mono (F.go X.A X.stack s H ⟨us,kws.zip ws⟩ _ _ Q (E σ) rm gd I.env0 (bt s us ws I.kIn hm hk) (rv.append (rz.append rd)) t) fun res s2 back=>?_)
  cases res with
  |error e=>exact pa pins H s e s2 I back
  | ok fl=>
    cases fl with
    |ret u=>exact I.after back
    |_=>all_goals exact False.elim back
theorem call_fill {f:Str} {n:Nat} {ps:List Str} {σr:Sr} {H1:Hp} {s1:S} {Φ:List (R×V)} {xs ds:List D} {vs dvs:List V} {Q:VK} (fl:Fills call f n ds) (hx:xs.length=n) (hp:n+ds.length=ps.length) (l:xs.length=vs.length) (c1:CfS G σr H1 s1 (FzR xs vs++Φ)) (rep: ∀ ρ H M,RepDs G ρ H M ds dvs)
    (a1:Aft G W σr Φ (PV G σr Φ Q) (match call f xs s1.h with
      | .ok o h=>Out.ok (.own o) ⟨s1.σ,h⟩
      | .exc c d h=>.exc c d ⟨s1.σ,h⟩
      | .bad=>.bad)):spC G call f ps.length (vs++dvs) H1 Q (WE W σr):=by
  rw [fl xs s1.h hx] at a1
  have le:ds.length=dvs.length:=(rep [] H1 []).length
  exact call_of (by rw [List.length_append,←l,←le,hx];exact hp) (by rw [List.length_append,List.length_append,l,le]) (c1.addK l rep) a1
def lenA (r:As) (n:Nat):Prop:= ∀ call s xs s',r call s= .ok xs s'→xs.length=n
theorem e_call (g:Good G k call cc W X) {f:Str} {e:Expr} {es:List Expr} {r:As} {p pos:Pos} (hf:f∈cc.fns) (hs:(f,es.length+1,[])∈cc.shp) (hg:cc.sc.names.lookup f=some .globalImplicit) (h:PA X (e::es) (tL G W call r)) (hl:lenA r (es.length+1)) (hn:(e::es).all notStar=true) (hd:(f==("__debug__":Str))=false):
    PE X (.Call (.Name f p) (e::es) [] pos) (tE G W call (mCall f r)):=by
  obtain ⟨a,fd,ps,ga,hm,hk,F,hb⟩:=g.fns f hf
  obtain ⟨ds,bs,fl⟩:=hb _ _ hs
  simp only [List.all_cons,Bool.and_eq_true] at hn
  refine ⟨fun pins s σ H Q I q=>?_⟩
  refine wpAny_Call_Name_kw (ld_glob I (g.gl hg) hm ?_ hd)
  have ev:tL G W call r σ H (fun vs H1=>vs.length=es.length+1∧∀ dvs,(∀ ρ H M,RepDs G ρ H M ds dvs)→spC G call f ps.length (vs++([]++dvs)) H1 Q (WE W σ)):=by
    obtain ⟨st,Φ,c,a⟩:=q
    unfold mCall at a
    have a':=Aft.bind a
    refine ⟨st,Φ,c, ?_⟩
    cases er:r call st with
    | ok xs s1=>
      rw [er] at a'
      intro vs H1 l c1
      have hx:=hl call st xs s1 er
      refine ⟨by rw [←l];exact hx,fun dvs rep=>?_⟩
      rw [List.nil_append]
      exact call_fill fl hx bs.1 l c1 rep a'
    |exc cn d s1=>rw [er] at a';exact a'
    |bad=>rw [er] at a';exact a'
  refine PySem.W.callWith_K (h₀:=X.base) I.ok.mod.kin hk (thn (h.run pos pins s σ H _ I ev) fun us s1 ⟨vs,H1,I1,rv,hvl,told⟩=>⟨I1.kIn, ?_⟩) (star_cons hn.1) (star_any hn.2)
  exact run_fnG (us:=us) (kws:=[]) (ws:=[]) (zs:=[]) F (g.room.mono (by omega)) g.gd bs (passAt g.tk σ) I1 rv .nil (by rw [←rv.length];exact hvl) rfl told
abbrev AsR:=Call→S→Out (List R)
abbrev PR (G:GE) (σr:Sr) (Φ:List (R×V)) (Q:List V→Hp→Prop):List R→S→Prop:=fun rs s=> ∀ vs H,rs.length=vs.length→CfS G σr H s (rs.zip vs++Φ)→Q vs H
def tR (G:GE) (W:WX) (call:Call) (m:AsR):TA:=fun σr H Q=> ∃ s Φ,CfS G σr H s Φ∧Aft G W σr Φ (PR G σr Φ Q) (m call s)
def rNil:AsR:=fun _ s=>.ok [] s
def rCons (a:E) (r:AsR):AsR:=fun call s=>(a call s).bind fun x s1=>(r call s1).bind fun rs s2=>.ok (x::rs) s2
theorem r_nil:PA X [] (tR G W call rNil):=pa_nil.of fun σ H Q h=>by
  obtain ⟨s,Φ,c,a⟩:=h
  exact a [] H rfl c
theorem r_cons {e:Expr} {es:List Expr} {m:E} {r:AsR} (he:PE X e (tE G W call m)) (hr:PA X es (tR G W call r)) (hn:notStar e=true):PA X (e::es) (tR G W call (rCons m r)):=by
  refine (pa_cons he hr (star_cons hn)).of fun σ H Q h=>?_
  obtain ⟨s,Φ,c,a⟩:=h
  refine ⟨s,Φ,c,(Aft.bind a).mono fun x s1 a1=>fun v H1 c1=>?_⟩
  refine ⟨s1,_,c1,((Aft.bind a1).frame1).mono fun rs s3 a3=>fun vs H3 l c3=>?_⟩
  refine a3 (v::vs) H3 (by simp [l]) ?_
  exact c3.perm (List.perm_middle)
def peeks (s:S):List R→Option (List D)
  |[]=>some []
  |r::rs=>(peek s r).bind fun d=>(peeks s rs).bind fun ds=>some (d::ds)
def RepTs (G:GE) (ρ:List Addr) (H:Hp) (M:List Addr):List D→List V→Prop
  |[],vs=>vs=[]
  |d::ds,vs=> ∃ v r,vs=v::r∧RepT G ρ H M d v∧RepTs G ρ H M ds r
def rN (G:GE) (f:List D→Option O):List V→Hp→VK→Prop:=fun vs H Q=> ∃ ρ M h L ds o,Cp G ρ H M h L∧RepTs G ρ H M ds vs∧f ds=some o∧∀ v H',Cf G H' h ((o,v)::L)→Q v H'
def mBlt (f:List D→Option O) (r:AsR):E:=fun call s=>(r call s).bind fun rs s1=>lift s1 ((peeks s1 rs).bind fun ds=>(f ds).map R.own)
theorem peeks_of {ρ:List Addr} {H:Hp} {M:List Addr} {σr:Sr} {s:S} {Φ:List (R×V)} (c:CfS G σr H s Φ) (cp:Cp G ρ H M s.h (slp s.σ σr++ow Φ)): ∀ {rs:List R} {vs:List V} {ds:List D},rs.length=vs.length→(∀ p∈rs.zip vs,p∈Φ)→peeks s rs=some ds→RepTs G ρ H M ds vs
  | [],[],ds,_,_,e=>by
    simp only [peeks,Option.some.injEq] at e;subst e;rfl
  | r::rs,v::vs,ds,l,hm,e=>by
    simp only [peeks,Option.bind_eq_some_iff] at e
    obtain ⟨d,e1,ds',e2,e3⟩:=e
    simp only [Option.some.injEq] at e3
    subst e3
    exact ⟨v,vs,rfl,c.peek (hm (r,v) (by simp)) e1 cp,peeks_of c cp (by simpa using l) (fun p hp=>hm p (by simp [hp])) e2⟩
  |[],_::_,_,l,_,_=>by simp at l
  |_::_,[],_,l,_,_=>by simp at l
theorem tBlt {f:List D→Option O} {r:AsR} {σr:Sr} {H:Hp} {Q:VK} (h:tE G W call (mBlt f r) σr H Q):tR G W call r σr H fun vs H1=>rN G f vs H1 Q:=by
  obtain ⟨s,Φ,c,a⟩:=h
  refine ⟨s,Φ,c,(Aft.bind a).mono fun rs s1 a1=>fun vs H1 l c1=>?_⟩
  obtain ⟨y,e,q⟩:=Aft.lift a1
  simp only [Option.bind_eq_some_iff,Option.map_eq_some_iff] at e
  obtain ⟨ds,e1,o,eo,ey⟩:=e
  subst ey
  obtain ⟨ρ,M,cp⟩:=c1.parts
  exact ⟨ρ,M,_,_,ds,o,cp,peeks_of c1 cp l (fun p hp=>List.mem_append_left _ hp) e1,eo,fun w H2 c2=>q w H2 (CfS.more (K:=rs.zip vs) c1 c2)⟩
theorem e_blt (g:GoodB G cc X) {f:List D→Option O} {id:String} {x:Str} {e:Expr} {es:List Expr} {r:AsR} {p pos:Pos} (hc:CallR X (.builtin id) (rN G f)) (hb:x∈blts) (hg:cc.sc.names.lookup x=some .globalImplicit) (hv:bootBuiltins x=some (.builtin id))
    (h:PA X (e::es) (tR G W call r)) (hn:(e::es).all notStar=true) (h1:x≠"__name__") (h2:(x==("__debug__":Str))=false):PE X (.Call (.Name x p) (e::es) [] pos) (tE G W call (mBlt f r)):=by
  simp only [List.all_cons,Bool.and_eq_true] at hn
  exact (pe_callB hc (g.gl hg) (g.blt x hb) hv h h1 h2 (star_cons hn.1) (star_any hn.2)).of fun σ H Q q=>tBlt q
theorem e_ty (g:GoodB G cc X) {f:List D→Option O} {id:String} {x:Str} {e:Expr} {es:List Expr} {r:AsR} {p pos:Pos} (hc:CallR X (.type id) (rN G f)) (hb:x∈blts) (hg:cc.sc.names.lookup x=some .globalImplicit) (hv:bootBuiltins x=some (.type id))
    (h:PA X (e::es) (tR G W call r)) (hn:(e::es).all notStar=true) (h1:x≠"__name__") (h2:(x==("__debug__":Str))=false):PE X (.Call (.Name x p) (e::es) [] pos) (tE G W call (mBlt f r)):=by
  simp only [List.all_cons,Bool.and_eq_true] at hn
  exact (pe_callTy hc (g.gl hg) (g.blt x hb) hv h h1 h2 (star_cons hn.1) (star_any hn.2)).of fun σ H Q q=>tBlt q
theorem e_tyName (g:GoodB G cc X) {x:Str} {n:String} {pos:Pos} (hb:x∈blts) (hg:cc.sc.names.lookup x=some .globalImplicit) (hv:bootBuiltins x=some (.type n)) (h1:x≠"__name__") (h2:(x==("__debug__":Str))=false):PE X (.Name x pos) (tE G W call (mCon (.ty n))):=
  (pe_bltn (v:=.ty n) (g.gl hg) (g.blt x hb) hv rfl h1 h2).of fun σ H Q h=>tCon rfl h
end
end Mi
namespace Mi
open PySem PySem.Spec PyProof.Rows L2
theorem _root_.L2.OpR.imp {X:Cx} {f:Value→Value→Sem Value} {r r':R2} (h:OpR X f r') (i: ∀ x y H Q,r x y H Q→r' x y H Q):OpR X f r:=fun pins s σ H x y v u Q I rx ry q=>h pins s σ H x y v u Q I rx ry (i x y H Q q)
theorem _root_.L2.IxR.imp {X:Cx} {r r':R2} (h:IxR X r') (i: ∀ x y H Q,r x y H Q→r' x y H Q):IxR X r:=fun a b pins s σ H x y v u Q I rx ry q=>h a b pins s σ H x y v u Q I rx ry (i x y H Q q)
theorem _root_.L2.CallR.imp {X:Cx} {f:Value} {r r':List V→Hp→VK→Prop} (h:CallR X f r') (i: ∀ x H Q,r x H Q→r' x H Q):CallR X f r:=fun pins s σ H xs us Q I rx q=>h pins s σ H xs us Q I rx (i xs H Q q)
mutual
def toP:D→Option PyData
  | .non=>some .none
  | .bl b=>some (.bool b)
  | .int i=>some (.int i)
  | .str x=>some (.str x)
  | .tup ds=>(toPs ds).map .tuple
  | .lst ds=>(toPs ds).map .list
  | .scr ns=>some (.list (ns.map .int))
  |_=>none
def toPs:List D→Option (List PyData)
  |[]=>some []
  |d::ds=>(toP d).bind fun p=>(toPs ds).bind fun ps=>some (p::ps)
end
section
variable {G:GE} {ρ:List Addr} {H:Hp} {M:List Addr}
theorem dp_ints {K:PySem.W.Frag}: ∀ ns:List Int,DpAll K H (ns.map V.int) (ns.map PyData.int)
  |[]=>.nil
  |n::ns=>.cons (.int n) (dp_ints ns)
mutual
theorem RepD.dp: ∀ (d:D) (v:V) (p:PyData),RepD G ρ H M d v→toP d=some p→Dp G.K H v p
  | .non,v,p,r,e=>by simp only [toP,Option.some.injEq] at e;subst e;obtain rfl:=(show v=_ from r);exact .non
  | .bl b,v,p,r,e=>by simp only [toP,Option.some.injEq] at e;subst e;obtain rfl:=(show v=_ from r);exact .bl b
  | .int b,v,p,r,e=>by simp only [toP,Option.some.injEq] at e;subst e;obtain rfl:=(show v=_ from r);exact .int b
  | .str b,v,p,r,e=>by simp only [toP,Option.some.injEq] at e;subst e;obtain rfl:=(show v=_ from r);exact .str b
  | .tup ds,v,p,r,e=>by
    simp only [toP,Option.map_eq_some_iff] at e
    obtain ⟨ps,e1,e2⟩:=e
    subst e2
    obtain ⟨a,vs,rfl,t,q⟩:=r
    exact .tup t.sq (RepDs.dp ds vs ps q e1)
  | .lst ds,v,p,r,e=>by
    simp only [toP,Option.map_eq_some_iff] at e
    obtain ⟨ps,e1,e2⟩:=e
    subst e2
    obtain ⟨a,vs,rfl,t,n,q⟩:=r
    exact .lst (.inl (.inl t)) (RepDs.dp ds vs ps q e1)
  | .scr ns,v,p,r,e=>by
    simp only [toP,Option.some.injEq] at e
    subst e
    obtain ⟨a,rfl,t|t⟩:=r
    · exact .lst (.inl t.1) (dp_ints ns)
    · exact .lst (.inr t) (dp_ints ns)
  | .dic _ _,_,_,_,e=>by simp [toP] at e
  | .dct _ _,_,_,_,e=>by simp [toP] at e
  | .ins _ _ _,_,_,_,e=>by simp [toP] at e
  | .loc _,_,_,_,e=>by simp [toP] at e
  | .fn _,_,_,_,e=>by simp [toP] at e
  | .ty _,_,_,_,e=>by simp [toP] at e
  | .cls _,_,_,_,e=>by simp [toP] at e
  | .xn _ _ _,_,_,_,e=>by simp [toP] at e
  | .lk _ _,_,_,_,e=>by simp [toP] at e
theorem RepDs.dp: ∀ (ds:List D) (vs:List V) (ps:List PyData),RepDs G ρ H M ds vs→toPs ds=some ps→DpAll G.K H vs ps
  |[],vs,ps,r,e=>by simp only [toPs,Option.some.injEq] at e;subst e;rw [show vs=[] from r];exact .nil
  | d::ds,vs,ps,r,e=>by
    simp only [toPs,Option.bind_eq_some_iff] at e
    obtain ⟨p,e1,ps',e2,e3⟩:=e
    simp only [Option.some.injEq] at e3
    subst e3
    obtain ⟨v,r',e4,r1,r2⟩:=r
    subst e4
    exact .cons (RepD.dp d v p r1 e1) (RepDs.dp ds r' ps' r2 e2)
end
theorem RepT.dp {d:D} {v:V} {p:PyData} (r:RepT G ρ H M d v) (e:toP d=some p):Dp G.K H v p:=by
  cases d with
  | tup ds=>
    simp only [toP,Option.map_eq_some_iff] at e
    obtain ⟨ps,e1,e2⟩:=e
    subst e2
    obtain ⟨a,vs,rfl,t,q⟩:=r
    exact .tup t.sq (RepDs.dp ds vs ps q e1)
  | lst ds=>
    simp only [toP,Option.map_eq_some_iff] at e
    obtain ⟨ps,e1,e2⟩:=e
    subst e2
    obtain ⟨a,vs,rfl,t,q⟩:=r
    exact .lst (.inl (.inl t)) (RepDs.dp ds vs ps q e1)
  | scr ns=>
    simp only [toP,Option.some.injEq] at e
    subst e
    obtain ⟨a,rfl,t⟩:=r
    exact .lst t (dp_ints ns)
  |non=>exact RepD.dp (G:=G) (ρ:=ρ) (M:=M) .non v p r e
  |bl b=>exact RepD.dp (G:=G) (ρ:=ρ) (M:=M) (.bl b) v p r e
  |int b=>exact RepD.dp (G:=G) (ρ:=ρ) (M:=M) (.int b) v p r e
  |str b=>exact RepD.dp (G:=G) (ρ:=ρ) (M:=M) (.str b) v p r e
  |dic _ _=>simp [toP] at e
  |ins _ _ _=>simp [toP] at e
  |dct _ _=>simp [toP] at e
  |loc _=>simp [toP] at e
  |fn _=>simp [toP] at e
  |ty _=>simp [toP] at e
  |cls _=>simp [toP] at e
  |xn _ _ _=>simp [toP] at e
  |lk _ _=>simp [toP] at e
end
def fI (i:Int):Option O:=some (.fz (.int i))
def fB (b:Bool):Option O:=some (.fz (.bl b))
def addD:D→D→Option O
  | .int i,.int j=>fI (i+j)
  | .str x,.str y=>if fitsB (x.length+y.length) then some (.fz (.str (x++y))) else none
  | .lst a,.lst b=>if fitsB (a.length+b.length) then some (.lst (a++b)) else none
  | .tup a,.tup b=>if fitsB (a.length+b.length) then some (.fz (.tup (a++b))) else none
  |_,_=>none
def subD:D→D→Option O
  | .int i,.int j=>fI (i - j)
  |_,_=>none
def smallI (i:Int):Bool:=decide (-(2^64)<i)&&decide (i<2^64)
def mulD:D→D→Option O
  | .int i,.int j=>if smallI i||smallI j then fI (i*j) else none
  | .lst a,.int k=>if decide (-(2^63)≤k)&&decide (k<2^63)&&fitsB (a.length*k.toNat) then some (.lst (List.replicate k.toNat a).flatten) else none
  |_,_=>none
def modD:D→D→Option O
  | .int i,.int j=>if 0<j then fI (i%j) else none
  |_,_=>none
def fdivD:D→D→Option O
  | .int i,.int j=>if 0<j∧j<1073741824 then fI (i/j) else none
  |_,_=>none
def powD:D→D→Option O
  | .int i,.int j=>if 0≤j∧j≤1000000∧i.natAbs<2^64 then fI (i^j.toNat) else none
  |_,_=>none
def negD:D→Option O
  | .int i=>fI (-i)
  |_=>none
section
variable {G:GE} {X:Cx}
theorem Cp.int {ρ M:List Addr} {H:Hp} {h:List O} {L:List (O×V)} (c:Cp G ρ H M h L) (i:Int):Cf G H h ((.fz (.int i),.int i)::L):=c.cf.simple rfl
theorem Cp.bl {ρ M:List Addr} {H:Hp} {h:List O} {L:List (O×V)} (c:Cp G ρ H M h L) (i:Bool):Cf G H h ((.fz (.bl i),.bl i)::L):=c.cf.simple rfl
theorem Cp.lstNew {ρ M:List Addr} {H:Hp} {h:List O} {L:List (O×V)} {ds:List D} {vs:List V} {p:Addr} (c:Cp G ρ H M h L) (r:RepDs G ρ H M ds vs) (hp:H p=none):Cf G (upd H p (.lst vs)) h ((.lst ds,.ref p)::L):=
  Cf.newLst r.length ((Cf.fz r.length).mpr ⟨ρ,M,c,r⟩) hp
theorem Cp.tupNew {ρ M:List Addr} {H:Hp} {h:List O} {L:List (O×V)} {ds:List D} {vs:List V} {p:Addr} {ho:HO} (c:Cp G ρ H M h L) (r:RepDs G ρ H M ds vs) (hp:H p=none) (ht:isTupO G vs ho):Cf G (upd H p ho) h ((.fz (.tup ds),.ref p)::L):=
  Cf.newTup r.length ((Cf.fz r.length).mpr ⟨ρ,M,c,r⟩) hp ht
theorem o_add (hK:X.K=G.K) (hb:G.bare=false):OpR X (binaryOp .Add) (r2 G addD):=(((op_add.or op_add_str).or op_cat).or op_catA).imp fun x y H Q ⟨ρ,M,h,L,d1,d2,o,cp,t1,t2,e,q⟩=>by
  unfold addD at e
  split at e
  · rename_i i j
    cases e
    exact .inl (.inl (.inl ⟨i,j,t1,t2,q _ _ (cp.int _)⟩))
  · rename_i a b
    split at e
    · rename_i hf
      cases e
      exact .inl (.inl (.inr ⟨a,b,t1,t2,fits hf,q _ _ (cp.cf.simple rfl)⟩))
    · cases e
  · rename_i a b
    split at e
    · rename_i hf
      cases e
      obtain ⟨l1,v1,rfl,k1,q1⟩:=t1
      obtain ⟨l2,v2,rfl,k2,q2⟩:=t2
      exact .inl (.inr ⟨l1,l2,v1,v2,rfl,rfl,k1,k2,by rw [←q1.length,←q2.length];exact fits hf,fun p hp=>q _ _ (cp.lstNew (q1.append q2) hp)⟩)
    · cases e
  · rename_i a b
    split at e
    · rename_i hf
      cases e
      obtain ⟨l1,v1,rfl,k1,q1⟩:=t1
      obtain ⟨l2,v2,rfl,k2,q2⟩:=t2
      refine .inr ⟨l1,l2,v1,v2,rfl,rfl,by rw [hK];exact k1.sq,by rw [hK];exact k2.sq,by rw [←q1.length,←q2.length];exact fits hf,fun z=>?_,fun _ z=>?_,fun _ _ p hp=>q _ _ (cp.tupNew (q1.append q2) hp ⟨hb,rfl⟩)⟩
      · subst z
        have e0:a=[]:=List.length_eq_zero_iff.mp q1.length
        subst e0
        exact q _ _ (cp.tupF k2 q2)
      · subst z
        have e0:b=[]:=List.length_eq_zero_iff.mp q2.length
        subst e0
        rw [List.append_nil] at q
        exact q _ _ (cp.tupF k1 q1)
    · cases e
  · cases e
theorem o_sub:OpR X (binaryOp .Sub) (r2 G subD):=op_sub.imp fun x y H Q ⟨ρ,M,h,L,d1,d2,o,cp,t1,t2,e,q⟩=>by
  unfold subD at e
  split at e
  · rename_i i j
    cases e
    exact ⟨i,j,t1,t2,q _ _ (cp.int _)⟩
  · cases e
theorem o_mul:OpR X (binaryOp .Mult) (r2 G mulD):=(op_mul.or op_rep).imp fun x y H Q ⟨ρ,M,h,L,d1,d2,o,cp,t1,t2,e,q⟩=>by
  unfold mulD at e
  split at e
  · rename_i i j
    split at e
    · rename_i hs
      cases e
      refine .inl ⟨i,j,t1,t2, ?_,q _ _ (cp.int _)⟩
      simp only [smallI,Bool.or_eq_true,Bool.and_eq_true,decide_eq_true_eq] at hs
      exact hs
    · cases e
  · rename_i a k
    split at e
    · rename_i hs
      simp only [Bool.and_eq_true,decide_eq_true_eq] at hs
      cases e
      obtain ⟨l1,v1,rfl,k1,q1⟩:=t1
      refine .inr ⟨l1,k,v1,rfl,t2,k1,hs.1.1,hs.1.2,by rw [←q1.length];exact fits hs.2,fun p hp=>q _ _ ?_⟩
      have:=cp.lstNew (q1.flatten_rep k.toNat) hp
      exact this
    · cases e
  · cases e
theorem o_mod:OpR X (binaryOp .Mod) (r2 G modD):=op_mod.imp fun x y H Q ⟨ρ,M,h,L,d1,d2,o,cp,t1,t2,e,q⟩=>by
  unfold modD at e
  split at e
  · rename_i i j
    split at e
    · rename_i hs
      cases e
      exact ⟨i,j,t1,t2,hs,q _ _ (cp.int _)⟩
    · cases e
  · cases e
theorem o_fdiv:OpR X (binaryOp .FloorDiv) (r2 G fdivD):=op_fdiv.imp fun x y H Q ⟨ρ,M,h,L,d1,d2,o,cp,t1,t2,e,q⟩=>by
  unfold fdivD at e
  split at e
  · rename_i i j
    split at e
    · rename_i hs
      cases e
      exact ⟨i,j,t1,t2,hs,q _ _ (cp.int _)⟩
    · cases e
  · cases e
theorem o_pow:OpR X (binaryOp .Pow) (r2 G powD):=op_pow.imp fun x y H Q ⟨ρ,M,h,L,d1,d2,o,cp,t1,t2,e,q⟩=>by
  unfold powD at e
  split at e
  · rename_i i j
    split at e
    · rename_i hs
      cases e
      exact ⟨i,j,t1,t2,hs,q _ _ (cp.int _)⟩
    · cases e
  · cases e
def ltD:D→D→Option O| .int i,.int j=>fB (decide (i<j))|_,_=>none
def leD:D→D→Option O| .int i,.int j=>fB (decide (i≤j))|_,_=>none
def gtD:D→D→Option O| .int i,.int j=>fB (decide (j<i))|_,_=>none
def geD:D→D→Option O| .int i,.int j=>fB (decide (j≤i))|_,_=>none
theorem o_lt:OpR X (compareOp .Lt) (r2 G ltD):=op_lt.imp fun x y H Q ⟨ρ,M,h,L,d1,d2,o,cp,t1,t2,e,q⟩=>by
  unfold ltD at e
  split at e
  · rename_i i j;cases e;exact ⟨i,j,t1,t2,q _ _ (cp.bl _)⟩
  · cases e
theorem o_gt:OpR X (compareOp .Gt) (r2 G gtD):=op_gt.imp fun x y H Q ⟨ρ,M,h,L,d1,d2,o,cp,t1,t2,e,q⟩=>by
  unfold gtD at e
  split at e
  · rename_i i j;cases e;exact ⟨i,j,t1,t2,q _ _ (cp.bl _)⟩
  · cases e
theorem o_ge:OpR X (compareOp .GtE) (r2 G geD):=op_ge.imp fun x y H Q ⟨ρ,M,h,L,d1,d2,o,cp,t1,t2,e,q⟩=>by
  unfold geD at e
  split at e
  · rename_i i j;cases e;exact ⟨i,j,t1,t2,q _ _ (cp.bl _)⟩
  · cases e
def eqB (d e:D):Option Bool:=match d,e with
  | .str x,.str y=>some (decide (x=y))
  | .int x,.int y=>some (decide (x=y))
  | .non,.non=>some true
  | .non,.int _=>some false| .int _,.non=>some false| .non,.str _=>some false| .str _,.non=>some false
  | .int _,.str _=>some false| .str _,.int _=>some false
  |_,_=>(toP d).bind fun p=>(toP e).bind fun q=>if SeqAt.shaped p&&SeqAt.shaped q then some (PyData.eqv p q) else none
def eqD (d e:D):Option O:=(eqB d e).map fun b=>.fz (.bl b)
def neD (d e:D):Option O:=(eqB d e).map fun b=>.fz (.bl (!b))
theorem eq_of {K:PySem.W.Frag} (hK:K=G.K) {ρ M:List Addr} {H:Hp} {d e:D} {x y:V} {b:Bool} (t1:RepT G ρ H M d x) (t2:RepT G ρ H M e y) (q:eqB d e=some b):
    (scal x y=true∧decide (x=y)=b)∨(∃ p q,Dp K H x p∧Dp K H y q∧SeqAt.shaped p=true∧SeqAt.shaped q=true∧PyData.eqv p q=b):=by
  subst hK
  unfold eqB at q
  split at q
  · rename_i i j
    cases q;obtain rfl:=(show x=_ from t1);obtain rfl:=(show y=_ from t2)
    exact .inl ⟨rfl,by simp⟩
  · rename_i i j
    cases q;obtain rfl:=(show x=_ from t1);obtain rfl:=(show y=_ from t2)
    exact .inl ⟨rfl,by simp⟩
  · cases q;obtain rfl:=(show x=_ from t1);obtain rfl:=(show y=_ from t2)
    exact .inl ⟨rfl,by simp⟩
  · cases q;obtain rfl:=(show x=_ from t1);obtain rfl:=(show y=_ from t2)
    exact .inl ⟨rfl,by simp⟩
  · cases q;obtain rfl:=(show x=_ from t1);obtain rfl:=(show y=_ from t2)
    exact .inl ⟨rfl,by simp⟩
  · cases q;obtain rfl:=(show x=_ from t1);obtain rfl:=(show y=_ from t2)
    exact .inl ⟨rfl,by simp⟩
  · cases q;obtain rfl:=(show x=_ from t1);obtain rfl:=(show y=_ from t2)
    exact .inl ⟨rfl,by simp⟩
  · cases q;obtain rfl:=(show x=_ from t1);obtain rfl:=(show y=_ from t2)
    exact .inl ⟨rfl,by simp⟩
  · cases q;obtain rfl:=(show x=_ from t1);obtain rfl:=(show y=_ from t2)
    exact .inl ⟨rfl,by simp⟩
  · simp only [Option.bind_eq_some_iff] at q
    obtain ⟨p1,e1,p2,e2,e3⟩:=q
    split at e3
    · rename_i hs
      simp only [Bool.and_eq_true] at hs
      cases e3
      exact .inr ⟨p1,p2,t1.dp e1,t2.dp e2,hs.1,hs.2,rfl⟩
    · cases e3
theorem o_eq (hK:X.K=G.K) (hu:X.A.units+64<cLine):OpR X (compareOp .Eq) (r2 G eqD):=(op_eq.or (op_eqD hu)).imp fun x y H Q ⟨ρ,M,h,L,d1,d2,o,cp,t1,t2,e,q⟩=>by
  simp only [eqD,Option.map_eq_some_iff] at e
  obtain ⟨b,e1,e2⟩:=e
  subst e2
  rcases eq_of hK t1 t2 e1 with ⟨s1,s2⟩|⟨p,p',s1,s2,s3,s4,s5⟩
  · exact .inl ⟨s1,by rw [s2];exact q _ _ (cp.bl _)⟩
  · exact .inr ⟨p,p',s1,s2,s3,s4,by rw [s5];exact q _ _ (cp.bl _)⟩
theorem o_ne (hK:X.K=G.K) (hu:X.A.units+64<cLine):OpR X (compareOp .NotEq) (r2 G neD):=(op_ne.or (op_neD hu)).imp fun x y H Q ⟨ρ,M,h,L,d1,d2,o,cp,t1,t2,e,q⟩=>by
  simp only [neD,Option.map_eq_some_iff] at e
  obtain ⟨b,e1,e2⟩:=e
  subst e2
  rcases eq_of hK t1 t2 e1 with ⟨s1,s2⟩|⟨p,p',s1,s2,s3,s4,s5⟩
  · exact .inl ⟨s1,by rw [s2];exact q _ _ (cp.bl _)⟩
  · exact .inr ⟨p,p',s1,s2,s3,s4,by rw [s5];exact q _ _ (cp.bl _)⟩
end
end Mi
namespace Mi
open PySem PySem.Spec PyProof.Rows L2
section
variable {G:GE} {X:Cx}
def itemsD:D→Option (List D)
  | .tup ds=>some ds
  | .lst ds=>some ds
  | .scr ns=>some (ns.map .int)
  |_=>none
theorem rep_ints {ρ M:List Addr} {H:Hp}: ∀ ns:List Int,RepDs G ρ H M (ns.map D.int) (ns.map V.int)
  |[]=>rfl
  |n::ns=>⟨_,_,rfl,rfl,rep_ints ns⟩
def listD:D→Option (List D)
  | .lst ds=>some ds
  | .scr ns=>some (ns.map .int)
  |_=>none
theorem listD_of {ρ M:List Addr} {H:Hp} {d:D} {v:V} {ds:List D} (r:RepT G ρ H M d v) (e:listD d=some ds): ∃ a vs,v= .ref a∧SqL G.K H a vs∧RepDs G ρ H M ds vs:=by
  cases d with
  |lst ds'=>cases e;obtain ⟨a,vs,rfl,t,q⟩:=r;exact ⟨a,vs,rfl,.inl (.inl t),q⟩
  |scr ns=>cases e;obtain ⟨a,rfl,t⟩:=r;exact ⟨a,_,rfl,t,rep_ints ns⟩
  |_=>cases e
theorem itemsD_of {ρ M:List Addr} {H:Hp} {d:D} {v:V} {ds:List D} (r:RepT G ρ H M d v) (e:itemsD d=some ds): ∃ a vs,v= .ref a∧(SqL G.K H a vs∨SqT G.K H a vs)∧RepDs G ρ H M ds vs:=by
  cases d with
  |tup ds'=>cases e;obtain ⟨a,vs,rfl,t,q⟩:=r;exact ⟨a,vs,rfl,.inr t.sq,q⟩
  |lst ds'=>cases e;obtain ⟨a,vs,rfl,t,q⟩:=r;exact ⟨a,vs,rfl,.inl (.inl (.inl t)),q⟩
  |scr ns=>cases e;obtain ⟨a,rfl,t⟩:=r;exact ⟨a,_,rfl,.inl t,rep_ints ns⟩
  |_=>cases e
def flatD:D→Option V
  | .non=>some .non| .bl b=>some (.bl b)| .int i=>some (.int i)| .str x=>some (.str x)|_=>none
def flatsD:List D→Option (List V)
  |[]=>some []
  |d::ds=>(flatD d).bind fun v=>(flatsD ds).bind fun vs=>some (v::vs)
theorem flatD_of {ρ M:List Addr} {H:Hp} {d:D} {v u:V} (r:RepD G ρ H M d v) (e:flatD d=some u):v=u∧flatV u=true:=by
  cases d<;>simp only [flatD,Option.some.injEq,reduceCtorEq] at e<;>subst e<;>exact ⟨r,rfl⟩
theorem flatsD_of {ρ M:List Addr} {H:Hp}: ∀ {ds:List D} {vs us:List V},RepDs G ρ H M ds vs→flatsD ds=some us→vs=us∧us.all flatV=true
  |[],vs,us,r,e=>by simp only [flatsD,Option.some.injEq] at e;subst e;exact ⟨r,rfl⟩
  | d::ds,vs,us,r,e=>by
    simp only [flatsD,Option.bind_eq_some_iff,Option.some.injEq] at e
    obtain ⟨v,e1,us',e2,e3⟩:=e
    subst e3
    obtain ⟨w,r',e4,h1,h2⟩:=r
    subst e4
    obtain ⟨a1,a2⟩:=flatD_of h1 e1
    obtain ⟨b1,b2⟩:=flatsD_of h2 e2
    subst a1;subst b1
    exact ⟨rfl,by simp [a2,b2]⟩
def rInE (K:PySem.W.Frag) (neg:Bool):R2:=fun x y H Q=> ∃ d ds,Dp K H x d∧Dp K H y (.list ds)∧SeqAt.shaped d=true∧SeqAt.shaped (.list ds)=true∧d.depth≤63∧Q (.bl (if neg then !ds.any fun z=>PyData.eqv z d else ds.any fun z=>PyData.eqv z d)) H
theorem op_inE {X:Cx} (hu:X.A.units+64<cLine):OpR X (compareOp .In) (rInE X.K false):=by
  intro pins s σ H x y v u Q I rx ry h
  obtain ⟨d,ds,hd,he,sd,se,hx,q⟩:=h
  obtain ⟨as,r1⟩:=Dp.reads I d x v hd rx
  obtain ⟨bs,r2⟩:=Dp.reads I (.list ds) y u he ry
  exact SeqAt.in_list_reads r2 r1 (SeqAt.canLay_of_shaped se) (SeqAt.canLay_of_shaped sd) (by have:=Nat.min_le_right (PyData.depthAll ds) d.depth;omega) ⟨.bl _,H,I,rfl,q⟩
theorem op_notInE {X:Cx} (hu:X.A.units+64<cLine):OpR X (compareOp .NotIn) (rInE X.K true):=by
  intro pins s σ H x y v u Q I rx ry h
  obtain ⟨d,ds,hd,he,sd,se,hx,q⟩:=h
  obtain ⟨as,r1⟩:=Dp.reads I d x v hd rx
  obtain ⟨bs,r2⟩:=Dp.reads I (.list ds) y u he ry
  exact SeqAt.notIn_list_reads r2 r1 (SeqAt.canLay_of_shaped se) (SeqAt.canLay_of_shaped sd) (by have:=Nat.min_le_right (PyData.depthAll ds) d.depth;omega) ⟨.bl _,H,I,rfl,q⟩
def inDp (d:D):D→Option Bool
  | .lst es=>(toP d).bind fun p=>(toPs es).bind fun ps=>if SeqAt.shaped p&&(SeqAt.shaped (.list ps)&&decide (p.depth≤63)) then some (ps.any fun z=>PyData.eqv z p) else none
  |_=>none
theorem inDp_ok {K:PySem.W.Frag} (hK:K=G.K) {ρ M:List Addr} {H:Hp} {d e:D} {x y:V} {b:Bool} (t1:RepT G ρ H M d x) (t2:RepT G ρ H M e y) (q:inDp d e=some b):
    ∃ p ps,Dp K H x p∧Dp K H y (.list ps)∧SeqAt.shaped p=true∧SeqAt.shaped (.list ps)=true∧p.depth≤63∧(ps.any fun z=>PyData.eqv z p)=b:=by
  subst hK
  cases e with
  | lst es=>
    simp only [inDp,Option.bind_eq_some_iff] at q
    obtain ⟨p,e1,ps,e2,e3⟩:=q
    split at e3
    · rename_i hs
      simp only [Bool.and_eq_true,decide_eq_true_eq] at hs
      cases e3
      exact ⟨p,ps,t1.dp e1,t2.dp (show toP (.lst es)=some (.list ps) by simp only [toP,e2,Option.map_some]),hs.1,hs.2.1,hs.2.2,rfl⟩
    · cases e3
  |_=>all_goals cases q
def inB:D→D→Option Bool
  | .str x,.str y=>some (!(Builtin.Str.occurrences y x 0 y.length 1).isEmpty)
  | d,e=>match (flatD d).bind fun v=>(itemsD e).bind fun ds=>(flatsD ds).bind fun vs=>some (inV v vs) with
    |some b=>some b
    |none=>inDp d e
def inD (d e:D):Option O:=(inB d e).map fun b=>.fz (.bl b)
def notInD (d e:D):Option O:=(inB d e).map fun b=>.fz (.bl (!b))
theorem RepT.flat {ρ M:List Addr} {H:Hp} {d:D} {v u:V} (r:RepT G ρ H M d v) (e:flatD d=some u):v=u∧flatV u=true:=by
  cases d<;>simp only [flatD,Option.some.injEq,reduceCtorEq] at e<;>subst e<;>exact ⟨r,rfl⟩
theorem o_in (hK:X.K=G.K) (hu:X.A.units+64<cLine):OpR X (compareOp .In) (r2 G inD):=((op_in_str.or op_in_seq).or (op_inE hu)).imp fun x y H Q ⟨ρ,M,h,L,d1,d2,o,cp,t1,t2,e,q⟩=>by
  simp only [inD,Option.map_eq_some_iff] at e
  obtain ⟨b,e1,e2⟩:=e
  subst e2
  unfold inB at e1
  split at e1
  · cases e1
    obtain rfl:=(show x=_ from t1);obtain rfl:=(show y=_ from t2)
    exact .inl (.inl ⟨_,_,rfl,rfl,q _ _ (cp.bl _)⟩)
  · split at e1
    · rename_i b0 hz
      cases e1
      simp only [Option.bind_eq_some_iff,Option.some.injEq] at hz
      obtain ⟨v,f1,ds,f2,vs,f3,f4⟩:=hz
      obtain ⟨rfl,fl⟩:=t1.flat f1
      obtain ⟨a,us,rfl,t,r⟩:=itemsD_of t2 f2
      obtain ⟨rfl,fv⟩:=flatsD_of r f3
      refine .inl (.inr ⟨a,us,rfl,by rw [hK];exact t,fl,fv, ?_⟩)
      have:(if false then !inV x us else inV x us)=b:=by simpa using f4
      rw [this]
      exact q _ _ (cp.bl _)
    · obtain ⟨p,ps,s1,s2,s3,s4,s5,s6⟩:=inDp_ok hK t1 t2 e1
      exact .inr ⟨p,ps,s1,s2,s3,s4,s5,by rw [s6];exact q _ _ (cp.bl _)⟩
theorem o_notIn (hK:X.K=G.K) (hu:X.A.units+64<cLine):OpR X (compareOp .NotIn) (r2 G notInD):=((op_notin_str.or op_notIn_seq).or (op_notInE hu)).imp fun x y H Q ⟨ρ,M,h,L,d1,d2,o,cp,t1,t2,e,q⟩=>by
  simp only [notInD,Option.map_eq_some_iff] at e
  obtain ⟨b,e1,e2⟩:=e
  subst e2
  unfold inB at e1
  split at e1
  · cases e1
    obtain rfl:=(show x=_ from t1);obtain rfl:=(show y=_ from t2)
    exact .inl (.inl ⟨_,_,rfl,rfl,q _ _ (cp.bl _)⟩)
  · split at e1
    · rename_i b0 hz
      cases e1
      simp only [Option.bind_eq_some_iff,Option.some.injEq] at hz
      obtain ⟨v,f1,ds,f2,vs,f3,f4⟩:=hz
      obtain ⟨rfl,fl⟩:=t1.flat f1
      obtain ⟨a,us,rfl,t,r⟩:=itemsD_of t2 f2
      obtain ⟨rfl,fv⟩:=flatsD_of r f3
      refine .inl (.inr ⟨a,us,rfl,by rw [hK];exact t,fl,fv, ?_⟩)
      have:(if true then !inV x us else inV x us)=!b:=by simpa using f4
      rw [this]
      exact q _ _ (cp.bl _)
    · obtain ⟨p,ps,s1,s2,s3,s4,s5,s6⟩:=inDp_ok hK t1 t2 e1
      exact .inr ⟨p,ps,s1,s2,s3,s4,s5,by rw [s6];exact q _ _ (cp.bl _)⟩
def isNon:D→Bool
  | .non=>true
  |_=>false
def isNoneD (d e:D):Option O:=match e with
  | .non=>fB (isNon d)
  |_=>none
theorem non_iff {ρ M:List Addr} {H:Hp} {d:D} {v:V} (r:RepT G ρ H M d v):decide (v= .non)=isNon d:=by
  cases d with
  |non=>obtain rfl:=(show v=_ from r);rfl
  |bl b=>obtain rfl:=(show v=_ from r);rfl
  |int b=>obtain rfl:=(show v=_ from r);rfl
  |str b=>obtain rfl:=(show v=_ from r);rfl
  |ty b=>obtain rfl:=(show v=_ from r);rfl
  |tup ds=>obtain ⟨a,vs,rfl,_⟩:=r;rfl
  |lst ds=>obtain ⟨a,vs,rfl,_⟩:=r;rfl
  |dic ks ds=>obtain ⟨a,vs,rfl,_⟩:=r;rfl
  |ins c fs ds=>obtain ⟨a,C,dx,vs,rfl,_⟩:=r;rfl
  |dct ks ds=>obtain ⟨a,bs,vs,rfl,_⟩:=r;rfl
  |loc n=>obtain ⟨a,rfl,_⟩:=r;rfl
  |fn f=>obtain ⟨a,rfl,_⟩:=r;rfl
  |scr ns=>obtain ⟨a,rfl,_⟩:=r;rfl
  |cls c=>obtain ⟨a,rfl,_⟩:=r;rfl
  |xn c f d=>obtain ⟨a,a',C,v',_,rfl,_⟩:=r;rfl
  |lk o kvs=>obtain ⟨a,rfl,_⟩:=r;rfl
theorem o_isN:OpR X (compareOp .Is) (r2 G isNoneD):=op_isN.imp fun x y H Q ⟨ρ,M,h,L,d1,d2,o,cp,t1,t2,e,q⟩=>by
  unfold isNoneD at e
  split at e
  · cases e
    refine ⟨t2, ?_⟩
    rw [non_iff t1]
    exact q _ _ (cp.bl _)
  · cases e
def atD (d i:D):Option O:=match i with
  | .int i=>match d with
    | .str z=>if fitsB z.length then (atI z.cps.toList i).map fun c=>.fz (.str ⟨#[c]⟩) else none
    |_=>(itemsD d).bind fun ds=>(atI ds i).map .fz
  |_=>none
theorem atI_len {α β:Type} {xs:List α} {ys:List β} {i:Int} {x:α} (l:xs.length=ys.length) (e:atI xs i=some x): ∃ j y,ixN ys.length i=some j∧xs[j]?=some x∧ys[j]?=some y∧atI ys i=some y:=by
  simp only [atI,Option.bind_eq_some_iff] at e
  obtain ⟨j,e1,e2⟩:=e
  have hj:j<ys.length:=by
    rw [←l]
    rcases Nat.lt_or_ge j xs.length with z|z
    · exact z
    · rw [List.getElem?_eq_none z] at e2;cases e2
  refine ⟨j,ys[j],by rw [←l];exact e1,e2,by simp [hj], ?_⟩
  simp only [atI,←l,e1,Option.bind_some]
  simp [hj]
theorem o_at (hK:X.K=G.K):IxR X (r2 G atD):=ix_seq.imp fun x y H Q ⟨ρ,M,h,L,d1,d2,o,cp,t1,t2,e,q⟩=>by
  unfold atD at e
  split at e
  · rename_i i
    obtain rfl:=(show y=_ from t2)
    split at e
    · rename_i z
      split at e
      · rename_i hf
        simp only [Option.map_eq_some_iff] at e
        obtain ⟨c,e1,e2⟩:=e
        subst e2
        obtain rfl:=(show x=_ from t1)
        exact .inr (.inr ⟨z,i,c,rfl,rfl,fits hf,e1,q _ _ (cp.cf.simple rfl)⟩)
      · cases e
    · simp only [Option.bind_eq_some_iff,Option.map_eq_some_iff] at e
      obtain ⟨ds,e1,d,e2,e3⟩:=e
      subst e3
      obtain ⟨a,vs,rfl,t,r⟩:=itemsD_of t1 e1
      obtain ⟨j,v,_,g1,g2,g3⟩:=atI_len r.length e2
      obtain ⟨v',g4,rd⟩:=r.get g1
      rw [g2] at g4
      cases g4
      have fin:=q v H (Cf.fz1.mpr ⟨ρ,M,cp,rd⟩)
      rcases t with t|t
      · exact .inl ⟨a,vs,i,v,rfl,rfl,by rw [hK];exact t,g3,fin⟩
      · exact .inr (.inl ⟨a,vs,i,v,rfl,rfl,by rw [hK];exact t,g3,fin⟩)
  · cases e
end
end Mi
namespace Mi
open PySem PySem.Spec PyProof.Rows L2
section
variable {G:GE} {W:WX} {call:Call} {X:Cx}
abbrev PP (G:GE) (σr:Sr) (Φ:List (R×V)) (Q:Option Int→Hp→Prop):Option Int→S→Prop:=fun i s=> ∀ H,CfS G σr H s Φ→Q i H
abbrev Pt:=Call→S→Out (Option Int)
def tP (G:GE) (W:WX) (call:Call) (m:Pt):TO:=fun σr H Q=> ∃ s Φ,CfS G σr H s Φ∧Aft G W σr Φ (PP G σr Φ Q) (m call s)
def pNone:Pt:=fun _ s=>.ok none s
def pSome (m:E):Pt:=fun call s=>(m call s).bind fun x s1=>match peek s1 x with
  |some (.int i)=>.ok (some i) s1
  |_=>.bad
theorem _root_.L2.PO.of {X:Cx} {e:Option Expr} {t t':TO} (h:PO X e t') (i: ∀ σ H Q,t σ H Q→t' σ H Q):PO X e t:=⟨fun pins s σ H Q I q=>h.run pins s σ H Q I (i σ H Q q)⟩
theorem p_none:PO X none (tP G W call pNone):=po_none.of fun σ H Q h=>by
  obtain ⟨s,Φ,c,a⟩:=h
  exact a H c
theorem p_some {e:Expr} {m:E} (h:PE X e (tE G W call m)):PO X (some e) (tP G W call (pSome m)):=(po_some h).of fun σ H Q h=>by
  obtain ⟨s,Φ,c,a⟩:=h
  refine ⟨s,Φ,c,(Aft.bind a).mono fun x s1 a1=>fun v H1 c1=>?_⟩
  split at a1
  · rename_i i e
    obtain ⟨ρ,M,cp⟩:=c1.parts
    exact ⟨i,c1.peek (by simp) e cp,a1 H1 c1.drop⟩
  · exact a1.elim
def cutD {α:Type} (xs:List α) (lo hi:Option Int):List α:=(xs.drop (HT.sIx xs.length 0 lo)).take (HT.sIx xs.length xs.length hi - HT.sIx xs.length 0 lo)
theorem RepDs.cut {ρ M:List Addr} {H:Hp} {ds:List D} {vs:List V} (r:RepDs G ρ H M ds vs) (lo hi:Option Int):RepDs G ρ H M (cutD ds lo hi) (cutV vs lo hi):=by
  unfold cutD cutV
  rw [r.length]
  exact (r.drop _).take _
def slD (d:D) (lo hi:Option Int):Option O:=match d with
  | .tup ds=>some (.fz (.tup (cutD ds lo hi)))
  |_=>(listD d).map fun ds=>.lst (cutD ds lo hi)
def mSl (m:E) (lo hi:Pt):E:=fun call s=>(m call s).bind fun x s1=>(lo call s1).bind fun l s2=>(hi call s2).bind fun u s3=>lift s3 ((peek s3 x).bind fun d=>(slD d l u).map R.own)
def rS (G:GE):V→Option Int→Option Int→Hp→VK→Prop:=fun x lo hi H Q=> ∃ ρ M h L d o,Cp G ρ H M h L∧RepT G ρ H M d x∧slD d lo hi=some o∧∀ v H',Cf G H' h ((o,v)::L)→Q v H'
theorem e_sl {e:Expr} {lo hi:Option Expr} {m:E} {ml mh:Pt} {p2 pos:Pos} (ho:SlR X (rS G)) (he:PE X e (tE G W call m)) (hl:PO X lo (tP G W call ml)) (hh:PO X hi (tP G W call mh)):PE X (.Subscript e (.Slice lo hi none p2) pos) (tE G W call (mSl m ml mh)):=by
  refine (pe_slice ho he hl hh).of fun σ H Q h=>?_
  obtain ⟨s,Φ,c,h⟩:=h
  refine ⟨s,Φ,c,(Aft.bind h).mono fun x s1 h1=>fun v1 H1 c1=>⟨s1,_,c1,((Aft.bind h1).frame1).mono fun l s2 h2=>fun H2 c2=>⟨s2,_,c2,((Aft.bind h2).frame1).mono fun u s3 h3=>fun H3 c3=>?_⟩⟩⟩
  obtain ⟨z,e,q⟩:=Aft.lift h3
  simp only [Option.bind_eq_some_iff,Option.map_eq_some_iff] at e
  obtain ⟨d,e1,o,eo,ey⟩:=e
  subst ey
  obtain ⟨ρ,M,cp⟩:=c3.parts
  exact ⟨ρ,M,_,_,d,o,cp,c3.peek (by simp) e1 cp,eo,fun w H4 c4=>q w H4 (CfS.more (K:=[(x,v1)]) c3 c4)⟩
theorem sl_tupB:SlR X (fun x lo hi H Q=> ∃ a xs,x= .ref a∧SqT X.K H a xs∧(HT.sIx xs.length 0 lo=0∧HT.sIx xs.length xs.length hi=xs.length→Q (.ref a) H)∧
    (¬(HT.sIx xs.length 0 lo=0∧HT.sIx xs.length xs.length hi=xs.length)→∀ p ob,ob.dict=none→H p=none→Q (.ref p) (upd H p (.frz ob (.tup (cutV xs lo hi)))))):=by
  intro pins s σ H x v vl vu lo hi sl Q I rx hs pl pu h
  obtain ⟨a,xs,rfl,hx,q1,q2⟩:=h
  cases rx
  obtain ⟨its,r,ht,hz⟩:=I.tuple hx
  have hlen:its.toArray.size=xs.length:=by rw [List.size_toArray];exact r.length.symm
  refine ⟨"tuple",_,PyProof.Rows.slot_tuple_getitem.lookup,ht.typeIs, ?_⟩
  by_cases hw:HT.sIx xs.length 0 lo=0∧HT.sIx xs.length xs.length hi=xs.length
  · exact getItem_tuple_whole ht hs pl pu (by rw [hlen];exact hw) ⟨.ref a,H,I,rfl,q1 hw⟩
  · refine HT.getItem_tuple_cut ht hs pl pu (by rw [hlen];exact hw) ?_ (by rw [hlen];exact hz)
    rw [hlen]
    refine ⟨.ref s.heap.objs.size,_,I.laid (t':=s.toks) (o:=.frz {cls:=.type "tuple",data:=.seq (List.take (HT.sIx xs.length xs.length hi - HT.sIx xs.length 0 lo) (List.drop (HT.sIx xs.length 0 lo) its.toArray.toList)).toArray} (.tup (cutV xs lo hi))) (fun b ob q=>Heap.get?_push_of_some _ q) (Nat.le_refl _) ?_,rfl,q2 hw _ _ rfl (I.hok.fresh (Nat.le_refl _))⟩
    exact ⟨Heap.get?_push_size _ rfl,Nat.le_trans (cutV_length xs lo hi) hz,_,(r.drop (HT.sIx xs.length 0 lo)).take (HT.sIx xs.length xs.length hi - HT.sIx xs.length 0 lo),IsTup.new _ _⟩
theorem o_sl (hK:X.K=G.K):SlR X (rS G):=fun pins s σ H x v vl vu lo hi sl Q I rx hs pl pu ⟨ρ,M,h,L,d,o,cp,t,e,q⟩=>by
  unfold slD at e
  split at e
  · rename_i ds
    cases e
    obtain ⟨a,vs,rfl,t,r⟩:=t
    have whole:HT.sIx vs.length 0 lo=0∧HT.sIx vs.length vs.length hi=vs.length→Q (.ref a) H:=fun z=>by
      have e0:cutD ds lo hi=ds:=by
        unfold cutD
        rw [r.length,z.1,z.2,Nat.sub_zero,List.drop_zero,←r.length,List.take_length]
      rw [e0] at q
      exact q _ _ (cp.tupF t r)
    cases hb:G.bare with
    |false=>exact sl_tupA pins s σ H _ v vl vu lo hi sl Q I rx hs pl pu ⟨a,vs,rfl,by rw [hK];exact t.sq,whole,fun _ p hp=>q _ _ (cp.tupNew (r.cut lo hi) hp ⟨hb,rfl⟩)⟩
    |true=>exact sl_tupB pins s σ H _ v vl vu lo hi sl Q I rx hs pl pu ⟨a,vs,rfl,by rw [hK];exact t.sq,whole,fun _ p ob ho hp=>q _ _ (cp.tupNew (r.cut lo hi) hp ⟨rfl,fun _=>ho⟩)⟩
  · simp only [Option.map_eq_some_iff] at e
    obtain ⟨ds,e1,e2⟩:=e
    subst e2
    obtain ⟨a,vs,rfl,t,r⟩:=listD_of t e1
    exact sl_list pins s σ H _ v vl vu lo hi sl Q I rx hs pl pu ⟨a,vs,rfl,by rw [hK];exact t,fun p hp=>q _ _ (cp.lstNew (r.cut lo hi) hp)⟩
def lenD:List D→Option O
  |[.str x]=>if fitsB x.length then fI x.length else none
  |[d]=>(itemsD d).bind fun ds=>fI ds.length
  |_=>none
theorem RepTs.one {ρ M:List Addr} {H:Hp} {d:D} {vs:List V} (r:RepTs G ρ H M [d] vs): ∃ v,vs=[v]∧RepT G ρ H M d v:=by
  obtain ⟨v,r',e,h1,h2⟩:=r
  exact ⟨v,by rw [e,show r'=[] from h2],h1⟩
theorem RepTs.two {ρ M:List Addr} {H:Hp} {d d':D} {vs:List V} (r:RepTs G ρ H M [d,d'] vs): ∃ v v',vs=[v,v']∧RepT G ρ H M d v∧RepT G ρ H M d' v':=by
  obtain ⟨v,r',e,h1,h2⟩:=r
  obtain ⟨v',e2,h3⟩:=RepTs.one h2
  exact ⟨v,v',by rw [e,e2],h1,h3⟩
theorem b_len (hK:X.K=G.K):CallR X (.builtin "len") (rN G lenD):=call_len.imp fun vs H Q ⟨ρ,M,h,L,ds,o,cp,t,e,q⟩=>by
  unfold lenD at e
  split at e
  · rename_i x
    split at e
    · rename_i hf
      cases e
      obtain ⟨v,rfl,r⟩:=t.one
      obtain rfl:=(show v=_ from r)
      exact ⟨_,x.length,rfl,⟨fits hf,rfl⟩,q _ _ (cp.int _)⟩
    · cases e
  · rename_i d _
    simp only [Option.bind_eq_some_iff] at e
    obtain ⟨ds,e1,e2⟩:=e
    cases e2
    obtain ⟨v,rfl,r⟩:=t.one
    obtain ⟨a,us,rfl,t,r⟩:=itemsD_of r e1
    refine ⟨_,us.length,rfl, ?_,by rw [←r.length];exact q _ _ (cp.int _)⟩
    rw [hK]
    rcases t with t|t
    · exact .inl ⟨us,t,rfl⟩
    · exact .inr ⟨us,t,rfl⟩
  · cases e
def absD:List D→Option O
  |[.int i]=>fI (if i<0 then -i else i)
  |_=>none
theorem b_abs:CallR X (.builtin "abs") (rN G absD):=call_abs.imp fun vs H Q ⟨ρ,M,h,L,ds,o,cp,t,e,q⟩=>by
  unfold absD at e
  split at e
  · rename_i i
    cases e
    obtain ⟨v,rfl,r⟩:=t.one
    obtain rfl:=(show v=_ from r)
    exact ⟨i,rfl,q _ _ (cp.int _)⟩
  · cases e
def maxD:List D→Option O
  |[.int i,.int j]=>fI (if j>i then j else i)
  |_=>none
def minD:List D→Option O
  |[.int i,.int j]=>fI (if j<i then j else i)
  |_=>none
theorem b_max (hc:X.calm=true):CallR X (.builtin "max") (rN G maxD):=(call_max2 hc).imp fun vs H Q ⟨ρ,M,h,L,ds,o,cp,t,e,q⟩=>by
  unfold maxD at e
  split at e
  · rename_i i j
    cases e
    obtain ⟨v,v',rfl,r,r'⟩:=t.two
    obtain rfl:=(show v=_ from r);obtain rfl:=(show v'=_ from r')
    exact ⟨i,j,rfl,q _ _ (cp.int _)⟩
  · cases e
theorem b_min (hc:X.calm=true):CallR X (.builtin "min") (rN G minD):=(call_min2 hc).imp fun vs H Q ⟨ρ,M,h,L,ds,o,cp,t,e,q⟩=>by
  unfold minD at e
  split at e
  · rename_i i j
    cases e
    obtain ⟨v,v',rfl,r,r'⟩:=t.two
    obtain rfl:=(show v=_ from r);obtain rfl:=(show v'=_ from r')
    exact ⟨i,j,rfl,q _ _ (cp.int _)⟩
  · cases e
def intsD:List D→Option (List Int)
  |[]=>some []
  | .int i::ds=>(intsD ds).map (i:: ·)
  |_=>none
theorem intsD_of {ρ M:List Addr} {H:Hp}: ∀ {ds:List D} {vs:List V} {ns:List Int},RepDs G ρ H M ds vs→intsD ds=some ns→vs=ns.map V.int
  |[],vs,ns,r,e=>by simp only [intsD,Option.some.injEq] at e;subst e;exact r
  | d ::ds,vs,ns,r,e=>by
    cases d with
    | int i=>
      simp only [intsD,Option.map_eq_some_iff] at e
      obtain ⟨ns',e1,e2⟩:=e
      subst e2
      obtain ⟨w,r',e4,h1,h2⟩:=r
      subst e4
      rw [intsD_of h2 e1,show w=_ from h1];rfl
    |_=>simp [intsD] at e
def sumD:List D→Option O
  |[d]=>(listD d).bind fun ds=>(intsD ds).bind fun ns=>fI ns.sum
  |_=>none
theorem b_sum (hK:X.K=G.K) (hc:X.calm=true):CallR X (.builtin "sum") (rN G sumD):=(cr_sum hc).imp fun vs H Q ⟨ρ,M,h,L,ds,o,cp,t,e,q⟩=>by
  unfold sumD at e
  split at e
  · rename_i d
    simp only [Option.bind_eq_some_iff] at e
    obtain ⟨ds,e1,ns,e2,e3⟩:=e
    cases e3
    obtain ⟨v,rfl,r⟩:=t.one
    obtain ⟨a,us,rfl,t,r⟩:=listD_of r e1
    have:=intsD_of r e2
    subst this
    exact ⟨a,ns,rfl,by rw [hK];exact t,q _ _ (cp.int _)⟩
  · cases e
def boolsD:List D→Option (List Bool)
  |[]=>some []
  | .bl i::ds=>(boolsD ds).map (i:: ·)
  |_=>none
def allD:List D→Option O
  |[d]=>(listD d).bind fun ds=>(boolsD ds).bind fun ns=>fB (ns.all id)
  |_=>none
def intD:List D→Option O
  |[.int i]=>fI i
  |[.bl k]=>fI (if k then 1 else 0)
  |_=>none
theorem b_int:CallR X (.type "int") (rN G intD):=call_int1.imp fun vs H Q ⟨ρ,M,h,L,ds,o,cp,t,e,q⟩=>by
  unfold intD at e
  split at e
  · rename_i i
    cases e
    obtain ⟨v,rfl,r⟩:=t.one
    obtain rfl:=(show v=_ from r)
    exact .inl ⟨i,rfl,q _ _ (cp.int _)⟩
  · rename_i i
    cases e
    obtain ⟨v,rfl,r⟩:=t.one
    obtain rfl:=(show v=_ from r)
    exact .inr ⟨i,rfl,q _ _ (cp.int _)⟩
  · cases e
def listOfD:List D→Option O
  |[d]=>(itemsD d).map .lst
  |_=>none
def tupleOfD:List D→Option O
  |[d]=>(itemsD d).map fun ds=>.fz (.tup ds)
  |_=>none
theorem call_tuple_B:CallR X (.type "tuple") (fun xs H Q=> ∃ p ys,xs=[.ref p]∧SqL X.K H p ys∧∀ l ob,ob.dict=none→H l=none→Q (.ref l) (upd H l (.frz ob (.tup ys)))):=by
  intro pins s σ H xs us Q I r h
  obtain ⟨p,ys,rfl,hq,q⟩:=h
  obtain ⟨u,rfl,rx⟩:=r.one
  cases rx
  obtain ⟨its,r',pl,hz⟩:=I.list hq
  have hlen:=r'.length
  refine call_tuple_list pl.isList (fun h' kp=>?_) (by simp only [List.size_toArray]<;>omega)
  have I1:Inv X pins σ H {s with heap:=h'}:=I.kept (t':=s.toks) kp
  have I2:Inv X pins σ (upd H h'.objs.size (.frz {cls:=.type "tuple",data:=.seq its.toArray} (.tup ys))) {s with heap:=h'.push {cls:=.type "tuple",data:=.seq its.toArray}}:=
    I1.laid (t':=s.toks) (fun b o e=>Heap.get?_push_of_some _ e) (Nat.le_refl _) ⟨Heap.get?_push_size _ rfl,hz,its,r',IsTup.new _ _⟩
  exact ⟨.ref h'.objs.size,_,I2,rfl,q _ _ rfl (I1.hok.fresh (Nat.le_refl _))⟩
theorem b_tuple (hK:X.K=G.K):CallR X (.type "tuple") (rN G tupleOfD):=(call_tuple_of.or call_tuple_B).imp fun vs H Q ⟨ρ,M,h,L,ds,o,cp,t,e,q⟩=>by
  unfold tupleOfD at e
  split at e
  · rename_i d
    simp only [Option.map_eq_some_iff] at e
    obtain ⟨ds,e1,e2⟩:=e
    subst e2
    obtain ⟨v,rfl,r⟩:=t.one
    cases d with
    |tup ds'=>cases e1;obtain ⟨a,us,rfl,t,r⟩:=r;exact .inl ⟨a,us,rfl,.inr ⟨by rw [hK];exact t.sq,q _ _ (cp.tupF t r)⟩⟩
    | lst ds'=>
      have e2:listD (.lst ds')=some ds:=e1
      obtain ⟨a,us,rfl,t,r⟩:=listD_of r e2
      cases hb:G.bare with
      |false=>exact .inl ⟨a,us,rfl,.inl ⟨by rw [hK];exact t,fun p hp=>q _ _ (cp.tupNew r hp ⟨hb,rfl⟩)⟩⟩
      |true=>exact .inr ⟨a,us,rfl,by rw [hK];exact t,fun p ob ho hp=>q _ _ (cp.tupNew r hp ⟨rfl,fun _=>ho⟩)⟩
    | scr ns=>
      have e2:listD (.scr ns)=some ds:=e1
      obtain ⟨a,us,rfl,t,r⟩:=listD_of r e2
      cases hb:G.bare with
      |false=>exact .inl ⟨a,us,rfl,.inl ⟨by rw [hK];exact t,fun p hp=>q _ _ (cp.tupNew r hp ⟨hb,rfl⟩)⟩⟩
      |true=>exact .inr ⟨a,us,rfl,by rw [hK];exact t,fun p ob ho hp=>q _ _ (cp.tupNew r hp ⟨rfl,fun _=>ho⟩)⟩
    |_=>cases e1
  · cases e
def tyD:D→Option String
  | .non=>some "NoneType"| .bl _=>some "bool"| .int _=>some "int"| .str _=>some "str"
  | .tup _=>some "tuple"| .lst _=>some "list"| .scr _=>some "list"| .dic _ _=>some "dict"
  |_=>none
theorem tyD_of {ρ M:List Addr} {H:Hp} {d:D} {v:V} {n:String} (r:RepT G ρ H M d v) (e:tyD d=some n):TyX G.K H v (.type n):=by
  cases d with
  |non=>cases e;obtain rfl:=(show v=_ from r);exact .base .non
  |bl b=>cases e;obtain rfl:=(show v=_ from r);exact .base (.bl b)
  |int b=>cases e;obtain rfl:=(show v=_ from r);exact .base (.int b)
  |str b=>cases e;obtain rfl:=(show v=_ from r);exact .base (.str b)
  | tup ds=>
    cases e
    obtain ⟨a,vs,rfl,t,_⟩:=r
    rcases t.sq with (t|⟨o,t⟩)|⟨o,its,n,l,c,_⟩
    · exact .base (.tup t)
    · exact .fTuple t
    · exact .kTuple l c
  |lst ds=>cases e;obtain ⟨a,vs,rfl,t,_⟩:=r;exact .base (.lst t)
  | scr ns=>
    cases e
    obtain ⟨a,rfl,t⟩:=r
    rcases t with (t|⟨o,t⟩)|⟨o,its,n,l,c,_⟩
    · exact .base (.lst t)
    · exact .base (.frz t)
    · exact .kList l c
  | dic ks ds=>
    cases e
    obtain ⟨a,vs,rfl,t,_⟩:=r
    rcases t with t|⟨o,t⟩
    · exact .base (.dK t)
    · exact .fDict t
  |_=>cases e
def isiB (d c:D):Option Bool:=match c with
  | .ty n=>(tyD d).bind fun m=>kitB m n
  |_=>none
def isiD:List D→Option O
  |[d,c]=>(isiB d c).map fun b=>.fz (.bl b)
  |_=>none
theorem b_isi (hK:X.K=G.K):CallR X (.builtin "isinstance") (rN G isiD):=call_isi.imp fun vs H Q ⟨ρ,M,h,L,ds,o,cp,t,e,q⟩=>by
  unfold isiD at e
  split at e
  · rename_i d c
    simp only [Option.map_eq_some_iff] at e
    obtain ⟨b,e1,e2⟩:=e
    subst e2
    unfold isiB at e1
    split at e1
    · rename_i n
      simp only [Option.bind_eq_some_iff] at e1
      obtain ⟨m,e2,e3⟩:=e1
      obtain ⟨v,v',rfl,r,r'⟩:=t.two
      obtain rfl:=(show v'=_ from r')
      exact ⟨v,_,_,_,b,rfl,.ty n,by rw [hK];exact tyD_of r e2,kit_ty e3,q _ _ (cp.bl _)⟩
    · cases e1
  · cases e
end
end Mi
namespace Mi
open PySem PySem.Spec PyProof.Rows L2
def pr (σ:List (Option O)) (σr:Sr) (i:Nat):List (O×V):=match σ[i]?,σr[i]? with
  |some (some o),some (some v)=>[(o,v)]
  |_,_=>[]
theorem slp_eq: ∀ {σ:List (Option O)} {σr:Sr},σ.length=σr.length→slp σ σr=(List.range σ.length).flatMap (pr σ σr)
  |[],[],_=>rfl
  | a::σ,b::σr,l=>by
    have ih:=slp_eq (σ:=σ) (σr:=σr) (by simpa using l)
    rw [List.length_cons,List.range_succ_eq_map,List.flatMap_cons,List.flatMap_map]
    have e:(fun i=>pr (a::σ) (b::σr) (Nat.succ i))=pr σ σr:=by funext i;simp [pr]
    rw [e,←ih]
    cases a<;>cases b<;>simp [slp,pr]
  |[],_::_,l=>by simp at l
  |_::_,[],l=>by simp at l
theorem perm_part {α:Type} (p:Nat→Bool) (f:Nat→List α): ∀ l:List Nat,(l.flatMap f).Perm ((l.filter fun i=>!p i).flatMap f++(l.filter p).flatMap f)
  |[]=>.refl _
  | x ::l=>by
    have ih:=perm_part p f l
    cases hx:p x with
    | false=>
      simp only [List.flatMap_cons,List.filter_cons,hx,Bool.not_false,if_true,Bool.false_eq_true,if_false,List.append_assoc]
      exact ih.append_left _
    | true=>
      simp only [List.flatMap_cons,List.filter_cons,hx,Bool.not_true,if_true,Bool.false_eq_true,if_false]
      refine (ih.append_left (f x)).trans ?_
      rw [←List.append_assoc,←List.append_assoc]
      exact List.perm_append_comm.append_right _
theorem flatMap_nil {α:Type} {f:Nat→List α}: ∀ {l:List Nat},(∀ i∈l,f i=[])→l.flatMap f=[]
  |[],_=>rfl
  |x::l,h=>by rw [List.flatMap_cons,h x (by simp),flatMap_nil fun i hi=>h i (by simp [hi])];rfl
theorem flatMap_congr' {α:Type} {f g:Nat→List α}: ∀ {l:List Nat},(∀ i∈l,f i=g i)→l.flatMap f=l.flatMap g
  |[],_=>rfl
  |x::l,h=>by rw [List.flatMap_cons,List.flatMap_cons,h x (by simp),flatMap_congr' fun i hi=>h i (by simp [hi])]
def wipeO (σ:List (Option O)):List Nat→List (Option O)
  |[]=>σ
  |v::vs=>(wipeO σ vs).set v none
def rst (τ σ:List (Option O)):List Nat→List (Option O)
  |[]=>τ
  |v::vs=>(rst τ σ vs).set v ((σ[v]?).getD none)
theorem wipeO_len (σ:List (Option O)): ∀ vs,(wipeO σ vs).length=σ.length
  |[]=>rfl
  |v::vs=>by rw [wipeO,List.length_set,wipeO_len σ vs]
theorem rst_len (τ σ:List (Option O)): ∀ vs,(rst τ σ vs).length=τ.length
  |[]=>rfl
  |v::vs=>by rw [rst,List.length_set,rst_len τ σ vs]
theorem wipeO_in {σ:List (Option O)} {i:Nat}: ∀ {vs:List Nat},i∈vs→∀ o,(wipeO σ vs)[i]?≠some (some o)
  | v ::vs,h,o=>by
    rw [wipeO]
    by_cases e:v=i
    · subst e
      rw [List.getElem?_set]
      split
      · split<;>simp
      · intro h2;contradiction
    · rw [List.getElem?_set_ne e]
      exact wipeO_in (by rcases List.mem_cons.mp h with z|z;exact absurd z.symm e;exact z) o
theorem wipeO_out {σ:List (Option O)} {i:Nat}: ∀ {vs:List Nat},i∉vs→(wipeO σ vs)[i]?=σ[i]?
  |[],_=>rfl
  | v::vs,h=>by
    rw [wipeO,List.getElem?_set_ne (fun z=>h (by simp [z]))]
    exact wipeO_out fun z=>h (by simp [z])
theorem wipe_out {σ:Sr} {i:Nat}: ∀ {vs:List Nat},i∉vs→(wipe σ vs)[i]?=σ[i]?
  |[],_=>rfl
  | v::vs,h=>by
    rw [wipe,List.getElem?_set_ne (fun z=>h (by simp [z]))]
    exact wipe_out fun z=>h (by simp [z])
theorem wipe_in {σ:Sr} {i:Nat} {vs:List Nat} (h:i∈vs) (v:V):(wipe σ vs)[i]?≠some (some v):=fun z=>(wipe_some z).2 h
theorem rst_out {τ σ:List (Option O)} {i:Nat}: ∀ {vs:List Nat},i∉vs→(rst τ σ vs)[i]?=τ[i]?
  |[],_=>rfl
  | v::vs,h=>by
    rw [rst,List.getElem?_set_ne (fun z=>h (by simp [z]))]
    exact rst_out fun z=>h (by simp [z])
theorem rst_in {τ σ:List (Option O)} (l:τ.length=σ.length) {i:Nat}: ∀ {vs:List Nat},i∈vs→(rst τ σ vs)[i]?=σ[i]?
  | v ::vs,h=>by
    rw [rst]
    by_cases e:v=i
    · subst e
      rw [List.getElem?_set]
      simp only [if_true,rst_len,l]
      by_cases hv:v<σ.length
      · rw [if_pos hv];simp [hv]
      · rw [if_neg hv,List.getElem?_eq_none (by omega)]
    · rw [List.getElem?_set_ne e]
      exact rst_in l (by rcases List.mem_cons.mp h with z|z;exact absurd z.symm e;exact z)
theorem slp_wipe {σ:List (Option O)} {σr:Sr} (ok:SlOk σ σr) (vs:List Nat): ∃ Z,(slp σ σr).Perm (slp (wipeO σ vs) (wipe σr vs)++Z)∧SlOk (wipeO σ vs) (wipe σr vs)∧
    ∀ τ,SlOk τ (wipe σr vs)→(slp (rst τ σ vs) σr).Perm (slp τ (wipe σr vs)++Z)∧SlOk (rst τ σ vs) σr:=by
  refine ⟨((List.range σ.length).filter fun i=>decide (i∈vs)).flatMap (pr σ σr), ?_,⟨by rw [wipeO_len,wipe_length,ok.len],fun i o q=>?_⟩,fun τ okt=>?_⟩
  · rw [slp_eq ok.len,slp_eq (by rw [wipeO_len,wipe_length,ok.len]),wipeO_len]
    refine (perm_part (fun i=>decide (i∈vs)) (pr σ σr) _).trans ?_
    refine List.Perm.append_right _ ?_
    refine List.Perm.trans ?_ (perm_part (fun i=>decide (i∈vs)) (pr (wipeO σ vs) (wipe σr vs)) _).symm
    rw [flatMap_nil (l:=(List.range σ.length).filter fun i=>decide (i∈vs)) fun i hi=>?_,List.append_nil]
    · rw [flatMap_congr' fun i hi=>?_]
      have hi':i∉vs:=by simpa using (List.mem_filter.mp hi).2
      simp only [pr]
      rw [wipeO_out hi',wipe_out hi']
    · have hi':i∈vs:=by simpa using (List.mem_filter.mp hi).2
      simp only [pr]
      split
      · rename_i o v e1 e2
        exact absurd e1 (wipeO_in hi' o)
      · rfl
  · by_cases hi:i∈vs
    · exact absurd q (wipeO_in hi o)
    · rw [wipeO_out hi] at q
      rw [wipe_out hi]
      exact ok.at_ i o q
  · have lt:τ.length=σ.length:=by rw [okt.len,wipe_length,ok.len]
    have okr:SlOk (rst τ σ vs) σr:=⟨by rw [rst_len,lt,ok.len],fun i o q=>by
      by_cases hi:i∈vs
      · rw [rst_in lt hi] at q
        exact ok.at_ i o q
      · rw [rst_out hi] at q
        have:=okt.at_ i o q
        rw [wipe_out hi] at this
        exact this⟩
    refine ⟨?_,okr⟩
    rw [slp_eq okr.len,slp_eq okt.len,rst_len,lt]
    refine (perm_part (fun i=>decide (i∈vs)) (pr (rst τ σ vs) σr) _).trans ?_
    refine (List.Perm.append_right _ ?_).trans (List.Perm.append_left _ ?_)
    · refine List.Perm.trans ?_ (perm_part (fun i=>decide (i∈vs)) (pr τ (wipe σr vs)) _).symm
      rw [flatMap_nil (l:=(List.range σ.length).filter fun i=>decide (i∈vs)) (f:=pr τ (wipe σr vs)) fun i hi=>?_,List.append_nil]
      · rw [flatMap_congr' fun i hi=>?_]
        have hi':i∉vs:=by simpa using (List.mem_filter.mp hi).2
        simp only [pr]
        rw [rst_out hi',wipe_out hi']
      · have hi':i∈vs:=by simpa using (List.mem_filter.mp hi).2
        simp only [pr]
        split
        · rename_i o v e1 e2
          exact absurd e2 (wipe_in hi' v)
        · rfl
    · rw [flatMap_congr' fun i hi=>?_]
      have hi':i∈vs:=by simpa using (List.mem_filter.mp hi).2
      simp only [pr]
      rw [rst_in lt hi']
def NoB (Φ:List (R×V)):Prop:= ∀ i v,(R.bor i,v)∉Φ
def AftS (G:GE) (W:WX) (Φ:List (R×V)) (D:Ends):Fl→Prop
  | .nx s=> ∀ σr H,CfS G σr H s Φ→D.nx σr H
  | .rt o s=> ∀ σr v H,CfS G σr H s ((.own o,v)::Φ)→D.rt v H
  | .bk s=> ∀ σr H,CfS G σr H s Φ→D.bk σr H
  | .ct s=> ∀ σr H,CfS G σr H s Φ→D.ct σr H
  | .exc c d s=> ∀ σr cls dx H,ExR G σr H s Φ c d cls dx→W cls dx σr H
  | .bad=>False
def tS (G:GE) (W:WX) (call:Call) (m:C):TS:=fun D σr H=> ∃ s Φ,NoB Φ∧CfS G σr H s Φ∧AftS G W Φ D (m call s)
theorem _root_.L2.PS.of {X:Cx} {st:Stmt} {t t':TS} (h:PS X st t') (i: ∀ D σ H,t D σ H→t' D σ H):PS X st t:=⟨fun pins s σ H D I q=>h.run pins s σ H D I (i D σ H q)⟩
theorem _root_.L2.PSs.of {X:Cx} {st:List Stmt} {t t':TS} (h:PSs X st t') (i: ∀ D σ H,t D σ H→t' D σ H):PSs X st t:=⟨fun pins s σ H D I q=>h.run pins s σ H D I (i D σ H q)⟩
section
variable {G:GE} {k:Nat} {call:Call} {cc:CC} {W:WX} {X:Cx}
theorem AftS.flow {α:Type} {Φ:List (R×V)} {D:Ends} {σr:Sr} {x:Out α} {f:α→S→Fl} (a:AftS G W Φ D (x.flow f)):Aft G W σr Φ (fun y s=>AftS G W Φ D (f y s)) x:=by
  cases x with
  |ok y s=>exact a
  |exc c d s=>exact fun cls dx H q=>a σr cls dx H q
  |bad=>exact a
def Fl.then (x:Fl) (f:S→Fl):Fl:=match x with
  | .nx s=>f s
  |y=>y
def cNil:C:=fun _ s=>.nx s
def cSeq (a b:C):C:=fun call s=>(a call s).then fun s1=>b call s1
theorem s_nil:PSs X [] (tS G W call cNil):=pss_nil.of fun D σ H q=>by
  obtain ⟨s,Φ,nb,c,a⟩:=q
  exact a σ H c
theorem s_cons {st:Stmt} {r:List Stmt} {a b:C} (h1:PS X st (tS G W call a)) (h2:PSs X r (tS G W call b)):PSs X (st::r) (tS G W call (cSeq a b)):=by
  refine (pss_cons h1 h2).of fun D σ H q=>?_
  obtain ⟨s,Φ,nb,c,q⟩:=q
  refine ⟨s,Φ,nb,c, ?_⟩
  unfold cSeq at q
  cases e:a call s with
  |nx s1=>rw [e] at q;exact fun σ1 H1 c1=>⟨s1,Φ,nb,c1,q⟩
  |rt o s1=>rw [e] at q;exact q
  |bk s1=>rw [e] at q;exact q
  |ct s1=>rw [e] at q;exact q
  |exc cn d s1=>rw [e] at q;exact q
  |bad=>rw [e] at q;exact q
def cIf (c:B) (a b:C):C:=fun call s=>(c call s).flow fun x s1=>if x then a call s1 else b call s1
theorem s_if {c:Expr} {a b:List Stmt} {mc:B} {ma mb:C} {pos:Pos} (hc:PT X c (tB_ G W call mc)) (ha:PSs X a (tS G W call ma)) (hb:PSs X b (tS G W call mb)):PS X (.If c a b pos) (tS G W call (cIf mc ma mb)):=by
  refine (ps_if hc ha hb).of fun D σ H q=>?_
  obtain ⟨s,Φ,nb,c,q⟩:=q
  refine ⟨s,Φ,c,(AftS.flow q).mono fun x s1 a1=>fun H1 c1=>?_⟩
  cases x with
  |true=>exact iteT ⟨s1,Φ,nb,c1,a1⟩
  |false=>exact iteF ⟨s1,Φ,nb,c1,a1⟩
def give (s:S):R→Option (O×S)
  | .own o=>some (o,s)
  | .bor i=>match s.σ[i]? with
    |some (some o)=>some (o,⟨s.σ.set i none,s.h⟩)
    |_=>none
theorem slp_out: ∀ {σ:List (Option O)} {σr:Sr} {i:Nat} {o:O} {v:V},σ[i]?=some (some o)→σr[i]?=some (some v)→(slp σ σr).Perm ((o,v)::slp (σ.set i none) σr)
  |[],_,_,_,_,e,_=>by simp at e
  |_::_,[],_,_,_,_,e=>by simp at e
  | a::σ,b::σr,0,o,v,e1,e2=>by
    simp at e1 e2
    subst e1;subst e2
    exact .refl _
  | a ::σ,b::σr,i+1,o,v,e1,e2=>by
    have ih:=slp_out (σ:=σ) (σr:=σr) (i:=i) (o:=o) (v:=v) (by simpa using e1) (by simpa using e2)
    cases a with
    |none=>exact ih
    | some a=>
      cases b with
      |none=>exact ih
      |some b=>exact (ih.cons (a,b)).trans (.swap _ _ _)
theorem CfS.give {σr:Sr} {H:Hp} {s s':S} {Φ:List (R×V)} {r:R} {v:V} {o:O} (c:CfS G σr H s ((r,v)::Φ)) (e:give s r=some (o,s')):CfS G σr H s' ((.own o,v)::Φ):=by
  cases r with
  | own o'=>
    simp only [Mi.give,Option.some.injEq,Prod.mk.injEq] at e
    obtain ⟨e1,e2⟩:=e
    subst e1;subst e2
    exact c
  | bor i =>
    simp only [Mi.give] at e
    have ev:σr[i]?=some (some v):=c.bo i v (by simp)
    split at e
    · rename_i o' eo
      simp only [Option.some.injEq,Prod.mk.injEq] at e
      obtain ⟨e1,e2⟩:=e
      subst e1;subst e2
      refine ⟨⟨by simp [c.sl.len],fun j o2 q=>?_⟩,fun j w q=>?_, ?_⟩
      · by_cases hj:i=j
        · subst hj
          rw [List.getElem?_set] at q
          simp at q
        · exact c.sl.at_ j o2 (by simpa [List.getElem?_set,hj] using q)
      · rcases List.mem_cons.mp q with q|q
        · cases q
        · exact c.bo j w (List.mem_cons_of_mem _ q)
      · have cf:Cf G H s.h (slp s.σ σr++ow Φ):=c.cf
        refine cf.perm ?_
        refine ((slp_out eo ev).append_right _).trans ?_
        exact List.perm_middle.symm
    · cases e
def cRet (m:E):C:=fun call s=>(m call s).flow fun x s1=>match Mi.give s1 x with
  |some (o,s2)=>.rt o s2
  |none=>.bad
theorem s_ret {e:Expr} {m:E} {pos:Pos} (h:PE X e (tE G W call m)):PS X (.Return (some e) pos) (tS G W call (cRet m)):=by
  refine (ps_ret h).of fun D σ H q=>?_
  obtain ⟨s,Φ,nb,c,q⟩:=q
  refine ⟨s,Φ,c,(AftS.flow q).mono fun x s1 a1=>fun v H1 c1=>?_⟩
  split at a1
  · rename_i o s2 e2
    exact a1 σ v H1 (c1.give e2)
  · exact a1.elim
def noComp:Expr→Bool
  | .ListComp .. =>false| .SetComp .. =>false| .DictComp .. =>false|_=>true
theorem noComp_sw {e:Expr} {t:Option Expr} {l:Nat} {env:Env} (h:noComp e=true):swapsWith e t l env=pure false:=by
  cases e<;>first|rfl|cases h
theorem sw_sub {e x i:Expr} {p:Pos} {l:Nat} {env:Env}:swapsWith e (some (.Subscript x i p)) l env=pure false:=by cases e<;>rfl
theorem sw_att {e x:Expr} {a:Str} {p:Pos} {l:Nat} {env:Env}:swapsWith e (some (.Attribute x a p)) l env=pure false:=by cases e<;>rfl
def cExpr (m:E):C:=fun call s=>(m call s).flow fun _ s1=>.nx s1
end
end Mi
namespace Mi
open PySem PySem.Spec PyProof.Rows L2
abbrev Tg:=O→S→Option S
abbrev Tgs:=List D→S→Option S
def tG (G:GE) (g:Tg):TG:=fun v σr H Q=> ∃ s Φ o s',NoB Φ∧CfS G σr H s ((.own o,v)::Φ)∧g o s=some s'∧∀ σr',CfS G σr' H s' Φ→σr'.length=σr.length→Q σr' H
def tGs (G:GE) (g:Tgs):TGs:=fun vs σr H Q=> ∃ s Φ ds s',NoB Φ∧ds.length=vs.length∧CfS G σr H s (FzR ds vs++Φ)∧g ds s=some s'∧∀ σr',CfS G σr' H s' Φ→σr'.length=σr.length→Q σr' H
theorem _root_.L2.PG.of {X:Cx} {e:Expr} {t t':TG} (h:PG X e t') (i: ∀ v σ H Q,t v σ H Q→t' v σ H Q):PG X e t:=⟨fun pins s σ H v u Q I r q=>h.run pins s σ H v u Q I r (i v σ H Q q)⟩
theorem _root_.L2.PGs.of {X:Cx} {e:List Expr} {t t':TGs} (h:PGs X e t') (i: ∀ v σ H Q,t v σ H Q→t' v σ H Q):PGs X e t:=⟨fun pins s σ H v u Q I r q=>h.run pins s σ H v u Q I r (i v σ H Q q)⟩
def gN (i:Nat):Tg:=fun o s=>if i<s.σ.length then some ⟨s.σ.set i (some o),s.h⟩ else none
def gsNil:Tgs:=fun ds s=>match ds with
  |[]=>some s
  |_=>none
def gsCons (g:Tg) (r:Tgs):Tgs:=fun ds s=>match ds with
  |d::ds=>(g (.fz d) s).bind fun s1=>r ds s1
  |[]=>none
def gT (n:Nat) (r:Tgs):Tg:=fun o s=>match o with
  | .fz (.tup ds)=>if ds.length=n then r ds s else none
  | .fz (.lst ds)=>if ds.length=n then r ds s else none
  | .lst ds=>if ds.length=n then r ds s else none
  |_=>none
theorem noB_cons {o:O} {v:V} {Φ:List (R×V)} (h:NoB Φ):NoB ((.own o,v)::Φ):=fun i w q=>by
  rcases List.mem_cons.mp q with q|q
  · cases q
  · exact h i w q
section
variable {G:GE} {k:Nat} {call:Call} {cc:CC} {W:WX} {X:Cx}
theorem CfS.put {σr:Sr} {H:Hp} {s:S} {Φ:List (R×V)} {i:Nat} {o:O} {v:V} (nb:NoB Φ) (c:CfS G σr H s ((.own o,v)::Φ)) (hi:i<s.σ.length):CfS G (σr.set i (some v)) H ⟨s.σ.set i (some o),s.h⟩ Φ:=by
  refine ⟨⟨by simp [c.sl.len],fun j o' q=>?_⟩,fun j w q=>absurd q (nb j w), ?_⟩
  · by_cases hj:i=j
    · subst hj
      exact ⟨v,by rw [List.getElem?_set];simp [←c.sl.len,hi]⟩
    · rw [List.getElem?_set_ne hj]
      exact c.sl.at_ j o' (by simpa [List.getElem?_set,hj] using q)
  · obtain ⟨X,Z,Y,q1,q2,q3⟩:=slp_set (o:=o) (v:=v) hi (by rw [←c.sl.len];exact hi)
    show Cf G H s.h (slp (s.σ.set i (some o)) (σr.set i (some v))++ow Φ)
    rw [q2]
    have cf:Cf G H s.h (slp s.σ σr++(o,v)::ow Φ):=c.cf
    rw [q1] at cf
    have c2:Cf G H s.h (Z++((o,v)::(X++(Y++ow Φ)))):=cf.perm (by
      have e1:X++(Z++Y)++(o,v)::ow Φ=(X++Z++Y)++(o,v)::ow Φ:=by simp
      rw [e1]
      refine List.perm_middle.trans (List.Perm.trans (List.Perm.cons _ ?_) List.perm_middle.symm)
      rw [List.append_assoc,List.append_assoc]
      exact List.perm_append_comm_assoc X Z _)
    exact (Cf.dropN c2).perm (by
      simp only [List.append_assoc,List.cons_append]
      exact List.perm_middle.symm)
theorem g_name (g:Good G k call cc W X) {i:Nat} {x:Str} {pos:Pos} (hi:cc.N[i]?=some x) (hx:cc.sc.names.lookup x=some .local∨(cc.top=true∧cc.sc.names.lookup x=some .cell)):PG X (.Name x pos) (tG G (gN i)):=by
  have hl:Loc X.env.scope x:=by
    rw [g.sc]
    rcases hx with h|⟨_,h⟩
    · exact .inl h
    · exact .inr h
  have hf:X.fn x=true∨X.env.scope.names.lookup x=some .local:=by
    rw [g.sc]
    rcases hx with h|⟨h,_⟩
    · exact .inr h
    · exact .inl (g.fn h x)
  refine (pg_name (by rw [g.N];exact g.nd) (by rw [g.N];exact hi) hl hf).of fun v σ H Q q=>?_
  obtain ⟨s,Φ,o,s',nb,c,e,q⟩:=q
  simp only [gN] at e
  split at e
  · rename_i hl
    cases e
    exact q _ (c.put nb hl) (by simp)
  · cases e
def plainT:Expr→Bool
  | .Starred _ _=>false
  |_=>true
theorem asg_cons {e:Expr} {es:List Expr} {env:Env} (h:plainT e=true):assignEach (e::es) env=(false,assign e env)::assignEach es env:=by
  cases e<;>first|rfl|cases h
theorem _root_.L2.PG.or {e:Expr} {t t':TG} (h:PG X e t) (h':PG X e t'):PG X e (fun v σ H Q=>t v σ H Q∨t' v σ H Q):=⟨fun pins s σ H v u Q I r q=>by
  rcases q with q|q
  · exact h.run pins s σ H v u Q I r q
  · exact h'.run pins s σ H v u Q I r q⟩
def keep (s:S):R→Option (O×S)
  | .own o=>some (o,s)
  | .bor i=>(take s (.bor i)).map fun p=>(.fz p.1,p.2)
theorem CfS.keep {σr:Sr} {H:Hp} {s s':S} {Φ:List (R×V)} {r:R} {v:V} {o:O} (c:CfS G σr H s ((r,v)::Φ)) (e:keep s r=some (o,s')):CfS G σr H s' ((.own o,v)::Φ):=by
  cases r with
  | own o'=>
    simp only [Mi.keep,Option.some.injEq,Prod.mk.injEq] at e
    obtain ⟨e1,e2⟩:=e
    subst e1;subst e2
    exact c
  | bor i=>
    simp only [Mi.keep,Option.map_eq_some_iff] at e
    obtain ⟨⟨d,s2⟩,e1,e2⟩:=e
    cases e2
    exact c.take e1
def cAsg (m:E) (g:Tg):C:=fun call s=>(m call s).flow fun x s1=>match (keep s1 x).bind fun p=>g p.1 p.2 with
  |some s2=>.nx s2
  |none=>.bad
theorem tAsg_of {m:E} {g:Tg} {D:Ends} {σ:Sr} {H:Hp} (q:tS G W call (cAsg m g) D σ H):tAsg (tE G W call m) (tG G g) D σ H:=by
  obtain ⟨s,Φ,nb,c,q⟩:=q
  refine ⟨s,Φ,c,(AftS.flow q).mono fun x s1 a1=>fun v H1 c1=>?_⟩
  split at a1
  · rename_i s2 e2
    simp only [Option.bind_eq_some_iff] at e2
    obtain ⟨⟨o,s3⟩,e3,e4⟩:=e2
    exact ⟨s3,Φ,o,s2,nb,c1.keep e3,e4,fun σ' c' _=>a1 σ' H1 c'⟩
  · exact a1.elim
theorem s_asg {tg e:Expr} {m:E} {g:Tg} {pos:Pos} (he:PE X e (tE G W call m)) (hg:PG X tg (tG G g)) (hn:noComp e=true) (hw:swappedStores [tg] e X.env=pure none) (hp:plainT tg=true):PS X (.Assign [tg] e pos) (tS G W call (cAsg m g)):=
  (ps_asg he hg (noComp_sw hn) hw (by rw [asg_cons hp];rfl)).of fun D σ H q=>tAsg_of q
def keepAll (s:S):List R→Option (List O×S)
  |[]=>some ([],s)
  |r::rs=>(keep s r).bind fun p=>(keepAll p.2 rs).bind fun q=>some (p.1::q.1,q.2)
def asgAll:List Tg→List O→S→Option S
  |[],[],s=>some s
  |g::gs,o::os,s=>(g o s).bind fun s1=>asgAll gs os s1
  |_,_,_=>none
def OwR (os:List O) (vs:List V):List (R×V):=List.zipWith (fun o v=>(R.own o,v)) os vs
theorem nob_ow: ∀ {os:List O} {vs:List V} {i:Nat} {v:V},(R.bor i,v)∉OwR os vs
  |[],_,_,_=>by simp [OwR]
  |_::_,[],_,_=>by simp [OwR]
  | o::os,v::vs,i,w=>by
    show (R.bor i,w)∉(R.own o,v)::OwR os vs
    intro h
    rcases List.mem_cons.mp h with h|h
    · cases h
    · exact nob_ow h
def tGsO (G:GE) (gs:List Tg):TGs:=fun vs σr H Q=> ∃ s Φ os s',NoB Φ∧os.length=vs.length∧CfS G σr H s (OwR os vs++Φ)∧asgAll gs os s=some s'∧∀ σr',CfS G σr' H s' Φ→Q σr' H
def cMul (r:AsR) (gs:List Tg):C:=fun call s=>(r call s).flow fun rs s1=>if fitsB rs.length then (match (keepAll s1 rs).bind fun p=>asgAll gs p.1 p.2 with
  |some s2=>.nx s2
  |none=>.bad) else .bad
end
end Mi
namespace Mi
open PySem PySem.Spec PyProof.Rows L2
def Walks (G:GE) (J:It) (K:List (R×V)) (ds:List D):Prop:= ∀ (σr:Sr) (H:Hp) (s:S) (Φ:List (R×V)),CfS G σr H s (K++Φ)→
  (∀ i,i<ds.length→J.go i H)∧(∀ i d x H',ds[i]?=some d→J.yld i H x H'→CfS G σr H' s ((.own (.fz d),x)::(K++Φ)))∧J.stop ds.length H
abbrev Iv:=Call→S→Out (List D)
def tI (G:GE) (W:WX) (call:Call) (m:Iv):TI:=fun σr H Rr=> ∃ s Φ,CfS G σr H s Φ∧Aft G W σr Φ (fun ds s1=> ∀ K J H1,NoB K→CfS G σr H1 s1 (K++Φ)→Walks G J K ds→Rr J H1) (m call s)
theorem _root_.L2.PI.of {X:Cx} {tg e:Expr} {t t':TI} (h:PI X tg e t') (i: ∀ σ H Q,t σ H Q→t' σ H Q):PI X tg e t:=⟨fun pins s σ H Q I q=>h.run pins s σ H Q I (i σ H Q q)⟩
theorem _root_.L2.PI.or {X:Cx} {tg e:Expr} {t t':TI} (h:PI X tg e t) (h':PI X tg e t'):PI X tg e (fun σ H R=>t σ H R∨t' σ H R):=⟨fun pins s σ H Q I q=>by
  rcases q with q|q
  · exact h.run pins s σ H Q I q
  · exact h'.run pins s σ H Q I q⟩
def signs (x:Str):List D:=x.cps.toList.map fun c=>.str ⟨#[c]⟩
def iterD:D→Option (List D)
  | .str x=>some (signs x)
  |d=>itemsD d
def iVal (m:E):Iv:=fun call s=>(m call s).bind fun x s1=>match take s1 x with
  |some (d,s2)=>lift s2 (iterD d)
  |none=>.bad
section
variable {G:GE} {k:Nat} {call:Call} {cc:CC} {W:WX} {X:Cx}
theorem walks_list {d:D} {ds:List D} {v:V} {a:Addr} (e:listD d=some ds) (hv:v= .ref a):Walks G (Itl G.K a) [(.own (.fz d),v)] ds:=by
  intro σr H s Φ c
  subst hv
  obtain ⟨ρ,M,cp⟩:=c.parts
  have r:=c.peek (r:=.own (.fz d)) (v:=.ref a) (d:=d) (by simp) (by cases d<;>first|rfl|cases e) cp
  obtain ⟨a',vs,ea,t,rd⟩:=listD_of r e
  cases ea
  exact ⟨fun i hi=>⟨vs,vs[i]'(by rw [←rd.length];exact hi),t,by simp⟩,fun i d' x H' ei ⟨eH,y⟩=>by
    subst eH
    have ex:=y vs t
    obtain ⟨w,hw,q⟩:=rd.get ei
    rw [ex] at hw
    cases hw
    exact CfS.cpMore (K:=[]) c cp q,⟨vs,t,by rw [rd.length];exact Nat.le_refl _⟩⟩
theorem walks_tup {ds:List D} {v:V} {a:Addr} (hv:v= .ref a):Walks G (Itt G.K a) [(.own (.fz (.tup ds)),v)] ds:=by
  intro σr H s Φ c
  subst hv
  obtain ⟨ρ,M,cp⟩:=c.parts
  have r:=c.peek (r:=.own (.fz (.tup ds))) (v:=.ref a) (d:=.tup ds) (by simp) rfl cp
  obtain ⟨a',vs,ea,t0,rd⟩:=r
  have t:=t0.sq
  cases ea
  exact ⟨fun i hi=>⟨vs,vs[i]'(by rw [←rd.length];exact hi),t,by simp⟩,fun i d' x H' ei ⟨eH,y⟩=>by
    subst eH
    have ex:=y vs t
    obtain ⟨w,hw,q⟩:=rd.get ei
    rw [ex] at hw
    cases hw
    exact CfS.cpMore (K:=[]) c cp q,⟨vs,t,by rw [rd.length];exact Nat.le_refl _⟩⟩
theorem walks_str {x:Str}:Walks G (Its x) [] (signs x):=by
  intro σr H s Φ c
  refine ⟨fun i hi=>by simpa [signs,Its] using hi,fun i d' y H' ei ⟨eH,cp,ec,ey⟩=>?_,by simp [signs,Its]⟩
  subst eH;subst ey
  have:d'= .str ⟨#[cp]⟩:=by
    simp only [signs,List.getElem?_map,Option.map_eq_some_iff] at ei
    obtain ⟨z,e1,e2⟩:=ei
    rw [Array.getElem?_toList,ec] at e1
    cases e1
    exact e2.symm
  subst this
  exact c.simple rfl
theorem i_val (g:Good G k call cc W X) {tg e:Expr} {m:E} (h:PE X e (tE G W call m)):PI X tg e (tI G W call (iVal m)):=by
  refine (((pi_list h).or (pi_tup h)).or (pi_str h)).of fun σ H Q q=>?_
  obtain ⟨s,Φ,c,q⟩:=q
  have q1:=Aft.bind q
  cases em:m call s with
  |bad=>rw [em] at q1;exact q1.elim
  |exc cn d s1=>exact .inl (.inl ⟨s,Φ,c,by rw [em] at q1 ⊢;exact q1⟩)
  | ok x s1=>
    rw [em] at q1
    have q2:Aft G W σ Φ _ (match take s1 x with
      |some (d,s2)=>lift s2 (iterD d)
      |none=>.bad):=q1
    split at q2
    · rename_i d s2 et
      obtain ⟨ds,ed,q3⟩:=Aft.lift q2
      cases d with
      | str z=>
        cases ed
        refine .inr ⟨s,Φ,c, ?_⟩
        rw [em]
        intro v H1 c1
        have c2:=c1.take et
        have ev:v= .str z:=by obtain ⟨ρ,M,cp⟩:=c2.parts;exact c2.peek (r:=.own (.fz (.str z))) (d:=.str z) (by simp) rfl cp
        exact ⟨z,ev,q3 [] _ H1 (fun _ _ z=>by simp at z) c2.drop walks_str⟩
      | tup ds'=>
        cases ed
        refine .inl (.inr ⟨s,Φ,c, ?_⟩)
        rw [em]
        intro v H1 c1
        have c2:=c1.take et
        obtain ⟨ρ,M,cp⟩:=c2.parts
        obtain ⟨a,vs,ea,t,rd⟩:=c2.peek (r:=.own (.fz (.tup ds))) (d:=.tup ds) (v:=v) (by simp) rfl cp
        exact ⟨a,ea,⟨vs,by rw [g.K];exact t.sq⟩,by rw [g.K];exact q3 [(.own (.fz (.tup ds)),v)] _ H1 (noB_cons fun _ _ z=>by simp at z) c2 (walks_tup ea)⟩
      | lst ds'=>
        have e2:listD (.lst ds')=some ds:=ed
        refine .inl (.inl ⟨s,Φ,c, ?_⟩)
        rw [em]
        intro v H1 c1
        have c2:=c1.take et
        obtain ⟨ρ,M,cp⟩:=c2.parts
        obtain ⟨a,vs,ea,t,rd⟩:=listD_of (c2.peek (r:=.own (.fz (.lst ds'))) (d:=.lst ds') (v:=v) (by simp) rfl cp) e2
        exact ⟨a,ea,⟨vs,by rw [g.K];exact t⟩,by rw [g.K];exact q3 [(.own (.fz (.lst ds')),v)] _ H1 (noB_cons fun _ _ z=>by simp at z) c2 (walks_list e2 ea)⟩
      | scr ns=>
        have e2:listD (.scr ns)=some ds:=ed
        refine .inl (.inl ⟨s,Φ,c, ?_⟩)
        rw [em]
        intro v H1 c1
        have c2:=c1.take et
        obtain ⟨ρ,M,cp⟩:=c2.parts
        obtain ⟨a,vs,ea,t,rd⟩:=listD_of (c2.peek (r:=.own (.fz (.scr ns))) (d:=.scr ns) (v:=v) (by simp) rfl cp) e2
        exact ⟨a,ea,⟨vs,by rw [g.K];exact t⟩,by rw [g.K];exact q3 [(.own (.fz (.scr ns)),v)] _ H1 (noB_cons fun _ _ z=>by simp at z) c2 (walks_list e2 ea)⟩
      |non=>cases ed
      |bl _=>cases ed
      |int _=>cases ed
      |dic _ _=>cases ed
      |ins _ _ _=>cases ed
      |dct _ _=>cases ed
      |loc _=>cases ed
      |fn _=>cases ed
      |ty _=>cases ed
      |cls _=>cases ed
      |xn _ _ _=>cases ed
      |lk _ _=>cases ed
    · exact q2.elim
def rangeD (lo:Int) (n:Nat):List D:=(List.range n).map fun i=>.int (lo+(i:Nat))
def smallR (i:Int):Bool:=decide (-(2^62)≤i)&&decide (i<2^62)
def iRg1 (r:AsR):Iv:=fun call s=>(r call s).bind fun rs s1=>match peeks s1 rs with
  |some [.int j]=>if smallR j then .ok (rangeD 0 j.toNat) s1 else .bad
  |_=>.bad
theorem walks_range {lo:Int} {n:Nat}:Walks G (Itr lo n) [] (rangeD lo n):=by
  intro σr H s Φ c
  refine ⟨fun i hi=>by simpa [rangeD,Itr] using hi,fun i d' y H' ei ⟨eH,ey⟩=>?_,by simp [rangeD,Itr]⟩
  subst eH;subst ey
  simp only [rangeD,List.getElem?_map,Option.map_eq_some_iff] at ei
  obtain ⟨z,e1,e2⟩:=ei
  have hz:z=i:=by
    by_cases hi:i<n
    · rw [List.getElem?_range hi] at e1;cases e1;rfl
    · rw [List.getElem?_eq_none (by simpa using hi)] at e1;cases e1
  subst hz;subst e2
  exact c.simple rfl
theorem i_range1 (g:Good G k call cc W X) {tg a:Expr} {r:AsR} {p pos:Pos} (hg:cc.sc.names.lookup ("range":Str)=some .globalImplicit) (h:PA X [a] (tR G W call r)) (hn:notStar a=true):PI X tg (.Call (.Name "range" p) [a] [] pos) (tI G W call (iRg1 r)):=by
  refine (pi_range1 (g.gl hg) (g.blt _ (by decide)) h (star_cons hn)).of fun σ H Q q=>?_
  obtain ⟨s,Φ,c,q⟩:=q
  refine ⟨s,Φ,c,(Aft.bind q).mono fun rs s1 a1=>fun vs H1 l c1=>?_⟩
  split at a1
  · rename_i j e
    split at a1
    · rename_i hs
      simp only [smallR,Bool.and_eq_true,decide_eq_true_eq] at hs
      obtain ⟨ρ,M,cp⟩:=c1.parts
      obtain ⟨v,rfl,r⟩:=(peeks_of c1 cp l (fun p hp=>List.mem_append_left _ hp) e).one
      obtain rfl:=(show v=_ from r)
      exact ⟨j,rfl,hs.1,hs.2,a1 [] _ H1 (fun _ _ z=>by simp at z) c1.dropN walks_range⟩
    · exact a1.elim
  · exact a1.elim
def forL (call:Call) (g:Tg) (body:C):List D→S→Fl
  |[],s=>.nx s
  | d ::ds,s=>match g (.fz d) s with
    |none=>.bad
    | some s1=>match body call s1 with
      | .nx s2=>forL call g body ds s2
      | .ct s2=>forL call g body ds s2
      | .bk s2=>.nx s2
      | .rt o s2=>.rt o s2
      | .exc c d s2=>.exc c d s2
      | .bad=>.bad
def cFor (m:Iv) (g:Tg) (body:C):C:=fun call s=>(m call s).flow fun ds s1=>forL call g body ds s1
theorem AftS.imp {Φ:List (R×V)} {D:Ends} {x:Fl} (a:AftS G W Φ D x) {K:List (R×V)} {D':Ends} (h1: ∀ s,x= .nx s→∀ σ H,CfS G σ H s (K++Φ)→D'.nx σ H) (h2: ∀ s,x= .bk s→∀ σ H,CfS G σ H s (K++Φ)→D'.bk σ H) (h3: ∀ s,x= .ct s→∀ σ H,CfS G σ H s (K++Φ)→D'.ct σ H) (h4: ∀ v H,D.rt v H→D'.rt v H):AftS G W (K++Φ) D' x:=by
  cases x with
  |nx s=>exact h1 s rfl
  |bk s=>exact h2 s rfl
  |ct s=>exact h3 s rfl
  |rt o s=>exact fun σ v H c=>h4 v H (a σ v H (CfS.dropN (K:=K) (c.perm List.perm_middle.symm)))
  | exc cn d s=>
    rintro σ cls dx H ⟨C,f,b,v,e1,e2,e3,e4,c5⟩
    exact a σ cls dx H ⟨C,f,b,v,e1,e2,e3,e4,CfS.dropN (K:=K) (c5.perm List.perm_middle.symm)⟩
  |bad=>exact a
theorem for_walk {J:It} {K Φ:List (R×V)} {ds:List D} {g:Tg} {body:C} {D:Ends} {σ:Sr} {H:Hp} {s:S} (nk:NoB K) (nb:NoB Φ) (w:Walks G J K ds) (c:CfS G σ H s (K++Φ)) (a:AftS G W Φ D (forL call g body ds s)):
    ∃ Wr:Nat→Nat→Sr→Hp→Prop,(∃ m,Wr 0 m σ H)∧∀ i m σ H,Wr i m σ H→
      (J.stop i H∧D.nx σ H)∨(J.go i H∧∃ N:Sr→Hp→Prop,(∀ σ' H',N σ' H'→∃ m',m'<m∧Wr (i+1) m' σ' H')∧∀ x H',J.yld i H x H'→tG G g x σ H' fun σ2 H2=>tS G W call body {D with nx:=N,ct:=N,bk:=D.nx} σ2 H2):=by
  have nkb:NoB (K++Φ):=fun i v z=>by
    rcases List.mem_append.mp z with z|z
    · exact nk i v z
    · exact nb i v z
  refine ⟨fun i m σ H=>m=ds.length - i∧i≤ds.length∧∃ s,CfS G σ H s (K++Φ)∧AftS G W Φ D (forL call g body (ds.drop i) s),⟨ds.length,by simp,Nat.zero_le _,s,c,a⟩, ?_⟩
  rintro i m σ H ⟨rfl,hi,s,c,a⟩
  obtain ⟨w1,w2,w3⟩:=w σ H s Φ c
  by_cases hlt:i<ds.length
  · refine .inr ⟨w1 i hlt,fun σ' H'=> ∃ s,CfS G σ' H' s (K++Φ)∧AftS G W Φ D (forL call g body (ds.drop (i+1)) s),fun σ' H' p'=>⟨ds.length - (i+1),by omega,rfl,hlt,p'⟩,fun x H' y=>?_⟩
    have e:ds.drop i=ds[i]::ds.drop (i+1):=List.drop_eq_getElem_cons hlt
    rw [e] at a
    have c1:=w2 i ds[i] x H' (by simp [hlt]) y
    simp only [forL] at a
    split at a
    · exact a.elim
    · rename_i s1 eg
      refine ⟨s,K++Φ,.fz ds[i],s1,nkb,c1,eg,fun σ2 c2 _=>⟨s1,K++Φ,nkb,c2, ?_⟩⟩
      cases eb:body call s1 with
      |nx s2=>rw [eb] at a;exact fun σ3 H3 c3=>⟨s2,c3,a⟩
      |ct s2=>rw [eb] at a;exact fun σ3 H3 c3=>⟨s2,c3,a⟩
      |bk s2=>rw [eb] at a;exact fun σ3 H3 c3=>a σ3 H3 (CfS.dropN c3)
      |rt o s2=>rw [eb] at a;exact fun σ3 v H3 c3=>a σ3 v H3 (CfS.dropN (K:=K) (c3.perm List.perm_middle.symm))
      | exc cn d s2=>
        rw [eb] at a
        rintro σ3 cls dx H3 ⟨C,f,b,v,e1,e2,e3,e4,c5⟩
        exact a σ3 cls dx H3 ⟨C,f,b,v,e1,e2,e3,e4,CfS.dropN (K:=K) (c5.perm List.perm_middle.symm)⟩
      |bad=>rw [eb] at a;exact a
  · have e:i=ds.length:=by omega
    subst e
    rw [List.drop_length] at a
    exact .inl ⟨w3,a σ H (CfS.dropN c)⟩
theorem s_for (g:Good G k call cc W X) {tg it:Expr} {b:List Stmt} {m:Iv} {t:Tg} {mb:C} {pos:Pos} (hi:PI X tg it (tI G W call m)) (hg:PG X tg (tG G t)) (hb:PSs X b (tS G W call mb)) (hs: ∀ x,foldedSetIterable it X.env x=pure x):PS X (.For tg it b [] pos) (tS G W call (cFor m t mb)):=by
  refine (ps_for g.po g.calm hi hg hb hs).of fun D σ H q=>?_
  obtain ⟨s,Φ,nb,c,q⟩:=q
  exact ⟨s,Φ,c,(AftS.flow q).mono fun ds s1 a1=>fun K J H1 nk c1 w=>for_walk nk nb w c1 a1⟩
end
end Mi
namespace Mi
open PySem PySem.Spec PyProof.Rows L2
def Agree (vs:List Nat) (σ σ':Sr):Prop:=σ'.length=σ.length∧∀ (i:Nat),i∉vs→σ'[i]?=σ[i]?
theorem wipe_at {σ:Sr} {i:Nat}: ∀ {vs:List Nat},i∈vs→i<σ.length→(wipe σ vs)[i]?=some none
  | v ::vs,h,hl=>by
    rw [wipe]
    by_cases e:v=i
    · subst e
      rw [List.getElem?_set]
      simp [wipe_length,hl]
    · rw [List.getElem?_set_ne e]
      exact wipe_at (by rcases List.mem_cons.mp h with z|z;exact absurd z.symm e;exact z) hl
theorem Agree.wipe {vs:List Nat} {σ σ':Sr} (a:Agree vs σ σ'):L2.wipe σ' vs=L2.wipe σ vs:=by
  refine List.ext_getElem? fun i=>?_
  by_cases hi:i∈vs
  · by_cases hl:i<σ.length
    · rw [wipe_at hi hl,wipe_at hi (by rw [a.1];exact hl)]
    · rw [List.getElem?_eq_none (by rw [wipe_length,a.1];omega),List.getElem?_eq_none (by rw [wipe_length];omega)]
  · rw [wipe_out hi,wipe_out hi,a.2 i hi]
theorem Agree.refl (vs:List Nat) (σ:Sr):Agree vs σ σ:=⟨rfl,fun _ _=>rfl⟩
theorem Agree.trans {vs:List Nat} {σ σ' σ'':Sr} (a:Agree vs σ σ') (b:Agree vs σ' σ''):Agree vs σ σ'':=⟨b.1.trans a.1,fun i hi=>(b.2 i hi).trans (a.2 i hi)⟩
theorem Agree.set {vs:List Nat} {σ:Sr} {i:Nat} {v:Option V} (h:i∈vs):Agree vs σ (σ.set i v):=⟨by simp,fun j hj=>by rw [List.getElem?_set_ne fun z:i=j=>hj (by rw [←z];exact h)]⟩
theorem wipe_wipe {σ:Sr} {vs:List Nat}:L2.wipe (L2.wipe σ vs) vs=L2.wipe σ vs:=Agree.wipe (σ:=σ) ⟨wipe_length σ vs,fun i hi=>wipe_out hi⟩
def tGA (G:GE) (vs:List Nat) (g:Tg):TG:=fun v σr H Q=> ∃ s Φ o s',NoB Φ∧CfS G σr H s ((.own o,v)::Φ)∧g o s=some s'∧∀ σr',CfS G σr' H s' Φ→Agree vs σr σr'→Q σr' H
def tGAs (G:GE) (vs:List Nat) (g:Tgs):TGs:=fun us σr H Q=> ∃ s Φ ds s',NoB Φ∧ds.length=us.length∧CfS G σr H s (FzR ds us++Φ)∧g ds s=some s'∧∀ σr',CfS G σr' H s' Φ→Agree vs σr σr'→Q σr' H
abbrev noW:WX:=fun _ _ _ _=>False
section
variable {G:GE} {k:Nat} {call:Call} {cc:CC} {W:WX} {X:Cx} {vs:List Nat}
theorem ga_name (g:Good G k call cc W X) {i:Nat} {x:Str} {pos:Pos} (hi:cc.N[i]?=some x) (hx:cc.sc.names.lookup x=some .local) (hv:i∈vs):PG X (.Name x pos) (tGA G vs (gN i)):=by
  refine (pg_name (by rw [g.N];exact g.nd) (by rw [g.N];exact hi) (by rw [g.sc];exact .inl hx) (.inr (by rw [g.sc];exact hx))).of fun v σ H Q q=>?_
  obtain ⟨s,Φ,o,s',nb,c,e,q⟩:=q
  simp only [gN] at e
  split at e
  · rename_i hl
    cases e
    exact q _ (c.put nb hl) (Agree.set hv)
  · cases e
def lcL (call:Call) (g:Tg) (tt:B) (te:E) (vs:List Nat):List D→List D→S→Out (List D)
  |[],acc,s=>.ok acc s
  | d ::ds,acc,s=>match g (.fz d) s with
    |none=>.bad
    | some s1=>match tt call s1 with
      | .ok true s2=>(match te call s2 with
        | .ok x s3=>(match take s3 x with
          |some (y,s4)=>if fitsB (acc.length+1) then lcL call g tt te vs ds (acc++[y]) ⟨wipeO s4.σ vs,s4.h⟩ else .bad
          |none=>.bad)
        |_=>.bad)
      | .ok false s2=>lcL call g tt te vs ds acc ⟨wipeO s2.σ vs,s2.h⟩
      |_=>.bad
def mLc (m:Iv) (g:Tg) (tt:B) (te:E) (vs:List Nat):E:=fun call s=>(m call s).bind fun ds s1=>match lcL call g tt te vs ds [] ⟨wipeO s1.σ vs,s1.h⟩ with
  | .ok acc s2=>.ok (.own (.lst acc)) ⟨rst s2.σ s1.σ vs,s2.h⟩
  |_=>.bad
def ownR (Z:List (O×V)):List (R×V):=Z.map fun p=>(R.own p.1,p.2)
theorem ow_ownR: ∀ Z,ow (ownR Z)=Z
  |[]=>rfl
  |(o,v)::Z=>by show (o,v)::ow (ownR Z)=_;rw [ow_ownR Z]
theorem nob_ownR {Z:List (O×V)}:NoB (ownR Z):=fun i v h=>by
  simp only [ownR,List.mem_map] at h
  obtain ⟨p,_,e⟩:=h
  cases e
theorem noB_app {Φ Ψ:List (R×V)} (a:NoB Φ) (b:NoB Ψ):NoB (Φ++Ψ):=fun i v z=>by
  rcases List.mem_append.mp z with z|z
  · exact a i v z
  · exact b i v z
theorem CfS.wipe {σr:Sr} {H:Hp} {s:S} {Φ:List (R×V)} (nb:NoB Φ) (c:CfS G σr H s Φ) (vs:List Nat):CfS G (L2.wipe σr vs) H ⟨wipeO s.σ vs,s.h⟩ Φ:=by
  obtain ⟨Z,p1,ok,_⟩:=slp_wipe c.sl vs
  refine ⟨ok,fun i v z=>absurd z (nb i v), ?_⟩
  have cf:=c.cf.perm (p1.append_right (ow Φ))
  have c2:Cf G H s.h (Z++(slp (wipeO s.σ vs) (L2.wipe σr vs)++ow Φ)):=cf.perm (by
    rw [List.append_assoc]
    exact List.perm_append_comm_assoc _ _ _)
  exact Cf.dropN c2
theorem CfS.append {σr:Sr} {H:Hp} {s:S} {Φ:List (R×V)} {acc:List D} {d:D} {p:Addr} {y:V} (c:CfS G σr H s ((.own (.fz d),y)::(.own (.lst acc),.ref p)::Φ)):
    ∃ us,H p=some (.lst us)∧us.length=acc.length∧CfS G σr (upd H p (.lst (us++[y]))) s ((.own (.lst (acc++[d])),.ref p)::Φ):=by
  have cf:Cf G H s.h ((.lst acc,.ref p)::(.fz d,y)::(slp s.σ σr++ow Φ)):=c.cf.perm (by
    refine (List.perm_middle).trans ?_
    refine (List.Perm.cons _ List.perm_middle).trans (.swap _ _ _))
  obtain ⟨a,us,ea,t,l,z⟩:=Cf.lst cf
  cases ea
  refine ⟨us,t,l.symm,c.sl,fun i v q=>?_, ?_⟩
  · rcases List.mem_cons.mp q with q|q
    · cases q
    · exact c.bo i v (by simp [q])
  · have z2:Cf G H s.h ((.lst acc,.ref p)::(Fz (acc++[d]) (us++[y])++(slp s.σ σr++ow Φ))):=by
      rw [Fz_append l,List.append_assoc]
      exact z
    exact (z2.change (ho:=.lst (us++[y])) (o':=.lst (acc++[d])) (by simp [l]) (fun _ h=>by cases h) fun ρ M H' e r=>⟨p,_,rfl,e,r,rfl⟩).perm List.perm_middle.symm
theorem lc_walk {J:It} {K Φ:List (R×V)} {ds:List D} {g:Tg} {tt:B} {te:E} {σ:Sr} {H1:Hp} {s1:S} {Q:VK} {Dd:Addr} (nk:NoB K) (bo: ∀ i v,(R.bor i,v)∈Φ→σ[i]?=some (some v)) (w:Walks G J K ds) (c:CfS G σ H1 s1 (K++Φ)) (hD:H1 Dd=none)
    (a:Aft G W σ Φ (PV G σ Φ Q) (match lcL call g tt te vs ds [] ⟨wipeO s1.σ vs,s1.h⟩ with
      | .ok acc s2=>.ok (.own (.lst acc)) ⟨rst s2.σ s1.σ vs,s2.h⟩
      |_=>.bad)):
    ∃ Wr:Nat→Nat→Hp→Prop,(∃ m,Wr 0 m (upd H1 Dd (.lst [])))∧∀ i m H,Wr i m H→
      (J.stop i H∧Q (.ref Dd) H)∨(J.go i H∧∃ Nx:Hp→Prop,(∀ H',Nx H'→∃ m',m'<m∧Wr (i+1) m' H')∧∀ x H',J.yld i H x H'→tGA G vs g x (L2.wipe σ vs) H' fun σ2 H2=>L2.wipe σ2 vs=L2.wipe σ vs∧tB_ G noW call tt σ2 H2 fun b H3=>
        if b=true then tE G noW call te σ2 H3 fun y H4=> ∃ acc,H4 Dd=some (.lst acc)∧acc.length<sizeLine∧Nx (upd H4 Dd (.lst (acc++[y]))) else Nx H3):=by
  obtain ⟨Z,p1,ok,back⟩:=slp_wipe c.sl vs
  let Ψ:=K++(ownR Z++ownR (ow Φ))
  have nΨ:NoB Ψ:=noB_app nk (noB_app nob_ownR nob_ownR)
  let St:List D→S→Hp→Prop:=fun acc s H=>CfS G (L2.wipe σ vs) H s ((.own (.lst acc),.ref Dd)::Ψ)
  let Fin:List D→List D→S→Prop:=fun rest acc s=>Aft G W σ Φ (PV G σ Φ Q) (match lcL call g tt te vs rest acc s with
      | .ok acc s2=>.ok (.own (.lst acc)) ⟨rst s2.σ s1.σ vs,s2.h⟩
      |_=>.bad)
  have st0:St [] ⟨wipeO s1.σ vs,s1.h⟩ (upd H1 Dd (.lst [])):=by
    refine ⟨ok,fun i v z=>absurd z (noB_cons nΨ i v), ?_⟩
    have cf:=c.cf.perm (p1.append_right (ow (K++Φ)))
    have cf2:Cf G H1 s1.h (Fz [] []++(slp (wipeO s1.σ vs) (L2.wipe σ vs)++ow Ψ)):=cf.perm (by
      show List.Perm _ (slp (wipeO s1.σ vs) (L2.wipe σ vs)++ow Ψ)
      simp only [Ψ,ow_append,ow_ownR,List.append_assoc]
      exact List.Perm.append_left _ (List.perm_append_comm_assoc _ _ _))
    exact (Cf.newLst rfl cf2 hD).perm List.perm_middle.symm
  refine ⟨fun i m H=>m=ds.length - i∧i≤ds.length∧∃ acc s,St acc s H∧Fin (ds.drop i) acc s,⟨ds.length,by simp,Nat.zero_le _,[],_,st0,a⟩, ?_⟩
  rintro i m H ⟨rfl,hi,acc,s,c,a⟩
  have cK:CfS G (L2.wipe σ vs) H s (K++((.own (.lst acc),.ref Dd)::(ownR Z++ownR (ow Φ)))):=c.perm List.perm_middle.symm
  obtain ⟨w1,w2,w3⟩:=w _ H s _ cK
  by_cases hlt:i<ds.length
  · refine .inr ⟨w1 i hlt,fun H'=> ∃ acc s,St acc s H'∧Fin (ds.drop (i+1)) acc s,fun H' p'=>⟨ds.length - (i+1),by omega,rfl,hlt,p'⟩,fun x H' y=>?_⟩
    have e:ds.drop i=ds[i]::ds.drop (i+1):=List.drop_eq_getElem_cons hlt
    have a':Fin (ds[i]::ds.drop (i+1)) acc s:=by rw [←e];exact a
    have c1:=w2 i ds[i] x H' (by simp [hlt]) y
    have c1':CfS G (L2.wipe σ vs) H' s ((.own (.fz ds[i]),x)::((.own (.lst acc),.ref Dd)::Ψ)):=c1.perm (List.Perm.cons _ List.perm_middle)
    simp only [Fin,lcL] at a'
    cases eg:g (.fz ds[i]) s with
    |none=>simp only [eg] at a';exact a'.elim
    | some s2 =>
      simp only [eg] at a'
      refine ⟨s,_,.fz ds[i],s2,noB_cons nΨ,c1',eg,fun σ2 c2 ag=>?_⟩
      have ew:L2.wipe σ2 vs=L2.wipe σ vs:=by rw [ag.wipe,wipe_wipe]
      refine ⟨ew,s2,_,c2, ?_⟩
      cases et:tt call s2 with
      |bad=>simp only [et] at a';exact a'.elim
      |exc cn d s3=>simp only [et] at a';exact a'.elim
      | ok b s3 =>
        cases b with
        | false=>
          simp only [et] at a'
          exact fun H3 c3=>iteF ⟨acc,_,by have:=c3.wipe (noB_cons nΨ) vs;rw [ew] at this;exact this,a'⟩
        | true=>
          simp only [et] at a'
          intro H3 c3
          refine iteT ⟨s3,_,c3, ?_⟩
          cases ee:te call s3 with
          |bad=>simp only [ee] at a';exact a'.elim
          |exc cn d s4=>simp only [ee] at a';exact a'.elim
          | ok r s4=>
            simp only [ee] at a'
            intro yv H4 c4
            cases ek:take s4 r with
            |none=>simp only [ek] at a';exact a'.elim
            | some q=>
              obtain ⟨d,s5⟩:=q
              simp only [ek] at a'
              by_cases hf:fitsB (acc.length+1)=true
              · rw [if_pos hf] at a'
                have c5:=c4.take ek
                obtain ⟨us,t,l,c6⟩:=c5.append
                refine ⟨us,t, ?_,acc++[d],⟨wipeO s5.σ vs,s5.h⟩, ?_,a'⟩
                · rw [l]
                  exact Nat.lt_of_succ_le (fits hf)
                · have:=c6.wipe (noB_cons nΨ) vs
                  rw [ew] at this
                  exact this
              · rw [if_neg hf] at a'
                exact a'.elim
  · have e:i=ds.length:=by omega
    subst e
    have a':Fin [] acc s:=by have:=a;rw [List.drop_length] at this;exact this
    refine .inl ⟨w3,a' (.ref Dd) H ?_⟩
    obtain ⟨p2,ok2⟩:=back s.σ c.sl
    refine ⟨ok2,fun j v z=>?_, ?_⟩
    · rcases List.mem_cons.mp z with z|z
      · cases z
      · exact bo j v z
    · have cf:Cf G H s.h (slp s.σ (L2.wipe σ vs)++(.lst acc,.ref Dd)::ow Ψ):=c.cf
      have cf2:Cf G H s.h (ow K++(slp (rst s.σ s1.σ vs) σ++(.lst acc,.ref Dd)::ow Φ)):=cf.perm (by
        simp only [Ψ,ow_append,ow_ownR]
        refine List.perm_middle.trans ?_
        refine List.Perm.trans (List.Perm.cons _ ?_) (((List.perm_middle).append_left (ow K)).trans List.perm_middle).symm
        refine (List.perm_append_comm_assoc _ _ _).trans (List.Perm.append_left _ ?_)
        rw [←List.append_assoc]
        exact p2.symm.append_right _)
      exact Cf.dropN cf2
theorem e_lc (g:Good G k call cc W X) {elt tg it:Expr} {ifs:List Expr} {scope:Scope} {own:List (Str×Nat)} {pos:Pos} {m:Iv} {t:Tg} {mt:B} {me:E} (hi:PI X tg it (tI G W call m)) (ok:BlkOk cc.N cc.sc scope own)
    (hg: ∀ (s:Shared) (H:Hp) (C:Addr) (cl:List (Str×Addr)) (fp:List Addr),PG (X.blk s H scope (compEnvC scope cl C X.env) fp) tg (tGA G (own.map (·.2)) t))
    (ht: ∀ (s:Shared) (H:Hp) (C:Addr) (cl:List (Str×Addr)) (fp:List Addr),PTs (X.blk s H scope (compEnvC scope cl C X.env) fp) ifs (tB_ G noW call mt))
    (he: ∀ (s:Shared) (H:Hp) (C:Addr) (cl:List (Str×Addr)) (fp:List Addr),PE (X.blk s H scope (compEnvC scope cl C X.env) fp) elt (tE G noW call me)) (hs: ∀ x,foldedSetIterable it X.env x=pure x):
    PE X (.ListComp elt [⟨tg,it,ifs,0⟩] scope pos) (tE G W call (mLc m t mt me (own.map (·.2)))):=by
  refine (pe_lc g.calm (by rw [g.N];exact g.nd) hi (by rw [g.N,g.sc];exact ok) hg ht he hs).of fun σ H Q q=>?_
  obtain ⟨s,Φ,c,q⟩:=q
  exact ⟨s,Φ,c,(Aft.bind q).mono fun ds s1 a1=>fun K J H1 nk c1 w=>fun Dd hD=>lc_walk nk c.bo w c1 hD a1⟩
theorem s_setLc (g:Good G k call cc W X) {i:Nat} {y:Str} {py:Pos} {elt tg it:Expr} {ifs:List Expr} {scope:Scope} {own:List (Str×Nat)} {pos spos:Pos} {m:Iv} {t:Tg} {mt:B} {me:E} (hy:cc.N[i]?=some y) (hyl:cc.sc.names.lookup y=some .local) (hk:cc.sc.kind= .function)
    (hl:(py.line==pos.line)=true) (ha:(scope.names.any fun (n,k)=>n==y&&(k== .local||k== .cell))=false) (hi:PI X tg it (tI G W call m)) (ok:BlkOk cc.N cc.sc scope own)
    (hg: ∀ (s:Shared) (H:Hp) (C:Addr) (cl:List (Str×Addr)) (fp:List Addr),PG (X.blk s H scope (compEnvC scope cl C X.env) fp) tg (tGA G (own.map (·.2)) t))
    (ht: ∀ (s:Shared) (H:Hp) (C:Addr) (cl:List (Str×Addr)) (fp:List Addr),PTs (X.blk s H scope (compEnvC scope cl C X.env) fp) ifs (tB_ G noW call mt))
    (he: ∀ (s:Shared) (H:Hp) (C:Addr) (cl:List (Str×Addr)) (fp:List Addr),PE (X.blk s H scope (compEnvC scope cl C X.env) fp) elt (tE G noW call me)) (hs: ∀ x,foldedSetIterable it X.env x=pure x):
    PS X (.Assign [.Name y py] (.ListComp elt [⟨tg,it,ifs,0⟩] scope pos) spos) (tS G W call (cAsg (mLc m t mt me (own.map (·.2))) (gN i))):=by
  refine (ps_setLc (i:=i) g.calm (by rw [g.N];exact g.nd) (by rw [g.N];exact hy) (by rw [g.sc];exact hyl) (sw_true (by rw [g.sc];exact hk) (by rw [g.sc];exact hyl) hl ha) hi (by rw [g.N,g.sc];exact ok) hg ht he hs).of fun D σ H q=>?_
  have q2:=tAsg_of q
  obtain ⟨s,Φ,c,q3⟩:=q2
  refine ⟨s,Φ,c,(Aft.bind q3).mono fun ds s1 a1=>fun K J H1 nk c1 w=>fun Dd hD=>lc_walk (Q:=fun x H1=>gName i x σ H1 D.nx) nk c.bo w c1 hD (a1.mono fun r s2 p=>fun v H2 c2=>?_)⟩
  have q4:=p v H2 c2
  obtain ⟨s5,Φ5,o5,s6,nb5,c5,e5,q5⟩:=q4
  simp only [gN] at e5
  split at e5
  · rename_i hl5
    cases e5
    exact q5 _ (c5.put nb5 hl5) (by simp)
  · cases e5
end
end Mi
namespace Mi
open PySem PySem.Spec PyProof.Rows L2
def mutD (h:List O) (f:List D→Option (List D)):D→Option (List O)
  | .loc n=>match h[n]? with
    |some (.lst ds)=>(f ds).map fun ds'=>h.set n (.lst ds')
    |_=>none
  |_=>none
def mutL (s:S) (f:List D→Option (List D)):R→Option S
  | .own (.fz d)=>(mutD s.h f d).map fun h=>⟨s.σ,h⟩
  | .own _=>none
  | .bor i=>match s.σ[i]? with
    |some (some (.lst ds))=>(f ds).map fun ds'=>⟨s.σ.set i (some (.lst ds')),s.h⟩
    |some (some (.fz d))=>(mutD s.h f d).map fun h=>⟨s.σ,h⟩
    |_=>none
def seeL (s:S) (r:R):Option (List D):=match peek s r with
  |some (.lst ds)=>some ds
  |_=>none
section
variable {G:GE} {k:Nat} {call:Call} {cc:CC} {W:WX} {X:Cx}
theorem Cf.mutCell {H:Hp} {h h':List O} {L:List (O×V)} {f:List D→Option (List D)} {d:D} {v:V} (c:Cf G H h L) (hm:(O.fz d,v)∈L) (e:mutD h f d=some h'): ∃ p us ds ds',v= .ref p∧H p=some (.lst us)∧f ds=some ds'∧deref h d=some (.lst ds)∧ds.length=us.length∧
    ∀ us' es ys K,es.length=ys.length→L.Perm (Fz es ys++K)→(∀ ρ H' M,RepDs G ρ H' M ds us→RepDs G ρ H' M es ys→RepDs G ρ H' M ds' us')→Cf G (upd H p (.lst us')) h' K:=by
  unfold mutD at e
  split at e
  · rename_i n
    split at e
    · rename_i ds hn
      simp only [Option.map_eq_some_iff] at e
      obtain ⟨ds',ef,eh⟩:=e
      subst eh
      obtain ⟨X,Y,eL⟩:=List.append_of_mem hm
      have c1:Cf G H h ((.fz (.loc n),v)::L):=by
        have:Cf G H h ((.fz (.loc n),v)::(X++Y)):=c.perm (by rw [eL];exact List.perm_middle)
        exact this.dup.perm (List.Perm.cons _ (by rw [eL];exact List.perm_middle.symm))
      obtain ⟨p,us,ev,t,l,c2⟩:=Cf.cellLst c1 hn
      subst ev
      refine ⟨p,us,ds,ds',rfl,t,ef,by simp [deref,hn,Mi.frz],l,fun us' es ys K le pm rep=>?_⟩
      have c3:Cf G H h (Fz ds us++(.fz (.loc n),.ref p)::(Fz es ys++K)):=c2.perm (List.Perm.append_left _ (List.Perm.cons _ pm))
      have c4:Cf G H h (Fz (ds++es) (us++ys)++(.fz (.loc n),.ref p)::K):=by
        rw [Fz_append l,List.append_assoc]
        exact c3.perm (List.Perm.append_left _ List.perm_middle.symm)
      have hlen:(ds++es).length=(us++ys).length:=by simp [l,le]
      exact (Cf.putCell (o':=.lst ds') (ho:=.lst us') hlen c4 hn (fun _ z=>by cases z) fun ρ M H' e r=>by
        have r1:RepDs G ρ H' M ds us:=by have:=RepDs.take ds.length r;rw [List.take_left,l,List.take_left] at this;exact this
        have r2:RepDs G ρ H' M es ys:=by have:=RepDs.drop ds.length r;rw [List.drop_left,l,List.drop_left] at this;exact this
        exact ⟨p,us',rfl,e,rep ρ H' M r1 r2,rfl⟩).drop
    · cases e
  · cases e
theorem CfS.mutate {σr:Sr} {H:Hp} {s s':S} {Φ:List (R×V)} {f:List D→Option (List D)} {r:R} {v:V} {es:List D} {ys:List V} (le:es.length=ys.length) (c:CfS G σr H s (FzR es ys++((r,v)::Φ))) (e:mutL s f r=some s'):
    ∃ p us ds ds',v= .ref p∧H p=some (.lst us)∧f ds=some ds'∧seeL s r=some ds∧ds.length=us.length∧
      ∀ us',(∀ ρ H' M,RepDs G ρ H' M ds us→RepDs G ρ H' M es ys→RepDs G ρ H' M ds' us')→CfS G σr (upd H p (.lst us')) s' Φ:=by
  have bo: ∀ i w,(R.bor i,w)∈Φ→σr[i]?=some (some w):=fun i w q=>c.bo i w (List.mem_append_right _ (List.mem_cons_of_mem _ q))
  have cell: ∀ (d:D) (h':List O),(O.fz d,v)∈slp s.σ σr++ow (FzR es ys++((r,v)::Φ))→mutD s.h f d=some h'→s'=⟨s.σ,h'⟩→(∃ x,ow ((r,v)::Φ)=x++ow Φ)→(∀ ds,deref s.h d=some (.lst ds)→seeL s r=some ds)→
      ∃ p us ds ds',v= .ref p∧H p=some (.lst us)∧f ds=some ds'∧seeL s r=some ds∧ds.length=us.length∧
      ∀ us',(∀ ρ H' M,RepDs G ρ H' M ds us→RepDs G ρ H' M es ys→RepDs G ρ H' M ds' us')→CfS G σr (upd H p (.lst us')) s' Φ:=by
    intro d h' hm em es' ⟨x,hx⟩ hsee
    obtain ⟨p,us,ds,ds',ev,t,ef,ed,l,q⟩:=Cf.mutCell c.cf hm em
    refine ⟨p,us,ds,ds',ev,t,ef,hsee ds ed,l,fun us' rep=>?_⟩
    subst es'
    have:=q us' es ys (slp s.σ σr++ow ((r,v)::Φ)) le (by
      rw [ow_append,ow_fz]
      exact List.perm_append_comm_assoc _ _ _) rep
    refine ⟨c.sl,bo, ?_⟩
    rw [hx] at this
    exact Cf.dropN (K:=x) (this.perm (List.perm_append_comm_assoc _ _ _))
  cases r with
  | own o=>
    cases o with
    | fz d=>
      simp only [mutL,Option.map_eq_some_iff] at e
      obtain ⟨h',em,eh⟩:=e
      refine cell d h' (List.mem_append_right _ ?_) em eh.symm ⟨[(.fz d,v)],rfl⟩ (fun ds q=>by simp [Mi.seeL,Mi.peek,Mi.frz,q])
      rw [ow_append]
      exact List.mem_append_right _ (by simp [ow])
    |lst ds=>cases e
    |dic ks ds=>cases e
    |ins cn fs ds=>cases e
    |dct ks ds=>cases e
  | bor i=>
    have ev:σr[i]?=some (some v):=c.bo i v (by simp)
    simp only [mutL] at e
    split at e
    · rename_i ds es1
      simp only [Option.map_eq_some_iff] at e
      obtain ⟨ds',ef,eh⟩:=e
      subst eh
      obtain ⟨X,Y,q1,q2⟩:=slp_at es1 ev
      have cf:Cf G H s.h (slp s.σ σr++ow (FzR es ys++Φ)):=by
        have:=c.cf
        rw [ow_append] at this ⊢
        exact this
      rw [q1,ow_append,ow_fz] at cf
      have c1:Cf G H s.h ((.lst ds,v)::(Fz es ys++(X++Y++ow Φ))):=cf.perm (by
        have e1:X++(O.lst ds,v)::Y++(Fz es ys++ow Φ)=X++(O.lst ds,v)::(Y++(Fz es ys++ow Φ)):=by simp
        rw [e1]
        refine List.perm_middle.trans (List.Perm.cons _ ?_)
        rw [←List.append_assoc]
        exact List.perm_append_comm_assoc _ _ _)
      obtain ⟨p,us,epv,t,l,z⟩:=Cf.lst c1
      subst epv
      refine ⟨p,us,ds,ds',rfl,t,ef,by simp [Mi.seeL,Mi.peek,es1,Mi.frz,deref],l,fun us' rep=>?_⟩
      have z2:Cf G H s.h ((.lst ds,.ref p)::(Fz (ds++es) (us++ys)++(X++Y++ow Φ))):=by
        rw [Fz_append l,List.append_assoc]
        exact z
      have z3:=z2.change (ho:=.lst us') (o':=.lst ds') (by simp [l,le]) (fun _ h=>by cases h) fun ρ M H' e r=>by
        have r1:RepDs G ρ H' M ds us:=by have:=RepDs.take ds.length r;rw [List.take_left,l,List.take_left] at this;exact this
        have r2:RepDs G ρ H' M es ys:=by have:=RepDs.drop ds.length r;rw [List.drop_left,l,List.drop_left] at this;exact this
        exact ⟨p,us',rfl,e,rep ρ H' M r1 r2,rfl⟩
      refine ⟨⟨by simp [c.sl.len],fun j o' q=>?_⟩,bo, ?_⟩
      · by_cases hj:i=j
        · subst hj;exact ⟨_,ev⟩
        · exact c.sl.at_ j o' (by simpa [List.getElem?_set,hj] using q)
      · show Cf G _ s.h (slp (s.σ.set i (some (.lst ds'))) σr++ow Φ)
        rw [q2]
        refine z3.perm ?_
        rw [List.append_assoc,List.append_assoc]
        exact List.perm_middle.symm
    · rename_i d es1
      simp only [Option.map_eq_some_iff] at e
      obtain ⟨h',em,eh⟩:=e
      obtain ⟨X,Y,q1,q2⟩:=slp_at es1 ev
      exact cell d h' (List.mem_append_left _ (by rw [q1];simp)) em eh.symm ⟨[],rfl⟩ (fun ds q=>by simp [Mi.seeL,Mi.peek,es1,Mi.frz,q])
    · cases e
theorem CfS.seeL {σr:Sr} {H:Hp} {s:S} {Φ:List (R×V)} {r:R} {v:V} {ds:List D} (c:CfS G σr H s Φ) (hm:(r,v)∈Φ) (e:seeL s r=some ds): ∃ p us,v= .ref p∧H p=some (.lst us)∧us.length=ds.length:=by
  simp only [Mi.seeL] at e
  split at e
  · rename_i ds' ep
    cases e
    obtain ⟨ρ,M,cp⟩:=c.parts
    obtain ⟨a,us,ea,t,rd⟩:=c.peek hm ep cp
    exact ⟨a,us,ea,t,rd.length.symm⟩
  · cases e
def plainO:Expr→Bool
  | .Call (.Name _ _) [] [] _=>false
  |_=>true
theorem base_ok {o:Expr} {a:Str} {env:Env} (h:plainO o=true):attributeBase o a env (eval o env)=eval o env:=by
  unfold attributeBase
  split
  · cases h
  · rfl
def fewB (n:Nat):Bool:=decide (n<29)
theorem few_ok {cpos:Pos} {es:List Expr} {env:Env} (h:es.all notStar=true) (hn:fewB es.length=true):((backTo cpos (starEach es env)).all (fun x=>!x.1)&&(backToKw cpos (keywordEach [] env)).all (fun x=>x.1.isSome)
      &&decide (es.length+([]:List Keyword).length+(if ([]:List Keyword).isEmpty then 0 else 1)<30))=true:=by
  have h1:(backTo cpos (starEach es env)).all (fun x=>!x.1)=true:=by
    have:=star_any (pos:=cpos) (env:=env) h
    rw [List.any_eq_false] at this
    rw [List.all_eq_true]
    intro x hx
    have:=this x hx
    simpa using this
  have h2:es.length<29:=of_decide_eq_true hn
  rw [h1]
  show (true&&true&&decide (es.length+0+0<30))=true
  simp;omega
def cApp (mx me:E):C:=fun call s=>(mx call s).flow fun x s1=>match Mi.seeL s1 x with
  |none=>.bad
  | some _=>(me call s1).flow fun y s2=>match take s2 y with
    | some (d,s3)=>(match mutL s3 (fun ds=>if fitsB (ds.length+1) then some (ds++[d]) else none) x with
      |some s4=>.nx s4
      |none=>.bad)
    |none=>.bad
theorem s_app (g:Good G k call cc W X) {x e:Expr} {mx me:E} {p pos spos:Pos} (hx:PE X x (tE G W call mx)) (he:PE X e (tE G W call me)) (hn:notStar e=true) (hp:plainO x=true) (hl:(p.endLine==pos.line)=true):
    PS X (.Expr (.Call (.Attribute x "append" p) [e] [] pos) spos) (tS G W call (cApp mx me)):=by
  have hall:[e].all notStar=true:=by simp [hn]
  refine (ps_expr (pe_bm PySem.F.plainAttrs_list PySem.F.slot_list_append PySem.F.type_list_append mt_append hx (pa_cons he pa_nil (star_cons hn)) (base_ok hp) (few_ok hall rfl) hl (star_cons hn) rfl) rfl).of fun D σ H q=>?_
  obtain ⟨s,Φ,nb,c,q⟩:=q
  refine ⟨s,Φ,c,(AftS.flow q).mono fun x s1 a1=>fun v H1 c1=>?_⟩
  split at a1
  · exact a1.elim
  · rename_i ds es
    obtain ⟨pp,us,ev,t,_⟩:=c1.seeL (v:=v) (by simp) es
    subst ev
    refine ⟨.inl ⟨rfl,us,.inl (.inl t)⟩,s1,_,c1,((AftS.flow a1).frame1).mono fun y s2 a2=>fun yv H2 c2=>?_⟩
    split at a2
    · rename_i d s3 et
      split at a2
      · rename_i s4 em
        have c3:CfS G σ H2 s3 (FzR [d] [yv]++((x,.ref pp)::Φ)):=c2.take et
        obtain ⟨p',us',ds1,ds2,ep,t',ef,_,l,fin⟩:=CfS.mutate rfl c3 em
        cases ep
        split at ef
        · rename_i hf
          cases ef
          refine ⟨pp,us',yv,rfl,rfl,t', ?_, ?_⟩
          · rw [←l];exact Nat.lt_of_succ_le (fits hf)
          · exact a2 σ _ (fin (us'++[yv]) fun ρ H' M r1 r2=>r1.append r2)
        · cases ef
      · exact a2.elim
    · exact a2.elim
theorem RepDs.dropLast {ρ:List Addr} {H:Hp} {M:List Addr} {ds:List D} {us:List V} (r:RepDs G ρ H M ds us):RepDs G ρ H M ds.dropLast us.dropLast:=by
  rw [List.dropLast_eq_take,List.dropLast_eq_take,r.length]
  exact r.take _
def cSetL (me mx mi:E):C:=fun call s=>(me call s).flow fun y s1=>match take s1 y with
  |none=>.bad
  | some (d,s2)=>(mx call s2).flow fun x s3=>(mi call s3).flow fun i s4=>match peek s4 i with
    | some (.int i)=>(match mutL s4 (fun ds=>(ixN ds.length i).map fun j=>ds.set j d) x with
      |some s5=>.nx s5
      |none=>.bad)
    |_=>.bad
def noSw:Expr→Bool
  | .Tuple .. =>false
  | .List .. =>false
  | .Starred .. =>false
  |_=>true
theorem sw_none {tg e:Expr} {env:Env} (h:noSw tg=true):swappedStores [tg] e env=pure none:=by
  cases tg<;>first|rfl|cases h
def notSlice:Expr→Bool
  | .Slice .. =>false
  |_=>true
theorem asg_sub {x i:Expr} {p:Pos} {env:Env} (h:notSlice i=true) (v:Value):assign (.Subscript x i p) env v=(do
    let ov ←holding [v] (eval x env)
    let iv ←holding [v,ov] (eval i env)
    standAt p
    holding [v,ov,iv] (setItem ov iv v)
    release [v,ov,iv] []):=by
  cases i<;>first|rfl|cases h
theorem plain_ix {i:Expr} (h:notSlice i=true):PlainIx i:=fun o j=>by
  cases i<;>first|rfl|cases h
theorem s_setL (g:Good G k call cc W X) {e x i:Expr} {me mx mi:E} {p pos:Pos} (he:PE X e (tE G W call me)) (hx:PE X x (tE G W call mx)) (hi:PE X i (tE G W call mi)) (hs:notSlice i=true):
    PS X (.Assign [.Subscript x i p] e pos) (tS G W call (cSetL me mx mi)):=by
  have hsw:swapsWithSole [.Subscript x i p] e pos.line X.env=pure false:=by
    show swapsWith e (some (.Subscript x i p)) pos.line X.env=pure false
    exact sw_sub
  refine (ps_asg he (pg_sub hx hi set_list (asg_sub hs)) hsw rfl rfl).of fun D σ H q=>?_
  obtain ⟨s,Φ,nb,c,q⟩:=q
  refine ⟨s,Φ,c,(AftS.flow q).mono fun y s1 a1=>fun yv H1 c1=>?_⟩
  split at a1
  · exact a1.elim
  · rename_i d s2 et
    have c2:=c1.take et
    refine ⟨s2,_,c2,((AftS.flow a1).frame1).mono fun x s3 a3=>fun xv H3 c3=>⟨s3,_,c3,((AftS.flow a3).frame (K:=[(x,xv),(.own (.fz d),yv)])).mono fun i s4 a4=>fun iv H4 c4=>?_⟩⟩
    split at a4
    · rename_i n ei
      split at a4
      · rename_i s5 em
        obtain ⟨ρ,M,cp⟩:=c4.parts
        have ev:iv= .int n:=c4.peek (by simp) ei cp
        subst ev
        have c5:CfS G σ H4 s4 (FzR [d] [yv]++((x,xv)::Φ)):=c4.drop.swap
        obtain ⟨pp,us,ds1,ds2,ex,t,ef,_,l,fin⟩:=CfS.mutate rfl c5 em
        subst ex
        simp only [Option.map_eq_some_iff] at ef
        obtain ⟨j,e1,e2⟩:=ef
        subst e2
        refine ⟨pp,us,n,j,rfl,rfl,t,by rw [←l];exact e1, ?_⟩
        exact a4 σ _ (fin (us.set j yv) fun ρ H' M r1 r2=>by
          obtain ⟨w,r',ew,q1,q2⟩:=r2
          cases ew
          exact r1.set j q1)
      · exact a4.elim
    · exact a4.elim
end
end Mi
namespace Mi
open PySem PySem.Spec PyProof.Rows L2
theorem enum_new1 {v:Value} {o:Obj} {H:Heap→Prop} (bg:Begins v o H):
    Meets (Builtin.«enumerate.__new__» ⟨[.type "enumerate",v],[]⟩) (fun _ R s=>H s.heap∧
      R (.ok (.ret (.ref (s.heap.push o).objs.size))) {s with heap:=(s.heap.push o).push {cls:=.type "enumerate",data:=.fields #[.none,.bool false,.ref s.heap.objs.size,rawInt 0,.none,.none]}}):=
  .of_wp fun prog w A R s z=>by
    obtain ⟨hp,g,d,tk,os⟩:=s;obtain ⟨z1,z⟩:=z
    have hsub:=sub_enumerate
    have q0: ∀ {A':Around} {E:Value→Shared→Prop} {Q:Value→Shared→Prop},Q (.ref hp.objs.size) ⟨hp.push o,g,d,tk,os⟩→wpAny (model prog w) A' (pyIter v) Q E ⟨hp,g,d,tk,os⟩:=
      fun q=>bg.iter prog w _ _ ⟨hp,g,d,tk,os⟩ _ z1 q
    wp_walk using q0
    refine wpAny_stack_any fun st=>wpAny_pure ?_
    split
    · rename_i cl _ _ _ _ _
      cases (cl==Value.type "enumerate")
      · wp_walk using q0
        exact ⟨_,rfl,z⟩
      · wp_walk using q0
        exact ⟨_,rfl,z⟩
    · wp_walk using q0
      exact ⟨_,rfl,z⟩
theorem enum_begin1 {prog:Program} {w:World} {A:Around} {E:Value→Shared→Prop} {s:Shared} {v:Value} {o:Obj} {H:Heap→Prop} {Q:Value→Shared→Prop} (bg:Begins v o H) (z1:H s.heap)
    (z: ∀ h',IsEnum h' (s.heap.objs.size+1) s.heap.objs.size 0 .none→h'.get? s.heap.objs.size=some o→(∀ b u,s.heap.get? b=some u→h'.get? b=some u)→Q (.ref (s.heap.objs.size+1)) {s with heap:=h'}):
    wpAny (model prog w) A (call (.type "enumerate") [v]) Q E s:=by
  refine callType_new F.called_enumerate (by decide) (F.typeCall_enumerate_1 _) (F.newCall_enumerate_1 _) (fun obj=>F.args_object_init_2 obj _) F.entry_enumerate_new (enum_new1 bg) ⟨z1, ?_⟩
  have hz:(s.heap.push o).objs.size=s.heap.objs.size+1:=Heap.size_push ..
  show _∧_
  rw [hz]
  have he:IsEnum ((s.heap.push o).push {cls:=.type "enumerate",data:=.fields #[.none,.bool false,.ref s.heap.objs.size,rawInt 0,.none,.none]}) (s.heap.objs.size+1) s.heap.objs.size 0 .none:=by
    have q:=Heap.get?_push_size (s.heap.push o) (o:={cls:=.type "enumerate",data:=.fields #[.none,.bool false,.ref s.heap.objs.size,rawInt 0,.none,.none]}) rfl
    rw [hz] at q
    exact q
  exact ⟨⟨_,he,rfl⟩,z _ he (Heap.get?_push_of_some _ (Heap.get?_push_size _ bg.free)) fun b u x=>Heap.get?_push_of_some _ (Heap.get?_push_of_some _ x)⟩
def pairO (b:Bool) (i:Nat) (x:V) (ho:HO):Prop:=if b=true then ∃ ob,ho= .frz ob (.tup [.int (i:Nat),x])∧ob.dict=none else ho= .tup [.int (i:Nat),x]
def IteT (K:PySem.W.Frag) (a:Addr) (b:Bool):It:=
  ⟨fun i H=> ∃ (xs:List V) (x:V),SqT K H a xs∧xs[i]?=some x,fun i H v H'=> ∃ T x ho,v= .ref T∧H T=none∧H'=upd H T ho∧pairO b i x ho∧∀ xs,SqT K H a xs→xs[i]?=some x,fun i H=> ∃ xs:List V,SqT K H a xs∧xs.length=i⟩
theorem turn_enumT {P:Program} {w:World} {K:PySem.W.Frag} {elts:List Expr} {kk:Nat} {tpos:Pos} (bb:Bool) (a e it:Addr) (hat:a≠it) (hae:a≠e):
    Turn P w K (.Tuple elts kk tpos) (IteT K a bb) [e,it] e (fun i h=>(∃ old,IsEnum h e it ((i:Nat):Int) old)∧h.IsTupleIter it a i∧e≠it) where
  mem:=by simp
  obj:=fun i h st b hb=>by
    obtain ⟨⟨old,he⟩,⟨o,ho,hc,hd⟩,_⟩:=st
    rcases (show b=e∨b=it by simpa using hb) with z|z
    · subst z;exact ⟨_,he,fun v q=>nomatch q⟩
    · subst z;exact ⟨o,ho,fun v q=>by rw [hd] at q;cases q⟩
  keep:=fun i h h' st kp=>by
    obtain ⟨⟨old,he⟩,hi,hne⟩:=st
    exact ⟨⟨old,kp e (by simp) _ he⟩,hi.at fun o q=>kp it (by simp) o q,hne⟩
  item:=by
    intro X hP hw hK hc i pins s σ H E I hf st hg
    subst hP hw hK
    obtain ⟨⟨old,he⟩,hit,hne⟩:=st
    obtain ⟨xs,x,hq,hx⟩:=hg
    obtain ⟨its,rv,p,hz⟩:=I.tuple hq
    obtain ⟨u,hu,ru⟩:=rv.get hx
    have hel:=Heap.lt_size he
    have hil:it<s.heap.objs.size:=by obtain ⟨_,q,_⟩:=hit;exact Heap.lt_size q
    have hlt:i<its.toArray.size:=by
      rcases Nat.lt_or_ge i its.length with z|z
      · simpa using z
      · rw [List.getElem?_eq_none z] at hu;cases hu
    have Dr:Draws X.prog X.w X.A.in1 it [it,a] its.toArray.size (fun i v=>its.toArray[i]?=some v) (fun i h=>h.IsTupleIter it a i∧h.IsTuple a its.toArray):=Draws.tuple (show X.A.in1.handled=none from I.ok.hd hc) it a hat _
    refine wpAny_pyNext_enum_itemD Dr he ⟨hit,p⟩ hlt hne (by simp [hne,Ne.symm hae]) fun y h' tk hy ho hst hT hsz hk=>?_
    have ey:y=u:=by
      have:its.toArray[i]?=some u:=by simpa using hu
      rw [this] at hy
      exact (Option.some.inj hy).symm
    subst ey
    refine ⟨_,rfl,wpAny_letOwnedTupleGo_enum (s:={s with heap:=h',toks:=tk+1}) ho fun h2 he2 sb=>?_⟩
    have hT2:h2.get? s.heap.objs.size=some {cls:=.type "tuple",data:=.seq #[.int i tk,y]}:=(sb.2 _ (Nat.ne_of_gt hel)).trans hT
    obtain ⟨ho2,hpo,new⟩: ∃ ho2,pairO bb i x ho2∧ObjOk X.prog X.w (upd H s.heap.objs.size ho2) h2 s.heap.objs.size ho2:=by
      cases bb with
      |false=>exact ⟨.tup [.int (i:Nat),x],rfl,by show 2≤sizeLine;decide,[.int i tk,y],.cons ⟨_,rfl⟩ (.cons ru .nil),⟨_,hT2,rfl,_,rfl⟩⟩
      |true=>exact ⟨.frz _ (.tup [.int (i:Nat),x]),⟨_,rfl,rfl⟩,hT2,by show 2≤sizeLine;decide,[.int i tk,y],.cons ⟨_,rfl⟩ (.cons ru .nil),⟨_,hT2,rfl,_,rfl⟩⟩
    have I1:Inv X pins σ (upd H s.heap.objs.size ho2) {s with heap:=h2,toks:=tk+1}:=
      I.turnedNew (ch:=[e,it]) (fun b ob hb q=>(sb.2 b (fun z=>hb (by simp [z]))).trans (hk b ob (fun z=>hb (by simp [z])) (fun z=>hb (by simp [z])) q)) hf (Nat.le_refl _) new
    refine ⟨.ref s.heap.objs.size,_,I1,rfl,⟨_,x,ho2,rfl,I.hok.fresh (Nat.le_refl _),rfl,hpo,fun ys hys=>?_⟩,⟨⟨y, ?_⟩,hst.1.at fun o q=>(sb.2 it (Ne.symm hne)).trans q,hne⟩,fun b hb=>?_⟩
    · rw [I.tuple_inj hys hq];exact hx
    · have e1:((i+1:Nat):Int)=(i:Int)+1:=by omega
      rw [e1];exact he2
    · have hb':b<s.heap.objs.size:=by
        rcases (show b=e∨b=it by simpa using hb) with z|z
        · rw [z];exact hel
        · rw [z];exact hil
      rw [upd_ne (Nat.ne_of_lt hb')]
      exact (hf b hb).1
  done:=by
    intro X hP hw hK hc i pins s σ H E I hf st hg
    subst hP hw hK
    obtain ⟨⟨old,he⟩,hit,hne⟩:=st
    obtain ⟨xs,hq,hx⟩:=hg
    obtain ⟨its,rv,p,hz⟩:=I.tuple hq
    obtain ⟨f0,f1,f2,f3,f4,f5⟩:=hf it (by simp)
    have Dr:Draws X.prog X.w X.A.in1 it [it,a] its.toArray.size (fun i v=>its.toArray[i]?=some v) (fun i h=>h.IsTupleIter it a i∧h.IsTuple a its.toArray):=Draws.tuple (show X.A.in1.handled=none from I.ok.hd hc) it a hat _
    have en:its.toArray.size=i:=by rw [←hx,rv.length];simp
    exact wpAny_pyNext_enum_endD Dr he (by rw [en];exact ⟨hit,p⟩) fun h' eb=>⟨rfl,I.turned (t':=s.toks) (fun b o hb q=>eb b o hb q) f0 f1 f3 f4 f5⟩
  self:=fun A i s Q E st h=>by
    obtain ⟨⟨_,he⟩,_⟩:=st
    exact wpAny_pyIter_enum he h
def iEnumT (K:PySem.W.Frag) (b:Bool) (ta:TA):TI:=fun σ H R=>ta σ H fun vs H1=> ∃ a xs,vs=[.ref a]∧SqT K H1 a xs∧R (IteT K a b) H1
theorem pi_enumT {X:Cx} {bb:Bool} {e:Expr} {ta:TA} {p pos tpos:Pos} {elts:List Expr} {kk:Nat} (hg:Gl X "enumerate") (hm:X.mg "enumerate"=none) (ha:PA X [e] ta) (hs:starEach [e] X.env=[(false,eval e X.env)]):
    PI X (.Tuple elts kk tpos) (.Call (.Name "enumerate" p) [e] [] pos) (iEnumT X.K bb ta):=by
  refine ⟨fun pins s σ H R I h=>?_⟩
  refine Call_ (ld_blt I hg hm boot_enumerate (PyProof.Rows.callWith_type1 (thn (ha.run pos pins s σ H _ I h) fun us s1 ⟨vs,H1,I1,r1,q1⟩=>?_) hs rfl))
  obtain ⟨a,xs,ex,hq,q⟩:=q1
  subst ex
  cases r1 with
  | cons r rr=>
    cases rr
    cases r
    obtain ⟨its,rv,p',hz⟩:=I1.tuple hq
    have hal:a<s1.heap.objs.size:=by obtain ⟨_,z,_⟩:=p';exact Heap.lt_size z
    refine enum_begin1 (begins_tuple a its.toArray) p' fun h' he hit hk=>wpAny_pyIter_enum he ?_
    have I2:Inv X pins σ H1 {s1 with heap:=h'}:=I1.kept (t':=s1.toks) hk
    refine ⟨s1.heap.objs.size+1,[s1.heap.objs.size+1,s1.heap.objs.size],_,_,H1,rfl,I2,turn_enumT bb a (s1.heap.objs.size+1) s1.heap.objs.size (Nat.ne_of_lt hal) (Nat.ne_of_lt (Nat.lt_succ_of_lt hal)),⟨⟨.none,he⟩,⟨_,hit,rfl,rfl⟩,Nat.succ_ne_self _⟩,fun b hb=>?_,q⟩
    have hle:s1.heap.objs.size≤b:=by
      rcases (show b=s1.heap.objs.size+1∨b=s1.heap.objs.size by simpa using hb) with z|z
      · rw [z];exact Nat.le_succ _
      · rw [z];exact Nat.le_refl _
    exact I1.fpOk hle (I1.hok.fresh hle)
section
variable {G:GE} {k:Nat} {call:Call} {cc:CC} {W:WX} {X:Cx}
def enumD (ds:List D):List D:=ds.mapIdx fun i d=>.tup [.int (i:Nat),d]
def iEnB (m:As):Iv:=fun call s=>(m call s).bind fun ds s1=>match ds with
  |[.tup ds]=>.ok (enumD ds) s1
  |_=>.bad
def iEn (m:As):Iv:=fun call s=>(m call s).bind fun ds s1=>match ds with
  |[d]=>lift s1 ((itemsD d).map enumD)
  |_=>.bad
theorem CfS.pair {σr:Sr} {H:Hp} {s:S} {Φ:List (R×V)} {d:D} {v:V} {i:Int} {T:Addr} (c:CfS G σr H s ((.own (.fz d),v)::Φ)) (hT:H T=none) {ho:HO} (ht:isTupO G [.int i,v] ho):CfS G σr (upd H T ho) s ((.own (.fz (.tup [.int i,d])),.ref T)::Φ):=by
  have c2:CfS G σr H s (FzR [.int i,d] [.int i,v]++Φ):=c.simple (d:=.int i) rfl
  exact c2.pack fun L q=>Cf.newTup rfl q hT ht
theorem walks_enum {d:D} {ds:List D} {v:V} {a:Addr} (hb:G.bare=false) (e:listD d=some ds) (hv:v= .ref a):Walks G (Ite G.K a) [(.own (.fz d),v)] (enumD ds):=by
  intro σr H s Φ c
  subst hv
  obtain ⟨ρ,M,cp⟩:=c.parts
  have r:=c.peek (r:=.own (.fz d)) (v:=.ref a) (d:=d) (by simp) (by cases d<;>first|rfl|cases e) cp
  obtain ⟨a',vs,ea,t,rd⟩:=listD_of r e
  cases ea
  refine ⟨fun i hi=>⟨vs,vs[i]'(by rw [←rd.length];simpa [enumD] using hi),t,by simp⟩,fun i d' x H' ei ⟨T,y,ex,hT,eH,hy⟩=>?_,⟨vs,t,by rw [←rd.length];simp [enumD]⟩⟩
  subst eH;subst ex
  have ey:=hy vs t
  simp only [enumD,List.getElem?_mapIdx,Option.map_eq_some_iff] at ei
  obtain ⟨d0,e0,e1⟩:=ei
  subst e1
  obtain ⟨w,hw,q⟩:=rd.get e0
  rw [ey] at hw
  cases hw
  exact CfS.pair (CfS.cpMore (K:=[]) c cp q) hT ⟨hb,rfl⟩
theorem pairO_of {i:Nat} {x:V} {ho:HO} (h:pairO G.bare i x ho):isTupO G [.int (i:Nat),x] ho:=by
  unfold pairO at h
  split at h
  · obtain ⟨ob,e,d⟩:=h;subst e;exact ⟨rfl,fun _=>d⟩
  · rename_i hb
    subst h
    exact ⟨by simpa using hb,rfl⟩
theorem walks_enumT {ds:List D} {v:V} {a:Addr} (hv:v= .ref a):Walks G (IteT G.K a G.bare) [(.own (.fz (.tup ds)),v)] (enumD ds):=by
  intro σr H s Φ c
  subst hv
  obtain ⟨ρ,M,cp⟩:=c.parts
  have r:=c.peek (r:=.own (.fz (.tup ds))) (v:=.ref a) (d:=.tup ds) (by simp) rfl cp
  obtain ⟨a',vs,ea,t0,rd⟩:=r
  have t:=t0.sq
  cases ea
  refine ⟨fun i hi=>⟨vs,vs[i]'(by rw [←rd.length];simpa [enumD] using hi),t,by simp⟩,fun i d' x H' ei ⟨T,y,ho,ex,hT,eH,hpo,hy⟩=>?_,⟨vs,t,by rw [←rd.length];simp [enumD]⟩⟩
  subst eH;subst ex
  have ey:=hy vs t
  simp only [enumD,List.getElem?_mapIdx,Option.map_eq_some_iff] at ei
  obtain ⟨d0,e0,e1⟩:=ei
  subst e1
  obtain ⟨w,hw,q⟩:=rd.get e0
  rw [ey] at hw
  cases hw
  exact CfS.pair (CfS.cpMore (K:=[]) c cp q) hT (pairO_of hpo)
theorem i_enum (g:Good G k call cc W X) (hb:G.bare=false) {e:Expr} {elts:List Expr} {kk:Nat} {m:As} {p pos tpos:Pos} (hg:cc.sc.names.lookup ("enumerate":Str)=some .globalImplicit) (h:PA X [e] (tL G W call m)) (hn:notStar e=true):PI X (.Tuple elts kk tpos) (.Call (.Name "enumerate" p) [e] [] pos) (tI G W call (iEn m)):=by
  refine ((pi_enum (g.gl hg) (g.blt _ (by decide)) h (star_cons hn)).or (pi_enumT (bb:=G.bare) (g.gl hg) (g.blt _ (by decide)) h (star_cons hn))).of fun σ H Q q=>?_
  obtain ⟨s,Φ,c,q⟩:=q
  have q1:=Aft.bind q
  cases em:m call s with
  |bad=>rw [em] at q1;exact q1.elim
  |exc cn d s1=>exact .inl ⟨s,Φ,c,by rw [em] at q1 ⊢;exact q1⟩
  | ok ds s1=>
    rw [em] at q1
    match ds,em,q1 with
    |[],em,q1=>exact q1.elim
    |_::_::_,em,q1=>exact q1.elim
    | [d],em,q1=>
      obtain ⟨es,ed,q3⟩:=Aft.lift (x:=(itemsD d).map enumD) q1
      simp only [Option.map_eq_some_iff] at ed
      obtain ⟨is,ei,ee⟩:=ed
      subst ee
      have two: ∀ vs:List V,[d].length=vs.length→∃ v,vs=[v]:=fun vs l=>by
        match vs,l with
        |[v],_=>exact ⟨v,rfl⟩
      cases d with
      | tup ds'=>
        cases ei
        refine .inr ⟨s,Φ,c, ?_⟩
        rw [em]
        intro vs H1 l c1
        obtain ⟨v,rfl⟩:=two vs l
        obtain ⟨ρ,M,cp⟩:=c1.parts
        obtain ⟨a,us,ea,t,rd⟩:=c1.peek (r:=.own (.fz (.tup is))) (d:=.tup is) (v:=v) (by simp [FzR]) rfl cp
        subst ea
        exact ⟨a,us,rfl,by rw [g.K];exact t.sq,by rw [g.K];exact q3 [(.own (.fz (.tup is)),.ref a)] _ H1 (noB_cons fun _ _ z=>by simp at z) c1 (walks_enumT rfl)⟩
      | lst ds'=>
        have e2:listD (.lst ds')=some is:=ei
        refine .inl ⟨s,Φ,c, ?_⟩
        rw [em]
        intro vs H1 l c1
        obtain ⟨v,rfl⟩:=two vs l
        obtain ⟨ρ,M,cp⟩:=c1.parts
        obtain ⟨a,us,ea,t,rd⟩:=listD_of (c1.peek (r:=.own (.fz (.lst ds'))) (d:=.lst ds') (v:=v) (by simp [FzR]) rfl cp) e2
        subst ea
        exact ⟨a,us,rfl,by rw [g.K];exact t,by rw [g.K];exact q3 [(.own (.fz (.lst ds')),.ref a)] _ H1 (noB_cons fun _ _ z=>by simp at z) c1 (walks_enum hb e2 rfl)⟩
      | scr ns=>
        have e2:listD (.scr ns)=some is:=ei
        refine .inl ⟨s,Φ,c, ?_⟩
        rw [em]
        intro vs H1 l c1
        obtain ⟨v,rfl⟩:=two vs l
        obtain ⟨ρ,M,cp⟩:=c1.parts
        obtain ⟨a,us,ea,t,rd⟩:=listD_of (c1.peek (r:=.own (.fz (.scr ns))) (d:=.scr ns) (v:=v) (by simp [FzR]) rfl cp) e2
        subst ea
        exact ⟨a,us,rfl,by rw [g.K];exact t,by rw [g.K];exact q3 [(.own (.fz (.scr ns)),.ref a)] _ H1 (noB_cons fun _ _ z=>by simp at z) c1 (walks_enum hb e2 rfl)⟩
      |_=>cases ei
theorem i_enumB (g:Good G k call cc W X) {e:Expr} {elts:List Expr} {kk:Nat} {m:As} {p pos tpos:Pos} (hg:cc.sc.names.lookup ("enumerate":Str)=some .globalImplicit) (h:PA X [e] (tL G W call m)) (hn:notStar e=true):PI X (.Tuple elts kk tpos) (.Call (.Name "enumerate" p) [e] [] pos) (tI G W call (iEnB m)):=by
  refine (pi_enumT (bb:=G.bare) (g.gl hg) (g.blt _ (by decide)) h (star_cons hn)).of fun σ H Q q=>?_
  obtain ⟨s,Φ,c,q⟩:=q
  refine ⟨s,Φ,c,(Aft.bind q).mono fun ds s1 a1=>fun vs H1 l c1=>?_⟩
  split at a1
  · rename_i is
    obtain ⟨v,rfl⟩: ∃ v,vs=[v]:=by
      match vs,l with
      |[v],_=>exact ⟨v,rfl⟩
    obtain ⟨ρ,M,cp⟩:=c1.parts
    obtain ⟨a,us,ea,t,rd⟩:=c1.peek (r:=.own (.fz (.tup is))) (d:=.tup is) (v:=v) (by simp [FzR]) rfl cp
    subst ea
    exact ⟨a,us,rfl,by rw [g.K];exact t.sq,by rw [g.K];exact a1 [(.own (.fz (.tup is)),.ref a)] _ H1 (noB_cons fun _ _ z=>by simp at z) c1 (walks_enumT rfl)⟩
  · exact a1.elim
def mChain (f f':D→D→Option O) (a b c:E):E:=fun call s=>(a call s).bind fun x s1=>(b call s1).bind fun y s2=>match (peek s2 x).bind fun d1=>(peek s2 y).bind fun d2=>f d1 d2 with
  |some (.fz (.bl true))=>(c call s2).bind fun z s3=>lift s3 ((peek s3 y).bind fun d2=>(peek s3 z).bind fun d3=>(f' d2 d3).map R.own)
  |some (.fz (.bl false))=>.ok (.own (.fz (.bl false))) s2
  |_=>.bad
def mDic0:E:=fun _ s=>.ok (.own (.dic [] [])) s
theorem e_dic0 {pos:Pos}:PE X (.Dict [] [] pos) (tE G W call mDic0):=pe_dnewK.of fun σ H Q h=>by
  obtain ⟨s,Φ,c,a⟩:=h
  intro d hd
  exact a _ _ (CfS.more (K:=[]) c (Cf.newDic (ks:=[]) (ds:=[]) (vs:=[]) rfl rfl c.cf hd))
def isCont:O→Bool
  | .fz _=>false
  |_=>true
def mCell (m:E):E:=fun call s=>(m call s).bind fun x s1=>match x with
  | .own o=>if isCont o then .ok (.own (.fz (.loc s1.h.length))) ⟨s1.σ,s1.h++[o]⟩ else .bad
  |_=>.bad
theorem e_cell {e:Expr} {m:E} (h:PE X e (tE G W call m)):PE X e (tE G W call (mCell m)):=h.of fun σ H Q q=>by
  obtain ⟨s,Φ,c,a⟩:=q
  refine ⟨s,Φ,c,(Aft.bind a).mono fun x s1 a1=>fun v H1 c1=>?_⟩
  split at a1
  · rename_i o
    split at a1
    · rename_i hc
      refine a1 v H1 ⟨c1.sl,fun i w z=>?_, ?_⟩
      · rcases List.mem_cons.mp z with z|z
        · cases z
        · exact c1.bo i w (List.mem_cons_of_mem _ z)
      · have c2:Cf G H1 s1.h ((o,v)::(slp s1.σ σ++ow Φ)):=c1.cf.perm List.perm_middle
        exact (c2.newCell fun d z=>by subst z;cases hc).perm List.perm_middle.symm
    · exact a1.elim
  · exact a1.elim
end
end Mi
namespace Mi
open PySem PySem.Spec PyProof.Rows L2
section
variable {G:GE} {k:Nat} {call:Call} {cc:CC} {W:WX} {X:Cx}
theorem Cf.alloc {H:Hp} {h:List O} {L:List (O×V)} {p:Addr} {o:HO} (c:Cf G H h L) (hp:H p=none):Cf G (upd H p o) h L:=by
  obtain ⟨ρ,M,cp⟩:=c
  exact ⟨ρ,M,(Cp.alloc cp hp).1⟩
theorem CfS.alloc {σr:Sr} {H:Hp} {s:S} {Φ:List (R×V)} {p:Addr} {o:HO} (c:CfS G σr H s Φ) (hp:H p=none):CfS G σr (upd H p o) s Φ:=⟨c.sl,c.bo,c.cf.alloc hp⟩
def cRaise (c:Str) (r:As):C:=fun call s=>(r call s).flow fun ds s1=>match ds with
  |[d]=>.exc c d s1
  |_=>.bad
theorem s_raise (g:Good G k call cc W X) {c f:Str} {e:Expr} {r:As} {p pos pos2:Pos} (hc:(c,f)∈cc.exs) (hg:cc.sc.names.lookup c=some .globalImplicit) (h:PA X [e] (tL G W call r)) (hn:notStar e=true):
    PS X (.Raise (some (.Call (.Name c p) [e] [] pos)) none pos2) (tS G W call (cRaise c r)):=by
  obtain ⟨C,hE⟩:=g.exs c f hc
  have R:=g.xr c C f hE
  refine (ps_raise g.calm g.tk (pmk_row (p:=p) (pos:=pos) R (g.room.mono (by omega)) (g.gl hg) h (star_cons hn))).of fun D σ H q=>?_
  obtain ⟨s,Φ,nb,cf,q⟩:=q
  refine ⟨s,Φ,cf,(AftS.flow q).mono fun ds s1 a1=>fun vs H1 l c1=>?_⟩
  match ds,a1,l,c1 with
  | [d],a1,l,c1=>
    match vs,l,c1 with
    |[v],_,c1=>exact ⟨v,rfl,fun a ha=>a1 σ (.ref C) (some a) _ ⟨C,f,a,v,rfl,hE,rfl,upd_same,c1.alloc ha⟩⟩
  |[],a1,_,_=>exact a1.elim
  |_::_::_,a1,_,_=>exact a1.elim
def fldD (f:Str):D→Option O
  | .ins c fs xs=>((fs.zip xs).lookup f).map .fz
  | .xn _ g d=>if f=g then some (.fz d) else none
  |_=>none
theorem _root_.L2.PE.or {X:Cx} {e:Expr} {t t':TE} (h:PE X e t) (h':PE X e t'):PE X e (fun σ H Q=>t σ H Q∨t' σ H Q):=⟨fun pins s σ H Q I q=>by
  rcases q with q|q
  · exact h.run pins s σ H Q I q
  · exact h'.run pins s σ H Q I q⟩
def fldX (f:Str):D→Option O
  | .xn _ g d=>if f=g then some (.fz d) else none
  |_=>none
theorem e_fldX (g:GoodB G cc X) {e:Expr} {m:E} {f:Str} {pos:Pos} (he:PE X e (tE G W call m)) (hb:attributeBase e f X.env (eval e X.env)=eval e X.env):PE X (.Attribute e f pos) (tE G W call (mOne (fldX f) m)):=by
  refine ⟨fun pins s σ H Q I h=>?_⟩
  obtain ⟨st,Φ,c,q⟩:=tOne h
  refine attr_of hb (thn (he.run pins s σ H _ I ⟨st,Φ,c,q⟩) fun u s1 ⟨x,H1,I1,rx,rr⟩=>?_)
  obtain ⟨ρ,M,h0,L,d,o,cp,t,ef,fin⟩:=rr
  unfold fldX at ef
  split at ef
  · rename_i cn gf d1
    split at ef
    · rename_i hfg
      cases ef
      subst hfg
      obtain ⟨a,a',C,v,hcur,ex,hE,hH,_,rv⟩:=t
      subst ex
      obtain ⟨oe,hm,hc,hdct,vs,hdat⟩:=g.cur a a' C hcur
      obtain rfl:u=Value.ref a:=rx
      have R:=g.xr cn C f hE
      have hno:PySem.W.findIn X.K (.ref C) f=some none:=by
        obtain ⟨_,_,_,_,_,_,_,_,z,_⟩:=R.ex
        exact z
      have T:=R.rd
      obtain ⟨atA,_⟩:=I1.pin (a,oe) (List.mem_append_left _ hm)
      have hx:ObjOk X.prog X.w H1 s1.heap a' (.xd [(f,v)]):=I1.hok a' _ hH
      obtain ⟨mA,hns,hr⟩:=hx
      obtain ⟨od,ho,hl⟩:=lookIn_ns hns
      have l:List.lookup f [(f,v)]=some v:=by simp [List.lookup]
      obtain ⟨u,hu,ru⟩:=RelO.some_of (v:=v) (o:=mA f) (by rw [←l];exact hr f)
      have J:PySem.W.InstAt s1.heap a oe C (some od):=⟨atA,hc,by unfold PySem.W.notCls;rw [hdat]<;>rfl,by rw [hdct];exact ho⟩
      exact HandSPX.exc_get I1.kIn J T.ga T.gg T.exC (PySem.W.findObj_own T.hdC hno rfl (by rw [hl,hu])) (handed_of ru) ⟨v,H1,I1.tok _,ru,fin v H1 (Cf.fz1.mpr ⟨ρ,M,cp,rv⟩)⟩
    · cases ef
  · cases ef
end
end Mi
namespace Mi
open PySem PySem.Spec PyProof.Rows L2
mutual
def cleanD:D→Bool
  | .xn _ _ _=>false
  | .tup ds=>cleanDs ds
  | .lst ds=>cleanDs ds
  | .dic _ ds=>cleanDs ds
  | .ins _ _ ds=>cleanDs ds
  | .dct _ ds=>cleanDs ds
  |_=>true
def cleanDs:List D→Bool
  |[]=>true
  |d::ds=>cleanD d&&cleanDs ds
end
def cleanO:O→Bool
  | .fz d=>cleanD d
  | .lst ds=>cleanDs ds
  | .dic _ ds=>cleanDs ds
  | .ins _ _ ds=>cleanDs ds
  | .dct _ ds=>cleanDs ds
mutual
theorem kf_clean: ∀ (n:Nat) (d:D),kfD n d=true→cleanD d=true
  |_,.non,_=>rfl
  |_,.bl _,_=>rfl
  |_,.int _,_=>rfl
  |_,.str _,_=>rfl
  |n+1,.tup ds,h=>kfs_clean n ds h
  |0,.tup ds,h=>by cases h
  |n,.lst _,h=>by cases n<;>cases h
  |n,.dic _ _,h=>by cases n<;>cases h
  |n,.ins _ _ _,h=>by cases n<;>cases h
  |n,.dct _ _,h=>by cases n<;>cases h
  |n,.loc _,h=>by cases n<;>cases h
  |n,.fn _,h=>by cases n<;>cases h
  |n,.scr _,h=>by cases n<;>cases h
  |n,.ty _,h=>by cases n<;>cases h
  |n,.cls _,h=>by cases n<;>cases h
  |n,.xn _ _ _,h=>by cases n<;>cases h
  |n,.lk _ _,h=>by cases n<;>cases h
theorem kfs_clean: ∀ (n:Nat) (ds:List D),kfDs n ds=true→cleanDs ds=true
  |_,[],_=>rfl
  | n,d::ds,h=>by
    have z:(kfD n d&&kfDs n ds)=true:=by cases n<;>exact h
    obtain ⟨h1,h2⟩:=Bool.and_eq_true_iff.mp z
    show (cleanD d&&cleanDs ds)=true
    rw [kf_clean n d h1,kfs_clean n ds h2];rfl
end
abbrev GE.at (G:GE) (z:Option (Addr×Addr×Addr)):GE:={G with cur:=z}
section
variable {G:GE} {z:Option (Addr×Addr×Addr)} {ρ:List Addr} {H:Hp} {M:List Addr}
mutual
theorem RepD.into (hz:G.cur=none): ∀ (d:D) (v:V),RepD G ρ H M d v→RepD (G.at z) ρ H M d v∧cleanD d=true
  | .non,v,h=>⟨h,rfl⟩
  | .bl b,v,h=>⟨h,rfl⟩
  | .int i,v,h=>⟨h,rfl⟩
  | .str x,v,h=>⟨h,rfl⟩
  | .tup ds,v,h=>by obtain ⟨a,vs,e,t,r⟩:=h;have q:=RepDs.into hz ds vs r;exact ⟨⟨a,vs,e,t,q.1⟩,q.2⟩
  | .lst ds,v,h=>by obtain ⟨a,vs,e,t,n,r⟩:=h;have q:=RepDs.into hz ds vs r;exact ⟨⟨a,vs,e,t,n,q.1⟩,q.2⟩
  | .dic ks ds,v,h=>by obtain ⟨a,vs,e,t,l,n,r⟩:=h;have q:=RepDs.into hz ds vs r;exact ⟨⟨a,vs,e,t,l,n,q.1⟩,q.2⟩
  | .ins c fs ds,v,h=>by obtain ⟨a,C,dx,vs,e,g,t,l,n,r⟩:=h;have q:=RepDs.into hz ds vs r;exact ⟨⟨a,C,dx,vs,e,g,t,l,n,q.1⟩,q.2⟩
  | .dct ks ds,v,h=>by obtain ⟨a,bs,vs,e,t,l,fk,n,rk,r⟩:=h;have q:=RepDs.into hz ds vs r;exact ⟨⟨a,bs,vs,e,t,l,fk,n,(RepDs.into hz ks _ rk).1,q.1⟩,q.2⟩
  | .loc n,v,h=>⟨h,rfl⟩
  | .fn f,v,h=>⟨h,rfl⟩
  | .scr ns,v,h=>⟨h,rfl⟩
  | .ty n,v,h=>⟨h,rfl⟩
  | .cls c,v,h=>⟨h,rfl⟩
  | .lk o kvs,v,h=>⟨h,rfl⟩
  | .xn c f d,v,h=>by obtain ⟨a,a',C,v',e1,_⟩:=h;rw [hz] at e1;cases e1
theorem RepDs.into (hz:G.cur=none): ∀ (ds:List D) (vs:List V),RepDs G ρ H M ds vs→RepDs (G.at z) ρ H M ds vs∧cleanDs ds=true
  |[],vs,h=>⟨h,rfl⟩
  | d::ds,vs,h=>by
    obtain ⟨v,r,e,h1,h2⟩:=h
    have q1:=RepD.into hz d v h1
    have q2:=RepDs.into hz ds r h2
    exact ⟨⟨v,r,e,q1.1,q2.1⟩,by simp only [cleanDs,q1.2,q2.2,Bool.and_self]⟩
end
mutual
theorem RepD.out: ∀ (d:D) (v:V),cleanD d=true→RepD (G.at z) ρ H M d v→RepD G ρ H M d v
  | .non,v,_,h=>h
  | .bl b,v,_,h=>h
  | .int i,v,_,h=>h
  | .str x,v,_,h=>h
  | .tup ds,v,c,h=>by obtain ⟨a,vs,e,t,r⟩:=h;exact ⟨a,vs,e,t,RepDs.out ds vs c r⟩
  | .lst ds,v,c,h=>by obtain ⟨a,vs,e,t,n,r⟩:=h;exact ⟨a,vs,e,t,n,RepDs.out ds vs c r⟩
  | .dic ks ds,v,c,h=>by obtain ⟨a,vs,e,t,l,n,r⟩:=h;exact ⟨a,vs,e,t,l,n,RepDs.out ds vs c r⟩
  | .ins cn fs ds,v,c,h=>by obtain ⟨a,C,dx,vs,e,g,t,l,n,r⟩:=h;exact ⟨a,C,dx,vs,e,g,t,l,n,RepDs.out ds vs c r⟩
  | .dct ks ds,v,c,h=>by obtain ⟨a,bs,vs,e,t,l,fk,n,rk,r⟩:=h;exact ⟨a,bs,vs,e,t,l,fk,n,RepDs.out ks _ (kfs_clean 8 ks fk) rk,RepDs.out ds vs c r⟩
  | .loc n,v,_,h=>h
  | .fn f,v,_,h=>h
  | .scr ns,v,_,h=>h
  | .ty n,v,_,h=>h
  | .cls c,v,_,h=>h
  | .lk o kvs,v,_,h=>h
  | .xn _ _ _,v,c,h=>by cases c
theorem RepDs.out: ∀ (ds:List D) (vs:List V),cleanDs ds=true→RepDs (G.at z) ρ H M ds vs→RepDs G ρ H M ds vs
  |[],vs,_,h=>h
  | d::ds,vs,c,h=>by
    simp only [cleanDs,Bool.and_eq_true] at c
    obtain ⟨v,r,e,h1,h2⟩:=h
    exact ⟨v,r,e,RepD.out d v c.1 h1,RepDs.out ds r c.2 h2⟩
end
theorem Own.into (hz:G.cur=none) {o:O} {v:V} {F:List Addr} (w:Own G ρ H M o v F):Own (G.at z) ρ H M o v F∧cleanO o=true:=by
  cases o with
  |fz d=>exact ⟨⟨(RepD.into hz d v w.1).1,w.2⟩,(RepD.into (z:=z) hz d v w.1).2⟩
  |lst ds=>obtain ⟨a,vs,e,t,r,f⟩:=w;have q:=RepDs.into (z:=z) hz ds vs r;exact ⟨⟨a,vs,e,t,q.1,f⟩,q.2⟩
  |dic ks ds=>obtain ⟨a,vs,e,t,l,r,f⟩:=w;have q:=RepDs.into (z:=z) hz ds vs r;exact ⟨⟨a,vs,e,t,l,q.1,f⟩,q.2⟩
  |ins c fs ds=>obtain ⟨a,C,dx,vs,e,g,t,l,r,f⟩:=w;have q:=RepDs.into (z:=z) hz ds vs r;exact ⟨⟨a,C,dx,vs,e,g,t,l,q.1,f⟩,q.2⟩
  |dct ks ds=>obtain ⟨a,bs,vs,e,t,l,fk,rk,r,f⟩:=w;have q:=RepDs.into (z:=z) hz ds vs r;exact ⟨⟨a,bs,vs,e,t,l,fk,(RepDs.into (z:=z) hz ks _ rk).1,q.1,f⟩,q.2⟩
theorem Own.out {o:O} {v:V} {F:List Addr} (c:cleanO o=true) (w:Own (G.at z) ρ H M o v F):Own G ρ H M o v F:=by
  cases o with
  |fz d=>exact ⟨RepD.out d v c w.1,w.2⟩
  |lst ds=>obtain ⟨a,vs,e,t,r,f⟩:=w;exact ⟨a,vs,e,t,RepDs.out ds vs c r,f⟩
  |dic ks ds=>obtain ⟨a,vs,e,t,l,r,f⟩:=w;exact ⟨a,vs,e,t,l,RepDs.out ds vs c r,f⟩
  |ins cn fs ds=>obtain ⟨a,C,dx,vs,e,g,t,l,r,f⟩:=w;exact ⟨a,C,dx,vs,e,g,t,l,RepDs.out ds vs c r,f⟩
  |dct ks ds=>obtain ⟨a,bs,vs,e,t,l,fk,rk,r,f⟩:=w;exact ⟨a,bs,vs,e,t,l,fk,RepDs.out ks _ (kfs_clean 8 ks fk) rk,RepDs.out ds vs c r,f⟩
theorem Owns.into (hz:G.cur=none): ∀ {L:List (O×V)} {F:List Addr},Owns G ρ H M L F→Owns (G.at z) ρ H M L F∧∀ p∈L,cleanO p.1=true
  |[],F,h=>⟨h,by simp⟩
  | p::ps,F,h=>by
    obtain ⟨A,B,e,h1,h2⟩:=h
    have q1:=Own.into (z:=z) hz h1
    have q2:=Owns.into hz h2
    exact ⟨⟨A,B,e,q1.1,q2.1⟩,List.forall_mem_cons.mpr ⟨q1.2,q2.2⟩⟩
theorem Owns.out: ∀ {L:List (O×V)} {F:List Addr},(∀ p∈L,cleanO p.1=true)→Owns (G.at z) ρ H M L F→Owns G ρ H M L F
  |[],F,_,h=>h
  | p::ps,F,c,h=>by
    obtain ⟨A,B,e,h1,h2⟩:=h
    exact ⟨A,B,e,h1.out (c p (by simp)),Owns.out (fun q hq=>c q (by simp [hq])) h2⟩
end
section
variable {G:GE} {z:Option (Addr×Addr×Addr)} {H:Hp} {h:List O} {L:List (O×V)}
theorem Cf.into (hz:G.cur=none) (c:Cf G H h L):Cf (G.at z) H h L∧(∀ o∈h,cleanO o=true)∧∀ p∈L,cleanO p.1=true:=by
  obtain ⟨ρ,M,l,ow,n⟩:=c
  obtain ⟨q1,q2⟩:=Owns.into (z:=z) hz ow
  refine ⟨⟨ρ,M,l,q1,n⟩,fun o ho=>?_,fun p hp=>q2 p (List.mem_append_right _ hp)⟩
  obtain ⟨i,hi,e⟩:=List.getElem_of_mem ho
  have hi2:i<(ρ.map V.ref).length:=by rw [List.length_map,l];exact hi
  refine q2 (o,(ρ.map V.ref)[i]) (List.mem_append_left _ ?_)
  rw [←e]
  have:(h.zip (ρ.map V.ref))[i]'(by simp;omega)=(h[i],(ρ.map V.ref)[i]):=List.getElem_zip
  rw [←this]
  exact List.getElem_mem _
theorem Cf.out (ch: ∀ o∈h,cleanO o=true) (cL: ∀ p∈L,cleanO p.1=true) (c:Cf (G.at z) H h L):Cf G H h L:=by
  obtain ⟨ρ,M,l,ow,n⟩:=c
  refine ⟨ρ,M,l,ow.out fun p hp=>?_,n⟩
  rcases List.mem_append.mp hp with q|q
  · exact ch p.1 (List.of_mem_zip (show (p.1,p.2)∈_ from q)).1
  · exact cL p q
end
def suiteS (i:Option Nat) (c f:Str) (d:D) (s:S):S:=match i with
  |some i=>⟨s.σ.set i (some (.fz (.xn c f d))),s.h⟩
  |none=>s
def offS (s:S):S:=⟨s.σ.map fun _=>none,s.h⟩
def endSu:Fl→Fl
  | .rt o s=>if cleanO o then .rt o (offS s) else .bad
  |_=>.bad
def tryCl (xs:List (Str×Str)) (c:Str) (d:D) (call:Call) (s:S):List (Str×Option Nat×E)→Fl
  |[]=>.exc c d s
  |(x,i,m)::r=>if c=x then (match xs.lookup c with|some f=>endSu (cRet m call (suiteS i c f d s))|none=>.bad) else tryCl xs c d call s r
def cTry (xs:List (Str×Str)) (mb:C) (hs:List (Str×Option Nat×E)):C:=fun call s=>match mb call s with
  | .exc c d s1=>tryCl xs c d call s1 hs
  |y=>y
structure CH (cc:CC) (e:Expr) where
  m:E
  ok: ∀ G call W X,GoodB G cc X→PE X e (tE G W call m)
  keep: ∀ call s r s',m call s= .ok r s'→s'.h=s.h
section
variable {G:GE} {k:Nat} {call:Call} {cc:CC} {W:WX} {X:Cx}
def tSu (G:GE) (call:Call) (m:E) (a:Addr) (cls:Value) (dx:Option Addr):TS:=fun D σ H=> ∃ C a',cls= .ref C∧dx=some a'∧tS (G.at (some (a,a',C))) noW call (cRet m) D σ H
theorem good_suite (g:GoodB G cc X) {a a' C:Addr} {oe:Obj} {pn:List (Addr×Obj)} (hz:Zc (.ref C) (some a') oe) (hf: ∃ vs,oe.data= .fields vs):GoodB (G.at (some (a,a',C))) cc (X.suite a ((a,oe)::pn)) where
  N:=g.N
  bare:=g.bare
  nd:=g.nd
  sc:=g.sc
  K:=g.K
  units:=g.units
  wd:=g.wd
  gd:=g.gd
  blt:=g.blt
  con:=g.con
  conT:=g.conT
  exs:=g.exs
  xr:=g.xr
  sub:=g.sub
  cls:=g.cls
  fld:=g.fld
  clb:=g.clb
  ceq:=g.ceq
  isx:=g.isx
  opx:=g.opx
  fnx:=g.fnx
  cur:=fun b b' C' e=>by
    have e':some (a,a',C)=some (b,b',C'):=e
    cases e'
    exact ⟨oe,List.mem_cons_self,hz.1,hz.2,hf⟩
theorem suite_ok (g:GoodB G cc X) {e:Expr} (m:CH cc e) {rp:Pos}:SuiteOk X [.Return (some e) rp] (tSu G call m.m):=by
  intro a oe cls d pn hz hf
  refine ⟨fun pins s σ H D I q=>?_⟩
  obtain ⟨C,a',rfl,rfl,q⟩:=q
  have gs:=good_suite (a:=a) (pn:=pn) g hz hf
  exact (pss_one (s_ret (m.ok _ call noW _ gs))).run pins s σ H D I q
def putI (i:Option Nat) (σr:Sr) (a:Addr):Sr:=match i with
  |some i=>σr.set i (some (.ref a))
  |none=>σr
def endI (i:Option Nat) (En:Ends):Ends:=match i with
  |some i=>offEnds i En
  |none=>En
theorem CfS.enter (hz:G.cur=none) {σr:Sr} {H:Hp} {s:S} {Φ:List (R×V)} {c f:Str} {d:D} {v:V} {a a' C:Addr} (nb:NoB Φ) (hE:G.exc c=some (C,f)) (hH:H a'=some (.xd [(f,v)])) (q:CfS G σr H s ((.own (.fz d),v)::Φ)) (i:Option Nat):
    CfS (G.at (some (a,a',C))) (putI i σr a) H (suiteS i c f d s) Φ:=by
  obtain ⟨q1,q2,q3⟩:=Cf.into (z:=some (a,a',C)) hz q.cf
  have c1:CfS (G.at (some (a,a',C))) σr H s ((.own (.fz d),v)::Φ):=⟨q.sl,q.bo,q1⟩
  cases i with
  |none=>exact c1.drop
  | some i=>
    have c2:CfS (G.at (some (a,a',C))) σr H s ((.own (.fz (.xn c f d)),.ref a)::Φ):=by
      refine c1.by_ (fun j w hw=>?_) fun L cL=>?_
      · rcases List.mem_cons.mp hw with h|h
        · cases h
        · exact List.mem_cons_of_mem _ h
      · obtain ⟨ρ,M,cp,r⟩:=Cf.fz1.mp (show Cf (G.at (some (a,a',C))) H s.h ((.fz d,v)::(ow Φ++L)) from cL)
        refine Cf.fz1.mpr ⟨ρ,M,cp,a,a',C,v,rfl,rfl,hE,hH,fun hm=>?_,r⟩
        obtain ⟨x,hx,mu⟩:=Owns.kind cp.2.1 a' hm
        rw [hH] at hx
        cases hx
        exact mu
    by_cases hi:i<s.σ.length
    · exact c2.put nb hi
    · have e1:s.σ.set i (some (.fz (.xn c f d)))=s.σ:=List.set_eq_of_length_le (by omega)
      have e2:σr.set i (some (.ref a))=σr:=List.set_eq_of_length_le (by rw [←c2.sl.len];omega)
      show CfS _ (σr.set i (some (.ref a))) H ⟨s.σ.set i (some (.fz (.xn c f d))),s.h⟩ Φ
      rw [e1,e2]
      exact c1.drop
theorem slp_off: ∀ {σ:List (Option O)} {σr:Sr},slp (σ.map fun _=>none) σr=[]
  |[],_=>rfl
  |_::_,[]=>rfl
  |_::σ,_::σr=>by show slp (σ.map fun _=>none) σr=[];exact slp_off
theorem CfS.leave {a a' C:Addr} {σr:Sr} {H:Hp} {s s0:S} {Φ:List (R×V)} {o:O} {v:V} (hh:s.h=s0.h) (ch: ∀ o∈s0.h,cleanO o=true) (cΦ: ∀ p∈ow Φ,cleanO p.1=true) (nb:NoB Φ) (co:cleanO o=true)
    (q:CfS (G.at (some (a,a',C))) σr H s ((.own o,v)::Φ)):CfS G σr H (offS s) ((.own o,v)::Φ):=by
  refine ⟨⟨?_,fun j w e=>?_⟩,fun j w hw=>?_, ?_⟩
  · show (s.σ.map fun _=>none).length=_
    rw [List.length_map];exact q.sl.len
  · have:(s.σ.map fun _=>(none:Option O))[j]?=some (some w):=e
    rw [List.getElem?_map] at this
    cases hj:s.σ[j]? with
    |none=>rw [hj] at this;cases this
    |some z=>rw [hj] at this;cases this
  · rcases List.mem_cons.mp hw with h|h
    · cases h
    · exact absurd h (nb j w)
  · show Cf G H s.h (slp (s.σ.map fun _=>none) σr++ow ((.own o,v)::Φ))
    rw [slp_off,List.nil_append]
    refine Cf.out (by rw [hh];exact ch) (fun p hp=>?_) (Cf.dropN q.cf)
    rcases List.mem_cons.mp (show p∈(o,v)::ow Φ from hp) with h|h
    · rw [h];exact co
    · exact cΦ p h
inductive HdT (cc:CC):List ExceptHandler→List (Str×Option Nat×E)→Type
  |nil:HdT cc [] []
  |named {x n f:Str} {e:Expr} {np rp pos':Pos} {hds:List ExceptHandler} {l:List (Str×Option Nat×E)} (hx:(x,f)∈cc.exs) (hg:cc.sc.names.lookup x=some .globalImplicit) (i:Nat) (hi:cc.N[i]?=some n) (hl:cc.sc.names.lookup n=some .local) (m:CH cc e) (r:HdT cc hds l):
      HdT cc (.ExceptHandler (some (.Name x np)) (some n) [.Return (some e) rp] pos'::hds) ((x,some i,m.m)::l)
  |bare {x f:Str} {e:Expr} {np rp pos':Pos} {hds:List ExceptHandler} {l:List (Str×Option Nat×E)} (hx:(x,f)∈cc.exs) (hg:cc.sc.names.lookup x=some .globalImplicit) (m:CH cc e) (r:HdT cc hds l):
      HdT cc (.ExceptHandler (some (.Name x np)) none [.Return (some e) rp] pos'::hds) ((x,none,m.m)::l)
theorem ret_h {m:E} {s' s2:S} {o:O} (hk: ∀ call s r s',m call s= .ok r s'→s'.h=s.h) (e:cRet m call s'= .rt o s2):s2.h=s'.h:=by
  unfold cRet at e
  cases em:m call s' with
  | ok r s1=>
    rw [em] at e
    simp only [Out.flow_ok] at e
    have h1:=hk call s' r s1 em
    cases eg:give s1 r with
    |none=>rw [eg] at e;cases e
    | some p=>
      obtain ⟨o',s3⟩:=p
      rw [eg] at e
      cases e
      rw [←h1]
      cases r with
      |own o'=>cases eg;rfl
      | bor j=>
        simp only [give] at eg
        split at eg
        · cases eg;rfl
        · cases eg
  |exc cn d s1=>rw [em] at e;cases e
  |bad=>rw [em] at e;cases e
theorem lookup_mem {xs:List (Str×Str)} {c f:Str}:xs.lookup c=some f→(c,f)∈xs:=by
  induction xs with
  |nil=>intro h;cases h
  | cons p r ih=>
    intro h
    rw [List.lookup_cons] at h
    split at h
    · rename_i hc
      cases h
      have:c=p.1:=by simpa using hc
      subst this
      exact List.mem_cons_self
    · exact List.mem_cons_of_mem _ (ih h)
theorem su_ok (g:Good G k call cc W X) {En:Ends} {c f:Str} {d:D} {s:S} {Φ:List (R×V)} {e:Expr} (m:CH cc e) (nb:NoB Φ) (i:Option Nat) (hf:cc.exs.lookup c=some f)
    (q:AftS G W Φ En (endSu (cRet m.m call (suiteS i c f d s)))) {σr:Sr} {cls:Value} {dx:Option Addr} {H:Hp} (ex:ExR G σr H s Φ c d cls dx) (a:Addr):
    tSu G call m.m a cls dx (endI i En) (putI i σr a) H:=by
  obtain ⟨C,f1,a',v,rfl,hE,rfl,hH,cf⟩:=ex
  obtain ⟨C2,hE2⟩:=g.exs c f (lookup_mem hf)
  rw [hE] at hE2
  cases hE2
  obtain ⟨_,clh,clL⟩:=Cf.into (z:=none) g.cold cf.cf
  have ent:=CfS.enter (a:=a) g.cold nb hE hH cf i
  refine ⟨C,a',rfl,rfl,suiteS i c f d s,Φ,nb,ent, ?_⟩
  cases er:cRet m.m call (suiteS i c f d s) with
  | rt o s2=>
    rw [er] at q
    simp only [endSu] at q
    split at q
    · rename_i co
      have hh:s2.h=s.h:=(ret_h m.keep er).trans (by cases i<;>rfl)
      intro σ1 v1 H1 c1
      have:=q σ1 v1 H1 (CfS.leave hh clh (fun p hp=>clL p (List.mem_append_right _ (List.mem_cons_of_mem _ hp))) nb co c1)
      cases i with
      |none=>exact this
      |some i=>exact this
    · exact q.elim
  |_=>all_goals (rw [er] at q;exact q.elim)
theorem cl_ok (g:Good G k call cc W X): ∀ {hds:List ExceptHandler} {l:List (Str×Option Nat×E)},HdT cc hds l→∃ cl:List Clause,HdCl X hds cl∧
    ∀ (En:Ends) (c:Str) (d:D) (s:S) (Φ:List (R×V)),NoB Φ→AftS G W Φ En (tryCl cc.exs c d call s l)→∀ σr cls dx H,ExR G σr H s Φ c d cls dx→wCl X.K W En cl cls dx σr H
  |_,_,.nil=>⟨[],.nil,fun En c d s Φ nb q σr cls dx H ex=>q σr cls dx H ex⟩
  | _,_,.named (x:=x) (f:=f) hx hg i hi hl m r=>by
    obtain ⟨cl,hc,ih⟩:=cl_ok g r
    obtain ⟨C',hE'⟩:=g.exs x f hx
    have R:=g.xr x C' f hE'
    refine ⟨(.ref C',some i,tSu G call m.m)::cl,.named ⟨g.gl hg,R.db,.inl R.gC⟩ (by rw [g.N];exact hi) (by show X.env.scope.names.lookup _=_;rw [g.sc];exact hl) (suite_ok g.toGoodB m) hc,fun En c d s Φ nb q σr cls dx H ex=>?_⟩
    have ex0:=ex
    obtain ⟨C,f1,a',v,rfl,hE,rfl,hH,cf⟩:=ex0
    refine ⟨decide (c=x),g.sub c C f1 x C' f hE hE',fun hb a ha=>?_,fun hb=>?_⟩
    · have hcx:c=x:=of_decide_eq_true hb
      subst hcx
      simp only [tryCl,if_true] at q
      split at q
      · rename_i f2 hf
        exact su_ok g m nb (some i) hf q ex a
      · exact q.elim
    · have hcx: ¬c=x:=of_decide_eq_false hb
      simp only [tryCl,if_neg hcx] at q
      exact ih En c d s Φ nb q _ _ _ _ ex
  | _,_,.bare (x:=x) (f:=f) hx hg m r=>by
    obtain ⟨cl,hc,ih⟩:=cl_ok g r
    obtain ⟨C',hE'⟩:=g.exs x f hx
    have R:=g.xr x C' f hE'
    refine ⟨(.ref C',none,tSu G call m.m)::cl,.bare ⟨g.gl hg,R.db,.inl R.gC⟩ (suite_ok g.toGoodB m) hc,fun En c d s Φ nb q σr cls dx H ex=>?_⟩
    have ex0:=ex
    obtain ⟨C,f1,a',v,rfl,hE,rfl,hH,cf⟩:=ex0
    refine ⟨decide (c=x),g.sub c C f1 x C' f hE hE',fun hb a ha=>?_,fun hb=>?_⟩
    · have hcx:c=x:=of_decide_eq_true hb
      subst hcx
      simp only [tryCl,if_true] at q
      split at q
      · rename_i f2 hf
        exact su_ok g m nb none hf q ex a
      · exact q.elim
    · have hcx: ¬c=x:=of_decide_eq_false hb
      simp only [tryCl,if_neg hcx] at q
      exact ih En c d s Φ nb q _ _ _ _ ex
theorem good_tr (g:Good G k call cc W X) {W':WX} {pn:List (Addr×Obj)} {xe:Value→Shared→Prop} (tk:Takes (X.tr pn xe) W') (po:PassesOwn (model X.prog X.w) X.A X.env xe):Good G k call cc W' (X.tr pn xe) where
  N:=g.N
  bare:=g.bare
  nd:=g.nd
  sc:=g.sc
  K:=g.K
  units:=g.units
  wd:=g.wd
  gd:=g.gd
  blt:=g.blt
  con:=g.con
  conT:=g.conT
  exs:=g.exs
  xr:=g.xr
  sub:=g.sub
  cls:=g.cls
  fld:=g.fld
  clb:=g.clb
  ceq:=g.ceq
  isx:=g.isx
  opx:=g.opx
  fnx:=g.fnx
  cur:=fun a a' C e=>by rw [g.cold] at e;cases e
  calm:=g.calm
  cold:=g.cold
  tk:=tk
  room:=g.room
  fn:=g.fn
  po:=po
  stk:=g.stk
  fns:=g.fns
  news:=g.news
  mths:=g.mths
  sts:=g.sts
theorem s_try (g:Good G k call cc W X) (ht:cc.top=true) {body:List Stmt} {h0:ExceptHandler} {hds:List ExceptHandler} {l:List (Str×Option Nat×E)} {mb:C} {pos:Pos}
    (hb: ∀ W X,Good G k call cc W X→PSs X body (tS G W call mb)) (hh:HdT cc (h0::hds) l):PS X (.Try body (h0::hds) [] [] pos) (tS G W call (cTry cc.exs mb l)):=by
  obtain ⟨cl,hc,ih⟩:=cl_ok g hh
  obtain ⟨e1,e2⟩:=g.stk ht
  refine (ps_tryCl (tb:=fun W'=>tS G W' call mb) e1 e2 (by rw [g.N];exact g.nd) g.tk (fun W' pn xe tk po=>hb W' _ (good_tr g tk po)) hc).of fun En σ H q=>?_
  obtain ⟨s,Φ,nb,c,q⟩:=q
  refine ⟨s,Φ,nb,c, ?_⟩
  unfold cTry at q
  cases em:mb call s with
  | exc cn d s1=>
    rw [em] at q
    exact fun σr cls dx H ex=>ih En cn d s1 Φ nb q σr cls dx H ex
  |_=>all_goals (rw [em] at q;exact q)
end
end Mi
namespace Mi
open PySem PySem.Spec PyProof.Rows L2
mutual
def blw (n:Nat):D→Bool
  | .loc m=>decide (m<n)
  | .tup ds=>blws n ds
  | .lst ds=>blws n ds
  | .dic _ ds=>blws n ds
  | .ins _ _ ds=>blws n ds
  | .dct _ ds=>blws n ds
  | .xn _ _ d=>blw n d
  |_=>true
def blws (n:Nat):List D→Bool
  |[]=>true
  |d::ds=>blw n d&&blws n ds
end
mutual
def sbD (f:Nat→Option D):D→Option D
  | .loc m=>f m
  | .tup ds=>(sbDs f ds).map .tup
  | .lst ds=>(sbDs f ds).map .lst
  | .dic ks ds=>(sbDs f ds).map (.dic ks)
  | .ins c fs ds=>(sbDs f ds).map (.ins c fs)
  | .dct ks ds=>(sbDs f ds).map (.dct ks)
  | .xn _ _ _=>none
  |d=>some d
def sbDs (f:Nat→Option D):List D→Option (List D)
  |[]=>some []
  |d::ds=>(sbD f d).bind fun e=>(sbDs f ds).map fun es=>e::es
end
mutual
theorem kf_blw: ∀ (n m:Nat) (d:D),kfD n d=true→blw m d=true
  |_,m,.non,_=>rfl
  |_,m,.bl _,_=>rfl
  |_,m,.int _,_=>rfl
  |_,m,.str _,_=>rfl
  |n+1,m,.tup ds,h=>kfs_blw n m ds h
  |0,m,.tup ds,h=>by cases h
  |n,m,.lst _,h=>by cases n<;>cases h
  |n,m,.dic _ _,h=>by cases n<;>cases h
  |n,m,.ins _ _ _,h=>by cases n<;>cases h
  |n,m,.dct _ _,h=>by cases n<;>cases h
  |n,m,.loc _,h=>by cases n<;>cases h
  |n,m,.fn _,h=>by cases n<;>cases h
  |n,m,.scr _,h=>by cases n<;>cases h
  |n,m,.ty _,h=>by cases n<;>cases h
  |n,m,.cls _,h=>by cases n<;>cases h
  |n,m,.xn _ _ _,h=>by cases n<;>cases h
  |n,m,.lk _ _,h=>by cases n<;>cases h
theorem kfs_blw: ∀ (n m:Nat) (ds:List D),kfDs n ds=true→blws m ds=true
  |_,m,[],_=>rfl
  | n,m,d::ds,h=>by
    have z:(kfD n d&&kfDs n ds)=true:=by cases n<;>exact h
    obtain ⟨h1,h2⟩:=Bool.and_eq_true_iff.mp z
    show (blw m d&&blws m ds)=true
    rw [kf_blw n m d h1,kfs_blw n m ds h2];rfl
end
def frzN (n:Nat) (h:List O):Nat→Nat→Option D
  |0,m=>if m<n then some (.loc m) else none
  |k+1,m=>if m<n then some (.loc m) else (h[m]?).bind fun o=>sbD (frzN n h k) (frz o)
def frzAt (n:Nat) (h:List O):Option D:=frzN n h 8 n
section
variable {G:GE} {ρ:List Addr} {H:Hp} {M M':List Addr} {n:Nat}
mutual
theorem RepD.blw: ∀ (d:D) (v:V),RepD G ρ H M d v→blw ρ.length d=true
  | .non,v,h=>rfl
  | .bl b,v,h=>rfl
  | .int i,v,h=>rfl
  | .str x,v,h=>rfl
  | .tup ds,v,h=>by obtain ⟨a,vs,e,t,r⟩:=h;exact RepDs.blw ds vs r
  | .lst ds,v,h=>by obtain ⟨a,vs,e,t,n,r⟩:=h;exact RepDs.blw ds vs r
  | .dic ks ds,v,h=>by obtain ⟨a,vs,e,t,l,n,r⟩:=h;exact RepDs.blw ds vs r
  | .ins c fs ds,v,h=>by obtain ⟨a,C,dx,vs,e,g,t,l,n,r⟩:=h;exact RepDs.blw ds vs r
  | .dct ks ds,v,h=>by obtain ⟨a,bs,vs,e,t,l,fk,n,rk,r⟩:=h;exact RepDs.blw ds vs r
  | .loc n,v,h=>by
    obtain ⟨a,e,r⟩:=h
    refine decide_eq_true ?_
    rcases Nat.lt_or_ge n ρ.length with z|z
    · exact z
    · rw [List.getElem?_eq_none z] at r;cases r
  | .fn f,v,h=>rfl
  | .scr ns,v,h=>rfl
  | .ty n,v,h=>rfl
  | .cls c,v,h=>rfl
  | .lk o kvs,v,h=>rfl
  | .xn c f d,v,h=>by obtain ⟨a,a',C,v',e1,e2,e3,t,n,r⟩:=h;exact RepD.blw d v' r
theorem RepDs.blw: ∀ (ds:List D) (vs:List V),RepDs G ρ H M ds vs→blws ρ.length ds=true
  |[],vs,h=>rfl
  | d::ds,vs,h=>by
    obtain ⟨v,r,e,h1,h2⟩:=h
    exact Bool.and_eq_true_iff.mpr ⟨RepD.blw d v h1,RepDs.blw ds r h2⟩
end
theorem take_at {n m:Nat} {a:Addr} (hm:m<n) (e:ρ[m]?=some a):(ρ.take n)[m]?=some a:=by rw [List.getElem?_take_of_lt hm];exact e
variable (hM: ∀ b∈M',b∈M)
include hM
theorem Tr.less {a:Addr} {vs:List V} (t:Tr G H M a vs):Tr G H M' a vs:=t.stay (fun _ _ e _=>e) (fun b hb=>.inl (hM b hb))
mutual
theorem RepD.low: ∀ (d:D) (v:V),RepD G ρ H M d v→Mi.blw n d=true→RepD G (ρ.take n) H M' d v
  | .non,v,h,_=>h
  | .bl b,v,h,_=>h
  | .int i,v,h,_=>h
  | .str x,v,h,_=>h
  | .tup ds,v,h,b=>by
    obtain ⟨a,vs,e,t,r⟩:=h
    exact ⟨a,vs,e,Tr.less hM t,RepDs.low ds vs r b⟩
  | .lst ds,v,h,b=>by
    obtain ⟨a,vs,e,t,q,r⟩:=h
    exact ⟨a,vs,e,t,fun z=>q (hM _ z),RepDs.low ds vs r b⟩
  | .dic ks ds,v,h,b=>by
    obtain ⟨a,vs,e,t,l,q,r⟩:=h
    exact ⟨a,vs,e,t,l,fun z=>q (hM _ z),RepDs.low ds vs r b⟩
  | .ins c fs ds,v,h,b=>by
    obtain ⟨a,C,dx,vs,e,g,t,l,q,r⟩:=h
    exact ⟨a,C,dx,vs,e,g,t,l,fun z=>q (hM _ z),RepDs.low ds vs r b⟩
  | .dct ks ds,v,h,b=>by
    obtain ⟨a,bs,vs,e,t,l,fk,q,rk,r⟩:=h
    exact ⟨a,bs,vs,e,t,l,fk,fun z=>q (hM _ z),RepDs.low ks _ rk (kfs_blw 8 n ks fk),RepDs.low ds vs r b⟩
  | .loc m,v,h,b=>by
    obtain ⟨a,e,r⟩:=h
    exact ⟨a,e,take_at (of_decide_eq_true b) r⟩
  | .fn f,v,h,_=>h
  | .scr ns,v,h,_=>by
    obtain ⟨a,e,t|t⟩:=h
    · exact ⟨a,e,.inl ⟨t.1,fun z=>t.2 (hM _ z)⟩⟩
    · exact ⟨a,e,.inr t⟩
  | .ty n,v,h,_=>h
  | .cls c,v,h,_=>h
  | .lk o kvs,v,h,_=>by
    obtain ⟨a,e,t,q⟩:=h
    exact ⟨a,e,t,fun z=>q (hM _ z)⟩
  | .xn c f d,v,h,b=>by
    obtain ⟨a,a',C,v',e1,e2,e3,t,q,r⟩:=h
    exact ⟨a,a',C,v',e1,e2,e3,t,fun z=>q (hM _ z),RepD.low d v' r b⟩
theorem RepDs.low: ∀ (ds:List D) (vs:List V),RepDs G ρ H M ds vs→blws n ds=true→RepDs G (ρ.take n) H M' ds vs
  |[],vs,h,_=>h
  | d::ds,vs,h,b=>by
    obtain ⟨v,r,e,h1,h2⟩:=h
    obtain ⟨b1,b2⟩:=Bool.and_eq_true_iff.mp b
    exact ⟨v,r,e,RepD.low d v h1 b1,RepDs.low ds r h2 b2⟩
end
theorem Own.low {o:O} {v:V} {F:List Addr} (w:Own G ρ H M o v F) (b:Mi.blw n (Mi.frz o)=true):Own G (ρ.take n) H M' o v F:=by
  cases o with
  |fz d=>exact ⟨RepD.low hM d v w.1 b,w.2⟩
  | lst ds=>
    obtain ⟨a,vs,e,t,r,f⟩:=w
    exact ⟨a,vs,e,t,RepDs.low hM ds vs r b,f⟩
  | dic ks ds=>
    obtain ⟨a,vs,e,t,l,r,f⟩:=w
    exact ⟨a,vs,e,t,l,RepDs.low hM ds vs r b,f⟩
  | ins c fs ds=>
    obtain ⟨a,C,dx,vs,e,g,t,l,r,f⟩:=w
    exact ⟨a,C,dx,vs,e,g,t,l,RepDs.low hM ds vs r b,f⟩
  | dct ks ds=>
    obtain ⟨a,bs,vs,e,t,l,fk,rk,r,f⟩:=w
    exact ⟨a,bs,vs,e,t,l,fk,RepDs.low hM ks _ rk (kfs_blw 8 n ks fk),RepDs.low hM ds vs r b,f⟩
theorem Owns.low: ∀ {L:List (O×V)} {F:List Addr},Owns G ρ H M L F→(∀ p∈L,Mi.blw n (Mi.frz p.1)=true)→Owns G (ρ.take n) H M' L F
  |[],F,w,_=>w
  | p::L,F,w,b=>by
    obtain ⟨A,B,e,w1,w2⟩:=w
    exact ⟨A,B,e,Own.low hM w1 (b p (by simp)),Owns.low w2 fun q hq=>b q (by simp [hq])⟩
section
variable (f:Nat→Option D) (hf: ∀ m a d,ρ[m]?=some a→f m=some d→RepD G (ρ.take n) H M' d (.ref a))
include hf
mutual
theorem RepD.sub: ∀ (d:D) (v:V) (d':D),RepD G ρ H M d v→sbD f d=some d'→RepD G (ρ.take n) H M' d' v
  | .non,v,d',h,e=>by cases e;exact h
  | .bl b,v,d',h,e=>by cases e;exact h
  | .int i,v,d',h,e=>by cases e;exact h
  | .str x,v,d',h,e=>by cases e;exact h
  | .tup ds,v,d',h,e=>by
    obtain ⟨a,vs,ev,t,r⟩:=h
    simp only [sbD,Option.map_eq_some_iff] at e
    obtain ⟨es,e1,e2⟩:=e
    subst e2
    exact ⟨a,vs,ev,Tr.less hM t,RepDs.sub ds vs es r e1⟩
  | .lst ds,v,d',h,e=>by
    obtain ⟨a,vs,ev,t,q,r⟩:=h
    simp only [sbD,Option.map_eq_some_iff] at e
    obtain ⟨es,e1,e2⟩:=e
    subst e2
    exact ⟨a,vs,ev,t,fun z=>q (hM _ z),RepDs.sub ds vs es r e1⟩
  | .dic ks ds,v,d',h,e=>by
    obtain ⟨a,vs,ev,t,l,q,r⟩:=h
    simp only [sbD,Option.map_eq_some_iff] at e
    obtain ⟨es,e1,e2⟩:=e
    subst e2
    exact ⟨a,vs,ev,t,l,fun z=>q (hM _ z),RepDs.sub ds vs es r e1⟩
  | .ins c fs ds,v,d',h,e=>by
    obtain ⟨a,C,dx,vs,ev,g,t,l,q,r⟩:=h
    simp only [sbD,Option.map_eq_some_iff] at e
    obtain ⟨es,e1,e2⟩:=e
    subst e2
    exact ⟨a,C,dx,vs,ev,g,t,l,fun z=>q (hM _ z),RepDs.sub ds vs es r e1⟩
  | .dct ks ds,v,d',h,e=>by
    obtain ⟨a,bs,vs,ev,t,l,fk,q,rk,r⟩:=h
    simp only [sbD,Option.map_eq_some_iff] at e
    obtain ⟨es,e1,e2⟩:=e
    subst e2
    exact ⟨a,bs,vs,ev,t,l,fk,fun z=>q (hM _ z),RepDs.low hM ks _ rk (kfs_blw 8 n ks fk),RepDs.sub ds vs es r e1⟩
  | .loc m,v,d',h,e=>by
    obtain ⟨a,ev,r⟩:=h
    subst ev
    exact hf m a d' r e
  | .fn f,v,d',h,e=>by cases e;exact h
  | .scr ns,v,d',h,e=>by cases e;exact RepD.low (n:=n) hM (.scr ns) v h rfl
  | .ty n,v,d',h,e=>by cases e;exact h
  | .cls c,v,d',h,e=>by cases e;exact h
  | .lk o kvs,v,d',h,e=>by cases e;exact RepD.low (n:=n) hM (.lk o kvs) v h rfl
  | .xn c f d,v,d',h,e=>by cases e
theorem RepDs.sub: ∀ (ds:List D) (vs:List V) (ds':List D),RepDs G ρ H M ds vs→sbDs f ds=some ds'→RepDs G (ρ.take n) H M' ds' vs
  |[],vs,ds',h,e=>by cases e;exact h
  | d::ds,vs,ds',h,e=>by
    obtain ⟨v,r,ev,h1,h2⟩:=h
    simp only [sbDs,Option.bind_eq_some_iff,Option.map_eq_some_iff] at e
    obtain ⟨d1,e1,ds1,e2,e3⟩:=e
    subst e3
    exact ⟨v,r,ev,RepD.sub d v d1 h1 e1,RepDs.sub ds r ds1 h2 e2⟩
end
theorem Own.sub {o:O} {v:V} {F:List Addr} {d':D} (w:Own G ρ H M o v F) (hF: ∀ b∈F,b∉M') (e:sbD f (Mi.frz o)=some d'):RepD G (ρ.take n) H M' d' v:=by
  cases o with
  |fz d=>exact RepD.sub hM f hf d v d' w.1 e
  | lst ds=>
    obtain ⟨a,vs,ev,t,r,g⟩:=w
    simp only [Mi.frz,sbD,Option.map_eq_some_iff] at e
    obtain ⟨es,e1,e2⟩:=e
    subst e2
    exact ⟨a,vs,ev,t,hF a (by rw [g];simp),RepDs.sub hM f hf ds vs es r e1⟩
  | dic ks ds=>
    obtain ⟨a,vs,ev,t,l,r,g⟩:=w
    simp only [Mi.frz,sbD,Option.map_eq_some_iff] at e
    obtain ⟨es,e1,e2⟩:=e
    subst e2
    exact ⟨a,vs,ev,.inl t,l,hF a (by rw [g];simp),RepDs.sub hM f hf ds vs es r e1⟩
  | ins c fs ds=>
    obtain ⟨a,C,dx,vs,ev,gc,t,l,r,g⟩:=w
    simp only [Mi.frz,sbD,Option.map_eq_some_iff] at e
    obtain ⟨es,e1,e2⟩:=e
    subst e2
    exact ⟨a,C,dx,vs,ev,gc,t,l,hF a (by rw [g];simp),RepDs.sub hM f hf ds vs es r e1⟩
  | dct ks ds=>
    obtain ⟨a,bs,vs,ev,t,l,fk,rk,r,g⟩:=w
    simp only [Mi.frz,sbD,Option.map_eq_some_iff] at e
    obtain ⟨es,e1,e2⟩:=e
    subst e2
    exact ⟨a,bs,vs,ev,.inl t,l,fk,hF a (by rw [g];simp),RepDs.low hM ks _ rk (kfs_blw 8 n ks fk),RepDs.sub hM f hf ds vs es r e1⟩
end
end
section
variable {G:GE} {H:Hp}
theorem Owns.blw {ρ M:List Addr}: ∀ {L:List (O×V)} {F:List Addr},Owns G ρ H M L F→∀ p∈L,Mi.blw ρ.length (Mi.frz p.1)=true
  |[],F,w,p,hp=>by simp at hp
  | q ::L,F,w,p,hp=>by
    obtain ⟨A,B,e,w1,w2⟩:=w
    rcases List.mem_cons.mp hp with z|z
    · subst z
      obtain ⟨o,v⟩:=p
      cases o with
      |fz d=>exact RepD.blw d v w1.1
      |lst ds=>obtain ⟨a,vs,e,t,r,f⟩:=w1;exact RepDs.blw ds vs r
      |dic ks ds=>obtain ⟨a,vs,e,t,l,r,f⟩:=w1;exact RepDs.blw ds vs r
      |ins c fs ds=>obtain ⟨a,C,dx,vs,e,g,t,l,r,f⟩:=w1;exact RepDs.blw ds vs r
      |dct ks ds=>obtain ⟨a,bs,vs,e,t,l,fk,rk,r,f⟩:=w1;exact RepDs.blw ds vs r
    · exact Owns.blw w2 p z
theorem Cf.blw {h:List O} {L:List (O×V)} (c:Cf G H h L):(∀ p∈L,Mi.blw h.length (Mi.frz p.1)=true)∧∀ o∈h,Mi.blw h.length (Mi.frz o)=true:=by
  obtain ⟨ρ,M,l,ow,nd⟩:=c
  refine ⟨fun p hp=>?_,fun o ho=>?_⟩
  · rw [←l];exact Owns.blw ow p (List.mem_append_right _ hp)
  · obtain ⟨i,hi,e⟩:=List.getElem_of_mem ho
    obtain ⟨X,Y,q1,_⟩:=zip_at (h:=h) (ρ:=ρ) (n:=i) (o:=o) (a:=ρ[i]'(by omega)) (by rw [List.getElem?_eq_getElem hi,e]) (List.getElem?_eq_getElem (by omega))
    rw [←l]
    exact Owns.blw ow (o,.ref (ρ[i]'(by omega))) (List.mem_append_left _ (by rw [q1];simp))
end
end Mi
namespace Mi
open PySem PySem.Spec PyProof.Rows L2
section
variable {G:GE} {k:Nat} {call:Call} {cc:CC} {W:WX} {X:Cx}
noncomputable def newOut (fz:Bool) (s:S):Res→Out R
  | .ok (.fz .non) h=>if fz then (match frzAt s.h.length h with
    |some d=>open Classical in if h.take s.h.length=s.h then .ok (.own (.fz d)) s else .bad
    |none=>.bad) else .ok (.own (.fz (.loc s.h.length))) ⟨s.σ,h⟩
  | .exc c d h=>.exc c d ⟨s.σ,h⟩
  |_=>.bad
noncomputable def mNew (fz:Bool) (c:Str) (r:As):E:=fun call s=>(r call s).bind fun ds s1=>newOut fz s1 (call (mkey c "__init__") (.loc s1.h.length::ds) (s1.h++[.ins c [] []]))
def putL (f:Str) (d:D) (fs:List Str) (xs:List D):List Str×List D:=if f∈fs then (fs,xs.set (fs.findIdx fun g=>decide (g=f)) d) else (fs++[f],xs++[d])
theorem putF_in {α:Type} {f:Str} {v:V}: ∀ {fs:List Str} {vs:List V},fs.length=vs.length→f∈fs→putF f v (fs.zip vs)=fs.zip (vs.set (fs.findIdx fun g=>decide (g=f)) v)
  |[],_,_,h=>by simp at h
  |_::_,[],l,_=>by simp at l
  | g ::fs,w::vs,l,h=>by
    by_cases e:g=f
    · subst e
      simp [putF,List.findIdx_cons]
    · have hm:f∈fs:=by
        rcases List.mem_cons.mp h with z|z
        · exact absurd z.symm e
        · exact z
      simp only [List.zip_cons_cons,putF,if_neg e,List.findIdx_cons,decide_eq_false e,cond_false,List.set_cons_succ]
      rw [putF_in (α:=α) (by simpa using l) hm]
theorem putF_out {f:Str} {v:V}: ∀ {fs:List Str} {vs:List V},fs.length=vs.length→f∉fs→putF f v (fs.zip vs)=(fs++[f]).zip (vs++[v])
  |[],[],_,_=>rfl
  |[],_::_,l,_=>by simp at l
  |_::_,[],l,_=>by simp at l
  | g::fs,w::vs,l,h=>by
    have e: ¬g=f:=fun z=>h (by simp [z])
    simp only [List.zip_cons_cons,putF,if_neg e,List.cons_append]
    rw [putF_out (by simpa using l) fun z=>h (by simp [z])]
def setFld (h:List O) (f:Str) (d:D):D→Option (List O)
  | .loc n=>match h[n]? with
    |some (.ins c fs xs)=>if fs.length<900 then some (h.set n (.ins c (putL f d fs xs).1 (putL f d fs xs).2)) else none
    |_=>none
  |_=>none
def cFld (me mx:E) (f:Str):C:=fun call s=>(me call s).flow fun y s1=>match take s1 y with
  |none=>.bad
  | some (d,s2)=>(mx call s2).flow fun x s3=>match take s3 x with
    |none=>.bad
    | some (dx,s4)=>(match setFld s4.h f d dx with
      |some h=>.nx ⟨s4.σ,h⟩
      |none=>.bad)
theorem Cf.cellIns {H:Hp} {h:List O} {L:List (O×V)} {n:Nat} {v:V} {c:Str} {fs:List Str} {ds:List D} (cf:Cf G H h ((.fz (.loc n),v)::L)) (hn:h[n]?=some (.ins c fs ds)):
    ∃ a C dx vs,v= .ref a∧G.cls c=some C∧H a=some (.ins C dx (fs.zip vs))∧fs.length=vs.length∧ds.length=vs.length∧Cf G H h (Fz ds vs++(.fz (.loc n),v)::L):=by
  obtain ⟨a,e,ρ,M,A,hr,cp,a',C,dx,vs,e',hC,t,l,r,f⟩:=cf.cell hn
  cases e'
  refine ⟨a,C,dx,vs,e,hC,t,l,r.length, ?_⟩
  have:=(Cf.fz (L:=L) (ds:=ds++[.loc n]) (vs:=vs++[v]) (by simp [r.length])).mpr ⟨ρ,M,cp,r.append (.one (d:=.loc n) ⟨a,e,hr⟩)⟩
  rw [Fz,List.zipWith_append r.length,List.append_assoc] at this
  exact this
theorem s_fld (g:Good G k call cc W X) {o e:Expr} {f:Str} {me mx:E} {p pos:Pos} (hfl:f∈cc.flds) (he:PE X e (tE G W call me)) (ho:PE X o (tE G W call mx)) (hs:swapsWith e (some (.Attribute o f p)) pos.line X.env=pure false):
    PS X (.Assign [.Attribute o f p] e pos) (tS G W call (cFld me mx f)):=by
  refine (ps_fld ho he hs).of fun En σ H q=>?_
  obtain ⟨s,Φ,nb,c,q⟩:=q
  refine ⟨s,Φ,c,(AftS.flow q).mono fun y s1 a1=>fun yv H1 c1=>?_⟩
  split at a1
  · exact a1.elim
  · rename_i d s2 et
    have c2:=c1.take et
    refine ⟨s2,_,c2,((AftS.flow a1).frame1).mono fun x s3 a3=>fun xv H2 c3=>?_⟩
    split at a3
    · exact a3.elim
    · rename_i dx s4 et2
      have c4:=c3.take et2
      split at a3
      · rename_i h' es
        unfold setFld at es
        split at es
        · rename_i n
          split at es
          · rename_i cn fs xs hn
            split at es
            · rename_i hin
              cases es
              have cf:Cf G H2 s4.h ((.fz (.loc n),xv)::(.fz d,yv)::(slp s4.σ σ++ow Φ)):=c4.cf.perm (by
                show (slp s4.σ σ++(O.fz (.loc n),xv)::(O.fz d,yv)::ow Φ).Perm _
                refine List.perm_middle.trans (.cons _ List.perm_middle))
              obtain ⟨a,C,dd,vs,ex,hC,hH,l1,l2,cf2⟩:=cf.cellIns hn
              subst ex
              have key:Cf G H2 s4.h (Fz (xs++[d]) (vs++[yv])++(.fz (.loc n),.ref a)::(slp s4.σ σ++ow Φ)):=by
                rw [Fz_append l2,List.append_assoc]
                refine cf2.perm (List.Perm.append_left _ ?_)
                show ((O.fz (.loc n),V.ref a)::(O.fz d,yv)::_).Perm ((O.fz d,yv)::(O.fz (.loc n),V.ref a)::_)
                exact .swap _ _ _
              have fin:Cf G (upd H2 a (.ins C dd (putF f yv (fs.zip vs)))) (s4.h.set n (.ins cn (putL f d fs xs).1 (putL f d fs xs).2)) ((.fz (.loc n),.ref a)::(slp s4.σ σ++ow Φ)):=by
                refine Cf.putCell (by simp [l2]) key hn (fun d=>by simp) fun ρ M H' e r=>?_
                have r0:RepDs G ρ H' M xs vs:=by
                  have:=RepDs.take xs.length r
                  rw [List.take_left,l2,List.take_left] at this
                  exact this
                have r1:RepD G ρ H' M d yv:=by
                  have:=RepDs.drop xs.length r
                  rw [List.drop_left,l2,List.drop_left] at this
                  obtain ⟨v',r',e',q1,_⟩:=this
                  cases e'
                  exact q1
                by_cases hf:f∈fs
                · refine ⟨a,C,dd,vs.set (fs.findIdx fun g=>decide (g=f)) yv,rfl,hC, ?_, ?_, ?_,rfl⟩
                  · rw [e,putF_in (α:=Nat) l1 hf];simp [putL,hf]
                  · simp [putL,hf,l1]
                  · simp only [putL,hf,if_true];exact r0.set _ r1
                · refine ⟨a,C,dd,vs++[yv],rfl,hC, ?_, ?_, ?_,rfl⟩
                  · rw [e,putF_out l1 hf];simp [putL,hf]
                  · simp [putL,hf,l1]
                  · simp only [putL,hf,if_false];exact r0.append (.one r1)
              refine ⟨a,C,dd,fs.zip vs,rfl,hH,(g.cls cn C hC).1,g.fld cn C f hC hfl,by rw [List.length_zip];omega, ?_⟩
              refine a3 σ _ ⟨c4.sl,fun i w hw=>absurd hw (nb i w),fin.drop⟩
            · cases es
          · cases es
        · cases es
      · exact a3.elim
def resOut (σ:List (Option O)):Res→Out R
  | .ok o h=>.ok (.own o) ⟨σ,h⟩
  | .exc c d h=>.exc c d ⟨σ,h⟩
  | .bad=>.bad
def mMeth (ml:List (Str×Str)) (m:Str) (mx:E) (r:As):E:=fun call s=>(mx call s).bind fun x s1=>match take s1 x with
  |none=>.bad
  | some (d,s2)=>match deref s2.h d with
    |some (.ins c fs _)=>if (c,m)∈ml∧(fs.all fun g=>!decide (g=m))=true then (r call s2).bind fun ds s3=>resOut s3.σ (call (mkey c m) (d::ds) s3.h) else .bad
    |_=>.bad
end
end Mi
namespace Mi
open PySem PySem.Spec PyProof.Rows L2
def keyD:D→Option Key
  | .int i=>some (.inl i)
  | .str x=>some (.inr x)
  |_=>none
def kD:Key→D
  | .inl i=>.int i
  | .inr x=>.str x
def valD (ks:List Key) (xs:List D) (k:Key):Option D:=((ks.zip xs).find? fun p=>decide (p.1=k)).map (·.2)
def putD (ks:List Key) (xs:List D) (k:Key) (d:D):List Key×List D:=if (ks.any fun g=>decide (g=k))=true then (ks,List.zipWith (fun g x=>if g=k then d else x) ks xs) else (ks++[k],xs++[d])
def mergeD (kds:List (Key×D)) (acc:List Key×List D):List Key×List D:=kds.foldl (fun a p=>putD a.1 a.2 p.1 p.2) acc
section
variable {G:GE} {ρ:List Addr} {H:Hp} {M:List Addr}
theorem key_of' {d:D} {v:V} {k:Key} (r:RepT G ρ H M d v) (e:keyD d=some k):v=kV k:=by
  cases d<;>first|(cases e;exact r)|cases e
theorem val_of: ∀ {ks:List Key} {xs:List D} {vs:List V} {k:Key},ks.length=vs.length→RepDs G ρ H M xs vs→(∀ d,valD ks xs k=some d→∃ v,valV (ks.zip vs) k=some v∧RepD G ρ H M d v)∧(valD ks xs k=none→valV (ks.zip vs) k=none)
  |[],xs,vs,k,l,r=>⟨fun d e=>by simp [valD] at e,fun _=>rfl⟩
  | g ::ks,xs,vs,k,l,r=>by
    cases vs with
    |nil=>simp at l
    | cons w vs=>
      cases xs with
      |nil=>cases r
      | cons x xs=>
        obtain ⟨v,us,e,r1,r2⟩:=r
        cases e
        have ih:=val_of (ks:=ks) (xs:=xs) (vs:=vs) (k:=k) (by simpa using l) r2
        by_cases hg:g=k
        · subst hg
          refine ⟨fun d e=>?_,fun e=>?_⟩
          · simp only [valD,List.zip_cons_cons,List.find?_cons,decide_true,Option.map_some,Option.some.injEq] at e
            subst e
            exact ⟨w,by simp [valV,List.find?_cons],r1⟩
          · simp [valD,List.find?_cons] at e
        · have h1:valD (g::ks) (x::xs) k=valD ks xs k:=by simp [valD,List.find?_cons,hg]
          have h2:valV ((g::ks).zip (w::vs)) k=valV (ks.zip vs) k:=by simp [valV,List.find?_cons,hg]
          rw [h1,h2]
          exact ih
theorem put_of: ∀ {ks:List Key} {xs:List D} {vs:List V} {k:Key} {d:D} {v:V},ks.length=vs.length→RepDs G ρ H M xs vs→RepD G ρ H M d v→
    ∃ vs',putK (ks.zip vs) k v=(putD ks xs k d).1.zip vs'∧(putD ks xs k d).1.length=vs'.length∧RepDs G ρ H M (putD ks xs k d).2 vs':=by
  intro ks xs vs k d v l r rd
  have hany:((ks.zip vs).any fun kv=>decide (kv.1=k))=(ks.any fun g=>decide (g=k)):=by
    clear r
    induction ks generalizing vs with
    |nil=>rfl
    | cons g ks ih=>
      cases vs with
      |nil=>simp at l
      |cons w vs=>simp only [List.zip_cons_cons,List.any_cons,ih (by simpa using l)]
  by_cases hk:(ks.any fun g=>decide (g=k))=true
  · refine ⟨List.zipWith (fun g w=>if g=k then v else w) ks vs, ?_, ?_, ?_⟩
    · simp only [putK,hany,hk,if_true,putD]
      clear r hany hk
      induction ks generalizing vs with
      |nil=>rfl
      | cons g ks ih=>
        cases vs with
        |nil=>simp at l
        | cons w vs=>
          simp only [List.zip_cons_cons,List.map_cons,List.zipWith_cons_cons]
          rw [ih (by simpa using l)]
          by_cases hg:g=k<;>simp [hg]
    · simp [putD,hk,l]
    · simp only [putD,hk,if_true]
      clear hany hk
      induction ks generalizing xs vs with
      |nil=>rfl
      | cons g ks ih=>
        cases vs with
        |nil=>simp at l
        | cons w vs=>
          cases xs with
          |nil=>cases r
          | cons x xs=>
            obtain ⟨v',us,e,r1,r2⟩:=r
            cases e
            refine ⟨if g=k then v else w,List.zipWith (fun g w=>if g=k then v else w) ks vs,rfl, ?_,ih (by simpa using l) r2⟩
            by_cases hg:g=k
            · simp only [hg,if_true];exact rd
            · simp only [hg,if_false];exact r1
  · refine ⟨vs++[v], ?_, ?_, ?_⟩
    · simp only [putK,hany,hk,putD,if_false,Bool.false_eq_true]
      rw [List.zip_append l];rfl
    · simp [putD,hk,l]
    · simp only [putD,hk,if_false];exact r.append (.one rd)
theorem merge_of: ∀ {kds:List (Key×D)} {kvs:List (Key×V)} {ks:List Key} {xs:List D} {vs:List V},ks.length=vs.length→RepDs G ρ H M xs vs→kds.map (·.1)=kvs.map (·.1)→RepDs G ρ H M (kds.map (·.2)) (kvs.map (·.2))→
    ∃ vs',mergeK (ks.zip vs) kvs=(mergeD kds (ks,xs)).1.zip vs'∧(mergeD kds (ks,xs)).1.length=vs'.length∧RepDs G ρ H M (mergeD kds (ks,xs)).2 vs'
  | [],kvs,ks,xs,vs,l,r,e,_=>by
    have:kvs=[]:=by simpa using e.symm
    subst this
    exact ⟨vs,rfl,l,r⟩
  | p ::kds,kvs,ks,xs,vs,l,r,e,rr=>by
    cases kvs with
    |nil=>simp at e
    | cons q kvs=>
      obtain ⟨v,us,eu,r1,r2⟩:=rr
      simp only [List.map_cons,List.cons.injEq] at e eu
      obtain ⟨e1,e2⟩:=e
      obtain ⟨rfl,rfl⟩:=eu
      obtain ⟨vs1,z1,z2,z3⟩:=put_of (k:=p.1) (d:=p.2) (v:=q.2) l r r1
      obtain ⟨vs2,w1,w2,w3⟩:=merge_of (kds:=kds) (kvs:=kvs) z2 z3 e2 r2
      refine ⟨vs2, ?_,w2,w3⟩
      show mergeK (putK (ks.zip vs) q.1 q.2) kvs=_
      rw [←e1,z1]
      exact w1
end
section
variable {G:GE} {k:Nat} {call:Call} {cc:CC} {W:WX} {X:Cx}
def dAt (d i:D):Option O:=match d with
  | .dic ks xs=>(keyD i).bind fun k=>(valD ks xs k).map .fz
  |_=>none
theorem o_dat (hu:X.A.units+1<cLine):IxR X (r2 G dAt):=by
  intro value slice pins s σ H x y v u Q I rx ry h hs
  obtain ⟨ρ,M,h0,L,d1,d2,o,cp,t1,t2,e,q⟩:=h
  unfold dAt at e
  split at e
  · rename_i ks xs
    simp only [Option.bind_eq_some_iff,Option.map_eq_some_iff] at e
    obtain ⟨kk,ek,d,ed,eo⟩:=e
    subst eo
    obtain ⟨a,vs,ex,hr,l,rd⟩:=t1
    subst ex
    obtain rfl:v=Value.ref a:=rx
    obtain rfl:=key_of' t2 ek
    obtain ⟨w,ew,rw'⟩:=(val_of l rd).1 d ed
    have dg:DGet H a (kV kk) (some w):=.inl ⟨ks.zip vs,kk,hr,rfl,ew.symm⟩
    have hT:=dict_typeIs I dg
    unfold subscriptTail
    refine wpAny_bind ?_
    rw [getitemInPython_of_ne hT.not_modules]
    refine wpAny_bind (wpAny_specialOf hT PySem.F.slot_dict_getitem.lookup ?_)
    have go:wpAny (model X.prog X.w) X.A (subscripted slice false (.ref a) u) (fun r s3=>wpAny (model X.prog X.w) X.A (letTemporaryGo value (.ref a) r >>= fun _=>pure r) (EP X pins σ Q) X.xe s3) X.xe s:=by
      rw [hs]
      exact wpAny_operating (wpAny_mono (d_getItem hu I dg ry fun w' s3 I3 r3=>(show EP X pins σ Q w' s3 from ⟨w,H,I3,r3,q w H (Cf.fz1.mpr ⟨ρ,M,cp,rw'⟩)⟩)) (fun r s3 h3=>wpAny_bind (wpAny_letTemporaryGo (wpAny_pure h3))) fun _ _ x=>x)
    first
      |exact wpAny_pure (wpAny_bind go)
      |exact wpAny_bind (wpAny_pure (wpAny_bind go))
      |exact wpAny_bind go
  · cases e
def dIn (i d:D):Option O:=match d with
  | .dic ks xs=>(keyD i).map fun k=>.fz (.bl (valD ks xs k).isSome)
  |_=>none
def dNotIn (i d:D):Option O:=match d with
  | .dic ks xs=>(keyD i).map fun k=>.fz (.bl (!(valD ks xs k).isSome))
  |_=>none
theorem val_some {ρ:List Addr} {H:Hp} {M:List Addr} {ks:List Key} {xs:List D} {vs:List V} {kk:Key} (l:ks.length=vs.length) (rd:RepDs G ρ H M xs vs):(valV (ks.zip vs) kk).isSome=(valD ks xs kk).isSome:=by
  cases ed:valD ks xs kk with
  |none=>rw [(val_of l rd).2 ed];rfl
  |some d=>obtain ⟨w,ew,_⟩:=(val_of l rd).1 d ed;rw [ew];rfl
theorem o_din (hu:X.A.units+1<cLine):OpR X (compareOp .In) (r2 G dIn):=by
  intro pins s σ H x y v u Q I rx ry h
  obtain ⟨ρ,M,h0,L,d1,d2,o,cp,t1,t2,e,q⟩:=h
  unfold dIn at e
  split at e
  · rename_i ks xs
    simp only [Option.map_eq_some_iff] at e
    obtain ⟨kk,ek,eo⟩:=e
    subst eo
    obtain ⟨a,vs,ex,hr,l,rd⟩:=t2
    subst ex
    obtain rfl:u=Value.ref a:=ry
    obtain rfl:=key_of' t1 ek
    refine d_in hu I (.inl ⟨ks.zip vs,kk,hr,rfl,rfl⟩) rx fun s3 I3=>⟨.bl (valV (ks.zip vs) kk).isSome,H,I3,rfl, ?_⟩
    rw [val_some l rd]
    exact q _ H (cp.bl _)
  · cases e
theorem o_dnotin (hu:X.A.units+1<cLine):OpR X (compareOp .NotIn) (r2 G dNotIn):=by
  intro pins s σ H x y v u Q I rx ry h
  obtain ⟨ρ,M,h0,L,d1,d2,o,cp,t1,t2,e,q⟩:=h
  unfold dNotIn at e
  split at e
  · rename_i ks xs
    simp only [Option.map_eq_some_iff] at e
    obtain ⟨kk,ek,eo⟩:=e
    subst eo
    obtain ⟨a,vs,ex,hr,l,rd⟩:=t2
    subst ex
    obtain rfl:u=Value.ref a:=ry
    obtain rfl:=key_of' t1 ek
    refine d_notIn hu I (.inl ⟨ks.zip vs,kk,hr,rfl,rfl⟩) rx fun s3 I3=>⟨.bl (!(valV (ks.zip vs) kk).isSome),H,I3,rfl, ?_⟩
    rw [val_some l rd]
    exact q _ H (cp.bl _)
  · cases e
def dLen:List D→Option O
  |[.dic ks _]=>fI ks.length
  |_=>none
theorem b_dlen:CallR X (.builtin "len") (rN G dLen):=by
  intro pins s σ H xs us Q I r h
  obtain ⟨ρ,M,h0,L,ds,o,cp,t,e,q⟩:=h
  unfold dLen at e
  split at e
  · rename_i ks xs'
    cases e
    obtain ⟨v,ev,t⟩:=t.one
    obtain ⟨a,vs,ex,hr,l,rd⟩:=t
    subst ex
    subst ev
    obtain ⟨u,rfl,ru⟩:=vals1 r
    cases ru
    refine d_len I hr fun t s' I'=>⟨.int (ks.zip vs).length,H,I',⟨t,rfl⟩, ?_⟩
    have:(ks.zip vs).length=ks.length:=by rw [List.length_zip];omega
    rw [this]
    exact q _ H (cp.int _)
  · cases e
end
end Mi
namespace Mi
open PySem PySem.Spec PyProof.Rows L2
section
variable {G:GE} {k:Nat} {call:Call} {cc:CC} {W:WX} {X:Cx}
def mutKD (h:List O) (kk:Key) (d:D):D→Option (List O)
  | .loc n=>match h[n]? with
    |some (.dic ks xs)=>if fitsB ks.length then some (h.set n (.dic (putD ks xs kk d).1 (putD ks xs kk d).2)) else none
    |_=>none
  |_=>none
def mutK (s:S) (kk:Key) (d:D):R→Option S
  | .own (.fz dd)=>(mutKD s.h kk d dd).map fun h=>⟨s.σ,h⟩
  | .own _=>none
  | .bor i=>match s.σ[i]? with
    |some (some (.dic ks xs))=>if fitsB ks.length then some ⟨s.σ.set i (some (.dic (putD ks xs kk d).1 (putD ks xs kk d).2)),s.h⟩ else none
    |some (some (.fz dd))=>(mutKD s.h kk d dd).map fun h=>⟨s.σ,h⟩
    |_=>none
theorem Cf.cellDic {H:Hp} {h:List O} {L:List (O×V)} {n:Nat} {v:V} {ks:List Key} {ds:List D} (cf:Cf G H h ((.fz (.loc n),v)::L)) (hn:h[n]?=some (.dic ks ds)):
    ∃ a vs,v= .ref a∧H a=some (.dK (ks.zip vs))∧ks.length=vs.length∧ds.length=vs.length∧Cf G H h (Fz ds vs++(.fz (.loc n),v)::L):=by
  obtain ⟨a,e,ρ,M,A,hr,cp,a',vs,e',t,l,r,f⟩:=cf.cell hn
  cases e'
  refine ⟨a,vs,e,t,l,r.length, ?_⟩
  have:=(Cf.fz (L:=L) (ds:=ds++[.loc n]) (vs:=vs++[v]) (by simp [r.length])).mpr ⟨ρ,M,cp,r.append (.one (d:=.loc n) ⟨a,e,hr⟩)⟩
  rw [Fz,List.zipWith_append r.length,List.append_assoc] at this
  exact this
theorem Cf.dicO {H:Hp} {h:List O} {L:List (O×V)} {v:V} {ks:List Key} {ds:List D} (cf:Cf G H h ((.dic ks ds,v)::L)): ∃ a vs,v= .ref a∧H a=some (.dK (ks.zip vs))∧ks.length=vs.length∧ds.length=vs.length∧Cf G H h ((.dic ks ds,v)::(Fz ds vs++L)):=by
  obtain ⟨ρ,M,l,ow,n⟩:=cf
  obtain ⟨A,B,o1,o2,pm⟩:=ow.ahead
  obtain ⟨a,vs,e,t,lk,r,f⟩:=o1
  refine ⟨a,vs,e,t,lk,r.length, ?_⟩
  have c2:Cf G H h (Fz ds vs++(.dic ks ds,v)::L):=(Cf.fz r.length).mpr ⟨ρ,M,⟨l,ow,n⟩,r⟩
  exact c2.perm List.perm_middle
theorem reps_split {ρ:List Addr} {H:Hp} {M:List Addr} {xs:List D} {vs:List V} {d:D} {v:V} (l:xs.length=vs.length) (r:RepDs G ρ H M (xs++[d]) (vs++[v])):RepDs G ρ H M xs vs∧RepD G ρ H M d v:=by
  have r0:=RepDs.take xs.length r
  rw [List.take_left,l,List.take_left] at r0
  have r1:=RepDs.drop xs.length r
  rw [List.drop_left,l,List.drop_left] at r1
  obtain ⟨v',r',e',q1,_⟩:=r1
  cases e'
  exact ⟨r0,q1⟩
theorem CfS.mutateK {σr:Sr} {H:Hp} {s s':S} {Φ:List (R×V)} {kk:Key} {r:R} {v:V} {d:D} {yv:V} (c:CfS G σr H s ((r,v)::(.own (.fz d),yv)::Φ)) (e:mutK s kk d r=some s'):
    ∃ p kvs,v= .ref p∧H p=some (.dK kvs)∧kvs.length<sizeLine∧CfS G σr (upd H p (.dK (putK kvs kk yv))) s' Φ:=by
  have bo: ∀ i w,(R.bor i,w)∈Φ→σr[i]?=some (some w):=fun i w q=>c.bo i w (List.mem_cons_of_mem _ (List.mem_cons_of_mem _ q))
  have szl: ∀ {ks:List Key} {vs:List V},fitsB ks.length=true→(ks.zip vs).length<sizeLine:=fun {ks vs} h=>by
    have h1:=of_decide_eq_true h
    have h2:(100001:Nat)≤sizeLine:=by rw [sizeLine_eq];decide
    rw [List.length_zip]
    omega
  have cell : ∀ (dd:D) (h':List O) (L:List (O×V)),Cf G H s.h ((.fz dd,v)::(.fz d,yv)::L)→mutKD s.h kk d dd=some h'→∃ p kvs,v= .ref p∧H p=some (.dK kvs)∧kvs.length<sizeLine∧Cf G (upd H p (.dK (putK kvs kk yv))) h' ((.fz dd,v)::L):=by
    intro dd h' L cf em
    unfold mutKD at em
    split at em
    · rename_i n
      split at em
      · rename_i ks xs hn
        split at em
        · rename_i hfit
          cases em
          obtain ⟨a,vs,ex,hH,l1,l2,cf2⟩:=cf.cellDic hn
          subst ex
          have key:Cf G H s.h (Fz (xs++[d]) (vs++[yv])++(.fz (.loc n),.ref a)::L):=by
            rw [Fz_append l2,List.append_assoc]
            exact cf2.perm (List.Perm.append_left _ (.swap _ _ _))
          refine ⟨a,ks.zip vs,rfl,hH,szl hfit,Cf.putCell (by simp [l2]) key hn (fun d=>by simp) fun ρ M H' e r=>?_⟩
          obtain ⟨r0,r1⟩:=reps_split l2 r
          obtain ⟨vs',z1,z2,z3⟩:=put_of (k:=kk) l1 r0 r1
          exact ⟨a,vs',rfl,by rw [e,z1],z2,z3,rfl⟩
        · cases em
      · cases em
    · cases em
  cases r with
  | own o=>
    cases o with
    | fz dd=>
      simp only [mutK,Option.map_eq_some_iff] at e
      obtain ⟨h',em,eh⟩:=e
      subst eh
      obtain ⟨p,kvs,ev,hH,hz,cf⟩:=cell dd h' (slp s.σ σr++ow Φ) (c.cf.perm (by
        show (slp s.σ σr++(O.fz dd,v)::(O.fz d,yv)::ow Φ).Perm _
        exact List.perm_middle.trans (.cons _ List.perm_middle))) em
      exact ⟨p,kvs,ev,hH,hz,c.sl,bo,cf.drop⟩
    |_=>all_goals cases e
  | bor i =>
    have ev:σr[i]?=some (some v):=c.bo i v (by simp)
    have cfY:Cf G H s.h (slp s.σ σr++(.fz d,yv)::ow Φ):=c.cf
    simp only [mutK] at e
    split at e
    · rename_i ks xs es1
      split at e
      · rename_i hfit
        cases e
        obtain ⟨Xl,Yl,q1,q2⟩:=slp_at es1 ev
        rw [q1] at cfY
        have c1:Cf G H s.h ((.dic ks xs,v)::((.fz d,yv)::(Xl++Yl++ow Φ))):=cfY.perm (by
          rw [show Xl++(O.dic ks xs,v)::Yl++(O.fz d,yv)::ow Φ=Xl++(O.dic ks xs,v)::(Yl++(O.fz d,yv)::ow Φ) by simp]
          refine List.perm_middle.trans (.cons _ ?_)
          rw [←List.append_assoc]
          exact List.perm_middle)
        obtain ⟨a,vs,ex,hH,l1,l2,cf2⟩:=c1.dicO
        subst ex
        have key:Cf G H s.h ((.dic ks xs,.ref a)::(Fz (xs++[d]) (vs++[yv])++(Xl++Yl++ow Φ))):=by
          rw [Fz_append l2,List.append_assoc]
          exact cf2
        refine ⟨a,ks.zip vs,rfl,hH,szl hfit, ?_⟩
        have z3:=key.change (ho:=.dK (putK (ks.zip vs) kk yv)) (o':=.dic (putD ks xs kk d).1 (putD ks xs kk d).2) (by simp [l2]) (fun _ h=>by cases h) fun ρ M H' e r=>by
          obtain ⟨r0,r1⟩:=reps_split l2 r
          obtain ⟨vs',z1,z2,z3⟩:=put_of (k:=kk) l1 r0 r1
          exact ⟨a,vs',rfl,by rw [e,z1],z2,z3,rfl⟩
        refine ⟨⟨by simp [c.sl.len],fun j o' q=>?_⟩,bo, ?_⟩
        · by_cases hj:i=j
          · subst hj;exact ⟨_,ev⟩
          · exact c.sl.at_ j o' (by simpa [List.getElem?_set,hj] using q)
        · show Cf G _ s.h (slp (s.σ.set i (some _)) σr++ow Φ)
          rw [q2]
          refine z3.perm ?_
          rw [List.append_assoc,List.append_assoc]
          exact List.perm_middle.symm
      · cases e
    · rename_i dd es1
      simp only [Option.map_eq_some_iff] at e
      obtain ⟨h',em,eh⟩:=e
      subst eh
      obtain ⟨Xl,Yl,q1,q2⟩:=slp_at es1 ev
      rw [q1] at cfY
      obtain ⟨p,kvs,evv,hH,hz,cf⟩:=cell dd h' (Xl++Yl++ow Φ) (cfY.perm (by
        rw [show Xl++(O.fz dd,v)::Yl++(O.fz d,yv)::ow Φ=Xl++(O.fz dd,v)::(Yl++(O.fz d,yv)::ow Φ) by simp]
        refine List.perm_middle.trans (.cons _ ?_)
        rw [←List.append_assoc]
        exact List.perm_middle)) em
      refine ⟨p,kvs,evv,hH,hz,c.sl,bo, ?_⟩
      rw [q1]
      refine cf.perm ?_
      rw [List.append_assoc,List.append_assoc]
      exact List.perm_middle.symm
    · cases e
def cSetK (me mx mi:E):C:=fun call s=>(me call s).flow fun y s1=>match take s1 y with
  |none=>.bad
  | some (d,s2)=>(mx call s2).flow fun x s3=>(mi call s3).flow fun i s4=>match (peek s4 i).bind keyD with
    | some kk=>(match mutK s4 kk d x with
      |some s5=>.nx s5
      |none=>.bad)
    |none=>.bad
theorem s_setK (g:Good G k call cc W X) {e x i:Expr} {me mx mi:E} {p pos:Pos} (he:PE X e (tE G W call me)) (hx:PE X x (tE G W call mx)) (hi:PE X i (tE G W call mi)):
    PS X (.Assign [.Subscript x i p] e pos) (tS G W call (cSetK me mx mi)):=by
  refine (ps_dput (Nat.lt_of_le_of_lt (Nat.add_le_add_left (by decide) _) g.units) hx hi he sw_sub).of fun En σ H q=>?_
  obtain ⟨s,Φ,nb,c,q⟩:=q
  refine ⟨s,Φ,c,(AftS.flow q).mono fun y s1 a1=>fun yv H1 c1=>?_⟩
  split at a1
  · exact a1.elim
  · rename_i d s2 et
    have c2:=c1.take et
    refine ⟨s2,_,c2,((AftS.flow a1).frame1).mono fun x s3 a3=>fun xv H2 c3=>?_⟩
    refine ⟨s3,_,c3,((AftS.flow a3).frame (K:=[(x,xv),(.own (.fz d),yv)])).mono fun i s4 a4=>fun iv H3 c4=>?_⟩
    split at a4
    · rename_i kk ek
      split at a4
      · rename_i s5 em
        simp only [Option.bind_eq_some_iff] at ek
        obtain ⟨di,e1,e2⟩:=ek
        obtain ⟨ρ,M,cp⟩:=c4.parts
        have hiv:=key_of' (c4.peek (r:=i) (v:=iv) (by simp) e1 cp) e2
        obtain ⟨pp,kvs,ev,hH,hz,fin⟩:=CfS.mutateK c4.drop em
        subst ev
        subst hiv
        exact ⟨pp,_,rfl,.inl ⟨kvs,kk,hH,rfl,hz,rfl⟩,a4 σ _ fin⟩
      · exact a4.elim
    · exact a4.elim
def cSetX0 (me mx mi:E):C:=fun call s=>match cSetL me mx mi call s with
  | .bad=>cSetK me mx mi call s
  |y=>y
theorem s_setX0 (g:Good G k call cc W X) {e x i:Expr} {me mx mi:E} {p pos:Pos} (he:PE X e (tE G W call me)) (hx:PE X x (tE G W call mx)) (hi:PE X i (tE G W call mi)) (hs:notSlice i=true):
    PS X (.Assign [.Subscript x i p] e pos) (tS G W call (cSetX0 me mx mi)):=by
  have h1:=s_setL g (p:=p) (pos:=pos) he hx hi hs
  have h2:=s_setK g (p:=p) (pos:=pos) he hx hi
  refine ⟨fun pins s σ H D I q=>?_⟩
  obtain ⟨st,Φ,nb,c,q⟩:=q
  unfold cSetX0 at q
  cases es:cSetL me mx mi call st with
  |bad=>rw [es] at q;exact h2.run pins s σ H D I ⟨st,Φ,nb,c,q⟩
  |_=>all_goals (rw [es] at q;exact h1.run pins s σ H D I ⟨st,Φ,nb,c,by rw [es];exact q⟩)
def mPairs:List (E×E)→Call→S→Out (List (Key×D))
  |[],_,s=>.ok [] s
  | (mk,mv)::r,call,s=>(mk call s).bind fun x s1=>match (peek s1 x).bind keyD with
    |none=>.bad
    | some kk=>(mv call s1).bind fun y s2=>match take s2 y with
      |none=>.bad
      |some (d,s3)=>(mPairs r call s3).bind fun kds s4=>.ok ((kk,d)::kds) s4
def mDisp (ps:List (E×E)):E:=fun call s=>(mPairs ps call s).bind fun kds s1=>if kds.length≤15 then .ok (.own (.dic (mergeD kds ([],[])).1 (mergeD kds ([],[])).2)) s1 else .bad
theorem pairs_ok: ∀ (ps:List (E×E)) {σ:Sr} {H:Hp} {s:S} {Ψ:List (R×V)} {Qp:List (V×V)→Hp→Prop},CfS G σ H s Ψ→
    Aft G W σ Ψ (fun kds s1=> ∀ (kvs:List (Key×V)) H2,kds.map (·.1)=kvs.map (·.1)→CfS G σ H2 s1 (FzR (kds.map (·.2)) (kvs.map (·.2))++Ψ)→Qp (kvs.map fun kv=>(kV kv.1,kv.2)) H2) (mPairs ps call s)→
    tPairs (ps.map fun p=>(tE G W call p.1,tE G W call p.2)) σ H Qp
  |[],σ,H,s,Ψ,Qp,c,a=>a [] H rfl c
  | (mk,mv)::r,σ,H,s,Ψ,Qp,c,a=>by
    refine ⟨s,Ψ,c,(Aft.bind a).mono fun x s1 a1=>fun xv H1 c1=>?_⟩
    split at a1
    · exact a1.elim
    · rename_i kk ek
      simp only [Option.bind_eq_some_iff] at ek
      obtain ⟨dk,e1,e2⟩:=ek
      obtain ⟨ρ,M,cp⟩:=c1.parts
      have hxv:=key_of' (c1.peek (r:=x) (v:=xv) (by simp) e1 cp) e2
      subst hxv
      refine ⟨s1,Ψ,c1.drop,(Aft.bind a1).mono fun y s2 a2=>fun yv H2 c2=>?_⟩
      split at a2
      · exact a2.elim
      · rename_i d s3 et
        have c3:=c2.take et
        refine pairs_ok r c3 (((Aft.bind a2).frame1).mono fun kds s4 a4=>fun kvs H4 ek c4=>?_)
        refine a4 ((kk,yv)::kvs) H4 (by simp [ek]) ?_
        exact c4.perm List.perm_middle
theorem e_disp {keys values:List Expr} {ps:List (E×E)} {pos:Pos} (h:PPs X pos (keys.map some) values (ps.map fun p=>(tE G W call p.1,tE G W call p.2))) (hl:keys.length=values.length) (h0:keys≠[]) (h15:keys.length≤15):
    PE X (.Dict (keys.map some) values pos) (tE G W call (mDisp ps)):=by
  refine (pe_disp h (by simp) (by simpa using hl) (by simpa using h0) (by simpa using h15)).of fun σ H Q q=>?_
  obtain ⟨s,Φ,c,a⟩:=q
  intro p hp
  have c1:CfS G σ (upd H p (.dK [])) s ((.own (.dic [] []),.ref p)::Φ):=by
    refine ⟨c.sl,fun i v hv=>?_, ?_⟩
    · rcases List.mem_cons.mp hv with z|z
      · cases z
      · exact c.bo i v z
    · have:=Cf.newDic (G:=G) (ks:=[]) (ds:=[]) (vs:=[]) (p:=p) rfl rfl (show Cf G H s.h (Fz [] []++(slp s.σ σ++ow Φ)) from c.cf) hp
      exact this.perm List.perm_middle.symm
  refine pairs_ok ps c1 (((Aft.bind a).frame1).mono fun kds s1 a1=>fun kvs H2 ek c2=>?_)
  split at a1
  · rename_i h15'
    have l2:(kds.map (·.2)).length=(kvs.map (·.2)).length:=by
      have:=congrArg List.length ek
      simpa using this
    have cf:Cf G H2 s1.h ((.dic [] [],.ref p)::(Fz (kds.map (·.2)) (kvs.map (·.2))++(slp s1.σ σ++ow Φ))):=by
      have:=c2.cf
      rw [ow_append,ow_fz] at this
      refine this.perm ?_
      show (slp s1.σ σ++(Fz _ _++(O.dic [] [],V.ref p)::ow Φ)).Perm _
      rw [←List.append_assoc]
      refine List.perm_middle.trans (.cons _ ?_)
      rw [←List.append_assoc]
      exact (List.perm_append_comm).append_right _
    obtain ⟨a',vs0,ep,hH,l0,_,_⟩:=cf.dicO
    cases ep
    refine ⟨by rw [hH];rfl,kvs,rfl, ?_, ?_⟩
    · have:=congrArg List.length ek
      simp only [List.length_map] at this
      omega
    · have z:=cf.change (ho:=.dK (mergeK [] kvs)) (o':=.dic (mergeD kds ([],[])).1 (mergeD kds ([],[])).2) l2 (fun _ h=>by cases h) fun ρ M H' e r=>by
        obtain ⟨vs',z1,z2,z3⟩:=merge_of (G:=G) (ρ:=ρ) (H:=H') (M:=M) (kds:=kds) (kvs:=kvs) (ks:=[]) (xs:=[]) (vs:=[]) rfl rfl ek r
        exact ⟨p,vs',rfl,by rw [e,←z1];rfl,z2,z3,rfl⟩
      refine a1 _ _ ⟨c2.sl,fun i v hv=>?_,z.perm List.perm_middle.symm⟩
      rcases List.mem_cons.mp hv with hz|hz
      · cases hz
      · exact c2.bo i v (List.mem_append_right _ (List.mem_cons_of_mem _ hz))
  · exact a1.elim
end
end Mi
namespace Mi
open PySem PySem.Spec PyProof.Rows L2
section
variable {G:GE} {ρ:List Addr} {H:Hp} {M:List Addr} {d:Addr} {kvs:List (Key×V)} {od:Obj}
abbrev lockH (H:Hp) (d:Addr) (od:Obj) (kvs:List (Key×V)):Hp:=upd H d (.frz od (.dK kvs))
theorem lock_ne {a:Addr} (z:a≠d):lockH H d od kvs a=H a:=upd_ne z
theorem lock_keep (hd:H d=some (.dK kvs)) {a:Addr} {o:HO} (e:H a=some o) (h: ∀ x,o≠.dK x):lockH H d od kvs a=some o:=by
  have:a≠d:=fun z=>by subst z;rw [hd] at e;cases e;exact h _ rfl
  rw [lock_ne this];exact e
theorem lock_rd (hd:H d=some (.dK kvs)) {a:Addr} {u:HO} (r:Rd H a u):Rd (lockH H d od kvs) a u:=by
  by_cases z:a=d
  · subst z
    rcases r with r|⟨o,r⟩
    · rw [hd] at r;cases r;exact .inr ⟨od,upd_same⟩
    · rw [hd] at r;cases r
  · rcases r with r|⟨o,r⟩
    · exact .inl (by rw [lock_ne z];exact r)
    · exact .inr ⟨o,by rw [lock_ne z];exact r⟩
mutual
theorem RepD.lock (hd:H d=some (.dK kvs)): ∀ (x:D) (v:V),RepD G ρ H M x v→RepD G ρ (lockH H d od kvs) M x v
  | .non,v,h=>h
  | .bl b,v,h=>h
  | .int i,v,h=>h
  | .str x,v,h=>h
  | .tup ds,v,h=>by
    obtain ⟨a,vs,e,t,r⟩:=h
    refine ⟨a,vs,e, ?_,RepDs.lock hd ds vs r⟩
    rcases t with ⟨ho,q,i,n⟩|t
    · exact .inl ⟨ho,lock_keep hd q (fun x z=>by subst z;exact i.elim),i,n⟩
    · exact .inr t
  | .lst ds,v,h=>by obtain ⟨a,vs,e,t,n,r⟩:=h;exact ⟨a,vs,e,lock_keep hd t (by simp),n,RepDs.lock hd ds vs r⟩
  | .dic ks ds,v,h=>by obtain ⟨a,vs,e,t,l,n,r⟩:=h;exact ⟨a,vs,e,lock_rd hd t,l,n,RepDs.lock hd ds vs r⟩
  | .ins c fs ds,v,h=>by obtain ⟨a,C,dx,vs,e,g,t,l,n,r⟩:=h;exact ⟨a,C,dx,vs,e,g,lock_keep hd t (by simp),l,n,RepDs.lock hd ds vs r⟩
  | .dct ks ds,v,h=>by obtain ⟨a,bs,vs,e,t,l,fk,n,rk,r⟩:=h;exact ⟨a,bs,vs,e,lock_rd hd t,l,fk,n,RepDs.lock hd ks _ rk,RepDs.lock hd ds vs r⟩
  | .loc n,v,h=>h
  | .fn f,v,h=>h
  | .scr ns,v,h=>by
    obtain ⟨a,e,t|t⟩:=h
    · exact ⟨a,e,.inl ⟨lock_rd hd t.1,t.2⟩⟩
    · exact ⟨a,e,.inr t⟩
  | .ty n,v,h=>h
  | .cls c,v,h=>h
  | .lk o x,v,h=>by obtain ⟨a,e,t,n⟩:=h;exact ⟨a,e,lock_keep hd t (by simp),n⟩
  | .xn c f x,v,h=>by obtain ⟨a,a',C,v',e1,e2,e3,t,n,r⟩:=h;exact ⟨a,a',C,v',e1,e2,e3,lock_keep hd t (by simp),n,RepD.lock hd x v' r⟩
theorem RepDs.lock (hd:H d=some (.dK kvs)): ∀ (ds:List D) (vs:List V),RepDs G ρ H M ds vs→RepDs G ρ (lockH H d od kvs) M ds vs
  |[],vs,h=>h
  | x::ds,vs,h=>by
    obtain ⟨v,r,e,h1,h2⟩:=h
    exact ⟨v,r,e,RepD.lock hd x v h1,RepDs.lock hd ds r h2⟩
end
theorem Own.lock (hd:H d=some (.dK kvs)) {o:O} {v:V} {F:List Addr} (w:Own G ρ H M o v F) (hF:d∉F):Own G ρ (lockH H d od kvs) M o v F:=by
  cases o with
  |fz x=>exact ⟨RepD.lock hd x v w.1,w.2⟩
  |lst ds=>obtain ⟨a,vs,e,t,r,f⟩:=w;exact ⟨a,vs,e,lock_keep hd t (by simp),RepDs.lock hd ds vs r,f⟩
  | dic ks ds=>
    obtain ⟨a,vs,e,t,l,r,f⟩:=w
    refine ⟨a,vs,e, ?_,l,RepDs.lock hd ds vs r,f⟩
    rw [lock_ne (fun z:a=d=>hF (by rw [f];simp [z]))];exact t
  |ins c fs ds=>obtain ⟨a,C,dx,vs,e,g,t,l,r,f⟩:=w;exact ⟨a,C,dx,vs,e,g,lock_keep hd t (by simp),l,RepDs.lock hd ds vs r,f⟩
  |dct ks ds=>obtain ⟨a,bs,vs,e,t,l,fk,rk,r,f⟩:=w;exact ⟨a,bs,vs,e,lock_keep hd t (by simp [DtO]),l,fk,RepDs.lock hd ks _ rk,RepDs.lock hd ds vs r,f⟩
theorem Owns.lock (hd:H d=some (.dK kvs)): ∀ {L:List (O×V)} {F:List Addr},Owns G ρ H M L F→d∉F→Owns G ρ (lockH H d od kvs) M L F
  |[],F,h,_=>h
  | p::ps,F,h,hF=>by
    obtain ⟨A,B,e,h1,h2⟩:=h
    subst e
    exact ⟨A,B,rfl,h1.lock hd fun z=>hF (List.mem_append_left _ z),Owns.lock hd h2 fun z=>hF (List.mem_append_right _ z)⟩
end
section
variable {G:GE} {k:Nat} {call:Call} {cc:CC} {W:WX} {X:Cx}
theorem CfS.lockD {σr:Sr} {H:Hp} {s:S} {Φ:List (R×V)} {ks:List Key} {xs:List D} {v:V} (c:CfS G σr H s ((.own (.fz (.dic ks xs)),v)::Φ)):
    ∃ d kvs,v= .ref d∧((∃ o,H d=some (.frz o (.dK kvs))∧CfS G σr H s ((.own (.fz (.lk o (.dK kvs))),v)::(.own (.fz (.dic ks xs)),v)::Φ))∨
      (H d=some (.dK kvs)∧∀ od,CfS G σr (lockH H d od kvs) s ((.own (.fz (.lk od (.dK kvs))),v)::(.own (.fz (.dic ks xs)),v)::Φ))):=by
  obtain ⟨ρ,M,cp⟩:=c.parts
  obtain ⟨A,w⟩:=Owns.mem (p:=(O.fz (.dic ks xs),v)) cp.2.1 (List.mem_append_right _ (List.mem_append_right _ (by simp [ow])))
  obtain ⟨a,vs,ev,hr,l,n,rd⟩:=w.1
  have bo: ∀ (o:Obj) (kvs:List (Key×V)) i u,(R.bor i,u)∈(R.own (.fz (.lk o (.dK kvs))),v)::(R.own (.fz (.dic ks xs)),v)::Φ→σr[i]?=some (some u):=fun o kvs i u hu=>by
    rcases List.mem_cons.mp hu with z|z
    · cases z
    · exact c.bo i u z
  refine ⟨a,ks.zip vs,ev, ?_⟩
  rcases hr with hr|⟨o,hr⟩
  · refine .inr ⟨hr,fun od=>⟨c.sl,bo od _, ?_⟩⟩
    have cp':Cp G ρ (lockH H a od (ks.zip vs)) M s.h (slp s.σ σr++ow ((.own (.fz (.dic ks xs)),v)::Φ)):=⟨cp.1,cp.2.1.lock hr n,cp.2.2⟩
    have q:Cf G (lockH H a od (ks.zip vs)) s.h ((.fz (.lk od (.dK (ks.zip vs))),v)::(slp s.σ σr++ow ((.own (.fz (.dic ks xs)),v)::Φ))):=Cf.fz1.mpr ⟨ρ,M,cp',a,ev,upd_same,n⟩
    exact q.perm List.perm_middle.symm
  · refine .inl ⟨o,hr,c.sl,bo o _, ?_⟩
    have q:Cf G H s.h ((.fz (.lk o (.dK (ks.zip vs))),v)::(slp s.σ σr++ow ((.own (.fz (.dic ks xs)),v)::Φ))):=Cf.fz1.mpr ⟨ρ,M,cp,a,ev,hr,n⟩
    exact q.perm List.perm_middle.symm
theorem lk_see {σr:Sr} {H:Hp} {s:S} {Φ:List (R×V)} {ks:List Key} {xs:List D} {d:Addr} {o:Obj} {kvs:List (Key×V)} (c:CfS G σr H s ([(.own (.fz (.lk o (.dK kvs))),.ref d),(.own (.fz (.dic ks xs)),.ref d)]++Φ)):
    H d=some (.frz o (.dK kvs))∧∃ ρ M vs,Cp G ρ H M s.h (slp s.σ σr++ow ([(.own (.fz (.lk o (.dK kvs))),.ref d),(.own (.fz (.dic ks xs)),.ref d)]++Φ))∧kvs=ks.zip vs∧ks.length=vs.length∧RepDs G ρ H M xs vs:=by
  obtain ⟨ρ,M,cp⟩:=c.parts
  obtain ⟨_,w1⟩:=Owns.mem (p:=(O.fz (.lk o (.dK kvs)),V.ref d)) cp.2.1 (List.mem_append_right _ (List.mem_append_right _ (by simp [ow])))
  obtain ⟨_,w2⟩:=Owns.mem (p:=(O.fz (.dic ks xs),V.ref d)) cp.2.1 (List.mem_append_right _ (List.mem_append_right _ (by simp [ow])))
  obtain ⟨a,ea,hH,_⟩:=w1.1
  cases ea
  obtain ⟨b,vs,eb,hr,l,_,rd⟩:=w2.1
  cases eb
  refine ⟨hH,ρ,M,vs,cp, ?_,l,rd⟩
  rcases hr with hr|⟨o',hr⟩
  · rw [hH] at hr;cases hr
  · rw [hH] at hr;cases hr;rfl
theorem walks_keys {ks:List Key} {xs:List D} {d:Addr} {o:Obj} {kvs:List (Key×V)} (hl:ks.length=xs.length):Walks G (Itk d o kvs) [(.own (.fz (.lk o (.dK kvs))),.ref d),(.own (.fz (.dic ks xs)),.ref d)] (ks.map kD):=by
  intro σr H s Φ c
  obtain ⟨hH,ρ,M,vs,cp,rfl,l,rd⟩:=lk_see c
  have lz:(ks.zip vs).length=ks.length:=by rw [List.length_zip,l];exact Nat.min_self _
  refine ⟨fun i hi=>⟨hH,by rw [lz];simpa using hi⟩,fun i d' x H' ei y=>?_,⟨hH,by rw [lz];simp⟩⟩
  obtain ⟨rfl,kk,v,hk,rfl⟩:=y
  rw [List.getElem?_zip_eq_some] at hk
  rw [List.getElem?_map,hk.1] at ei
  cases ei
  refine CfS.cpMore (K:=[]) c cp ?_
  cases kk<;>rfl
theorem _root_.L2.PE.locks {e:Expr} {t:TE} (h:PE X e t):PE X e (fun σ H Q=>t σ H fun x H1=>Q x H1∨∃ d u,H1 d=some u∧Mut (some u)∧∀ od,Q x (upd H1 d (.frz od u))):=by
  refine ⟨fun pins s σ H Q I q=>thn (h.run pins s σ H _ I q) fun v s1 ⟨x,H1,I1,rx,z⟩=>?_⟩
  rcases z with z|⟨d,u,hd,mu,z⟩
  · exact ⟨x,H1,I1,rx,z⟩
  · obtain ⟨od,I2⟩:=I1.lock hd mu
    exact ⟨x,_,I2,rx,z od⟩
def iVals_ (m:E):Iv:=fun call s=>(m call s).bind fun x s1=>match take s1 x with
  |some (.dic _ xs,s2)=>.ok xs s2
  |_=>.bad
def iKeys_ (m:E):Iv:=fun call s=>(m call s).bind fun x s1=>match take s1 x with
  |some (.dic ks xs,s2)=>if ks.length=xs.length then .ok (ks.map kD) s2 else .bad
  |_=>.bad
theorem i_keys {tg e:Expr} {m:E} (he:PE X e (tE G W call m)):PI X tg e (tI G W call (iKeys_ m)):=by
  refine (pi_keys (tg:=tg) he.locks).of fun σ H Rr q=>?_
  obtain ⟨s,Φ,c,a⟩:=q
  refine ⟨s,Φ,c,(Aft.bind a).mono fun x s1 a1=>fun v H1 c1=>?_⟩
  split at a1
  · rename_i ks xs s2 et
    split at a1
    · rename_i hln
      have c2:=c1.take et
      obtain ⟨d,kvs,rfl,⟨o,hH,c3⟩|⟨hH,c3⟩⟩:=c2.lockD
      · exact .inl ⟨d,o,rfl,.inl ⟨kvs,hH,a1 _ _ _ (fun i u z=>by simp at z) c3 (walks_keys hln)⟩⟩
      · exact .inr ⟨d,.dK kvs,hH,trivial,fun od=>⟨d,od,rfl,.inl ⟨kvs,upd_same,a1 _ _ _ (fun i u z=>by simp at z) (c3 od) (walks_keys hln)⟩⟩⟩
    · exact a1.elim
  · exact a1.elim
def iAny (m:E):Iv:=fun call s=>match iVal m call s with
  | .bad=>iKeys_ m call s
  |y=>y
theorem i_any (g:Good G k call cc W X) {tg e:Expr} {m:E} (he:PE X e (tE G W call m)):PI X tg e (tI G W call (iAny m)):=by
  have h1:=i_val (tg:=tg) g he
  have h2:=i_keys (tg:=tg) he
  refine ⟨fun pins s σ H R I q=>?_⟩
  obtain ⟨st,Φ,c,q⟩:=q
  unfold iAny at q
  cases es:iVal m call st with
  |bad=>rw [es] at q;exact h2.run pins s σ H R I ⟨st,Φ,c,q⟩
  |_=>all_goals (rw [es] at q;exact h1.run pins s σ H R I ⟨st,Φ,c,by rw [es];exact q⟩)
end
end Mi
namespace Mi
open PySem PySem.Spec PyProof.Rows L2
section
open PySem.W PySem.Calls
variable {prog:Program} {w:World} {A:Around} {E:Value→Shared→Prop} {s:Shared} {K:Frag} {x C:Addr} {ox od:Obj}
end
section
variable {G:GE} {k:Nat} {call:Call} {cc:CC} {W:WX} {X:Cx}
def kitAnyB (t:String):List String→Option Bool
  |[]=>some false
  | c::r=>match kitB t c with
    |some true=>some true
    |some false=>kitAnyB t r
    |none=>none
def isiT (ts:List String) (d:D):Option O:=(tyD d).bind fun t=>(kitAnyB t ts).map fun b=>.fz (.bl b)
inductive TyNames (cc:CC):List Expr→List String→Prop
  |nil:TyNames cc [] []
  |cons {x:Str} {p:Pos} {t:String} {es:List Expr} {ts:List String} (hb:x∈blts) (hg:cc.sc.names.lookup x=some .globalImplicit) (hv:bootBuiltins x=some (.type t)) (n1:x≠"__name__") (n2:(x==("__debug__":Str))=false) (r:TyNames cc es ts):TyNames cc (.Name x p::es) (t::ts)
def repS (x:Str) (n:Int):Str:=if (n==1||x.length==0)=true then x else ⟨(List.replicate n.toNat x.cps).foldl (· ++ ·) #[]⟩
theorem fold_size (a:Array Nat): ∀ (m:Nat) (acc:Array Nat),((List.replicate m a).foldl (· ++ ·) acc).size=acc.size+m*a.size
  |0,acc=>by simp
  | m+1,acc=>by
    rw [List.replicate_succ,List.foldl_cons,fold_size a m,Array.size_append,Nat.succ_mul]
    omega
theorem op_repS:OpR X (binaryOp .Mult) (fun x y H Q=> ∃ i n,x= .str i∧y= .int n∧1≤n∧n≤1000∧i.length≤1000∧Q (.str (repS i n)) H):=by
  intro pins s σ H x y v u Q I rx ry h
  obtain ⟨i,n,rfl,rfl,h1,h2,h3,q⟩:=h
  obtain ⟨t,rfl⟩:=rx
  obtain ⟨t',rfl⟩:=ry
  have hz:i.length*n.toNat≤1000*1000:=Nat.mul_le_mul h3 (by omega)
  refine P.mul_str (by rw [decide_eq_false (by omega),decide_eq_false (by omega)];rfl) (fun _ _=>?_) (fun _ _=>?_) ?_
  · have hm:(i.length:Int)*n≤1000*1000:=Int.mul_le_mul (by omega) h2 (by omega) (by omega)
    have:=(Int.le_ediv_iff_mul_le (a:=(i.length:Int)) (b:=2^63 - 1) (c:=n) (by omega)).mpr (by omega)
    omega
  · have hq:(1000000:Nat)≤sizeLine:=by decide
    exact decide_eq_false (by omega)
  · rw [if_neg (by omega)]
    unfold repS at q
    split
    · rename_i hc
      rw [if_pos hc] at q
      exact ⟨.str i,H,I,⟨_,rfl⟩,q⟩
    · rename_i hc
      rw [if_neg hc] at q
      refine ⟨?_,⟨.str _,H,I.tok _,⟨_,rfl⟩,q⟩⟩
      have hq:(1000000:Nat)≤sizeLine:=by decide
      show ((List.replicate n.toNat i.cps).foldl (· ++ ·) #[]).size≤sizeLine
      rw [fold_size]
      have:n.toNat*i.cps.size=i.length*n.toNat:=Nat.mul_comm _ _
      simp only [Array.size_empty]
      omega
def mulT:D→D→Option O
  | .tup a,.int j=>if a≠[]∧2≤j∧j≤1000∧a.length≤1000 then some (.fz (.tup (List.replicate j.toNat a).flatten)) else none
  | .str x,.int j=>if 1≤j∧j≤1000∧x.length≤1000 then some (.fz (.str (repS x j))) else none
  |_,_=>none
theorem o_mulT (hK:X.K=G.K) (hb:G.bare=false):OpR X (binaryOp .Mult) (r2 G mulT):=(op_repT.or op_repS).imp fun x y H Q ⟨ρ,M,h,L,d1,d2,o,cp,t1,t2,e,q⟩=>by
  unfold mulT at e
  split at e
  · rename_i a j
    split at e
    · rename_i hc
      cases e
      obtain ⟨p,vs,rfl,t,r⟩:=t1
      obtain rfl:=(show y=_ from t2)
      refine .inl ⟨p,j,vs,rfl,rfl,by rw [hK];exact t.sq,fun z=>?_,hc.2.1,hc.2.2.1,by rw [←r.length];exact hc.2.2.2,fun p' hp=>q _ _ ?_⟩
      · subst z
        have:=r.length
        exact hc.1 (List.length_eq_zero_iff.mp (by simpa using this))
      · exact cp.tupNew (r.flatten_rep _) hp ⟨hb,rfl⟩
    · cases e
  · rename_i a j
    split at e
    · rename_i hc
      cases e
      obtain rfl:=(show x=_ from t1)
      obtain rfl:=(show y=_ from t2)
      exact .inr ⟨a,j,rfl,rfl,hc.1,hc.2.1,hc.2.2,q _ _ (cp.cf.simple rfl)⟩
    · cases e
  · cases e
end
end Mi
namespace Mi
open PySem PySem.Spec PyProof.Rows L2
def or2 (f g:D→D→Option O) (d e:D):Option O:=match f d e with
  |some o=>some o
  |none=>g d e
def orN (f g:List D→Option O) (ds:List D):Option O:=match f ds with
  |some o=>some o
  |none=>g ds
section
variable {G:GE} {k:Nat} {call:Call} {cc:CC} {W:WX} {X:Cx}
theorem r2_or {f g:D→D→Option O} {x y:V} {H:Hp} {Q:VK} (h:r2 G (or2 f g) x y H Q):r2 G f x y H Q∨r2 G g x y H Q:=by
  obtain ⟨ρ,M,h0,L,d1,d2,o,cp,t1,t2,e,q⟩:=h
  unfold or2 at e
  split at e
  · rename_i o' ef
    cases e
    exact .inl ⟨ρ,M,h0,L,d1,d2,o,cp,t1,t2,ef,q⟩
  · exact .inr ⟨ρ,M,h0,L,d1,d2,o,cp,t1,t2,e,q⟩
theorem o_or {F:Value→Value→Sem Value} {f g:D→D→Option O} (h1:OpR X F (r2 G f)) (h2:OpR X F (r2 G g)):OpR X F (r2 G (or2 f g)):=(h1.or h2).imp fun _ _ _ _ h=>r2_or h
theorem ix_or {f g:D→D→Option O} (h1:IxR X (r2 G f)) (h2:IxR X (r2 G g)):IxR X (r2 G (or2 f g)):=(h1.or h2).imp fun _ _ _ _ h=>r2_or h
theorem b_or {F:Value} {f g:List D→Option O} (h1:CallR X F (rN G f)) (h2:CallR X F (rN G g)):CallR X F (rN G (orN f g)):=by
  intro pins s σ H xs us Q I r h
  obtain ⟨ρ,M,h0,L,ds,o,cp,t,e,q⟩:=h
  unfold orN at e
  split at e
  · rename_i o' ef
    cases e
    exact h1 pins s σ H xs us Q I r ⟨ρ,M,h0,L,ds,o,cp,t,ef,q⟩
  · exact h2 pins s σ H xs us Q I r ⟨ρ,M,h0,L,ds,o,cp,t,e,q⟩
abbrev atX0:D→D→Option O:=or2 atD dAt
abbrev inX0:D→D→Option O:=or2 inD dIn
abbrev notInX0:D→D→Option O:=or2 notInD dNotIn
abbrev mulX:D→D→Option O:=or2 mulD mulT
abbrev lenX:List D→Option O:=orN lenD dLen
theorem hu_of' (h:X.A.units+64<cLine):X.A.units+1<cLine:=Nat.lt_of_le_of_lt (Nat.add_le_add_left (by decide) _) h
end
end Mi
namespace Mi
open PySem PySem.Spec PyProof.Rows L2
def bin2 (f:Call→S→R→R→Out R) (a b:E):E:=fun call s=>(a call s).bind fun x s1=>(b call s1).bind fun y s2=>f call s2 x y
def rB (G:GE) (W:WX) (call:Call) (f:Call→S→R→R→Out R) (σ:Sr):R2:=fun xv yv H Q=> ∃ s Φ x y,CfS G σ H s ((y,yv)::(x,xv)::Φ)∧Aft G W σ Φ (PV G σ Φ Q) (f call s x y)
section
variable {G:GE} {W:WX} {call:Call} {X:Cx}
theorem tBin2 {f:Call→S→R→R→Out R} {a b:E} {σ:Sr} {H:Hp} {Q:VK} (h:tE G W call (bin2 f a b) σ H Q):tE G W call a σ H fun x H1=>tE G W call b σ H1 fun y H2=>rB G W call f σ x y H2 Q:=by
  obtain ⟨s,Φ,c,h⟩:=h
  refine ⟨s,Φ,c,(Aft.bind h).mono fun x s1 h1=>fun v1 H1 c1=>⟨s1,_,c1,((Aft.bind h1).frame1).mono fun y s2 h2=>fun v2 H2 c2=>?_⟩⟩
  exact ⟨s2,Φ,x,y,c2,h2⟩
def OpS (X:Cx) (f:Value→Value→Sem Value) (r:Sr→R2):Prop:=
  ∀ (pins:List (Addr×Obj)) (s:Shared) (σ:Sr) (H:Hp) (x y:V) (v u:Value) (Q:VK),Inv X pins σ H s→RelV x v→RelV y u→r σ x y H Q→wpAny (model X.prog X.w) X.A (f v u) (EP X pins σ Q) X.xe s
theorem e_cmp2 {f:Call→S→R→R→Out R} {op:CmpOp} {a b:Expr} {ma mb:E} {pos:Pos} (ho:OpS X (compareOp op) (rB G W call f)) (ha:PE X a (tE G W call ma)) (hb:PE X b (tE G W call mb)) (hm:behindInMarks op b=false):PE X (.Compare a [op] [b] pos) (tE G W call (bin2 f ma mb)):=
  ⟨fun pins s σ H Q I h=>wpAny_Compare1 (binT ha hb I (tBin2 h) fun v u s2 x y H2 I2 rx ry q=>ho pins s2 σ H2 x y v u Q I2 rx ry q) hm⟩
theorem t_cmp2 {f:Call→S→R→R→Out R} {op:CmpOp} {a b:Expr} {ma mb:E} {pos:Pos} (ho:OpS X (compareOp op) (rB G W call f)) (ha:PE X a (tE G W call ma)) (hb:PE X b (tE G W call mb)) (hm:behindInMarks op b=false):PT X (.Compare a [op] [b] pos) (tB_ G W call (bCmp (bin2 f ma mb))):=by
  refine ⟨fun pins s σ H Q I q=>?_⟩
  obtain ⟨st,Φ,c,a⟩:=q
  have h:tE G W call (bin2 f ma mb) σ H fun x H'=> ∃ k,x= .bl k∧Q k H':=⟨st,Φ,c,(Aft.bind a).mono fun x s1 a1=>fun v H1 c1=>by
    obtain ⟨b,e1,q⟩:=Aft.lift a1
    simp only [isB,Option.bind_eq_some_iff] at e1
    obtain ⟨d,e2,e3⟩:=e1
    obtain ⟨ρ,M,cp⟩:=c1.parts
    have r:=c1.peek (v:=v) (by simp) e2 cp
    split at e3
    · rename_i b'
      simp only [Option.some.injEq] at e3
      subst e3
      exact ⟨b',r,q H1 c1.drop⟩
    · cases e3⟩
  refine wpAny_isTrue_Compare1 (thn (ha.run pins s σ H _ I (tBin2 h)) fun v s1 ⟨x,H1,I1,r1,q1⟩=>thn (hb.run pins s1 σ H1 _ I1 q1) fun u s2 ⟨y,H2,I2,r2,q2⟩=>
    thn (ho pins s2 σ H2 x y v u _ I2 r1 r2 q2) fun c s3 ⟨z,H3,I3,r3,k,e,q3⟩=>?_) hm
  subst e
  cases r3
  exact wpAny_truthy_bool ⟨H3,I3,q3⟩
end
def postOut (post:O→Option O) (σ:List (Option O)):Res→Out R
  | .ok o h=>match post o with
    |some o'=>.ok (.own o') ⟨σ,h⟩
    |none=>.bad
  | .exc c d h=>.exc c d ⟨σ,h⟩
  | .bad=>.bad
def spM1 (ml:List (Str×Str)) (m:Str) (post:O→Option O) (call:Call) (s:S) (x y:R):Out R:=match peek s x with
  | some (.ins c _ _)=>if (c,m)∈ml then (match take s x with
    |none=>.bad
    | some (d,s1)=>match take s1 y with
      |none=>.bad
      |some (e,s2)=>postOut post s2.σ (call (mkey c m) [d,e] s2.h)) else .bad
  |_=>.bad
section
variable {G:GE} {k:Nat} {call:Call} {cc:CC} {W:WX} {X:Cx}
def isIns (s:S) (x:R):Bool:=match peek s x with
  |some (.ins _ _ _)=>true
  |_=>false
def pBool (neg:Bool):O→Option O
  | .fz (.bl b)=>some (.fz (.bl (b !=neg)))
  |_=>none
def inF (ml:List (Str×Str)) (neg:Bool):Call→S→R→R→Out R:=fun call s x y=>if isIns s y then spM1 ml "__contains__" (pBool neg) call s y x
  else lift s ((peek s x).bind fun d1=>(peek s y).bind fun d2=>((if neg then notInX0 else inX0) d1 d2).map R.own)
end
end Mi
namespace Mi
open PySem PySem.Spec PyProof.Rows L2
section
variable {G:GE} {k:Nat} {call:Call} {cc:CC} {W:WX} {X:Cx}
def atF (ml:List (Str×Str)):Call→S→R→R→Out R:=fun call s x y=>if isIns s x then spM1 ml "__getitem__" some call s x y
  else lift s ((peek s x).bind fun d1=>(peek s y).bind fun d2=>(atX0 d1 d2).map R.own)
section
variable {prog:Program} {w:World} {A:Around} {E:Value→Shared→Prop} {s:Shared} {K:PySem.W.Frag} {x C f:Addr} {ox:Obj} {od:Option Obj} {b tb:Value}
end
end
end Mi
namespace Mi
open PySem PySem.Spec PyProof.Rows L2
section
variable {G:GE} {k:Nat} {call:Call} {cc:CC} {W:WX} {X:Cx}
def seqD:D→Option (List D)
  | .lst ds=>some ds
  | .tup ds=>some ds
  |_=>none
def aStar (m:E) (r:As):As:=fun call s=>(m call s).bind fun x s1=>match (peek s1 x).bind seqD with
  |some ds=>(r call s1).bind fun es s2=>.ok (ds++es) s2
  |none=>.bad
def cExt (mx me:E):C:=fun call s=>(mx call s).flow fun x s1=>match Mi.seeL s1 x with
  |none=>.bad
  | some _=>(me call s1).flow fun y s2=>match take s2 y with
    | some (.lst es,s3)=>(match mutL s3 (fun ds=>if fitsB (ds.length+es.length) then some (ds++es) else none) x with
      |some s4=>.nx s4
      |none=>.bad)
    |_=>.bad
end
end Mi
namespace Mi
open PySem PySem.Spec PyProof.Rows L2
def lc2L (call:Call) (g:Tg) (tt:B) (m1:Iv) (g1:Tg) (tt1:B) (te:E) (vs vs1:List Nat):List D→List D→S→Out (List D)
  |[],acc,s=>.ok acc s
  | d ::ds,acc,s=>match g (.fz d) s with
    |none=>.bad
    | some s1=>match tt call s1 with
      | .ok true s2=>(match m1 call s2 with
        | .ok es s3=>(match lcL call g1 tt1 te vs1 es acc ⟨wipeO s3.σ vs1,s3.h⟩ with
          | .ok acc' s4=>lc2L call g tt m1 g1 tt1 te vs vs1 ds acc' ⟨wipeO s4.σ vs,s4.h⟩
          |_=>.bad)
        |_=>.bad)
      | .ok false s2=>lc2L call g tt m1 g1 tt1 te vs vs1 ds acc ⟨wipeO s2.σ vs,s2.h⟩
      |_=>.bad
def mLc2 (m:Iv) (g:Tg) (tt:B) (m1:Iv) (g1:Tg) (tt1:B) (te:E) (vs vs1:List Nat):E:=fun call s=>(m call s).bind fun ds s1=>match lc2L call g tt m1 g1 tt1 te vs vs1 ds [] ⟨wipeO s1.σ vs,s1.h⟩ with
  | .ok acc s2=>.ok (.own (.lst acc)) ⟨rst s2.σ s1.σ vs,s2.h⟩
  |_=>.bad
section
variable {G:GE} {k:Nat} {call:Call} {cc:CC} {W:WX} {X:Cx}
theorem lc_in {J:It} {K Ψ:List (R×V)} {ds acc0 acc':List D} {g:Tg} {tt:B} {te:E} {vs:List Nat} {σ:Sr} {H1:Hp} {s1 s':S} {Nx:Hp→Prop} {Dd:Addr} (nk:NoB K) (nΨ:NoB Ψ) (w:Walks G J K ds) (c:CfS G σ H1 s1 (K++((.own (.lst acc0),.ref Dd)::Ψ)))
    (run:lcL call g tt te vs ds acc0 ⟨wipeO s1.σ vs,s1.h⟩= .ok acc' s') (fin: ∀ H,CfS G (L2.wipe σ vs) H s' ((.own (.lst acc'),.ref Dd)::Ψ)→Nx H):
    ∃ Wr:Nat→Nat→Hp→Prop,(∃ m,Wr 0 m H1)∧∀ i m H,Wr i m H→
      (J.stop i H∧Nx H)∨(J.go i H∧∃ Nx1:Hp→Prop,(∀ H',Nx1 H'→∃ m',m'<m∧Wr (i+1) m' H')∧∀ x H',J.yld i H x H'→tGA G vs g x (L2.wipe σ vs) H' fun σ2 H2=>L2.wipe σ2 vs=L2.wipe σ vs∧tB_ G noW call tt σ2 H2 fun b H3=>
        if b=true then tE G noW call te σ2 H3 fun y H4=> ∃ acc,H4 Dd=some (.lst acc)∧acc.length<sizeLine∧Nx1 (upd H4 Dd (.lst (acc++[y]))) else Nx1 H3):=by
  have nΨ2:NoB (K++Ψ):=noB_app nk nΨ
  have nAll: ∀ acc,NoB (K++((R.own (.lst acc),V.ref Dd)::Ψ)):=fun acc=>noB_app nk (noB_cons nΨ)
  let St:List D→S→Hp→Prop:=fun acc s H=>CfS G (L2.wipe σ vs) H s ((.own (.lst acc),.ref Dd)::(K++Ψ))
  refine ⟨fun i m H=>m=ds.length - i∧i≤ds.length∧∃ acc s,St acc s H∧lcL call g tt te vs (ds.drop i) acc s= .ok acc' s',⟨ds.length,by simp,Nat.zero_le _,acc0,_,(c.wipe (nAll acc0) vs).perm List.perm_middle,run⟩, ?_⟩
  rintro i m H ⟨rfl,hi,acc,s,c,a⟩
  have cK:CfS G (L2.wipe σ vs) H s (K++((.own (.lst acc),.ref Dd)::Ψ)):=c.perm List.perm_middle.symm
  obtain ⟨w1,w2,w3⟩:=w _ H s _ cK
  by_cases hlt:i<ds.length
  · refine .inr ⟨w1 i hlt,fun H'=> ∃ acc s,St acc s H'∧lcL call g tt te vs (ds.drop (i+1)) acc s= .ok acc' s',fun H' p'=>⟨ds.length - (i+1),by omega,rfl,hlt,p'⟩,fun x H' y=>?_⟩
    have e:ds.drop i=ds[i]::ds.drop (i+1):=List.drop_eq_getElem_cons hlt
    rw [e] at a
    have c1:=w2 i ds[i] x H' (by simp [hlt]) y
    have c1':CfS G (L2.wipe σ vs) H' s ((.own (.fz ds[i]),x)::((.own (.lst acc),.ref Dd)::(K++Ψ))):=c1.perm (List.Perm.cons _ List.perm_middle)
    simp only [lcL] at a
    cases eg:g (.fz ds[i]) s with
    |none=>simp only [eg] at a;cases a
    | some s2 =>
      simp only [eg] at a
      refine ⟨s,_,.fz ds[i],s2,noB_cons nΨ2,c1',eg,fun σ2 c2 ag=>?_⟩
      have ew:L2.wipe σ2 vs=L2.wipe σ vs:=by rw [ag.wipe,wipe_wipe]
      refine ⟨ew,s2,_,c2, ?_⟩
      cases et:tt call s2 with
      |bad=>simp only [et] at a;cases a
      |exc cn d s3=>simp only [et] at a;cases a
      | ok b s3 =>
        cases b with
        | false=>
          simp only [et] at a
          exact fun H3 c3=>iteF ⟨acc,_,by have:=c3.wipe (noB_cons nΨ2) vs;rw [ew] at this;exact this,a⟩
        | true=>
          simp only [et] at a
          intro H3 c3
          refine iteT ⟨s3,_,c3, ?_⟩
          cases ee:te call s3 with
          |bad=>simp only [ee] at a;cases a
          |exc cn d s4=>simp only [ee] at a;cases a
          | ok r s4=>
            simp only [ee] at a
            intro yv H4 c4
            cases ek:take s4 r with
            |none=>simp only [ek] at a;cases a
            | some q=>
              obtain ⟨d,s5⟩:=q
              simp only [ek] at a
              by_cases hf:fitsB (acc.length+1)=true
              · rw [if_pos hf] at a
                have c5:=c4.take ek
                obtain ⟨us,t,l,c6⟩:=c5.append
                refine ⟨us,t, ?_,acc++[d],⟨wipeO s5.σ vs,s5.h⟩, ?_,a⟩
                · rw [l]
                  exact Nat.lt_of_succ_le (fits hf)
                · have:=c6.wipe (noB_cons nΨ2) vs
                  rw [ew] at this
                  exact this
              · rw [if_neg hf] at a
                cases a
  · have e:i=ds.length:=by omega
    subst e
    rw [List.drop_length] at a
    simp only [lcL,Out.ok.injEq] at a
    obtain ⟨rfl,rfl⟩:=a
    exact .inl ⟨w3,fin H (cK.dropN)⟩
theorem wipe_sub {σ σ2:Sr} {vs vs1:List Nat} (hv: ∀ i∈vs1,i∈vs) (e:L2.wipe σ2 vs=L2.wipe σ vs):L2.wipe (L2.wipe σ2 vs1) vs=L2.wipe σ vs:=by
  rw [←e]
  exact Agree.wipe (σ:=σ2) ⟨wipe_length σ2 vs1,fun i hi=>wipe_out fun z=>hi (hv i z)⟩
theorem lc2_walk {J:It} {K Φ:List (R×V)} {ds:List D} {g:Tg} {tt:B} {m1:Iv} {g1:Tg} {tt1:B} {te:E} {vs vs1:List Nat} {σ:Sr} {H1:Hp} {s1:S} {Q:VK} {Dd:Addr} (hv: ∀ i∈vs1,i∈vs) (nk:NoB K) (bo: ∀ i v,(R.bor i,v)∈Φ→σ[i]?=some (some v)) (w:Walks G J K ds) (c:CfS G σ H1 s1 (K++Φ)) (hD:H1 Dd=none)
    (a:Aft G W σ Φ (PV G σ Φ Q) (match lc2L call g tt m1 g1 tt1 te vs vs1 ds [] ⟨wipeO s1.σ vs,s1.h⟩ with
      | .ok acc s2=>.ok (.own (.lst acc)) ⟨rst s2.σ s1.σ vs,s2.h⟩
      |_=>.bad)):
    ∃ Wr:Nat→Nat→Hp→Prop,(∃ m,Wr 0 m (upd H1 Dd (.lst [])))∧∀ i m H,Wr i m H→
      (J.stop i H∧Q (.ref Dd) H)∨(J.go i H∧∃ Nx:Hp→Prop,(∀ H',Nx H'→∃ m',m'<m∧Wr (i+1) m' H')∧∀ x H',J.yld i H x H'→tGA G vs g x (L2.wipe σ vs) H' fun σ2 H2=>L2.wipe σ2 vs=L2.wipe σ vs∧tB_ G noW call tt σ2 H2 fun b H3=>
        if b=true then tI G noW call m1 σ2 H3 fun J1 H4=> ∃ W1:Nat→Nat→Hp→Prop,(∃ m,W1 0 m H4)∧∀ j k H,W1 j k H→
          (J1.stop j H∧Nx H)∨(J1.go j H∧∃ Nx1:Hp→Prop,(∀ H',Nx1 H'→∃ k',k'<k∧W1 (j+1) k' H')∧∀ x H',J1.yld j H x H'→tGA G vs1 g1 x (L2.wipe σ2 vs1) H' fun σ3 H5=>L2.wipe σ3 vs1=L2.wipe σ2 vs1∧tB_ G noW call tt1 σ3 H5 fun b H6=>
            if b=true then tE G noW call te σ3 H6 fun y H7=> ∃ acc,H7 Dd=some (.lst acc)∧acc.length<sizeLine∧Nx1 (upd H7 Dd (.lst (acc++[y]))) else Nx1 H6)
        else Nx H3):=by
  obtain ⟨Z,p1,ok,back⟩:=slp_wipe c.sl vs
  let Ψ:=K++(ownR Z++ownR (ow Φ))
  have nΨ:NoB Ψ:=noB_app nk (noB_app nob_ownR nob_ownR)
  let St:List D→S→Hp→Prop:=fun acc s H=>CfS G (L2.wipe σ vs) H s ((.own (.lst acc),.ref Dd)::Ψ)
  let Fin:List D→List D→S→Prop:=fun rest acc s=>Aft G W σ Φ (PV G σ Φ Q) (match lc2L call g tt m1 g1 tt1 te vs vs1 rest acc s with
      | .ok acc s2=>.ok (.own (.lst acc)) ⟨rst s2.σ s1.σ vs,s2.h⟩
      |_=>.bad)
  have st0:St [] ⟨wipeO s1.σ vs,s1.h⟩ (upd H1 Dd (.lst [])):=by
    refine ⟨ok,fun i v z=>absurd z (noB_cons nΨ i v), ?_⟩
    have cf:=c.cf.perm (p1.append_right (ow (K++Φ)))
    have cf2:Cf G H1 s1.h (Fz [] []++(slp (wipeO s1.σ vs) (L2.wipe σ vs)++ow Ψ)):=cf.perm (by
      show List.Perm _ (slp (wipeO s1.σ vs) (L2.wipe σ vs)++ow Ψ)
      simp only [Ψ,ow_append,ow_ownR,List.append_assoc]
      exact List.Perm.append_left _ (List.perm_append_comm_assoc _ _ _))
    exact (Cf.newLst rfl cf2 hD).perm List.perm_middle.symm
  refine ⟨fun i m H=>m=ds.length - i∧i≤ds.length∧∃ acc s,St acc s H∧Fin (ds.drop i) acc s,⟨ds.length,by simp,Nat.zero_le _,[],_,st0,a⟩, ?_⟩
  rintro i m H ⟨rfl,hi,acc,s,c,a⟩
  have cK:CfS G (L2.wipe σ vs) H s (K++((.own (.lst acc),.ref Dd)::(ownR Z++ownR (ow Φ)))):=c.perm List.perm_middle.symm
  obtain ⟨w1,w2,w3⟩:=w _ H s _ cK
  by_cases hlt:i<ds.length
  · refine .inr ⟨w1 i hlt,fun H'=> ∃ acc s,St acc s H'∧Fin (ds.drop (i+1)) acc s,fun H' p'=>⟨ds.length - (i+1),by omega,rfl,hlt,p'⟩,fun x H' y=>?_⟩
    have e:ds.drop i=ds[i]::ds.drop (i+1):=List.drop_eq_getElem_cons hlt
    have a':Fin (ds[i]::ds.drop (i+1)) acc s:=by rw [←e];exact a
    have c1:=w2 i ds[i] x H' (by simp [hlt]) y
    have c1':CfS G (L2.wipe σ vs) H' s ((.own (.fz ds[i]),x)::((.own (.lst acc),.ref Dd)::Ψ)):=c1.perm (List.Perm.cons _ List.perm_middle)
    simp only [Fin,lc2L] at a'
    cases eg:g (.fz ds[i]) s with
    |none=>simp only [eg] at a';exact a'.elim
    | some s2 =>
      simp only [eg] at a'
      refine ⟨s,_,.fz ds[i],s2,noB_cons nΨ,c1',eg,fun σ2 c2 ag=>?_⟩
      have ew:L2.wipe σ2 vs=L2.wipe σ vs:=by rw [ag.wipe,wipe_wipe]
      refine ⟨ew,s2,_,c2, ?_⟩
      cases et:tt call s2 with
      |bad=>simp only [et] at a';exact a'.elim
      |exc cn d s3=>simp only [et] at a';exact a'.elim
      | ok b s3=>
        cases b with
        | false=>
          simp only [et] at a'
          exact fun H3 c3=>iteF ⟨acc,_,by have:=c3.wipe (noB_cons nΨ) vs;rw [ew] at this;exact this,a'⟩
        | true=>
          simp only [et] at a'
          intro H3 c3
          refine iteT ⟨s3,_,c3, ?_⟩
          cases em:m1 call s3 with
          |bad=>simp only [em] at a';exact a'.elim
          |exc cn d s4=>simp only [em] at a';exact a'.elim
          | ok es s4=>
            simp only [em] at a'
            intro K1 J1 H4 nk1 c4 ww
            cases er:lcL call g1 tt1 te vs1 es acc ⟨wipeO s4.σ vs1,s4.h⟩ with
            |bad=>simp only [er] at a';exact a'.elim
            |exc cn d s5=>simp only [er] at a';exact a'.elim
            | ok acc' s5=>
              simp only [er] at a'
              refine lc_in nk1 nΨ ww c4 er fun H9 c9=>⟨acc',⟨wipeO s5.σ vs,s5.h⟩, ?_,a'⟩
              have:=c9.wipe (noB_cons nΨ) vs
              rw [wipe_sub hv ew] at this
              exact this
  · have e:i=ds.length:=by omega
    subst e
    have a':Fin [] acc s:=by have:=a;rw [List.drop_length] at this;exact this
    refine .inl ⟨w3,a' (.ref Dd) H ?_⟩
    obtain ⟨p2,ok2⟩:=back s.σ c.sl
    refine ⟨ok2,fun j v z=>?_, ?_⟩
    · rcases List.mem_cons.mp z with z|z
      · cases z
      · exact bo j v z
    · have cf:Cf G H s.h (slp s.σ (L2.wipe σ vs)++(.lst acc,.ref Dd)::ow Ψ):=c.cf
      have cf2:Cf G H s.h (ow K++(slp (rst s.σ s1.σ vs) σ++(.lst acc,.ref Dd)::ow Φ)):=cf.perm (by
        simp only [Ψ,ow_append,ow_ownR]
        refine List.perm_middle.trans ?_
        refine List.Perm.trans (List.Perm.cons _ ?_) (((List.perm_middle).append_left (ow K)).trans List.perm_middle).symm
        refine (List.perm_append_comm_assoc _ _ _).trans (List.Perm.append_left _ ?_)
        rw [←List.append_assoc]
        exact p2.symm.append_right _)
      exact Cf.dropN cf2
theorem e_lc2 (g:Good G k call cc W X) {elt tg it tg1 it1:Expr} {ifs ifs1:List Expr} {scope:Scope} {own:List (Str×Nat)} {vs1:List Nat} {pos:Pos} {m m1:Iv} {t t1:Tg} {mt mt1:B} {me:E} (hi:PI X tg it (tI G W call m)) (ok:BlkOk cc.N cc.sc scope own) (hv: ∀ i∈vs1,i∈own.map (·.2))
    (hg: ∀ (s:Shared) (H:Hp) (C:Addr) (cl:List (Str×Addr)) (fp:List Addr),PG (X.blk s H scope (compEnvC scope cl C X.env) fp) tg (tGA G (own.map (·.2)) t))
    (ht: ∀ (s:Shared) (H:Hp) (C:Addr) (cl:List (Str×Addr)) (fp:List Addr),PTs (X.blk s H scope (compEnvC scope cl C X.env) fp) ifs (tB_ G noW call mt))
    (hi1: ∀ (s:Shared) (H:Hp) (C:Addr) (cl:List (Str×Addr)) (fp:List Addr),PI (X.blk s H scope (compEnvC scope cl C X.env) fp) tg1 it1 (tI G noW call m1))
    (hg1: ∀ (s:Shared) (H:Hp) (C:Addr) (cl:List (Str×Addr)) (fp:List Addr),PG (X.blk s H scope (compEnvC scope cl C X.env) fp) tg1 (tGA G vs1 t1))
    (ht1: ∀ (s:Shared) (H:Hp) (C:Addr) (cl:List (Str×Addr)) (fp:List Addr),PTs (X.blk s H scope (compEnvC scope cl C X.env) fp) ifs1 (tB_ G noW call mt1))
    (he: ∀ (s:Shared) (H:Hp) (C:Addr) (cl:List (Str×Addr)) (fp:List Addr),PE (X.blk s H scope (compEnvC scope cl C X.env) fp) elt (tE G noW call me)) (hs: ∀ x,foldedSetIterable it X.env x=pure x) (hs1: ∀ env x,foldedSetIterable it1 env x=pure x):
    PE X (.ListComp elt [⟨tg,it,ifs,0⟩,⟨tg1,it1,ifs1,0⟩] scope pos) (tE G W call (mLc2 m t mt m1 t1 mt1 me (own.map (·.2)) vs1)):=by
  refine (pe_lc2 g.calm (by rw [g.N];exact g.nd) hi (by rw [g.N,g.sc];exact ok) hv hg ht hi1 hg1 ht1 he hs hs1).of fun σ H Q q=>?_
  obtain ⟨s,Φ,c,q⟩:=q
  exact ⟨s,Φ,c,(Aft.bind q).mono fun ds s1 a1=>fun K J H1 nk c1 w=>fun Dd hD=>lc2_walk hv nk c.bo w c1 hD a1⟩
end
end Mi
namespace Mi
open PySem PySem.Spec PyProof.Rows L2
def leS (a b:Str):Prop:=ltCps b.cps.toList a.cps.toList=false
theorem leS_iff {a b:Str}:leS a b↔a.cps.toList≤b.cps.toList:=by
  unfold leS
  rw [ltCps_eq,decide_eq_false_iff_not]
  exact Iff.rfl
theorem leS_total (a b:Str):leS a b∨leS b a:=by rw [leS_iff,leS_iff];exact List.le_total _ _
theorem leS_trans {a b c:Str} (h:leS a b) (h':leS b c):leS a c:=by rw [leS_iff] at*;exact List.le_trans h h'
theorem leS_anti {a b:Str} (h:leS a b) (h':leS b a):a=b:=by
  rw [leS_iff] at*
  have:=List.le_antisymm h h'
  cases a;cases b
  simp only at this
  rw [Array.toList_inj] at this
  rw [this]
instance (a b:Str):Decidable (leS a b):=by unfold leS;infer_instance
def insS (x:Str):List Str→List Str
  |[]=>[x]
  |y::r=>if leS x y then x::y::r else y::insS x r
def sortS:List Str→List Str
  |[]=>[]
  |x::r=>insS x (sortS r)
theorem insS_perm (x:Str): ∀ l,(insS x l).Perm (x::l)
  |[]=>.refl _
  | y::r=>by
    unfold insS
    split
    · exact .refl _
    · exact (List.Perm.cons y (insS_perm x r)).trans (.swap _ _ _)
theorem sortS_perm: ∀ l,(sortS l).Perm l
  |[]=>.refl _
  |x::r=>(insS_perm x _).trans (.cons x (sortS_perm r))
def SortedS (l:List Str):Prop:=l.Pairwise leS
theorem insS_sorted (x:Str): ∀ {l},SortedS l→SortedS (insS x l)
  |[],_=>by simp [insS,SortedS]
  | y ::r,h=>by
    unfold insS
    have h':=List.pairwise_cons.mp h
    split
    · rename_i hxy
      exact List.pairwise_cons.mpr ⟨fun z hz=>by
        rcases List.mem_cons.mp hz with e|hz
        · rw [e];exact hxy
        · exact leS_trans hxy (h'.1 z hz),h⟩
    · rename_i hxy
      refine List.pairwise_cons.mpr ⟨fun z hz=>?_,insS_sorted x h'.2⟩
      rcases List.mem_cons.mp ((insS_perm x r).mem_iff.mp hz) with e|hz
      · rw [e];exact (leS_total x y).resolve_left hxy
      · exact h'.1 z hz
theorem sortS_sorted: ∀ l,SortedS (sortS l)
  |[]=>List.Pairwise.nil
  |x::r=>insS_sorted x (sortS_sorted r)
theorem sorted_uniq: ∀ {a b:List Str},SortedS a→SortedS b→a.Perm b→a=b
  |[],b,_,_,p=>p.nil_eq
  |x::a,[],_,_,p=>by have:=p.length_eq;simp at this
  | x ::a,y::b,ha,hb,p=>by
    have h1:=List.pairwise_cons.mp ha
    have h2:=List.pairwise_cons.mp hb
    have e:x=y:=by
      have hx:x∈y::b:=p.mem_iff.mp (by simp)
      have hy:y∈x::a:=p.mem_iff.mpr (by simp)
      rcases List.mem_cons.mp hx with e|hx
      · exact e
      · rcases List.mem_cons.mp hy with e|hy
        · exact e.symm
        · exact leS_anti (h1.1 y hy) (h2.1 x hx)
    subst e
    rw [sorted_uniq h1.2 h2.2 (List.perm_cons x |>.mp p)]
theorem rising_of: ∀ {l:List Str} {x:Str},risingS x l=true→SortedS (x::l)
  |[],x,_=>by simp [SortedS]
  | y::r,x,h=>by
    unfold risingS at h
    simp only [Bool.and_eq_true,Bool.not_eq_true'] at h
    have ih:=rising_of h.2
    refine List.pairwise_cons.mpr ⟨fun z hz=>?_,ih⟩
    rcases List.mem_cons.mp hz with e|hz
    · rw [e];exact h.1
    · exact leS_trans (show leS x y from h.1) ((List.pairwise_cons.mp ih).1 z hz)
theorem sortedS_of {l:List Str} (h:sortedS l=true):SortedS l:=by
  cases l with
  |nil=>exact List.Pairwise.nil
  |cons x r=>exact rising_of h
def strsD:List D→Option (List Str)
  |[]=>some []
  | .str x::r=>(strsD r).map (x:: ·)
  |_=>none
theorem strsD_map (l:List Str):strsD (l.map .str)=some l:=by
  induction l with
  |nil=>rfl
  |cons a l ih=>simp only [List.map_cons,strsD,ih,Option.map_some]
theorem strsD_eq: ∀ {ds:List D} {l:List Str},strsD ds=some l→ds=l.map .str
  |[],l,e=>by cases e;rfl
  | d ::ds,l,e=>by
    cases d with
    | str x=>
      simp only [strsD,Option.map_eq_some_iff] at e
      obtain ⟨r,e1,e2⟩:=e
      subst e2
      rw [strsD_eq e1];rfl
    |_=>all_goals cases e
def sortedD:List D→Option O
  |[.lst ds]=>(strsD ds).bind fun l=>if fitsB l.length=true then some (.lst ((sortS l).map .str)) else none
  |[.dic ks xs]=>(strsD (ks.map kD)).bind fun l=>if l.length<64 then some (.lst ((sortS l).map .str)) else none
  |_=>none
def strD:List D→Option O
  |[.str x]=>some (.fz (.str x))
  |_=>none
section
variable {G:GE} {X:Cx}
theorem b_str:CallR X (.type "str") (rN G strD):=by
  intro pins s σ H vs us Q I rv ⟨ρ,M,h,L,ds,o,cp,t,e,q⟩
  unfold strD at e
  split at e
  · rename_i x
    cases e
    obtain ⟨v,r,ev,tv,er⟩:=t
    subst ev
    rw [show r=[] from er] at rv
    obtain rfl:=(show v=V.str x from tv)
    exact SkE.call_str_str pins s σ H _ us Q I rv ⟨x,rfl,q _ _ (cp.cf.simple rfl)⟩
  · cases e
end
end Mi
namespace Mi
open PySem PySem.Spec PyProof.Rows L2
def listKD:List D→Option O
  |[.dic ks _]=>some (.lst (ks.map kD))
  |_=>none
def listX:List D→Option O:=orN listOfD listKD
def pairD:D→Option (Key×D)
  | .tup [a,b]=>(keyD a).map fun k=>(k,b)
  |_=>none
def pairsD:List D→Option (List (Key×D))
  |[]=>some []
  |d::ds=>(pairD d).bind fun p=>(pairsD ds).map fun ps=>p::ps
def dictOfD:List D→Option O
  |[.dic ks xs]=>some (.dic ks xs)
  |_=>none
def dictPD:List D→Option O
  |[.lst ds]=>(pairsD ds).bind fun ps=>some (.dic (mergeD ps ([],[])).1 (mergeD ps ([],[])).2)
  |_=>none
def dictX:List D→Option O:=orN dictOfD dictPD
section
variable {G:GE} {X:Cx} {ρ:List Addr} {H:Hp} {M:List Addr}
theorem Cp.dicNew {h:List O} {L:List (O×V)} {ks:List Key} {ds:List D} {vs:List V} {p:Addr} (c:Cp G ρ H M h L) (r:RepDs G ρ H M ds vs) (lk:ks.length=vs.length) (hp:H p=none):Cf G (upd H p (.dK (ks.zip vs))) h ((.dic ks ds,.ref p)::L):=
  Cf.newDic r.length lk ((Cf.fz r.length).mpr ⟨ρ,M,c,r⟩) hp
theorem pairs_of {K:PySem.W.Frag} (hK:K=G.K): ∀ {ds:List D} {vs:List V} {ps:List (Key×D)},RepDs G ρ H M ds vs→pairsD ds=some ps→∃ (as:List Addr) (kvs:List (Key×V)),vs=as.map V.ref∧Paired (fun p kv=>SqT K H p [kV kv.1,kv.2]) as kvs∧ps.map (·.1)=kvs.map (·.1)∧RepDs G ρ H M (ps.map (·.2)) (kvs.map (·.2))
  | [],vs,ps,r,e=>by
    cases e
    rw [show vs=[] from r]
    exact ⟨[],[],rfl,.nil,rfl,rfl⟩
  | d ::ds,vs,ps,r,e=>by
    obtain ⟨v,r',ev,h1,h2⟩:=r
    subst ev
    simp only [pairsD,Option.bind_eq_some_iff,Option.map_eq_some_iff] at e
    obtain ⟨p,e1,ps',e2,e3⟩:=e
    subst e3
    obtain ⟨as,kvs,q1,q2,q3,q4⟩:=pairs_of hK h2 e2
    unfold pairD at e1
    split at e1
    · rename_i a b
      simp only [Option.map_eq_some_iff] at e1
      obtain ⟨kk,ek,ep⟩:=e1
      subst ep
      obtain ⟨pa,ws,ew,tr,va,ra,ea,ha,vb,rb,eb,hb,en⟩:=h1
      have en':rb=[]:=en
      subst en'
      subst eb
      subst ea
      have hva:va=kV kk:=key_of' (RepD.view ha) ek
      subst hva
      refine ⟨pa::as,(kk,vb)::kvs,by rw [ew,q1];rfl,.cons (by rw [hK];exact tr.sq) q2,by simp [q3], ?_⟩
      exact ⟨_,_,rfl,hb,q4⟩
    · cases e1
theorem b_dictX (hK:X.K=G.K) (hc:X.calm=true):CallR X (.type "dict") (rN G dictX):=by
  refine b_or ?_ ?_
  · intro pins s σ H vs us Q I rv ⟨ρ,M,h,L,ds,o,cp,t,e,q⟩
    unfold dictOfD at e
    split at e
    · rename_i ks xs
      cases e
      obtain ⟨v,r,ev,⟨a,ws,ea,tH,hl,rd⟩,er⟩:=t
      subst ev
      subst ea
      rw [show r=[] from er] at rv
      exact call_dictD pins s σ H [.ref a] us Q I rv ⟨a,_,rfl,tH,fun p hp=>q _ _ (cp.dicNew rd hl hp)⟩
    · cases e
  · intro pins s σ H vs us Q I rv ⟨ρ,M,h,L,ds,o,cp,t,e,q⟩
    unfold dictPD at e
    split at e
    · rename_i xs
      simp only [Option.bind_eq_some_iff] at e
      obtain ⟨ps,e1,e2⟩:=e
      cases e2
      obtain ⟨v,r,ev,⟨a,ws,ea,tH,rd⟩,er⟩:=t
      subst ev
      subst ea
      rw [show r=[] from er] at rv
      obtain ⟨as,kvs,q1,q2,q3,q4⟩:=pairs_of hK rd e1
      subst q1
      refine call_dictP hc pins s σ H [.ref a] us Q I rv ⟨a,as,kvs,rfl,.inl (.inl tH),q2,fun p hp=>?_⟩
      obtain ⟨vs',m1,l',m2⟩:=merge_of (G:=G) (ρ:=ρ) (H:=H) (M:=M) (kds:=ps) (kvs:=kvs) (ks:=[]) (xs:=[]) (vs:=[]) rfl rfl q3 q4
      have m3:mergeK [] kvs=(mergeD ps ([],[])).1.zip vs':=m1
      rw [m3]
      exact q _ _ (cp.dicNew m2 l' hp)
    · cases e
end
end Mi
namespace Mi
open PySem PySem.Spec PyProof.Rows L2
open Classical in
noncomputable def forC (call:Call) (g:Tg) (body:C) (n:Nat) (all:List D):List D→S→Fl
  |[],s=>if s.h[n]?=some (.lst all) then .nx s else .bad
  | d ::ds,s=>if s.h[n]?=some (.lst all) then (match g (.fz d) s with
    |none=>.bad
    | some s1=>match body call s1 with
      | .nx s2=>forC call g body n all ds s2
      | .ct s2=>forC call g body n all ds s2
      | .bk s2=>.nx s2
      | .rt o s2=>.rt o s2
      | .exc c d s2=>.exc c d s2
      | .bad=>.bad) else .bad
section
variable {G:GE} {k:Nat} {call:Call} {cc:CC} {W:WX} {X:Cx}
end
def brwN:List Str:=["_law_told"]
def celN:List Str:=["_law_past_here"]
def celY:Expr→Expr→Bool
  | .Name x _,.List _ _=>decide (x∈celN)
  |_,_=>false
def isBrw:Expr→Bool
  | .Name x _=>decide (x∈brwN)
  |_=>false
end Mi
namespace Mi
open PySem PySem.Spec PyProof.Rows L2
section
variable {G:GE} {k:Nat} {call:Call} {cc:CC} {W:WX} {X:Cx}
noncomputable def kFen (call:Call) (g:Tg) (body:C):Out (List D)→Fl
  | .ok [.loc n] s=>(match s.h[n]? with
    |some (.lst ds)=>forC call g body n ds (enumD ds) s
    |_=>.bad)
  | .ok [d] s=>(lift s ((itemsD d).map enumD)).flow fun ds s1=>forL call g body ds s1
  | .ok _ _=>.bad
  | .exc c d s=>.exc c d s
  | .bad=>.bad
noncomputable def cForEn (m:As) (g:Tg) (body:C):C:=fun call s=>kFen call g body (m call s)
end
end Mi
namespace Mi
open PySem PySem.Spec PyProof.Rows L2
section
variable {G:GE} {X:Cx}
def valsD:D→Option O
  | .dic ks xs=>if ks.length=xs.length then some (.lst xs) else none
  |_=>none
def valsOf:D→Option (List D)
  | .dic ks xs=>if ks.length=xs.length then some xs else none
  |_=>none
def aStarV (m:E) (r:As):As:=fun call s=>(m call s).bind fun x s1=>match (peek s1 x).bind valsOf with
  |some ds=>(r call s1).bind fun es s2=>.ok (ds++es) s2
  |none=>.bad
end
end Mi
namespace Mi
open PySem PySem.Spec PyProof.Rows L2
def txt (e:Int×Value):Str:=match e.2 with
  | .str x _=>x
  |_=>""
def TxtE (P:Program) (w:World) (e:Int×Value):Prop:= ∃ x t,e.2= .str x t∧e.1=(mixKind P w).hash (.inr x)
def TxtSet (P:Program) (w:World) (h:Heap) (a:Addr) (l:List Str):Prop:=
  ∃ o es ep t,h.get? a=some o∧o.ExactSet∧o.data= .set es ep t∧(∀ e∈es.toList,TxtE P w e)∧(es.toList.map txt).Perm l∧l.Nodup∧es.size<scanBound∧t.fits es.size=true∧Ris t.place.toList∧(w.params.followText "set-order"=true∨t.led=true)
section
variable {P:Program} {w:World} {A:Around} {E:Value→Shared→Prop} {s:Shared} {a:Addr} {l:List Str} {h h':Heap}
theorem txt_is {x y:Str} {t:Tok}:(mixKind P w).is (.inr y) (.str x t)=true↔x=y:=by
  constructor
  · intro z
    rcases keyIs_shape (k:=.inr y) (v:=.str x t) z with ⟨i,u,e,_⟩|⟨x',u,e,e2⟩
    · cases e
    · cases e;cases e2;rfl
  · intro e
    subst e
    exact kV_is (k:=.inr x) ⟨t,rfl⟩
theorem TxtE.is {e:Int×Value} (g:TxtE P w e) (y:Str):(mixKind P w).is (.inr y) e.2=true↔txt e=y:=by
  obtain ⟨x,t,h1,_⟩:=g
  unfold txt
  rw [h1]
  exact txt_is
theorem TxtE.elems {es:List (Int×Value)} (g: ∀ e∈es,TxtE P w e):ElemsOf (mixKind P w) es:=fun e he=>by
  obtain ⟨x,t,h1,h2⟩:=g e he
  exact ⟨⟨.inr x,by rw [h1];exact txt_is.mpr rfl,h2⟩,by rw [h1];rfl⟩
theorem TxtSet.stay (R:TxtSet P w h a l) (k: ∀ o,h.get? a=some o→h'.get? a=some o):TxtSet P w h' a l:=by
  obtain ⟨o,es,ep,t,ho,r⟩:=R
  exact ⟨o,es,ep,t,k o ho,r⟩
theorem txt_tail {g:Bool→Sem Unit} (hg: ∀ (b:Bool) (s₁:Shared) (Q':Unit→Shared→Prop),Q' () s₁→wpAny (model P w) A (g b) Q' E s₁)
    {o:Obj} {es:Array (Int×Value)} {ep:Nat} {t:SetTable} (ho:s.heap.get? a=some o) (hex:o.ExactSet) (hd:o.data= .set es ep t)
    {es1:Array (Int×Value)} {t2:SetTable} (g1: ∀ e∈es1.toList,TxtE P w e) (m1:(es1.toList.map txt).Perm l) (nd:l.Nodup) (hb1:es1.size<scanBound) (hf2:t2.fits es1.size=true) (hr:Ris t2.place.toList) (hl:w.params.followText "set-order"=true∨t2.led=true)
    {wasDummy:Bool} {R:Option Bool→Shared→Prop} (hR: ∀ h',Heap.SameBut a s.heap h'→TxtSet P w h' a l→R (some true) {s with heap:=h'}):
    wpAny (model P w) A (do
        storeSet a es1 t2
        if (!wasDummy&&t2.tooFull)=true then do
            g (relayAll t2 es1 (SetTable.grown es1.size)).2.2
            storeSet a (relayAll t2 es1 (SetTable.grown es1.size)).1 (relayAll t2 es1 (SetTable.grown es1.size)).2.1
            pure (some true)
          else pure (some true)) R E s:=by
  refine wpAny_bind (wpAny_storeSet_of ho hd ?_ (fits_of_scanBound hb1))
  have o1:=PpSet.storeB_at (es':=es1) (t':=t2) ho hd
  have s1:=Heap.SameBut.update s.heap a (Obj.putSet es1 t2)
  by_cases hc:(!wasDummy&&t2.tooFull)=true
  · rw [if_pos hc]
    have z1:=relayAll_perm t2 es1 (SetTable.grown es1.size)
    have z2:=relayAll_fits t2 es1 (SetTable.grown es1.size)
    have z3:=relayAll_ris t2 es1 (SetTable.grown es1.size)
    have z4:=relayAll_led t2 es1 (SetTable.grown es1.size)
    revert z1 z2 z3 z4
    rcases relayAll t2 es1 (SetTable.grown es1.size) with ⟨es2,t3,gave⟩
    intro z1 z2 z3 z4
    have hz:es2.size=es1.size:=by rw [←Array.length_toList,z1.length_eq,Array.length_toList]
    refine wpAny_bind (hg _ _ _ (wpAny_bind (wpAny_storeSet_of o1 rfl ?_ (fits_of_scanBound (hz.symm▸hb1)))))
    have o2:=PpSet.storeB_at (es':=es2) (t':=t3) o1 rfl
    exact wpAny_pure (hR _ (s1.trans (Heap.SameBut.update _ a _)) ⟨_,es2,_,t3,o2,hex,rfl,fun e he=>g1 e (z1.mem_iff.mp he),(z1.map txt).trans m1,nd,hz.symm▸hb1,z2,z3,hl.imp id fun q=>z4.trans q⟩)
  · rw [if_neg hc]
    exact wpAny_pure (hR _ s1 ⟨_,es1,_,t2,o1,hex,rfl,g1,m1,nd,hb1,hf2,hr,hl⟩)
theorem txt_mem {es:List (Int×Value)} (g: ∀ e∈es,TxtE P w e) (m:(es.map txt).Perm l) (y:Str):y∈l↔∃ e∈es,(mixKind P w).is (.inr y) e.2=true:=by
  rw [←m.mem_iff,List.mem_map]
  exact ⟨fun ⟨e,he,q⟩=>⟨e,he,((g e he).is y).mpr q⟩,fun ⟨e,he,q⟩=>⟨e,he,((g e he).is y).mp q⟩⟩
theorem txt_put {x:Str} {t0:Tok} {Q:Bool→Shared→Prop} (R:TxtSet P w s.heap a l) (room:l.length+1<scanBound)
    (hQ: ∀ b h',Heap.SameBut a s.heap h'→TxtSet P w h' a (if x∈l then l else l++[x])→Q b {s with heap:=h'}):wpAny (model P w) A (setAddHashed a (.str x t0) ((mixKind P w).hash (.inr x))) Q E s:=by
  obtain ⟨o,es,ep,t,ho,hex,hd,g,m,nd,hb,hf,hr,hl⟩:=R
  have hk:(mixKind P w).is (.inr x) (.str x t0)=true:=txt_is.mpr rfl
  have hsc:(Value.str x t0).scannable=true:=rfl
  have el:=TxtE.elems g
  have hn:es.size=l.length:=by rw [←m.length_eq,List.length_map,Array.length_toList]
  unfold setAddHashed setAddHashedIn
  refine wpAny_holding (wpAny_bind (wpAny_setState_of ho hd hf ?_))
  dsimp only
  rw [byScan_of hsc hb el]
  simp only [↓reduceIte]
  unfold setAddByScan
  refine wpAny_bind (wpAny_bind (wpAny_rule (wpAny_bind (wpAny_setScan_of hk ho hd hf el ?_))))
  cases hfi:List.findIdx? (fun e=>(mixKind P w).is (.inr x) e.2) es.toList with
  | none=>
    dsimp only
    have hx:x∉l:=fun z=>by
      obtain ⟨e,he,q⟩:=(txt_mem g m x).mp z
      have c:=List.findIdx?_eq_none_iff.mp hfi e he
      rw [q] at c;cases c
    have z1:=layNew_perm t es ((mixKind P w).hash (.inr x)) (.str x t0)
    have z2:=layNew_fits t es ((mixKind P w).hash (.inr x)) (.str x t0)
    have z3:=layNew_ris t es ((mixKind P w).hash (.inr x)) (.str x t0) hr
    have z4:=layNew_led t es ((mixKind P w).hash (.inr x)) (.str x t0)
    revert z1 z2 z3 z4
    rcases layNew t es ((mixKind P w).hash (.inr x)) (.str x t0) with ⟨es1,t1,wasDummy,gave⟩
    intro z1 z2 z3 z4
    dsimp only at z1 z2 z3 z4 ⊢
    rw [Array.toList_push] at z1
    have g1: ∀ e∈es1.toList,TxtE P w e:=fun e he=>by
      rcases List.mem_append.mp (z1.mem_iff.mp he) with q|q
      · exact g e q
      · rw [List.mem_singleton.mp q];exact ⟨x,t0,rfl,rfl⟩
    have m1:(es1.toList.map txt).Perm (l++[x]):=by
      have q:=z1.map txt
      rw [List.map_append] at q
      exact q.trans (m.append_right [x])
    have nd1:(l++[x]).Nodup:=List.nodup_append.mpr ⟨nd,by simp,fun y hy z hz=>by
      rw [List.mem_singleton.mp hz];exact fun e=>hx (e▸hy)⟩
    have hb1:es1.size<scanBound:=by
      have:=m1.length_eq
      rw [List.length_map,Array.length_toList,List.length_append] at this
      rw [this];exact room
    have led:w.params.followText "set-order"=true∨t1.led=true:=hl.imp id fun q=>z4.trans q
    have fin: ∀ h',Heap.SameBut a s.heap h'→TxtSet P w h' a (l++[x])→Q true {s with heap:=h'}:=fun h' sb r=>hQ true h' sb (by rw [if_neg hx];exact r)
    have gw: ∀ (b:Bool) {s₁:Shared} {Q':Unit→Shared→Prop},Q' () s₁→wpAny (model P w) A (match b with|true=>rule "set.scan.the-table-gave-way"|false=>pure ()) Q' E s₁:=fun b s₁ Q' q=>by
      cases b
      · exact wpAny_pure q
      · exact wpAny_rule q
    refine wpAny_bind (gw _ ?_)
    split
    · refine wpAny_bind ?_
      rw [hashByValue_scannable 8 hsc]
      refine wpAny_pure (txt_tail (fun b s₁ Q' q=>gw b q) ho hex hd g1 m1 nd1 hb1 ?_ ?_ ?_ fun h' sb r=>wpAny_pure (fin h' sb r))
      · first|(split<;>first|exact z2|exact SetTable.fits_plain_off z2)|exact z2
      · first|(split<;>exact z3)|exact z3
      · first|(split<;>exact led)|exact led
    · refine wpAny_bind (wpAny_pure ?_)
      simp only [↓reduceIte]
      exact txt_tail (fun b s₁ Q' q=>gw b q) ho hex hd g1 m1 nd1 hb1 z2 z3 led fun h' sb r=>wpAny_pure (fin h' sb r)
  | some j=>
    dsimp only
    obtain ⟨hj,pj,_⟩:=List.findIdx?_eq_some_iff_getElem.mp hfi
    have hx:x∈l:=(txt_mem g m x).mpr ⟨es.toList[j],List.getElem_mem hj,pj⟩
    exact wpAny_pure (wpAny_pure (hQ false s.heap (Heap.SameBut.refl a s.heap) (by rw [if_pos hx];exact ⟨o,es,ep,t,ho,hex,hd,g,m,nd,hb,hf,hr,hl⟩)))
theorem TxtSet.setOf (R:TxtSet P w h a l):h.SetOf (mixKind P w) a (fun k=>match k with| .inr y=>decide (y∈l)| .inl _=>false) l.length:=by
  obtain ⟨o,es,ep,t,ho,hex,hd,g,m,nd,hb,hf,hr,hl⟩:=R
  refine ⟨o,es,ep,t,ho,hex,hd,TxtE.elems g,fun k=>?_,hb,hf,by rw [←m.length_eq,List.length_map,Array.length_toList]⟩
  cases k with
  | inl i=>
    refine ⟨fun z=>(nomatch z),fun ⟨e,he,q⟩=>?_⟩
    obtain ⟨x,t',h1,_⟩:=g e he
    rw [h1] at q
    rcases keyIs_shape (k:=.inl i) (v:=.str x t') q with ⟨_,_,_,e2⟩|⟨_,_,e2,_⟩<;>cases e2
  | inr y=>
    simp only [decide_eq_true_eq]
    exact txt_mem g m y
theorem txt_add {x:Str} {t0:Tok} {Q:Value→Shared→Prop} (R:TxtSet P w s.heap a l) (room:l.length+1<scanBound)
    (hQ: ∀ h',Heap.SameBut a s.heap h'→TxtSet P w h' a (if x∈l then l else l++[x])→Q .none {s with heap:=h',toks:=s.toks+1}):wpAny (model P w) A (call (.builtin "set.add") [.ref a,.str x t0]) Q E s:=by
  refine wpAny_call_entry F.slot_set_add R.setOf.typeIs F.entry_set_add ?_ (F.args_set_add_2 _ _)
  unfold Builtin.«set.add» Builtin.Frozenset.oneOther
  simp only [List.isEmpty_nil,bind_assoc]
  unfold Builtin.Frozenset.addrOf setAdd
  refine wpAny_bind (wpAny_pure ?_)
  refine wpAny_bind (wpAny_pure ?_)
  refine wpAny_bind (wpAny_holding (wpAny_bind ((mixKind P w).pyHash (txt_is.mpr rfl) ?_)))
  refine txt_put (s:={s with toks:=s.toks+1}) R room fun b h' sb r=>?_
  show wpAny _ _ (ret Value.none) _ _ _
  exact wpAny_pure ⟨_,rfl,hQ h' sb r⟩
theorem txt_fresh {h:Heap}:TxtSet P w (h.push {cls:=.type "set",dict:=none,data:=.set #[] 0 (.fresh 0 0 (!w.params.followText "set-order"))}) h.objs.size []:=
  ⟨_,#[],0,_,Heap.get?_push_size _ rfl,⟨rfl,rfl,rfl⟩,rfl,fun e he=>by simp at he,by simp,by simp,by decide,rfl,List.Pairwise.nil,by
    show _∨(!w.params.followText "set-order")=true
    cases w.params.followText "set-order"
    · exact .inr rfl
    · exact .inl rfl⟩
end
end Mi
namespace Mi
open PySem PySem.Spec PyProof.Rows L2
def TxtO (P:Program) (w:World) (a:Addr) (l:List Str):HO:=.ext fun h=>TxtSet P w h a l
def addT (l:List Str) (x:Str):List Str:=if x∈l then l else l++[x]
theorem txtO_new {P:Program} {w:World} {H:Hp} {h:Heap} {a:Addr} {l:List Str} (R:TxtSet P w h a l):ObjOk P w H h a (TxtO P w a l):=by
  obtain ⟨o,_,_,_,ho,_⟩:=id R
  exact ⟨R,⟨o,ho⟩,fun h1 h2 p k=>TxtSet.stay p k⟩
def txtV:Value→Str
  | .str x _=>x
  |_=>""
theorem strs_txtV: ∀ (l:List Value),(∀ v∈l,∃ x t,v=Value.str x t)→StrsAre l (l.map txtV)
  |[],_=>.nil
  | v::l,h=>by
    obtain ⟨x,t,rfl⟩:=h v List.mem_cons_self
    exact .cons x t (strs_txtV l fun u hu=>h u (List.mem_cons_of_mem _ hu))
section
variable {X:Cx}
theorem b_sortedT (hcalm:X.calm=true):CallR X (.builtin "sorted") (fun xs H Q=> ∃ a l,xs=[.ref a]∧H a=some (TxtO X.prog X.w a l)∧l.length<64∧∀ p,H p=none→Q (.ref p) (upd H p (.lst ((sortS l).map V.str)))):=by
  intro pins s σ H xs us Q I r q
  obtain ⟨a,l,ex,hd,h64,q⟩:=q
  subst ex
  obtain ⟨u,eu,rx⟩:=vals1 r
  subst eu
  cases rx
  obtain ⟨o,es,ep,t,ho,hex,hdt,g,m,nd,hb,hf,hr,hl⟩:TxtSet X.prog X.w s.heap a l:=(I.hok a _ hd).1
  refine Calls.call_function_entry kind_sorted plain_sorted entry_sorted (args_sorted1 _) ?_
  unfold Builtin.«sorted»
  refine wpAny_bind (m:=checkCount "sorted" 1 1 _) (wpAny_pure ?_)
  refine wpAny_bind (collect_set (A:=X.A.in1) (I.ok.hd hcalm) ⟨o,ho,hex.1,hdt⟩ hf hb hr hl fun s1 vs k1 hz g1 o1 pm=>?_)
  have e0:(es.toList.map (·.2)).map txtV=es.toList.map txt:=by
    rw [List.map_map]
    refine List.map_congr_left fun e he=>?_
    obtain ⟨x,tt,h1,_⟩:=g e he
    show txtV e.2=txt e
    unfold txt txtV
    rw [h1]
  have pl:(vs.map txtV).Perm l:=by
    have z:=pm.map txtV
    rw [e0] at z
    exact z.trans m
  have hvl:vs.length=l.length:=by rw [←pl.length_eq,List.length_map]
  have hS:StrsAre vs (vs.map txtV):=strs_txtV vs fun v hv=>by
    obtain ⟨e,he,z⟩:=List.mem_map.mp (pm.mem_iff.mp hv)
    obtain ⟨x,tt,h1,_⟩:=g e he
    exact ⟨x,tt,by rw [←z];exact h1⟩
  have I1:Inv X pins σ H s1:=I.call' (ch:=[]) o1 (Un.kept k1) (I.hok.kept k1) (by rw [g1];exact I.bare) (fun _ z=>nomatch z)
  refine wpAny_bind (wpAny_newList ?_ (by rw [hvl,sizeLine_eq];omega))
  have hoL:(s1.heap.push (seqObj "list" vs.toArray 0)).get? s1.heap.objs.size=some (seqObj "list" vs.toArray 0):=Heap.get?_push_size _ rfl
  refine wpAny_bind (wpAny_holding (wpAny_call_entry slot_list_sort ⟨_,hoL,rfl⟩ entry_list_sort
    (list_sort_treeK strKind_oneLt (s:={s1 with heap:=s1.heap.push (seqObj "list" vs.toArray 0)}) hoL hS.keysOf (fun v₁ v₂ rest e=>keyKind_strs (by rw [←e];exact hS)) (by rw [hvl];exact h64) fun st' hp hs=>⟨_,rfl, ?_⟩)
    (args_list_sort _)))
  obtain ⟨ys,y1,y2,y3⟩:=sorted_out_str hS hp hs
  obtain ⟨e',he'⟩:=sortedHeap_at (vs:=vs) (out:=(arrOf st').map (·.2)) hoL
  have ey:ys=sortS l:=sorted_uniq (sortedS_of y3) (sortS_sorted l) (y2.trans (pl.trans (sortS_perm l).symm))
  have hlen:(ys.map V.str).length≤sizeLine:=by
    rw [List.length_map,y2.length_eq,pl.length_eq]
    exact Nat.le_trans (Nat.le_of_lt h64) (by decide)
  refine wpAny_pure ⟨_,rfl,.ref s1.heap.objs.size,upd H s1.heap.objs.size (.lst (ys.map V.str)),I1.laid (t':=s1.toks) (fun b u e=>?_) (Nat.le_refl _)
    (show ObjOk X.prog X.w _ _ _ (.lst (ys.map V.str)) from ⟨hlen,((arrOf st').map (·.2)).toList,e',vals_of_strs y1,by rw [Array.toArray_toList];exact he'⟩),rfl,by rw [ey];exact q _ (I1.hok.fresh (Nat.le_refl _))⟩
  have hb:b<s1.heap.objs.size:=Heap.lt_size e
  rw [sortedHeap_old (Nat.ne_of_lt hb) (by rw [size_push'];exact Nat.lt_succ_of_lt hb)]
  exact Heap.get?_push_of_some _ e
def tTc (P:Program) (w:World) (wi:TI) (g:TG) (tt:TT) (te:TE) (vs:List Nat):TE:=fun σ H Q=>wi σ H fun J H1=> ∃ W:Nat→Nat→List Str→Hp→Prop,(∃ m,W 0 m [] H1)∧∀ i m l H,W i m l H→
  (J.stop i H∧∀ D,H D=none→Q (.ref D) (upd H D (TxtO P w D l)))∨(J.go i H∧∃ Nx:List Str→Hp→Prop,(∀ l' H',Nx l' H'→∃ m',m'<m∧W (i+1) m' l' H')∧∀ x H',J.yld i H x H'→g x (wipe σ vs) H' fun σ2 H2=>
    wipe σ2 vs=wipe σ vs∧tt σ2 H2 fun b H3=>if b=true then te σ2 H3 fun y H4=> ∃ t,y= .str t∧l.length+1<scanBound∧Nx (addT l t) H4 else Nx l H3)
theorem txt_cell {P:Program} {w:World} {h:Heap} {a:Addr} {l:List Str} (R:TxtSet P w h a l): ∃ o,h.get? a=some o∧∀ v,o.data≠.cell v:=by
  obtain ⟨o,es,ep,t,ho,_,hd,_⟩:=R
  exact ⟨o,ho,fun v z=>by rw [hd] at z;cases z⟩
theorem e_txt {elt tg iter:Expr} {ifs:List Expr} {scope:Scope} {own:List (Str×Nat)} {pos:Pos} {wi:TI} {g:TG} {tt:TT} {te:TE} (hc:X.calm=true) (hN:X.N.Nodup) (hi:PI X tg iter wi) (ok:BlkOk X.N X.env.scope scope own)
    (hg: ∀ (s:Shared) (H:Hp) (C:Addr) (cl:List (Str×Addr)) (fp:List Addr),PG (X.blk s H scope (compEnvC scope cl C X.env) fp) tg g) (ht: ∀ (s:Shared) (H:Hp) (C:Addr) (cl:List (Str×Addr)) (fp:List Addr),PTs (X.blk s H scope (compEnvC scope cl C X.env) fp) ifs tt)
    (he: ∀ (s:Shared) (H:Hp) (C:Addr) (cl:List (Str×Addr)) (fp:List Addr),PE (X.blk s H scope (compEnvC scope cl C X.env) fp) elt te) (hs: ∀ x,foldedSetIterable iter X.env x=pure x):
    PE X (.SetComp elt [⟨tg,iter,ifs,0⟩] scope pos) (tTc X.prog X.w wi g tt te (own.map (·.2))):=by
  refine ⟨fun pins s σ H Q I h=>?_⟩
  rw [PpSet.eval_SetComp]
  have hfree: ∀ y∈scope.names,y.2= .free→∃ c,X.env.cells.lookup y.1=some c:=fun y hy e=>(ok.free y hy e).elim (fun k=>I.ok.has _ (.inl k)) fun k=>I.ok.has _ (.inr k)
  refine wpAny_comprehension_free (use:=none) rfl hs (closure_ok hfree) ok.kind (fun y hy e=>by rw [ok.uniq y hy,e])
    (thn (hi.run pins s σ H _ I h) fun xv s1 hx=>thn hx fun itv s2 h2=>?_)
  obtain ⟨it,fp,tn,J,H2,e,I2,T,st2,f2,q⟩:=h2
  subst e
  refine PpSet.newSet_ok (newEnv_comp ?_)
  generalize hD:s2.heap.objs.size=D
  have hDn:H2 D=none:=I2.hok.fresh (Nat.le_of_eq hD)
  obtain ⟨W,⟨m0,w0⟩,turn⟩:=q
  generalize hs3:({s2 with heap:=s2.heap.push {cls:=.type "set",dict:=none,data:=.set #[] 0 (.fresh 0 0 (!X.w.params.followText "set-order"))}}:Shared)=s3
  have h3:s3.heap=s2.heap.push {cls:=.type "set",dict:=none,data:=.set #[] 0 (.fresh 0 0 (!X.w.params.followText "set-order"))}:=by rw [←hs3]
  have I3:Inv X pins σ H2 s3:=by
    rw [←hs3]
    exact I2.kept (t':=s2.toks) fun b o e=>Heap.get?_push_of_some _ e
  have t3:TxtSet X.prog X.w s3.heap D []:=by rw [h3,←hD];exact txt_fresh
  have sz: ∀ b∈fp,b<s2.heap.objs.size:=fun b hb=>by
    obtain ⟨o,e,_⟩:=T.obj _ _ st2 b hb
    exact Heap.lt_size e
  have nD: ∀ b∈fp,b≠D:=fun b hb=>by rw [←hD];exact Nat.ne_of_lt (sz b hb)
  have fD:FpOk X pins H2 D:=I2.fpOk (Nat.le_of_eq hD) hDn
  have f3: ∀ b∈D::fp,FpOk X pins H2 b∧b<s3.heap.objs.size:=fun b hb=>by
    rcases List.mem_cons.mp hb with z|z
    · subst z
      exact ⟨fD,by rw [h3,Heap.size_push];omega⟩
    · exact ⟨f2 b z,by rw [h3,Heap.size_push];exact Nat.lt_succ_of_lt (sz b z)⟩
  have st3:tn 0 s3.heap:=T.keep _ _ _ st2 fun b _ o e=>by rw [h3];exact Heap.get?_push_of_some _ e
  have I4:=block_start I3 ok hN f3
  have pg:=hg s3 H2 s3.heap.objs.size (cellsFrom (s3.heap.objs.size+1) scope.names (cloFrom X.env.cells scope.names [])) (D::fp)
  have pt:=ht s3 H2 s3.heap.objs.size (cellsFrom (s3.heap.objs.size+1) scope.names (cloFrom X.env.cells scope.names [])) (D::fp)
  have pe:=he s3 H2 s3.heap.objs.size (cellsFrom (s3.heap.objs.size+1) scope.names (cloFrom X.env.cells scope.names [])) (D::fp)
  show codeAny _ _ (.compStart (.SetComp elt [⟨tg,iter,ifs,0⟩] scope pos) 0 (.ref it) (.ref D) (compEnvC scope (cellsFrom (s3.heap.objs.size+1) scope.names (cloFrom X.env.cells scope.names [])) s3.heap.objs.size X.env)) (compPost (model X.prog X.w) X.A X.xe none _ (.ref D) s3.heap.objs.size) {s3 with heap:=pushCells (s3.heap.push {cls:=.type "dict",data:=.dict #[]}) scope.names}
  have n3: ∀ b∈D::fp,H2 b=none:=fun b hb=>(f3 b hb).1.1
  generalize hce:compEnvC scope (cellsFrom (s3.heap.objs.size+1) scope.names (cloFrom X.env.cells scope.names [])) s3.heap.objs.size X.env=ce at I4 pg pt pe ⊢
  have cL:ce.locals=s3.heap.objs.size:=by subst hce;rfl
  generalize hs4:({s3 with heap:=pushCells (s3.heap.push {cls:=.type "dict",data:=.dict #[]}) scope.names}:Shared)=s4 at I4 ⊢
  have k4: ∀ b o,s3.heap.get? b=some o→s4.heap.get? b=some o:=fun b o e=>by rw [←hs4];exact pushCells_keeps _ _ _ _ (Heap.get?_push_of_some _ e)
  have st4:tn 0 s4.heap:=T.keep _ _ _ st3 fun b _ o e=>k4 b o e
  have t4:TxtSet X.prog X.w s4.heap D []:=t3.stay fun o e=>k4 D o e
  have stat: ∀ {σ':L2.St} {H':Hp} {s':Shared},Inv (X.blk s3 H2 scope ce (D::fp)) [] σ' H' s'→(∀ b∈D::fp,H' b=none)→∀ b∈D::fp,FpOk (X.blk s3 H2 scope ce (D::fp)) [] H' b:=fun {σ' H' s'} I' hn b hb=>
    ⟨hn b hb,(I'.ok.exf b hb).1,I'.ok.exfs b hb,.inl hb,fun x c e=>(I'.ok.exf b hb).2 x c e,fun p hp=>absurd (show p∈([]:List (Addr×Obj))++[] from hp) (by simp)⟩
  have held: ∀ {σ':L2.St} {H':Hp} {s0 s':Shared} {pl:List (Addr×Obj)} {ff:List Addr},Inv (X.blk s3 H2 scope ce (D::fp)) (pl++pinsAt ff s0.heap) σ' H' s'→∀ b∈ff,∀ o,s0.heap.get? b=some o→s'.heap.get? b=some o∧H' b=none:=fun I' b hb o e=>
    let z:=I'.pin (b,o) (List.mem_append_right _ (List.mem_append_right _ (mem_pinsAt hb e)))
    ⟨z.1,z.2.1⟩
  have loop:codeAny (model X.prog X.w) X.A (.compLoop (.SetComp elt [⟨tg,iter,ifs,0⟩] scope pos) 0 (.ref it) (.ref D) ce) (compPost (model X.prog X.w) X.A X.xe none (EP X pins σ Q) (.ref D) s3.heap.objs.size) s4:=by
    refine PpSet.compLoopS_any (fun n s'=> ∃ i l H',Inv (X.blk s3 H2 scope ce (D::fp)) [] (wipe σ (own.map (·.2))) H' s'∧tn i s'.heap∧TxtSet X.prog X.w s'.heap D l∧(∀ b∈D::fp,H' b=none)∧W i n l H') ?_ m0 ⟨0,[],H2,I4,st4,t4,n3,w0⟩
    rintro n s5 ⟨i,l,H5,I5,st5,t5,n5,w5⟩
    have c5:=txt_cell t5
    have sD:=stat I5 n5 D List.mem_cons_self
    have I5p:Inv (X.blk s3 H2 scope ce (D::fp)) ([]++pinsAt [D] s5.heap) (wipe σ (own.map (·.2))) H5 s5:=I5.pinned (fun b hb=>by rw [List.mem_singleton.mp hb];exact sD) fun b hb=>by rw [List.mem_singleton.mp hb];exact c5
    have fpp: ∀ b∈fp,FpOk (X.blk s3 H2 scope ce (D::fp)) ([]++pinsAt [D] s5.heap) H5 b:=fun b hb=>by
      obtain ⟨a1,a2,a3,a4,a5,_⟩:=stat I5 n5 b (List.mem_cons_of_mem _ hb)
      refine ⟨a1,a2,a3,a4,a5,fun p hp=>?_⟩
      have hp:p∈pinsAt [D] s5.heap:=hp
      obtain ⟨z,_⟩:=of_pinsAt hp
      rw [List.mem_singleton.mp z]
      exact (nD b hb).symm
    rcases turn i n l H5 w5 with ⟨stop,qq⟩|⟨go,Nx,hNx,step⟩
    · have td:=T.done (X.blk s3 H2 scope ce (D::fp)) rfl rfl rfl hc i _ s5 _ H5 (fun _ _=>False) I5p fpp st5 stop
      refine thnF td fun r s6 ⟨hr,I6⟩=>?_
      subst hr
      have t6:TxtSet X.prog X.w s6.heap D l:=t5.stay fun o e=>(held I6 D List.mem_cons_self o e).1
      have I7:Inv X pins σ H5 s6:=I3.call' (ch:=D::fp) I6.os I6.base I6.hok I6.bare fun b hb=>⟨(f3 b hb).1.2.2.2.1,(f3 b hb).1.2.1,(f3 b hb).1.2.2.2.2.1,(f3 b hb).1.2.2.2.2.2⟩
      have nC:H5 s3.heap.objs.size=none:=by
        have z:H5 ce.locals=none:=I6.free
        rw [cL] at z
        exact z
      obtain ⟨m,hn,_⟩:=I6.loc
      have hn:s6.heap.Ns ce.locals m:=hn
      rw [cL] at hn
      refine ⟨m,hn,fun h'' sb=>?_⟩
      obtain ⟨c0,c1,c2,c3,c4,c5⟩:=I3.fpOk (b:=s3.heap.objs.size) (Nat.le_refl _) nC
      have neC:D≠s3.heap.objs.size:=Nat.ne_of_lt (f3 D List.mem_cons_self).2
      have I8:Inv X pins σ H5 {s6 with heap:=h''}:=I7.turned (t':=s6.toks) (fun b o hb e=>(sb.2 b hb).trans e) c0 c1 c3 c4 c5
      have t8:TxtSet X.prog X.w h'' D l:=t6.stay fun o e=>(sb.2 D neC).trans e
      obtain ⟨_,d1,d2,d3,d4,d5⟩:=fD
      have I9:Inv X pins σ (upd H5 D (TxtO X.prog X.w D l)) {s6 with heap:=h''}:=I8.take (h':=h'') (t':=s6.toks) (fun b ob _ e=>e) ⟨n5 D List.mem_cons_self,d1,d2,d3,d4,d5⟩ (txtO_new t8)
      exact ⟨.ref D,_,I9,rfl,qq D (n5 D List.mem_cons_self)⟩
    · have ti:=T.item (X.blk s3 H2 scope ce (D::fp)) rfl rfl rfl hc i _ s5 _ H5 (fun _ _=>False) I5p fpp st5 go
      refine thnF ti fun r s6 ⟨u,hr,h6⟩=>?_
      subst hr
      refine thnF h6 fun _ s7 ⟨x,H7,I7,r7,y7,st7,n7⟩=>?_
      have t7:TxtSet X.prog X.w s7.heap D l:=t5.stay fun o e=>(held I7 D List.mem_cons_self o e).1
      obtain ⟨oD,eD,_⟩:=c5
      have n7': ∀ b∈D::fp,H7 b=none:=fun b hb=>by
        rcases List.mem_cons.mp hb with z|z
        · rw [z];exact (held I7 D List.mem_cons_self oD eD).2
        · exact n7 b z
      have I7u:Inv (X.blk s3 H2 scope ce (D::fp)) [] (wipe σ (own.map (·.2))) H7 s7:=I7.unpinned (pins:=[])
      have I7':=I7u.pinned (stat I7u n7') (fun b hb=>by
        rcases List.mem_cons.mp hb with z|z
        · rw [z];exact txt_cell t7
        · exact T.obj _ _ st7 b z)
      refine thnF (pg.run _ s7 _ H7 x u _ I7' r7 (step x H7 y7)) fun _ s8 ⟨σ8,H8,I8,hw8,q8⟩=>?_
      refine thnF (pt.run _ s8 σ8 H8 _ I8 q8) fun b s9 ⟨H9,I9,q9⟩=>?_
      have fin: ∀ {s':Shared} {H':Hp} {l':List Str},Inv (X.blk s3 H2 scope ce (D::fp)) [] σ8 H' s'→(∀ b∈fp,∀ o,s7.heap.get? b=some o→s'.heap.get? b=some o)→(∀ b∈D::fp,H' b=none)→TxtSet X.prog X.w s'.heap D l'→Nx l' H'→
          ∃ m,m<n∧∃ i l H',Inv (X.blk s3 H2 scope ce (D::fp)) [] (wipe σ (own.map (·.2))) H' s'∧tn i s'.heap∧TxtSet X.prog X.w s'.heap D l∧(∀ b∈D::fp,H' b=none)∧W i m l H':=fun {s' H' l'} I' pin' n' t' nx=>by
        obtain ⟨m',hm,w'⟩:=hNx l' H' nx
        have hl:(wipe σ (own.map (·.2))).length=σ8.length:=by rw [←hw8,wipe_length]
        refine ⟨m',hm,i+1,l',H',I'.weak hl (fun j v e=>?_),T.keep _ _ _ st7 fun b hb o e=>pin' b hb o e,t',n',w'⟩
        rw [←hw8] at e
        exact (wipe_some e).1
      have hnone: ∀ {σ':L2.St} {H':Hp} {s':Shared},Inv (X.blk s3 H2 scope ce (D::fp)) ([]++pinsAt (D::fp) s7.heap) σ' H' s'→∀ b∈D::fp,H' b=none:=fun I' b hb=>by
        rcases List.mem_cons.mp hb with z|z
        · subst z
          obtain ⟨o,e,_⟩:=txt_cell t7
          exact (held I' _ hb o e).2
        · obtain ⟨o,e,_⟩:=T.obj _ _ st7 b z
          exact (held I' _ hb o e).2
      cases b with
      | false=>
        simp only [Bool.false_eq_true,if_false] at q9 ⊢
        exact fin (I9.unpinned (pins:=[])) (fun b hb o e=>(held I9 b (List.mem_cons_of_mem _ hb) o e).1) (hnone I9) (t7.stay fun o e=>(held I9 D List.mem_cons_self o e).1) q9
      | true=>
        simp only [if_true] at q9 ⊢
        refine thnF (pe.run _ s9 σ8 H9 _ I9 q9) fun z s10 ⟨yv,H10,I10,r10,tx,ey,hz10,nx⟩=>?_
        subst ey
        obtain ⟨tk,ez⟩: ∃ t,z=Value.str tx t:=r10
        subst ez
        have t10:TxtSet X.prog X.w s10.heap D l:=t7.stay fun o e=>(held I10 D List.mem_cons_self o e).1
        have n10:=hnone I10
        have I10u:Inv (X.blk s3 H2 scope ce (D::fp)) [] σ8 H10 s10:=I10.unpinned (pins:=[])
        refine txt_add t10 hz10 fun h' sb t11=>?_
        have s10D:=stat I10u n10 D List.mem_cons_self
        obtain ⟨d0,d1,d2,d3,d4,d5⟩:=s10D
        exact fin (I10u.turned (t':=s10.toks+1) (fun b o hb e=>(sb.2 b hb).trans e) d0 d1 d3 d4 d5) (fun b hb o e=>(sb.2 b (nD b hb)).trans (held I10 b (List.mem_cons_of_mem _ hb) o e).1) n10 t11 nx
  exact PpSet.codeAny_compStart_set loop (T.self X.A 0 _ _ _ st4 loop)
end
end Mi
namespace Mi
open PySem PySem.Spec PyProof.Rows L2
def dedG:Option (List Str)→D→Option (List Str)
  |some l,.str x=>some (addT l x)
  |_,_=>none
def dedS (acc:List D):Option (List Str):=acc.foldl dedG (some [])
theorem ded_none: ∀ (t:List D),t.foldl dedG none=none
  |[]=>rfl
  |d::t=>by rw [List.foldl_cons];exact ded_none t
theorem add_len (l:List Str) (x:Str):l.length≤(addT l x).length:=by
  unfold addT
  split
  · exact Nat.le_refl _
  · simp
theorem ded_grow: ∀ (t:List D) {l l':List Str},t.foldl dedG (some l)=some l'→l.length≤l'.length
  |[],l,l',e=>by cases e;exact Nat.le_refl _
  | d::t,l,l',e=>by
    rw [List.foldl_cons] at e
    cases d with
    |str x=>exact Nat.le_trans (add_len l x) (ded_grow t e)
    |_=>all_goals (simp only [dedG] at e;rw [ded_none] at e;cases e)
theorem ded_part {acc t:List D} {l':List Str} (e:dedS (acc++t)=some l'): ∃ l,dedS acc=some l∧l.length≤l'.length:=by
  unfold dedS at e ⊢
  rw [List.foldl_append] at e
  cases h:List.foldl dedG (some []) acc with
  |none=>rw [h,ded_none] at e;cases e
  |some l=>rw [h] at e;exact ⟨l,rfl,ded_grow t e⟩
theorem ded_snoc {acc:List D} {d:D} {l l':List Str} (h:dedS acc=some l) (e:dedS (acc++[d])=some l'): ∃ x,d= .str x∧l'=addT l x:=by
  unfold dedS at h e
  rw [List.foldl_append,h] at e
  cases d with
  |str x=>cases e;exact ⟨x,rfl,rfl⟩
  |_=>all_goals cases e
section
variable {G:GE} {k:Nat} {call:Call} {cc:CC} {W:WX} {X:Cx} {vs:List Nat}
theorem lcL_more {g:Tg} {tt:B} {te:E}: ∀ (ds acc:List D) (s:S) {acc':List D} {s':S},lcL call g tt te vs ds acc s= .ok acc' s'→∃ t,acc'=acc++t
  |[],acc,s,acc',s',e=>by cases e;exact ⟨[],by simp⟩
  | d ::ds,acc,s,acc',s',e=>by
    unfold lcL at e
    split at e
    · cases e
    · split at e
      · split at e
        · split at e
          · split at e
            · rename_i y _ _ _
              obtain ⟨t,ht⟩:=lcL_more ds _ _ e
              exact ⟨y::t,by rw [ht];simp⟩
            · cases e
          · cases e
        · cases e
      · exact lcL_more ds _ _ e
      · cases e
def stsO (s2:S) (σ1:List (Option O)) (vs:List Nat) (acc:List D):Out R:=match dedS acc with
  |some l=>if l.length<64 then .ok (.own (.lst ((sortS l).map .str))) ⟨rst s2.σ σ1 vs,s2.h⟩ else .bad
  |none=>.bad
def mSts (m:Iv) (g:Tg) (tt:B) (te:E) (vs:List Nat):E:=fun call s=>(m call s).bind fun ds s1=>match lcL call g tt te vs ds [] ⟨wipeO s1.σ vs,s1.h⟩ with
  | .ok acc s2=>stsO s2 s1.σ vs acc
  |_=>.bad
theorem reps_str {ρ:List Addr} {H:Hp} {M:List Addr}: ∀ (l:List Str),RepDs G ρ H M (l.map .str) (l.map V.str)
  |[]=>rfl
  |x::l=>⟨.str x,l.map V.str,rfl,rfl,reps_str l⟩
theorem st_walk {P:Program} {J:It} {K Φ:List (R×V)} {ds:List D} {g:Tg} {tt:B} {te:E} {σ:Sr} {H1:Hp} {s1:S} {Q:VK} (nk:NoB K) (bo: ∀ i v,(R.bor i,v)∈Φ→σ[i]?=some (some v)) (w:Walks G J K ds) (c:CfS G σ H1 s1 (K++Φ))
    (a:Aft G W σ Φ (PV G σ Φ Q) (match lcL call g tt te vs ds [] ⟨wipeO s1.σ vs,s1.h⟩ with
      | .ok acc s2=>stsO s2 s1.σ vs acc
      |_=>.bad)) {wd:World}:
    ∃ Wr:Nat→Nat→List Str→Hp→Prop,(∃ m,Wr 0 m [] H1)∧∀ i m l H,Wr i m l H→
      (J.stop i H∧∀ Dd,H Dd=none→∃ a l',[V.ref Dd]=[.ref a]∧(upd H Dd (TxtO P wd Dd l)) a=some (TxtO P wd a l')∧l'.length<64∧∀ p,(upd H Dd (TxtO P wd Dd l)) p=none→Q (.ref p) (upd (upd H Dd (TxtO P wd Dd l)) p (.lst ((sortS l').map V.str))))∨
      (J.go i H∧∃ Nx:List Str→Hp→Prop,(∀ l' H',Nx l' H'→∃ m',m'<m∧Wr (i+1) m' l' H')∧∀ x H',J.yld i H x H'→tGA G vs g x (L2.wipe σ vs) H' fun σ2 H2=>L2.wipe σ2 vs=L2.wipe σ vs∧tB_ G noW call tt σ2 H2 fun b H3=>
        if b=true then tE G noW call te σ2 H3 fun y H4=> ∃ t,y= .str t∧l.length+1<scanBound∧Nx (addT l t) H4 else Nx l H3):=by
  obtain ⟨Z,p1,ok,back⟩:=slp_wipe c.sl vs
  let Ψ:=K++(ownR Z++ownR (ow Φ))
  have nΨ:NoB Ψ:=noB_app nk (noB_app nob_ownR nob_ownR)
  let St:S→Hp→Prop:=fun s H=>CfS G (L2.wipe σ vs) H s Ψ
  let Fin:List D→List D→S→Prop:=fun rest acc s=>Aft G W σ Φ (PV G σ Φ Q) (match lcL call g tt te vs rest acc s with
      | .ok acc s2=>stsO s2 s1.σ vs acc
      |_=>.bad)
  have part: ∀ {rest acc:List D} {s:S},Fin rest acc s→∃ l,dedS acc=some l∧l.length<64:=fun {rest acc s} f=>by
    simp only [Fin] at f
    cases e:lcL call g tt te vs rest acc s with
    | ok acc' s'=>
      rw [e] at f
      obtain ⟨t,ht⟩:=lcL_more _ _ _ e
      simp only [stsO] at f
      cases hd:dedS acc' with
      |none=>rw [hd] at f;exact f.elim
      | some l'=>
        rw [hd] at f
        by_cases h64:l'.length<64
        · rw [ht] at hd
          obtain ⟨l,h1,h2⟩:=ded_part hd
          exact ⟨l,h1,by omega⟩
        · simp only [h64,if_false] at f;exact f.elim
    |exc _ _ _=>rw [e] at f;exact f.elim
    |bad=>rw [e] at f;exact f.elim
  have st0:St ⟨wipeO s1.σ vs,s1.h⟩ H1:=by
    refine ⟨ok,fun i v z=>absurd z (nΨ i v), ?_⟩
    have cf:=c.cf.perm (p1.append_right (ow (K++Φ)))
    exact cf.perm (by
      simp only [Ψ,ow_append,ow_ownR,List.append_assoc]
      exact List.Perm.append_left _ (List.perm_append_comm_assoc _ _ _))
  refine ⟨fun i m l H=>m=ds.length - i∧i≤ds.length∧∃ acc s,dedS acc=some l∧St s H∧Fin (ds.drop i) acc s,⟨ds.length,by simp,Nat.zero_le _,[],_,rfl,st0,a⟩, ?_⟩
  rintro i m l H ⟨rfl,hi,acc,s,hdd,c,a⟩
  have cK:CfS G (L2.wipe σ vs) H s (K++(ownR Z++ownR (ow Φ))):=c
  obtain ⟨w1,w2,w3⟩:=w _ H s _ cK
  by_cases hlt:i<ds.length
  · refine .inr ⟨w1 i hlt,fun l' H'=> ∃ acc s,dedS acc=some l'∧St s H'∧Fin (ds.drop (i+1)) acc s,fun l' H' p'=>⟨ds.length - (i+1),by omega,rfl,hlt,p'⟩,fun x H' y=>?_⟩
    have e:ds.drop i=ds[i]::ds.drop (i+1):=List.drop_eq_getElem_cons hlt
    have a':Fin (ds[i]::ds.drop (i+1)) acc s:=by rw [←e];exact a
    have c1:=w2 i ds[i] x H' (by simp [hlt]) y
    obtain ⟨l0,hl0,hl64⟩:=part a'
    have el0:l0=l:=by rw [hdd] at hl0;cases hl0;rfl
    subst el0
    simp only [Fin,lcL] at a'
    cases eg:g (.fz ds[i]) s with
    |none=>simp only [eg] at a';exact a'.elim
    | some s2 =>
      simp only [eg] at a'
      refine ⟨s,_,.fz ds[i],s2,nΨ,c1,eg,fun σ2 c2 ag=>?_⟩
      have ew:L2.wipe σ2 vs=L2.wipe σ vs:=by rw [ag.wipe,wipe_wipe]
      refine ⟨ew,s2,_,c2, ?_⟩
      cases et:tt call s2 with
      |bad=>simp only [et] at a';exact a'.elim
      |exc cn d s3=>simp only [et] at a';exact a'.elim
      | ok b s3 =>
        cases b with
        | false=>
          simp only [et] at a'
          exact fun H3 c3=>iteF ⟨acc,_,hdd,by have:=c3.wipe nΨ vs;rw [ew] at this;exact this,a'⟩
        | true=>
          simp only [et] at a'
          intro H3 c3
          refine iteT ⟨s3,_,c3, ?_⟩
          cases ee:te call s3 with
          |bad=>simp only [ee] at a';exact a'.elim
          |exc cn d s4=>simp only [ee] at a';exact a'.elim
          | ok r s4=>
            simp only [ee] at a'
            intro yv H4 c4
            cases ek:take s4 r with
            |none=>simp only [ek] at a';exact a'.elim
            | some q=>
              obtain ⟨d,s5⟩:=q
              simp only [ek] at a'
              by_cases hf:fitsB (acc.length+1)=true
              · rw [if_pos hf] at a'
                have c5:=c4.take ek
                obtain ⟨l2,hl2,_⟩:=part a'
                obtain ⟨t,ed,el⟩:=ded_snoc hdd hl2
                subst ed
                obtain ⟨ρ,M,cp⟩:=c5.parts
                have ey:yv= .str t:=c5.peek (r:=.own (.fz (.str t))) (d:=.str t) (by simp) rfl cp
                refine ⟨t,ey,by rw [show scanBound=4096 from rfl];omega,acc++[.str t],⟨wipeO s5.σ vs,s5.h⟩,by rw [hl2,el], ?_,a'⟩
                have:=c5.drop.wipe nΨ vs
                rw [ew] at this
                exact this
              · rw [if_neg hf] at a'
                exact a'.elim
  · have e:i=ds.length:=by omega
    obtain ⟨l0,hl0,hl64⟩:=part a
    have el0:l0=l:=by rw [hdd] at hl0;cases hl0;rfl
    subst el0
    subst e
    have a':Fin [] acc s:=by have:=a;rw [List.drop_length] at this;exact this
    refine .inl ⟨w3,fun Dd hD=>⟨Dd,l0,rfl,upd_same,hl64,fun p hp=>?_⟩⟩
    have a2:Aft G W σ Φ (PV G σ Φ Q) (stsO s s1.σ vs acc):=a'
    simp only [stsO,hdd,if_pos hl64] at a2
    refine a2 (.ref p) _ ?_
    obtain ⟨p2,ok2⟩:=back s.σ c.sl
    refine ⟨ok2,fun j v z=>?_, ?_⟩
    · rcases List.mem_cons.mp z with z|z
      · cases z
      · exact bo j v z
    · have cf:Cf G H s.h (slp s.σ (L2.wipe σ vs)++ow Ψ):=c.cf
      have cf2:Cf G H s.h (ow K++(slp (rst s.σ s1.σ vs) σ++ow Φ)):=cf.perm (by
        simp only [Ψ,ow_append,ow_ownR]
        refine (List.perm_append_comm_assoc _ _ _).trans (List.Perm.append_left _ ?_)
        rw [←List.append_assoc]
        exact p2.symm.append_right _)
      have cf3:Cf G H s.h (slp (rst s.σ s1.σ vs) σ++ow Φ):=Cf.dropN cf2
      have cf4:Cf G (upd H Dd (TxtO P wd Dd l0)) s.h (slp (rst s.σ s1.σ vs) σ++ow Φ):=cf3.alloc hD
      obtain ⟨ρ,M,cp⟩:=cf4
      have cf5:Cf G (upd H Dd (TxtO P wd Dd l0)) s.h (Fz ((sortS l0).map .str) ((sortS l0).map V.str)++(slp (rst s.σ s1.σ vs) σ++ow Φ)):=(Cf.fz (by simp)).mpr ⟨ρ,M,cp,reps_str _⟩
      exact (Cf.newLst (by simp) cf5 hp).perm List.perm_middle.symm
theorem e_sts (g:Good G k call cc W X) {elt tg it:Expr} {ifs:List Expr} {scope:Scope} {own:List (Str×Nat)} {p pos pos2:Pos} {m:Iv} {t:Tg} {mt:B} {me:E} (hi:PI X tg it (tI G W call m)) (ok:BlkOk cc.N cc.sc scope own)
    (hg: ∀ (s:Shared) (H:Hp) (C:Addr) (cl:List (Str×Addr)) (fp:List Addr),PG (X.blk s H scope (compEnvC scope cl C X.env) fp) tg (tGA G (own.map (·.2)) t))
    (ht: ∀ (s:Shared) (H:Hp) (C:Addr) (cl:List (Str×Addr)) (fp:List Addr),PTs (X.blk s H scope (compEnvC scope cl C X.env) fp) ifs (tB_ G noW call mt))
    (he: ∀ (s:Shared) (H:Hp) (C:Addr) (cl:List (Str×Addr)) (fp:List Addr),PE (X.blk s H scope (compEnvC scope cl C X.env) fp) elt (tE G noW call me)) (hs: ∀ x,foldedSetIterable it X.env x=pure x) (hgl:cc.sc.names.lookup ("sorted":Str)=some .globalImplicit):
    PE X (.Call (.Name "sorted" p) [.SetComp elt [⟨tg,it,ifs,0⟩] scope pos] [] pos2) (tE G W call (mSts m t mt me (own.map (·.2)))):=by
  refine (pe_callB (b_sortedT g.calm) (g.gl hgl) (g.blt "sorted" (by decide)) (by decide+kernel) (pa_cons (e_txt g.calm (by rw [g.N];exact g.nd) hi (by rw [g.N,g.sc];exact ok) hg ht he hs) pa_nil (star_cons rfl)) (by decide) (by decide) (star_cons rfl) (star_any rfl)).of fun σ H Q q=>?_
  obtain ⟨s,Φ,c,q⟩:=q
  exact ⟨s,Φ,c,(Aft.bind q).mono fun ds s1 a1=>fun K J H1 nk c1 w=>st_walk nk c.bo w c1 a1⟩
end
end Mi
namespace Mi
open PySem PySem.Spec PyProof.Rows L2
def tkD:D→Bool
  | .tup ds=>kfDs 7 ds
  |_=>false
def valT (ks xs:List D) (k:D):Option D:=((ks.zip xs).find? fun p=>decide (nkD p.1=nkD k)).map (·.2)
def putT (ks xs:List D) (k d:D):List D×List D:=if (ks.any fun g=>decide (nkD g=nkD k))=true then (ks,List.zipWith (fun g x=>if nkD g=nkD k then d else x) ks xs) else (ks++[k],xs++[d])
abbrev T3:=NestedKey×Addr×V
def putP (ps:List T3) (k:NestedKey) (b:Addr) (v:V):List T3:=if (ps.any fun p=>decide (p.1=k))=true then ps.map (fun p=>if p.1=k then (p.1,p.2.1,v) else p) else ps++[(k,b,v)]
abbrev PR3 (p:T3) (q:NestedKey×Addr×Value):Prop:=p.1=q.1∧p.2.1=q.2.1∧RelV p.2.2 q.2.2
mutual
theorem kf_depth: ∀ (n:Nat) (d:D),kfD n d=true→(nkD d).depth≤n
  |n,.non,_=>Nat.zero_le _
  |n,.bl _,_=>Nat.zero_le _
  |n,.int _,_=>Nat.zero_le _
  |n,.str _,_=>Nat.zero_le _
  | n+1,.tup ds,h=>by
    show NestedKey.depthAll (nkDs ds)+1≤n+1
    exact Nat.succ_le_succ (kfs_depth n ds h)
  |0,.tup ds,h=>by cases h
  |n,.lst _,h=>by cases n<;>cases h
  |n,.dic _ _,h=>by cases n<;>cases h
  |n,.ins _ _ _,h=>by cases n<;>cases h
  |n,.dct _ _,h=>by cases n<;>cases h
  |n,.loc _,h=>by cases n<;>cases h
  |n,.fn _,h=>by cases n<;>cases h
  |n,.scr _,h=>by cases n<;>cases h
  |n,.ty _,h=>by cases n<;>cases h
  |n,.cls _,h=>by cases n<;>cases h
  |n,.xn _ _ _,h=>by cases n<;>cases h
  |n,.lk _ _,h=>by cases n<;>cases h
theorem kfs_depth: ∀ (n:Nat) (ds:List D),kfDs n ds=true→NestedKey.depthAll (nkDs ds)≤n
  |n,[],_=>Nat.zero_le _
  | n,d::ds,h=>by
    have z:(kfD n d&&kfDs n ds)=true:=by cases n<;>exact h
    obtain ⟨h1,h2⟩:=Bool.and_eq_true_iff.mp z
    show max (nkD d).depth (NestedKey.depthAll (nkDs ds))≤n
    exact Nat.max_le.mpr ⟨kf_depth n d h1,kfs_depth n ds h2⟩
end
theorem kfs_cons {n:Nat} {d:D} {ds:List D} (h:kfDs n (d::ds)=true):kfD n d=true∧kfDs n ds=true:=by
  have z:(kfD n d&&kfDs n ds)=true:=by cases n<;>exact h
  exact Bool.and_eq_true_iff.mp z
theorem kfs_app {n:Nat}: ∀ {ds:List D} {d:D},kfDs n ds=true→kfD n d=true→kfDs n (ds++[d])=true
  | [],d,_,h=>by
    have:kfDs n [d]=(kfD n d&&kfDs n []):=by cases n<;>rfl
    rw [List.nil_append,this,h];cases n<;>rfl
  | x::ds,d,h,hd=>by
    obtain ⟨h1,h2⟩:=kfs_cons h
    have:kfDs n (x::(ds++[d]))=(kfD n x&&kfDs n (ds++[d])):=by cases n<;>rfl
    rw [List.cons_append,this,h1,kfs_app h2 hd];rfl
section
variable {G:GE} {ρ:List Addr} {H:Hp} {M:List Addr} {X:Cx} {pins:List (Addr×Obj)} {σ:L2.St} {s:Shared}
mutual
theorem rep_nest (I:Inv X pins σ H s) (hK:X.K=G.K): ∀ (n:Nat) (d:D) (v:V) (u:Value),kfD n d=true→RepD G ρ H M d v→RelV v u→NestedIs s.heap (nkD d) u
  | n,.non,v,u,_,h,r=>by
    obtain rfl:v= .non:=h
    obtain rfl:u= .none:=r
    exact .none
  | n,.bl b,v,u,_,h,r=>by
    obtain rfl:v= .bl b:=h
    obtain rfl:u= .bool b:=r
    exact .bool rfl
  | n,.int i,v,u,_,h,r=>by
    obtain rfl:v= .int i:=h
    obtain ⟨t,rfl⟩: ∃ t,u=Value.int i t:=r
    exact .int i t
  | n,.str x,v,u,_,h,r=>by
    obtain rfl:v= .str x:=h
    obtain ⟨t,rfl⟩: ∃ t,u=Value.str x t:=r
    exact .text x t
  | n+1,.tup ds,v,u,hk,h,r=>by
    obtain ⟨a,vs,rfl,t,rd⟩:=h
    obtain rfl:u=Value.ref a:=r
    have sq:=t.sq
    rw [←hK] at sq
    obtain ⟨its,rv,⟨o,h1,h2,m,h3⟩,_⟩:=I.tuple sq
    exact .tup h1 h2 h3 (by rw [List.toList_toArray];exact reps_nest I hK n ds vs its hk rd rv)
  |0,.tup ds,v,u,hk,h,r=>by cases hk
  |n,.lst _,_,_,h,_,_=>by cases n<;>cases h
  |n,.dic _ _,_,_,h,_,_=>by cases n<;>cases h
  |n,.ins _ _ _,_,_,h,_,_=>by cases n<;>cases h
  |n,.dct _ _,_,_,h,_,_=>by cases n<;>cases h
  |n,.loc _,_,_,h,_,_=>by cases n<;>cases h
  |n,.fn _,_,_,h,_,_=>by cases n<;>cases h
  |n,.scr _,_,_,h,_,_=>by cases n<;>cases h
  |n,.ty _,_,_,h,_,_=>by cases n<;>cases h
  |n,.cls _,_,_,h,_,_=>by cases n<;>cases h
  |n,.xn _ _ _,_,_,h,_,_=>by cases n<;>cases h
  |n,.lk _ _,_,_,h,_,_=>by cases n<;>cases h
theorem reps_nest (I:Inv X pins σ H s) (hK:X.K=G.K): ∀ (n:Nat) (ds:List D) (vs:List V) (us:List Value),kfDs n ds=true→RepDs G ρ H M ds vs→Vals vs us→NestedAll s.heap (nkDs ds) us
  | n,[],vs,us,_,h,r=>by
    obtain rfl:vs=[]:=h
    cases r
    exact .nil
  | n,d::ds,vs,us,hk,h,r=>by
    obtain ⟨v,r',rfl,h1,h2⟩:=h
    obtain ⟨k1,k2⟩:=kfs_cons hk
    cases r with
    |cons r1 r2=>exact .cons (rep_nest I hK n d v _ k1 h1 r1) (reps_nest I hK n ds r' _ k2 h2 r2)
end
theorem key_is (I:Inv X pins σ H s) (hK:X.K=G.K) {d:D} {v:V} (hk:tkD d=true) (h:RepD G ρ H M d v): ∃ b,v= .ref b∧(nestedKind X.prog X.w).is s.heap (nkD d) b:=by
  cases d with
  | tup ds=>
    have k8:kfD 8 (.tup ds)=true:=hk
    obtain ⟨a,vs,e,t,rd⟩:=id h
    exact ⟨a,e,rep_nest I hK 8 (.tup ds) v (.ref a) k8 h (by rw [e];rfl),kf_depth 8 _ k8⟩
  |_=>all_goals cases hk
theorem tk_tup {d:D} {v:V} (hk:tkD d=true) (r:RepT G ρ H M d v):RepD G ρ H M d v:=by
  cases d with
  |tup ds=>exact r
  |_=>all_goals cases hk
def TV (G:GE) (H:Hp) (a:Addr) (ks:List D) (bs:List Addr) (vs:List V):Prop:=Rd H a (DtO G.w a (zip3 ks bs vs))∨(ks=[]∧bs=[]∧vs=[]∧Rd H a (.dK []))
theorem nks_len: ∀ (ds:List D),(nkDs ds).length=ds.length
  |[]=>rfl
  |d::ds=>by show (nkDs ds).length+1=_;rw [nks_len ds];rfl
theorem zip3_cons {k:D} {ks:List D} {b:Addr} {bs:List Addr} {v:V} {vs:List V}:zip3 (k::ks) (b::bs) (v::vs)=(nkD k,b,v)::zip3 ks bs vs:=rfl
theorem is_all (I:Inv X pins σ H s) (hK:X.K=G.K): ∀ {ks:List D} {bs:List Addr} {vs:List V} {xs:List (NestedKey×Addr×Value)},kfDs 8 ks=true→RepDs G ρ H M ks (bs.map V.ref)→ks.length=vs.length→Paired PR3 (zip3 ks bs vs) xs→∀ x∈xs,(nestedKind X.prog X.w).is s.heap x.1 x.2.1
  | [],bs,vs,xs,_,_,_,p=>by
    have:zip3 [] bs vs=[]:=rfl
    rw [this] at p
    cases p
    intro x hx;cases hx
  | k ::ks,bs,vs,xs,hk,r,l,p=>by
    obtain ⟨v,r',e,h1,h2⟩:=r
    cases bs with
    |nil=>cases e
    | cons b bs=>
      cases vs with
      |nil=>simp at l
      | cons w vs=>
        rw [List.map_cons] at e
        injection e with e1 e2
        subst e1;subst e2
        rw [zip3_cons] at p
        obtain ⟨k1,k2⟩:=kfs_cons hk
        cases p with
        | cons p1 p2=>
          intro x hx
          rcases List.mem_cons.mp hx with z|z
          · subst z
            rw [←p1.1,←p1.2.1]
            exact ⟨rep_nest I hK 8 k _ _ k1 h1 rfl,kf_depth 8 k k1⟩
          · exact is_all I hK k2 h2 (by simpa using l) p2 x z
theorem dt_at (I:Inv X pins σ H s) (hK:X.K=G.K) (hw:X.w=G.w) {a:Addr} {ks:List D} {bs:List Addr} {vs:List V} (t:TV G H a ks bs vs) (fk:kfDs 8 ks=true) (rk:RepDs G ρ H M ks (bs.map V.ref)) (l:ks.length=vs.length):
    ∃ xs,Paired PR3 (zip3 ks bs vs) xs∧s.heap.DictOfH (nestedKind X.prog X.w) a xs∧(a==sysModules)=false∧(zip3 ks bs vs).length≤sizeLine:=by
  rcases t with t|⟨rfl,rfl,rfl,t⟩
  · obtain ⟨⟨xs,pr,hs,hz,o,es,ep,h1,h2,h3,h4,h5⟩,_⟩:ObjOk X.prog X.w H s.heap a (DtO G.w a (zip3 ks bs vs)):=t.ok I.hok
    refine ⟨xs,pr,⟨o,es,ep,h1,h2,h3, ?_,is_all I hK fk rk l pr,h5⟩,hs,hz⟩
    rw [h4,←hw]
    rfl
  · obtain ⟨z,hs,us,rel,o,es,ep,h1,h2,h3,h4,h5,h6⟩:=(show ObjOk X.prog X.w H s.heap a (.dK []) from t.ok I.hok)
    cases rel
    refine ⟨[],.nil,⟨o,es,ep,h1,h2,h3, ?_,fun x hx=>(nomatch hx),List.nodup_nil⟩,hs,Nat.zero_le _⟩
    generalize hes:es.toList=el at h5 ⊢
    cases h5
    rfl
theorem room8 {A:Around} (h:A.units+64<cLine):A.in1.units+8<cLine:=by
  show A.units+1+8<cLine
  omega
theorem val_atT: ∀ {ks:List D} {bs:List Addr} {vs:List V} {ds:List D} {xs:List (NestedKey×Addr×Value)} {k:D},ks.length=vs.length→RepDs G ρ H M ks (bs.map V.ref)→RepDs G ρ H M ds vs→Paired PR3 (zip3 ks bs vs) xs→
    (∀ d,valT ks ds k=some d→∃ p v,atKey xs (nkD k)=some p∧RelV v p.2∧RepD G ρ H M d v)∧(atKey xs (nkD k)).isSome=(valT ks ds k).isSome
  | [],bs,vs,ds,xs,k,_,_,_,p=>by
    have:zip3 [] bs vs=[]:=rfl
    rw [this] at p
    cases p
    exact ⟨fun d e=>by simp [valT] at e,rfl⟩
  | g ::ks,bs,vs,ds,xs,k,l,rk,rd,p=>by
    obtain ⟨v0,r',e,h1,h2⟩:=rk
    cases bs with
    |nil=>cases e
    | cons b bs=>
      cases vs with
      |nil=>simp at l
      | cons w vs=>
        cases ds with
        |nil=>cases rd
        | cons d0 ds=>
          rw [List.map_cons] at e
          injection e with e1 e2
          subst e1;subst e2
          obtain ⟨v1,us,e3,r1,r2⟩:=rd
          cases e3
          rw [zip3_cons] at p
          cases p with
          | @cons _ q _ xs p1 p2=>
            have ih:=val_atT (k:=k) (by simpa using l) h2 r2 p2
            by_cases hg:nkD g=nkD k
            · have z1:valT (g::ks) (d0::ds) k=some d0:=by simp [valT,List.find?_cons,hg]
              have z2:atKey (q::xs) (nkD k)=some q.2:=by simp [atKey,List.find?_cons,←p1.1,hg]
              rw [z1,z2]
              exact ⟨fun d e=>by cases e;exact ⟨q.2,w,rfl,p1.2.2,r1⟩,rfl⟩
            · have z1:valT (g::ks) (d0::ds) k=valT ks ds k:=by simp [valT,List.find?_cons,hg]
              have hq: ¬q.1=nkD k:=by rw [←p1.1];exact hg
              have z2:atKey (q::xs) (nkD k)=atKey xs (nkD k):=by simp [atKey,List.find?_cons,hq]
              rw [z1,z2]
              exact ih
end
section
variable {G:GE} {k:Nat} {call:Call} {cc:CC} {W:WX} {X:Cx}
def asT:D→Option (List D×List D)
  | .dct ks xs=>some (ks,xs)
  | .dic [] []=>some ([],[])
  |_=>none
theorem asT_rep {ρ:List Addr} {H:Hp} {M:List Addr} {d:D} {v:V} {ks xs:List D} (e:asT d=some (ks,xs)) (r:RepT G ρ H M d v):
    ∃ a bs vs,v= .ref a∧TV G H a ks bs vs∧ks.length=vs.length∧kfDs 8 ks=true∧RepDs G ρ H M ks (bs.map V.ref)∧RepDs G ρ H M xs vs:=by
  unfold asT at e
  split at e
  · cases e
    obtain ⟨a,bs,vs,ev,t,l,fk,rk,rd⟩:=r
    exact ⟨a,bs,vs,ev,.inl t,l,fk,rk,rd⟩
  · cases e
    obtain ⟨a,vs,ev,t,l,rd⟩:=r
    have:vs=[]:=List.length_eq_zero_iff.mp l.symm
    subst this
    exact ⟨a,[],[],ev,.inr ⟨rfl,rfl,rfl,t⟩,rfl,rfl,rfl,rfl⟩
  · cases e
def tAt (d i:D):Option O:=(asT d).bind fun p=>if tkD i then (valT p.1 p.2 i).map .fz else none
def tIn (i d:D):Option O:=(asT d).bind fun p=>if tkD i then some (.fz (.bl (valT p.1 p.2 i).isSome)) else none
def tNotIn (i d:D):Option O:=(asT d).bind fun p=>if tkD i then some (.fz (.bl (!(valT p.1 p.2 i).isSome))) else none
theorem o_tin (g:GoodB G cc X):OpR X (compareOp .In) (r2 G tIn):=by
  intro pins s σ H x y v u Q I rx ry h
  obtain ⟨ρ,M,h0,L,d1,d2,o,cp,t1,t2,e,q⟩:=h
  simp only [tIn,Option.bind_eq_some_iff] at e
  obtain ⟨⟨ks,xs⟩,ea,e⟩:=e
  split at e
  · rename_i hk
    cases e
    obtain ⟨a,bs,vs,rfl,tv,l,fk,rk,rd⟩:=asT_rep ea t2
    obtain rfl:u=Value.ref a:=ry
    obtain ⟨b,rfl,hi⟩:=key_is I g.K hk (tk_tup hk t1)
    obtain rfl:v=Value.ref b:=rx
    obtain ⟨ps,pr,dd,hs,_⟩:=dt_at I g.K g.wd tv fk rk l
    refine wpAny_in_heap (knd:=nestedKind X.prog X.w) (room8 g.units) hi hs dd ⟨.bl (atKey ps (nkD d1)).isSome,H,I.tok _,rfl, ?_⟩
    rw [(val_atT (k:=d1) l rk rd pr).2]
    exact q _ H (cp.bl _)
  · cases e
theorem o_tnotin (g:GoodB G cc X):OpR X (compareOp .NotIn) (r2 G tNotIn):=by
  intro pins s σ H x y v u Q I rx ry h
  obtain ⟨ρ,M,h0,L,d1,d2,o,cp,t1,t2,e,q⟩:=h
  simp only [tNotIn,Option.bind_eq_some_iff] at e
  obtain ⟨⟨ks,xs⟩,ea,e⟩:=e
  split at e
  · rename_i hk
    cases e
    obtain ⟨a,bs,vs,rfl,tv,l,fk,rk,rd⟩:=asT_rep ea t2
    obtain rfl:u=Value.ref a:=ry
    obtain ⟨b,rfl,hi⟩:=key_is I g.K hk (tk_tup hk t1)
    obtain rfl:v=Value.ref b:=rx
    obtain ⟨ps,pr,dd,hs,_⟩:=dt_at I g.K g.wd tv fk rk l
    refine wpAny_notIn_heap (knd:=nestedKind X.prog X.w) (room8 g.units) hi hs dd ⟨.bl (!(atKey ps (nkD d1)).isSome),H,I.tok _,rfl, ?_⟩
    rw [(val_atT (k:=d1) l rk rd pr).2]
    exact q _ H (cp.bl _)
  · cases e
theorem o_tat (g:GoodB G cc X):IxR X (r2 G tAt):=by
  intro value slice pins s σ H x y v u Q I rx ry h hs
  obtain ⟨ρ,M,h0,L,d1,d2,o,cp,t1,t2,e,q⟩:=h
  simp only [tAt,Option.bind_eq_some_iff] at e
  obtain ⟨⟨ks,xs⟩,ea,e⟩:=e
  split at e
  · rename_i hk
    simp only [Option.map_eq_some_iff] at e
    obtain ⟨d,ed,eo⟩:=e
    subst eo
    obtain ⟨a,bs,vs,rfl,tv,l,fk,rk,rd⟩:=asT_rep ea t1
    obtain rfl:v=Value.ref a:=rx
    obtain ⟨b,rfl,hi⟩:=key_is I g.K hk (tk_tup hk t2)
    obtain rfl:u=Value.ref b:=ry
    obtain ⟨ps,pr,dd,hsm,_⟩:=dt_at I g.K g.wd tv fk rk l
    obtain ⟨p,w,ep,rw',rq⟩:=(val_atT (k:=d2) l rk rd pr).1 d ed
    have hT:=dd.typeIs
    unfold subscriptTail
    refine wpAny_bind ?_
    rw [getitemInPython_of_ne hT.not_modules]
    refine wpAny_bind (wpAny_specialOf hT PySem.F.slot_dict_getitem.lookup ?_)
    have go:wpAny (model X.prog X.w) X.A (subscripted slice false (.ref a) (.ref b)) (fun r s3=>wpAny (model X.prog X.w) X.A (letTemporaryGo value (.ref a) r >>= fun _=>pure r) (EP X pins σ Q) X.xe s3) X.xe s:=by
      rw [hs]
      refine wpAny_operating (wpAny_getItem_heap (knd:=nestedKind X.prog X.w) (room8 g.units) hi dd ep ?_)
      exact wpAny_bind (wpAny_letTemporaryGo (wpAny_pure (show EP X pins σ Q _ _ from ⟨w,H,I.tok _,rw',q w H (Cf.fz1.mpr ⟨ρ,M,cp,rq⟩)⟩)))
    first
      |exact wpAny_pure (wpAny_bind go)
      |exact wpAny_bind (wpAny_pure (wpAny_bind go))
      |exact wpAny_bind go
  · cases e
end
end Mi
namespace Mi
open PySem PySem.Spec PyProof.Rows L2
section
variable {G:GE} {ρ:List Addr} {H:Hp} {M:List Addr}
theorem putT_of {ks:List D} {bs:List Addr} {vs:List V} {xs:List D} {k d:D} {b:Addr} {v:V} (lk:ks.length=bs.length) (l:ks.length=vs.length) (rk:RepDs G ρ H M ks (bs.map V.ref)) (rd:RepDs G ρ H M xs vs) (hk:RepD G ρ H M k (.ref b)) (hd:RepD G ρ H M d v):
    ∃ bs' vs',putP (zip3 ks bs vs) (nkD k) b v=zip3 (putT ks xs k d).1 bs' vs'∧(putT ks xs k d).1.length=vs'.length∧RepDs G ρ H M (putT ks xs k d).1 (bs'.map V.ref)∧RepDs G ρ H M (putT ks xs k d).2 vs':=by
  have hany:((zip3 ks bs vs).any fun p=>decide (p.1=nkD k))=(ks.any fun g=>decide (nkD g=nkD k)):=by
    clear rk rd hk hd
    induction ks generalizing bs vs with
    |nil=>rfl
    | cons g ks ih=>
      cases vs with
      |nil=>simp at l
      | cons w vs=>
        cases bs with
        |nil=>simp at lk
        |cons b0 bs=>rw [zip3_cons];simp only [List.any_cons];rw [ih (by simpa using lk) (by simpa using l)]
  by_cases h:(ks.any fun g=>decide (nkD g=nkD k))=true
  · refine ⟨bs,List.zipWith (fun g w=>if nkD g=nkD k then v else w) ks vs, ?_, ?_, ?_, ?_⟩
    · simp only [putP,hany,h,if_true,putT]
      clear rk rd hk hd hany h
      induction ks generalizing bs vs with
      |nil=>rfl
      | cons g ks ih=>
        cases vs with
        |nil=>simp at l
        | cons w vs=>
          cases bs with
          |nil=>simp at lk
          | cons b0 bs=>
            rw [List.zipWith_cons_cons,zip3_cons,zip3_cons,List.map_cons,ih (by simpa using lk) (by simpa using l)]
            by_cases hg:nkD g=nkD k<;>simp [hg]
    · simp [putT,h,l]
    · simp only [putT,h,if_true];exact rk
    · simp only [putT,h,if_true]
      clear rk hk hany h lk
      induction ks generalizing xs vs with
      |nil=>rfl
      | cons g ks ih=>
        cases vs with
        |nil=>simp at l
        | cons w vs=>
          cases xs with
          |nil=>cases rd
          | cons x xs=>
            obtain ⟨v',us,e,r1,r2⟩:=rd
            cases e
            refine ⟨if nkD g=nkD k then v else w,List.zipWith (fun g w=>if nkD g=nkD k then v else w) ks vs,rfl, ?_,ih (by simpa using l) r2⟩
            by_cases hg:nkD g=nkD k
            · simp only [hg,if_true];exact hd
            · simp only [hg,if_false];exact r1
  · refine ⟨bs++[b],vs++[v], ?_, ?_, ?_, ?_⟩
    · simp only [putP,hany,h,putT,if_false,Bool.false_eq_true]
      clear rk rd hk hd hany h
      induction ks generalizing bs vs with
      | nil=>
        have e1:bs=[]:=List.length_eq_zero_iff.mp lk.symm
        have e2:vs=[]:=List.length_eq_zero_iff.mp l.symm
        subst e1;subst e2;rfl
      | cons g ks ih=>
        cases vs with
        |nil=>simp at l
        | cons w vs=>
          cases bs with
          |nil=>simp at lk
          | cons b0 bs=>
            rw [List.cons_append,List.cons_append,List.cons_append,zip3_cons,zip3_cons,List.cons_append,ih (by simpa using lk) (by simpa using l)]
    · simp [putT,h,l]
    · simp only [putT,h,if_false];rw [List.map_append];exact rk.append (.one hk)
    · simp only [putT,h,if_false];exact rd.append (.one hd)
theorem putT_kf {ks xs:List D} {k d:D} (h:kfDs 8 ks=true) (hk:tkD k=true):kfDs 8 (putT ks xs k d).1=true:=by
  unfold putT
  split
  · exact h
  · refine kfs_app h ?_
    cases k with
    |tup ds=>exact hk
    |_=>all_goals cases hk
end
section
variable {X:Cx} {pins:List (Addr×Obj)} {σ:L2.St} {H:Hp} {s:Shared}
theorem paired_put: ∀ {ps:List T3} {xs:List (NestedKey×Addr×Value)} {k:NestedKey} {b:Addr} {v:V} {r:Value},Paired PR3 ps xs→RelV v r→Paired PR3 (putP ps k b v) (storedH xs k b r):=by
  intro ps xs k b v r p rv
  have hany:(ps.any fun p=>decide (p.1=k))=(atKey xs k).isSome:=by
    induction p with
    |nil=>rfl
    | @cons p q ps xs p1 p2 ih=>
      by_cases hq:q.1=k
      · simp [atKey,List.find?_cons,hq,p1.1]
      · have e2:atKey (q::xs) k=atKey xs k:=by simp [atKey,List.find?_cons,hq]
        have hp: ¬p.1=k:=by rw [p1.1];exact hq
        rw [e2,←ih]
        simp [hp]
  unfold putP storedH
  rw [hany]
  by_cases h:(atKey xs k).isSome=true
  · rw [if_pos h,if_pos h]
    clear hany h
    induction p with
    |nil=>exact .nil
    | @cons p q ps xs p1 p2 ih=>
      refine .cons ?_ ih
      by_cases hq:q.1=k
      · have hp:p.1=k:=by rw [p1.1];exact hq
        simp only [putAt,hq,hp,if_true]
        exact ⟨rfl,p1.2.1,rv⟩
      · have hp: ¬p.1=k:=by rw [p1.1];exact hq
        simp only [putAt,hq,hp,if_false]
        exact p1
  · rw [if_neg h,if_neg h]
    clear hany h
    induction p with
    |nil=>exact .cons ⟨rfl,rfl,rv⟩ .nil
    |cons p1 p2 ih=>exact .cons p1 ih
theorem put_len {ps:List T3} {k:NestedKey} {b:Addr} {v:V}:(putP ps k b v).length≤ps.length+1:=by
  unfold putP
  split<;>simp
theorem t_setItem {G:GE} {ρ M:List Addr} {A:Around} {E:Value→Shared→Prop} {Q:Unit→Shared→Prop} {a b:Addr} {ks:List D} {bs:List Addr} {vs:List V} {d:D} {v:V} {r:Value} (hu:A.units+64<cLine) (I:Inv X pins σ H s) (hK:X.K=G.K) (hw:X.w=G.w) (t:TV G H a ks bs vs) (mu:Mut (H a)) (fk:kfDs 8 ks=true) (rk:RepDs G ρ H M ks (bs.map V.ref)) (l:ks.length=vs.length)
    (hk:tkD d=true) (rd:RepD G ρ H M d (.ref b)) (rv:RelV v r) (hz:(zip3 ks bs vs).length<sizeLine) (h: ∀ s',Inv X pins σ (upd H a (DtO G.w a (putP (zip3 ks bs vs) (nkD d) b v))) s'→Q () s'):
    wpAny (model X.prog X.w) A (setItem (.ref a) (.ref b) r) Q E s:=by
  obtain ⟨b',eb,hi⟩:=key_is I hK hk rd
  cases eb
  obtain ⟨xs,pr,dd,hs,_⟩:=dt_at I hK hw t fk rk l
  have hxl:xs.length≤sizeLine:=by rw [←Paired.length pr];omega
  refine wpAny_setItem_heap (knd:=nestedKind X.prog X.w) (hsz:=hxl) (room8 hu) hi dd fun h' dd' sb=>h _ ?_
  obtain ⟨o,es,ep,h1,h2,h3,h4,_,h5⟩:=dd'
  refine d_write I mu sb ⟨o,h1⟩ ⟨?_,⟨o,h1⟩,fun g1 g2 p k=>?_⟩
  · refine ⟨_,paired_put (k:=nkD d) (b:=b) pr rv,hs, ?_,o,es,ep,h1,h2,h3, ?_,h5⟩
    · have:=put_len (ps:=zip3 ks bs vs) (k:=nkD d) (b:=b) (v:=v);omega
    · rw [h4,←hw];rfl
  · obtain ⟨xs',p1,p2,p3,o',es',ep',q1,q2⟩:=p
    exact ⟨xs',p1,p2,p3,o',es',ep',k _ q1,q2⟩
end
section
variable {G:GE} {k:Nat} {call:Call} {cc:CC} {W:WX} {X:Cx}
def mutTO (kd d:D):O→Option O
  | .dct ks xs=>if fitsB ks.length then some (.dct (putT ks xs kd d).1 (putT ks xs kd d).2) else none
  | .dic [] []=>some (.dct [kd] [d])
  |_=>none
def mutTD (h:List O) (kd d:D):D→Option (List O)
  | .loc n=>(h[n]?).bind fun o=>(mutTO kd d o).map fun o'=>h.set n o'
  |_=>none
def mutT (s:S) (kd d:D):R→Option S
  | .own (.fz dd)=>(mutTD s.h kd d dd).map fun h=>⟨s.σ,h⟩
  | .own _=>none
  | .bor i=>match s.σ[i]? with
    |some (some (.fz dd))=>(mutTD s.h kd d dd).map fun h=>⟨s.σ,h⟩
    |some (some o)=>(mutTO kd d o).map fun o'=>⟨s.σ.set i (some o'),s.h⟩
    |_=>none
theorem own_mutT {o o':O} {kd d:D} (e:mutTO kd d o=some o') (hk:tkD kd=true) {ρ:List Addr} {H:Hp} {M F:List Addr} {v:V} (w:Own G ρ H M o v F):
    (∀ d,o≠.fz d)∧∃ p ks bs vs xs,v= .ref p∧F=[p]∧TV G H p ks bs vs∧Mut (H p)∧kfDs 8 ks=true∧ks.length=vs.length∧RepDs G ρ H M ks (bs.map V.ref)∧RepDs G ρ H M xs vs∧(zip3 ks bs vs).length<sizeLine∧
      ∀ (ρ':List Addr) (H':Hp) (M':List Addr) (b:Addr) (yv:V),RepDs G ρ' H' M' ks (bs.map V.ref)→RepDs G ρ' H' M' xs vs→RepD G ρ' H' M' kd (.ref b)→RepD G ρ' H' M' d yv→H' p=some (DtO G.w p (putP (zip3 ks bs vs) (nkD kd) b yv))→Own G ρ' H' M' o' (.ref p) [p]:=by
  have hz: ∀ {ks:List D} {bs:List Addr} {vs:List V},fitsB ks.length=true→(zip3 ks bs vs).length<sizeLine:=fun {ks bs vs} h=>by
    have h1:=of_decide_eq_true h
    have h2:(100001:Nat)≤sizeLine:=by rw [sizeLine_eq];decide
    unfold zip3
    rw [List.length_zip,nks_len]
    omega
  unfold mutTO at e
  split at e
  · rename_i ks xs
    split at e
    · rename_i hf
      cases e
      obtain ⟨a,bs,vs,ev,t,l,fk,rk,rd,f⟩:=w
      refine ⟨fun d z=>(nomatch z),a,ks,bs,vs,xs,ev,f,.inl (.inl t),by rw [t];exact True.intro,fk,l,rk,rd,hz hf,fun ρ' H' M' b yv rk' rd' rb ry hH=>?_⟩
      have lk:ks.length=bs.length:=by have:=rk'.length;simpa using this
      obtain ⟨bs',vs',z1,z2,z3,z4⟩:=putT_of lk l rk' rd' rb ry
      exact ⟨a,bs',vs',rfl,by rw [hH,z1],z2,putT_kf fk hk,z3,z4,rfl⟩
    · cases e
  · cases e
    obtain ⟨a,vs,ev,t,l,rd,f⟩:=w
    have:vs=[]:=List.length_eq_zero_iff.mp l.symm
    subst this
    refine ⟨fun d z=>(nomatch z),a,[],[],[],[],ev,f,.inr ⟨rfl,rfl,rfl,.inl t⟩,by rw [t];exact True.intro,rfl,rfl,rfl,rfl,by rw [sizeLine_eq];decide,fun ρ' H' M' b yv rk' rd' rb ry hH=>?_⟩
    refine ⟨a,[b],[yv],rfl,hH,rfl, ?_,.one rb,.one ry,rfl⟩
    exact putT_kf (ks:=[]) (xs:=[]) (d:=d) rfl hk
  · cases e
theorem CfS.mutateT {σr:Sr} {H:Hp} {s s':S} {Φ:List (R×V)} {kd:D} {r:R} {v:V} {d:D} {b:Addr} {yv:V} (hk:tkD kd=true) (c:CfS G σr H s ((r,v)::(.own (.fz kd),.ref b)::(.own (.fz d),yv)::Φ)) (e:mutT s kd d r=some s'):
    ∃ p ks bs vs ρ M,v= .ref p∧TV G H p ks bs vs∧Mut (H p)∧kfDs 8 ks=true∧RepDs G ρ H M ks (bs.map V.ref)∧ks.length=vs.length∧RepD G ρ H M kd (.ref b)∧(zip3 ks bs vs).length<sizeLine∧CfS G σr (upd H p (DtO G.w p (putP (zip3 ks bs vs) (nkD kd) b yv))) s' Φ:=by
  have bo: ∀ i w,(R.bor i,w)∈Φ→σr[i]?=some (some w):=fun i w q=>c.bo i w (List.mem_cons_of_mem _ (List.mem_cons_of_mem _ (List.mem_cons_of_mem _ q)))
  have split3: ∀ {ρ:List Addr} {H':Hp} {M:List Addr} {ks xs:List D} {us vs:List V},ks.length=us.length→RepDs G ρ H' M (ks++([kd]++(xs++[d]))) (us++([.ref b]++(vs++[yv])))→xs.length=vs.length→RepDs G ρ H' M ks us∧RepD G ρ H' M kd (.ref b)∧RepDs G ρ H' M xs vs∧RepD G ρ H' M d yv:=fun {ρ H' M ks xs us vs} l r lx=>by
    have r0:=RepDs.take ks.length r
    rw [List.take_left,l,List.take_left] at r0
    have r1:=RepDs.drop ks.length r
    rw [List.drop_left,l,List.drop_left] at r1
    obtain ⟨v',r',e',q1,q2⟩:=r1
    cases e'
    obtain ⟨q3,q4⟩:=reps_split lx q2
    exact ⟨r0,q1,q3,q4⟩
  have cell: ∀ (dd:D) (h':List O) (L:List (O×V)),Cf G H s.h ((.fz dd,v)::(.fz kd,.ref b)::(.fz d,yv)::L)→mutTD s.h kd d dd=some h'→∃ p ks bs vs ρ M,v= .ref p∧TV G H p ks bs vs∧Mut (H p)∧kfDs 8 ks=true∧RepDs G ρ H M ks (bs.map V.ref)∧ks.length=vs.length∧RepD G ρ H M kd (.ref b)∧(zip3 ks bs vs).length<sizeLine∧Cf G (upd H p (DtO G.w p (putP (zip3 ks bs vs) (nkD kd) b yv))) h' ((.fz dd,v)::L):=by
    intro dd h' L cf em
    unfold mutTD at em
    split at em
    · rename_i n
      simp only [Option.bind_eq_some_iff,Option.map_eq_some_iff] at em
      obtain ⟨o,hn,o',eo,eh⟩:=em
      subst eh
      obtain ⟨a,ev,ρ,M,A,hr,cp,ow⟩:=cf.cell hn
      obtain ⟨nf,p,ks,bs,vs,xs,ep,_,tv,mu,fk,l,rk,rx,hz,back⟩:=own_mutT eo hk ow
      cases ep
      have lk:ks.length=bs.length:=by have:=rk.length;simpa using this
      obtain ⟨ρ2,M2,cp2,r2⟩:=(Cf.fz (L:=L) (ds:=[kd,d]) (vs:=[.ref b,yv]) rfl).mp (show Cf G H s.h (Fz [kd,d] [.ref b,yv]++L) from cf.drop)
      obtain ⟨Xl,Yl,q1,q2⟩:=zip_at hn hr
      have cpA:=cp
      obtain ⟨A1,w1⟩:=Owns.mem (p:=(O.fz kd,V.ref b)) cpA.2.1 (List.mem_append_right _ (by simp))
      obtain ⟨A2,w2⟩:=Owns.mem (p:=(O.fz d,yv)) cpA.2.1 (List.mem_append_right _ (by simp))
      have key:Cf G H s.h (Fz (ks++([kd]++(xs++[d]))) (bs.map V.ref++([.ref b]++(vs++[yv])))++(.fz (.loc n),.ref a)::L):=by
        have rr:RepDs G ρ H M ((ks++([kd]++(xs++[d])))++[.loc n]) ((bs.map V.ref++([.ref b]++(vs++[yv])))++[.ref a]):=
          (rk.append ((RepDs.one w1.1).append (rx.append (.one w2.1)))).append (.one (d:=.loc n) ⟨a,rfl,hr⟩)
        have cpL:Cp G ρ H M s.h ((.fz kd,.ref b)::(.fz d,yv)::L):=cp
        have c3:Cf G H s.h (Fz ((ks++([kd]++(xs++[d])))++[.loc n]) ((bs.map V.ref++([.ref b]++(vs++[yv])))++[.ref a])++((.fz kd,.ref b)::(.fz d,yv)::L)):=(Cf.fz rr.length).mpr ⟨ρ,M,cpL,rr⟩
        rw [Fz_append (by simp [lk,rx.length]),List.append_assoc] at c3
        have c4:Cf G H s.h ([(O.fz kd,V.ref b),(O.fz d,yv)]++(Fz (ks++([kd]++(xs++[d]))) (bs.map V.ref++([.ref b]++(vs++[yv])))++(.fz (.loc n),.ref a)::L)):=c3.perm (by
          have e1:Fz (ks++([kd]++(xs++[d]))) (bs.map V.ref++([.ref b]++(vs++[yv])))++(Fz [.loc n] [.ref a]++(O.fz kd,V.ref b)::(O.fz d,yv)::L)=(Fz (ks++([kd]++(xs++[d]))) (bs.map V.ref++([.ref b]++(vs++[yv])))++[(O.fz (.loc n),V.ref a)])++([(O.fz kd,V.ref b),(O.fz d,yv)]++L):=by simp [Fz]
          have e2:[(O.fz kd,V.ref b),(O.fz d,yv)]++(Fz (ks++([kd]++(xs++[d]))) (bs.map V.ref++([.ref b]++(vs++[yv])))++(.fz (.loc n),.ref a)::L)=[(O.fz kd,V.ref b),(O.fz d,yv)]++((Fz (ks++([kd]++(xs++[d]))) (bs.map V.ref++([.ref b]++(vs++[yv])))++[(O.fz (.loc n),V.ref a)])++L):=by simp
          rw [e1,e2]
          exact List.perm_append_comm_assoc _ _ _)
        exact Cf.dropN c4
      subst ev
      refine ⟨a,ks,bs,vs,ρ,M,rfl,tv,mu,fk,rk,l,w1.1,hz,Cf.putCell (by simp [lk,rx.length]) key hn nf fun ρ' M' H' eH rr=>?_⟩
      obtain ⟨z1,z2,z3,z4⟩:=split3 (by simpa using lk) rr rx.length
      exact back ρ' H' M' b yv z1 z3 z2 z4 eH
    · cases em
  cases r with
  | own o=>
    cases o with
    | fz dd=>
      simp only [mutT,Option.map_eq_some_iff] at e
      obtain ⟨h',em,eh⟩:=e
      subst eh
      obtain ⟨p,ks,bs,vs,ρ,M,z1,z2,z3,z4,z5,z6,z7,z8,cf⟩:=cell dd h' (slp s.σ σr++ow Φ) (c.cf.perm (by
        show (slp s.σ σr++(O.fz dd,v)::(O.fz kd,V.ref b)::(O.fz d,yv)::ow Φ).Perm _
        exact List.perm_middle.trans (.cons _ (List.perm_middle.trans (.cons _ List.perm_middle))))) em
      exact ⟨p,ks,bs,vs,ρ,M,z1,z2,z3,z4,z5,z6,z7,z8,c.sl,bo,cf.drop⟩
    |_=>all_goals cases e
  | bor i =>
    have ev:σr[i]?=some (some v):=c.bo i v (by simp)
    have cfY:Cf G H s.h (slp s.σ σr++(.fz kd,.ref b)::(.fz d,yv)::ow Φ):=c.cf
    simp only [mutT] at e
    split at e
    · rename_i dd es1
      simp only [Option.map_eq_some_iff] at e
      obtain ⟨h',em,eh⟩:=e
      subst eh
      obtain ⟨Xl,Yl,q1,q2⟩:=slp_at es1 ev
      rw [q1] at cfY
      obtain ⟨p,ks,bs,vs,ρ,M,z1,z2,z3,z4,z5,z6,z7,z8,cf⟩:=cell dd h' (Xl++Yl++ow Φ) (cfY.perm (by
        rw [show Xl++(O.fz dd,v)::Yl++(O.fz kd,V.ref b)::(O.fz d,yv)::ow Φ=Xl++(O.fz dd,v)::(Yl++(O.fz kd,V.ref b)::(O.fz d,yv)::ow Φ) by simp]
        refine List.perm_middle.trans (.cons _ ?_)
        rw [←List.append_assoc]
        refine List.perm_middle.trans (.cons _ ?_)
        exact List.perm_middle)) em
      refine ⟨p,ks,bs,vs,ρ,M,z1,z2,z3,z4,z5,z6,z7,z8,c.sl,bo, ?_⟩
      rw [q1]
      refine cf.perm ?_
      rw [List.append_assoc,List.append_assoc]
      exact List.perm_middle.symm
    · rename_i o nfz es1
      simp only [Option.map_eq_some_iff] at e
      obtain ⟨o',eo,eh⟩:=e
      subst eh
      obtain ⟨Xl,Yl,q1,q2⟩:=slp_at es1 ev
      rw [q1] at cfY
      have c1:Cf G H s.h ((o,v)::((.fz kd,.ref b)::(.fz d,yv)::(Xl++Yl++ow Φ))):=cfY.perm (by
        rw [show Xl++(o,v)::Yl++(O.fz kd,V.ref b)::(O.fz d,yv)::ow Φ=Xl++(o,v)::(Yl++(O.fz kd,V.ref b)::(O.fz d,yv)::ow Φ) by simp]
        refine List.perm_middle.trans (.cons _ ?_)
        rw [←List.append_assoc]
        refine List.perm_middle.trans (.cons _ ?_)
        exact List.perm_middle)
      obtain ⟨ρ,M,cp⟩:=id c1
      obtain ⟨A0,w0⟩:=Owns.mem (p:=(o,v)) cp.2.1 (List.mem_append_right _ (by simp))
      obtain ⟨A1,w1⟩:=Owns.mem (p:=(O.fz kd,V.ref b)) cp.2.1 (List.mem_append_right _ (by simp))
      obtain ⟨A2,w2⟩:=Owns.mem (p:=(O.fz d,yv)) cp.2.1 (List.mem_append_right _ (by simp))
      obtain ⟨nf,p,ks,bs,vs,xs,ep,_,tv,mu,fk,l,rk,rx,hz,back⟩:=own_mutT eo hk w0
      subst ep
      have lk:ks.length=bs.length:=by have:=rk.length;simpa using this
      have key:Cf G H s.h ((o,.ref p)::(Fz (ks++([kd]++(xs++[d]))) (bs.map V.ref++([.ref b]++(vs++[yv])))++(Xl++Yl++ow Φ))):=by
        have rr:RepDs G ρ H M (ks++([kd]++(xs++[d]))) (bs.map V.ref++([.ref b]++(vs++[yv]))):=rk.append ((RepDs.one w1.1).append (rx.append (.one w2.1)))
        have c3:=(Cf.fz rr.length).mpr ⟨ρ,M,cp,rr⟩
        have c4:Cf G H s.h ([(O.fz kd,V.ref b),(O.fz d,yv)]++((o,.ref p)::(Fz (ks++([kd]++(xs++[d]))) (bs.map V.ref++([.ref b]++(vs++[yv])))++(Xl++Yl++ow Φ)))):=c3.perm (by
          have e1:Fz (ks++([kd]++(xs++[d]))) (bs.map V.ref++([.ref b]++(vs++[yv])))++(o,V.ref p)::(O.fz kd,V.ref b)::(O.fz d,yv)::(Xl++Yl++ow Φ)=(Fz (ks++([kd]++(xs++[d]))) (bs.map V.ref++([.ref b]++(vs++[yv])))++[(o,V.ref p)])++([(O.fz kd,V.ref b),(O.fz d,yv)]++(Xl++Yl++ow Φ)):=by simp
          rw [e1]
          refine (List.perm_append_comm_assoc _ _ _).trans (List.Perm.append_left _ ?_)
          rw [List.append_assoc]
          exact List.perm_middle)
        exact Cf.dropN c4
      have z3:=key.change (ho:=DtO G.w p (putP (zip3 ks bs vs) (nkD kd) b yv)) (o':=o') (by simp [lk,rx.length]) nf fun ρ' M' H' eH rr=>by
        obtain ⟨y1,y2,y3,y4⟩:=split3 (by simpa using lk) rr rx.length
        exact back ρ' H' M' b yv y1 y3 y2 y4 eH
      refine ⟨p,ks,bs,vs,ρ,M,rfl,tv,mu,fk,rk,l,w1.1,hz,⟨by simp [c.sl.len],fun j o' q=>?_⟩,bo, ?_⟩
      · by_cases hj:i=j
        · subst hj;exact ⟨_,ev⟩
        · exact c.sl.at_ j o' (by simpa [List.getElem?_set,hj] using q)
      · show Cf G _ s.h (slp (s.σ.set i (some _)) σr++ow Φ)
        rw [q2]
        refine z3.perm ?_
        rw [List.append_assoc,List.append_assoc]
        exact List.perm_middle.symm
    · cases e
def cSetT (me mx mi:E):C:=fun call s=>(me call s).flow fun y s1=>match take s1 y with
  |none=>.bad
  | some (d,s2)=>(mx call s2).flow fun x s3=>(mi call s3).flow fun i s4=>match take s4 i with
    | some (kd,s5)=>(match tkD kd with
      | true=>(match mutT s5 kd d x with
        |some s6=>.nx s6
        |none=>.bad)
      |false=>.bad)
    |none=>.bad
theorem s_setT (g:Good G k call cc W X) {e x i:Expr} {me mx mi:E} {p pos:Pos} (he:PE X e (tE G W call me)) (hx:PE X x (tE G W call mx)) (hi:PE X i (tE G W call mi)):
    PS X (.Assign [.Subscript x i p] e pos) (tS G W call (cSetT me mx mi)):=by
  refine ⟨fun pins s σ H D I h=>?_⟩
  obtain ⟨st,Φ,nb,c,q⟩:=h
  have h1 : tE G W call me σ H fun v H1=>tE G W call mx σ H1 fun xv H2=>tE G W call mi σ H2 fun iv H3=> ∃ p ks bs vs ρ M kd b,xv= .ref p∧iv= .ref b∧TV G H3 p ks bs vs∧Mut (H3 p)∧kfDs 8 ks=true∧RepDs G ρ H3 M ks (bs.map V.ref)∧ks.length=vs.length∧tkD kd=true∧RepD G ρ H3 M kd (.ref b)∧(zip3 ks bs vs).length<sizeLine∧D.nx σ (upd H3 p (DtO G.w p (putP (zip3 ks bs vs) (nkD kd) b v))):=by
    refine ⟨st,Φ,c,(AftS.flow q).mono fun y s1 a1=>fun yv H1 c1=>?_⟩
    split at a1
    · exact a1.elim
    · rename_i d s2 et
      have c2:=c1.take et
      refine ⟨s2,_,c2,((AftS.flow a1).frame1).mono fun x s3 a3=>fun xv H2 c3=>?_⟩
      refine ⟨s3,_,c3,((AftS.flow a3).frame (K:=[(x,xv),(.own (.fz d),yv)])).mono fun i s4 a4=>fun iv H3 c4=>?_⟩
      split at a4
      · rename_i kd s5 ek
        split at a4
        · rename_i hk
          split at a4
          · rename_i s6 em
            have c5:=c4.take ek
            have hb: ∃ b,iv= .ref b:=by
              obtain ⟨ρ,M,cp⟩:=c5.parts
              obtain ⟨A1,w1⟩:=Owns.mem (p:=(O.fz kd,iv)) cp.2.1 (List.mem_append_right _ (by simp [ow]))
              cases kd with
              |tup ds=>obtain ⟨a,vs,ev,_⟩:=w1.1;exact ⟨a,ev⟩
              |_=>all_goals cases hk
            obtain ⟨b,rfl⟩:=hb
            obtain ⟨p,ks,bs,vs,ρ,M,z1,z2,z3,z4,z5,z6,z7,z8,fin⟩:=CfS.mutateT (Φ:=Φ) hk (c5.perm (.swap _ _ _)) em
            exact ⟨p,ks,bs,vs,ρ,M,kd,b,z1,rfl,z2,z3,z4,z5,z6,hk,z7,z8,a4 σ _ fin⟩
          · exact a4.elim
        · exact a4.elim
      · exact a4.elim
  refine wpAny_Assign_Subscript (thn (he.run pins s σ H _ I h1) fun r s1 ⟨v,H1,I1,rv,q1⟩=>thn (hx.run pins s1 σ H1 _ I1 q1) fun u s2 ⟨x,H2,I2,rx,q2⟩=>thn (hi.run pins s2 σ H2 _ I2 q2) fun iv s3 ⟨y,H3,I3,ry,pp,ks,bs,vs,ρ,M,kd,b,ex,ey,tv,mu,fk,rk,l,hk,rd,hz,q3⟩=>?_) sw_sub
  subst ex
  subst ey
  obtain rfl:u=Value.ref pp:=rx
  obtain rfl:iv=Value.ref b:=ry
  exact t_setItem g.units I3 g.K g.wd tv mu fk rk l hk rd rv hz fun s4 I4=>⟨σ,_,I4,q3⟩
end
end Mi
namespace Mi
open PySem PySem.Spec PyProof.Rows L2
section
variable {X:Cx}
def tDx (DS:V→V→Addr→Hp→(Hp→Prop)→Prop) (wi:TI) (g:TG) (tt:TT) (tk tv:TE) (vs:List Nat):TE:=fun σ H Q=>wi σ H fun J H1=> ∀ D,H1 D=none→∃ W:Nat→Nat→Hp→Prop,(∃ m,W 0 m (upd H1 D (.dK [])))∧∀ i m H,W i m H→
  (J.stop i H∧Q (.ref D) H)∨(J.go i H∧∃ Nx:Hp→Prop,(∀ H',Nx H'→∃ m',m'<m∧W (i+1) m' H')∧∀ x H',J.yld i H x H'→g x (L2.wipe σ vs) H' fun σ2 H2=>L2.wipe σ2 vs=L2.wipe σ vs∧tt σ2 H2 fun b H3=>
    if b=true then tk σ2 H3 fun y H4=>tv σ2 H4 fun z H5=>DS y z D H5 Nx else Nx H3)
theorem dx_core {DS:V→V→Addr→Hp→(Hp→Prop)→Prop} {pins:List (Addr×Obj)} {s:Shared} {σ:Sr} {H:Hp} {Q:VK} {kx vx tg iter:Expr} {ifs:List Expr} {scope:Scope} {own:List (Str×Nat)} {pos pos':Pos} {wi:TI} {g:TG} {tt:TT} {tk tv:TE} {use:Option (Value→Sem Unit)} {Qf:Value→Shared→Prop}
    (hDS: ∀ (s0:Shared) (H0:Hp) (ce:Env) (fp:List Addr) (pins:List (Addr×Obj)) (σ:Sr) (s:Shared) (H:Hp) (D:Addr) (y z:V) (u r:Value) (N:Hp→Prop) (Qd:Unit→Shared→Prop) (E:Value→Shared→Prop),Inv (X.blk s0 H0 scope ce fp) pins σ H s→RelV y u→RelV z r→DS y z D H N→(∀ s' H',Inv (X.blk s0 H0 scope ce fp) pins σ H' s'→N H'→Qd () s')→wpAny (model X.prog X.w) X.A (dictSet D u r) Qd E s)
    (hc:X.calm=true) (hN:X.N.Nodup) (I:Inv X pins σ H s) (hi:PI X tg iter wi) (ok:BlkOk X.N X.env.scope scope own)
    (hg: ∀ (s:Shared) (H:Hp) (C:Addr) (cl:List (Str×Addr)) (fp:List Addr),PG (X.blk s H scope (compEnvC scope cl C X.env) fp) tg g) (ht: ∀ (s:Shared) (H:Hp) (C:Addr) (cl:List (Str×Addr)) (fp:List Addr),PTs (X.blk s H scope (compEnvC scope cl C X.env) fp) ifs tt)
    (hk: ∀ (s:Shared) (H:Hp) (C:Addr) (cl:List (Str×Addr)) (fp:List Addr),PE (X.blk s H scope (compEnvC scope cl C X.env) fp) kx tk)
    (he: ∀ (s:Shared) (H:Hp) (C:Addr) (cl:List (Str×Addr)) (fp:List Addr),PE (X.blk s H scope (compEnvC scope cl C X.env) fp) vx tv) (hs: ∀ x,foldedSetIterable iter X.env x=pure x)
    (h:tDx DS wi g tt tk tv (own.map (·.2)) σ H Q)
    (hRR: ∀ D C s' m H',Inv X pins σ H' s'→Q (.ref D) H'→s'.heap.Ns C m→FpOk X pins H' C→compPost (model X.prog X.w) X.A X.xe use Qf (.ref D) C (.ok .next) s'):
    wpAny (model X.prog X.w) X.A (comprehension (.DictComp kx vx [⟨tg,iter,ifs,0⟩] scope pos) scope X.env pos' newDict false (eval iter X.env) use) Qf X.xe s:=by
  have hfree: ∀ y∈scope.names,y.2= .free→∃ c,X.env.cells.lookup y.1=some c:=fun y hy e=>(ok.free y hy e).elim (fun k=>I.ok.has _ (.inl k)) fun k=>I.ok.has _ (.inr k)
  refine wpAny_comprehension_free (use:=use) rfl hs (closure_ok hfree) ok.kind (fun y hy e=>by rw [ok.uniq y hy,e])
    (thn (hi.run pins s σ H _ I h) fun xv s1 hx=>thn hx fun itv s2 h2=>?_)
  obtain ⟨it,fp,tn,J,H2,e,I2,T,st2,f2,q⟩:=h2
  subst e
  refine wpAny_newObj_type (newEnv_comp ?_)
  generalize hD:s2.heap.objs.size=D
  have hDn:H2 D=none:=I2.hok.fresh (Nat.le_of_eq hD)
  obtain ⟨W,⟨m0,w0⟩,turn⟩:=q D hDn
  generalize hs3:({s2 with heap:=s2.heap.push {cls:=.type "dict",data:=.dict #[]}}:Shared)=s3
  have I3:Inv X pins σ (upd H2 D (.dK [])) s3:=by
    rw [←hs3]
    refine I2.laid (t':=s2.toks) (fun b o e=>Heap.get?_push_of_some _ e) (Nat.le_of_eq hD) ?_
    rw [←hD]
    exact dk_empty s2.heap I2.big
  have h3:s3.heap=s2.heap.push {cls:=.type "dict",data:=.dict #[]}:=by rw [←hs3]
  have sz: ∀ b∈fp,b<s2.heap.objs.size:=fun b hb=>by
    obtain ⟨o,e,_⟩:=T.obj _ _ st2 b hb
    exact Heap.lt_size e
  have f3: ∀ b∈fp,FpOk X pins (upd H2 D (.dK [])) b∧b<s3.heap.objs.size:=fun b hb=>by
    have hlt:=sz b hb
    refine ⟨⟨?_,(f2 b hb).2⟩,by rw [h3,Heap.size_push];exact Nat.lt_succ_of_lt hlt⟩
    rw [upd_ne (by rw [←hD];exact Nat.ne_of_lt hlt)]
    exact (f2 b hb).1
  have st3:tn 0 s3.heap:=T.keep _ _ _ st2 fun b _ o e=>by rw [h3];exact Heap.get?_push_of_some _ e
  have I4:=block_start I3 ok hN f3
  have pg:=hg s3 (upd H2 D (.dK [])) s3.heap.objs.size (cellsFrom (s3.heap.objs.size+1) scope.names (cloFrom X.env.cells scope.names [])) fp
  have pt:=ht s3 (upd H2 D (.dK [])) s3.heap.objs.size (cellsFrom (s3.heap.objs.size+1) scope.names (cloFrom X.env.cells scope.names [])) fp
  have pk:=hk s3 (upd H2 D (.dK [])) s3.heap.objs.size (cellsFrom (s3.heap.objs.size+1) scope.names (cloFrom X.env.cells scope.names [])) fp
  have pe:=he s3 (upd H2 D (.dK [])) s3.heap.objs.size (cellsFrom (s3.heap.objs.size+1) scope.names (cloFrom X.env.cells scope.names [])) fp
  have pd:=hDS s3 (upd H2 D (.dK [])) (compEnvC scope (cellsFrom (s3.heap.objs.size+1) scope.names (cloFrom X.env.cells scope.names [])) s3.heap.objs.size X.env) fp
  show codeAny _ _ (.compStart (.DictComp kx vx [⟨tg,iter,ifs,0⟩] scope pos) 0 (.ref it) (.ref D) (compEnvC scope (cellsFrom (s3.heap.objs.size+1) scope.names (cloFrom X.env.cells scope.names [])) s3.heap.objs.size X.env)) (compPost (model X.prog X.w) X.A X.xe use Qf (.ref D) s3.heap.objs.size) {s3 with heap:=pushCells (s3.heap.push {cls:=.type "dict",data:=.dict #[]}) scope.names}
  have nfp: ∀ b∈fp,(upd H2 D (.dK [])) b=none:=fun b hb=>(f3 b hb).1.1
  generalize hce:compEnvC scope (cellsFrom (s3.heap.objs.size+1) scope.names (cloFrom X.env.cells scope.names [])) s3.heap.objs.size X.env=ce at I4 pg pt pk pe pd ⊢
  have cL:ce.locals=s3.heap.objs.size:=by subst hce;rfl
  generalize hH3:upd H2 D (.dK [])=H3 at I3 I4 pg pt pk pe pd w0 nfp f3
  generalize hs4:({s3 with heap:=pushCells (s3.heap.push {cls:=.type "dict",data:=.dict #[]}) scope.names}:Shared)=s4 at I4 ⊢
  have st4:tn 0 s4.heap:=T.keep _ _ _ st3 fun b _ o e=>by rw [←hs4];exact pushCells_keeps _ _ _ _ (Heap.get?_push_of_some _ e)
  have stat: ∀ {σ':Sr} {H':Hp} {s':Shared},Inv (X.blk s3 H3 scope ce fp) [] σ' H' s'→(∀ b∈fp,H' b=none)→∀ b∈fp,FpOk (X.blk s3 H3 scope ce fp) [] H' b:=fun {σ' H' s'} I' hn b hb=>
    ⟨hn b hb,(I'.ok.exf b hb).1,I'.ok.exfs b hb,.inl hb,fun x c e=>(I'.ok.exf b hb).2 x c e,fun p hp=>absurd (show p∈([]:List (Addr×Obj))++[] from hp) (by simp)⟩
  have loop:codeAny (model X.prog X.w) X.A (.compLoop (.DictComp kx vx [⟨tg,iter,ifs,0⟩] scope pos) 0 (.ref it) (.ref D) ce) (compPost (model X.prog X.w) X.A X.xe use Qf (.ref D) s3.heap.objs.size) s4:=by
    refine compLoop_anyD (fun n s'=> ∃ i H',Inv (X.blk s3 H3 scope ce fp) [] (L2.wipe σ (own.map (·.2))) H' s'∧tn i s'.heap∧(∀ b∈fp,H' b=none)∧W i n H') ?_ m0 ⟨0,H3,I4,st4,nfp,w0⟩
    rintro n s5 ⟨i,H5,I5,st5,n5,w5⟩
    rcases turn i n H5 w5 with ⟨stop,qq⟩|⟨go,Nx,hNx,step⟩
    · have td:=T.done (X.blk s3 H3 scope ce fp) rfl rfl rfl hc i [] s5 _ H5 (fun _ _=>False) I5 (stat I5 n5) st5 stop
      refine thnF td fun r s6 ⟨hr,I6⟩=>?_
      subst hr
      have I7:Inv X pins σ H5 s6:=I3.call' (ch:=fp) I6.os I6.base I6.hok I6.bare fun b hb=>⟨(f3 b hb).1.2.2.2.1,(f3 b hb).1.2.1,(f3 b hb).1.2.2.2.2.1,(f3 b hb).1.2.2.2.2.2⟩
      have nC:H5 s3.heap.objs.size=none:=by
        have z:H5 ce.locals=none:=I6.free
        rw [cL] at z
        exact z
      obtain ⟨m,hn,_⟩:=I6.loc
      have hn:s6.heap.Ns ce.locals m:=hn
      rw [cL] at hn
      exact hRR D s3.heap.objs.size s6 m H5 I7 qq hn (I3.fpOk (Nat.le_refl _) nC)
    · have ti:=T.item (X.blk s3 H3 scope ce fp) rfl rfl rfl hc i [] s5 _ H5 (fun _ _=>False) I5 (stat I5 n5) st5 go
      refine thnF ti fun r s6 ⟨u,hr,h6⟩=>?_
      subst hr
      refine thnF h6 fun _ s7 ⟨x,H7,I7,r7,y7,st7,n7⟩=>?_
      have I7':=I7.pinned (stat I7 n7) (T.obj _ _ st7)
      refine thnF (pg.run _ s7 _ H7 x u _ I7' r7 (step x H7 y7)) fun _ s8 ⟨σ8,H8,I8,hw8,q8⟩=>?_
      refine thnF (pt.run _ s8 σ8 H8 _ I8 q8) fun b s9 ⟨H9,I9,q9⟩=>?_
      have fin: ∀ {s':Shared} {H':Hp},Inv (X.blk s3 H3 scope ce fp) ([]++pinsAt fp s7.heap) σ8 H' s'→Nx H'→∃ m,m<n∧∃ i H',Inv (X.blk s3 H3 scope ce fp) [] (L2.wipe σ (own.map (·.2))) H' s'∧tn i s'.heap∧(∀ b∈fp,H' b=none)∧W i m H':=fun {s' H'} I' nx=>by
        obtain ⟨m',hm,w'⟩:=hNx H' nx
        have pin': ∀ b∈fp,∀ o,s7.heap.get? b=some o→s'.heap.get? b=some o∧H' b=none:=fun b hb o e=>
          let z:=I'.pin (b,o) (List.mem_append_right _ (List.mem_append_right _ (mem_pinsAt hb e)))
          ⟨z.1,z.2.1⟩
        have hl:(L2.wipe σ (own.map (·.2))).length=σ8.length:=by rw [←hw8,wipe_length]
        refine ⟨m',hm,i+1,H',(I'.unpinned (pins:=[])).weak hl (fun j v e=>?_),T.keep _ _ _ st7 fun b hb o e=>(pin' b hb o e).1,fun b hb=>?_,w'⟩
        · rw [←hw8] at e
          exact (wipe_some e).1
        · obtain ⟨o,e,_⟩:=T.obj _ _ st7 b hb
          exact (pin' b hb o e).2
      cases b with
      | false=>
        simp only [Bool.false_eq_true,if_false] at q9 ⊢
        exact fin I9 q9
      | true=>
        simp only [if_true] at q9 ⊢
        refine thnF (pk.run _ s9 σ8 H9 _ I9 q9) fun z s10 ⟨yk,H10,I10,r10,q10⟩=>?_
        refine thnF (pe.run _ s10 σ8 H10 _ I10 q10) fun z2 s11 ⟨yv,H11,I11,r11,ds⟩=>?_
        exact pd _ _ _ _ _ _ _ _ _ _ _ _ I11 r10 r11 ds fun s12 H12 I12 nx=>fin I12 nx
  exact codeAny_compStart_dict loop (T.self X.A 0 _ _ _ st4 loop)
end
def putO (kd d:D):O→Option O
  | .dic ks xs=>(match keyD kd with
    |some kk=>if fitsB ks.length then some (.dic (putD ks xs kk d).1 (putD ks xs kk d).2) else none
    |none=>if tkD kd=true∧ks=[]∧xs=[] then some (.dct [kd] [d]) else none)
  | .dct ks xs=>if tkD kd=true then mutTO kd d (.dct ks xs) else none
  |_=>none
def dsG (G:GE) (y z:V) (D:Addr) (H:Hp) (N:Hp→Prop):Prop:=
  (∃ kvs k,y=kV k∧H D=some (.dK kvs)∧kvs.length<sizeLine∧N (upd H D (.dK (putK kvs k z))))∨
  ∃ ks bs vs ρ M kd b,y= .ref b∧TV G H D ks bs vs∧Mut (H D)∧kfDs 8 ks=true∧RepDs G ρ H M ks (bs.map V.ref)∧ks.length=vs.length∧tkD kd=true∧RepD G ρ H M kd (.ref b)∧(zip3 ks bs vs).length<sizeLine∧N (upd H D (DtO G.w D (putP (zip3 ks bs vs) (nkD kd) b z)))
section
variable {X:Cx} {pins:List (Addr×Obj)} {σ:Sr} {H:Hp} {s:Shared}
theorem t_dictSet {G:GE} {ρ M:List Addr} {A:Around} {E:Value→Shared→Prop} {Q:Unit→Shared→Prop} {a b:Addr} {ks:List D} {bs:List Addr} {vs:List V} {d:D} {v:V} {r:Value} (hu:A.units+64<cLine) (I:Inv X pins σ H s) (hK:X.K=G.K) (hw:X.w=G.w) (t:TV G H a ks bs vs) (mu:Mut (H a)) (fk:kfDs 8 ks=true) (rk:RepDs G ρ H M ks (bs.map V.ref)) (l:ks.length=vs.length)
    (hk:tkD d=true) (rd:RepD G ρ H M d (.ref b)) (rv:RelV v r) (hz:(zip3 ks bs vs).length<sizeLine) (h: ∀ s',Inv X pins σ (upd H a (DtO G.w a (putP (zip3 ks bs vs) (nkD d) b v))) s'→Q () s'):
    wpAny (model X.prog X.w) A (dictSet a (.ref b) r) Q E s:=by
  obtain ⟨b',eb,hi⟩:=key_is I hK hk rd
  cases eb
  obtain ⟨xs,pr,dd,hs,_⟩:=dt_at I hK hw t fk rk l
  have hxl:xs.length≤sizeLine:=by rw [←Paired.length pr];omega
  refine wpAny_dictSet_heap (knd:=nestedKind X.prog X.w) (hsz:=hxl) (Nat.lt_of_le_of_lt (Nat.add_le_add_left (by decide) _) hu) hi dd fun h' dd' sb=>h _ ?_
  obtain ⟨o,es,ep,h1,h2,h3,h4,_,h5⟩:=dd'
  refine d_write I mu sb ⟨o,h1⟩ ⟨?_,⟨o,h1⟩,fun g1 g2 p k=>?_⟩
  · refine ⟨_,paired_put (k:=nkD d) (b:=b) pr rv,hs, ?_,o,es,ep,h1,h2,h3, ?_,h5⟩
    · have:=put_len (ps:=zip3 ks bs vs) (k:=nkD d) (b:=b) (v:=v);omega
    · rw [h4,←hw];rfl
  · obtain ⟨xs',p1,p2,p3,o',es',ep',q1,q2⟩:=p
    exact ⟨xs',p1,p2,p3,o',es',ep',k _ q1,q2⟩
theorem ds_run {G:GE} {y z:V} {D:Addr} {u r:Value} {N:Hp→Prop} {Qd:Unit→Shared→Prop} {E:Value→Shared→Prop} (hu:X.A.units+64<cLine) (hK:X.K=G.K) (hw:X.w=G.w) (I:Inv X pins σ H s) (ry:RelV y u) (rz:RelV z r) (d:dsG G y z D H N) (h: ∀ s' H',Inv X pins σ H' s'→N H'→Qd () s'):
    wpAny (model X.prog X.w) X.A (dictSet D u r) Qd E s:=by
  rcases d with ⟨kvs,k,ey,hD,hz,n⟩|⟨ks,bs,vs,ρ,M,kd,b,ey,t,mu,fk,rk,l,hk,rd,hz,n⟩
  · subst ey
    exact d_dictSet I hD hz ry rz fun s' I'=>h s' _ I' n
  · subst ey
    obtain rfl:u=Value.ref b:=ry
    exact t_dictSet hu I hK hw t mu fk rk l hk rd rz hz fun s' I'=>h s' _ I' n
end
section
variable {G:GE} {k:Nat} {call:Call} {cc:CC} {W:WX} {X:Cx} {vs:List Nat}
theorem CfS.putOwn {σr:Sr} {H:Hp} {s:S} {Φ:List (R×V)} {kd d:D} {o o':O} {kv yv:V} {p:Addr} {N:Hp→Prop} (c:CfS G σr H s ((.own (.fz d),yv)::(.own (.fz kd),kv)::(.own o,.ref p)::Φ)) (e:putO kd d o=some o')
    (n: ∀ H',CfS G σr H' s ((.own o',.ref p)::Φ)→N H'):dsG G kv yv p H N:=by
  have bo: ∀ o i w,(R.bor i,w)∈(R.own o,V.ref p)::Φ→σr[i]?=some (some w):=fun o i w q=>by
    rcases List.mem_cons.mp q with z|z
    · cases z
    · exact c.bo i w (by simp [z])
  have cf:Cf G H s.h ((o,.ref p)::(.fz d,yv)::(.fz kd,kv)::(slp s.σ σr++ow Φ)):=c.cf.perm (by
    show (slp s.σ σr++(O.fz d,yv)::(O.fz kd,kv)::(o,V.ref p)::ow Φ).Perm _
    refine List.perm_middle.trans ((List.Perm.cons _ (List.perm_middle.trans (List.Perm.cons _ List.perm_middle))).trans ?_)
    exact (List.Perm.cons _ (.swap _ _ _)).trans (.swap _ _ _))
  have szl: ∀ {ks:List Key} {vs:List V},fitsB ks.length=true→(ks.zip vs).length<sizeLine:=fun {ks vs} h=>by
    have h1:=of_decide_eq_true h
    have h2:(100001:Nat)≤sizeLine:=by rw [sizeLine_eq];decide
    rw [List.length_zip]
    omega
  have fin: ∀ {H':Hp} {o':O},Cf G H' s.h ((o',.ref p)::(slp s.σ σr++ow Φ))→CfS G σr H' s ((.own o',.ref p)::Φ):=fun {H' o'} z=>⟨c.sl,bo o',z.perm List.perm_middle.symm⟩
  have tup: ∀ {o o':O},Cf G H s.h ((o,.ref p)::(.fz d,yv)::(.fz kd,kv)::(slp s.σ σr++ow Φ))→mutTO kd d o=some o'→tkD kd=true→(∀ H',CfS G σr H' s ((.own o',.ref p)::Φ)→N H')→dsG G kv yv p H N:=fun {o o'} cf e hk n=>by
    obtain ⟨ρ,M,cp⟩:=id cf
    obtain ⟨A0,w0⟩:=Owns.mem (p:=(o,V.ref p)) cp.2.1 (List.mem_append_right _ (by simp))
    obtain ⟨A1,w1⟩:=Owns.mem (p:=(O.fz kd,kv)) cp.2.1 (List.mem_append_right _ (by simp))
    obtain ⟨A2,w2⟩:=Owns.mem (p:=(O.fz d,yv)) cp.2.1 (List.mem_append_right _ (by simp))
    have hb: ∃ b,kv= .ref b:=by
      cases kd with
      |tup ds=>obtain ⟨a,vs,ev,_⟩:=w1.1;exact ⟨a,ev⟩
      |_=>all_goals cases hk
    obtain ⟨b,rfl⟩:=hb
    obtain ⟨nf,p',ks,bs,vs,xs,ep,_,tv,mu,fk,l,rk,rx,hz,back⟩:=own_mutT e hk w0
    cases ep
    have lk:ks.length=bs.length:=by have:=rk.length;simpa using this
    refine .inr ⟨ks,bs,vs,ρ,M,kd,b,rfl,tv,mu,fk,rk,l,hk,w1.1,hz,n _ (fin ?_)⟩
    have key:Cf G H s.h ((o,.ref p)::(Fz (ks++([kd]++(xs++[d]))) (bs.map V.ref++([.ref b]++(vs++[yv])))++(slp s.σ σr++ow Φ))):=by
      have rr:RepDs G ρ H M (ks++([kd]++(xs++[d]))) (bs.map V.ref++([.ref b]++(vs++[yv]))):=rk.append ((RepDs.one w1.1).append (rx.append (.one w2.1)))
      have c3:=(Cf.fz rr.length).mpr ⟨ρ,M,cp,rr⟩
      have c4:Cf G H s.h ([(O.fz d,yv),(O.fz kd,V.ref b)]++((o,.ref p)::(Fz (ks++([kd]++(xs++[d]))) (bs.map V.ref++([.ref b]++(vs++[yv])))++(slp s.σ σr++ow Φ)))):=c3.perm (by
        have e1:Fz (ks++([kd]++(xs++[d]))) (bs.map V.ref++([.ref b]++(vs++[yv])))++((o,V.ref p)::(O.fz d,yv)::(O.fz kd,V.ref b)::(slp s.σ σr++ow Φ))=(Fz (ks++([kd]++(xs++[d]))) (bs.map V.ref++([.ref b]++(vs++[yv])))++[(o,V.ref p)])++([(O.fz d,yv),(O.fz kd,V.ref b)]++(slp s.σ σr++ow Φ)):=by simp
        rw [e1]
        refine (List.perm_append_comm_assoc _ _ _).trans (List.Perm.append_left _ ?_)
        rw [List.append_assoc]
        exact List.perm_middle)
      exact Cf.dropN c4
    exact key.change (ho:=DtO G.w p (putP (zip3 ks bs vs) (nkD kd) b yv)) (o':=o') (by simp [lk,rx.length]) nf fun ρ' M' H' eH rr=>by
      have r0:=RepDs.take ks.length rr
      rw [List.take_left,show ks.length=(bs.map V.ref).length by simp [lk],List.take_left] at r0
      have r1:=RepDs.drop ks.length rr
      rw [List.drop_left,show ks.length=(bs.map V.ref).length by simp [lk],List.drop_left] at r1
      obtain ⟨v',r',e',q1,q2⟩:=r1
      cases e'
      obtain ⟨q3,q4⟩:=reps_split rx.length q2
      exact back ρ' H' M' b yv r0 q3 q1 q4 eH
  cases o with
  | dic ks xs=>
    simp only [putO] at e
    cases hk:keyD kd with
    | some kk=>
      rw [hk] at e
      simp only at e
      split at e
      · rename_i hfit
        cases e
        have c1:Cf G H s.h ((.fz kd,kv)::((.dic ks xs,.ref p)::(.fz d,yv)::(slp s.σ σr++ow Φ))):=cf.perm (by
          refine (List.Perm.cons _ (.swap _ _ _)).trans ?_
          exact .swap _ _ _)
        obtain ⟨ρ,M,cp,rkd⟩:=Cf.fz1.mp c1
        have ekv:=key_of' (RepD.view rkd) hk
        subst ekv
        obtain ⟨a,vs,ex,hH,l1,l2,cf2⟩:=c1.drop.dicO
        cases ex
        have key:Cf G H s.h ((.dic ks xs,.ref p)::(Fz (xs++[d]) (vs++[yv])++(slp s.σ σr++ow Φ))):=by
          rw [Fz_append l2,List.append_assoc]
          exact cf2
        refine .inl ⟨ks.zip vs,kk,rfl,hH,szl hfit,n _ (fin ?_)⟩
        exact key.change (ho:=.dK (putK (ks.zip vs) kk yv)) (o':=.dic (putD ks xs kk d).1 (putD ks xs kk d).2) (by simp [l2]) (fun _ h=>by cases h) fun ρ M H' e r=>by
          obtain ⟨r0,r1⟩:=reps_split l2 r
          obtain ⟨vs',z1,z2,z3⟩:=put_of (k:=kk) l1 r0 r1
          exact ⟨p,vs',rfl,by rw [e,z1],z2,z3,rfl⟩
      · cases e
    | none=>
      rw [hk] at e
      simp only at e
      split at e
      · rename_i h
        obtain ⟨h1,rfl,rfl⟩:=h
        exact tup cf (by cases e;rfl) h1 n
      · cases e
  | dct ks xs=>
    simp only [putO] at e
    split at e
    · rename_i h
      exact tup cf e h n
    · cases e
  |fz _=>cases e
  |lst _=>cases e
  |ins _ _ _=>cases e
def dcL (call : Call) (g:Tg) (tt:B) (tk tv:E) (vs:List Nat):List D→O→S→Out O
  |[],o,s=>.ok o s
  | d :: ds, o, s=>match g (.fz d) s with
    |none=>.bad
    | some s1 =>match tt call s1 with
      | .ok true s2=>(match tk call s2 with
        | .ok rk s3=>(match take s3 rk with
          | some (kd,s4)=>(match tv call s4 with
            | .ok rv s5=>(match take s5 rv with
              | some (dv,s6)=>(match putO kd dv o with
                |some o'=>dcL call g tt tk tv vs ds o' ⟨wipeO s6.σ vs,s6.h⟩
                |none=>.bad)
              |none=>.bad)
            |_=>.bad)
          |none=>.bad)
        |_=>.bad)
      | .ok false s2=>dcL call g tt tk tv vs ds o ⟨wipeO s2.σ vs,s2.h⟩
      |_=>.bad
def dcO (σ1:List (Option O)) (vs:List Nat):Out O→Out R
  | .ok o s2=>.ok (.own o) ⟨rst s2.σ σ1 vs,s2.h⟩
  |_=>.bad
def mDc (m:Iv) (g:Tg) (tt:B) (tk tv:E) (vs:List Nat):E:=fun call s=>(m call s).bind fun ds s1=>dcO s1.σ vs (dcL call g tt tk tv vs ds (.dic [] []) ⟨wipeO s1.σ vs,s1.h⟩)
theorem dc_walk {J:It} {K Φ:List (R×V)} {ds:List D} {g:Tg} {tt:B} {tk tv:E} {σ:Sr} {H1:Hp} {s1:S} {Q:VK} {Dd:Addr} (nk:NoB K) (bo: ∀ i v,(R.bor i,v)∈Φ→σ[i]?=some (some v)) (w:Walks G J K ds) (c:CfS G σ H1 s1 (K++Φ)) (hD:H1 Dd=none)
    (a:Aft G W σ Φ (PV G σ Φ Q) (dcO s1.σ vs (dcL call g tt tk tv vs ds (.dic [] []) ⟨wipeO s1.σ vs,s1.h⟩))):
    ∃ Wr:Nat→Nat→Hp→Prop,(∃ m,Wr 0 m (upd H1 Dd (.dK [])))∧∀ i m H,Wr i m H→
      (J.stop i H∧Q (.ref Dd) H)∨(J.go i H∧∃ Nx:Hp→Prop,(∀ H',Nx H'→∃ m',m'<m∧Wr (i+1) m' H')∧∀ x H',J.yld i H x H'→tGA G vs g x (L2.wipe σ vs) H' fun σ2 H2=>L2.wipe σ2 vs=L2.wipe σ vs∧tB_ G noW call tt σ2 H2 fun b H3=>
        if b=true then tE G noW call tk σ2 H3 fun y H4=>tE G noW call tv σ2 H4 fun z H5=>dsG G y z Dd H5 Nx else Nx H3):=by
  obtain ⟨Z,p1,ok,back⟩:=slp_wipe c.sl vs
  let Ψ:=K++(ownR Z++ownR (ow Φ))
  have nΨ:NoB Ψ:=noB_app nk (noB_app nob_ownR nob_ownR)
  let St:O→S→Hp→Prop:=fun o s H=>CfS G (L2.wipe σ vs) H s ((.own o,.ref Dd)::Ψ)
  let Fin:List D→O→S→Prop:=fun rest o s=>Aft G W σ Φ (PV G σ Φ Q) (dcO s1.σ vs (dcL call g tt tk tv vs rest o s))
  have st0:St (.dic [] []) ⟨wipeO s1.σ vs,s1.h⟩ (upd H1 Dd (.dK [])):=by
    refine ⟨ok,fun i v z=>absurd z (noB_cons nΨ i v), ?_⟩
    have cf:=c.cf.perm (p1.append_right (ow (K++Φ)))
    have cf2:Cf G H1 s1.h (Fz [] []++(slp (wipeO s1.σ vs) (L2.wipe σ vs)++ow Ψ)):=cf.perm (by
      show List.Perm _ (slp (wipeO s1.σ vs) (L2.wipe σ vs)++ow Ψ)
      simp only [Ψ,ow_append,ow_ownR,List.append_assoc]
      exact List.Perm.append_left _ (List.perm_append_comm_assoc _ _ _))
    exact (Cf.newDic (ks:=[]) rfl rfl cf2 hD).perm List.perm_middle.symm
  refine ⟨fun i m H=>m=ds.length - i∧i≤ds.length∧∃ o s,St o s H∧Fin (ds.drop i) o s,⟨ds.length,by simp,Nat.zero_le _,_,_,st0,a⟩, ?_⟩
  rintro i m H ⟨rfl,hi,o,s,c,a⟩
  have cK:CfS G (L2.wipe σ vs) H s (K++((.own o,.ref Dd)::(ownR Z++ownR (ow Φ)))):=c.perm List.perm_middle.symm
  obtain ⟨w1,w2,w3⟩:=w _ H s _ cK
  by_cases hlt:i<ds.length
  · refine .inr ⟨w1 i hlt,fun H'=> ∃ o s,St o s H'∧Fin (ds.drop (i+1)) o s,fun H' p'=>⟨ds.length - (i+1),by omega,rfl,hlt,p'⟩,fun x H' y=>?_⟩
    have e:ds.drop i=ds[i]::ds.drop (i+1):=List.drop_eq_getElem_cons hlt
    have a':Fin (ds[i]::ds.drop (i+1)) o s:=by rw [←e];exact a
    have c1:=w2 i ds[i] x H' (by simp [hlt]) y
    have c1':CfS G (L2.wipe σ vs) H' s ((.own (.fz ds[i]),x)::((.own o,.ref Dd)::Ψ)):=c1.perm (List.Perm.cons _ List.perm_middle)
    simp only [Fin,dcL] at a'
    cases eg:g (.fz ds[i]) s with
    |none=>simp only [eg] at a';exact a'.elim
    | some s2 =>
      simp only [eg] at a'
      refine ⟨s,_,.fz ds[i],s2,noB_cons nΨ,c1',eg,fun σ2 c2 ag=>?_⟩
      have ew:L2.wipe σ2 vs=L2.wipe σ vs:=by rw [ag.wipe,wipe_wipe]
      refine ⟨ew,s2,_,c2, ?_⟩
      cases et:tt call s2 with
      |bad=>simp only [et] at a';exact a'.elim
      |exc cn d s3=>simp only [et] at a';exact a'.elim
      | ok b s3 =>
        cases b with
        | false=>
          simp only [et] at a'
          exact fun H3 c3=>iteF ⟨o,_,by have:=c3.wipe (noB_cons nΨ) vs;rw [ew] at this;exact this,a'⟩
        | true=>
          simp only [et] at a'
          intro H3 c3
          refine iteT ⟨s3,_,c3, ?_⟩
          cases ee:tk call s3 with
          |bad=>simp only [ee] at a';exact a'.elim
          |exc cn d s4=>simp only [ee] at a';exact a'.elim
          | ok r s4 =>
            simp only [ee] at a'
            intro yk H4 c4
            cases ek:take s4 r with
            |none=>simp only [ek] at a';exact a'.elim
            | some q=>
              obtain ⟨kd,s5⟩:=q
              simp only [ek] at a'
              have c5:=c4.take ek
              refine ⟨s5,_,c5, ?_⟩
              cases ev:tv call s5 with
              |bad=>simp only [ev] at a';exact a'.elim
              |exc cn d s6=>simp only [ev] at a';exact a'.elim
              | ok rv s6=>
                simp only [ev] at a'
                intro yv H5 c6
                cases ew2:take s6 rv with
                |none=>simp only [ew2] at a';exact a'.elim
                | some q2=>
                  obtain ⟨dv,s7⟩:=q2
                  simp only [ew2] at a'
                  have c7:=c6.take ew2
                  cases eo:putO kd dv o with
                  |none=>simp only [eo] at a';exact a'.elim
                  | some o'=>
                    simp only [eo] at a'
                    refine c7.putOwn eo fun H' c8=>⟨o',⟨wipeO s7.σ vs,s7.h⟩, ?_,a'⟩
                    have:=c8.wipe (noB_cons nΨ) vs
                    rw [ew] at this
                    exact this
  · have e:i=ds.length:=by omega
    subst e
    have a':Fin [] o s:=by have:=a;rw [List.drop_length] at this;exact this
    refine .inl ⟨w3,a' (.ref Dd) H ?_⟩
    obtain ⟨p2,ok2⟩:=back s.σ c.sl
    refine ⟨ok2,fun j v z=>?_, ?_⟩
    · rcases List.mem_cons.mp z with z|z
      · cases z
      · exact bo j v z
    · have cf:Cf G H s.h (slp s.σ (L2.wipe σ vs)++(o,.ref Dd)::ow Ψ):=c.cf
      have cf2:Cf G H s.h (ow K++(slp (rst s.σ s1.σ vs) σ++(o,.ref Dd)::ow Φ)):=cf.perm (by
        simp only [Ψ,ow_append,ow_ownR]
        refine List.perm_middle.trans ?_
        refine List.Perm.trans (List.Perm.cons _ ?_) (((List.perm_middle).append_left (ow K)).trans List.perm_middle).symm
        refine (List.perm_append_comm_assoc _ _ _).trans (List.Perm.append_left _ ?_)
        rw [←List.append_assoc]
        exact p2.symm.append_right _)
      exact Cf.dropN cf2
theorem e_dc (g:Good G k call cc W X) {kx vx tg it:Expr} {ifs:List Expr} {scope:Scope} {own:List (Str×Nat)} {pos:Pos} {m:Iv} {t:Tg} {mt:B} {mk mv:E} (hi:PI X tg it (tI G W call m)) (ok:BlkOk cc.N cc.sc scope own)
    (hg: ∀ (s:Shared) (H:Hp) (C:Addr) (cl:List (Str×Addr)) (fp:List Addr),PG (X.blk s H scope (compEnvC scope cl C X.env) fp) tg (tGA G (own.map (·.2)) t))
    (ht: ∀ (s:Shared) (H:Hp) (C:Addr) (cl:List (Str×Addr)) (fp:List Addr),PTs (X.blk s H scope (compEnvC scope cl C X.env) fp) ifs (tB_ G noW call mt))
    (hk: ∀ (s:Shared) (H:Hp) (C:Addr) (cl:List (Str×Addr)) (fp:List Addr),PE (X.blk s H scope (compEnvC scope cl C X.env) fp) kx (tE G noW call mk))
    (he: ∀ (s:Shared) (H:Hp) (C:Addr) (cl:List (Str×Addr)) (fp:List Addr),PE (X.blk s H scope (compEnvC scope cl C X.env) fp) vx (tE G noW call mv)) (hs: ∀ x,foldedSetIterable it X.env x=pure x):
    PE X (.DictComp kx vx [⟨tg,it,ifs,0⟩] scope pos) (tE G W call (mDc m t mt mk mv (own.map (·.2)))):=by
  refine ⟨fun pins s σ H Q I h=>?_⟩
  have h':tDx (dsG G) (tI G W call m) (tGA G (own.map (·.2)) t) (tB_ G noW call mt) (tE G noW call mk) (tE G noW call mv) (own.map (·.2)) σ H Q:=by
    obtain ⟨s,Φ,c,q⟩:=h
    exact ⟨s,Φ,c,(Aft.bind q).mono fun ds s1 a1=>fun K J H1 nk c1 w=>fun Dd hD=>dc_walk nk c.bo w c1 hD a1⟩
  rw [arm_eval_DictComp]
  refine dx_core (fun s0 H0 ce fp pins σ s H D y z u r N Qd E I ry rz d h=>ds_run (X:=X.blk s0 H0 scope ce fp) g.units g.K g.wd I ry rz d h) g.calm (by rw [g.N];exact g.nd) I hi (by rw [g.N,g.sc];exact ok) hg ht hk he hs h' fun D C s' m H' I' q hn f=>⟨m,hn,fun h'' sb=>?_⟩
  obtain ⟨f0,f1,f2,f3,f4,f5⟩:=f
  exact ⟨.ref D,H',I'.turned (t':=s'.toks) (fun b o hb e=>(sb.2 b hb).trans e) f0 f1 f3 f4 f5,rfl,q⟩
end
end Mi
namespace Mi
open PySem PySem.Spec PyProof.Rows L2
abbrev Tx:=Call→O→S→Option S
def tGX (G:GE) (call:Call) (g:Tx):TG:=fun v σr H Q=> ∃ s Φ o s',NoB Φ∧CfS G σr H s ((.own o,v)::Φ)∧g call o s=some s'∧∀ σr' H',CfS G σr' H' s' Φ→Q σr' H'
def asgX (call:Call):List Tx→List O→S→Option S
  |[],[],s=>some s
  |g::gs,o::os,s=>(g call o s).bind fun s1=>asgX call gs os s1
  |_,_,_=>none
def tGsX (G:GE) (call:Call) (gs:List Tx):TGs:=fun vs σr H Q=> ∃ s Φ os s',NoB Φ∧os.length=vs.length∧CfS G σr H s (OwR os vs++Φ)∧asgX call gs os s=some s'∧∀ σr' H',CfS G σr' H' s' Φ→Q σr' H'
def xAtt (mx:E) (f:Str):Tx:=fun call o s=>match mx call s with
  | .ok x s3=>(match take s3 x with
    | some (dx,s4)=>(match setFld s4.h f (frz o) dx with
      |some h=>some ⟨s4.σ,h⟩
      |none=>none)
    |none=>none)
  |_=>none
def xCel (g:Tx):Tx:=fun call o s=>match o with
  | .fz d=>g call (.fz d) s
  |o=>g call (.fz (.loc s.h.length)) ⟨s.σ,s.h++[o]⟩
def xTup (n:Nat) (gs:List Tx):Tx:=fun call o s=>match o with
  | .fz (.tup ds)=>if ds.length=n then asgX call gs (ds.map .fz) s else none
  |_=>none
section
variable {G:GE} {k:Nat} {call:Call} {cc:CC} {W:WX} {X:Cx}
theorem fld_put (g:Good G k call cc W X) {f:Str} (hfl:f∈cc.flds) {σ:Sr} {H2:Hp} {s4:S} {dx d:D} {xv yv:V} {Φ:List (R×V)} {h':List O} (nb:NoB Φ) (c4:CfS G σ H2 s4 ((.own (.fz dx),xv)::(.own (.fz d),yv)::Φ)) (es:setFld s4.h f d dx=some h'):
    ∃ a C dd fs,xv= .ref a∧H2 a=some (.ins C dd fs)∧L2.Cls X.K C∧NoAttr X.K C f∧fs.length<1000∧CfS G σ (upd H2 a (.ins C dd (putF f yv fs))) ⟨s4.σ,h'⟩ Φ:=by
  unfold setFld at es
  split at es
  · rename_i n
    split at es
    · rename_i cn fs xs hn
      split at es
      · rename_i hin
        cases es
        have cf:Cf G H2 s4.h ((.fz (.loc n),xv)::(.fz d,yv)::(slp s4.σ σ++ow Φ)):=c4.cf.perm (by
          show (slp s4.σ σ++(O.fz (.loc n),xv)::(O.fz d,yv)::ow Φ).Perm _
          refine List.perm_middle.trans (.cons _ List.perm_middle))
        obtain ⟨a,C,dd,vs,ex,hC,hH,l1,l2,cf2⟩:=cf.cellIns hn
        subst ex
        have key:Cf G H2 s4.h (Fz (xs++[d]) (vs++[yv])++(.fz (.loc n),.ref a)::(slp s4.σ σ++ow Φ)):=by
          rw [Fz_append l2,List.append_assoc]
          refine cf2.perm (List.Perm.append_left _ ?_)
          show ((O.fz (.loc n),V.ref a)::(O.fz d,yv)::_).Perm ((O.fz d,yv)::(O.fz (.loc n),V.ref a)::_)
          exact .swap _ _ _
        have fin:Cf G (upd H2 a (.ins C dd (putF f yv (fs.zip vs)))) (s4.h.set n (.ins cn (putL f d fs xs).1 (putL f d fs xs).2)) ((.fz (.loc n),.ref a)::(slp s4.σ σ++ow Φ)):=by
          refine Cf.putCell (by simp [l2]) key hn (fun d=>by simp) fun ρ M H' e r=>?_
          obtain ⟨r0,r1⟩:=reps_split l2 r
          by_cases hf:f∈fs
          · refine ⟨a,C,dd,vs.set (fs.findIdx fun g=>decide (g=f)) yv,rfl,hC, ?_, ?_, ?_,rfl⟩
            · rw [e,putF_in (α:=Nat) l1 hf];simp [putL,hf]
            · simp [putL,hf,l1]
            · simp only [putL,hf,if_true];exact r0.set _ r1
          · refine ⟨a,C,dd,vs++[yv],rfl,hC, ?_, ?_, ?_,rfl⟩
            · rw [e,putF_out l1 hf];simp [putL,hf]
            · simp [putL,hf,l1]
            · simp only [putL,hf,if_false];exact r0.append (.one r1)
        exact ⟨a,C,dd,fs.zip vs,rfl,hH,(g.cls cn C hC).1,g.fld cn C f hC hfl,by rw [List.length_zip];omega,c4.sl,fun i w hw=>absurd hw (nb i w),fin.drop⟩
      · cases es
    · cases es
  · cases es
theorem gx_att (g:Good G k call cc W X) {o:Expr} {f:Str} {mx:E} {pos:Pos} (hfl:f∈cc.flds) (ho:PE X o (tE G W call mx)):PG X (.Attribute o f pos) (tGX G call (xAtt mx f)):=by
  refine ⟨fun pins s σ H v u Q I r q=>?_⟩
  obtain ⟨st,Φ,ob,s',nb,c,e,q⟩:=q
  unfold xAtt at e
  cases em:mx call st with
  | ok x s3=>
    rw [em] at e
    simp only at e
    cases et:take s3 x with
    |none=>rw [et] at e;cases e
    | some p=>
      obtain ⟨dx,s4⟩:=p
      rw [et] at e
      simp only at e
      cases ef:setFld s4.h f (frz ob) dx with
      |none=>rw [ef] at e;cases e
      | some h'=>
        rw [ef] at e
        cases e
        have h1:tE G W call mx σ H fun xv H1=> ∃ a C dd fs,xv= .ref a∧H1 a=some (.ins C dd fs)∧L2.Cls X.K C∧NoAttr X.K C f∧fs.length<1000∧Q σ (upd H1 a (.ins C dd (putF f v fs))):=by
          refine ⟨st,_,c.frz, ?_⟩
          rw [em]
          intro xv H1 c1
          obtain ⟨a,C,dd,fs,z1,z2,z3,z4,z5,z6⟩:=fld_put g hfl nb (c1.take et) ef
          exact ⟨a,C,dd,fs,z1,z2,z3,z4,z5,q _ _ z6⟩
        refine PySem.W.kas_attr (thn (ho.run pins s σ H _ I h1) fun ov s2 ⟨x2,H2,I2,rx,a,C,dx2,fs,ex,ea,cl,n,l,q2⟩=>?_)
        subst ex
        obtain rfl:ov=Value.ref a:=rx
        exact setattr_ok I2 ea cl n l r fun s3 I3=>⟨σ,_,I3,q2⟩
  |exc _ _ _=>rw [em] at e;cases e
  |bad=>rw [em] at e;cases e
theorem gx_cel {e:Expr} {t:Tx} (h:PG X e (tGX G call t)):PG X e (tGX G call (xCel t)):=h.of fun v σ H Q q=>by
  obtain ⟨s,Φ,o,s',nb,c,e,q⟩:=q
  have gen:(∀ d,o≠.fz d)→t call (.fz (.loc s.h.length)) ⟨s.σ,s.h++[o]⟩=some s'→tGX G call t v σ H Q:=fun hf e=>by
    refine ⟨⟨s.σ,s.h++[o]⟩,Φ,_,s',nb,⟨c.sl,fun i w z=>?_, ?_⟩,e,q⟩
    · rcases List.mem_cons.mp z with z|z
      · cases z
      · exact c.bo i w (by simp [z])
    · have cf:Cf G H s.h ((o,v)::(slp s.σ σ++ow Φ)):=c.cf.perm List.perm_middle
      exact (cf.newCell hf).perm List.perm_middle.symm
  cases o with
  |fz d=>exact ⟨s,Φ,.fz d,s',nb,c,e,q⟩
  |lst _=>exact gen (fun _ z=>nomatch z) e
  |dic _ _=>exact gen (fun _ z=>nomatch z) e
  |ins _ _ _=>exact gen (fun _ z=>nomatch z) e
  |dct _ _=>exact gen (fun _ z=>nomatch z) e
theorem nob_owr {os:List O} {vs:List V} {Φ:List (R×V)} (nb:NoB Φ):NoB (OwR os vs++Φ):=fun i w q=>by
  rcases List.mem_append.mp q with q|q
  · exact nob_ow q
  · exact nb i w q
theorem gxs_nil:PGs X [] (tGsX G call []):=pgs_nil.of fun vs σ H Q q=>by
  obtain ⟨s,Φ,os,s',nb,l,c,e,q⟩:=q
  cases os with
  | nil=>
    cases e
    have:vs=[]:=List.length_eq_zero_iff.mp l.symm
    subst this
    exact ⟨rfl,q σ H c⟩
  |cons d ds=>cases e
theorem gxs_cons {e:Expr} {es:List Expr} {t:Tx} {gs:List Tx} (h1:PG X e (tGX G call t)) (h2:PGs X es (tGsX G call gs)) (hp:plainT e=true):PGs X (e::es) (tGsX G call (t::gs)):=by
  refine (pgs_cons h1 h2 (by rw [asg_cons hp];rfl)).of fun vs σ H Q q=>?_
  obtain ⟨s,Φ,os,s',nb,l,c,e,q⟩:=q
  cases os with
  |nil=>cases e
  | cons o os=>
    cases vs with
    |nil=>simp at l
    | cons v vs=>
      simp only [asgX,Option.bind_eq_some_iff] at e
      obtain ⟨s1,e1,e2⟩:=e
      exact ⟨v,vs,rfl,s,OwR os vs++Φ,o,s1,nob_owr nb,c,e1,fun σ1 H1 c1=>⟨s1,Φ,os,s',nb,by simpa using l,c1,e2,q⟩⟩
def cMulX (r:AsR) (gs:List Tx):C:=fun call s=>(r call s).flow fun rs s1=>if fitsB rs.length then (match keepAll s1 rs with
  | some p=>(match asgX call gs p.1 p.2 with
    |some s2=>.nx s2
    |none=>.bad)
  |none=>.bad) else .bad
def cAsgX (m:E) (g:Tx):C:=fun call s=>(m call s).flow fun x s1=>match keep s1 x with
  | some (o,s2)=>(match g call o s2 with
    |some s3=>.nx s3
    |none=>.bad)
  |none=>.bad
end
end Mi
namespace Mi
open PySem PySem.Spec PyProof.Rows L2
theorem Cf.freezeCell {G:GE} {H:Hp} {h:List O} {L:List (O×V)} {n:Nat} {v:V} {o:O} (c:Cf G H h ((.fz (.loc n),v)::L)) (hn:h[n]?=some o):Cf G H (h.set n (.fz (Mi.frz o))) ((.fz (Mi.frz o),v)::L):=by
  obtain ⟨ρ,M,⟨lr,ow,n0⟩,a,e,hr⟩:=Cf.fz1.mp c
  subst e
  obtain ⟨Xl,Yl,q1,q2⟩:=zip_at hn hr
  rw [q1,List.append_assoc] at ow
  obtain ⟨A,B,eM,s1,A',B',eB,s2,s3⟩:=Owns.split ow
  subst eB
  have n1:(A++(A'++B')).Nodup:=by rw [←eM];exact n0
  have hs: ∀ b∈A++B',b∈M:=fun b hb=>by
    rw [eM]
    rcases List.mem_append.mp hb with z|z
    · exact List.mem_append_left _ z
    · exact List.mem_append_right _ (List.mem_append_right _ z)
  have hd: ∀ b∈A',b∉A++B':=fun b hb hb'=>by
    rcases List.mem_append.mp hb' with z|z
    · exact (List.nodup_append.mp n1).2.2 b z b (List.mem_append_left _ hb) rfl
    · exact (List.nodup_append.mp (List.nodup_append.mp n1).2.1).2.2 b hb b z rfl
  have r:RepD G ρ H (A++B') (Mi.frz o) (.ref a):=Own.frz s2 hs hd
  have t1:=s1.stay (ρ':=ρ) (H':=H) (M':=A++B') (fun _ _ q=>q) (fun _ _ q _=>q) (fun b hb=>.inl (hs b hb)) (fun _ _ _ q=>q)
  have t3:=s3.stay (ρ':=ρ) (H':=H) (M':=A++B') (fun _ _ q=>q) (fun _ _ q _=>q) (fun b hb=>.inl (hs b hb)) (fun _ _ _ q=>q)
  have t2:Own G ρ H (A++B') (.fz (Mi.frz o)) (.ref a) []:=⟨r,rfl⟩
  refine Cf.fz1.mpr ⟨ρ,A++B',⟨by rw [List.length_set];exact lr, ?_, ?_⟩,r⟩
  · rw [q2,List.append_assoc]
    exact t1.append (L':=(.fz (Mi.frz o),.ref a)::(Yl++L)) (F':=B') ⟨[],B',rfl,t2,t3⟩
  · refine n1.sublist (List.Sublist.append_left ?_ A)
    exact List.sublist_append_right _ _
def takeC (s:S) (x:R):Option (D×S):=match take s x with
  | some (.loc n,s2)=>(match s2.h[n]? with
    |some o=>some (Mi.frz o,⟨s2.σ,s2.h.set n (.fz (Mi.frz o))⟩)
    |none=>none)
  |r=>r
theorem CfS.takeC {G:GE} {σr:Sr} {H:Hp} {s s':S} {Φ:List (R×V)} {r:R} {v:V} {d:D} (c:CfS G σr H s ((r,v)::Φ)) (e:takeC s r=some (d,s')):CfS G σr H s' ((.own (.fz d),v)::Φ):=by
  unfold Mi.takeC at e
  cases et:Mi.take s r with
  |none=>rw [et] at e;cases e
  | some p=>
    obtain ⟨d0,s2⟩:=p
    rw [et] at e
    have c1:=c.take et
    cases d0 with
    | loc n=>
      simp only at e
      cases hn:s2.h[n]? with
      |none=>rw [hn] at e;cases e
      | some o=>
        rw [hn] at e
        cases e
        have cf:Cf G H s2.h ((.fz (.loc n),v)::(slp s2.σ σr++ow Φ)):=c1.cf.perm List.perm_middle
        refine ⟨c1.sl,fun i w z=>?_,(Cf.freezeCell cf hn).perm List.perm_middle.symm⟩
        rcases List.mem_cons.mp z with z|z
        · cases z
        · exact c1.bo i w (by simp [z])
    |_=>all_goals (cases e;exact c1)
def mFrz (m:E):E:=fun call s=>(m call s).bind fun x s1=>match takeC s1 x with
  |some (d,s2)=>.ok (.own (.fz d)) s2
  |none=>.bad
section
variable {G:GE} {k:Nat} {call:Call} {cc:CC} {W:WX} {X:Cx}
theorem e_frz {e:Expr} {m:E} (h:PE X e (tE G W call m)):PE X e (tE G W call (mFrz m)):=h.of fun σ H Q q=>by
  obtain ⟨s,Φ,c,q⟩:=q
  refine ⟨s,Φ,c,(Aft.bind q).mono fun x s1 a1=>fun v H1 c1=>?_⟩
  split at a1
  · rename_i d s2 et
    exact a1 v H1 (c1.takeC et)
  · exact a1.elim
def itemsP (ks:List Key) (xs:List D):List D:=List.zipWith (fun k x=>.tup [kD k,x]) ks xs
def iItems_ (m:E):Iv:=fun call s=>(m call s).bind fun x s1=>match take s1 x with
  |some (.dic ks xs,s2)=>if ks.length=xs.length then .ok (itemsP ks xs) s2 else .bad
  |_=>.bad
abbrev atX:D→D→Option O:=or2 atX0 tAt
abbrev inX:D→D→Option O:=or2 inX0 tIn
abbrev notInX:D→D→Option O:=or2 notInX0 tNotIn
theorem o_inX (g:GoodB G cc X):OpR X (compareOp .In) (r2 G inX):=o_or (o_or (o_in g.K g.units) (o_din (hu_of' g.units))) (o_tin g)
theorem o_ninX (g:GoodB G cc X):OpR X (compareOp .NotIn) (r2 G notInX):=o_or (o_or (o_notIn g.K g.units) (o_dnotin (hu_of' g.units))) (o_tnotin g)
theorem o_atX (g:GoodB G cc X):IxR X (r2 G atX):=ix_or (ix_or (o_at g.K) (o_dat (hu_of' g.units))) (o_tat g)
def cSetX (me mx mi:E):C:=fun call s=>match cSetX0 me mx mi call s with
  | .bad=>cSetT me mx mi call s
  |y=>y
theorem s_setX (g:Good G k call cc W X) {e x i:Expr} {me mx mi:E} {p pos:Pos} (he:PE X e (tE G W call me)) (hx:PE X x (tE G W call mx)) (hi:PE X i (tE G W call mi)) (hs:notSlice i=true):
    PS X (.Assign [.Subscript x i p] e pos) (tS G W call (cSetX me mx mi)):=by
  have h1:=s_setX0 g (p:=p) (pos:=pos) he hx hi hs
  have h2:=s_setT g (p:=p) (pos:=pos) he hx hi
  refine ⟨fun pins s σ H D I q=>?_⟩
  obtain ⟨st,Φ,nb,c,q⟩:=q
  unfold cSetX at q
  cases es:cSetX0 me mx mi call st with
  |bad=>rw [es] at q;exact h2.run pins s σ H D I ⟨st,Φ,nb,c,q⟩
  |_=>all_goals (rw [es] at q;exact h1.run pins s σ H D I ⟨st,Φ,nb,c,by rw [es];exact q⟩)
theorem sw_trueD {kx vx:Expr} {gs:List Comprehension} {scope:Scope} {pos py:Pos} {y:Str} {l:Nat} {env:Env} (hk:env.scope.kind= .function) (hy:env.scope.names.lookup y=some .local) (hl:(py.line==pos.line)=true)
    (ha:(scope.names.any fun (n,k)=>n==y&&(k== .local||k== .cell))=false):swapsWith (.DictComp kx vx gs scope pos) (some (.Name y py)) l env=pure true:=by
  have ky:env.kindOf y=some .local:=hy
  have hb:env.blockKind= .function:=by unfold Env.blockKind;rw [hk];rfl
  unfold swapsWith
  simp only [hb,ky,ha,Expr.pos,hl]
  rfl
theorem ps_setDx {DS:V→V→Addr→Hp→(Hp→Prop)→Prop} {i:Nat} {y:Str} {py:Pos} {kx vx tg iter:Expr} {ifs:List Expr} {scope:Scope} {own:List (Str×Nat)} {pos spos:Pos} {wi:TI} {g:TG} {tt:TT} {tk tv:TE}
    (hDS: ∀ (s0:Shared) (H0:Hp) (ce:Env) (fp:List Addr) (pins:List (Addr×Obj)) (σ:Sr) (s:Shared) (H:Hp) (D:Addr) (y z:V) (u r:Value) (N:Hp→Prop) (Qd:Unit→Shared→Prop) (E:Value→Shared→Prop),Inv (X.blk s0 H0 scope ce fp) pins σ H s→RelV y u→RelV z r→DS y z D H N→(∀ s' H',Inv (X.blk s0 H0 scope ce fp) pins σ H' s'→N H'→Qd () s')→wpAny (model X.prog X.w) X.A (dictSet D u r) Qd E s)
    (hc:X.calm=true) (hN:X.N.Nodup) (hy:X.N[i]?=some y) (hyl:X.env.scope.names.lookup y=some .local) (hsw:swapsWith (.DictComp kx vx [⟨tg,iter,ifs,0⟩] scope pos) (some (.Name y py)) spos.line X.env=pure true) (hi:PI X tg iter wi) (ok:BlkOk X.N X.env.scope scope own)
    (hg: ∀ (s:Shared) (H:Hp) (C:Addr) (cl:List (Str×Addr)) (fp:List Addr),PG (X.blk s H scope (compEnvC scope cl C X.env) fp) tg g) (ht: ∀ (s:Shared) (H:Hp) (C:Addr) (cl:List (Str×Addr)) (fp:List Addr),PTs (X.blk s H scope (compEnvC scope cl C X.env) fp) ifs tt)
    (hk: ∀ (s:Shared) (H:Hp) (C:Addr) (cl:List (Str×Addr)) (fp:List Addr),PE (X.blk s H scope (compEnvC scope cl C X.env) fp) kx tk)
    (he: ∀ (s:Shared) (H:Hp) (C:Addr) (cl:List (Str×Addr)) (fp:List Addr),PE (X.blk s H scope (compEnvC scope cl C X.env) fp) vx tv) (hs: ∀ x,foldedSetIterable iter X.env x=pure x):
    PS X (.Assign [.Name y py] (.DictComp kx vx [⟨tg,iter,ifs,0⟩] scope pos) spos) (tAsg (tDx DS wi g tt tk tv (own.map (·.2))) (gName i)):=by
  refine ⟨fun pins s σ H D I h=>?_⟩
  rw [exec_Assign_Name_used _ _ _ _ hsw]
  refine wpAny_bind (wpAny_standAt (wpAny_bind ?_))
  show wpAny _ X.A (do let _ ←comprehension (.DictComp kx vx [⟨tg,iter,ifs,0⟩] scope pos) scope X.env (firstIterPos [⟨tg,iter,ifs,0⟩] pos) newDict false (eval iter X.env) (some (assign (.Name y py) X.env))) _ _ s
  have h:tDx DS wi g tt tk tv (own.map (·.2)) σ H (fun x H1=>gName i x σ H1 D.nx):=h
  refine wpAny_bind (thn (dx_core (Qf:=fun _ s'=>SP X pins D .next s') hDS hc hN I hi ok hg ht hk he hs h fun L C s' m H' I' q hn f=>?_) fun _ s' hq=>wpAny_pure (wpAny_pure hq))
  show wpAny _ _ (assign (.Name y py) X.env (.ref L)) _ _ _
  refine wpAny_assign_Name (store_ok2 (v:=V.ref L) I' hN hy (.inl hyl) rfl (fun s2 I2 ⟨a,sb,ha⟩=>?_) (.inr hyl))
  obtain ⟨f0,f1,f2,f3,f4,f5⟩:=f
  have haC:C≠a:=by
    rcases ha with z|z
    · rw [z];exact f1
    · exact fun e=>f4 y a z e.symm
  refine ⟨m,hn.sameBut sb haC,fun h3 sb3=>?_⟩
  exact ⟨_,H',I2.turned (t':=s2.toks) (fun b o hb e=>(sb3.2 b hb).trans e) f0 f1 f3 f4 f5,q⟩
theorem s_setDc (g:Good G k call cc W X) {i:Nat} {y:Str} {py:Pos} {kx vx tg it:Expr} {ifs:List Expr} {scope:Scope} {own:List (Str×Nat)} {pos spos:Pos} {m:Iv} {t:Tg} {mt:B} {mk mv:E} (hy:cc.N[i]?=some y) (hyl:cc.sc.names.lookup y=some .local) (hkf:cc.sc.kind= .function)
    (hl:(py.line==pos.line)=true) (ha:(scope.names.any fun (n,k)=>n==y&&(k== .local||k== .cell))=false) (hi:PI X tg it (tI G W call m)) (ok:BlkOk cc.N cc.sc scope own)
    (hg: ∀ (s:Shared) (H:Hp) (C:Addr) (cl:List (Str×Addr)) (fp:List Addr),PG (X.blk s H scope (compEnvC scope cl C X.env) fp) tg (tGA G (own.map (·.2)) t))
    (ht: ∀ (s:Shared) (H:Hp) (C:Addr) (cl:List (Str×Addr)) (fp:List Addr),PTs (X.blk s H scope (compEnvC scope cl C X.env) fp) ifs (tB_ G noW call mt))
    (hk: ∀ (s:Shared) (H:Hp) (C:Addr) (cl:List (Str×Addr)) (fp:List Addr),PE (X.blk s H scope (compEnvC scope cl C X.env) fp) kx (tE G noW call mk))
    (he: ∀ (s:Shared) (H:Hp) (C:Addr) (cl:List (Str×Addr)) (fp:List Addr),PE (X.blk s H scope (compEnvC scope cl C X.env) fp) vx (tE G noW call mv)) (hs: ∀ x,foldedSetIterable it X.env x=pure x):
    PS X (.Assign [.Name y py] (.DictComp kx vx [⟨tg,it,ifs,0⟩] scope pos) spos) (tS G W call (cAsg (mDc m t mt mk mv (own.map (·.2))) (gN i))):=by
  refine (ps_setDx (DS:=dsG G) (i:=i) (fun s0 H0 ce fp pins σ s H D y z u r N Qd E I ry rz d h=>ds_run (X:=X.blk s0 H0 scope ce fp) g.units g.K g.wd I ry rz d h) g.calm (by rw [g.N];exact g.nd) (by rw [g.N];exact hy) (by rw [g.sc];exact hyl) (sw_trueD (by rw [g.sc];exact hkf) (by rw [g.sc];exact hyl) hl ha) hi (by rw [g.N,g.sc];exact ok) hg ht hk he hs).of fun D σ H q=>?_
  have q2:=tAsg_of q
  obtain ⟨s,Φ,c,q3⟩:=q2
  refine ⟨s,Φ,c,(Aft.bind q3).mono fun ds s1 a1=>fun K J H1 nk c1 w=>fun Dd hD=>dc_walk (Q:=fun x H1=>gName i x σ H1 D.nx) nk c.bo w c1 hD (a1.mono fun r s2 p=>fun v H2 c2=>?_)⟩
  have q4:=p v H2 c2
  obtain ⟨s5,Φ5,o5,s6,nb5,c5,e5,q5⟩:=q4
  simp only [gN] at e5
  split at e5
  · rename_i hl5
    cases e5
    exact q5 _ (c5.put nb5 hl5) (by simp)
  · cases e5
theorem s_setLc2 (g:Good G k call cc W X) {i:Nat} {y:Str} {py:Pos} {elt tg it tg1 it1:Expr} {ifs ifs1:List Expr} {scope:Scope} {own:List (Str×Nat)} {vs1:List Nat} {pos spos:Pos} {m m1:Iv} {t t1:Tg} {mt mt1:B} {me:E} (hy:cc.N[i]?=some y) (hyl:cc.sc.names.lookup y=some .local) (hk:cc.sc.kind= .function)
    (hl:(py.line==pos.line)=true) (ha:(scope.names.any fun (n,k)=>n==y&&(k== .local||k== .cell))=false) (hi:PI X tg it (tI G W call m)) (ok:BlkOk cc.N cc.sc scope own) (hv: ∀ i∈vs1,i∈own.map (·.2))
    (hg: ∀ (s:Shared) (H:Hp) (C:Addr) (cl:List (Str×Addr)) (fp:List Addr),PG (X.blk s H scope (compEnvC scope cl C X.env) fp) tg (tGA G (own.map (·.2)) t))
    (ht: ∀ (s:Shared) (H:Hp) (C:Addr) (cl:List (Str×Addr)) (fp:List Addr),PTs (X.blk s H scope (compEnvC scope cl C X.env) fp) ifs (tB_ G noW call mt))
    (hi1: ∀ (s:Shared) (H:Hp) (C:Addr) (cl:List (Str×Addr)) (fp:List Addr),PI (X.blk s H scope (compEnvC scope cl C X.env) fp) tg1 it1 (tI G noW call m1))
    (hg1: ∀ (s:Shared) (H:Hp) (C:Addr) (cl:List (Str×Addr)) (fp:List Addr),PG (X.blk s H scope (compEnvC scope cl C X.env) fp) tg1 (tGA G vs1 t1))
    (ht1: ∀ (s:Shared) (H:Hp) (C:Addr) (cl:List (Str×Addr)) (fp:List Addr),PTs (X.blk s H scope (compEnvC scope cl C X.env) fp) ifs1 (tB_ G noW call mt1))
    (he: ∀ (s:Shared) (H:Hp) (C:Addr) (cl:List (Str×Addr)) (fp:List Addr),PE (X.blk s H scope (compEnvC scope cl C X.env) fp) elt (tE G noW call me)) (hs: ∀ x,foldedSetIterable it X.env x=pure x) (hs1: ∀ env x,foldedSetIterable it1 env x=pure x):
    PS X (.Assign [.Name y py] (.ListComp elt [⟨tg,it,ifs,0⟩,⟨tg1,it1,ifs1,0⟩] scope pos) spos) (tS G W call (cAsg (mLc2 m t mt m1 t1 mt1 me (own.map (·.2)) vs1) (gN i))):=by
  refine (ps_setLc2 (i:=i) g.calm (by rw [g.N];exact g.nd) (by rw [g.N];exact hy) (by rw [g.sc];exact hyl) (sw_true (by rw [g.sc];exact hk) (by rw [g.sc];exact hyl) hl ha) hi (by rw [g.N,g.sc];exact ok) hv hg ht hi1 hg1 ht1 he hs hs1).of fun D σ H q=>?_
  have q2:=tAsg_of q
  obtain ⟨s,Φ,c,q3⟩:=q2
  refine ⟨s,Φ,c,(Aft.bind q3).mono fun ds s1 a1=>fun K J H1 nk c1 w=>fun Dd hD=>lc2_walk (Q:=fun x H1=>gName i x σ H1 D.nx) hv nk c.bo w c1 hD (a1.mono fun r s2 p=>fun v H2 c2=>?_)⟩
  have q4:=p v H2 c2
  obtain ⟨s5,Φ5,o5,s6,nb5,c5,e5,q5⟩:=q4
  simp only [gN] at e5
  split at e5
  · rename_i hl5
    cases e5
    exact q5 _ (c5.put nb5 hl5) (by simp)
  · cases e5
end
end Mi
namespace Mi
open PySem PySem.Spec PyProof.Rows L2
def strO (i:Nat) (s1:S):Option O→Out R
  |some (.dic ks xs)=>(match strsD (ks.map kD) with
      |some l=>if fitsB l.length=true∧i<s1.σ.length then .ok (.own (.lst (l.map .str))) s1 else .bad
      |none=>.bad)
  |_=>.bad
def strX (i:Nat) (s1:S):R→Out R
  | .own (.fz (.loc n))=>strO i s1 (s1.h[n]?)
  | .bor j=>(match s1.σ[j]? with
    |some o=>strO i s1 o
    |none=>.bad)
  |_=>.bad
def mStr (i:Nat) (m:E):E:=fun call s=>(m call s).bind fun x s1=>strX i s1 x
def strN:List Str:=["_law_held"]
section
variable {G:GE} {k:Nat} {call:Call} {cc:CC} {W:WX} {X:Cx}
end
end Mi
namespace Mi
open PySem PySem.Spec PyProof.Rows L2
def sh63 (p:PyData):Bool:=p.canLay0&&decide (p.depth≤63)
def eqK:List Key→List D→List Key→List D→Option Bool
  |[],_,_,_=>some true
  | k::ks,x::xs,ls,ys=>(match valD ls ys k with
    |none=>some false
    |some y=>(toP x).bind fun p=>(toP y).bind fun q=>if sh63 p&&sh63 q then (eqK ks xs ls ys).map (PyData.eqv p q&& ·) else none)
  |_::_,[],_,_=>none
def dEqB:D→D→Option Bool
  | .dic ks xs,.dic ls ys=>if ks.length=xs.length∧ls.length=ys.length then (eqK ks xs ls ys).map (decide (ks.length=ls.length)&& ·) else none
  |_,_=>none
def dEq (d e:D):Option O:=(dEqB d e).map fun b=>.fz (.bl b)
def dNe (d e:D):Option O:=(dEqB d e).map fun b=>.fz (.bl (!b))
section
variable {G:GE} {k:Nat} {call:Call} {cc:CC} {W:WX} {X:Cx} {pins:List (Addr×Obj)} {σ:Sr} {H:Hp} {s:Shared}
theorem hits_of (I:Inv X pins σ H s) (hK:X.K=G.K) (hu:X.A.units+64<cLine) {ρ M ρ' M':List Addr} {ls:List Key} {ys:List D} {us:List V} (ll:ls.length=us.length) (ry:RepDs G ρ' H M' ys us) {vb:List (Key×Value)} (rb:KV (ls.zip us) vb):
    ∀ {ks:List Key} {xs:List D} {vs:List V} {va:List (Key×Value)} {r:Bool},ks.length=vs.length→RepDs G ρ H M xs vs→KV (ks.zip vs) va→eqK ks xs ls ys=some r→PySem.W.KeqHits X.A.in1 s vb va r
  | [],xs,vs,va,r,l,rx,ra,e=>by
    cases e
    have:vs=[]:=List.length_eq_zero_iff.mp l.symm
    subst this
    cases ra
    exact .nil
  |k::ks,[],vs,va,r,l,rx,ra,e=>by cases e
  | k ::ks,x::xs,vs,va,r,l,rx,ra,e=>by
    obtain ⟨v,vr,rfl,r1,r2⟩:=rx
    rw [List.zip_cons_cons] at ra
    cases ra with
    | @cons p q ps qs h t=>
      obtain ⟨h1,h2⟩:=h
      obtain ⟨key,val⟩:=q
      have h1:k=key:=h1
      subst h1
      have h2:RelV v val:=h2
      simp only [eqK] at e
      have vo:=val_of (k:=k) ll ry
      cases hv:valD ls ys k with
      | none=>
        rw [hv] at e
        cases e
        have rr:=rb.val k
        rw [vo.2 hv] at rr
        exact .miss rr.none_of
      | some y=>
        rw [hv] at e
        simp only [Option.bind_eq_some_iff] at e
        obtain ⟨p,hp,q,hq,e⟩:=e
        split at e
        · rename_i hs
          simp only [Option.map_eq_some_iff] at e
          obtain ⟨b,hb,rfl⟩:=e
          obtain ⟨u,hu1,hu2⟩:=vo.1 y hv
          have rr:=rb.val k
          rw [hu1] at rr
          obtain ⟨uu,huu,ru⟩:=rr.some_of
          simp only [sh63,Bool.and_eq_true,decide_eq_true_eq] at hs
          obtain ⟨as,e1⟩:=Dp.reads I p v val (by rw [hK];exact RepD.dp x v p r1 hp) h2
          obtain ⟨bs,e2⟩:=Dp.reads I q u uu (by rw [hK];exact RepD.dp y u q hu2 hq) ru
          refine .hit huu (SeqAt.eqAt_reads p q X.A.in1 s val uu as bs e1 e2 hs.1.1 hs.2.1 ?_) (hits_of I hK hu ll ry rb (by simpa using l) r2 t hb)
          show X.A.units+1+_<cLine
          have:=Nat.min_le_left p.depth q.depth
          omega
        · cases e
theorem dic_two (I:Inv X pins σ H s) (hK:X.K=G.K) (hu:X.A.units+64<cLine) {ρ M:List Addr} {d e:D} {x y:V} {b:Bool} (t1:RepT G ρ H M d x) (t2:RepT G ρ H M e y) (hb:dEqB d e=some b) {v u:Value} (rx:RelV x v) (ry:RelV y u):
    ∃ a c ka kb r,v= .ref a∧u= .ref c∧(a==sysModules)=false∧(c==sysModules)=false∧s.heap.DictOf (mixKind X.prog X.w) a ka∧s.heap.DictOf (mixKind X.prog X.w) c kb∧PySem.W.KeqHits X.A.in1 s kb ka r∧(ka.length==kb.length&&r)=b:=by
  unfold dEqB at hb
  split at hb
  · rename_i ks xs ls ys
    split at hb
    · simp only [Option.map_eq_some_iff] at hb
      obtain ⟨r,hr,rfl⟩:=hb
      obtain ⟨a,vs,rfl,h1,l1,r1⟩:=t1
      obtain ⟨c,us,rfl,h2,l2,r2⟩:=t2
      obtain ⟨_,hs1,va,ra,da⟩:=dk_rd I.hok h1
      obtain ⟨_,hs2,vb,rb,db⟩:=dk_rd I.hok h2
      refine ⟨a,c,va,vb,r,rx,ry,hs1,hs2,da,db,hits_of I hK hu l2 r2 rb l1 r1 ra hr, ?_⟩
      have e1:va.length=ks.length:=by
        rw [←Paired.length ra,List.length_zip,←l1];exact Nat.min_self _
      have e2:vb.length=ls.length:=by
        rw [←Paired.length rb,List.length_zip,←l2];exact Nat.min_self _
      rw [e1,e2]
      congr 1
    · cases hb
  · cases hb
theorem o_dEq (g:GoodB G cc X):OpR X (compareOp .Eq) (r2 G dEq):=by
  intro pins s σ H x y v u Q I rx ry ⟨ρ,M,h,L,d1,d2,o,cp,t1,t2,e,q⟩
  simp only [dEq,Option.map_eq_some_iff] at e
  obtain ⟨b,hb,rfl⟩:=e
  obtain ⟨a,c,ka,kb,r,rfl,rfl,hs1,hs2,da,db,hits,rfl⟩:=dic_two I g.K g.units t1 t2 hb rx ry
  exact PySem.W.keq_eq hs1 hs2 da db (by have:=g.units;omega) (fun _=>hits) ⟨.bl _,H,I,rfl,q _ _ (cp.bl _)⟩
theorem o_dNe (g:GoodB G cc X):OpR X (compareOp .NotEq) (r2 G dNe):=by
  intro pins s σ H x y v u Q I rx ry ⟨ρ,M,h,L,d1,d2,o,cp,t1,t2,e,q⟩
  simp only [dNe,Option.map_eq_some_iff] at e
  obtain ⟨b,hb,rfl⟩:=e
  obtain ⟨a,c,ka,kb,r,rfl,rfl,hs1,hs2,da,db,hits,rfl⟩:=dic_two I g.K g.units t1 t2 hb rx ry
  exact PySem.W.keq_ne hs1 hs2 da db (by have:=g.units;omega) (fun _=>hits) ⟨.bl _,H,I,rfl,q _ _ (cp.bl _)⟩
abbrev eqX:D→D→Option O:=or2 eqD dEq
abbrev neX:D→D→Option O:=or2 neD dNe
theorem o_eqX (g:GoodB G cc X):OpR X (compareOp .Eq) (r2 G eqX):=o_or (o_eq g.K g.units) (o_dEq g)
theorem o_neX (g:GoodB G cc X):OpR X (compareOp .NotEq) (r2 G neX):=o_or (o_ne g.K g.units) (o_dNe g)
end
end Mi
namespace Mi
open PySem PySem.Spec PyProof.Rows L2
def seesC (h:List O):List D→Option (List D)
  |[]=>some []
  |d::ds=>(deref h d).bind fun e=>(seesC h ds).map (e:: ·)
def neC (h:List O) (d e:D):Option O:=match d,e with
  | .lst ds,.lst bs=>(seesC h ds).bind fun es=>(toPs es).bind fun ps=>(seesC h bs).bind fun cs=>(toPs cs).bind fun qs=>if SeqAt.shaped (.list ps)&&SeqAt.shaped (.list qs) then some (.fz (.bl (!(PyData.eqv (.list ps) (.list qs))))) else none
  |_,_=>none
section
variable {G:GE} {W:WX} {call:Call} {X:Cx}
def isPL:Expr→Bool
  | .List [.Name a _,.Name b _] _=>decide (a="_law_past")&&decide (b="_law_later")
  |_=>false
end
end Mi
namespace Mi
open PySem PySem.Spec PyProof.Rows L2
def bYes:B:=fun _ s=>.ok true s
def cAug (i:Nat) (f:Int→Int→Int) (m:E):C:=fun call s=>match s.σ[i]? with
  | some (some (.fz (.int a)))=>(m call s).flow fun y s1=>(match peek s1 y with
    |some (.int b)=>.nx ⟨s1.σ.set i (some (.fz (.int (f a b)))),s1.h⟩
    |_=>.bad)
  |_=>.bad
structure MFn where
  N:List Str
  np:Nat
  body:C
  df:List D:=[]
def start0 (N:List Str) (ds:List D):List (Option O):=ds.map (fun d=>some (.fz d))++List.replicate (N.length - ds.length) none
def fill (np:Nat) (df ds:List D):List D:=ds++df.drop (df.length - (np - ds.length))
def runFn (mf:MFn) (call:Call) (ds:List D) (h:List O):Res:=if (fill mf.np mf.df ds).length=mf.np then (match mf.body call ⟨start0 mf.N (fill mf.np mf.df ds),h⟩ with
  | .rt o s=>.ok o s.h
  | .nx s=>.ok (.fz .non) s.h
  | .exc c d s=>.exc c d s.h
  |_=>.bad) else .bad
theorem fill_full {np:Nat} {df ds:List D} (h:ds.length=np):fill np df ds=ds:=by
  unfold fill
  rw [h,Nat.sub_self,Nat.sub_zero,List.drop_length,List.append_nil]
def callN (tab:Str→Option MFn):Nat→Call
  |0=>fun _ _ _=>.bad
  | k+1=>fun f ds h=>match tab f with
    |some mf=>runFn mf (callN tab k) ds h
    |none=>.bad
end Mi
namespace Mi
open PySem PySem.Spec PyProof.Rows L2
def allM0:List (Str×Str):=[("Beside","woven"),("Beside","pairs"),("Beside","shown"),("Beside","way_apart"),("Beside","parting"),("Beside","is_alike"),("Beside","parts"),("Console","run"),("Console","stepping"),("Console","short"),("Console","about"),("Core","add_open"),("Core","add"),("Core","twin"),("Core","do"),("Core","told_value"),("Stack","__len__"),("Stack","check_depth"),("Stack","led_in"),("Stack","beneath"),("Stack","shown"),("Stack","shown_names"),("Menu","__len__"),("Menu","__iter__"),("Menu","__getitem__")]
def allM1:List (Str×Str):=[("Menu","__contains__"),("Menu","__add__"),("Menu","__eq__"),("Menu","is_chosen"),("Menu","check_chosen"),("Menu","__call__"),("Menu","stays"),("Marks","add"),("Marks","add_mark"),("Marks","behind_rows"),("Marks","needed"),("Marks","depth"),("Marks","spot_of"),("Marks","holds_in"),("Loom","rows_to"),("Loom","all_rows"),("Loom","weave"),("Loom","up_to"),("Loom","stood"),("Loom","at"),("Loom","always"),("Loom","unlike_way"),("Loom","step_back"),("Loom","fails"),("Made","__eq__")]
def allM2:List (Str×Str):=[("Made","code"),("Made","rows"),("Made","returned"),("Made","labels"),("Made","stops"),("Made","all_stops"),("Made","has_stop"),("Made","label"),("Made","place_of"),("Made","places"),("Made","entry_of"),("Made","with_rows"),("Made","with_copy"),("Made","plain"),("Walk","terms"),("Walk","term"),("Walk","named"),("Walk","late"),("Walk","held"),("Walk","shown"),("Walk","history"),("Walk","coming"),("Walk","returned"),("Player","play_row"),("Session","strict")]
def allM3:List (Str×Str):=[("Session","be_strict"),("Session","__len__"),("Session","table"),("Session","put"),("Session","show"),("Session","hide"),("Session","undo"),("Session","trial"),("Session","attempt"),("Session","keep"),("Trial","__enter__"),("Trial","accept"),("Trial","__exit__"),("Shape","opening"),("Shape","__len__"),("Shape","__contains__"),("Shape","__iter__"),("Shape","__eq__"),("Shape","__and__"),("Shape","__le__"),("Shape","value"),("Shape","all_marks"),("Shape","holds"),("Source","__iter__"),("Source","__contains__")]
def allM4:List (Str×Str):=[("Source","__len__"),("Source","__getitem__"),("Source","__eq__"),("Source","blocks"),("Source","rows"),("Source","end"),("Source","nexts"),("Source","names"),("Source","reached"),("Standing","__len__"),("Standing","__iter__"),("Standing","__getitem__"),("Standing","at"),("Standing","up_to"),("Table","__getitem__"),("Table","__len__"),("Table","__iter__"),("Table","__eq__"),("Table","__or__"),("Table","__le__"),("Table","__call__"),("Table","rows"),("Table","entry"),("Table","without"),("Table","with_entry")]
def allM5:List (Str×Str):=[("Teller","nodes_at"),("Teller","is_asked"),("Teller","asked_stops"),("Teller","check"),("Teller","tells"),("Teller","by_places"),("Teller","told_by"),("Pool","number"),("Pool","build"),("Pool","term"),("Pool","nothing"),("Reader","refuse"),("Reader","here"),("Reader","inner"),("Reader","next_block"),("Worker","begin"),("Worker","result"),("Worker","do"),("Worker","copied"),("Worker","behind"),("Trip","last"),("Trip","at_source"),("Trip","at_made"),("Trip","shown_number"),("Trip","check_name")]
def allM6:List (Str×Str):=[("Trip","past_numbers"),("Trip","later_numbers"),("Trip","returned_numbers")]
def allM:List (Str×Str):=allM0++allM1++allM2++allM3++allM4++allM5++allM6
end Mi
namespace Mi
open PySem PySem.Spec PyProof.Rows L2
def rngT:D→Option O
  | .int n=>if decide (0≤n)&&decide (n≤100000) then some (.fz (.tup (rangeD 0 n.toNat))) else none
  |_=>none
def joinS (a:Str) (ds:List D):Option O:=(strsD ds).bind fun ys=>if decide ((ys.map (·.length)).sum+ys.length*a.length≤16777216) then some (.fz (.str (Txt.join a ys))) else none
def joinD (a:Str):D→Option O
  | .lst ds=>joinS a ds
  | .tup ds=>joinS a ds
  |_=>none
section
variable {G:GE} {W:WX} {call:Call} {X:Cx}
theorem rep_rg {ρ M:List Addr} {H:Hp} {n:Int}:RepDs G ρ H M (rangeD 0 n.toNat) (rgV 0 n):=by
  have e1:rangeD 0 n.toNat=((List.range n.toNat).map fun i=>(0:Int)+(i:Nat)).map D.int:=by rw [rangeD,List.map_map];rfl
  have e2:rgV 0 n=((List.range n.toNat).map fun i=>(0:Int)+(i:Nat)).map V.int:=by rw [rgV,List.map_map,Int.sub_zero];rfl
  rw [e1,e2]
  exact rep_ints _
theorem e_trg (hb:G.bare=false) (hc:X.calm=true) {a:Expr} {m:E} {p p2 pos pos2:Pos} (hl:Gl X "tuple") (hlm:X.mg "tuple"=none) (hr:Gl X "range") (hrm:X.mg "range"=none) (he:PE X a (tE G W call m)) (hs:notStar a=true):
    PE X (.Call (.Name "tuple" p) [.Call (.Name "range" p2) [a] [] pos2] [] pos) (tE G W call (mOne rngT m)):=by
  refine (pe_tupRg hc hl hlm (prg_1 hr hrm he (star_cons hs))).of fun σ H Q q=>?_
  obtain ⟨st,Φ,c,q⟩:=tOne q
  refine ⟨st,Φ,c,q.mono fun y s1 z=>fun v H1 c1=>?_⟩
  obtain ⟨ρ,M,h0,L,d,o,cp,t,ef,fin⟩:=z v H1 c1
  unfold rngT at ef
  split at ef
  · rename_i n
    split at ef
    · rename_i hn
      simp only [Bool.and_eq_true,decide_eq_true_eq] at hn
      cases ef
      exact ⟨n,t,.of_le (by omega) (by omega) (by omega) (by omega),fun q hq=>fin _ _ (cp.tupNew rep_rg hq ⟨hb,rfl⟩)⟩
    · cases ef
  · cases ef
theorem rep_strs_eq {ρ M:List Addr} {H:Hp}: ∀ {l:List Str} {vs:List V},RepDs G ρ H M (l.map D.str) vs→vs=l.map V.str
  |[],vs,h=>h
  | x::l,vs,h=>by
    obtain ⟨v,r,rfl,h1,h2⟩:=h
    rw [show v=V.str x from h1,rep_strs_eq h2];rfl
theorem e_join (hK:X.K=G.K) {a:Str} {e:Expr} {m:E} {j:Nat} {pc apos pos:Pos} (he:PE X e (tE G W call m)) (hs:notStar e=true) (hl:(apos.endLine==pos.line)=true):
    PE X (.Call (.Attribute (.Constant (.str a) j pc) "join" apos) [e] [] pos) (tE G W call (mOne (joinD a) m)):=by
  refine (pe_join (pe_str (x:=a) (j:=j) (pos:=pc)) he (star_cons hs) rfl hl).of fun σ H Q q=>?_
  obtain ⟨st,Φ,c,q⟩:=tOne q
  refine ⟨⟨a,rfl⟩,st,Φ,c,q.mono fun y s1 z=>fun v H1 c1=>?_⟩
  obtain ⟨ρ,M,h0,L,d,o,cp,t,ef,fin⟩:=z v H1 c1
  have fin2: ∀ {ds:List D} {b:Addr} {vs:List V},joinS a ds=some o→v= .ref b→RepDs G ρ H1 M ds vs→(SqL X.K H1 b vs∨SqT X.K H1 b vs)→∃ a_1 p,∃ ys:List Str,V.str a= .str a_1∧[v]=[.ref p]∧(SqL X.K H1 p (ys.map V.str)∨SqT X.K H1 p (ys.map V.str))∧(ys.map (·.length)).sum+ys.length*a_1.length≤16777216∧Q (.str (Txt.join a_1 ys)) H1:=fun {ds b vs} e ev rd sq=>by
    unfold joinS at e
    simp only [Option.bind_eq_some_iff] at e
    obtain ⟨ys,e1,e2⟩:=e
    split at e2
    · rename_i hz
      cases e2
      rw [strsD_eq e1] at rd
      rw [rep_strs_eq rd] at sq
      exact ⟨a,b,ys,rfl,by rw [ev],sq,of_decide_eq_true hz,fin _ _ (cp.cf.simple rfl)⟩
    · cases e2
  unfold joinD at ef
  split at ef
  · rename_i ds
    obtain ⟨b,vs,ev,t',rd⟩:=listD_of t rfl
    exact fin2 ef ev rd (.inl (by rw [hK];exact t'))
  · rename_i ds
    obtain ⟨b,vs,ev,t',rd⟩:=t
    exact fin2 ef ev rd (.inr (by rw [hK];exact t'.sq))
  · cases ef
end
end Mi
namespace Mi
open PySem PySem.Spec PyProof.Rows L2
def kFs (go:Str→E) (acc:Str) (call:Call) (s:S):Option D→Out R
  |some (.str y)=>if fitsB (acc.length+y.length) then go (acc++y) call s else .bad
  |_=>.bad
def mFs:List E→Str→E
  |[],acc=>fun _ s=>.ok (.own (.fz (.str acc))) s
  |m::ms,acc=>fun call s=>(m call s).bind fun x s1=>kFs (mFs ms) acc call s1 (peek s1 x)
section
variable {G:GE} {k:Nat} {call:Call} {cc:CC} {W:WX} {X:Cx}
theorem tE_mono {m:E} {σ:Sr} {H:Hp} {P P':VK} (h:tE G W call m σ H P) (f: ∀ v H1,P v H1→P' v H1):tE G W call m σ H P':=by
  obtain ⟨s,Φ,c,a⟩:=h
  exact ⟨s,Φ,c,a.mono fun x s1 a1 v H1 c1=>f v H1 (a1 v H1 c1)⟩
theorem fs_nil {acc:Str} {σ:Sr} {H:Hp} {Q:VK} (h:tE G W call (mFs [] acc) σ H Q):Q (.str acc) H:=by
  obtain ⟨s,Φ,c,a⟩:=h
  obtain ⟨ρ,M,cp⟩:=c.parts
  exact a (.str acc) H (CfS.cpMore (K:=[]) c cp rfl)
theorem fs_cons {m:E} {ms:List E} {acc:Str} {σ:Sr} {H:Hp} {Q:VK} (h:tE G W call (mFs (m::ms) acc) σ H Q):
    tE G W call m σ H fun v H1=> ∃ y:Str,v= .str y∧y.length≤sizeLine∧(acc++y).length≤sizeLine∧tE G W call (mFs ms (acc++y)) σ H1 Q:=by
  obtain ⟨s,Φ,c,a⟩:=h
  refine ⟨s,Φ,c,(Aft.bind a).mono fun x s1 a1=>fun v H1 c1=>?_⟩
  cases ep:peek s1 x with
  |none=>rw [ep] at a1;exact a1.elim
  | some d=>
    rw [ep] at a1
    cases d with
    | str y=>
      have a2:Aft G W σ Φ (PV G σ Φ Q) (if fitsB (acc.length+y.length) then mFs ms (acc++y) call s1 else .bad):=a1
      split at a2
      · rename_i hf
        obtain ⟨ρ,M,cp⟩:=c1.parts
        have r:v=V.str y:=c1.peek (r:=x) (v:=v) (by simp) ep cp
        have hz:=fits hf
        refine ⟨y,r,by omega,by rw [strLen_append];exact hz,s1,(x,v)::Φ,c1,a2.frame1.mono fun z s2 q=>fun v2 H2 c2=>q v2 H2 ?_⟩
        exact (c2.perm (List.Perm.swap _ _ _)).dropN (K:=[(x,v)])
      · exact a2.elim
    |_=>all_goals exact a1.elim
def FsOk (G:GE) (W:WX) (call:Call) (X:Cx) (es:List Expr) (ms:List E):Prop:= ∃ ts,PJ X es ts∧∀ (acc:Str) (σ:Sr) (H:Hp) (Q:VK),tE G W call (mFs ms acc) σ H Q→tJs ts acc σ H (fun out H1=>Q (.str out) H1)
theorem fs_ok0:FsOk G W call X [] []:=⟨[],.nil,fun acc σ H Q h=>fs_nil h⟩
theorem fs_okT {e:Expr} {m:E} {es:List Expr} {ms:List E} (he:PE X e (tE G W call m)) (r:FsOk G W call X es ms):FsOk G W call X (e::es) (m::ms):=by
  obtain ⟨ts,pj,ih⟩:=r
  refine ⟨_,.cons he pj,fun acc σ H Q h=>?_⟩
  exact tE_mono (fs_cons h) fun v H1 ⟨y,e,h1,h2,q⟩=>⟨y,e,h2,ih _ _ _ _ q⟩
theorem fs_okF {e:Expr} {m:E} {es:List Expr} {ms:List E} {pos:Pos} (he:PE X e (tE G W call m)) (r:FsOk G W call X es ms):FsOk G W call X (.FormattedValue e (-1) none pos::es) (m::ms):=by
  obtain ⟨ts,pj,ih⟩:=r
  refine ⟨_,.cons (pe_fmt he) pj,fun acc σ H Q h=>?_⟩
  exact tE_mono (fs_cons h) fun v H1 ⟨y,e,h1,h2,q⟩=>.inl ⟨y,e,h1,y,rfl,h2,ih _ _ _ _ q⟩
end
section
variable {P:Program} {w:World} {K:PySem.W.Frag} {tg:Expr} {d:Addr} {o:Obj} {es:Array DictEntry} {ep:Nat}
end
section
variable {G:GE} {ρ M:List Addr} {H:Hp} {X:Cx} {pins:List (Addr×Obj)} {σ:L2.St} {s:Shared}
structure PrK (G:GE) (ρ:List Addr) (H:Hp) (M:List Addr) (X:Cx) (s:Shared) (z:D×Addr×(NestedKey×Addr×Value)):Prop where
  tup:s.heap.IsTuple z.2.1 #[.ref z.2.2.2.1,z.2.2.2.2]
  key:nkD z.1=z.2.2.1
  rep:RepD G ρ H M z.1 (.ref z.2.2.2.1)
  is:(nestedKind X.prog X.w).is s.heap z.2.2.1 z.2.2.2.1
end
section
variable {G:GE} {k:Nat} {call:Call} {cc:CC} {W:WX} {X:Cx}
end
end Mi
namespace Mi
open PySem PySem.Spec PyProof.Rows L2
section
variable {G:GE} {ρ:List Addr} {H:Hp} {M:List Addr} {d:Addr} {φ:Heap→Prop} {od:Obj}
abbrev lockX (H:Hp) (d:Addr) (od:Obj) (φ:Heap→Prop):Hp:=upd H d (.frz od (.ext φ))
theorem lockX_ne {a:Addr} (z:a≠d):lockX H d od φ a=H a:=upd_ne z
theorem lockX_keep (hd:H d=some (.ext φ)) {a:Addr} {o:HO} (e:H a=some o) (h: ∀ x,o≠.ext x):lockX H d od φ a=some o:=by
  have:a≠d:=fun z=>by subst z;rw [hd] at e;cases e;exact h _ rfl
  rw [lockX_ne this];exact e
theorem lockX_rd (hd:H d=some (.ext φ)) {a:Addr} {u:HO} (r:Rd H a u):Rd (lockX H d od φ) a u:=by
  by_cases z:a=d
  · subst z
    rcases r with r|⟨o,r⟩
    · rw [hd] at r;cases r;exact .inr ⟨od,upd_same⟩
    · rw [hd] at r;cases r
  · rcases r with r|⟨o,r⟩
    · exact .inl (by rw [lockX_ne z];exact r)
    · exact .inr ⟨o,by rw [lockX_ne z];exact r⟩
mutual
theorem RepD.lockX (hd:H d=some (.ext φ)): ∀ (x:D) (v:V),RepD G ρ H M x v→RepD G ρ (lockX H d od φ) M x v
  | .non,v,h=>h
  | .bl b,v,h=>h
  | .int i,v,h=>h
  | .str x,v,h=>h
  | .tup ds,v,h=>by
    obtain ⟨a,vs,e,t,r⟩:=h
    refine ⟨a,vs,e, ?_,RepDs.lockX hd ds vs r⟩
    rcases t with ⟨ho,q,i,n⟩|t
    · exact .inl ⟨ho,lockX_keep hd q (fun x z=>by subst z;exact i.elim),i,n⟩
    · exact .inr t
  | .lst ds,v,h=>by obtain ⟨a,vs,e,t,n,r⟩:=h;exact ⟨a,vs,e,lockX_keep hd t (by simp),n,RepDs.lockX hd ds vs r⟩
  | .dic ks ds,v,h=>by obtain ⟨a,vs,e,t,l,n,r⟩:=h;exact ⟨a,vs,e,lockX_rd hd t,l,n,RepDs.lockX hd ds vs r⟩
  | .ins c fs ds,v,h=>by obtain ⟨a,C,dx,vs,e,g,t,l,n,r⟩:=h;exact ⟨a,C,dx,vs,e,g,lockX_keep hd t (by simp),l,n,RepDs.lockX hd ds vs r⟩
  | .dct ks ds,v,h=>by obtain ⟨a,bs,vs,e,t,l,fk,n,rk,r⟩:=h;exact ⟨a,bs,vs,e,lockX_rd hd t,l,fk,n,RepDs.lockX hd ks _ rk,RepDs.lockX hd ds vs r⟩
  | .loc n,v,h=>h
  | .fn f,v,h=>h
  | .scr ns,v,h=>by
    obtain ⟨a,e,t|t⟩:=h
    · exact ⟨a,e,.inl ⟨lockX_rd hd t.1,t.2⟩⟩
    · exact ⟨a,e,.inr t⟩
  | .ty n,v,h=>h
  | .cls c,v,h=>h
  | .lk o x,v,h=>by obtain ⟨a,e,t,n⟩:=h;exact ⟨a,e,lockX_keep hd t (by simp),n⟩
  | .xn c f x,v,h=>by obtain ⟨a,a',C,v',e1,e2,e3,t,n,r⟩:=h;exact ⟨a,a',C,v',e1,e2,e3,lockX_keep hd t (by simp),n,RepD.lockX hd x v' r⟩
theorem RepDs.lockX (hd:H d=some (.ext φ)): ∀ (ds:List D) (vs:List V),RepDs G ρ H M ds vs→RepDs G ρ (lockX H d od φ) M ds vs
  |[],vs,h=>h
  | x::ds,vs,h=>by
    obtain ⟨v,r,e,h1,h2⟩:=h
    exact ⟨v,r,e,RepD.lockX hd x v h1,RepDs.lockX hd ds r h2⟩
end
theorem Own.lockX (hd:H d=some (.ext φ)) {o:O} {v:V} {F:List Addr} (w:Own G ρ H M o v F) (hF:d∉F):Own G ρ (lockX H d od φ) M o v F:=by
  cases o with
  |fz x=>exact ⟨RepD.lockX hd x v w.1,w.2⟩
  |lst ds=>obtain ⟨a,vs,e,t,r,f⟩:=w;exact ⟨a,vs,e,lockX_keep hd t (by simp),RepDs.lockX hd ds vs r,f⟩
  |dic ks ds=>obtain ⟨a,vs,e,t,l,r,f⟩:=w;exact ⟨a,vs,e,lockX_keep hd t (by simp),l,RepDs.lockX hd ds vs r,f⟩
  |ins c fs ds=>obtain ⟨a,C,dx,vs,e,g,t,l,r,f⟩:=w;exact ⟨a,C,dx,vs,e,g,lockX_keep hd t (by simp),l,RepDs.lockX hd ds vs r,f⟩
  | dct ks ds=>
    obtain ⟨a,bs,vs,e,t,l,fk,rk,r,f⟩:=w
    refine ⟨a,bs,vs,e, ?_,l,fk,RepDs.lockX hd ks _ rk,RepDs.lockX hd ds vs r,f⟩
    rw [lockX_ne (fun z:a=d=>hF (by rw [f];simp [z]))];exact t
theorem Owns.lockX (hd:H d=some (.ext φ)): ∀ {L:List (O×V)} {F:List Addr},Owns G ρ H M L F→d∉F→Owns G ρ (lockX H d od φ) M L F
  |[],F,h,_=>h
  | p::ps,F,h,hF=>by
    obtain ⟨A,B,e,h1,h2⟩:=h
    subst e
    exact ⟨A,B,rfl,h1.lockX hd fun z=>hF (List.mem_append_left _ z),Owns.lockX hd h2 fun z=>hF (List.mem_append_right _ z)⟩
end
section
variable {P:Program} {w:World} {K:PySem.W.Frag} {tg:Expr} {d:Addr} {o:Obj} {es:Array DictEntry} {ep:Nat} {φ:Heap→Prop}
end
section
variable {G:GE} {k:Nat} {call:Call} {cc:CC} {W:WX} {X:Cx}
end
end Mi
namespace Mi
open PySem PySem.Spec PyProof.Rows L2
theorem getmethsm_ok {X:Cx} {pins:List (Addr×Obj)} {σ:Sr} {H:Hp} {s:Shared} {C p g:Addr} {m:Str} {A:Around} {E:Value→Shared→Prop} {pl:Sem Bool} {Q:Value×List Value→Shared→Prop} (I:Inv X pins σ H s) (k:StM X.K C m p g)
    (h: ∀ s',Inv X pins σ H s'→Q (.ref g,[]) s'):wpAny (model X.prog X.w) A (getMethod (.ref C) m pl) Q E s:=by
  obtain ⟨rest,hp⟩:=k.rc
  exact PySem.W.method_cls I.kIn k.ga (PySem.W.cls_bind I.kIn k.rd k.at_ (wpAny_call (PySem.W.sm_get (s:={s with toks:=s.toks+1}) I.kIn hp (PySem.W.handed_on rfl (h _ (I.tok _))))))
section
variable {G:GE} {k:Nat} {call:Call} {cc:CC} {W:WX} {X:Cx}
theorem e_sm (g:Good G k call cc W X) {c m:Str} {e:Expr} {es:List Expr} {r:As} {p apos pos:Pos} {C P a:Addr} {fd:FuncData} {ps:List Str} (hC:G.cls c=some C) (hS:StM X.K C m P a) (hk:PySem.W.keepIn X.K (.ref a)=true) (F:CallOk G call X k (mkey c m) a fd ps) (hb:ShOk G call X (mkey c m) fd ps (es.length+1) [])
    (hg:cc.sc.names.lookup c=some .globalImplicit) (h:PA X (e::es) (tL G W call r)) (hl:lenA r (es.length+1)) (hn:(e::es).all notStar=true) (hfew:fewB (e::es).length=true) (hln:(apos.endLine==pos.line)=true) (hd:(c==("__debug__":Str))=false):
    PE X (.Call (.Attribute (.Name c p) m apos) (e::es) [] pos) (tE G W call (mCall (mkey c m) r)):=by
  obtain ⟨ds,bs,fl⟩:=hb
  obtain ⟨pl,hpl⟩:=meth_eval (o:=.Name c p) (name:=m) (apos:=apos) (pos:=pos) (args:=e::es) (env:=X.env) (base_ok rfl) (few_ok hn hfew) hln
  simp only [List.all_cons,Bool.and_eq_true] at hn
  refine ⟨fun pins s σ H Q I q=>?_⟩
  have ev:tL G W call r σ H (fun vs H1=>vs.length=es.length+1∧∀ dvs,(∀ ρ H M,RepDs G ρ H M ds dvs)→spC G call (mkey c m) ps.length (vs++([]++dvs)) H1 Q (WE W σ)):=by
    obtain ⟨st,Φ,c',a⟩:=q
    unfold mCall at a
    have a':=Aft.bind a
    refine ⟨st,Φ,c', ?_⟩
    cases er:r call st with
    | ok xs s1=>
      rw [er] at a'
      intro vs H1 l c1
      have hx:=hl call st xs s1 er
      refine ⟨by rw [←l];exact hx,fun dvs rep=>?_⟩
      rw [List.nil_append]
      exact call_fill fl hx bs.1 l c1 rep a'
    |exc cn d s1=>rw [er] at a';exact a'
    |bad=>rw [er] at a';exact a'
  have pn:PE X (.Name c p) (tC (.ref C)):=pe_glob (v:=.ref C) (by show X.env.scope.names.lookup c=_;rw [g.sc];exact hg) (g.cls c C hC).2 rfl hd
  refine PySem.W.methodCall_KW (pl:=pl) (thn (pn.run pins s σ H (fun x H1=>x= .ref C∧tL G W call r σ H1 _) I ⟨rfl,ev⟩) fun u s1 ⟨x,H1,I1,rx,ex,tl⟩=>?_) hpl
  subst ex
  obtain rfl:u=Value.ref C:=rx
  refine getmethsm_ok I1 hS fun s2 I2=>?_
  refine PySem.W.callWith_K (first:=[]) (h₀:=X.base) I.ok.mod.kin hk (thn (h.run pos pins s2 σ H1 _ I2 tl) fun us s3 ⟨vs,H2,I3,rv,hvl,told⟩=>⟨I3.kIn, ?_⟩) (star_cons hn.1) (star_any hn.2)
  exact run_fnG (us:=us) (kws:=[]) (ws:=[]) (zs:=[]) F (g.room.mono (by omega)) g.gd bs (passAt g.tk σ) I3 rv .nil (by rw [←rv.length];exact hvl) rfl told
end
end Mi
namespace Mi
open PySem PySem.Spec PyProof.Rows L2
section
variable {prog:Program} {w:World} {K:Type} [DecidableEq K] {knd:KeyKind prog w K} {A:Around} {E:Value→Shared→Prop} {s:Shared}
end
section
variable {X:Cx}
end
section
variable {G:GE} {H:Hp} {σr:Sr} {s:S} {Φ:List (R×V)} {p:Addr}
end
section
variable {G:GE} {k:Nat} {call:Call} {cc:CC} {W:WX} {X:Cx}
end
section
variable {G:GE} {k:Nat} {call:Call} {cc:CC} {W:WX} {X:Cx}
end
end Mi
namespace Mi
open PySem PySem.Spec PyProof.Rows L2
def keysD:List D→Option (List Key)
  |[]=>some []
  |d::ds=>(keyD d).bind fun k=>(keysD ds).map fun ks=>k::ks
section
variable {G:GE} {X:Cx} {ρ:List Addr} {H:Hp} {M:List Addr}
theorem RepDs.keysOf: ∀ {ds:List D} {vs:List V} {ks:List Key},RepDs G ρ H M ds vs→keysD ds=some ks→vs=ks.map kV
  | [],vs,ks,r,e=>by
    cases e
    exact r
  | d::ds,vs,ks,r,e=>by
    obtain ⟨v,r',ev,h1,h2⟩:=r
    subst ev
    simp only [keysD,Option.bind_eq_some_iff,Option.map_eq_some_iff] at e
    obtain ⟨k,e1,ks',e2,e3⟩:=e
    subst e3
    rw [List.map_cons,←RepDs.keysOf h2 e2,key_of' (RepD.view h1) e1]
end
section
variable {G:GE} {call:Call} {cc:CC} {W:WX} {X:Cx}
end
end Mi
namespace Mi
open PySem PySem.Spec PyProof.Rows L2
section
variable {G:GE} {k:Nat} {call:Call} {cc:CC} {W:WX} {X:Cx}
def isNm:Expr→Bool
  | .Name .. =>true
  |_=>false
structure M2g (X:Cx) (o:Expr) (m:Str) (apos:Pos) (e f:Expr) (cpos:Pos):Prop where
  base:attributeBase o m X.env (eval o X.env)=eval o X.env
  few:((backTo cpos (starEach [e,f] X.env)).all (fun x=>!x.1)&&(backToKw cpos (keywordEach [] X.env)).all (fun x=>x.1.isSome)
    &&decide (([e,f]:List Expr).length+([]:List Keyword).length+(if ([]:List Keyword).isEmpty then 0 else 1)<30))=true
  line:(apos.endLine==cpos.line)=true∨isNm o=false
  trees:backTo cpos (starEach [e,f] X.env)=[(false,eval e X.env),(false,eval f X.env)]
end
end Mi
namespace Mi
open PySem PySem.Spec PyProof.Rows L2
section
variable {G:GE} {k:Nat} {call:Call} {cc:CC} {W:WX} {X:Cx}
theorem e_bin2 {f:Call→S→R→R→Out R} {op:Operator} {a b:Expr} {ma mb:E} {pos:Pos} (ho:OpS X (binaryOp op) (rB G W call f)) (ha:PE X a (tE G W call ma)) (hb:PE X b (tE G W call mb)):PE X (.BinOp a op b pos) (tE G W call (bin2 f ma mb)):=
  ⟨fun pins s σ H Q I h=>wpAny_BinOp (binT ha hb I (tBin2 h) fun v u s2 x y H2 I2 rx ry q=>ho pins s2 σ H2 x y v u Q I2 rx ry q)⟩
end
end Mi
namespace Mi
open PySem PySem.Spec PyProof.Rows L2
noncomputable section
end
section
variable {G:GE} {k:Nat} {call:Call} {cc:CC} {W:WX} {X:Cx}
end
end Mi
namespace Mi
open PySem PySem.Spec PyProof.Rows L2
section
variable {G:GE} {cc:CC} {X:Cx}
end
end Mi
namespace Mi
open PySem PySem.Spec PyProof.Rows L2
section
variable {G:GE} {k:Nat} {call:Call} {cc:CC} {W:WX} {X:Cx}
theorem Cf.fnv {H:Hp} {h:List O} {L:List (O×V)} {f:Str} {a:Addr} (c:Cf G H h L) (e:G.fns f=some a):Cf G H h ((.fz (.fn f),.ref a)::L):=by
  obtain ⟨ρ,M,cp⟩:=c
  exact Cf.fz1.mpr ⟨ρ,M,cp,a,rfl,e⟩
theorem e_fnV (g:Good G k call cc W X) {f:Str} {p:Pos} (hf:f∈cc.fns) (hg:cc.sc.names.lookup f=some .globalImplicit) (hd:(f==("__debug__":Str))=false):PE X (.Name f p) (tE G W call (mCon (.fn f))):=by
  obtain ⟨a,fd,ps,ga,hm,hk,F,hb⟩:=g.fns f hf
  refine (pe_glob (v:=.ref a) (g.gl hg) hm rfl hd).of fun σ H Q h=>?_
  obtain ⟨s,Φ,c,q⟩:=h
  exact q _ H (CfS.more (K:=[]) c (c.cf.fnv ga))
def kCallF (fl:List Str) (r:As) (call:Call) (s:S):Option D→Out R
  |some (.fn f)=>if f∈fl then (r call s).bind fun ds s2=>resOut s2.σ (call f ds s2.h) else .bad
  |_=>.bad
def mCallF (fl:List Str) (mx:E) (r:As):E:=fun call s=>(mx call s).bind fun x s1=>kCallF fl r call s1 (peek s1 x)
def Told (G:GE) (W:WX) (call:Call) (σ:Sr) (Q:VK) (n:Nat) (f:Str):List V→Hp→Prop:=fun ws H2=> ∃ (sx:S) (Φ:List (R×V)) (xs:List D),xs.length=n∧xs.length=ws.length∧CfS G σ H2 sx (FzR xs ws++Φ)∧Aft G W σ Φ (PV G σ Φ Q) (resOut sx.σ (call f xs sx.h))
theorem kCallF_told {fl:List Str} {r:As} {n:Nat} {s1:S} {σ:Sr} {H1:Hp} {Φ:List (R×V)} {f:Str} {Q:VK} (hl:lenA r n) (c1:CfS G σ H1 s1 Φ) (a1:Aft G W σ Φ (PV G σ Φ Q) (kCallF fl r call s1 (some (.fn f)))):f∈fl∧tL G W call r σ H1 (Told G W call σ Q n f):=by
  have a0:Aft G W σ Φ (PV G σ Φ Q) (if f∈fl then (r call s1).bind fun ds s2=>resOut s2.σ (call f ds s2.h) else .bad):=a1
  by_cases hin:f∈fl
  · rw [if_pos hin] at a0
    refine ⟨hin,s1,_,c1, ?_⟩
    have a2:=Aft.bind a0
    cases er:r call s1 with
    | ok xs s3=>
      rw [er] at a2
      intro ws H3 l3 c3
      exact ⟨s3,Φ,xs,hl _ _ _ _ er,l3,c3,a2⟩
    |exc cn d' s3=>rw [er] at a2;exact a2
    |bad=>rw [er] at a2;exact a2
  · rw [if_neg hin] at a0
    exact a0.elim
theorem told_run (g:Good G k call cc W X) {f:Str} {a:Addr} {n:Nat} {σ:Sr} {pins:List (Addr×Obj)} {H2:Hp} {s2:Shared} {Q:VK} {us:List Value} {ws:List V} (ga:G.fns f=some a) (hs:(f,n,[])∈cc.shp) (I2:Inv X pins σ H2 s2) (rv:Vals ws us) (t:Told G W call σ Q n f ws H2):
    wpAny (model X.prog X.w) X.A (PySem.call (.ref a) us) (EP X pins σ Q) X.xe s2:=by
  obtain ⟨sx,Φ,xs,hxl,l3,c3,a3⟩:=t
  obtain ⟨a',fd,ps,ga',hm,hk,F,hb⟩:=g.fns f (g.fnx f a ga)
  obtain rfl:a'=a:=by rw [ga] at ga';cases ga';rfl
  obtain ⟨ds,bs,fls⟩:=hb _ _ hs
  refine run_fnG (us:=us) (kws:=[]) (ws:=[]) (zs:=[]) F (g.room.mono (by omega)) g.gd bs (passAt g.tk σ) I2 rv .nil (by rw [←rv.length,←l3];exact hxl) rfl fun dvs rep=>?_
  rw [List.nil_append]
  refine call_fill fls hxl bs.1 l3 c3 rep ?_
  cases hc:call f xs sx.h with
  |ok o h'=>rw [hc] at a3;exact a3
  |exc cn d' h'=>rw [hc] at a3;exact a3
  |bad=>rw [hc] at a3;exact a3
theorem fn_kept (g:Good G k call cc W X) {f:Str} {a:Addr} (ga:G.fns f=some a):PySem.W.keepIn X.K (.ref a)=true:=by
  obtain ⟨a',fd,ps,ga',hm,hk,F,hb⟩:=g.fns f (g.fnx f a ga)
  obtain rfl:a'=a:=by rw [ga] at ga';cases ga';rfl
  exact hk
theorem fn_ref {σ:Sr} {H1:Hp} {s1:S} {Φ:List (R×V)} {x:R} {xv:V} {f:Str} (c1:CfS G σ H1 s1 ((x,xv)::Φ)) (hp:peek s1 x=some (.fn f)): ∃ a,xv= .ref a∧G.fns f=some a:=by
  obtain ⟨ρ,M,cp⟩:=c1.parts
  exact c1.peek (r:=x) (v:=xv) (by simp) hp cp
theorem e_callF (g:Good G k call cc W X) {fl:List Str} {x:Str} {p pos:Pos} {e:Expr} {es:List Expr} {mx:E} {r:As} (hfl: ∀ f∈fl,(f,es.length+1,[])∈cc.shp) (hx:PE X (.Name x p) (tE G W call mx)) (h:PA X (e::es) (tL G W call r)) (hl:lenA r (es.length+1)) (hn:(e::es).all notStar=true):
    PE X (.Call (.Name x p) (e::es) [] pos) (tE G W call (mCallF fl mx r)):=by
  simp only [List.all_cons,Bool.and_eq_true] at hn
  refine ⟨fun pins s σ H Q I q=>?_⟩
  obtain ⟨st,Φ,cf,q⟩:=q
  let Q1:V→Hp→Prop:=fun xv H1=> ∃ (f:Str) (a:Addr),xv= .ref a∧G.fns f=some a∧f∈fl∧tL G W call r σ H1 (Told G W call σ Q (es.length+1) f)
  have ev:tE G W call mx σ H Q1:=by
    refine ⟨st,Φ,cf,(Aft.bind q).mono fun y s1 a1=>fun yv H1 c1=>?_⟩
    have a1:Aft G W σ Φ (PV G σ Φ Q) (kCallF fl r call s1 (peek s1 y)):=a1
    cases hp:peek s1 y with
    |none=>rw [hp] at a1;exact a1.elim
    | some d=>
      rw [hp] at a1
      cases d with
      | fn f=>
        obtain ⟨a,ea,ga⟩:=fn_ref c1 hp
        obtain ⟨hin,t⟩:=kCallF_told hl c1.drop a1
        exact ⟨f,a,ea,ga,hin,t⟩
      |_=>exact a1.elim
  refine wpAny_Call_Name_kw (thn (hx.run pins s σ H _ I ev) fun u s1 ⟨xv,H1,I1,rx,f,a,ex,ga,hin,tl⟩=>?_)
  subst ex
  obtain rfl:u=Value.ref a:=rx
  refine PySem.W.callWith_K (h₀:=X.base) I.ok.mod.kin (fn_kept g ga) (thn (h.run pos pins s1 σ H1 _ I1 tl) fun us s2 ⟨ws,H2,I2,rv,t⟩=>⟨I2.kIn, ?_⟩) (star_cons hn.1) (star_any hn.2)
  exact told_run g ga (hfl f hin) I2 rv t
def kMethF (fl:List Str) (m:Str) (r:As) (call:Call) (s:S):Option D→Out R
  |some (.ins _ fs xs)=>kCallF fl r call s ((fs.zip xs).lookup m)
  |_=>.bad
def mMethF (fl:List Str) (m:Str) (mx:E) (r:As):E:=fun call s=>(mx call s).bind fun x s1=>kMethF fl m r call s1 (peek s1 x)
end
end Mi
namespace Mi
open PySem PySem.Spec PyProof.Rows L2
section
variable {G:GE} {k:Nat} {call:Call} {cc:CC} {W:WX} {X:Cx}
def incFld (h:List O) (f:Str) (j:Int):D→Option (List O)
  | .loc n=>match h[n]? with
    | some (.ins c fs xs)=>match (fs.zip xs).lookup f with
      |some (.int i)=>if fs.length<900 then some (h.set n (.ins c (putL f (.int (i+j)) fs xs).1 (putL f (.int (i+j)) fs xs).2)) else none
      |_=>none
    |_=>none
  |_=>none
def cFldInc (mx:E) (f:Str) (j:Int):C:=fun call s=>(mx call s).flow fun x s1=>match take s1 x with
  |none=>.bad
  | some (dx,s2)=>(match incFld s2.h f j dx with
    |some h=>.nx ⟨s2.σ,h⟩
    |none=>.bad)
end
end Mi
namespace Mi
open PySem PySem.Spec PyProof.Rows L2
section
variable {G:GE} {k:Nat} {call:Call} {cc:CC} {W:WX} {X:Cx}
def zipP2 (xs ys:List D):List D:=(xs.zip ys).map fun p=>.tup [p.1,p.2]
theorem CfS.two {σr:Sr} {H:Hp} {s:S} {Φ:List (R×V)} {d e:D} {v w:V} {T:Addr} (c:CfS G σr H s ((.own (.fz e),w)::(.own (.fz d),v)::Φ)) (hT:H T=none) (hb:G.bare=false):CfS G σr (upd H T (.tup [v,w])) s ((.own (.fz (.tup [d,e])),.ref T)::Φ):=by
  have c2:CfS G σr H s (FzR [d,e] [v,w]++Φ):=c.swap
  exact c2.pack fun L q=>Cf.newTup rfl q hT ⟨hb,rfl⟩
def seqOf:D→Option (Bool×List D)
  | .tup ds=>some (true,ds)
  | .lst ds=>some (false,ds)
  |_=>none
def iZp (m:As):Iv:=fun call s=>(m call s).bind fun ds s1=>match ds with
  |[d,e]=>lift s1 ((seqOf d).bind fun x=>(seqOf e).map fun y=>zipP2 x.2 y.2)
  |_=>.bad
end
end Mi
namespace PySem.SeqAt
open AutoSeq1 (wpAny_loadPart')
open MeetsSeq MeetsSeq2 MeetsSeq3 SeqRoads2
section
variable {prog:Program} {w:World}
end
end PySem.SeqAt
namespace Mi
open PySem PySem.Spec PyProof.Rows L2
section
variable {G:GE} {cc:CC} {X:Cx} {pins:List (Addr×Obj)} {σ:Sr} {H:Hp} {s:Shared}
theorem Owns.at {ρ:List Addr} {M:List Addr}: ∀ {L:List (O×V)} {F:List Addr} {i:Nat} {o:O} {v:V},Owns G ρ H M L F→L[i]?=some (o,v)→∃ A,Own G ρ H M o v A∧∀ b∈A,b∈F
  |[],F,i,o,v,h,e=>by simp at e
  | p::ps,F,0,o,v,h,e=>by
    obtain ⟨A,B,ef,h1,h2⟩:=h
    simp only [List.getElem?_cons_zero,Option.some.injEq] at e
    subst e ef
    exact ⟨A,h1,fun b hb=>List.mem_append_left _ hb⟩
  | p::ps,F,i+1,o,v,h,e=>by
    obtain ⟨A,B,ef,h1,h2⟩:=h
    subst ef
    obtain ⟨A',o',hm⟩:=Owns.at h2 (by simpa using e)
    exact ⟨A',o',fun b hb=>List.mem_append_right _ (hm b hb)⟩
end
end Mi
namespace Mi
open PySem PySem.Spec PyProof.Rows L2
def strE:List D→Option O
  |[.int i]=>if i.natAbs.log2<1920 then some (.fz (.str (toString i))) else none
  |[.non]=>some (.fz (.str "None"))
  |[.tup ds]=>(toP (.tup ds)).bind fun p=>if p.showable=true∧p.hasDict=false∧p.depth≤40∧fitsB p.shown.length=true then some (.fz (.str p.shown)) else none
  |_=>none
def addW:D→D→Option O
  | .str x,.str y=>if decide (x.length+y.length≤16777216)=true then some (.fz (.str (x++y))) else none
  |_,_=>none
def strY:List D→Option O:=orN strD strE
def addX:D→D→Option O:=or2 addD addW
section
variable {G:GE} {X:Cx}
theorem b_strE (hK:X.K=G.K) (hu:X.A.units+64<cLine) (hg:X.A.guards=some []):CallR X (.type "str") (rN G strE):=by
  intro pins s σ H vs us Q I rv ⟨ρ,M,h,L,ds,o,cp,t,e,q⟩
  unfold strE at e
  split at e
  · rename_i i
    split at e
    · rename_i hz
      cases e
      obtain ⟨v,r,ev,tv,er⟩:=t
      subst ev
      rw [show r=[] from er] at rv
      obtain rfl:=(show v=V.int i from tv)
      exact call_str_int pins s σ H _ us Q I rv ⟨i,rfl,hz,q _ _ (cp.cf.simple rfl)⟩
    · cases e
  · cases e
    obtain ⟨v,r,ev,tv,er⟩:=t
    subst ev
    rw [show r=[] from er] at rv
    obtain rfl:=(show v=V.non from tv)
    obtain ⟨u,eu,ru⟩:=vals1 rv
    subst eu
    obtain rfl:=(show u=Value.none from ru)
    exact P.str_of_none ⟨.str "None",H,I.tok _,⟨_,rfl⟩,q _ _ (cp.cf.simple rfl)⟩
  · rename_i ds'
    simp only [Option.bind_eq_some_iff] at e
    obtain ⟨p,e1,e2⟩:=e
    split at e2
    · rename_i hc
      obtain ⟨h1,h2,h3,h4⟩:=hc
      cases e2
      obtain ⟨v,r,ev,tv,er⟩:=t
      subst ev
      rw [show r=[] from er] at rv
      obtain ⟨u,eu,ru⟩:=vals1 rv
      subst eu
      obtain ⟨as,rd⟩:=Dp.reads I p v u (by rw [hK];exact tv.dp e1) ru
      have fin: ∀ (h':Heap) (tk:Nat) (tt:Tok),(∀ b ob,s.heap.get? b=some ob→h'.get? b=some ob)→EP X pins σ Q (.str p.shown tt) {s with heap:=h',toks:=tk}:=fun h' tk tt hk=>⟨.str p.shown,H,I.kept (t':=tk) hk,⟨tt,rfl⟩,q _ _ (cp.cf.simple rfl)⟩
      obtain ⟨l1,v1,rfl,_⟩:=tv
      obtain ⟨a',rfl⟩:=(show ∃ a',u=Value.ref a' from by
        cases u with
        |ref a'=>exact ⟨a',rfl⟩
        |_=>all_goals cases (show _=Value.ref l1 from ru))
      exact str_of_reads rd h1 (fun z=>by rw [h2] at z;cases z) hg (by omega) (fun _ _ z=>z) (fun h' uu tk hk=>fin h' tk uu hk) (fits h4)
    · cases e2
  · cases e
theorem o_addW:OpR X (binaryOp .Add) (r2 G addW):=op_add_str.imp fun x y H Q ⟨ρ,M,h,L,d1,d2,o,cp,t1,t2,e,q⟩=>by
  unfold addW at e
  split at e
  · rename_i a b
    split at e
    · rename_i hf
      cases e
      exact ⟨a,b,t1,t2,of_decide_eq_true hf,q _ _ (cp.cf.simple rfl)⟩
    · cases e
  · cases e
end
end Mi
namespace L2
open PySem PySem.Spec PyProof.Rows
section
variable {M:Model} {A:Around} {E:Value→Shared→Prop} {s:Shared} {env:Env} {outer l:List Env} {B:Heap} {a L:Addr} {Z:Obj→Prop}
def TrA (B:Heap) (l:List Env) (a:Addr) (Z:Obj→Prop) (h:Heap):Prop:=B.StaysIn h∧B.get? a=none∧h.FunFrames B l∧∃ fl,HandSPX.TracedZ h B a Z fl
def SkA (B:Heap) (l:List Env) (a:Addr) (Z:Obj→Prop) (h:Heap):Prop:=
  (B.StaysIn h∧B.get? a=none∧h.FunFrames B l∧∃ oe vs,h.get? a=some oe∧Z oe∧oe.data= .fields vs∧vs[1]?=some .none)∨TrA B l a Z h
theorem Sky.any {h:Heap} (x:Sky B l a Z L h):SkA B l a Z h:=by
  rcases x with x|⟨a1,a2,a3,a4⟩|⟨a1,a2,a3,a4⟩
  · exact .inl x
  · exact .inr ⟨a1,a2,a3,_,a4⟩
  · exact .inr ⟨a1,a2,a3,_,a4⟩
theorem note_any {Q:Unit→Shared→Prop} (hZ:HandSPX.Steady Z) (hfr:A.frames=some (env::outer)) (hf:env.frame=some L) (x:SkA B (env::outer) a Z s.heap)
    (hQ: ∀ h',TrA B (env::outer) a Z h'→s.heap.UpToSlots h'→Q () {s with heap:=h'}):wpAny M A (noteFrame (.ref a) env) Q E s:=by
  rcases x with ⟨hB,hn,hl,oe,vs,he,hz,hd,h1⟩|⟨hB,hn,hl,fl,ht⟩
  · exact HandSPX.look_newZ hZ hfr hl hf he hB hn hd h1 hz fun h' hh up=>hQ h' ⟨hh.1,hh.2.1,hh.2.2.1,_,hh.2.2.2⟩ up
  · have ht0:=ht
    obtain ⟨ox,fs,T,oT,ts,hx,zx,dx,f1,nT,Tne,gT,dT,f3⟩:=ht
    unfold noteFrame
    simp only [hf]
    refine wpAny_bind (wpAny_field hx dx f1 ?_)
    rw [if_pos (show (Value.ref T !=Value.none)=true from by simp)]
    refine wpAny_bind (wpAny_field gT dT f3 ?_)
    by_cases hb:(fl==rawInt L)=true
    · rw [if_pos hb]
      exact wpAny_pure (hQ s.heap ⟨hB,hn,hl,fl,ht0⟩ (Heap.UpToSlots.refl _))
    · rw [if_neg hb]
      refine wpAny_bind (wpAny_setField gT dT (Array.getElem?_eq_some_iff.mp f3).1 ?_)
      have oth: ∀ b,b≠T→(s.heap.update T (Obj.mapFields (·.setIfInBounds 3 Value.none))).get? b=s.heap.get? b:=fun b q=>Heap.get?_update_other _ _ (Ne.symm q)
      have noR: ∀ b o,s.heap.get? b=some o→(∀ vs,o.data≠.fields vs)→b≠T:=fun b o q nf z=>by
        rw [z,gT] at q
        injection q with q
        subst q
        exact nf ts dT
      refine HandSPX.wpAny_entryZ hZ hfr (hl.of_keeps fun b o q nf=>⟨o,(oth b (noR b o q nf)).trans q,rfl⟩) hf ((oth a (Ne.symm Tne)).trans hx)
        (fun b o q=>(oth b fun z=>by rw [z,nT] at q;cases q).trans (hB b o q)) hn dx (Array.getElem?_eq_some_iff.mp f1).1 zx fun h' hN=>?_
      obtain ⟨x1,x2,x3,x4⟩:=hN
      exact hQ h' ⟨x1,hn,x2,_,x3⟩ fun b o q nf=>x4 b o ((oth b (noR b o q nf)).trans q) nf
theorem flight_any {Q:Unit→Shared→Prop} {fr:Option Addr} (x:TrA B l a Z s.heap)
    (hQ: ∀ h',(B.StaysIn h'∧B.get? a=none∧h'.FunFrames B l∧HandSPX.TracedZ h' B a Z (fr.elim Value.none fun f=>rawInt f))→s.heap.UpToSlots h'→Q () {s with heap:=h'}):
    wpAny M A (setFlight (.ref a) fr) Q E s:=by
  obtain ⟨hB,hn,hl,fl,ht⟩:=x
  exact HandSPX.setFlight_anyZ hB hl ht fun h' k1 k2 k3 k4=>hQ h' ⟨k1,hn,k2,k3⟩ k4
theorem field1_any {Q:Value→Shared→Prop} {h:Heap} (x:TrA B l a Z h) (e:h=s.heap) (hQ: ∀ T,Q (.ref T) s):wpAny M A (field (.ref a) 1) Q E s:=by
  subst e
  obtain ⟨hB,hn,hl,fl,ox,fs,T,oT,ts,hx,zx,dx,f1,_⟩:=x
  exact wpAny_field hx dx f1 (hQ T)
theorem TrA.same {C:Addr} {m m':Str→Option Value} {h h' B':Heap} (x:TrA B l a Z h) (hn:h.Ns C m) (hn':h'.Ns C m') (hs:Heap.SameBut C h h') (hB: ∀ b,b≠C→B'.get? b=B.get? b) (hC:B'.get? C=none):TrA B' l a Z h':=by
  obtain ⟨x1,x2,x3,fl,ox,fs,T,oT,ts,hx,zx,dx,f1,nT,Tne,gT,dT,f3⟩:=x
  obtain ⟨oL,es,ep,hoL,hdL,_⟩:=hn
  have neA:a≠C:=fun q=>by
    rw [q,hoL] at hx
    have z:=Option.some.inj hx
    rw [←z,hdL] at dx
    cases dx
  have neT:T≠C:=fun q=>by
    rw [q,hoL] at gT
    have z:=Option.some.inj gT
    rw [←z,hdL] at dT
    cases dT
  refine ⟨fun b o q=>?_,by rw [hB a neA];exact x2, ?_,fl,ox,fs,T,oT,ts,(hs.2 a neA).trans hx,zx,dx,f1,by rw [hB T neT];exact nT,Tne,(hs.2 T neT).trans gT,dT,f3⟩
  · have nb:b≠C:=fun z=>by rw [z,hC] at q;cases q
    rw [hB b nb] at q
    exact (hs.2 b nb).trans (x1 b o q)
  · refine funFrames_none (Heap.FunFrames.sameBut hs hn' x3) fun L hL=>?_
    by_cases z:L=C
    · rw [z];exact hC
    · rw [hB L z]
      have fm: ∀ {l:List Env},h.FunFrames B l→∀ L∈frs l,B.get? L=none:=fun {l}=>by
        induction l with
        |nil=>intro _ L hL;cases hL
        | cons e l ih=>
          rintro ⟨_,⟨L',o,hf,hb,_⟩,hr⟩ L hL
          simp only [frs,List.filterMap_cons,hf] at hL
          rcases List.mem_cons.mp hL with rfl|hL
          · exact hb
          · exact ih hr L hL
      exact fm x3 L hL
end
section
variable {X Xb:Cx} {W:WX} {σ:St}
def XB (X Xb:Cx) (W:WX) (σ:St) (u:Value) (s':Shared):Prop:=
  ∃ (a:Addr) (B:Heap) (sI:Shared) (pins:List (Addr×Obj)) (σ':St) (H:Hp) (cls:Value) (d:Option Addr),
    u = .ref a∧Inv Xb pins σ' H sI∧(∀ b o,sI.heap.get? b=some o→b∉frs X.stack→B.get? b=some o)∧sI.heap.UpToSlots s'.heap∧
      SkA B X.stack a (Zc cls d) s'.heap∧H a=none∧s'.os=sI.os∧AllBare s'.gens∧W cls d σ H
abbrev Cx.blkE (X:Cx) (W:WX) (σ:St) (s:Shared) (H:Hp) (scope:Scope) (cenv:Env) (fp:List Addr):Cx:={X.blk s H scope cenv fp with xe:=XB X (X.blk s H scope cenv fp) W σ}
theorem Cx.Ok.xe {X:Cx} {E:Value→Shared→Prop} (o:X.Ok):({X with xe:=E}:Cx).Ok:=⟨o.mod,o.kind,o.glob,o.blt,o.above,o.inj,o.has,o.cab,o.hd,o.frames,o.stk,o.exf,o.bs,o.bsz,o.noex,o.exfs,o.funs,o.frf⟩
theorem Cx.Ok.unxe {X:Cx} {E:Value→Shared→Prop} (o:({X with xe:=E}:Cx).Ok):X.Ok:=⟨o.mod,o.kind,o.glob,o.blt,o.above,o.inj,o.has,o.cab,o.hd,o.frames,o.stk,o.exf,o.bs,o.bsz,o.noex,o.exfs,o.funs,o.frf⟩
theorem Inv.xe {X:Cx} {E:Value→Shared→Prop} {pins:List (Addr×Obj)} {σ:St} {H:Hp} {s:Shared} (I:Inv X pins σ H s):Inv {X with xe:=E} pins σ H s:=⟨I.ok.xe,I.os,I.bare,I.base,I.loc,I.cell,I.free,I.freeC,I.pin,I.hok,I.len⟩
theorem Inv.unxe {X:Cx} {E:Value→Shared→Prop} {pins:List (Addr×Obj)} {σ:St} {H:Hp} {s:Shared} (I:Inv {X with xe:=E} pins σ H s):Inv X pins σ H s:=⟨I.ok.unxe,I.os,I.bare,I.base,I.loc,I.cell,I.free,I.freeC,I.pin,I.hok,I.len⟩
variable {s3:Shared} {H3:Hp} {scope:Scope} {ce:Env} {fp:List Addr}
theorem takes_blkE:Takes (X.blkE W σ s3 H3 scope ce fp) (fun cls d _ H=>W cls d σ H):=fun u s' ⟨a,B,sI,pins,σ',H,cls,d,e,I,nb,up,sky,na,os,ag,w⟩=>
  ⟨a,B,sI,pins,σ',H,cls,d,e,I.unxe,nb,up,sky.any,na,os,ag,w⟩
theorem XB.noted {e:Value} {s':Shared} {Q:Value→Shared→Prop} (hs:X.stack=X.env::X.outer) (hf:X.env.frame=some X.env.locals) (hce:ce.frame=X.env.frame)
    (x:XB X (X.blk s3 H3 scope ce fp) W σ e s') (hQ: ∀ a B sI pins σ' H cls d h',e= .ref a→Inv (X.blk s3 H3 scope ce fp) pins σ' H sI→(∀ b o,sI.heap.get? b=some o→b∉frs X.stack→B.get? b=some o)→sI.heap.UpToSlots h'→
      TrA B X.stack a (Zc cls d) h'→H a=none→s'.os=sI.os→AllBare s'.gens→W cls d σ H→Q e {s' with heap:=h'}):notedBy (model X.prog X.w) X.A ce Q e s':=by
  obtain ⟨a,B,sI,pins,σ',H,cls,d,rfl,I,nb,up,sky,na,os,ag,w⟩:=x
  show wpAny _ _ (noteFrame (.ref a) ce) _ _ s'
  rw [noteFrame_env (env:=X.env) _ hce]
  have hfr:X.A.frames=some X.stack:=I.ok.frames
  rw [hs] at sky hfr
  refine note_any Zc.steady hfr hf sky fun h' tr up'=>?_
  rw [←hs] at tr
  exact hQ a B sI pins σ' H cls d h' rfl I nb (up.trans up') tr na os ag w
theorem passes_blkE (hs:X.stack=X.env::X.outer) (hf:X.env.frame=some X.env.locals) (hce:ce.frame=X.env.frame):PassesOwn (model X.prog X.w) X.A ce (XB X (X.blk s3 H3 scope ce fp) W σ):=fun e s' x=>by
  refine XB.noted hs hf hce x fun a B sI pins σ' H cls d h' ea I nb up tr na os ag w=>?_
  subst ea
  show wpAny _ _ (do
    if (←field (.ref a) 1)== .none then unsupported "frame.own-activation:exception-without-traceback"
    setFlight (.ref a) ce.frame) _ _ _
  refine wpAny_bind (field1_any tr rfl fun T=>?_)
  rw [if_neg (show ¬((Value.ref T==Value.none)=true) from by simp)]
  refine flight_any tr fun h'' ⟨k1,k2,k3,k4⟩ up'=>?_
  exact ⟨a,B,sI,pins,σ',H,cls,d,rfl,I,nb,up.trans up',.inr ⟨k1,k2,k3,_,k4⟩,na,os,ag,w⟩
theorem XB.out {pins0:List (Addr×Obj)} {e:Value} {s':Shared} (tk:Takes X W) (hs:X.stack=X.env::X.outer) (hf:X.env.frame=some X.env.locals) (hce:ce.frame=X.env.frame) (hL:ce.locals=s3.heap.objs.size)
    (I3:Inv X pins0 σ H3 s3) (hfp: ∀ b∈fp,FpOk X pins0 H3 b) (x:XB X (X.blk s3 H3 scope ce fp) W σ e s'):notedBy (model X.prog X.w) X.A ce (CompFails (model X.prog X.w) X.A X.xe ce) e s':=by
  refine XB.noted hs hf hce x fun a B sI pins σ' H cls d h' ea I nb up tr na os ag w=>?_
  subst ea
  obtain ⟨m,hn,_⟩:=I.loc
  have hn:sI.heap.Ns ce.locals m:=hn
  have hn':h'.Ns ce.locals m:=hn.upToSlots up
  refine ⟨m,hn',fun h₂ m₂ hn₂ hs₂=>?_⟩
  obtain ⟨B',b1,b2⟩:=restrict B fun b=>decide (b≠ce.locals)
  obtain ⟨G,g1,g2⟩:=restrict sI.heap fun b=>decide (b≠ce.locals)
  have tr2:TrA B' X.stack a (Zc cls d) h₂:=tr.same hn' hn₂ hs₂ (fun b q=>b1 b (decide_eq_true q)) (b2 _ (by simp))
  unfold PySem.passOn
  refine wpAny_bind (field1_any tr2 rfl fun T=>?_)
  rw [if_neg (show ¬((Value.ref T==Value.none)=true) from by simp)]
  refine wpAny_bind (flight_any tr2 fun h₃ k up3=>?_)
  refine wpAny_throw ?_
  have J:Inv X pins0 σ H sI:=I3.call' (ch:=fp) I.os I.base I.hok I.bare fun b hb=>⟨(hfp b hb).2.2.2.1,(hfp b hb).2.1,(hfp b hb).2.2.2.2.1,(hfp b hb).2.2.2.2.2⟩
  have nC:H s3.heap.objs.size=none:=by
    have z:H ce.locals=none:=I.free
    rw [hL] at z
    exact z
  obtain ⟨f0,f1,f2,f3,f4,f5⟩:=I3.fpOk (H':=H) (Nat.le_refl _) nC
  have J2:Inv X pins0 σ H {sI with heap:=G,toks:=sI.toks}:=J.turned (fun b o q e=>(g1 b (decide_eq_true (by rw [hL];exact q))).trans e) f0 f1 f3 f4 f5
  have hide: ∀ b o,G.get? b=some o→b≠ce.locals∧sI.heap.get? b=some o:=fun b o q=>by
    by_cases z:b=ce.locals
    · rw [z,g2 _ (by simp)] at q;cases q
    · exact ⟨z,(g1 b (decide_eq_true z)).symm.trans q⟩
  refine tk _ _ ⟨a,B',{sI with heap:=G,toks:=sI.toks},pins0,σ,H,cls,d,rfl,J2,fun b o q nf=>?_,fun b o q nf=>?_,.inr (.inr ?_),na,os,ag,w⟩
  · obtain ⟨q1,q2⟩:=hide b o q
    rw [b1 b (decide_eq_true q1)]
    exact nb b o q2 nf
  · obtain ⟨q1,q2⟩:=hide b o q
    obtain ⟨sl,z⟩:=up b o q2 nf
    obtain ⟨sl',z'⟩:=up3 b _ ((hs₂.2 b q1).trans z) nf
    exact ⟨sl',z'⟩
  · rw [hce,hf] at k
    exact k
end
end L2
namespace L2
open PySem PySem.Spec PyProof.Rows
structure BlkIs (X:Cx) (scope:Scope) (ce:Env) (fp:List Addr) (sB:Shared) (HB:Hp) (σ:St) (nm:List Nat) (tn:Nat→Heap→Prop) (Wr:Nat→Nat→Hp→Prop) (n:Nat) (s:Shared):Prop where
  at_: ∃ i H,Inv (X.blk sB HB scope ce fp) [] (wipe σ nm) H s∧tn i s.heap∧(∀ b∈fp,H b=none)∧Wr i n H
section
variable {X:Cx} {pins:List (Addr×Obj)} {σ:St} {elt tg:Expr} {ifs:List Expr} {scope:Scope} {nm:List Nat} {tn:Nat→Heap→Prop} {J:It} {it D:Addr} {fp:List Addr} {sB:Shared} {HB:Hp} {ce:Env}
  {Wr:Nat→Nat→Hp→Prop} {g:TG} {tt:TT} {te:TE} {Wx:WX} {Q:VK}
theorem blk_fp {pins':List (Addr×Obj)} {σ':St} {H:Hp} {s:Shared} (hp:pins'=[]) (I:Inv (X.blk sB HB scope ce fp) pins' σ' H s) (hn: ∀ b∈fp,H b=none): ∀ b∈fp,FpOk (X.blk sB HB scope ce fp) pins' H b:=fun b hb=>by
  subst hp
  have o:=I.ok
  exact ⟨hn b hb,(o.exf b hb).1,o.exfs b hb,.inl hb,fun x c e=>(o.exf b hb).2 x c e,fun p hm=>by
    have hm:p∈([]:List (Addr×Obj))++[]:=hm
    simp at hm⟩
theorem BlkIs.next {σ8:St} {H':Hp} {s7 s':Shared} {i n:Nat} {Nx:Hp→Prop} (T:Turn X.prog X.w X.K tg J fp it tn) (st:tn (i+1) s7.heap) (hw:wipe σ8 nm=wipe σ nm) (hNx: ∀ H',Nx H'→∃ m',m'<n∧Wr (i+1) m' H')
    (I:Inv (X.blk sB HB scope ce fp) ([]++pinsAt fp s7.heap) σ8 H' s') (nx:Nx H'): ∃ m,m<n∧BlkIs X scope ce fp sB HB σ nm tn Wr m s':=by
  obtain ⟨m',hm,w⟩:=hNx H' nx
  have pinned: ∀ b∈fp,∀ o,s7.heap.get? b=some o→s'.heap.get? b=some o∧H' b=none:=fun b hb o e=>by
    have z:=I.pin (b,o) (List.mem_append_right _ (List.mem_append_right _ (mem_pinsAt hb e)))
    exact ⟨z.1,z.2.1⟩
  refine ⟨m',hm,⟨i+1,H',(I.unpinned (pins:=[])).weak (by rw [←hw,wipe_length]) (fun j v e=>?_),T.keep _ _ _ st fun b hb o e=>(pinned b hb o e).1,fun b hb=>?_,w⟩⟩
  · rw [←hw] at e
    exact (wipe_some e).1
  · obtain ⟨o,e,_⟩:=T.obj _ _ st b hb
    exact (pinned b hb o e).2
theorem lcE_turn (hc:X.calm=true) (hs:X.stack=X.env::X.outer) (hf:X.env.frame=some X.env.locals) (tk:Takes X Wx) (hce:ce.frame=X.env.frame) (hL:ce.locals=sB.heap.objs.size)
    (T:Turn X.prog X.w X.K tg J fp it tn) (IB:Inv X pins σ HB sB) (hfp: ∀ b∈fp,FpOk X pins HB b) (pg:PG (X.blk sB HB scope ce fp) tg g) (pt:PTs (X.blk sB HB scope ce fp) ifs tt) (pe:PE (X.blkE Wx σ sB HB scope ce fp) elt te)
    (onw: ∀ i m H,Wr i m H→(J.stop i H∧Q (.ref D) H)∨(J.go i H∧∃ Nx:Hp→Prop,(∀ H',Nx H'→∃ m',m'<m∧Wr (i+1) m' H')∧∀ x H',J.yld i H x H'→g x (wipe σ nm) H' fun σ2 H2=>wipe σ2 nm=wipe σ nm∧tt σ2 H2 fun b H3=>
      if b=true then te σ2 H3 fun y H4=> ∃ acc,H4 D=some (.lst acc)∧acc.length<sizeLine∧Nx (upd H4 D (.lst (acc++[y]))) else Nx H3))
    (n:Nat) (s:Shared) (b0:BlkIs X scope ce fp sB HB σ nm tn Wr n s):
    wpAny (model X.prog X.w) X.A (pyNext (.ref it)) (fun r s₁=>match r with
      |none=>compEnds (model X.prog X.w) X.A X.xe none (EP X pins σ Q) (.ref D) ce (.ok .next) s₁
      |some v=>wpAny (model X.prog X.w) X.A (letOwnedTupleGo tg (.ref it) v) (fun _ s₁'=>wpAny (model X.prog X.w) X.A (assign tg ce v) (fun _ s₂=>
          wpAny (model X.prog X.w) X.A (forIn ifs true fun c r=>if r=true then do let ok ←isTrue c ce (eval c ce);pure (ForInStep.yield ok) else pure (ForInStep.yield r)) (fun ok s₃=>
            if ok=true then wpAny (model X.prog X.w) X.A (eval elt ce) (fun x s₄=>
              wpAny (model X.prog X.w) X.A (call (.builtin "list.append") [.ref D,x]) (fun _ s₅=> ∃ m,m<n∧BlkIs X scope ce fp sB HB σ nm tn Wr m s₅) (notedBy (model X.prog X.w) X.A ce fun e s'=>compEnds (model X.prog X.w) X.A X.xe none (EP X pins σ Q) (.ref D) ce (.error e) s') s₄) (notedBy (model X.prog X.w) X.A ce fun e s'=>compEnds (model X.prog X.w) X.A X.xe none (EP X pins σ Q) (.ref D) ce (.error e) s') s₃
            else ∃ m,m<n∧BlkIs X scope ce fp sB HB σ nm tn Wr m s₃) (notedBy (model X.prog X.w) X.A ce fun e s'=>compEnds (model X.prog X.w) X.A X.xe none (EP X pins σ Q) (.ref D) ce (.error e) s') s₂) (notedBy (model X.prog X.w) X.A ce fun e s'=>compEnds (model X.prog X.w) X.A X.xe none (EP X pins σ Q) (.ref D) ce (.error e) s') s₁') (notedBy (model X.prog X.w) X.A ce fun e s'=>compEnds (model X.prog X.w) X.A X.xe none (EP X pins σ Q) (.ref D) ce (.error e) s') s₁) (notedBy (model X.prog X.w) X.A ce fun e s'=>compEnds (model X.prog X.w) X.A X.xe none (EP X pins σ Q) (.ref D) ce (.error e) s') s:=by
  obtain ⟨i,H,I,st,fn,w⟩:=b0.at_
  rcases onw i n H w with ⟨stp,q⟩|⟨goes,Nx,hNx,each⟩
  ·
    refine thnF (T.done (X.blk sB HB scope ce fp) rfl rfl rfl hc i [] s _ H (fun _ _=>False) I (blk_fp rfl I fn) st stp) fun r t ⟨hr,I1⟩=>?_
    subst hr
    have K:Inv X pins σ H t:=IB.call' (ch:=fp) I1.os I1.base I1.hok I1.bare fun b hb=>⟨(hfp b hb).2.2.2.1,(hfp b hb).2.1,(hfp b hb).2.2.2.2.1,(hfp b hb).2.2.2.2.2⟩
    obtain ⟨m,hn,_⟩:=I1.loc
    have nC:H sB.heap.objs.size=none:=by
      have z:H ce.locals=none:=I1.free
      rw [hL] at z
      exact z
    obtain ⟨k0,k1,k2,k3,k4,k5⟩:=IB.fpOk (H':=H) (Nat.le_refl _) nC
    refine ⟨m,hn,fun h'' sb=>⟨.ref D,H,K.turned (t':=t.toks) (fun b o hb e=>(sb.2 b (by rw [hL];exact hb)).trans e) k0 k1 k3 k4 k5,rfl,q⟩⟩
  ·
    refine thnF (T.item (X.blk sB HB scope ce fp) rfl rfl rfl hc i [] s _ H (fun _ _=>False) I (blk_fp rfl I fn) st goes) fun r t1 ⟨u,hr,more⟩=>?_
    subst hr
    refine thnF more fun _ t2 ⟨x,H2,I2,rx,yl,st2,fn2⟩=>?_
    have P2:=I2.pinned (blk_fp rfl I2 fn2) (T.obj _ _ st2)
    refine thnF (pg.run _ t2 _ H2 x u _ P2 rx (each x H2 yl)) fun _ t3 ⟨σ3,H3,I3,hw,q3⟩=>?_
    refine thnF (pt.run _ t3 σ3 H3 _ I3 q3) fun b t4 ⟨H4,I4,q4⟩=>?_
    have fin:=fun {s':Shared} {H':Hp} (K:Inv (X.blk sB HB scope ce fp) ([]++pinsAt fp t2.heap) σ3 H' s') (nx:Nx H')=>BlkIs.next (HB:=HB) (Wr:=Wr) T st2 hw hNx K nx
    cases b with
    | false=>
      rw [if_neg (by decide)] at q4 ⊢
      exact fin I4 q4
    | true=>
      rw [if_pos rfl] at q4 ⊢
      refine wpAny_mono (pe.run _ t4 σ3 H4 _ I4.xe q4) (fun z t5 ⟨yv,H5,I5,ry,acc,hD,hz,nx⟩=>?_) fun e t5 xb=>XB.out tk hs hf hce hL IB hfp xb
      exact app_ok (X:=X.blk sB HB scope ce fp) I5.unxe hD hz ry fun t6 I6=>fin I6 nx
end
section
variable {X:Cx}
def tLcE (wi:TI) (g:TG) (tt:TT) (te:St→TE) (vs:List Nat):TE:=fun σ H Q=>tLc wi g tt (te σ) vs σ H Q
theorem pe_lcE {Wx:WX} {elt tg iter:Expr} {ifs:List Expr} {scope:Scope} {own:List (Str×Nat)} {pos:Pos} {wi:TI} {g:TG} {tt:TT} {te:St→TE} (hc:X.calm=true) (hN:X.N.Nodup) (hs:X.stack=X.env::X.outer) (hf:X.env.frame=some X.env.locals) (tk:Takes X Wx)
    (hi:PI X tg iter wi) (ok:BlkOk X.N X.env.scope scope own) (hg: ∀ (s:Shared) (H:Hp) (C:Addr) (cl:List (Str×Addr)) (fp:List Addr),PG (X.blk s H scope (compEnvC scope cl C X.env) fp) tg g)
    (ht: ∀ (s:Shared) (H:Hp) (C:Addr) (cl:List (Str×Addr)) (fp:List Addr),PTs (X.blk s H scope (compEnvC scope cl C X.env) fp) ifs tt)
    (he: ∀ (σ:St) (s:Shared) (H:Hp) (C:Addr) (cl:List (Str×Addr)) (fp:List Addr),PE (X.blkE Wx σ s H scope (compEnvC scope cl C X.env) fp) elt (te σ)) (hfold: ∀ x,foldedSetIterable iter X.env x=pure x):
    PE X (.ListComp elt [⟨tg,iter,ifs,0⟩] scope pos) (tLcE wi g tt te (own.map (·.2))):=by
  refine ⟨fun pins s σ H Q I h=>?_⟩
  rw [eval_ListComp]
  have caps: ∀ z∈scope.names,z.2= .free→∃ c,X.env.cells.lookup z.1=some c:=fun z hz e=>I.ok.has _ (ok.free z hz e).symm.symm
  refine comprehension_at (use:=none) rfl hfold (closure_ok caps) ok.kind (fun z hz e=>by rw [ok.uniq z hz,e]) (thn (hi.run pins s σ H _ I h) fun _ _ hx=>thn hx fun _ s2 h2=>?_)
  obtain ⟨it,fp,tn,J,H2,e,I2,T,st2,f2,q⟩:=h2
  subst e
  refine wpAny_newObj_type (newEnv_comp ?_) (show 0≤sizeLine by decide)
  obtain ⟨D,eD⟩: ∃ D,D=s2.heap.objs.size:=⟨_,rfl⟩
  have Dn:H2 D=none:=I2.hok.fresh (Nat.le_of_eq eD.symm)
  obtain ⟨Wr,⟨m0,w0⟩,onw⟩:=q D Dn
  obtain ⟨sB,eB⟩: ∃ sB:Shared,sB={s2 with heap:=s2.heap.push {cls:=.type "list",data:=.seq ([]:List Value).toArray}}:=⟨_,rfl⟩
  have hB:sB.heap=s2.heap.push {cls:=.type "list",data:=.seq ([]:List Value).toArray}:=by rw [eB]
  have IB:Inv X pins σ (upd H2 D (.lst [])) sB:=by
    rw [eB]
    refine I2.laid (t':=s2.toks) (fun b o e=>Heap.get?_push_of_some _ e) (Nat.le_of_eq eD.symm) ⟨Nat.zero_le _,[],0,.nil, ?_⟩
    rw [eD]
    exact Heap.get?_push_size _ rfl
  have below: ∀ b∈fp,b<s2.heap.objs.size:=fun b hb=>by
    obtain ⟨o,e,_⟩:=T.obj _ _ st2 b hb
    exact Heap.lt_size e
  have f3: ∀ b∈fp,FpOk X pins (upd H2 D (.lst [])) b∧b<sB.heap.objs.size:=fun b hb=>by
    have lt:=below b hb
    refine ⟨⟨?_,(f2 b hb).2⟩,by rw [hB,Heap.size_push];exact Nat.lt_succ_of_lt lt⟩
    rw [upd_ne (show b≠D by rw [eD];exact Nat.ne_of_lt lt)]
    exact (f2 b hb).1
  have stB:tn 0 sB.heap:=T.keep _ _ _ st2 fun b _ o e=>by rw [hB];exact Heap.get?_push_of_some _ e
  have I4:=block_start IB ok hN f3
  obtain ⟨ce,ece⟩: ∃ ce,ce=compEnvC scope (cellsFrom (sB.heap.objs.size+1) scope.names (cloFrom X.env.cells scope.names [])) sB.heap.objs.size X.env:=⟨_,rfl⟩
  have pg:=hg sB (upd H2 D (.lst [])) sB.heap.objs.size (cellsFrom (sB.heap.objs.size+1) scope.names (cloFrom X.env.cells scope.names [])) fp
  have pt:=ht sB (upd H2 D (.lst [])) sB.heap.objs.size (cellsFrom (sB.heap.objs.size+1) scope.names (cloFrom X.env.cells scope.names [])) fp
  have pe:=he σ sB (upd H2 D (.lst [])) sB.heap.objs.size (cellsFrom (sB.heap.objs.size+1) scope.names (cloFrom X.env.cells scope.names [])) fp
  rw [←ece] at I4 pg pt pe
  rw [←eB,←eD]
  show codeAny _ _ (.compStart (.ListComp elt [⟨tg,iter,ifs,0⟩] scope pos) 0 (.ref it) (.ref D) (compEnvC scope (cellsFrom (sB.heap.objs.size+1) scope.names (cloFrom X.env.cells scope.names [])) sB.heap.objs.size X.env))
    (compEnds (model X.prog X.w) X.A X.xe none (EP X pins σ Q) (.ref D) (compEnvC scope (cellsFrom (sB.heap.objs.size+1) scope.names (cloFrom X.env.cells scope.names [])) sB.heap.objs.size X.env)) {sB with heap:=pushCells (sB.heap.push {cls:=.type "dict",data:=.dict #[]}) scope.names}
  rw [←ece]
  obtain ⟨s4,e4⟩: ∃ s4:Shared,s4={sB with heap:=pushCells (sB.heap.push {cls:=.type "dict",data:=.dict #[]}) scope.names}:=⟨_,rfl⟩
  rw [←e4] at I4 ⊢
  have st4:tn 0 s4.heap:=T.keep _ _ _ stB fun b _ o e=>by rw [e4];exact pushCells_keeps _ _ _ _ (Heap.get?_push_of_some _ e)
  have cl:ce.locals=sB.heap.objs.size:=by rw [ece];rfl
  have cf:ce.frame=X.env.frame:=by rw [ece];rfl
  have lp:codeAny (model X.prog X.w) X.A (.compLoop (.ListComp elt [⟨tg,iter,ifs,0⟩] scope pos) 0 (.ref it) (.ref D) ce) (compEnds (model X.prog X.w) X.A X.xe none (EP X pins σ Q) (.ref D) ce) s4:=
    compLoop_any (BlkIs X scope ce fp sB (upd H2 D (.lst [])) σ (own.map (·.2)) tn Wr) (fun n s b=>lcE_turn hc hs hf tk cf cl T IB (fun b hb=>(f3 b hb).1) pg pt pe onw n s b) m0 ⟨0,_,I4,st4,fun b hb=>(f3 b hb).1.1,w0⟩
  exact codeAny_compStart_list lp (T.self X.A 0 _ _ _ st4 lp)
end
end L2
namespace Mi
open PySem PySem.Spec PyProof.Rows L2
def lcLE (call:Call) (g:Tg) (tt:B) (te:E) (vs:List Nat):List D→List D→S→Out (List D)
  |[],acc,s=>.ok acc s
  | d ::ds,acc,s=>match g (.fz d) s with
    |none=>.bad
    | some s1=>match tt call s1 with
      | .ok true s2=>(match te call s2 with
        | .ok x s3=>(match take s3 x with
          |some (y,s4)=>if fitsB (acc.length+1) then lcLE call g tt te vs ds (acc++[y]) ⟨wipeO s4.σ vs,s4.h⟩ else .bad
          |none=>.bad)
        | .exc c e s3=>.exc c e ⟨wipeO s3.σ vs,s3.h⟩
        | .bad=>.bad)
      | .ok false s2=>lcLE call g tt te vs ds acc ⟨wipeO s2.σ vs,s2.h⟩
      |_=>.bad
def kLcE (vs:List Nat) (σ:List (Option O)):Out (List D)→Out R
  | .ok acc s2=>.ok (.own (.lst acc)) ⟨rst s2.σ σ vs,s2.h⟩
  | .exc c e s2=>.exc c e ⟨rst s2.σ σ vs,s2.h⟩
  | .bad=>.bad
def mLcE (m:Iv) (g:Tg) (tt:B) (te:E) (vs:List Nat):E:=fun call s=>(m call s).bind fun ds s1=>kLcE vs s1.σ (lcLE call g tt te vs ds [] ⟨wipeO s1.σ vs,s1.h⟩)
section
variable {G:GE} {k:Nat} {call:Call} {cc:CC} {W:WX} {X:Cx} {vs:List Nat}
theorem lcE_walk {J:It} {K Φ:List (R×V)} {ds:List D} {g:Tg} {tt:B} {te:E} {σ:Sr} {H1:Hp} {s1:S} {Q:VK} {Dd:Addr} (nk:NoB K) (bo: ∀ i v,(R.bor i,v)∈Φ→σ[i]?=some (some v)) (w:Walks G J K ds) (c:CfS G σ H1 s1 (K++Φ)) (hD:H1 Dd=none)
    (a:Aft G W σ Φ (PV G σ Φ Q) (kLcE vs s1.σ (lcLE call g tt te vs ds [] ⟨wipeO s1.σ vs,s1.h⟩))):
    ∃ Wr:Nat→Nat→Hp→Prop,(∃ m,Wr 0 m (upd H1 Dd (.lst [])))∧∀ i m H,Wr i m H→
      (J.stop i H∧Q (.ref Dd) H)∨(J.go i H∧∃ Nx:Hp→Prop,(∀ H',Nx H'→∃ m',m'<m∧Wr (i+1) m' H')∧∀ x H',J.yld i H x H'→tGA G vs g x (L2.wipe σ vs) H' fun σ2 H2=>L2.wipe σ2 vs=L2.wipe σ vs∧tB_ G noW call tt σ2 H2 fun b H3=>
        if b=true then tE G (fun cls d _ H=>W cls d σ H) call te σ2 H3 fun y H4=> ∃ acc,H4 Dd=some (.lst acc)∧acc.length<sizeLine∧Nx (upd H4 Dd (.lst (acc++[y]))) else Nx H3):=by
  obtain ⟨Z,p1,ok,back⟩:=slp_wipe c.sl vs
  have nΨ:NoB (K++(ownR Z++ownR (ow Φ))):=noB_app nk (noB_app nob_ownR nob_ownR)
  have home: ∀ (s:S) (H:Hp) (p:O×V),CfS G (L2.wipe σ vs) H s ((.own p.1,p.2)::(K++(ownR Z++ownR (ow Φ))))→CfS G σ H ⟨rst s.σ s1.σ vs,s.h⟩ ((.own p.1,p.2)::Φ):=fun s H p c=>by
    obtain ⟨p2,ok2⟩:=back s.σ c.sl
    refine ⟨ok2,fun j v z=>?_, ?_⟩
    · rcases List.mem_cons.mp z with z|z
      · cases z
      · exact bo j v z
    · have cf:Cf G H s.h (slp s.σ (L2.wipe σ vs)++p::ow (K++(ownR Z++ownR (ow Φ)))):=c.cf
      have cf2:Cf G H s.h (ow K++(slp (rst s.σ s1.σ vs) σ++p::ow Φ)):=cf.perm (by
        simp only [ow_append,ow_ownR]
        refine List.perm_middle.trans ?_
        refine List.Perm.trans (List.Perm.cons _ ?_) (((List.perm_middle).append_left (ow K)).trans List.perm_middle).symm
        refine (List.perm_append_comm_assoc _ _ _).trans (List.Perm.append_left _ ?_)
        rw [←List.append_assoc]
        exact p2.symm.append_right _)
      exact Cf.dropN cf2
  let At:List D→S→Hp→Prop:=fun acc s H=>CfS G (L2.wipe σ vs) H s ((.own (.lst acc),.ref Dd)::(K++(ownR Z++ownR (ow Φ))))
  let To:List D→List D→S→Prop:=fun rest acc s=>Aft G W σ Φ (PV G σ Φ Q) (kLcE vs s1.σ (lcLE call g tt te vs rest acc s))
  have st0:At [] ⟨wipeO s1.σ vs,s1.h⟩ (upd H1 Dd (.lst [])):=by
    refine ⟨ok,fun i v z=>absurd z (noB_cons nΨ i v), ?_⟩
    have cf:=c.cf.perm (p1.append_right (ow (K++Φ)))
    have cf2:Cf G H1 s1.h (Fz [] []++(slp (wipeO s1.σ vs) (L2.wipe σ vs)++ow (K++(ownR Z++ownR (ow Φ))))):=cf.perm (by
      show List.Perm _ (slp (wipeO s1.σ vs) (L2.wipe σ vs)++ow (K++(ownR Z++ownR (ow Φ))))
      simp only [ow_append,ow_ownR,List.append_assoc]
      exact List.Perm.append_left _ (List.perm_append_comm_assoc _ _ _))
    exact (Cf.newLst rfl cf2 hD).perm List.perm_middle.symm
  refine ⟨fun i m H=>m=ds.length - i∧i≤ds.length∧∃ acc s,At acc s H∧To (ds.drop i) acc s,⟨ds.length,by simp,Nat.zero_le _,[],_,st0,a⟩, ?_⟩
  rintro i m H ⟨rfl,hi,acc,s,c,a⟩
  obtain ⟨w1,w2,w3⟩:=w _ H s _ (c.perm List.perm_middle.symm:CfS G (L2.wipe σ vs) H s (K++((.own (.lst acc),.ref Dd)::(ownR Z++ownR (ow Φ)))))
  by_cases lt:i<ds.length
  · refine .inr ⟨w1 i lt,fun H'=> ∃ acc s,At acc s H'∧To (ds.drop (i+1)) acc s,fun H' p'=>⟨ds.length - (i+1),by omega,rfl,lt,p'⟩,fun x H' y=>?_⟩
    have a':To (ds[i]::ds.drop (i+1)) acc s:=by rw [←List.drop_eq_getElem_cons lt];exact a
    have c1:=w2 i ds[i] x H' (by simp [lt]) y
    have c1':CfS G (L2.wipe σ vs) H' s ((.own (.fz ds[i]),x)::((.own (.lst acc),.ref Dd)::(K++(ownR Z++ownR (ow Φ))))):=c1.perm (List.Perm.cons _ List.perm_middle)
    simp only [To,lcLE] at a'
    cases eg:g (.fz ds[i]) s with
    |none=>simp only [eg,kLcE] at a';exact a'.elim
    | some s2 =>
      simp only [eg] at a'
      refine ⟨s,_,.fz ds[i],s2,noB_cons nΨ,c1',eg,fun σ2 c2 ag=>?_⟩
      have ew:L2.wipe σ2 vs=L2.wipe σ vs:=by rw [ag.wipe,wipe_wipe]
      refine ⟨ew,s2,_,c2, ?_⟩
      cases et:tt call s2 with
      |bad=>simp only [et,kLcE] at a';exact a'.elim
      |exc cn d s3=>simp only [et,kLcE] at a';exact a'.elim
      | ok b s3 =>
        cases b with
        | false=>
          simp only [et] at a'
          exact fun H3 c3=>iteF ⟨acc,_,by have:=c3.wipe (noB_cons nΨ) vs;rw [ew] at this;exact this,a'⟩
        | true=>
          simp only [et] at a'
          intro H3 c3
          refine iteT ⟨s3,_,c3, ?_⟩
          cases ee:te call s3 with
          |bad=>simp only [ee,kLcE] at a';exact a'.elim
          | exc cn d s4=>
            simp only [ee,kLcE] at a'
            rintro cls dx H4 ⟨C,f,b,v,h1,h2,h3,h4,c5⟩
            refine a' cls dx H4 ⟨C,f,b,v,h1,h2,h3,h4, ?_⟩
            have c6:=(c5.wipe (noB_cons (noB_cons nΨ)) vs)
            rw [ew] at c6
            have c7:CfS G (L2.wipe σ vs) H4 ⟨wipeO s4.σ vs,s4.h⟩ ((.own (.fz d),v)::(K++(ownR Z++ownR (ow Φ)))):=CfS.drop (c6.perm (.swap _ _ _))
            exact home _ _ (.fz d,v) c7
          | ok r s4=>
            simp only [ee] at a'
            intro yv H4 c4
            cases ek:take s4 r with
            |none=>simp only [ek,kLcE] at a';exact a'.elim
            | some q=>
              obtain ⟨d,s5⟩:=q
              simp only [ek] at a'
              by_cases hf:fitsB (acc.length+1)=true
              · rw [if_pos hf] at a'
                obtain ⟨us,t,l,c6⟩:=(c4.take ek).append
                refine ⟨us,t,by rw [l];exact Nat.lt_of_succ_le (fits hf),acc++[d],⟨wipeO s5.σ vs,s5.h⟩, ?_,a'⟩
                have:=c6.wipe (noB_cons nΨ) vs
                rw [ew] at this
                exact this
              · rw [if_neg hf] at a'
                exact a'.elim
  · have e:i=ds.length:=by omega
    subst e
    have a':To [] acc s:=by have:=a;rw [List.drop_length] at this;exact this
    exact .inl ⟨w3,a' (.ref Dd) H (home s H (.lst acc,.ref Dd) c)⟩
theorem e_lcE (g:Good G k call cc W X) (top:cc.top=true) {elt tg it:Expr} {ifs:List Expr} {scope:Scope} {own:List (Str×Nat)} {pos:Pos} {m:Iv} {t:Tg} {mt:B} {me:E} (hi:PI X tg it (tI G W call m)) (ok:BlkOk cc.N cc.sc scope own)
    (hg: ∀ (s:Shared) (H:Hp) (C:Addr) (cl:List (Str×Addr)) (fp:List Addr),PG (X.blk s H scope (compEnvC scope cl C X.env) fp) tg (tGA G (own.map (·.2)) t))
    (ht: ∀ (s:Shared) (H:Hp) (C:Addr) (cl:List (Str×Addr)) (fp:List Addr),PTs (X.blk s H scope (compEnvC scope cl C X.env) fp) ifs (tB_ G noW call mt))
    (he: ∀ (σ:L2.St) (s:Shared) (H:Hp) (C:Addr) (cl:List (Str×Addr)) (fp:List Addr),PE (X.blkE W σ s H scope (compEnvC scope cl C X.env) fp) elt (tE G (fun cls d _ H=>W cls d σ H) call me)) (hs: ∀ x,foldedSetIterable it X.env x=pure x):
    PE X (.ListComp elt [⟨tg,it,ifs,0⟩] scope pos) (tE G W call (mLcE m t mt me (own.map (·.2)))):=by
  refine (pe_lcE (te:=fun σ=>tE G (fun cls d _ H=>W cls d σ H) call me) g.calm (by rw [g.N];exact g.nd) (g.stk top).1 (g.stk top).2 g.tk hi (by rw [g.N,g.sc];exact ok) hg ht he hs).of fun σ H Q q=>?_
  obtain ⟨s,Φ,c,q⟩:=q
  exact ⟨s,Φ,c,(Aft.bind q).mono fun ds s1 a1=>fun K J H1 nk c1 w=>fun Dd hD=>lcE_walk nk c.bo w c1 hD a1⟩
end
end Mi
namespace Mi
open PySem PySem.Spec PyProof.Rows L2
noncomputable section
structure CE (cc:CC) (e:Expr) where
  m:E
  ok: ∀ G k call W X,Good G k call cc W X→PE X e (tE G W call m)
structure CB (cc:CC) (e:Expr) where
  m:B
  ok: ∀ G k call W X,Good G k call cc W X→PT X e (tB_ G W call m)
structure CA (cc:CC) (es:List Expr) where
  m:As
  ns:es.all notStar=true
  ln:lenA m es.length
  ok: ∀ G k call W X,Good G k call cc W X→PA X es (tL G W call m)
structure CI (cc:CC) (es:List Expr) where
  m:As
  ok: ∀ G k call W X,Good G k call cc W X→PA X es (tL G W call m)
structure CR (cc:CC) (es:List Expr) where
  m:AsR
  ns:es.all notStar=true
  ok: ∀ G k call W X,Good G k call cc W X→PA X es (tR G W call m)
structure CP (cc:CC) (e:Option Expr) where
  m:Pt
  ok: ∀ G k call W X,Good G k call cc W X→PO X e (tP G W call m)
structure CTg (cc:CC) (e:Expr) where
  m:Tg
  pl:plainT e=true
  ok: ∀ G k call W X,Good G k call cc W X→PG X e (tG G m)
structure CTs (cc:CC) (es:List Expr) where
  m:Tgs
  ms:List Tg
  pl:es.all plainT=true
  ln:es.length=ms.length
  ok: ∀ G k call W X,Good G k call cc W X→PGs X es (tGs G m)
  oks: ∀ G k call W X,Good G k call cc W X→PGs X es (tGsO G ms)
structure CGA (cc:CC) (vs:List Nat) (e:Expr) where
  m:Tg
  pl:plainT e=true
  ok: ∀ G k call W X,Good G k call cc W X→PG X e (tGA G vs m)
structure CGAs (cc:CC) (vs:List Nat) (es:List Expr) where
  m:Tgs
  pl:es.all plainT=true
  ok: ∀ G k call W X,Good G k call cc W X→PGs X es (tGAs G vs m)
structure CIv (cc:CC) (tg it:Expr) where
  m:Iv
  fs: ∀ env x,foldedSetIterable it env x=pure x
  ok: ∀ G k call W X,Good G k call cc W X→PI X tg it (tI G W call m)
structure CS (cc:CC) (st:Stmt) where
  m:C
  ok: ∀ G k call W X,Good G k call cc W X→PS X st (tS G W call m)
structure CSs (cc:CC) (st:List Stmt) where
  m:C
  ok: ∀ G k call W X,Good G k call cc W X→PSs X st (tS G W call m)
structure CF (cc:CC) (es:List Expr) where
  m:List E
  ok: ∀ G k call W X,Good G k call cc W X→FsOk G W call X es m
structure Tn where
  e: ∀ cc e,Option (CE cc e)
  b: ∀ cc e,Option (CB cc e)
  s: ∀ cc st,Option (CS cc st)
def idx (N:List Str) (x:Str):Nat:=N.findIdx (fun y=>decide (y=x))
def okName (x:Str):Bool:=!(x==("__debug__":Str))&&!(x==("__classdict__":Str))
def visB (sc:Scope) (x:Str):Bool:=match sc.names.lookup x with
  |some .local=>true
  |some .cell=>true
  |some .free=>true
  |_=>false
theorem vis_of {sc:Scope} {x:Str} (h:visB sc x=true):Vis sc x:=by
  unfold visB at h
  split at h
  · exact .inl (by assumption)
  · exact .inr (.inl (by assumption))
  · exact .inr (.inr (by assumption))
  · cases h
def glB (sc:Scope) (x:Str):Bool:=match sc.names.lookup x with
  |some .globalImplicit=>true
  |_=>false
theorem gl_of {sc:Scope} {x:Str} (h:glB sc x=true):sc.names.lookup x=some .globalImplicit:=by
  unfold glB at h
  split at h
  · assumption
  · cases h
def locB (sc:Scope) (x:Str):Bool:=match sc.names.lookup x with
  |some .local=>true
  |_=>false
theorem loc_of {sc:Scope} {x:Str} (h:locB sc x=true):sc.names.lookup x=some .local:=by
  unfold locB at h
  split at h
  · assumption
  · cases h
def celB (sc:Scope) (x:Str):Bool:=match sc.names.lookup x with
  |some .cell=>true
  |_=>false
theorem cel_of {sc:Scope} {x:Str} (h:celB sc x=true):sc.names.lookup x=some .cell:=by
  unfold celB at h
  split at h
  · assumption
  · cases h
theorem ok1 {x:Str} (h:okName x=true):(x==("__debug__":Str))=false:=by
  simp only [okName,Bool.and_eq_true,Bool.not_eq_true'] at h;exact h.1
theorem ok2 {x:Str} (h:okName x=true):(x==("__classdict__":Str))=false:=by
  simp only [okName,Bool.and_eq_true,Bool.not_eq_true'] at h;exact h.2
def tName (cc:CC) (x:Str) (pos:Pos):Option (CE cc (.Name x pos)):=
  if ho : okName x=true then
    if h:visB cc.sc x=true then
      (if h1:cc.N[idx cc.N x]?=some x then some ⟨mVar (idx cc.N x),fun G k call W X g=>e_var g.toGoodB h1 (vis_of h) (ok1 ho) (ok2 ho)⟩ else none)
    else if hg:glB cc.sc x=true then
      (match hc:cc.con x with
      | some d=>(match hs:simple d with
        |some v=>some ⟨mCon d,fun G k call W X g=>e_glo g.toGoodB (gl_of hg) hc hs (ok1 ho)⟩
        | none=>(match d,hc with
          | .tup ds,hc=>some ⟨mCon (.tup ds),fun G k call W X g=>e_gloT g.toGoodB (gl_of hg) hc (ok1 ho)⟩
          |_,_=>none))
      | none=>
        if h:x="str" then some ⟨mCon (.ty "str"),fun G k call W X g=>e_tyName g.toGoodB (by subst h;decide) (gl_of hg) (by subst h;decide+kernel) (by subst h;decide) (ok1 ho)⟩
        else if h:x="tuple" then some ⟨mCon (.ty "tuple"),fun G k call W X g=>e_tyName g.toGoodB (by subst h;decide) (gl_of hg) (by subst h;decide+kernel) (by subst h;decide) (ok1 ho)⟩
        else if h:x="list" then some ⟨mCon (.ty "list"),fun G k call W X g=>e_tyName g.toGoodB (by subst h;decide) (gl_of hg) (by subst h;decide+kernel) (by subst h;decide) (ok1 ho)⟩
        else if h:x="int" then some ⟨mCon (.ty "int"),fun G k call W X g=>e_tyName g.toGoodB (by subst h;decide) (gl_of hg) (by subst h;decide+kernel) (by subst h;decide) (ok1 ho)⟩
        else if h:x="bool" then some ⟨mCon (.ty "bool"),fun G k call W X g=>e_tyName g.toGoodB (by subst h;decide) (gl_of hg) (by subst h;decide+kernel) (by subst h;decide) (ok1 ho)⟩
        else if h:x="dict" then some ⟨mCon (.ty "dict"),fun G k call W X g=>e_tyName g.toGoodB (by subst h;decide) (gl_of hg) (by subst h;decide+kernel) (by subst h;decide) (ok1 ho)⟩
        else if h:x∈cc.fns then some ⟨mCon (.fn x),fun G k call W X g=>e_fnV g h (gl_of hg) (ok1 ho)⟩
        else none)
    else none
  else none
theorem len_nil:lenA aNil 0:=fun call s xs s' e=>by cases e;rfl
theorem len_cons {m:E} {r:As} {n:Nat} (h:lenA r n):lenA (aCons m r) (n+1):=fun call s xs s' e=>by
  unfold aCons at e
  cases e1:m call s with
  | ok x s1=>
    rw [e1] at e
    simp only [Out.bind_ok] at e
    cases e2:take s1 x with
    |none=>rw [e2] at e;cases e
    | some q=>
      obtain ⟨d,s2⟩:=q
      rw [e2] at e
      simp only at e
      cases e3:r call s2 with
      | ok ds s3=>
        rw [e3] at e
        cases e
        rw [List.length_cons,h _ _ _ _ e3]
      |exc c d s3=>rw [e3] at e;cases e
      |bad=>rw [e3] at e;cases e
  |exc c d s1=>rw [e1] at e;cases e
  |bad=>rw [e1] at e;cases e
def tA (T:Tn) (cc:CC):(es:List Expr)→Option (CA cc es)
  |[]=>some ⟨aNil,rfl,len_nil,fun _ _ _ _ _ _=>a_nil⟩
  | e ::es=>if hn:notStar e=true then
      (T.e cc e).bind fun a=>(tA T cc es).map fun r=>⟨aCons a.m r.m,by simp [hn,r.ns],len_cons r.ln,fun G k call W X g=>a_cons (a.ok G k call W X g) (r.ok G k call W X g) hn⟩
    else none
def tItems (T:Tn) (cc:CC):(es:List Expr)→Option (CI cc es)
  |[]=>some ⟨aNil,fun _ _ _ _ _ _=>a_nil⟩
  | .Starred (.Call (.Attribute e mt apos) [] [] cpos) p::es=>if h:mt="values"∧plainO e=true∧(apos.endLine==cpos.line)=true then
      (T.e cc e).bind fun a=>(tItems T cc es).bind fun r=>none
    else (T.e cc (.Call (.Attribute e mt apos) [] [] cpos)).bind fun a=>(tItems T cc es).bind fun r=>none
  | .Starred e p::es=>(T.e cc e).bind fun a=>(tItems T cc es).bind fun r=>none
  | e ::es=>if hn:notStar e=true then
      (T.e cc e).bind fun a=>(tItems T cc es).map fun r=>⟨aCons a.m r.m,fun G k call W X g=>a_cons (a.ok G k call W X g) (r.ok G k call W X g) hn⟩
    else none
def tR_ (T:Tn) (cc:CC):(es:List Expr)→Option (CR cc es)
  |[]=>some ⟨rNil,rfl,fun _ _ _ _ _ _=>r_nil⟩
  | e ::es=>if hn:notStar e=true then
      (T.e cc e).bind fun a=>(tR_ T cc es).map fun r=>⟨rCons a.m r.m,by simp [hn,r.ns],fun G k call W X g=>r_cons (a.ok G k call W X g) (r.ok G k call W X g) hn⟩
    else none
def tAndE (T:Tn) (cc:CC) (pos:Pos):(es:List Expr)→Option (CE cc (.BoolOp .And es pos))
  |[]=>none
  |[a]=>(T.e cc a).map fun c=>⟨c.m,fun G k call W X g=>pe_one (c.ok G k call W X g)⟩
  |a::b::r=>(T.e cc a).bind fun c=>(tAndE T cc pos (b::r)).bind fun d=>none
def tOrE (T:Tn) (cc:CC) (pos:Pos):(es:List Expr)→Option (CE cc (.BoolOp .Or es pos))
  |[]=>none
  |[a]=>(T.e cc a).map fun c=>⟨c.m,fun G k call W X g=>pe_one (c.ok G k call W X g)⟩
  |a::b::r=>(T.e cc a).bind fun c=>(tOrE T cc pos (b::r)).bind fun d=>none
structure CW (cc:CC) (e:Expr) where
  m:B
  ok: ∀ G k call W X,Good G k call cc W X→PW X e (tB_ G W call m)
def tAndB (T:Tn) (cc:CC) (pos:Pos):(es:List Expr)→Option (CW cc (.BoolOp .And es pos))
  |[]=>none
  |[a]=>(T.b cc a).map fun c=>⟨c.m,fun G k call W X g=>w_and1 (c.ok G k call W X g)⟩
  |a::b::r=>(T.b cc a).bind fun c=>(tAndB T cc pos (b::r)).map fun d=>⟨bAnd c.m d.m,fun G k call W X g=>w_and (c.ok G k call W X g) (d.ok G k call W X g)⟩
def tOrB (T:Tn) (cc:CC) (pos:Pos):(es:List Expr)→Option (CW cc (.BoolOp .Or es pos))
  |[]=>none
  |[a]=>(T.b cc a).map fun c=>⟨c.m,fun G k call W X g=>w_or1 (c.ok G k call W X g)⟩
  |a::b::r=>(T.b cc a).bind fun c=>(tOrB T cc pos (b::r)).map fun d=>⟨bOr c.m d.m,fun G k call W X g=>w_or (c.ok G k call W X g) (d.ok G k call W X g)⟩
structure OB (b:Bool) (op:Operator) where
  f:D→D→Option O
  ok: ∀ (G:GE) (X:Cx),X.K=G.K→G.bare=b→OpR X (binaryOp op) (r2 G f)
def tOp2:(b:Bool)→(op:Operator)→Option (OB b op)
  |false,.Add=>some ⟨addD,fun _ _ h hb=>o_add h hb⟩
  |true,.Add=>none
  |_,.Sub=>some ⟨subD,fun _ _ _ _=>o_sub⟩
  |false,.Mult=>some ⟨mulX,fun _ _ h hb=>o_or o_mul (o_mulT h hb)⟩
  |true,.Mult=>none
  |_,.Mod=>some ⟨modD,fun _ _ _ _=>o_mod⟩
  |_,.FloorDiv=>some ⟨fdivD,fun _ _ _ _=>o_fdiv⟩
  |_,.Pow=>some ⟨powD,fun _ _ _ _=>o_pow⟩
  |_,_=>none
structure OC (op:CmpOp) where
  f:D→D→Option O
  ok: ∀ (G:GE) (cc:CC) (X:Cx),GoodB G cc X→OpR X (compareOp op) (r2 G f)
def tCmp2:(op:CmpOp)→Option (OC op)
  | .Lt=>some ⟨ltD,fun _ _ _ _=>o_lt⟩
  | .LtE=>none
  | .Gt=>some ⟨gtD,fun _ _ _ _=>o_gt⟩
  | .GtE=>some ⟨geD,fun _ _ _ _=>o_ge⟩
  | .Eq=>some ⟨eqX,fun _ _ _ g=>o_eqX g⟩
  | .NotEq=>some ⟨neX,fun _ _ _ g=>o_neX g⟩
  | .In=>some ⟨inX,fun _ _ _ g=>o_inX g⟩
  | .NotIn=>some ⟨notInX,fun _ _ _ g=>o_ninX g⟩
  | .Is=>some ⟨isNoneD,fun _ _ _ _=>o_isN⟩
  | .IsNot=>none
structure OCs (cc:CC) (op:CmpOp) where
  f:Call→S→R→R→Out R
  ok: ∀ G k call W X,Good G k call cc W X→OpS X (compareOp op) (rB G W call f)
def strB (cc:CC) (b:Bool):Bool:=b&&decide (("+str":Str)∈cc.cells)
def isLV:Expr→Bool
  | .Name x _=>x=="_law_value"||x=="_law_value_here"
  | .Call (.Name f _) _ _ _=>f=="_law_draw"
  |_=>false
def isLO:Expr→Bool
  | .Name x _=>x=="_law_operation"
  | .BinOp (.Name x _) _ _ _=>x=="_law_operation"
  | .BinOp (.BinOp (.Name x _) _ _ _) _ _ _=>x=="_law_operation"
  |_=>false
def tOp3 (cc:CC) (b:Bool) (op:Operator):Option (OB cc.bare op):=
  if h:cc.bare=false∧strB cc b=true then
    (match op with
    | .Add=>some ⟨addX,fun _ _ h1 h2=>o_or (o_add h1 (h2.trans h.1)) o_addW⟩
    |op=>tOp2 cc.bare op)
  else tOp2 cc.bare op
structure BF (x:Str) where
  f:List D→Option O
  ok: ∀ G k call cc W X,Good G k call cc W X→cc.sc.names.lookup x=some .globalImplicit→∀ e es r p pos,PA X (e::es) (tR G W call r)→(e::es).all notStar=true→PE X (.Call (.Name x p) (e::es) [] pos) (tE G W call (mBlt f r))
def bfOf (sx:Bool) (x:Str):Option (BF x):=
  if h:sx=true∧x="str" then some ⟨strY,fun G k call cc W X g hl e es r p pos ha hn=>by obtain ⟨_,rfl⟩:=h;exact e_ty g.toGoodB (b_or b_str (b_strE g.K g.units g.gd)) (by decide) hl (by decide+kernel) ha hn (by decide) (by decide)⟩
  else if h:x="len" then some ⟨lenX,fun G k call cc W X g hl e es r p pos ha hn=>by subst h;exact e_blt g.toGoodB (b_or (b_len g.K) b_dlen) (by decide) hl PySem.boot_len ha hn (by decide) (by decide)⟩
  else if h:x="abs" then some ⟨absD,fun G k call cc W X g hl e es r p pos ha hn=>by subst h;exact e_blt g.toGoodB b_abs (by decide) hl (by decide+kernel) ha hn (by decide) (by decide)⟩
  else if h:x="max" then some ⟨maxD,fun G k call cc W X g hl e es r p pos ha hn=>by subst h;exact e_blt g.toGoodB (b_max g.calm) (by decide) hl (by decide+kernel) ha hn (by decide) (by decide)⟩
  else if h:x="min" then some ⟨minD,fun G k call cc W X g hl e es r p pos ha hn=>by subst h;exact e_blt g.toGoodB (b_min g.calm) (by decide) hl (by decide+kernel) ha hn (by decide) (by decide)⟩
  else if h:x="sum" then some ⟨sumD,fun G k call cc W X g hl e es r p pos ha hn=>by subst h;exact e_blt g.toGoodB (b_sum g.K g.calm) (by decide) hl (by decide+kernel) ha hn (by decide) (by decide)⟩
  else if h:x="all" then none
  else if h:x="isinstance" then some ⟨isiD,fun G k call cc W X g hl e es r p pos ha hn=>by subst h;exact e_blt g.toGoodB (b_isi g.K) (by decide) hl (by decide+kernel) ha hn (by decide) (by decide)⟩
  else if h:x="int" then some ⟨intD,fun G k call cc W X g hl e es r p pos ha hn=>by subst h;exact e_ty g.toGoodB b_int (by decide) hl (by decide+kernel) ha hn (by decide) (by decide)⟩
  else if h:x="list" then none
  else if h:x="dict" then some ⟨dictX,fun G k call cc W X g hl e es r p pos ha hn=>by subst h;exact e_ty g.toGoodB (b_dictX g.K g.calm) (by decide) hl (by decide+kernel) ha hn (by decide) (by decide)⟩
  else if h:x="str" then none
  else if h:x="sorted" then none
  else if h:x="repr" then none
  else if h:x="tuple" then some ⟨tupleOfD,fun G k call cc W X g hl e es r p pos ha hn=>by subst h;exact e_ty g.toGoodB (b_tuple g.K) (by decide) hl (by decide+kernel) ha hn (by decide) (by decide)⟩
  else none
def isInsE (cc:CC):Expr→Bool
  | .Name x _=>decide (x∈cc.insN)
  | .Attribute _ f _=>decide (f∈cc.insN)
  | .Call (.Name c _) _ [] _=>decide (c∈cc.news)
  | .Call (.Attribute _ m _) _ [] _=>decide (m∈cc.insN)
  | .BinOp (.Name x _) .BitOr _ _=>decide (x∈cc.insN)
  | .BinOp (.Name x _) .BitAnd _ _=>decide (x∈cc.insN)
  |_=>false
def isShB:Expr→Bool
  | .List [.Constant (.str a) _ _,.Name x _] _=>decide (a="shown")&&decide (x="_law_bare")
  |_=>false
def tCmpL (b:Expr):(op:CmpOp)→Option (OC op)
  | .NotEq=>if isShB b=true then none else tCmp2 .NotEq
  |op=>tCmp2 op
def tCmpI (cc:CC) (a b:Expr):(op:CmpOp)→Option (OCs cc op)
  | .In=>if h:isInsE cc b=true∧(("__contains__":Str),1)∈cc.mns then none else none
  | .NotIn=>if h:isInsE cc b=true∧(("__contains__":Str),1)∈cc.mns then none else none
  | .Eq=>if h:isInsE cc a=true∧(("__eq__":Str),1)∈cc.mns then none else none
  | .NotEq=>if h:isInsE cc a=true∧(("__eq__":Str),1)∈cc.mns then none else none
  | .LtE=>if h:isInsE cc a=true∧(("__le__":Str),1)∈cc.mns then none else none
  |_=>none
structure OBs (cc:CC) (op:Operator) where
  f:Call→S→R→R→Out R
  ok: ∀ G k call W X,Good G k call cc W X→OpS X (binaryOp op) (rB G W call f)
def tBinI (cc:CC) (a:Expr):(op:Operator)→Option (OBs cc op)
  | .BitOr=>if h:isInsE cc a=true∧(("__or__":Str),1)∈cc.mns then none else none
  | .BitAnd=>if h:isInsE cc a=true∧(("__and__":Str),1)∈cc.mns then none else none
  | .Add=>if h:isInsE cc a=true∧(("__add__":Str),1)∈cc.mns∧cc.bare=false then none else none
  |_=>none
def tNew (T:Tn) (cc:CC) (f:Str) (p pos:Pos):(es:List Expr)→Option (CE cc (.Call (.Name f p) es [] pos))
  |[]=>if h:(f∈cc.news∧glB cc.sc f=true∧okName f=true∧(mkey f "__init__",1,[])∈cc.shp) then
      none else none
  | e ::es=>if h:(f∈cc.news∧glB cc.sc f=true∧okName f=true∧(mkey f "__init__",es.length+2,[])∈cc.shp) then
      (tA T cc (e::es)).bind fun r=>none else none
def tNewR (T:Tn) (cc:CC):(e:Expr)→Option (CE cc e)
  | .Call (.Name f p) (e::es) [] pos=>if h:(f∈cc.news∧glB cc.sc f=true∧okName f=true∧(mkey f "__init__",es.length+2,[])∈cc.shp) then
      (tA T cc (e::es)).bind fun r=>none else none
  |_=>none
def tNewK (T:Tn) (cc:CC) (f:Str) (p pos:Pos) (n:Str) (ke:Expr) (kp:Pos):(es:List Expr)→Option (CE cc (.Call (.Name f p) es [⟨some n,ke,kp⟩] pos))
  |[]=>none
  | e ::es=>if h:(f∈cc.news∧glB cc.sc f=true∧okName f=true∧(mkey f "__init__",es.length+2,[n])∈cc.shp) then
      (tA T cc (e::es)).bind fun r=>(T.e cc ke).bind fun v=>none else none
def tCall (T:Tn) (cc:CC) (f:Str) (p:Pos) (pos:Pos):(es:List Expr)→Option (CE cc (.Call (.Name f p) es [] pos))
  |[]=>tNew T cc f p pos []
  | e ::es=>if hg:glB cc.sc f=true then
      (if hf:f∈cc.fns then
        (if ho:okName f=true∧(f,es.length+1,[])∈cc.shp then (tA T cc (e::es)).map fun r=>if f∈cc.cells then ⟨mCell (mCall f r.m),fun G k call W X g=>e_cell (e_call g hf ho.2 (gl_of hg) (r.ok G k call W X g) r.ln r.ns (ok1 ho.1))⟩ else ⟨mCall f r.m,fun G k call W X g=>e_call g hf ho.2 (gl_of hg) (r.ok G k call W X g) r.ln r.ns (ok1 ho.1)⟩ else none)
      else if hw:f∈cc.news then tNew T cc f p pos (e::es)
      else if hl:f="len"∧es=[]∧isInsE cc e=true∧(("__len__":Str),0)∈cc.mns∧notStar e=true then
        (T.e cc e).bind fun a=>none
      else (bfOf (strB cc (isLV e)) f).bind fun b=>(tR_ T cc (e::es)).map fun r=>⟨mBlt b.f r.m,fun G k call W X g=>b.ok G k call cc W X g (gl_of hg) e es r.m p pos (r.ok G k call W X g) r.ns⟩)
    else none
def tTgN (cc:CC) (x:Str) (pos:Pos):Option (CTg cc (.Name x pos)):=
  if h1:cc.N[idx cc.N x]?=some x then
    (if hl:locB cc.sc x=true then some ⟨gN (idx cc.N x),rfl,fun G k call W X g=>g_name g h1 (.inl (loc_of hl))⟩
    else if hc:(celB cc.sc x&&cc.top)=true then some ⟨gN (idx cc.N x),rfl,fun G k call W X g=>g_name g h1 (.inr ⟨(Bool.and_eq_true_iff.mp hc).2,cel_of (Bool.and_eq_true_iff.mp hc).1⟩)⟩
    else none)
  else none
def tTgs (cc:CC):(es:List Expr)→Option (CTs cc es)
  |[]=>none
  | .Name x pos::es=>(tTgN cc x pos).bind fun a=>(tTgs cc es).bind fun r=>none
  |_=>none
def tTg (cc:CC):(e:Expr)→Option (CTg cc e)
  | .Name x pos=>tTgN cc x pos
  | .Tuple es n pos=>(tTgs cc es).bind fun r=>none
  |_=>none
def tGaN (cc:CC) (vs:List Nat) (x:Str) (pos:Pos):Option (CGA cc vs (.Name x pos)):=
  if h1:cc.N[idx cc.N x]?=some x then
    (if hl:locB cc.sc x=true then (if hv:idx cc.N x∈vs then some ⟨gN (idx cc.N x),rfl,fun G k call W X g=>ga_name g h1 (loc_of hl) hv⟩ else none) else none)
  else none
def tGas (cc:CC) (vs:List Nat):(es:List Expr)→Option (CGAs cc vs es)
  |[]=>none
  | .Name x pos::es=>(tGaN cc vs x pos).bind fun a=>(tGas cc vs es).bind fun r=>none
  |_=>none
def tGa (cc:CC) (vs:List Nat):(e:Expr)→Option (CGA cc vs e)
  | .Name x pos=>tGaN cc vs x pos
  | .Tuple es n pos=>(tGas cc vs es).bind fun r=>none
  |_=>none
def namesOf:Expr→List Str
  | .Name x _=>[x]
  | .Tuple es _ _=>es.filterMap fun e=>match e with| .Name x _=>some x|_=>none
  |_=>[]
def noSet:Expr→Bool
  | .Set .. =>false
  |_=>true
theorem fs_ok {it:Expr} (h:noSet it=true) (env:Env) (x:Value):foldedSetIterable it env x=pure x:=by
  unfold foldedSetIterable
  split
  · cases h
  · rfl
def dkN:List Str:=["_law_row_here"]
def isDk:Expr→Bool
  | .Name x _=>dkN.contains x
  |_=>false
def isDz (x:Str):Expr→Bool
  | .Tuple [.Name y _,.Name _ _] _ _=>x=="found"&&y=="operation"
  |_=>false
def codeX:Expr→Bool
  | .Subscript (.Name x _) _ _=>decide (x="_law_code_here")
  |_=>false
def frzW:List Str:=["_law_front","_law_rear","_law_values"]
def tIv (T:Tn) (cc:CC) (tg:Expr):(it:Expr)→Option (CIv cc tg it)
  | .Call (.Name f p) args [] pos=>
    if h:f="range"∧glB cc.sc "range"=true then
      (match args with
      |[a]=>(tR_ T cc [a]).map fun r=>⟨iRg1 r.m,fun env x=>rfl,fun G k call W X g=>by rw [h.1];exact i_range1 g (gl_of h.2) (r.ok G k call W X g) (by simpa using r.ns)⟩
      |[a,b]=>(tR_ T cc [a,b]).bind fun r=>none
      |_=>none)
    else if h:f="enumerate"∧glB cc.sc "enumerate"=true then
      (match args,tg with
      | [a],.Tuple elts kk tpos=>(tA T cc [a]).map fun r=>if hb:cc.bare=false then ⟨iEn r.m,fun env x=>rfl,fun G k call W X g=>by rw [h.1];exact i_enum g (g.bare.trans hb) (gl_of h.2) (r.ok G k call W X g) (by simpa using r.ns)⟩
        else ⟨iEnB r.m,fun env x=>rfl,fun G k call W X g=>by rw [h.1];exact i_enumB g (gl_of h.2) (r.ok G k call W X g) (by simpa using r.ns)⟩
      |_,_=>none)
    else if h:f="zip"∧glB cc.sc "zip"=true∧cc.bare=false then
      (match args,tg with
      |[a,b],.Tuple elts kk tpos=>(tA T cc [a,b]).bind fun r=>none
      |_,_=>none)
    else if h:f="dict"∧glB cc.sc "dict"=true∧isDk tg=true then
      (match args with
      | [a]=>if hs:notStar a=true then (T.e cc (.Call (.Name f p) [a] [] pos)).bind fun m0=>(T.e cc a).bind fun m1=>none
        else none
      |_=>none)
    else (T.e cc (.Call (.Name f p) args [] pos)).map fun a=>⟨iAny a.m,fun env x=>rfl,fun G k call W X g=>i_any g (a.ok G k call W X g)⟩
  | .Call (.Attribute o m apos) [] [] cpos=>if h:m="values"∧plainO o=true∧(apos.endLine==cpos.line)=true then
      (T.e cc o).bind fun a=>none
    else if h:m="items"∧cc.bare=false∧plainO o=true∧(apos.endLine==cpos.line)=true then
      (match tg with
      | .Tuple elts kk tpos=>(T.e cc o).bind fun a=>none
      |_=>none)
    else (T.e cc (.Call (.Attribute o m apos) [] [] cpos)).map fun a=>⟨iAny a.m,fun env x=>rfl,fun G k call W X g=>i_any g (a.ok G k call W X g)⟩
  | .Name x p=>if isDz x tg=true then (T.e cc (.Name x p)).bind fun a=>none
    else if frzW.contains x=true then (T.e cc (.Name x p)).map fun a=>⟨iAny (mFrz a.m),fs_ok rfl,fun G k call W X g=>i_any g (e_frz (a.ok G k call W X g))⟩
    else (T.e cc (.Name x p)).map fun a=>⟨iAny a.m,fs_ok rfl,fun G k call W X g=>i_any g (a.ok G k call W X g)⟩
  | it=>if hs:noSet it=true then (if codeX it=true then (T.e cc it).map fun a=>⟨iAny (mFrz a.m),fs_ok hs,fun G k call W X g=>i_any g (e_frz (a.ok G k call W X g))⟩
    else (T.e cc it).map fun a=>⟨iAny a.m,fs_ok hs,fun G k call W X g=>i_any g (a.ok G k call W X g)⟩) else none
def CC.blk (cc:CC) (scope:Scope):CC:={cc with sc:=relS scope cc.sc,top:=false}
theorem good_blk {G:GE} {k:Nat} {call:Call} {cc:CC} {W:WX} {X:Cx} (g:Good G k call cc W X) (scope:Scope) (s:Shared) (H:Hp) (C:Addr) (cl:List (Str×Addr)) (fp:List Addr):
    Good G k call (cc.blk scope) noW (X.blk s H scope (compEnvC scope cl C X.env) fp) where
  N:=g.N
  bare:=g.bare
  nd:=g.nd
  sc:=by show relS scope X.env.scope=relS scope cc.sc;rw [g.sc]
  K:=g.K
  units:=g.units
  wd:=g.wd
  gd:=g.gd
  blt:=g.blt
  con:=g.con
  conT:=g.conT
  exs:=g.exs
  xr:=g.xr
  sub:=g.sub
  cls:=g.cls
  fld:=g.fld
  clb:=g.clb
  ceq:=g.ceq
  isx:=g.isx
  opx:=g.opx
  fnx:=g.fnx
  cur:=fun a a' C e=>by rw [g.cold] at e;cases e
  calm:=g.calm
  cold:=g.cold
  tk:=takes0
  room:=g.room
  fn:=fun h=>nomatch h
  po:=PassesOwn.never
  stk:=fun h=>nomatch h
  fns:=g.fns
  news:=g.news
  mths:=g.mths
  sts:=g.sts
theorem good_blkE {G:GE} {k:Nat} {call:Call} {cc:CC} {W:WX} {X:Cx} (g:Good G k call cc W X) (top:cc.top=true) (scope:Scope) (σ:L2.St) (s:Shared) (H:Hp) (C:Addr) (cl:List (Str×Addr)) (fp:List Addr):
    Good G k call (cc.blk scope) (fun cls d _ H=>W cls d σ H) (X.blkE W σ s H scope (compEnvC scope cl C X.env) fp) where
  N:=g.N
  bare:=g.bare
  nd:=g.nd
  sc:=by show relS scope X.env.scope=relS scope cc.sc;rw [g.sc]
  K:=g.K
  units:=g.units
  wd:=g.wd
  gd:=g.gd
  blt:=g.blt
  con:=g.con
  conT:=g.conT
  exs:=g.exs
  xr:=g.xr
  sub:=g.sub
  cls:=g.cls
  fld:=g.fld
  clb:=g.clb
  ceq:=g.ceq
  isx:=g.isx
  opx:=g.opx
  fnx:=g.fnx
  cur:=fun a a' C e=>by rw [g.cold] at e;cases e
  calm:=g.calm
  cold:=g.cold
  tk:=takes_blkE
  room:=g.room
  fn:=fun h=>nomatch h
  po:=passes_blkE (X:=X) (g.stk top).1 (g.stk top).2 rfl
  stk:=fun h=>nomatch h
  fns:=g.fns
  news:=g.news
  mths:=g.mths
  sts:=g.sts
structure CTt (cc:CC) (es:List Expr) where
  m:B
  ok: ∀ G k call W X,Good G k call cc W X→PTs X es (tB_ G W call m)
theorem b_yes {G:GE} {W:WX} {call:Call} {X:Cx}:PTs X [] (tB_ G W call bYes):=⟨fun pins s σ H Q I q=>pts_nil.run pins s σ H Q I (by obtain ⟨s,Φ,c,a⟩:=q;exact a H c)⟩
def tTt (T:Tn) (cc:CC):(es:List Expr)→Option (CTt cc es)
  |[]=>some ⟨bYes,fun _ _ _ _ _ _=>b_yes⟩
  |[e]=>(T.b cc e).map fun c=>⟨c.m,fun G k call W X g=>pts_one (c.ok G k call W X g)⟩
  |_=>none
def outX (cc:CC):Expr→Bool
  | .Call (.Name f _) _ _ _=>cc.top&&decide ((("~":Str)++f)∈cc.cells)
  |_=>false
theorem outX_top {cc:CC} {e:Expr} (h:outX cc e=true):cc.top=true:=by
  unfold outX at h
  split at h
  · simp only [Bool.and_eq_true] at h;exact h.1
  · cases h
def tLc (T:Tn) (cc:CC) (elt tg it:Expr) (ifs:List Expr) (scope:Scope) (pos:Pos):Option (CE cc (.ListComp elt [⟨tg,it,ifs,0⟩] scope pos)):=
  let own:List (Str×Nat):=(namesOf tg).map fun x=>(x,idx cc.N x)
  if hb:blkC cc.N cc.sc scope own=true then
    (tIv T cc tg it).bind fun i=>(tGa (cc.blk scope) (own.map (·.2)) tg).bind fun t=>(tTt T (cc.blk scope) ifs).bind fun c=>(T.e (cc.blk scope) elt).bind fun e=>if hx:outX cc elt=true then
      some ⟨mLcE i.m t.m c.m e.m (own.map (·.2)),fun G k call W X g=>e_lcE g (outX_top hx) (i.ok G k call W X g) (blkOk_by hb) (fun s H C cl fp=>t.ok _ _ _ _ _ (good_blk g scope s H C cl fp)) (fun s H C cl fp=>c.ok _ _ _ _ _ (good_blk g scope s H C cl fp)) (fun σ s H C cl fp=>e.ok _ _ _ _ _ (good_blkE g (outX_top hx) scope σ s H C cl fp)) (i.fs _)⟩
    else some
      ⟨mLc i.m t.m c.m e.m (own.map (·.2)),fun G k call W X g=>e_lc g (i.ok G k call W X g) (blkOk_by hb) (fun s H C cl fp=>t.ok _ _ _ _ _ (good_blk g scope s H C cl fp)) (fun s H C cl fp=>c.ok _ _ _ _ _ (good_blk g scope s H C cl fp)) (fun s H C cl fp=>e.ok _ _ _ _ _ (good_blk g scope s H C cl fp)) (i.fs _)⟩
  else none
def tLc2 (T:Tn) (cc:CC) (elt tg it tg1 it1:Expr) (ifs ifs1:List Expr) (scope:Scope) (pos:Pos):Option (CE cc (.ListComp elt [⟨tg,it,ifs,0⟩,⟨tg1,it1,ifs1,0⟩] scope pos)):=
  let own:List (Str×Nat):=(namesOf tg++namesOf tg1).map fun x=>(x,idx cc.N x)
  let vs1:List Nat:=(namesOf tg1).map fun x=>idx cc.N x
  if hb :blkC cc.N cc.sc scope own=true∧(vs1.all fun i=>decide (i∈own.map (·.2)))=true then
    (tIv T cc tg it).bind fun i=>(tGa (cc.blk scope) (own.map (·.2)) tg).bind fun t=>(tTt T (cc.blk scope) ifs).bind fun c=>(tIv T (cc.blk scope) tg1 it1).bind fun i1=>(tGa (cc.blk scope) vs1 tg1).bind fun t1=>(tTt T (cc.blk scope) ifs1).bind fun c1=>(T.e (cc.blk scope) elt).map fun e=>
      ⟨mLc2 i.m t.m c.m i1.m t1.m c1.m e.m (own.map (·.2)) vs1,fun G k call W X g=>e_lc2 g (i.ok G k call W X g) (blkOk_by hb.1) (fun j hj=>by have:=List.all_eq_true.mp hb.2 j hj;exact of_decide_eq_true this)
        (fun s H C cl fp=>t.ok _ _ _ _ _ (good_blk g scope s H C cl fp)) (fun s H C cl fp=>c.ok _ _ _ _ _ (good_blk g scope s H C cl fp)) (fun s H C cl fp=>i1.ok _ _ _ _ _ (good_blk g scope s H C cl fp)) (fun s H C cl fp=>t1.ok _ _ _ _ _ (good_blk g scope s H C cl fp)) (fun s H C cl fp=>c1.ok _ _ _ _ _ (good_blk g scope s H C cl fp)) (fun s H C cl fp=>e.ok _ _ _ _ _ (good_blk g scope s H C cl fp)) (i.fs _) i1.fs⟩
  else none
def cellV:Expr→Bool
  | .List [] _=>true
  | .Call (.Name f _) _ _ _=>decide (f="list")
  |_=>false
def cellT (T:Tn):Tn:={T with e:=fun cc e=>(T.e cc e).map fun a=>⟨mCell a.m,fun G k call W X g=>e_cell (a.ok G k call W X g)⟩}
def tDc (T:Tn) (cc:CC) (kx vx tg it:Expr) (ifs:List Expr) (scope:Scope) (pos:Pos):Option (CE cc (.DictComp kx vx [⟨tg,it,ifs,0⟩] scope pos)):=
  let own:List (Str×Nat):=(namesOf tg).map fun x=>(x,idx cc.N x)
  if hb:blkC cc.N cc.sc scope own=true then
    (tIv T cc tg it).bind fun i=>(tGa (cc.blk scope) (own.map (·.2)) tg).bind fun t=>(tTt T (cc.blk scope) ifs).bind fun c=>(T.e (cc.blk scope) kx).bind fun a=>((if cellV vx then cellT T else T).e (cc.blk scope) vx).map fun b=>
      ⟨mDc i.m t.m c.m a.m b.m (own.map (·.2)),fun G k call W X g=>e_dc g (i.ok G k call W X g) (blkOk_by hb) (fun s H C cl fp=>t.ok _ _ _ _ _ (good_blk g scope s H C cl fp)) (fun s H C cl fp=>c.ok _ _ _ _ _ (good_blk g scope s H C cl fp)) (fun s H C cl fp=>a.ok _ _ _ _ _ (good_blk g scope s H C cl fp)) (fun s H C cl fp=>b.ok _ _ _ _ _ (good_blk g scope s H C cl fp)) (i.fs _)⟩
  else none
def tSts (T:Tn) (cc:CC) (f:Str) (p:Pos) (elt tg it:Expr) (ifs:List Expr) (scope:Scope) (spos pos:Pos):Option (CE cc (.Call (.Name f p) [.SetComp elt [⟨tg,it,ifs,0⟩] scope spos] [] pos)):=
  let own:List (Str×Nat):=(namesOf tg).map fun x=>(x,idx cc.N x)
  if hb :blkC cc.N cc.sc scope own=true∧f="sorted"∧glB cc.sc "sorted"=true then
    (tIv T cc tg it).bind fun i=>(tGa (cc.blk scope) (own.map (·.2)) tg).bind fun t=>(tTt T (cc.blk scope) ifs).bind fun c=>(T.e (cc.blk scope) elt).map fun e=>
      ⟨mSts i.m t.m c.m e.m (own.map (·.2)),fun G k call W X g=>by
        rw [hb.2.1]
        exact e_sts g (i.ok G k call W X g) (blkOk_by hb.1) (fun s H C cl fp=>t.ok _ _ _ _ _ (good_blk g scope s H C cl fp)) (fun s H C cl fp=>c.ok _ _ _ _ _ (good_blk g scope s H C cl fp)) (fun s H C cl fp=>e.ok _ _ _ _ _ (good_blk g scope s H C cl fp)) (i.fs _) (gl_of hb.2.2)⟩
  else none
def tStrK (T:Tn) (cc:CC) (f:Str) (p:Pos) (y:Str) (yp cp:Pos) (x:Str) (xp:Pos) (o:Expr) (a:Str) (ap:Pos) (scope:Scope) (pos:Pos):Option (CE cc (.ListComp (.Call (.Name f p) [.Name y yp] [] cp) [⟨.Name x xp,.Attribute o a ap,[],0⟩] scope pos)):=
  if h:f="str"∧x=y∧blkC cc.N cc.sc scope [(y,idx cc.N y)]=true∧cc.N[idx cc.N y]?=some y∧locB (relS scope cc.sc) y=true∧glB (relS scope cc.sc) "str"=true∧okName y=true then
    (T.e cc (.Attribute o a ap)).bind fun m=>none
  else none
def tStrN (T:Tn) (cc:CC) (f:Str) (p:Pos) (y:Str) (yp cp:Pos) (x:Str) (xp:Pos) (o:Str) (op:Pos) (scope:Scope) (pos:Pos):Option (CE cc (.ListComp (.Call (.Name f p) [.Name y yp] [] cp) [⟨.Name x xp,.Name o op,[],0⟩] scope pos)):=
  if h:o∈strN∧f="str"∧x=y∧blkC cc.N cc.sc scope [(y,idx cc.N y)]=true∧cc.N[idx cc.N y]?=some y∧locB (relS scope cc.sc) y=true∧glB (relS scope cc.sc) "str"=true∧okName y=true then
    (T.e cc (.Name o op)).bind fun m=>none
  else none
def pcB (cc:CC):Expr→Bool
  | .Name x _=>decide ((("%":Str)++x)∈cc.cells)
  |_=>false
def tStrS (T:Tn) (cc:CC) (f:Str) (p:Pos) (y:Str) (yp cp:Pos) (x:Str) (xp:Pos) (o:Expr) (i:Expr) (ap:Pos) (scope:Scope) (pos:Pos):Option (CE cc (.ListComp (.Call (.Name f p) [.Name y yp] [] cp) [⟨.Name x xp,.Subscript o i ap,[],0⟩] scope pos)):=
  if h:f="str"∧x=y∧blkC cc.N cc.sc scope [(y,idx cc.N y)]=true∧cc.N[idx cc.N y]?=some y∧locB (relS scope cc.sc) y=true∧glB (relS scope cc.sc) "str"=true∧okName y=true∧pcB cc o=true then
    (T.e cc (.Subscript o i ap)).bind fun m=>none
  else none
def tPart (T:Tn) (cc:CC):(e:Option Expr)→Option (CP cc e)
  |none=>some ⟨pNone,fun _ _ _ _ _ _=>p_none⟩
  |some e=>(T.e cc e).map fun c=>⟨pSome c.m,fun G k call W X g=>p_some (c.ok G k call W X g)⟩
def tCount (T:Tn) (cc:CC) (x:Expr) (name:Str) (p:Pos) (e:Expr) (pos:Pos):Option (CE cc (.Call (.Attribute x name p) [e] [] pos)):=
  if h:name="count"∧cc.bare=true then
    (if hc:(notStar e&&plainO x&&(p.endLine==pos.line))=true then
      (T.e cc x).bind fun a=>(T.e cc e).bind fun b=>none
    else none)
  else none
def isSome_:Option Expr→Bool
  |some _=>true
  |none=>false
def theKeys:List (Option Expr)→List Expr
  |some e::r=>e::theKeys r
  |none::r=>theKeys r
  |[]=>[]
theorem keys_eq: ∀ {ks:List (Option Expr)},ks.all isSome_=true→(theKeys ks).map some=ks
  |[],_=>rfl
  | some e::r,h=>by
    simp only [List.all_cons,Bool.and_eq_true] at h
    show some e::(theKeys r).map some=_
    rw [keys_eq h.2]
  |none::r,h=>by simp [isSome_] at h
structure CPs (cc:CC) (ks vs:List Expr) where
  ps:List (E×E)
  ok: ∀ G k call W X pos,Good G k call cc W X→PPs X pos (ks.map some) vs (ps.map fun p=>(tE G W call p.1,tE G W call p.2))
def hashK (cc:CC):Expr→Bool
  | .Constant (.str x) _ _=>decide ((("#":Str)++x)∈cc.cells)
  |_=>false
def tPs (T:Tn) (cc:CC):(ks vs:List Expr)→Option (CPs cc ks vs)
  |[],[]=>some ⟨[],fun _ _ _ _ _ _ _=>pps_nil⟩
  |k::ks,.Dict [] [] dp::vs=>(T.e cc k).bind fun a=>(tPs T cc ks vs).map fun r=>⟨(a.m,mCell mDic0)::r.ps,fun G k' call W X pos g=>pps_cons (a.ok G k' call W X g) (e_cell e_dic0) (r.ok G k' call W X pos g)⟩
  |k::ks,v::vs=>(T.e cc k).bind fun a=>(T.e cc v).bind fun b=>(tPs T cc ks vs).map fun r=>if hashK cc k=true then ⟨(a.m,mCell b.m)::r.ps,fun G k' call W X pos g=>pps_cons (a.ok G k' call W X g) (e_cell (b.ok G k' call W X g)) (r.ok G k' call W X pos g)⟩ else ⟨(a.m,b.m)::r.ps,fun G k' call W X pos g=>pps_cons (a.ok G k' call W X g) (b.ok G k' call W X g) (r.ok G k' call W X pos g)⟩
  |_,_=>none
def tDict (T:Tn) (cc:CC) (ks:List (Option Expr)) (vs:List Expr) (pos:Pos):Option (CE cc (.Dict ks vs pos)):=
  if h:ks.all isSome_=true∧(theKeys ks).length=vs.length∧theKeys ks≠[]∧(theKeys ks).length≤15 then
    (tPs T cc (theKeys ks) vs).map fun r=>⟨mDisp r.ps,fun G k call W X g=>by
      have:=e_disp (pos:=pos) (r.ok G k call W X pos g) h.2.1 h.2.2.1 h.2.2.2
      rw [keys_eq h.1] at this
      exact this⟩
  else none
def tyOf (x:Str):Option String:=if x="str" then some "str" else if x="tuple" then some "tuple" else if x="list" then some "list" else if x="int" then some "int" else if x="bool" then some "bool" else if x="dict" then some "dict" else none
theorem tyOf_ok {x:Str} {t:String} (h:tyOf x=some t):x∈blts∧bootBuiltins x=some (.type t)∧x≠"__name__"∧(x==("__debug__":Str))=false:=by
  unfold tyOf at h
  repeat' (split at h)
  all_goals first|(cases h;done)|(rename_i hx;cases h;subst hx;exact ⟨by decide,by decide+kernel,by decide,by decide⟩)
structure CTy (cc:CC) (es:List Expr) where
  ts:List String
  ok:TyNames cc es ts
def tTys (cc:CC):(es:List Expr)→Option (CTy cc es)
  |[]=>some ⟨[],.nil⟩
  | .Name x p::es=>match hx:tyOf x with
    |some t=>if hg:glB cc.sc x=true then (tTys cc es).map fun r=>⟨t::r.ts,.cons (tyOf_ok hx).1 (gl_of hg) (tyOf_ok hx).2.1 (tyOf_ok hx).2.2.1 (tyOf_ok hx).2.2.2 r.ok⟩ else none
    |none=>none
  |_=>none
def tIso (T:Tn) (cc:CC) (f:Str) (p:Pos) (e:Expr) (nm:Str) (p2 pos:Pos):Option (CE cc (.Call (.Name f p) [e,.Name nm p2] [] pos)):=
  if h:f="isinstance"∧notStar e=true∧glB cc.sc "isinstance"=true∧nm∈cc.news∧glB cc.sc nm=true∧okName nm=true then
    (T.e cc e).bind fun a=>none
  else none
def tFs (T:Tn) (cc:CC):(es:List Expr)→Option (CF cc es)
  |[]=>some ⟨[],fun _ _ _ _ _ _=>fs_ok0⟩
  | .FormattedValue e c none pos::es=>if h:c= -1 then (T.e cc e).bind fun a=>(tFs T cc es).map fun r=>⟨a.m::r.m,fun G k call W X g=>by rw [h];exact fs_okF (a.ok G k call W X g) (r.ok G k call W X g)⟩ else none
  | .Constant (.str x) j pc::es=>(T.e cc (.Constant (.str x) j pc)).bind fun a=>(tFs T cc es).map fun r=>⟨a.m::r.m,fun G k call W X g=>fs_okT (a.ok G k call W X g) (r.ok G k call W X g)⟩
  |_=>none
def tIsiT (T:Tn) (cc:CC) (p:Pos) (e:Expr) (es:List Expr) (n:Nat) (tp pos:Pos):Option (CE cc (.Call (.Name "isinstance" p) [e,.Tuple es n tp] [] pos)):=
  if h:notStar e=true∧glB cc.sc "isinstance"=true then
    (T.e cc e).bind fun a=>(tTys cc es).bind fun t=>if hl:t.ts.length≤1000 then none else none
  else none
def tMethE (T:Tn) (cc:CC) (o:Expr) (m:Str) (apos:Pos) (es:List Expr) (pos:Pos):Option (CE cc (.Call (.Attribute o m apos) es [] pos)):=
  if h:(m,es.length)∈cc.mns∧fewB es.length=true∧plainO o=true∧(apos.endLine==pos.line)=true then
    (match es,h with
    |[],h=>(T.e cc o).bind fun a=>none
    |e::es,h=>(T.e cc o).bind fun a=>(tA T cc (e::es)).bind fun r=>none)
  else none
def tSm (T:Tn) (cc:CC) (c:Str) (q:Pos) (m:Str) (p:Pos) (e:Expr) (es:List Expr) (pos:Pos):Option (CE cc (.Call (.Attribute (.Name c q) m p) (e::es) [] pos)):=
  if h:(c,m)∈cc.sts∧(mkey c m,es.length+1,[])∈cc.shp∧glB cc.sc c=true∧okName c=true∧fewB (e::es).length=true∧(p.endLine==pos.line)=true then
    (tA T cc (e::es)).map fun r=>⟨mCall (mkey c m) r.m,fun G k call W X g=>by
      obtain ⟨C,P,a,fd,ps,h1,h2,h3,F,hb⟩:=g.sts c m h.1
      exact e_sm g h1 h2 h3 F (hb _ _ h.2.1) (gl_of h.2.2.1) (r.ok G k call W X g) r.ln r.ns h.2.2.2.2.1 h.2.2.2.2.2 (ok1 h.2.2.2.1)⟩
  else none
def tPop0 (T:Tn) (cc:CC) (x:Expr) (name:Str) (p:Pos) (e:Expr) (pos:Pos):Option (CE cc (.Call (.Attribute x name p) [e] [] pos)):=match e with
  | .Constant (.int 0) j p0=>if h:name="pop"∧plainO x=true∧(p.endLine==pos.line)=true then (T.e cc x).bind fun a=>none else none
  |_=>none
def tListIt (T:Tn) (cc:CC) (f:Str) (p:Pos) (o:Expr) (m:Str) (apos cpos pos:Pos):Option (CE cc (.Call (.Name f p) [.Call (.Attribute o m apos) [] [] cpos] [] pos)):=
  if h:f="list"∧m="items"∧cc.bare=false∧glB cc.sc "list"=true∧plainO o=true∧(apos.endLine==cpos.line)=true then
    (T.e cc o).bind fun a=>none
  else if h:f="list"∧m="values"∧glB cc.sc "list"=true∧plainO o=true∧(apos.endLine==cpos.line)=true then
    (T.e cc o).bind fun a=>none
  else none
def tLRg (T:Tn) (cc:CC) (f:Str) (p:Pos) (r:Str) (p2:Pos) (a:Expr) (pos2 pos:Pos):Option (CE cc (.Call (.Name f p) [.Call (.Name r p2) [a] [] pos2] [] pos)):=
  if h:f="list"∧r="range"∧notStar a=true∧glB cc.sc "list"=true∧glB cc.sc "range"=true then
    (T.e cc a).bind fun x=>none
  else if h:f="tuple"∧r="range"∧notStar a=true∧glB cc.sc "tuple"=true∧glB cc.sc "range"=true∧cc.bare=false then
    (T.e cc a).map fun x=>⟨mOne rngT x.m,fun G k call W X g=>by
      obtain ⟨rfl,rfl,h3,h4,h5,h6⟩:=h
      exact e_trg (g.bare.trans h6) g.calm (g.gl (gl_of h4)) (g.blt "tuple" (by decide)) (g.gl (gl_of h5)) (g.blt "range" (by decide)) (x.ok G k call W X g) h3⟩
  else none
def tDictZ (T:Tn) (cc:CC) (f:Str) (p:Pos) (r:Str) (p2:Pos) (a b:Expr) (pos2 pos:Pos):Option (CE cc (.Call (.Name f p) [.Call (.Name r p2) [a,b] [] pos2] [] pos)):=
  if h:f="dict"∧r="zip"∧glB cc.sc "dict"=true∧glB cc.sc "zip"=true∧[a,b].all notStar=true then
    (tR_ T cc [a,b]).bind fun x=>none
  else none
def tJoin (T:Tn) (cc:CC) (x:Expr) (name:Str) (p:Pos) (e:Expr) (pos:Pos):Option (CE cc (.Call (.Attribute x name p) [e] [] pos)):=match x with
  | .Constant (.str a) j pc=>if h:name="join"∧notStar e=true∧(p.endLine==pos.line)=true then (T.e cc e).map fun m=>⟨mOne (joinD a) m.m,fun G k call W X g=>by rw [h.1];exact e_join g.K (m.ok G k call W X g) h.2.1 h.2.2⟩ else none
  |_=>none
def tCallI (T:Tn) (cc:CC) (f:Str) (p pos:Pos):(es:List Expr)→Option (CE cc (.Call (.Name f p) es [] pos))
  |[]=>none
  |e::es=>if h:isInsE cc (.Name f p)=true∧visB cc.sc f=true∧((Str.ofString "__call__"),es.length+1)∈cc.mns then (T.e cc (.Name f p)).bind fun a=>(tA T cc (e::es)).bind fun r=>none else none
def fnVs (cc:CC) (n:Nat):List Str:=cc.fns.filter fun f=>decide ((("&":Str)++f)∈cc.cells)&&decide ((f,n,([]:List Str))∈cc.shp)
theorem fnVs_shp {cc:CC} {n:Nat} {f:Str} (h:f∈fnVs cc n):(f,n,[])∈cc.shp:=by
  have:=(List.mem_filter.mp h).2
  simp only [Bool.and_eq_true,decide_eq_true_eq] at this
  exact this.2
def tCallF (T:Tn) (cc:CC) (f:Str) (p pos:Pos):(es:List Expr)→Option (CE cc (.Call (.Name f p) es [] pos))
  |[]=>none
  |e::es=>if visB cc.sc f=true∧(fnVs cc (es.length+1)).isEmpty=false then (T.e cc (.Name f p)).bind fun a=>(tA T cc (e::es)).map fun r=>⟨mCallF (fnVs cc (es.length+1)) a.m r.m,fun G k call W X g=>e_callF g (fun f hf=>fnVs_shp hf) (a.ok G k call W X g) (r.ok G k call W X g) r.ln r.ns⟩ else none
def tMethF (T:Tn) (cc:CC) (o:Expr) (m:Str) (apos:Pos) (es:List Expr) (pos:Pos):Option (CE cc (.Call (.Attribute o m apos) es [] pos)):=match es with
  |[]=>none
  | e ::es=>if h:m∈cc.flds∧(fnVs cc (es.length+1)).isEmpty=false∧fewB (e::es).length=true∧plainO o=true∧(apos.endLine==pos.line)=true then
      (T.e cc o).bind fun a=>(tA T cc (e::es)).bind fun r=>none
    else none
def tGet (T:Tn) (cc:CC) (x:Expr) (name:Str) (p:Pos) (e f:Expr) (pos:Pos):Option (CE cc (.Call (.Attribute x name p) [e,f] [] pos)):=
  if h:name="get"∧plainO x=true∧((p.endLine==pos.line)=true∨isNm x=false)∧notStar e=true∧notStar f=true then
    (T.e cc x).bind fun a=>(T.e cc e).bind fun b=>(T.e cc f).bind fun c=>none
  else none
def tBin (T:Tn) (cc:CC) (a:Expr) (op:Operator) (b:Expr) (pos:Pos):Option (CE cc (.BinOp a op b pos)):=
  ((tBinI cc a op).bind fun o=>(T.e cc a).bind fun x=>(T.e cc b).map fun y=>(⟨bin2 o.f x.m y.m,fun G k call W X g=>e_bin2 (o.ok G k call W X g) (x.ok G k call W X g) (y.ok G k call W X g)⟩:CE cc (.BinOp a op b pos))).orElse fun _=>
    (tOp3 cc (isLO a) op).bind fun o=>(T.e cc a).bind fun x=>(T.e cc b).map fun y=>⟨mTwo o.f x.m y.m,fun G k call W X g=>pe_bin (o.ok G X g.K g.bare) (x.ok G k call W X g) (y.ok G k call W X g)⟩
def tCmpE (T:Tn) (cc:CC) (a b:Expr) (op:CmpOp) (pos:Pos):Option (CE cc (.Compare a [op] [b] pos)):=
  if hm:behindInMarks op b=false then
    ((tCmpI cc a b op).bind fun o=>(T.e cc a).bind fun x=>(T.e cc b).map fun y=>(⟨bin2 o.f x.m y.m,fun G k call W X g=>e_cmp2 (o.ok G k call W X g) (x.ok G k call W X g) (y.ok G k call W X g) hm⟩:CE cc (.Compare a [op] [b] pos))).orElse fun _=>
      (tCmp2 op).bind fun o=>(T.e cc a).bind fun x=>(T.e cc b).map fun y=>⟨mTwo o.f x.m y.m,fun G k call W X g=>pe_cmp1 (o.ok G cc X g.toGoodB) (x.ok G k call W X g) (y.ok G k call W X g) hm⟩
  else none
def isPr (cc:CC):Expr→Bool
  | .Call (.Name f _) _ [] _=>decide ((("$":Str)++f)∈cc.cells)
  |_=>false
def tCmpC (T:Tn) (cc:CC) (a b:Expr):(op:CmpOp)→(pos:Pos)→Option (CB cc (.Compare a [op] [b] pos))
  | .NotEq,pos=>if isPL a then if hm:behindInMarks .NotEq b=false then (T.e cc a).bind fun x=>(T.e cc b).bind fun y=>none else none
    else if isPr cc a=true then if hm:behindInMarks .NotEq b=false then (T.e cc a).bind fun x=>(T.e cc b).bind fun y=>none else none else none
  |_,_=>none
def tCmpB (T:Tn) (cc:CC) (a b:Expr) (op:CmpOp) (pos:Pos):Option (CB cc (.Compare a [op] [b] pos)):=
  if hm:behindInMarks op b=false then
    (tCmpC T cc a b op pos).orElse fun _=>((tCmpI cc a b op).bind fun o=>(T.e cc a).bind fun x=>(T.e cc b).map fun y=>(⟨bCmp (bin2 o.f x.m y.m),fun G k call W X g=>t_cmp2 (o.ok G k call W X g) (x.ok G k call W X g) (y.ok G k call W X g) hm⟩:CB cc (.Compare a [op] [b] pos))).orElse fun _=>
      (tCmpL b op).bind fun o=>(T.e cc a).bind fun x=>(T.e cc b).map fun y=>⟨bCmp (mTwo o.f x.m y.m),fun G k call W X g=>t_cmp1 (o.ok G cc X g.toGoodB) (x.ok G k call W X g) (y.ok G k call W X g) hm⟩
  else none
def tMths (T:Tn) (cc:CC) (x:Expr) (name:Str) (p:Pos) (pos:Pos):(es:List Expr)→Option (CE cc (.Call (.Attribute x name p) es [] pos))
  |[e]=>(tCount T cc x name p e pos).orElse fun _=>(tPop0 T cc x name p e pos).orElse fun _=>(tJoin T cc x name p e pos).orElse fun _=>tMethE T cc x name p [e] pos
  |[e,f]=>(tGet T cc x name p e f pos).orElse fun _=>(tMethE T cc x name p [e,f] pos).orElse fun _=>tMethF T cc x name p [e,f] pos
  |es=>tMethE T cc x name p es pos
def turnE (T:Tn) (cc:CC):(e:Expr)→Option (CE cc e)
  | .Constant (.int i) j pos=>some ⟨mCon (.int i),fun _ _ _ _ _ _=>e_int⟩
  | .Constant (.bool i) j pos=>some ⟨mCon (.bl i),fun _ _ _ _ _ _=>e_bl⟩
  | .Constant (.str i) j pos=>some ⟨mCon (.str i),fun _ _ _ _ _ _=>e_str⟩
  | .Constant .none j pos=>some ⟨mCon .non,fun _ _ _ _ _ _=>e_non⟩
  | .Name x pos=>tName cc x pos
  | .BoolOp .And es pos=>tAndE T cc pos es
  | .BoolOp .Or es pos=>tOrE T cc pos es
  | .UnaryOp .Not a pos=>(T.e cc a).bind fun c=>none
  | .UnaryOp .USub a pos=>(T.e cc a).bind fun c=>none
  | .BinOp a op b pos=>tBin T cc a op b pos
  | .Compare a [op] [b] pos=>tCmpE T cc a b op pos
  | .Compare a [op,op'] [b,c] pos=>if hm:behindInMarks op' c=false then
      (tCmp2 op).bind fun o=>(tCmp2 op').bind fun o'=>(T.e cc a).bind fun x=>(T.e cc b).bind fun y=>(T.e cc c).bind fun z=>none
    else none
  | .IfExp c a b pos=>(T.b cc c).bind fun t=>(T.e cc a).bind fun x=>(T.e cc b).map fun y=>⟨mIf t.m x.m y.m,fun G k call W X g=>e_if (t.ok G k call W X g) (x.ok G k call W X g) (y.ok G k call W X g)⟩
  | .JoinedStr (v1::v2::rest) pos=>(tFs T cc (v1::v2::rest)).bind fun r=>none
  | .Tuple es n pos=>(tItems T cc es).map fun r=>⟨mTup r.m,fun G k call W X g=>e_tup (r.ok G k call W X g)⟩
  | .List es pos=>(tItems T cc es).map fun r=>⟨mLst r.m,fun G k call W X g=>e_lst (r.ok G k call W X g)⟩
  | .Subscript a (.Slice lo hi none p2) pos=>(T.e cc a).bind fun x=>(tPart T cc lo).bind fun l=>(tPart T cc hi).map fun h=>⟨mSl x.m l.m h.m,fun G k call W X g=>e_sl (o_sl g.K) (x.ok G k call W X g) (l.ok G k call W X g) (h.ok G k call W X g)⟩
  | .Subscript a (.Slice none none (some (.UnaryOp .USub (.Constant (.int 1) kk p1) p2)) p3) pos=>(T.e cc a).bind fun x=>none
  | .Subscript a i pos=>if hs:notSlice i=true then
      (if hi:isInsE cc a=true∧(("__getitem__":Str),1)∈cc.mns then (T.e cc a).bind fun x=>(T.e cc i).bind fun y=>none
      else (T.e cc a).bind fun x=>(T.e cc i).map fun y=>⟨mTwo atX x.m y.m,fun G k call W X g=>pe_sub1 (o_atX g.toGoodB) (x.ok G k call W X g) (y.ok G k call W X g) (plain_ix hs)⟩)
    else none
  | .Dict [] [] pos=>some ⟨mDic0,fun _ _ _ _ _ _=>e_dic0⟩
  | .Dict [none,some kx] [e,vx] pos=>(T.e cc e).bind fun a=>(T.e cc kx).bind fun b=>(T.e cc vx).bind fun c=>none
  | .Dict ks vs pos=>tDict T cc ks vs pos
  | .Attribute o f pos=>if h:plainO o=true∧f∈cc.flds then (T.e cc o).bind fun a=>none else none
  | .Call (.Name f p) [e,.Tuple es n tp] [] pos=>if h:f="isinstance" then (tIsiT T cc p e es n tp pos).map fun a=>⟨a.m,fun G k call W X g=>by rw [h];exact a.ok G k call W X g⟩ else tCall T cc f p pos [e,.Tuple es n tp]
  | .Call (.Name f p) [e,.Name nm p2] [] pos=>(tIso T cc f p e nm p2 pos).orElse fun _=>tCall T cc f p pos [e,.Name nm p2]
  | .Call (.Name f p) [.Call (.Name r p2) [a] [] pos2] [] pos=>(tLRg T cc f p r p2 a pos2 pos).orElse fun _=>tCall T cc f p pos [.Call (.Name r p2) [a] [] pos2]
  | .Call (.Name f p) [.Call (.Name r p2) [a,b] [] pos2] [] pos=>(tDictZ T cc f p r p2 a b pos2 pos).orElse fun _=>tCall T cc f p pos [.Call (.Name r p2) [a,b] [] pos2]
  | .Call (.Name f p) [.Call (.Attribute o m apos) [] [] cpos] [] pos=>(tListIt T cc f p o m apos cpos pos).orElse fun _=>tCall T cc f p pos [.Call (.Attribute o m apos) [] [] cpos]
  | .Call (.Name f p) [.SetComp elt [⟨tg,it,ifs,0⟩] scope spos] [] pos=>tSts T cc f p elt tg it ifs scope spos pos
  | .DictComp kx vx [⟨tg,it,ifs,0⟩] scope pos=>tDc T cc kx vx tg it ifs scope pos
  | .Call (.Name f p) es [] pos=>(tCallI T cc f p pos es).orElse fun _=>(tCallF T cc f p pos es).orElse fun _=>tCall T cc f p pos es
  | .Call (.Name f p) es [⟨some n,ke,kp⟩] pos=>tNewK T cc f p pos n ke kp es
  | .Call (.Attribute (.Name c q) m p) (e::es) [] pos=>(tSm T cc c q m p e es pos).orElse fun _=>tMths T cc (.Name c q) m p pos (e::es)
  | .Call (.Attribute x name p) [e] [] pos=>(tCount T cc x name p e pos).orElse fun _=>(tPop0 T cc x name p e pos).orElse fun _=>(tJoin T cc x name p e pos).orElse fun _=>tMethE T cc x name p [e] pos
  | .Call (.Attribute x name p) [e,f] [] pos=>(tGet T cc x name p e f pos).orElse fun _=>(tMethE T cc x name p [e,f] pos).orElse fun _=>tMethF T cc x name p [e,f] pos
  | .Call (.Attribute x name p) es [] pos=>tMethE T cc x name p es pos
  | .ListComp (.Call (.Name f p) [.Name y yp] [] cp) [⟨.Name x xp,.Attribute o a ap,[],0⟩] scope pos=>(tStrK T cc f p y yp cp x xp o a ap scope pos).orElse fun _=>tLc T cc (.Call (.Name f p) [.Name y yp] [] cp) (.Name x xp) (.Attribute o a ap) [] scope pos
  | .ListComp (.Call (.Name f p) [.Name y yp] [] cp) [⟨.Name x xp,.Name o op,[],0⟩] scope pos=>(tStrN T cc f p y yp cp x xp o op scope pos).orElse fun _=>tLc T cc (.Call (.Name f p) [.Name y yp] [] cp) (.Name x xp) (.Name o op) [] scope pos
  | .ListComp (.Call (.Name f p) [.Name y yp] [] cp) [⟨.Name x xp,.Subscript o i ap,[],0⟩] scope pos=>(tStrS T cc f p y yp cp x xp o i ap scope pos).orElse fun _=>tLc T cc (.Call (.Name f p) [.Name y yp] [] cp) (.Name x xp) (.Subscript o i ap) [] scope pos
  | .ListComp elt [⟨tg,it,ifs,0⟩] scope pos=>tLc T cc elt tg it ifs scope pos
  | .ListComp elt [⟨tg,it,ifs,0⟩,⟨tg1,it1,ifs1,0⟩] scope pos=>tLc2 T cc elt tg it tg1 it1 ifs ifs1 scope pos
  |_=>none
def plainB:Expr→Bool
  | .UnaryOp .Not _ _=>false
  | .BoolOp .. =>false
  | .IfExp .. =>false
  | .Compare .. =>false
  |_=>true
theorem plainB_ok {e:Expr} (h:plainB e=true) (env:Env) (whole:Sem Value):isTrue e env whole=(do let v ←whole;standAt e.pos;holding [v] (truthy v)):=by
  cases e with
  |UnaryOp op a p=>cases op<;>first|rfl|cases h
  |BoolOp=>cases h
  |IfExp=>cases h
  |Compare=>cases h
  |_=>rfl
def turnB (T:Tn) (cc:CC):(e:Expr)→Option (CB cc e)
  | .UnaryOp .Not a pos=>(T.b cc a).map fun c=>⟨bNot c.m,fun G k call W X g=>t_not (c.ok G k call W X g)⟩
  | .BoolOp .And es pos=>(tAndB T cc pos es).map fun c=>⟨c.m,fun G k call W X g=>(c.ok G k call W X g).pt⟩
  | .BoolOp .Or es pos=>(tOrB T cc pos es).map fun c=>⟨c.m,fun G k call W X g=>(c.ok G k call W X g).pt⟩
  | .Compare a [op] [b] pos=>tCmpB T cc a b op pos
  | .Compare a [op,op'] [b,c] pos=>if hm:behindInMarks op' c=false then
      (tCmp2 op).bind fun o=>(tCmp2 op').bind fun o'=>(T.e cc a).bind fun x=>(T.e cc b).bind fun y=>(T.e cc c).bind fun z=>none
    else none
  |e=>if hp:plainB e=true then (T.e cc e).map fun c=>⟨bVal c.m,fun G k call W X g=>t_val g.toGoodB (c.ok G k call W X g) (plainB_ok hp)⟩ else none
end
end Mi
namespace Mi
open PySem PySem.Spec PyProof.Rows L2
def rest (mf:MFn) (n:Nat):List D:=mf.df.drop (mf.df.length - (mf.np - n))
theorem fills_of {tab:Str→Option MFn} {f:Str} {mf:MFn} (ht:tab f=some mf) {n:Nat} (hn:n+(rest mf n).length=mf.np): ∀ k,Fills (callN tab k) f n (rest mf n)
  |0=>fun _ _ _=>rfl
  | k+1=>fun xs h hx=>by
    have e1:fill mf.np mf.df xs=xs++rest mf n:=by unfold fill rest;rw [hx]
    have e2:fill mf.np mf.df (xs++rest mf n)=xs++rest mf n:=fill_full (by rw [List.length_append,hx];exact hn)
    simp only [callN,ht,runFn,e1,e2]
theorem bad_of {tab:Str→Option MFn} {f:Str} {n:Nat} (hb: ∀ mf,tab f=some mf→¬n+(rest mf n).length=mf.np): ∀ k xs h,xs.length=n→callN tab k f xs h= .bad
  |0,_,_,_=>rfl
  | k +1,xs,h,hx=>by
    simp only [callN]
    cases e:tab f with
    |none=>rfl
    | some mf=>
      have e1:fill mf.np mf.df xs=xs++rest mf n:=by unfold fill rest;rw [hx]
      have:=hb mf e
      simp only [runFn,e1,List.length_append,hx,if_neg this]
end Mi
namespace Mi
open PySem PySem.Spec PyProof.Rows L2
noncomputable section
def swNames (sc:Scope) (ts:List Expr):List Str:=ts.filterMap fun
      | .Name id pos=>if (sc.names.lookup id==some .local&&pos.line==(ts.head?.map (·.pos.line)).getD 0)=true then some id else none
      |_=>none
def swN (sc:Scope) (ts vs:List Expr):Option (Option (List Str)):=
  if (!(ts.length==2||ts.length==3)||vs.length !=ts.length)=true then some none
  else if (vs.any fun| .Starred .. =>true|_=>false)=true then some none
  else if ((swNames sc ts).length !=ts.length||(swNames sc ts).eraseDups.length !=(swNames sc ts).length)=true then some none
  else if vs.all (foldedForSure 8)=true then some none
  else if vs.all (constantsAlone 8)=true then none
  else some (some (swNames sc ts))
def noTup:Expr→Bool
  | .Tuple .. =>false
  |_=>true
theorem sw_noTup {tg e:Expr} {env:Env} (h:noTup e=true):swappedStores [tg] e env=pure none:=by
  cases e<;>first|(cases tg<;>rfl)|cases h
section
variable {G:GE} {k:Nat} {call:Call} {cc:CC} {W:WX} {X:Cx}
end
def keepH (m:E):Prop:= ∀ call s r s',m call s= .ok r s'→s'.h=s.h
theorem kh_con {d:D}:keepH (mCon d):=fun call s r s' e=>by cases e;rfl
theorem kh_var {i:Nat}:keepH (mVar i):=fun call s r s' e=>by
  unfold mVar at e
  split at e
  · cases e;rfl
  · cases e
theorem bind_ok {α β:Type} {x:Out α} {f:α→S→Out β} {r:β} {s':S} (e:x.bind f= .ok r s'): ∃ a s1,x= .ok a s1∧f a s1= .ok r s':=by
  cases x with
  |ok a s1=>exact ⟨a,s1,rfl,e⟩
  |exc c d s1=>cases e
  |bad=>cases e
theorem lift_ok {α:Type} {s s':S} {x:Option α} {r:α} (e:lift s x= .ok r s'):s'=s:=by
  cases x with
  |none=>cases e
  |some a=>cases e;rfl
theorem take_h {s s':S} {r:R} {d:D} (e:take s r=some (d,s')):s'.h=s.h:=by
  cases r with
  |own o=>cases e;rfl
  | bor i=>
    simp only [take] at e
    split at e
    · cases e;rfl
    · cases e
theorem kh_one {f:D→Option O} {m:E} (h:keepH m):keepH (mOne f m):=fun call s r s' e=>by
  obtain ⟨a,s1,e1,e2⟩:=bind_ok e
  rw [lift_ok e2];exact h call s a s1 e1
theorem kh_two {f:D→D→Option O} {m n:E} (h:keepH m) (h2:keepH n):keepH (mTwo f m n):=fun call s r s' e=>by
  obtain ⟨a,s1,e1,e2⟩:=bind_ok e
  obtain ⟨b,s2,e3,e4⟩:=bind_ok e2
  rw [lift_ok e4,h2 call s1 b s2 e3];exact h call s a s1 e1
structure CHs (cc:CC) (es:List Expr) where
  m:As
  ns:es.all notStar=true
  ok: ∀ G call W X,GoodB G cc X→PA X es (tL G W call m)
  keep: ∀ call s r s',m call s= .ok r s'→s'.h=s.h
def hAs (T: ∀ e,Option (CH cc e)):(es:List Expr)→Option (CHs cc es)
  |[]=>some ⟨aNil,rfl,fun _ _ _ _ _=>a_nil,fun call s r s' e=>by cases e;rfl⟩
  | e ::es=>if hn:notStar e=true then (T e).bind fun a=>(hAs T es).map fun r=>⟨aCons a.m r.m,by simp [hn,r.ns],fun G call W X g=>a_cons (a.ok G call W X g) (r.ok G call W X g) hn,fun call s x s' e=>by
      obtain ⟨b,s1,e1,e2⟩:=bind_ok e
      have h1:=a.keep call s b s1 e1
      cases et:take s1 b with
      |none=>simp only [et] at e2;cases e2
      | some p=>
        obtain ⟨d,s2⟩:=p
        simp only [et] at e2
        obtain ⟨ds,s3,e3,e4⟩:=bind_ok e2
        have h3:=r.keep call s2 ds s3 e3
        have h2:=take_h et
        cases e4
        exact h3.trans (h2.trans h1)⟩
    else none
def hE:Nat→(cc:CC)→(e:Expr)→Option (CH cc e)
  |0,_,_=>none
  |_+1,cc,.Constant (.int i) j pos=>some ⟨mCon (.int i),fun _ _ _ _ _=>e_int,kh_con⟩
  |_+1,cc,.Constant (.bool i) j pos=>some ⟨mCon (.bl i),fun _ _ _ _ _=>e_bl,kh_con⟩
  |_+1,cc,.Constant (.str i) j pos=>some ⟨mCon (.str i),fun _ _ _ _ _=>e_str,kh_con⟩
  |_+1,cc,.Constant .none j pos=>some ⟨mCon .non,fun _ _ _ _ _=>e_non,kh_con⟩
  |_+1,cc,.Name x pos=>if h:okName x=true∧visB cc.sc x=true∧cc.N[idx cc.N x]?=some x then some ⟨mVar (idx cc.N x),fun G call W X g=>e_var g h.2.2 (vis_of h.2.1) (ok1 h.1) (ok2 h.1),kh_var⟩ else none
  | n +1,cc,.Attribute o f pos=>if h:plainO o=true then (if hf:f∈cc.flds then (hE n cc o).bind fun a=>none
      else (hE n cc o).map fun a=>⟨mOne (fldX f) a.m,fun G call W X g=>e_fldX g (a.ok G call W X g) (base_ok h),kh_one a.keep⟩) else none
  | n +1,cc,.Call (.Name f p) [e] [] pos=>if h:f="repr"∧notStar e=true∧glB cc.sc "repr"=true then
      (hE n cc e).bind fun a=>none
    else none
  | n +1,cc,.List es pos=>(hAs (hE n cc) es).map fun r=>⟨mLst r.m,fun G call W X g=>e_lst (r.ok G call W X g),fun call s x s' e=>by
      obtain ⟨ds,s1,e1,e2⟩:=bind_ok e
      have h1:=r.keep call s ds s1 e1
      split at e2
      · cases e2;exact h1
      · cases e2⟩
  | n +1,cc,.Call (.Name f p) [e,.Name nm p2] [] pos=>if h:f="isinstance"∧notStar e=true∧glB cc.sc "isinstance"=true∧glB cc.sc nm=true∧okName nm=true then
      (hE n cc e).bind fun a=>none
    else none
  |n+1,cc,.Compare a [op] [b] pos=>if hm:behindInMarks op b=false then (tCmp2 op).bind fun o=>(hE n cc a).bind fun x=>(hE n cc b).map fun y=>⟨mTwo o.f x.m y.m,fun G call W X g=>pe_cmp1 (o.ok G cc X g) (x.ok G call W X g) (y.ok G call W X g) hm,kh_two x.keep y.keep⟩ else none
  |n+1,cc,.BoolOp .And [a,b] pos=>(hE n cc a).bind fun x=>(hE n cc b).bind fun y=>none
  |_+1,_,_=>none
structure CHd (cc:CC) (hds:List ExceptHandler) where
  l:List (Str×Option Nat×E)
  t:HdT cc hds l
def excF (xs:List (Str×Str)) (c:Str):Option Str:=(xs.find? fun p=>decide (p.1=c)).map (·.2)
theorem excF_mem {xs:List (Str×Str)} {c f:Str} (h:excF xs c=some f):(c,f)∈xs:=by
  simp only [excF,Option.map_eq_some_iff] at h
  obtain ⟨p,hp,e⟩:=h
  have h1:=List.mem_of_find?_eq_some hp
  have h2:p.1=c:=by simpa using List.find?_some hp
  obtain ⟨a,b⟩:=p
  simp only at h2 e
  subst h2;subst e
  exact h1
def tHds (cc:CC):(hds:List ExceptHandler)→Option (CHd cc hds)
  |[]=>some ⟨[],.nil⟩
  | .ExceptHandler (some (.Name x np)) (some n) [.Return (some e) rp] pos'::hds=>match hf:excF cc.exs x with
    |some f=>if h:glB cc.sc x=true∧cc.N[idx cc.N n]?=some n∧locB cc.sc n=true then (hE 12 cc e).bind fun m=>(tHds cc hds).map fun r=>⟨(x,some (idx cc.N n),m.m)::r.l,.named (excF_mem hf) (gl_of h.1) (idx cc.N n) h.2.1 (loc_of h.2.2) m r.t⟩ else none
    |none=>none
  | .ExceptHandler (some (.Name x np)) none [.Return (some e) rp] pos'::hds=>match hf:excF cc.exs x with
    |some f=>if h:glB cc.sc x=true then (hE 12 cc e).bind fun m=>(tHds cc hds).map fun r=>⟨(x,none,m.m)::r.l,.bare (excF_mem hf) (gl_of h) m r.t⟩ else none
    |none=>none
  |_=>none
def tSs (T:Tn) (cc:CC):(sts:List Stmt)→Option (CSs cc sts)
  |[]=>some ⟨cNil,fun _ _ _ _ _ _=>s_nil⟩
  |st::r=>(T.s cc st).bind fun a=>(tSs T cc r).map fun b=>⟨cSeq a.m b.m,fun G k call W X g=>s_cons (a.ok G k call W X g) (b.ok G k call W X g)⟩
def isCl:Expr→Bool
  | .Call .. =>true
  |_=>false
def tMeth1 (T:Tn) (cc:CC) (x:Expr) (name:Str) (p:Pos) (e:Expr) (pos spos:Pos):Option (CS cc (.Expr (.Call (.Attribute x name p) [e] [] pos) spos)):=
  if h:name="append" then
    (if hc:(notStar e&&plainO x&&(p.endLine==pos.line))=true then
      (T.e cc x).bind fun a=>(T.e cc e).map fun b=>if isCl x then ⟨cApp (mCell a.m) b.m,fun G k call W X g=>by
        simp only [Bool.and_eq_true] at hc
        subst h
        exact s_app g (e_cell (a.ok G k call W X g)) (b.ok G k call W X g) hc.1.1 hc.1.2 hc.2⟩ else ⟨cApp a.m b.m,fun G k call W X g=>by
        simp only [Bool.and_eq_true] at hc
        subst h
        exact s_app g (a.ok G k call W X g) (b.ok G k call W X g) hc.1.1 hc.1.2 hc.2⟩
    else none)
  else if h:name="extend" then
    (if hc:(notStar e&&plainO x&&(p.endLine==pos.line))=true then
      (T.e cc x).bind fun a=>(T.e cc e).bind fun b=>none
    else none)
  else if hn:noComp (.Call (.Attribute x name p) [e] [] pos)=true then (T.e cc (.Call (.Attribute x name p) [e] [] pos)).bind fun a=>none else none
def tMeth0 (T:Tn) (cc:CC) (x:Expr) (name:Str) (p:Pos) (pos spos:Pos):Option (CS cc (.Expr (.Call (.Attribute x name p) [] [] pos) spos)):=
  if h:name="pop" then
    (if hc:(plainO x&&(p.endLine==pos.line))=true then
      (T.e cc x).bind fun a=>none
    else none)
  else if hn:noComp (.Call (.Attribute x name p) [] [] pos)=true then (T.e cc (.Call (.Attribute x name p) [] [] pos)).bind fun a=>none else none
def celW:Expr→Expr→Bool
  | .Name x _,.Call (.Name f _) _ _ _=>decide (x="_law_more_here")&&decide (f="dict")
  |_,_=>false
def funK (sc:Scope):Bool:=match sc.kind with
  | .function=>true
  |_=>false
theorem funK_of {sc:Scope} (h:funK sc=true):sc.kind= .function:=by
  unfold funK at h
  split at h
  · assumption
  · cases h
def celTg (cc:CC):Expr→Bool
  | .Name x _=>decide (("=":Str)++x∈cc.cells)
  |_=>false
def celA (cc:CC):Expr→Bool
  | .Name x _=>decide (("@":Str)++x∈cc.cells)
  |_=>false
def tPar (T0:Tn) (cc:CC) (ts vs:List Expr) (k1:Nat) (p1:Pos) (k2:Nat) (p2 pos:Pos):Option (CS cc (.Assign [.Tuple ts k1 p1] (.Tuple vs k2 p2) pos)):=
  let T:Tn:=if ts.any (celTg cc) then cellT T0 else T0
  if hk : funK cc.sc=true then
    (match hs:swN cc.sc ts vs with
    |some none=>(tR_ T cc vs).bind fun r=>(tTgs cc ts).bind fun t=>none
    | some (some names)=>(match ts,vs,names,hs with
      | [.Name x px,.Name y py],[a,b],[x',y'],hs=>
        if hc:(x=x'∧y=y'∧cc.N[idx cc.N x]?=some x∧cc.N[idx cc.N y]?=some y∧idx cc.N x≠idx cc.N y∧locB cc.sc x=true∧locB cc.sc y=true) then
          (tR_ T cc [a,b]).bind fun r=>none
        else none
      | [.Name x px,.Name y py,.Name z pz],[a,b,c],[x',y',z'],hs=>
        if hc:(x=x'∧y=y'∧z=z'∧cc.N[idx cc.N x]?=some x∧cc.N[idx cc.N y]?=some y∧cc.N[idx cc.N z]?=some z∧idx cc.N x≠idx cc.N y∧idx cc.N x≠idx cc.N z∧idx cc.N y≠idx cc.N z∧locB cc.sc x=true∧locB cc.sc y=true∧locB cc.sc z=true) then
          (tR_ T cc [a,b,c]).bind fun r=>none
        else none
      |_,_,_,_=>none)
    |none=>none)
  else none
def tSetLc (T:Tn) (cc:CC) (y:Str) (py:Pos) (elt tg it:Expr) (ifs:List Expr) (scope:Scope) (pos spos:Pos):Option (CS cc (.Assign [.Name y py] (.ListComp elt [⟨tg,it,ifs,0⟩] scope pos) spos)):=
  let own:List (Str×Nat):=(namesOf tg).map fun x=>(x,idx cc.N x)
  if hb :blkC cc.N cc.sc scope own=true then
    (if hc:(cc.N[idx cc.N y]?=some y∧locB cc.sc y=true∧funK cc.sc=true∧(py.line==pos.line)=true∧(scope.names.any fun (n,k)=>n==y&&(k== .local||k== .cell))=false) then
      (tIv T cc tg it).bind fun i=>(tGa (cc.blk scope) (own.map (·.2)) tg).bind fun t=>(tTt T (cc.blk scope) ifs).bind fun c=>(T.e (cc.blk scope) elt).map fun e=>
        ⟨cAsg (mLc i.m t.m c.m e.m (own.map (·.2))) (gN (idx cc.N y)),fun G k call W X g=>s_setLc g hc.1 (loc_of hc.2.1) (funK_of hc.2.2.1) hc.2.2.2.1 hc.2.2.2.2 (i.ok G k call W X g) (blkOk_by hb) (fun s H C cl fp=>t.ok _ _ _ _ _ (good_blk g scope s H C cl fp)) (fun s H C cl fp=>c.ok _ _ _ _ _ (good_blk g scope s H C cl fp)) (fun s H C cl fp=>e.ok _ _ _ _ _ (good_blk g scope s H C cl fp)) (i.fs _)⟩
    else none)
  else none
theorem sw_cell {y:Str} {py:Pos} {elt:Expr} {gs:List Comprehension} {scope:Scope} {pos:Pos} {l:Nat} {env:Env} (h:env.scope.names.lookup y=some .cell):swapsWith (.ListComp elt gs scope pos) (some (.Name y py)) l env=pure false:=by
  unfold swapsWith
  have hk:env.kindOf y=some .cell:=h
  simp only [hk]
  have h2:((some NameKind.cell==some NameKind.local):Bool)=false:=by decide
  simp [h2]
def tSetLcC (T:Tn) (cc:CC) (y:Str) (py:Pos) (elt tg it:Expr) (ifs:List Expr) (scope:Scope) (pos spos:Pos):Option (CS cc (.Assign [.Name y py] (.ListComp elt [⟨tg,it,ifs,0⟩] scope pos) spos)):=
  if hc : (celB cc.sc y&&cc.top)=true then
    (if h1:cc.N[idx cc.N y]?=some y then
      (tLc T cc elt tg it ifs scope pos).map fun a=>⟨cAsg a.m (gN (idx cc.N y)),fun G k call W X g=>
        have hg:PG X (.Name y py) (tG G (gN (idx cc.N y))):=g_name g h1 (.inr ⟨(Bool.and_eq_true_iff.mp hc).2,cel_of (Bool.and_eq_true_iff.mp hc).1⟩)
        have hsw:swapsWithSole [.Name y py] (.ListComp elt [⟨tg,it,ifs,0⟩] scope pos) spos.line X.env=pure false:=by
          show swapsWith (.ListComp elt [⟨tg,it,ifs,0⟩] scope pos) (some (.Name y py)) spos.line X.env=pure false
          exact sw_cell (by rw [g.sc];exact cel_of (Bool.and_eq_true_iff.mp hc).1)
        (ps_asg (a.ok G k call W X g) hg hsw rfl rfl).of fun D σ H q=>tAsg_of q⟩
    else none)
  else none
structure CX (cc:CC) (e:Expr) where
  m:Tx
  pl:plainT e=true
  ok: ∀ G k call W X,Good G k call cc W X→PG X e (tGX G call m)
structure CXs (cc:CC) (es:List Expr) where
  ms:List Tx
  pl:es.all plainT=true
  ln:es.length=ms.length
  ok: ∀ G k call W X,Good G k call cc W X→PGs X es (tGsX G call ms)
def tX (T:Tn) (cc:CC):(e:Expr)→Option (CX cc e)
  | .Name x pos=>(tTgN cc x pos).bind fun t=>none
  | .Attribute o f pos=>if hf:f∈cc.flds then (T.e cc o).map fun a=>if f∈cc.celF then ⟨xCel (xAtt a.m f),rfl,fun G k call W X g=>gx_cel (gx_att g hf (a.ok G k call W X g))⟩ else ⟨xAtt a.m f,rfl,fun G k call W X g=>gx_att g hf (a.ok G k call W X g)⟩ else none
  | .Subscript x i pos=>if hs:notSlice i=true then (T.e cc x).bind fun a=>(T.e cc i).bind fun b=>none else none
  |_=>none
def othX:Expr→Bool
  | .Subscript (.Name x _) _ _=>decide (x="_law_other")
  |_=>false
def isDictX:Expr→Bool
  | .Call (.Name f _) _ _ _=>decide (f="dict")
  |_=>false
def celX {cc:CC} {e:Expr} (v:Option Expr) (t:CX cc e):CX cc e:=match v with
  |some (.Dict [] [] _)=>⟨xCel t.m,t.pl,fun G k call W X g=>gx_cel (t.ok G k call W X g)⟩
  |some v=>if (othX e&&isDictX v)=true then ⟨xCel t.m,t.pl,fun G k call W X g=>gx_cel (t.ok G k call W X g)⟩ else t
  |_=>t
def tXsT (T:Tn) (cc:CC):(es vs:List Expr)→Option (CXs cc es)
  |[],_=>some ⟨[],rfl,rfl,fun _ _ _ _ _ _=>gxs_nil⟩
  |e::es,vs=>(tX T cc e).bind fun a0=>(tXsT T cc es vs.tail).map fun r=>let a:=celX vs.head? a0;⟨a.m::r.ms,by simp [a.pl,r.pl],by simp [r.ln],fun G k call W X g=>gxs_cons (a.ok G k call W X g) (r.ok G k call W X g) a.pl⟩
def isName:Expr→Bool
  | .Name .. =>true
  |_=>false
def tMulX (T:Tn) (cc:CC) (ts vs:List Expr) (k1:Nat) (p1:Pos) (k2:Nat) (p2 pos:Pos):Option (CS cc (.Assign [.Tuple ts k1 p1] (.Tuple vs k2 p2) pos)):=
  if hk:funK cc.sc=true then
    (match hs:swN cc.sc ts vs with
    |some none=>(tR_ T cc vs).bind fun r=>(tXsT T cc ts vs).bind fun t=>none
    |_=>none)
  else none
def tAsgTX (T:Tn) (cc:CC) (ts:List Expr) (k1:Nat) (p1:Pos) (e:Expr) (pos:Pos):Option (CS cc (.Assign [.Tuple ts k1 p1] e pos)):=
  if hn:noComp e=true∧noTup e=true then (T.e cc e).bind fun a=>(tXsT T cc ts []).bind fun t=>none else none
def tSetDc (T:Tn) (cc:CC) (y:Str) (py:Pos) (kx vx tg it:Expr) (ifs:List Expr) (scope:Scope) (pos spos:Pos):Option (CS cc (.Assign [.Name y py] (.DictComp kx vx [⟨tg,it,ifs,0⟩] scope pos) spos)):=
  let own:List (Str×Nat):=(namesOf tg).map fun x=>(x,idx cc.N x)
  if hb :blkC cc.N cc.sc scope own=true then
    (if hc:(cc.N[idx cc.N y]?=some y∧locB cc.sc y=true∧funK cc.sc=true∧(py.line==pos.line)=true∧(scope.names.any fun (n,k)=>n==y&&(k== .local||k== .cell))=false) then
      (tIv T cc tg it).bind fun i=>(tGa (cc.blk scope) (own.map (·.2)) tg).bind fun t=>(tTt T (cc.blk scope) ifs).bind fun c=>(T.e (cc.blk scope) kx).bind fun a=>((if cellV vx then cellT T else T).e (cc.blk scope) vx).map fun b=>
        ⟨cAsg (mDc i.m t.m c.m a.m b.m (own.map (·.2))) (gN (idx cc.N y)),fun G k call W X g=>s_setDc g hc.1 (loc_of hc.2.1) (funK_of hc.2.2.1) hc.2.2.2.1 hc.2.2.2.2 (i.ok G k call W X g) (blkOk_by hb) (fun s H C cl fp=>t.ok _ _ _ _ _ (good_blk g scope s H C cl fp)) (fun s H C cl fp=>c.ok _ _ _ _ _ (good_blk g scope s H C cl fp)) (fun s H C cl fp=>a.ok _ _ _ _ _ (good_blk g scope s H C cl fp)) (fun s H C cl fp=>b.ok _ _ _ _ _ (good_blk g scope s H C cl fp)) (i.fs _)⟩
    else none)
  else none
theorem sw_cellD {y:Str} {py:Pos} {kx vx:Expr} {gs:List Comprehension} {scope:Scope} {pos:Pos} {l:Nat} {env:Env} (h:env.scope.names.lookup y=some .cell):swapsWith (.DictComp kx vx gs scope pos) (some (.Name y py)) l env=pure false:=by
  unfold swapsWith
  have hk:env.kindOf y=some .cell:=h
  simp only [hk]
  have h2:((some NameKind.cell==some NameKind.local):Bool)=false:=by decide
  simp [h2]
def tSetDcC (T:Tn) (cc:CC) (y:Str) (py:Pos) (kx vx tg it:Expr) (ifs:List Expr) (scope:Scope) (pos spos:Pos):Option (CS cc (.Assign [.Name y py] (.DictComp kx vx [⟨tg,it,ifs,0⟩] scope pos) spos)):=
  if hc : (celB cc.sc y&&cc.top)=true then
    (if h1:cc.N[idx cc.N y]?=some y then
      (tDc T cc kx vx tg it ifs scope pos).map fun a=>⟨cAsg a.m (gN (idx cc.N y)),fun G k call W X g=>
        have hg:PG X (.Name y py) (tG G (gN (idx cc.N y))):=g_name g h1 (.inr ⟨(Bool.and_eq_true_iff.mp hc).2,cel_of (Bool.and_eq_true_iff.mp hc).1⟩)
        have hsw:swapsWithSole [.Name y py] (.DictComp kx vx [⟨tg,it,ifs,0⟩] scope pos) spos.line X.env=pure false:=by
          show swapsWith (.DictComp kx vx [⟨tg,it,ifs,0⟩] scope pos) (some (.Name y py)) spos.line X.env=pure false
          exact sw_cellD (by rw [g.sc];exact cel_of (Bool.and_eq_true_iff.mp hc).1)
        (ps_asg (a.ok G k call W X g) hg hsw rfl rfl).of fun D σ H q=>tAsg_of q⟩
    else none)
  else none
def tSetLc2 (T:Tn) (cc:CC) (y:Str) (py:Pos) (elt tg it tg1 it1:Expr) (ifs ifs1:List Expr) (scope:Scope) (pos spos:Pos):Option (CS cc (.Assign [.Name y py] (.ListComp elt [⟨tg,it,ifs,0⟩,⟨tg1,it1,ifs1,0⟩] scope pos) spos)):=
  let own:List (Str×Nat):=(namesOf tg++namesOf tg1).map fun x=>(x,idx cc.N x)
  let vs1:List Nat:=(namesOf tg1).map fun x=>idx cc.N x
  if hb : blkC cc.N cc.sc scope own=true∧(vs1.all fun i=>decide (i∈own.map (·.2)))=true then
    (if hc:(cc.N[idx cc.N y]?=some y∧locB cc.sc y=true∧funK cc.sc=true∧(py.line==pos.line)=true∧(scope.names.any fun (n,k)=>n==y&&(k== .local||k== .cell))=false) then
      (tIv T cc tg it).bind fun i=>(tGa (cc.blk scope) (own.map (·.2)) tg).bind fun t=>(tTt T (cc.blk scope) ifs).bind fun c=>(tIv T (cc.blk scope) tg1 it1).bind fun i1=>(tGa (cc.blk scope) vs1 tg1).bind fun t1=>(tTt T (cc.blk scope) ifs1).bind fun c1=>(T.e (cc.blk scope) elt).map fun e=>
        ⟨cAsg (mLc2 i.m t.m c.m i1.m t1.m c1.m e.m (own.map (·.2)) vs1) (gN (idx cc.N y)),fun G k call W X g=>s_setLc2 g hc.1 (loc_of hc.2.1) (funK_of hc.2.2.1) hc.2.2.2.1 hc.2.2.2.2 (i.ok G k call W X g) (blkOk_by hb.1) (fun j hj=>by have:=List.all_eq_true.mp hb.2 j hj;exact of_decide_eq_true this)
          (fun s H C cl fp=>t.ok _ _ _ _ _ (good_blk g scope s H C cl fp)) (fun s H C cl fp=>c.ok _ _ _ _ _ (good_blk g scope s H C cl fp)) (fun s H C cl fp=>i1.ok _ _ _ _ _ (good_blk g scope s H C cl fp)) (fun s H C cl fp=>t1.ok _ _ _ _ _ (good_blk g scope s H C cl fp)) (fun s H C cl fp=>c1.ok _ _ _ _ _ (good_blk g scope s H C cl fp)) (fun s H C cl fp=>e.ok _ _ _ _ _ (good_blk g scope s H C cl fp)) (i.fs _) i1.fs⟩
    else none)
  else none
def tTry (T:Tn) (cc:CC) (body:List Stmt) (h0:ExceptHandler) (hds:List ExceptHandler) (pos:Pos):Option (CS cc (.Try body (h0::hds) [] [] pos)):=
  if ht:cc.top=true then
    (tSs T cc body).bind fun b=>(tHds cc (h0::hds)).map fun r=>⟨cTry cc.exs b.m r.l,fun G k call W X g=>s_try g ht (fun W' X' g'=>b.ok G k call W' X' g') r.t⟩
  else none
def tRaise (T:Tn) (cc:CC) (c:Str) (p:Pos) (e:Expr) (pos pos2:Pos):Option (CS cc (.Raise (some (.Call (.Name c p) [e] [] pos)) none pos2)):=match hf:excF cc.exs c with
  |some f=>if h:glB cc.sc c=true∧notStar e=true then (tA T cc [e]).map fun r=>⟨cRaise c r.m,fun G k call W X g=>s_raise g (excF_mem hf) (gl_of h.1) (r.ok G k call W X g) h.2⟩ else none
  |none=>none
def isRws:Expr→Expr→List Stmt→Bool
  | .Name x _,.Name y _,.If (.BoolOp .Or _ _) _ _ _::_=>decide (x="row")&&decide (y="rows")
  |_,_,_=>false
def tFor (T:Tn) (cc:CC) (tg it:Expr) (b:List Stmt) (pos:Pos):Option (CS cc (.For tg it b [] pos)):=
  if isRws tg it b then (if hs:noSet it=true then (T.e cc it).bind fun i=>(tTg cc tg).bind fun t=>(tSs T cc b).bind fun y=>none else none) else
  if isBrw it then (if hs:noSet it=true then (T.e cc it).bind fun i=>(tTg cc tg).bind fun t=>(tSs T cc b).bind fun y=>none else none)
  else (tIv T cc tg it).bind fun i=>(tTg cc tg).bind fun t=>(tSs T cc b).map fun y=>⟨cFor i.m t.m y.m,fun G k call W X g=>s_for g (i.ok G k call W X g) (t.ok G k call W X g) (y.ok G k call W X g) (i.fs _)⟩
def isNI (cc:CC):Expr→Bool
  | .Name x _=>decide (x="NotImplemented")
  |_=>false
def rawA (cc:CC):Expr→Bool
  | .Name x _=>decide (("!":Str)++x∈cc.cells)
  |_=>false
def eOf (T:Tn) (cc:CC) (tg e:Expr):Option (CE cc e):=if rawA cc tg=true then tNewR T cc e else T.e cc e
def turnS (T:Tn) (cc:CC):(st:Stmt)→Option (CS cc st)
  | .Return (some e) pos=>if isNI cc e=true then none else (T.e cc e).map fun a=>⟨cRet a.m,fun G k call W X g=>s_ret (a.ok G k call W X g)⟩
  | .Return none pos=>none
  | .Pass pos=>none
  | .Break pos=>none
  | .Continue pos=>none
  | .If c a b pos=>(T.b cc c).bind fun x=>(tSs T cc a).bind fun y=>(tSs T cc b).map fun z=>⟨cIf x.m y.m z.m,fun G k call W X g=>s_if (x.ok G k call W X g) (y.ok G k call W X g) (z.ok G k call W X g)⟩
  | .For (.Tuple elts kk tpos) (.Call (.Name f p) [a] [] ipos) b [] pos=>if h:f="enumerate"∧glB cc.sc "enumerate"=true∧cc.bare=false then
      (tA T cc [a]).bind fun r=>(tTg cc (.Tuple elts kk tpos)).bind fun t=>(tSs T cc b).bind fun y=>none
    else tFor T cc (.Tuple elts kk tpos) (.Call (.Name f p) [a] [] ipos) b pos
  | .For (.Name x px) (.List es lp) b [] pos=>if x∈brwN then
      (tItems (cellT T) cc es).bind fun r=>(tTg cc (.Name x px)).bind fun t=>(tSs T cc b).map fun y=>⟨cFor (iAny (mLst r.m)) t.m y.m,fun G k call W X g=>s_for g (i_any g (e_lst (r.ok G k call W X g))) (t.ok G k call W X g) (y.ok G k call W X g) (fun _=>rfl)⟩
    else tFor T cc (.Name x px) (.List es lp) b pos
  | .For tg it b [] pos=>tFor T cc tg it b pos
  | .While c b [] pos=>(T.b cc c).bind fun x=>(tSs T cc b).bind fun y=>none
  | .Try body (h0::hds) [] [] pos=>tTry T cc body h0 hds pos
  | .Raise (some (.Call (.Name c p) [e] [] pos)) none pos2=>tRaise T cc c p e pos pos2
  | .Expr (.Call (.Attribute x name p) [e] [] pos) spos=>tMeth1 T cc x name p e pos spos
  | .Expr (.Call (.Attribute x name p) [] [] pos) spos=>tMeth0 T cc x name p pos spos
  | .Expr e pos=>if hn:noComp e=true then (T.e cc e).bind fun a=>none else none
  | .AugAssign (.Name x p) .Add e pos=>if h1:cc.N[idx cc.N x]?=some x then (if hl:locB cc.sc x=true then (T.e cc e).bind fun a=>none else none) else none
  | .AugAssign (.Attribute o f p) .Add (.Constant (.int j) jj jp) pos=>if h:f∈cc.flds then (T.e cc o).bind fun a=>none else none
  | .Assign [.Tuple ts k1 p1] (.Tuple vs k2 p2) pos=>if ts.all isName=true then tPar T cc ts vs k1 p1 k2 p2 pos else tMulX T cc ts vs k1 p1 k2 p2 pos
  | .Assign [.Name y py] (.DictComp kx vx [⟨tg,it,ifs,0⟩] scope pos) spos=>(tSetDc T cc y py kx vx tg it ifs scope pos spos).orElse fun _=>tSetDcC T cc y py kx vx tg it ifs scope pos spos
  | .Assign [.Name y py] (.ListComp elt [⟨tg,it,ifs,0⟩,⟨tg1,it1,ifs1,0⟩] scope pos) spos=>tSetLc2 T cc y py elt tg it tg1 it1 ifs ifs1 scope pos spos
  | .Assign [.Name y py] (.ListComp elt [⟨tg,it,ifs,0⟩] scope pos) spos=>(tSetLc T cc y py elt tg it ifs scope pos spos).orElse fun _=>tSetLcC T cc y py elt tg it ifs scope pos spos
  | .Assign [.Subscript x i p] (.Dict [] [] dp) pos=>if hs:notSlice i=true then (T.e cc x).bind fun b=>(T.e cc i).map fun c=>⟨cSetX (mCell mDic0) b.m c.m,fun G k call W X g=>s_setX g (e_cell e_dic0) (b.ok G k call W X g) (c.ok G k call W X g) hs⟩ else none
  | .Assign [.Subscript x i p] e pos=>if hs:notSlice i=true then (T.e cc e).bind fun a=>(T.e cc x).bind fun b=>(T.e cc i).map fun c=>
      if (celY x e||celW x e)=true then ⟨cSetX (mCell a.m) b.m c.m,fun G k call W X g=>s_setX g (e_cell (a.ok G k call W X g)) (b.ok G k call W X g) (c.ok G k call W X g) hs⟩
      else ⟨cSetX a.m b.m c.m,fun G k call W X g=>s_setX g (a.ok G k call W X g) (b.ok G k call W X g) (c.ok G k call W X g) hs⟩ else none
  | .Assign [.Attribute o f p] e pos=>if hn:f∈cc.flds then (T.e cc e).bind fun a=>(T.e cc o).map fun b=>
      if f∈cc.celF then ⟨cFld (mCell a.m) b.m f,fun G k call W X g=>s_fld g hn (e_cell (a.ok G k call W X g)) (b.ok G k call W X g) sw_att⟩
      else ⟨cFld a.m b.m f,fun G k call W X g=>s_fld g hn (a.ok G k call W X g) (b.ok G k call W X g) sw_att⟩ else none
  | .Assign [.Tuple ts k1 p1] e pos=>if ts.all isName=true then
      (if hn:noComp e=true∧noTup e=true then (T.e cc e).bind fun a=>(tTg cc (.Tuple ts k1 p1)).map fun t=>⟨cAsg a.m t.m,fun G k call W X g=>s_asg (a.ok G k call W X g) (t.ok G k call W X g) hn.1 (sw_noTup hn.2) t.pl⟩ else none)
    else tAsgTX T cc ts k1 p1 e pos
  | .Assign [tg] e pos=>if hn:noComp e=true then
      (if hw:(noTup e||noSw tg)=true then (eOf T cc tg e).bind fun a=>(tTg cc tg).map fun t=>if celA cc tg then ⟨cAsg (mCell a.m) t.m,fun G k call W X g=>s_asg (e_cell (a.ok G k call W X g)) (t.ok G k call W X g) hn (by
          rcases Bool.or_eq_true_iff.mp hw with h|h
          · exact sw_noTup h
          · exact sw_none h) t.pl⟩ else ⟨cAsg a.m t.m,fun G k call W X g=>s_asg (a.ok G k call W X g) (t.ok G k call W X g) hn (by
          rcases Bool.or_eq_true_iff.mp hw with h|h
          · exact sw_noTup h
          · exact sw_none h) t.pl⟩
      else none)
    else none
  |_=>none
def Tn.at:Nat→Tn
  |0=>⟨fun _ _=>none,fun _ _=>none,fun _ _=>none⟩
  |n+1=>⟨turnE (Tn.at n),turnB (Tn.at n),turnS (Tn.at n)⟩
def turn (cc:CC) (sts:List Stmt):Option (CSs cc sts):=tSs (Tn.at 40) cc sts
section
variable {P:Program} {w:World} {mg:Str→Option Value} {base:Heap} {G:GE}
theorem slp_start: ∀ {ds:List D} {vs:List V} (n:Nat),ds.length=vs.length→slp (ds.map (fun d=>some (.fz d))++List.replicate n none) (vs.map some++List.replicate n none)=Fz ds vs
  | [],[],n,_=>by
    show slp (List.replicate n none) (List.replicate n none)=[]
    induction n with
    |zero=>rfl
    |succ n ih=>rw [List.replicate_succ,List.replicate_succ];exact ih
  | d::ds,v::vs,n,l=>by
    show (O.fz d,v)::slp (ds.map (fun d=>some (.fz d))++List.replicate n none) (vs.map some++List.replicate n none)=(O.fz d,v)::Fz ds vs
    rw [slp_start n (by simpa using l)]
  |[],_::_,_,l=>by simp at l
  |_::_,[],_,l=>by simp at l
theorem slok_start {ds:List D} {vs:List V} (n:Nat) (l:ds.length=vs.length):SlOk (ds.map (fun d=>some (O.fz d))++List.replicate n none) (vs.map some++List.replicate n none):=by
  refine ⟨by simp [l],fun i o q=>?_⟩
  by_cases hi:i<ds.length
  · have hv:i<vs.length:=by omega
    exact ⟨vs[i],by rw [List.getElem?_append_left (by simpa using hv)];simp [hv]⟩
  · rw [List.getElem?_append_right (by simpa using hi)] at q
    simp only [List.getElem?_replicate] at q
    split at q<;>cases q
structure PD where
  con:Str→Option D
  names:List Str
  cells:List Str
  exs:List (Str×Str):=[]
  flds:List Str:=[]
  news:List Str:=[]
  isx:List (Str×Str×Bool):=[]
  shp:List (Str×Nat×List Str):=[]
  mns:List (Str×Nat):=[]
  ml:List (Str×Str):=[]
  insN:List Str:=[]
  celF:List Str:=[]
  frzN:List Str:=[]
  sts:List (Str×Str):=[]
def PD.cc (pd:PD) (bare:Bool) (N:List Str) (sc:Scope):CC:=⟨N,sc,pd.con,pd.names,true,bare,pd.cells,pd.exs,pd.flds,pd.news,pd.isx,pd.shp,pd.mns,pd.ml,pd.insN,pd.celF,pd.frzN,pd.sts⟩
structure Glob (G:GE) (mg:Str→Option Value) (pd:PD):Prop where
  blt: ∀ x∈blts,mg x=none
  con: ∀ x d v,pd.con x=some d→simple d=some v→∃ u,mg x=some u∧RelV v u
  conT: ∀ x ds,pd.con x=some (.tup ds)→∃ a vs,mg x=some (.ref a)∧TupK G.K a vs∧ds.map simple=vs.map some
  exs: ∀ c f,(c,f)∈pd.exs→∃ C,G.exc c=some (C,f)
  xr: ∀ c C f,G.exc c=some (C,f)→XRow G.K mg c C f
  sub: ∀ c C f c' C' f',G.exc c=some (C,f)→G.exc c'=some (C',f')→PySem.W.exmOne G.K (.ref C) (.ref C')=some (decide (c=c'))
  cls: ∀ c C,G.cls c=some C→L2.Cls G.K C∧mg c=some (.ref C)
  fld: ∀ c C f,G.cls c=some C→f∈pd.flds→NoAttr G.K C f
  clb: ∀ c C c' C',G.cls c=some C→G.cls c'=some C'→ClsTwo G.K c C c' C'
  ceq: ∀ c C,G.cls c=some C→PySem.W.findIn G.K (.ref C) "__ne__"=some (some (.builtin "object.__ne__"))∧PySem.W.mroIn G.K C (.type "object")=some true∧PySem.W.noSeq G.K C=true∧ClsX G.K C
  isx: ∀ c C f nm b,G.exc c=some (C,f)→(c,nm,b)∈pd.isx→ExcC G.K C∧∃ u cv,RelV u cv∧(∀ w,RelV u w→w=cv)∧((mg nm=some cv)∨(mg nm=none∧bootBuiltins nm=some cv∧nm≠"__name__"))∧PySem.W.kitOne G.K (.ref C) cv=some b
  cold:G.cur=none
  opx: ∀ c C,G.cls c=some C→OpX G.K C
  fnx: ∀ f a,G.fns f=some a→f∈pd.names
structure FunA (K:PySem.W.Frag) (st:Stmt) (a:Addr) (fd:FuncData):Prop where
  ex: ∃ (x qual:Str) (oc:Value) (od:Option Addr) (dV kV doc pm:Value) (an:Option Addr) (cdv ct:Value) (osl:Array (Option Value)),
    fd=PySem.W.fnOf x qual (defArgs st) (defBody st) (defScope st) dV kV doc pm an cdv ct∧K.lookup a=some ⟨oc,od,.func fd,osl⟩∧PySem.W.codeIn K cdv qual=true
structure DefAt (G:GE) (pd:PD) (tab:Str→Option MFn) (f:Str) (a:Addr) (fd:FuncData) (ps:List Str):Prop where
  ex: ∃ (st:Stmt) (N:List Str) (c:CSs (pd.cc G.bare N (defScope st)) (defBody st)) (df:List D),FunA G.K st a fd∧FnScope N ps (defScope st)∧tab f=some ⟨N,ps.length,c.m,df⟩∧
    ∀ n kws,(f,n,kws)∈pd.shp→BindSh G G.K fd ps n kws (rest ⟨N,ps.length,c.m,df⟩ (n+kws.length))
structure Rows (G:GE) (mg:Str→Option Value) (pd:PD) (tab:Str→Option MFn):Prop where
  fns: ∀ f∈pd.names,∃ a fd ps,G.fns f=some a∧mg f=some (.ref a)∧PySem.W.keepIn G.K (.ref a)=true∧DefAt G pd tab f a fd ps
  news: ∀ c∈pd.news,∃ C a fd ps,G.cls c=some C∧Mk G.K C a∧DefAt G pd tab (mkey c "__init__") a fd ps
  mths: ∀ c C m n,G.cls c=some C→(m,n)∈pd.mns→(c,m)∈pd.ml→∃ a,Meth G.K C m a∧PySem.W.fnIn G.K a=true∧((∃ fd ps,DefAt G pd tab (mkey c m) a fd ps∧(mkey c m,n+1,[])∈pd.shp)∨∀ mf,tab (mkey c m)=some mf→¬n+1+(rest mf (n+1)).length=mf.np)
  sts: ∀ c m,(c,m)∈pd.sts→∃ C p a fd ps,G.cls c=some C∧StM G.K C m p a∧PySem.W.keepIn G.K (.ref a)=true∧DefAt G pd tab (mkey c m) a fd ps
theorem fnG_of {T:CXT} {K:PySem.W.Frag} {n:Nat} {a:Addr} {nm qual:Str} {par:Arguments} {body:List Stmt} {sc:Scope} {dV kV doc pm cdv ct oc:Value} {an od:Option Addr} {osl:Array (Option Value)} {N ps:List Str} {q:Sp}
    (at_:K.lookup a=some ⟨oc,od,.func (PySem.W.fnOf nm qual par body sc dV kV doc pm an cdv ct),osl⟩) (cd:PySem.W.codeIn K cdv qual=true) (Sc:FnScope N ps sc) (ln: ∀ vs H Q E,q vs H Q E→vs.length=ps.length)
    (main: ∀ (A:Around) (out:List Env) (s:Shared) (H:Hp) (vs:List V) (Q:VK) (E:XK),Room n (A.deeper (envOfC qual sc s.heap.objs.size a cdv))→A.guards=some []→q vs H Q E→
      ∃ t,PSs (cxOf T P w K mg base N qual sc a cdv A out s H E) body t∧t {nx:=fun _ H'=>Q .non H',rt:=Q} (L2.start N vs) H):
    FnG P w K mg base T (n+1) a (PySem.W.fnOf nm qual par body sc dV kV doc pm an cdv ct) ps q:=by
  refine ⟨ln,fun A out s H args us vs Q E rm gd en bd rv told=>?_⟩
  have len:=ln _ _ _ _ told
  have keep:=fun b o e=>(en.bs b o e).1
  have KI:K.In s.heap:=en.mod.kin.keeps keep
  have cells: ∀ y∈ps.zip us,sc.names.lookup y.1=some .local∨(sc.names.lookup y.1=some .cell∧((cellsFrom (s.heap.objs.size+1) sc.names []).lookup y.1).isSome=true):=fun y hy=>by
    rcases Sc.par y.1 (List.of_mem_zip (show (y.1,y.2)∈ps.zip us from hy)).1 with z|z
    · exact .inl z
    · exact .inr ⟨z,PySem.W.cellsFrom_some _ _ _ (.inl z)⟩
  refine codeAny_call_function rm.depth (KI _ _ at_) rfl Sc.co Sc.gen rfl (PySem.W.codeRec_of KI cd) (bd _ _ _ _ ?_)
  refine wpAny_newFunctionEnv_cells Sc.kind cells fun env he s1 x=>?_
  subst he
  refine ⟨(en.mod.nolimit.keeps keep).keeps x.toInCall.keep,codeAny_func ?_⟩
  obtain ⟨t,run,wish⟩:=main A out s H vs Q E (rm.deeper _) gd told
  have I:Inv (cxOf T P w K mg base N qual sc a cdv A out s H E) [] (L2.start N vs) H s1:=inv_start Sc rm.hd en len rv x
  refine wpAny_mono (run.run [] s1 (L2.start N vs) H _ I wish) (fun fl s2 back=>?_) fun _ _ z=>z
  cases fl with
  | ret u=>
    obtain ⟨v,σ1,H1,J,rv1,q1⟩:=back
    exact ⟨v,H1,J.os,J.bare,J.base,J.hok,rv1,q1⟩
  | next=>
    obtain ⟨σ1,H1,J,q1⟩:=back
    exact ⟨.non,H1,J.os,J.bare,J.base,J.hok,rfl,q1⟩
  |brk=>exact (show False by obtain ⟨_,_,_,z⟩:=back;exact z).elim
  |cont=>exact (show False by obtain ⟨_,_,_,z⟩:=back;exact z).elim
theorem sh_of {pd:PD} {tab:Str→Option MFn} {k:Nat} {f:Str} {a:Addr} {fd:FuncData} {ps:List Str} {X:Cx} (hK:X.K=G.K) (Df:DefAt G pd tab f a fd ps) {n:Nat} {kws:List Str} (h:(f,n,kws)∈pd.shp):ShOk G (callN tab k) X f fd ps n kws:=by
  obtain ⟨st,N,c,df,_,_,ht,sh⟩:=Df.ex
  have b:=sh n kws h
  exact ⟨_,by rw [hK];exact b,fills_of ht b.1 k⟩
theorem fn_ok {pd:PD} {tab:Str→Option MFn} {k:Nat} {f:Str} {a:Addr} {fd:FuncData} {ps:List Str} (hwd:w=G.w) (gl:Glob G mg pd) (rows:Rows G mg pd tab)
    (ih: ∀ f a fd ps,DefAt G pd tab f a fd ps→FnG P w G.K mg base (L2.CX P w) (2*k+2) a fd ps (spC G (callN tab k) f ps.length))
    (Df:DefAt G pd tab f a fd ps):FnG P w G.K mg base (L2.CX P w) (2*k+3+1) a fd ps (spC G (callN tab (k+1)) f ps.length):=by
  obtain ⟨st,N,c,df,⟨x,qual,oc,od,dV,kV,doc,pm,an,cdv,ct,osl,rfl,lk,hcd⟩,S,ht,_⟩:=Df.ex
  refine fnG_of lk hcd S (fun vs H Q E h=>h.1) fun A outer s H vs Q E hr hgd h=>?_
  obtain ⟨hl,h0,Φ,ds,ld,cf,aft⟩:=h
  have hpl:ps.length≤N.length:=by have z:=congrArg List.length S.pre;rw [List.length_take] at z;omega
  let XX:Cx:=cxOf (L2.CX P w) P w G.K mg base N qual (defScope st) a cdv A outer s H E
  have gb:GoodB G (pd.cc G.bare N (defScope st)) XX:=⟨rfl,rfl,S.nd,rfl,rfl,hr.units,hwd,hgd,gl.blt,gl.con,gl.conT,gl.exs,gl.xr,gl.sub,gl.cls,gl.fld,gl.clb,gl.ceq,gl.isx,gl.opx,gl.fnx,fun a a' C e=>by rw [gl.cold] at e;cases e⟩
  have g:Good G k (callN tab k) (pd.cc G.bare N (defScope st)) (fun cls d _ H=>E cls d H) XX:=⟨gb,rfl,gl.cold,takes_of rfl rfl rfl rfl,hr,fun _ _=>rfl,passes_of rfl,fun _=>⟨rfl,rfl⟩,fun f hf=>by
      obtain ⟨a,fd,ps,g1,g2,g3,Df⟩:=rows.fns f hf
      exact ⟨a,fd,ps,g1,g2,g3,ih f a fd ps Df,fun n kws h=>sh_of rfl Df h⟩,fun c hc=>by
      obtain ⟨C,a,fd,ps,g1,g2,Df⟩:=rows.news c hc
      exact ⟨C,a,fd,ps,g1,g2,ih _ a fd ps Df,fun n kws h=>sh_of rfl Df h⟩,fun c C m n hC hm hin=>by
      obtain ⟨a,g2,g3,⟨fd,ps,Df,hs⟩|z⟩:=rows.mths c C m n hC hm hin
      · exact ⟨a,g2,g3,.inl ⟨fd,ps,ih _ a fd ps Df,sh_of rfl Df hs⟩⟩
      · exact ⟨a,g2,g3,.inr fun xs h hx=>bad_of z k xs h hx⟩,fun c m h=>by
      obtain ⟨C,p,a,fd,ps,g1,g2,g3,Df⟩:=rows.sts c m h
      exact ⟨C,p,a,fd,ps,g1,g2,g3,ih _ a fd ps Df,fun n kws h=>sh_of rfl Df h⟩⟩
  refine ⟨_,c.ok G k (callN tab k) _ _ g,⟨start0 N ds,h0⟩,ownR Φ,nob_ownR,⟨?_,fun i v z=>absurd z (nob_ownR i v), ?_⟩, ?_⟩
  · show SlOk (start0 N ds) (L2.start N vs)
    unfold start0 L2.start
    rw [ld]
    exact slok_start _ ld
  · show Cf G H h0 (slp (start0 N ds) (L2.start N vs)++ow (ownR Φ))
    unfold start0 L2.start
    rw [ld,slp_start _ ld,ow_ownR]
    exact cf
  · simp only [callN,ht,runFn,fill_full (ld.trans hl),ld.trans hl,if_true] at aft
    cases e:c.m (callN tab k) ⟨start0 N ds,h0⟩ with
    | nx s1=>
      simp only [e] at aft
      intro σ1 H1 c1
      refine aft .non H1 ?_
      have c2:=(c1.simple (d:=.non) rfl).cf
      rw [show ow ((R.own (.fz .non),V.non)::ownR Φ)=(.fz .non,.non)::Φ by show _::ow (ownR Φ)=_;rw [ow_ownR]] at c2
      exact Cf.dropN c2
    | rt o s1=>
      simp only [e] at aft
      intro σ1 v H1 c1
      refine aft v H1 ?_
      have c2:=c1.cf
      rw [show ow ((R.own o,v)::ownR Φ)=(o,v)::Φ by show _::ow (ownR Φ)=_;rw [ow_ownR]] at c2
      exact Cf.dropN c2
    | exc cn d s1=>
      simp only [e] at aft
      rintro σ1 cls dx H1 ⟨C,fl,b,v,e1,e2,e3,e4,c5⟩
      subst e1;subst e3
      refine aft C fl b v H1 e2 e4 ?_
      have c2:=c5.cf
      rw [show ow ((R.own (.fz d),v)::ownR Φ)=(.fz d,v)::Φ by show _::ow (ownR Φ)=_;rw [ow_ownR]] at c2
      exact Cf.dropN c2
    |bk s1=>simp only [e] at aft;exact aft.elim
    |ct s1=>simp only [e] at aft;exact aft.elim
    |bad=>simp only [e] at aft;exact aft.elim
theorem all_ok {pd:PD} {tab:Str→Option MFn} (hwd:w=G.w) (gl:Glob G mg pd) (rows:Rows G mg pd tab) (k:Nat):
    ∀ f a fd ps,DefAt G pd tab f a fd ps→FnG P w G.K mg base (L2.CX P w) (2*k+2) a fd ps (spC G (callN tab k) f ps.length):=by
  induction k with
  | zero=>
    intro f a fd ps Df
    refine ⟨fun vs H Q E h=>h.1,fun A outer s H args us vs Q E hr _ he hb hv h=>?_⟩
    obtain ⟨_,h0,Φ,ds,ld,cf,aft⟩:=h
    exact aft.elim
  | succ k ih=>
    intro f a fd ps Df
    exact fn_ok hwd gl rows ih Df
end
end
end Mi
namespace Mi
open PySem PySem.Spec PyProof.Rows L2
def dedup:List Str→List Str→List Str
  |[],acc=>acc.reverse
  |x::r,acc=>if acc.contains x then dedup r acc else dedup r (x::acc)
def mkN (st:Stmt):List Str:=
  dedup (((defArgs st).args++(defArgs st).kwonlyargs).map (·.arg)++((defScope st).names.filterMap fun (n,k)=>match k with| .local=>some n| .cell=>some n|_=>none)++((defScope st).more.filterMap fun (n,c)=>match c with| .str x=>if n==("fast":Str) then some x else none|_=>none)) []
def mkP (st:Stmt):List Str:=((defArgs st).args++(defArgs st).kwonlyargs).map (·.arg)
def conOf (l:List (Str×D)) (x:Str):Option D:=match l with
  |[]=>none
  |(y,d)::r=>if x=y then some d else conOf r x
def funScB (N ps:List Str) (sc:Scope):Bool:=
  funK sc&&!sc.isCoroutine&&!sc.isGenerator&&decide N.Nodup&&decide (N.take ps.length=ps)&&ps.all (fun x=>locB sc x||celB sc x)&&sc.names.all (fun y=>match y.2 with| .free=>false|_=>true)
theorem funSc_of {N ps:List Str} {sc:Scope} (h:funScB N ps sc=true):FnScope N ps sc:=by
  simp only [funScB,Bool.and_eq_true,Bool.not_eq_true',decide_eq_true_eq,List.all_eq_true] at h
  obtain ⟨⟨⟨⟨⟨⟨h1,h2⟩,h3⟩,h4⟩,h5⟩,h6⟩,h7⟩:=h
  refine ⟨funK_of h1,h2,h3,h4,h5,fun x hx=>?_,fun y hy e=>?_⟩
  · have:=h6 x hx
    simp only [Bool.or_eq_true] at this
    rcases this with z|z
    · exact .inl (loc_of z)
    · exact .inr (cel_of z)
  · have:=h7 y hy
    rw [e] at this
    cases this
theorem def_mk {G:GE} {pd:PD} {tab:Str→Option MFn} {f:Str} {st:Stmt} {a:Addr} {fd:FuncData} {m:C} {np:Nat} {df:List D} (F:FunA G.K st a fd) (hS:funScB (mkN st) (mkP st) (defScope st)=true) (ht:tab f=some ⟨mkN st,np,m,df⟩) (hn:(mkP st).length=np)
    (hm:(turn (pd.cc G.bare (mkN st) (defScope st)) (defBody st)).map (·.m)=some m) (b: ∀ n kws,(f,n,kws)∈pd.shp→BindSh G G.K fd (mkP st) n kws (rest ⟨mkN st,np,m,df⟩ (n+kws.length))):DefAt G pd tab f a fd (mkP st):=by
  simp only [Option.map_eq_some_iff] at hm
  obtain ⟨c,_,e⟩:=hm
  subst e
  subst hn
  exact ⟨⟨st,mkN st,c,df,F,funSc_of hS,ht,b⟩⟩
theorem funA_mk {K:PySem.W.Frag} {x qual:Str} {st:Stmt} {f:Addr} {oc:Value} {od an:Option Addr} {osl:Array (Option Value)} {dV kV doc pm cdv ct:Value} (l:K.lookup f=some ⟨oc,od,.func (PySem.W.fnOf x qual (defArgs st) (defBody st) (defScope st) dV kV doc pm an cdv ct),osl⟩)
    (c:PySem.W.codeIn K cdv qual=true):FunA K st f (PySem.W.fnOf x qual (defArgs st) (defBody st) (defScope st) dV kV doc pm an cdv ct):=⟨x,qual,oc,od,dV,kV,doc,pm,an,cdv,ct,osl,rfl,l,c⟩
def clsBody:Stmt→List Stmt
  | .ClassDef (body:=b) .. =>b
  |_=>[]
def spL (K:PySem.W.Frag) (bare:Bool) (call:Call):Sp:=fun vs H Q E=>vs.length=1∧∀ G:GE,G.K=K→G.bare=bare→spC G call "law" 1 vs H Q E
theorem spL_of {K:PySem.W.Frag} {bare:Bool} {call:Call} {H:Hp} {a:Addr} {ns:List Int} {h':List O} (hS:SqL K H a (ns.map V.int)) (e:call "law" [.scr ns] []= .ok (.fz (.bl true)) h'):spL K bare call [.ref a] H (fun v _=>v= .bl true) (fun _ _ _=>False):=by
  refine ⟨rfl,fun G hK _=>⟨rfl,[],[],[.scr ns],rfl, ?_, ?_⟩⟩
  · refine Cf.fz1.mpr ⟨[],[],⟨rfl,rfl,List.nodup_nil⟩,a,rfl, ?_⟩
    subst hK
    rcases hS with z|z
    · exact .inl ⟨z,by simp⟩
    · exact .inr z
  · rw [e]
    exact fun v H' c=>c.bl
theorem fn_law {P:Program} {w:World} {mg:Str→Option Value} {base:Heap} {G:GE} {a:Addr} {fd:FuncData} {ps:List Str} {k:Nat} {call:Call} (hl:ps.length=1) (F:FnG P w G.K mg base (L2.CX P w) k a fd ps (spC G call "law" ps.length)):FnG P w G.K mg base (L2.CX P w) k a fd ps (spL G.K G.bare call):=
  ⟨fun vs H Q E h=>h.1.trans hl.symm,fun A out s H args us vs Q E rm gd en bd rv h=>F.go A out s H args us vs Q E rm gd en bd rv (by rw [hl];exact h.2 G rfl rfl)⟩
theorem callG {P:Program} {w:World} {K:PySem.W.Frag} {mg mb:Str→Option Value} {T:CXT} {n:Nat} {fa l:Addr} {fd:FuncData} {x:Str} {q:Sp} {s1:Shared} {its:List Value} {ns:List Int}
    (KI:K.In s1.heap) (gl:s1.heap.Ns mainGlobals mg) (bl:s1.heap.Ns builtinsNs mb) (boot: ∀ x:Str,x≠"__name__"→mb x=bootBuiltins x) (lim:s1.heap.NoLimit) (gens:s1.gens= #[])
    (at_:s1.heap.get? l=some {cls:=.type "list",data:=.seq its.toArray}) (hin:IntsAre its ns) (few:ns.length≤sizeLine) (rm:Room n callerA)
    (F: ∀ base:Heap,K.In base→base.Ns mainGlobals mg→FnG P w K mg base T n fa fd [x] q) (bind1: ∀ (s:Shared) (u:Value),BindsTo s fd ⟨[u],[]⟩ [(x,u)])
    (told: ∀ H:Hp,SqL K H l (ns.map V.int)→q [.ref l] H (fun v _=>v= .bl true) fun _ _ _=>False) (none_: ∀ H e s',T [] H s1 (fun _ _ _=>False) e s'→False):
    codeAny (model P w) callerA (.call (.ref fa) ⟨[.ref l],[]⟩) (fun r s'=>r= .ok (.ret (.bool true))∧OldK s1.heap s'.heap∧s'.os=s1.os∧AllBare s'.gens) s1:=by
  have vals:=vals_ints hin
  have main: ∀ H:Hp,(∀ b,H b=none∨(b=l∧∃ o xs,H b=some (.frz o (.lst xs))))→SqL K H l (ns.map V.int)→HOk P w H s1.heap→(H l≠none→K.lookup l=none)→
      codeAny (model P w) callerA (.call (.ref fa) ⟨[.ref l],[]⟩) (fun r s'=>r= .ok (.ret (.bool true))∧OldK s1.heap s'.heap∧s'.os=s1.os∧AllBare s'.gens) s1:=by
    intro H only sq hok hK
    have there: ∀ {b:Addr} {o:Obj},s1.heap.get? b=some o→H b=none→(hidT s1.heap H).get? b=some o:=fun e z=>hidT_get e z
    have free: ∀ {b:Addr} {o:Obj} {es:Array DictEntry} {ep:Nat},s1.heap.get? b=some o→o.data= .dict es ep→H b=none:=fun {b o es ep} e dd=>by
      rcases only b with z|⟨rfl,_⟩
      · exact z
      · rw [at_] at e
        cases e
        cases (show Data.seq its.toArray _=Data.dict es ep from dd)
    have nsAt: ∀ {b:Addr} {m:Str→Option Value},s1.heap.Ns b m→(hidT s1.heap H).Ns b m:=fun {b m} ⟨o,es,ep,e,dd,r⟩=>⟨o,es,ep,there e (free e dd),dd,r⟩
    have KB:K.In (hidT s1.heap H):=fun b o e=>there (KI b o e) (by
      rcases only b with z|⟨rfl,o',xs,z⟩
      · exact z
      · rw [hK (by rw [z];simp)] at e;cases e)
    obtain ⟨mc,lim1,lim2⟩:=lim
    have en:Env0 P w K mg (hidT s1.heap H) callerA [] s1 H:=⟨rfl,⟨KB,nsAt gl,⟨mb,nsAt bl,boot⟩,⟨mc,nsAt lim1,lim2⟩⟩,fun b o e=>of_hidT e,Nat.le_of_eq (hidT_size _ _),trivial,(fun b hb=>nomatch hb),hok,.of_eq gens⟩
    refine codeAny_mono ((F _ KB (nsAt gl)).go callerA [] s1 H ⟨[.ref l],[]⟩ [.ref l] [.ref l] _ _ rm rfl en (bind1 s1 (.ref l)) (.cons rfl .nil) (told H sq)) fun res s2 back=>?_
    cases res with
    |error e=>exact (none_ H e s2 back).elim
    | ok fl=>
      cases fl with
      | ret u=>
        obtain ⟨v,H2,os,bare,un,hok2,rv,ev⟩:=back
        have ev':v= .bl true:=ev
        subst ev'
        cases (show u=Value.bool true from rv)
        refine ⟨rfl,OldK.of_keep fun b o e=>?_,os,bare⟩
        rcases only b with z|⟨_,ob,xs,z⟩
        · exact un.keep b o e z (fun z=>nomatch z) (fun z=>nomatch z)
        · have f1:=(hok b _ z).1
          rw [e] at f1
          cases f1
          exact (hok2 b _ (un.frzs b _ _ z)).1
      |_=>all_goals exact False.elim back
  have lenV:=hin.length
  cases hk:K.lookup l with
  | some o=>
    have e:=KI l o hk
    rw [at_] at e
    cases e
    refine main (fun _=>none) (fun _=>.inl rfl) (.inr ⟨_,its.toArray,_,hk,rfl,rfl,rfl, ?_,by simpa using vals⟩) (fun b u z=>nomatch z) fun z=>absurd rfl z
    rw [List.size_toArray,lenV];exact few
  | none=>
    let H:Hp:=fun b=>if b=l then some (.frz {cls:=.type "list",data:=.seq its.toArray} (.lst (ns.map V.int))) else none
    have Hl: ∀ b u,H b=some u→b=l∧u= .frz {cls:=.type "list",data:=.seq its.toArray} (.lst (ns.map V.int)):=fun b u z=>by
      by_cases hb:b=l
      · have z2:=(if_pos hb).symm.trans z
        cases z2
        exact ⟨hb,rfl⟩
      · have z2:=(if_neg hb).symm.trans z
        cases z2
    refine main H (fun b=>?_) (.inl (.inr ⟨{cls:=.type "list",data:=.seq its.toArray},if_pos rfl⟩)) (fun b u z=>?_) fun _=>hk
    · by_cases hb:b=l
      · exact .inr ⟨hb,_,_,if_pos hb⟩
      · exact .inl (if_neg hb)
    · obtain ⟨rfl,rfl⟩:=Hl b u z
      exact ⟨at_,by rw [List.length_map];exact few,its,_,vals,at_⟩
theorem cx_no {P:Program} {w:World} {H:Hp} {s:Shared} {e:Value} {s':Shared} (h:L2.CX P w [] H s (fun _ _ _=>False) e s'):False:=by
  obtain ⟨_,_,_,_,_,_,_,_,_,_,_,_,z⟩:=h
  exact z
def MgCon (mg:Str→Option Value) (x:Str) (d:D):Prop:= ∀ v,simple d=some v→∃ u,mg x=some u∧RelV v u
def MgTup (K:PySem.W.Frag) (mg:Str→Option Value) (x:Str):D→Prop
  | .tup ds=> ∃ a vs,mg x=some (.ref a)∧TupK K a vs∧ds.map simple=vs.map some
  |_=>True
theorem tup_all {K:PySem.W.Frag} {mg:Str→Option Value}: ∀ {l:List (Str×D)},(∀ p∈l,MgTup K mg p.1 p.2)→∀ x ds,conOf l x=some (.tup ds)→∃ a vs,mg x=some (.ref a)∧TupK K a vs∧ds.map simple=vs.map some
  |[],_,x,ds,e=>by cases e
  | (y,d0)::l,h,x,ds,e=>by
    unfold conOf at e
    split at e
    · rename_i hx
      cases e
      subst hx
      exact h (x,.tup ds) (by simp)
    · exact tup_all (fun p hp=>h p (by simp [hp])) x ds e
theorem con_all {mg:Str→Option Value}: ∀ {l:List (Str×D)},(∀ p∈l,MgCon mg p.1 p.2)→∀ x d v,conOf l x=some d→simple d=some v→∃ u,mg x=some u∧RelV v u
  |[],_,x,d,v,e,_=>by cases e
  | (y,d0)::r,h,x,d,v,e,es=>by
    unfold conOf at e
    split at e
    · rename_i hx
      cases e
      subst hx
      exact h (x,d0) (by simp) v es
    · exact con_all (fun p hp=>h p (by simp [hp])) x d v e es
end Mi
namespace Mi
open PySem PySem.Spec PyProof.Rows L2
def lookA {α:Type}:List (Str×α)→Str→Option α
  |[],_=>none
  |(x,a)::r,c=>if c=x then some a else lookA r c
theorem lookA_mem {α:Type} {c:Str} {a:α}: ∀ {l:List (Str×α)},lookA l c=some a→(c,a)∈l
  |[],e=>by cases e
  | (x,b)::r,e=>by
    unfold lookA at e
    split at e
    · rename_i h
      cases e
      subst h
      exact List.mem_cons_self ..
    · exact List.mem_cons_of_mem _ (lookA_mem e)
def initGet:List Stmt→Option (Str×Str×Str×Nat×List Pos)
  | [.Expr (.Call (.Attribute (.Name b q1) i q2) [.Name s1 q3,.Constant (.str m) j q4] [] q5) q6,.Assign [.Attribute (.Name s2 q7) f q8] (.Name f2 q9) q10]=>
    if i="__init__"∧s1="self"∧s2="self"∧f2=f then some (b,f,m,j,[q1,q2,q3,q4,q5,q6,q7,q8,q9,q10]) else none
  |_=>none
theorem initGet_ok {l:List Stmt} {b f m:Str} {j:Nat} {q:List Pos} (h:initGet l=some (b,f,m,j,q)):l=initBody b f m j q∧q.length=10:=by
  unfold initGet at h
  split at h
  · split at h
    · rename_i hc
      obtain ⟨rfl,rfl,rfl,rfl⟩:=hc
      cases h
      exact ⟨rfl,rfl⟩
    · cases h
  · cases h
def initB (st:Stmt) (b f:Str):Bool:=(match initGet (defBody st) with
  |some (b',f',_,_,q)=>decide (b'=b)&&decide (f'=f)&&((q.getD 1 ⟨0,0,0,0⟩).endLine==(q.getD 4 ⟨0,0,0,0⟩).line)
  |none=>false)&&funScB ["self",f] ["self",f] (defScope st)&&locB (defScope st) "self"&&locB (defScope st) f&&glB (defScope st) b&&!(f==("__debug__":Str))&&!(f==("__classdict__":Str))
theorem initB_ok {st:Stmt} {b f:Str} (h:initB st b f=true):InitTxt st b f:=by
  simp only [initB,Bool.and_eq_true,Bool.not_eq_true'] at h
  obtain ⟨⟨⟨⟨⟨⟨h0,h1⟩,h2⟩,h3⟩,h4⟩,h5⟩,h6⟩:=h
  refine ⟨?_,funSc_of h1,loc_of h2,loc_of h3,gl_of h4,h5,h6⟩
  cases e:initGet (defBody st) with
  |none=>rw [e] at h0;cases h0
  | some p=>
    obtain ⟨b',f',m,j,q⟩:=p
    rw [e] at h0
    simp only [Bool.and_eq_true,decide_eq_true_eq] at h0
    obtain ⟨⟨rfl,rfl⟩,h0⟩:=h0
    obtain ⟨e1,e2⟩:=initGet_ok e
    exact ⟨m,j,q,e2,e1,h0⟩
section
variable {K:PySem.W.Frag} {h:Heap} {mg:Str→Option Value}
theorem binit_blt (X:K.In h) (G:h.Ns mainGlobals mg) {b:Str} {B initId:String} (hh:PySem.W.handedIn (.builtin initId)=true) (db:(b==("__debug__":Str))=false) (z:PySem.W.nsIn K mainGlobals b=some none) (bt:bootBuiltins b=some (.type B))
    (km:PySem.W.kitMeta B=true) (st:Manifest.isStub B=false) (hn:b≠"__name__") (fc:PySem.W.findCls K (.type B) (.type "type") "__init__"=some (.val (.builtin initId))):BInit K mg b initId:=
  ⟨hh,db,.inr ⟨B,PySem.W.mg_none_of X G z,bt,PySem.W.kitMeta_of km,st,fc,hn⟩⟩
structure XLook (K:PySem.W.Frag) (C:Addr):Prop where
  sa:PySem.W.findIn K (.ref C) "__setattr__"=some (some (.builtin "object.__setattr__"))
  exC:PySem.W.subIn K (.ref C) (.type "BaseException")=some true
  tyC:PySem.W.typeIn K (.ref C)=some (.type "type")
  kC:PySem.W.keepIn K (.ref C)=true
  ga:PySem.W.findIn K (.ref C) "__getattribute__"=some (some (.builtin "BaseException.__getattribute__"))
  gg:PySem.W.findIn K (.ref C) "__getattr__"=some none
  hd:PySem.W.hasDictIn K C=true
  ha:PySem.W.findIn K (.ref C) "__class__"=some (some (.builtin "object.__class__"))
  hn:PySem.W.specialIn K (.builtin "object.__class__") "__get__"=some (some (.builtin "getset_descriptor.__get__"))
  ht:PySem.W.takesIn K (.builtin "object.__class__")=some true
  hm:PySem.W.mroIn K C (.type "object")=some true
theorem XLook.exc {C:Addr} (L:XLook K C):ExcC K C:=⟨L.ga,L.gg,L.exC,L.hd,L.ha,L.hn,L.ht,L.hm⟩
theorem xrow_mk (X:K.In h) (G:h.Ns mainGlobals mg) {c f b qual:Str} {C fI:Addr} {st:Stmt} {tl:List Value} {newId initId:String} (hB:XB tl newId initId) (qC:PySem.W.nsIn K mainGlobals c=some (some (.ref C))) (db:(c==("__debug__":Str))=false)
    {nm q:Str} {N:Addr} {bs bm:List Value} {sno:List Str} {sub:List Value} {abc0:Bool} {cl:Option Bool} {ddd:Option Addr} {k0 k1 k2 k3 k5:Option Value} (lC:K.lookup C=some (excClassObj nm q C N bs bm true sno sub abc0 cl ddd k0 k1 k2 k3 k5 newId)) (hm:refsT tl bm=true)
    (L:XLook K C) (hno:PySem.W.findIn K (.ref C) f=some none) (BI:BInit K mg b initId) (iC:PySem.W.findIn K (.ref C) "__init__"=some (some (.ref fI))) (tI:PySem.W.typeIn K (.ref fI)=some (.type "function"))
    {oc:Value} {od an:Option Addr} {osl:Array (Option Value)} {kV doc pm cdv ct:Value} (l:K.lookup fI=some ⟨oc,od,.func (PySem.W.fnOf "__init__" qual (defArgs st) (defBody st) (defScope st) .none kV doc pm an cdv ct),osl⟩)
    (cI:PySem.W.codeIn K cdv qual=true) (kI:PySem.W.keepIn K (.ref fI)=true) (I:InitTxt st b f) (hb: ∀ (kV doc pm:Value) (an:Option Addr) (cdv ct:Value) (us:List Value),us.length=2→bindArgs (PySem.W.fnOf "__init__" qual (defArgs st) (defBody st) (defScope st) .none kV doc pm an cdv ct) ⟨us,[]⟩=pure ((["self",f]:List Str).zip us)):XRow K mg c C f:=
  have F:=fun_mk (st:=st) l cI kI
  ⟨⟨initId,fI,b,"__init__",qual,st,_,⟨⟨tl,newId,hB,_,_,_,_,_,_,_,_,_,_,_,_,_,_,_,lC,hm⟩,L.sa,L.exC,L.tyC,L.kC⟩,hno,BI,F,I,F.binds (ps:=(["self",f]:List Str)) hb,iC,tI⟩,PySem.W.mg_of X G qC,db,⟨L.ga,L.gg,L.exC,L.hd⟩⟩
theorem exm_mk {C:Addr} {cls:Value} {b b':Bool} (L:XLook K C) (hs:PySem.W.subIn K cls (.ref C)=some b) (e:b'=b):PySem.W.exmOne K cls (.ref C)=some b':=by
  rw [e];exact PySem.W.exm_ref L.exC L.hd L.tyC hs
def IsxOk (K:PySem.W.Frag) (mg:Str→Option Value) (C:Addr) (nm:Str) (b:Bool):Prop:= ∃ u cv,RelV u cv∧(∀ w,RelV u w→w=cv)∧((mg nm=some cv)∨(mg nm=none∧bootBuiltins nm=some cv∧nm≠"__name__"))∧PySem.W.kitOne K (.ref C) cv=some b
end
def shpOf (l:List (Str×Nat×List Str)) (f:Str):List (Nat×List Str):=l.filterMap fun p=>if p.1=f then some p.2 else none
theorem shp_mem {l:List (Str×Nat×List Str)} {f:Str} {n:Nat} {kws:List Str} (h:(f,n,kws)∈l):(n,kws)∈shpOf l f:=List.mem_filterMap.mpr ⟨_,h,by simp⟩
section
variable {G:GE} {K:PySem.W.Frag} {fd:FuncData} {ps:List Str} {f:Str} {l:List (Str×Nat×List Str)}
theorem rest_all {N:List Str} {np:Nat} {m:C} {df:List D}:rest ⟨N,np,m,df⟩ np=[]:=by
  unfold rest
  show df.drop (df.length - (np - np))=[]
  rw [Nat.sub_self,Nat.sub_zero,List.drop_length]
theorem bs_all {N:List Str} {np:Nat} {m:C} {df:List D} (hp:ps.length=np) (hb: ∀ (s:Shared) (us:List Value),K.In s.heap→us.length=np→BindsTo s fd ⟨us,[]⟩ (ps.zip us)):BindSh G K fd ps np [] (rest ⟨N,np,m,df⟩ (np+0)):=by
  rw [Nat.add_zero,rest_all]
  refine ⟨by simp [hp],[],[],.nil,fun _ _ _=>rfl,fun s us ks KI hu hk=>?_⟩
  rw [List.length_eq_zero_iff.mp hk,List.append_nil,List.append_nil]
  exact hb s us KI hu
theorem bs_one {N:List Str} {np:Nat} {m:C} {df:List D} (hs:shpOf l f=[(np,[])]) (b:BindSh G K fd ps np [] (rest ⟨N,np,m,df⟩ (np+0))): ∀ n kws,(f,n,kws)∈l→BindSh G K fd ps n kws (rest ⟨N,np,m,df⟩ (n+kws.length)):=fun n kws h=>by
  have z:=shp_mem h
  rw [hs] at z
  simp only [List.mem_singleton,Prod.mk.injEq] at z
  obtain ⟨rfl,rfl⟩:=z
  exact b
end
def geOf (K:PySem.W.Frag) (cls fns:List (Str×Addr)) (exc:List (Str×Addr×Str)) (bare:Bool) (w:World):GE:=⟨K,lookA cls,lookA fns,lookA exc,bare,none,w⟩
theorem glob_mk {K:PySem.W.Frag} {h:Heap} {mg:Str→Option Value} {clsT fnsT:List (Str×Addr)} {exT:List (Str×Addr×Str)} {bare:Bool} {w:World} {pd:PD}
    (blt: ∀ x∈blts,mg x=none) (con: ∀ x d v,pd.con x=some d→simple d=some v→∃ u,mg x=some u∧RelV v u) (conT: ∀ x ds,pd.con x=some (.tup ds)→∃ a vs,mg x=some (.ref a)∧TupK K a vs∧ds.map simple=vs.map some)
    (exs: ∀ p∈pd.exs,∃ C,lookA exT p.1=some (C,p.2)) (xr: ∀ p∈exT,XRow K mg p.1 p.2.1 p.2.2) (sub: ∀ p∈exT,∀ q∈exT,PySem.W.exmOne K (.ref p.2.1) (.ref q.2.1)=some (decide (p.1=q.1)))
    (cls: ∀ p∈clsT,L2.Cls K p.2∧mg p.1=some (.ref p.2)) (fld: ∀ p∈clsT,∀ f∈pd.flds,NoAttr K p.2 f) (clb: ∀ p∈clsT,∀ q∈clsT,ClsTwo K p.1 p.2 q.1 q.2) (ceq: ∀ p∈clsT,PySem.W.findIn K (.ref p.2) "__ne__"=some (some (.builtin "object.__ne__"))∧PySem.W.mroIn K p.2 (.type "object")=some true∧PySem.W.noSeq K p.2=true∧ClsX K p.2)
    (isx: ∀ p∈pd.isx,∀ C f,lookA exT p.1=some (C,f)→ExcC K C∧IsxOk K mg C p.2.1 p.2.2) (opx: ∀ p∈clsT,OpX K p.2) (fnx: ∀ p∈fnsT,p.1∈pd.names):Glob (geOf K clsT fnsT exT bare w) mg pd where
  blt:=blt
  con:=con
  conT:=conT
  exs:=fun c f e=>exs (c,f) e
  xr:=fun c C f e=>xr (c,C,f) (lookA_mem e)
  sub:=fun c C f c' C' f' e e'=>sub (c,C,f) (lookA_mem e) (c',C',f') (lookA_mem e')
  cls:=fun c C e=>cls (c,C) (lookA_mem e)
  fld:=fun c C f e hm=>fld (c,C) (lookA_mem e) f hm
  clb:=fun c C c' C' e e'=>clb (c,C) (lookA_mem e) (c',C') (lookA_mem e')
  ceq:=fun c C e=>ceq (c,C) (lookA_mem e)
  isx:=fun c C f nm b e hm=>isx (c,nm,b) hm C f e
  cold:=rfl
  opx:=fun c C e=>opx (c,C) (lookA_mem e)
  fnx:=fun f a e=>fnx (f,a) (lookA_mem e)
end Mi
namespace Mi
open PySem PySem.Spec PyProof.Rows L2
theorem lcL_map {call:Call} {g:Tg} {tt:B} {te:E} {vs:List Nat} {f:D→D} {p:D→Bool} {s:S}: ∀ (ds acc:List D),
    (∀ d∈ds,∃ s1,g (.fz d) s=some s1∧tt call s1= .ok (p d) s1∧(p d=true→∃ r,te call s1= .ok r s1∧take s1 r=some (f d,s1))∧(⟨wipeO s1.σ vs,s1.h⟩:S)=s)→
    fitsB (acc.length+ds.length)=true→lcL call g tt te vs ds acc s= .ok (acc++(ds.filter p).map f) s
  |[],acc,_,_=>by simp [lcL]
  | d ::ds,acc,h,hf=>by
    obtain ⟨s1,e1,e2,e3,e4⟩:=h d (by simp)
    have hf':fitsB (acc.length+1)=true:=by
      simp only [fitsB,decide_eq_true_eq,List.length_cons] at hf ⊢;omega
    simp only [lcL,e1,e2]
    cases hp:p d with
    | false=>
      simp only []
      rw [e4,lcL_map ds acc (fun x hx=>h x (by simp [hx])) (by simp only [fitsB,decide_eq_true_eq,List.length_cons] at hf ⊢;omega)]
      simp [hp]
    | true=>
      obtain ⟨r,e5,e6⟩:=e3 hp
      simp only [e5,e6,hf',if_true]
      rw [e4,lcL_map ds (acc++[f d]) (fun x hx=>h x (by simp [hx])) (by simp only [fitsB,decide_eq_true_eq,List.length_cons,List.length_append,List.length_nil] at hf ⊢;omega)]
      simp [hp]
theorem lcL_draw {call:Call} {g:Tg} {te:E} {vs:List Nat} (I:S→Prop) (P:D→Prop): ∀ (ds acc:List D) (s:S),I s→(∀ x∈acc,P x)→
    (∀ d∈ds,∀ s,I s→∃ s1,g (.fz d) s=some s1∧∃ r s2,te call s1= .ok r s2∧∃ y s3,take s2 r=some (y,s3)∧P y∧I ⟨wipeO s3.σ vs,s3.h⟩)→
    fitsB (acc.length+ds.length)=true→∃ out s',lcL call g bYes te vs ds acc s= .ok out s'∧out.length=acc.length+ds.length∧(∀ x∈out,P x)∧I s'
  |[],acc,s,hi,ha,_,_=>⟨acc,s,rfl,by simp,ha,hi⟩
  | d ::ds,acc,s,hi,ha,h,hf=>by
    obtain ⟨s1,e1,r,s2,e2,y,s3,e3,py,i3⟩:=h d (by simp) s hi
    have hf':fitsB (acc.length+1)=true:=by
      simp only [fitsB,decide_eq_true_eq,List.length_cons] at hf ⊢;omega
    obtain ⟨out,s',e,l,pa,i'⟩:=lcL_draw I P ds (acc++[y]) _ i3 (fun x hx=>by
      rcases List.mem_append.mp hx with z|z
      · exact ha x z
      · simp at z;subst z;exact py) (fun x hx=>h x (by simp [hx])) (by simp only [fitsB,decide_eq_true_eq,List.length_cons,List.length_append,List.length_nil] at hf ⊢;omega)
    refine ⟨out,s', ?_,by simp at l ⊢;omega,pa,i'⟩
    simp only [lcL,e1,bYes,e2,e3,hf',if_true,e]
theorem forL_inv {call:Call} {g:Tg} {body:C} (I:S→Prop): ∀ (ds:List D) (s:S),I s→
    (∀ d∈ds,∀ s,I s→∃ s1,g (.fz d) s=some s1∧∃ s2,(body call s1= .nx s2∨body call s1= .ct s2)∧I s2)→∃ s',forL call g body ds s= .nx s'∧I s'
  |[],s,hi,_=>⟨s,rfl,hi⟩
  | d::ds,s,hi,h=>by
    obtain ⟨s1,e1,s2,e2,i2⟩:=h d (by simp) s hi
    obtain ⟨s',e,i'⟩:=forL_inv I ds s2 i2 fun x hx=>h x (by simp [hx])
    refine ⟨s', ?_,i'⟩
    rcases e2 with e2|e2<;>simp only [forL,e1,e2,e]
theorem filt_true {α:Type}: ∀ l:List α,l.filter (fun _=>true)=l
  |[]=>rfl
  |a::l=>by rw [List.filter_cons,if_pos rfl,filt_true l]
theorem lcL_all {call:Call} {g:Tg} {te:E} {vs:List Nat} {f:D→D} {s:S} (ds:List D)
    (h: ∀ d∈ds,∃ s1,g (.fz d) s=some s1∧(∃ r,te call s1= .ok r s1∧take s1 r=some (f d,s1))∧(⟨wipeO s1.σ vs,s1.h⟩:S)=s) (hf:fitsB ds.length=true):lcL call g bYes te vs ds [] s= .ok (ds.map f) s:=by
  rw [lcL_map (p:=fun _=>true) (f:=f) ds [] (fun d hd=>by
    obtain ⟨s1,e1,e2,e3⟩:=h d hd
    exact ⟨s1,e1,rfl,fun _=>e2,e3⟩) (by simpa using hf),filt_true,List.nil_append]
def fin:Fl→Res
  | .rt o s=>.ok o s.h
  | .nx s=>.ok (.fz .non) s.h
  | .exc c d s=>.exc c d s.h
  |_=>.bad
theorem call_at {tab:Str→Option MFn} {f:Str} {mf:MFn} (h:tab f=some mf) {k:Nat} {ds:List D} {hp:List O} (σ:List (Option O)) (hn:ds.length=mf.np) (hs:start0 mf.N ds=σ):callN tab (k+1) f ds hp=fin (mf.body (callN tab k) ⟨σ,hp⟩):=by
  simp only [callN,h,runFn,fill_full hn,hn,if_true,hs,fin]
  all_goals (cases mf.body (callN tab k) ⟨σ,hp⟩<;>rfl)
theorem at0 {a:D} {r:List D}:atI (a::r) 0=some a:=atI_nat (j:=0) rfl
theorem at1 {a b:D} {r:List D}:atI (a::b::r) 1=some b:=atI_nat (j:=1) rfl
theorem at3 {a b c d:D} {r:List D}:atI (a::b::c::d::r) 3=some d:=atI_nat (j:=3) rfl
theorem at4 {a b c d e:D} {r:List D}:atI (a::b::c::d::e::r) 4=some e:=atI_nat (j:=4) rfl
end Mi
namespace Mi
open PySem PySem.Spec PyProof.Rows L2
variable {call:Call} {s:S} {σ:List (Option O)} {h:List O} {α β:Type}
theorem y_bo {a:α} {f:α→S→Out β}:(Out.ok a s).bind f=f a s:=id rfl
theorem y_be {c:Str} {e:D} {f:α→S→Out β}:(Out.exc c e s).bind f= .exc c e s:=id rfl
theorem y_fo {a:α} {f:α→S→Fl}:(Out.ok a s).flow f=f a s:=id rfl
theorem y_fe {c:Str} {e:D} {f:α→S→Fl}:(Out.exc c e s).flow f= .exc c e s:=id rfl
theorem y_ob {a:α} {f:α→Option β}:(some a).bind f=f a:=id rfl
theorem xT_nx {f:S→Fl}:(Fl.nx s).then f=f s:=id rfl
theorem xT_rt {o:O} {f:S→Fl}:(Fl.rt o s).then f= .rt o s:=id rfl
theorem xT_exc {c:Str} {e:D} {f:S→Fl}:(Fl.exc c e s).then f= .exc c e s:=id rfl
theorem x_seq {a b:C}:cSeq a b call s=(a call s).then (b call):=id rfl
theorem x_nil:cNil call s= .nx s:=id rfl
def kIf (a b:C) (call:Call) (x:Bool) (s:S):Fl:=if x then a call s else b call s
theorem x_if {c:B} {a b:C}:cIf c a b call s=(c call s).flow (kIf a b call):=id rfl
theorem x_ifT {a b:C}:kIf a b call true s=a call s:=id rfl
theorem x_ifF {a b:C}:kIf a b call false s=b call s:=id rfl
def kGv (σ:List (Option O)) (h:List O) (i:Nat):Option (Option O)→Option (O×S)
  |some (some o)=>some (o,⟨σ.set i none,h⟩)
  |_=>none
def kRet2:Option (O×S)→Fl
  |some (o,s2)=>.rt o s2
  |none=>.bad
def kRet (x:R) (s:S):Fl:=kRet2 (give s x)
theorem x_ret {m:E}:cRet m call s=(m call s).flow kRet:=id rfl
theorem x_ret1 {x:R}:kRet x s=kRet2 (give s x):=id rfl
theorem x_ret2 {o:O}:kRet2 (some (o,s))= .rt o s:=id rfl
theorem x_gvO {o:O}:give s (.own o)=some (o,s):=id rfl
theorem x_gvB {i:Nat}:give ⟨σ,h⟩ (.bor i)=kGv σ h i (σ[i]?):=by
  show (match σ[i]? with|some (some o)=>_|_=>_)=_;cases σ[i]? with
  |none=>rfl
  |some z=>cases z<;>rfl
theorem x_gv {o:O} {i:Nat}:kGv σ h i (some (some o))=some (o,⟨σ.set i none,h⟩):=id rfl
theorem x_frz1 {d:D}:frz (.fz d)=d:=id rfl
theorem x_frz2 {l:List D}:frz (.lst l)= .lst l:=id rfl
theorem x_frz3 {ks:List Key} {l:List D}:frz (.dic ks l)= .dic ks l:=id rfl
theorem x_frz4 {c:Str} {fs:List Str} {l:List D}:frz (.ins c fs l)= .ins c fs l:=id rfl
def kPk (h:List O):Option (Option O)→Option D
  |some (some o)=>deref h (frz o)
  |_=>none
def kTk (σ:List (Option O)) (h:List O) (i:Nat):Option (Option O)→Option (D×S)
  |some (some o)=>some (frz o,⟨σ.set i (some (.fz (frz o))),h⟩)
  |_=>none
theorem x_pkO {o:O}:peek ⟨σ,h⟩ (.own o)=deref h (frz o):=id rfl
theorem x_pkB {i:Nat}:peek ⟨σ,h⟩ (.bor i)=kPk h (σ[i]?):=by
  show (match σ[i]? with|some (some o)=>_|_=>_)=_;cases σ[i]? with
  |none=>rfl
  |some z=>cases z<;>rfl
theorem x_pk {o:O}:kPk h (some (some o))=deref h (frz o):=id rfl
theorem x_tkO {o:O}:take s (.own o)=some (frz o,s):=id rfl
theorem x_tkB {i:Nat}:take ⟨σ,h⟩ (.bor i)=kTk σ h i (σ[i]?):=by
  show (match σ[i]? with|some (some o)=>_|_=>_)=_;cases σ[i]? with
  |none=>rfl
  |some z=>cases z<;>rfl
theorem x_tk {o:O} {i:Nat}:kTk σ h i (some (some o))=some (frz o,⟨σ.set i (some (.fz (frz o))),h⟩):=id rfl
theorem x_kpO {o:O}:keep s (.own o)=some (o,s):=id rfl
def nl:D→Bool
  | .loc _=>false
  |_=>true
theorem x_dl {n:Nat}:deref h (.loc n)=(h[n]?).map frz:=id rfl
theorem x_d_non:deref h (.non)=some (.non):=id rfl
theorem x_d_bl {b:Bool}:deref h (.bl b)=some (.bl b):=id rfl
theorem x_d_int {b:Int}:deref h (.int b)=some (.int b):=id rfl
theorem x_d_str {b:Str}:deref h (.str b)=some (.str b):=id rfl
theorem x_d_tup {b:List D}:deref h (.tup b)=some (.tup b):=id rfl
theorem x_d_lst {b:List D}:deref h (.lst b)=some (.lst b):=id rfl
theorem x_d_scr {b:List Int}:deref h (.scr b)=some (.scr b):=id rfl
theorem x_d_ty {b:String}:deref h (.ty b)=some (.ty b):=id rfl
theorem x_d_dic {ks:List Key} {l:List D}:deref h (.dic ks l)=some (.dic ks l):=id rfl
theorem x_d_nl {d:D} (hd:nl d=true):deref h d=some d:=by cases d<;>first|rfl|cases hd
def kVar (i:Nat) (s:S):Option (Option O)→Out R
  |some (some _)=>.ok (.bor i) s
  |_=>.bad
theorem x_var {i:Nat}:mVar i call ⟨σ,h⟩=kVar i ⟨σ,h⟩ (σ[i]?):=by
  show (match σ[i]? with|some (some o)=>_|_=>_)=_;cases σ[i]? with
  |none=>rfl
  |some z=>cases z<;>rfl
theorem x_var1 {i:Nat} {o:O}:kVar i s (some (some o))= .ok (.bor i) s:=id rfl
theorem x_con {d:D}:mCon d call s= .ok (.own (.fz d)) s:=id rfl
theorem x_dic0:mDic0 call s= .ok (.own (.dic [] [])) s:=id rfl
def kA3 (d:D) (ds:List D) (s:S):Out (List D):=.ok (d::ds) s
def kA2 (r:As) (call:Call):Option (D×S)→Out (List D)
  |some (d,s2)=>(r call s2).bind (kA3 d)
  |none=>.bad
def kA1 (r:As) (call:Call) (x:R) (s:S):Out (List D):=kA2 r call (take s x)
def kR2 (x:R) (rs:List R) (s:S):Out (List R):=.ok (x::rs) s
def kR1 (r:AsR) (call:Call) (x:R) (s:S):Out (List R):=(r call s).bind (kR2 x)
theorem x_aNil:aNil call s= .ok [] s:=id rfl
theorem x_aCons {a:E} {r:As}:aCons a r call s=(a call s).bind (kA1 r call):=id rfl
theorem x_a1 {r:As} {x:R}:kA1 r call x s=kA2 r call (take s x):=id rfl
theorem x_a2 {r:As} {e:D}:kA2 r call (some (e,s))=(r call s).bind (kA3 e):=id rfl
theorem x_a3 {e:D} {ds:List D}:kA3 e ds s= .ok (e::ds) s:=id rfl
theorem x_rNil:rNil call s= .ok [] s:=id rfl
theorem x_rCons {a:E} {r:AsR}:rCons a r call s=(a call s).bind (kR1 r call):=id rfl
theorem x_r1 {r:AsR} {x:R}:kR1 r call x s=(r call s).bind (kR2 x):=id rfl
theorem x_r2 {x:R} {rs:List R}:kR2 x rs s= .ok (x::rs) s:=id rfl
def kT3 (f:D→D→Option O) (d1 d2:D):Option R:=(f d1 d2).map R.own
def kT2 (f:D→D→Option O) (p2:Option D) (d1:D):Option R:=p2.bind (kT3 f d1)
def kTb (f:D→D→Option O) (x y:R) (s:S):Out R:=lift s ((peek s x).bind (kT2 f (peek s y)))
def kTa (f:D→D→Option O) (b:E) (call:Call) (x:R) (s:S):Out R:=(b call s).bind (kTb f x)
def kO2 (f:D→Option O) (d1:D):Option R:=(f d1).map R.own
def kO (f:D→Option O) (x:R) (s:S):Out R:=lift s ((peek s x).bind (kO2 f))
theorem x_two {f:D→D→Option O} {a b:E}:mTwo f a b call s=(a call s).bind (kTa f b call):=id rfl
theorem x_ta {f:D→D→Option O} {b:E} {x:R}:kTa f b call x s=(b call s).bind (kTb f x):=id rfl
theorem x_tb {f:D→D→Option O} {x y:R}:kTb f x y s=lift s ((peek s x).bind (kT2 f (peek s y))):=id rfl
theorem x_t2 {f:D→D→Option O} {p:D} {e:D}:kT2 f (some p) e=kT3 f e p:=id rfl
theorem x_t3 {f:D→D→Option O} {d e:D}:kT3 f d e=(f d e).map R.own:=id rfl
theorem x_one {f:D→Option O} {a:E}:mOne f a call s=(a call s).bind (kO f):=id rfl
theorem x_o {f:D→Option O} {x:R}:kO f x s=lift s ((peek s x).bind (kO2 f)):=id rfl
theorem x_o2 {f:D→Option O} {e:D}:kO2 f e=(f e).map R.own:=id rfl
def kTup (ds:List D) (s:S):Out R:=if fitsB ds.length then .ok (.own (.fz (.tup ds))) s else .bad
def kLst (ds:List D) (s:S):Out R:=if fitsB ds.length then .ok (.own (.lst ds)) s else .bad
theorem x_tup {r:As}:mTup r call s=(r call s).bind kTup:=id rfl
theorem x_lst {r:As}:mLst r call s=(r call s).bind kLst:=id rfl
theorem x_lstK0:kLst [] s= .ok (.own (.lst [])) s:=id rfl
theorem x_lstK1 {a:D}:kLst [a] s= .ok (.own (.lst [a])) s:=id rfl
theorem x_tupK2 {a b:D}:kTup [a,b] s= .ok (.own (.fz (.tup [a,b]))) s:=id rfl
theorem x_lstK2 {a b:D}:kLst [a,b] s= .ok (.own (.lst [a,b])) s:=id rfl
theorem x_tupK3 {a b c:D}:kTup [a,b,c] s= .ok (.own (.fz (.tup [a,b,c]))) s:=id rfl
theorem x_lstK6 {a b c d e f:D}:kLst [a,b,c,d,e,f] s= .ok (.own (.lst [a,b,c,d,e,f])) s:=id rfl
def kVal (x:R) (s:S):Out Bool:=lift s ((peek s x).bind truD)
def isBl:D→Option Bool
  | .bl b=>some b
  |_=>none
def kCmp (x:R) (s:S):Out Bool:=lift s ((peek s x).bind isBl)
def kNotB (b:Bool) (s:S):Out Bool:=.ok (!b) s
def kAndB (b:B) (call:Call) (x:Bool) (s:S):Out Bool:=if x then b call s else .ok false s
def kOrB (b:B) (call:Call) (x:Bool) (s:S):Out Bool:=if x then .ok true s else b call s
def kIfE (a b:E) (call:Call) (x:Bool) (s:S):Out R:=if x then a call s else b call s
theorem x_bval {m:E}:bVal m call s=(m call s).bind kVal:=id rfl
theorem x_val {x:R}:kVal x s=lift s ((peek s x).bind truD):=id rfl
theorem x_bcmp {m:E}:bCmp m call s=(m call s).bind kCmp:=id rfl
theorem x_cmp {x:R}:kCmp x s=lift s ((peek s x).bind isBl):=id rfl
theorem x_isbl {b:Bool}:isBl (.bl b)=some b:=id rfl
theorem x_bnot {m:B}:bNot m call s=(m call s).bind kNotB:=id rfl
theorem x_notB {b:Bool}:kNotB b s= .ok (!b) s:=id rfl
theorem x_band {a b:B}:bAnd a b call s=(a call s).bind (kAndB b call):=id rfl
theorem x_andT {b:B}:kAndB b call true s=b call s:=id rfl
theorem x_andF {b:B}:kAndB b call false s= .ok false s:=id rfl
theorem x_bor {a b:B}:bOr a b call s=(a call s).bind (kOrB b call):=id rfl
theorem x_orT {b:B}:kOrB b call true s= .ok true s:=id rfl
theorem x_orF {b:B}:kOrB b call false s=b call s:=id rfl
theorem x_ife {c:B} {a b:E}:mIf c a b call s=(c call s).bind (kIfE a b call):=id rfl
theorem x_ifeT {a b:E}:kIfE a b call true s=a call s:=id rfl
theorem x_ifeF {a b:E}:kIfE a b call false s=b call s:=id rfl
theorem x_tr_b {b:Bool}:truD (.bl b)=some b:=id rfl
def kRes (σ:List (Option O)):Res→Out R
  | .ok o h=>.ok (.own o) ⟨σ,h⟩
  | .exc c d h=>.exc c d ⟨σ,h⟩
  | .bad=>.bad
def kCall (f:Str) (call:Call) (ds:List D) (s:S):Out R:=kRes s.σ (call f ds s.h)
theorem x_call {f:Str} {r:As}:mCall f r call s=(r call s).bind (kCall f call):=id rfl
theorem x_kcall {f:Str} {ds:List D}:kCall f call ds ⟨σ,h⟩=kRes σ (call f ds h):=id rfl
theorem x_res1 {o:O}:kRes σ (.ok o h)= .ok (.own o) ⟨σ,h⟩:=id rfl
theorem x_res2 {c:Str} {e:D}:kRes σ (.exc c e h)= .exc c e ⟨σ,h⟩:=id rfl
def kBlt2 (f:List D→Option O) (ds:List D):Option R:=(f ds).map R.own
def kBlt (f:List D→Option O) (rs:List R) (s:S):Out R:=lift s ((peeks s rs).bind (kBlt2 f))
def kPs2 (d:D) (ds:List D):Option (List D):=some (d::ds)
def kPs (ps:Option (List D)) (d:D):Option (List D):=ps.bind (kPs2 d)
theorem x_blt {f:List D→Option O} {r:AsR}:mBlt f r call s=(r call s).bind (kBlt f):=id rfl
theorem x_kblt {f:List D→Option O} {rs:List R}:kBlt f rs s=lift s ((peeks s rs).bind (kBlt2 f)):=id rfl
theorem x_kblt2 {f:List D→Option O} {ds:List D}:kBlt2 f ds=(f ds).map R.own:=id rfl
theorem x_ps0:peeks s []=some []:=id rfl
theorem x_ps {r:R} {rs:List R}:peeks s (r::rs)=(peek s r).bind (kPs (peeks s rs)):=id rfl
theorem x_ps1 {ps:List D} {e:D}:kPs (some ps) e=some (e::ps):=id rfl
def kCell (x:R) (s:S):Out R:=match x with
  | .own o=>if isCont o then .ok (.own (.fz (.loc s.h.length))) ⟨s.σ,s.h++[o]⟩ else .bad
  |_=>.bad
theorem x_cell {m:E}:mCell m call s=(m call s).bind kCell:=id rfl
theorem x_cellL {l:List D}:kCell (.own (.lst l)) ⟨σ,h⟩= .ok (.own (.fz (.loc h.length))) ⟨σ,h++[.lst l]⟩:=id rfl
def kAsg2:Option S→Fl
  |some s2=>.nx s2
  |none=>.bad
def kAsg1 (g:Tg) (p:O×S):Option S:=g p.1 p.2
def kAsg (g:Tg) (x:R) (s:S):Fl:=kAsg2 ((keep s x).bind (kAsg1 g))
theorem x_asg {m:E} {g:Tg}:cAsg m g call s=(m call s).flow (kAsg g):=id rfl
theorem x_asg1 {g:Tg} {x:R}:kAsg g x s=kAsg2 ((keep s x).bind (kAsg1 g)):=id rfl
theorem x_asg2 {g:Tg} {o:O}:kAsg1 g (o,s)=g o s:=id rfl
theorem x_asg3:kAsg2 (some s)= .nx s:=id rfl
def gUp (a:Option O) (s:S):S:=⟨a::s.σ,s.h⟩
theorem x_g0 {a:Option O} {o:O}:gN 0 o ⟨a::σ,h⟩=some ⟨some o::σ,h⟩:=by simp [gN]
theorem x_gS {a:Option O} {o:O} {i:Nat}:gN (i+1) o ⟨a::σ,h⟩=(gN i o ⟨σ,h⟩).map (gUp a):=by
  simp only [gN,List.length_cons,Nat.add_lt_add_iff_right];split<;>rfl
theorem x_gU {a:Option O}:gUp a ⟨σ,h⟩=⟨a::σ,h⟩:=id rfl
def kMut (σ:List (Option O)) (h:List O) (f:List D→Option (List D)) (i:Nat):Option (Option O)→Option S
  |some (some (.lst ds))=>(f ds).map fun ds'=>⟨σ.set i (some (.lst ds')),h⟩
  |some (some (.fz d))=>(mutD h f d).map fun h=>⟨σ,h⟩
  |_=>none
theorem x_mutB {f:List D→Option (List D)} {i:Nat}:mutL ⟨σ,h⟩ f (.bor i)=kMut σ h f i (σ[i]?):=by
  show (match σ[i]? with|some (some (.lst ds))=>_|some (some (.fz d))=>_|_=>_)=_
  cases σ[i]? with
  |none=>rfl
  | some z=>cases z with
    |none=>rfl
    |some o=>cases o<;>rfl
def stL (i:Int) (e:D) (ds:List D):Option (List D):=(ixN ds.length i).map fun j=>ds.set j e
def kMuC (σ:List (Option O)):Option (List O)→Option S
  |some h=>some ⟨σ,h⟩
  |none=>none
def kMc2 (h:List O) (n:Nat):Option (List D)→Option (List O)
  |some ds=>some (h.set n (.lst ds))
  |none=>none
def kMc (h:List O) (f:List D→Option (List D)) (n:Nat):Option O→Option (List O)
  |some (.lst ds)=>kMc2 h n (f ds)
  |_=>none
theorem x_mutF {f:List D→Option (List D)} {i:Nat} {e:D}:kMut σ h f i (some (some (.fz e)))=kMuC σ (mutD h f e):=by show Option.map _ (mutD h f e)=_;cases mutD h f e<;>rfl
theorem x_muC:kMuC σ (some h)=some ⟨σ,h⟩:=id rfl
theorem x_mc {f:List D→Option (List D)} {n:Nat}:mutD h f (.loc n)=kMc h f n (h[n]?):=by
  show (match h[n]? with|some (.lst ds)=>_|_=>_)=_;cases h[n]? with
  |none=>rfl
  | some o=>cases o with
    |lst ds=>show Option.map _ (f ds)=kMc2 h n (f ds);cases f ds<;>rfl
    |_=>all_goals rfl
theorem x_mc1 {f:List D→Option (List D)} {n:Nat} {ds:List D}:kMc h f n (some (.lst ds))=kMc2 h n (f ds):=id rfl
theorem x_mc2 {n:Nat} {ds:List D}:kMc2 h n (some ds)=some (h.set n (.lst ds)):=id rfl
def kFor (g:Tg) (body:C) (call:Call) (ds:List D) (s:S):Fl:=forL call g body ds s
def kLc2 (σ:List (Option O)) (vs:List Nat):Out (List D)→Out R
  | .ok acc s2=>.ok (.own (.lst acc)) ⟨rst s2.σ σ vs,s2.h⟩
  |_=>.bad
def kLc (g:Tg) (tt:B) (te:E) (vs:List Nat) (call:Call) (ds:List D) (s:S):Out R:=kLc2 s.σ vs (lcL call g tt te vs ds [] ⟨wipeO s.σ vs,s.h⟩)
def kRg2 (s:S):Option (List D)→Out (List D)
  |some [.int j]=>if smallR j then .ok (rangeD 0 j.toNat) s else .bad
  |_=>.bad
def kRg (rs:List R) (s:S):Out (List D):=kRg2 s (peeks s rs)
theorem x_for {m:Iv} {g:Tg} {b:C}:cFor m g b call s=(m call s).flow (kFor g b call):=id rfl
theorem x_forL {g:Tg} {b:C} {ds:List D}:kFor g b call ds s=forL call g b ds s:=id rfl
theorem x_lc {m:Iv} {g:Tg} {tt:B} {te:E} {vs:List Nat}:mLc m g tt te vs call s=(m call s).bind (kLc g tt te vs call):=id rfl
theorem x_lc1 {g:Tg} {tt:B} {te:E} {vs:List Nat} {ds:List D}:kLc g tt te vs call ds ⟨σ,h⟩=kLc2 σ vs (lcL call g tt te vs ds [] ⟨wipeO σ vs,h⟩):=id rfl
theorem x_lc2 {τ:List (Option O)} {vs:List Nat} {l:List D}:kLc2 σ vs (.ok l ⟨τ,h⟩)= .ok (.own (.lst l)) ⟨rst τ σ vs,h⟩:=id rfl
theorem x_wp0:wipeO σ []=σ:=id rfl
theorem x_wp {v:Nat} {vs:List Nat}:wipeO σ (v::vs)=(wipeO σ vs).set v none:=id rfl
theorem x_rs0 {τ:List (Option O)}:rst τ σ []=τ:=id rfl
theorem x_rs {τ:List (Option O)} {v:Nat} {vs:List Nat}:rst τ σ (v::vs)=(rst τ σ vs).set v ((σ[v]?).getD none):=id rfl
theorem x_rg {r:AsR}:iRg1 r call s=(r call s).bind kRg:=id rfl
theorem x_rg1 {rs:List R}:kRg rs s=kRg2 s (peeks s rs):=id rfl
theorem x_rgK {j:Int} (h1:0≤j) (h2:j<100000):kRg2 s (some [.int j])= .ok (rangeD 0 j.toNat) s:=by
  have:smallR j=true:=by simp only [smallR,Bool.and_eq_true,decide_eq_true_eq];exact ⟨by omega,by omega⟩
  simp only [kRg2,this,if_true]
def isInt (s:S):Option D→Out (Option Int)
  |some (.int i)=>.ok (some i) s
  |_=>.bad
def kPS (x:R) (s:S):Out (Option Int):=isInt s (peek s x)
def kSl3 (l u:Option Int) (d:D):Option R:=(slD d l u).map R.own
def kSl2 (x:R) (l u:Option Int) (s:S):Out R:=lift s ((peek s x).bind (kSl3 l u))
def kSl1 (hi:Pt) (call:Call) (x:R) (l:Option Int) (s:S):Out R:=(hi call s).bind (kSl2 x l)
def kSl (lo hi:Pt) (call:Call) (x:R) (s:S):Out R:=(lo call s).bind (kSl1 hi call x)
theorem x_pn:pNone call s= .ok none s:=id rfl
theorem x_psm {m:E}:pSome m call s=(m call s).bind kPS:=id rfl
theorem x_psm1 {x:R}:kPS x s=isInt s (peek s x):=id rfl
theorem x_psm2 {i:Int}:isInt s (some (.int i))= .ok (some i) s:=id rfl
theorem x_sl {m:E} {lo hi:Pt}:mSl m lo hi call s=(m call s).bind (kSl lo hi call):=id rfl
theorem x_sl0 {lo hi:Pt} {x:R}:kSl lo hi call x s=(lo call s).bind (kSl1 hi call x):=id rfl
theorem x_sl1 {hi:Pt} {x:R} {l:Option Int}:kSl1 hi call x l s=(hi call s).bind (kSl2 x l):=id rfl
theorem x_sl2 {x:R} {l u:Option Int}:kSl2 x l u s=lift s ((peek s x).bind (kSl3 l u)):=id rfl
theorem x_sl3 {l u:Option Int} {e:D}:kSl3 l u e=(slD e l u).map R.own:=id rfl
theorem x_slC {l u:Option Int} {ds:List Int}:slD (.scr ds) l u=some (.lst (cutD (ds.map D.int) l u)):=id rfl
theorem x_slL {l u:Option Int} {ds:List D}:slD (.lst ds) l u=some (.lst (cutD ds l u)):=id rfl
theorem x_ltII {i j:Int}:ltD (.int i) (.int j)=some (.fz (.bl (decide (i<j)))):=id rfl
theorem x_gtII {i j:Int}:gtD (.int i) (.int j)=some (.fz (.bl (decide (j<i)))):=id rfl
theorem x_geII {i j:Int}:geD (.int i) (.int j)=some (.fz (.bl (decide (j≤i)))):=id rfl
theorem x_eqSS {x:Str} {y:Str}:eqD (.str x) (.str y)=some (.fz (.bl (decide (x=y)))):=id rfl
theorem x_neSS {x:Str} {y:Str}:neD (.str x) (.str y)=some (.fz (.bl (!(decide (x=y))))):=id rfl
theorem x_eqII {x:Int} {y:Int}:eqD (.int x) (.int y)=some (.fz (.bl (decide (x=y)))):=id rfl
theorem x_addII {i j:Int}:addD (.int i) (.int j)=some (.fz (.int (i+j))):=id rfl
theorem x_isN2 {e:D}:isNoneD e .non=some (.fz (.bl (isNon e))):=id rfl
theorem x_isn_non:isNon (.non)=true:=id rfl
theorem x_isn_tup {b:List D}:isNon (.tup b)=false:=id rfl
theorem x_lenT {l:List D}:lenD [.tup l]=some (.fz (.int l.length)):=id rfl
theorem x_lenL {l:List D}:lenD [.lst l]=some (.fz (.int l.length)):=id rfl
theorem x_lenC {l:List Int}:lenD [.scr l]=some (.fz (.int (l.map D.int).length)):=id rfl
theorem x_atT {l:List D} {i:Int}:atD (.tup l) (.int i)=(atI l i).map .fz:=id rfl
theorem x_atL {l:List D} {i:Int}:atD (.lst l) (.int i)=(atI l i).map .fz:=id rfl
theorem x_atC {l:List Int} {i:Int}:atD (.scr l) (.int i)=(atI (l.map D.int) i).map .fz:=id rfl
theorem x_max {i j:Int}:maxD [.int i,.int j]=some (.fz (.int (if j>i then j else i))):=id rfl
theorem x_min {i j:Int}:minD [.int i,.int j]=some (.fz (.int (if j<i then j else i))):=id rfl
theorem x_intI {i:Int}:intD [.int i]=some (.fz (.int i)):=id rfl
theorem x_intB {i:Bool}:intD [.bl i]=some (.fz (.int (if i then 1 else 0))):=id rfl
theorem x_toL {l:List D}:tupleOfD [.lst l]=some (.fz (.tup l)):=id rfl
theorem x_ii_non_tuple:isiD [.non,.ty "tuple"]=some (.fz (.bl false)):=by simp only [isiD,isiB,tyD,Option.bind_some,show kitB "NoneType" "tuple"=some false by decide+kernel,Option.map_some]
theorem x_ii_non_int:isiD [.non,.ty "int"]=some (.fz (.bl false)):=by simp only [isiD,isiB,tyD,Option.bind_some,show kitB "NoneType" "int"=some false by decide+kernel,Option.map_some]
theorem x_ii_int_int {b:Int}:isiD [.int b,.ty "int"]=some (.fz (.bl true)):=by simp only [isiD,isiB,tyD,Option.bind_some,show kitB "int" "int"=some true by decide+kernel,Option.map_some]
theorem x_ii_tup_tuple {b:List D}:isiD [.tup b,.ty "tuple"]=some (.fz (.bl true)):=by simp only [isiD,isiB,tyD,Option.bind_some,show kitB "tuple" "tuple"=some true by decide+kernel,Option.map_some]
theorem x_ii_tup_int {b:List D}:isiD [.tup b,.ty "int"]=some (.fz (.bl false)):=by simp only [isiD,isiB,tyD,Option.bind_some,show kitB "tuple" "int"=some false by decide+kernel,Option.map_some]
def kRz (c:Str) (ds:List D) (s:S):Fl:=match ds with
  |[e]=>.exc c e s
  |_=>.bad
def kTry (xs:List (Str×Str)) (hs:List (Str×Option Nat×E)) (call:Call):Fl→Fl
  | .exc c e s=>tryCl xs c e call s hs
  |y=>y
def kTf (c:Str) (e:D) (call:Call) (s:S) (i:Option Nat) (m:E):Option Str→Fl
  |some f=>endSu (cRet m call (suiteS i c f e s))
  |none=>.bad
def kTc (xs:List (Str×Str)) (c:Str) (e:D) (call:Call) (s:S) (i:Option Nat) (m:E) (r:List (Str×Option Nat×E)):Bool→Fl
  |true=>kTf c e call s i m (xs.lookup c)
  |false=>tryCl xs c e call s r
def kEs (o:O) (s:S):Bool→Fl
  |true=>.rt o (offS s)
  |false=>.bad
theorem x_rz {c:Str} {r:As}:cRaise c r call s=(r call s).flow (kRz c):=id rfl
theorem x_rz1 {c:Str} {e:D}:kRz c [e] s= .exc c e s:=id rfl
theorem x_try {xs:List (Str×Str)} {mb:C} {hs:List (Str×Option Nat×E)}:cTry xs mb hs call s=kTry xs hs call (mb call s):=by
  show (match mb call s with| .exc c e s1=>_|y=>y)=_;cases mb call s<;>rfl
theorem x_tryE {xs:List (Str×Str)} {hs:List (Str×Option Nat×E)} {c:Str} {e:D}:kTry xs hs call (.exc c e s)=tryCl xs c e call s hs:=id rfl
theorem x_tc {xs:List (Str×Str)} {c x:Str} {e:D} {i:Option Nat} {m:E} {r:List (Str×Option Nat×E)}:tryCl xs c e call s ((x,i,m)::r)=kTc xs c e call s i m r (decide (c=x)):=by
  show (if c=x then _ else _)=_;by_cases h:c=x
  · rw [if_pos h,decide_eq_true h];show _=kTf _ _ _ _ _ _ (xs.lookup c);cases xs.lookup c<;>rfl
  · rw [if_neg h,decide_eq_false h];rfl
theorem x_tcT {xs:List (Str×Str)} {c:Str} {e:D} {i:Option Nat} {m:E} {r:List (Str×Option Nat×E)}:kTc xs c e call s i m r true=kTf c e call s i m (xs.lookup c):=id rfl
theorem x_tf {c f:Str} {e:D} {i:Option Nat} {m:E}:kTf c e call s i m (some f)=endSu (cRet m call (suiteS i c f e s)):=id rfl
theorem x_su {c f:Str} {e:D} {i:Nat}:suiteS (some i) c f e ⟨σ,h⟩=⟨σ.set i (some (.fz (.xn c f e))),h⟩:=id rfl
theorem x_es {o:O}:endSu (.rt o s)=kEs o s (cleanO o):=by show (if _ then _ else _)=_;cases cleanO o<;>rfl
theorem x_esT {o:O}:kEs o ⟨σ,h⟩ true= .rt o ⟨σ.map (fun _=>none),h⟩:=id rfl
theorem x_coF {e:D}:cleanO (.fz e)=cleanD e:=id rfl
theorem x_cd_str {b:Str}:cleanD (.str b)=true:=by simp only [cleanD]
def kFx (e:D):Bool→Option O
  |true=>some (.fz e)
  |false=>none
def kFi2 (f:Str) (fs:List Str) (l:List D):Option O:=((fs.zip l).lookup f).map .fz
def kFi3 (f:Str) (fs:List Str) (e:D) (l:List D):Bool→Option O
  |true=>some (.fz e)
  |false=>kFi2 f fs l
theorem x_fi2 {f g:Str} {fs:List Str} {e:D} {l:List D}:kFi2 f (g::fs) (e::l)=kFi3 f fs e l (decide (f=g)):=by
  show ((List.zip (g::fs) (e::l)).lookup f).map _=_;by_cases hq:f=g
  · have:(f==g)=true:=by simpa using hq
    simp only [List.zip_cons_cons,List.lookup_cons,this,decide_eq_true hq,kFi3,Option.map_some]
  · have:(f==g)=false:=by simpa using hq
    simp only [List.zip_cons_cons,List.lookup_cons,this,decide_eq_false hq,kFi3,kFi2]
theorem x_fi3 {f:Str} {fs:List Str} {e:D} {l:List D}:kFi3 f fs e l true=some (.fz e):=id rfl
theorem x_fi4 {f:Str} {fs:List Str} {e:D} {l:List D}:kFi3 f fs e l false=kFi2 f fs l:=id rfl
theorem x_fxT {e:D}:kFx e true=some (.fz e):=id rfl
theorem x_fxX {c f g:Str} {e:D}:fldX f (.xn c g e)=kFx e (decide (f=g)):=by
  show (if f=g then _ else _)=_;by_cases h:f=g
  · rw [if_pos h,decide_eq_true h];rfl
  · rw [if_neg h,decide_eq_false h];rfl
theorem x_fi {c f:Str} {fs:List Str} {l:List D}:fldD f (.ins c fs l)=kFi2 f fs l:=id rfl
theorem x_d_xn {c f:Str} {e:D}:deref h (.xn c f e)=some (.xn c f e):=id rfl
theorem x_mXI {i j:Int}:or2 mulD mulT (.int i) (.int j)=mulD (.int i) (.int j):=by
  unfold or2;cases hz:mulD (.int i) (.int j)<;>rfl
theorem x_lX_tup {l:List D}:orN lenD dLen [.tup l]=lenD [.tup l]:=by
  unfold orN;cases hz:lenD [.tup l]<;>rfl
theorem x_lX_lst {l:List D}:orN lenD dLen [.lst l]=lenD [.lst l]:=by
  unfold orN;cases hz:lenD [.lst l]<;>rfl
theorem x_lX_scr {l:List Int}:orN lenD dLen [.scr l]=lenD [.scr l]:=by
  unfold orN;cases hz:lenD [.scr l]<;>rfl
theorem x_lX_str {l:Str}:orN lenD dLen [.str l]=lenD [.str l]:=by
  unfold orN;cases hz:lenD [.str l]<;>rfl
theorem x_aYT {l:List D} {i:Int}:or2 (or2 atD dAt) tAt (.tup l) (.int i)=atD (.tup l) (.int i):=by
  show (match or2 atD dAt (.tup l) (.int i) with|some o=>some o|none=>_)=_;unfold or2;cases hz:atD (.tup l) (.int i)<;>rfl
theorem x_aYL {l:List D} {i:Int}:or2 (or2 atD dAt) tAt (.lst l) (.int i)=atD (.lst l) (.int i):=by
  show (match or2 atD dAt (.lst l) (.int i) with|some o=>some o|none=>_)=_;unfold or2;cases hz:atD (.lst l) (.int i)<;>rfl
theorem x_aYC {l:List Int} {i:Int}:or2 (or2 atD dAt) tAt (.scr l) (.int i)=atD (.scr l) (.int i):=by
  show (match or2 atD dAt (.scr l) (.int i) with|some o=>some o|none=>_)=_;unfold or2;cases hz:atD (.scr l) (.int i)<;>rfl
theorem x_aYD {ks:List Key} {l:List D} {k:Str}:or2 (or2 atD dAt) tAt (.dic ks l) (.str k)=(valD ks l (.inr k)).map .fz:=by
  show (match (valD ks l (.inr k)).map O.fz with|some o=>some o|none=>tAt (.dic ks l) (.str k))=_;cases valD ks l (.inr k) with
  |some o=>rfl
  |none=>cases ks<;>cases l<;>rfl
theorem x_nYD {ks:List Key} {l:List D} {k:Str}:or2 (or2 notInD dNotIn) tNotIn (.str k) (.dic ks l)=some (.fz (.bl (!(valD ks l (.inr k)).isSome))):=id rfl
theorem x_eX_str {x:Str} {e:D}:or2 eqD dEq (.str x) e=eqD (.str x) e:=by
  unfold or2;cases hz:eqD (.str x) e<;>rfl
theorem x_eX_int {x:Int} {e:D}:or2 eqD dEq (.int x) e=eqD (.int x) e:=by
  unfold or2;cases hz:eqD (.int x) e<;>rfl
theorem x_eX_lst {x:List D} {e:D}:or2 eqD dEq (.lst x) e=eqD (.lst x) e:=by
  unfold or2;cases hz:eqD (.lst x) e<;>rfl
theorem x_neX_str {x:Str} {e:D}:or2 neD dNe (.str x) e=neD (.str x) e:=by
  unfold or2;cases hz:neD (.str x) e<;>rfl
def kAy3 (e:D) (s:S):Out (List D):=match e with
  | .dic ks xs=>if ks.length=xs.length then .ok (ks.map kD) s else .bad
  |e=>lift s (iterD e)
def kAy2:Option (D×S)→Out (List D)
  |some (e,s)=>kAy3 e s
  |none=>.bad
def kAy (x:R) (s:S):Out (List D):=kAy2 (take s x)
theorem x_ay {m:E}:iAny m call s=(m call s).bind kAy:=by
  unfold iAny iVal iKeys_
  cases m call s with
  |exc c e s1=>rfl
  |bad=>rfl
  | ok x s1=>
    simp only [Out.bind_ok]
    show _=kAy2 (take s1 x)
    cases take s1 x with
    |none=>rfl
    | some p=>
      obtain ⟨e,s2⟩:=p
      cases e<;>rfl
theorem x_ay1 {x:R}:kAy x s=kAy2 (take s x):=id rfl
theorem x_ay2 {e:D}:kAy2 (some (e,s))=kAy3 e s:=id rfl
theorem x_ayT {l:List D}:kAy3 (.tup l) s= .ok l s:=id rfl
theorem x_ayL {l:List D}:kAy3 (.lst l) s= .ok l s:=id rfl
def kSx5 (e:D) (x:R) (s:S) (k:Key):Option S→Fl
  |some s2=>.nx s2
  |none=>kAsg2 (mutK s k e x)
def kSx4 (e:D) (x:R) (s:S):Option D→Fl
  |some (.int i)=>kSx5 e x s (.inl i) (mutL s (stL i e) x)
  |some (.str k)=>kAsg2 (mutK s (.inr k) e x)
  |_=>.bad
def kSx3 (e:D) (x i:R) (s:S):Fl:=kSx4 e x s (peek s i)
def kSx2 (mi:E) (call:Call) (e:D) (x:R) (s:S):Fl:=(mi call s).flow (kSx3 e x)
def kSx1 (mx mi:E) (call:Call):Option (D×S)→Fl
  |some (e,s2)=>(mx call s2).flow (kSx2 mi call e)
  |none=>.bad
def kSx (mx mi:E) (call:Call) (y:R) (s:S):Fl:=kSx1 mx mi call (take s y)
theorem x_sx0 {me mx mi:E}:cSetX0 me mx mi call s=(me call s).flow (kSx mx mi call):=by
  unfold cSetX0 cSetL cSetK
  cases me call s with
  |exc c e s1=>rfl
  |bad=>rfl
  | ok y s1 =>
    simp only [Out.flow_ok]
    show _=kSx1 mx mi call (take s1 y)
    cases take s1 y with
    |none=>rfl
    | some p=>
      obtain ⟨e,s2⟩:=p
      show _=(mx call s2).flow (kSx2 mi call e)
      simp only []
      cases mx call s2 with
      |exc c e s1=>rfl
      |bad=>rfl
      | ok x s3=>
        simp only [Out.flow_ok]
        show _=(mi call s3).flow (kSx3 e x)
        cases mi call s3 with
        |exc c e s1=>rfl
        |bad=>rfl
        | ok i s4=>
          simp only [Out.flow_ok]
          show _=kSx4 e x s4 (peek s4 i)
          cases peek s4 i with
          |none=>rfl
          | some ei=>cases ei with
            | int j=>
              show _=kSx5 e x s4 (.inl j) (mutL s4 (stL j e) x)
              simp only [Option.bind_some,keyD,show (fun ds:List D=>(ixN ds.length j).map fun j'=>ds.set j' e)=stL j e from rfl]
              cases mutL s4 (stL j e) x with
              |none=>simp only [kSx5];cases mutK s4 (.inl j) e x<;>rfl
              |some s5=>rfl
            | str k=>
              show _=kAsg2 (mutK s4 (.inr k) e x)
              simp only [Option.bind_some,keyD]
              cases mutK s4 (.inr k) e x<;>rfl
            |_=>all_goals rfl
def kSyT (e:D) (x:R):Option (D×S)→Fl
  | some (kd,s5)=>(match tkD kd with
    |true=>kAsg2 (mutT s5 kd e x)
    |false=>.bad)
  |none=>.bad
def kSy4 (e:D) (x i:R) (s:S):Option D→Fl
  |some (.int j)=>kSx5 e x s (.inl j) (mutL s (stL j e) x)
  |some (.str k)=>kAsg2 (mutK s (.inr k) e x)
  |_=>kSyT e x (take s i)
def kSy3 (e:D) (x i:R) (s:S):Fl:=kSy4 e x i s (peek s i)
def kSy2 (mi:E) (call:Call) (e:D) (x:R) (s:S):Fl:=(mi call s).flow (kSy3 e x)
def kSy1 (mx mi:E) (call:Call):Option (D×S)→Fl
  |some (e,s2)=>(mx call s2).flow (kSy2 mi call e)
  |none=>.bad
def kSy (mx mi:E) (call:Call) (y:R) (s:S):Fl:=kSy1 mx mi call (take s y)
theorem peek_take {s s':S} {r:R} {e:D} (h:take s r=some (e,s')):peek s r=deref s.h e:=by
  cases r with
  |own o=>cases h;rfl
  | bor i=>
    simp only [take] at h
    simp only [peek]
    cases eo:s.σ[i]? with
    |none=>rw [eo] at h;cases h
    | some z=>cases z with
      |none=>rw [eo] at h;cases h
      |some o=>rw [eo] at h;cases h;rfl
theorem sy_no {e:D} {x i:R} (hp: ∀ ds,peek s i≠some (.tup ds)):kSyT e x (take s i)= .bad:=by
  cases et:take s i with
  |none=>rfl
  | some p=>
    obtain ⟨kd,s5⟩:=p
    have:=peek_take et
    cases kd with
    |tup ds=>exact absurd this (hp ds)
    |_=>all_goals rfl
theorem x_sx {me mx mi:E}:cSetX me mx mi call s=(me call s).flow (kSy mx mi call):=by
  unfold cSetX
  rw [x_sx0]
  unfold cSetT
  cases me call s with
  |exc c e s1=>rfl
  |bad=>rfl
  | ok y s1 =>
    simp only [Out.flow_ok]
    show (match kSx1 mx mi call (take s1 y) with| .bad=>_|y=>y)=kSy1 mx mi call (take s1 y)
    cases take s1 y with
    |none=>rfl
    | some p=>
      obtain ⟨e,s2⟩:=p
      show (match (mx call s2).flow (kSx2 mi call e) with| .bad=>_|y=>y)=(mx call s2).flow (kSy2 mi call e)
      simp only []
      cases mx call s2 with
      |exc c e s1=>rfl
      |bad=>rfl
      | ok x s3 =>
        simp only [Out.flow_ok]
        show (match (mi call s3).flow (kSx3 e x) with| .bad=>_|y=>y)=(mi call s3).flow (kSy3 e x)
        cases mi call s3 with
        |exc c e s1=>rfl
        |bad=>rfl
        | ok i s4=>
          simp only [Out.flow_ok]
          have eT:(match take s4 i with
            | some (kd,s5)=>(match tkD kd with
              | true=>(match mutT s5 kd e x with
                |some s6=>Fl.nx s6
                |none=>.bad)
              |false=>.bad)
            |none=>.bad)=kSyT e x (take s4 i):=by
            cases take s4 i with
            |none=>rfl
            | some p=>
              obtain ⟨kd,s5⟩:=p
              simp only [kSyT]
              cases tkD kd with
              |false=>rfl
              |true=>cases mutT s5 kd e x<;>rfl
          refine (congrArg (fun q=>match kSx3 e x i s4 with| .bad=>q|y=>y) eT).trans ?_
          show (match kSx4 e x s4 (peek s4 i) with| .bad=>kSyT e x (take s4 i)|y=>y)=kSy4 e x i s4 (peek s4 i)
          cases hp:peek s4 i with
          |none=>rfl
          | some ei=>cases ei with
            | int j=>
              have:=sy_no (e:=e) (x:=x) (s:=s4) (i:=i) (fun ds z=>by rw [hp] at z;cases z)
              show (match kSx5 e x s4 (.inl j) (mutL s4 (stL j e) x) with| .bad=>kSyT e x (take s4 i)|y=>y)=kSx5 e x s4 (.inl j) (mutL s4 (stL j e) x)
              rw [this]
              cases kSx5 e x s4 (.inl j) (mutL s4 (stL j e) x)<;>rfl
            | str k=>
              have:=sy_no (e:=e) (x:=x) (s:=s4) (i:=i) (fun ds z=>by rw [hp] at z;cases z)
              show (match kAsg2 (mutK s4 (.inr k) e x) with| .bad=>kSyT e x (take s4 i)|y=>y)=kAsg2 (mutK s4 (.inr k) e x)
              rw [this]
              cases kAsg2 (mutK s4 (.inr k) e x)<;>rfl
            |_=>all_goals rfl
theorem x_sx1 {mx mi:E} {y:R}:kSy mx mi call y s=kSy1 mx mi call (take s y):=id rfl
theorem x_sx2 {mx mi:E} {e:D}:kSy1 mx mi call (some (e,s))=(mx call s).flow (kSy2 mi call e):=id rfl
theorem x_sx3 {mi:E} {e:D} {x:R}:kSy2 mi call e x s=(mi call s).flow (kSy3 e x):=id rfl
theorem x_sx4 {e:D} {x i:R}:kSy3 e x i s=kSy4 e x i s (peek s i):=id rfl
theorem x_sxI {e:D} {x r:R} {i:Int}:kSy4 e x r s (some (.int i))=kSx5 e x s (.inl i) (mutL s (stL i e) x):=id rfl
theorem x_sx5 {e:D} {x:R} {k:Key} {s2:S}:kSx5 e x s k (some s2)= .nx s2:=id rfl
def kPr5 (kk:Key) (e:D) (kds:List (Key×D)) (s:S):Out (List (Key×D)):=.ok ((kk,e)::kds) s
def kPr4 (r:List (E×E)) (call:Call) (kk:Key):Option (D×S)→Out (List (Key×D))
  |some (e,s)=>(mPairs r call s).bind (kPr5 kk e)
  |none=>.bad
def kPr3 (r:List (E×E)) (call:Call) (kk:Key) (y:R) (s:S):Out (List (Key×D)):=kPr4 r call kk (take s y)
def kPr2 (mv:E) (r:List (E×E)) (call:Call) (s:S):Option Key→Out (List (Key×D))
  |some kk=>(mv call s).bind (kPr3 r call kk)
  |none=>.bad
def kPr (mv:E) (r:List (E×E)) (call:Call) (x:R) (s:S):Out (List (Key×D)):=kPr2 mv r call s ((peek s x).bind keyD)
def kDisp (kds:List (Key×D)) (s:S):Out R:=if kds.length≤15 then .ok (.own (.dic (mergeD kds ([],[])).1 (mergeD kds ([],[])).2)) s else .bad
theorem x_disp {ps:List (E×E)}:mDisp ps call s=(mPairs ps call s).bind kDisp:=id rfl
theorem x_pr0:mPairs [] call s= .ok [] s:=id rfl
theorem x_pr {a b:E} {r:List (E×E)}:mPairs ((a,b)::r) call s=(a call s).bind (kPr b r call):=by
  show Out.bind _ _=Out.bind _ _;congr 1;funext x s1;show _=kPr2 b r call s1 ((peek s1 x).bind keyD)
  cases (peek s1 x).bind keyD with
  |none=>rfl
  | some kk=>
    show Out.bind _ _=Out.bind _ _;congr 1;funext y s2;show _=kPr4 r call kk (take s2 y)
    cases take s2 y with
    |none=>rfl
    |some p=>rfl
theorem x_pr1 {b:E} {r:List (E×E)} {x:R}:kPr b r call x s=kPr2 b r call s ((peek s x).bind keyD):=id rfl
theorem x_pr2 {b:E} {r:List (E×E)} {kk:Key}:kPr2 b r call s (some kk)=(b call s).bind (kPr3 r call kk):=id rfl
theorem x_pr3 {r:List (E×E)} {kk:Key} {y:R}:kPr3 r call kk y s=kPr4 r call kk (take s y):=id rfl
theorem x_pr4 {r:List (E×E)} {kk:Key} {e:D}:kPr4 r call kk (some (e,s))=(mPairs r call s).bind (kPr5 kk e):=id rfl
theorem x_pr5 {kk:Key} {e:D} {kds:List (Key×D)}:kPr5 kk e kds s= .ok ((kk,e)::kds) s:=id rfl
theorem x_keyS {x:Str}:keyD (.str x)=some (.inr x):=id rfl
theorem x_dispK2 {k0 k1:Key} {a b:D}:kDisp [(k0,a),(k1,b)] s= .ok (.own (.dic (mergeD [(k0,a),(k1,b)] ([],[])).1 (mergeD [(k0,a),(k1,b)] ([],[])).2)) s:=id rfl
theorem x_finR {o:O}:fin (.rt o ⟨σ,h⟩)= .ok o h:=id rfl
theorem x_finE {c:Str} {e:D}:fin (.exc c e ⟨σ,h⟩)= .exc c e h:=id rfl
theorem ofS_inj {a b:String}:(Str.ofString a=Str.ofString b)=(a=b):=by
  apply propext
  constructor
  · intro e
    rw [Str.ofString_eq_toList,Str.ofString_eq_toList] at e
    have e1:=congrArg (fun x:Str=>x.cps.toList) e
    simp only at e1
    have e2:=List.map_inj_right (f:=Char.toNat) (fun x y hxy=>Char.toNat_inj.mp hxy) |>.mp e1
    exact String.toList_inj.mp e2
  · intro e;rw [e]
def kMt4 (c m:Str) (d:D) (call:Call) (ds:List D) (s:S):Out R:=resOut s.σ (call (mkey c m) (d::ds) s.h)
def kMt3 (m:Str) (r:As) (call:Call) (d:D) (s:S) (c:Str):Bool→Out R
  |true=>(r call s).bind (kMt4 c m d call)
  |false=>.bad
def kMt2 (ml:List (Str×Str)) (m:Str) (r:As) (call:Call) (d:D) (s:S):Option D→Out R
  |some (.ins c fs _)=>kMt3 m r call d s c (decide ((c,m)∈ml)&&(fs.all fun g=>!decide (g=m)))
  |_=>.bad
def kMt1 (ml:List (Str×Str)) (m:Str) (r:As) (call:Call):Option (D×S)→Out R
  |some (d,s)=>kMt2 ml m r call d s (deref s.h d)
  |none=>.bad
def kMt (ml:List (Str×Str)) (m:Str) (r:As) (call:Call) (x:R) (s:S):Out R:=kMt1 ml m r call (take s x)
theorem x_mt {ml:List (Str×Str)} {m:Str} {mx:E} {r:As}:mMeth ml m mx r call s=(mx call s).bind (kMt ml m r call):=by
  show Out.bind _ _=Out.bind _ _;congr 1;funext x s1;show _=kMt1 ml m r call (take s1 x)
  cases take s1 x with
  |none=>rfl
  | some p=>
    obtain ⟨e,s2⟩:=p
    show (match deref s2.h e with|some (.ins c fs _)=>_|_=>_)=kMt2 ml m r call e s2 (deref s2.h e)
    cases deref s2.h e with
    |none=>rfl
    | some z=>cases z with
      | ins c fs xs=>
        show (if _ then _ else _)=kMt3 m r call e s2 c _
        by_cases hh:(c,m)∈ml∧(fs.all fun g=>!decide (g=m))=true
        · rw [if_pos hh,decide_eq_true hh.1,hh.2];rfl
        · rw [if_neg hh]
          have:(decide ((c,m)∈ml)&&(fs.all fun g=>!decide (g=m)))=false:=by
            rw [Bool.eq_false_iff];intro z;rw [Bool.and_eq_true] at z;exact hh ⟨of_decide_eq_true z.1,z.2⟩
          rw [this];rfl
      |_=>all_goals rfl
theorem x_mt0 {ml:List (Str×Str)} {m:Str} {r:As} {x:R}:kMt ml m r call x s=kMt1 ml m r call (take s x):=id rfl
theorem x_mt1 {ml:List (Str×Str)} {m:Str} {r:As} {e:D}:kMt1 ml m r call (some (e,⟨σ,h⟩))=kMt2 ml m r call e ⟨σ,h⟩ (deref h e):=id rfl
theorem x_mt2 {ml:List (Str×Str)} {m c:Str} {r:As} {e:D} {fs:List Str} {xs:List D}:kMt2 ml m r call e s (some (.ins c fs xs))=kMt3 m r call e s c (decide ((c,m)∈ml)&&(fs.all fun g=>!decide (g=m))):=id rfl
theorem x_mt3 {m c:Str} {r:As} {e:D}:kMt3 m r call e s c true=(r call s).bind (kMt4 c m e call):=id rfl
theorem x_mt4 {m c:Str} {e:D} {ds:List D}:kMt4 c m e call ds ⟨σ,h⟩=resOut σ (call (mkey c m) (e::ds) h):=id rfl
theorem x_ro1 {o:O}:resOut σ (.ok o h)= .ok (.own o) ⟨σ,h⟩:=id rfl
def kTcc2 (σ:List (Option O)) (h:List O) (n:Nat):Option O→Option (D×S)
  |some o=>some (frz o,⟨σ,h.set n (.fz (frz o))⟩)
  |none=>none
def kTcc:Option (D×S)→Option (D×S)
  |some (.loc n,s2)=>kTcc2 s2.σ s2.h n (s2.h[n]?)
  |r=>r
def kFzm2:Option (D×S)→Out R
  |some (e,s)=>.ok (.own (.fz e)) s
  |none=>.bad
def kFzm (x:R) (s:S):Out R:=kFzm2 (takeC s x)
theorem x_tC {x:R}:takeC s x=kTcc (take s x):=by
  unfold takeC
  cases take s x with
  |none=>rfl
  | some p=>
    obtain ⟨e,s2⟩:=p
    cases e with
    |loc n=>dsimp only [kTcc];cases s2.h[n]?<;>rfl
    |_=>all_goals rfl
theorem x_tC_tup {l:List D}:kTcc (some (.tup l,s))=some (.tup l,s):=id rfl
theorem x_fzm {m:E}:mFrz m call s=(m call s).bind kFzm:=by
  unfold mFrz
  cases m call s with
  |exc c e s1=>rfl
  |bad=>rfl
  |ok x s1=>simp only [Out.bind_ok,kFzm];cases takeC s1 x<;>rfl
theorem x_fzm1 {x:R}:kFzm x s=kFzm2 (takeC s x):=id rfl
theorem x_fzm2 {e:D}:kFzm2 (some (e,s))= .ok (.own (.fz e)) s:=id rfl
end Mi
namespace Mi
open PySem PySem.Spec PyProof.Rows L2
theorem fits_of {n:Nat} (h:n≤100000):fitsB n=true:=by simp only [fitsB,decide_eq_true_eq];exact h
theorem forL_ix {call:Call} {g:Tg} {body:C} (I:Nat→S→Prop): ∀ (ds:List D) (n:Nat) (s:S),I n s→
    (∀ i d,ds[i]?=some d→∀ s,I (n+i) s→∃ s1,g (.fz d) s=some s1∧∃ s2,(body call s1= .nx s2∨body call s1= .ct s2)∧I (n+i+1) s2)→∃ s',forL call g body ds s= .nx s'∧I (n+ds.length) s'
  |[],n,s,hi,_=>⟨s,rfl,hi⟩
  | d ::ds,n,s,hi,h=>by
    obtain ⟨s1,e1,s2,e2,i2⟩:=h 0 d rfl s hi
    obtain ⟨s',e,i'⟩:=forL_ix I ds (n+1) s2 i2 fun i x hx s hs=>by
      have:=h (i+1) x (by simpa using hx) s (by rw [show n+(i+1)=n+1+i by omega];exact hs)
      rw [show n+(i+1)+1=n+1+i+1 by omega] at this
      exact this
    refine ⟨s', ?_,by rw [List.length_cons,show n+(ds.length+1)=n+1+ds.length by omega];exact i'⟩
    rcases e2 with e2|e2<;>simp only [forL,e1,e2,e]
theorem rangeD_at (n a i:Nat) (d:D) (h:(rangeD (a:Int) n)[i]?=some d):d= .int ((a+i:Nat):Int)∧i<n:=by
  simp only [rangeD,List.getElem?_map,Option.map_eq_some_iff] at h
  obtain ⟨j,hj,e⟩:=h
  obtain ⟨hl,e2⟩:=List.getElem?_eq_some_iff.mp hj
  rw [List.length_range] at hl
  rw [List.getElem_range] at e2
  subst e2
  exact ⟨by rw [←e];simp,hl⟩
theorem rangeD_len (n:Nat) (a:Int):(rangeD a n).length=n:=by simp [rangeD]
theorem forL_range {call:Call} {g:Tg} {body:C} (n:Nat) (I:Nat→S→Prop) (s:S) (h0:I 0 s)
    (h: ∀ i,i<n→∀ s,I i s→∃ s1,g (.fz (.int (i:Nat))) s=some s1∧∃ s2,(body call s1= .nx s2∨body call s1= .ct s2)∧I (i+1) s2): ∃ s',forL call g body (rangeD 0 n) s= .nx s'∧I n s':=by
  obtain ⟨s',e,i'⟩:=forL_ix (call:=call) (g:=g) (body:=body) I (rangeD 0 n) 0 s h0 fun i d hd s hs=>by
    obtain ⟨e,hl⟩:=rangeD_at n 0 i d hd
    rw [Nat.zero_add] at hs ⊢
    rw [e,Nat.zero_add]
    exact h i hl s hs
  rw [rangeD_len,Nat.zero_add] at i'
  exact ⟨s',e,i'⟩
def okC (c:Option (Nat×List D)) (h:List O):Prop:= ∀ n all,c=some (n,all)→h[n]?=some (.lst all)
theorem okC_none {h:List O}:okC none h:=fun _ _ e=>by cases e
inductive ArgL (h:List O):D→List D→Option (Nat×List D)→Prop
  |tup {ds:List D}:ArgL h (.tup ds) ds none
  |lst {ds:List D}:ArgL h (.lst ds) ds none
  |loc {n:Nat} {ds:List D} (e:h[n]?=some (.lst ds)):ArgL h (.loc n) ds (some (n,ds))
theorem ArgL.ok {h:List O} {d:D} {ds:List D} {c:Option (Nat×List D)} (a:ArgL h d ds c):okC c h:=by
  cases a with
  |tup=>exact okC_none
  |lst=>exact okC_none
  |loc e=>intro n all z;cases z;exact e
end Mi
local macro_rules
  | `(tactic|simp_arith [$xs,*])=> `(tactic|simp only [$xs,*,Mi.y_bo,List.getElem?_cons_zero,Mi.x_frz1,Mi.x_var,Mi.x_var1,Mi.y_ob,Option.map_some,Mi.lift_some,Mi.x_pkO,Mi.x_pkB,Mi.x_pk,Mi.x_seq,Mi.y_fo,List.getElem?_cons_succ,Mi.x_con,Mi.x_t2,Mi.x_t3,Mi.x_ta,Mi.x_tb,Mi.x_two,List.set_cons_zero,Mi.x_aNil,Mi.x_d_bl,Mi.x_d_int,Mi.x_a1,Mi.x_a2,List.set_cons_succ,Mi.x_aCons,Mi.x_a3,Mi.xT_nx,Mi.x_tkB,Mi.x_tk,Mi.x_tkO,Mi.x_bcmp,Mi.x_cmp,Mi.x_isbl,Mi.x_nil,Mi.x_if,Mi.x_ret,Mi.x_d_tup,Mi.x_ret1,Mi.x_ret2,Mi.xT_rt,Mi.x_finR,Mi.x_r1,Mi.x_rNil,Mi.x_r2,Mi.x_rCons,Mi.x_ps1,Mi.x_d_str,Mi.x_ps,Mi.x_ps0,Mi.x_kblt2,Mi.x_frz2,Mi.x_kblt,Mi.x_blt,Mi.x_d_lst,Mi.x_gvO,Mi.x_call,Mi.x_kcall,Mi.x_res1,decide_false,Mi.x_aYT,Mi.x_atT,Mi.x_asg3,Mi.x_ifF,Mi.ofS_inj,String.reduceEq,Bool.not_false,Mi.x_tr_b,decide_true,Mi.x_ifT,Mi.x_kpO,Mi.x_gS,Mi.x_g0,Mi.x_gU,Mi.x_asg,Mi.x_asg1,Mi.x_asg2,Mi.x_one,Mi.x_o,Mi.x_o2,Mi.x_val,Mi.x_bval,Mi.x_ay,Mi.x_ay1,Mi.x_ay2,Bool.not_true,Mi.x_dl,Mi.x_d_dic,Mi.x_notB,Mi.x_bnot,Mi.x_bor,Bool.and_true,Mi.x_mt,Mi.x_mt0,Mi.x_mt1,List.all_cons,List.all_nil,Mi.x_mt3,Mi.x_mt4,Mi.x_ro1,Mi.x_eX_str,Mi.x_eqSS,Mi.x_fi2,Mi.x_fi3,Mi.x_mt2,Mi.x_fi,Mi.x_lst,Mi.x_frz4])
namespace Mi
open PySem PySem.Spec PyProof.Rows L2
def m_pool (add:D→D→Option O):C:=(cSeq (cAsg (mIf (bCmp (mTwo ltD (mVar 1) (mBlt lenX (rCons (mVar 0) rNil)))) (mTwo atX (mVar 0) (mVar 1)) (mTwo add (mTwo mulX (mCon (.int 7)) (mBlt sumD (rCons (mSl (mVar 0) pNone (pSome (mCon (.int 63)))) rNil))) (mVar 1))) (gN 2)) (cSeq (cAsg (mBlt absD (rCons (mVar 2) rNil)) (gN 3)) (cSeq (cAsg (mTwo add (mTwo add (mTwo add (mTwo modD (mBlt intD (rCons (mVar 3) rNil)) (mCon (.int 2147483629))) (mTwo mulX (mTwo mulX (mCon (.int 7919)) (mVar 1)) (mVar 1))) (mTwo mulX (mCon (.int 31)) (mVar 1))) (mCon (.int 17))) (gN 4)) (cSeq (cAsg (mTwo modD (mBlt intD (rCons (mTwo mulX (mVar 4) (mCon (.int 48271))) rNil)) (mCon (.int 2147483647))) (gN 4)) (cSeq (cRet (mLst (aCons (mTwo mulX (mVar 3) (mBlt intD (rCons (mTwo geD (mVar 3) (mTwo powD (mCon (.int 10)) (mCon (.int 18)))) rNil))) (aCons (mTwo modD (mBlt intD (rCons (mTwo mulX (mVar 4) (mVar 4)) rNil)) (mCon (.int 2147483629))) aNil)))) cNil)))))
def m_draw (add:D→D→Option O):C:=(cSeq (cIf (bCmp (mTwo gtD (mTwo atX (mVar 0) (mCon (.int 0))) (mCon (.int 0)))) (cSeq (cAsg (mTwo modD (mBlt intD (rCons (mTwo atX (mVar 0) (mCon (.int 0))) rNil)) (mVar 1)) (gN 2)) (cSeq (cSetX (mTwo fdivD (mTwo atX (mVar 0) (mCon (.int 0))) (mVar 1)) (mVar 0) (mCon (.int 0))) (cSeq (cRet (mVar 2)) cNil))) cNil) (cSeq (cSetX (mTwo modD (mBlt intD (rCons (mTwo add (mTwo mulX (mTwo atX (mVar 0) (mCon (.int 1))) (mCon (.int 48271))) (mCon (.int 11))) rNil)) (mCon (.int 2147483647))) (mVar 0) (mCon (.int 1))) (cSeq (cRet (mTwo modD (mBlt intD (rCons (mTwo fdivD (mTwo modD (mBlt intD (rCons (mTwo mulX (mTwo atX (mVar 0) (mCon (.int 1))) (mTwo atX (mVar 0) (mCon (.int 1)))) rNil)) (mCon (.int 2147483629))) (mCon (.int 16))) rNil)) (mVar 1))) cNil)))
def m_pick:C:=(cSeq (cRet (mTwo atX (mVar 1) (mCall "_law_draw" (aCons (mVar 0) (aCons (mBlt lenX (rCons (mVar 1) rNil)) aNil))))) cNil)
def PoolAt (h:List O) (n:Nat):Prop:= ∃ a b:Int,h[n]?=some (.lst [.int a,.int b])∧0≤a∧0≤b∧b<2147483647
def AddI (add:D→D→Option O):Prop:= ∀ i j:Int,add (.int i) (.int j)=fI (i+j)
theorem addI_D:AddI addD:=fun _ _=>rfl
theorem smallI_of {i:Int} (h1:0≤i) (h2:i<2147483648):smallI i=true:=by
  simp only [smallI,Bool.and_eq_true,decide_eq_true_eq]
  exact ⟨by omega,by omega⟩
structure Draws (tab:Str→Option MFn) (add:D→D→Option O):Prop where
  addI:AddI add
  pool: ∃ N,N.length=5∧tab "_law_pool"=some ⟨N,2,m_pool add,[]⟩
  draw: ∃ N,N.length=3∧tab "_law_draw"=some ⟨N,2,m_draw add,[]⟩
  pick: ∃ N,N.length=2∧tab "_law_pick"=some ⟨N,2,m_pick,[]⟩
def PoolTo (n:Nat) (h h':List O):Prop:=h'.length=h.length∧(∀ i,i≠n→h'[i]?=h[i]?)∧PoolAt h' n
theorem PoolTo.refl {n:Nat} {h:List O} (p:PoolAt h n):PoolTo n h h:=⟨rfl,fun _ _=>rfl,p⟩
theorem PoolTo.trans {n:Nat} {h h' h'':List O} (a:PoolTo n h h') (b:PoolTo n h' h''):PoolTo n h h'':=⟨b.1.trans a.1,fun i hi=>(b.2.1 i hi).trans (a.2.1 i hi),b.2.2⟩
theorem PoolTo.at {n:Nat} {h h':List O} (a:PoolTo n h h'):PoolAt h' n:=a.2.2
theorem PoolTo.set {n:Nat} {h:List O} {a b:Int} (p:PoolAt h n) (h1:0≤a) (h2:0≤b) (h3:b<2147483647):PoolTo n h (h.set n (.lst [.int a,.int b])):=by
  obtain ⟨x,y,e,_⟩:=p
  have hl:n<h.length:=by
    rcases Nat.lt_or_ge n h.length with z|z
    · exact z
    · rw [List.getElem?_eq_none z] at e;cases e
  refine ⟨by simp,fun i hi=>by rw [List.getElem?_set_ne (fun z=>hi z.symm)],a,b, ?_,h1,h2,h3⟩
  rw [List.getElem?_set_self hl]
theorem st0_2 {N:List Str} {a b:D} {m:Nat} (h:N.length=m+2):start0 N [a,b]=some (.fz a)::some (.fz b)::List.replicate m none:=by
  simp only [start0,h,List.length_cons,List.length_nil,List.map_cons,List.map_nil]
  rfl
variable {tab:Str→Option MFn} {add:D→D→Option O}
theorem ix0:ixN 2 0=some 0:=rfl
theorem ix1:ixN 2 1=some 1:=rfl
theorem draw_ok (T:Draws tab add) (k:Nat) {h:List O} {n:Nat} (hp:PoolAt h n) {m:Int} (h1:0<m) (h2:m<1073741824):
    ∃ r h',callN tab (k+1) "_law_draw" [.loc n,.int m] h= .ok (.fz (.int r)) h'∧0≤r∧r<m∧PoolTo n h h':=by
  obtain ⟨N,hN,e⟩:=T.draw
  have hadd:=T.addI
  rw [call_at e _ rfl (st0_2 hN)]
  have hp0:=hp
  obtain ⟨a,b,eh,ha,hb,hb2⟩:=hp
  have hsm:smallI b=true:=smallI_of hb (by omega)
  simp_arith [m_draw,eh,List.replicate,x_aYL,x_atL,at0,x_gtII]
  by_cases hz:0<a
  · have e0:decide (0<a)=true:=decide_eq_true hz
    simp_arith [e0,modD,fdivD,h1,h2,if_true,and_self,eh,ix0,stL,fI,x_aYL,x_atL,at0,x_intI,x_sx,x_sx1,x_sx2,x_sx3,x_sx4,x_sxI,x_mutB,x_mutF,x_mc,x_mc1,List.length_cons,List.length_nil,Nat.reduceAdd,x_mc2,x_muC,x_sx5,x_gvB,x_gv]
    exact ⟨_,_,rfl,Int.emod_nonneg _ (by omega),Int.emod_lt_of_pos _ h1,PoolTo.set hp0 (Int.ediv_nonneg ha (by omega)) hb hb2⟩
  · have e0:decide (0<a)=false:=decide_eq_false hz
    have hsm2:smallI 48271=true:=rfl
    have hq:(0:Int)<2147483647:=by decide
    have hq2:(0:Int)<2147483629:=by decide
    have hq3:(0:Int)<16∧(16:Int)<1073741824:=by decide
    have l1:0≤(b*48271+11)%2147483647:=Int.emod_nonneg _ (by omega)
    have l2:(b*48271+11)%2147483647<2147483647:=Int.emod_lt_of_pos _ (by omega)
    have hsm3:smallI ((b*48271+11)%2147483647)=true:=smallI_of l1 (by omega)
    have hl:n<h.length:=by
      rcases Nat.lt_or_ge n h.length with z|z
      · exact z
      · rw [List.getElem?_eq_none z] at eh;cases eh
    have es: ∀ o:O,(h.set n o)[n]?=some o:=fun o=>List.getElem?_set_self hl
    simp_arith [e0,modD,fdivD,mulD,hadd _ _,h1,h2,if_true,and_self,eh,ix1,hsm,hsm2,Bool.or_true,hq,es,hsm3,hq2,hq3,stL,fI,x_sx,x_aYL,x_atL,at1,x_mXI,x_intI,x_sx1,x_sx2,x_sx3,x_sx4,x_sxI,x_mutB,x_mutF,x_mc,x_mc1,List.length_cons,List.length_nil,Nat.reduceAdd,x_mc2,x_muC,x_sx5]
    exact ⟨_,_,rfl,Int.emod_nonneg _ (by omega),Int.emod_lt_of_pos _ h1,PoolTo.set hp0 ha l1 l2⟩
theorem atI_lt {l:List D} {r:Int} (h1:0≤r) (h2:r<l.length): ∃ d,d∈l∧atI l r=some d∧l[r.toNat]?=some d:=by
  have hl:r.toNat<l.length:=by omega
  refine ⟨l[r.toNat],List.getElem_mem hl, ?_,by simp [hl]⟩
  have:=atI_nat (xs:=l) (j:=r.toNat) (v:=l[r.toNat]) (by simp [hl])
  rwa [Int.toNat_of_nonneg h1] at this
theorem pick_ok (T:Draws tab add) (k:Nat) {h:List O} {n:Nat} (hp:PoolAt h n) (d0:D) (l:List D) (hl:itemsD d0=some l) (h0:0<l.length) (h1:l.length<1073741824):
    ∃ d h',callN tab (k+2) "_law_pick" [.loc n,d0] h= .ok (.fz d) h'∧d∈l∧PoolTo n h h':=by
  obtain ⟨N,hN,e⟩:=T.pick
  rw [call_at e _ rfl (st0_2 hN)]
  obtain ⟨r,h',ec,r0,r1,pt⟩:=draw_ok T k hp (m:=l.length) (by omega) (by omega)
  obtain ⟨d,hd,ea,_⟩:=atI_lt (l:=l) r0 r1
  refine ⟨d,h', ?_,hd,pt⟩
  cases d0 with
  |lst ds=>cases hl;simp_arith [m_pick,List.replicate,ec,ea,x_lX_lst,x_lenL,x_aYL,x_atL]
  |tup ds=>cases hl;simp_arith [m_pick,List.replicate,ec,ea,x_lX_tup,x_lenT]
  |scr ds=>cases hl;simp only [List.length_map] at ec;simp_arith [m_pick,List.replicate,List.length_map,ec,ea,x_d_scr,x_lX_scr,x_lenC,x_aYC,x_atC]
  |_=>all_goals cases hl
theorem ints_map (ns:List Int):intsD (ns.map .int)=some ns:=by
  induction ns with
  |nil=>rfl
  |cons a l ih=>simp only [List.map_cons,intsD,ih,Option.map_some]
def m_pool0 (add:D→D→Option O):E:=(mIf (bCmp (mTwo ltD (mVar 1) (mBlt lenX (rCons (mVar 0) rNil)))) (mTwo atX (mVar 0) (mVar 1)) (mTwo add (mTwo mulX (mCon (.int 7)) (mBlt sumD (rCons (mSl (mVar 0) pNone (pSome (mCon (.int 63)))) rNil))) (mVar 1)))
theorem pool0_ok {call:Call} (hadd:AddI add) (ns:List Int) {i:Int} (h1:0≤i) (h2:i<64) (h:List O):
    ∃ c:Int,m_pool0 add call ⟨[some (.fz (.scr ns)),some (.fz (.int i)),none,none,none],h⟩= .ok (.own (.fz (.int c))) ⟨[some (.fz (.scr ns)),some (.fz (.int i)),none,none,none],h⟩:=by
  by_cases hlt:i<(ns.map D.int).length
  · have d1:decide (i<((ns.map D.int).length:Int))=true:=decide_eq_true hlt
    obtain ⟨d,hd,ea,_⟩:=atI_lt (l:=ns.map D.int) h1 hlt
    obtain ⟨c,hc,rfl⟩:=List.mem_map.mp hd
    refine ⟨c, ?_⟩
    simp_arith [m_pool0,d1,ea,x_ife,x_d_scr,x_lX_scr,x_lenC,x_ltII,x_ifeT,x_aYC,x_atC]
  · have d1:decide (i<((ns.map D.int).length:Int))=false:=decide_eq_false hlt
    refine ⟨(7*(cutD ns none (some 63)).sum+i), ?_⟩
    have s7:smallI 7=true:=rfl
    have ec:cutD (ns.map D.int) none (some 63)=(cutD ns none (some 63)).map D.int:=by
      simp only [cutD,List.length_map,List.map_drop,List.map_take]
    simp_arith [m_pool0,d1,ec,sumD,listD,ints_map,mulD,s7,Bool.true_or,if_true,hadd _ _,x_ife,x_d_scr,x_lX_scr,x_lenC,x_ltII,x_ifeF,x_sl,x_sl0,x_pn,x_sl1,x_psm,x_psm1,x_psm2,x_sl2,x_sl3,x_slC,fI,x_mXI]
theorem pool_ok (T:Draws tab add) (k:Nat) (ns:List Int) {i:Int} (h1:0≤i) (h2:i<64) (h:List O):
    ∃ a b:Int,callN tab (k+1) "_law_pool" [.scr ns,.int i] h= .ok (.lst [.int a,.int b]) h∧0≤a∧0≤b∧b<2147483647:=by
  obtain ⟨N,hN,e⟩:=T.pool
  have hadd:=T.addI
  rw [call_at e _ rfl (st0_2 hN)]
  obtain ⟨c,ec⟩:=pool0_ok (call:=callN tab k) hadd ns h1 h2 h
  have c0:0≤(if c<0 then -c else c):=by split<;>omega
  generalize hcc:(if c<0 then -c else c)=z at c0
  have hq:(0:Int)<2147483647:=by decide
  have hq2:(0:Int)<2147483629:=by decide
  have s1:smallI 7919=true:=rfl
  have s2:smallI 31=true:=rfl
  have s3:smallI 48271=true:=rfl
  have si:smallI i=true:=smallI_of h1 (by omega)
  have hpw:(0:Int)≤18∧(18:Int)≤1000000∧Int.natAbs 10<2^64:=by decide
  generalize hm:((z%2147483629+7919*i*i+31*i+17)*48271)%2147483647=m
  have m0:0≤m:=by rw [←hm];exact Int.emod_nonneg _ (by omega)
  have m1:m<2147483647:=by rw [←hm];exact Int.emod_lt_of_pos _ (by omega)
  have sm:smallI m=true:=smallI_of m0 (by omega)
  have sb: ∀ q:Bool,smallI (if q then 1 else 0)=true:=by decide
  refine ⟨z*(if decide ((10:Int)^Int.toNat 18≤z) then 1 else 0),(m*m)%2147483629, ?_, ?_,Int.emod_nonneg _ (by omega), ?_⟩
  · simp only [m_pool,x_seq,x_asg]
    show fin (((m_pool0 add (callN tab k) _).flow _).then _)=_
    simp only [List.replicate]
    rw [ec]
    simp_arith [absD,hcc,modD,mulD,hadd _ _,hq,hq2,s1,s2,s3,si,hpw,powD,Bool.or_true,Bool.true_or,and_self,hm,sm,sb,if_true,fI,x_intI,x_mXI,x_geII,x_intB,x_lstK2]
  · split<;>omega
  · have:=Int.emod_lt_of_pos (m*m) (show (0:Int)<2147483629 by decide)
    omega
end Mi
namespace Vs
open PySem PySem.Spec PyProof.Rows L2 Mi
noncomputable section
def m_is_name:C:=(cSeq (cRet (mAnd (mBlt isiD (rCons (mVar 0) (rCons (mCon (.ty "str")) rNil))) (mAnd (mChain leD leD (mCon (.int 1)) (mBlt lenX (rCons (mVar 0) rNil)) (mCon (.int 8))) (mBlt allD (rCons (mLc (iAny (mVar 0)) (gN 1) bYes (mTwo inX (mVar 1) (mCon (.str "abcdefghijklmnopqrstuvwxyz"))) [1]) rNil))))) cNil)
def v_is_name:MFn:=⟨["value","sign"],1,m_is_name,[]⟩
def m_are_names:C:=(cSeq (cRet (mAnd (mBlt isiD (rCons (mVar 0) (rCons (mCon (.ty "tuple")) rNil))) (mBlt allD (rCons (mLc (iAny (mVar 0)) (gN 1) bYes (mCall "is_name" (aCons (mVar 1) aNil)) [1]) rNil)))) cNil)
def v_are_names:MFn:=⟨["value","item"],1,m_are_names,[]⟩
def m_has_kind:C:=(cSeq (cRet (mAnd (mBlt isiD (rCons (mVar 0) (rCons (mCon (.ty "tuple")) rNil))) (mAnd (mTwo eqX (mBlt lenX (rCons (mVar 0) rNil)) (mVar 2)) (mAnd (mBlt isiD (rCons (mTwo atX (mVar 0) (mCon (.int 0))) (rCons (mCon (.ty "str")) rNil))) (mTwo eqX (mTwo atX (mVar 0) (mCon (.int 0))) (mVar 1)))))) cNil)
def v_has_kind:MFn:=⟨["value","kind","many"],3,m_has_kind,[]⟩
def m_is_row:C:=(cSeq (cIf (bVal (mCall "has_kind" (aCons (mVar 0) (aCons (mCon (.str "copy")) (aCons (mCon (.int 3)) aNil))))) (cSeq (cRet (mAnd (mCall "is_name" (aCons (mTwo atX (mVar 0) (mCon (.int 1))) aNil)) (mCall "is_name" (aCons (mTwo atX (mVar 0) (mCon (.int 2))) aNil)))) cNil) cNil) (cSeq (cIf (bOr (bNot (bVal (mCall "has_kind" (aCons (mVar 0) (aCons (mCon (.str "set")) (aCons (mCon (.int 4)) aNil)))))) (bOr (bNot (bVal (mCall "is_name" (aCons (mTwo atX (mVar 0) (mCon (.int 1))) aNil)))) (bNot (bVal (mCall "is_name" (aCons (mTwo atX (mVar 0) (mCon (.int 2))) aNil)))))) (cSeq (cRet (mCon (.bl false))) cNil) cNil) (cSeq (cRet (mAnd (mCall "are_names" (aCons (mTwo atX (mVar 0) (mCon (.int 3))) aNil)) (mTwo leD (mBlt lenX (rCons (mTwo atX (mVar 0) (mCon (.int 3))) rNil)) (mCon (.int 2))))) cNil)))
def v_is_row:MFn:=⟨["value"],1,m_is_row,[]⟩
def m_is_end:C:=(cSeq (cIf (bOr (bVal (mCall "has_kind" (aCons (mVar 0) (aCons (mCon (.str "go")) (aCons (mCon (.int 2)) aNil))))) (bVal (mCall "has_kind" (aCons (mVar 0) (aCons (mCon (.str "return")) (aCons (mCon (.int 2)) aNil)))))) (cSeq (cRet (mCall "is_name" (aCons (mTwo atX (mVar 0) (mCon (.int 1))) aNil))) cNil) cNil) (cSeq (cRet (mAnd (mCall "has_kind" (aCons (mVar 0) (aCons (mCon (.str "either")) (aCons (mCon (.int 3)) aNil)))) (mAnd (mCall "is_name" (aCons (mTwo atX (mVar 0) (mCon (.int 1))) aNil)) (mAnd (mCall "is_name" (aCons (mTwo atX (mVar 0) (mCon (.int 2))) aNil)) (mTwo neX (mTwo atX (mVar 0) (mCon (.int 1))) (mTwo atX (mVar 0) (mCon (.int 2)))))))) cNil))
def v_is_end:MFn:=⟨["value"],1,m_is_end,[]⟩
structure Words (tab:Str→Option MFn):Prop where
  is_name:tab "is_name"=some v_is_name
  are_names:tab "are_names"=some v_are_names
  has_kind:tab "has_kind"=some v_has_kind
  is_row:tab "is_row"=some v_is_row
  is_end:tab "is_end"=some v_is_end
def m_is_block:C:=(cSeq (cIf (bOr (bNot (bVal (mBlt isiD (rCons (mVar 0) (rCons (mCon (.ty "tuple")) rNil))))) (bOr (bCmp (mTwo neX (mBlt lenX (rCons (mVar 0) rNil)) (mCon (.int 3)))) (bOr (bNot (bVal (mCall "is_name" (aCons (mTwo atX (mVar 0) (mCon (.int 0))) aNil)))) (bNot (bVal (mBlt isiD (rCons (mTwo atX (mVar 0) (mCon (.int 1))) (rCons (mCon (.ty "tuple")) rNil)))))))) (cSeq (cRet (mCon (.bl false))) cNil) cNil) (cSeq (cRet (mAnd (mTwo leD (mBlt lenX (rCons (mTwo atX (mVar 0) (mCon (.int 1))) rNil)) (mCon (.int 6))) (mAnd (mBlt allD (rCons (mLc (iAny (mTwo atX (mVar 0) (mCon (.int 1)))) (gN 1) bYes (mCall "is_row" (aCons (mVar 1) aNil)) [1]) rNil)) (mCall "is_end" (aCons (mTwo atX (mVar 0) (mCon (.int 2))) aNil))))) cNil))
def v_is_block:MFn:=⟨["value","row"],1,m_is_block,[]⟩
def m_next_blocks:C:=(cSeq (cRet (mIf (bCmp (mTwo eqX (mTwo atX (mVar 0) (mCon (.int 0))) (mCon (.str "return")))) (mTup aNil) (mSl (mVar 0) (pSome (mCon (.int 1))) pNone))) cNil)
def v_next_blocks:MFn:=⟨["end"],1,m_next_blocks,[]⟩
def m_checked_blocks:C:=(cSeq (cIf (bNot (bVal (mOne (isiT ["list","tuple"]) (mVar 0)))) (cSeq (cRaise "BadBlock" (aCons (mCon .non) aNil)) cNil) cNil) (cSeq (cAsg mDic0 (gN 1)) (cSeq (cForEn (aCons (mVar 0) aNil) (gT 2 (gsCons (gN 2) (gsCons (gN 3) gsNil))) (cSeq (cIf (bOr (bNot (bVal (mCall "is_block" (aCons (mVar 3) aNil)))) (bCmp (mTwo inX (mTwo atX (mVar 3) (mCon (.int 0))) (mVar 1)))) (cSeq (cRaise "BadBlock" (aCons (mVar 2) aNil)) cNil) cNil) (cSeq (cSetX (mTup (aCons (mTwo atX (mVar 3) (mCon (.int 1))) (aCons (mTwo atX (mVar 3) (mCon (.int 2))) aNil))) (mVar 1) (mTwo atX (mVar 3) (mCon (.int 0)))) cNil))) (cSeq (cIf (bCmp (mTwo gtD (mBlt lenX (rCons (mVar 1) rNil)) (mCon (.int 8)))) (cSeq (cRaise "TooMany" (aCons (mCon (.int 8)) aNil)) cNil) cNil) (cSeq (cIf (bCmp (mTwo eqX (mBlt lenX (rCons (mVar 1) rNil)) (mCon (.int 0)))) (cSeq (cRaise "BadBlock" (aCons (mCon .non) aNil)) cNil) cNil) (cSeq (cFor (iVals_ (mVar 1)) (gT 2 (gsCons (gN 4) (gsCons (gN 5) gsNil))) (cSeq (cFor (iAny (mCall "next_blocks" (aCons (mVar 5) aNil))) (gN 6) (cSeq (cIf (bCmp (mTwo notInX (mVar 6) (mVar 1))) (cSeq (cRaise "UnknownBlock" (aCons (mVar 6) aNil)) cNil) cNil) cNil)) cNil)) (cSeq (cRet (mVar 1)) cNil)))))))
def v_checked_blocks:MFn:=⟨["blocks","found","index","value","rows","end","block"],1,m_checked_blocks,[]⟩
def m_checked_inputs:C:=(cSeq (cIf (bNot (bVal (mOne (isiT ["list","tuple"]) (mVar 0)))) (cSeq (cRaise "BadInput" (aCons (mCon .non) aNil)) cNil) cNil) (cSeq (cForEn (aCons (mVar 0) aNil) (gT 2 (gsCons (gN 1) (gsCons (gN 2) gsNil))) (cSeq (cIf (bOr (bNot (bVal (mCall "is_name" (aCons (mVar 2) aNil)))) (bCmp (mTwo inX (mVar 2) (mSl (mVar 0) pNone (pSome (mVar 1)))))) (cSeq (cRaise "BadInput" (aCons (mVar 1) aNil)) cNil) cNil) cNil)) (cSeq (cIf (bCmp (mTwo gtD (mBlt lenX (rCons (mVar 0) rNil)) (mCon (.int 6)))) (cSeq (cRaise "TooMany" (aCons (mCon (.int 6)) aNil)) cNil) cNil) (cSeq (cRet (mBlt tupleOfD (rCons (mVar 0) rNil))) cNil))))
def v_checked_inputs:MFn:=⟨["inputs","index","value"],1,m_checked_inputs,[]⟩
structure Srcs (tab:Str→Option MFn):Prop extends Words tab where
  is_block:tab "is_block"=some v_is_block
  next_blocks:tab "next_blocks"=some v_next_blocks
  checked_blocks:tab "checked_blocks"=some v_checked_blocks
  checked_inputs:tab "checked_inputs"=some v_checked_inputs
def m_law_names:C:=(cSeq (cAsg (mCon (.str "abcdefghijklmnopqrstuvwxyz")) (gN 2)) (cSeq (cMul (rCons (mCall "_law_draw" (aCons (mVar 0) (aCons (mCon (.int 26)) aNil))) (rCons (mTwo addD (mCon (.int 1)) (mTwo mulX (mCon (.int 2)) (mCall "_law_draw" (aCons (mVar 0) (aCons (mCon (.int 6)) aNil))))) rNil)) [(gN 3),(gN 4)]) (cSeq (cAsg (mLst (aCons (mTup (aCons (mCon (.str "")) (aCons (mCon (.str "")) aNil))) (aCons (mTup (aCons (mCon (.str "")) (aCons (mCon (.str "q")) aNil))) (aCons (mTup (aCons (mCon (.str "ab")) (aCons (mCon (.str "")) aNil))) (aCons (mTup (aCons (mCon (.str "abcdefg")) (aCons (mCon (.str "")) aNil))) (aCons (mTup (aCons (mCon (.str "")) (aCons (mCon (.str "abcdefg")) aNil))) aNil)))))) (gN 5)) (cSeq (cAsg (mCall "_law_pick" (aCons (mVar 0) (aCons (mVar 5) aNil))) (gT 2 (gsCons (gN 6) (gsCons (gN 7) gsNil)))) (cSeq (cRet (mLc (iRg1 (rCons (mVar 1) rNil)) (gN 8) bYes (mTwo addD (mTwo addD (mVar 6) (mTwo atX (mVar 2) (mTwo modD (mBlt intD (rCons (mTwo addD (mVar 3) (mTwo mulX (mVar 4) (mVar 8))) rNil)) (mCon (.int 26))))) (mVar 7)) [8])) cNil)))))
def v_law_names:MFn:=⟨["_law_pool_here","_law_count","_law_signs","_law_origin","_law_step","_law_ends","_law_head","_law_tail","_law_k"],2,m_law_names,[]⟩
def m_law_row:C:=(cSeq (cAsg (mCall "_law_pick" (aCons (mVar 0) (aCons (mVar 1) aNil))) (gN 3)) (cSeq (cIf (bCmp (mTwo eqX (mCall "_law_draw" (aCons (mVar 0) (aCons (mCon (.int 3)) aNil))) (mCon (.int 0)))) (cSeq (cRet (mTup (aCons (mCon (.str "copy")) (aCons (mVar 3) (aCons (mCall "_law_pick" (aCons (mVar 0) (aCons (mVar 1) aNil))) aNil))))) cNil) cNil) (cSeq (cAsg (mCall "_law_pick" (aCons (mVar 0) (aCons (mVar 2) aNil))) (gN 4)) (cSeq (cAsg (mLc (iRg1 (rCons (mCall "_law_draw" (aCons (mVar 0) (aCons (mCon (.int 3)) aNil))) rNil)) (gN 6) bYes (mCall "_law_pick" (aCons (mVar 0) (aCons (mVar 1) aNil))) [6]) (gN 5)) (cSeq (cRet (mTup (aCons (mCon (.str "set")) (aCons (mVar 3) (aCons (mVar 4) (aCons (mBlt tupleOfD (rCons (mVar 5) rNil)) aNil)))))) cNil)))))
def v_law_row:MFn:=⟨["_law_pool_here","_law_words","_law_ops","_law_x","_law_op","_law_some","_law_turn"],3,m_law_row,[]⟩
def m_law_end:C:=(cSeq (cAsg (mCall "_law_draw" (aCons (mVar 0) (aCons (mCon (.int 4)) aNil))) (gN 3)) (cSeq (cIf (bOr (bCmp (mTwo eqX (mVar 3) (mCon (.int 0)))) (bAnd (bCmp (mTwo eqX (mBlt lenX (rCons (mVar 1) rNil)) (mCon (.int 1)))) (bCmp (mTwo neX (mVar 3) (mCon (.int 1)))))) (cSeq (cRet (mTup (aCons (mCon (.str "return")) (aCons (mCall "_law_pick" (aCons (mVar 0) (aCons (mVar 2) aNil))) aNil)))) cNil) cNil) (cSeq (cIf (bCmp (mTwo eqX (mVar 3) (mCon (.int 1)))) (cSeq (cRet (mTup (aCons (mCon (.str "go")) (aCons (mCall "_law_pick" (aCons (mVar 0) (aCons (mVar 1) aNil))) aNil)))) cNil) cNil) (cSeq (cAsg (mCall "_law_draw" (aCons (mVar 0) (aCons (mBlt lenX (rCons (mVar 1) rNil)) aNil))) (gN 4)) (cSeq (cAsg (mTwo addD (mTwo addD (mVar 4) (mCon (.int 1))) (mCall "_law_draw" (aCons (mVar 0) (aCons (mTwo subD (mBlt lenX (rCons (mVar 1) rNil)) (mCon (.int 1))) aNil)))) (gN 5)) (cSeq (cRet (mTup (aCons (mCon (.str "either")) (aCons (mTwo atX (mVar 1) (mVar 4)) (aCons (mTwo atX (mVar 1) (mTwo modD (mBlt intD (rCons (mVar 5) rNil)) (mBlt lenX (rCons (mVar 1) rNil)))) aNil))))) cNil))))))
def v_law_end:MFn:=⟨["_law_pool_here","_law_blocks","_law_words","_law_kind","_law_at","_law_far"],3,m_law_end,[]⟩
def m_law_source:C:=(cSeq (cAsg (mCall "_law_names" (aCons (mVar 0) (aCons (mTwo addD (mCon (.int 1)) (mCall "_law_draw" (aCons (mVar 0) (aCons (mVar 1) aNil)))) aNil))) (gN 2)) (cSeq (cAsg (mCall "_law_names" (aCons (mVar 0) (aCons (mTwo addD (mCon (.int 2)) (mCall "_law_draw" (aCons (mVar 0) (aCons (mCon (.int 2)) aNil)))) aNil))) (gN 3)) (cSeq (cMul (rCons (mCall "_law_names" (aCons (mVar 0) (aCons (mCon (.int 2)) aNil))) (rCons (mLst aNil) rNil)) [(gN 4),(gN 5)]) (cSeq (cFor (iAny (mVar 2)) (gN 6) (cSeq (cAsg (mBlt tupleOfD (rCons (mLc (iRg1 (rCons (mCall "_law_draw" (aCons (mVar 0) (aCons (mCon (.int 4)) aNil))) rNil)) (gN 9) bYes (mCall "_law_row" (aCons (mVar 0) (aCons (mVar 3) (aCons (mVar 4) aNil)))) [9]) rNil)) (gN 7)) (cSeq (cApp (mVar 5) (mTup (aCons (mVar 6) (aCons (mVar 7) (aCons (mCall "_law_end" (aCons (mVar 0) (aCons (mVar 2) (aCons (mVar 3) aNil)))) aNil))))) cNil))) (cSeq (cAsg (mCall "_law_draw" (aCons (mVar 0) (aCons (mTwo addD (mBlt lenX (rCons (mVar 3) rNil)) (mCon (.int 1))) aNil))) (gN 8)) (cSeq (cRet (mDisp [((mCon (.str "blocks")),(mVar 5)),((mCon (.str "inputs")),(mSl (mVar 3) pNone (pSome (mVar 8)))),((mCon (.str "words")),(mVar 3)),((mCon (.str "ops")),(mVar 4))])) cNil))))))
def v_law_source:MFn:=⟨["_law_pool_here","_law_most","_law_blocks","_law_words","_law_ops","_law_rows","_law_block","_law_some","_law_many","_law_turn"],2,m_law_source,[]⟩
structure Gens (tab:Str→Option MFn):Prop extends Draws tab addD where
  law_names:tab "_law_names"=some v_law_names
  law_row:tab "_law_row"=some v_law_row
  law_end:tab "_law_end"=some v_law_end
  law_source:tab "_law_source"=some v_law_source
end
end Vs
namespace Vs
open PySem PySem.Spec PyProof.Rows L2 Mi
abbrev abc:Str:="abcdefghijklmnopqrstuvwxyz"
def isL (c:Nat):Bool:=!(Builtin.Str.occurrences abc ⟨#[c]⟩ 0 abc.length 1).isEmpty
def isName:D→Bool
  | .str x=>decide (1≤x.length)&&decide (x.length≤8)&&x.cps.toList.all isL
  |_=>false
def okD:D→Bool
  | .dct _ _=>false
  | .str x=>fitsB x.length&&fitsB x.cps.toList.length
  |d=>(tyD d).isSome
variable {tab:Str→Option MFn}
def okT:D→Bool
  | .tup ds=>fitsB ds.length&&ds.all okD
  |d=>okD d
def first:List D→Option Str
  | .str x::_=>some x
  |_=>none
def hasKind (d:D) (kind:Str) (many:Int):Bool:=match d with
  | .tup r=>decide ((r.length:Int)=many)&&decide (first r=some kind)
  |_=>false
def areNames:D→Bool
  | .tup ws=>ws.all isName
  |_=>false
def lenT:D→Nat
  | .tup ws=>ws.length
  |_=>0
def isRow (d:D):Bool:=match d with
  | .tup [a,b,c]=>decide (first [a,b,c]=some ("copy":Str))&&(isName b&&isName c)
  | .tup [a,b,c,e]=>decide (first [a,b,c,e]=some ("set":Str))&&(isName b&&(isName c&&(areNames e&&decide (lenT e≤2))))
  |_=>false
def okU:D→Bool
  | .tup ds=>fitsB ds.length&&ds.all okT
  |d=>okD d
theorem two {r:List D} {kd:Str} (h:hasKind (.tup r) kd 2=true): ∃ a b,r=[a,b]∧first [a,b]=some kd:=by
  simp only [hasKind,Bool.and_eq_true,decide_eq_true_eq] at h
  match r,h with
  |[a,b],h=>exact ⟨a,b,rfl,h.2⟩
  |[],hk=>simp at hk
  |[_],hk=>simp at hk
  |_::_::_::_,hk=>simp at hk;omega
def isEnd (d:D):Bool:=match d with
  | .tup [a,b]=>(decide (first [a,b]=some ("go":Str))||decide (first [a,b]=some ("return":Str)))&&isName b
  | .tup [a,b,c]=>decide (first [a,b,c]=some ("either":Str))&&(isName b&&(isName c&&!decide (first [b]=first [c])))
  |_=>false
end Vs
namespace Vs
open PySem PySem.Spec PyProof.Rows L2 Mi
variable {tab:Str→Option MFn}
def isBlock:D→Bool
  | .tup [a,.tup rs,e]=>isName a&&(decide (rs.length≤6)&&(rs.all isRow&&isEnd e))
  |_=>false
def okRs:D→Bool
  | .tup rs=>fitsB rs.length&&rs.all okU
  |d=>okD d
def okB:D→Bool
  | .tup [a,b,c]=>okD a&&(okRs b&&okU c)
  |d=>okD d
def nexts:D→List D
  | .tup (.str x::r)=>if x="return" then [] else r
  |_=>[]
def strOf:D→Str
  | .tup (.str x::_)=>x
  |_=>""
inductive Ck
  |ok
  |exc (c:Str) (d:D)
end Vs
namespace Vs
open PySem PySem.Spec PyProof.Rows L2 Mi
variable {tab:Str→Option MFn}
def seqD (t:Bool) (l:List D):D:=if t then .tup l else .lst l
end Vs
namespace Vs
open PySem PySem.Spec PyProof.Rows L2 Mi
variable {tab:Str→Option MFn}
def ends5:List (Str×Str):=[("",""),("","q"),("ab",""),("abcdefg",""),("","abcdefg")]
def letter (m:Nat):Str:=⟨#[97+m]⟩
def nm (p:Str×Str) (m:Nat):Str:=p.1++letter m++p.2
def nmB (p:Str×Str) (m:Nat):Bool:=fitsB (p.1.length+(letter m).length)&&(fitsB ((p.1++letter m).length+p.2.length)&&(isName (.str (nm p m))&&(okD (.str (nm p m))&&(PyData.strOk (nm p m)&&(!decide (nm p m="zzzzz")&&decide (atI abc.cps.toList (m:Int)=some (97+m)))))))
theorem nm_all:ends5.all (fun p=>(List.range 26).all fun m=>nmB p m)=true:=by decide+kernel
theorem nm_ok {p:Str×Str} (hp:p∈ends5) {m:Nat} (hm:m<26):nmB p m=true:=by
  have:=List.all_eq_true.mp nm_all p hp
  exact List.all_eq_true.mp this m (List.mem_range.mpr hm)
def Word0 (w:Str):Prop:= ∃ p∈ends5,∃ m,m<26∧w=nm p m
def Word (w:Str):Prop:=Word0 w∨w="lonely"
theorem Word0.ne {w:Str} (h:Word0 w):w≠"lonely":=by
  obtain ⟨p,hp,m,hm,rfl⟩:=h
  have:ends5.all (fun p=>(List.range 26).all fun m=>!decide (nm p m="lonely"))=true:=by decide+kernel
  have:=List.all_eq_true.mp (List.all_eq_true.mp this p hp) m (List.mem_range.mpr hm)
  simpa using this
theorem Word.is {w:Str} (h:Word w):isName (.str w)=true∧okD (.str w)=true∧PyData.strOk w=true∧w≠"zzzzz":=by
  rcases h with ⟨p,hp,m,hm,rfl⟩|rfl
  case inr=>decide+kernel
  have:=nm_ok hp hm
  simp only [nmB,Bool.and_eq_true,Bool.not_eq_true',decide_eq_false_iff_not] at this
  exact ⟨this.2.2.1,this.2.2.2.1,this.2.2.2.2.1,this.2.2.2.2.2.1⟩
end Vs
namespace Vs
open PySem PySem.Spec PyProof.Rows L2 Mi
variable {tab:Str→Option MFn}
theorem rangeD_eq (c:Nat):rangeD 0 c=(List.range c).map fun i:Nat=>D.int ((i:Nat):Int):=by
  simp [rangeD]
inductive Row (ws ops:List Str):D→Prop
  |copy {x y:Str}:x∈ws→y∈ws→Row ws ops (.tup [.str "copy",.str x,.str y])
  |set {x op:Str} {l:List Str}:x∈ws→op∈ops→(∀ w∈l,w∈ws)→l.length≤2→Row ws ops (.tup [.str "set",.str x,.str op,.tup (l.map D.str)])
inductive End (bs ws:List Str):D→Prop
  |ret {w:Str}:w∈ws→End bs ws (.tup [.str "return",.str w])
  |go {b:Str}:b∈bs→End bs ws (.tup [.str "go",.str b])
  |either {b c:Str}:b∈bs→c∈bs→b≠c→End bs ws (.tup [.str "either",.str b,.str c])
end Vs
namespace Vs
open PySem PySem.Spec PyProof.Rows L2 Mi
variable {tab:Str→Option MFn}
def Ls (l:List D) (x:Option O):Prop:=x=some (.lst l)∨x=some (.fz (.lst l))
structure Blk (bs ws ops:List Str) (b:Str) (rs:List D) (e:D):Prop where
  few:rs.length≤3
  rows: ∀ r∈rs,Row ws ops r
  fin:End bs ws e
inductive Blks (bs ws ops:List Str):List Str→List D→Prop
  |nil:Blks bs ws ops [] []
  |cons {b:Str} {r:List Str} {rs:List D} {e:D} {l:List D}:Blk bs ws ops b rs e→Blks bs ws ops r l→Blks bs ws ops (b::r) (.tup [.str b,.tup rs,e]::l)
theorem cut_take {α:Type} {l:List α} {m:Int} (h0:0≤m):Mi.cutD l none (some m)=l.take m.toNat:=by
  obtain ⟨j,rfl⟩:=Int.eq_ofNat_of_zero_le h0
  simp only [Mi.cutD,HT.sIx_none,HT.sIx_nat,List.drop_zero,Int.toNat_natCast,Nat.sub_zero]
  rcases Nat.le_total j l.length with z|z
  · rw [Nat.min_eq_left z]
  · rw [Nat.min_eq_right z,List.take_of_length_le (Nat.le_refl _),List.take_of_length_le z]
structure Src (most:Nat) (bs ws ops:List Str) (rows:List D):Prop where
  b0:0<bs.length
  b1:bs.length≤most
  bd:bs.Nodup
  bw: ∀ w∈bs,Word w
  w0:2≤ws.length
  w1:ws.length≤3
  wd:ws.Nodup
  ww: ∀ w∈ws,Word w
  o0:ops.length=2
  od:ops.Nodup
  ow: ∀ w∈ops,Word w
  rows:Blks bs ws ops bs rows
end Vs
namespace Vs
open PySem PySem.Spec PyProof.Rows L2 Mi
theorem fits_le {n:Nat} (h:n≤100000):fitsB n=true:=by simp only [fitsB,decide_eq_true_eq];exact h
theorem Row.is {ws ops:List Str} (hw: ∀ w∈ws,Word w) (ho: ∀ w∈ops,Word w) {d:D} (h:Row ws ops d):isRow d=true∧okU d=true:=by
  cases h with
  | copy hx hy=>
    have a:=(hw _ hx).is
    have b:=(hw _ hy).is
    refine ⟨by simp [isRow,first,a.1,b.1], ?_⟩
    simp only [okU,List.all_cons,List.all_nil,okT,a.2.1,b.2.1,Bool.and_true]
    rfl
  | @set x op l hx hop hl h2=>
    have a:=(hw _ hx).is
    have b:=(ho _ hop).is
    have c:(l.map D.str).all isName=true:=by
      simp only [List.all_map,List.all_eq_true]
      exact fun w hw'=>(hw w (hl w hw')).is.1
    have c2:(l.map D.str).all okD=true:=by
      simp only [List.all_map,List.all_eq_true]
      exact fun w hw'=>(hw w (hl w hw')).is.2.1
    refine ⟨by simp [isRow,first,a.1,b.1,areNames,c,lenT,h2], ?_⟩
    simp only [okU,List.all_cons,List.all_nil,okT,a.2.1,b.2.1,c2,List.length_map,fits_le (show l.length≤100000 by omega),Bool.and_true]
    rfl
theorem End.is {bs ws:List Str} (hb: ∀ w∈bs,Word w) (hw: ∀ w∈ws,Word w) {d:D} (h:End bs ws d):isEnd d=true∧okU d=true∧∀ x∈nexts d,∃ b∈bs,x= .str b:=by
  have n1:("go":Str)≠"return":=by decide+kernel
  have n2:("either":Str)≠"return":=by decide+kernel
  cases h with
  | ret hx=>
    have a:=(hw _ hx).is
    refine ⟨by simp [isEnd,first,a.1], ?_,fun x hx=>by simp [nexts] at hx⟩
    simp only [okU,List.all_cons,List.all_nil,okT,a.2.1,Bool.and_true]
    rfl
  | go hx=>
    have a:=(hb _ hx).is
    refine ⟨by simp [isEnd,first,a.1], ?_,fun x hx'=>?_⟩
    · simp only [okU,List.all_cons,List.all_nil,okT,a.2.1,Bool.and_true]
      rfl
    · simp only [nexts,n1,if_false,List.mem_singleton] at hx'
      exact ⟨_,hx,hx'⟩
  | either hx hy hne=>
    have a:=(hb _ hx).is
    have b:=(hb _ hy).is
    refine ⟨by simp [isEnd,first,a.1,b.1,hne], ?_,fun x hx'=>?_⟩
    · simp only [okU,List.all_cons,List.all_nil,okT,a.2.1,b.2.1,Bool.and_true]
      rfl
    · simp only [nexts,n2,if_false,List.mem_cons,List.not_mem_nil,or_false] at hx'
      rcases hx' with e|e
      · exact ⟨_,hx,e⟩
      · exact ⟨_,hy,e⟩
theorem Blks.all {bs ws ops rest_:List Str} {rows:List D} (h:Blks bs ws ops rest_ rows):(∀ d∈rows,∃ b rs e,d= .tup [.str b,.tup rs,e]∧b∈rest_∧Blk bs ws ops b rs e)∧rows.map strOf=rest_:=by
  induction h with
  |nil=>exact ⟨fun d hd=>(nomatch hd),rfl⟩
  | @cons b r rs e l hB _ ih=>
    refine ⟨fun d hd=>?_,by simp [strOf,ih.2]⟩
    rcases List.mem_cons.mp hd with rfl|hd
    · exact ⟨b,rs,e,rfl,by simp,hB⟩
    · obtain ⟨b',rs',e',h1,h2,h3⟩:=ih.1 d hd
      exact ⟨b',rs',e',h1,by simp [h2],h3⟩
theorem Blk.is {bs ws ops:List Str} (hb: ∀ w∈bs,Word w) (hw: ∀ w∈ws,Word w) (ho: ∀ w∈ops,Word w) {b:Str} {rs:List D} {e:D} (hB:b∈bs) (h:Blk bs ws ops b rs e):
    isBlock (.tup [.str b,.tup rs,e])=true∧okB (.tup [.str b,.tup rs,e])=true∧okRs (.tup rs)=true∧okU e=true∧rs.all isRow=true:=by
  have a:=(hb _ hB).is
  have c:rs.all isRow=true:=by
    simp only [List.all_eq_true]
    exact fun r hr=>((h.rows r hr).is hw ho).1
  have c2:rs.all okU=true:=by
    simp only [List.all_eq_true]
    exact fun r hr=>((h.rows r hr).is hw ho).2
  have d:=h.fin.is hb hw
  have f:rs.length≤6:=by have:=h.few;omega
  have o:okRs (.tup rs)=true:=by simp only [okRs,c2,fits_le (show rs.length≤100000 by omega),Bool.and_true]
  refine ⟨by simp [isBlock,a.1,f,c,d.1],by simp only [okB,a.2.1,o,d.2.1,Bool.and_true],o,d.2.1,c⟩
end Vs
namespace Vs
open PySem PySem.Spec PyProof.Rows L2 Mi
noncomputable section
def m_Source___contains__:C:=(cSeq (cRet (mAnd (mBlt isiD (rCons (mVar 1) (rCons (mCon (.ty "str")) rNil))) (mTwo inX (mVar 1) (mOne (fldD "own_blocks") (mVar 0))))) cNil)
def v_Source___contains__:MFn:=⟨["self","block"],2,m_Source___contains__,[]⟩
def m_Source___getitem__:C:=(cSeq (cIf (bCmp (bin2 (inF allM true) (mVar 1) (mVar 0))) (cSeq (cRaise "UnknownBlock" (aCons (mVar 1) aNil)) cNil) cNil) (cSeq (cRet (mTwo atX (mOne (fldD "own_blocks") (mVar 0)) (mVar 1))) cNil))
def v_Source___getitem__:MFn:=⟨["self","block"],2,m_Source___getitem__,[]⟩
def m_Source_blocks:C:=(cSeq (cRet (mBlt listX (rCons (mOne (fldD "own_blocks") (mVar 0)) rNil))) cNil)
def v_Source_blocks:MFn:=⟨["self"],1,m_Source_blocks,[]⟩
def m_Source_nexts:C:=(cSeq (cRet (mBlt listX (rCons (mCall "next_blocks" (aCons (mTwo atX (bin2 (atF allM) (mVar 0) (mVar 1)) (mCon (.int 1))) aNil)) rNil))) cNil)
def v_Source_nexts:MFn:=⟨["self","block"],2,m_Source_nexts,[]⟩
def m_check_way:C:=(cSeq (cIf (bOr (bNot (bVal (mOne (isiT ["list","tuple"]) (mVar 1)))) (bCmp (mTwo eqX (mBlt lenX (rCons (mVar 1) rNil)) (mCon (.int 0))))) (cSeq (cRaise "BadWay" (aCons (mCon .non) aNil)) cNil) cNil) (cSeq (cAsg (mSl (mMeth allM "blocks" (mVar 0) aNil) pNone (pSome (mCon (.int 1)))) (gN 2)) (cSeq (cForEn (aCons (mVar 1) aNil) (gT 2 (gsCons (gN 3) (gsCons (gN 4) gsNil))) (cSeq (cIf (bOr (bNot (bVal (mBlt isiD (rCons (mVar 4) (rCons (mCon (.ty "str")) rNil))))) (bCmp (mTwo notInX (mVar 4) (mVar 2)))) (cSeq (cRaise "BadWay" (aCons (mVar 3) aNil)) cNil) cNil) (cSeq (cAsg (mMeth allM "nexts" (mVar 0) (aCons (mVar 4) aNil)) (gN 2)) cNil))) cNil)))
def v_check_way:MFn:=⟨["source","way","rows","index","block"],2,m_check_way,[]⟩
end
end Vs
namespace Vs
open PySem PySem.Spec PyProof.Rows L2 Mi
abbrev Bk:=Str×List D×D
def bkP (p:Bk):D:=.tup [.tup p.2.1,p.2.2]
def keysP (P:List Bk):List Key:=P.map fun p=>.inr p.1
def srcV (P:List Bk) (ins:List Str):D:=.ins "Source" ["own_blocks","inputs"] [.dic (keysP P) (P.map bkP),.tup (ins.map .str)]
def look (P:List Bk) (b:Str):Option Bk:=P.find? fun p=>decide (p.1=b)
def strsOf:List D→List Str
  |[]=>[]
  | .str x::r=>x::strsOf r
  |_::r=>strsOf r
theorem strsOf_map (l:List Str):strsOf (l.map .str)=l:=by
  induction l with
  |nil=>rfl
  |cons a l ih=>simp only [List.map_cons,strsOf,ih]
def nxB (p:Bk):List Str:=strsOf (nexts p.2.2)
structure WfP (P:List Bk):Prop where
  nd:(P.map (·.1)).Nodup
  ne:P≠[]
  few:P.length≤8
  en: ∀ p∈P,∃ x r,p.2.2= .tup (.str x::r)
  nx: ∀ p∈P,nexts p.2.2=(nxB p).map .str
  to: ∀ p∈P,∀ y∈nxB p,y∈P.map (·.1)
  two: ∀ p∈P,(nxB p).length≤2
variable {tab:Str→Option MFn} {P:List Bk} {ins:List Str}
def kd:D→Bool
  | .non| .bl _| .int _| .str _| .tup _| .lst _=>true
  |_=>false
structure SrcG (tab:Str→Option MFn):Prop extends Srcs tab where
  contains:tab "Source.__contains__"=some v_Source___contains__
  getitem:tab "Source.__getitem__"=some v_Source___getitem__
  blocks:tab "Source.blocks"=some v_Source_blocks
structure SrcM (tab:Str→Option MFn):Prop extends SrcG tab where
  nexts:tab "Source.nexts"=some v_Source_nexts
end Vs
namespace Vs
open PySem PySem.Spec PyProof.Rows L2 Mi
noncomputable section
def m_Source_rows:C:=(cSeq (cRet (mTwo atX (bin2 (atF allM) (mVar 0) (mVar 1)) (mCon (.int 0)))) cNil)
def v_Source_rows:MFn:=⟨["self","block"],2,m_Source_rows,[]⟩
def m_Source_end:C:=(cSeq (cRet (mTwo atX (bin2 (atF allM) (mVar 0) (mVar 1)) (mCon (.int 1)))) cNil)
def v_Source_end:MFn:=⟨["self","block"],2,m_Source_end,[]⟩
def m_sets:C:=(cSeq (cRet (mTwo atX (mVar 0) (mCon (.int 1)))) cNil)
def v_sets:MFn:=⟨["row"],1,m_sets,[]⟩
def m_reads:C:=(cSeq (cRet (mIf (bCmp (mTwo eqX (mTwo atX (mVar 0) (mCon (.int 0))) (mCon (.str "copy")))) (mTup (aCons (mTwo atX (mVar 0) (mCon (.int 2))) aNil)) (mTwo atX (mVar 0) (mCon (.int 3))))) cNil)
def v_reads:MFn:=⟨["row"],1,m_reads,[]⟩
end
end Vs
namespace Vs
open PySem PySem.Spec PyProof.Rows L2 Mi
variable {tab:Str→Option MFn} {P:List Bk} {ins:List Str}
end Vs
namespace Vs
open PySem PySem.Spec PyProof.Rows L2 Mi
mutual
def pur:D→Bool
  | .loc _=>false
  | .dct _ _=>false
  | .xn _ _ _=>false
  | .tup ds=>purs ds
  | .lst ds=>purs ds
  | .dic _ ds=>purs ds
  | .ins _ _ ds=>purs ds
  |_=>true
def purs:List D→Bool
  |[]=>true
  |d::ds=>pur d&&purs ds
end
mutual
theorem sbD_pur (f:Nat→Option D): ∀ (d:D),pur d=true→sbD f d=some d
  | .non,_=>rfl
  | .bl _,_=>rfl
  | .int _,_=>rfl
  | .str _,_=>rfl
  | .fn _,_=>rfl
  | .scr _,_=>rfl
  | .ty _,_=>rfl
  | .cls _,_=>rfl
  | .lk _ _,_=>rfl
  | .loc _,h=>by cases h
  | .dct _ _,h=>by cases h
  | .xn _ _ _,h=>by cases h
  | .tup ds,h=>by simp only [sbD,sbDs_pur f ds h,Option.map_some]
  | .lst ds,h=>by simp only [sbD,sbDs_pur f ds h,Option.map_some]
  | .dic _ ds,h=>by simp only [sbD,sbDs_pur f ds h,Option.map_some]
  | .ins _ _ ds,h=>by simp only [sbD,sbDs_pur f ds h,Option.map_some]
theorem sbDs_pur (f:Nat→Option D): ∀ (ds:List D),purs ds=true→sbDs f ds=some ds
  |[],_=>rfl
  | d::ds,h=>by
    obtain ⟨h1,h2⟩:=Bool.and_eq_true_iff.mp h
    simp only [sbDs,sbD_pur f d h1,sbDs_pur f ds h2,Option.bind_some,Option.map_some]
end
theorem purs_iff {ds:List D}:purs ds=true↔∀ d∈ds,pur d=true:=by
  induction ds with
  |nil=>simp [purs]
  |cons a l ih=>simp [purs,ih]
theorem purs_strs (l:List Str):purs (l.map .str)=true:=purs_iff.mpr fun d hd=>by
  obtain ⟨x,_,rfl⟩:=List.mem_map.mp hd
  rfl
section
variable {most:Nat} {bs ws ops:List Str} {rows:List D}
end
theorem fp0:decide ((0:Nat)<900)=true:=rfl
theorem fp1:decide ((1:Nat)<900)=true:=rfl
variable {tab:Str→Option MFn} {most:Nat} {bs ws ops:List Str} {rows:List D}
end Vs
namespace Vs
open PySem PySem.Spec PyProof.Rows L2 Mi
mutual
def lyD:Nat→D→Bool
  |_,.non=>true
  |_,.bl _=>true
  |_,.int _=>true
  |_,.str x=>PyData.strOk x
  |n+1,.tup ds=>lyDs n ds
  |n+1,.lst ds=>lyDs n ds
  |_,_=>false
def lyDs:Nat→List D→Bool
  |_,[]=>true
  |n,d::ds=>lyD n d&&lyDs n ds
end
mutual
theorem ly_toP: ∀ (n:Nat) (d:D),lyD n d=true→∃ p,toP d=some p∧p.canLay0=true∧p.depth≤n
  |_,.non,_=>⟨.none,rfl,rfl,by simp [PyData.depth]⟩
  |_,.bl b,_=>⟨.bool b,rfl,rfl,by simp [PyData.depth]⟩
  |_,.int i,_=>⟨.int i,rfl,rfl,by simp [PyData.depth]⟩
  |_,.str x,h=>⟨.str x,rfl,by simpa [PyData.canLay0,lyD] using h,by simp [PyData.depth]⟩
  | n+1,.tup ds,h=>by
    obtain ⟨ps,h1,h2,h3⟩:=ly_toPs n ds (by simpa [lyD] using h)
    exact ⟨.tuple ps,by simp [toP,h1],by simpa [PyData.canLay0] using h2,by simp only [PyData.depth];omega⟩
  | n+1,.lst ds,h=>by
    obtain ⟨ps,h1,h2,h3⟩:=ly_toPs n ds (by simpa [lyD] using h)
    exact ⟨.list ps,by simp [toP,h1],by simpa [PyData.canLay0] using h2,by simp only [PyData.depth];omega⟩
  |0,.tup ds,h=>by simp [lyD] at h
  |0,.lst ds,h=>by simp [lyD] at h
  |_,.scr _,h=>by simp [lyD] at h
  |_,.dic _ _,h=>by simp [lyD] at h
  |_,.ins _ _ _,h=>by simp [lyD] at h
  |_,.loc _,h=>by simp [lyD] at h
  |_,.fn _,h=>by simp [lyD] at h
  |_,.ty _,h=>by simp [lyD] at h
  |_,.cls _,h=>by simp [lyD] at h
  |_,.xn _ _ _,h=>by simp [lyD] at h
  |_,.lk _ _,h=>by simp [lyD] at h
  |_,.dct _ _,h=>by simp [lyD] at h
theorem ly_toPs: ∀ (n:Nat) (ds:List D),lyDs n ds=true→∃ ps,toPs ds=some ps∧PyData.canLayAll0 ps=true∧PyData.depthAll ps≤n
  |_,[],_=>⟨[],rfl,rfl,by simp [PyData.depthAll]⟩
  | n,d::ds,h=>by
    simp only [lyDs,Bool.and_eq_true] at h
    obtain ⟨p,h1,h2,h3⟩:=ly_toP n d h.1
    obtain ⟨ps,h4,h5,h6⟩:=ly_toPs n ds h.2
    exact ⟨p::ps,by simp [toPs,h1,h4],by simp [PyData.canLayAll0,h2,h5],by simp only [PyData.depthAll];omega⟩
end
theorem ly_shaped {n:Nat} {d:D} (hn:n≤64) (h:lyD n d=true): ∃ p,toP d=some p∧SeqAt.shaped p=true∧PyData.eqv p p=true:=by
  obtain ⟨p,h1,h2,h3⟩:=ly_toP n d h
  refine ⟨p,h1, ?_,SeqAt.eqv_refl p h2⟩
  simp only [SeqAt.shaped,h2,Bool.true_and,decide_eq_true_eq]
  omega
theorem eqB_selfT {n:Nat} {ds:List D} (hn:n≤64) (h:lyD n (.tup ds)=true):eqB (.tup ds) (.tup ds)=some true:=by
  obtain ⟨p,h1,h2,h3⟩:=ly_shaped hn h
  simp only [eqB,h1,Option.bind_some,h2,Bool.and_self,if_true,h3]
theorem lyDs_all {n:Nat}: ∀ {ds:List D},(∀ d∈ds,lyD n d=true)→lyDs n ds=true
  |[],_=>by simp [lyDs]
  | d::ds,h=>by
    simp only [lyDs,h d (by simp),Bool.true_and]
    exact lyDs_all fun x hx=>h x (by simp [hx])
theorem ly_strs {n:Nat} {l:List Str} (h: ∀ x∈l,PyData.strOk x=true):lyDs n (l.map D.str)=true:=lyDs_all fun d hd=>by
  obtain ⟨x,hx,rfl⟩:=List.mem_map.mp hd
  simpa [lyD] using h x hx
end Vs
namespace Vs
open PySem PySem.Spec PyProof.Rows L2 Mi
noncomputable section
def m_is_integer:C:=(cSeq (cRet (mAnd (mBlt isiD (rCons (mVar 0) (rCons (mCon (.ty "int")) rNil))) (mNot (mBlt isiD (rCons (mVar 0) (rCons (mCon (.ty "bool")) rNil)))))) cNil)
def v_is_integer:MFn:=⟨["value"],1,m_is_integer,[]⟩
def m_are_unlike:C:=(cSeq (cRet (mBlt allD (rCons (mLc (iEn (aCons (mVar 0) aNil)) (gT 2 (gsCons (gN 1) (gsCons (gN 2) gsNil))) bYes (mTwo notInX (mVar 2) (mSl (mVar 0) pNone (pSome (mVar 1)))) [1,2]) rNil))) cNil)
def v_are_unlike:MFn:=⟨["values","at","value"],1,m_are_unlike,[]⟩
def m_is_made_row:C:=(cSeq (cIf (bNot (bVal (mCall "has_kind" (aCons (mVar 0) (aCons (mCon (.str "call")) (aCons (mCon (.int 5)) aNil)))))) (cSeq (cRet (mCall "is_row" (aCons (mVar 0) aNil))) cNil) cNil) (cSeq (cIf (bNot (bVal (mCall "is_row" (aCons (mTup (aCons (mCon (.str "set")) (aCons (mTwo atX (mVar 0) (mCon (.int 1))) (aCons (mTwo atX (mVar 0) (mCon (.int 2))) (aCons (mTwo atX (mVar 0) (mCon (.int 3))) aNil))))) aNil)))) (cSeq (cRet (mCon (.bl false))) cNil) cNil) (cSeq (cRet (mAnd (mCall "are_names" (aCons (mTwo atX (mVar 0) (mCon (.int 4))) aNil)) (mCall "are_unlike" (aCons (mTwo atX (mVar 0) (mCon (.int 4))) aNil)))) cNil)))
def v_is_made_row:MFn:=⟨["value"],1,m_is_made_row,[]⟩
def m_check_names:C:=(cSeq (cFor (iAny (mMeth allM "blocks" (mVar 0) aNil)) (gN 2) (cSeq (cIf (bCmp (mTwo notInX (mVar 2) (mVar 1))) (cSeq (cRaise "UnknownBlock" (aCons (mVar 2) aNil)) cNil) cNil) cNil)) (cSeq (cFor (iAny (mVar 1)) (gN 2) (cSeq (cIf (bCmp (bin2 (inF allM true) (mVar 2) (mVar 0))) (cSeq (cRaise "UnknownBlock" (aCons (mVar 2) aNil)) cNil) cNil) cNil)) cNil))
def v_check_names:MFn:=⟨["source","blocks","block"],2,m_check_names,[]⟩
def m_has_return:C:=(cSeq (cRet (mTwo eqX (mTwo atX (mMeth allM "end" (mVar 0) (aCons (mVar 1) aNil)) (mCon (.int 0))) (mCon (.str "return")))) cNil)
def v_has_return:MFn:=⟨["source","block"],2,m_has_return,[]⟩
def m_split_rows:C:=(cSeq (cIf (bNot (bVal (mBlt isiD (rCons (mVar 2) (rCons (mCon (.ty "tuple")) rNil))))) (cSeq (cRet (mCon .non)) cNil) cNil) (cSeq (cMul (rCons (mVar 2) (rCons (mCon .non) rNil)) [(gN 3),(gN 4)]) (cSeq (cIf (bVal (mCall "has_return" (aCons (mVar 0) (aCons (mVar 1) aNil)))) (cSeq (cIf (bOr (bCmp (mTwo eqX (mBlt lenX (rCons (mVar 2) rNil)) (mCon (.int 0)))) (bOr (bNot (bVal (mCall "has_kind" (aCons (mTwo atX (mVar 2) (mOne negD (mCon (.int 1)))) (aCons (mCon (.str "return")) (aCons (mCon (.int 2)) aNil)))))) (bNot (bVal (mCall "is_name" (aCons (mTwo atX (mTwo atX (mVar 2) (mOne negD (mCon (.int 1)))) (mCon (.int 1))) aNil)))))) (cSeq (cRet (mCon .non)) cNil) cNil) (cSeq (cMul (rCons (mSl (mVar 2) pNone (pSome (mOne negD (mCon (.int 1))))) (rCons (mTwo atX (mTwo atX (mVar 2) (mOne negD (mCon (.int 1)))) (mCon (.int 1))) rNil)) [(gN 3),(gN 4)]) cNil)) cNil) (cSeq (cIf (bOr (bCmp (mTwo gtD (mBlt lenX (rCons (mVar 3) rNil)) (mCon (.int 16)))) (bNot (bVal (mBlt allD (rCons (mLc (iAny (mVar 3)) (gN 5) bYes (mCall "is_made_row" (aCons (mVar 5) aNil)) [5]) rNil))))) (cSeq (cRet (mCon .non)) cNil) cNil) (cSeq (cRet (mTup (aCons (mVar 3) (aCons (mVar 4) aNil)))) cNil)))))
def v_split_rows:MFn:=⟨["source","block","value","rows","place","row"],3,m_split_rows,[]⟩
def m_are_labels:C:=(cSeq (cAsg (mBlt lenX (rCons (mMeth allM "rows" (mVar 0) (aCons (mVar 1) aNil)) rNil)) (gN 4)) (cSeq (cIf (bOr (bNot (bVal (mBlt isiD (rCons (mVar 3) (rCons (mCon (.ty "tuple")) rNil))))) (bCmp (mTwo neX (mBlt lenX (rCons (mVar 3) rNil)) (mTwo addD (mBlt lenX (rCons (mVar 2) rNil)) (mCon (.int 1)))))) (cSeq (cRet (mCon (.bl false))) cNil) cNil) (cSeq (cRet (mAnd (mBlt allD (rCons (mLc (iAny (mVar 3)) (gN 5) bYes (mAnd (mCall "is_integer" (aCons (mVar 5) aNil)) (mChain leD leD (mCon (.int 0)) (mVar 5) (mVar 4))) [5]) rNil)) (mTwo eqX (mTwo atX (mVar 3) (mOne negD (mCon (.int 1)))) (mVar 4)))) cNil)))
def v_are_labels:MFn:=⟨["source","block","rows","value","most","label"],4,m_are_labels,[]⟩
def m_checked_lies:C:=(cSeq (cAsg mDic0 (gN 2)) (cSeq (cForEn (aCons (mOne (fldD "inputs") (mVar 0)) aNil) (gT 2 (gsCons (gN 3) (gsCons (gN 4) gsNil))) (cSeq (cIf (bOr (bCmp (mTwo notInX (mVar 4) (mVar 1))) (bOr (bNot (bVal (mCall "is_name" (aCons (mTwo atX (mVar 1) (mVar 4)) aNil)))) (bCmp (mTwo inX (mTwo atX (mVar 1) (mVar 4)) (mOne valsD (mVar 2)))))) (cSeq (cRaise "BadInput" (aCons (mVar 3) aNil)) cNil) cNil) (cSeq (cSetX (mTwo atX (mVar 1) (mVar 4)) (mVar 2) (mVar 4)) cNil))) (cSeq (cIf (bCmp (mTwo neX (mBlt lenX (rCons (mVar 1) rNil)) (mBlt lenX (rCons (mVar 2) rNil)))) (cSeq (cRaise "BadInput" (aCons (mCon .non) aNil)) cNil) cNil) (cSeq (cRet (mVar 2)) cNil))))
def v_checked_lies:MFn:=⟨["source","lies","found","index","name"],2,m_checked_lies,[]⟩
def m_Made_init:C:=(cSeq (cExpr (mCall "check_names" (aCons (mVar 1) (aCons (mVar 2) aNil)))) (cSeq (cFld (mVar 1) (mVar 0) "source") (cSeq (cFld (mCell mDic0) (mVar 0) "codes") (cSeq (cFor (iAny (mMeth allM "blocks" (mVar 1) aNil)) (gN 6) (cSeq (cAsg (mCall "split_rows" (aCons (mVar 1) (aCons (mVar 6) (aCons (mTwo atX (mVar 2) (mVar 6)) aNil)))) (gN 7)) (cSeq (cIf (bCmp (mTwo isNoneD (mVar 7) (mCon .non))) (cSeq (cRaise "BadRow" (aCons (mVar 6) aNil)) cNil) cNil) (cSeq (cSetX (mVar 7) (mOne (fldD "codes") (mVar 0)) (mVar 6)) cNil)))) (cSeq (cFld (mCell mDic0) (mVar 0) "marks") (cSeq (cFor (iAny (mMeth allM "blocks" (mVar 1) aNil)) (gN 6) (cSeq (cIf (bOr (bCmp (mTwo notInX (mVar 6) (mVar 3))) (bNot (bVal (mCall "are_labels" (aCons (mVar 1) (aCons (mVar 6) (aCons (mTwo atX (mTwo atX (mOne (fldD "codes") (mVar 0)) (mVar 6)) (mCon (.int 0))) (aCons (mTwo atX (mVar 3) (mVar 6)) aNil)))))))) (cSeq (cRaise "BadLabels" (aCons (mVar 6) aNil)) cNil) cNil) (cSeq (cSetX (mTwo atX (mVar 3) (mVar 6)) (mOne (fldD "marks") (mVar 0)) (mVar 6)) cNil))) (cSeq (cFld (mCall "checked_lies" (aCons (mVar 1) (aCons (mVar 4) aNil))) (mVar 0) "homes") (cSeq (cIf (bOr (bNot (bVal (mCall "are_names" (aCons (mVar 5) aNil)))) (bNot (bVal (mCall "are_unlike" (aCons (mTup (aStar (mVar 5) (aStarV (mOne (fldD "homes") (mVar 0)) aNil))) aNil))))) (cSeq (cRaise "BadShown" (aCons (mVar 5) aNil)) cNil) cNil) (cSeq (cFld (mVar 5) (mVar 0) "entries") cNil)))))))))
def v_Made_init:MFn:=⟨["self","source","blocks","labels","lies","entries","block","code"],6,m_Made_init,[(.tup [])]⟩
def m_law_mapped:C:=(cSeq (cIf (bCmp (mTwo eqX (mTwo atX (mVar 1) (mCon (.int 0))) (mCon (.str "copy")))) (cSeq (cRet (mTup (aCons (mCon (.str "copy")) (aCons (mTwo atX (mVar 0) (mTwo atX (mVar 1) (mCon (.int 1)))) (aCons (mTwo atX (mVar 0) (mTwo atX (mVar 1) (mCon (.int 2)))) aNil))))) cNil) cNil) (cSeq (cRet (mTup (aCons (mCon (.str "set")) (aCons (mTwo atX (mVar 0) (mTwo atX (mVar 1) (mCon (.int 1)))) (aCons (mTwo atX (mVar 1) (mCon (.int 2))) (aCons (mBlt tupleOfD (rCons (mLc (iAny (mTwo atX (mVar 1) (mCon (.int 3)))) (gN 2) bYes (mTwo atX (mVar 0) (mVar 2)) [2]) rNil)) aNil)))))) cNil))
def v_law_mapped:MFn:=⟨["_law_seat","_law_row_here","_law_word"],2,m_law_mapped,[]⟩
def m_law_bent_rows:C:=(cSeq (cAsg (mCall "_law_draw" (aCons (mVar 0) (aCons (mCon (.int 6)) aNil))) (gN 4)) (cSeq (cAsg (mCall "_law_draw" (aCons (mVar 0) (aCons (mTwo addD (mBlt lenX (rCons (mVar 1) rNil)) (mCon (.int 1))) aNil))) (gN 5)) (cSeq (cIf (bAnd (bCmp (mTwo eqX (mVar 4) (mCon (.int 0)))) (bCmp (mTwo ltD (mVar 5) (mBlt lenX (rCons (mVar 1) rNil))))) (cSeq (cRet (mTwo addD (mSl (mVar 1) pNone (pSome (mVar 5))) (mSl (mVar 1) (pSome (mTwo addD (mVar 5) (mCon (.int 1)))) pNone))) cNil) cNil) (cSeq (cIf (bAnd (bCmp (mTwo eqX (mVar 4) (mCon (.int 1)))) (bCmp (mTwo ltD (mBlt lenX (rCons (mVar 1) rNil)) (mCon (.int 8))))) (cSeq (cAsg (mIf (bCmp (mTwo ltD (mVar 5) (mBlt lenX (rCons (mVar 1) rNil)))) (mTwo atX (mTwo atX (mVar 1) (mVar 5)) (mCon (.int 1))) (mCon .non)) (gN 6)) (cSeq (cAsg (mCall "_law_pick" (aCons (mVar 0) (aCons (mVar 2) aNil))) (gN 7)) (cSeq (cRet (mTwo addD (mTwo addD (mSl (mVar 1) pNone (pSome (mVar 5))) (mLst (aCons (mLst (aCons (mTup (aCons (mCon (.str "copy")) (aCons (mVar 7) (aCons (mCall "_law_pick" (aCons (mVar 0) (aCons (mVar 2) aNil))) aNil)))) (aCons (mVar 6) aNil))) aNil))) (mSl (mVar 1) (pSome (mVar 5)) pNone))) cNil))) cNil) (cSeq (cIf (bAnd (bCmp (mTwo eqX (mVar 4) (mCon (.int 2)))) (bCmp (mTwo ltD (mTwo addD (mVar 5) (mCon (.int 1))) (mBlt lenX (rCons (mVar 1) rNil))))) (cSeq (cRet (mTwo addD (mTwo addD (mSl (mVar 1) pNone (pSome (mVar 5))) (mLst (aCons (mTwo atX (mVar 1) (mTwo addD (mVar 5) (mCon (.int 1)))) (aCons (mTwo atX (mVar 1) (mVar 5)) aNil)))) (mSl (mVar 1) (pSome (mTwo addD (mVar 5) (mCon (.int 2)))) pNone))) cNil) cNil) (cSeq (cIf (bAnd (bCmp (mTwo eqX (mVar 4) (mCon (.int 3)))) (bAnd (bCmp (mTwo ltD (mVar 5) (mBlt lenX (rCons (mVar 1) rNil)))) (bCmp (mTwo eqX (mTwo atX (mTwo atX (mTwo atX (mVar 1) (mVar 5)) (mCon (.int 0))) (mCon (.int 0))) (mCon (.str "set")))))) (cSeq (cAsg (mTwo atX (mVar 1) (mVar 5)) (gT 2 (gsCons (gN 8) (gsCons (gN 6) gsNil)))) (cSeq (cAsg (mBlt tupleOfD (rCons (mLc (iAny (mVar 2)) (gN 7) (bCmp (mTwo gtD (mCall "_law_draw" (aCons (mVar 0) (aCons (mCon (.int 3)) aNil))) (mCon (.int 0)))) (mVar 7) [7]) rNil)) (gN 9)) (cSeq (cAsg (mTup (aCons (mCon (.str "call")) (aCons (mTwo atX (mVar 8) (mCon (.int 1))) (aCons (mTwo atX (mVar 8) (mCon (.int 2))) (aCons (mTwo atX (mVar 8) (mCon (.int 3))) (aCons (mVar 9) aNil)))))) (gN 10)) (cSeq (cRet (mTwo addD (mTwo addD (mSl (mVar 1) pNone (pSome (mVar 5))) (mLst (aCons (mLst (aCons (mVar 10) (aCons (mVar 6) aNil))) aNil))) (mSl (mVar 1) (pSome (mTwo addD (mVar 5) (mCon (.int 1)))) pNone))) cNil)))) cNil) (cSeq (cIf (bAnd (bCmp (mTwo eqX (mVar 4) (mCon (.int 4)))) (bCmp (mTwo ltD (mVar 5) (mBlt lenX (rCons (mVar 1) rNil))))) (cSeq (cAsg (mTwo atX (mVar 1) (mVar 5)) (gT 2 (gsCons (gN 8) (gsCons (gN 6) gsNil)))) (cSeq (cAsg (mTwo addD (mTup (aCons (mTwo atX (mVar 8) (mCon (.int 0))) (aCons (mCall "_law_pick" (aCons (mVar 0) (aCons (mVar 2) aNil))) aNil))) (mSl (mVar 8) (pSome (mCon (.int 2))) pNone)) (gN 11)) (cSeq (cRet (mTwo addD (mTwo addD (mSl (mVar 1) pNone (pSome (mVar 5))) (mLst (aCons (mLst (aCons (mVar 11) (aCons (mVar 6) aNil))) aNil))) (mSl (mVar 1) (pSome (mTwo addD (mVar 5) (mCon (.int 1)))) pNone))) cNil))) cNil) (cSeq (cRet (mVar 1)) cNil))))))))
def v_law_bent_rows:MFn:=⟨["_law_pool_here","_law_rows","_law_spots","_law_ops","_law_kind","_law_at","_law_label","_law_spot","_law_row_here","_law_kept","_law_call","_law_other"],4,m_law_bent_rows,[]⟩
def m_law_code:C:=(cSeq (cAsg (mTwo addD (mLc (iRg1 (rCons (mBlt lenX (rCons (mTwo atX (mVar 1) (mCon (.str "words"))) rNil)) rNil)) (gN 14) bYes (mTwo mulX (mCon (.str "r")) (mTwo addD (mVar 14) (mCon (.int 1)))) [14]) (mLst (aCons (mCon (.str "s")) (aCons (mCon (.str "ss")) aNil)))) (gN 3)) (cSeq (cAsg (mBlt dictX (rCons (mLc (iRg1 (rCons (mBlt lenX (rCons (mTwo atX (mVar 1) (mCon (.str "words"))) rNil)) rNil)) (gN 14) bYes (mTup (aCons (mTwo atX (mTwo atX (mVar 1) (mCon (.str "words"))) (mVar 14)) (aCons (mTwo atX (mVar 3) (mVar 14)) aNil))) [14]) rNil)) (gN 4)) (cSeq (cAsg (mDisp [((mCon (.str "spots")),(mVar 3)),((mCon (.str "seat")),(mVar 4)),((mCon (.str "entries")),(mTup aNil))]) (gN 5)) (cSeq (cFor (iAny (mLst (aCons (mCon (.str "rows")) (aCons (mCon (.str "labels")) (aCons (mCon (.str "ret")) (aCons (mCon (.str "lies")) aNil)))))) (gN 6) (cSeq (cSetX (mCell mDic0) (mVar 5) (mVar 6)) cNil)) (cSeq (cFor (iAny (mTwo atX (mVar 1) (mCon (.str "blocks")))) (gT 3 (gsCons (gN 7) (gsCons (gN 8) (gsCons (gN 9) gsNil)))) (cSeq (cAsg (mLc (iRg1 (rCons (mBlt lenX (rCons (mVar 8) rNil)) rNil)) (gN 15) bYes (mLst (aCons (mCall "_law_mapped" (aCons (mVar 4) (aCons (mTwo atX (mVar 8) (mVar 15)) aNil))) (aCons (mVar 15) aNil))) [15]) (gN 10)) (cSeq (cFor (iRg1 (rCons (mCall "_law_draw" (aCons (mVar 0) (aCons (mTwo addD (mVar 2) (mCon (.int 1))) aNil))) rNil)) (gN 11) (cSeq (cAsg (mCall "_law_bent_rows" (aCons (mVar 0) (aCons (mVar 10) (aCons (mVar 3) (aCons (mTwo atX (mVar 1) (mCon (.str "ops"))) aNil))))) (gN 10)) cNil)) (cSeq (cSetX (mLc (iAny (mVar 10)) (gN 16) bYes (mTwo atX (mVar 16) (mCon (.int 0))) [16]) (mTwo atX (mVar 5) (mCon (.str "rows"))) (mVar 7)) (cSeq (cAsg (mLc (iAny (mVar 10)) (gN 16) bYes (mIf (bCmp (mTwo isNoneD (mTwo atX (mVar 16) (mCon (.int 1))) (mCon .non))) (mBlt lenX (rCons (mVar 8) rNil)) (mTwo atX (mVar 16) (mCon (.int 1)))) [16]) (gN 12)) (cSeq (cSetX (mTwo addD (mVar 12) (mLst (aCons (mBlt lenX (rCons (mVar 8) rNil)) aNil))) (mTwo atX (mVar 5) (mCon (.str "labels"))) (mVar 7)) (cSeq (cSetX (mIf (bCmp (mTwo eqX (mTwo atX (mVar 9) (mCon (.int 0))) (mCon (.str "return")))) (mTwo atX (mVar 4) (mTwo atX (mVar 9) (mCon (.int 1)))) (mCon .non)) (mTwo atX (mVar 5) (mCon (.str "ret"))) (mVar 7)) cNil))))))) (cSeq (cFor (iAny (mTwo atX (mVar 1) (mCon (.str "inputs")))) (gN 13) (cSeq (cSetX (mTwo atX (mVar 4) (mVar 13)) (mTwo atX (mVar 5) (mCon (.str "lies"))) (mVar 13)) cNil)) (cSeq (cIf (bCmp (mTwo eqX (mCall "_law_draw" (aCons (mVar 0) (aCons (mCon (.int 3)) aNil))) (mCon (.int 0)))) (cSeq (cSetX (mTup (aCons (mCon (.str "ss")) aNil)) (mVar 5) (mCon (.str "entries"))) cNil) cNil) (cSeq (cRet (mVar 5)) cNil))))))))
def v_law_code:MFn:=⟨["_law_pool_here","_law_s","_law_many","_law_spots","_law_seat","_law_code_here","_law_key","_law_block","_law_rows","_law_end_here","_law_mine","_law_turn","_law_marks","_law_word","_law_k","_law_at","_law_row_here"],3,m_law_code,[]⟩
end
end Vs
namespace Vs
open PySem PySem.Spec PyProof.Rows L2 Mi
variable {tab:Str→Option MFn} {P:List Bk} {ins:List Str}
structure MadeT (tab:Str→Option MFn):Prop extends SrcG tab where
  rows_:tab "Source.rows"=some v_Source_rows
  end_:tab "Source.end"=some v_Source_end
  is_integer:tab "is_integer"=some v_is_integer
  are_unlike:tab "are_unlike"=some v_are_unlike
  is_made_row:tab "is_made_row"=some v_is_made_row
  check_names:tab "check_names"=some v_check_names
  has_return:tab "has_return"=some v_has_return
  split_rows:tab "split_rows"=some v_split_rows
  are_labels:tab "are_labels"=some v_are_labels
  checked_lies:tab "checked_lies"=some v_checked_lies
  init:tab "Made.__init__"=some v_Made_init
def isInt:D→Bool
  | .int _=>true
  |_=>false
def unlikeD:D→Bool
  | .tup ws=>decide (strsOf ws).Nodup
  |_=>false
def isMade (d:D):Bool:=match d with
  | .tup [a,b,c,e,f]=>decide (first [a,b,c,e,f]=some ("call":Str))&&((isName b&&(isName c&&(areNames e&&decide (lenT e≤2))))&&(areNames f&&unlikeD f))
  |d=>isRow d
theorem five {r:List D} {kd:Str} (h:hasKind (.tup r) kd 5=true): ∃ a b c e f,r=[a,b,c,e,f]∧first [a,b,c,e,f]=some kd:=by
  simp only [hasKind,Bool.and_eq_true,decide_eq_true_eq] at h
  match r,h with
  |[a,b,c,e,f],h=>exact ⟨a,b,c,e,f,rfl,h.2⟩
  |[],hk=>simp at hk
  |[_],hk=>simp at hk
  |[_,_],hk=>simp at hk
  |[_,_,_],hk=>simp at hk
  |[_,_,_,_],hk=>simp at hk
  |_::_::_::_::_::_::_,hk=>simp at hk;omega
theorem isRow_set {b c e:D}:isRow (.tup [.str "set",b,c,e])=(isName b&&(isName c&&(areNames e&&decide (lenT e≤2)))):=by
  simp only [isRow,first,decide_true,Bool.true_and]
def strK (ks:List Str):List Key:=ks.map .inr
theorem strK_any {ks:List Str} {x:Str}:((strK ks).any fun g=>decide (g=(.inr x:Key)))=decide (x∈ks):=by
  rw [Bool.eq_iff_iff]
  simp only [strK,List.any_map,List.any_eq_true,Function.comp,decide_eq_true_eq]
  constructor
  · rintro ⟨y,hy,e⟩;cases e;exact hy
  · intro h;exact ⟨x,h,rfl⟩
end Vs
namespace Vs
open PySem PySem.Spec PyProof.Rows L2 Mi
variable {tab:Str→Option MFn} {P:List Bk} {ins:List Str}
def retB (p:Bk):Bool:=match p.2.2 with
  | .tup (.str x::_)=>decide (x="return")
  |_=>false
def sndD:D→D
  | .tup [_,b]=>b
  |_=>.non
def rowsOk (rows:List D) (pl:D):Option (List D×D):=if rows.length≤16∧rows.all isMade=true then some (rows,pl) else none
def splitD (ret:Bool):D→Option (List D×D)
  | .tup vs=>if ret then (match vs.getLast? with
      |some l=>if hasKind l "return" 2&&isName (sndD l) then rowsOk vs.dropLast (sndD l) else none
      |none=>none) else rowsOk vs .non
  |_=>none
def labB (most:Nat):D→Bool
  | .int i=>decide (0≤i)&&decide (i≤most)
  |_=>false
def lastI (most:Nat) (vs:List D):Bool:=match vs.getLast? with
  |some (.int i)=>decide (i=most)
  |_=>false
def labels (most n:Nat):D→Bool
  | .tup vs=>decide (vs.length=n+1)&&(vs.all (labB most)&&lastI most vs)
  |_=>false
end Vs
namespace Vs
open PySem PySem.Spec PyProof.Rows L2 Mi
variable {tab:Str→Option MFn} {P:List Bk} {ins:List Str}
theorem put_str {pn:List Str} {vs:List D} {n:Str} {d:D} (h:n∉pn):putD (strK pn) vs (.inr n) d=(strK (pn++[n]),vs++[d]):=by
  unfold putD
  rw [strK_any,decide_eq_false h,if_neg Bool.false_ne_true]
  simp [strK]
end Vs
namespace Vs
open PySem PySem.Spec PyProof.Rows L2 Mi
section
variable {h r:List O} {a b c x:O}
theorem hp0:(h++a::r)[h.length]?=some a:=by simp
theorem hs1:(h++a::b::r).set (h.length+1) x=h++a::x::r:=by rw [List.set_append_right _ _ (by omega)];simp
theorem hs2:(h++a::b::c::r).set (h.length+2) x=h++a::b::x::r:=by rw [List.set_append_right _ _ (by omega)];simp
theorem hl2:(h++[a,b]).length=h.length+2:=by simp
end
theorem put_fld {f:Str} {d:D} {fs:List Str} {xs:List D} (h:f∉fs):putL f d fs xs=(fs++[f],xs++[d]):=if_neg h
theorem pm1 {d:D}:putL "source" d [] []=((["source"]:List Str),[d]):=rfl
theorem pm2 {d a:D}:putL "codes" d ["source"] [a]=((["source","codes"]:List Str),[a,d]):=put_fld (by decide+kernel)
theorem pm3 {d a b:D}:putL "marks" d ["source","codes"] [a,b]=((["source","codes","marks"]:List Str),[a,b,d]):=put_fld (by decide+kernel)
theorem pm4 {d a b c:D}:putL "homes" d ["source","codes","marks"] [a,b,c]=((["source","codes","marks","homes"]:List Str),[a,b,c,d]):=put_fld (by decide+kernel)
theorem pm5 {d a b c e:D}:putL "entries" d ["source","codes","marks","homes"] [a,b,c,e]=((["source","codes","marks","homes","entries"]:List Str),[a,b,c,e,d]):=put_fld (by decide+kernel)
theorem f2:decide ((2:Nat)<900)=true:=rfl
theorem f3:decide ((3:Nat)<900)=true:=rfl
theorem f4:decide ((4:Nat)<900)=true:=rfl
variable {tab:Str→Option MFn} {P:List Bk} {ins:List Str}
def namesP (P:List Bk):List Str:=P.map (·.1)
abbrev dvl (ks:List Str) (xs:List D) (b:Str):Option D:=valD (strK ks) xs (.inr b)
end Vs
namespace Vs
open PySem PySem.Spec PyProof.Rows L2 Mi
variable {tab:Str→Option MFn} {P:List Bk} {ins:List Str}
def madeV (P:List Bk) (ins:List Str) (codes marks:List D) (homes:List Str) (en:D):D:=
  .ins "Made" ["source","codes","marks","homes","entries"] [srcV P ins,.dic (strK (namesP P)) codes,.dic (strK (namesP P)) marks,.dic (strK ins) (homes.map .str),en]
section
variable (T:MadeT tab) (W:WfP P) {ks lks sks:List Str} {xs lxs sxs:List D} {en:D}
include T W
end
end Vs
namespace Vs
open PySem PySem.Spec PyProof.Rows L2 Mi
inductive Rw where
  |copy (x y:Str)
  |set (x o:Str) (l:List Str)
  |call (x o:Str) (l kp:List Str)
def rwD:Rw→D
  | .copy x y=>.tup [.str "copy",.str x,.str y]
  | .set x o l=>.tup [.str "set",.str x,.str o,.tup (l.map .str)]
  | .call x o l kp=>.tup [.str "call",.str x,.str o,.tup (l.map .str),.tup (kp.map .str)]
def RwOk (sp ops:List Str):Rw→Prop
  | .copy x y=>x∈sp∧y∈sp
  | .set x o l=>x∈sp∧o∈ops∧(∀ w∈l,w∈sp)∧l.length≤2
  | .call x o l kp=>x∈sp∧o∈ops∧(∀ w∈l,w∈sp)∧l.length≤2∧kp.Sublist sp
def Rw.plain:Rw→Bool
  | .call _ _ _ _=>false
  |_=>true
variable {tab:Str→Option MFn}
def Rw.at (z:Str):Rw→Rw
  | .copy _ y=>.copy z y
  | .set _ o l=>.set z o l
  | .call _ o l kp=>.call z o l kp
end Vs
namespace Vs
open PySem PySem.Spec PyProof.Rows L2 Mi
theorem _root_.Mi.PoolAt.lt {h:List O} {n:Nat} (p:PoolAt h n):n<h.length:=by
  obtain ⟨a,b,e,_⟩:=p
  rcases Nat.lt_or_ge n h.length with z|z
  · exact z
  · rw [List.getElem?_eq_none z] at e;cases e
theorem _root_.Mi.PoolAt.app {g X:List O} {n:Nat} (p:PoolAt g n):PoolAt (g++X) n:=by
  obtain ⟨a,b,e,r⟩:=p
  exact ⟨a,b,by rw [List.getElem?_append_left (PoolAt.lt ⟨a,b,e,r⟩)];exact e,r⟩
theorem _root_.Mi.PoolTo.app {g X h':List O} {n:Nat} (hn:n<g.length) (p:PoolTo n (g++X) h'): ∃ g',h'=g'++X∧PoolTo n g g':=by
  obtain ⟨hl,hs,a,b,e,r⟩:=p
  rw [List.length_append] at hl
  refine ⟨h'.take g.length, ?_,by rw [List.length_take];omega,fun i hi=>?_,a,b, ?_,r⟩
  · conv=>lhs;rw [←List.take_append_drop g.length h']
    congr 1
    refine List.ext_getElem? fun i=>?_
    rw [List.getElem?_drop,hs _ (by omega),List.getElem?_append_right (by omega)]
    congr 1
    omega
  · rcases Nat.lt_or_ge i g.length with z|z
    · rw [List.getElem?_take_of_lt z,hs i hi,List.getElem?_append_left z]
    · rw [List.getElem?_eq_none (by rw [List.length_take];omega),List.getElem?_eq_none z]
  · rw [List.getElem?_take_of_lt hn];exact e
section
variable {g r:List O} {q:Nat} {a b c d x:O}
end
structure Cb where
  rows:List Rw
  labs:List Nat
  ret:Option Str
def retD:Option Str→D
  |some x=>.str x
  |none=>.non
structure CbOk (f:Str→Str) (sp ops:List Str) (p:Bk) (c:Cb):Prop where
  few:c.rows.length≤7
  rows: ∀ r∈c.rows,RwOk sp ops r
  len:c.labs.length=c.rows.length+1
  labs: ∀ x∈c.labs,x≤p.2.1.length
  last:c.labs.getLast?=some p.2.1.length
  ret:(∃ w,p.2.2= .tup [.str "return",.str w]∧c.ret=some (f w))∨(retB p=false∧c.ret=none)
inductive CodesOk (f:Str→Str) (sp ops:List Str):List Bk→List Cb→Prop
  |nil:CodesOk f sp ops [] []
  |cons {p:Bk} {c:Cb} {P:List Bk} {C:List Cb}:CbOk f sp ops p c→CodesOk f sp ops P C→CodesOk f sp ops (p::P) (c::C)
theorem CodesOk.len {f:Str→Str} {sp ops:List Str} {P:List Bk} {C:List Cb} (h:CodesOk f sp ops P C):P.length=C.length:=by
  induction h with
  |nil=>rfl
  |cons _ _ ih=>simp [ih]
section
variable {a b c d e f g:D}
end
variable {tab:Str→Option MFn}
structure CodeT (tab:Str→Option MFn):Prop extends Gens tab where
  mapped:tab "_law_mapped"=some v_law_mapped
  bent:tab "_law_bent_rows"=some v_law_bent_rows
  code:tab "_law_code"=some v_law_code
end Vs
namespace Vs
open PySem PySem.Spec PyProof.Rows L2 Mi
def spotsR:Nat→List Str
  |2=>["r","rr"]
  |_=>["r","rr","rrr"]
def spots (n:Nat):List Str:=spotsR n++(["s","ss"]:List Str)
def seatF (ws:List Str) (w:Str):Str:=match valD (strK ws) ((spotsR ws.length).map .str) (.inr w) with
  |some (.str y)=>y
  |_=>""
theorem merge_app: ∀ (ps:List (Str×D)) (ks:List Str) (xs:List D),(ks++ps.map (·.1)).Nodup→mergeD (ps.map fun p=>((.inr p.1:Key),p.2)) (strK ks,xs)=(strK (ks++ps.map (·.1)),xs++ps.map (·.2))
  |[],ks,xs,_=>by simp [Mi.mergeD]
  | p::ps,ks,xs,h=>by
    have hn:p.1∉ks:=fun z=>(List.nodup_append.mp h).2.2 _ z _ (by simp) rfl
    have ih:=merge_app ps (ks++[p.1]) (xs++[p.2]) (by simpa using h)
    have e:mergeD ((p::ps).map fun p=>((.inr p.1:Key),p.2)) (strK ks,xs)=mergeD (ps.map fun p=>((.inr p.1:Key),p.2)) (putD (strK ks) xs (.inr p.1) p.2):=rfl
    rw [e,put_str hn,ih]
    simp
theorem pairs_map: ∀ (ps:List (Str×D)),pairsD (ps.map fun p=>.tup [.str p.1,p.2])=some (ps.map fun p=>((.inr p.1:Key),p.2))
  |[]=>rfl
  |p::ps=>by simp only [List.map_cons,pairsD,Mi.pairD,keyD,Option.map_some,Option.bind_some,pairs_map ps]
theorem dict_pairs {ps:List (Str×D)} (h:(ps.map (·.1)).Nodup):dictX [.lst (ps.map fun p=>.tup [.str p.1,p.2])]=some (.dic (strK (ps.map (·.1))) (ps.map (·.2))):=by
  have e:=merge_app ps [] [] (by simpa using h)
  simp only [dictX,orN,dictOfD,dictPD,pairs_map,Option.bind_some]
  have e':mergeD (ps.map fun p=>((.inr p.1:Key),p.2)) ([],[])=_:=e
  rw [e']
  simp
variable {tab:Str→Option MFn}
theorem forL_nx {call:Call} {g:Tg} {body:C} {d:D} {ds:List D} {s s1 s2:S} (h1:g (.fz d) s=some s1) (h2:body call s1= .nx s2):forL call g body (d::ds) s=forL call g body ds s2:=by simp only [forL,h1,h2]
section
variable {g:List O} {n q:Nat} {bs ws ops:List Str} {most:Nat} {rows:List D}
end
end Vs
namespace Vs
open PySem PySem.Spec PyProof.Rows L2 Mi
variable {tab:Str→Option MFn}
section
variable {a b c d e f g x:D}
end
end Vs
namespace Vs
open PySem PySem.Spec PyProof.Rows L2 Mi
def GdW (l:List Str):Prop:= ∀ x∈l,isName (.str x)=true∧okD (.str x)=true∧PyData.strOk x=true
theorem kCall_:PyData.strOk "call"=true:=by decide+kernel
theorem kCopy_:PyData.strOk "copy"=true:=by decide+kernel
theorem kSet_:PyData.strOk "set"=true:=by decide+kernel
theorem areN {sp l:List Str} (hs:GdW sp) (hl: ∀ w∈l,w∈sp):areNames (.tup (l.map .str))=true:=by
  simp only [areNames,List.all_map,List.all_eq_true,Function.comp]
  exact fun w hw=>(hs w (hl w hw)).1
theorem okTt {sp l:List Str} (hs:GdW sp) (hl: ∀ w∈l,w∈sp) (hn:l.length≤1000):okT (.tup (l.map .str))=true:=by
  simp only [okT,List.length_map,Bool.and_eq_true,List.all_map,List.all_eq_true,Function.comp]
  exact ⟨by simp [fitsB];omega,fun w hw=>(hs w (hl w hw)).2.1⟩
theorem okStr {sp:List Str} (hs:GdW sp) {x:Str} (h:x∈sp):okT (.str x)=true:=(hs x h).2.1
theorem k5:okT (.str "copy")=true∧okT (.str "set")=true∧okT (.str "call")=true∧okT (.str "return")=true:=by decide+kernel
theorem rw_made {sp ops:List Str} (hs:GdW sp) (ho:GdW ops) (hd:sp.Nodup) (hn:sp.length≤1000) {r:Rw} (h:RwOk sp ops r):isMade (rwD r)=true∧okU (rwD r)=true∧pur (rwD r)=true∧lyD 2 (rwD r)=true:=by
  cases r with
  | copy x y=>
    refine ⟨?_, ?_,rfl, ?_⟩
    · simp only [rwD,isMade,isRow,first,decide_true,(hs x h.1).1,(hs y h.2).1,Bool.and_self]
    · simp only [rwD,okU,List.all_cons,List.all_nil,k5.1,okStr hs h.1,okStr hs h.2];rfl
    · simp only [rwD,lyD,lyDs,kCopy_,(hs x h.1).2.2,(hs y h.2).2.2,Bool.and_self]
  | set x o l=>
    obtain ⟨h1,h2,h3,h4⟩:=h
    refine ⟨?_, ?_, ?_, ?_⟩
    · simp only [rwD,isMade,isRow_set,(hs x h1).1,(ho o h2).1,areN hs h3,lenT,List.length_map,decide_eq_true h4,Bool.and_self]
    · simp only [rwD,okU,List.all_cons,List.all_nil,k5.2.1,okStr hs h1,okStr ho h2,okTt hs h3 (by omega)];rfl
    · simp only [rwD,pur,purs,purs_strs,Bool.and_self]
    · simp only [rwD,lyD,lyDs,kSet_,(hs x h1).2.2,(ho o h2).2.2,ly_strs fun w hw=>(hs w (h3 w hw)).2.2,Bool.and_self]
  | call x o l kp=>
    obtain ⟨h1,h2,h3,h4,h5⟩:=h
    have hk: ∀ w∈kp,w∈sp:=fun w hw=>h5.subset hw
    have hkn:kp.length≤1000:=Nat.le_trans h5.length_le hn
    refine ⟨?_, ?_, ?_, ?_⟩
    · have hnd:kp.Nodup:=hd.sublist h5
      simp only [rwD,isMade,first,decide_true,(hs x h1).1,(ho o h2).1,areN hs h3,areN hs hk,lenT,List.length_map,decide_eq_true h4,unlikeD,strsOf_map,decide_eq_true hnd,Bool.and_self]
    · simp only [rwD,okU,List.all_cons,List.all_nil,k5.2.2.1,okStr hs h1,okStr ho h2,okTt hs h3 (by omega),okTt hs hk hkn];rfl
    · simp only [rwD,pur,purs,purs_strs,Bool.and_self]
    · simp only [rwD,lyD,lyDs,kCall_,(hs x h1).2.2,(ho o h2).2.2,ly_strs fun w hw=>(hs w (h3 w hw)).2.2,ly_strs fun w hw=>(hs w (hk w hw)).2.2,Bool.and_self]
def retL:Option Str→List D
  |some x=>[.tup [.str "return",.str x]]
  |none=>[]
def partD (c:Cb):D:=.tup (c.rows.map rwD++retL c.ret)
def labT (c:Cb):D:=.tup (c.labs.map fun x=>.int (x:Nat))
section
variable {f:Str→Str} {sp ops:List Str}
theorem rows_ok {p:Bk} {c:Cb} (hs:GdW sp) (ho:GdW ops) (hd:sp.Nodup) (hn:sp.length≤1000) (h:CbOk f sp ops p c) (pl:D):rowsOk (c.rows.map rwD) pl=some (c.rows.map rwD,pl):=by
  have h1:(c.rows.map rwD).all isMade=true:=by
    simp only [List.all_map,List.all_eq_true,Function.comp]
    exact fun r hr=>(rw_made hs ho hd hn (h.rows r hr)).1
  have h2:=h.few
  exact if_pos ⟨by rw [List.length_map];omega,h1⟩
theorem split_part {p:Bk} {c:Cb} (hs:GdW sp) (ho:GdW ops) (hd:sp.Nodup) (hn:sp.length≤1000) (h:CbOk f sp ops p c) (hf: ∀ w,p.2.2= .tup [.str "return",.str w]→f w∈sp):splitD (retB p) (partD c)=some (c.rows.map rwD,retD c.ret):=by
  rcases h.ret with ⟨w,e1,e2⟩|⟨e1,e2⟩
  · have hr:retB p=true:=by simp only [retB,e1,decide_true]
    have hk:hasKind (.tup [.str "return",.str (f w)]) "return" 2=true:=by simp [hasKind,first]
    rw [hr,e2]
    simp only [splitD,partD,e2,retL,if_true,List.getLast?_append,List.getLast?_singleton,Option.some_or,hk,sndD,(hs _ (hf w e1)).1,Bool.and_self,List.dropLast_concat,retD]
    exact rows_ok hs ho hd hn h _
  · rw [e1,e2]
    simp only [splitD,partD,e2,retL,List.append_nil,Bool.false_eq_true,if_false,retD]
    exact rows_ok hs ho hd hn h _
theorem valD_cons {k k':Key} {ks:List Key} {x:D} {xs:List D}:valD (k::ks) (x::xs) k'=if k=k' then some x else valD ks xs k':=by
  unfold valD
  rw [List.zip_cons_cons,List.find?_cons]
  by_cases h:k=k'<;>simp [h]
theorem code_val {P:List Bk} {C:List Cb} (h:CodesOk f sp ops P C) (hn:(namesP P).Nodup): ∀ p∈P,∃ c,c∈C∧CbOk f sp ops p c∧∀ g:Cb→D,valD (strK (namesP P)) (C.map g) (.inr p.1)=some (g c):=by
  induction h with
  |nil=>intro p hp;cases hp
  | @cons q c P C hc _ ih=>
    have hn':(q.1::namesP P).Nodup:=hn
    have hq:=List.nodup_cons.mp hn'
    intro p hp
    rcases List.mem_cons.mp hp with rfl|hp
    · refine ⟨c,by simp,hc,fun g=>?_⟩
      show valD (.inr p.1::strK (namesP P)) (g c::C.map g) (.inr p.1)=_
      rw [valD_cons,if_pos rfl]
    · obtain ⟨c',hm,hc',hv⟩:=ih hq.2 p hp
      refine ⟨c',by simp [hm],hc',fun g=>?_⟩
      show valD (.inr q.1::strK (namesP P)) (g c::C.map g) (.inr p.1)=_
      have: ¬((.inr q.1:Key)= .inr p.1):=fun e=>hq.1 (by rw [Sum.inr.inj e];exact List.mem_map.mpr ⟨p,hp,rfl⟩)
      rw [valD_cons,if_neg this]
      exact hv g
end
theorem val_mapF {g:Str→D}: ∀ {ns:List Str} {n:Str},n∈ns→valD (strK ns) (ns.map g) (.inr n)=some (g n)
  | m ::ns,n,h=>by
    show valD (.inr m::strK ns) (g m::ns.map g) (.inr n)=_
    rw [valD_cons]
    by_cases e:m=n
    · subst e;rw [if_pos rfl]
    · rw [if_neg fun z=>e (Sum.inr.inj z)]
      exact val_mapF ((List.mem_cons.mp h).resolve_left fun z=>e z.symm)
end Vs
namespace Vs
open PySem PySem.Spec PyProof.Rows L2 Mi
section
structure Sw where
  w:List Str
  f:Str→Str
  sp:List Str
abbrev sw0 (ws:List Str):Sw:=⟨ws,seatF ws,spots ws.length⟩
instance:Coe (List Str) Sw:=⟨sw0⟩
variable {P:List Bk} {C:List Cb} {ins ops:List Str} {ws:Sw} {en:List Str}
structure Dr (P:List Bk) (ins:List Str) (ws:Sw) (ops:List Str) (C:List Cb) (en:List Str):Prop where
  W:WfP P
  wl:ws.w.length≤3
  gs:GdW ws.sp
  sl:ws.sp.length≤6
  sn:ws.sp.Nodup
  hf: ∀ {w},w∈ws.w→ws.f w∈ws.sp
  iw: ∀ {w},w∈ins→w∈ws.w
  ind:ins.Nodup
  il:ins.length≤3
  go:GdW ops
  ce:CodesOk ws.f ws.sp ops P C
  el:en.length≤2
  ep: ∀ x∈en,x∈ws.sp
  end_:(en++ins.map ws.f).Nodup
  ret: ∀ p∈P,∀ w,p.2.2= .tup [.str "return",.str w]→w∈ws.w
  few: ∀ p∈P,p.2.1.length≤3
theorem Dr.at (H:Dr P ins ws ops C en) {p:Bk} (hp:p∈P): ∃ c,c∈C∧CbOk ws.f ws.sp ops p c∧(∀ g:Cb→D,dvl (namesP P) (C.map g) p.1=some (g c))∧splitD (retB p) (partD c)=some (c.rows.map rwD,retD c.ret):=by
  obtain ⟨c,h1,h2,h3⟩:=code_val H.ce H.W.nd p hp
  exact ⟨c,h1,h2,h3,split_part H.gs H.go (H.sn) (by have:=H.sl;omega) h2 fun w hw=>H.hf (H.ret p hp w hw)⟩
end
end Vs
namespace Vs
open PySem PySem.Spec PyProof.Rows L2 Mi
noncomputable section
def m_Pool_init:C:=(cSeq (cFld (mCell mDic0) (mVar 0) "numbers") (cSeq (cFld (mCell (mLst aNil)) (mVar 0) "built") cNil))
def v_Pool_init:MFn:=⟨["self"],1,m_Pool_init,[]⟩
def m_Pool_number:C:=(cSeq (cIf (bCmp (mTwo notInX (mVar 1) (mOne (fldD "numbers") (mVar 0)))) (cSeq (cSetX (mBlt lenX (rCons (mOne (fldD "built") (mVar 0)) rNil)) (mOne (fldD "numbers") (mVar 0)) (mVar 1)) (cSeq (cApp (mOne (fldD "built") (mVar 0)) (mMeth allM "build" (mVar 0) (aCons (mVar 1) aNil))) cNil)) cNil) (cSeq (cRet (mTwo atX (mOne (fldD "numbers") (mVar 0)) (mVar 1))) cNil))
def v_Pool_number:MFn:=⟨["self","head"],2,m_Pool_number,[]⟩
def m_Pool_build:C:=(cSeq (cIf (bCmp (mTwo eqX (mVar 1) (mCon (.tup [(.str "nothing")])))) (cSeq (cRet (mCon .non)) cNil) cNil) (cSeq (cIf (bCmp (mTwo eqX (mTwo atX (mVar 1) (mCon (.int 0))) (mCon (.str "op")))) (cSeq (cRet (mTup (aCons (mCon (.str "op")) (aCons (mTwo atX (mVar 1) (mCon (.int 1))) (aCons (mBlt tupleOfD (rCons (mLc (iAny (mSl (mVar 1) (pSome (mCon (.int 2))) pNone)) (gN 2) bYes (mTwo atX (mOne (fldD "built") (mVar 0)) (mVar 2)) [2]) rNil)) aNil))))) cNil) cNil) (cSeq (cRet (mVar 1)) cNil)))
def v_Pool_build:MFn:=⟨["self","head","number"],2,m_Pool_build,[]⟩
def m_Pool_term:C:=(cSeq (cRet (mTwo atX (mOne (fldD "built") (mVar 0)) (mVar 1))) cNil)
def v_Pool_term:MFn:=⟨["self","number"],2,m_Pool_term,[]⟩
def m_Pool_nothing:C:=(cSeq (cRet (mMeth allM "number" (mVar 0) (aCons (mCon (.tup [(.str "nothing")])) aNil))) cNil)
def v_Pool_nothing:MFn:=⟨["self"],1,m_Pool_nothing,[]⟩
def m_Worker_init:C:=(cSeq (cFld (mVar 1) (mVar 0) "pool") (cSeq (cFld (mVar 3) (mVar 0) "side") (cSeq (cFld (mCell (mDc (iAny (mVar 2)) (gN 4) bYes (mVar 4) (mMeth allM "nothing" (mVar 1) aNil) [4])) (mVar 0) "own") (cSeq (cFld (mCell (mBlt dictX (rCons (mOne (fldD "own") (mVar 0)) rNil))) (mVar 0) "elder") (cSeq (cFld (mCell (mDc (iAny (mVar 2)) (gN 4) bYes (mVar 4) (mCell (mLst aNil)) [4])) (mVar 0) "past") cNil)))))
def v_Worker_init:MFn:=⟨["self","pool","names","side","name"],4,m_Worker_init,[.non]⟩
def m_Worker_begin:C:=(cSeq (cSetX (mMeth allM "number" (mOne (fldD "pool") (mVar 0)) (aCons (mVar 2) aNil)) (mOne (fldD "own") (mVar 0)) (mVar 1)) cNil)
def v_Worker_begin:MFn:=⟨["self","name","head"],3,m_Worker_begin,[]⟩
def m_Worker_result:C:=(cSeq (cIf (bCmp (mTwo eqX (mTwo atX (mVar 1) (mCon (.int 0))) (mCon (.str "copy")))) (cSeq (cRet (mTwo atX (mOne (fldD "own") (mVar 0)) (mTwo atX (mVar 1) (mCon (.int 2))))) cNil) cNil) (cSeq (cRet (mMeth allM "number" (mOne (fldD "pool") (mVar 0)) (aCons (mTup (aCons (mCon (.str "op")) (aCons (mTwo atX (mVar 1) (mCon (.int 2))) (aStar (mLc (iAny (mCall "reads" (aCons (mVar 1) aNil))) (gN 2) bYes (mTwo atX (mOne (fldD "own") (mVar 0)) (mVar 2)) [2]) aNil)))) aNil))) cNil))
def v_Worker_result:MFn:=⟨["self","row","name"],2,m_Worker_result,[]⟩
def m_Worker_do:C:=(cSeq (cMul (rCons (mCall "sets" (aCons (mVar 1) aNil)) (rCons (mMeth allM "result" (mVar 0) (aCons (mVar 1) aNil)) rNil)) [(gN 3),(gN 4)]) (cSeq (cSetX (mTwo atX (mOne (fldD "own") (mVar 0)) (mVar 3)) (mOne (fldD "elder") (mVar 0)) (mVar 3)) (cSeq (cApp (mTwo atX (mOne (fldD "past") (mVar 0)) (mVar 3)) (mTwo atX (mOne (fldD "own") (mVar 0)) (mVar 3))) (cSeq (cSetX (mVar 4) (mOne (fldD "own") (mVar 0)) (mVar 3)) (cSeq (cIf (bCmp (mTwo eqX (mTwo atX (mVar 1) (mCon (.int 0))) (mCon (.str "call")))) (cSeq (cFor (iAny (mBlt sortedD (rCons (mStr 5 (mOne (fldD "own") (mVar 0))) rNil))) (gN 5) (cSeq (cIf (bAnd (bCmp (mTwo neX (mVar 5) (mVar 3))) (bCmp (mTwo notInX (mVar 5) (mTwo atX (mVar 1) (mCon (.int 4)))))) (cSeq (cSetX (mMeth allM "number" (mOne (fldD "pool") (mVar 0)) (aCons (mCall "lost_head" (aCons (mVar 2) (aCons (mOne (fldD "side") (mVar 0)) aNil))) aNil)) (mOne (fldD "own") (mVar 0)) (mVar 5)) (cSeq (cAug 2 (· + ·) (mCon (.int 1))) cNil)) cNil) cNil)) cNil) cNil) (cSeq (cRet (mVar 2)) cNil))))))
def v_Worker_do:MFn:=⟨["self","row","lost","name","value","place"],3,m_Worker_do,[]⟩
def m_Worker_copied:C:=(cSeq (cAsg (mNew false "Worker" (aCons (mOne (fldD "pool") (mVar 0)) (aCons (mLst aNil) (aCons (mOne (fldD "side") (mVar 0)) aNil)))) (gN 1)) (cSeq (cMulX (rCons (mBlt dictX (rCons (mOne (fldD "own") (mVar 0)) rNil)) (rCons (mBlt dictX (rCons (mOne (fldD "elder") (mVar 0)) rNil)) rNil)) [(xCel (xAtt (mVar 1) "own")),(xCel (xAtt (mVar 1) "elder"))]) (cSeq (cFld (mCell (mDc (iItems_ (mFrz (mOne (fldD "past") (mVar 0)))) (gT 2 (gsCons (gN 2) (gsCons (gN 3) gsNil))) bYes (mVar 2) (mCell (mBlt listX (rCons (mVar 3) rNil))) [2,3])) (mVar 1) "past") (cSeq (cRet (mVar 1)) cNil))))
def v_Worker_copied:MFn:=⟨["self","worker","name","row"],1,m_Worker_copied,[]⟩
def m_Worker_behind:C:=(cSeq (cAsg (mMeth allM "copied" (mVar 0) aNil) (gN 3)) (cSeq (cFor (iAny (mVar 1)) (gN 4) (cSeq (cAsg (mMeth allM "do" (mVar 3) (aCons (mVar 4) (aCons (mVar 2) aNil))) (gN 2)) cNil)) (cSeq (cRet (mTup (aCons (mVar 3) (aCons (mVar 2) aNil)))) cNil)))
def v_Worker_behind:MFn:=⟨["self","rows","lost","worker","row"],3,m_Worker_behind,[]⟩
def m_lost_head:C:=(cSeq (cRet (mIf (bCmp (mTwo isNoneD (mVar 1) (mCon .non))) (mTup (aCons (mCon (.str "lost")) (aCons (mVar 0) aNil))) (mTup (aCons (mCon (.str "lost")) (aCons (mVar 0) (aCons (mVar 1) aNil)))))) cNil)
def v_lost_head:MFn:=⟨["number","side"],2,m_lost_head,[]⟩
def m_entry_head:C:=(cSeq (cRet (mIf (bCmp (mTwo isNoneD (mVar 1) (mCon .non))) (mTup (aCons (mCon (.str "entry")) (aCons (mVar 0) aNil))) (mTup (aCons (mCon (.str "entry")) (aCons (mVar 0) (aCons (mVar 1) aNil)))))) cNil)
def v_entry_head:MFn:=⟨["place","side"],2,m_entry_head,[]⟩
def m_Trip_init:C:=(cSeq (cExpr (mCall "check_way" (aCons (mOne (fldD "source") (mVar 1)) (aCons (mVar 2) aNil)))) (cSeq (cFld (mVar 1) (mVar 0) "made") (cSeq (cFld (mBlt tupleOfD (rCons (mVar 2) rNil)) (mVar 0) "way") (cSeq (cFld (mVar 3) (mVar 0) "pool") (cSeq (cFld (mNew false "Worker" (aCons (mVar 3) (aCons (mMeth allM "names" (mOne (fldD "source") (mVar 1)) aNil) aNil))) (mVar 0) "front") (cSeq (cFld (mNew false "Worker" (aCons (mVar 3) (aCons (mMeth allM "places" (mVar 1) aNil) (aCons (mVar 4) aNil)))) (mVar 0) "rear") (cSeq (cFor (iAny (mOne (fldD "inputs") (mOne (fldD "source") (mVar 1)))) (gN 5) (cSeq (cExpr (mMeth allM "begin" (mOne (fldD "front") (mVar 0)) (aCons (mVar 5) (aCons (mTup (aCons (mCon (.str "input")) (aCons (mVar 5) aNil))) aNil)))) (cSeq (cExpr (mMeth allM "begin" (mOne (fldD "rear") (mVar 0)) (aCons (mMeth allM "place_of" (mVar 1) (aCons (mVar 5) aNil)) (aCons (mTup (aCons (mCon (.str "input")) (aCons (mVar 5) aNil))) aNil)))) cNil))) (cSeq (cFor (iAny (mOne (fldD "entries") (mVar 1))) (gN 6) (cSeq (cExpr (mMeth allM "begin" (mOne (fldD "rear") (mVar 0)) (aCons (mVar 6) (aCons (mCall "entry_head" (aCons (mVar 6) (aCons (mVar 4) aNil))) aNil)))) cNil)) (cSeq (cFld (mCon (.int 0)) (mVar 0) "lost") (cSeq (cFor (iAny (mSl (mOne (fldD "way") (mVar 0)) pNone (pSome (mOne negD (mCon (.int 1)))))) (gN 7) (cSeq (cFld (mTwo atX (mMeth allM "behind" (mOne (fldD "front") (mVar 0)) (aCons (mMeth allM "rows" (mOne (fldD "source") (mVar 1)) (aCons (mVar 7) aNil)) (aCons (mCon (.int 0)) aNil))) (mCon (.int 0))) (mVar 0) "front") (cSeq (cAsgX (mMeth allM "behind" (mOne (fldD "rear") (mVar 0)) (aCons (mMeth allM "rows" (mVar 1) (aCons (mVar 7) aNil)) (aCons (mOne (fldD "lost") (mVar 0)) aNil))) (xTup 2 [(xAtt (mVar 0) "rear"),(xAtt (mVar 0) "lost")])) cNil))) cNil))))))))))
def v_Trip_init:MFn:=⟨["self","made","way","pool","side","name","place","block"],5,m_Trip_init,[.non]⟩
def m_Trip_last:C:=(cSeq (cRet (mTwo atX (mOne (fldD "way") (mVar 0)) (mOne negD (mCon (.int 1))))) cNil)
def v_Trip_last:MFn:=⟨["self"],1,m_Trip_last,[]⟩
def m_Trip_at_source:C:=(cSeq (cAsg (mMeth allM "rows" (mOne (fldD "source") (mOne (fldD "made") (mVar 0))) (aCons (mMeth allM "last" (mVar 0) aNil) aNil)) (gN 2)) (cSeq (cIf (bOr (bNot (bVal (mCall "is_integer" (aCons (mVar 1) aNil)))) (bNot (bCmp (mChain leD leD (mCon (.int 0)) (mVar 1) (mBlt lenX (rCons (mVar 2) rNil)))))) (cSeq (cRaise "BadRow" (aCons (mVar 1) aNil)) cNil) cNil) (cSeq (cRet (mTwo atX (mMeth allM "behind" (mOne (fldD "front") (mVar 0)) (aCons (mSl (mVar 2) pNone (pSome (mVar 1))) (aCons (mCon (.int 0)) aNil))) (mCon (.int 0)))) cNil)))
def v_Trip_at_source:MFn:=⟨["self","index","rows"],2,m_Trip_at_source,[]⟩
def m_Trip_check_name:C:=(cSeq (cIf (bOr (bNot (bVal (mBlt isiD (rCons (mVar 1) (rCons (mCon (.ty "str")) rNil))))) (bCmp (mTwo notInX (mVar 1) (mOne (fldD "own") (mOne (fldD "front") (mVar 0)))))) (cSeq (cRaise "UnknownName" (aCons (mVar 1) aNil)) cNil) cNil) cNil)
def v_Trip_check_name:MFn:=⟨["self","name"],2,m_Trip_check_name,[]⟩
def m_Trip_past_numbers:C:=(cSeq (cExpr (mMeth allM "check_name" (mVar 0) (aCons (mVar 1) aNil))) (cSeq (cAsg (mMeth allM "at_source" (mVar 0) (aCons (mVar 2) aNil)) (gN 3)) (cSeq (cRet (mLst (aStar (mTwo atX (mOne (fldD "past") (mVar 3)) (mVar 1)) (aCons (mTwo atX (mOne (fldD "own") (mVar 3)) (mVar 1)) aNil)))) cNil)))
def v_Trip_past_numbers:MFn:=⟨["self","name","index","worker"],3,m_Trip_past_numbers,[]⟩
def m_Trip_later_numbers:C:=(cSeq (cExpr (mMeth allM "check_name" (mVar 0) (aCons (mVar 1) aNil))) (cSeq (cAsg (mMeth allM "at_source" (mVar 0) (aCons (mVar 2) aNil)) (gN 3)) (cSeq (cAsg (mLst aNil) (gN 4)) (cSeq (cFor (iAny (mSl (mMeth allM "rows" (mOne (fldD "source") (mOne (fldD "made") (mVar 0))) (aCons (mMeth allM "last" (mVar 0) aNil) aNil)) (pSome (mVar 2)) pNone)) (gN 5) (cSeq (cExpr (mMeth allM "do" (mVar 3) (aCons (mVar 5) (aCons (mCon (.int 0)) aNil)))) (cSeq (cExt (mVar 4) (mIf (bCmp (mTwo eqX (mCall "sets" (aCons (mVar 5) aNil)) (mVar 1))) (mLst (aCons (mTwo atX (mOne (fldD "own") (mVar 3)) (mVar 1)) aNil)) (mLst aNil))) cNil))) (cSeq (cRet (mVar 4)) cNil)))))
def v_Trip_later_numbers:MFn:=⟨["self","name","index","worker","found","row"],3,m_Trip_later_numbers,[]⟩
def m_Walk_init:C:=(cSeq (cFld (mNew false "Trip" (aCons (mVar 1) (aCons (mVar 2) (aCons (mNew false "Pool" aNil) aNil)))) (mVar 0) "trip") (cSeq (cFld (mVar 1) (mVar 0) "made") (cSeq (cFld (mOne (fldD "way") (mOne (fldD "trip") (mVar 0))) (mVar 0) "way") cNil)))
def v_Walk_init:MFn:=⟨["self","made","way"],3,m_Walk_init,[]⟩
def m_Walk_term:C:=(cSeq (cRet (mMeth allM "term" (mOne (fldD "pool") (mOne (fldD "trip") (mVar 0))) (aCons (mVar 1) aNil))) cNil)
def v_Walk_term:MFn:=⟨["self","number"],2,m_Walk_term,[]⟩
def m_Walk_history:C:=(cSeq (cRet (mLc (iAny (mMeth allM "past_numbers" (mOne (fldD "trip") (mVar 0)) (aCons (mVar 1) (aCons (mVar 2) aNil)))) (gN 3) bYes (mMeth allM "term" (mVar 0) (aCons (mVar 3) aNil)) [3])) cNil)
def v_Walk_history:MFn:=⟨["self","name","index","number"],3,m_Walk_history,[]⟩
def m_Walk_coming:C:=(cSeq (cRet (mLc (iAny (mMeth allM "later_numbers" (mOne (fldD "trip") (mVar 0)) (aCons (mVar 1) (aCons (mVar 2) aNil)))) (gN 3) bYes (mMeth allM "term" (mVar 0) (aCons (mVar 3) aNil)) [3])) cNil)
def v_Walk_coming:MFn:=⟨["self","name","index","number"],3,m_Walk_coming,[]⟩
def m_Made_code:C:=(cSeq (cIf (bCmp (bin2 (inF allM true) (mVar 1) (mOne (fldD "source") (mVar 0)))) (cSeq (cRaise "UnknownBlock" (aCons (mVar 1) aNil)) cNil) cNil) (cSeq (cRet (mTwo atX (mOne (fldD "codes") (mVar 0)) (mVar 1))) cNil))
def v_Made_code:MFn:=⟨["self","block"],2,m_Made_code,[]⟩
def m_Made_rows:C:=(cSeq (cRet (mTwo atX (mMeth allM "code" (mVar 0) (aCons (mVar 1) aNil)) (mCon (.int 0)))) cNil)
def v_Made_rows:MFn:=⟨["self","block"],2,m_Made_rows,[]⟩
def m_Made_place_of:C:=(cSeq (cIf (bOr (bNot (bVal (mBlt isiD (rCons (mVar 1) (rCons (mCon (.ty "str")) rNil))))) (bCmp (mTwo notInX (mVar 1) (mOne (fldD "homes") (mVar 0))))) (cSeq (cRaise "UnknownName" (aCons (mVar 1) aNil)) cNil) cNil) (cSeq (cRet (mTwo atX (mOne (fldD "homes") (mVar 0)) (mVar 1))) cNil))
def v_Made_place_of:MFn:=⟨["self","name"],2,m_Made_place_of,[]⟩
def m_Made_places:C:=(cSeq (cAsg (mLst (aStar (mOne (fldD "entries") (mVar 0)) (aStarV (mOne (fldD "homes") (mVar 0)) aNil))) (gN 1)) (cSeq (cFor (iVals_ (mOne (fldD "codes") (mVar 0))) (gT 2 (gsCons (gN 2) (gsCons (gN 3) gsNil))) (cSeq (cExt (mVar 1) (mIf (bCmp (mTwo isNoneD (mVar 3) (mCon .non))) (mLst aNil) (mLst (aCons (mVar 3) aNil)))) (cSeq (cFor (iAny (mVar 2)) (gN 4) (cSeq (cExt (mVar 1) (mLst (aCons (mCall "sets" (aCons (mVar 4) aNil)) (aStar (mCall "reads" (aCons (mVar 4) aNil)) (aStar (mIf (bCmp (mTwo eqX (mTwo atX (mVar 4) (mCon (.int 0))) (mCon (.str "call")))) (mTwo atX (mVar 4) (mCon (.int 4))) (mTup aNil)) aNil))))) cNil)) cNil))) (cSeq (cRet (mSts (iAny (mVar 1)) (gN 3) bYes (mBlt strD (rCons (mVar 3) rNil)) [3])) cNil)))
def v_Made_places:MFn:=⟨["self","found","rows","place","row"],1,m_Made_places,[]⟩
def m_Trip_at_made:C:=(cSeq (cAsg (mMeth allM "rows" (mOne (fldD "made") (mVar 0)) (aCons (mMeth allM "last" (mVar 0) aNil) aNil)) (gN 2)) (cSeq (cIf (bOr (bNot (bVal (mCall "is_integer" (aCons (mVar 1) aNil)))) (bNot (bCmp (mChain leD leD (mCon (.int 0)) (mVar 1) (mBlt lenX (rCons (mVar 2) rNil)))))) (cSeq (cRaise "BadRow" (aCons (mVar 1) aNil)) cNil) cNil) (cSeq (cRet (mTwo atX (mMeth allM "behind" (mOne (fldD "rear") (mVar 0)) (aCons (mSl (mVar 2) pNone (pSome (mVar 1))) (aCons (mOne (fldD "lost") (mVar 0)) aNil))) (mCon (.int 0)))) cNil)))
def v_Trip_at_made:MFn:=⟨["self","index","rows"],2,m_Trip_at_made,[]⟩
def m_Walk_terms:C:=(cSeq (cRet (mDc (iItems_ (mFrz (mVar 1))) (gT 2 (gsCons (gN 2) (gsCons (gN 3) gsNil))) bYes (mVar 2) (mMeth allM "term" (mVar 0) (aCons (mVar 3) aNil)) [2,3])) cNil)
def v_Walk_terms:MFn:=⟨["self","numbers","name","number"],2,m_Walk_terms,[]⟩
def m_Walk_named:C:=(cSeq (cRet (mMeth allM "terms" (mVar 0) (aCons (mOne (fldD "own") (mMeth allM "at_source" (mOne (fldD "trip") (mVar 0)) (aCons (mVar 1) aNil))) aNil))) cNil)
def v_Walk_named:MFn:=⟨["self","index"],2,m_Walk_named,[]⟩
def m_Walk_late:C:=(cSeq (cRet (mMeth allM "terms" (mVar 0) (aCons (mOne (fldD "elder") (mMeth allM "at_source" (mOne (fldD "trip") (mVar 0)) (aCons (mVar 1) aNil))) aNil))) cNil)
def v_Walk_late:MFn:=⟨["self","index"],2,m_Walk_late,[]⟩
def m_Walk_held:C:=(cSeq (cRet (mMeth allM "terms" (mVar 0) (aCons (mOne (fldD "own") (mMeth allM "at_made" (mOne (fldD "trip") (mVar 0)) (aCons (mVar 1) aNil))) aNil))) cNil)
def v_Walk_held:MFn:=⟨["self","index"],2,m_Walk_held,[]⟩
end
end Vs
namespace Vs
open PySem PySem.Spec PyProof.Rows L2 Mi
variable {tab:Str→Option MFn}
inductive Hd where
  |nothing|input (x:Str)|entry (x:Str)|lost (n:Nat)|op (o:Str) (ns:List Nat)
deriving DecidableEq
def numsD (ns:List Nat):List D:=ns.map fun n=>.int (n:Nat)
def hdL:Hd→List D
  | .nothing=>[.str "nothing"]
  | .input x=>[.str "input",.str x]
  | .entry x=>[.str "entry",.str x]
  | .lost n=>[.str "lost",.int n]
  | .op o ns=>.str "op"::.str o::numsD ns
def hdD (x:Hd):D:=.tup (hdL x)
def numO (L:List Hd):O:=if L=[] then .dic [] [] else .dct (L.map hdD) ((List.range L.length).map fun i=>.int (i:Nat))
def nthD (B:List D) (n:Nat):D:=(B[n]?).getD .non
def bld (B:List D):Hd→D
  | .nothing=>.non
  | .op o ns=>.tup [.str "op",.str o,.tup (ns.map (nthD B))]
  |x=>hdD x
def Sup (B:List D):Hd→Prop
  | .op _ ns=> ∀ n∈ns,n<B.length
  |_=>True
theorem Sup.app {B C:List D} {x:Hd} (h:Sup B x):Sup (B++C) x:=by
  cases x with
  |op o ns=>exact fun n hn=>by rw [List.length_append];have:=h n hn;omega
  |_=>all_goals trivial
structure PoolOk (h:List O) (p a b:Nat) (L:List Hd) (B:List D):Prop where
  ins:h[p]?=some (.ins "Pool" ["numbers","built"] [.loc a,.loc b])
  num:h[a]?=some (numO L)
  blt:h[b]?=some (.lst B)
  len:L.length=B.length
  nd:L.Nodup
  ok: ∀ (i:Nat) x,L[i]?=some x→Sup B x∧B[i]?=some (bld B x)
  pa:p≠a
  pb:p≠b
  ab:a≠b
structure PoolT (tab:Str→Option MFn):Prop where
  init:tab "Pool.__init__"=some v_Pool_init
  number:tab "Pool.number"=some v_Pool_number
  build:tab "Pool.build"=some v_Pool_build
  nothing:tab "Pool.nothing"=some v_Pool_nothing
theorem nth_some {B:List D} {n:Nat} (h:n<B.length):B[n]?=some (nthD B n):=by simp [nthD,h]
structure PoolTo2 (h h':List O) (p a b:Nat) (L:List Hd) (B:List D) (L':List Hd) (C:List D) (m:Nat):Prop where
  ok:PoolOk h' p a b L' (B++C)
  few:L'.length≤L.length+m
  len:h'.length=h.length
  keep: ∀ c,c≠a→c≠b→h'[c]?=h[c]?
theorem nth_app {B C:List D} {i:Nat} (h:i<B.length):nthD (B++C) i=nthD B i:=by simp only [nthD,List.getElem?_append_left h]
theorem c_term (u:tab "Pool.term"=some v_Pool_term) (k:Nat) {p a b:Nat} {h:List O} {L:List Hd} {B:List D} (H:PoolOk h p a b L B) {i:Nat} (hi:i<B.length):
    callN tab (k+1) "Pool.term" [.loc p,.int i] h= .ok (.fz (nthD B i)) h:=by
  rw [call_at u [some (.fz (.loc p)),some (.fz (.int i))] rfl rfl]
  simp_arith [v_Pool_term,m_Pool_term,H.ins,H.blt,fp0,fp1,atI_nat (nth_some hi),x_fi4,x_aYL,x_atL]
end Vs
namespace Vs
open PySem PySem.Spec PyProof.Rows L2 Mi
variable {tab:Str→Option MFn}
def upd {α:Type} (f:Str→α) (n:Str) (v:α):Str→α:=fun m=>if m=n then v else f m
theorem upd_same {α:Type} {f:Str→α} {n:Str} {v:α}:upd f n v n=v:=if_pos rfl
theorem upd_ne {α:Type} {f:Str→α} {n m:Str} {v:α} (h:m≠n):upd f n v m=f m:=if_neg h
def intsD (f:Str→Nat):Str→D:=fun n=>.int (f n:Nat)
def locsD (f:Str→Nat):Str→D:=fun n=>.loc (f n)
def natsD (l:List Nat):List D:=l.map fun i=>.int (i:Nat)
structure WL where
  w:Nat
  o:Nat
  e:Nat
  q:Nat
  pc:Str→Nat
structure WLo (l:WL) (ns:List Str) (m:Nat):Prop where
  mw:m≤l.w
  wo:l.w<l.o
  oe:l.o<l.e
  eq:l.e<l.q
  ep: ∀ n∈ns,l.e<l.pc n
  pq: ∀ n∈ns,l.pc n<l.q
  inj: ∀ n∈ns,∀ m∈ns,l.pc n=l.pc m→n=m
structure WkAt (h:List O) (p:Nat) (l:WL) (ns:List Str) (own eld:Str→Nat) (pst:Str→List Nat):Prop where
  ins:h[l.w]?=some (.ins "Worker" ["pool","side","own","elder","past"] [.loc p,.non,.loc l.o,.loc l.e,.loc l.q])
  own:h[l.o]?=some (.dic (strK ns) (ns.map (intsD own)))
  eld:h[l.e]?=some (.dic (strK ns) (ns.map (intsD eld)))
  pas:(h[l.q]?).map frz=some (.dic (strK ns) (ns.map (locsD l.pc)))
  pcs: ∀ n∈ns,h[l.pc n]?=some (.lst (natsD (pst n)))
section
variable {h h':List O} {p m:Nat} {l:WL} {ns:List Str} {own eld:Str→Nat} {pst:Str→List Nat}
theorem WkAt.keep (H:WkAt h p l ns own eld pst) (Y:WLo l ns m) (k: ∀ c,m≤c→c≤l.q→h'[c]?=h[c]?):WkAt h' p l ns own eld pst where
  ins:=by rw [k _ Y.mw (by have:=Y.wo;have:=Y.oe;have:=Y.eq;omega)];exact H.ins
  own:=by rw [k _ (by have:=Y.mw;have:=Y.wo;omega) (by have:=Y.oe;have:=Y.eq;omega)];exact H.own
  eld:=by rw [k _ (by have:=Y.mw;have:=Y.wo;have:=Y.oe;omega) (by have:=Y.eq;omega)];exact H.eld
  pas:=by rw [k _ (by have:=Y.mw;have:=Y.wo;have:=Y.oe;have:=Y.eq;omega) (Nat.le_refl _)];exact H.pas
  pcs:=fun n hn=>by rw [k _ (by have:=Y.mw;have:=Y.wo;have:=Y.oe;have:=Y.ep n hn;omega) (by have:=Y.pq n hn;omega)];exact H.pcs n hn
theorem lt_of_some {α:Type} {h:List α} {c:Nat} {o:α} (e:h[c]?=some o):c<h.length:=(List.getElem?_eq_some_iff.mp e).1
theorem WkAt.app (H:WkAt h p l ns own eld pst) (Y:WLo l ns m) {n:Str} (hn:n∈ns) {v:Nat}:WkAt (h.set (l.pc n) (.lst (natsD (pst n)++[.int (v:Nat)]))) p l ns own eld (upd pst n (pst n++[v])) where
  ins:=by rw [List.getElem?_set_ne (by have:=Y.wo;have:=Y.oe;have:=Y.ep n hn;omega)];exact H.ins
  own:=by rw [List.getElem?_set_ne (by have:=Y.oe;have:=Y.ep n hn;omega)];exact H.own
  eld:=by rw [List.getElem?_set_ne (by have:=Y.ep n hn;omega)];exact H.eld
  pas:=by rw [List.getElem?_set_ne (by have:=Y.pq n hn;omega)];exact H.pas
  pcs :=fun k hk=>by
    by_cases e:k=n
    · subst e
      rw [List.getElem?_set_self (lt_of_some (H.pcs k hk)),upd_same]
      simp [natsD]
    · rw [List.getElem?_set_ne (fun z=>e (Y.inj _ hn _ hk z).symm),upd_ne e]
      exact H.pcs k hk
end
def Rel (B:List D) (ns:List Str) (f:Str→Nat) (t:Str→D):Prop:= ∀ n∈ns,f n<B.length∧nthD B (f n)=t n
def RelL (B:List D) (ns:List Str) (f:Str→List Nat) (t:Str→List D):Prop:= ∀ n∈ns,(∀ i∈f n,i<B.length)∧(f n).map (nthD B)=t n
structure TW where
  own:Str→D
  eld:Str→D
  pst:Str→List D
section
variable {B C:List D} {ns:List Str} {f:Str→Nat} {t:Str→D}
theorem Rel.app (H:Rel B ns f t):Rel (B++C) ns f t:=fun n hn=>by
  obtain ⟨a,b⟩:=H n hn
  exact ⟨by rw [List.length_append];omega,by rw [nth_app a];exact b⟩
theorem RelL.app {f:Str→List Nat} {t:Str→List D} (H:RelL B ns f t):RelL (B++C) ns f t:=fun n hn=>by
  obtain ⟨a,b⟩:=H n hn
  refine ⟨fun i hi=>by rw [List.length_append];have:=a i hi;omega, ?_⟩
  rw [←b]
  exact List.map_congr_left fun i hi=>nth_app (a i hi)
theorem Rel.upd (H:Rel B ns f t) {n:Str} {v:Nat} {d:D} (hv:v<B.length) (hd:nthD B v=d):Rel B ns (upd f n v) (upd t n d):=fun k hk=>by
  by_cases e:k=n
  · subst e;rw [upd_same,upd_same];exact ⟨hv,hd⟩
  · rw [upd_ne e,upd_ne e];exact H k hk
theorem RelL.upd {f:Str→List Nat} {t:Str→List D} (H:RelL B ns f t) {n:Str} (hn:n∈ns) {v:Nat} {d:D} (hv:v<B.length) (hd:nthD B v=d):RelL B ns (Vs.upd f n (f n++[v])) (Vs.upd t n (t n++[d])):=fun k hk=>by
  by_cases e:k=n
  · subst e
    obtain ⟨a,b⟩:=H k hk
    rw [upd_same,upd_same]
    refine ⟨fun i hi=>?_,by rw [List.map_append,b,List.map_cons,List.map_nil,hd]⟩
    rcases List.mem_append.mp hi with z|z
    · exact a i z
    · rw [List.mem_singleton.mp z];exact hv
  · rw [upd_ne e,upd_ne e];exact H k hk
end
def WkT (h:List O) (p:Nat) (l:WL) (ns:List Str) (B:List D) (t:TW):Prop:= ∃ own eld pst,WkAt h p l ns own eld pst∧Rel B ns own t.own∧Rel B ns eld t.eld∧RelL B ns pst t.pst
theorem WkT.keep {h h':List O} {p m:Nat} {l:WL} {ns:List Str} {B C:List D} {t:TW} (H:WkT h p l ns B t) (Y:WLo l ns m) (k: ∀ c,m≤c→c≤l.q→h'[c]?=h[c]?):WkT h' p l ns (B++C) t:=by
  obtain ⟨own,eld,pst,W,r1,r2,r3⟩:=H
  exact ⟨own,eld,pst,W.keep Y k,r1.app,r2.app,r3.app⟩
def Rw.x:Rw→Str
  | .copy x _=>x
  | .set x _ _=>x
  | .call x _ _ _=>x
def Rw.rd:Rw→List Str
  | .copy _ y=>[y]
  | .set _ _ l=>l
  | .call _ _ l _=>l
def Rw.op:Rw→Str
  | .copy _ _=>""
  | .set _ o _=>o
  | .call _ o _ _=>o
def Rw.kp?:Rw→Option (List Str)
  | .call _ _ _ kp=>some kp
  |_=>none
def tRes (own:Str→D) (r:Rw):D:=match r with
  | .copy _ y=>own y
  |r=>.tup [.str "op",.str r.op,.tup (r.rd.map own)]
def lostD (n:Nat):D:=.tup [.str "lost",.int (n:Nat)]
def tLose (x:Str) (kp:List Str):List Str→(Str→D)×Nat→(Str→D)×Nat
  |[],s=>s
  |n::ns,s=>tLose x kp ns (if n≠x∧n∉kp then (upd s.1 n (lostD s.2),s.2+1) else s)
def tDo (ns:List Str) (s:TW×Nat) (r:Rw):TW×Nat:=
  let own:=upd s.1.own r.x (tRes s.1.own r)
  let eld:=upd s.1.eld r.x (s.1.own r.x)
  let pst:=upd s.1.pst r.x (s.1.pst r.x++[s.1.own r.x])
  match r.kp? with
  |some kp=>let z:=tLose r.x kp (sortS ns) (own,s.2);(⟨z.1,eld,pst⟩,z.2)
  |none=>(⟨own,eld,pst⟩,s.2)
structure RdT (tab:Str→Option MFn):Prop where
  sets:tab "sets"=some v_sets
  reads:tab "reads"=some v_reads
structure WorkT (tab:Str→Option MFn):Prop where
  pool:PoolT tab
  init:tab "Worker.__init__"=some v_Worker_init
  begin_:tab "Worker.begin"=some v_Worker_begin
  result:tab "Worker.result"=some v_Worker_result
  do_:tab "Worker.do"=some v_Worker_do
  copied:tab "Worker.copied"=some v_Worker_copied
  behind:tab "Worker.behind"=some v_Worker_behind
  lost:tab "lost_head"=some v_lost_head
  entry:tab "entry_head"=some v_entry_head
  sets:tab "sets"=some v_sets
  reads:tab "reads"=some v_reads
theorem WorkT.rd (T:WorkT tab):RdT tab:=⟨T.sets,T.reads⟩
def RwIn (ns:List Str) (r:Rw):Prop:=r.x∈ns∧(∀ w∈r.rd,w∈ns)∧PyData.strOk r.op=true∧r.rd.length≤1000
structure Stp (h h':List O) (p a b m:Nat) (l:WL) (ns:List Str) (L:List Hd) (B:List D) (L':List Hd) (C:List D) (t:TW) (u:Nat):Prop where
  ok:PoolOk h' p a b L' (B++C)
  few:L'.length≤L.length+u
  len:h'.length=h.length
  keep: ∀ c,(c<m∨l.q<c)→c≠a→c≠b→h'[c]?=h[c]?
  wk:WkT h' p l ns (B++C) t
structure Low (p a b m:Nat):Prop where
  pm:p<m
  am:a<m
  bm:b<m
section
variable {h:List O} {p a b m:Nat} {l:WL} {ns:List Str} {L:List Hd} {B:List D} {t:TW}
theorem Stp.trans {h h1 h2:List O} {p a b m:Nat} {l:WL} {ns:List Str} {L L1 L2:List Hd} {B C1 C2:List D} {t1 t2:TW} {u v:Nat} (x:Stp h h1 p a b m l ns L B L1 C1 t1 u) (y:Stp h1 h2 p a b m l ns L1 (B++C1) L2 C2 t2 v):Stp h h2 p a b m l ns L B L2 (C1++C2) t2 (u+v) where
  ok:=by rw [←List.append_assoc];exact y.ok
  few:=by have:=x.few;have:=y.few;omega
  len:=by rw [y.len,x.len]
  keep:=fun c h1 h2 h3=>by rw [y.keep c h1 h2 h3,x.keep c h1 h2 h3]
  wk:=by rw [←List.append_assoc];exact y.wk
theorem Stp.refl (W:WkT h p l ns B t) (P:PoolOk h p a b L B):Stp h h p a b m l ns L B L [] t 0 where
  ok:=by rw [List.append_nil];exact P
  few:=Nat.le_refl _
  len:=rfl
  keep:=fun _ _ _ _=>rfl
  wk:=by rw [List.append_nil];exact W
theorem mem_sortS {ns:List Str} (n:Str):n∈sortS ns↔n∈ns:=(sortS_perm ns).mem_iff
end
end Vs
namespace Vs
open PySem PySem.Spec PyProof.Rows L2 Mi
variable {tab:Str→Option MFn}
theorem PoolTo2.trans {h h1 h2:List O} {p a b:Nat} {L L1 L2:List Hd} {B C1 C2:List D} {u v:Nat} (x:PoolTo2 h h1 p a b L B L1 C1 u) (y:PoolTo2 h1 h2 p a b L1 (B++C1) L2 C2 v):PoolTo2 h h2 p a b L B L2 (C1++C2) (u+v) where
  ok:=by rw [←List.append_assoc];exact y.ok
  few:=by have:=x.few;have:=y.few;omega
  len:=by rw [y.len,x.len]
  keep:=fun c h1 h2=>by rw [y.keep c h1 h2,x.keep c h1 h2]
section
variable {G:List O} {N:Nat} (hG:G.length=N) {x y:O} {r q1 q2 q3 q4:List O}
include hG
end
end Vs
namespace Vs
open PySem PySem.Spec PyProof.Rows L2 Mi
variable {tab:Str→Option MFn}
def tRows (ns:List Str) (s:TW×Nat) (rs:List Rw):TW×Nat:=rs.foldl (tDo ns) s
section
variable {p a b m:Nat} {l:WL} {ns:List Str}
end
end Vs
namespace Vs
open PySem PySem.Spec PyProof.Rows L2 Mi
abbrev Way:=List Str
def wL (w:Way):D:=.lst (w.map .str)
def lastS (w:Way):Str:=w.getLastD ""
variable {tab:Str→Option MFn} {P:List Bk} {ins:List Str}
def b0 (P:List Bk):Str:=match P with
  |p::_=>p.1
  |[]=>""
end Vs
namespace Vs
open PySem PySem.Spec PyProof.Rows L2 Mi
variable {tab:Str→Option MFn} {P:List Bk} {ins:List Str}
end Vs
namespace Vs
open PySem PySem.Spec PyProof.Rows L2 Mi
abbrev Disc:=List (Str×Way)
def nms (d:Disc):List Str:=d.map (·.1)
theorem nms_pre {d e:Disc} (h:d <+: e) {y:Str} (hy:y∈nms d):y∈nms e:=by
  obtain ⟨t,rfl⟩:=h
  simp only [nms,List.map_append,List.mem_append]
  exact .inl hy
variable {nx:Str→List Str}
def Cl (nx:Str→List Str) (d:Disc) (y:Str):Prop:= ∀ z∈nx y,z∈nms d
theorem Cl.mono {d e:Disc} (h:d <+: e) {y:Str} (c:Cl nx d y):Cl nx e y:=fun z hz=>nms_pre h (c z hz)
def news:Disc→List Way→List Way
  |_,[]=>[]
  |d,w::ws=>if lastS w∈nms d then news d ws else w::news (d++[(lastS w,w)]) ws
end Vs
namespace Vs
open PySem PySem.Spec PyProof.Rows L2 Mi
def dk (d:Disc):List Key:=d.map fun p=>.inr p.1
def dv (d:Disc):List D:=d.map fun p=>wL p.2
variable {tab:Str→Option MFn} {P:List Bk} {ins:List Str}
end Vs
namespace Vs
open PySem PySem.Spec PyProof.Rows L2 Mi
end Vs
namespace Vs
open PySem PySem.Spec PyProof.Rows L2 Mi
variable {nx:Str→List Str} {b:Str}
end Vs
namespace Vs
open PySem PySem.Spec PyProof.Rows L2 Mi
variable {tab:Str→Option MFn} {most:Nat} {bs ws ops:List Str} {rows:List D}
end Vs
namespace Vs
open PySem PySem.Spec PyProof.Rows L2 Mi
variable {tab:Str→Option MFn} {most:Nat} {bs ws ops:List Str} {rows:List D}
section
variable (a b c:D) (x1 x2 x3 x4:Option O) (h:List O)
end
end Vs
namespace Vs
open PySem PySem.Spec PyProof.Rows L2 Mi
noncomputable section
def m_Source_names:C:=(cSeq (cAsg (mBlt dictX (rCons (mLc (iAny (mOne (fldD "inputs") (mVar 0))) (gN 1) bYes (mTup (aCons (mVar 1) (aCons (mCon (.bl true)) aNil))) [1]) rNil)) (gN 2)) (cSeq (cFor (iVals_ (mOne (fldD "own_blocks") (mVar 0))) (gT 2 (gsCons (gN 3) (gsCons (gN 4) gsNil))) (cSeq (cFor (iAny (mVar 3)) (gN 5) (cSeq (cFor (iAny (mTup (aCons (mCall "sets" (aCons (mVar 5) aNil)) (aStar (mCall "reads" (aCons (mVar 5) aNil)) aNil)))) (gN 1) (cSeq (cSetX (mCon (.bl true)) (mVar 2) (mVar 1)) cNil)) cNil)) (cSeq (cIf (bCmp (mTwo eqX (mTwo atX (mVar 4) (mCon (.int 0))) (mCon (.str "return")))) (cSeq (cSetX (mCon (.bl true)) (mVar 2) (mTwo atX (mVar 4) (mCon (.int 1)))) cNil) cNil) cNil))) (cSeq (cRet (mBlt sortedD (rCons (mLc (iAny (mVar 2)) (gN 1) bYes (mBlt strD (rCons (mVar 1) rNil)) [1]) rNil))) cNil)))
def v_Source_names:MFn:=⟨["self","name","found","rows","end","row"],1,m_Source_names,[]⟩
end
end Vs
namespace Vs
open PySem PySem.Spec PyProof.Rows L2 Mi
variable {tab:Str→Option MFn} {P:List Bk} {ins:List Str} {nx:Str→List Str}
def addS (f:List Str) (y:Str):List Str:=if y∈f then f else f++[y]
def scanS (f ys:List Str):List Str:=ys.foldl addS f
def qs (nx:Str→List Str) (a:List Str×Nat):List Str×Nat:=match a.1[a.2]? with
  |some x=>(scanS a.1 (nx x),a.2+1)
  |none=>a
def qsN (nx:Str→List Str):Nat→List Str×Nat→List Str×Nat
  |0,a=>a
  |n+1,a=>qsN nx n (qs nx a)
structure Qi (P:List Bk) (a:List Str×Nat):Prop where
  nd:a.1.Nodup
  all: ∀ x∈a.1,x∈P.map (·.1)
  le:a.2≤a.1.length
theorem Qi.few {a:List Str×Nat} (h:Qi P a):a.1.length≤P.length:=by
  have:=List.Nodup.length_le_of_subset h.nd h.all
  simpa using this
end Vs
namespace Vs
open PySem PySem.Spec PyProof.Rows L2 Mi
variable {tab:Str→Option MFn} {P:List Bk} {ins:List Str} {nx:Str→List Str}
def st2 (nx:Str→List Str) (a:List Str×Nat):List Str×Nat:=qsN nx (a.1.length - a.2) a
variable {most:Nat} {bs ws ops:List Str} {rows:List D}
end Vs
namespace Vs
open PySem PySem.Spec PyProof.Rows L2 Mi
variable {tab:Str→Option MFn} {P:List Bk} {ins:List Str} {nx:Str→List Str} {most:Nat} {bs ws ops:List Str} {rows:List D}
end Vs
namespace Vs
open PySem PySem.Spec PyProof.Rows L2 Mi
theorem scanS_mem {x:Str}: ∀ {ys f:List Str},x∈scanS f ys↔x∈f∨x∈ys
  |[],f=>by simp [scanS]
  | y ::ys,f=>by
    show x∈scanS (addS f y) ys↔_
    rw [scanS_mem]
    unfold addS
    split
    · rename_i hy
      constructor
      · rintro (z|z)
        · exact .inl z
        · exact .inr (by simp [z])
      · rintro (z|z)
        · exact .inl z
        · rcases List.mem_cons.mp z with rfl|z
          · exact .inl hy
          · exact .inr z
    · simp only [List.mem_append,List.mem_singleton,List.mem_cons,or_assoc]
      simp
def rowNs:D→List Str
  | .tup [_,.str x,.str y]=>[x,y]
  | .tup [_,.str x,_,.tup l]=>x::strsOf l
  |_=>[]
def endNs:D→List Str
  | .tup [.str t,.str x]=>if t="return" then [x] else []
  |_=>[]
variable {tab:Str→Option MFn} {P:List Bk} {ins:List Str} {most:Nat} {bs ws ops:List Str} {rows:List D}
end Vs
namespace Vs
open PySem PySem.Spec PyProof.Rows L2 Mi
variable {tab:Str→Option MFn} {P:List Bk} {ins:List Str} {most:Nat} {bs ws ops:List Str} {rows:List D}
def bkNs (p:Bk):List Str:=p.2.1.flatMap rowNs++endNs p.2.2
def allNs (P:List Bk) (ins:List Str):List Str:=ins++P.flatMap bkNs
end Vs
namespace Vs
open PySem PySem.Spec PyProof.Rows L2 Mi
variable {tab:Str→Option MFn} {P:List Bk} {C:List Cb} {ins ops:List Str} {ws:Sw} {en:List Str}
def codeC (c:Cb):D:=.tup [.tup (c.rows.map rwD),retD c.ret]
def madeC (P:List Bk) (ins:List Str) (ws:Sw) (C:List Cb) (en:List Str):D:=madeV P ins (C.map codeC) (C.map labT) (ins.map ws.f) (.tup (en.map .str))
structure CodeL (tab:Str→Option MFn):Prop extends RdT tab,SrcG tab where
  code:tab "Made.code"=some v_Made_code
  rows:tab "Made.rows"=some v_Made_rows
  places:tab "Made.places"=some v_Made_places
  srows:tab "Source.rows"=some v_Source_rows
  snames:tab "Source.names"=some v_Source_names
structure CodeM (tab:Str→Option MFn):Prop extends WorkT tab,SrcG tab where
  code:tab "Made.code"=some v_Made_code
  rows:tab "Made.rows"=some v_Made_rows
  place:tab "Made.place_of"=some v_Made_place_of
  places:tab "Made.places"=some v_Made_places
  srows:tab "Source.rows"=some v_Source_rows
  snames:tab "Source.names"=some v_Source_names
theorem CodeM.l (T:CodeM tab):CodeL tab:={T.toSrcG with sets:=T.sets,reads:=T.reads,code:=T.code,rows:=T.rows,places:=T.places,srows:=T.srows,snames:=T.snames}
def Rw.kpL (r:Rw):List Str:=r.kp?.getD []
def rowPl (r:Rw):List Str:=r.x::(r.rd++r.kpL)
def cbPl (c:Cb):List Str:=c.ret.toList++c.rows.flatMap rowPl
def allPl (C:List Cb) (ins:List Str) (ws:Sw) (en:List Str):List Str:=en++ins.map ws.f++C.flatMap cbPl
def placesN (C:List Cb) (ins:List Str) (ws:Sw) (en:List Str):List Str:=sortS (scanS [] (allPl C ins ws en))
end Vs
namespace Mi
open PySem PySem.Spec PyProof.Rows L2
def Ends (Q:S→Prop) (r:Fl):Prop:= ∃ s,r= .nx s∧Q s
theorem ends_nx {Q:S→Prop} {s:S} (h:Q s):Ends Q (.nx s):=⟨s,rfl,h⟩
theorem Ends.mono {Q Q':S→Prop} {r:Fl} (h:Ends Q r) (f: ∀ s,Q s→Q' s):Ends Q' r:=by
  obtain ⟨s,e,q⟩:=h
  exact ⟨s,e,f s q⟩
theorem Ends.then_ {Q Q':S→Prop} {r:Fl} {f:S→Fl} (h:Ends Q r) (g: ∀ s,Q s→Ends Q' (f s)):Ends Q' (r.then f):=by
  obtain ⟨s,e,q⟩:=h
  subst e
  exact g s q
theorem ends_range {call:Call} {g:Tg} {body:C} (n:Nat) (I:Nat→S→Prop) (s:S) (h0:I 0 s) (h: ∀ i,i<n→∀ s,I i s→∃ s1,g (.fz (.int (i:Nat))) s=some s1∧Ends (I (i+1)) (body call s1)):Ends (I n) (forL call g body (rangeD 0 n) s):=by
  obtain ⟨s',e,q⟩:=forL_range (call:=call) (g:=g) (body:=body) n I s h0 fun i hi s hs=>by
    obtain ⟨s1,e1,s2,e2,q⟩:=h i hi s hs
    exact ⟨s1,e1,s2,.inl e2,q⟩
  exact ⟨s',e,q⟩
theorem ends_inv {call:Call} {g:Tg} {body:C} (I:S→Prop) (ds:List D) (s:S) (h0:I s) (h: ∀ d∈ds,∀ s,I s→∃ s1,g (.fz d) s=some s1∧Ends I (body call s1)):Ends I (forL call g body ds s):=by
  obtain ⟨s',e,q⟩:=forL_inv (call:=call) (g:=g) (body:=body) I ds s h0 fun d hd s hs=>by
    obtain ⟨s1,e1,s2,e2,q⟩:=h d hd s hs
    exact ⟨s1,e1,s2,.inl e2,q⟩
  exact ⟨s',e,q⟩
end Mi
namespace Vs
open PySem PySem.Spec PyProof.Rows L2 Mi
variable {P:List Bk} {C:List Cb} {ins:List Str} {ws:Sw} {en:List Str} {call:Call} {s:S} {h:List O}
end Vs
namespace Vs
open PySem PySem.Spec PyProof.Rows L2 Mi
noncomputable section
def m_Player_init:C:=(cSeq (cFld (mCell (mDc (iAny (mVar 1)) (gN 3) bYes (mVar 3) (mCon .non) [3])) (mVar 0) "own") (cSeq (cFld (mVar 2) (mVar 0) "meaning") (cSeq (cFld (mCon (.int 0)) (mVar 0) "lost") cNil)))
def v_Player_init:MFn:=⟨["self","names","meaning","name"],3,m_Player_init,[]⟩
def m_Player_play_row (fns:List Str):C:=(cSeq (cAsg (mCall "sets" (aCons (mVar 1) aNil)) (gN 2)) (cSeq (cIf (bCmp (mTwo eqX (mTwo atX (mVar 1) (mCon (.int 0))) (mCon (.str "copy")))) (cSeq (cAsg (mTwo atX (mOne (fldD "own") (mVar 0)) (mTwo atX (mVar 1) (mCon (.int 2)))) (gN 3)) cNil) (cSeq (cAsg (mMethF fns "meaning" (mVar 0) (aCons (mTwo atX (mVar 1) (mCon (.int 2))) (aCons (mBlt tupleOfD (rCons (mLc (iAny (mCall "reads" (aCons (mVar 1) aNil))) (gN 5) bYes (mTwo atX (mOne (fldD "own") (mVar 0)) (mVar 5)) [5]) rNil)) aNil))) (gN 3)) cNil)) (cSeq (cSetX (mVar 3) (mOne (fldD "own") (mVar 0)) (mVar 2)) (cSeq (cIf (bCmp (mTwo eqX (mTwo atX (mVar 1) (mCon (.int 0))) (mCon (.str "call")))) (cSeq (cFor (iAny (mBlt sortedD (rCons (mStr 4 (mOne (fldD "own") (mVar 0))) rNil))) (gN 4) (cSeq (cIf (bAnd (bCmp (mTwo neX (mVar 4) (mVar 2))) (bCmp (mTwo notInX (mVar 4) (mTwo atX (mVar 1) (mCon (.int 4)))))) (cSeq (cSetX (mTup (aCons (mCon (.str "lost")) (aCons (mOne (fldD "lost") (mVar 0)) aNil))) (mOne (fldD "own") (mVar 0)) (mVar 4)) (cSeq (cFldInc (mVar 0) "lost" 1) cNil)) cNil) cNil)) cNil) cNil) cNil))))
def v_Player_play_row (fns:List Str):MFn:=⟨["self","row","name","value","place","item"],2,(m_Player_play_row fns),[]⟩
def m_played:C:=(cSeq (cExpr (mCall "check_way" (aCons (mOne (fldD "source") (mVar 0)) (aCons (mVar 1) aNil)))) (cSeq (cAsg (mOne (fldD "inputs") (mOne (fldD "source") (mVar 0))) (gN 4)) (cSeq (cIf (bCmp (mTwo neX (mBlt lenX (rCons (mVar 2) rNil)) (mBlt lenX (rCons (mVar 4) rNil)))) (cSeq (cRaise "BadValues" (aCons (mBlt lenX (rCons (mVar 4) rNil)) aNil)) cNil) cNil) (cSeq (cMul (rCons (mNew false "Player" (aCons (mMeth allM "names" (mOne (fldD "source") (mVar 0)) aNil) (aCons (mVar 3) aNil))) (rCons (mNew false "Player" (aCons (mMeth allM "places" (mVar 0) aNil) (aCons (mVar 3) aNil))) rNil)) [(gN 5),(gN 6)]) (cSeq (cFor (iAny (mOne (fldD "entries") (mVar 0))) (gN 7) (cSeq (cSetX (mTup (aCons (mCon (.str "entry")) (aCons (mVar 7) aNil))) (mOne (fldD "own") (mVar 6)) (mVar 7)) cNil)) (cSeq (cFor (iZp (aCons (mVar 4) (aCons (mVar 2) aNil))) (gT 2 (gsCons (gN 8) (gsCons (gN 9) gsNil))) (cSeq (cSetX (mVar 9) (mOne (fldD "own") (mVar 5)) (mVar 8)) (cSeq (cSetX (mVar 9) (mOne (fldD "own") (mVar 6)) (mMeth allM "place_of" (mVar 0) (aCons (mVar 8) aNil))) cNil))) (cSeq (cFor (iAny (mVar 1)) (gN 10) (cSeq (cFor (iAny (mMeth allM "rows" (mOne (fldD "source") (mVar 0)) (aCons (mVar 10) aNil))) (gN 11) (cSeq (cExpr (mMeth allM "play_row" (mVar 5) (aCons (mVar 11) aNil))) cNil)) (cSeq (cFor (iAny (mMeth allM "rows" (mVar 0) (aCons (mVar 10) aNil))) (gN 11) (cSeq (cExpr (mMeth allM "play_row" (mVar 6) (aCons (mVar 11) aNil))) cNil)) cNil))) (cSeq (cRet (mTup (aCons (mOne (fldD "own") (mVar 5)) (aCons (mOne (fldD "own") (mVar 6)) aNil)))) cNil))))))))
def v_played:MFn:=⟨["made","way","values","meaning","inputs","names","homes","place","name","value","block","row"],4,m_played,[]⟩
end
end Vs
namespace Vs
open PySem PySem.Spec PyProof.Rows L2 Mi
variable {tab:Str→Option MFn}
structure Mg (tab:Str→Option MFn) (fns:List Str) where
  f:Str
  M:Str→List Mi.D→Mi.D
  Ok:Nat→Mi.D→Prop
  lim:Nat→Prop
  mem:f∈fns
  down: ∀ n,lim (n+1)→lim n
  mono: ∀ n d,Ok n d→Ok (n+1) d
  lost: ∀ n k,k<100*n→Ok n (lostD k)
  non:Ok 0 .non
  nl: ∀ n d,Ok n d→Mi.nl d=true
  ev: ∀ (n k:Nat) (o:Str) (ds:List Mi.D) (h:List O),lim n→o.length≤20→PyData.strOk o=true→ds.length≤2→(∀ d∈ds,Ok n d)→callN tab (k+1) f [.str o,.tup ds] h= .ok (.fz (M o ds)) h
  res: ∀ (n:Nat) (o:Str) (ds:List Mi.D),o.length≤20→PyData.strOk o=true→ds.length≤2→(∀ d∈ds,Ok n d)→Ok (n+1) (M o ds)
theorem Mg.le {fns:List Str} (G:Mg tab fns) {n m:Nat} (h:n≤m) {d:Mi.D} (x:G.Ok n d):G.Ok m d:=by
  induction h with
  |refl=>exact x
  |step _ ih=>exact G.mono _ _ ih
def cnt:Rw→Nat
  | .copy .. =>0
  |_=>1
def cntL (rs:List Rw):Nat:=(rs.map cnt).sum
def vRes (M:Str→List Mi.D→Mi.D) (own:Str→Mi.D):Rw→Mi.D
  | .copy _ y=>own y
  |r=>M r.op (r.rd.map own)
def vRow (M:Str→List Mi.D→Mi.D) (ns:List Str) (s:(Str→Mi.D)×Nat) (r:Rw):(Str→Mi.D)×Nat:=
  let own:=upd s.1 r.x (vRes M s.1 r)
  match r.kp? with
  |some kp=>tLose r.x kp (sortS ns) (own,s.2)
  |none=>(own,s.2)
section
variable {fns:List Str} (G:Mg tab fns)
def OkF (n:Nat) (ns:List Str) (own:Str→Mi.D):Prop:= ∀ x∈ns,G.Ok n (own x)
def OwnV (n:Nat) (ns:List Str) (s:(Str→Mi.D)×Nat):Prop:=OkF G n ns s.1∧s.2≤100*n
variable {G}
theorem OkF.le {n m:Nat} {ns:List Str} {own:Str→Mi.D} (h:n≤m) (H:OkF G n ns own):OkF G m ns own:=fun x hx=>G.le h (H x hx)
theorem OkF.upd {q:Nat} {ns:List Str} {own:Str→Mi.D} {n:Str} {d:Mi.D} (H:OkF G q ns own) (hd:G.Ok q d):OkF G q ns (upd own n d):=fun m hm=>by
  by_cases h:m=n
  · subst h;rw [upd_same];exact hd
  · rw [upd_ne h];exact H m hm
theorem OkF.lose {n:Nat} {ns:List Str} {x:Str} {kp:List Str}: ∀ {qs:List Str} {s:(Str→Mi.D)×Nat},OkF G n ns s.1→s.2+qs.length≤100*n→OkF G n ns (tLose x kp qs s).1∧(tLose x kp qs s).2≤s.2+qs.length
  |[],s,H,_=>⟨H,Nat.le_refl _⟩
  | q ::qs,s,H,hb=>by
    rw [List.length_cons] at hb
    by_cases hc:q≠x∧q∉kp
    · have e:=OkF.lose (qs:=qs) (s:=(Vs.upd s.1 q (lostD s.2),s.2+1)) (x:=x) (kp:=kp) (H.upd (G.lost n s.2 (by omega))) (by show s.2+1+qs.length≤_;omega)
      simp only [tLose,if_pos hc,List.length_cons]
      exact ⟨e.1,by have:=e.2;simp only at this;omega⟩
    · have e:=OkF.lose (qs:=qs) (s:=s) (x:=x) (kp:=kp) H (by omega)
      simp only [tLose,if_neg hc,List.length_cons]
      exact ⟨e.1,by have:=e.2;omega⟩
def RwM (r:Rw):Prop:=r.op.length≤20∧PyData.strOk r.op=true∧r.rd.length≤2
theorem vRes_v {n:Nat} {ns:List Str} {own:Str→Mi.D} (H:OkF G n ns own) {r:Rw} (hr:RwIn ns r) (ho:RwM r):G.Ok (n+cnt r) (vRes G.M own r):=by
  have all: ∀ d∈r.rd.map own,G.Ok n d:=fun d hd=>by
    obtain ⟨w,hw,rfl⟩:=List.mem_map.mp hd
    exact H w (hr.2.1 w hw)
  cases r with
  |copy x y=>exact H y (hr.2.1 y (by simp [Rw.rd]))
  |set x o l=>exact G.res n o _ ho.1 ho.2.1 (by rw [List.length_map];exact ho.2.2) all
  |call x o l kp=>exact G.res n o _ ho.1 ho.2.1 (by rw [List.length_map];exact ho.2.2) all
theorem OwnV.row {n:Nat} {ns:List Str} {s:(Str→Mi.D)×Nat} {r:Rw} (H:OwnV G n ns s) (hl:ns.length≤100) (hr:RwIn ns r) (ho:RwM r):OwnV G (n+cnt r) ns (vRow G.M ns s r):=by
  obtain ⟨H,hb⟩:=H
  have H2:=H.le (show n≤n+cnt r by omega)
  have H3:=H2.upd (n:=r.x) (vRes_v H hr ho)
  cases r with
  |copy x y=>exact ⟨H3,by show s.2≤100*(n+0);omega⟩
  |set x o l=>exact ⟨H3,by show s.2≤100*(n+1);omega⟩
  | call x o l kp=>
    have sl:(sortS ns).length=ns.length:=(sortS_perm ns).length_eq
    have e:=OkF.lose (n:=n+1) (x:=x) (kp:=kp) (qs:=sortS ns) (s:=(Vs.upd s.1 x (vRes G.M s.1 (.call x o l kp)),s.2)) H3 (by show s.2+(sortS ns).length≤100*(n+1);omega)
    exact ⟨e.1,by have h2:=e.2;simp only at h2;show (tLose x kp (sortS ns) (Vs.upd s.1 x (vRes G.M s.1 (.call x o l kp)),s.2)).2≤100*(n+1);omega⟩
end
structure PlAt (mf:Str) (h:List O) (p o:Nat) (ns:List Str) (own:Str→Mi.D) (lost:Nat):Prop where
  ins:h[p]?=some (.ins "Player" ["own","meaning","lost"] [.loc o,.fn mf,.int (lost:Nat)])
  own:h[o]?=some (.dic (strK ns) (ns.map own))
  ne:p≠o
def Two (p o:Nat) (h h':List O):Prop:=h'.length=h.length∧∀ c,c≠p→c≠o→h'[c]?=h[c]?
theorem Two.rfl {p o:Nat} {h:List O}:Two p o h h:=⟨Eq.refl _,fun _ _ _=>Eq.refl _⟩
theorem Two.trans {p o:Nat} {h h' h'':List O} (a:Two p o h h') (b:Two p o h' h''):Two p o h h'':=⟨b.1.trans a.1,fun c c1 c2=>(b.2 c c1 c2).trans (a.2 c c1 c2)⟩
section
variable {mf:Str} {h:List O} {p o:Nat} {ns:List Str} {own:Str→Mi.D} {lost:Nat}
end
structure PlT (tab:Str→Option MFn) (fns:List Str):Prop extends RdT tab where
  pinit:tab "Player.__init__"=some v_Player_init
  prow:tab "Player.play_row"=some (v_Player_play_row fns)
end Vs
namespace Vs
open PySem PySem.Spec PyProof.Rows L2 Mi
variable {tab:Str→Option MFn} {P:List Bk} {C:List Cb} {ins bs ops:List Str} {ws:Sw} {en:List Str}
def rwOf:D→Rw
  | .tup [.str _,.str x,.str y]=>.copy x y
  | .tup [.str _,.str x,.str o,.tup l]=>.set x o (strsOf l)
  | .tup [.str _,.str x,.str o,.tup l,.tup kp]=>.call x o (strsOf l) (strsOf kp)
  |_=>.copy "" ""
def srows (p:Bk):List Rw:=p.2.1.map rwOf
structure Gv (P:List Bk) (ins bs:List Str) (ws:Sw) (ops:List Str) (C:List Cb) (en:List Str):Prop extends Dr P ins ws ops C en where
  blk: ∀ p∈P,Blk bs ws.w ops p.1 p.2.1 p.2.2
  gw:GdW ws.w
def namesN (P:List Bk) (ins:List Str):List Str:=sortS (scanS [] (allNs P ins))
theorem placesN_mem {x:Str}:x∈placesN C ins ws en↔x∈allPl C ins ws en:=by
  rw [placesN,mem_sortS,scanS_mem];simp
theorem Gv.cb (H:Gv P ins bs ws ops C en) {c:Cb} (hc:c∈C): ∃ p∈P,CbOk ws.f ws.sp ops p c:=by
  have: ∀ {Pp:List Bk} {Cc:List Cb},CodesOk ws.f ws.sp ops Pp Cc→∀ c∈Cc,∃ p∈Pp,CbOk ws.f ws.sp ops p c:=fun {Pp Cc} h=>by
    induction h with
    |nil=>intro c hc;cases hc
    | cons h1 _ ih=>
      intro c hc
      rcases List.mem_cons.mp hc with rfl|hc
      · exact ⟨_,by simp,h1⟩
      · obtain ⟨p,hp,h2⟩:=ih c hc
        exact ⟨p,by simp [hp],h2⟩
  exact this H.ce c hc
theorem Gv.pin (H:Gv P ins bs ws ops C en) {c:Cb} (hc:c∈C): ∀ r∈c.rows,RwIn (placesN C ins ws en) r:=fun r hr=>by
  have hm: ∀ x∈rowPl r,x∈placesN C ins ws en:=fun x hx=>placesN_mem.mpr (List.mem_append_right _ (List.mem_flatMap.mpr ⟨c,hc,List.mem_append_right _ (List.mem_flatMap.mpr ⟨r,hr,hx⟩)⟩))
  obtain ⟨p,hp,hc2⟩:=H.cb hc
  have h1:=hc2.rows r hr
  refine ⟨hm _ (by simp [rowPl]),fun w hw=>hm w (by simp [rowPl,hw]), ?_, ?_⟩
  · cases r with
    |copy=>show PyData.strOk ""=true;decide+kernel
    |set x o l=>exact (H.go o h1.2.1).2.2
    |call x o l kp=>exact (H.go o h1.2.1).2.2
  · cases r with
    |copy=>simp [Rw.rd]
    |set x o l=>simp only [Rw.rd];have:=h1.2.2.2;omega
    |call x o l kp=>simp only [Rw.rd];have:=h1.2.2.2.1;omega
end Vs
namespace Vs
open PySem PySem.Spec PyProof.Rows L2 Mi
variable {tab:Str→Option MFn} {P:List Bk} {C:List Cb} {ins bs ops:List Str} {ws:Sw} {en:List Str}
structure TX where
  t:Nat
  p:Nat
  a:Nat
  b:Nat
  mf:Nat
  mr:Nat
  lf:WL
  lr:WL
structure TripAt (X:TX) (m hi:Nat) (ns ps:List Str) (e:O) (h:List O) (L:List Hd) (B:List D) (tf tr:TW):Prop where
  pool:PoolOk h X.p X.a X.b L B
  tins:h[X.t]?=some e
  front:WkT h X.p X.lf ns B tf
  rear:WkT h X.p X.lr ps B tr
  yf:WLo X.lf ns X.mf
  yr:WLo X.lr ps X.mr
  qt:Low X.p X.a X.b X.t
  lf:X.t<X.mf
  lr:X.t<X.mr
  dis:X.lf.q<X.mr∨X.lr.q<X.mf
  mp:m≤X.p
  ma:m≤X.a
  mb:m≤X.b
  hf:X.lf.q<hi
  hr:X.lr.q<hi
  hh:hi≤h.length
section
variable {X:TX} {m hi:Nat} {ns ps:List Str} {e e':O} {h h':List O} {L L':List Hd} {B B':List D} {tf tr:TW}
theorem WLo.mq {l:WL} {ns:List Str} {m:Nat} (Y:WLo l ns m):m<l.q:=by
  have:=Y.mw;have:=Y.wo;have:=Y.oe;have:=Y.eq;omega
end
def tw0:TW:=⟨fun _=>.non,fun _=>.non,fun _=>[]⟩
def inpD (n:Str):D:=.tup [.str "input",.str n]
def entD (n:Str):D:=.tup [.str "entry",.str n]
def tBeg (t:TW) (n:Str) (d:D):TW:=⟨upd t.own n d,t.eld,t.pst⟩
def begF (t:TW) (qs:List Str):TW:=qs.foldl (fun t n=>tBeg t n (inpD n)) t
def begR (ws:Sw) (t:TW) (qs:List Str):TW:=qs.foldl (fun t n=>tBeg t (ws.f n) (inpD n)) t
def begE (t:TW) (qs:List Str):TW:=qs.foldl (fun t n=>tBeg t n (entD n)) t
def cbAt (P:List Bk) (C:List Cb) (b:Str):Option Cb:=((P.zip C).find? fun q=>decide (q.1.1=b)).map (·.2)
def sR (P:List Bk) (b:Str):List Rw:=match look P b with
  |some p=>srows p
  |none=>[]
def mR (P:List Bk) (C:List Cb) (b:Str):List Rw:=match cbAt P C b with
  |some c=>c.rows
  |none=>[]
structure TS where
  front:TW
  rear:TW
  lost:Nat
def tBlk (P:List Bk) (C:List Cb) (ins:List Str) (ws:Sw) (en:List Str) (s:TS) (b:Str):TS:=
  ⟨(tRows (namesN P ins) (s.front,0) (sR P b)).1,(tRows (placesN C ins ws en) (s.rear,s.lost) (mR P C b)).1,(tRows (placesN C ins ws en) (s.rear,s.lost) (mR P C b)).2⟩
def ts0 (ins:List Str) (ws:Sw) (en:List Str):TS:=⟨begF tw0 ins,begE (begR ws tw0 ins) en,0⟩
def tsAt (P:List Bk) (C:List Cb) (ins:List Str) (ws:Sw) (en:List Str) (qs:List Str):TS:=qs.foldl (tBlk P C ins ws en) (ts0 ins ws en)
def tripO (X:TX) (made way:D) (lost:Nat):O:=.ins "Trip" ["made","way","pool","front","rear","lost"] [made,way,.loc X.p,.loc X.lf.w,.loc X.lr.w,.int (lost:Nat)]
structure TripI (tab:Str→Option MFn):Prop extends CodeM tab,SrcM tab where
  tinit:tab "Trip.__init__"=some v_Trip_init
  check_way:tab "check_way"=some v_check_way
  winit:tab "Walk.__init__"=some v_Walk_init
structure TripT (tab:Str→Option MFn):Prop extends TripI tab where
  pterm:tab "Pool.term"=some v_Pool_term
  last:tab "Trip.last"=some v_Trip_last
  is_integer:tab "is_integer"=some v_is_integer
  wterm:tab "Walk.term"=some v_Walk_term
end Vs
namespace Vs
open PySem PySem.Spec PyProof.Rows L2 Mi
variable {tab:Str→Option MFn}
def vRun (M:Str→List Mi.D→Mi.D) (ns:List Str) (s:(Str→Mi.D)×Nat) (rs:List Rw):(Str→Mi.D)×Nat:=rs.foldl (vRow M ns) s
def RwsIn (ns:List Str) (rs:List Rw):Prop:= ∀ r∈rs,RwIn ns r∧RwM r
theorem OwnV.run {fns:List Str} {G:Mg tab fns} {ns:List Str} (hl:ns.length≤100): ∀ {rs:List Rw} {n:Nat} {s:(Str→Mi.D)×Nat},OwnV G n ns s→RwsIn ns rs→OwnV G (n+cntL rs) ns (vRun G.M ns s rs)
  |[],n,_,H,_=>H
  | r::rs,n,s,H,hr=>by
    have e:n+cntL (r::rs)=n+cnt r+cntL rs:=by simp only [cntL,List.map_cons,List.sum_cons];omega
    rw [e]
    exact OwnV.run hl (rs:=rs) (s:=vRow G.M ns s r) (H.row hl (hr r (by simp)).1 (hr r (by simp)).2) fun x hx=>hr x (by simp [hx])
theorem cntL_cons {r:Rw} {rs:List Rw}:cntL (r::rs)=cnt r+cntL rs:=by simp only [cntL,List.map_cons,List.sum_cons]
def nonF:Str→Mi.D:=fun _=>.non
section
variable {P:List Bk} {C:List Cb} {ins bs ops:List Str} {ws:Sw} {en:List Str}
structure PlwT (tab:Str→Option MFn) (fns:List Str):Prop extends CodeL tab where
  pinit:tab "Player.__init__"=some v_Player_init
  prow:tab "Player.play_row"=some (v_Player_play_row fns)
theorem PlwT.pl {fns:List Str} (T:PlwT tab fns):PlT tab fns:={T.toRdT with pinit:=T.pinit,prow:=T.prow}
structure Apart4 (a b c d:Nat):Prop where
  ac:a≠c
  ad:a≠d
  bc:b≠c
  bd:b≠d
theorem PlAt.stay {mf:Str} {h h':List O} {p o a b:Nat} {ns:List Str} {own:Str→Mi.D} {lost:Nat} (A:PlAt mf h p o ns own lost) (T:Two a b h h') (x:Apart4 a b p o):PlAt mf h' p o ns own lost:=
  ⟨by rw [T.2 p x.ac.symm x.bc.symm];exact A.ins,by rw [T.2 o x.ad.symm x.bd.symm];exact A.own,A.ne⟩
end
end Vs
namespace Vs
open PySem PySem.Spec PyProof.Rows L2 Mi
variable {tab:Str→Option MFn}
structure PldT (tab:Str→Option MFn) (fns:List Str):Prop extends PlwT tab fns where
  nexts:tab "Source.nexts"=some v_Source_nexts
  chk:tab "check_way"=some v_check_way
  place:tab "Made.place_of"=some v_Made_place_of
  pld:tab "played"=some v_played
section
variable {P:List Bk} {C:List Cb} {ins bs ops:List Str} {ws:Sw} {en:List Str}
def inF (f:Str→Str) (zs:List (Str×Mi.D)) (g:Str→Mi.D):Str→Mi.D:=zs.foldl (fun g z=>upd g (f z.1) z.2) g
theorem OkF.non {fns:List Str} {G:Mg tab fns} {ns:List Str}:OkF G 0 ns nonF:=fun _ _=>G.non
end
end Vs
namespace Vs
open PySem PySem.Spec PyProof.Rows L2 Mi
variable {tab:Str→Option MFn} {P:List Bk} {C:List Cb} {ins bs ops:List Str} {ws:Sw} {en:List Str}
end Vs
namespace Vs
open PySem PySem.Spec PyProof.Rows L2 Mi
variable {tab:Str→Option MFn} {P:List Bk} {C:List Cb} {ins bs ops:List Str} {ws:Sw} {en:List Str}
def walkO (t:Nat) (made way:D):O:=.ins "Walk" ["trip","made","way"] [.loc t,made,way]
structure WalkAt (P:List Bk) (C:List Cb) (ins:List Str) (ws:Sw) (en:List Str) (X:TX) (w hi:Nat) (qs:List Str) (q:Str) (h:List O) (L:List Hd) (B:List D):Prop where
  walk:h[w]?=some (walkO X.t (madeC P ins ws C en) (.tup ((qs++[q]).map .str)))
  trip:TripAt X (w+1) hi (namesN P ins) (placesN C ins ws en) (tripO X (madeC P ins ws C en) (.tup ((qs++[q]).map .str)) (tsAt P C ins ws en qs).lost) h L B (tsAt P C ins ws en qs).front (tsAt P C ins ws en qs).rear
  wm:w<hi
section
variable {X:TX} {m hi:Nat} {ns ps:List Str} {e:O} {h h':List O} {L L':List Hd} {B K:List D} {tf tr:TW}
end
end Vs
namespace Vs
open PySem PySem.Spec PyProof.Rows L2 Mi
variable {tab:Str→Option MFn} {P:List Bk} {C:List Cb} {ins bs ops:List Str} {ws:Sw} {en:List Str}
theorem TripAt.keep {X:TX} {m hi:Nat} {ns ps:List Str} {e:O} {h h':List O} {L:List Hd} {B:List D} {tf tr:TW} (A:TripAt X m hi ns ps e h L B tf tr) (hl:hi≤h'.length) (k: ∀ c,m≤c→c<hi→h'[c]?=h[c]?):TripAt X m hi ns ps e h' L B tf tr:=by
  have q1:=A.lf;have q2:=A.lr;have q3:=A.qt.pm;have q4:=A.qt.am;have q5:=A.qt.bm
  have m1:=A.mp;have m2:=A.ma;have m3:=A.mb
  have z1:=A.yf.mq;have z2:=A.yr.mq;have z3:=A.hf;have z4:=A.hr;have z5:=A.hh
  refine ⟨⟨?_, ?_, ?_,A.pool.len,A.pool.nd,A.pool.ok,A.pool.pa,A.pool.pb,A.pool.ab⟩, ?_, ?_, ?_,A.yf,A.yr,A.qt,A.lf,A.lr,A.dis,A.mp,A.ma,A.mb,A.hf,A.hr,hl⟩
  · rw [k _ (by omega) (by omega)];exact A.pool.ins
  · rw [k _ (by omega) (by omega)];exact A.pool.num
  · rw [k _ (by omega) (by omega)];exact A.pool.blt
  · rw [k _ (by omega) (by omega)];exact A.tins
  · have:=A.front.keep (h':=h') (C:=[]) A.yf fun c c1 c2=>k c (by omega) (by omega)
    rwa [List.append_nil] at this
  · have:=A.rear.keep (h':=h') (C:=[]) A.yr fun c c1 c2=>k c (by omega) (by omega)
    rwa [List.append_nil] at this
theorem WalkAt.keep {X:TX} {w hi:Nat} {qs:List Str} {q:Str} {h h':List O} {L:List Hd} {B:List D} (A:WalkAt P C ins ws en X w hi qs q h L B) (hl:hi≤h'.length) (k: ∀ c,w≤c→c<hi→h'[c]?=h[c]?):WalkAt P C ins ws en X w hi qs q h' L B:=
  ⟨by rw [k _ (Nat.le_refl _) A.wm];exact A.walk,A.trip.keep hl fun c c1 c2=>k c (by omega) c2,A.wm⟩
structure WalkT (tab:Str→Option MFn):Prop extends TripT tab where
  at_source:tab "Trip.at_source"=some v_Trip_at_source
  at_made:tab "Trip.at_made"=some v_Trip_at_made
  terms:tab "Walk.terms"=some v_Walk_terms
  named:tab "Walk.named"=some v_Walk_named
  late:tab "Walk.late"=some v_Walk_late
  held:tab "Walk.held"=some v_Walk_held
structure Told (P:List Bk) (C:List Cb) (ins:List Str) (ws:Sw) (en:List Str) (X:TX) (w hi:Nat) (qs:List Str) (q:Str) (h h':List O) (L:List Hd) (u:Nat):Prop where
  walk: ∃ L' B',WalkAt P C ins ws en X w hi qs q h' L' B'∧L'.length≤L.length+u
  keep: ∀ c,c<h.length→(c<w∨hi≤c)→h'[c]?=h[c]?
  len:h.length≤h'.length
section
variable {X:TX} {w hi:Nat} {qs:List Str} {q:Str} {h:List O} {L:List Hd} {B:List D}
end
end Vs
namespace Vs
open PySem PySem.Spec PyProof.Rows L2 Mi
variable {tab:Str→Option MFn} {P:List Bk} {C:List Cb} {ins bs ops:List Str} {ws:Sw} {en:List Str}
structure HisT (tab:Str→Option MFn):Prop extends TripT tab where
  at_source:tab "Trip.at_source"=some v_Trip_at_source
  check_name:tab "Trip.check_name"=some v_Trip_check_name
  past_numbers:tab "Trip.past_numbers"=some v_Trip_past_numbers
  history:tab "Walk.history"=some v_Walk_history
structure HistT (tab:Str→Option MFn):Prop extends HisT tab where
  later_numbers:tab "Trip.later_numbers"=some v_Trip_later_numbers
  coming:tab "Walk.coming"=some v_Walk_coming
section
variable {X:TX} {w hi:Nat} {qs:List Str} {q:Str} {h:List O} {L:List Hd} {B:List D}
end
end Vs
namespace Vs
open PySem PySem.Spec PyProof.Rows L2 Mi
noncomputable section
end
end Vs
namespace Vs
open PySem PySem.Spec PyProof.Rows L2 Mi
section
variable {tab:Str→Option MFn}
end
section
variable {P:List Bk} {C:List Cb} {ins bs ops:List Str} {ws:Sw} {en:List Str}
variable {tab:Str→Option MFn}
end
end Vs
namespace Vs
open PySem PySem.Spec PyProof.Rows L2 Mi
section
variable {tab:Str→Option MFn} {most:Nat} {bs ws ops:List Str} {rows:List D} {C:List Cb} {en:List Str} {m:Nat}
end
theorem ly_le {n m:Nat} (h:n≤m): ∀ {d:D},lyD n d=true→lyD m d=true:=by
  have both: ∀ n,(∀ m,n≤m→∀ d,lyD n d=true→lyD m d=true):=fun n=>by
    induction n with
    | zero=>
      intro m _ d hd
      cases d<;>first|(simp only [lyD] at hd ⊢;exact hd)|(simp [lyD] at hd;done)|(simp [lyD];done)|(cases m<;>simpa [lyD] using hd)
    | succ n ih=>
      intro m hm d hd
      obtain ⟨m,rfl⟩: ∃ k,m=k+1:=⟨m - 1,by omega⟩
      have all: ∀ ds:List D,lyDs n ds=true→lyDs m ds=true:=fun ds=>by
        induction ds with
        |nil=>intro _;simp [lyDs]
        | cons d ds ih2=>
          intro h
          simp only [lyDs,Bool.and_eq_true] at h ⊢
          exact ⟨ih m (by omega) d h.1,ih2 h.2⟩
      cases d<;>first|(simp only [lyD] at hd ⊢;exact all _ hd)|(simp only [lyD] at hd ⊢;exact hd)|(simp [lyD] at hd;done)|(simp [lyD];done)
  exact fun {d}=>both n m h d
def LyT (n:Nat) (t:TW):Prop:=(∀ x,lyD n (t.own x)=true)∧(∀ x,lyD n (t.eld x)=true)∧∀ x,∀ d∈t.pst x,lyD n d=true
theorem LyT.le {n m:Nat} {t:TW} (H:LyT n t) (h:n≤m):LyT m t:=⟨fun x=>ly_le h (H.1 x),fun x=>ly_le h (H.2.1 x),fun x d hd=>ly_le h (H.2.2 x d hd)⟩
theorem ly_res {n:Nat} {own:Str→D} (h: ∀ x,lyD n (own x)=true) {r:Rw} (hr:PyData.strOk r.op=true):lyD (n+2) (tRes own r)=true:=by
  have all: ∀ l:List Str,lyDs n (l.map own)=true:=fun l=>lyDs_all fun d hd=>by
    obtain ⟨x,_,rfl⟩:=List.mem_map.mp hd
    exact h x
  have kop:PyData.strOk "op"=true:=by decide+kernel
  cases r with
  |copy x y=>exact ly_le (by omega) (h y)
  |set x o l=>simp only [tRes,lyD,lyDs,kop,hr,all,Bool.and_self]
  |call x o l kp=>simp only [tRes,lyD,lyDs,kop,hr,all,Bool.and_self]
theorem ly_upd {n:Nat} {f:Str→D} (h: ∀ x,lyD n (f x)=true) {k:Str} {d:D} (hd:lyD n d=true): ∀ x,lyD n (upd f k d x)=true:=fun x=>by
  by_cases e:x=k
  · subst e;rw [upd_same];exact hd
  · rw [upd_ne e];exact h x
theorem ly_lost {n k:Nat}:lyD (n+1) (lostD k)=true:=by
  have:PyData.strOk "lost"=true:=by decide+kernel
  simp [lostD,lyD,lyDs,this]
theorem ly_lose {n:Nat} {x:Str} {kp:List Str}: ∀ {qs:List Str} {s:(Str→D)×Nat},(∀ y,lyD (n+1) (s.1 y)=true)→∀ y,lyD (n+1) ((tLose x kp qs s).1 y)=true
  |[],s,h=>h
  | q::qs,s,h=>by
    rw [tLose]
    refine ly_lose ?_
    split
    · exact ly_upd h ly_lost
    · exact h
theorem LyT.do {n:Nat} {ns:List Str} {s:TW×Nat} (H:LyT n s.1) {r:Rw} (hr:PyData.strOk r.op=true):LyT (n+2) (tDo ns s r).1:=by
  have H2:=H.le (m:=n+2) (by omega)
  have own: ∀ x,lyD (n+2) (upd s.1.own r.x (tRes s.1.own r) x)=true:=ly_upd H2.1 (ly_res H.1 hr)
  have eld: ∀ x,lyD (n+2) (upd s.1.eld r.x (s.1.own r.x) x)=true:=ly_upd H2.2.1 (H2.1 _)
  have pst: ∀ x,∀ d∈upd s.1.pst r.x (s.1.pst r.x++[s.1.own r.x]) x,lyD (n+2) d=true:=fun x d hd=>by
    by_cases e:x=r.x
    · subst e
      rw [upd_same] at hd
      rcases List.mem_append.mp hd with z|z
      · exact H2.2.2 _ d z
      · rw [List.mem_singleton.mp z];exact H2.1 _
    · rw [upd_ne e] at hd;exact H2.2.2 x d hd
  unfold tDo
  cases hk:r.kp? with
  |none=>exact ⟨own,eld,pst⟩
  |some kp=>exact ⟨ly_lose (n:=n+1) own,eld,pst⟩
theorem LyT.rows {ns:List Str}: ∀ {rs:List Rw} {n:Nat} {s:TW×Nat},LyT n s.1→(∀ r∈rs,PyData.strOk r.op=true)→LyT (n+2*rs.length) (tRows ns s rs).1
  |[],n,s,H,_=>H
  | r::rs,n,s,H,hr=>by
    have:=LyT.rows (ns:=ns) (rs:=rs) (H.do (ns:=ns) (hr r (by simp))) (fun q hq=>hr q (by simp [hq]))
    rw [List.length_cons,show n+2*(rs.length+1)=n+2+2*rs.length by omega]
    exact this
section
variable {P:List Bk} {C:List Cb} {ins bs ops:List Str} {ws:Sw} {en:List Str}
end
section
variable {P:List Bk} {C:List Cb} {ins bs ops:List Str} {ws:Sw} {en:List Str}
end
end Vs
namespace Vs
open PySem PySem.Spec PyProof.Rows L2 Mi
inductive Wr (ins en:List Str) (inp:Str→Mi.D) (M:Str→List Mi.D→Mi.D):Nat→Mi.D→Mi.D→Prop
  |non (n:Nat):Wr ins en inp M n .non .non
  |inp (n:Nat) (x:Str):x∈ins→Wr ins en inp M n (.tup [.str "input",.str x]) (inp x)
  |ent (n:Nat) (x:Str):x∈en→Wr ins en inp M n (.tup [.str "entry",.str x]) (.tup [.str "entry",.str x])
  |lost (n k:Nat):k<100*n→Wr ins en inp M n (.tup [.str "lost",.int (k:Nat)]) (.tup [.str "lost",.int (k:Nat)])
  |op (n:Nat) (o:Str) (l:List (Mi.D×Mi.D)):(∀ p∈l,Wr ins en inp M n p.1 p.2)→l.length≤2→o.length≤20→PyData.strOk o=true→Wr ins en inp M (n+1) (.tup [.str "op",.str o,.tup (l.map (·.1))]) (M o (l.map (·.2)))
section
variable {ins en:List Str} {inp:Str→Mi.D} {M:Str→List Mi.D→Mi.D}
theorem Wr.succ {n:Nat} {d e:Mi.D} (h:Wr ins en inp M n d e):Wr ins en inp M (n+1) d e:=by
  induction h with
  |non n=>exact .non _
  |inp n x hx=>exact .inp _ x hx
  |ent n x hx=>exact .ent _ x hx
  |lost n k hk=>exact .lost _ k (by omega)
  |op n o l _ h2 h3 h4 ih=>exact .op _ o l ih h2 h3 h4
theorem Wr.le {n m:Nat} (h:n≤m) {d e:Mi.D} (t:Wr ins en inp M n d e):Wr ins en inp M m d e:=by
  induction h with
  |refl=>exact t
  |step _ ih=>exact ih.succ
def WrF (ins en:List Str) (inp:Str→Mi.D) (M:Str→List Mi.D→Mi.D) (n:Nat) (f g:Str→Mi.D):Prop:= ∀ x,Wr ins en inp M n (f x) (g x)
theorem WrF.le {n m:Nat} (h:n≤m) {f g:Str→Mi.D} (H:WrF ins en inp M n f g):WrF ins en inp M m f g:=fun x=>(H x).le h
theorem WrF.upd {n:Nat} {f g:Str→Mi.D} (H:WrF ins en inp M n f g) {k:Str} {d e:Mi.D} (h:Wr ins en inp M n d e):WrF ins en inp M n (upd f k d) (upd g k e):=fun x=>by
  by_cases z:x=k
  · subst z;rw [upd_same,upd_same];exact h
  · rw [upd_ne z,upd_ne z];exact H x
theorem WrF.lose {n:Nat} {x:Str} {kp:List Str}: ∀ {qs:List Str} {k:Nat} {f g:Str→Mi.D},WrF ins en inp M n f g→k+qs.length≤100*n→WrF ins en inp M n (tLose x kp qs (f,k)).1 (tLose x kp qs (g,k)).1∧(tLose x kp qs (f,k)).2=(tLose x kp qs (g,k)).2∧(tLose x kp qs (f,k)).2≤k+qs.length
  |[],_,_,_,H,_=>⟨H,rfl,Nat.le_refl _⟩
  | q ::qs,k,f,g,H,hb=>by
    rw [List.length_cons] at hb
    by_cases hc:q≠x∧q∉kp
    · simp only [tLose,if_pos hc,List.length_cons]
      have e:=WrF.lose (x:=x) (kp:=kp) (qs:=qs) (k:=k+1) (H.upd (k:=q) (.lost n k (by omega))) (by omega)
      exact ⟨e.1,e.2.1,by have h2:=e.2.2;simp only [lostD];omega⟩
    · simp only [tLose,if_neg hc,List.length_cons]
      have e:=WrF.lose (x:=x) (kp:=kp) (qs:=qs) (k:=k) H (by omega)
      exact ⟨e.1,e.2.1,by have:=e.2.2;omega⟩
theorem WrF.res {n:Nat} {f g:Str→Mi.D} (H:WrF ins en inp M n f g) {r:Rw} (ho:RwM r):Wr ins en inp M (n+cnt r) (tRes f r) (vRes M g r):=by
  have main: ∀ (o:Str) (l:List Str),l.length≤2→o.length≤20→PyData.strOk o=true→Wr ins en inp M (n+1) (.tup [.str "op",.str o,.tup (l.map f)]) (M o (l.map g)):=fun o l h1 h2 h3=>by
    have e:=Wr.op (ins:=ins) (en:=en) (inp:=inp) (M:=M) n o (l.map fun w=>(f w,g w)) (fun p hp=>by
      obtain ⟨w,_,rfl⟩:=List.mem_map.mp hp
      exact H w) (by rw [List.length_map];exact h1) h2 h3
    rw [List.map_map,List.map_map] at e
    exact e
  cases r with
  |copy x y=>exact H y
  |set x o l=>exact main o l ho.2.2 ho.1 ho.2.1
  |call x o l kp=>exact main o l ho.2.2 ho.1 ho.2.1
theorem WrF.row {n k:Nat} {ns:List Str} (hl:ns.length≤100) {t:TW} {g:Str→Mi.D} (H:WrF ins en inp M n t.own g) (hb:k≤100*n) {r:Rw} (ho:RwM r):WrF ins en inp M (n+cnt r) (tDo ns (t,k) r).1.own (vRow M ns (g,k) r).1∧(tDo ns (t,k) r).2=(vRow M ns (g,k) r).2∧(tDo ns (t,k) r).2≤100*(n+cnt r):=by
  have H1:WrF ins en inp M (n+cnt r) (Vs.upd t.own r.x (tRes t.own r)) (Vs.upd g r.x (vRes M g r)):=(H.le (by omega)).upd (H.res ho)
  cases r with
  |copy x y=>exact ⟨H1,rfl,by show k≤100*(n+0);omega⟩
  |set x o l=>exact ⟨H1,rfl,by show k≤100*(n+1);omega⟩
  | call x o l kp=>
    have sl:(sortS ns).length=ns.length:=(sortS_perm ns).length_eq
    have e:=WrF.lose (n:=n+1) (x:=x) (kp:=kp) (qs:=sortS ns) (k:=k) H1 (by omega)
    exact ⟨e.1,e.2.1,by have h2:=e.2.2;show (tLose x kp (sortS ns) (Vs.upd t.own (Rw.call x o l kp).x (tRes t.own (.call x o l kp)),k)).2≤100*(n+1);omega⟩
theorem WrF.rows {ns:List Str} (hl:ns.length≤100): ∀ {rs:List Rw} {n k:Nat} {t:TW} {g:Str→Mi.D},WrF ins en inp M n t.own g→k≤100*n→(∀ r∈rs,RwM r)→WrF ins en inp M (n+cntL rs) (tRows ns (t,k) rs).1.own (vRun M ns (g,k) rs).1∧(tRows ns (t,k) rs).2=(vRun M ns (g,k) rs).2∧(tRows ns (t,k) rs).2≤100*(n+cntL rs)
  |[],n,k,t,g,H,hb,_=>⟨H,rfl,hb⟩
  | r ::rs,n,k,t,g,H,hb,hr=>by
    have h1:=H.row hl (k:=k) (ns:=ns) hb (hr r (by simp))
    have h2:=WrF.rows hl (rs:=rs) (ns:=ns) (k:=(tDo ns (t,k) r).2) (t:=(tDo ns (t,k) r).1) (g:=(vRow M ns (g,k) r).1) h1.1 h1.2.2 fun x hx=>hr x (by simp [hx])
    have e1:vRun M ns (g,k) (r::rs)=vRun M ns ((vRow M ns (g,k) r).1,(tDo ns (t,k) r).2) rs:=by
      show vRun M ns (vRow M ns (g,k) r) rs=_
      rw [h1.2.1]
    have e2:tRows ns (t,k) (r::rs)=tRows ns ((tDo ns (t,k) r).1,(tDo ns (t,k) r).2) rs:=rfl
    rw [e1,e2,cntL_cons,←Nat.add_assoc]
    exact h2
end
section
variable {P:List Bk} {C:List Cb} {ins bs ops:List Str} {ws:Sw} {en:List Str} {inp:Str→Mi.D} {M:Str→List Mi.D→Mi.D}
end
end Vs
namespace Vs
open PySem PySem.Spec PyProof.Rows L2 Mi
noncomputable section
def m_worth (fns:List Str):C:=(cSeq (cIf (bCmp (mTwo isNoneD (mVar 0) (mCon .non))) (cSeq (cRet (mCon .non)) cNil) cNil) (cSeq (cIf (bCmp (mTwo eqX (mTwo atX (mVar 0) (mCon (.int 0))) (mCon (.str "input")))) (cSeq (cIf (bCmp (mTwo notInX (mTwo atX (mVar 0) (mCon (.int 1))) (mVar 1))) (cSeq (cRaise "UnknownName" (aCons (mTwo atX (mVar 0) (mCon (.int 1))) aNil)) cNil) cNil) (cSeq (cRet (mTwo atX (mVar 1) (mTwo atX (mVar 0) (mCon (.int 1))))) cNil)) cNil) (cSeq (cIf (bCmp (mTwo neX (mTwo atX (mVar 0) (mCon (.int 0))) (mCon (.str "op")))) (cSeq (cRet (mVar 0)) cNil) cNil) (cSeq (cRet (mCallF fns (mVar 2) (aCons (mTwo atX (mVar 0) (mCon (.int 1))) (aCons (mBlt tupleOfD (rCons (mLc (iAny (mTwo atX (mVar 0) (mCon (.int 2)))) (gN 3) bYes (mCall "worth" (aCons (mVar 3) (aCons (mVar 1) (aCons (mVar 2) aNil)))) [3]) rNil)) aNil)))) cNil))))
def v_worth (fns:List Str):MFn:=⟨["term","inputs","meaning","item"],3,(m_worth fns),[]⟩
end
section
variable {tab:Str→Option MFn} {fns:List Str} {G:Mg tab fns} {ins en:List Str} {inp:Str→Mi.D} {M:Str→List Mi.D→Mi.D}
theorem two_fst: ∀ {l l':List (Mi.D×Mi.D)},(∀ p∈l,∀ q∈l',p.1=q.1→p.2=q.2)→l.map (·.1)=l'.map (·.1)→l.map (·.2)=l'.map (·.2)
  |[],[],_,_=>rfl
  |[],_::_,_,e=>by cases e
  |_::_,[],_,e=>by cases e
  | p::l,q::l',h,e=>by
    simp only [List.map_cons,List.cons.injEq] at e ⊢
    exact ⟨h p (by simp) q (by simp) e.1,two_fst (fun a ha b hb=>h a (by simp [ha]) b (by simp [hb])) e.2⟩
theorem wr_fun {n:Nat} {t v:Mi.D} (h:Wr ins en inp M n t v): ∀ {m:Nat} {v':Mi.D},Wr ins en inp M m t v'→v=v':=by
  have s1:("input":Str)≠"entry":=by decide+kernel
  have s2:("input":Str)≠"lost":=by decide+kernel
  have s4:("entry":Str)≠"lost":=by decide+kernel
  have key: ∀ {n m:Nat} {t t' v v':Mi.D},Wr ins en inp M n t v→Wr ins en inp M m t' v'→t=t'→v=v':=by
    intro n m t t' v v' h
    induction h generalizing m t' v' with
    |non n=>intro h' e;cases h'<;>first|rfl|cases e
    | inp n x hx=>
      intro h' e
      cases h' with
      |non m=>cases e
      |inp m y _=>simp only [Mi.D.tup.injEq,List.cons.injEq,Mi.D.str.injEq,and_true,true_and] at e;rw [e]
      |ent m y _=>simp only [Mi.D.tup.injEq,List.cons.injEq,Mi.D.str.injEq] at e;exact absurd e.1 s1
      |lost m k _=>simp at e
      |op m o l _ _ _ _=>simp at e
    | ent n x hx=>
      intro h' e
      cases h' with
      |non m=>cases e
      |inp m y _=>simp only [Mi.D.tup.injEq,List.cons.injEq,Mi.D.str.injEq] at e;exact absurd e.1.symm s1
      |ent m y _=>exact e
      |lost m k _=>simp at e
      |op m o l _ _ _ _=>simp at e
    | lost n k hk=>
      intro h' e
      cases h' with
      |non m=>cases e
      |inp m y _=>simp at e
      |ent m y _=>simp at e
      |lost m k _=>exact e
      |op m o l _ _ _ _=>simp at e
    | op n o l hl h2 h3 h4 ih=>
      intro h' e
      cases h' with
      |non m=>cases e
      |inp m y _=>simp at e
      |ent m y _=>simp at e
      |lost m k _=>simp at e
      | op m o' l' hl' _ _ _=>
        simp only [Mi.D.tup.injEq,List.cons.injEq,Mi.D.str.injEq,and_true,true_and] at e
        rw [e.1,two_fst (fun p hp q hq z=>ih p hp (hl' q hq) z) e.2]
  intro m v' h'
  exact key h h' rfl
theorem wr_ok (hin: ∀ x∈ins,G.Ok 0 (inp x)) (hen: ∀ e∈en,G.Ok 0 (entD e)) {n:Nat} {t v:Mi.D} (h:Wr ins en inp G.M n t v):G.Ok n v:=by
  induction h with
  |non n=>exact G.le (Nat.zero_le _) G.non
  |inp n x hx=>exact G.le (Nat.zero_le _) (hin x hx)
  |ent n x hx=>exact G.le (Nat.zero_le _) (hen x hx)
  |lost n k hk=>exact G.lost n k hk
  | op n o l hl h2 h3 h4 ih=>
    exact G.res n o _ h3 h4 (by rw [List.length_map];exact h2) fun d hd=>by
      obtain ⟨p,hp,rfl⟩:=List.mem_map.mp hd
      exact ih p hp
theorem wr_nl {n:Nat} {t v:Mi.D} (h:Wr ins en inp M n t v):nl t=true:=by cases h<;>rfl
theorem callF_ev {fns:List Str} {mf:Str} (mem:mf∈fns) {i:Nat} {call:Call} {σ τ:List (Option O)} {h:List O} {r:As} {ds:List Mi.D} (hi:σ[i]?=some (some (.fz (.fn mf)))) (hr:r call ⟨σ,h⟩= .ok ds ⟨τ,h⟩):
    mCallF fns (mVar i) r call ⟨σ,h⟩=resOut τ (call mf ds h):=by
  have m0:mVar i call ⟨σ,h⟩= .ok (.bor i) ⟨σ,h⟩:=by simp only [mVar,hi]
  have p0:peek ⟨σ,h⟩ (.bor i)=some (.fn mf):=by simp only [peek,hi,frz,deref]
  simp only [mCallF,m0,Out.bind_ok,p0,kCallF,if_pos mem,hr]
def m_woA:As:=(aCons (mTwo atX (mVar 0) (mCon (.int 1))) (aCons (mBlt tupleOfD (rCons (mLc (iAny (mTwo atX (mVar 0) (mCon (.int 2)))) (gN 3) bYes (mCall "worth" (aCons (mVar 3) (aCons (mVar 1) (aCons (mVar 2) aNil)))) [3]) rNil)) aNil))
theorem c_worth (u:tab "worth"=some (v_worth fns)) (hin: ∀ x∈ins,G.Ok 0 (inp x)) (hen: ∀ e∈en,G.Ok 0 (entD e)) (il:ins.length≤100) {n:Nat} {t v:Mi.D} (h:Wr ins en inp G.M n t v): ∀ (k:Nat) (g:List O),G.lim n→callN tab (k+n+2) "worth" [t,.dic (strK ins) (ins.map inp),.fn G.f] g= .ok (.fz v) g:=by
  have z1:decide (("input":Str)="input")=true:=by decide+kernel
  have z2:decide (("entry":Str)="input")=false:=by decide+kernel
  have z3:decide (("entry":Str)="op")=false:=by decide+kernel
  have z4:decide (("lost":Str)="input")=false:=by decide+kernel
  have z5:decide (("lost":Str)="op")=false:=by decide+kernel
  have z6:decide (("op":Str)="input")=false:=by decide+kernel
  have z7:decide (("op":Str)="op")=true:=by decide+kernel
  have a0: ∀ p q:Mi.D,atI [p,q] 0=some p:=fun _ _=>rfl
  have a1: ∀ p q:Mi.D,atI [p,q] 1=some q:=fun _ _=>rfl
  have b0: ∀ p q r:Mi.D,atI [p,q,r] 0=some p:=fun _ _ _=>rfl
  have b1: ∀ p q r:Mi.D,atI [p,q,r] 1=some q:=fun _ _ _=>rfl
  have b2: ∀ p q r:Mi.D,atI [p,q,r] 2=some r:=fun _ _ _=>rfl
  induction h with
  | non n=>
    intro k g _
    rw [call_at u [some (.fz .non),some (.fz (.dic (strK ins) (ins.map inp))),some (.fz (.fn G.f)),none] rfl rfl]
    simp_arith [v_worth,m_worth,x_d_non,x_isN2,x_isn_non]
  | inp n x hx=>
    intro k g _
    rw [call_at u [some (.fz (.tup [.str "input",.str x])),some (.fz (.dic (strK ins) (ins.map inp))),some (.fz (.fn G.f)),none] rfl rfl]
    have v1:valD (strK ins) (ins.map inp) (.inr x)=some (inp x):=val_mapF (g:=inp) hx
    have nn:=x_d_nl (h:=g) (G.nl _ _ (hin x hx))
    simp_arith [v_worth,m_worth,a0,a1,z1,v1,Option.isSome_some,nn,x_d_non,x_isN2,x_isn_tup,x_nYD,x_aYD]
  | ent n x hx=>
    intro k g _
    rw [call_at u [some (.fz (.tup [.str "entry",.str x])),some (.fz (.dic (strK ins) (ins.map inp))),some (.fz (.fn G.f)),none] rfl rfl]
    simp_arith [v_worth,m_worth,a0,a1,z2,z3,x_d_non,x_isN2,x_isn_tup,x_neX_str,x_neSS,x_gvB,x_gv]
  | lost n j hj=>
    intro k g _
    rw [call_at u [some (.fz (.tup [.str "lost",.int (j:Nat)])),some (.fz (.dic (strK ins) (ins.map inp))),some (.fz (.fn G.f)),none] rfl rfl]
    simp_arith [v_worth,m_worth,a0,a1,z4,z5,x_d_non,x_isN2,x_isn_tup,x_neX_str,x_neSS,x_gvB,x_gv]
  | op n o l hl h2 h3 h4 ih=>
    intro k g hlim
    rw [show k+(n+1)+2=k+n+2+1 by omega,call_at u [some (.fz (.tup [.str "op",.str o,.tup (l.map (·.1))])),some (.fz (.dic (strK ins) (ins.map inp))),some (.fz (.fn G.f)),none] rfl rfl]
    have hl0:=G.down _ hlim
    obtain ⟨f,hf⟩: ∃ f:Mi.D→Mi.D,∀ p∈l,f p.1=p.2:=by
      refine ⟨fun d=>open Classical in if z: ∃ w,Wr ins en inp G.M n d w then Classical.choose z else .non,fun p hp=>?_⟩
      have z: ∃ w,Wr ins en inp G.M n p.1 w:=⟨p.2,hl p hp⟩
      simp only [z,dif_pos]
      exact wr_fun (Classical.choose_spec z) (hl p hp)
    have elc:=lcL_all (call:=callN tab (k+n+2)) (g:=gN 3) (te:=mCall "worth" (aCons (mVar 3) (aCons (mVar 1) (aCons (mVar 2) aNil)))) (vs:=[3]) (f:=f) (s:=⟨[some (.fz (.tup [.str "op",.str o,.tup (l.map (·.1))])),some (.fz (.dic (strK ins) (ins.map inp))),some (.fz (.fn G.f)),none],g⟩) (l.map (·.1)) (fun d hd=>by
      obtain ⟨p,hp,rfl⟩:=List.mem_map.mp hd
      have e:=ih p hp k g hl0
      have n1:=x_d_nl (h:=g) (wr_nl (hl p hp))
      have dm: ∀ h,deref h (.fn G.f)=some (.fn G.f):=fun h=>rfl
      refine ⟨⟨[some (.fz (.tup [.str "op",.str o,.tup (l.map (·.1))])),some (.fz (.dic (strK ins) (ins.map inp))),some (.fz (.fn G.f)),some (.fz p.1)],g⟩,rfl,⟨.own (.fz p.2), ?_,by rw [hf p hp];rfl⟩,rfl⟩
      simp_arith [n1,dm,e]) (fits_of (by rw [List.length_map];omega))
    have em:(l.map (·.1)).map f=l.map (·.2):=by
      rw [List.map_map]
      exact List.map_congr_left fun p hp=>hf p hp
    rw [em] at elc
    have fl2:fitsB (l.map (·.2)).length=true:=fits_of (by rw [List.length_map];omega)
    have ra:m_woA (callN tab (k+n+2)) ⟨[some (.fz (.tup [.str "op",.str o,.tup (l.map (·.1))])),some (.fz (.dic (strK ins) (ins.map inp))),some (.fz (.fn G.f)),none],g⟩= .ok [.str o,.tup (l.map (·.2))] ⟨[some (.fz (.tup [.str "op",.str o,.tup (l.map (·.1))])),some (.fz (.dic (strK ins) (ins.map inp))),some (.fz (.fn G.f)),none],g⟩:=by
      simp_arith [m_woA,b1,b2,elc,fl2,x_lc,x_ayT,x_lc1,x_wp,x_wp0,x_lc2,x_rs,x_rs0,Option.getD_some,x_toL]
    have cr:=G.ev n (k+n+1) o (l.map (·.2)) g hl0 h3 h4 (by rw [List.length_map];exact h2) fun d hd=>by
      obtain ⟨p,hp,rfl⟩:=List.mem_map.mp hd
      exact wr_ok hin hen (hl p hp)
    have mf:=callF_ev G.mem (call:=callN tab (k+n+2)) (i:=2) (σ:=[some (.fz (.tup [.str "op",.str o,.tup (l.map (·.1))])),some (.fz (.dic (strK ins) (ins.map inp))),some (.fz (.fn G.f)),none]) rfl ra
    rw [cr] at mf
    simp only [m_woA] at mf
    simp_arith [v_worth,m_worth,b0,z6,z7,mf,resOut,x_d_non,x_isN2,x_isn_tup,x_neX_str,x_neSS]
end
end Vs
namespace Vs
open PySem PySem.Spec PyProof.Rows L2 Mi
mutual
def nbD:Mi.D→Bool
  | .non=>true
  | .int _=>true
  | .str _=>true
  | .tup ds=>nbDs ds
  |_=>false
def nbDs:List Mi.D→Bool
  |[]=>true
  |d::ds=>nbD d&&nbDs ds
end
mutual
theorem nb_eqv: ∀ (d e:Mi.D) (p q:PyData),nbD d=true→nbD e=true→toP d=some p→toP e=some q→(PyData.eqv p q=true↔d=e)
  | .tup a,.tup b,p,q,ha,hb,h1,h2=>by
    simp only [toP,Option.map_eq_some_iff] at h1 h2
    obtain ⟨ps,e1,rfl⟩:=h1
    obtain ⟨qs,e2,rfl⟩:=h2
    simp only [nbD] at ha hb
    rw [PyData.eqv,nb_eqvs a b ps qs ha hb e1 e2]
    simp
  | .non,.non,p,q,_,_,h1,h2=>by
    simp only [toP,Option.some.injEq] at h1
    subst h1
    simp only [toP,Option.some.injEq] at h2
    subst h2
    simp [PyData.eqv]
  | .non,.int y0,p,q,_,_,h1,h2=>by
    simp only [toP,Option.some.injEq] at h1
    subst h1
    simp only [toP,Option.some.injEq] at h2
    subst h2
    simp [PyData.eqv]
  | .non,.str y0,p,q,_,_,h1,h2=>by
    simp only [toP,Option.some.injEq] at h1
    subst h1
    simp only [toP,Option.some.injEq] at h2
    subst h2
    simp [PyData.eqv]
  | .non,.tup y0,p,q,_,_,h1,h2=>by
    simp only [toP,Option.some.injEq] at h1
    subst h1
    simp only [toP,Option.map_eq_some_iff] at h2
    obtain ⟨qs,_,rfl⟩:=h2
    simp [PyData.eqv]
  | .int x0,.non,p,q,_,_,h1,h2=>by
    simp only [toP,Option.some.injEq] at h1
    subst h1
    simp only [toP,Option.some.injEq] at h2
    subst h2
    simp [PyData.eqv]
  | .int x0,.int y0,p,q,_,_,h1,h2=>by
    simp only [toP,Option.some.injEq] at h1
    subst h1
    simp only [toP,Option.some.injEq] at h2
    subst h2
    simp [PyData.eqv]
  | .int x0,.str y0,p,q,_,_,h1,h2=>by
    simp only [toP,Option.some.injEq] at h1
    subst h1
    simp only [toP,Option.some.injEq] at h2
    subst h2
    simp [PyData.eqv]
  | .int x0,.tup y0,p,q,_,_,h1,h2=>by
    simp only [toP,Option.some.injEq] at h1
    subst h1
    simp only [toP,Option.map_eq_some_iff] at h2
    obtain ⟨qs,_,rfl⟩:=h2
    simp [PyData.eqv]
  | .str x0,.non,p,q,_,_,h1,h2=>by
    simp only [toP,Option.some.injEq] at h1
    subst h1
    simp only [toP,Option.some.injEq] at h2
    subst h2
    simp [PyData.eqv]
  | .str x0,.int y0,p,q,_,_,h1,h2=>by
    simp only [toP,Option.some.injEq] at h1
    subst h1
    simp only [toP,Option.some.injEq] at h2
    subst h2
    simp [PyData.eqv]
  | .str x0,.str y0,p,q,_,_,h1,h2=>by
    simp only [toP,Option.some.injEq] at h1
    subst h1
    simp only [toP,Option.some.injEq] at h2
    subst h2
    simp [PyData.eqv]
  | .str x0,.tup y0,p,q,_,_,h1,h2=>by
    simp only [toP,Option.some.injEq] at h1
    subst h1
    simp only [toP,Option.map_eq_some_iff] at h2
    obtain ⟨qs,_,rfl⟩:=h2
    simp [PyData.eqv]
  | .tup x0,.non,p,q,_,_,h1,h2=>by
    simp only [toP,Option.map_eq_some_iff] at h1
    obtain ⟨ps,_,rfl⟩:=h1
    simp only [toP,Option.some.injEq] at h2
    subst h2
    simp [PyData.eqv]
  | .tup x0,.int y0,p,q,_,_,h1,h2=>by
    simp only [toP,Option.map_eq_some_iff] at h1
    obtain ⟨ps,_,rfl⟩:=h1
    simp only [toP,Option.some.injEq] at h2
    subst h2
    simp [PyData.eqv]
  | .tup x0,.str y0,p,q,_,_,h1,h2=>by
    simp only [toP,Option.map_eq_some_iff] at h1
    obtain ⟨ps,_,rfl⟩:=h1
    simp only [toP,Option.some.injEq] at h2
    subst h2
    simp [PyData.eqv]
  | .bl _,_,_,_,h,_,_,_=>by simp [nbD] at h
  | .lst _,_,_,_,h,_,_,_=>by simp [nbD] at h
  | .scr _,_,_,_,h,_,_,_=>by simp [nbD] at h
  | .dic _ _,_,_,_,h,_,_,_=>by simp [nbD] at h
  | .dct _ _,_,_,_,h,_,_,_=>by simp [nbD] at h
  | .ins _ _ _,_,_,_,h,_,_,_=>by simp [nbD] at h
  | .loc _,_,_,_,h,_,_,_=>by simp [nbD] at h
  | .fn _,_,_,_,h,_,_,_=>by simp [nbD] at h
  | .ty _,_,_,_,h,_,_,_=>by simp [nbD] at h
  | .cls _,_,_,_,h,_,_,_=>by simp [nbD] at h
  | .xn _ _ _,_,_,_,h,_,_,_=>by simp [nbD] at h
  | .lk _ _,_,_,_,h,_,_,_=>by simp [nbD] at h
  |_,.bl _,_,_,_,h,_,_=>by simp [nbD] at h
  |_,.lst _,_,_,_,h,_,_=>by simp [nbD] at h
  |_,.scr _,_,_,_,h,_,_=>by simp [nbD] at h
  |_,.dic _ _,_,_,_,h,_,_=>by simp [nbD] at h
  |_,.dct _ _,_,_,_,h,_,_=>by simp [nbD] at h
  |_,.ins _ _ _,_,_,_,h,_,_=>by simp [nbD] at h
  |_,.loc _,_,_,_,h,_,_=>by simp [nbD] at h
  |_,.fn _,_,_,_,h,_,_=>by simp [nbD] at h
  |_,.ty _,_,_,_,h,_,_=>by simp [nbD] at h
  |_,.cls _,_,_,_,h,_,_=>by simp [nbD] at h
  |_,.xn _ _ _,_,_,_,h,_,_=>by simp [nbD] at h
  |_,.lk _ _,_,_,_,h,_,_=>by simp [nbD] at h
theorem nb_eqvs: ∀ (a b:List Mi.D) (ps qs:List PyData),nbDs a=true→nbDs b=true→toPs a=some ps→toPs b=some qs→(PyData.eqvAll ps qs=true↔a=b)
  | [],[],ps,qs,_,_,h1,h2=>by
    simp only [toPs,Option.some.injEq] at h1 h2
    subst h1;subst h2;simp [PyData.eqvAll]
  | [],e::b,ps,qs,_,_,h1,h2=>by
    simp only [toPs,Option.some.injEq,Option.bind_eq_some_iff] at h1 h2
    obtain ⟨q,_,qs',_,rfl⟩:=h2
    subst h1;simp [PyData.eqvAll]
  | d::a,[],ps,qs,_,_,h1,h2=>by
    simp only [toPs,Option.some.injEq,Option.bind_eq_some_iff] at h1 h2
    obtain ⟨q,_,qs',_,rfl⟩:=h1
    subst h2;simp [PyData.eqvAll]
  | d::a,e::b,ps,qs,ha,hb,h1,h2=>by
    simp only [toPs,Option.bind_eq_some_iff,Option.some.injEq] at h1 h2
    obtain ⟨p,e1,ps',e2,rfl⟩:=h1
    obtain ⟨q,e3,qs',e4,rfl⟩:=h2
    simp only [nbDs,Bool.and_eq_true] at ha hb
    rw [PyData.eqvAll,Bool.and_eq_true,nb_eqv d e p q ha.1 hb.1 e1 e3,nb_eqvs a b ps' qs' ha.2 hb.2 e2 e4]
    simp
end
end Vs
namespace Mi
open PySem PySem.Spec PyProof.Rows L2
def SameF:Option MFn→Option MFn→Prop
  |some x,some y=>x.N.length=y.N.length∧x.np=y.np∧x.body=y.body∧x.df=y.df
  |none,none=>True
  |_,_=>False
theorem SameF.rfl_: ∀ a,SameF a a
  |some _=>⟨rfl,rfl,rfl,rfl⟩
  |none=>trivial
theorem callN_same {tab tab':Str→Option MFn} (h: ∀ f,SameF (tab f) (tab' f)): ∀ k,callN tab k=callN tab' k
  |0=>rfl
  | k + 1=>by
    funext f ds hp
    have hf:=h f
    show (match tab f with|some mf=>runFn mf (callN tab k) ds hp|none=>.bad)=(match tab' f with|some mf=>runFn mf (callN tab' k) ds hp|none=>.bad)
    rw [callN_same h k]
    cases e1:tab f with
    | none=>cases e2:tab' f with
      |none=>rfl
      |some y=>rw [e1,e2] at hf;exact hf.elim
    | some x=>cases e2:tab' f with
      |none=>rw [e1,e2] at hf;exact hf.elim
      | some y=>
        rw [e1,e2] at hf
        obtain ⟨a,b,c,d⟩:=hf
        show runFn x _ ds hp=runFn y _ ds hp
        simp only [runFn,start0,a,b,c,d]
end Mi
namespace Mi
open PySem PySem.Spec PyProof.Rows L2
theorem walkGE {l:PySem.W.OpenLaw} {n k:Nat} {q:Program} {loose:List Str} {XP:(Str→Option Value)→Heap→Prop} {YP:World→Heap→Prop} {d:DefRec} {T:World→CXT} {x:Str}
    (most:l.most=some n) (few:n≤sizeLine) (hdf:d.params.defaults=[]) (rm:Room k callerA)
    (F: ∀ (w:World) (mg:Str→Option Value) (fa:Addr) (h:Heap),YP w h→h.Ns mainGlobals mg→mg d.name=some (.ref fa)→∃ (K:Fg) (fd:FuncData) (sp:Sp),K.In h∧(∀ (s:Shared) (u:Value),BindsTo s fd ⟨[u],[]⟩ [(x,u)])∧
      (∀ (H:Hp) (a:Addr) (ns:List Int),ns.length≤n→SqL K H a (ns.map V.int)→sp [.ref a] H (fun v _=>v= .bl true) fun _ _ _=>False)∧
      ∀ base:Heap,K.In base→base.Ns mainGlobals mg→FnG l.prog w K mg base (T w) k fa fd [x] sp)
    (none_: ∀ (w:World) (H:Hp) (s:Shared) (e:Value) (s':Shared),T w [] H s (fun _ _ _=>False) e s'→False):PySem.W.WalkO q loose XP YP l.row.toRowW d [] (fun f vs=>PySem.call f vs):=by
  refine Att.attach_call most hdf fun w s₀ s1 mg mb fa o pm cd doc a vs ns G Y ho hd hcd hmg hobj hints hlen hg=>?_
  obtain ⟨K,fd,sp,KI,hb,told,hF⟩:=F w mg fa _ Y G.T.g hmg
  exact callG KI G.T.g G.T.b G.T.builtins G.T.nolimit hg hobj hints (Nat.le_trans hlen few) rm hF hb (fun H hS=>told H a ns hlen hS) fun H e s'=>none_ w H s1 e s'
end Mi
namespace K14
open PySem PySem.Spec PyProof.Rows L2 Mi
noncomputable section
def tops:List Stmt:=PySem.Challenge.pw_valueshown_k14_values_of_terms.main.body
def topS (i:Nat):Stmt:=tops.getD i (.Pass ⟨0,0,0,0⟩)
def inS (i j:Nat):Stmt:=(clsBody (topS i)).getD j (.Pass ⟨0,0,0,0⟩)
def cons:List (Str×D):=[]
def con:Str→Option D:=conOf cons
def names:List Str:=[("worth":Str),("_law_pool":Str),("_law_draw":Str),("_law_pick":Str),("_law_term":Str),("_law_value":Str),("_law_inputs_of":Str),("_law_written":Str),("_law_reckoned":Str),("_law_refused":Str),("law":Str)]
def cells:List Str:=["_law_pool","&_law_reckoned","&_law_written","+str","~worth"]
def exs:List (Str×Str):=[("UnknownName","name")]
def flds:List Str:=[]
def news:List Str:=[]
def shp:List (Str×Nat×List Str):=[(("_law_pool":Str),(2:Nat),([]:List Str)),(("_law_term":Str),(3:Nat),([]:List Str)),(("_law_inputs_of":Str),(1:Nat),([]:List Str)),(("_law_draw":Str),(2:Nat),([]:List Str)),(("worth":Str),(3:Nat),([]:List Str)),(("_law_value":Str),(3:Nat),([]:List Str)),(("_law_pick":Str),(2:Nat),([]:List Str)),(("_law_refused":Str),(2:Nat),([]:List Str)),(("law":Str),(1:Nat),([]:List Str)),(("_law_reckoned":Str),(2:Nat),([]:List Str)),(("_law_written":Str),(2:Nat),([]:List Str))]
def mns:List (Str×Nat):=[]
def isx:List (Str×Str×Bool):=[]
def insL:List Str:=["self","source","other","made","table","one","menu","_law_source_here","_law_made_here","_law_made","_law_again","_law_other_source","_law_second","_law_table_here","_law_here"]
def celL:List Str:=["codes","marks","numbers","built","own","elder","past"]
def frzL:List Str:=["Source","Made","Table"]
def sts:List (Str×Str):=[]
def pd:PD:=⟨con,names,cells,exs,flds,news,isx,shp,mns,allM,insL,celL,frzL,sts⟩
def m_worth:C:=(cSeq (cIf (bCmp (mTwo isNoneD (mVar 0) (mCon .non))) (cSeq (cRet (mCon .non)) cNil) cNil) (cSeq (cIf (bCmp (mTwo eqX (mTwo atX (mVar 0) (mCon (.int 0))) (mCon (.str "input")))) (cSeq (cIf (bCmp (mTwo notInX (mTwo atX (mVar 0) (mCon (.int 1))) (mVar 1))) (cSeq (cRaise "UnknownName" (aCons (mTwo atX (mVar 0) (mCon (.int 1))) aNil)) cNil) cNil) (cSeq (cRet (mTwo atX (mVar 1) (mTwo atX (mVar 0) (mCon (.int 1))))) cNil)) cNil) (cSeq (cIf (bCmp (mTwo neX (mTwo atX (mVar 0) (mCon (.int 0))) (mCon (.str "op")))) (cSeq (cRet (mVar 0)) cNil) cNil) (cSeq (cRet (mCallF ["_law_written","_law_reckoned"] (mVar 2) (aCons (mTwo atX (mVar 0) (mCon (.int 1))) (aCons (mBlt tupleOfD (rCons (mLcE (iAny (mTwo atX (mVar 0) (mCon (.int 2)))) (gN 3) bYes (mCall "worth" (aCons (mVar 3) (aCons (mVar 1) (aCons (mVar 2) aNil)))) [3]) rNil)) aNil)))) cNil))))
theorem t_worth:(turn (pd.cc false (mkN (topS 3)) (defScope (topS 3))) (defBody (topS 3))).map (·.m)=some m_worth:=by kernel_rfl
def f_worth:MFn:=⟨["term","inputs","meaning","item"],3,m_worth,[]⟩
theorem n_worth:mkN (topS 3)=(["term","inputs","meaning","item"]:List Str):=by decide+kernel
def m_law_pool:C:=(cSeq (cAsg (mIf (bCmp (mTwo ltD (mVar 1) (mBlt lenX (rCons (mVar 0) rNil)))) (mTwo atX (mVar 0) (mVar 1)) (mTwo addD (mTwo mulX (mCon (.int 7)) (mBlt sumD (rCons (mSl (mVar 0) pNone (pSome (mCon (.int 63)))) rNil))) (mVar 1))) (gN 2)) (cSeq (cAsg (mBlt absD (rCons (mVar 2) rNil)) (gN 3)) (cSeq (cAsg (mTwo addD (mTwo addD (mTwo addD (mTwo modD (mBlt intD (rCons (mVar 3) rNil)) (mCon (.int 2147483629))) (mTwo mulX (mTwo mulX (mCon (.int 7919)) (mVar 1)) (mVar 1))) (mTwo mulX (mCon (.int 31)) (mVar 1))) (mCon (.int 17))) (gN 4)) (cSeq (cAsg (mTwo modD (mBlt intD (rCons (mTwo mulX (mVar 4) (mCon (.int 48271))) rNil)) (mCon (.int 2147483647))) (gN 4)) (cSeq (cRet (mLst (aCons (mTwo mulX (mVar 3) (mBlt intD (rCons (mTwo geD (mVar 3) (mTwo powD (mCon (.int 10)) (mCon (.int 18)))) rNil))) (aCons (mTwo modD (mBlt intD (rCons (mTwo mulX (mVar 4) (mVar 4)) rNil)) (mCon (.int 2147483629))) aNil)))) cNil)))))
theorem t_law_pool:(turn (pd.cc false (mkN (topS 5)) (defScope (topS 5))) (defBody (topS 5))).map (·.m)=some m_law_pool:=by kernel_rfl
def f_law_pool:MFn:=⟨["_law_script","_law_k","_law_cell","_law_size","_law_mixed"],2,m_law_pool,[]⟩
theorem n_law_pool:mkN (topS 5)=(["_law_script","_law_k","_law_cell","_law_size","_law_mixed"]:List Str):=by decide+kernel
def m_law_draw:C:=(cSeq (cIf (bCmp (mTwo gtD (mTwo atX (mVar 0) (mCon (.int 0))) (mCon (.int 0)))) (cSeq (cAsg (mTwo modD (mBlt intD (rCons (mTwo atX (mVar 0) (mCon (.int 0))) rNil)) (mVar 1)) (gN 2)) (cSeq (cSetX (mTwo fdivD (mTwo atX (mVar 0) (mCon (.int 0))) (mVar 1)) (mVar 0) (mCon (.int 0))) (cSeq (cRet (mVar 2)) cNil))) cNil) (cSeq (cSetX (mTwo modD (mBlt intD (rCons (mTwo addD (mTwo mulX (mTwo atX (mVar 0) (mCon (.int 1))) (mCon (.int 48271))) (mCon (.int 11))) rNil)) (mCon (.int 2147483647))) (mVar 0) (mCon (.int 1))) (cSeq (cRet (mTwo modD (mBlt intD (rCons (mTwo fdivD (mTwo modD (mBlt intD (rCons (mTwo mulX (mTwo atX (mVar 0) (mCon (.int 1))) (mTwo atX (mVar 0) (mCon (.int 1)))) rNil)) (mCon (.int 2147483629))) (mCon (.int 16))) rNil)) (mVar 1))) cNil)))
theorem t_law_draw:(turn (pd.cc false (mkN (topS 6)) (defScope (topS 6))) (defBody (topS 6))).map (·.m)=some m_law_draw:=by kernel_rfl
def f_law_draw:MFn:=⟨["_law_pool_here","_law_many","_law_found"],2,m_law_draw,[]⟩
theorem n_law_draw:mkN (topS 6)=(["_law_pool_here","_law_many","_law_found"]:List Str):=by decide+kernel
def m_law_pick:C:=(cSeq (cRet (mTwo atX (mVar 1) (mCall "_law_draw" (aCons (mVar 0) (aCons (mBlt lenX (rCons (mVar 1) rNil)) aNil))))) cNil)
theorem t_law_pick:(turn (pd.cc false (mkN (topS 7)) (defScope (topS 7))) (defBody (topS 7))).map (·.m)=some m_law_pick:=by kernel_rfl
def f_law_pick:MFn:=⟨["_law_pool_here","_law_row"],2,m_law_pick,[]⟩
theorem n_law_pick:mkN (topS 7)=(["_law_pool_here","_law_row"]:List Str):=by decide+kernel
def m_law_term:C:=(cSeq (cIf (bOr (bCmp (mTwo eqX (mVar 2) (mCon (.int 0)))) (bCmp (mTwo eqX (mCall "_law_draw" (aCons (mVar 0) (aCons (mCon (.int 3)) aNil))) (mCon (.int 0))))) (cSeq (cRet (mCall "_law_pick" (aCons (mVar 0) (aCons (mVar 1) aNil)))) cNil) cNil) (cSeq (cAsg (mLc (iRg1 (rCons (mCall "_law_draw" (aCons (mVar 0) (aCons (mCon (.int 3)) aNil))) rNil)) (gN 4) bYes (mCall "_law_term" (aCons (mVar 0) (aCons (mVar 1) (aCons (mTwo subD (mVar 2) (mCon (.int 1))) aNil)))) [4]) (gN 3)) (cSeq (cRet (mTup (aCons (mCon (.str "op")) (aCons (mCall "_law_pick" (aCons (mVar 0) (aCons (mLst (aCons (mCon (.str "f")) (aCons (mCon (.str "g")) aNil))) aNil))) (aCons (mBlt tupleOfD (rCons (mVar 3) rNil)) aNil))))) cNil)))
theorem t_law_term:(turn (pd.cc false (mkN (topS 8)) (defScope (topS 8))) (defBody (topS 8))).map (·.m)=some m_law_term:=by kernel_rfl
def f_law_term:MFn:=⟨["_law_pool_here","_law_leaves","_law_deep","_law_parts","_law_turn"],3,m_law_term,[]⟩
theorem n_law_term:mkN (topS 8)=(["_law_pool_here","_law_leaves","_law_deep","_law_parts","_law_turn"]:List Str):=by decide+kernel
def m_law_value:C:=(cSeq (cIf (bCmp (mTwo isNoneD (mVar 0) (mCon .non))) (cSeq (cRet (mCon .non)) cNil) cNil) (cSeq (cIf (bCmp (mTwo eqX (mTwo atX (mVar 0) (mCon (.int 0))) (mCon (.str "input")))) (cSeq (cRet (mTwo atX (mVar 1) (mTwo atX (mVar 0) (mCon (.int 1))))) cNil) cNil) (cSeq (cIf (bCmp (mTwo neX (mTwo atX (mVar 0) (mCon (.int 0))) (mCon (.str "op")))) (cSeq (cRet (mVar 0)) cNil) cNil) (cSeq (cRet (mCallF ["_law_written","_law_reckoned"] (mVar 2) (aCons (mTwo atX (mVar 0) (mCon (.int 1))) (aCons (mBlt tupleOfD (rCons (mLc (iAny (mTwo atX (mVar 0) (mCon (.int 2)))) (gN 3) bYes (mCall "_law_value" (aCons (mVar 3) (aCons (mVar 1) (aCons (mVar 2) aNil)))) [3]) rNil)) aNil)))) cNil))))
theorem t_law_value:(turn (pd.cc false (mkN (topS 9)) (defScope (topS 9))) (defBody (topS 9))).map (·.m)=some m_law_value:=by kernel_rfl
def f_law_value:MFn:=⟨["_law_term_here","_law_inputs","_law_meaning","_law_part"],3,m_law_value,[]⟩
theorem n_law_value:mkN (topS 9)=(["_law_term_here","_law_inputs","_law_meaning","_law_part"]:List Str):=by decide+kernel
def m_law_inputs_of:C:=(cSeq (cIf (bOr (bNot (bVal (mBlt isiD (rCons (mVar 0) (rCons (mCon (.ty "tuple")) rNil))))) (bCmp (mTwo inX (mTwo atX (mVar 0) (mCon (.int 0))) (mLst (aCons (mCon (.str "entry")) (aCons (mCon (.str "lost")) aNil)))))) (cSeq (cRet (mLst aNil)) cNil) cNil) (cSeq (cIf (bCmp (mTwo eqX (mTwo atX (mVar 0) (mCon (.int 0))) (mCon (.str "input")))) (cSeq (cRet (mLst (aCons (mTwo atX (mVar 0) (mCon (.int 1))) aNil))) cNil) cNil) (cSeq (cAsg (mLst aNil) (gN 1)) (cSeq (cFor (iAny (mTwo atX (mVar 0) (mCon (.int 2)))) (gN 2) (cSeq (cAsg (mTwo addD (mVar 1) (mCall "_law_inputs_of" (aCons (mVar 2) aNil))) (gN 1)) cNil)) (cSeq (cRet (mVar 1)) cNil)))))
theorem t_law_inputs_of:(turn (pd.cc false (mkN (topS 10)) (defScope (topS 10))) (defBody (topS 10))).map (·.m)=some m_law_inputs_of:=by kernel_rfl
def f_law_inputs_of:MFn:=⟨["_law_term_here","_law_found","_law_part"],1,m_law_inputs_of,[]⟩
theorem n_law_inputs_of:mkN (topS 10)=(["_law_term_here","_law_found","_law_part"]:List Str):=by decide+kernel
def m_law_written:C:=(cSeq (cIf (bNot (bVal (mBlt isiD (rCons (mVar 1) (rCons (mCon (.ty "tuple")) rNil))))) (cSeq (cRet (mCon (.str "odd"))) cNil) cNil) (cSeq (cRet (mTwo addX (mTwo addX (mTwo addX (mVar 0) (mCon (.str "("))) (mOne (joinD ",") (mLc (iAny (mFrz (mVar 1))) (gN 2) bYes (mBlt strY (rCons (mVar 2) rNil)) [2]))) (mCon (.str ")")))) cNil))
theorem t_law_written:(turn (pd.cc false (mkN (topS 11)) (defScope (topS 11))) (defBody (topS 11))).map (·.m)=some m_law_written:=by kernel_rfl
def f_law_written:MFn:=⟨["_law_operation","_law_values","_law_value_here"],2,m_law_written,[]⟩
theorem n_law_written:mkN (topS 11)=(["_law_operation","_law_values","_law_value_here"]:List Str):=by decide+kernel
def m_law_reckoned:C:=(cSeq (cAsg (mBlt lenX (rCons (mVar 0) rNil)) (gN 2)) (cSeq (cFor (iAny (mFrz (mVar 1))) (gN 3) (cSeq (cAsg (mTwo addD (mTwo mulX (mCon (.int 3)) (mVar 2)) (mIf (bVal (mBlt isiD (rCons (mVar 3) (rCons (mCon (.ty "int")) rNil)))) (mVar 3) (mCon (.int 7)))) (gN 2)) cNil)) (cSeq (cRet (mTwo addD (mTwo modD (mBlt intD (rCons (mVar 2) rNil)) (mCon (.int 1000003))) (mBlt lenX (rCons (mVar 1) rNil)))) cNil)))
theorem t_law_reckoned:(turn (pd.cc false (mkN (topS 12)) (defScope (topS 12))) (defBody (topS 12))).map (·.m)=some m_law_reckoned:=by kernel_rfl
def f_law_reckoned:MFn:=⟨["_law_operation","_law_values","_law_found","_law_value_here"],2,m_law_reckoned,[]⟩
theorem n_law_reckoned:mkN (topS 12)=(["_law_operation","_law_values","_law_found","_law_value_here"]:List Str):=by decide+kernel
def m_law_refused:C:=(cSeq (cTry exs (cSeq (cAsg (mCall "worth" (aCons (mVar 0) (aCons (mVar 1) (aCons (mCon (.fn "_law_written")) aNil)))) (gN 2)) cNil) [("UnknownName",(some 3),(mOne (fldX "name") (mVar 3)))]) (cSeq (cRet (mTwo eqX (mLst (aCons (mVar 2) aNil)) (mLst aNil))) cNil))
theorem t_law_refused:(turn (pd.cc false (mkN (topS 13)) (defScope (topS 13))) (defBody (topS 13))).map (·.m)=some m_law_refused:=by kernel_rfl
def f_law_refused:MFn:=⟨["_law_term_here","_law_inputs","_law_told","e"],2,m_law_refused,[]⟩
theorem n_law_refused:mkN (topS 13)=(["_law_term_here","_law_inputs","_law_told","e"]:List Str):=by decide+kernel
def m_law:C:=(cSeq (cFor (iRg1 (rCons (mBlt maxD (rCons (mCon (.int 1)) (rCons (mBlt minD (rCons (mBlt lenX (rCons (mVar 0) rNil)) (rCons (mCon (.int 6)) rNil))) rNil))) rNil)) (gN 1) (cSeq (cAsg (mCell (mCall "_law_pool" (aCons (mVar 0) (aCons (mVar 1) aNil)))) (gN 2)) (cSeq (cAsg (mLst (aCons (mCon .non) (aCons (mTup (aCons (mCon (.str "input")) (aCons (mCon (.str "x")) aNil))) (aCons (mTup (aCons (mCon (.str "input")) (aCons (mCon (.str "y")) aNil))) (aCons (mTup (aCons (mCon (.str "entry")) (aCons (mCon (.str "r")) aNil))) (aCons (mTup (aCons (mCon (.str "lost")) (aCons (mCon (.int 0)) aNil))) (aCons (mTup (aCons (mCon (.str "lost")) (aCons (mCon (.int 3)) aNil))) aNil))))))) (gN 3)) (cSeq (cFor (iRg1 (rCons (mCon (.int 4)) rNil)) (gN 4) (cSeq (cAsg (mCall "_law_term" (aCons (mVar 2) (aCons (mVar 3) (aCons (mCon (.int 4)) aNil)))) (gN 5)) (cSeq (cAsg (mDisp [((mCon (.str "x")),(mCall "_law_draw" (aCons (mVar 2) (aCons (mCon (.int 100)) aNil)))),((mCon (.str "y")),(mCall "_law_draw" (aCons (mVar 2) (aCons (mCon (.int 100)) aNil))))]) (gN 6)) (cSeq (cIf (bCmp (mTwo neX (mCall "worth" (aCons (mVar 5) (aCons (mVar 6) (aCons (mCon (.fn "_law_reckoned")) aNil)))) (mCall "_law_value" (aCons (mVar 5) (aCons (mVar 6) (aCons (mCon (.fn "_law_reckoned")) aNil)))))) (cSeq (cRet (mCon (.bl false))) cNil) cNil) (cSeq (cAsg (mDisp [((mCon (.str "x")),(mCon (.str "one"))),((mCon (.str "y")),(mCall "_law_pick" (aCons (mVar 2) (aCons (mLst (aCons (mCon (.str "one")) (aCons (mCon (.str "two")) aNil))) aNil))))]) (gN 7)) (cSeq (cIf (bCmp (mTwo neX (mCall "worth" (aCons (mVar 5) (aCons (mVar 7) (aCons (mCon (.fn "_law_written")) aNil)))) (mCall "_law_value" (aCons (mVar 5) (aCons (mVar 7) (aCons (mCon (.fn "_law_written")) aNil)))))) (cSeq (cRet (mCon (.bl false))) cNil) cNil) (cSeq (cAsg (mCall "_law_inputs_of" (aCons (mVar 5) aNil)) (gN 8)) (cSeq (cFor (iAny (mSl (mVar 8) pNone (pSome (mCon (.int 1))))) (gN 9) (cSeq (cAsg (mBlt dictX (rCons (mLc (iAny (mLst (aCons (mCon (.str "x")) (aCons (mCon (.str "y")) aNil)))) (gN 11) (bCmp (mTwo neX (mVar 11) (mVar 9))) (mTup (aCons (mVar 11) (aCons (mCon (.int 1)) aNil))) [11]) rNil)) (gN 10)) (cSeq (cIf (bCmp (mTwo neX (mCall "_law_refused" (aCons (mVar 5) (aCons (mVar 10) aNil))) (mVar 9))) (cSeq (cRet (mCon (.bl false))) cNil) cNil) cNil))) (cSeq (cIf (bAnd (bCmp (mTwo eqX (mVar 8) (mLst aNil))) (bCmp (mTwo neX (mCall "worth" (aCons (mVar 5) (aCons mDic0 (aCons (mCon (.fn "_law_written")) aNil)))) (mCall "_law_value" (aCons (mVar 5) (aCons mDic0 (aCons (mCon (.fn "_law_written")) aNil))))))) (cSeq (cRet (mCon (.bl false))) cNil) cNil) cNil))))))))) cNil)))) (cSeq (cRet (mCon (.bl true))) cNil))
theorem t_law:(turn (pd.cc false (mkN (topS 14)) (defScope (topS 14))) (defBody (topS 14))).map (·.m)=some m_law:=by kernel_rfl
def f_law:MFn:=⟨["_law_script","_law_k","_law_pool_here","_law_leaves","_law_turn","_law_term_here","_law_inputs","_law_words","_law_names","_law_name","_law_less","_law_one"],1,m_law,[]⟩
theorem n_law:mkN (topS 14)=(["_law_script","_law_k","_law_pool_here","_law_leaves","_law_turn","_law_term_here","_law_inputs","_law_words","_law_names","_law_name","_law_less","_law_one"]:List Str):=by decide+kernel
def tabL:List (Str×MFn):=[(("worth":Str),f_worth),(("_law_pool":Str),f_law_pool),(("_law_draw":Str),f_law_draw),(("_law_pick":Str),f_law_pick),(("_law_term":Str),f_law_term),(("_law_value":Str),f_law_value),(("_law_inputs_of":Str),f_law_inputs_of),(("_law_written":Str),f_law_written),(("_law_reckoned":Str),f_law_reckoned),(("_law_refused":Str),f_law_refused),(("law":Str),f_law)]
def tab (x:Str):Option MFn:=tabL.lookup x
theorem u_worth:tab "worth"=some f_worth:=by kernel_rfl
theorem u_law_pool:tab "_law_pool"=some f_law_pool:=by kernel_rfl
theorem u_law_draw:tab "_law_draw"=some f_law_draw:=by kernel_rfl
theorem u_law_pick:tab "_law_pick"=some f_law_pick:=by kernel_rfl
theorem u_law_term:tab "_law_term"=some f_law_term:=by kernel_rfl
theorem u_law_value:tab "_law_value"=some f_law_value:=by kernel_rfl
theorem u_law_inputs_of:tab "_law_inputs_of"=some f_law_inputs_of:=by kernel_rfl
theorem u_law_written:tab "_law_written"=some f_law_written:=by kernel_rfl
theorem u_law_reckoned:tab "_law_reckoned"=some f_law_reckoned:=by kernel_rfl
theorem u_law_refused:tab "_law_refused"=some f_law_refused:=by kernel_rfl
theorem u_law:tab "law"=some f_law:=by kernel_rfl
end
end K14
namespace K14
open PySem PySem.Spec PyProof.Rows L2 Mi Vs
noncomputable def tabV:Str→Option MFn:=fun f=>tab f
theorem tabS: ∀ f,SameF (tab f) (tabV f):=fun f=>.rfl_ _
theorem sw {f:Str} {v:MFn} (e:tab f=some v):tabV f=some v:=e
theorem gens:Draws tabV addD:=⟨addI_D,⟨_,rfl,sw u_law_pool⟩,⟨_,rfl,sw u_law_draw⟩,⟨_,rfl,sw u_law_pick⟩⟩
end K14
namespace K14
open PySem PySem.Spec PyProof.Rows L2 Mi Vs
theorem ne_str {x:Str}:neD (.str x) (.str x)=some (.fz (.bl false)):=by simp only [neD,eqB,decide_true,Option.map_some,Bool.not_true]
theorem ne_int {x:Int}:neD (.int x) (.int x)=some (.fz (.bl false)):=by simp only [neD,eqB,decide_true,Option.map_some,Bool.not_true]
theorem ne_non:neD .non .non=some (.fz (.bl false)):=by simp only [neD,eqB,Option.map_some,Bool.not_true]
theorem ne_tup {ds:List Mi.D} (h:lyD 60 (.tup ds)=true):neD (.tup ds) (.tup ds)=some (.fz (.bl false)):=by
  simp only [neD,eqB_selfT (n:=60) (by decide) h,Option.map_some,Bool.not_true]
theorem neX_of {d:Mi.D} (h:neD d d=some (.fz (.bl false))):neX d d=some (.fz (.bl false)):=by simp only [neX,or2,h]
def Vd (d:Mi.D):Prop:=(∃ i,d= .int i)∨d= .non∨∃ l,d= .tup l∧lyD 60 (.tup l)=true
def rkI:Mi.D→Int
  | .int i=>i
  |_=>7
def rk (o:Str) (ds:List Mi.D):Int:=(ds.foldl (fun f d=>3*f+rkI d) (o.length:Int))%1000003+(ds.length:Int)
def m_rkB:Mi.C:=(cSeq (cAsg (mTwo addD (mTwo mulX (mCon (.int 3)) (mVar 2)) (mIf (bVal (mBlt isiD (rCons (mVar 3) (rCons (mCon (.ty "int")) rNil)))) (mVar 3) (mCon (.int 7)))) (gN 2)) cNil)
theorem rk_loop (call:Call) (h:List O) (x0 x1:Option O): ∀ (ds:List Mi.D) (f:Int) (x3:Option O),(∀ d∈ds,Vd d)→
    ∃ y3,forL call (gN 3) m_rkB ds ⟨[x0,x1,some (.fz (.int f)),x3],h⟩= .nx ⟨[x0,x1,some (.fz (.int (ds.foldl (fun f d=>3*f+rkI d) f))),y3],h⟩
  |[],f,x3,_=>⟨x3,rfl⟩
  | d ::ds,f,x3,hd=>by
    have hm: ∀ f:Int,mulX (.int 3) (.int f)=some (.fz (.int (3*f))):=fun f=>by
      simp only [mulX,or2,mulD,show smallI 3=true by decide,Bool.true_or,if_true,fI]
    have e1:m_rkB call ⟨[x0,x1,some (.fz (.int f)),some (.fz d)],h⟩= .nx ⟨[x0,x1,some (.fz (.int (3*f+rkI d))),some (.fz d)],h⟩:=by
      rcases hd d (by simp) with ⟨i,rfl⟩|rfl|⟨l,rfl,_⟩
      · simp_arith [m_rkB,hm,rkI,x_ife,x_d_ty,x_ii_int_int,x_ifeT,x_addII]
      · simp_arith [m_rkB,hm,rkI,x_ife,x_d_non,x_d_ty,x_ii_non_int,x_ifeF,x_addII]
      · simp_arith [m_rkB,hm,rkI,x_ife,x_d_ty,x_ii_tup_int,x_ifeF,x_addII]
    obtain ⟨y3,e2⟩:=rk_loop call h x0 x1 ds (3*f+rkI d) (some (.fz d)) fun x hx=>hd x (by simp [hx])
    refine ⟨y3, ?_⟩
    rw [forL_nx rfl e1,e2]
    rfl
theorem c_reckoned (k:Nat) {o:Str} (ho:o.length≤20) {ds:List Mi.D} (hd: ∀ d∈ds,Vd d) (h:List O):callN tabV (k+1) "_law_reckoned" [.str o,.tup ds] h= .ok (.fz (.int (rk o ds))) h:=by
  rw [call_at (sw u_law_reckoned) [some (.fz (.str o)),some (.fz (.tup ds)),none,none] rfl rfl]
  obtain ⟨y3,e⟩:=rk_loop (callN tabV k) h (some (.fz (.str o))) (some (.fz (.tup ds))) ds (o.length:Int) none hd
  have hmod: ∀ i:Int,modD (.int i) (.int 1000003)=some (.fz (.int (i%1000003))):=fun i=>by
    simp only [modD,show (0:Int)<1000003 by decide,if_true,fI]
  have hlen:lenD [.str o]=some (.fz (.int (o.length:Int))):=by simp only [lenD,fits_of (show o.length≤100000 by omega),if_true,fI]
  have e':=e
  unfold m_rkB at e'
  simp_arith [f_law_reckoned,m_law_reckoned,hlen,e',hmod,rk,x_lX_str,x_for,x_fzm,x_fzm1,x_tC,x_tC_tup,x_fzm2,x_ayT,x_forL,x_intI,x_lX_tup,x_lenT,x_addII]
noncomputable def mgR:Mg tabV ["_law_written","_law_reckoned"] where
  f:="_law_reckoned"
  M:=fun o ds=>.int (rk o ds)
  Ok:=fun _ d=>Vd d
  lim:=fun n=>n≤12
  mem:=by simp
  down:=fun _ h=>by omega
  mono:=fun _ _ h=>h
  lost:=fun n k _=>.inr (.inr ⟨_,rfl,by simp only [lyD,lyDs,show PyData.strOk "lost"=true by decide+kernel,Bool.and_self]⟩)
  non:=.inr (.inl rfl)
  nl:=fun _ _ h=>by rcases h with ⟨i,rfl⟩|rfl|⟨l,rfl,_⟩<;>rfl
  ev:=fun n k o ds h _ ho _ _ hd=>c_reckoned k ho hd h
  res:=fun _ _ _ _ _ _ _=>.inl ⟨_,rfl⟩
def strOf (d:Mi.D):Str:=match strY [d] with
  |some (.fz (.str y))=>y
  |_=>Str.empty
def wM (o:Str) (ds:List Mi.D):Mi.D:=.str (o++"("++Txt.join "," (ds.map strOf)++")")
def five:List Str:=["r","rr","rrr","s","ss"]
theorem lost_short:((List.range 1300).all fun k=>decide ((PyData.shown (.tuple [.str "lost",.int (k:Int)])).length≤40))=true:=by decide+kernel
theorem ent_short:(five.all fun e=>decide ((PyData.shown (.tuple [.str "entry",.str e])).length≤40)&&PyData.strOk e)=true:=by decide+kernel
def OkV (n:Nat) (d:Mi.D):Prop:=(∃ x,d= .str x∧x.length+24≤2^n*400)∨d= .non∨(∃ k,d= .tup [.str "lost",.int (k:Nat)]∧k<100*n)∨∃ e∈five,d= .tup [.str "entry",.str e]
theorem pow_one (n:Nat):400≤2^n*400:=by
  have:=Nat.one_le_two_pow (n:=n)
  omega
theorem strY_tup {ds:List Mi.D} {p:PyData} (e:toP (.tup ds)=some p) (h1:p.showable=true) (h2:p.hasDict=false) (h3:p.depth≤40) (h4:p.shown.length≤40):strY [.tup ds]=some (.fz (.str p.shown)):=by
  have c4:fitsB p.shown.length=true:=fits_of (by omega)
  have e1:strD [.tup ds]=none:=rfl
  unfold strY orN
  rw [e1]
  simp only [strE,e,Option.bind_some]
  exact if_pos ⟨h1,h2,h3,c4⟩
theorem ok_str {n:Nat} (hn:n≤12) {d:Mi.D} (h:OkV n d):strY [d]=some (.fz (.str (strOf d)))∧(strOf d).length+24≤2^n*400:=by
  have key: ∀ {d:Mi.D} {y:Str},strY [d]=some (.fz (.str y))→y.length+24≤2^n*400→strY [d]=some (.fz (.str (strOf d)))∧(strOf d).length+24≤2^n*400:=fun {d y} e hl=>by
    have:strOf d=y:=by simp only [strOf,e]
    rw [this];exact ⟨e,hl⟩
  have hp:=pow_one n
  rcases h with ⟨x,rfl,hx⟩|rfl|⟨k,rfl,hk⟩|⟨e,he,rfl⟩
  · exact key rfl hx
  · exact key (y:="None") rfl (by rw [show ("None":Str).length=4 by decide+kernel];omega)
  · have hs:=of_decide_eq_true (List.all_eq_true.mp lost_short k (List.mem_range.mpr (by omega)))
    have lg:=Nat.log2_le_self k
    refine key (strY_tup (p:=.tuple [.str "lost",.int (k:Nat)]) (by simp [toP,toPs]) ?_ rfl (by simp [PyData.depth,PyData.depthAll]) hs) (by omega)
    simp only [PyData.showable,PyData.showableAll,Int.natAbs_natCast,Bool.and_true,Bool.true_and,decide_eq_true_eq]
    omega
  · have hs:=List.all_eq_true.mp ent_short e he
    simp only [Bool.and_eq_true,decide_eq_true_eq] at hs
    exact key (strY_tup (p:=.tuple [.str "entry",.str e]) (by simp [toP,toPs]) rfl rfl (by simp [PyData.depth,PyData.depthAll]) hs.1) (by omega)
theorem addX_txt {a b:Str} (h:a.length+b.length≤16777216):addX (.str a) (.str b)=some (.fz (.str (a++b))):=by
  unfold addX or2
  by_cases hf:fitsB (a.length+b.length)=true
  · simp only [addD,hf,if_true]
  · simp only [addD,hf,if_false,addW,decide_eq_true h,if_true]
    rfl
theorem pow_le {n:Nat} (h:n≤12):2^n*400≤2000000:=by
  have:2^n≤2^12:=Nat.pow_le_pow_right (by decide) h
  have:(2:Nat)^12=4096:=by decide
  omega
theorem join_len {ds:List Mi.D} {B:Nat} (hl:ds.length≤2) (h: ∀ d∈ds,(strOf d).length+24≤B) (hB:24≤B):(Txt.join "," (ds.map strOf)).length+48≤2*B+1∧((ds.map strOf).map (·.length)).sum+(ds.map strOf).length*(",":Str).length≤2*B+2:=by
  have c1:(",":Str).length=1:=by decide+kernel
  match ds,hl with
  |[],_=>exact ⟨by rw [show Txt.join "," (([]:List Mi.D).map strOf)=Str.empty from rfl,show Str.empty.length=0 from rfl];omega,by simp⟩
  | [a],_=>
    have h1:=h a (by simp)
    exact ⟨by rw [show Txt.join "," ([a].map strOf)=strOf a from rfl];omega,by simp [c1];omega⟩
  | [a,b],_=>
    have h1:=h a (by simp)
    have h2:=h b (by simp)
    refine ⟨?_,by simp [c1];omega⟩
    have e:Txt.join "," ([a,b].map strOf)=strOf a++","++strOf b:=rfl
    rw [e,Str.length_append,Str.length_append,c1]
    omega
theorem c_written (n k:Nat) {o:Str} {ds:List Mi.D} (h:List O) (hn:n≤12) (ho:o.length≤20) (hl:ds.length≤2) (hd: ∀ d∈ds,OkV n d):callN tabV (k+1) "_law_written" [.str o,.tup ds] h= .ok (.fz (wM o ds)) h:=by
  rw [call_at (sw u_law_written) [some (.fz (.str o)),some (.fz (.tup ds)),none] rfl rfl]
  have e:=lcL_all (call:=callN tabV k) (g:=gN 2) (te:=mBlt strY (rCons (mVar 2) rNil)) (vs:=[2]) (f:=fun d=>.str (strOf d)) (s:=⟨[some (.fz (.str o)),some (.fz (.tup ds)),none],h⟩) ds (fun d hd'=>by
    have z:=(ok_str hn (hd d hd')).1
    have nd:nl d=true:=by rcases hd d hd' with ⟨x,rfl,_⟩|rfl|⟨j,rfl,_⟩|⟨e,_,rfl⟩<;>rfl
    refine ⟨⟨[some (.fz (.str o)),some (.fz (.tup ds)),some (.fz d)],h⟩,rfl,⟨.own (.fz (.str (strOf d))), ?_,rfl⟩,rfl⟩
    simp_arith [x_d_nl nd,z]) (fits_of (by omega))
  have hB: ∀ d∈ds,(strOf d).length+24≤2^n*400:=fun d hd'=>(ok_str hn (hd d hd')).2
  obtain ⟨j1,j2⟩:=join_len hl hB (by have:=pow_one n;omega)
  have pl:=pow_le hn
  have em:(ds.map fun d=>Mi.D.str (strOf d))=(ds.map strOf).map Mi.D.str:=by rw [List.map_map];rfl
  have ej:joinD "," (.lst (ds.map fun d=>.str (strOf d)))=some (.fz (.str (Txt.join "," (ds.map strOf)))):=by
    rw [em]
    have h3:decide (((ds.map strOf).map (·.length)).sum+(ds.map strOf).length*(",":Str).length≤16777216)=true:=decide_eq_true (by omega)
    simp only [joinD,joinS,strsD_map,Option.bind_some,h3,if_true]
  have c1:("(":Str).length=1:=by decide+kernel
  have c2:(")":Str).length=1:=by decide+kernel
  have b1:=addX_txt (a:=o) (b:="(") (by rw [c1];omega)
  have b2:=addX_txt (a:=o++"(") (b:=Txt.join "," (ds.map strOf)) (by rw [Str.length_append,c1];omega)
  have b3:=addX_txt (a:=o++"("++Txt.join "," (ds.map strOf)) (b:=")") (by rw [Str.length_append,Str.length_append,c1,c2];omega)
  simp_arith [f_law_written,m_law_written,e,ej,b1,b2,b3,wM,x_d_ty,x_ii_tup_tuple,x_lc,x_fzm,x_fzm1,x_tC,x_tC_tup,x_fzm2,x_ayT,x_lc1,x_wp,x_wp0,x_lc2,x_rs,x_rs0,Option.getD_some]
def OkW (n:Nat) (d:Mi.D):Prop:=nl d=true∧(n≤13→OkV n d)
noncomputable def mgW:Mg tabV ["_law_written","_law_reckoned"] where
  f:="_law_written"
  M:=wM
  Ok:=OkW
  lim:=fun n=>n≤12
  mem:=by simp
  down:=fun _ h=>by omega
  mono:=fun n d h=>⟨h.1,fun hn=>by
    rcases h.2 (by omega) with ⟨x,rfl,hx⟩|rfl|⟨k,rfl,hk⟩|⟨e,he,rfl⟩
    · exact .inl ⟨x,rfl,by rw [Nat.pow_succ];omega⟩
    · exact .inr (.inl rfl)
    · exact .inr (.inr (.inl ⟨k,rfl,by omega⟩))
    · exact .inr (.inr (.inr ⟨e,he,rfl⟩))⟩
  lost:=fun n k hk=>⟨rfl,fun _=>.inr (.inr (.inl ⟨k,rfl,hk⟩))⟩
  non:=⟨rfl,fun _=>.inr (.inl rfl)⟩
  nl:=fun _ d h=>h.1
  ev:=fun n k o ds h hn ho _ hl hd=>c_written n k h hn ho hl fun d hd'=>(hd d hd').2 (by omega)
  res:=fun n o ds ho _ hl hd=>⟨rfl,fun hn=>by
    have hB: ∀ d∈ds,(strOf d).length+24≤2^n*400:=fun d hd'=>(ok_str (n:=n) (by omega) ((hd d hd').2 (by omega))).2
    obtain ⟨j1,j2⟩:=join_len hl hB (by have:=pow_one n;omega)
    have c1:("(":Str).length=1:=by decide+kernel
    have c2:(")":Str).length=1:=by decide+kernel
    refine .inl ⟨_,rfl, ?_⟩
    rw [Str.length_append,Str.length_append,Str.length_append,c1,c2,Nat.pow_succ]
    omega⟩
end K14
namespace K14
open PySem PySem.Spec PyProof.Rows L2 Mi Vs
abbrev FN:List Str:=["_law_written","_law_reckoned"]
theorem sameR {n:Nat} {d:Mi.D} (h:mgR.Ok n d):neD d d=some (.fz (.bl false)):=by
  rcases (show Vd d from h) with ⟨i,rfl⟩|rfl|⟨l,rfl,hl⟩
  · exact ne_int
  · exact ne_non
  · exact ne_tup hl
theorem sameW {n:Nat} (hn:n≤12) {d:Mi.D} (h:mgW.Ok n d):neD d d=some (.fz (.bl false)):=by
  rcases (show OkV n d from h.2 (by omega)) with ⟨x,rfl,_⟩|rfl|⟨k,rfl,_⟩|⟨e,he,rfl⟩
  · exact ne_str
  · exact ne_non
  · exact ne_tup (by simp only [lyD,lyDs,show PyData.strOk "lost"=true by decide+kernel,Bool.and_self])
  · have hs:=List.all_eq_true.mp ent_short e he
    simp only [Bool.and_eq_true,decide_eq_true_eq] at hs
    exact ne_tup (by simp only [lyD,lyDs,show PyData.strOk "entry"=true by decide+kernel,hs.2,Bool.and_self])
section
variable {call:Call} {σ τ:List (Option O)} {h:List O}
def kLE (g:Tg) (tt:B) (te:E) (vs:List Nat) (call:Call) (ds:List D) (s:Mi.S):Out R:=kLcE vs s.σ (lcLE call g tt te vs ds [] ⟨wipeO s.σ vs,s.h⟩)
theorem x_lcE {m:Iv} {g:Tg} {tt:B} {te:E} {vs:List Nat} {s:Mi.S}:mLcE m g tt te vs call s=(m call s).bind (kLE g tt te vs call):=rfl
theorem x_lcE1 {g:Tg} {tt:B} {te:E} {vs:List Nat} {ds:List D}:kLE g tt te vs call ds ⟨σ,h⟩=kLcE vs σ (lcLE call g tt te vs ds [] ⟨wipeO σ vs,h⟩):=rfl
theorem x_lcE2 {vs:List Nat} {l:List D}:kLcE vs σ (.ok l ⟨τ,h⟩)= .ok (.own (.lst l)) ⟨rst τ σ vs,h⟩:=rfl
theorem x_lcE3 {vs:List Nat} {c:Str} {e:D}:kLcE vs σ (.exc c e ⟨τ,h⟩)= .exc c e ⟨rst τ σ vs,h⟩:=rfl
theorem lcLE_ok {g:Tg} {tt:B} {te:E} {vs:List Nat}: ∀ (ds acc:List D) (s:Mi.S) {o:List D} {s':Mi.S},lcL call g tt te vs ds acc s= .ok o s'→lcLE call g tt te vs ds acc s= .ok o s'
  |[],acc,s,o,s',e=>e
  | d ::ds,acc,s,o,s',e=>by
    simp only [lcL] at e
    simp only [lcLE]
    cases e1:g (.fz d) s with
    |none=>simp only [e1] at e;cases e
    | some s1 =>
      simp only [e1] at e ⊢
      cases e2:tt call s1 with
      |bad=>simp only [e2] at e;cases e
      |exc c x s2=>simp only [e2] at e;cases e
      | ok b s2=>
        cases b with
        |false=>simp only [e2] at e ⊢;exact lcLE_ok ds acc _ e
        | true=>
          simp only [e2] at e ⊢
          cases e3:te call s2 with
          |bad=>simp only [e3] at e;cases e
          |exc c x s3=>simp only [e3] at e;cases e
          | ok x s3=>
            simp only [e3] at e ⊢
            cases e4:take s3 x with
            |none=>simp only [e4] at e;cases e
            | some p=>
              obtain ⟨y,s4⟩:=p
              simp only [e4] at e ⊢
              by_cases hf:fitsB (acc.length+1)=true
              · simp only [hf,if_true] at e ⊢;exact lcLE_ok ds _ _ e
              · simp only [hf,if_false] at e;cases e
theorem lcLE_exc {g:Tg} {te:E} {vs:List Nat} {f:D→D} {s:Mi.S} {d:D} {c:Str} {x:D} {r:List D} (he: ∃ s1 s3,g (.fz d) s=some s1∧te call s1= .exc c x s3∧(⟨wipeO s3.σ vs,s3.h⟩:Mi.S)=s): ∀ (ds acc:List D),
    (∀ d∈ds,∃ s1,g (.fz d) s=some s1∧(∃ r,te call s1= .ok r s1∧take s1 r=some (f d,s1))∧(⟨wipeO s1.σ vs,s1.h⟩:Mi.S)=s)→fitsB (acc.length+ds.length)=true→lcLE call g bYes te vs (ds++d::r) acc s= .exc c x s
  | [],acc,_,_=>by
    obtain ⟨s1,s3,e1,e2,e3⟩:=he
    show lcLE call g bYes te vs (d::r) acc s=_
    simp only [lcLE,e1,bYes,e2,e3]
  | a ::ds,acc,h,hf=>by
    obtain ⟨s1,e1,⟨y,e2,e3⟩,e4⟩:=h a (by simp)
    have hf':fitsB (acc.length+1)=true:=by
      simp only [fitsB,decide_eq_true_eq,List.length_cons] at hf ⊢;omega
    show lcLE call g bYes te vs (a::(ds++d::r)) acc s=_
    simp only [lcLE,e1,bYes,e2,e3,hf',if_true,e4]
    exact lcLE_exc he ds (acc++[f a]) (fun z hz=>h z (by simp [hz])) (by
      simp only [fitsB,decide_eq_true_eq,List.length_cons,List.length_append,List.length_nil] at hf ⊢;omega)
end
section
variable {G:Mg tabV FN} {ins en dk:List Str} {inp:Str→Mi.D}
def m_worthA:As:=(aCons (mTwo atX (mVar 0) (mCon (.int 1))) (aCons (mBlt tupleOfD (rCons (mLcE (iAny (mTwo atX (mVar 0) (mCon (.int 2)))) (gN 3) bYes (mCall "worth" (aCons (mVar 3) (aCons (mVar 1) (aCons (mVar 2) aNil)))) [3]) rNil)) aNil))
theorem c_worth (hin: ∀ x∈ins,G.Ok 0 (inp x)) (hen: ∀ e∈en,G.Ok 0 (entD e)) (hs: ∀ x∈ins,x∈dk) {n:Nat} {t v:Mi.D} (h:Wr ins en inp G.M n t v): ∀ (k:Nat) (g:List O),G.lim n→callN tabV (k+n+2) "worth" [t,.dic (strK dk) (dk.map inp),.fn G.f] g= .ok (.fz v) g:=by
  have z1:decide (("input":Str)="input")=true:=by decide+kernel
  have z2:decide (("entry":Str)="input")=false:=by decide+kernel
  have z3:decide (("entry":Str)="op")=false:=by decide+kernel
  have z4:decide (("lost":Str)="input")=false:=by decide+kernel
  have z5:decide (("lost":Str)="op")=false:=by decide+kernel
  have z6:decide (("op":Str)="input")=false:=by decide+kernel
  have z7:decide (("op":Str)="op")=true:=by decide+kernel
  have a0: ∀ p q:Mi.D,atI [p,q] 0=some p:=fun _ _=>rfl
  have a1: ∀ p q:Mi.D,atI [p,q] 1=some q:=fun _ _=>rfl
  have b0: ∀ p q r:Mi.D,atI [p,q,r] 0=some p:=fun _ _ _=>rfl
  have b1: ∀ p q r:Mi.D,atI [p,q,r] 1=some q:=fun _ _ _=>rfl
  have b2: ∀ p q r:Mi.D,atI [p,q,r] 2=some r:=fun _ _ _=>rfl
  induction h with
  | non n=>
    intro k g _
    rw [call_at (sw u_worth) [some (.fz .non),some (.fz (.dic (strK dk) (dk.map inp))),some (.fz (.fn G.f)),none] rfl rfl]
    simp_arith [f_worth,m_worth,x_d_non,x_isN2,x_isn_non]
  | inp n x hx=>
    intro k g _
    rw [call_at (sw u_worth) [some (.fz (.tup [.str "input",.str x])),some (.fz (.dic (strK dk) (dk.map inp))),some (.fz (.fn G.f)),none] rfl rfl]
    have v1:valD (strK dk) (dk.map inp) (.inr x)=some (inp x):=val_mapF (g:=inp) (hs x hx)
    have nn:=x_d_nl (h:=g) (G.nl _ _ (hin x hx))
    simp_arith [f_worth,m_worth,a0,a1,z1,v1,Option.isSome_some,nn,x_d_non,x_isN2,x_isn_tup,x_nYD,x_aYD]
  | ent n x hx=>
    intro k g _
    rw [call_at (sw u_worth) [some (.fz (.tup [.str "entry",.str x])),some (.fz (.dic (strK dk) (dk.map inp))),some (.fz (.fn G.f)),none] rfl rfl]
    simp_arith [f_worth,m_worth,a0,a1,z2,z3,x_d_non,x_isN2,x_isn_tup,x_neX_str,x_neSS,x_gvB,x_gv]
  | lost n j hj=>
    intro k g _
    rw [call_at (sw u_worth) [some (.fz (.tup [.str "lost",.int (j:Nat)])),some (.fz (.dic (strK dk) (dk.map inp))),some (.fz (.fn G.f)),none] rfl rfl]
    simp_arith [f_worth,m_worth,a0,a1,z4,z5,x_d_non,x_isN2,x_isn_tup,x_neX_str,x_neSS,x_gvB,x_gv]
  | op n o l hl h2 h3 h4 ih=>
    intro k g hlim
    rw [show k+(n+1)+2=k+n+2+1 by omega,call_at (sw u_worth) [some (.fz (.tup [.str "op",.str o,.tup (l.map (·.1))])),some (.fz (.dic (strK dk) (dk.map inp))),some (.fz (.fn G.f)),none] rfl rfl]
    have hl0:=G.down _ hlim
    obtain ⟨f,hf⟩: ∃ f:Mi.D→Mi.D,∀ p∈l,f p.1=p.2:=by
      refine ⟨fun d=>open Classical in if z: ∃ w,Wr ins en inp G.M n d w then Classical.choose z else .non,fun p hp=>?_⟩
      have z: ∃ w,Wr ins en inp G.M n p.1 w:=⟨p.2,hl p hp⟩
      simp only [z,dif_pos]
      exact wr_fun (Classical.choose_spec z) (hl p hp)
    have elc:=lcL_all (call:=callN tabV (k+n+2)) (g:=gN 3) (te:=mCall "worth" (aCons (mVar 3) (aCons (mVar 1) (aCons (mVar 2) aNil)))) (vs:=[3]) (f:=f) (s:=⟨[some (.fz (.tup [.str "op",.str o,.tup (l.map (·.1))])),some (.fz (.dic (strK dk) (dk.map inp))),some (.fz (.fn G.f)),none],g⟩) (l.map (·.1)) (fun d hd=>by
      obtain ⟨p,hp,rfl⟩:=List.mem_map.mp hd
      have e:=ih p hp k g hl0
      have n1:=x_d_nl (h:=g) (wr_nl (hl p hp))
      have dm: ∀ h,deref h (.fn G.f)=some (.fn G.f):=fun h=>rfl
      refine ⟨⟨[some (.fz (.tup [.str "op",.str o,.tup (l.map (·.1))])),some (.fz (.dic (strK dk) (dk.map inp))),some (.fz (.fn G.f)),some (.fz p.1)],g⟩,rfl,⟨.own (.fz p.2), ?_,by rw [hf p hp];rfl⟩,rfl⟩
      simp_arith [n1,dm,e]) (fits_of (by rw [List.length_map];omega))
    have em:(l.map (·.1)).map f=l.map (·.2):=by
      rw [List.map_map]
      exact List.map_congr_left fun p hp=>hf p hp
    rw [em] at elc
    replace elc:=lcLE_ok _ _ _ elc
    have fl2:fitsB (l.map (·.2)).length=true:=fits_of (by rw [List.length_map];omega)
    have ra:m_worthA (callN tabV (k+n+2)) ⟨[some (.fz (.tup [.str "op",.str o,.tup (l.map (·.1))])),some (.fz (.dic (strK dk) (dk.map inp))),some (.fz (.fn G.f)),none],g⟩= .ok [.str o,.tup (l.map (·.2))] ⟨[some (.fz (.tup [.str "op",.str o,.tup (l.map (·.1))])),some (.fz (.dic (strK dk) (dk.map inp))),some (.fz (.fn G.f)),none],g⟩:=by
      simp_arith [m_worthA,b1,b2,x_lcE,x_lcE1,x_lcE2,elc,fl2,x_ayT,x_wp,x_wp0,x_rs,x_rs0,Option.getD_some,x_toL]
    have cr:=G.ev n (k+n+1) o (l.map (·.2)) g hl0 h3 h4 (by rw [List.length_map];exact h2) fun d hd=>by
      obtain ⟨p,hp,rfl⟩:=List.mem_map.mp hd
      exact wr_ok hin hen (hl p hp)
    have mf:=callF_ev G.mem (call:=callN tabV (k+n+2)) (i:=2) (σ:=[some (.fz (.tup [.str "op",.str o,.tup (l.map (·.1))])),some (.fz (.dic (strK dk) (dk.map inp))),some (.fz (.fn G.f)),none]) rfl ra
    rw [cr] at mf
    simp only [m_worthA] at mf
    simp_arith [f_worth,m_worth,b0,z6,z7,mf,resOut,x_d_non,x_isN2,x_isn_tup,x_neX_str,x_neSS]
def m_valueA:As:=(aCons (mTwo atX (mVar 0) (mCon (.int 1))) (aCons (mBlt tupleOfD (rCons (mLc (iAny (mTwo atX (mVar 0) (mCon (.int 2)))) (gN 3) bYes (mCall "_law_value" (aCons (mVar 3) (aCons (mVar 1) (aCons (mVar 2) aNil)))) [3]) rNil)) aNil))
theorem c_value (hin: ∀ x∈ins,G.Ok 0 (inp x)) (hen: ∀ e∈en,G.Ok 0 (entD e)) (hs: ∀ x∈ins,x∈dk) {n:Nat} {t v:Mi.D} (h:Wr ins en inp G.M n t v): ∀ (k:Nat) (g:List O),G.lim n→callN tabV (k+n+2) "_law_value" [t,.dic (strK dk) (dk.map inp),.fn G.f] g= .ok (.fz v) g:=by
  have z1:decide (("input":Str)="input")=true:=by decide+kernel
  have z2:decide (("entry":Str)="input")=false:=by decide+kernel
  have z3:decide (("entry":Str)="op")=false:=by decide+kernel
  have z4:decide (("lost":Str)="input")=false:=by decide+kernel
  have z5:decide (("lost":Str)="op")=false:=by decide+kernel
  have z6:decide (("op":Str)="input")=false:=by decide+kernel
  have z7:decide (("op":Str)="op")=true:=by decide+kernel
  have a0: ∀ p q:Mi.D,atI [p,q] 0=some p:=fun _ _=>rfl
  have a1: ∀ p q:Mi.D,atI [p,q] 1=some q:=fun _ _=>rfl
  have b0: ∀ p q r:Mi.D,atI [p,q,r] 0=some p:=fun _ _ _=>rfl
  have b1: ∀ p q r:Mi.D,atI [p,q,r] 1=some q:=fun _ _ _=>rfl
  have b2: ∀ p q r:Mi.D,atI [p,q,r] 2=some r:=fun _ _ _=>rfl
  induction h with
  | non n=>
    intro k g _
    rw [call_at (sw u_law_value) [some (.fz .non),some (.fz (.dic (strK dk) (dk.map inp))),some (.fz (.fn G.f)),none] rfl rfl]
    simp_arith [f_law_value,m_law_value,x_d_non,x_isN2,x_isn_non]
  | inp n x hx=>
    intro k g _
    rw [call_at (sw u_law_value) [some (.fz (.tup [.str "input",.str x])),some (.fz (.dic (strK dk) (dk.map inp))),some (.fz (.fn G.f)),none] rfl rfl]
    have v1:valD (strK dk) (dk.map inp) (.inr x)=some (inp x):=val_mapF (g:=inp) (hs x hx)
    have nn:=x_d_nl (h:=g) (G.nl _ _ (hin x hx))
    simp_arith [f_law_value,m_law_value,a0,a1,z1,v1,Option.isSome_some,nn,x_d_non,x_isN2,x_isn_tup,x_aYD]
  | ent n x hx=>
    intro k g _
    rw [call_at (sw u_law_value) [some (.fz (.tup [.str "entry",.str x])),some (.fz (.dic (strK dk) (dk.map inp))),some (.fz (.fn G.f)),none] rfl rfl]
    simp_arith [f_law_value,m_law_value,a0,a1,z2,z3,x_d_non,x_isN2,x_isn_tup,x_neX_str,x_neSS,x_gvB,x_gv]
  | lost n j hj=>
    intro k g _
    rw [call_at (sw u_law_value) [some (.fz (.tup [.str "lost",.int (j:Nat)])),some (.fz (.dic (strK dk) (dk.map inp))),some (.fz (.fn G.f)),none] rfl rfl]
    simp_arith [f_law_value,m_law_value,a0,a1,z4,z5,x_d_non,x_isN2,x_isn_tup,x_neX_str,x_neSS,x_gvB,x_gv]
  | op n o l hl h2 h3 h4 ih=>
    intro k g hlim
    rw [show k+(n+1)+2=k+n+2+1 by omega,call_at (sw u_law_value) [some (.fz (.tup [.str "op",.str o,.tup (l.map (·.1))])),some (.fz (.dic (strK dk) (dk.map inp))),some (.fz (.fn G.f)),none] rfl rfl]
    have hl0:=G.down _ hlim
    obtain ⟨f,hf⟩: ∃ f:Mi.D→Mi.D,∀ p∈l,f p.1=p.2:=by
      refine ⟨fun d=>open Classical in if z: ∃ w,Wr ins en inp G.M n d w then Classical.choose z else .non,fun p hp=>?_⟩
      have z: ∃ w,Wr ins en inp G.M n p.1 w:=⟨p.2,hl p hp⟩
      simp only [z,dif_pos]
      exact wr_fun (Classical.choose_spec z) (hl p hp)
    have elc:=lcL_all (call:=callN tabV (k+n+2)) (g:=gN 3) (te:=mCall "_law_value" (aCons (mVar 3) (aCons (mVar 1) (aCons (mVar 2) aNil)))) (vs:=[3]) (f:=f) (s:=⟨[some (.fz (.tup [.str "op",.str o,.tup (l.map (·.1))])),some (.fz (.dic (strK dk) (dk.map inp))),some (.fz (.fn G.f)),none],g⟩) (l.map (·.1)) (fun d hd=>by
      obtain ⟨p,hp,rfl⟩:=List.mem_map.mp hd
      have e:=ih p hp k g hl0
      have n1:=x_d_nl (h:=g) (wr_nl (hl p hp))
      have dm: ∀ h,deref h (.fn G.f)=some (.fn G.f):=fun h=>rfl
      refine ⟨⟨[some (.fz (.tup [.str "op",.str o,.tup (l.map (·.1))])),some (.fz (.dic (strK dk) (dk.map inp))),some (.fz (.fn G.f)),some (.fz p.1)],g⟩,rfl,⟨.own (.fz p.2), ?_,by rw [hf p hp];rfl⟩,rfl⟩
      simp_arith [n1,dm,e]) (fits_of (by rw [List.length_map];omega))
    have em:(l.map (·.1)).map f=l.map (·.2):=by
      rw [List.map_map]
      exact List.map_congr_left fun p hp=>hf p hp
    rw [em] at elc
    have fl2:fitsB (l.map (·.2)).length=true:=fits_of (by rw [List.length_map];omega)
    have ra:m_valueA (callN tabV (k+n+2)) ⟨[some (.fz (.tup [.str "op",.str o,.tup (l.map (·.1))])),some (.fz (.dic (strK dk) (dk.map inp))),some (.fz (.fn G.f)),none],g⟩= .ok [.str o,.tup (l.map (·.2))] ⟨[some (.fz (.tup [.str "op",.str o,.tup (l.map (·.1))])),some (.fz (.dic (strK dk) (dk.map inp))),some (.fz (.fn G.f)),none],g⟩:=by
      simp_arith [m_valueA,b1,b2,elc,fl2,x_lc,x_ayT,x_lc1,x_wp,x_wp0,x_lc2,x_rs,x_rs0,Option.getD_some,x_toL]
    have cr:=G.ev n (k+n+1) o (l.map (·.2)) g hl0 h3 h4 (by rw [List.length_map];exact h2) fun d hd=>by
      obtain ⟨p,hp,rfl⟩:=List.mem_map.mp hd
      exact wr_ok hin hen (hl p hp)
    have mf:=callF_ev G.mem (call:=callN tabV (k+n+2)) (i:=2) (σ:=[some (.fz (.tup [.str "op",.str o,.tup (l.map (·.1))])),some (.fz (.dic (strK dk) (dk.map inp))),some (.fz (.fn G.f)),none]) rfl ra
    rw [cr] at mf
    simp only [m_valueA] at mf
    simp_arith [f_law_value,m_law_value,b0,z6,z7,mf,resOut,x_d_non,x_isN2,x_isn_tup,x_neX_str,x_neSS]
end
inductive Tq:Nat→Mi.D→List Str→Prop
  |non (n:Nat):Tq n .non []
  |inp (n:Nat) (x:Str):x="x"∨x="y"→Tq n (.tup [.str "input",.str x]) [x]
  |ent (n:Nat):Tq n (.tup [.str "entry",.str "r"]) []
  |lost (n k:Nat):k<100→Tq n (.tup [.str "lost",.int (k:Nat)]) []
  |op (n:Nat) (o:Str) (l:List (Mi.D×List Str)):(∀ p∈l,Tq n p.1 p.2)→l.length≤2→o="f"∨o="g"→Tq (n+1) (.tup [.str "op",.str o,.tup (l.map (·.1))]) (l.map (·.2)).flatten
theorem pair_up {P:Mi.D→Mi.D→Prop}: ∀ {ts:List Mi.D},(∀ t∈ts,∃ v,P t v)→∃ l:List (Mi.D×Mi.D),l.map (·.1)=ts∧∀ p∈l,P p.1 p.2
  |[],_=>⟨[],rfl,fun p hp=>by cases hp⟩
  | t::ts,h=>by
    obtain ⟨v,hv⟩:=h t (by simp)
    obtain ⟨l,e,hl⟩:=pair_up (P:=P) (ts:=ts) fun x hx=>h x (by simp [hx])
    refine ⟨(t,v)::l,by rw [List.map_cons,e],fun p hp=>?_⟩
    rcases List.mem_cons.mp hp with rfl|hp
    · exact hv
    · exact hl p hp
theorem opfg {o:Str} (h:o="f"∨o="g"):o.length≤20∧PyData.strOk o=true:=by
  rcases h with rfl|rfl<;>exact ⟨by decide+kernel,by decide+kernel⟩
theorem tq_wr {ins en:List Str} {inp:Str→Mi.D} {M:Str→List Mi.D→Mi.D} (hr:("r":Str)∈en) {n:Nat} {t:Mi.D} {xs:List Str} (h:Tq n t xs):(∀ x∈xs,x∈ins)→∃ v,Wr ins en inp M (n+1) t v:=by
  induction h with
  |non n=>exact fun _=>⟨_,.non _⟩
  |inp n x hx=>exact fun hs=>⟨_,.inp _ x (hs x (by simp))⟩
  |ent n=>exact fun _=>⟨_,.ent _ "r" hr⟩
  |lost n k hk=>exact fun _=>⟨_,.lost _ k (by omega)⟩
  | op n o l hl h2 h3 ih=>
    intro hs
    obtain ⟨l',e,hl'⟩:=pair_up (P:=Wr ins en inp M (n+1)) (ts:=l.map (·.1)) fun t ht=>by
      obtain ⟨p,hp,rfl⟩:=List.mem_map.mp ht
      exact ih p hp fun x hx=>hs x (List.mem_flatten.mpr ⟨p.2,List.mem_map.mpr ⟨p,hp,rfl⟩,hx⟩)
    have el:l'.length=l.length:=by
      have:=congrArg List.length e
      simpa using this
    rw [←e]
    exact ⟨_,.op _ o l' hl' (by omega) (opfg h3).1 (opfg h3).2⟩
theorem tq_len {n:Nat} {t:Mi.D} {xs:List Str} (h:Tq n t xs):xs.length≤2^n:=by
  induction h with
  |non n=>exact Nat.zero_le _
  |inp n x hx=>exact Nat.one_le_two_pow
  |ent n=>exact Nat.zero_le _
  |lost n k hk=>exact Nat.zero_le _
  | op n o l hl h2 h3 ih=>
    have:2^(n+1)=2*2^n:=by rw [Nat.pow_succ];omega
    match l,h2,ih with
    |[],_,_=>exact Nat.zero_le _
    | [a],_,ih=>
      have:=ih a (by simp)
      simp only [List.map_cons,List.map_nil,List.flatten_cons,List.flatten_nil,List.append_nil]
      omega
    | [a,b],_,ih=>
      have:=ih a (by simp)
      have:=ih b (by simp)
      simp only [List.map_cons,List.map_nil,List.flatten_cons,List.flatten_nil,List.append_nil,List.length_append]
      omega
theorem tq_xy {n:Nat} {t:Mi.D} {xs:List Str} (h:Tq n t xs): ∀ x∈xs,x="x"∨x="y":=by
  induction h with
  |non n=>intro x hx;cases hx
  |inp n y hy=>intro x hx;rw [List.mem_singleton.mp hx];exact hy
  |ent n=>intro x hx;cases hx
  |lost n k hk=>intro x hx;cases hx
  | op n o l hl h2 h3 ih=>
    intro x hx
    obtain ⟨ys,hy,hx⟩:=List.mem_flatten.mp hx
    obtain ⟨p,hp,rfl⟩:=List.mem_map.mp hy
    exact ih p hp x hx
theorem tq_nl {n:Nat} {t:Mi.D} {xs:List Str} (h:Tq n t xs):nl t=true:=by cases h<;>rfl
theorem first_part: ∀ {l:List (Mi.D×List Str)} {x:Str} {r:List Str},(l.map (·.2)).flatten=x::r→∃ l1 p l2 r',l=l1++p::l2∧(∀ q∈l1,q.2=[])∧p.2=x::r'
  |[],x,r,e=>by simp at e
  | p ::l,x,r,e=>by
    rw [List.map_cons,List.flatten_cons] at e
    cases hp:p.2 with
    | nil=>
      rw [hp,List.nil_append] at e
      obtain ⟨l1,q,l2,r',e1,e2,e3⟩:=first_part e
      refine ⟨p::l1,q,l2,r',by rw [e1];rfl,fun z hz=>?_,e3⟩
      rcases List.mem_cons.mp hz with rfl|hz
      · exact hp
      · exact e2 z hz
    | cons y ys=>
      rw [hp,List.cons_append,List.cons.injEq] at e
      exact ⟨[],p,l,ys,rfl,(fun z hz=>by cases hz),by rw [hp,e.1]⟩
end K14
namespace K14
open PySem PySem.Spec PyProof.Rows L2 Mi Vs
abbrev leaves:List Mi.D:=[.non,.tup [.str "input",.str "x"],.tup [.str "input",.str "y"],.tup [.str "entry",.str "r"],.tup [.str "lost",.int 0],.tup [.str "lost",.int 3]]
theorem leaf_tq (n:Nat) {d:Mi.D} (h:d∈leaves): ∃ xs,Tq n d xs:=by
  simp only [leaves,List.mem_cons,List.not_mem_nil,or_false] at h
  rcases h with rfl|rfl|rfl|rfl|rfl|rfl
  · exact ⟨_,.non n⟩
  · exact ⟨_,.inp n "x" (.inl rfl)⟩
  · exact ⟨_,.inp n "y" (.inr rfl)⟩
  · exact ⟨_,.ent n⟩
  · exact ⟨_,.lost n 0 (by omega)⟩
  · exact ⟨_,.lost n 3 (by omega)⟩
theorem parts_of {n:Nat}: ∀ {ds:List Mi.D},(∀ d∈ds,∃ xs,Tq n d xs)→∃ l:List (Mi.D×List Str),ds=l.map (·.1)∧∀ p∈l,Tq n p.1 p.2
  |[],_=>⟨[],rfl,fun p hp=>by cases hp⟩
  | d::ds,h=>by
    obtain ⟨xs,hx⟩:=h d (by simp)
    obtain ⟨l,e,hl⟩:=parts_of (ds:=ds) fun x hx=>h x (by simp [hx])
    refine ⟨(d,xs)::l,by rw [e];rfl,fun p hp=>?_⟩
    rcases List.mem_cons.mp hp with rfl|hp
    · exact hx
    · exact hl p hp
theorem eq_int (a b:Int):eqX (.int a) (.int b)=some (.fz (.bl (decide (a=b)))):=rfl
theorem c_term (k:Nat): ∀ (d:Nat),d≤4→∀ {h:List O} {n:Nat},PoolAt h n→∃ t xs h',callN tabV (k+d+3) "_law_term" [.loc n,.lst leaves,.int d] h= .ok (.fz t) h'∧PoolTo n h h'∧Tq d t xs:=fun d=>by
  induction d with
  | zero=>
    intro _ h n hp
    rw [show k+0+3=k+2+1 by omega,call_at (sw u_law_term) [some (.fz (.loc n)),some (.fz (.lst leaves)),some (.fz (.int 0)),none,none] rfl rfl]
    obtain ⟨t,h',e,m,p⟩:=pick_ok gens k hp (.lst leaves) _ rfl (by decide) (by decide)
    obtain ⟨xs,hx⟩:=leaf_tq 0 m
    refine ⟨t,xs,h', ?_,p,hx⟩
    simp_arith [f_law_term,m_law_term,eq_int,e,x_eX_int,x_eqII,x_orT]
  | succ d ih=>
    intro hd h n hp
    rw [show k+(d+1)+3=k+d+3+1 by omega,call_at (sw u_law_term) [some (.fz (.loc n)),some (.fz (.lst leaves)),some (.fz (.int ((d+1:Nat):Int))),none,none] rfl rfl]
    have q0:decide (((d+1:Nat):Int)=0)=false:=decide_eq_false (by omega)
    obtain ⟨r,h1,e1,r0,r1,p1⟩:=draw_ok gens (k+d+2) hp (m:=3) (by omega) (by omega)
    by_cases hr:r=0
    · subst hr
      obtain ⟨t,h',e,m,p⟩:=pick_ok gens (k+d+1) p1.at (.lst leaves) _ rfl (by decide) (by decide)
      obtain ⟨xs,hx⟩:=leaf_tq (d+1) m
      refine ⟨t,xs,h', ?_,p1.trans p,hx⟩
      simp_arith [f_law_term,m_law_term,eq_int,q0,e1,e,x_eX_int,x_eqII,x_orF]
    · have q1:decide (r=0)=false:=decide_eq_false hr
      obtain ⟨r2,h2,e2,r20,r21,p2⟩:=draw_ok gens (k+d+2) p1.at (m:=3) (by omega) (by omega)
      have rg:=fun s=>x_rgK (s:=s) r20 (show r2<100000 by omega)
      have sb:subD (.int ((d+1:Nat):Int)) (.int 1)=some (.fz (.int (d:Nat))):=by
        show fI _=fI _
        congr 1
        omega
      obtain ⟨ds,s5,el,hdl,hdi,h5,rfl,p5⟩:=lcL_draw (call:=callN tabV (k+d+3)) (g:=gN 4) (te:=mCall "_law_term" (aCons (mVar 0) (aCons (mVar 1) (aCons (mTwo subD (mVar 2) (mCon (.int 1))) aNil)))) (vs:=[4])
        (fun s=> ∃ g,s=⟨[some (.fz (.loc n)),some (.fz (.lst leaves)),some (.fz (.int ((d+1:Nat):Int))),none,none],g⟩∧PoolTo n h g) (fun t=> ∃ xs,Tq d t xs) (rangeD 0 r2.toNat) [] ⟨[some (.fz (.loc n)),some (.fz (.lst leaves)),some (.fz (.int ((d+1:Nat):Int))),none,none],h2⟩ ⟨h2,rfl,p1.trans p2⟩ (fun x hx=>by cases hx) (fun j hj s hs=>by
          obtain ⟨g,rfl,pg⟩:=hs
          obtain ⟨t,xs,g',et,pt,ht⟩:=ih (by omega) pg.at
          refine ⟨_,rfl,.own (.fz t),⟨[some (.fz (.loc n)),some (.fz (.lst leaves)),some (.fz (.int ((d+1:Nat):Int))),none,some (.fz j)],g'⟩, ?_,t,⟨[some (.fz (.loc n)),some (.fz (.lst leaves)),some (.fz (.int ((d+1:Nat):Int))),none,some (.fz j)],g'⟩,rfl,⟨xs,ht⟩,g',rfl,pg.trans pt⟩
          simp_arith [sb,et]) (fits_of (by rw [rangeD_eq];simp;omega))
      rw [List.length_nil,rangeD_eq,List.length_map,List.length_range,Nat.zero_add] at hdl
      obtain ⟨l,rfl,hl⟩:=parts_of hdi
      rw [List.length_map] at hdl
      obtain ⟨o,h6,e6,m6,p6⟩:=pick_ok gens (k+d+1) p5.at (.lst [.str "f",.str "g"]) _ rfl (by decide) (by decide)
      obtain ⟨y,rfl,hy⟩: ∃ y:Str,o= .str y∧(y="f"∨y="g"):=by
        simp only [List.mem_cons,List.not_mem_nil,or_false] at m6
        rcases m6 with rfl|rfl
        · exact ⟨_,rfl,.inl rfl⟩
        · exact ⟨_,rfl,.inr rfl⟩
      have fl:fitsB (l.map (·.1)).length=true:=fits_of (by rw [List.length_map];omega)
      refine ⟨_,_,h6, ?_,p5.trans p6,.op d y l hl (by omega) hy⟩
      simp_arith [f_law_term,m_law_term,eq_int,q0,e1,q1,e2,rg,el,e6,fl,x_eX_int,x_eqII,x_orF,x_lc,x_rg,x_rg1,x_lc1,x_wp,x_wp0,x_lc2,x_rs,x_rs0,Option.getD_some,x_tup,x_lstK2,x_toL,x_tupK3]
theorem c_inputs_of {n:Nat} {t:Mi.D} {xs:List Str} (T:Tq n t xs) (hn:n≤4): ∀ (k:Nat) (h:List O),callN tabV (k+n+1) "_law_inputs_of" [t] h= .ok (.lst (xs.map .str)) h:=by
  have z1:decide (("input":Str)="input")=true:=by decide+kernel
  have z6:decide (("op":Str)="input")=false:=by decide+kernel
  have a0: ∀ p q:Mi.D,atI [p,q] 0=some p:=fun _ _=>rfl
  have a1: ∀ p q:Mi.D,atI [p,q] 1=some q:=fun _ _=>rfl
  have b0: ∀ p q r:Mi.D,atI [p,q,r] 0=some p:=fun _ _ _=>rfl
  have b2: ∀ p q r:Mi.D,atI [p,q,r] 2=some r:=fun _ _ _=>rfl
  have i1:inX (.str "input") (.lst [.str "entry",.str "lost"])=some (.fz (.bl false)):=by kernel_rfl
  have i2:inX (.str "entry") (.lst [.str "entry",.str "lost"])=some (.fz (.bl true)):=by kernel_rfl
  have i3:inX (.str "lost") (.lst [.str "entry",.str "lost"])=some (.fz (.bl true)):=by kernel_rfl
  have i4:inX (.str "op") (.lst [.str "entry",.str "lost"])=some (.fz (.bl false)):=by kernel_rfl
  induction T with
  | non n=>
    intro k h
    rw [call_at (sw u_law_inputs_of) [some (.fz .non),none,none] rfl rfl]
    simp_arith [f_law_inputs_of,m_law_inputs_of,x_d_non,x_d_ty,x_ii_non_tuple,x_orT,x_lstK0]
    rfl
  | inp n x hx=>
    intro k h
    rw [call_at (sw u_law_inputs_of) [some (.fz (.tup [.str "input",.str x])),none,none] rfl rfl]
    simp_arith [f_law_inputs_of,m_law_inputs_of,a0,a1,i1,z1,x_d_ty,x_ii_tup_tuple,x_orF,x_lstK2,x_lstK1]
    rfl
  | ent n=>
    intro k h
    rw [call_at (sw u_law_inputs_of) [some (.fz (.tup [.str "entry",.str "r"])),none,none] rfl rfl]
    simp_arith [f_law_inputs_of,m_law_inputs_of,a0,i2,x_d_ty,x_ii_tup_tuple,x_orF,x_lstK2,x_lstK0]
    rfl
  | lost n j hj=>
    intro k h
    rw [call_at (sw u_law_inputs_of) [some (.fz (.tup [.str "lost",.int (j:Nat)])),none,none] rfl rfl]
    simp_arith [f_law_inputs_of,m_law_inputs_of,a0,i3,x_d_ty,x_ii_tup_tuple,x_orF,x_lstK2,x_lstK0]
    rfl
  | op n o l hl h2 h3 ih=>
    intro k h
    rw [show k+(n+1)+1=k+n+1+1 by omega,call_at (sw u_law_inputs_of) [some (.fz (.tup [.str "op",.str o,.tup (l.map (·.1))])),none,none] rfl rfl]
    have lp: ∀ (l':List (Mi.D×List Str)) (acc:List Str) (x2:Option O),(∀ p∈l',p∈l)→acc.length+16*l'.length≤60→∃ y2,forL (callN tabV (k+n+1)) (gN 2) (cSeq (cAsg (mTwo addD (mVar 1) (mCall "_law_inputs_of" (aCons (mVar 2) aNil))) (gN 1)) cNil) (l'.map (·.1)) ⟨[some (.fz (.tup [.str "op",.str o,.tup (l.map (·.1))])),some (.lst (acc.map .str)),x2],h⟩= .nx ⟨[some (.fz (.tup [.str "op",.str o,.tup (l.map (·.1))])),some (.lst ((acc++(l'.map (·.2)).flatten).map .str)),y2],h⟩:=by
      intro l'
      induction l' with
      |nil=>intro acc x2 _ _;exact ⟨x2,by rw [List.map_nil,List.map_nil,List.flatten_nil,List.append_nil];rfl⟩
      | cons p l' ih'=>
        intro acc x2 hm hb
        have hp:=hm p (by simp)
        have ex:=ih p hp (by omega) k h
        have tl:=tq_len (hl p hp)
        have tb:2^n≤16:=by
          have:2^n≤2^4:=Nat.pow_le_pow_right (by decide) (by omega)
          omega
        have n1:=x_d_nl (h:=h) (tq_nl (hl p hp))
        have ad:addD (.lst (acc.map .str)) (.lst (p.2.map .str))=some (.lst ((acc++p.2).map .str)):=by
          have f1:fitsB ((acc.map Mi.D.str).length+(p.2.map Mi.D.str).length)=true:=fits_of (by rw [List.length_map,List.length_map];rw [List.length_cons] at hb;omega)
          simp only [addD,f1,if_true,List.map_append]
        obtain ⟨y2,e⟩:=ih' (acc++p.2) (some (.fz p.1)) (fun q hq=>hm q (by simp [hq])) (by rw [List.length_cons] at hb;rw [List.length_append];omega)
        refine ⟨y2, ?_⟩
        have e1:(cSeq (cAsg (mTwo addD (mVar 1) (mCall "_law_inputs_of" (aCons (mVar 2) aNil))) (gN 1)) cNil) (callN tabV (k+n+1)) ⟨[some (.fz (.tup [.str "op",.str o,.tup (l.map (·.1))])),some (.lst (acc.map .str)),some (.fz p.1)],h⟩= .nx ⟨[some (.fz (.tup [.str "op",.str o,.tup (l.map (·.1))])),some (.lst ((acc++p.2).map .str)),some (.fz p.1)],h⟩:=by
          simp_arith [n1,ex,ad]
        rw [List.map_cons,forL_nx rfl e1,e,List.map_cons,List.flatten_cons,List.append_assoc]
    obtain ⟨y2,e⟩:=lp l [] none (fun _ h=>h) (by simp;omega)
    rw [List.map_nil,List.nil_append] at e
    simp_arith [f_law_inputs_of,m_law_inputs_of,b0,b2,i4,z6,e,x_d_ty,x_ii_tup_tuple,x_orF,x_lstK2,x_lstK0,x_for,x_ayT,x_forL,x_gvB,x_gv]
theorem val_none {g:Str→Mi.D}: ∀ {ns:List Str} {n:Str},n∉ns→valD (strK ns) (ns.map g) (.inr n)=none
  |[],_,_=>rfl
  | m::ns,n,h=>by
    show valD (.inr m::strK ns) (g m::ns.map g) (.inr n)=_
    rw [valD_cons,if_neg fun z=>h (by rw [Sum.inr.inj z];simp)]
    exact val_none fun z=>h (by simp [z])
section
variable {G:Mg tabV FN} {dk:List Str} {inp:Str→Mi.D}
theorem c_refuse {n:Nat} {t:Mi.D} {xs:List Str} (T:Tq n t xs): ∀ {x:Str} {r:List Str},xs=x::r→x∉dk→G.Ok 0 (entD "r")→∀ (k:Nat) (h:List O),G.lim (n+1)→callN tabV (k+n+3) "worth" [t,.dic (strK dk) (dk.map inp),.fn G.f] h= .exc "UnknownName" (.str x) h:=by
  have z1:decide (("input":Str)="input")=true:=by decide+kernel
  have z6:decide (("op":Str)="input")=false:=by decide+kernel
  have z7:decide (("op":Str)="op")=true:=by decide+kernel
  have a0: ∀ p q:Mi.D,atI [p,q] 0=some p:=fun _ _=>rfl
  have a1: ∀ p q:Mi.D,atI [p,q] 1=some q:=fun _ _=>rfl
  have b0: ∀ p q r:Mi.D,atI [p,q,r] 0=some p:=fun _ _ _=>rfl
  have b1: ∀ p q r:Mi.D,atI [p,q,r] 1=some q:=fun _ _ _=>rfl
  have b2: ∀ p q r:Mi.D,atI [p,q,r] 2=some r:=fun _ _ _=>rfl
  induction T with
  |non n=>intro x r e;cases e
  |ent n=>intro x r e;cases e
  |lost n j hj=>intro x r e;cases e
  | inp n y hy=>
    intro x r e hx _ k h _
    obtain rfl:y=x:=by simpa using (List.cons.inj e).1
    rw [call_at (sw u_worth) [some (.fz (.tup [.str "input",.str y])),some (.fz (.dic (strK dk) (dk.map inp))),some (.fz (.fn G.f)),none] rfl rfl]
    have v1:valD (strK dk) (dk.map inp) (.inr y)=none:=val_none hx
    simp_arith [f_worth,m_worth,a0,a1,z1,v1,Option.isSome_none,x_d_non,x_isN2,x_isn_tup,x_nYD,x_rz,x_rz1,xT_exc,x_finE]
  | op n o l hl h2 h3 ih=>
    intro x r e hx hr k h hlim
    obtain ⟨l1,p,l2,r',rfl,e2,e3⟩:=first_part e
    have hp:p∈l1++p::l2:=by simp
    rw [show k+(n+1)+3=k+n+3+1 by omega,call_at (sw u_worth) [some (.fz (.tup [.str "op",.str o,.tup ((l1++p::l2).map (·.1))])),some (.fz (.dic (strK dk) (dk.map inp))),some (.fz (.fn G.f)),none] rfl rfl]
    have hl0:=G.down _ hlim
    have dm: ∀ h,deref h (.fn G.f)=some (.fn G.f):=fun h=>rfl
    have wv: ∀ q∈l1,∃ v,Wr [] ["r"] inp G.M (n+1) q.1 v:=fun q hq=>tq_wr (by simp) (hl q (by simp [hq])) (by rw [e2 q hq];intro x hx;cases hx)
    obtain ⟨f,hf⟩: ∃ f:Mi.D→Mi.D,∀ q∈l1,Wr [] ["r"] inp G.M (n+1) q.1 (f q.1):=by
      refine ⟨fun d=>open Classical in if z: ∃ w,Wr [] ["r"] inp G.M (n+1) d w then Classical.choose z else .non,fun q hq=>?_⟩
      have z:=wv q hq
      simp only [z,dif_pos]
      exact Classical.choose_spec z
    have ec:=ih p hp e3 hx hr k h hl0
    have np:=x_d_nl (h:=h) (tq_nl (hl p hp))
    have elc:=lcLE_exc (call:=callN tabV (k+n+3)) (g:=gN 3) (te:=mCall "worth" (aCons (mVar 3) (aCons (mVar 1) (aCons (mVar 2) aNil)))) (vs:=[3]) (f:=f) (s:=⟨[some (.fz (.tup [.str "op",.str o,.tup ((l1++p::l2).map (·.1))])),some (.fz (.dic (strK dk) (dk.map inp))),some (.fz (.fn G.f)),none],h⟩) (d:=p.1) (c:="UnknownName") (x:=.str x) (r:=l2.map (·.1)) ⟨_,⟨[some (.fz (.tup [.str "op",.str o,.tup ((l1++p::l2).map (·.1))])),some (.fz (.dic (strK dk) (dk.map inp))),some (.fz (.fn G.f)),some (.fz p.1)],h⟩,rfl,by simp_arith [np,dm,ec,x_res2],rfl⟩ (l1.map (·.1)) [] (fun d hd=>by
        obtain ⟨q,hq,rfl⟩:=List.mem_map.mp hd
        have e:=c_worth (G:=G) (ins:=[]) (en:=["r"]) (dk:=dk) (inp:=inp) (fun x hx=>by cases hx) (fun x hx=>by rw [List.mem_singleton.mp hx];exact hr) (fun x hx=>by cases hx) (hf q hq) k h hl0
        rw [show k+(n+1)+2=k+n+3 by omega] at e
        have n1:=x_d_nl (h:=h) (tq_nl (hl q (by simp [hq])))
        refine ⟨⟨[some (.fz (.tup [.str "op",.str o,.tup ((l1++p::l2).map (·.1))])),some (.fz (.dic (strK dk) (dk.map inp))),some (.fz (.fn G.f)),some (.fz q.1)],h⟩,rfl,⟨.own (.fz (f q.1)), ?_,rfl⟩,rfl⟩
        simp_arith [n1,dm,e]) (fits_of (by simp at h2 ⊢;omega))
    rw [←List.map_cons (f:=fun p:Mi.D×List Str=>p.1),←List.map_append] at elc
    have ra:m_worthA (callN tabV (k+n+3)) ⟨[some (.fz (.tup [.str "op",.str o,.tup ((l1++p::l2).map (·.1))])),some (.fz (.dic (strK dk) (dk.map inp))),some (.fz (.fn G.f)),none],h⟩= .exc "UnknownName" (.str x) ⟨[some (.fz (.tup [.str "op",.str o,.tup ((l1++p::l2).map (·.1))])),some (.fz (.dic (strK dk) (dk.map inp))),some (.fz (.fn G.f)),none],h⟩:=by
      simp_arith [m_worthA,b1,b2,x_lcE,x_lcE1,x_lcE2,x_lcE3,elc,x_ayT,x_wp,x_wp0,x_rs,x_rs0,Option.getD_some,y_be]
    have mf:mCallF FN (mVar 2) m_worthA (callN tabV (k+n+3)) ⟨[some (.fz (.tup [.str "op",.str o,.tup ((l1++p::l2).map (·.1))])),some (.fz (.dic (strK dk) (dk.map inp))),some (.fz (.fn G.f)),none],h⟩= .exc "UnknownName" (.str x) ⟨[some (.fz (.tup [.str "op",.str o,.tup ((l1++p::l2).map (·.1))])),some (.fz (.dic (strK dk) (dk.map inp))),some (.fz (.fn G.f)),none],h⟩:=by
      show kCallF FN m_worthA (callN tabV (k+n+3)) _ (some (.fn G.f))=_
      simp only [kCallF,if_pos G.mem,ra]
      rfl
    simp only [m_worthA] at mf
    simp_arith [f_worth,m_worth,b0,z6,z7,mf,x_d_non,x_isN2,x_isn_tup,x_neX_str,x_neSS,y_fe,xT_exc,x_finE]
end
end K14
namespace K14
open PySem PySem.Spec PyProof.Rows L2 Mi Vs
noncomputable section
def b_0_0:C:=(cAsg (mCell (mCall "_law_pool" (aCons (mVar 0) (aCons (mVar 1) aNil)))) (gN 2))
def b_0_1:C:=(cAsg (mLst (aCons (mCon .non) (aCons (mTup (aCons (mCon (.str "input")) (aCons (mCon (.str "x")) aNil))) (aCons (mTup (aCons (mCon (.str "input")) (aCons (mCon (.str "y")) aNil))) (aCons (mTup (aCons (mCon (.str "entry")) (aCons (mCon (.str "r")) aNil))) (aCons (mTup (aCons (mCon (.str "lost")) (aCons (mCon (.int 0)) aNil))) (aCons (mTup (aCons (mCon (.str "lost")) (aCons (mCon (.int 3)) aNil))) aNil))))))) (gN 3))
def b_0_2_0:C:=(cAsg (mCall "_law_term" (aCons (mVar 2) (aCons (mVar 3) (aCons (mCon (.int 4)) aNil)))) (gN 5))
def b_0_2_1:C:=(cAsg (mDisp [((mCon (.str "x")),(mCall "_law_draw" (aCons (mVar 2) (aCons (mCon (.int 100)) aNil)))),((mCon (.str "y")),(mCall "_law_draw" (aCons (mVar 2) (aCons (mCon (.int 100)) aNil))))]) (gN 6))
def b_0_2_2:C:=(cIf (bCmp (mTwo neX (mCall "worth" (aCons (mVar 5) (aCons (mVar 6) (aCons (mCon (.fn "_law_reckoned")) aNil)))) (mCall "_law_value" (aCons (mVar 5) (aCons (mVar 6) (aCons (mCon (.fn "_law_reckoned")) aNil)))))) (cSeq (cRet (mCon (.bl false))) cNil) cNil)
def b_0_2_3:C:=(cAsg (mDisp [((mCon (.str "x")),(mCon (.str "one"))),((mCon (.str "y")),(mCall "_law_pick" (aCons (mVar 2) (aCons (mLst (aCons (mCon (.str "one")) (aCons (mCon (.str "two")) aNil))) aNil))))]) (gN 7))
def b_0_2_4:C:=(cIf (bCmp (mTwo neX (mCall "worth" (aCons (mVar 5) (aCons (mVar 7) (aCons (mCon (.fn "_law_written")) aNil)))) (mCall "_law_value" (aCons (mVar 5) (aCons (mVar 7) (aCons (mCon (.fn "_law_written")) aNil)))))) (cSeq (cRet (mCon (.bl false))) cNil) cNil)
def b_0_2_5:C:=(cAsg (mCall "_law_inputs_of" (aCons (mVar 5) aNil)) (gN 8))
def b_0_2_6_0:C:=(cAsg (mBlt dictX (rCons (mLc (iAny (mLst (aCons (mCon (.str "x")) (aCons (mCon (.str "y")) aNil)))) (gN 11) (bCmp (mTwo neX (mVar 11) (mVar 9))) (mTup (aCons (mVar 11) (aCons (mCon (.int 1)) aNil))) [11]) rNil)) (gN 10))
def b_0_2_6_1:C:=(cIf (bCmp (mTwo neX (mCall "_law_refused" (aCons (mVar 5) (aCons (mVar 10) aNil))) (mVar 9))) (cSeq (cRet (mCon (.bl false))) cNil) cNil)
def body_0_2_6:C:=(cSeq b_0_2_6_0 (cSeq b_0_2_6_1 cNil))
def b_0_2_6:C:=(cFor (iAny (mSl (mVar 8) pNone (pSome (mCon (.int 1))))) (gN 9) body_0_2_6)
def b_0_2_7:C:=(cIf (bAnd (bCmp (mTwo eqX (mVar 8) (mLst aNil))) (bCmp (mTwo neX (mCall "worth" (aCons (mVar 5) (aCons mDic0 (aCons (mCon (.fn "_law_written")) aNil)))) (mCall "_law_value" (aCons (mVar 5) (aCons mDic0 (aCons (mCon (.fn "_law_written")) aNil))))))) (cSeq (cRet (mCon (.bl false))) cNil) cNil)
def body_0_2:C:=(cSeq b_0_2_0 (cSeq b_0_2_1 (cSeq b_0_2_2 (cSeq b_0_2_3 (cSeq b_0_2_4 (cSeq b_0_2_5 (cSeq b_0_2_6 (cSeq b_0_2_7 cNil))))))))
def b_0_2:C:=(cFor (iRg1 (rCons (mCon (.int 4)) rNil)) (gN 4) body_0_2)
def body_0:C:=(cSeq b_0_0 (cSeq b_0_1 (cSeq b_0_2 cNil)))
def b_0:C:=(cFor (iRg1 (rCons (mBlt maxD (rCons (mCon (.int 1)) (rCons (mBlt minD (rCons (mBlt lenX (rCons (mVar 0) rNil)) (rCons (mCon (.int 6)) rNil))) rNil))) rNil)) (gN 1) body_0)
def b_1:C:=(cRet (mCon (.bl true)))
def body:C:=(cSeq b_0 (cSeq b_1 cNil))
end
abbrev xy:List Str:=["x","y"]
theorem xy_fun (a b:Mi.D): ∃ inp:Str→Mi.D,[a,b]=xy.map inp∧inp "x"=a∧inp "y"=b:=by
  refine ⟨fun z=>if z="x" then a else b, ?_,by simp, ?_⟩
  · have: ¬(("y":Str)="x"):=by decide+kernel
    simp [xy,this]
  · have: ¬(("y":Str)="x"):=by decide+kernel
    simp [this]
theorem merge_xy (a b:Mi.D):mergeD [(.inr "x",a),(.inr "y",b)] ([],[])=(strK xy,[a,b]):=by kernel_rfl
theorem ly_strs: ∀ {ys:List Str},(∀ y∈ys,PyData.strOk y=true)→lyDs 1 (ys.map .str)=true
  |[],_=>rfl
  | y::ys,h=>by
    show (lyD 1 (.str y)&&lyDs 1 (ys.map .str))=true
    rw [ly_strs (ys:=ys) fun z hz=>h z (by simp [hz]),Bool.and_true]
    exact h y (by simp)
theorem eq_nil_false {x:Str} {r:List Str} (h: ∀ y∈x::r,PyData.strOk y=true):eqD (.lst ((x::r).map .str)) (.lst [])=some (.fz (.bl false)):=by
  obtain ⟨p,e1,e2,_⟩:=ly_shaped (n:=2) (d:=.lst ((x::r).map .str)) (by decide) (by show lyDs 1 _=true;exact ly_strs h)
  obtain ⟨q,e3,e4,_⟩:=ly_shaped (n:=2) (d:=.lst []) (by decide) rfl
  obtain ⟨ps,e5,rfl⟩: ∃ ps,toPs ((x::r).map .str)=some ps∧PyData.list ps=p:=by
    have z:(toPs ((x::r).map .str)).map PyData.list=some p:=e1
    exact Option.map_eq_some_iff.mp z
  obtain rfl:PyData.list []=q:=Option.some.inj e3
  have ne: ∃ a l,ps=a::l:=by
    cases ps with
    |cons a l=>exact ⟨a,l,rfl⟩
    | nil=>
      have z:((toP (.str x)).bind fun p=>(toPs (r.map .str)).bind fun ps=>some (p::ps))=some []:=e5
      simp only [Option.bind_eq_some_iff] at z
      obtain ⟨_,_,_,_,z⟩:=z
      cases z
  obtain ⟨a,l,rfl⟩:=ne
  have e6:PyData.eqv (.list (a::l)) (.list [])=false:=rfl
  have e7:eqB (.lst ((x::r).map .str)) (.lst [])=some false:=by
    show ((toP (.lst ((x::r).map .str))).bind fun p=>(toP (.lst [])).bind fun q=>if SeqAt.shaped p&&SeqAt.shaped q then some (PyData.eqv p q) else none)=_
    rw [e1,e3,Option.bind_some,Option.bind_some,e2,e4,Bool.and_self,if_pos rfl,e6]
  simp only [eqD,e7,Option.map_some]
theorem eq_nil_true:eqD (.lst []) (.lst [])=some (.fz (.bl true)):=by kernel_rfl
theorem r_okR:mgR.Ok 0 (entD "r"):=.inr (.inr ⟨_,rfl,by decide+kernel⟩)
theorem r_okW:mgW.Ok 0 (entD "r"):=⟨rfl,fun _=>.inr (.inr (.inr ⟨"r",by simp [five],rfl⟩))⟩
theorem worths (G:Mg tabV FN) (lim: ∀ n,n≤12→G.lim n) (same: ∀ n d,n≤12→G.Ok n d→neD d d=some (.fz (.bl false))) (hr:G.Ok 0 (entD "r")) {t:Mi.D} {xs:List Str} (T:Tq 4 t xs) {dk:List Str} {inp:Str→Mi.D} (hx: ∀ x∈xs,x∈dk) (hin: ∀ x∈dk,G.Ok 0 (inp x)) (h:List O):
    ∃ v,callN tabV 18 "worth" [t,.dic (strK dk) (dk.map inp),.fn G.f] h= .ok (.fz v) h∧callN tabV 18 "_law_value" [t,.dic (strK dk) (dk.map inp),.fn G.f] h= .ok (.fz v) h∧neX v v=some (.fz (.bl false))∧nl v=true:=by
  obtain ⟨v,W⟩:=tq_wr (ins:=dk) (en:=["r"]) (inp:=inp) (M:=G.M) (by simp) T hx
  have hen: ∀ e∈(["r"]:List Str),G.Ok 0 (entD e):=fun e he=>by rw [List.mem_singleton.mp he];exact hr
  have ok:=wr_ok hin hen W
  exact ⟨v,c_worth hin hen (fun _ z=>z) W 11 h (lim 5 (by omega)),c_value hin hen (fun _ z=>z) W 11 h (lim 5 (by omega)),neX_of (same 5 v (by omega) ok),G.nl _ _ ok⟩
theorem c_refused {t:Mi.D} {x:Str} {r:List Str} (T:Tq 4 t (x::r)) {dk:List Str} {inp:Str→Mi.D} (hx:x∉dk) (h:List O):callN tabV 18 "_law_refused" [t,.dic (strK dk) (dk.map inp)] h= .ok (.fz (.str x)) h:=by
  rw [call_at (sw u_law_refused) [some (.fz t),some (.fz (.dic (strK dk) (dk.map inp))),none,none] rfl rfl]
  have e:=c_refuse (G:=mgW) T (inp:=inp) rfl hx r_okW 10 h (show (4+1≤12) by omega)
  have n1:=x_d_nl (h:=h) (tq_nl T)
  have e':callN tabV 17 "worth" [t,.dic (strK dk) (dk.map inp),.fn "_law_written"] h= .exc "UnknownName" (.str x) h:=e
  have u1:decide (("UnknownName":Str)="UnknownName")=true:=by decide+kernel
  have u2:exs.lookup ("UnknownName":Str)=some ("name":Str):=by kernel_rfl
  have u3:decide (("name":Str)="name")=true:=by decide+kernel
  simp_arith [f_law_refused,m_law_refused,n1,e',u1,u2,u3,x_try,x_res2,y_fe,xT_exc,x_tryE,x_tc,x_tcT,x_tf,x_su,x_d_xn,x_fxX,x_fxT,x_es,x_coF,x_cd_str,x_esT]
variable {ns:List Int} {i:Int} {n:Nat} {j:Mi.D} {t:Mi.D} {xs:List Str} {h:List O}
theorem st_1 (T:Tq 4 t xs) (hp:PoolAt h n) (x3 x6 x7 x8 x9 x10 x11:Option O): ∃ y6 h',cSeq b_0_2_1 (cSeq b_0_2_2 cNil) (callN tabV 18) ⟨[some (.fz (.scr ns)),some (.fz (.int i)),some (.fz (.loc n)),x3,some (.fz j),some (.fz t),x6,x7,x8,x9,x10,x11],h⟩= .nx ⟨[some (.fz (.scr ns)),some (.fz (.int i)),some (.fz (.loc n)),x3,some (.fz j),some (.fz t),y6,x7,x8,x9,x10,x11],h'⟩∧PoolTo n h h':=by
  obtain ⟨r1,h1,e1,_,_,p1⟩:=draw_ok gens 17 hp (m:=100) (by omega) (by omega)
  obtain ⟨r2,h2,e2,_,_,p2⟩:=draw_ok gens 17 p1.at (m:=100) (by omega) (by omega)
  obtain ⟨inp,ei,ix,iy⟩:=xy_fun (.int r1) (.int r2)
  obtain ⟨v,w1,w2,w3,w4⟩:=worths mgR (fun n h=>h) (fun n d _ hd=>sameR hd) r_okR T (dk:=xy) (inp:=inp) (fun x hx=>by rcases tq_xy T x hx with rfl|rfl<;>simp [xy]) (fun x hx=>by
    simp only [xy,List.mem_cons,List.not_mem_nil,or_false] at hx
    rcases hx with rfl|rfl
    · rw [ix];exact .inl ⟨_,rfl⟩
    · rw [iy];exact .inl ⟨_,rfl⟩) h2
  rw [←ei] at w1 w2
  have w1':callN tabV 18 "worth" [t,.dic (strK xy) [.int r1,.int r2],.fn "_law_reckoned"] h2= .ok (.fz v) h2:=w1
  have w2':callN tabV 18 "_law_value" [t,.dic (strK xy) [.int r1,.int r2],.fn "_law_reckoned"] h2= .ok (.fz v) h2:=w2
  have n1:=fun h=>x_d_nl (h:=h) (tq_nl T)
  have n2:=fun h=>x_d_nl (h:=h) w4
  refine ⟨some (.fz (.dic (strK xy) [.int r1,.int r2])),h2, ?_,p1.trans p2⟩
  simp_arith [b_0_2_1,b_0_2_2,e1,e2,merge_xy,n1,n2,w1',w2',w3,x_disp,x_pr,x_pr1,x_keyS,x_pr2,x_pr3,x_pr4,x_pr0,x_pr5,x_dispK2,x_frz3]
theorem st_3 (T:Tq 4 t xs) (hp:PoolAt h n) (x3 x6 x7 x8 x9 x10 x11:Option O): ∃ y7 h',cSeq b_0_2_3 (cSeq b_0_2_4 (cSeq b_0_2_5 cNil)) (callN tabV 18) ⟨[some (.fz (.scr ns)),some (.fz (.int i)),some (.fz (.loc n)),x3,some (.fz j),some (.fz t),x6,x7,x8,x9,x10,x11],h⟩= .nx ⟨[some (.fz (.scr ns)),some (.fz (.int i)),some (.fz (.loc n)),x3,some (.fz j),some (.fz t),x6,y7,some (.lst (xs.map .str)),x9,x10,x11],h'⟩∧PoolTo n h h':=by
  obtain ⟨d,h1,e1,m1,p1⟩:=pick_ok gens 16 hp (.lst [.str "one",.str "two"]) _ rfl (by decide) (by decide)
  obtain ⟨inp,ei,ix,iy⟩:=xy_fun (.str "one") d
  have hd:nl d=true∧mgW.Ok 0 d:=by
    simp only [List.mem_cons,List.not_mem_nil,or_false] at m1
    rcases m1 with rfl|rfl
    · exact ⟨rfl,rfl,fun _=>.inl ⟨_,rfl,by decide+kernel⟩⟩
    · exact ⟨rfl,rfl,fun _=>.inl ⟨_,rfl,by decide+kernel⟩⟩
  obtain ⟨v,w1,w2,w3,w4⟩:=worths mgW (fun n h=>h) (fun n d hn hd=>sameW hn hd) r_okW T (dk:=xy) (inp:=inp) (fun x hx=>by rcases tq_xy T x hx with rfl|rfl<;>simp [xy]) (fun x hx=>by
    simp only [xy,List.mem_cons,List.not_mem_nil,or_false] at hx
    rcases hx with rfl|rfl
    · rw [ix];exact ⟨rfl,fun _=>.inl ⟨_,rfl,by decide+kernel⟩⟩
    · rw [iy];exact hd.2) h1
  rw [←ei] at w1 w2
  have w1':callN tabV 18 "worth" [t,.dic (strK xy) [.str "one",d],.fn "_law_written"] h1= .ok (.fz v) h1:=w1
  have w2':callN tabV 18 "_law_value" [t,.dic (strK xy) [.str "one",d],.fn "_law_written"] h1= .ok (.fz v) h1:=w2
  have n1:=fun h=>x_d_nl (h:=h) (tq_nl T)
  have n2:=fun h=>x_d_nl (h:=h) w4
  have n3:=fun h=>x_d_nl (h:=h) hd.1
  have ei:=c_inputs_of T (by omega) 13 h1
  have ei':callN tabV 18 "_law_inputs_of" [t] h1= .ok (.lst (xs.map .str)) h1:=ei
  refine ⟨some (.fz (.dic (strK xy) [.str "one",d])),h1, ?_,p1⟩
  simp_arith [b_0_2_3,b_0_2_4,b_0_2_5,e1,merge_xy,n1,n2,n3,w1',w2',w3,ei',x_disp,x_pr,x_pr1,x_keyS,x_pr2,x_pr3,x_pr4,x_lstK2,x_pr0,x_pr5,x_dispK2,x_frz3]
theorem less_of {x:Str} (hx:x="x"∨x="y"): ∃ z:Str,x∉[z]∧∀ (call:Call) (x0 x1 x2 x3 x4 x5 x6 x7 x8 x10:Option O) (h:List O),lcL call (gN 11) (bCmp (mTwo neX (mVar 11) (mVar 9))) (mTup (aCons (mVar 11) (aCons (mCon (.int 1)) aNil))) [11] [.str "x",.str "y"] [] ⟨[x0,x1,x2,x3,x4,x5,x6,x7,x8,some (.fz (.str x)),x10,none],h⟩= .ok [.tup [.str z,.int 1]] ⟨[x0,x1,x2,x3,x4,x5,x6,x7,x8,some (.fz (.str x)),x10,none],h⟩:=by
  rcases hx with rfl|rfl
  · exact ⟨"y",by decide+kernel,fun _ _ _ _ _ _ _ _ _ _ _ _=>by kernel_rfl⟩
  · exact ⟨"x",by decide+kernel,fun _ _ _ _ _ _ _ _ _ _ _ _=>by kernel_rfl⟩
theorem st_6 (T:Tq 4 t xs) (x3 x6 x7 x9 x10 x11:Option O): ∃ y9 y10 y11 y8,b_0_2_6 (callN tabV 18) ⟨[some (.fz (.scr ns)),some (.fz (.int i)),some (.fz (.loc n)),x3,some (.fz j),some (.fz t),x6,x7,some (.lst (xs.map .str)),x9,x10,x11],h⟩= .nx ⟨[some (.fz (.scr ns)),some (.fz (.int i)),some (.fz (.loc n)),x3,some (.fz j),some (.fz t),x6,x7,y8,y9,y10,y11],h⟩∧y8=some (.lst (xs.map .str)):=by
  have c0:Mi.cutD (xs.map Mi.D.str) none (some 1)=(xs.map Mi.D.str).take 1:=cut_take (by decide)
  cases xs with
  | nil=>
    refine ⟨x9,x10,x11,some (.lst []), ?_,rfl⟩
    simp only [List.map_nil,List.take_nil] at c0
    simp_arith [b_0_2_6,List.map_nil,c0,x_for,x_sl,x_sl0,x_pn,x_sl1,x_psm,x_psm1,x_psm2,x_sl2,x_sl3,x_slL,x_ayL,x_forL]
    try rfl
  | cons x r=>
    have hx:=tq_xy T x (by simp)
    obtain ⟨z,hz,el⟩:=less_of hx
    have er:=c_refused T (dk:=[z]) (inp:=fun _=>.int 1) hz h
    have n1:=fun h=>x_d_nl (h:=h) (tq_nl T)
    have dx:dictX [.lst [.tup [.str z,.int 1]]]=some (.dic (strK [z]) [.int 1]):=dict_pairs (ps:=[(z,.int 1)]) (by simp)
    have er':callN tabV 18 "_law_refused" [t,.dic (strK [z]) [.int 1]] h= .ok (.fz (.str x)) h:=er
    have nx:neX (.str x) (.str x)=some (.fz (.bl false)):=neX_of ne_str
    have e1:body_0_2_6 (callN tabV 18) ⟨[some (.fz (.scr ns)),some (.fz (.int i)),some (.fz (.loc n)),x3,some (.fz j),some (.fz t),x6,x7,some (.lst ((x::r).map .str)),some (.fz (.str x)),x10,x11],h⟩= .nx ⟨[some (.fz (.scr ns)),some (.fz (.int i)),some (.fz (.loc n)),x3,some (.fz j),some (.fz t),x6,x7,some (.lst ((x::r).map .str)),some (.fz (.str x)),some (.fz (.dic (strK [z]) [.int 1])),x11],h⟩:=by
      simp_arith [body_0_2_6,b_0_2_6_0,b_0_2_6_1,el,dx,n1,er',nx,x_lc,x_lstK2,x_ayL,x_lc1,x_wp,x_wp0,x_lc2,x_rs,x_rs0,Option.getD_some,x_frz3]
    refine ⟨some (.fz (.str x)),some (.fz (.dic (strK [z]) [.int 1])),x11,some (.lst ((x::r).map .str)), ?_,rfl⟩
    simp only [List.map_cons,List.take_succ_cons,List.take_zero] at c0
    simp only [List.map_cons] at e1
    simp_arith [b_0_2_6,List.map_cons,c0,x_for,x_sl,x_sl0,x_pn,x_sl1,x_psm,x_psm1,x_psm2,x_sl2,x_sl3,x_slL,x_ayL,x_forL]
    rw [forL_nx rfl e1]
    rfl
theorem st_7 (T:Tq 4 t xs) (x3 x6 x7 x9 x10 x11:Option O): ∃ y8,cSeq b_0_2_7 cNil (callN tabV 18) ⟨[some (.fz (.scr ns)),some (.fz (.int i)),some (.fz (.loc n)),x3,some (.fz j),some (.fz t),x6,x7,some (.lst (xs.map .str)),x9,x10,x11],h⟩= .nx ⟨[some (.fz (.scr ns)),some (.fz (.int i)),some (.fz (.loc n)),x3,some (.fz j),some (.fz t),x6,x7,y8,x9,x10,x11],h⟩:=by
  cases xs with
  | nil=>
    obtain ⟨v,w1,w2,w3,w4⟩:=worths mgW (fun n h=>h) (fun n d hn hd=>sameW hn hd) r_okW T (dk:=[]) (inp:=fun _=>.non) (fun x hx=>by cases hx) (fun x hx=>by cases hx) h
    have w1':callN tabV 18 "worth" [t,.dic [] [],.fn "_law_written"] h= .ok (.fz v) h:=w1
    have w2':callN tabV 18 "_law_value" [t,.dic [] [],.fn "_law_written"] h= .ok (.fz v) h:=w2
    have n1:=fun h=>x_d_nl (h:=h) (tq_nl T)
    have n2:=fun h=>x_d_nl (h:=h) w4
    refine ⟨some (.lst []), ?_⟩
    simp_arith [b_0_2_7,List.map_nil,eq_nil_true,n1,n2,w1',w2',w3,x_band,x_lstK0,x_eX_lst,x_andT,x_dic0,x_frz3]
  | cons x r=>
    have e:=eq_nil_false (x:=x) (r:=r) fun y hy=>by rcases tq_xy T y hy with rfl|rfl<;>decide+kernel
    rw [List.map_cons] at e
    refine ⟨some (.lst ((x::r).map .str)), ?_⟩
    simp_arith [b_0_2_7,List.map_cons,e,x_band,x_lstK0,x_eX_lst,x_andF]
theorem st_0 (hp:PoolAt h n) {x3:Option O} (l3:Ls leaves x3) (x5 x6 x7 x8 x9 x10 x11:Option O): ∃ t xs y3 h',b_0_2_0 (callN tabV 18) ⟨[some (.fz (.scr ns)),some (.fz (.int i)),some (.fz (.loc n)),x3,some (.fz j),x5,x6,x7,x8,x9,x10,x11],h⟩= .nx ⟨[some (.fz (.scr ns)),some (.fz (.int i)),some (.fz (.loc n)),y3,some (.fz j),some (.fz t),x6,x7,x8,x9,x10,x11],h'⟩∧Ls leaves y3∧PoolTo n h h'∧Tq 4 t xs:=by
  obtain ⟨t,xs,h1,e1,p1,T⟩:=c_term 11 4 (by omega) hp
  have e1':callN tabV 18 "_law_term" [.loc n,.lst leaves,.int 4] h= .ok (.fz t) h1:=e1
  rcases l3 with rfl|rfl
  · exact ⟨t,xs,some (.fz (.lst leaves)),h1,by simp_arith [b_0_2_0,e1'],.inr rfl,p1,T⟩
  · exact ⟨t,xs,some (.fz (.lst leaves)),h1,by simp_arith [b_0_2_0,e1'],.inr rfl,p1,T⟩
theorem then_nx {r:Fl} {f:Mi.S→Fl} {s':Mi.S} (e:r.then f= .nx s'): ∃ s1,r= .nx s1∧f s1= .nx s':=by
  cases r<;>first|exact ⟨_,rfl,e⟩|cases e
theorem seq2 {a b r:C} {call:Call} {s s':Mi.S} (e:cSeq a (cSeq b cNil) call s= .nx s'):cSeq a (cSeq b r) call s=r call s':=by
  obtain ⟨s1,e1,e2⟩:=then_nx e
  obtain ⟨s2,e3,e4⟩:=then_nx e2
  obtain rfl:s2=s':=Fl.nx.inj e4
  show (a call s).then (fun s1=>(b call s1).then fun s2=>r call s2)=_
  rw [e1,xT_nx,e3,xT_nx]
theorem seq3 {a b c r:C} {call:Call} {s s':Mi.S} (e:cSeq a (cSeq b (cSeq c cNil)) call s= .nx s'):cSeq a (cSeq b (cSeq c r)) call s=r call s':=by
  obtain ⟨s1,e1,e2⟩:=then_nx e
  show (a call s).then (fun s1=>cSeq b (cSeq c r) call s1)=_
  rw [e1,xT_nx]
  exact seq2 e2
theorem turn4 (hp:PoolAt h n) {x3:Option O} (l3:Ls leaves x3) (x5 x6 x7 x8 x9 x10 x11:Option O):Ends (fun s=> ∃ y3 y4 y5 y6 y7 y8 y9 y10 y11 h',s=⟨[some (.fz (.scr ns)),some (.fz (.int i)),some (.fz (.loc n)),y3,y4,y5,y6,y7,y8,y9,y10,y11],h'⟩∧Ls leaves y3∧PoolAt h' n) (body_0_2 (callN tabV 18) ⟨[some (.fz (.scr ns)),some (.fz (.int i)),some (.fz (.loc n)),x3,some (.fz j),x5,x6,x7,x8,x9,x10,x11],h⟩):=by
  obtain ⟨t,xs,y3,h1,e1,l1,p1,T⟩:=st_0 hp l3 x5 x6 x7 x8 x9 x10 x11 (ns:=ns) (i:=i) (j:=j)
  obtain ⟨y6,h2,e2,p2⟩:=st_1 T p1.at y3 x6 x7 x8 x9 x10 x11 (ns:=ns) (i:=i) (j:=j)
  obtain ⟨y7,h3,e3,p3⟩:=st_3 T p2.at y3 y6 x7 x8 x9 x10 x11 (ns:=ns) (i:=i) (j:=j)
  obtain ⟨y9,y10,y11,y8,e4,rfl⟩:=st_6 T y3 y6 y7 x9 x10 x11 (ns:=ns) (i:=i) (j:=j) (n:=n) (h:=h3)
  obtain ⟨z8,e5⟩:=st_7 T y3 y6 y7 y9 y10 y11 (ns:=ns) (i:=i) (j:=j) (n:=n) (h:=h3)
  refine ⟨⟨[some (.fz (.scr ns)),some (.fz (.int i)),some (.fz (.loc n)),y3,some (.fz j),some (.fz t),y6,y7,z8,y9,y10,y11],h3⟩, ?_,y3,_,_,_,_,_,_,_,_,h3,rfl,l1,p3.at⟩
  rw [body_0_2,x_seq,e1,xT_nx,seq2 e2,seq3 e3]
  simp only [x_seq,e4,xT_nx]
  exact e5
def Sl0 (ns:List Int) (s:Mi.S):Prop:= ∃ x1 x2 x3 x4 x5 x6 x7 x8 x9 x10 x11,s.σ=[some (.fz (.scr ns)),x1,x2,x3,x4,x5,x6,x7,x8,x9,x10,x11]
theorem turn (ns:List Int) (i:Nat) (hi:i<6) (x2 x3 x4 x5 x6 x7 x8 x9 x10 x11:Option O) (h:List O):
    Ends (Sl0 ns) (body_0 (callN tabV 18) ⟨[some (.fz (.scr ns)),some (.fz (.int i)),x2,x3,x4,x5,x6,x7,x8,x9,x10,x11],h⟩):=by
  obtain ⟨pa,pb,e0,a0,a1,a2⟩:=pool_ok gens 17 ns (i:=(i:Int)) (by omega) (by omega) h
  have p0:PoolAt (h++[.lst [.int pa,.int pb]]) h.length:=⟨pa,pb,by simp,a0,a1,a2⟩
  rw [body_0,x_seq]
  simp_arith [b_0_0,e0,x_cell,x_cellL]
  simp_arith [b_0_1,x_tup,x_tupK2,x_lstK6]
  have rk:=fun s=>x_rgK (s:=s) (j:=4) (by omega) (by omega)
  simp only [show (4:Int).toNat=4 from rfl] at rk
  simp_arith [b_0_2,rk,x_for,x_rg,x_rg1,x_forL]
  refine Ends.then_ (ends_range (call:=callN tabV 18) (g:=gN 4) (body:=body_0_2) 4 (fun _ s=> ∃ y3 y4 y5 y6 y7 y8 y9 y10 y11 h',s=⟨[some (.fz (.scr ns)),some (.fz (.int (i:Nat))),some (.fz (.loc h.length)),y3,y4,y5,y6,y7,y8,y9,y10,y11],h'⟩∧Ls leaves y3∧PoolAt h' h.length) _ ⟨_,_,_,_,_,_,_,_,_,_,rfl,.inl rfl,p0⟩ ?_) ?_
  · rintro j hj s ⟨y3,y4,y5,y6,y7,y8,y9,y10,y11,h',rfl,l3,hp⟩
    exact ⟨_,rfl,turn4 hp l3 y5 y6 y7 y8 y9 y10 y11⟩
  · rintro s ⟨y3,y4,y5,y6,y7,y8,y9,y10,y11,h',rfl,_⟩
    (try simp_arith [x_seq])
    exact ends_nx ⟨_,_,_,_,_,_,_,_,_,_,_,rfl⟩
theorem law_trueV (ns:List Int) (hl:ns.length≤63): ∃ h',callN tabV 19 "law" [.scr ns] []= .ok (.fz (.bl true)) h':=by
  rw [call_at (sw u_law) [some (.fz (.scr ns)),none,none,none,none,none,none,none,none,none,none,none] rfl rfl]
  show ∃ h',fin ((cSeq (cFor (iRg1 _) (gN 1) body_0) (cSeq (cRet (mCon (.bl true))) cNil)) (callN tabV 18) _)=_
  simp_arith [List.length_map,x_for,x_rg,x_d_scr,x_lX_scr,x_lenC,x_min,x_max,x_rg1]
  generalize hm:(if (1:Int)<(if (6:Int)<(ns.length:Int) then 6 else (ns.length:Int)) then (if (6:Int)<(ns.length:Int) then 6 else (ns.length:Int)) else 1)=m
  have m0:0≤m:=by rw [←hm];split<;>(try split)<;>omega
  have m1:m≤6:=by rw [←hm];split<;>(try split)<;>omega
  rw [x_rgK m0 (show m<100000 by omega)]
  obtain ⟨s',es,is⟩:=ends_inv (call:=callN tabV 18) (g:=gN 1) (body:=body_0) (Sl0 ns) (rangeD 0 m.toNat) ⟨[some (.fz (.scr ns)),none,none,none,none,none,none,none,none,none,none,none],[]⟩ ⟨_,_,_,_,_,_,_,_,_,_,_,rfl⟩ (fun d hd s hs=>by
    rw [rangeD_eq] at hd
    obtain ⟨i,hi,rfl⟩:=List.mem_map.mp hd
    have:=List.mem_range.mp hi
    obtain ⟨σ,h⟩:=s
    obtain ⟨x1,x2,x3,x4,x5,x6,x7,x8,x9,x10,x11,rfl⟩:=hs
    exact ⟨_,rfl,turn ns i (by omega) x2 x3 x4 x5 x6 x7 x8 x9 x10 x11 h⟩)
  simp_arith [x_seq,x_forL]
  rw [es]
  obtain ⟨σ,h3⟩:=s'
  simp_arith [x_seq]
  exact ⟨_,rfl⟩
theorem law_true (ns:List Int) (hl:ns.length≤63): ∃ h',callN tab 19 "law" [.scr ns] []= .ok (.fz (.bl true)) h':=by
  rw [callN_same tabS 19];exact law_trueV ns hl
end K14
namespace K14
open PySem PySem.Spec PyProof.Rows L2 Mi
abbrev Bz_d0 (K:W.Frag):Prop:= ∃ (a0:Addr) (od0 an0:Option Addr) (sl0:Array (Option Value)) (oc0 kV0 dc0 pm0 cd0 ct0:Value),(W.nsIn K mainGlobals "worth"=some (some (.ref a0)))∧(K.lookup a0=some ⟨oc0,od0,.func (W.fnOf "worth" "worth" (defArgs (topS 3)) (defBody (topS 3)) (defScope (topS 3)) .none kV0 dc0 pm0 an0 cd0 ct0),sl0⟩)∧(W.codeIn K cd0 "worth"=true)∧(W.keepIn K (.ref a0)=true)
abbrev Bz_d1 (K:W.Frag):Prop:= ∃ (a1:Addr) (od1 an1:Option Addr) (sl1:Array (Option Value)) (oc1 kV1 dc1 pm1 cd1 ct1:Value),(W.nsIn K mainGlobals "_law_pool"=some (some (.ref a1)))∧(K.lookup a1=some ⟨oc1,od1,.func (W.fnOf "_law_pool" "_law_pool" (defArgs (topS 5)) (defBody (topS 5)) (defScope (topS 5)) .none kV1 dc1 pm1 an1 cd1 ct1),sl1⟩)∧(W.codeIn K cd1 "_law_pool"=true)∧(W.keepIn K (.ref a1)=true)
abbrev Bz_d2 (K:W.Frag):Prop:= ∃ (a2:Addr) (od2 an2:Option Addr) (sl2:Array (Option Value)) (oc2 kV2 dc2 pm2 cd2 ct2:Value),(W.nsIn K mainGlobals "_law_draw"=some (some (.ref a2)))∧(K.lookup a2=some ⟨oc2,od2,.func (W.fnOf "_law_draw" "_law_draw" (defArgs (topS 6)) (defBody (topS 6)) (defScope (topS 6)) .none kV2 dc2 pm2 an2 cd2 ct2),sl2⟩)∧(W.codeIn K cd2 "_law_draw"=true)∧(W.keepIn K (.ref a2)=true)
abbrev Bz_d3 (K:W.Frag):Prop:= ∃ (a3:Addr) (od3 an3:Option Addr) (sl3:Array (Option Value)) (oc3 kV3 dc3 pm3 cd3 ct3:Value),(W.nsIn K mainGlobals "_law_pick"=some (some (.ref a3)))∧(K.lookup a3=some ⟨oc3,od3,.func (W.fnOf "_law_pick" "_law_pick" (defArgs (topS 7)) (defBody (topS 7)) (defScope (topS 7)) .none kV3 dc3 pm3 an3 cd3 ct3),sl3⟩)∧(W.codeIn K cd3 "_law_pick"=true)∧(W.keepIn K (.ref a3)=true)
abbrev Bz_d4 (K:W.Frag):Prop:= ∃ (a4:Addr) (od4 an4:Option Addr) (sl4:Array (Option Value)) (oc4 kV4 dc4 pm4 cd4 ct4:Value),(W.nsIn K mainGlobals "_law_term"=some (some (.ref a4)))∧(K.lookup a4=some ⟨oc4,od4,.func (W.fnOf "_law_term" "_law_term" (defArgs (topS 8)) (defBody (topS 8)) (defScope (topS 8)) .none kV4 dc4 pm4 an4 cd4 ct4),sl4⟩)∧(W.codeIn K cd4 "_law_term"=true)∧(W.keepIn K (.ref a4)=true)
abbrev Bz_d5 (K:W.Frag):Prop:= ∃ (a5:Addr) (od5 an5:Option Addr) (sl5:Array (Option Value)) (oc5 kV5 dc5 pm5 cd5 ct5:Value),(W.nsIn K mainGlobals "_law_value"=some (some (.ref a5)))∧(K.lookup a5=some ⟨oc5,od5,.func (W.fnOf "_law_value" "_law_value" (defArgs (topS 9)) (defBody (topS 9)) (defScope (topS 9)) .none kV5 dc5 pm5 an5 cd5 ct5),sl5⟩)∧(W.codeIn K cd5 "_law_value"=true)∧(W.keepIn K (.ref a5)=true)
abbrev Bz_d6 (K:W.Frag):Prop:= ∃ (a6:Addr) (od6 an6:Option Addr) (sl6:Array (Option Value)) (oc6 kV6 dc6 pm6 cd6 ct6:Value),(W.nsIn K mainGlobals "_law_inputs_of"=some (some (.ref a6)))∧(K.lookup a6=some ⟨oc6,od6,.func (W.fnOf "_law_inputs_of" "_law_inputs_of" (defArgs (topS 10)) (defBody (topS 10)) (defScope (topS 10)) .none kV6 dc6 pm6 an6 cd6 ct6),sl6⟩)∧(W.codeIn K cd6 "_law_inputs_of"=true)∧(W.keepIn K (.ref a6)=true)
abbrev Bz_d7 (K:W.Frag):Prop:= ∃ (a7:Addr) (od7 an7:Option Addr) (sl7:Array (Option Value)) (oc7 kV7 dc7 pm7 cd7 ct7:Value),(W.nsIn K mainGlobals "_law_written"=some (some (.ref a7)))∧(K.lookup a7=some ⟨oc7,od7,.func (W.fnOf "_law_written" "_law_written" (defArgs (topS 11)) (defBody (topS 11)) (defScope (topS 11)) .none kV7 dc7 pm7 an7 cd7 ct7),sl7⟩)∧(W.codeIn K cd7 "_law_written"=true)∧(W.keepIn K (.ref a7)=true)
abbrev Bz_d8 (K:W.Frag):Prop:= ∃ (a8:Addr) (od8 an8:Option Addr) (sl8:Array (Option Value)) (oc8 kV8 dc8 pm8 cd8 ct8:Value),(W.nsIn K mainGlobals "_law_reckoned"=some (some (.ref a8)))∧(K.lookup a8=some ⟨oc8,od8,.func (W.fnOf "_law_reckoned" "_law_reckoned" (defArgs (topS 12)) (defBody (topS 12)) (defScope (topS 12)) .none kV8 dc8 pm8 an8 cd8 ct8),sl8⟩)∧(W.codeIn K cd8 "_law_reckoned"=true)∧(W.keepIn K (.ref a8)=true)
abbrev Bz_d9 (K:W.Frag):Prop:= ∃ (a9:Addr) (od9 an9:Option Addr) (sl9:Array (Option Value)) (oc9 kV9 dc9 pm9 cd9 ct9:Value),(W.nsIn K mainGlobals "_law_refused"=some (some (.ref a9)))∧(K.lookup a9=some ⟨oc9,od9,.func (W.fnOf "_law_refused" "_law_refused" (defArgs (topS 13)) (defBody (topS 13)) (defScope (topS 13)) .none kV9 dc9 pm9 an9 cd9 ct9),sl9⟩)∧(W.codeIn K cd9 "_law_refused"=true)∧(W.keepIn K (.ref a9)=true)
abbrev Bz_d10 (K:W.Frag) (fa:Addr):Prop:= ∃ (zct zag:Option Addr) (zcv:Array (Option Value)) (zcu zai zaj zak zae zah:Value),(W.nsIn K mainGlobals "law"=some (some (.ref fa)))∧(K.lookup fa=some ⟨zcu,zct,.func (W.fnOf "law" "law" (defArgs (topS 14)) (defBody (topS 14)) (defScope (topS 14)) .none zai zaj zak zag zae zah),zcv⟩)∧(W.codeIn K zae "law"=true)∧(W.keepIn K (.ref fa)=true)
abbrev Bz_x_UnknownName (K:W.Frag) (za:Addr):Prop:= ∃ (ze zp:Addr) (zad zu:Str) (zt zf zaa:List Value) (zl:List Str) (zab:Bool) (zk:Option Bool) (zac zq zx:Option Addr) (zi zw zo zs zz:Option Value) (zm zr zv zy zg zn:Value) (zj:Array (Option Value)),(W.nsIn K mainGlobals "UnknownName"=some (some (.ref za)))∧(K.lookup za=some (excClassObj zad zu za zp zt zf true zl zaa zab zk zac zi zw zo zs zz "LookupError.__new__"))∧(refsT tlK zf=true)∧(W.findIn K (.ref za) "__setattr__"=some (some (.builtin "object.__setattr__")))∧(W.subIn K (.ref za) (.type "BaseException")=some true)∧(W.typeIn K (.ref za)=some (.type "type"))∧(W.keepIn K (.ref za)=true)∧(W.findIn K (.ref za) "__getattribute__"=some (some (.builtin "BaseException.__getattribute__")))∧(W.findIn K (.ref za) "__getattr__"=some none)∧(W.hasDictIn K za=true)∧(W.findIn K (.ref za) "__class__"=some (some (.builtin "object.__class__")))∧(W.specialIn K (.builtin "object.__class__") "__get__"=some (some (.builtin "getset_descriptor.__get__")))∧(W.takesIn K (.builtin "object.__class__")=some true)∧(W.mroIn K za (.type "object")=some true)∧(W.findIn K (.ref za) "name"=some none)∧(W.findIn K (.ref za) "__init__"=some (some (.ref ze)))∧(W.typeIn K (.ref ze)=some (.type "function"))∧(K.lookup ze=some ⟨zm,zq,.func (W.fnOf "__init__" "UnknownName.__init__" (defArgs (inS 1 0)) (defBody (inS 1 0)) (defScope (inS 1 0)) .none zr zv zy zx zg zn),zj⟩)∧(W.codeIn K zg "UnknownName.__init__"=true)∧(W.keepIn K (.ref ze)=true)∧(W.nsIn K mainGlobals "KeyError"=some none)∧(W.findCls K (.type "KeyError") (.type "type") "__init__"=some (.val (.builtin "KeyError.__init__")))
theorem fmc_ {α:Type} {p:α→Prop} {a:α} {l:List α} (h:p a∧∀ x∈l,p x): ∀ x∈a::l,p x:=List.forall_mem_cons.mpr h
theorem DD0 {w:World} {K:W.Frag} {zb zc:List (Str×Addr)} {zd:List (Str×Addr×Str)} {a0:Addr} {od0 an0:Option Addr} {sl0:Array (Option Value)} {oc0 kV0 dc0 pm0 cd0 ct0:Value} (l0:K.lookup a0=some ⟨oc0,od0,.func (W.fnOf "worth" "worth" (defArgs (topS 3)) (defBody (topS 3)) (defScope (topS 3)) .none kV0 dc0 pm0 an0 cd0 ct0),sl0⟩) (c0:W.codeIn K cd0 "worth"=true):DefAt (geOf K zb zc zd false w) pd tab "worth" a0 (W.fnOf "worth" "worth" (defArgs (topS 3)) (defBody (topS 3)) (defScope (topS 3)) .none kV0 dc0 pm0 an0 cd0 ct0) (mkP (topS 3)):=by
  have h0:shpOf shp "worth"=[((3:Nat),([]:List Str))]:=by decide+kernel
  have b0:=bs_one (G:=(geOf K zb zc zd false w)) (K:=K) h0 (bs_all (m:=m_worth) (df:=[]) (N:=mkN (topS 3)) (ps:=mkP (topS 3)) (by kernel_rfl) fun s us KI hl=>BindsTo.of_eq (match us,hl with|[_,_,_],_=>rfl:bindArgs (W.fnOf "worth" "worth" (defArgs (topS 3)) (defBody (topS 3)) (defScope (topS 3)) .none kV0 dc0 pm0 an0 cd0 ct0) ⟨us,[]⟩=pure ((mkP (topS 3)).zip us)))
  exact def_mk (G:=(geOf K zb zc zd false w)) (pd:=pd) (tab:=tab) (f:="worth") (funA_mk (st:=(topS 3)) l0 c0) (by decide+kernel) (by rw [u_worth,n_worth];rfl) (by kernel_rfl) t_worth b0
theorem DD1 {w:World} {K:W.Frag} {zb zc:List (Str×Addr)} {zd:List (Str×Addr×Str)} {a1:Addr} {od1 an1:Option Addr} {sl1:Array (Option Value)} {oc1 kV1 dc1 pm1 cd1 ct1:Value} (l1:K.lookup a1=some ⟨oc1,od1,.func (W.fnOf "_law_pool" "_law_pool" (defArgs (topS 5)) (defBody (topS 5)) (defScope (topS 5)) .none kV1 dc1 pm1 an1 cd1 ct1),sl1⟩) (c1:W.codeIn K cd1 "_law_pool"=true):DefAt (geOf K zb zc zd false w) pd tab "_law_pool" a1 (W.fnOf "_law_pool" "_law_pool" (defArgs (topS 5)) (defBody (topS 5)) (defScope (topS 5)) .none kV1 dc1 pm1 an1 cd1 ct1) (mkP (topS 5)):=by
  have h1:shpOf shp "_law_pool"=[((2:Nat),([]:List Str))]:=by decide+kernel
  have b1:=bs_one (G:=(geOf K zb zc zd false w)) (K:=K) h1 (bs_all (m:=m_law_pool) (df:=[]) (N:=mkN (topS 5)) (ps:=mkP (topS 5)) (by kernel_rfl) fun s us KI hl=>BindsTo.of_eq (match us,hl with|[_,_],_=>rfl:bindArgs (W.fnOf "_law_pool" "_law_pool" (defArgs (topS 5)) (defBody (topS 5)) (defScope (topS 5)) .none kV1 dc1 pm1 an1 cd1 ct1) ⟨us,[]⟩=pure ((mkP (topS 5)).zip us)))
  exact def_mk (G:=(geOf K zb zc zd false w)) (pd:=pd) (tab:=tab) (f:="_law_pool") (funA_mk (st:=(topS 5)) l1 c1) (by decide+kernel) (by rw [u_law_pool,n_law_pool];rfl) (by kernel_rfl) t_law_pool b1
theorem DD2 {w:World} {K:W.Frag} {zb zc:List (Str×Addr)} {zd:List (Str×Addr×Str)} {a2:Addr} {od2 an2:Option Addr} {sl2:Array (Option Value)} {oc2 kV2 dc2 pm2 cd2 ct2:Value} (l2:K.lookup a2=some ⟨oc2,od2,.func (W.fnOf "_law_draw" "_law_draw" (defArgs (topS 6)) (defBody (topS 6)) (defScope (topS 6)) .none kV2 dc2 pm2 an2 cd2 ct2),sl2⟩) (c2:W.codeIn K cd2 "_law_draw"=true):DefAt (geOf K zb zc zd false w) pd tab "_law_draw" a2 (W.fnOf "_law_draw" "_law_draw" (defArgs (topS 6)) (defBody (topS 6)) (defScope (topS 6)) .none kV2 dc2 pm2 an2 cd2 ct2) (mkP (topS 6)):=by
  have h2:shpOf shp "_law_draw"=[((2:Nat),([]:List Str))]:=by decide+kernel
  have b2:=bs_one (G:=(geOf K zb zc zd false w)) (K:=K) h2 (bs_all (m:=m_law_draw) (df:=[]) (N:=mkN (topS 6)) (ps:=mkP (topS 6)) (by kernel_rfl) fun s us KI hl=>BindsTo.of_eq (match us,hl with|[_,_],_=>rfl:bindArgs (W.fnOf "_law_draw" "_law_draw" (defArgs (topS 6)) (defBody (topS 6)) (defScope (topS 6)) .none kV2 dc2 pm2 an2 cd2 ct2) ⟨us,[]⟩=pure ((mkP (topS 6)).zip us)))
  exact def_mk (G:=(geOf K zb zc zd false w)) (pd:=pd) (tab:=tab) (f:="_law_draw") (funA_mk (st:=(topS 6)) l2 c2) (by decide+kernel) (by rw [u_law_draw,n_law_draw];rfl) (by kernel_rfl) t_law_draw b2
theorem DD3 {w:World} {K:W.Frag} {zb zc:List (Str×Addr)} {zd:List (Str×Addr×Str)} {a3:Addr} {od3 an3:Option Addr} {sl3:Array (Option Value)} {oc3 kV3 dc3 pm3 cd3 ct3:Value} (l3:K.lookup a3=some ⟨oc3,od3,.func (W.fnOf "_law_pick" "_law_pick" (defArgs (topS 7)) (defBody (topS 7)) (defScope (topS 7)) .none kV3 dc3 pm3 an3 cd3 ct3),sl3⟩) (c3:W.codeIn K cd3 "_law_pick"=true):DefAt (geOf K zb zc zd false w) pd tab "_law_pick" a3 (W.fnOf "_law_pick" "_law_pick" (defArgs (topS 7)) (defBody (topS 7)) (defScope (topS 7)) .none kV3 dc3 pm3 an3 cd3 ct3) (mkP (topS 7)):=by
  have h3:shpOf shp "_law_pick"=[((2:Nat),([]:List Str))]:=by decide+kernel
  have b3:=bs_one (G:=(geOf K zb zc zd false w)) (K:=K) h3 (bs_all (m:=m_law_pick) (df:=[]) (N:=mkN (topS 7)) (ps:=mkP (topS 7)) (by kernel_rfl) fun s us KI hl=>BindsTo.of_eq (match us,hl with|[_,_],_=>rfl:bindArgs (W.fnOf "_law_pick" "_law_pick" (defArgs (topS 7)) (defBody (topS 7)) (defScope (topS 7)) .none kV3 dc3 pm3 an3 cd3 ct3) ⟨us,[]⟩=pure ((mkP (topS 7)).zip us)))
  exact def_mk (G:=(geOf K zb zc zd false w)) (pd:=pd) (tab:=tab) (f:="_law_pick") (funA_mk (st:=(topS 7)) l3 c3) (by decide+kernel) (by rw [u_law_pick,n_law_pick];rfl) (by kernel_rfl) t_law_pick b3
theorem DD4 {w:World} {K:W.Frag} {zb zc:List (Str×Addr)} {zd:List (Str×Addr×Str)} {a4:Addr} {od4 an4:Option Addr} {sl4:Array (Option Value)} {oc4 kV4 dc4 pm4 cd4 ct4:Value} (l4:K.lookup a4=some ⟨oc4,od4,.func (W.fnOf "_law_term" "_law_term" (defArgs (topS 8)) (defBody (topS 8)) (defScope (topS 8)) .none kV4 dc4 pm4 an4 cd4 ct4),sl4⟩) (c4:W.codeIn K cd4 "_law_term"=true):DefAt (geOf K zb zc zd false w) pd tab "_law_term" a4 (W.fnOf "_law_term" "_law_term" (defArgs (topS 8)) (defBody (topS 8)) (defScope (topS 8)) .none kV4 dc4 pm4 an4 cd4 ct4) (mkP (topS 8)):=by
  have h4:shpOf shp "_law_term"=[((3:Nat),([]:List Str))]:=by decide+kernel
  have b4:=bs_one (G:=(geOf K zb zc zd false w)) (K:=K) h4 (bs_all (m:=m_law_term) (df:=[]) (N:=mkN (topS 8)) (ps:=mkP (topS 8)) (by kernel_rfl) fun s us KI hl=>BindsTo.of_eq (match us,hl with|[_,_,_],_=>rfl:bindArgs (W.fnOf "_law_term" "_law_term" (defArgs (topS 8)) (defBody (topS 8)) (defScope (topS 8)) .none kV4 dc4 pm4 an4 cd4 ct4) ⟨us,[]⟩=pure ((mkP (topS 8)).zip us)))
  exact def_mk (G:=(geOf K zb zc zd false w)) (pd:=pd) (tab:=tab) (f:="_law_term") (funA_mk (st:=(topS 8)) l4 c4) (by decide+kernel) (by rw [u_law_term,n_law_term];rfl) (by kernel_rfl) t_law_term b4
theorem DD5 {w:World} {K:W.Frag} {zb zc:List (Str×Addr)} {zd:List (Str×Addr×Str)} {a5:Addr} {od5 an5:Option Addr} {sl5:Array (Option Value)} {oc5 kV5 dc5 pm5 cd5 ct5:Value} (l5:K.lookup a5=some ⟨oc5,od5,.func (W.fnOf "_law_value" "_law_value" (defArgs (topS 9)) (defBody (topS 9)) (defScope (topS 9)) .none kV5 dc5 pm5 an5 cd5 ct5),sl5⟩) (c5:W.codeIn K cd5 "_law_value"=true):DefAt (geOf K zb zc zd false w) pd tab "_law_value" a5 (W.fnOf "_law_value" "_law_value" (defArgs (topS 9)) (defBody (topS 9)) (defScope (topS 9)) .none kV5 dc5 pm5 an5 cd5 ct5) (mkP (topS 9)):=by
  have h5:shpOf shp "_law_value"=[((3:Nat),([]:List Str))]:=by decide+kernel
  have b5:=bs_one (G:=(geOf K zb zc zd false w)) (K:=K) h5 (bs_all (m:=m_law_value) (df:=[]) (N:=mkN (topS 9)) (ps:=mkP (topS 9)) (by kernel_rfl) fun s us KI hl=>BindsTo.of_eq (match us,hl with|[_,_,_],_=>rfl:bindArgs (W.fnOf "_law_value" "_law_value" (defArgs (topS 9)) (defBody (topS 9)) (defScope (topS 9)) .none kV5 dc5 pm5 an5 cd5 ct5) ⟨us,[]⟩=pure ((mkP (topS 9)).zip us)))
  exact def_mk (G:=(geOf K zb zc zd false w)) (pd:=pd) (tab:=tab) (f:="_law_value") (funA_mk (st:=(topS 9)) l5 c5) (by decide+kernel) (by rw [u_law_value,n_law_value];rfl) (by kernel_rfl) t_law_value b5
theorem DD6 {w:World} {K:W.Frag} {zb zc:List (Str×Addr)} {zd:List (Str×Addr×Str)} {a6:Addr} {od6 an6:Option Addr} {sl6:Array (Option Value)} {oc6 kV6 dc6 pm6 cd6 ct6:Value} (l6:K.lookup a6=some ⟨oc6,od6,.func (W.fnOf "_law_inputs_of" "_law_inputs_of" (defArgs (topS 10)) (defBody (topS 10)) (defScope (topS 10)) .none kV6 dc6 pm6 an6 cd6 ct6),sl6⟩) (c6:W.codeIn K cd6 "_law_inputs_of"=true):DefAt (geOf K zb zc zd false w) pd tab "_law_inputs_of" a6 (W.fnOf "_law_inputs_of" "_law_inputs_of" (defArgs (topS 10)) (defBody (topS 10)) (defScope (topS 10)) .none kV6 dc6 pm6 an6 cd6 ct6) (mkP (topS 10)):=by
  have h6:shpOf shp "_law_inputs_of"=[((1:Nat),([]:List Str))]:=by decide+kernel
  have b6:=bs_one (G:=(geOf K zb zc zd false w)) (K:=K) h6 (bs_all (m:=m_law_inputs_of) (df:=[]) (N:=mkN (topS 10)) (ps:=mkP (topS 10)) (by kernel_rfl) fun s us KI hl=>BindsTo.of_eq (match us,hl with|[_],_=>rfl:bindArgs (W.fnOf "_law_inputs_of" "_law_inputs_of" (defArgs (topS 10)) (defBody (topS 10)) (defScope (topS 10)) .none kV6 dc6 pm6 an6 cd6 ct6) ⟨us,[]⟩=pure ((mkP (topS 10)).zip us)))
  exact def_mk (G:=(geOf K zb zc zd false w)) (pd:=pd) (tab:=tab) (f:="_law_inputs_of") (funA_mk (st:=(topS 10)) l6 c6) (by decide+kernel) (by rw [u_law_inputs_of,n_law_inputs_of];rfl) (by kernel_rfl) t_law_inputs_of b6
theorem DD7 {w:World} {K:W.Frag} {zb zc:List (Str×Addr)} {zd:List (Str×Addr×Str)} {a7:Addr} {od7 an7:Option Addr} {sl7:Array (Option Value)} {oc7 kV7 dc7 pm7 cd7 ct7:Value} (l7:K.lookup a7=some ⟨oc7,od7,.func (W.fnOf "_law_written" "_law_written" (defArgs (topS 11)) (defBody (topS 11)) (defScope (topS 11)) .none kV7 dc7 pm7 an7 cd7 ct7),sl7⟩) (c7:W.codeIn K cd7 "_law_written"=true):DefAt (geOf K zb zc zd false w) pd tab "_law_written" a7 (W.fnOf "_law_written" "_law_written" (defArgs (topS 11)) (defBody (topS 11)) (defScope (topS 11)) .none kV7 dc7 pm7 an7 cd7 ct7) (mkP (topS 11)):=by
  have h7:shpOf shp "_law_written"=[((2:Nat),([]:List Str))]:=by decide+kernel
  have b7:=bs_one (G:=(geOf K zb zc zd false w)) (K:=K) h7 (bs_all (m:=m_law_written) (df:=[]) (N:=mkN (topS 11)) (ps:=mkP (topS 11)) (by kernel_rfl) fun s us KI hl=>BindsTo.of_eq (match us,hl with|[_,_],_=>rfl:bindArgs (W.fnOf "_law_written" "_law_written" (defArgs (topS 11)) (defBody (topS 11)) (defScope (topS 11)) .none kV7 dc7 pm7 an7 cd7 ct7) ⟨us,[]⟩=pure ((mkP (topS 11)).zip us)))
  exact def_mk (G:=(geOf K zb zc zd false w)) (pd:=pd) (tab:=tab) (f:="_law_written") (funA_mk (st:=(topS 11)) l7 c7) (by decide+kernel) (by rw [u_law_written,n_law_written];rfl) (by kernel_rfl) t_law_written b7
theorem DD8 {w:World} {K:W.Frag} {zb zc:List (Str×Addr)} {zd:List (Str×Addr×Str)} {a8:Addr} {od8 an8:Option Addr} {sl8:Array (Option Value)} {oc8 kV8 dc8 pm8 cd8 ct8:Value} (l8:K.lookup a8=some ⟨oc8,od8,.func (W.fnOf "_law_reckoned" "_law_reckoned" (defArgs (topS 12)) (defBody (topS 12)) (defScope (topS 12)) .none kV8 dc8 pm8 an8 cd8 ct8),sl8⟩) (c8:W.codeIn K cd8 "_law_reckoned"=true):DefAt (geOf K zb zc zd false w) pd tab "_law_reckoned" a8 (W.fnOf "_law_reckoned" "_law_reckoned" (defArgs (topS 12)) (defBody (topS 12)) (defScope (topS 12)) .none kV8 dc8 pm8 an8 cd8 ct8) (mkP (topS 12)):=by
  have h8:shpOf shp "_law_reckoned"=[((2:Nat),([]:List Str))]:=by decide+kernel
  have b8:=bs_one (G:=(geOf K zb zc zd false w)) (K:=K) h8 (bs_all (m:=m_law_reckoned) (df:=[]) (N:=mkN (topS 12)) (ps:=mkP (topS 12)) (by kernel_rfl) fun s us KI hl=>BindsTo.of_eq (match us,hl with|[_,_],_=>rfl:bindArgs (W.fnOf "_law_reckoned" "_law_reckoned" (defArgs (topS 12)) (defBody (topS 12)) (defScope (topS 12)) .none kV8 dc8 pm8 an8 cd8 ct8) ⟨us,[]⟩=pure ((mkP (topS 12)).zip us)))
  exact def_mk (G:=(geOf K zb zc zd false w)) (pd:=pd) (tab:=tab) (f:="_law_reckoned") (funA_mk (st:=(topS 12)) l8 c8) (by decide+kernel) (by rw [u_law_reckoned,n_law_reckoned];rfl) (by kernel_rfl) t_law_reckoned b8
theorem DD9 {w:World} {K:W.Frag} {zb zc:List (Str×Addr)} {zd:List (Str×Addr×Str)} {a9:Addr} {od9 an9:Option Addr} {sl9:Array (Option Value)} {oc9 kV9 dc9 pm9 cd9 ct9:Value} (l9:K.lookup a9=some ⟨oc9,od9,.func (W.fnOf "_law_refused" "_law_refused" (defArgs (topS 13)) (defBody (topS 13)) (defScope (topS 13)) .none kV9 dc9 pm9 an9 cd9 ct9),sl9⟩) (c9:W.codeIn K cd9 "_law_refused"=true):DefAt (geOf K zb zc zd false w) pd tab "_law_refused" a9 (W.fnOf "_law_refused" "_law_refused" (defArgs (topS 13)) (defBody (topS 13)) (defScope (topS 13)) .none kV9 dc9 pm9 an9 cd9 ct9) (mkP (topS 13)):=by
  have h9:shpOf shp "_law_refused"=[((2:Nat),([]:List Str))]:=by decide+kernel
  have b9:=bs_one (G:=(geOf K zb zc zd false w)) (K:=K) h9 (bs_all (m:=m_law_refused) (df:=[]) (N:=mkN (topS 13)) (ps:=mkP (topS 13)) (by kernel_rfl) fun s us KI hl=>BindsTo.of_eq (match us,hl with|[_,_],_=>rfl:bindArgs (W.fnOf "_law_refused" "_law_refused" (defArgs (topS 13)) (defBody (topS 13)) (defScope (topS 13)) .none kV9 dc9 pm9 an9 cd9 ct9) ⟨us,[]⟩=pure ((mkP (topS 13)).zip us)))
  exact def_mk (G:=(geOf K zb zc zd false w)) (pd:=pd) (tab:=tab) (f:="_law_refused") (funA_mk (st:=(topS 13)) l9 c9) (by decide+kernel) (by rw [u_law_refused,n_law_refused];rfl) (by kernel_rfl) t_law_refused b9
theorem DD10 {w:World} {K:W.Frag} {zb zc:List (Str×Addr)} {zd:List (Str×Addr×Str)} {fa:Addr} {zct zag:Option Addr} {zcv:Array (Option Value)} {zcu zai zaj zak zae zah:Value} (l10:K.lookup fa=some ⟨zcu,zct,.func (W.fnOf "law" "law" (defArgs (topS 14)) (defBody (topS 14)) (defScope (topS 14)) .none zai zaj zak zag zae zah),zcv⟩) (c10:W.codeIn K zae "law"=true):DefAt (geOf K zb zc zd false w) pd tab "law" fa (W.fnOf "law" "law" (defArgs (topS 14)) (defBody (topS 14)) (defScope (topS 14)) .none zai zaj zak zag zae zah) (mkP (topS 14)):=by
  have h10:shpOf shp "law"=[((1:Nat),([]:List Str))]:=by decide+kernel
  have b10:=bs_one (G:=(geOf K zb zc zd false w)) (K:=K) h10 (bs_all (m:=m_law) (df:=[]) (N:=mkN (topS 14)) (ps:=mkP (topS 14)) (by kernel_rfl) fun s us KI hl=>BindsTo.of_eq (match us,hl with|[_],_=>rfl:bindArgs (W.fnOf "law" "law" (defArgs (topS 14)) (defBody (topS 14)) (defScope (topS 14)) .none zai zaj zak zag zae zah) ⟨us,[]⟩=pure ((mkP (topS 14)).zip us)))
  exact def_mk (G:=(geOf K zb zc zd false w)) (pd:=pd) (tab:=tab) (f:="law") (funA_mk (st:=(topS 14)) l10 c10) (by decide+kernel) (by rw [u_law,n_law];rfl) (by kernel_rfl) t_law b10
theorem all_mk {l:W.OpenLaw} {w:World} {K:W.Frag} {h:Heap} {mg:Str→Option Value} {fa fa0:Addr} (X:K.In h) (G:h.Ns mainGlobals mg) (hfa:mg "law"=some (.ref fa0)) {za:Addr}
    (zei:Bz_d0 K)
    (zee:Bz_d1 K)
    (zeg:Bz_d2 K)
    (zej:Bz_d3 K)
    (zem:Bz_d4 K)
    (zek:Bz_d5 K)
    (zel:Bz_d6 K)
    (zef:Bz_d7 K)
    (zeh:Bz_d8 K)
    (zen:Bz_d9 K)
    (zed:Bz_d10 K fa)
    (zaf:Bz_x_UnknownName K za)
    (zh:W.subIn K (.ref za) (.ref za)=some true)
    (B_z:Bz_z K)
    : ∃ fd:FuncData,(∀ (s:Shared) (v:Value),BindsTo s fd ⟨[v],[]⟩ [("_law_script",v)])∧∀ base:Heap,K.In base→base.Ns mainGlobals mg→FnG l.prog w K mg base (L2.CX l.prog w) 40 fa0 fd ["_law_script"] (spL K false (callN tab 19)):=by
  obtain ⟨a0,od0,an0,sl0,oc0,kV0,dc0,pm0,cd0,ct0,q0,l0,c0,k0⟩:=zei
  obtain ⟨a1,od1,an1,sl1,oc1,kV1,dc1,pm1,cd1,ct1,q1,l1,c1,k1⟩:=zee
  obtain ⟨a2,od2,an2,sl2,oc2,kV2,dc2,pm2,cd2,ct2,q2,l2,c2,k2⟩:=zeg
  obtain ⟨a3,od3,an3,sl3,oc3,kV3,dc3,pm3,cd3,ct3,q3,l3,c3,k3⟩:=zej
  obtain ⟨a4,od4,an4,sl4,oc4,kV4,dc4,pm4,cd4,ct4,q4,l4,c4,k4⟩:=zem
  obtain ⟨a5,od5,an5,sl5,oc5,kV5,dc5,pm5,cd5,ct5,q5,l5,c5,k5⟩:=zek
  obtain ⟨a6,od6,an6,sl6,oc6,kV6,dc6,pm6,cd6,ct6,q6,l6,c6,k6⟩:=zel
  obtain ⟨a7,od7,an7,sl7,oc7,kV7,dc7,pm7,cd7,ct7,q7,l7,c7,k7⟩:=zef
  obtain ⟨a8,od8,an8,sl8,oc8,kV8,dc8,pm8,cd8,ct8,q8,l8,c8,k8⟩:=zeh
  obtain ⟨a9,od9,an9,sl9,oc9,kV9,dc9,pm9,cd9,ct9,q9,l9,c9,k9⟩:=zen
  obtain ⟨zct,zag,zcv,zcu,zai,zaj,zak,zae,zah,q10,l10,c10,k10⟩:=zed
  obtain ⟨ze,zp,zad,zu,zt,zf,zaa,zl,zab,zk,zac,zq,zx,zi,zw,zo,zs,zz,zm,zr,zv,zy,zg,zn,zj,xg_UnknownName,xc_UnknownName,xr_UnknownName,xsa_UnknownName,xex_UnknownName,xty_UnknownName,xkc_UnknownName,xga_UnknownName,xgg_UnknownName,xhd_UnknownName,xha_UnknownName,xhn_UnknownName,xht_UnknownName,xhm_UnknownName,xf_UnknownName,xi_UnknownName,xt_UnknownName,xL_UnknownName,xC_UnknownName,xK_UnknownName,bq_UnknownName,bf_UnknownName⟩:=zaf
  obtain ⟨z0,z1,z2,z3,z4,z5,z6,z7,z8,z9,z10,z11,z12,z13,z14,z15,z16,z17,z18,z19,z20,z21,z22,z23,z24,z25,z26⟩:=B_z
  have e0:=hfa.symm.trans (W.mg_of X G q10)
  cases e0
  have hL_UnknownName:XLook K za:=⟨xsa_UnknownName,xex_UnknownName,xty_UnknownName,xkc_UnknownName,xga_UnknownName,xgg_UnknownName,xhd_UnknownName,xha_UnknownName,xhn_UnknownName,xht_UnknownName,xhm_UnknownName⟩
  have hX_UnknownName:XRow K mg "UnknownName" za "name":=xrow_mk X G (st:=(inS 1 0)) xbK xg_UnknownName (by decide+kernel) xc_UnknownName xr_UnknownName hL_UnknownName xf_UnknownName (binit_blt X G (by decide+kernel) (by decide+kernel) bq_UnknownName (by decide+kernel) (by decide+kernel) (by decide+kernel) (by decide+kernel) bf_UnknownName) xi_UnknownName xt_UnknownName xL_UnknownName xC_UnknownName xK_UnknownName (initB_ok (by decide+kernel)) fun _ _ _ _ _ _ us hl=>match us,hl with|[_,_],_=>rfl
  let zb:List (Str×Addr):=[]
  let zc:List (Str×Addr):=[(("worth":Str),a0),(("_law_pool":Str),a1),(("_law_draw":Str),a2),(("_law_pick":Str),a3),(("_law_term":Str),a4),(("_law_value":Str),a5),(("_law_inputs_of":Str),a6),(("_law_written":Str),a7),(("_law_reckoned":Str),a8),(("_law_refused":Str),a9),(("law":Str),fa)]
  let zd:List (Str×Addr×Str):=[("UnknownName",za,"name")]
  have hb: ∀ x∈blts,mg x=none:=fmc_ ⟨W.mg_none_of X G z0,fmc_ ⟨W.mg_none_of X G z1,fmc_ ⟨W.mg_none_of X G z2,fmc_ ⟨W.mg_none_of X G z3,fmc_ ⟨W.mg_none_of X G z4,fmc_ ⟨W.mg_none_of X G z5,fmc_ ⟨W.mg_none_of X G z6,fmc_ ⟨W.mg_none_of X G z7,fmc_ ⟨W.mg_none_of X G z8,fmc_ ⟨W.mg_none_of X G z9,fmc_ ⟨W.mg_none_of X G z10,fmc_ ⟨W.mg_none_of X G z11,fmc_ ⟨W.mg_none_of X G z12,fmc_ ⟨W.mg_none_of X G z13,fmc_ ⟨W.mg_none_of X G z14,fmc_ ⟨W.mg_none_of X G z15,fmc_ ⟨W.mg_none_of X G z16,fmc_ ⟨W.mg_none_of X G z17,fmc_ ⟨W.mg_none_of X G z18,fmc_ ⟨W.mg_none_of X G z19,fmc_ ⟨W.mg_none_of X G z20,fmc_ ⟨W.mg_none_of X G z21,fmc_ ⟨W.mg_none_of X G z22,fmc_ ⟨W.mg_none_of X G z23,fmc_ ⟨W.mg_none_of X G z24,fmc_ ⟨W.mg_none_of X G z25,fmc_ ⟨W.mg_none_of X G z26,fun _ h=>nomatch h⟩⟩⟩⟩⟩⟩⟩⟩⟩⟩⟩⟩⟩⟩⟩⟩⟩⟩⟩⟩⟩⟩⟩⟩⟩⟩⟩
  have hc: ∀ p∈cons,MgCon mg p.1 p.2:=fun _ h=>absurd h List.not_mem_nil
  have hcT: ∀ p∈cons,MgTup K mg p.1 p.2:=fun _ h=>absurd h List.not_mem_nil
  have gl:Glob (geOf K zb zc zd false w) mg pd:=glob_mk (h:=h) hb (con_all hc) (tup_all hcT)
    (fmc_ ⟨⟨za,by kernel_rfl⟩,fun _ h=>nomatch h⟩)
    (fmc_ ⟨hX_UnknownName,fun _ h=>nomatch h⟩)
    (fmc_ ⟨(fmc_ ⟨exm_mk hL_UnknownName zh (show decide (("UnknownName":Str)="UnknownName")=true by decide+kernel),fun _ h=>nomatch h⟩),fun _ h=>nomatch h⟩)
    (fun _ h=>absurd h List.not_mem_nil)
    (fun _ h=>absurd h List.not_mem_nil)
    (fun _ h=>absurd h List.not_mem_nil)
    (fun _ h=>absurd h List.not_mem_nil)
    (fun _ h=>absurd h List.not_mem_nil)
    (fun _ h=>absurd h List.not_mem_nil) (fmc_ ⟨(show (("worth":Str)∈names) by decide+kernel),fmc_ ⟨(show (("_law_pool":Str)∈names) by decide+kernel),fmc_ ⟨(show (("_law_draw":Str)∈names) by decide+kernel),fmc_ ⟨(show (("_law_pick":Str)∈names) by decide+kernel),fmc_ ⟨(show (("_law_term":Str)∈names) by decide+kernel),fmc_ ⟨(show (("_law_value":Str)∈names) by decide+kernel),fmc_ ⟨(show (("_law_inputs_of":Str)∈names) by decide+kernel),fmc_ ⟨(show (("_law_written":Str)∈names) by decide+kernel),fmc_ ⟨(show (("_law_reckoned":Str)∈names) by decide+kernel),fmc_ ⟨(show (("_law_refused":Str)∈names) by decide+kernel),fmc_ ⟨(show (("law":Str)∈names) by decide+kernel),fun _ h=>nomatch h⟩⟩⟩⟩⟩⟩⟩⟩⟩⟩⟩)
  have rows:Rows (geOf K zb zc zd false w) mg pd tab:={
    fns:=fmc_ ⟨⟨a0,_,_,by kernel_rfl,W.mg_of X G q0,k0,(DD0 l0 c0)⟩,fmc_ ⟨⟨a1,_,_,by kernel_rfl,W.mg_of X G q1,k1,(DD1 l1 c1)⟩,fmc_ ⟨⟨a2,_,_,by kernel_rfl,W.mg_of X G q2,k2,(DD2 l2 c2)⟩,fmc_ ⟨⟨a3,_,_,by kernel_rfl,W.mg_of X G q3,k3,(DD3 l3 c3)⟩,fmc_ ⟨⟨a4,_,_,by kernel_rfl,W.mg_of X G q4,k4,(DD4 l4 c4)⟩,fmc_ ⟨⟨a5,_,_,by kernel_rfl,W.mg_of X G q5,k5,(DD5 l5 c5)⟩,fmc_ ⟨⟨a6,_,_,by kernel_rfl,W.mg_of X G q6,k6,(DD6 l6 c6)⟩,fmc_ ⟨⟨a7,_,_,by kernel_rfl,W.mg_of X G q7,k7,(DD7 l7 c7)⟩,fmc_ ⟨⟨a8,_,_,by kernel_rfl,W.mg_of X G q8,k8,(DD8 l8 c8)⟩,fmc_ ⟨⟨a9,_,_,by kernel_rfl,W.mg_of X G q9,k9,(DD9 l9 c9)⟩,fmc_ ⟨⟨fa,_,_,by kernel_rfl,W.mg_of X G q10,k10,(DD10 l10 c10)⟩,fun _ h=>nomatch h⟩⟩⟩⟩⟩⟩⟩⟩⟩⟩⟩
    news:=fun _ h=>absurd h List.not_mem_nil
    mths:=fun c C m n hC hm hin=>(show ∀ p∈zb,∀ q∈mns,(p.1,q.1)∈allM→∃ a,Meth K p.2 q.1 a∧W.fnIn K a=true∧((∃ fd ps,DefAt (geOf K zb zc zd false w) pd tab (mkey p.1 q.1) a fd ps∧(mkey p.1 q.1,q.2+1,[])∈shp)∨∀ mf,tab (mkey p.1 q.1)=some mf→¬q.2+1+(rest mf (q.2+1)).length=mf.np) from fun _ h=>absurd h List.not_mem_nil) (c,C) (lookA_mem hC) (m,n) hm hin
    sts:=fun c m h=>(show ∀ p∈sts,∃ C sp a fd ps,GE.cls ((geOf K zb zc zd false w)) p.1=some C∧StM K C p.2 sp a∧W.keepIn K (.ref a)=true∧DefAt (geOf K zb zc zd false w) pd tab (mkey p.1 p.2) a fd ps from fun _ h=>absurd h List.not_mem_nil) (c,m) h}
  refine ⟨_,fun s v=>.of_eq rfl,fun base _ _=>fn_law (G:=(geOf K zb zc zd false w)) rfl (all_ok (P:=l.prog) (w:=w) (base:=base) rfl gl rows 19 "law" fa _ _ (DD10 l10 c10))⟩
set_option synthInstance.maxHeartbeats 0 in
set_option synthInstance.maxSize 100000 in
theorem says {l:W.OpenLaw} {w:World} {K:W.Frag} {h:Heap} {mg:Str→Option Value} {fa0:Addr} (X:K.In h) (G:h.Ns mainGlobals mg) (hfa:mg "law"=some (.ref fa0)) (c:SaysM okL fnL sfL K): ∃ fd:FuncData,(∀ (s:Shared) (v:Value),BindsTo s fd ⟨[v],[]⟩ [("_law_script",v)])∧∀ base:Heap,K.In base→base.Ns mainGlobals mg→FnG l.prog w K mg base (L2.CX l.prog w) 40 fa0 fd ["_law_script"] (spL K false (callN tab 19)):=
  all_mk X G hfa
    (hd_glo (c.df 0 rfl) (c.ck 0 rfl))
    (hd_glo (c.df 1 rfl) (c.ck 1 rfl))
    (hd_glo (c.df 2 rfl) (c.ck 2 rfl))
    (hd_glo (c.df 3 rfl) (c.ck 3 rfl))
    (hd_glo (c.df 4 rfl) (c.ck 4 rfl))
    (hd_glo (c.df 5 rfl) (c.ck 5 rfl))
    (hd_glo (c.df 6 rfl) (c.ck 6 rfl))
    (hd_glo (c.df 7 rfl) (c.ck 7 rfl))
    (hd_glo (c.df 8 rfl) (c.ck 8 rfl))
    (hd_glo (c.df 9 rfl) (c.ck 9 rfl))
    (hd_law (c.df 10 rfl) (c.ck 10 rfl))
    (hd_xb (c.df 11 rfl) (c.ck 11 rfl))
    (of_decide_eq_true (c.ck 12 rfl))
    (of_decide_eq_true (c.ck 13 rfl))
end K14
open PySem PySem.W PyProof.Rows
theorem PySem.Challenge.cw_valueshown_k14_values_of_terms_holds : PySem.Challenge.rw_valueshown_k14_values_of_terms.Holds := by
  w_on;o_law
  refine HandSHeadRun.head_any (r:=OpenLaw.row PySem.Challenge.rw_valueshown_k14_values_of_terms) (q:=view (OpenLaw.row PySem.Challenge.rw_valueshown_k14_values_of_terms).prog [14]) (H:=K14.hk) (ob:=K14.ob) (M:=20000) (loose:=K14.tnL) (d:=HandSHeadRun.topDef (OpenLaw.row PySem.Challenge.rw_valueshown_k14_values_of_terms).prog 14) (kwd:=[]) K14.ob_eq
    (by kernel_rfl) (fun s=>by kernel_rfl) K14.run (by kernel_rfl) (by kernel_rfl) (by kernel_rfl) (by rfl) (by first|assumption|decide+kernel) (by decide+kernel) ⟨rfl,rfl,rfl,rfl,rfl,by decide+kernel⟩ ?hw ?hc
  case hw=>w_witness2
  case hc=>
    refine Mi.walkGE (l:=PySem.Challenge.rw_valueshown_k14_values_of_terms) (n:=63) (k:=40) (x:="_law_script") (T:=fun w=>L2.CX PySem.Challenge.rw_valueshown_k14_values_of_terms.prog w) rfl (by decide) (by kernel_rfl) ⟨rfl,by decide,by decide⟩ ?F (fun _ _ _ _ _ h=>Mi.cx_no h)
    intro w mg fa h Y G hmg0
    obtain ⟨K,KX,c⟩:=Y
    have hmg:mg ("law":PySem.Str)=some (.ref fa):=by
      have e:(HandSHeadRun.topDef (OpenLaw.row PySem.Challenge.rw_valueshown_k14_values_of_terms).prog 14).name=("law":PySem.Str):=by kernel_rfl
      rw [←e]
      exact hmg0
    obtain ⟨fd,hb,hF⟩:=K14.says KX G hmg c (l:=PySem.Challenge.rw_valueshown_k14_values_of_terms) (w:=w)
    exact ⟨K,fd,Mi.spL K false (Mi.callN K14.tab 19),KX,hb,fun H a ns hl hS=>(K14.law_true ns hl).elim fun _ e=>Mi.spL_of hS e,hF⟩
