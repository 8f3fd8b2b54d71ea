import PyProof.Rows.All
import Wide.All
import OpenK.AllK
import Wide.FinOn
import PySem.Challenge.RW_valueshown_k03_sources_refused
import HandS.ForMost
import HandS.Flow
import HandS.ForExc
import HandS.CallSlots
import HandS.ExcInit
import HandS.ExcField
import HandS.ExcIs
import KE.KExcInit
import PyProof.Rows.FactsExc_KeyError
import HandS.IsInst
import HandS.Deep
import HandS.TupAny
import HandS.Style
import KE.GoesEnum
import KE.DataFind
import HandS.TupMul
import HandS.Defaults
set_option Elab.async false
set_option linter.all false
set_option maxRecDepth 100000
set_option maxHeartbeats 4000000
/-! Mi, part A: small values D (tuples, lists, dicts, instances by value), owned values O, and how they stand in the abstract heap of HandS. -/
namespace Mi
open PySem PySem.Spec PyProof.Rows L2

/-- data: what is frozen (never changed again), by value; loc n is the n-th cell -/
inductive D where
  | non | bl (b : Bool) | int (i : Int) | str (x : Str)
  | tup (xs : List D) | lst (xs : List D) | dic (ks : List Key) (xs : List D) | ins (c : Str) (fs : List Str) (xs : List D)
  | loc (n : Nat) | fn (f : Str)
  /-- the script: a list of ints that is only read -/
  | scr (ns : List Int)
  /-- a built-in type, a class of the program -/
  | ty (n : String) | cls (c : Str)
  /-- the exception that a suite handles: its class, its field -/
  | xn (c f : Str) (d : D)
  /-- a dict that is walked over: it stands as it is -/
  | lk (o : Obj) (kvs : List (Key × V))

/-- owned: a frozen datum, or a container that nobody else knows -/
inductive O where
  | fz (d : D) | lst (xs : List D) | dic (ks : List Key) (xs : List D) | ins (c : Str) (fs : List Str) (xs : List D)

def frz : O → D
  | .fz d => d
  | .lst xs => .lst xs
  | .dic ks xs => .dic ks xs
  | .ins c fs xs => .ins c fs xs

/-- what is fixed for a program: the written part, its classes and its defs by name -/
structure GE where
  K : PySem.W.Frag
  cls : Str → Option Addr
  fns : Str → Option Addr
  exc : Str → Option (Addr × Str)
  /-- whether all tuples are known to bear no dict -/
  bare : Bool
  /-- within a suite: the exception, its dict, its class -/
  cur : Option (Addr × Addr × Addr) := none

/-- a tuple that is read -/
def isTupO (G : GE) (vs : List V) : HO → Prop
  | .tup us => G.bare = false ∧ us = vs
  | .frz o (.tup us) => us = vs ∧ (G.bare = true → o.dict = none)
  | _ => False
def Tr (G : GE) (H : Hp) (M : List Addr) (a : Addr) (vs : List V) : Prop :=
  (∃ ho, H a = some ho ∧ isTupO G vs ho ∧ a ∉ M) ∨ ∃ o its n, List.lookup a G.K = some o ∧ o.cls = Value.type "tuple" ∧ o.data = Data.seq its n ∧ its.size ≤ sizeLine ∧ Vals vs its.toList ∧ (G.bare = true → o.dict = none)
theorem isTupO.rd {G : GE} {H : Hp} {a : Addr} {vs : List V} {ho : HO} (h : H a = some ho) (t : isTupO G vs ho) : Rd H a (.tup vs) := by
  unfold isTupO at t
  split at t
  · obtain ⟨_, e⟩ := t; subst e; exact .inl h
  · obtain ⟨e, _⟩ := t; subst e; exact .inr ⟨_, h⟩
  · exact t.elim
theorem isTupO.nmut {G : GE} {vs : List V} {ho : HO} (t : isTupO G vs ho) : ¬ Mut (some ho) := by
  unfold isTupO at t
  split at t
  · exact fun z => z
  · exact fun z => z
  · exact t.elim

/-- a list of the written part or a locked one, that is read -/
def Lr (G : GE) (H : Hp) (M : List Addr) (a : Addr) (vs : List V) : Prop :=
  (Rd H a (.lst vs) ∧ a ∉ M) ∨ ∃ o its n, List.lookup a G.K = some o ∧ o.cls = Value.type "list" ∧ o.dict = none ∧ o.data = Data.seq its n ∧ its.size ≤ sizeLine ∧ Vals vs its.toList

mutual
def RepD (G : GE) (ρ : List Addr) (H : Hp) (M : List Addr) : D → V → Prop
  | .non, v => v = .non
  | .bl b, v => v = .bl b
  | .int i, v => v = .int i
  | .str x, v => v = .str x
  | .tup ds, v => ∃ a vs, v = .ref a ∧ Tr G H M a vs ∧ RepDs G ρ H M ds vs
  | .lst ds, v => ∃ a vs, v = .ref a ∧ H a = some (.lst vs) ∧ a ∉ M ∧ RepDs G ρ H M ds vs
  | .dic ks ds, v => ∃ a vs, v = .ref a ∧ Rd H a (.dK (ks.zip vs)) ∧ ks.length = vs.length ∧ a ∉ M ∧ RepDs G ρ H M ds vs
  | .ins c fs ds, v => ∃ a C dx vs, v = .ref a ∧ G.cls c = some C ∧ H a = some (.ins C dx (fs.zip vs)) ∧ fs.length = vs.length ∧ a ∉ M ∧ RepDs G ρ H M ds vs
  | .loc n, v => ∃ a, v = .ref a ∧ ρ[n]? = some a
  | .fn f, v => ∃ a, v = .ref a ∧ G.fns f = some a
  | .scr ns, v => ∃ a, v = .ref a ∧ Lr G H M a (ns.map V.int)
  | .ty n, v => v = .ty n
  | .cls c, v => ∃ C, v = .ref C ∧ G.cls c = some C
  | .lk o kvs, v => ∃ a, v = .ref a ∧ H a = some (.frz o (.dK kvs)) ∧ a ∉ M
  | .xn c f d, v => ∃ a a' C v', G.cur = some (a, a', C) ∧ v = .ref a ∧ G.exc c = some (C, f) ∧ H a' = some (.xd [(f, v')]) ∧ a' ∉ M ∧ RepD G ρ H M d v'
def RepDs (G : GE) (ρ : List Addr) (H : Hp) (M : List Addr) : List D → List V → Prop
  | [], vs => vs = []
  | d :: ds, vs => ∃ v r, vs = v :: r ∧ RepD G ρ H M d v ∧ RepDs G ρ H M ds r
end

/-- owned: the value, its own address -/
def Own (G : GE) (ρ : List Addr) (H : Hp) (M : List Addr) : O → V → List Addr → Prop
  | .fz d, v, F => RepD G ρ H M d v ∧ F = []
  | .lst ds, v, F => ∃ a vs, v = .ref a ∧ H a = some (.lst vs) ∧ RepDs G ρ H M ds vs ∧ F = [a]
  | .dic ks ds, v, F => ∃ a vs, v = .ref a ∧ H a = some (.dK (ks.zip vs)) ∧ ks.length = vs.length ∧ RepDs G ρ H M ds vs ∧ F = [a]
  | .ins c fs ds, v, F => ∃ a C dx vs, v = .ref a ∧ G.cls c = some C ∧ H a = some (.ins C dx (fs.zip vs)) ∧ fs.length = vs.length ∧ RepDs G ρ H M ds vs ∧ F = [a]
def Owns (G : GE) (ρ : List Addr) (H : Hp) (M : List Addr) : List (O × V) → List Addr → Prop
  | [], F => F = []
  | p :: ps, F => ∃ A B, F = A ++ B ∧ Own G ρ H M p.1 p.2 A ∧ Owns G ρ H M ps B

/-- the configuration: the cells h, and all values that are at hand -/
def Cf (G : GE) (H : Hp) (h : List O) (L : List (O × V)) : Prop :=
  ∃ ρ M, ρ.length = h.length ∧ Owns G ρ H M (h.zip (ρ.map V.ref) ++ L) M ∧ M.Nodup

/-! ### how it stays -/
section
variable {G : GE} {ρ ρ' : List Addr} {H H' : Hp} {M M' : List Addr}

theorem Tr.stay {a : Addr} {vs : List V} (t : Tr G H M a vs) (hk : ∀ b o, H b = some o → b ∉ M → H' b = some o) (hm : ∀ b ∈ M', b ∈ M ∨ H b = none) : Tr G H' M' a vs := by
  rcases t with ⟨ho, r, i, n⟩ | t
  · refine .inl ⟨ho, hk _ _ r n, i, fun z => ?_⟩
    rcases hm a z with z | z
    · exact n z
    · rw [r] at z; cases z
  · exact .inr t

theorem Rd.stay {a : Addr} {u : HO} (r : Rd H a u) (n : a ∉ M) (hk : ∀ b o, H b = some o → b ∉ M → H' b = some o) (hm : ∀ b ∈ M', b ∈ M ∨ H b = none) : Rd H' a u ∧ a ∉ M' := by
  refine ⟨?_, fun z => ?_⟩
  · rcases r with r | ⟨o, r⟩
    · exact .inl (hk _ _ r n)
    · exact .inr ⟨o, hk _ _ r n⟩
  · rcases hm a z with z | z
    · exact n z
    · rcases r with r | ⟨o, r⟩ <;> (rw [r] at z; cases z)

variable (hρ : ∀ (n : Nat) a, ρ[n]? = some a → ρ'[n]? = some a) (hk : ∀ b o, H b = some o → b ∉ M → H' b = some o) (hm : ∀ b ∈ M', b ∈ M ∨ H b = none)
include hρ hk hm
mutual
theorem RepD.stay : ∀ (d : D) (v : V), RepD G ρ H M d v → RepD G ρ' H' M' d v
  | .non, v, h => h
  | .bl b, v, h => h
  | .int i, v, h => h
  | .str x, v, h => h
  | .tup ds, v, h => by
    obtain ⟨a, vs, e, t, r⟩ := h
    exact ⟨a, vs, e, t.stay hk hm, RepDs.stay ds vs r⟩
  | .lst ds, v, h => by
    obtain ⟨a, vs, e, t, n, r⟩ := h
    exact ⟨a, vs, e, hk _ _ t n, (Rd.stay (.inl t) n hk hm).2, RepDs.stay ds vs r⟩
  | .dic ks ds, v, h => by
    obtain ⟨a, vs, e, t, l, n, r⟩ := h
    exact ⟨a, vs, e, (Rd.stay t n hk hm).1, l, (Rd.stay t n hk hm).2, RepDs.stay ds vs r⟩
  | .ins c fs ds, v, h => by
    obtain ⟨a, C, dx, vs, e, g, t, l, n, r⟩ := h
    exact ⟨a, C, dx, vs, e, g, hk _ _ t n, l, (Rd.stay (.inl t) n hk hm).2, RepDs.stay ds vs r⟩
  | .loc n, v, h => by
    obtain ⟨a, e, r⟩ := h
    exact ⟨a, e, hρ _ _ r⟩
  | .fn f, v, h => h
  | .scr ns, v, h => by
    obtain ⟨a, e, t | t⟩ := h
    · exact ⟨a, e, .inl ⟨(Rd.stay t.1 t.2 hk hm).1, (Rd.stay t.1 t.2 hk hm).2⟩⟩
    · exact ⟨a, e, .inr t⟩
  | .ty n, v, h => h
  | .cls c, v, h => h
  | .lk o kvs, v, h => by
    obtain ⟨a, e, t, n⟩ := h
    exact ⟨a, e, hk _ _ t n, (Rd.stay (.inl t) n hk hm).2⟩
  | .xn c f d, v, h => by
    obtain ⟨a, a', C, v', e1, e2, e3, t, n, r⟩ := h
    exact ⟨a, a', C, v', e1, e2, e3, hk _ _ t n, (Rd.stay (.inl t) n hk hm).2, RepD.stay d v' r⟩
theorem RepDs.stay : ∀ (ds : List D) (vs : List V), RepDs G ρ H M ds vs → RepDs G ρ' H' M' ds vs
  | [], vs, h => h
  | d :: ds, vs, h => by
    obtain ⟨v, r, e, h1, h2⟩ := h
    exact ⟨v, r, e, RepD.stay d v h1, RepDs.stay ds r h2⟩
end

/-- owned things stay whose own address is not touched -/
theorem Own.stay {o : O} {v : V} {F : List Addr} (h : Own G ρ H M o v F) (hF : ∀ b ∈ F, ∀ x, H b = some x → H' b = some x) : Own G ρ' H' M' o v F := by
  cases o with
  | fz d => exact ⟨RepD.stay hρ hk hm d v h.1, h.2⟩
  | lst ds =>
    obtain ⟨a, vs, e, t, r, f⟩ := h
    exact ⟨a, vs, e, hF a (by rw [f]; simp) _ t, RepDs.stay hρ hk hm ds vs r, f⟩
  | dic ks ds =>
    obtain ⟨a, vs, e, t, l, r, f⟩ := h
    exact ⟨a, vs, e, hF a (by rw [f]; simp) _ t, l, RepDs.stay hρ hk hm ds vs r, f⟩
  | ins c fs ds =>
    obtain ⟨a, C, dx, vs, e, g, t, l, r, f⟩ := h
    exact ⟨a, C, dx, vs, e, g, hF a (by rw [f]; simp) _ t, l, RepDs.stay hρ hk hm ds vs r, f⟩
theorem Owns.stay : ∀ {L : List (O × V)} {F : List Addr}, Owns G ρ H M L F → (∀ b ∈ F, ∀ x, H b = some x → H' b = some x) → Owns G ρ' H' M' L F
  | [], F, h, _ => h
  | p :: ps, F, h, hF => by
    obtain ⟨A, B, e, h1, h2⟩ := h
    subst e
    exact ⟨A, B, rfl, h1.stay hρ hk hm fun b hb => hF b (List.mem_append_left _ hb), Owns.stay h2 fun b hb => hF b (List.mem_append_right _ hb)⟩
end

section
variable {G : GE} {ρ : List Addr} {H : Hp} {M : List Addr}
theorem RepDs.length : ∀ {ds : List D} {vs : List V}, RepDs G ρ H M ds vs → ds.length = vs.length
  | [], vs, h => by rw [show vs = [] from h]; rfl
  | d :: ds, vs, h => by
    obtain ⟨v, r, e, h1, h2⟩ := h
    rw [e, List.length_cons, List.length_cons, RepDs.length h2]
theorem RepDs.get : ∀ {ds : List D} {vs : List V} {i : Nat} {d : D}, RepDs G ρ H M ds vs → ds[i]? = some d → ∃ v, vs[i]? = some v ∧ RepD G ρ H M d v
  | [], vs, i, d, h, e => by simp at e
  | d :: ds, vs, 0, d', h, e => by
    obtain ⟨v, r, e1, h1, h2⟩ := h
    simp at e; subst e; subst e1
    exact ⟨v, rfl, h1⟩
  | d :: ds, vs, i + 1, d', h, e => by
    obtain ⟨v, r, e1, h1, h2⟩ := h
    subst e1
    obtain ⟨w, hw, q⟩ := RepDs.get (i := i) h2 (by simpa using e)
    exact ⟨w, by simpa using hw, q⟩
theorem RepDs.append : ∀ {ds es : List D} {vs us : List V}, RepDs G ρ H M ds vs → RepDs G ρ H M es us → RepDs G ρ H M (ds ++ es) (vs ++ us)
  | [], es, vs, us, h, q => by rw [show vs = [] from h]; exact q
  | d :: ds, es, vs, us, h, q => by
    obtain ⟨v, r, e, h1, h2⟩ := h
    subst e
    exact ⟨v, r ++ us, rfl, h1, RepDs.append h2 q⟩
theorem RepDs.take : ∀ {ds : List D} {vs : List V} (n : Nat), RepDs G ρ H M ds vs → RepDs G ρ H M (ds.take n) (vs.take n)
  | _, _, 0, _ => by rw [List.take_zero, List.take_zero]; rfl
  | [], vs, n + 1, h => by rw [show vs = [] from h]; rfl
  | d :: ds, vs, n + 1, h => by
    obtain ⟨v, r, e, h1, h2⟩ := h
    subst e
    exact ⟨v, r.take n, rfl, h1, RepDs.take n h2⟩
theorem RepDs.drop : ∀ {ds : List D} {vs : List V} (n : Nat), RepDs G ρ H M ds vs → RepDs G ρ H M (ds.drop n) (vs.drop n)
  | _, _, 0, h => h
  | [], vs, n + 1, h => by rw [show vs = [] from h]; rfl
  | d :: ds, vs, n + 1, h => by
    obtain ⟨v, r, e, h1, h2⟩ := h
    subst e
    exact RepDs.drop n h2
theorem RepDs.one {d : D} {v : V} (h : RepD G ρ H M d v) : RepDs G ρ H M [d] [v] := ⟨v, [], rfl, h, rfl⟩
theorem RepDs.set : ∀ {ds : List D} {vs : List V} {d : D} {v : V} (i : Nat), RepDs G ρ H M ds vs → RepD G ρ H M d v → RepDs G ρ H M (ds.set i d) (vs.set i v)
  | [], vs, d, v, i, h, q => by rw [show vs = [] from h]; rfl
  | d0 :: ds, vs, d, v, 0, h, q => by
    obtain ⟨w, r, e, h1, h2⟩ := h
    subst e
    exact ⟨v, r, rfl, q, h2⟩
  | d0 :: ds, vs, d, v, i + 1, h, q => by
    obtain ⟨w, r, e, h1, h2⟩ := h
    subst e
    exact ⟨w, r.set i v, rfl, h1, RepDs.set i h2 q⟩
theorem RepDs.reverse : ∀ {ds : List D} {vs : List V}, RepDs G ρ H M ds vs → RepDs G ρ H M ds.reverse vs.reverse
  | [], vs, h => by rw [show vs = [] from h]; rfl
  | d :: ds, vs, h => by
    obtain ⟨v, r, e, h1, h2⟩ := h
    subst e
    rw [List.reverse_cons, List.reverse_cons]
    exact (RepDs.reverse h2).append (.one h1)
theorem RepDs.of : ∀ {ds : List D} {vs : List V}, ds.length = vs.length → (∀ (i : Nat) d v, ds[i]? = some d → vs[i]? = some v → RepD G ρ H M d v) → RepDs G ρ H M ds vs
  | [], [], _, _ => rfl
  | d :: ds, v :: vs, l, h => ⟨v, vs, rfl, h 0 d v rfl rfl, RepDs.of (by simpa using l) fun i d' v' h1 h2 => h (i + 1) d' v' (by simpa using h1) (by simpa using h2)⟩
  | [], _ :: _, l, _ => by simp at l
  | _ :: _, [], l, _ => by simp at l
theorem RepDs.flatten_rep : ∀ {ds : List D} {vs : List V} (n : Nat), RepDs G ρ H M ds vs → RepDs G ρ H M (List.replicate n ds).flatten (List.replicate n vs).flatten
  | _, _, 0, _ => rfl
  | ds, vs, n + 1, h => by
    rw [List.replicate_succ, List.replicate_succ, List.flatten_cons, List.flatten_cons]
    exact h.append (RepDs.flatten_rep n h)

theorem Owns.append : ∀ {L L' : List (O × V)} {F F' : List Addr}, Owns G ρ H M L F → Owns G ρ H M L' F' → Owns G ρ H M (L ++ L') (F ++ F')
  | [], L', F, F', h, q => by rw [show F = [] from h]; exact q
  | p :: ps, L', F, F', h, q => by
    obtain ⟨A, B, e, h1, h2⟩ := h
    subst e
    exact ⟨A, B ++ F', by rw [List.append_assoc], h1, Owns.append h2 q⟩
theorem Owns.split : ∀ {L L' : List (O × V)} {F : List Addr}, Owns G ρ H M (L ++ L') F → ∃ A B, F = A ++ B ∧ Owns G ρ H M L A ∧ Owns G ρ H M L' B
  | [], L', F, h => ⟨[], F, rfl, rfl, h⟩
  | p :: ps, L', F, h => by
    obtain ⟨A, B, e, h1, h2⟩ := h
    obtain ⟨A', B', e', h3, h4⟩ := Owns.split h2
    subst e; subst e'
    exact ⟨A ++ A', B', by rw [List.append_assoc], ⟨A, A', rfl, h1, h3⟩, h4⟩
/-- every owned address is tracked -/
theorem Own.live {o : O} {v : V} {F : List Addr} (h : Own G ρ H M o v F) : ∀ b ∈ F, ∃ x, H b = some x := by
  cases o with
  | fz d => rw [h.2]; intro b hb; simp at hb
  | lst ds => obtain ⟨a, vs, e, t, r, f⟩ := h; rw [f]; intro b hb; simp at hb; subst hb; exact ⟨_, t⟩
  | dic ks ds => obtain ⟨a, vs, e, t, l, r, f⟩ := h; rw [f]; intro b hb; simp at hb; subst hb; exact ⟨_, t⟩
  | ins c fs ds => obtain ⟨a, C, dx, vs, e, g, t, l, r, f⟩ := h; rw [f]; intro b hb; simp at hb; subst hb; exact ⟨_, t⟩
theorem Owns.live : ∀ {L : List (O × V)} {F : List Addr}, Owns G ρ H M L F → ∀ b ∈ F, ∃ x, H b = some x
  | [], F, h, b, hb => by rw [show F = [] from h] at hb; simp at hb
  | p :: ps, F, h, b, hb => by
    obtain ⟨A, B, e, h1, h2⟩ := h
    subst e
    rcases List.mem_append.mp hb with hb | hb
    · exact h1.live b hb
    · exact Owns.live h2 b hb
/-- the avoided set may shrink to what is owned still -/
theorem Owns.perm : ∀ {L L' : List (O × V)} {F : List Addr}, L.Perm L' → Owns G ρ H M L F → ∃ F', F.Perm F' ∧ Owns G ρ H M L' F' := by
  intro L L' F p
  induction p generalizing F with
  | nil => intro h; exact ⟨F, .refl _, h⟩
  | cons x _ ih =>
    intro h
    obtain ⟨A, B, e, h1, h2⟩ := h
    obtain ⟨B', p', h3⟩ := ih h2
    subst e
    exact ⟨A ++ B', p'.append_left A, A, B', rfl, h1, h3⟩
  | swap x y l =>
    intro h
    obtain ⟨A, B, e, h1, A', B', e', h2, h3⟩ := h
    subst e; subst e'
    refine ⟨A' ++ (A ++ B'), ?_, A', A ++ B', rfl, h2, A, B', rfl, h1, h3⟩
    rw [← List.append_assoc, ← List.append_assoc]
    exact (List.perm_append_comm).append_right B'
  | trans _ _ ih1 ih2 =>
    intro h
    obtain ⟨F1, p1, h1⟩ := ih1 h
    obtain ⟨F2, p2, h2⟩ := ih2 h1
    exact ⟨F2, p1.trans p2, h2⟩
end

/-! ### the configuration -/
/-- frozen values at hand -/
def Fz (ds : List D) (vs : List V) : List (O × V) := List.zipWith (fun d v => (O.fz d, v)) ds vs
section
variable {G : GE} {H : Hp} {h : List O} {L L' : List (O × V)}

theorem Owns.fz {ρ : List Addr} {M : List Addr} : ∀ {ds : List D} {vs : List V} {L : List (O × V)} {F : List Addr}, ds.length = vs.length → (Owns G ρ H M (Fz ds vs ++ L) F ↔ RepDs G ρ H M ds vs ∧ Owns G ρ H M L F)
  | [], [], L, F, _ => ⟨fun q => ⟨rfl, q⟩, fun q => q.2⟩
  | d :: ds, v :: vs, L, F, l => by
    have ih := Owns.fz (ρ := ρ) (M := M) (ds := ds) (vs := vs) (L := L) (F := F) (by simpa using l)
    constructor
    · rintro ⟨A, B, e, ⟨h1, eA⟩, h2⟩
      subst eA; subst e
      obtain ⟨r, q⟩ := Owns.fz (by simpa using l) |>.mp h2
      exact ⟨⟨v, vs, rfl, h1, r⟩, q⟩
    · rintro ⟨⟨v', r', e, h1, h2⟩, q⟩
      injection e with e1 e2
      subst e1; subst e2
      exact ⟨[], F, rfl, ⟨h1, rfl⟩, ih.mpr ⟨h2, q⟩⟩
  | [], _ :: _, _, _, l => by simp at l
  | _ :: _, [], _, _, l => by simp at l

/-- the parts of a configuration -/
def Cp (G : GE) (ρ : List Addr) (H : Hp) (M : List Addr) (h : List O) (L : List (O × V)) : Prop :=
  ρ.length = h.length ∧ Owns G ρ H M (h.zip (ρ.map V.ref) ++ L) M ∧ M.Nodup
theorem cells_lt {ρ : List Addr} {H : Hp} {M : List Addr} {h : List O} {L : List (O × V)} (c : Cp G ρ H M h L) : ρ.length = h.length := c.1

theorem Cf.perm (p : L.Perm L') (c : Cf G H h L) : Cf G H h L' := by
  obtain ⟨ρ, M, l, o, n⟩ := c
  obtain ⟨M', pm, o'⟩ := Owns.perm (List.Perm.append_left _ p) o
  refine ⟨ρ, M', l, o'.stay (fun _ _ q => q) (fun _ _ q _ => q) (fun b hb => .inl (pm.mem_iff.mpr hb)) (fun _ _ _ q => q), pm.nodup_iff.mp n⟩
theorem Cf.sub {ρ : List Addr} {M F : List Addr} {h : List O} (l : ρ.length = h.length) (o : Owns G ρ H M (h.zip (ρ.map V.ref) ++ L) F) (s : ∀ b ∈ F, b ∈ M) (n : F.Nodup) : Cf G H h L :=
  ⟨ρ, F, l, o.stay (fun _ _ q => q) (fun _ _ q _ => q) (fun b hb => .inl (s b hb)) (fun _ _ _ q => q), n⟩
/-- L as cells, then the rest: put p ahead -/
theorem Owns.ahead {ρ : List Addr} {M F : List Addr} {p : O × V} (o : Owns G ρ H M (h.zip (ρ.map V.ref) ++ p :: L) F) : ∃ A B, Own G ρ H M p.1 p.2 A ∧ Owns G ρ H M (h.zip (ρ.map V.ref) ++ L) B ∧ F.Perm (A ++ B) := by
  obtain ⟨A, B, e, h1, A', B', e', h2, h3⟩ := Owns.split o
  subst e; subst e'
  refine ⟨A', A ++ B', h2, h1.append h3, ?_⟩
  rw [← List.append_assoc, ← List.append_assoc]
  exact (List.perm_append_comm).append_right B'
theorem Owns.behind {ρ : List Addr} {M A B : List Addr} {p : O × V} (o1 : Own G ρ H M p.1 p.2 A) (o2 : Owns G ρ H M (h.zip (ρ.map V.ref) ++ L) B) : ∃ F, Owns G ρ H M (h.zip (ρ.map V.ref) ++ p :: L) F ∧ F.Perm (A ++ B) := by
  obtain ⟨X, Y, e, h1, h2⟩ := Owns.split o2
  subst e
  refine ⟨X ++ (A ++ Y), h1.append ⟨A, Y, rfl, o1, h2⟩, ?_⟩
  rw [← List.append_assoc, ← List.append_assoc]
  exact (List.perm_append_comm).append_right Y
theorem Cf.drop {p : O × V} (c : Cf G H h (p :: L)) : Cf G H h L := by
  obtain ⟨ρ, M, l, o, n⟩ := c
  obtain ⟨A, B, o1, o2, pm⟩ := o.ahead
  exact Cf.sub l o2 (fun b hb => pm.mem_iff.mpr (List.mem_append_right _ hb)) ((pm.nodup_iff.mp n).sublist (List.sublist_append_right _ _))
theorem Cf.dropN : ∀ {K L : List (O × V)}, Cf G H h (K ++ L) → Cf G H h L
  | [], _, c => c
  | _ :: K, _, c => Cf.dropN (K := K) c.drop
/-- frozen values at hand, opened and closed -/
theorem Cf.fz {ds : List D} {vs : List V} (l : ds.length = vs.length) : Cf G H h (Fz ds vs ++ L) ↔ ∃ ρ M, Cp G ρ H M h L ∧ RepDs G ρ H M ds vs := by
  constructor
  · intro c
    obtain ⟨ρ, M, lr, o, n⟩ := Cf.perm (L' := L ++ Fz ds vs) List.perm_append_comm c
    obtain ⟨M1, pm, o1⟩ := Owns.perm (L' := Fz ds vs ++ (h.zip (ρ.map V.ref) ++ L)) (by rw [← List.append_assoc]; exact List.perm_append_comm) o
    obtain ⟨r, o2⟩ := (Owns.fz l).mp o1
    refine ⟨ρ, M1, ⟨lr, o2.stay (fun _ _ q => q) (fun _ _ q _ => q) (fun b hb => .inl (pm.mem_iff.mpr hb)) (fun _ _ _ q => q), pm.nodup_iff.mp n⟩, RepDs.stay (fun _ _ q => q) (fun _ _ q _ => q) (fun b hb => .inl (pm.mem_iff.mpr hb)) _ _ r⟩
  · rintro ⟨ρ, M, ⟨lr, o, n⟩, r⟩
    have o1 := (Owns.fz l).mpr ⟨r, o⟩
    obtain ⟨M1, pm, o2⟩ := Owns.perm (L' := h.zip (ρ.map V.ref) ++ (Fz ds vs ++ L)) (by rw [← List.append_assoc, ← List.append_assoc]; exact List.perm_append_comm.append_right L) o1
    exact Cf.sub lr o2 (fun b hb => pm.mem_iff.mpr hb) (pm.nodup_iff.mp n)
theorem Cf.fz1 {d : D} {v : V} : Cf G H h ((.fz d, v) :: L) ↔ ∃ ρ M, Cp G ρ H M h L ∧ RepD G ρ H M d v := by
  have := Cf.fz (G := G) (H := H) (h := h) (L := L) (ds := [d]) (vs := [v]) rfl
  constructor
  · intro c
    obtain ⟨ρ, M, cp, r⟩ := this.mp c
    obtain ⟨v', r', e, h1, h2⟩ := r
    injection e with e1 e2
    subst e1
    exact ⟨ρ, M, cp, h1⟩
  · rintro ⟨ρ, M, cp, r⟩
    exact this.mpr ⟨ρ, M, cp, .one r⟩
theorem Cp.cf {ρ M : List Addr} (c : Cp G ρ H M h L) : Cf G H h L := ⟨ρ, M, c⟩
/-- frozen values turned into others -/
theorem Cf.turn {ds ds' : List D} {vs vs' : List V} (l : ds.length = vs.length) (f : ∀ ρ M, RepDs G ρ H M ds vs → RepDs G ρ H M ds' vs') (c : Cf G H h (Fz ds vs ++ L)) : Cf G H h (Fz ds' vs' ++ L) := by
  obtain ⟨ρ, M, cp, r⟩ := (Cf.fz l).mp c
  exact (Cf.fz (f ρ M r).length).mpr ⟨ρ, M, cp, f ρ M r⟩
/-- what is owned is frozen -/
theorem Own.frz {ρ M B A : List Addr} {o : O} {v : V} (ow : Own G ρ H M o v A) (hs : ∀ b ∈ B, b ∈ M) (hd : ∀ b ∈ A, b ∉ B) : RepD G ρ H B (frz o) v := by
  have st : ∀ ds vs, RepDs G ρ H M ds vs → RepDs G ρ H B ds vs := fun ds vs r => RepDs.stay (fun _ _ q => q) (fun _ _ q _ => q) (fun b hb => .inl (hs b hb)) _ _ r
  cases o with
  | fz d => exact RepD.stay (fun _ _ q => q) (fun _ _ q _ => q) (fun b hb => .inl (hs b hb)) _ _ ow.1
  | lst ds => obtain ⟨a, vs, e, t, r, f⟩ := ow; exact ⟨a, vs, e, t, hd a (by rw [f]; simp), st _ _ r⟩
  | dic ks ds => obtain ⟨a, vs, e, t, l, r, f⟩ := ow; exact ⟨a, vs, e, .inl t, l, hd a (by rw [f]; simp), st _ _ r⟩
  | ins c fs ds => obtain ⟨a, C, dx, vs, e, g, t, l, r, f⟩ := ow; exact ⟨a, C, dx, vs, e, g, t, l, hd a (by rw [f]; simp), st _ _ r⟩
theorem Cf.frz {o : O} {v : V} (c : Cf G H h ((o, v) :: L)) : Cf G H h ((.fz (frz o), v) :: L) := by
  obtain ⟨ρ, M, l, ow, n⟩ := c
  obtain ⟨A, B, o1, o2, pm⟩ := ow.ahead
  have n2 := pm.nodup_iff.mp n
  have hs : ∀ b ∈ B, b ∈ M := fun b hb => pm.mem_iff.mpr (List.mem_append_right _ hb)
  refine Cf.fz1.mpr ⟨ρ, B, ⟨l, o2.stay (fun _ _ q => q) (fun _ _ q _ => q) (fun b hb => .inl (hs b hb)) (fun _ _ _ q => q), (n2.sublist (List.sublist_append_right _ _))⟩, ?_⟩
  exact o1.frz hs fun b hb hb' => (List.nodup_append.mp n2).2.2 b hb b hb' rfl
theorem Cf.dup {d : D} {v : V} (c : Cf G H h ((.fz d, v) :: L)) : Cf G H h ((.fz d, v) :: (.fz d, v) :: L) := by
  obtain ⟨ρ, M, cp, r⟩ := Cf.fz1.mp c
  exact (Cf.fz (ds := [d, d]) (vs := [v, v]) rfl).mpr ⟨ρ, M, cp, ⟨_, _, rfl, r, .one r⟩⟩

/-! ### something new at p, or something owned is changed at p -/
theorem Cp.alloc {ρ M : List Addr} {p : Addr} {o : HO} (c : Cp G ρ H M h L) (hp : H p = none) : Cp G ρ (upd H p o) M h L ∧ (∀ ds vs, RepDs G ρ H M ds vs → RepDs G ρ (upd H p o) (p :: M) ds vs) ∧ (∀ ds vs, RepDs G ρ H M ds vs → RepDs G ρ (upd H p o) M ds vs) ∧ p ∉ M := by
  obtain ⟨l, ow, n⟩ := c
  have hk : ∀ b x, H b = some x → b ∉ M → (upd H p o) b = some x := fun b x e _ => by rw [upd_ne (ne_of_none e hp)]; exact e
  refine ⟨⟨l, ow.stay (fun _ _ q => q) hk (fun b hb => .inl hb) (fun b _ x e => by rw [upd_ne (ne_of_none e hp)]; exact e), n⟩, fun ds vs r => RepDs.stay (fun _ _ q => q) hk (fun b hb => ?_) _ _ r, fun ds vs r => RepDs.stay (fun _ _ q => q) hk (fun b hb => .inl hb) _ _ r, fun hb => ?_⟩
  · rcases List.mem_cons.mp hb with e | hb
    · rw [e]; exact .inr hp
    · exact .inl hb
  · obtain ⟨x, e⟩ := ow.live p hb
    rw [hp] at e; cases e
theorem Cf.newTup {ds : List D} {vs : List V} {p : Addr} {ho : HO} (l : ds.length = vs.length) (c : Cf G H h (Fz ds vs ++ L)) (hp : H p = none) (ht : isTupO G vs ho) : Cf G (upd H p ho) h ((.fz (.tup ds), .ref p) :: L) := by
  obtain ⟨ρ, M, cp, r⟩ := (Cf.fz l).mp c
  obtain ⟨cp', _, r2, np⟩ := cp.alloc (o := ho) hp
  exact Cf.fz1.mpr ⟨ρ, M, cp', p, vs, rfl, .inl ⟨ho, upd_same, ht, np⟩, r2 _ _ r⟩
theorem Cf.newOwn {p : Addr} {ho : HO} {o : O} {ds : List D} {vs : List V} (l : ds.length = vs.length) (c : Cf G H h (Fz ds vs ++ L)) (hp : H p = none)
    (own : ∀ ρ M H', H' p = some ho → RepDs G ρ H' M ds vs → Own G ρ H' M o (.ref p) [p]) : Cf G (upd H p ho) h ((o, .ref p) :: L) := by
  obtain ⟨ρ, M, cp, r⟩ := (Cf.fz l).mp c
  obtain ⟨cp', r1, r2, np⟩ := cp.alloc (o := ho) hp
  have o1 : Own G ρ (upd H p ho) (p :: M) o (.ref p) [p] := own ρ _ _ upd_same (r1 _ _ r)
  have o2 : Owns G ρ (upd H p ho) (p :: M) (h.zip (ρ.map V.ref) ++ L) M := cp.2.1.stay (fun _ _ q => q) (fun b x e _ => by rw [upd_ne (ne_of_none e hp)]; exact e) (fun b hb => by
    rcases List.mem_cons.mp hb with e | hb
    · rw [e]; exact .inr hp
    · exact .inl hb) (fun b _ x e => by rw [upd_ne (ne_of_none e hp)]; exact e)
  obtain ⟨F, o3, pm⟩ := Owns.behind (p := (o, .ref p)) o1 o2
  exact Cf.sub cp.1 o3 (fun b hb => pm.mem_iff.mp hb) (pm.nodup_iff.mpr (List.nodup_cons.mpr ⟨np, cp.2.2⟩))
theorem Cf.newLst {ds : List D} {vs : List V} {p : Addr} (l : ds.length = vs.length) (c : Cf G H h (Fz ds vs ++ L)) (hp : H p = none) : Cf G (upd H p (.lst vs)) h ((.lst ds, .ref p) :: L) :=
  c.newOwn l hp fun ρ M H' e r => ⟨p, vs, rfl, e, r, rfl⟩
theorem Cf.newDic {ks : List Key} {ds : List D} {vs : List V} {p : Addr} (l : ds.length = vs.length) (lk : ks.length = vs.length) (c : Cf G H h (Fz ds vs ++ L)) (hp : H p = none) : Cf G (upd H p (.dK (ks.zip vs))) h ((.dic ks ds, .ref p) :: L) :=
  c.newOwn l hp fun ρ M H' e r => ⟨p, vs, rfl, e, lk, r, rfl⟩

/-- what is owned at p is changed -/
theorem Cf.change {p : Addr} {ho : HO} {o o' : O} {ds : List D} {vs : List V} (l : ds.length = vs.length) (c : Cf G H h ((o, .ref p) :: (Fz ds vs ++ L))) (hn : ∀ d, o ≠ .fz d)
    (own : ∀ ρ M H', H' p = some ho → RepDs G ρ H' M ds vs → Own G ρ H' M o' (.ref p) [p]) : Cf G (upd H p ho) h ((o', .ref p) :: L) := by
  have c2 : Cf G H h (Fz ds vs ++ (o, .ref p) :: L) := c.perm (by
    have : (o, V.ref p) :: (Fz ds vs ++ L) = [(o, V.ref p)] ++ (Fz ds vs ++ L) := rfl
    rw [this, ← List.append_assoc]
    have e2 : Fz ds vs ++ (o, V.ref p) :: L = (Fz ds vs ++ [(o, V.ref p)]) ++ L := by simp
    rw [e2]
    exact List.perm_append_comm.append_right L)
  obtain ⟨ρ, M, ⟨lr, ow, n⟩, r⟩ := (Cf.fz l).mp c2
  obtain ⟨A, B, o1, o2, pm⟩ := ow.ahead
  have hA : A = [p] := by
    cases o with
    | fz d => exact absurd rfl (hn d)
    | lst ds => obtain ⟨a, vs, e, t, r, f⟩ := o1; cases e; exact f
    | dic ks ds => obtain ⟨a, vs, e, t, l, r, f⟩ := o1; cases e; exact f
    | ins c fs ds => obtain ⟨a, C, dx, vs, e, g, t, l, r, f⟩ := o1; cases e; exact f
  subst hA
  have n2 := pm.nodup_iff.mp n
  have np : p ∉ B := (List.nodup_cons.mp n2).1
  have hpM : p ∈ M := pm.mem_iff.mpr (by simp)
  have hk : ∀ b x, H b = some x → b ∉ M → (upd H p ho) b = some x := fun b x e nb => by rw [upd_ne (fun z : b = p => nb (by rw [z]; exact hpM))]; exact e
  have hm : ∀ b ∈ p :: B, b ∈ M ∨ H b = none := fun b hb => .inl (pm.mem_iff.mpr (by simpa using hb))
  have q1 : Own G ρ (upd H p ho) (p :: B) o' (.ref p) [p] := own ρ _ _ upd_same (RepDs.stay (fun _ _ q => q) hk hm _ _ r)
  have q2 : Owns G ρ (upd H p ho) (p :: B) (h.zip (ρ.map V.ref) ++ L) B := o2.stay (fun _ _ q => q) hk hm (fun b hb x e => by rw [upd_ne (fun z : b = p => np (by rw [← z]; exact hb))]; exact e)
  obtain ⟨F, q3, pm3⟩ := Owns.behind (p := (o', .ref p)) q1 q2
  exact Cf.sub lr q3 (fun b hb => by simpa using pm3.mem_iff.mp hb) (pm3.nodup_iff.mpr n2)
end
end Mi

set_option Elab.async false
set_option linter.all false
set_option maxRecDepth 100000
set_option maxHeartbeats 4000000
/-! Mi, part B: cells, and what stands in what. -/
namespace Mi
open PySem PySem.Spec PyProof.Rows L2
section
variable {G : GE} {H : Hp} {h : List O} {L L' : List (O × V)}

theorem zip_at : ∀ {h : List O} {ρ : List Addr} {n : Nat} {o : O} {a : Addr}, h[n]? = some o → ρ[n]? = some a →
    ∃ X Y, h.zip (ρ.map V.ref) = X ++ (o, .ref a) :: Y ∧ ∀ o', (h.set n o').zip (ρ.map V.ref) = X ++ (o', .ref a) :: Y
  | [], _, _, _, _, e, _ => by simp at e
  | _ :: _, [], _, _, _, _, e => by simp at e
  | o0 :: h, a0 :: ρ, 0, o, a, e1, e2 => by
    simp at e1 e2
    subst e1; subst e2
    exact ⟨[], h.zip (ρ.map V.ref), rfl, fun o' => rfl⟩
  | o0 :: h, a0 :: ρ, n + 1, o, a, e1, e2 => by
    obtain ⟨X, Y, q1, q2⟩ := zip_at (h := h) (ρ := ρ) (n := n) (o := o) (a := a) (by simpa using e1) (by simpa using e2)
    refine ⟨(o0, .ref a0) :: X, Y, ?_, fun o' => ?_⟩
    · simp [q1]
    · simp [q2]
/-- the n-th cell is at hand -/
theorem Cf.cell {n : Nat} {v : V} {o : O} (c : Cf G H h ((.fz (.loc n), v) :: L)) (hn : h[n]? = some o) : ∃ a, v = .ref a ∧ ∃ ρ M A, ρ[n]? = some a ∧ Cp G ρ H M h L ∧ Own G ρ H M o (.ref a) A := by
  obtain ⟨ρ, M, cp, a, e, hr⟩ := Cf.fz1.mp c
  refine ⟨a, e, ρ, M, ?_⟩
  obtain ⟨X, Y, q1, q2⟩ := zip_at hn hr
  have ow := cp.2.1
  rw [q1, List.append_assoc] at ow
  obtain ⟨A, B, _, _, A', B', _, h3, _⟩ := Owns.split ow
  exact ⟨A', hr, cp, h3⟩
theorem Cf.cellLst {n : Nat} {v : V} {ds : List D} (c : Cf G H h ((.fz (.loc n), v) :: L)) (hn : h[n]? = some (.lst ds)) : ∃ a vs, v = .ref a ∧ H a = some (.lst vs) ∧ ds.length = vs.length ∧ Cf G H h (Fz ds vs ++ (.fz (.loc n), v) :: L) := by
  obtain ⟨a, e, ρ, M, A, hr, cp, a', vs, e', t, r, f⟩ := c.cell hn
  cases e'
  refine ⟨a, vs, e, t, r.length, ?_⟩
  have := (Cf.fz (L := L) (ds := ds ++ [.loc n]) (vs := vs ++ [v]) (by simp [r.length])).mpr ⟨ρ, M, cp, r.append (.one (d := .loc n) ⟨a, e, hr⟩)⟩
  rw [Fz, List.zipWith_append r.length, List.append_assoc] at this
  exact this
/-- the n-th cell is changed -/
theorem Cf.putCell {n : Nat} {p : Addr} {ho : HO} {o o' : O} {ds : List D} {vs : List V} (l : ds.length = vs.length) (c : Cf G H h (Fz ds vs ++ (.fz (.loc n), .ref p) :: L)) (hn : h[n]? = some o) (hf : ∀ d, o ≠ .fz d)
    (own : ∀ ρ M H', H' p = some ho → RepDs G ρ H' M ds vs → Own G ρ H' M o' (.ref p) [p]) : Cf G (upd H p ho) (h.set n o') ((.fz (.loc n), .ref p) :: L) := by
  have c1 : Cf G H h (Fz (ds ++ [.loc n]) (vs ++ [.ref p]) ++ L) := by
    rw [Fz, List.zipWith_append l, List.append_assoc]
    exact c
  obtain ⟨ρ, M, cp, r⟩ := (Cf.fz (by simp [l])).mp c1
  obtain ⟨lr, ow, n0⟩ := cp
  have r1 : RepDs G ρ H M ds vs := by
    have := RepDs.take ds.length r
    rw [List.take_left, l, List.take_left] at this
    exact this
  obtain ⟨v', hv', a, e, hr⟩ := RepDs.get (i := ds.length) (d := .loc n) r (by simp)
  rw [l, List.getElem?_append_right (Nat.le_refl _)] at hv'
  simp at hv'
  subst hv'
  cases e
  obtain ⟨X, Y, q1, q2⟩ := zip_at hn hr
  rw [q1, List.append_assoc] at ow
  obtain ⟨A, B, eM, s1, A', B', eB, s2, s3⟩ := Owns.split ow
  have hA : A' = [p] := by
    cases o with
    | fz d => exact absurd rfl (hf d)
    | lst ds => obtain ⟨a, vs, e, t, r, f⟩ := s2; cases e; exact f
    | dic ks ds => obtain ⟨a, vs, e, t, l, r, f⟩ := s2; cases e; exact f
    | ins c fs ds => obtain ⟨a, C, dx, vs, e, g, t, l, r, f⟩ := s2; cases e; exact f
  subst hA; subst eB
  have hpM : p ∈ M := by rw [eM]; simp
  have n1 : (A ++ ([p] ++ B')).Nodup := by rw [← eM]; exact n0
  have hpA : p ∉ A := fun z => (List.nodup_append.mp n1).2.2 p z p (by simp) rfl
  have hpB : p ∉ B' := (List.nodup_cons.mp (List.nodup_append.mp n1).2.1).1
  have hk : ∀ b x, H b = some x → b ∉ M → (upd H p ho) b = some x := fun b x e nb => by rw [upd_ne (fun z : b = p => nb (by rw [z]; exact hpM))]; exact e
  have hm : ∀ b ∈ M, b ∈ M ∨ H b = none := fun b hb => .inl hb
  have t1 := s1.stay (H' := upd H p ho) (M' := M) (ρ' := ρ) (fun _ _ q => q) hk hm (fun b hb x e => by rw [upd_ne (fun z : b = p => hpA (by rw [← z]; exact hb))]; exact e)
  have t3 := s3.stay (H' := upd H p ho) (M' := M) (ρ' := ρ) (fun _ _ q => q) hk hm (fun b hb x e => by rw [upd_ne (fun z : b = p => hpB (by rw [← z]; exact hb))]; exact e)
  have t2 : Own G ρ (upd H p ho) M o' (.ref p) [p] := own ρ M _ upd_same (RepDs.stay (fun _ _ q => q) hk hm _ _ r1)
  refine Cf.fz1.mpr ⟨ρ, M, ⟨by rw [List.length_set]; exact lr, ?_, n0⟩, p, rfl, hr⟩
  rw [q2, List.append_assoc]
  have := t1.append (L' := (o', .ref p) :: (Y ++ L)) (F' := [p] ++ B') ⟨[p], B', rfl, t2, t3⟩
  rw [← eM] at this
  exact this
/-- an owned container becomes a new cell -/
theorem Cf.newCell {o : O} {v : V} (c : Cf G H h ((o, v) :: L)) (hf : ∀ d, o ≠ .fz d) : Cf G H (h ++ [o]) ((.fz (.loc h.length), v) :: L) := by
  obtain ⟨ρ, M, l, ow, n⟩ := c
  obtain ⟨A, B, e, s1, A', B', e', s2, s3⟩ := Owns.split ow
  have hA : ∃ p, v = .ref p := by
    cases o with
    | fz d => exact absurd rfl (hf d)
    | lst ds => obtain ⟨a, vs, e, t, r, f⟩ := s2; exact ⟨a, e⟩
    | dic ks ds => obtain ⟨a, vs, e, t, l, r, f⟩ := s2; exact ⟨a, e⟩
    | ins c fs ds => obtain ⟨a, C, dx, vs, e, g, t, l, r, f⟩ := s2; exact ⟨a, e⟩
  obtain ⟨p, ep⟩ := hA
  subst ep
  have hρ : ∀ (n : Nat) a, ρ[n]? = some a → (ρ ++ [p])[n]? = some a := fun n a q => by
    rw [List.getElem?_append_left (by
      rcases Nat.lt_or_ge n ρ.length with z | z
      · exact z
      · rw [List.getElem?_eq_none z] at q; cases q)]
    exact q
  have hk : ∀ b x, H b = some x → b ∉ M → H b = some x := fun _ _ q _ => q
  refine Cf.fz1.mpr ⟨ρ ++ [p], M, ⟨by simp [l], ?_, n⟩, p, rfl, by rw [← l]; simp⟩
  rw [List.map_append, List.zip_append (by simp [l]), List.append_assoc, e, e']
  have t1 := s1.stay (ρ' := ρ ++ [p]) (M' := M) hρ hk (fun b hb => .inl hb) (fun _ _ _ q => q)
  have t2 := s2.stay (ρ' := ρ ++ [p]) (M' := M) hρ hk (fun b hb => .inl hb) (fun _ _ _ q => q)
  have t3 := s3.stay (ρ' := ρ ++ [p]) (M' := M) hρ hk (fun b hb => .inl hb) (fun _ _ _ q => q)
  rw [e, e'] at t1 t2 t3
  exact t1.append ⟨A', B', rfl, t2, t3⟩

/-! ### what stands in what -/
theorem Fz_append {ds es : List D} {vs us : List V} (l : ds.length = vs.length) : Fz (ds ++ es) (vs ++ us) = Fz ds vs ++ Fz es us := by
  rw [Fz, List.zipWith_append l]; rfl
/-- a frozen value is known once more -/
theorem Cf.also {ds ds' : List D} {vs vs' : List V} (l : ds.length = vs.length) (f : ∀ ρ M, RepDs G ρ H M ds vs → RepDs G ρ H M ds' vs') (c : Cf G H h (Fz ds vs ++ L)) : ds'.length = vs'.length ∧ Cf G H h (Fz ds' vs' ++ (Fz ds vs ++ L)) := by
  have c2 := c
  obtain ⟨ρ, M, cp, r⟩ := (Cf.fz l).mp c2
  have l' := (f ρ M r).length
  refine ⟨l', ?_⟩
  rw [← List.append_assoc, ← Fz_append l']
  exact (Cf.fz (by simp [l, l'])).mpr ⟨ρ, M, cp, (f ρ M r).append r⟩
theorem Cf.lst {ds : List D} {v : V} (c : Cf G H h ((.lst ds, v) :: L)) : ∃ a vs, v = .ref a ∧ H a = some (.lst vs) ∧ ds.length = vs.length ∧ Cf G H h ((.lst ds, v) :: (Fz ds vs ++ L)) := by
  obtain ⟨ρ, M, l, ow, n⟩ := c
  obtain ⟨A, B, o1, o2, pm⟩ := ow.ahead
  obtain ⟨a, vs, e, t, r, f⟩ := o1
  refine ⟨a, vs, e, t, r.length, ?_⟩
  have c2 : Cf G H h (Fz ds vs ++ (.lst ds, v) :: L) := (Cf.fz r.length).mpr ⟨ρ, M, ⟨l, ow, n⟩, r⟩
  refine c2.perm ?_
  have e2 : Fz ds vs ++ (O.lst ds, v) :: L = (Fz ds vs ++ [(O.lst ds, v)]) ++ L := by simp
  rw [e2]
  exact List.perm_append_comm.append_right L
theorem Cf.lstF {ds : List D} {v : V} (c : Cf G H h ((.fz (.lst ds), v) :: L)) : ∃ a vs, v = .ref a ∧ H a = some (.lst vs) ∧ ds.length = vs.length ∧ Cf G H h (Fz ds vs ++ (.fz (.lst ds), v) :: L) := by
  obtain ⟨ρ, M, cp, a, vs, e, t, nm, r⟩ := Cf.fz1.mp c
  refine ⟨a, vs, e, t, r.length, ?_⟩
  have := (Cf.fz (L := L) (ds := ds ++ [.lst ds]) (vs := vs ++ [v]) (by simp [r.length])).mpr ⟨ρ, M, cp, r.append (.one (d := .lst ds) ⟨a, vs, e, t, nm, r⟩)⟩
  rw [Fz_append r.length, List.append_assoc] at this
  exact this
theorem Tr.sq {M : List Addr} {a : Addr} {vs : List V} (t : Tr G H M a vs) : SqT G.K H a vs := by
  rcases t with ⟨ho, t, i, n⟩ | ⟨o, its, n, t1, t2, t3, t4, t5, _⟩
  · exact .inl (isTupO.rd t i)
  · exact .inr ⟨o, its, n, t1, t2, t3, t4, t5⟩
theorem Cf.tupF {ds : List D} {v : V} (c : Cf G H h ((.fz (.tup ds), v) :: L)) : ∃ a vs, v = .ref a ∧ SqT G.K H a vs ∧ ds.length = vs.length ∧ Cf G H h (Fz ds vs ++ (.fz (.tup ds), v) :: L) := by
  obtain ⟨ρ, M, cp, a, vs, e, t, r⟩ := Cf.fz1.mp c
  refine ⟨a, vs, e, t.sq, r.length, ?_⟩
  have := (Cf.fz (L := L) (ds := ds ++ [.tup ds]) (vs := vs ++ [v]) (by simp [r.length])).mpr ⟨ρ, M, cp, r.append (.one (d := .tup ds) ⟨a, vs, e, t, r⟩)⟩
  rw [Fz_append r.length, List.append_assoc] at this
  exact this
/-- one of them -/
theorem Cf.get {ds : List D} {vs : List V} {i : Nat} {d : D} (l : ds.length = vs.length) (c : Cf G H h (Fz ds vs ++ L)) (e : ds[i]? = some d) : ∃ v, vs[i]? = some v ∧ Cf G H h ((.fz d, v) :: L) := by
  obtain ⟨ρ, M, cp, r⟩ := (Cf.fz l).mp c
  obtain ⟨v, hv, q⟩ := r.get e
  exact ⟨v, hv, Cf.fz1.mpr ⟨ρ, M, cp, q⟩⟩
theorem Cf.getK {ds : List D} {vs : List V} {i : Nat} {d : D} (l : ds.length = vs.length) (c : Cf G H h (Fz ds vs ++ L)) (e : ds[i]? = some d) : ∃ v, vs[i]? = some v ∧ Cf G H h ((.fz d, v) :: (Fz ds vs ++ L)) := by
  obtain ⟨ρ, M, cp, r⟩ := (Cf.fz l).mp c
  obtain ⟨v, hv, q⟩ := r.get e
  refine ⟨v, hv, (Cf.fz (L := L) (ds := d :: ds) (vs := v :: vs) (by simp [l])).mpr ⟨ρ, M, cp, ⟨v, vs, rfl, q, r⟩⟩⟩
theorem Cf.swap {p q : O × V} (c : Cf G H h (p :: q :: L)) : Cf G H h (q :: p :: L) := c.perm (.swap _ _ _)
theorem Cf.rot {K : List (O × V)} {p : O × V} (c : Cf G H h (p :: (K ++ L))) : Cf G H h (K ++ p :: L) := c.perm (by
  have e2 : K ++ p :: L = (K ++ [p]) ++ L := by simp
  rw [e2]
  exact (List.perm_append_comm (l₁ := [p]) (l₂ := K)).append_right L)
theorem Cf.unrot {K : List (O × V)} {p : O × V} (c : Cf G H h (K ++ p :: L)) : Cf G H h (p :: (K ++ L)) := c.perm (by
  have e2 : K ++ p :: L = (K ++ [p]) ++ L := by simp
  rw [e2]
  exact (List.perm_append_comm (l₁ := K) (l₂ := [p])).append_right L)
/-- simple values are known by what they are -/
theorem Cf.int {i : Int} {v : V} (c : Cf G H h ((.fz (.int i), v) :: L)) : v = .int i := by obtain ⟨ρ, M, cp, e⟩ := Cf.fz1.mp c; exact e
theorem Cf.bl {i : Bool} {v : V} (c : Cf G H h ((.fz (.bl i), v) :: L)) : v = .bl i := by obtain ⟨ρ, M, cp, e⟩ := Cf.fz1.mp c; exact e
theorem Cf.str {i : Str} {v : V} (c : Cf G H h ((.fz (.str i), v) :: L)) : v = .str i := by obtain ⟨ρ, M, cp, e⟩ := Cf.fz1.mp c; exact e
theorem Cf.non {v : V} (c : Cf G H h ((.fz .non, v) :: L)) : v = .non := by obtain ⟨ρ, M, cp, e⟩ := Cf.fz1.mp c; exact e
/-- a simple value may be put at hand -/
def simple : D → Option V
  | .non => some .non | .bl b => some (.bl b) | .int i => some (.int i) | .str x => some (.str x) | .ty n => some (.ty n) | _ => none
theorem Cf.simple {d : D} {v : V} (c : Cf G H h L) (e : simple d = some v) : Cf G H h ((.fz d, v) :: L) := by
  obtain ⟨ρ, M, cp⟩ := c
  refine Cf.fz1.mpr ⟨ρ, M, cp, ?_⟩
  cases d <;> simp [Mi.simple] at e <;> subst e <;> rfl
end
end Mi

set_option Elab.async false
set_option linter.all false
set_option maxRecDepth 100000
set_option maxHeartbeats 4000000
/-! Mi, part C: the state, what an expression and a block make of it, and how this is told in the layer. -/
namespace Mi
open PySem PySem.Spec PyProof.Rows L2

abbrev Sr := L2.St
structure S where
  σ : List (Option O)
  h : List O

inductive Out (α : Type) where
  | ok (a : α) (s : S)
  | exc (c : Str) (d : D) (s : S)
  | bad
inductive Res where
  | ok (o : O) (h : List O)
  | exc (c : Str) (d : D) (h : List O)
  | bad
inductive Fl where
  | nx (s : S) | rt (o : O) (s : S) | bk (s : S) | ct (s : S) | exc (c : Str) (d : D) (s : S) | bad
abbrev Call := Str → List D → List O → Res
/-- what an expression gives: a value, or the name in slot i as it stands there -/
inductive R where
  | own (o : O) | bor (i : Nat)
abbrev E := Call → S → Out R
abbrev B := Call → S → Out Bool
abbrev As := Call → S → Out (List D)
abbrev C := Call → S → Fl

def Out.bind {α β : Type} (x : Out α) (f : α → S → Out β) : Out β := match x with
  | .ok a s => f a s
  | .exc c d s => .exc c d s
  | .bad => .bad
def Out.flow {α : Type} (x : Out α) (f : α → S → Fl) : Fl := match x with
  | .ok a s => f a s
  | .exc c d s => .exc c d s
  | .bad => .bad
@[simp] theorem Out.bind_ok {α β : Type} (a : α) (s : S) (f : α → S → Out β) : (Out.ok a s).bind f = f a s := rfl
@[simp] theorem Out.bind_exc {α β : Type} (c : Str) (d : D) (s : S) (f : α → S → Out β) : (Out.exc c d s : Out α).bind f = .exc c d s := rfl
@[simp] theorem Out.bind_bad {α β : Type} (f : α → S → Out β) : (Out.bad : Out α).bind f = .bad := rfl
@[simp] theorem Out.flow_ok {α : Type} (a : α) (s : S) (f : α → S → Fl) : (Out.ok a s).flow f = f a s := rfl
@[simp] theorem Out.flow_exc {α : Type} (c : Str) (d : D) (s : S) (f : α → S → Fl) : (Out.exc c d s : Out α).flow f = .exc c d s := rfl
@[simp] theorem Out.flow_bad {α : Type} (f : α → S → Fl) : (Out.bad : Out α).flow f = .bad := rfl
def lift {α : Type} (s : S) : Option α → Out α
  | some a => .ok a s
  | none => .bad
@[simp] theorem lift_some {α : Type} (s : S) (a : α) : lift s (some a) = .ok a s := rfl
@[simp] theorem lift_none {α : Type} (s : S) : lift s (none : Option α) = .bad := rfl

/-! ### the slots -/
def slp : List (Option O) → Sr → List (O × V)
  | some o :: os, some v :: vs => (o, v) :: slp os vs
  | _ :: os, _ :: vs => slp os vs
  | _, _ => []
structure SlOk (σ : List (Option O)) (σr : Sr) : Prop where
  len : σ.length = σr.length
  at_ : ∀ (i : Nat) o, σ[i]? = some (some o) → ∃ v, σr[i]? = some (some v)
/-- the values among what is at hand -/
def ow : List (R × V) → List (O × V)
  | (.own o, v) :: r => (o, v) :: ow r
  | (.bor _, _) :: r => ow r
  | [] => []
/-- what is at hand in a frame -/
structure CfS (G : GE) (σr : Sr) (H : Hp) (s : S) (Φ : List (R × V)) : Prop where
  sl : SlOk s.σ σr
  bo : ∀ i v, (R.bor i, v) ∈ Φ → σr[i]? = some (some v)
  cf : Cf G H s.h (slp s.σ σr ++ ow Φ)

theorem slp_at : ∀ {σ : List (Option O)} {σr : Sr} {i : Nat} {o : O} {v : V}, σ[i]? = some (some o) → σr[i]? = some (some v) →
    ∃ X Y, slp σ σr = X ++ (o, v) :: Y ∧ (∀ o', slp (σ.set i (some o')) σr = X ++ (o', v) :: Y)
  | [], _, _, _, _, e, _ => by simp at e
  | _ :: _, [], _, _, _, _, e => by simp at e
  | a :: σ, b :: σr, 0, o, v, e1, e2 => by
    simp at e1 e2
    subst e1; subst e2
    exact ⟨[], slp σ σr, rfl, fun o' => rfl⟩
  | a :: σ, b :: σr, i + 1, o, v, e1, e2 => by
    obtain ⟨X, Y, q1, q2⟩ := slp_at (σ := σ) (σr := σr) (i := i) (o := o) (v := v) (by simpa using e1) (by simpa using e2)
    cases a with
    | none => exact ⟨X, Y, q1, fun o' => q2 o'⟩
    | some a =>
      cases b with
      | none => exact ⟨X, Y, q1, fun o' => q2 o'⟩
      | some b => exact ⟨(a, b) :: X, Y, by simp [slp, q1], fun o' => by simp [slp, q2]⟩
/-- a slot is written: what stood there is forgotten -/
theorem slp_set : ∀ {σ : List (Option O)} {σr : Sr} {i : Nat} {o : O} {v : V}, i < σ.length → i < σr.length →
    ∃ X Z Y, slp σ σr = X ++ (Z ++ Y) ∧ slp (σ.set i (some o)) (σr.set i (some v)) = X ++ (o, v) :: Y ∧ slp (σ.set i none) (σr.set i none) = X ++ Y
  | [], _, _, _, _, e, _ => by simp at e
  | _ :: _, [], _, _, _, _, e => by simp at e
  | a :: σ, b :: σr, 0, o, v, _, _ => by
    cases a with
    | none => exact ⟨[], [], slp σ σr, rfl, rfl, rfl⟩
    | some a =>
      cases b with
      | none => exact ⟨[], [], slp σ σr, rfl, rfl, rfl⟩
      | some b => exact ⟨[], [(a, b)], slp σ σr, rfl, rfl, rfl⟩
  | a :: σ, b :: σr, i + 1, o, v, e1, e2 => by
    obtain ⟨X, Z, Y, q1, q2, q3⟩ := slp_set (σ := σ) (σr := σr) (i := i) (o := o) (v := v) (by simpa using e1) (by simpa using e2)
    cases a with
    | none => exact ⟨X, Z, Y, q1, q2, q3⟩
    | some a =>
      cases b with
      | none => exact ⟨X, Z, Y, q1, q2, q3⟩
      | some b => exact ⟨(a, b) :: X, Z, Y, by simp [slp, q1], by simp [slp, q2], by simp [slp, q3]⟩

theorem ow_append : ∀ (Φ Ψ : List (R × V)), ow (Φ ++ Ψ) = ow Φ ++ ow Ψ
  | [], _ => rfl
  | (.own o, v) :: r, Ψ => by simp [ow, ow_append r Ψ]
  | (.bor i, v) :: r, Ψ => by simp [ow, ow_append r Ψ]
theorem ow_perm {Φ Ψ : List (R × V)} (p : Φ.Perm Ψ) : (ow Φ).Perm (ow Ψ) := by
  induction p with
  | nil => exact .refl _
  | cons x _ ih => cases x with | mk r v => cases r <;> simp [ow, ih]
  | swap x y l =>
    cases x with | mk r v => cases y with | mk r' v' => cases r <;> cases r' <;> simp [ow] ; exact .swap _ _ _
  | trans _ _ a b => exact a.trans b
/-- what a reader sees of a datum: a cell's contents -/
def deref (h : List O) : D → Option D
  | .loc n => (h[n]?).map frz
  | d => some d
def peek (s : S) : R → Option D
  | .own o => deref s.h (frz o)
  | .bor i => match s.σ[i]? with
    | some (some o) => deref s.h (frz o)
    | _ => none
/-- what is taken to be kept: frozen -/
def take (s : S) : R → Option (D × S)
  | .own o => some (frz o, s)
  | .bor i => match s.σ[i]? with
    | some (some o) => some (frz o, ⟨s.σ.set i (some (.fz (frz o))), s.h⟩)
    | _ => none
section
variable {G : GE} {σr : Sr} {H : Hp} {s : S} {Φ : List (R × V)}
/-- a rule about what is at hand, whatever else there is -/
theorem CfS.by_ {Φ' : List (R × V)} {H' : Hp} {h' : List O} (c : CfS G σr H s Φ) (hb : ∀ i v, (R.bor i, v) ∈ Φ' → (R.bor i, v) ∈ Φ) (f : ∀ L, Cf G H s.h (ow Φ ++ L) → Cf G H' h' (ow Φ' ++ L)) : CfS G σr H' ⟨s.σ, h'⟩ Φ' :=
  ⟨c.sl, fun i v q => c.bo i v (hb i v q), (f _ (c.cf.perm List.perm_append_comm)).perm List.perm_append_comm⟩
theorem CfS.perm {Φ' : List (R × V)} (p : Φ.Perm Φ') (c : CfS G σr H s Φ) : CfS G σr H s Φ' := ⟨c.sl, fun i v q => c.bo i v (p.mem_iff.mpr q), c.cf.perm ((ow_perm p).append_left _)⟩
theorem CfS.drop {p : R × V} (c : CfS G σr H s (p :: Φ)) : CfS G σr H s Φ := c.by_ (fun _ _ q => List.mem_cons_of_mem _ q) fun L q => by
  cases p with | mk r v => cases r with
    | own o => exact Cf.drop (p := (o, v)) q
    | bor i => exact q
theorem CfS.dropN : ∀ {K : List (R × V)}, CfS G σr H s (K ++ Φ) → CfS G σr H s Φ
  | [], c => c
  | _ :: K, c => CfS.dropN (K := K) c.drop
theorem CfS.swap {p q : R × V} (c : CfS G σr H s (p :: q :: Φ)) : CfS G σr H s (q :: p :: Φ) := c.perm (.swap _ _ _)
theorem CfS.frz {o : O} {v : V} (c : CfS G σr H s ((.own o, v) :: Φ)) : CfS G σr H s ((.own (.fz (frz o)), v) :: Φ) := c.by_ (fun _ _ q => by simpa using q) fun L q => Cf.frz q
/-- a name is read -/
theorem CfS.name {i : Nat} {o : O} (c : CfS G σr H s Φ) (e : s.σ[i]? = some (some o)) : ∃ v, σr[i]? = some (some v) ∧ CfS G σr H s ((.bor i, v) :: Φ) := by
  obtain ⟨v, ev⟩ := c.sl.at_ i o e
  refine ⟨v, ev, c.sl, fun j w q => ?_, c.cf⟩
  rcases List.mem_cons.mp q with q | q
  · injection q with q1 q2; injection q1 with q1; subst q1; subst q2; exact ev
  · exact c.bo j w q
/-- what is kept is frozen -/
theorem CfS.take {r : R} {v : V} {d : D} {s' : S} (c : CfS G σr H s ((r, v) :: Φ)) (e : take s r = some (d, s')) : CfS G σr H s' ((.own (.fz d), v) :: Φ) := by
  cases r with
  | own o =>
    simp only [Mi.take, Option.some.injEq, Prod.mk.injEq] at e
    obtain ⟨e1, e2⟩ := e
    subst e1; subst e2
    exact c.frz
  | bor i =>
    simp only [Mi.take] at e
    have ev : σr[i]? = some (some v) := c.bo i v (by simp)
    have cb := fun j w q => c.bo j w (List.mem_cons_of_mem _ q)
    have ok := c.sl
    have cf : Cf G H s.h (slp s.σ σr ++ ow Φ) := c.cf
    split at e
    · rename_i o eo
      simp only [Option.some.injEq, Prod.mk.injEq] at e
      obtain ⟨e1, e2⟩ := e
      subst e1; subst e2
      refine ⟨⟨by simp [ok.len], fun j o' q => ?_⟩, fun j w q => ?_, ?_⟩
      · by_cases hj : i = j
        · subst hj; exact ⟨v, ev⟩
        · exact ok.at_ j o' (by simpa [List.getElem?_set, hj] using q)
      · rcases List.mem_cons.mp q with q | q
        · cases q
        · exact cb j w q
      · obtain ⟨X, Y, q1, q2⟩ := slp_at eo ev
        show Cf G H s.h (slp (s.σ.set i _) σr ++ (O.fz (Mi.frz o), v) :: ow Φ)
        rw [q2]
        rw [q1] at cf
        have c1 : Cf G H s.h ((o, v) :: (X ++ Y ++ ow Φ)) := cf.perm (by simp)
        refine c1.frz.dup.perm ?_
        simp only [List.append_assoc, List.cons_append]
        refine List.Perm.trans (List.Perm.cons _ ?_) List.perm_middle.symm
        rw [← List.append_assoc, ← List.append_assoc]
        exact List.perm_middle.symm
    · cases e
end
end Mi

set_option Elab.async false
set_option linter.all false
set_option maxRecDepth 100000
set_option maxHeartbeats 4000000
/-! Mi, part V: own exceptions of one field whose __init__ calls that of their base, over any of four built-in bases. -/
namespace Mi
open PySem PySem.Spec PyProof.Rows L2
section
open Builtin Builtin.ObjectAttr

/-! ### the classes above -/
/-- own classes, then tl -/
def refsT (tl : List Value) : List Value → Bool
  | .ref _ :: r => refsT tl r
  | l => l == tl
theorem refsT_split {tl : List Value} : ∀ l : List Value, refsT tl l = true → (∃ c r, l = .ref c :: r ∧ refsT tl r = true) ∨ l = tl
  | .ref c :: r, e => .inl ⟨c, r, rfl, e⟩
  | [], e => .inr (by simpa [refsT] using e)
  | .none :: _, e => .inr (by simpa [refsT] using e)
  | .ellipsis :: _, e => .inr (by simpa [refsT] using e)
  | .notImplemented :: _, e => .inr (by simpa [refsT] using e)
  | .bool _ :: _, e => .inr (by simpa [refsT] using e)
  | .int _ _ :: _, e => .inr (by simpa [refsT] using e)
  | .float _ _ :: _, e => .inr (by simpa [refsT] using e)
  | .str _ _ :: _, e => .inr (by simpa [refsT] using e)
  | .bytes _ _ :: _, e => .inr (by simpa [refsT] using e)
  | .type _ :: _, e => .inr (by simpa [refsT] using e)
  | .builtin _ :: _, e => .inr (by simpa [refsT] using e)
theorem refsT_has {tl : List Value} (Y : String) : ∀ l : List Value, refsT tl l = true → l.contains (.type Y) = tl.contains (.type Y) := by
  intro l
  induction l with
  | nil =>
    intro e
    rcases refsT_split [] e with ⟨c, r, q, _⟩ | q
    · cases q
    · rw [← q]
  | cons a r ih =>
    intro e
    rcases refsT_split (a :: r) e with ⟨c, r', q, hr⟩ | q
    · cases q
      rw [List.contains_cons, ih hr]
      rfl
    · rw [q]
theorem refsT_pass {tl : List Value} (self : Value) (hp : refuseLoop self "__setattr__" tl = pure ()) : ∀ l : List Value, refsT tl l = true → refuseLoop self "__setattr__" l = pure () := by
  intro l
  induction l with
  | nil =>
    intro e
    rcases refsT_split [] e with ⟨c, r, q, _⟩ | q
    · cases q
    · rw [q]; exact hp
  | cons a r ih =>
    intro e
    rcases refsT_split (a :: r) e with ⟨c, r', q, hr⟩ | q
    · cases q
      rw [refuseLoop_ref]
      exact ih hr
    · rw [q]; exact hp

abbrev exObj (C t : Addr) : Obj := PySem.HandSPX.excO C t
/-- what is known of a base: its part of the mro, its __new__ and __init__ -/
structure XB (tl : List Value) (newId initId : String) : Prop where
  pass : ∀ self, refuseLoop self "__setattr__" tl = pure ()
  hobj : tl.contains (.type "object") = true
  hne : tl ≠ []
  made : ∀ {prog : Program} {w : World} {A : Around} {R : Result → Shared → Prop} {h : Heap} {g : Array GenState} {d : Drawn} {t : Nat} {os : OsState} {nam q : Str} {C N : Addr} {bas bm : List Value} {hdc : Bool} {sno : List Str} {sb : List Value} {abs0 : Bool} {cl : Option Bool} {dd : Option Addr} {w0 w1 w2 w3 w5 : Option Value} {more : List Value} {fI : Addr},
    refsT tl bm = true → h.get? C = some (excClassObj nam q C N bas bm hdc sno sb abs0 cl dd w0 w1 w2 w3 w5 newId) → W.Looks (model prog w) h (typeLookup (.ref C) "__init__") (some (.ref fI)) → (∀ self, W.Looks (model prog w) h (bindSpecial (.ref fI) self) (.ref fI, [self])) → more.length ≤ sizeLine →
    codeAny (model prog w) (A.under (.builtin "type.__call__" ⟨.ref C :: more, []⟩)) (.call (.ref fI) ⟨.ref (h.objs.size + 1) :: more, []⟩) (W.InitBack (h.objs.size + 1) R) ⟨(h.push (W.kdv_tup more)).push (exObj C h.objs.size), g, d, t, os⟩ →
    codeAny (model prog w) A (.call (.ref C) ⟨more, []⟩) R ⟨h, g, d, t, os⟩
  ini : ∀ {prog : Program} {w : World} {A : Around} {R : Result → Shared → Prop} {h : Heap} {g : Array GenState} {d : Drawn} {t : Nat} {os : OsState} {nam q : Str} {C N : Addr} {bas bm : List Value} {hdc : Bool} {sno : List Str} {sb : List Value} {abs0 : Bool} {cl : Option Bool} {dd : Option Addr} {w0 w1 w2 w3 w5 : Option Value} {more : List Value} {e t0 : Addr},
    refsT tl bm = true → h.get? C = some (excClassObj nam q C N bas bm hdc sno sb abs0 cl dd w0 w1 w2 w3 w5 newId) → h.get? e = some (exObj C t0) → more.length ≤ sizeLine →
    (∀ h' t1, (∀ b o, b ≠ e → h.get? b = some o → h'.get? b = some o) → h'.get? e = some (exObj C t1) → R (.ok (.ret .none)) ⟨h', g, d, t, os⟩) →
    codeAny (model prog w) A (.call (.builtin initId) ⟨.ref e :: more, []⟩) R ⟨h, g, d, t, os⟩
theorem XB.of {B newId initId : String} {tl : List Value} (F : ExcBaseFacts B newId initId tl) (hp : ∀ self, refuseLoop self "__setattr__" tl = pure ()) (old : tl.contains (.type "object") = true) (hne : tl ≠ []) : XB tl newId initId :=
  ⟨hp, old, hne, fun hr atC ini0 bnd hl nxt => PySem.HandSPX.call_own F (fun Y => refsT_has Y _ hr) atC ini0 bnd hl nxt, fun hr atC atE hl nxt => PySem.HandSPX.init_base F (fun Y => refsT_has Y _ hr) atC atE hl nxt⟩
abbrev tlV : List Value := [.type "ValueError", .type "Exception", .type "BaseException", .type "object"]
abbrev tlO : List Value := [.type "OverflowError", .type "ArithmeticError", .type "Exception", .type "BaseException", .type "object"]
abbrev tlR : List Value := [.type "RuntimeError", .type "Exception", .type "BaseException", .type "object"]
abbrev tlK : List Value := [.type "KeyError", .type "LookupError", .type "Exception", .type "BaseException", .type "object"]
theorem xbV : XB tlV "ValueError.__new__" "ValueError.__init__" := XB.of F.excBase_ValueError F.store_ValueError.passes (by decide +kernel) (by simp)
theorem xbO : XB tlO "OverflowError.__new__" "OverflowError.__init__" := XB.of F.excBase_OverflowError F.store_OverflowError.passes (by decide +kernel) (by simp)
theorem xbR : XB tlR "RuntimeError.__new__" "RuntimeError.__init__" := XB.of F.excBase_RuntimeError F.store_RuntimeError.passes (by decide +kernel) (by simp)

/-! ### KeyError: its __new__ is LookupError's -/
section
variable {M : Model} {prog : Program} {w : World} {A : Around} {E : Value → Shared → Prop} {R : Result → Shared → Prop} {h : Heap} {g : Array GenState} {d : Drawn} {t : Nat} {os : OsState}
variable {nam q : Str} {C N : Addr} {bas bm : List Value} {hdc : Bool} {sno : List Str} {sb : List Value} {abs0 : Bool} {cl : Option Bool} {dd : Option Addr} {w0 w1 w2 w3 w5 : Option Value}
abbrev lkN : String := "LookupError.__new__"
theorem ke_has (hr : refsT tlK bm = true) (Y : String) : (Value.ref C :: bm).contains (.type Y) = tlK.contains (.type Y) := by
  rw [List.contains_cons, refsT_has Y bm hr]; rfl
theorem ke_check_new (hr : refsT tlK bm = true) {more : List Value} {Q : Unit → Shared → Prop}
    (atC : h.get? C = some (excClassObj nam q C N bas bm hdc sno sb abs0 cl dd w0 w1 w2 w3 w5 lkN)) (nxt : Q () ⟨h, g, d, t, os⟩) : wpAny M A (checkBuiltinCall lkN ⟨.ref C :: more, []⟩) Q E ⟨h, g, d, t, os⟩ := by
  have FLk := F.excBase_LookupError
  have hin : (Value.ref C :: bm).contains (.type "LookupError") = true := (ke_has hr _).trans (by decide +kernel)
  have hns := FLk.noStar
  simp only [checkBuiltinCall, FLk.newKind, FLk.newSplit, FLk.newRow]
  repeat (first | refine wpAny_loadPart_at atC ?_ | (refine wpAny_isSubtype_exc atC ?_; rw [hin]) | refine wpAny_staticBase_exc atC ?_ | refine wpAny_madeBy_exc atC ?_ | simp only [bne_self_eq_false, Bool.false_eq_true, if_false] | wp_step)
  exact nxt
theorem ke_new (hr : refsT tlK bm = true) {more : List Value} (atC : h.get? C = some (excClassObj nam q C N bas bm hdc sno sb abs0 cl dd w0 w1 w2 w3 w5 lkN))
    (nxt : R (.ok (.ret (.ref (h.objs.size + 1)))) ⟨(h.push (W.kdv_tup more)).push (exObj C h.objs.size), g, d, t, os⟩) (hl : more.length ≤ sizeLine) :
    codeAny (model prog w) A (.builtin lkN ⟨.ref C :: more, []⟩) R ⟨h, g, d, t, os⟩ := by
  have FLk := F.excBase_LookupError
  have hends := FLk.ends
  have i1 : (Value.ref C :: bm).contains (.type "LookupError") = true := (ke_has hr _).trans (by decide +kernel)
  have i2 : (Value.ref C :: bm).contains (.type "AttributeError") = false := (ke_has hr _).trans (by decide +kernel)
  have i3 : (Value.ref C :: bm).contains (.type "NameError") = false := (ke_has hr _).trans (by decide +kernel)
  refine codeAny_builtinAt FLk.entry ?_
  unfold Builtin.«BaseException.__new__»
  refine PySem.wpAt_bind ?_
  show PySem.wpAt _ _ _ (stack >>= _) _ _ _
  refine PySem.wpAt_bind (PySem.wpAt_stack fun p below => wpAt_of_wpAny ?_)
  wp_walk
  refine wpAt_of_wpAny ?_
  rw [FLk.owner]
  repeat (first | with_reducible refine wpAny_madeHere_exc FLk.canon atC ?_ | with_reducible refine wpAny_loadPart_at atC ?_ | (with_reducible refine wpAny_isSubtype_exc atC ?_; first | rw [i1] | rw [i2] | rw [i3]) | wp_step)
  show R _ _
  rw [Heap.size_push]
  exact nxt
theorem ke_type_call (hr : refsT tlK bm = true) {more : List Value} {fI : Addr} {Q : Fin → Shared → Prop} (atC : h.get? C = some (excClassObj nam q C N bas bm hdc sno sb abs0 cl dd w0 w1 w2 w3 w5 lkN))
    (ini0 : W.Looks (model prog w) h (typeLookup (.ref C) "__init__") (some (.ref fI))) (bnd : ∀ self, W.Looks (model prog w) h (bindSpecial (.ref fI) self) (.ref fI, [self])) (hl : more.length ≤ sizeLine)
    (nxt : codeAny (model prog w) A (.call (.ref fI) ⟨.ref (h.objs.size + 1) :: more, []⟩) (fun r s' => match r with | .ok (.ret v) => v = .none ∧ Q (.done (.ret (.ref (h.objs.size + 1)))) s' | .ok _ => False | .error e => E e s')
      ⟨(h.push (W.kdv_tup more)).push (exObj C h.objs.size), g, d, t, os⟩) :
    wpAny (model prog w) A (Builtin.«type.__call__» ⟨.ref C :: more, []⟩) Q E ⟨h, g, d, t, os⟩ := by
  have FLk := F.excBase_LookupError
  repeat (first | with_reducible refine wpAny_loadPart_at atC ?_ | with_reducible refine wpAny_madeBy_exc atC ?_ | wp_step)
  refine codeAny_call_builtin_code (Code.quiet_builtin _ FLk.quiet) (ke_check_new hr atC ?_)
  refine ke_new hr atC ?_ hl
  show wpAny _ _ _ _ _ _
  have kp0 : ∀ b o, h.get? b = some o → ((h.push (W.kdv_tup more)).push (exObj C h.objs.size)).get? b = some o := fun b o e => Heap.get?_push_of_some _ (Heap.get?_push_of_some _ e)
  have hC2 := kp0 _ _ atC
  have hg2 : ((h.push (W.kdv_tup more)).push (exObj C h.objs.size)).get? (h.objs.size + 1) = some (exObj C h.objs.size) := by heap_get
  have hself : (Value.ref C :: bm).contains (.ref C) = true := by simp
  have ik := ini0.keeps kp0
  have bk := (bnd (.ref (h.objs.size + 1))).keeps kp0
  unfold isInstance
  repeat (first | with_reducible refine wpAny_loadPart_at hg2 ?_ | (with_reducible refine wpAny_isSubtype_exc hC2 ?_; rw [hself]) | wp_step)
  show wpAny _ _ (typeLookup (.ref C) _) _ _ _
  refine ik.at ?_
  refine wpAny_holding (wpAny_bind (bk.at ?_))
  refine wpAny_bind (wpAny_call (codeAny_mono nxt fun r s' z => ?_))
  rcases r with e | (v | _ | _ | _) <;> try (first | exact z | exact z.elim)
  obtain ⟨hv, z⟩ := z
  subst hv
  first
    | exact wpAny_pure (wpAny_pure z)
    | (wp_walk; exact z)
theorem ke_call (hr : refsT tlK bm = true) {more : List Value} {fI : Addr} (atC : h.get? C = some (excClassObj nam q C N bas bm hdc sno sb abs0 cl dd w0 w1 w2 w3 w5 lkN))
    (ini0 : W.Looks (model prog w) h (typeLookup (.ref C) "__init__") (some (.ref fI))) (bnd : ∀ self, W.Looks (model prog w) h (bindSpecial (.ref fI) self) (.ref fI, [self])) (hl : more.length ≤ sizeLine)
    (nxt : codeAny (model prog w) (A.under (.builtin "type.__call__" ⟨.ref C :: more, []⟩)) (.call (.ref fI) ⟨.ref (h.objs.size + 1) :: more, []⟩) (W.InitBack (h.objs.size + 1) R) ⟨(h.push (W.kdv_tup more)).push (exObj C h.objs.size), g, d, t, os⟩) :
    codeAny (model prog w) A (.call (.ref C) ⟨more, []⟩) R ⟨h, g, d, t, os⟩ := by
  have l1 := PySem.tc_lookup
  have l2 := PySem.tc_bind (.ref C)
  have isTy : (⟨h, g, d, t, os⟩ : Shared).TypeIs (.ref C) "type" := ⟨_, atC, rfl⟩
  refine codeAny_of_tree ?_
  show wpAny _ _ (callAny (.ref C) _) _ _ _
  repeat (any_goals (first | assumption | with_reducible refine wpAny_loadPart_at atC ?_ | wp_step))
  refine ⟨rfl, ?_⟩
  refine codeAny_call_builtin_at (Code.quiet_builtin _ (by decide +kernel)) PySem.entry_typeCall (wpAny_check_type_call_sub atC (ke_type_call hr atC ini0 bnd hl ?_))
  refine codeAny_mono nxt fun r s' z => ?_
  rcases r with e | (v | _ | _ | _) <;> exact z
theorem ke_init (hr : refsT tlK bm = true) {e t0 : Addr} {more : List Value} (atC : h.get? C = some (excClassObj nam q C N bas bm hdc sno sb abs0 cl dd w0 w1 w2 w3 w5 lkN)) (atE : h.get? e = some (exObj C t0)) (hl : more.length ≤ sizeLine)
    (nxt : ∀ h' t1, (∀ b o, b ≠ e → h.get? b = some o → h'.get? b = some o) → h'.get? e = some (exObj C t1) → R (.ok (.ret .none)) ⟨h', g, d, t, os⟩) :
    codeAny (model prog w) A (.call (.builtin "KeyError.__init__") ⟨.ref e :: more, []⟩) R ⟨h, g, d, t, os⟩ := by
  have FK := excClass_KeyError
  have hin : (Value.ref C :: bm).contains (.type "KeyError") = true := (ke_has hr _).trans (by decide +kernel)
  have hsh := FK.notStar
  refine codeAny_call_builtin FK.init.plain FK.initEntry ?_
  simp only [checkBuiltinCall, FK.initKind, FK.initSplit, FK.initSig]
  repeat (first | with_reducible refine wpAny_loadPart_at atE ?_ | with_reducible refine wpAny_loadPart_at atC ?_ | (with_reducible refine wpAny_isSubtype_exc atC ?_; rw [hin]) | wp_step)
  refine wpAny_onRaise ?_
  rw [show ∀ (a b : String) (n : Nat), Bind.check ⟨.positional, "*", "KeyError", .self, [⟨"args", .varPos, false⟩]⟩ a b n (List.map (fun x => x.fst) ({ pos := Value.ref e :: more } : Args).kw) = pure () from
    fun a b n => check_star_args _ _ _ _ _ _]
  refine wpAny_pure ?_
  wp_walk
  refine nxt _ h.objs.size (fun b o bnd old => ?_) ?_
  · rw [Heap.get?_update_other _ _ (Ne.symm bnd)]
    exact Heap.get?_push_of_some _ old
  · rw [Heap.get?_update_self _ (Heap.get?_push_of_some _ atE) rfl]
    rfl
end
theorem ke_pass : ∀ self, refuseLoop self "__setattr__" tlK = pure () := fun self => by kernel_rfl
theorem xbK : XB tlK "LookupError.__new__" "KeyError.__init__" := ⟨ke_pass, by decide +kernel, by simp, fun hr atC ini0 bnd hl nxt => ke_call hr atC ini0 bnd hl nxt, fun hr atC atE hl nxt => ke_init hr atC atE hl nxt⟩
end
end Mi

set_option Elab.async false
set_option linter.all false
set_option maxRecDepth 100000
set_option maxHeartbeats 4000000
/-! Mi, part W: such an exception is made: its __init__ by the layer's rules. -/
namespace Mi
open PySem PySem.Spec PyProof.Rows L2
/-- what the written part says of the class -/
structure OxC (K : PySem.W.Frag) (C : Addr) (initId : String) : Prop where
  cls : ∃ tl newId, XB tl newId initId ∧ ∃ nm q N bs bm sno sub abc0 cl ddd k0 k1 k2 k3 k5, K.lookup C = some (excClassObj nm q C N bs bm true sno sub abc0 cl ddd k0 k1 k2 k3 k5 newId) ∧ refsT tl bm = true
  sa : PySem.W.findIn K (.ref C) "__setattr__" = some (some (.builtin "object.__setattr__"))
  exC : PySem.W.subIn K (.ref C) (.type "BaseException") = some true
  tyC : PySem.W.typeIn K (.ref C) = some (.type "type")
  kC : PySem.W.keepIn K (.ref C) = true
section
open Builtin Builtin.ObjectAttr
variable {prog : Program} {w : World} {A : Around} {E : Value → Shared → Prop} {R : Result → Shared → Prop} {hp : Heap} {g : Array GenState} {d : Drawn} {t : Nat} {os : OsState}
/-- self.name = v on an exception that has no dict yet -/
theorem x_osa {K : PySem.W.Frag} {tl : List Value} {newId initId : String} (hB : XB tl newId initId) {name : Str} {tkn : Tok} {v : Value} {x C : Addr} {fvs : Array Value} {cd : ClassData}
    (X : K.In hp) (hx : hp.get? x = some { cls := .ref C, data := .fields fvs }) (hcd : W.clsIn K C = some cd) (hm : refsT tl cd.mro = true) (hh : cd.hasDict = true) (ha : W.findIn K (.ref C) name = some none)
    (nxt : ∀ h' tk' dx, (∀ b o, b ≠ x → hp.get? b = some o → h'.get? b = some o) → hp.objs.size ≤ dx → dx ≠ x → h'.get? x = some { cls := .ref C, dict := some dx, data := .fields fvs } →
      h'.Ns1 dx (fun y => if y = name then some v else none) → R (.ok (.ret .none)) ⟨h', g, d, tk', os⟩) :
    codeAny (model prog w) A (.call (.builtin "object.__setattr__") ⟨[.ref x, .str name tkn, v], []⟩) R ⟨hp, g, d, t, os⟩ := by
  have instx : W.InstAt hp x { cls := .ref C, data := .fields fvs } C none := ⟨hx, rfl, rfl, trivial⟩
  have FO := F.store_object
  have hne : cd.mro.isEmpty = false := by
    cases hc : cd.mro with
    | nil =>
      rw [hc] at hm
      rcases refsT_split [] hm with ⟨c, r, q, _⟩ | q
      · cases q
      · exact absurd q.symm hB.hne
    | cons _ _ => rfl
  have hob : cd.mro.contains (.type "object") = true := (refsT_has "object" _ hm).trans hB.hobj
  have xfar : x ≠ hp.objs.size := Nat.ne_of_lt (Heap.lt_size hx)
  have isob : W.Looks (model prog w) hp (isInstance (.ref x) (.type "object")) true := instx.type.andThen (W.looks_mroIn X (by unfold W.mroIn; rw [hcd, Option.bind_some, if_neg (by rw [hne]; decide), hob]))
  refine codeAny_call_builtin FO.slot.plain FO.entry (@W.check_slot (model prog w) _ _ ⟨hp, g, d, t, os⟩ "object.__setattr__" "object" "__setattr__" (.ref x) [.str name tkn, v] [] _ FO.kind FO.split isob (FO.args (.ref x) (.str name tkn) v) ?_)
  have lm : W.Looks (model prog w) hp (mroOf (.ref C)) cd.mro := (W.looks_clsIn X hcd).andThen .now
  have lt : W.Looks (model prog w) hp (storeTaker? none) none := .now
  have lc : W.Looks (model prog w) hp (classData C) cd := W.looks_clsIn X hcd
  rw [W.osa_eq, refuse_eq]
  refine wpAny_bind (wpAny_bind (instx.type.at (wpAny_bind (lm.at ?_))))
  rw [refsT_pass _ (hB.pass _) _ hm]
  refine wpAny_pure (wpAny_bind (instx.type.at (wpAny_bind ((W.looks_findIn X ha).at (wpAny_bind (lt.at ?_))))))
  show wpAny _ _ (storeInOwnDict (.ref x) (.ref C) (.str name tkn) name v false) _ _ _
  obtain ⟨nm, bs, mro, ns, qna, hd, sno, sbc, abc0, cl, del⟩ := cd
  dsimp only at hh
  subst hh
  unfold storeInOwnDict ownDictForStores
  repeat (first | with_reducible refine PySem.HandSPX.store_in_new ?_ ?_ | with_reducible refine wpAny_loadPart_at hx ?_ | with_reducible refine lc.at ?_ | wp_step)
  · exact ⟨_, #[], _, (Heap.get?_update_ne _ _ _ _ xfar.symm).trans (Heap.get?_push_at rfl rfl), rfl, fun e he => absurd he (by simp), fun _ => rfl⟩
  · intro h' tk' hn' hs
    have hx1 : (hp.push { cls := .type "dict", data := .dict #[] }).get? x = some { cls := .ref C, data := .fields fvs } := Heap.get?_push_of_some _ hx
    refine nxt h' tk' hp.objs.size (fun b o hb oat => ?_) (Nat.le_refl _) xfar.symm ?_ hn'
    · exact (hs.2 b (Nat.ne_of_lt (Heap.lt_size oat))).trans ((Heap.get?_update_ne _ _ _ _ hb).trans (Heap.get?_push_of_some _ oat))
    · exact (hs.2 x xfar).trans (Heap.get?_update_self _ hx1 rfl)
end
section
variable {X : Cx} {pins : List (Addr × Obj)} {σ : L2.St} {H : Hp} {s : Shared} {a C dx : Addr} {f : Str} {y : V} {u : Value} {initId : String} {Q : Unit → Shared → Prop} {E : Value → Shared → Prop} {A : Around}
/-- self.f = y, the first one -/
theorem x_store (T : OxC X.K C initId) (I : Inv X pins σ H s) (e : H a = some (exo a C none)) (hno : PySem.W.findIn X.K (.ref C) f = some none) (ry : RelV y u)
    (h : ∀ dx s', H dx = none → dx ≠ a → Inv X pins σ (upd (upd H dx (exd dx [(f, y)])) a (exo a C (some dx))) s' → Q () s') : wpAny (model X.prog X.w) A (setAttr (.ref a) f u) Q E s := by
  obtain ⟨tl, newId, hB, nm, q, N, bs, bm, sno, sub, abc0, cl, ddd, k0, k1, k2, k3, k5, hC, hbm⟩ := T.cls
  have hcl : PySem.W.clsIn X.K C = some { name := nm, bases := bs, mro := .ref C :: bm, ns := N, qualname := q, hasDict := true, slotNames := sno, subclasses := sub, abstract := abc0, collection := cl, hasDel := false } := by
    unfold PySem.W.clsIn; rw [hC] <;> rfl
  obtain ⟨tq, oat⟩ := exo_at I.hok e
  obtain ⟨hp, g, d, t, os⟩ := s
  refine PySem.W.set_plain I.kIn (ox := exObj C tq) (od := none) ⟨oat, rfl, rfl, trivial⟩ T.sa ?_
  refine x_osa hB I.kIn oat hcl (show refsT tl (.ref C :: bm) = true from hbm) rfl hno (fun h' tk' dx kp dbg dne hx fre => ?_)
  have fdx : H dx = none := I.hok.fresh dbg
  have ndx : ∀ {b : Addr} {o : Obj}, hp.get? b = some o → b ≠ dx := fun {b o} q => Nat.ne_of_lt (Nat.lt_of_lt_of_le (Heap.lt_size q) dbg)
  have na : ∀ {b : Addr}, H b = none → b ≠ a := fun {b} n z => by rw [z, e] at n; cases n
  have U1 : Un X.fs [] H (upd (upd H dx (exd dx [(f, y)])) a (exo a C (some dx))) hp h' := by
    refine ⟨fun b o q n _ _ => kp b o (na n) q, fun b o q n _ _ => ⟨o.slots, kp b o (na n) q⟩, fun b o q n _ => ?_, fun b o q _ => ?_, fun b xs q => ?_, fun b o v q => ?_, fun b ps q => ⟨#[], ?_⟩⟩
    · rw [upd_ne (na n), upd_ne (ndx q)]; exact n
    · by_cases hb : b = a
      · exact ⟨_, by rw [hb]; exact hx⟩
      · exact ⟨o, kp b o hb q⟩
    · rw [upd_ne (at_ne e q exo_tup), upd_ne (ne_of_none q fdx)]; exact q
    · rw [upd_ne (at_ne e q exo_frz), upd_ne (ne_of_none q fdx)]; exact q
    · rw [upd_ne (at_ne e q exo_tbl), upd_ne (ne_of_none q fdx), q]; simp
  refine h dx _ fdx dne (I.un (t' := tk') U1 fun b o q => ?_)
  by_cases hb : b = a
  · subst hb
    rw [upd_same] at q
    cases q
    exact exo_ok hx
  · rw [upd_ne hb] at q
    by_cases hd : b = dx
    · subst hd
      rw [upd_same] at q
      cases q
      exact exd_ok fre (relO_put (fs := []) ry fun g => True.intro)
    · rw [upd_ne hd] at q
      refine (I.hok b o q).stay (fun c v hc z => kp c v ?_ z) (fun c hc => ?_) (fun c xs hc => ?_)
      · rcases hc with hc | hc
        · rw [hc]; exact hb
        · exact at_ne e hc exo_own
      · rw [upd_ne (at_ne e hc exo_own), upd_ne (ne_of_none hc fdx)]; exact hc
      · rw [upd_ne (at_ne e hc exo_tup), upd_ne (ne_of_none hc fdx)]; exact hc
/-- the base's __init__: nothing of it is told -/
theorem x_base {uus : List Value} {Q : Value → Shared → Prop} (T : OxC X.K C initId) (I : Inv X pins σ H s) (e : H a = some (exo a C none)) (lnn : uus.length ≤ sizeLine) (h : ∀ s', Inv X pins σ H s' → Q .none s') :
    wpAny (model X.prog X.w) A (call (.builtin initId) (.ref a :: uus)) Q E s := by
  obtain ⟨tl, newId, hB, nm, q, N, bs, bm, sno, sub, abc0, cl, ddd, k0, k1, k2, k3, k5, hC, hbm⟩ := T.cls
  obtain ⟨tq, oat⟩ := exo_at I.hok e
  obtain ⟨hp, g, d, t, os⟩ := s
  refine wpAny_call (hB.ini hbm (I.kIn _ _ hC) oat lnn fun h' t2 kp hx => ?_)
  have J := I.write (t' := t) (x := a) (e := a) (o := exo a C none) (by rw [e]; exact True.intro) (.inl rfl) kp ⟨_, hx⟩ (exo_ok hx)
  rw [show upd H a (exo a C none) = H from funext fun b => by
    by_cases hb : b = a
    · rw [hb, upd_same, e]
    · rw [upd_ne hb]] at J
  exact h _ J
end
/-- B.__init__(self, ..), B a class of the program, or a built-in one -/
def tBI (K : PySem.W.Frag) (initId : String) (ta : TA) : TE := fun σ H Q => ta σ H fun vs Hp1 => ∃ (a C : Addr) (wws : List V), vs = .ref a :: wws ∧ wws.length ≤ 1000 ∧ OxC K C initId ∧ Hp1 a = some (exo a C none) ∧ Q .non Hp1
/-- self.f = e -/
def tXs (K : PySem.W.Frag) (f : Str) (to te : TE) : TS := fun D σ H => te σ H fun y Hp1 => to σ Hp1 fun x Hp2 => ∃ (a C : Addr) (initId : String), x = .ref a ∧ OxC K C initId ∧ PySem.W.findIn K (.ref C) f = some none ∧
  Hp2 a = some (exo a C none) ∧ ∀ dx, Hp2 dx = none → dx ≠ a → D.nx σ (upd (upd Hp2 dx (exd dx [(f, y)])) a (exo a C (some dx)))
section
variable {X : Cx} {o e : Expr} {es : List Expr} {to te : TE} {ta : TA} {f b : Str} {initId : String} {p p' p1 p2 pos : Pos}
theorem pe_ownInit {pl : Sem Bool} {SB : Addr} {mc : Value} (hg : Gl X b) (hm : X.mg b = some (.ref SB)) (hsp : PySem.W.specialIn X.K (.ref SB) "__getattribute__" = some (some (.builtin "type.__getattribute__"))) (hrd : PySem.W.readsIn X.K SB mc = true)
    (hf : PySem.W.findCls X.K (.ref SB) mc "__init__" = some (.val (.builtin initId))) (hh : PySem.W.handedIn (.builtin initId) = true) (hdb : (b == ("__debug__" : Str)) = false) (ha : PA X (e :: es) ta)
    (hc : eval (.Call (.Attribute (.Name b p1) "__init__" p2) (e :: es) [] pos) X.env = (do
      let ov ← eval (.Name b p1) X.env
      standAt p2.atName
      let (f, first) ← holding [ov] (getMethod ov "__init__" pl)
      callWith pos f first (backTo pos (starEach (e :: es) X.env)) (backToKw pos (keywordEach [] X.env))))
    (he : starEach (e :: es) X.env = (false, eval e X.env) :: starEach es X.env) (hpl : (backTo pos (starEach es X.env)).any (·.1) = false) :
    PE X (.Call (.Attribute (.Name b p1) "__init__" p2) (e :: es) [] pos) (tBI X.K initId ta) := by
  refine ⟨fun pins s σ H Q I h => ?_⟩
  refine PySem.W.methodCall_KW (ld_glob I hg hm ?_ hdb) hc
  refine PySem.W.method_cls I.kIn hsp (PySem.W.cls_value I.kIn hrd hf hh ?_)
  show wpAny _ _ (callWith pos (Value.builtin initId) [] (backTo pos (starEach (e :: es) X.env)) []) _ _ _
  refine PyProof.Rows.callWith_method1 (thn (ha.run pos pins _ σ H _ (I.tok _) h) fun uus sh1 ⟨vs, Hp1, In1, rl1, a, C, wws, ev, lnn, T, ea, q⟩ => ?_) he hpl
  subst ev
  cases rl1 with
  | @cons _ u0 _ ur ra rw' =>
    obtain rfl : u0 = Value.ref a := ra
    exact x_base T In1 ea (by rw [← Paired.length rw', sizeLine_eq]; omega) fun s' J => ⟨.non, Hp1, J, rfl, q⟩
theorem pe_bltInit {pl : Sem Bool} {B : String} (hg : Gl X b) (hm : X.mg b = none) (hbt : bootBuiltins b = some (.type B)) (hty : typeOf (.type B) = pure (.type "type")) (hst : Manifest.isStub B = false)
    (hf : PySem.W.findCls X.K (.type B) (.type "type") "__init__" = some (.val (.builtin initId))) (hh : PySem.W.handedIn (.builtin initId) = true) (h1 : b ≠ "__name__") (hdb : (b == ("__debug__" : Str)) = false) (ha : PA X (e :: es) ta)
    (hc : eval (.Call (.Attribute (.Name b p1) "__init__" p2) (e :: es) [] pos) X.env = (do
      let ov ← eval (.Name b p1) X.env
      standAt p2.atName
      let (f, first) ← holding [ov] (getMethod ov "__init__" pl)
      callWith pos f first (backTo pos (starEach (e :: es) X.env)) (backToKw pos (keywordEach [] X.env))))
    (he : starEach (e :: es) X.env = (false, eval e X.env) :: starEach es X.env) (hpl : (backTo pos (starEach es X.env)).any (·.1) = false) :
    PE X (.Call (.Attribute (.Name b p1) "__init__" p2) (e :: es) [] pos) (tBI X.K initId ta) := by
  refine ⟨fun pins s σ H Q I h => ?_⟩
  refine PySem.W.methodCall_KW (ld_blt I hg hm hbt ?_ h1 hdb) hc
  obtain ⟨m, fr⟩ := I.fr
  refine PySem.W.method_type fr I.ok.mod.kin hty hst hf hh ?_
  show wpAny _ _ (callWith pos (Value.builtin initId) [] (backTo pos (starEach (e :: es) X.env)) []) _ _ _
  refine PyProof.Rows.callWith_method1 (thn (ha.run pos pins _ σ H _ (I.tok _) h) fun uus sh1 ⟨vs, Hp1, In1, rl1, a, C, wws, ev, lnn, T, ea, q⟩ => ?_) he hpl
  subst ev
  cases rl1 with
  | @cons _ u0 _ ur ra rw' =>
    obtain rfl : u0 = Value.ref a := ra
    exact x_base T In1 ea (by rw [← Paired.length rw', sizeLine_eq]; omega) fun s' J => ⟨.non, Hp1, J, rfl, q⟩
theorem ps_xs (oat : PE X o to) (he : PE X e te) (hs : swapsWith e (some (.Attribute o f p')) pos.line X.env = pure false) : PS X (.Assign [.Attribute o f p'] e pos) (tXs X.K f to te) := by
  refine ⟨fun pins s σ H D I h => ?_⟩
  refine plainObj_wpAny_Assign_Attribute (thn (he.run pins s σ H _ I h) fun v sh1 ⟨y, Hp1, In1, rl1, qr1⟩ => thn (oat.run pins sh1 σ Hp1 _ In1 qr1) fun u s2 ⟨x, Hp2, In2, r2, a, C, ii, ex, T, hno, ea, q⟩ => ?_) hs
  subst ex
  obtain rfl : u = Value.ref a := r2
  exact x_store T In2 ea hno rl1 fun dx s' n ne J => ⟨σ, _, J, q dx n ne⟩
/-- C(e), its own __init__ keeping sp -/
theorem pmk_x {Rd : List V → Hp → XK → Prop} {CX : CXT} {x : Str} {C fI : Addr} {k : Nat} {fd : FuncData} {ps : List Str} {sp : Sp} (T : OxC X.K C initId) (iC : PySem.W.findIn X.K (.ref C) "__init__" = some (some (.ref fI))) (tI : PySem.W.typeIn X.K (.ref fI) = some (.type "function"))
    (F1 : FnOk X.prog X.w X.K X.mg X.base CX k fI fd ps sp) (hr : Room (k + 1) X.A) (hb : Binds X.K fd ps []) (hx : Passes CX X (fun _ _ _ => False)) (hg : Gl X x) (hm : X.mg x = some (.ref C)) (ha : PA X (e :: es) ta)
    (hdb : (x == ("__debug__" : Str)) = false) (he : starEach (e :: es) X.env = (false, eval e X.env) :: starEach es X.env) (hpl : (backTo pos (starEach es X.env)).any (·.1) = false)
    (conv : ∀ vs Hp1 Q, Rd vs Hp1 Q → vs.length ≤ 1000 ∧ ∀ a, Hp1 a = none → sp (.ref a :: (vs ++ [])) (upd Hp1 a (exo a C none))
      (fun v Hp2 => v = .non ∧ ∃ (d : Addr) (fs : List (Str × V)), Hp2 a = some (exo a C (some d)) ∧ Hp2 d = some (exd d fs) ∧ Hp1 d = none ∧ Q (.ref C) (some d) (upd (del Hp2 a) d (.xd fs))) (fun _ _ _ => False)) :
    PMk X (.Call (.Name x p) (e :: es) [] pos) (fun σ H Q => ta σ H fun vs Hp1 => Rd vs Hp1 Q) := by
  intro pins s σ H Q I h
  obtain ⟨tl, newId, hB, nm, q, N, bs, bm, sno, sub, abc0, cl, ddd, k0, k1, k2, k3, k5, hC, hbm⟩ := T.cls
  refine wpAny_Call_Name_kw (ld_glob I hg hm ?_ hdb)
  refine PySem.W.callWith_K (h₀ := X.base) I.ok.mod.kin T.kC (thn (ha.run pos pins s σ H _ I h) fun uus sh1 ⟨vs, Hp1, In1, rl1, hRd⟩ => ⟨In1.kIn, ?_⟩) he hpl
  obtain ⟨hz, qr1⟩ := conv vs Hp1 Q hRd
  show wpAny _ _ (call (.ref C) uus) _ _ _
  obtain ⟨hp, g, dr, tkn, os⟩ := sh1
  have szl : hp.objs.size ≤ hp.objs.size + 1 := Nat.le_succ _
  have fre : Hp1 (hp.objs.size + 1) = none := In1.hok.fresh szl
  have nxt := qr1 (hp.objs.size + 1) fre
  have k2' : ∀ b o, hp.get? b = some o → ((hp.push (PySem.W.kdv_tup uus)).push (exObj C hp.objs.size)).get? b = some o := fun b o e => Heap.get?_push_of_some _ (Heap.get?_push_of_some _ e)
  have hget : ((hp.push (PySem.W.kdv_tup uus)).push (exObj C hp.objs.size)).get? (hp.objs.size + 1) = some (exObj C hp.objs.size) := by heap_get
  have In2 : Inv X pins σ (upd Hp1 (hp.objs.size + 1) (exo (hp.objs.size + 1) C none)) ⟨(hp.push (PySem.W.kdv_tup uus)).push (exObj C hp.objs.size), g, dr, tkn, os⟩ :=
    In1.laid (t' := tkn) (a := hp.objs.size + 1) (o := exo (hp.objs.size + 1) C none) (h' := (hp.push (PySem.W.kdv_tup uus)).push (exObj C hp.objs.size)) k2' szl (exo_ok hget)
  have r2 : Vals (V.ref (hp.objs.size + 1) :: (vs ++ [])) (Value.ref (hp.objs.size + 1) :: (uus ++ [])) := .cons rfl (by rw [List.append_nil, List.append_nil]; exact rl1)
  have lnn : (Value.ref (hp.objs.size + 1) :: uus ++ []).length = ps.length := by
    have e := r2.length
    rw [F1.len _ _ _ _ nxt] at e
    exact e.symm
  have usl : uus.length ≤ sizeLine := by
    rw [← Paired.length rl1, sizeLine_eq]
    omega
  have hb2 := hb _ (Value.ref (hp.objs.size + 1) :: uus) In2.kIn lnn
  rw [List.cons_append] at hb2
  refine wpAny_call (hB.made hbm (In1.kIn _ _ hC) (PySem.W.looks_findIn In1.kIn iC) (fun self => PySem.W.bind_fn In1.kIn self tI) usl (codeAny_mono (F1.run _ X.stack _ _ ⟨Value.ref (hp.objs.size + 1) :: uus, []⟩ (Value.ref (hp.objs.size + 1) :: (uus ++ [])) _ _ (fun _ _ _ => False)
    (hr.make C uus []) (In2.env0.make C uus []) hb2 r2 nxt) fun r s' hq' => ?_))
  cases r with
  | error ern => exact hx pins σ _ _ ern s' In2 hq'
  | ok fl =>
    cases fl with
    | ret u =>
      obtain ⟨v, Hp2, osb, barb, unn, hok2b, rv, ev, d, fs, ea, ed, hd1, qr2⟩ := hq'
      subst ev
      obtain ⟨h2, g2, d2, t2, os'⟩ := s'
      exact ⟨rv, mk_end (raises_own T.exC T.tyC) In1 szl k2' unn hok2b osb barb ea ed hd1 qr2⟩
    | next => exact False.elim hq'
    | brk => exact False.elim hq'
    | cont => exact False.elim hq'
end
end Mi

set_option Elab.async false
set_option linter.all false
set_option maxRecDepth 100000
set_option maxHeartbeats 4000000
/-! Mi, part X: the exceptions' __init__ as the texts have it, and C(e). -/
namespace Mi
open PySem PySem.Spec PyProof.Rows L2
/-- a method's call, as it is evaluated -/
theorem meth_eval {o : Expr} {name : Str} {apos pos : Pos} {args : List Expr} {env : Env} (hbase : attributeBase o name env (eval o env) = eval o env)
    (hfew : ((backTo pos (starEach args env)).all (fun x => !x.1) && (backToKw pos (keywordEach [] env)).all (fun x => x.1.isSome)
      && decide (args.length + ([] : List Keyword).length + (if ([] : List Keyword).isEmpty then 0 else 1) < 30)) = true) (hline : (apos.endLine == pos.line) = true) :
    ∃ pl, eval (.Call (.Attribute o name apos) args [] pos) env = (do
      let ov ← eval o env
      standAt apos.atName
      let (f, first) ← holding [ov] (getMethod ov name pl)
      callWith pos f first (backTo pos (starEach args env)) (backToKw pos (keywordEach [] env))) := by
  have hform : methodCallForm (args.length + ([] : List Keyword).length) (backTo pos (starEach args env)) (backToKw pos (keywordEach [] env)) = true := hfew
  have hpos : methodCallPos true o env apos pos = pure pos := by unfold methodCallPos; simp [hline]
  refine ⟨(do return (← importBound o env).getD true), ?_⟩
  rw [arm_eval_Call, hbase]
  unfold methodCall calleeOf
  rw [hform, hpos]
  rfl
/-- how the base's __init__ is reached by the name b -/
structure BInit (K : PySem.W.Frag) (mg : Str → Option Value) (b : Str) (initId : String) : Prop where
  hh : PySem.W.handedIn (.builtin initId) = true
  db : (b == ("__debug__" : Str)) = false
  by_ : (∃ SB mc, mg b = some (.ref SB) ∧ PySem.W.specialIn K (.ref SB) "__getattribute__" = some (some (.builtin "type.__getattribute__")) ∧ PySem.W.readsIn K SB mc = true ∧ PySem.W.findCls K (.ref SB) mc "__init__" = some (.val (.builtin initId))) ∨
    (∃ B : String, mg b = none ∧ bootBuiltins b = some (.type B) ∧ typeOf (.type B) = pure (.type "type") ∧ Manifest.isStub B = false ∧ PySem.W.findCls K (.type B) (.type "type") "__init__" = some (.val (.builtin initId)) ∧ b ≠ "__name__")
/-- the text of such an __init__ -/
def initBody (b f m : Str) (j : Nat) (q : List Pos) : List Stmt := match q with
  | [q1, q2, q3, q4, q5, q6, q7, q8, q9, q10] => [.Expr (.Call (.Attribute (.Name b q1) "__init__" q2) [.Name "self" q3, .Constant (.str m) j q4] [] q5) q6, .Assign [.Attribute (.Name "self" q7) f q8] (.Name f q9) q10]
  | _ => []
structure InitTxt (st : Stmt) (b f : Str) : Prop where
  body : ∃ m j q, q.length = 10 ∧ defBody st = initBody b f m j q ∧ ((q.getD 1 ⟨0, 0, 0, 0⟩).endLine == (q.getD 4 ⟨0, 0, 0, 0⟩).line) = true
  S : FnScope ["self", f] ["self", f] (defScope st)
  ls : (defScope st).names.lookup ("self" : Str) = some .local
  lf : (defScope st).names.lookup f = some .local
  gb : (defScope st).names.lookup b = some .globalImplicit
  d1 : (f == ("__debug__" : Str)) = false
  d2 : (f == ("__classdict__" : Str)) = false
/-- what the __init__ does -/
def spX (C : Addr) (f : Str) : Sp := fun vs H Q _ => ∃ (a : Addr) (y : V), vs = [.ref a, y] ∧ H a = some (exo a C none) ∧ ∀ dx, H dx = none → dx ≠ a → Q .non (upd (upd H dx (exd dx [(f, y)])) a (exo a C (some dx)))
theorem init_ok {P : Program} {w : World} {K : PySem.W.Frag} {mg : Str → Option Value} {base : Heap} {C fI : Addr} {initId : String} {b f x qual : Str} {st : Stmt} {fd : FuncData} (T : OxC K C initId) (hno : PySem.W.findIn K (.ref C) f = some none) (BI : BInit K mg b initId)
    (Fn : Fun K x qual st fI fd) (I : InitTxt st b f) : FnOk P w K mg base CX0 1 fI fd ["self", f] (spX C f) := by
  refine Fn.ok (k := 0) I.S (fun vs H Q E h => ?_) (fun cdv A outer s H vs Q E hr h => ?_)
  · obtain ⟨a, y, rfl, _⟩ := h; rfl
  · obtain ⟨m, j, q, hq, hb, hln⟩ := I.body
    match q, hq, hb, hln with
    | [q1, q2, q3, q4, q5, q6, q7, q8, q9, q10], _, hb, hln =>
      rw [hb]
      let X : Cx := (cxOf CX0 P w K mg base ["self", f] qual (defScope st) fI cdv A outer s H E).nox
      have v0 : ∀ pos, PE X (.Name "self" pos) (tVar 0) := fun pos => pe_var (X := X) (i := 0) (x := "self") rfl (.inl I.ls) (by decide) (by decide)
      have v1 : ∀ pos, PE X (.Name f pos) (tVar 1) := fun pos => pe_var (X := X) (i := 1) (x := f) rfl (.inl I.lf) I.d1 I.d2
      have ha : PA X [.Name "self" q3, .Constant (.str m) j q4] (tCons (tVar 0) (tCons (tC (.str m)) tNil)) := pa_cons (v0 q3) (pa_cons pe_str pa_nil)
      have hg : Gl X b := I.gb
      have call : PE X (.Call (.Attribute (.Name b q1) "__init__" q2) [.Name "self" q3, .Constant (.str m) j q4] [] q5) (tBI X.K initId (tCons (tVar 0) (tCons (tC (.str m)) tNil))) := by
        obtain ⟨pl, hpl⟩ := meth_eval (o := .Name b q1) (name := "__init__") (apos := q2) (pos := q5) (args := [.Name "self" q3, .Constant (.str m) j q4]) (env := X.env) rfl rfl hln
        rcases BI.by_ with ⟨SB, mc, e1, e2, e3, e4⟩ | ⟨B, e1, e2, e3, e4, e5, e6⟩
        · exact pe_ownInit hg e1 e2 e3 e4 BI.hh BI.db ha hpl rfl rfl
        · exact pe_bltInit hg e1 e2 e3 e4 e5 BI.hh e6 BI.db ha hpl rfl rfl
      refine ⟨_, pss_cons (ps_expr call) (pss_one (ps_xs (v0 q7) (v1 q9) rfl)), ?_⟩
      obtain ⟨a, y, rfl, ea, k⟩ := h
      exact ⟨_, rfl, a, C, [.str m], rfl, by simp, T, ea, _, rfl, _, rfl, a, C, initId, rfl, T, hno, ea, fun dx n ne => k dx n ne⟩
/-- C(e): a new dict holds the field -/
def tMk1 (C : Addr) (f : Str) (ta : TA) : L2.St → Hp → XK → Prop := fun σ H Q => ta σ H fun vs H1 => ∃ v, vs = [v] ∧ ∀ d, H1 d = none → Q (.ref C) (some d) (upd H1 d (.xd [(f, v)]))
/-- all that is known of an exception class -/
structure XRow (K : PySem.W.Frag) (mg : Str → Option Value) (c : Str) (C : Addr) (f : Str) : Prop where
  ex : ∃ (initId : String) (fI : Addr) (b x qual : Str) (st : Stmt) (fd : FuncData), OxC K C initId ∧ PySem.W.findIn K (.ref C) f = some none ∧ BInit K mg b initId ∧ Fun K x qual st fI fd ∧ InitTxt st b f ∧ Binds K fd ["self", f] [] ∧
    PySem.W.findIn K (.ref C) "__init__" = some (some (.ref fI)) ∧ PySem.W.typeIn K (.ref fI) = some (.type "function")
  gC : mg c = some (.ref C)
  db : (c == ("__debug__" : Str)) = false
  rd : XfC K C
theorem pmk_row {X : Cx} {c f : Str} {C : Addr} {e : Expr} {ta : TA} {p pos : Pos} (R : XRow X.K X.mg c C f) (hr : Room 2 X.A) (hg : Gl X c) (ha : PA X [e] ta)
    (he : starEach (e :: []) X.env = (false, eval e X.env) :: starEach [] X.env) : PMk X (.Call (.Name c p) [e] [] pos) (tMk1 C f ta) := by
  obtain ⟨initId, fI, b, x, qual, st, fd, T, hno, BI, Fn, I, hb, iC, tI⟩ := R.ex
  have F1 := init_ok (P := X.prog) (w := X.w) (mg := X.mg) (base := X.base) T hno BI Fn I
  refine pmk_x (X := X) (p := p) (pos := pos) (Rd := fun vs H1 Q => ∃ v, vs = [v] ∧ ∀ d, H1 d = none → Q (.ref C) (some d) (upd H1 d (.xd [(f, v)]))) T iC tI F1 hr hb (fun _ _ _ _ _ _ _ h => h.elim) hg R.gC ha R.db he rfl ?_
  rintro vs H1 Q ⟨v, rfl, k⟩
  refine ⟨by simp, fun a ha => ⟨a, v, rfl, upd_same, fun dx hn hne => ⟨rfl, dx, [(f, v)], upd_same, ?_, ?_, ?_⟩⟩⟩
  · rw [upd_ne hne, upd_same]
  · rw [upd_ne hne] at hn; exact hn
  · rw [upd_ne hne] at hn
    have e2 : upd (del (upd (upd (upd H1 a (exo a C none)) dx (exd dx [(f, v)])) a (exo a C (some dx))) a) dx (.xd [(f, v)]) = upd H1 dx (.xd [(f, v)]) := by
      funext z
      by_cases h1 : z = dx
      · subst h1; rw [upd_same, upd_same]
      · rw [upd_ne h1, upd_ne h1]
        by_cases h2 : z = a
        · subst h2; rw [del_same, ha]
        · rw [del_ne h2, upd_ne h2, upd_ne h1, upd_ne h2]
    rw [e2]
    exact k dx hn
end Mi

set_option Elab.async false
set_option linter.all false
set_option maxRecDepth 100000
set_option maxHeartbeats 4000000
/-! Mi, part Y: try with several clauses, each with a name or without. -/
namespace Mi
open PySem PySem.Spec PyProof.Rows L2
abbrev Clause := Value × Option Nat × (Addr → Value → Option Addr → TS)
/-- the ends behind a suite whose name goes -/
def offEnds (i : Nat) (D : Ends) : Ends := { nx := fun σ' H' => D.nx (σ'.set i none) H', rt := D.rt, bk := fun σ' H' => D.bk (σ'.set i none) H', ct := fun σ' H' => D.ct (σ'.set i none) H' }
def runCl (p : Option Nat) (ts : Addr → Value → Option Addr → TS) (a : Addr) (cls : Value) (d : Option Addr) (D : Ends) (σ : L2.St) (H : Hp) : Prop := match p with
  | some i => ts a cls d (offEnds i D) (σ.set i (some (.ref a))) H
  | none => ts a cls d D σ H
def wCl (K : PySem.W.Frag) (Wout : WX) (D : Ends) : List Clause → WX
  | [] => Wout
  | q :: r => fun cls d σ H => ∃ b, PySem.W.exmOne K cls q.1 = some b ∧ (b = true → ∀ a, H a = none → runCl q.2.1 q.2.2 a cls d D σ H) ∧ (b = false → wCl K Wout D r cls d σ H)
abbrev SuiteOk (X : Cx) (st : List Stmt) (ts : Addr → Value → Option Addr → TS) : Prop :=
  ∀ (a : Addr) (oe : Obj) (cls : Value) (d : Option Addr) (pn : List (Addr × Obj)), Zc cls d oe → (∃ vs, oe.data = .fields vs) → PSs (X.suite a ((a, oe) :: pn)) st (ts a cls d)
inductive HdCl (X : Cx) : List ExceptHandler → List Clause → Prop
  | nil : HdCl X [] []
  | named {x n : Str} {c : Value} {i : Nat} {ts : Addr → Value → Option Addr → TS} {b0 : Stmt} {su : List Stmt} {np pos' : Pos} {hds : List ExceptHandler} {l : List Clause} (hc : Names X x c) (hi : X.N[i]? = some n) (hl : X.env.kindOf n = some .local)
      (hs : SuiteOk X (b0 :: su) ts) (r : HdCl X hds l) : HdCl X (.ExceptHandler (some (.Name x np)) (some n) (b0 :: su) pos' :: hds) ((c, some i, ts) :: l)
  | bare {x : Str} {c : Value} {ts : Addr → Value → Option Addr → TS} {b0 : Stmt} {su : List Stmt} {np pos' : Pos} {hds : List ExceptHandler} {l : List Clause} (hc : Names X x c)
      (hs : SuiteOk X (b0 :: su) ts) (r : HdCl X hds l) : HdCl X (.ExceptHandler (some (.Name x np)) none (b0 :: su) pos' :: hds) ((c, none, ts) :: l)
section
variable {X : Cx} {body : List Stmt} {h0 : ExceptHandler} {hds : List ExceptHandler} {l : List Clause} {pos : Pos} {tb : WX → TS} {Wout : WX}
theorem ps_tryCl (hstk : X.stack = X.env :: X.outer) (hfrm : X.env.frame = some X.env.locals) (hnd : X.N.Nodup) (tk : Takes X Wout)
    (hbody : ∀ (W : WX) (pn : List (Addr × Obj)) (xe : Value → Shared → Prop), Takes (X.tr pn xe) W → PassesOwn (model X.prog X.w) X.A X.env xe → PSs (X.tr pn xe) body (tb W))
    (hcl : HdCl X (h0 :: hds) l) : PS X (.Try body (h0 :: hds) [] [] pos) (fun D σ H => tb (wCl X.K Wout D l) D σ H) := by
  refine ⟨fun pins s σ H D I h => ?_⟩
  have okX := I.ok
  have hframes : X.A.frames = some (X.env :: X.outer) := by rw [okX.frames, hstk]
  refine wpAny_Try_except ?_
  let caught : Value → Shared → Prop := fun e s1 => wpAny (model X.prog X.w) X.A (noteFrame e X.env) (fun _ s2 => wpAny (model X.prog X.w) X.A (setFlight e none) (fun _ s3 =>
    wpAny (model X.prog X.w) X.A (handleBy e X.env (h0 :: hds)) (SP X pins D) X.xe s3) X.xe s2) X.xe s1
  have take : Takes (X.tr (X.pn ++ pins) caught) (wCl X.K Wout D l) := by
    rintro u s' ⟨a, B, sA, pins', σ', H', cls, d, rfl, Jv', nbs, gr, sk, na, os, agr, wsh⟩
    have Jv : Inv X pins σ' H' sA := Jv'.ofTry okX
    have sky2 : Sky B (X.env :: X.outer) a (Zc cls d) X.env.locals s'.heap := by rw [← hstk]; exact sk
    show wpAny (model X.prog X.w) X.A (noteFrame (.ref a) X.env) _ _ _
    refine Sky.land Zc.steady hframes hfrm sky2 fun h3 ln3 gr3 => ?_
    have Jv3 : Inv X pins σ' H' { s' with heap := h3 } := Jv.landed nbs ln3.1 (gr.trans gr3) os agr
    obtain ⟨ob3, vl3, at3, zc3, fd3⟩ := ln3.there
    have off : a ∉ frs (X.env :: X.outer) := fun hmm => by
      obtain ⟨_, o', e', hnf⟩ := ln3.2.2.1.mem hmm
      rw [at3] at e'
      cases e'
      exact hnf _ fd3
    have offL : a ≠ X.env.locals := fun z => off (List.mem_filterMap.mpr ⟨X.env, List.mem_cons_self, by rw [hfrm, z]⟩)
    have offF : a ∉ X.fs := fun hmm => by
      obtain ⟨e, he, q⟩ := List.mem_filterMap.mp hmm
      exact off (List.mem_filterMap.mpr ⟨e, List.mem_cons_of_mem _ he, q⟩)
    have Sv3 := Jv3.suite at3 fd3 na offL offF
    have tyA : PySem.W.Looks (model X.prog X.w) h3 (typeOf (.ref a)) cls := fun A Q E s k q => wpAny_typeOf_ref (k _ _ at3) (by rw [zc3.1]; exact q)
    have look : ∀ {x : Str} {c : Value} {np : Pos} {Q : Value → Shared → Prop} {E : Value → Shared → Prop}, Names X x c → Q c { s' with heap := h3 } →
        wpAny (model X.prog X.w) (X.A.mark (some (.ref a))) (eval (.Name x np) X.env) Q E { s' with heap := h3 } := fun {x c np Q E} hc q => by
      obtain ⟨hgl, hdb, hmm | ⟨hmm, hvv, hnm⟩⟩ := hc
      · exact ld_glob (X := X.suite a ((a, ob3) :: (X.pn ++ pins))) Sv3 hgl hmm q hdb
      · exact ld_blt (X := X.suite a ((a, ob3) :: (X.pn ++ pins))) Sv3 hgl hmm hvv q hnm hdb
    have walk : ∀ {hd2 : List ExceptHandler} {l2 : List Clause}, HdCl X hd2 l2 → wCl X.K Wout D l2 cls d σ' H' → wpAny (model X.prog X.w) X.A (handleBy (.ref a) X.env hd2) (SP X pins D) X.xe { s' with heap := h3 } := by
      intro hd2 l2 hk
      induction hk with
      | nil =>
        intro wsh
        refine wpAny_handleBy_nil ?_
        obtain ⟨_, _, _, oe, vs, T, oT, ts', he, hz, hd, h1, hr⟩ := id ln3
        unfold PySem.passOn
        refine wpAny_bind (wpAny_field he hd h1 ?_)
        rw [if_neg (show ¬ ((Value.ref T == Value.none) = true) from by simp)]
        have on : wpAny (model X.prog X.w) X.A (setFlight (.ref a) X.env.frame) (fun _ s4 => wpAny (model X.prog X.w) X.A (throw (.ref a) : Sem Flow) (SP X pins D) X.xe s4) X.xe { s' with heap := h3 } := by
          rw [hfrm]
          refine HandSPX.setFlight_upZ ln3 fun h4 hh4 gr4 => wpAny_throw (tk _ _ ⟨a, B, sA, pins, σ', H', cls, d, rfl, Jv, nbs, (gr.trans gr3).trans gr4, .inr (.inr ?_), na, os, agr, wsh⟩)
          rw [hstk]; exact hh4
        first
          | exact wpAny_bind (wpAny_pure (wpAny_bind on))
          | exact wpAny_bind on
      | @named x n c i ts b0 su np pos' fd3 l3 hc hi hl hsu r ih =>
        rintro ⟨b, tells, yes, nay⟩
        have mtA := PySem.W.exm_one (M := model X.prog X.w) Jv3.kIn tyA tells
        refine wpAny_handleBy_cons (codeAny_handlers_test ?_) (by intro q; cases q)
        refine look hc (mtA.here ?_)
        cases b with
        | false => exact ih (nay rfl)
        | true =>
          refine codeAny_handlers_suite_as ?_
          refine HandSPX.lands_againZ ln3 fun h4 ln4 gr4 => ?_
          have Jv4 : Inv X pins σ' H' { s' with heap := h4 } := Jv.landed nbs ln4.1 ((gr.trans gr3).trans gr4) os agr
          obtain ⟨ob4, vl4, at4, zc4, fd4⟩ := ln4.there
          have Sv4 := Jv4.suite at4 fd4 na offL offF
          refine store_ok (X := X.suite a ((a, ob4) :: (X.pn ++ pins))) (v := .ref a) Sv4 hnd hi (show Loc X.env.scope n from .inl hl) rfl (fun st5 Sv5 => ?_) (.inr hl)
          refine wpAny_mono ((hsu a ob4 cls d (X.pn ++ pins) zc4 ⟨_, fd4⟩).run [] st5 _ H' _ Sv5 (yes rfl a na)) (fun f st6 end6 => ?_) (fun _ _ z => False.elim z)
          cases f with
          | next =>
            obtain ⟨τ6, Hq6, Sv6, qq6⟩ := end6
            exact gone_ok (Sv6.unsuite okX) hnd hi hl fun s7 Jv7 => ⟨_, _, Jv7, qq6⟩
          | brk =>
            obtain ⟨τ6, Hq6, Sv6, qq6⟩ := end6
            exact gone_ok (Sv6.unsuite okX) hnd hi hl fun s7 Jv7 => ⟨_, _, Jv7, qq6⟩
          | cont =>
            obtain ⟨τ6, Hq6, Sv6, qq6⟩ := end6
            exact gone_ok (Sv6.unsuite okX) hnd hi hl fun s7 Jv7 => ⟨_, _, Jv7, qq6⟩
          | ret u =>
            obtain ⟨vv6, τ6, Hq6, Sv6, rr6, qq6⟩ := end6
            exact gone_ok (Sv6.unsuite okX) hnd hi hl fun s7 Jv7 => ⟨_, _, _, Jv7, rr6, qq6⟩
      | @bare x c ts b0 su np pos' fd3 l3 hc hsu r ih =>
        rintro ⟨b, tells, yes, nay⟩
        have mtA := PySem.W.exm_one (M := model X.prog X.w) Jv3.kIn tyA tells
        refine wpAny_handleBy_cons (codeAny_handlers_test ?_) (by intro q; cases q)
        refine look hc (mtA.here ?_)
        cases b with
        | false => exact ih (nay rfl)
        | true =>
          refine codeAny_handlers_suite ?_
          refine HandSPX.lands_againZ ln3 fun h4 ln4 gr4 => ?_
          have Jv4 : Inv X pins σ' H' { s' with heap := h4 } := Jv.landed nbs ln4.1 ((gr.trans gr3).trans gr4) os agr
          obtain ⟨ob4, vl4, at4, zc4, fd4⟩ := ln4.there
          have Sv4 := Jv4.suite at4 fd4 na offL offF
          refine wpAny_mono ((hsu a ob4 cls d (X.pn ++ pins) zc4 ⟨_, fd4⟩).run [] _ _ H' _ Sv4 (yes rfl a na)) (fun f st6 end6 => ?_) (fun _ _ z => False.elim z)
          cases f with
          | ret u =>
            obtain ⟨vv6, τ6, Hq6, Sv6, rr6, qq6⟩ := end6
            exact ⟨_, _, _, Sv6.unsuite okX, rr6, qq6⟩
          | _ =>
            all_goals (obtain ⟨τ6, Hq6, Sv6, qq6⟩ := end6; exact ⟨_, _, Sv6.unsuite okX, qq6⟩)
    exact walk hcl wsh
  refine wpAny_mono ((hbody (wCl X.K Wout D l) (X.pn ++ pins) caught take PassesOwn.looking).run [] s σ H D (I.toTry _) h) (fun f s1 end6 => ?_) (fun e s1 he => he)
  cases f with
  | next =>
    obtain ⟨σ', H', Jv', q⟩ := end6
    exact wpAny_execs_nil ⟨σ', H', Jv'.ofTry okX, q⟩
  | ret u =>
    obtain ⟨v, σ', H', Jv', r, q⟩ := end6
    exact ⟨v, σ', H', Jv'.ofTry okX, r, q⟩
  | _ => all_goals (obtain ⟨σ', H', Jv', q⟩ := end6; exact ⟨σ', H', Jv'.ofTry okX, q⟩)
end
end Mi

set_option Elab.async false
set_option linter.all false
set_option maxRecDepth 100000
set_option maxHeartbeats 4000000
/-! Mi, part D: readings. -/
namespace Mi
open PySem PySem.Spec PyProof.Rows L2

/-! ### what is read of a value -/
def RepT (G : GE) (ρ : List Addr) (H : Hp) (M : List Addr) : D → V → Prop
  | .lst ds, v => ∃ a vs, v = .ref a ∧ H a = some (.lst vs) ∧ RepDs G ρ H M ds vs
  | .dic ks ds, v => ∃ a vs, v = .ref a ∧ Rd H a (.dK (ks.zip vs)) ∧ ks.length = vs.length ∧ RepDs G ρ H M ds vs
  | .ins c fs ds, v => ∃ a C dx vs, v = .ref a ∧ G.cls c = some C ∧ H a = some (.ins C dx (fs.zip vs)) ∧ fs.length = vs.length ∧ RepDs G ρ H M ds vs
  | .scr ns, v => ∃ a, v = .ref a ∧ SqL G.K H a (ns.map V.int)
  | d, v => RepD G ρ H M d v
section
variable {G : GE} {ρ : List Addr} {H : Hp} {M : List Addr} {h : List O} {L : List (O × V)}
theorem RepD.view : ∀ {d : D} {v : V}, RepD G ρ H M d v → RepT G ρ H M d v
  | .non, v, h => h
  | .bl b, v, h => h
  | .int i, v, h => h
  | .str x, v, h => h
  | .tup ds, v, h => h
  | .lst ds, v, h => by obtain ⟨a, vs, e, t, n, r⟩ := h; exact ⟨a, vs, e, t, r⟩
  | .dic ks ds, v, h => by obtain ⟨a, vs, e, t, l, n, r⟩ := h; exact ⟨a, vs, e, t, l, r⟩
  | .ins c fs ds, v, h => by obtain ⟨a, C, dx, vs, e, g, t, l, n, r⟩ := h; exact ⟨a, C, dx, vs, e, g, t, l, r⟩
  | .loc n, v, h => h
  | .fn f, v, h => h
  | .scr ns, v, h => by
    obtain ⟨a, e, t | t⟩ := h
    · exact ⟨a, e, .inl t.1⟩
    · exact ⟨a, e, .inr t⟩
  | .ty n, v, h => h
  | .cls c, v, h => h
  | .xn c f d, v, h => h
  | .lk o kvs, v, h => h
theorem Own.view {o : O} {v : V} {A : List Addr} (w : Own G ρ H M o v A) : RepT G ρ H M (Mi.frz o) v := by
  cases o with
  | fz d => exact w.1.view
  | lst ds => obtain ⟨a, vs, e, t, r, f⟩ := w; exact ⟨a, vs, e, t, r⟩
  | dic ks ds => obtain ⟨a, vs, e, t, l, r, f⟩ := w; exact ⟨a, vs, e, .inl t, l, r⟩
  | ins c fs ds => obtain ⟨a, C, dx, vs, e, g, t, l, r, f⟩ := w; exact ⟨a, C, dx, vs, e, g, t, l, r⟩
theorem Owns.mem : ∀ {L : List (O × V)} {F : List Addr} {p : O × V}, Owns G ρ H M L F → p ∈ L → ∃ A, Own G ρ H M p.1 p.2 A
  | [], _, _, _, hp => by simp at hp
  | q :: L, F, p, w, hp => by
    obtain ⟨A, B, e, h1, h2⟩ := w
    rcases List.mem_cons.mp hp with z | z
    · subst z; exact ⟨A, h1⟩
    · exact Owns.mem h2 z
theorem Cp.view {o : O} {v : V} {d : D} (c : Cp G ρ H M h L) (hp : (o, v) ∈ L) (e : deref h (frz o) = some d) : RepT G ρ H M d v := by
  obtain ⟨A, w⟩ := Owns.mem c.2.1 (List.mem_append_right _ hp)
  have q := w.view
  have gen : ∀ d0, deref h d0 = some d → RepT G ρ H M d0 v → RepT G ρ H M d v := by
    intro d0 e0 q0
    cases d0 with
    | loc n =>
      simp only [deref, Option.map_eq_some_iff] at e0
      obtain ⟨o', ho, eo⟩ := e0
      obtain ⟨a, ev, er⟩ := q0
      obtain ⟨X, Y, q1, q2⟩ := zip_at ho er
      obtain ⟨A', w'⟩ := Owns.mem (p := (o', .ref a)) c.2.1 (List.mem_append_left _ (by rw [q1]; simp))
      rw [ev, ← eo]
      exact w'.view
    | _ => all_goals (simp only [deref, Option.some.injEq] at e0; subst e0; exact q0)
  exact gen _ e q
/-- what is owned is a list, a dict or an instance -/
theorem Own.kind {o : O} {v : V} {F : List Addr} (w : Own G ρ H M o v F) : ∀ b ∈ F, ∃ x, H b = some x ∧ Mut (some x) := by
  cases o with
  | fz d => rw [w.2]; intro b hb; simp at hb
  | lst ds => obtain ⟨a, vs, e, t, r, f⟩ := w; rw [f]; intro b hb; simp at hb; subst hb; exact ⟨_, t, trivial⟩
  | dic ks ds => obtain ⟨a, vs, e, t, l, r, f⟩ := w; rw [f]; intro b hb; simp at hb; subst hb; exact ⟨_, t, trivial⟩
  | ins c fs ds => obtain ⟨a, C, dx, vs, e, g, t, l, r, f⟩ := w; rw [f]; intro b hb; simp at hb; subst hb; exact ⟨_, t, trivial⟩
theorem Owns.kind : ∀ {L : List (O × V)} {F : List Addr}, Owns G ρ H M L F → ∀ b ∈ F, ∃ x, H b = some x ∧ Mut (some x)
  | [], F, w, b, hb => by rw [show F = [] from w] at hb; simp at hb
  | p :: ps, F, w, b, hb => by
    obtain ⟨A, B, e, h1, h2⟩ := w
    subst e
    rcases List.mem_append.mp hb with hb | hb
    · exact h1.kind b hb
    · exact Owns.kind h2 b hb
theorem Cp.tupF {a : Addr} {vs : List V} {ds : List D} (c : Cp G ρ H M h L) (t : Tr G H M a vs) (r : RepDs G ρ H M ds vs) : Cf G H h ((.fz (.tup ds), .ref a) :: L) :=
  Cf.fz1.mpr ⟨ρ, M, c, a, vs, rfl, t, r⟩
theorem mem_ow {o : O} {v : V} : ∀ {Φ : List (R × V)}, (R.own o, v) ∈ Φ → (o, v) ∈ ow Φ
  | (.own o', v') :: r, hp => by
    rcases List.mem_cons.mp hp with z | z
    · injection z with z1 z2; injection z1 with z1; subst z1; subst z2; simp [ow]
    · exact List.mem_cons_of_mem _ (mem_ow z)
  | (.bor _, _) :: r, hp => by
    rcases List.mem_cons.mp hp with z | z
    · cases z
    · exact mem_ow (Φ := r) z
/-- what is peeked at is read -/
theorem CfS.peek {σr : Sr} {s : S} {Φ : List (R × V)} {r : R} {v : V} {d : D} (c : CfS G σr H s Φ) (hp : (r, v) ∈ Φ) (e : peek s r = some d) (cp : Cp G ρ H M s.h (slp s.σ σr ++ ow Φ)) : RepT G ρ H M d v := by
  cases r with
  | own o => exact cp.view (List.mem_append_right _ (mem_ow hp)) e
  | bor i =>
    simp only [Mi.peek] at e
    split at e
    · rename_i o eo
      obtain ⟨X, Y, q1, q2⟩ := slp_at eo (c.bo i v hp)
      exact cp.view (List.mem_append_left _ (by rw [q1]; simp)) e
    · cases e
theorem CfS.parts {σr : Sr} {s : S} {Φ : List (R × V)} (c : CfS G σr H s Φ) : ∃ ρ M, Cp G ρ H M s.h (slp s.σ σr ++ ow Φ) := c.cf
/-- something new beside what is at hand -/
theorem CfS.more {σr : Sr} {s : S} {K Φ : List (R × V)} {H' : Hp} {o : O} {v : V} (c : CfS G σr H s (K ++ Φ)) (q : Cf G H' s.h ((o, v) :: (slp s.σ σr ++ ow (K ++ Φ)))) : CfS G σr H' s ((.own o, v) :: Φ) := by
  refine ⟨c.sl, fun i w z => ?_, ?_⟩
  · rcases List.mem_cons.mp z with z | z
    · cases z
    · exact c.bo i w (List.mem_append_right _ z)
  · show Cf G H' s.h (slp s.σ σr ++ (o, v) :: ow Φ)
    rw [ow_append] at q
    have q2 : Cf G H' s.h (ow K ++ ((o, v) :: (slp s.σ σr ++ ow Φ))) := q.perm (by
      rw [← List.append_assoc]
      refine List.Perm.trans (List.Perm.cons _ (List.perm_append_comm.append_right _)) ?_
      rw [List.append_assoc]
      exact List.perm_middle.symm)
    exact (Cf.dropN q2).perm List.perm_middle.symm
theorem CfS.cpMore {σr : Sr} {s : S} {K Φ : List (R × V)} {d : D} {v : V} (c : CfS G σr H s (K ++ Φ)) (cp : Cp G ρ H M s.h (slp s.σ σr ++ ow (K ++ Φ))) (r : RepD G ρ H M d v) : CfS G σr H s ((.own (.fz d), v) :: Φ) :=
  c.more (Cf.fz1.mpr ⟨ρ, M, cp, r⟩)
end

/-! ### readings -/
/-- an exception on its way -/
def ExR (G : GE) (σr : Sr) (H : Hp) (s : S) (Φ : List (R × V)) (c : Str) (d : D) (cls : Value) (dx : Option Addr) : Prop :=
  ∃ C f a v, cls = .ref C ∧ G.exc c = some (C, f) ∧ dx = some a ∧ H a = some (.xd [(f, v)]) ∧ CfS G σr H s ((.own (.fz d), v) :: Φ)
def Aft (G : GE) (W : WX) (σr : Sr) (Φ : List (R × V)) {α : Type} (P : α → S → Prop) : Out α → Prop
  | .ok a s => P a s
  | .exc c d s => ∀ cls dx H, ExR G σr H s Φ c d cls dx → W cls dx σr H
  | .bad => False
section
variable {G : GE} {W : WX} {σr : Sr} {Φ K : List (R × V)} {α β : Type} {P P' : α → S → Prop}
theorem Aft.mono {x : Out α} (a : Aft G W σr Φ P x) (f : ∀ y s, P y s → P' y s) : Aft G W σr Φ P' x := by
  cases x with
  | ok y s => exact f _ _ a
  | exc c d s => exact a
  | bad => exact a
theorem Aft.bind {Pb : β → S → Prop} {x : Out α} {k : α → S → Out β} (a : Aft G W σr Φ Pb (x.bind k)) : Aft G W σr Φ (fun y s => Aft G W σr Φ Pb (k y s)) x := by
  cases x with
  | ok y s => exact a
  | exc c d s => exact a
  | bad => exact a
theorem Aft.frame {x : Out α} (a : Aft G W σr Φ P x) : Aft G W σr (K ++ Φ) P x := by
  cases x with
  | ok y s => exact a
  | exc c d s =>
    rintro cls dx H ⟨C, f, b, v, e1, e2, e3, e4, c5⟩
    refine a cls dx H ⟨C, f, b, v, e1, e2, e3, e4, ?_⟩
    have c6 : CfS G σr H s (K ++ (.own (.fz d), v) :: Φ) := c5.perm (List.perm_middle.symm)
    exact c6.dropN
  | bad => exact a
theorem Aft.frame1 {p : R × V} {x : Out α} (a : Aft G W σr Φ P x) : Aft G W σr (p :: Φ) P x := Aft.frame (K := [p]) a
theorem Aft.lift {s : S} {x : Option α} (a : Aft G W σr Φ P (lift s x)) : ∃ y, x = some y ∧ P y s := by
  cases x with
  | none => exact a.elim
  | some y => exact ⟨y, rfl, a⟩
end
/-- what is wanted of an expression's value -/
abbrev PV (G : GE) (σr : Sr) (Φ : List (R × V)) (Q : VK) : R → S → Prop := fun r s => ∀ v H, CfS G σr H s ((r, v) :: Φ) → Q v H
def tE (G : GE) (W : WX) (call : Call) (m : E) : TE := fun σr H Q => ∃ s Φ, CfS G σr H s Φ ∧ Aft G W σr Φ (PV G σr Φ Q) (m call s)
abbrev PB (G : GE) (σr : Sr) (Φ : List (R × V)) (Q : Bool → Hp → Prop) : Bool → S → Prop := fun b s => ∀ H, CfS G σr H s Φ → Q b H
def tB_ (G : GE) (W : WX) (call : Call) (m : B) : TT := fun σr H Q => ∃ s Φ, CfS G σr H s Φ ∧ Aft G W σr Φ (PB G σr Φ Q) (m call s)
/-- frozen values at hand -/
def FzR (ds : List D) (vs : List V) : List (R × V) := List.zipWith (fun d v => (R.own (.fz d), v)) ds vs
abbrev PL (G : GE) (σr : Sr) (Φ : List (R × V)) (Q : List V → Hp → Prop) : List D → S → Prop := fun ds s => ∀ vs H, ds.length = vs.length → CfS G σr H s (FzR ds vs ++ Φ) → Q vs H
def tL (G : GE) (W : WX) (call : Call) (m : As) : TA := fun σr H Q => ∃ s Φ, CfS G σr H s Φ ∧ Aft G W σr Φ (PL G σr Φ Q) (m call s)

theorem _root_.L2.PE.of {X : Cx} {e : Expr} {t t' : TE} (h : PE X e t') (i : ∀ σ H Q, t σ H Q → t' σ H Q) : PE X e t := ⟨fun pins s σ H Q I q => h.run pins s σ H Q I (i σ H Q q)⟩
theorem _root_.L2.PT.of {X : Cx} {e : Expr} {t t' : TT} (h : PT X e t') (i : ∀ σ H Q, t σ H Q → t' σ H Q) : PT X e t := ⟨fun pins s σ H Q I q => h.run pins s σ H Q I (i σ H Q q)⟩
theorem _root_.L2.PA.of {X : Cx} {e : List Expr} {t t' : TA} (h : PA X e t') (i : ∀ σ H Q, t σ H Q → t' σ H Q) : PA X e t := ⟨fun pos pins s σ H Q I q => h.run pos pins s σ H Q I (i σ H Q q)⟩

/-! ### operations by what they read -/
def r1 (G : GE) (f : D → Option O) : V → Hp → VK → Prop := fun x H Q => ∃ ρ M h L d o, Cp G ρ H M h L ∧ RepT G ρ H M d x ∧ f d = some o ∧ ∀ v H', Cf G H' h ((o, v) :: L) → Q v H'
def r2 (G : GE) (f : D → D → Option O) : R2 := fun x y H Q => ∃ ρ M h L d1 d2 o, Cp G ρ H M h L ∧ RepT G ρ H M d1 x ∧ RepT G ρ H M d2 y ∧ f d1 d2 = some o ∧ ∀ v H', Cf G H' h ((o, v) :: L) → Q v H'
/-- two values read, a value made -/
def mTwo (f : D → D → Option O) (a b : E) : E := fun call s => (a call s).bind fun x s1 => (b call s1).bind fun y s2 => lift s2 ((peek s2 x).bind fun d1 => (peek s2 y).bind fun d2 => (f d1 d2).map R.own)
def mOne (f : D → Option O) (a : E) : E := fun call s => (a call s).bind fun x s1 => lift s1 ((peek s1 x).bind fun d1 => (f d1).map R.own)
section
variable {G : GE} {W : WX} {call : Call}
theorem tOne {f : D → Option O} {a : E} {σr : Sr} {H : Hp} {Q : VK} (h : tE G W call (mOne f a) σr H Q) : tE G W call a σr H fun x H1 => r1 G f x H1 Q := by
  obtain ⟨s, Φ, c, h⟩ := h
  refine ⟨s, Φ, c, (Aft.bind h).mono fun x s1 h1 => fun v H1 c1 => ?_⟩
  obtain ⟨y, e, q⟩ := Aft.lift h1
  simp only [Option.bind_eq_some_iff, Option.map_eq_some_iff] at e
  obtain ⟨d1, e1, o, eo, ey⟩ := e
  subst ey
  obtain ⟨ρ, M, cp⟩ := c1.parts
  exact ⟨ρ, M, _, _, d1, o, cp, c1.peek (by simp) e1 cp, eo, fun w H2 c2 => q w H2 (CfS.more (K := [(x, v)]) c1 c2)⟩
theorem tTwo {f : D → D → Option O} {a b : E} {σr : Sr} {H : Hp} {Q : VK} (h : tE G W call (mTwo f a b) σr H Q) : tE G W call a σr H fun x H1 => tE G W call b σr H1 fun y H2 => r2 G f x y H2 Q := by
  obtain ⟨s, Φ, c, h⟩ := h
  refine ⟨s, Φ, c, (Aft.bind h).mono fun x s1 h1 => fun v1 H1 c1 => ⟨s1, _, c1, ((Aft.bind h1).frame1).mono fun y s2 h2 => fun v2 H2 c2 => ?_⟩⟩
  obtain ⟨z, e, q⟩ := Aft.lift h2
  simp only [Option.bind_eq_some_iff, Option.map_eq_some_iff] at e
  obtain ⟨d1, e1, d2, e2, o, eo, ey⟩ := e
  subst ey
  obtain ⟨ρ, M, cp⟩ := c2.parts
  exact ⟨ρ, M, _, _, d1, d2, o, cp, c2.peek (by simp) e1 cp, c2.peek (by simp) e2 cp, eo, fun w H3 c3 => q w H3 (CfS.more (K := [(y, v2), (x, v1)]) c2 c3)⟩
variable {X : Cx}
theorem pe_bin {f : D → D → Option O} {op : Operator} {a b : Expr} {ma mb : E} {pos : Pos} (ho : OpR X (binaryOp op) (r2 G f)) (ha : PE X a (tE G W call ma)) (hb : PE X b (tE G W call mb)) : PE X (.BinOp a op b pos) (tE G W call (mTwo f ma mb)) :=
  (pe_op ho ha hb).of fun σ H Q h => tTwo h
theorem pe_una {f : D → Option O} {op : UnaryOp} {a : Expr} {ma : E} {pos : Pos} (ho : UnR X (unaryOp op) (r1 G f)) (ha : PE X a (tE G W call ma)) : PE X (.UnaryOp op a pos) (tE G W call (mOne f ma)) :=
  (pe_un ho ha).of fun σ H Q h => tOne h
theorem pe_cmp1 {f : D → D → Option O} {op : CmpOp} {a b : Expr} {ma mb : E} {pos : Pos} (ho : OpR X (compareOp op) (r2 G f)) (ha : PE X a (tE G W call ma)) (hb : PE X b (tE G W call mb)) (hm : behindInMarks op b = false) : PE X (.Compare a [op] [b] pos) (tE G W call (mTwo f ma mb)) :=
  (pe_cmpR ho ha hb hm).of fun σ H Q h => tTwo h
theorem pe_sub1 {f : D → D → Option O} {a b : Expr} {ma mb : E} {pos : Pos} (ho : IxR X (r2 G f)) (ha : PE X a (tE G W call ma)) (hb : PE X b (tE G W call mb)) (hs : PlainIx b) : PE X (.Subscript a b pos) (tE G W call (mTwo f ma mb)) :=
  (pe_ix ho ha hb hs).of fun σ H Q h => tTwo h
end
end Mi

set_option Elab.async false
set_option linter.all false
set_option maxRecDepth 100000
set_option maxHeartbeats 4000000
/-! Mi, part E: names, constants, displays, tests, calls. -/
namespace Mi
open PySem PySem.Spec PyProof.Rows L2

/-! ### what a def promises -/
def AftR (G : GE) (Φ : List (O × V)) (Q : VK) (E : XK) : Res → Prop
  | .ok o h => ∀ v H, Cf G H h ((o, v) :: Φ) → Q v H
  | .exc c d h => ∀ C f a v H, G.exc c = some (C, f) → H a = some (.xd [(f, v)]) → Cf G H h ((.fz d, v) :: Φ) → E (.ref C) (some a) H
  | .bad => False
def spC (G : GE) (call : Call) (f : Str) (n : Nat) : Sp := fun vs H Q E => vs.length = n ∧ ∃ h Φ ds, ds.length = vs.length ∧ Cf G H h (Fz ds vs ++ Φ) ∧ AftR G Φ Q E (call f ds h)

/-- the built-in names that are taken as such -/
def blts : List Str := ["len", "isinstance", "all", "any", "enumerate", "range", "max", "min", "sum", "abs", "int", "str", "tuple", "list", "dict", "sorted", "repr", "zip", "set", "bool", "ValueError", "KeyError", "RuntimeError", "OverflowError", "TypeError", "iter", "reversed"]
/-- what is known when a def is turned: its names by slots, its scope, the module's simple constants -/
structure CC where
  N : List Str
  sc : Scope
  con : Str → Option D
  fns : List Str
  top : Bool
  bare : Bool
  /-- the defs whose new container is put into a cell -/
  cells : List Str
  /-- the exceptions -/
  exs : List (Str × Str) := []
  /-- the classes' fields, the classes that are made, the methods that are called -/
  flds : List (Str × Str) := []
  news : List Str := []
  mths : List (Str × Str) := []
  /-- which exception is an instance of what -/
  isx : List (Str × Str × Bool) := []
/-- the name of a method among the defs -/
def mkey (c m : Str) : Str := c ++ ("." : Str) ++ m
/-- what is known of a frame, be an exception handled or not -/
structure GoodB (G : GE) (cc : CC) (X : Cx) : Prop where
  N : X.N = cc.N
  bare : G.bare = cc.bare
  nd : cc.N.Nodup
  sc : X.env.scope = cc.sc
  K : X.K = G.K
  units : X.A.units + 64 < cLine
  blt : ∀ x ∈ blts, X.mg x = none
  con : ∀ x d v, cc.con x = some d → simple d = some v → ∃ u, X.mg x = some u ∧ RelV v u
  exs : ∀ c f, (c, f) ∈ cc.exs → ∃ C, G.exc c = some (C, f)
  xr : ∀ c C f, G.exc c = some (C, f) → XRow X.K X.mg c C f
  sub : ∀ c C f c' C' f', G.exc c = some (C, f) → G.exc c' = some (C', f') → PySem.W.exmOne X.K (.ref C) (.ref C') = some (decide (c = c'))
  cls : ∀ c C, G.cls c = some C → L2.Cls X.K C ∧ X.mg c = some (.ref C)
  fld : ∀ c C f, G.cls c = some C → (c, f) ∈ cc.flds → NoAttr X.K C f
  isx : ∀ c C f nm b, G.exc c = some (C, f) → (c, nm, b) ∈ cc.isx → ExcC X.K C ∧ ∃ u cv, RelV u cv ∧ (∀ w, RelV u w → w = cv) ∧ ((X.mg nm = some cv) ∨ (X.mg nm = none ∧ bootBuiltins nm = some cv ∧ nm ≠ "__name__")) ∧ PySem.W.kitOne X.K (.ref C) cv = some b
  cur : ∀ a a' C, G.cur = some (a, a', C) → ∃ oe, (a, oe) ∈ X.pn ∧ oe.cls = .ref C ∧ oe.dict = some a' ∧ ∃ vs, oe.data = .fields vs
structure Good (G : GE) (k : Nat) (call : Call) (cc : CC) (W : WX) (X : Cx) : Prop extends GoodB G cc X where
  calm : X.calm = true
  cold : G.cur = none
  tk : Takes X W
  room : Room (2 * k + 3) X.A
  fn : cc.top = true → ∀ x, X.fn x = true
  po : PassesOwn (model X.prog X.w) X.A X.env X.xe
  stk : cc.top = true → X.stack = X.env :: X.outer ∧ X.env.frame = some X.env.locals
  fns : ∀ f ∈ cc.fns, ∃ a fd ps, G.fns f = some a ∧ X.mg f = some (.ref a) ∧ PySem.W.keepIn X.K (.ref a) = true ∧ Binds X.K fd ps [] ∧ FnOk X.prog X.w X.K X.mg X.base (L2.CX X.prog X.w) (2 * k + 2) a fd ps (spC G call f ps.length) ∧
    ∀ ds h, ds.length ≠ ps.length → call f ds h = .bad
  news : ∀ c ∈ cc.news, ∃ C a fd ps, G.cls c = some C ∧ Mk X.K C a ∧ Binds X.K fd ps [] ∧ FnOk X.prog X.w X.K X.mg X.base (L2.CX X.prog X.w) (2 * k + 2) a fd ps (spC G call (mkey c "__init__") ps.length) ∧ ∀ ds h, ds.length ≠ ps.length → call (mkey c "__init__") ds h = .bad
  mths : ∀ c m, (c, m) ∈ cc.mths → ∃ C a fd ps, G.cls c = some C ∧ Meth X.K C m a ∧ Binds X.K fd ps [] ∧ FnOk X.prog X.w X.K X.mg X.base (L2.CX X.prog X.w) (2 * k + 2) a fd ps (spC G call (mkey c m) ps.length) ∧ ∀ ds h, ds.length ≠ ps.length → call (mkey c m) ds h = .bad

section
variable {G : GE} {k : Nat} {call : Call} {cc : CC} {W : WX} {X : Cx}

/-! ### names and constants -/
def mVar (i : Nat) : E := fun _ s => match s.σ[i]? with
  | some (some _) => .ok (.bor i) s
  | _ => .bad
theorem e_var (g : GoodB G cc X) {i : Nat} {x : Str} {pos : Pos} (hi : cc.N[i]? = some x) (hv : Vis cc.sc x) (hd : (x == ("__debug__" : Str)) = false) (hcd : (x == ("__classdict__" : Str)) = false) : PE X (.Name x pos) (tE G W call (mVar i)) := by
  refine (pe_var (i := i) (by rw [g.N]; exact hi) (by rw [g.sc]; exact hv) hd hcd).of fun σ H Q h => ?_
  obtain ⟨s, Φ, c, a⟩ := h
  unfold mVar at a
  split at a
  · rename_i o e
    obtain ⟨v, ev, c'⟩ := c.name e
    exact ⟨v, ev, a v H c'⟩
  · exact a.elim
def mCon (d : D) : E := fun _ s => .ok (.own (.fz d)) s
theorem CfS.simple {σr : Sr} {H : Hp} {s : S} {Φ : List (R × V)} {d : D} {v : V} (c : CfS G σr H s Φ) (e : simple d = some v) : CfS G σr H s ((.own (.fz d), v) :: Φ) :=
  CfS.more (K := []) c (c.cf.simple e)
theorem tCon {d : D} {v : V} (e : simple d = some v) {σr : Sr} {H : Hp} {Q : VK} (h : tE G W call (mCon d) σr H Q) : tC v σr H Q := by
  obtain ⟨s, Φ, c, a⟩ := h
  exact a v H (c.simple e)
theorem e_int {i : Int} {j : Nat} {pos : Pos} : PE X (.Constant (.int i) j pos) (tE G W call (mCon (.int i))) := pe_int.of fun σ H Q h => tCon rfl h
theorem e_bl {i : Bool} {j : Nat} {pos : Pos} : PE X (.Constant (.bool i) j pos) (tE G W call (mCon (.bl i))) := pe_bl.of fun σ H Q h => tCon rfl h
theorem e_str {i : Str} {j : Nat} {pos : Pos} : PE X (.Constant (.str i) j pos) (tE G W call (mCon (.str i))) := pe_str.of fun σ H Q h => tCon rfl h
theorem e_non {j : Nat} {pos : Pos} : PE X (.Constant .none j pos) (tE G W call (mCon .non)) := pe_non.of fun σ H Q h => tCon rfl h
theorem e_glo (g : GoodB G cc X) {x : Str} {d : D} {v : V} {pos : Pos} (hg : cc.sc.names.lookup x = some .globalImplicit) (hc : cc.con x = some d) (hs : simple d = some v) (hd : (x == ("__debug__" : Str)) = false) : PE X (.Name x pos) (tE G W call (mCon d)) := by
  obtain ⟨u, hu, r⟩ := g.con x d v hc hs
  exact (pe_glob (by show X.env.scope.names.lookup x = _; rw [g.sc]; exact hg) hu r hd).of fun σ H Q h => tCon hs h
theorem GoodB.gl (g : GoodB G cc X) {x : Str} (hg : cc.sc.names.lookup x = some .globalImplicit) : Gl X x := by
  show X.env.scope.names.lookup x = _; rw [g.sc]; exact hg

/-! ### argument lists -/
def notStar : Expr → Bool
  | .Starred _ _ => false
  | _ => true
theorem star_cons {e : Expr} {es : List Expr} {env : Env} (h : notStar e = true) : starEach (e :: es) env = (false, eval e env) :: starEach es env := by
  cases e <;> first | rfl | cases h
theorem star_any {pos : Pos} {env : Env} : ∀ {es : List Expr}, es.all notStar = true → (backTo pos (starEach es env)).any (·.1) = false
  | [], _ => rfl
  | e :: es, h => by
    simp only [List.all_cons, Bool.and_eq_true] at h
    rw [star_cons h.1]
    show ((false : Bool) || (backTo pos (starEach es env)).any (·.1)) = false
    rw [star_any h.2]; rfl
def aNil : As := fun _ s => .ok [] s
def aCons (a : E) (r : As) : As := fun call s => (a call s).bind fun x s1 => match take s1 x with
  | some (d, s2) => (r call s2).bind fun ds s3 => .ok (d :: ds) s3
  | none => .bad
theorem a_nil : PA X [] (tL G W call aNil) := pa_nil.of fun σ H Q h => by
  obtain ⟨s, Φ, c, a⟩ := h
  exact a [] H rfl c
theorem a_cons {e : Expr} {es : List Expr} {m : E} {r : As} (he : PE X e (tE G W call m)) (hr : PA X es (tL G W call r)) (hn : notStar e = true) : PA X (e :: es) (tL G W call (aCons m r)) := by
  refine (pa_cons he hr (star_cons hn)).of fun σ H Q h => ?_
  obtain ⟨s, Φ, c, a⟩ := h
  refine ⟨s, Φ, c, (Aft.bind a).mono fun x s1 a1 => fun v H1 c1 => ?_⟩
  split at a1
  · rename_i d s2 et
    have c2 := c1.take et
    refine ⟨s2, _, c2, ((Aft.bind a1).frame1).mono fun ds s3 a3 => fun vs H3 l c3 => ?_⟩
    refine a3 (v :: vs) H3 (by simp [l]) ?_
    exact c3.perm (List.perm_middle)
  · exact a1.elim

/-! ### displays -/
theorem ow_fz : ∀ {ds : List D} {vs : List V}, ow (FzR ds vs) = Fz ds vs
  | [], _ => by simp [FzR, Fz, ow]
  | _ :: _, [] => by simp [FzR, Fz, ow]
  | d :: ds, v :: vs => by
    show (O.fz d, v) :: ow (FzR ds vs) = (O.fz d, v) :: Fz ds vs
    rw [ow_fz]
theorem nob_fz : ∀ {ds : List D} {vs : List V} {i : Nat} {v : V}, (R.bor i, v) ∉ FzR ds vs
  | [], _, _, _ => by simp [FzR]
  | _ :: _, [], _, _ => by simp [FzR]
  | d :: ds, v :: vs, i, w => by
    show (R.bor i, w) ∉ (R.own (.fz d), v) :: FzR ds vs
    intro h
    rcases List.mem_cons.mp h with h | h
    · cases h
    · exact nob_fz h
/-- frozen values at hand become one -/
theorem CfS.pack {σr : Sr} {H H' : Hp} {s : S} {Φ : List (R × V)} {ds : List D} {vs : List V} {o : O} {v : V} (c : CfS G σr H s (FzR ds vs ++ Φ)) (f : ∀ L, Cf G H s.h (Fz ds vs ++ L) → Cf G H' s.h ((o, v) :: L)) : CfS G σr H' s ((.own o, v) :: Φ) :=
  c.by_ (fun i w q => by
    rcases List.mem_cons.mp q with q | q
    · cases q
    · exact List.mem_append_right _ q) fun L q => by
    rw [ow_append, ow_fz, List.append_assoc] at q
    exact f _ q
def fitsB (n : Nat) : Bool := decide (n ≤ 100000)
theorem fits {n : Nat} (h : fitsB n = true) : n ≤ sizeLine := Nat.le_trans (of_decide_eq_true h) (by decide)
def mTup (r : As) : E := fun call s => (r call s).bind fun ds s1 => if fitsB ds.length then .ok (.own (.fz (.tup ds))) s1 else .bad
def mLst (r : As) : E := fun call s => (r call s).bind fun ds s1 => if fitsB ds.length then .ok (.own (.lst ds)) s1 else .bad
/-- a tuple that bears no dict, told so -/
theorem pe_tupB {es : List Expr} {t : TA} {n : Nat} {pos : Pos} (h : PA X es t) : PE X (.Tuple es n pos) (fun σ H Q => t σ H fun xs H1 => xs.length ≤ sizeLine ∧ ∀ p ob, ob.dict = none → H1 p = none → Q (.ref p) (upd H1 p (.frz ob (.tup xs)))) := by
  refine ⟨fun pins s σ H Q I hq => ?_⟩
  refine wpAny_Tuple_spliced (thn (h.run pos pins s σ H _ I hq) fun us s1 ⟨xs, H1, I1, r, z, q⟩ => ⟨by rw [← r.length]; exact z, ?_⟩)
  have hf : H1 s1.heap.objs.size = none := I1.hok.fresh (Nat.le_refl _)
  refine ⟨.ref s1.heap.objs.size, upd H1 s1.heap.objs.size (.frz { cls := .type "tuple", data := .seq us.toArray } (.tup xs)), I1.laid (t' := s1.toks) (fun b u e => Heap.get?_push_of_some _ e) (Nat.le_refl _) ?_, rfl, q _ _ rfl hf⟩
  exact ⟨Heap.get?_push_size _ rfl, z, us, r, ⟨_, Heap.get?_push_size _ rfl, rfl, _, rfl⟩⟩
theorem e_tup {es : List Expr} {r : As} {n : Nat} {pos : Pos} (h : PA X es (tL G W call r)) : PE X (.Tuple es n pos) (tE G W call (mTup r)) := by
  cases hb : G.bare with
  | false =>
    refine (pe_tup h).of fun σ H Q q => ?_
    obtain ⟨s, Φ, c, a⟩ := q
    refine ⟨s, Φ, c, (Aft.bind a).mono fun ds s1 a1 => fun vs H1 l c1 => ?_⟩
    split at a1
    · rename_i hf
      exact ⟨by rw [← l]; exact fits hf, fun p hp => a1 _ _ (c1.pack fun L q => Cf.newTup l q hp ⟨hb, rfl⟩)⟩
    · exact a1.elim
  | true =>
    refine (pe_tupB h).of fun σ H Q q => ?_
    obtain ⟨s, Φ, c, a⟩ := q
    refine ⟨s, Φ, c, (Aft.bind a).mono fun ds s1 a1 => fun vs H1 l c1 => ?_⟩
    split at a1
    · rename_i hf
      exact ⟨by rw [← l]; exact fits hf, fun p ob ho hp => a1 _ _ (c1.pack fun L q => Cf.newTup l q hp ⟨rfl, fun _ => ho⟩)⟩
    · exact a1.elim
theorem e_lst {es : List Expr} {r : As} {pos : Pos} (h : PA X es (tL G W call r)) : PE X (.List es pos) (tE G W call (mLst r)) := by
  refine (pe_lst h).of fun σ H Q q => ?_
  obtain ⟨s, Φ, c, a⟩ := q
  refine ⟨s, Φ, c, (Aft.bind a).mono fun ds s1 a1 => fun vs H1 l c1 => ?_⟩
  split at a1
  · rename_i hf
    exact ⟨by rw [← l]; exact fits hf, fun p hp => a1 _ _ (c1.pack fun L q => Cf.newLst l q hp)⟩
  · exact a1.elim

/-! ### truth -/
def truD : D → Option Bool
  | .non => some false
  | .bl b => some b
  | .int i => some (i != 0)
  | .str x => if fitsB x.length then some ((x.length : Int) != 0) else none
  | .tup ds => some (!ds.isEmpty)
  | .lst ds => some (!ds.isEmpty)
  | .dic ks ds => none
  | _ => none
theorem RepDs.isEmpty {ρ : List Addr} {H : Hp} {M : List Addr} {ds : List D} {vs : List V} (r : RepDs G ρ H M ds vs) : ds.isEmpty = vs.isEmpty := by
  have := r.length
  cases ds <;> cases vs <;> simp at this <;> rfl
theorem tru_of {ρ : List Addr} {H : Hp} {M : List Addr} {d : D} {v : V} {b : Bool} (hK : X.K = G.K) (r : RepT G ρ H M d v) (e : truD d = some b) : TruV X.K v H b := by
  rw [hK]
  cases d with
  | non => simp only [truD, Option.some.injEq] at e; subst e; obtain rfl := (show v = _ from r); rfl
  | bl b => simp only [truD, Option.some.injEq] at e; subst e; obtain rfl := (show v = _ from r); rfl
  | int b => simp only [truD, Option.some.injEq] at e; subst e; obtain rfl := (show v = _ from r); rfl
  | str x =>
    simp only [truD] at e
    split at e
    · rename_i hf
      simp only [Option.some.injEq] at e; subst e; obtain rfl := (show v = _ from r); exact ⟨fits hf, rfl⟩
    · cases e
  | tup ds =>
    simp only [truD, Option.some.injEq] at e; subst e
    obtain ⟨a, vs, rfl, t, r⟩ := r
    exact .inr (.inl ⟨vs, t.sq, by rw [r.isEmpty]⟩)
  | lst ds =>
    simp only [truD, Option.some.injEq] at e; subst e
    obtain ⟨a, vs, rfl, t, r⟩ := r
    exact .inl ⟨vs, .inl (.inl t), by rw [r.isEmpty]⟩
  | dic ks ds => simp [truD] at e
  | ins c fs ds => simp [truD] at e
  | loc n => simp [truD] at e
  | fn f => simp [truD] at e
  | scr ns => simp [truD] at e
  | ty n => simp [truD] at e
  | cls c => simp [truD] at e
  | xn c f d => simp [truD] at e
  | lk o kvs => simp [truD] at e
/-- a value's truth: the value is let go -/
def truR (s : S) (x : R) : Option Bool := (peek s x).bind truD
def bVal (m : E) : B := fun call s => (m call s).bind fun x s1 => lift s1 (truR s1 x)
theorem t_val (g : GoodB G cc X) {e : Expr} {m : E} (h : PE X e (tE G W call m)) (he : ∀ env whole, isTrue e env whole = (do let v ← whole; standAt e.pos; holding [v] (truthy v))) : PT X e (tB_ G W call (bVal m)) := by
  refine (pt_truth h (he _)).of fun σ H Q q => ?_
  obtain ⟨s, Φ, c, a⟩ := q
  refine ⟨s, Φ, c, (Aft.bind a).mono fun x s1 a1 => fun v H1 c1 => ?_⟩
  obtain ⟨b, e1, q⟩ := Aft.lift a1
  simp only [truR, Option.bind_eq_some_iff] at e1
  obtain ⟨d, e2, e3⟩ := e1
  obtain ⟨ρ, M, cp⟩ := c1.parts
  exact ⟨b, tru_of g.K (c1.peek (by simp) e2 cp) e3, q H1 c1.drop⟩
/-- a comparison as a test -/
def isB (s : S) (x : R) : Option Bool := (peek s x).bind fun d => match d with | .bl b => some b | _ => none
def bCmp (m : E) : B := fun call s => (m call s).bind fun x s1 => lift s1 (isB s1 x)
theorem t_cmp1 {f : D → D → Option O} {op : CmpOp} {a b : Expr} {ma mb : E} {pos : Pos} (ho : OpR X (compareOp op) (r2 G f)) (ha : PE X a (tE G W call ma)) (hb : PE X b (tE G W call mb)) (hm : behindInMarks op b = false) : PT X (.Compare a [op] [b] pos) (tB_ G W call (bCmp (mTwo f ma mb))) := by
  refine (pt_cmpR ho ha hb hm).of fun σ H Q q => ?_
  obtain ⟨s, Φ, c, a⟩ := q
  refine tTwo ⟨s, Φ, c, (Aft.bind a).mono fun x s1 a1 => fun v H1 c1 => ?_⟩
  obtain ⟨b, e1, q⟩ := Aft.lift a1
  simp only [isB, Option.bind_eq_some_iff] at e1
  obtain ⟨d, e2, e3⟩ := e1
  obtain ⟨ρ, M, cp⟩ := c1.parts
  have r := c1.peek (v := v) (by simp) e2 cp
  split at e3
  · rename_i b'
    simp only [Option.some.injEq] at e3
    subst e3
    exact ⟨b', r, q H1 c1.drop⟩
  · cases e3
def bNot (m : B) : B := fun call s => (m call s).bind fun b s1 => .ok (!b) s1
theorem t_not {a : Expr} {m : B} {pos : Pos} (h : PT X a (tB_ G W call m)) : PT X (.UnaryOp .Not a pos) (tB_ G W call (bNot m)) := by
  refine (pt_not h).of fun σ H Q q => ?_
  obtain ⟨s, Φ, c, a⟩ := q
  exact ⟨s, Φ, c, (Aft.bind a).mono fun b s1 a1 => fun H1 c1 => a1 H1 c1⟩
def bAnd (a b : B) : B := fun call s => (a call s).bind fun x s1 => if x then b call s1 else .ok false s1
def bOr (a b : B) : B := fun call s => (a call s).bind fun x s1 => if x then .ok true s1 else b call s1
theorem w_and1 {a : Expr} {m : B} {pos : Pos} (h : PT X a (tB_ G W call m)) : PW X (.BoolOp .And [a] pos) (tB_ G W call m) := pw_and1 h
theorem w_or1 {a : Expr} {m : B} {pos : Pos} (h : PT X a (tB_ G W call m)) : PW X (.BoolOp .Or [a] pos) (tB_ G W call m) := pw_or1 h
theorem _root_.L2.PW.of {X : Cx} {e : Expr} {t t' : TT} (h : PW X e t') (i : ∀ σ H Q, t σ H Q → t' σ H Q) : PW X e t := ⟨fun w pins s σ H Q I q => h.run w pins s σ H Q I (i σ H Q q)⟩
theorem w_and {a b : Expr} {rest : List Expr} {m n : B} {pos : Pos} (h : PT X a (tB_ G W call m)) (h2 : PW X (.BoolOp .And (b :: rest) pos) (tB_ G W call n)) : PW X (.BoolOp .And (a :: b :: rest) pos) (tB_ G W call (bAnd m n)) := by
  refine (pw_and h h2).of fun σ H Q q => ?_
  obtain ⟨s, Φ, c, a⟩ := q
  refine ⟨s, Φ, c, (Aft.bind a).mono fun b s1 a1 => fun H1 c1 => ?_⟩
  cases b with
  | true => exact ⟨s1, Φ, c1, a1⟩
  | false => exact a1 H1 c1
theorem w_or {a b : Expr} {rest : List Expr} {m n : B} {pos : Pos} (h : PT X a (tB_ G W call m)) (h2 : PW X (.BoolOp .Or (b :: rest) pos) (tB_ G W call n)) : PW X (.BoolOp .Or (a :: b :: rest) pos) (tB_ G W call (bOr m n)) := by
  refine (pw_or h h2).of fun σ H Q q => ?_
  obtain ⟨s, Φ, c, a⟩ := q
  refine ⟨s, Φ, c, (Aft.bind a).mono fun b s1 a1 => fun H1 c1 => ?_⟩
  cases b with
  | true => exact a1 H1 c1
  | false => exact ⟨s1, Φ, c1, a1⟩

/-! ### and, or, not, if as values -/
def mAnd (a b : E) : E := fun call s => (a call s).bind fun x s1 => match truR s1 x with
  | some true => b call s1
  | some false => .ok x s1
  | none => .bad
def mOr (a b : E) : E := fun call s => (a call s).bind fun x s1 => match truR s1 x with
  | some true => .ok x s1
  | some false => b call s1
  | none => .bad
def mNot (a : E) : E := fun call s => (a call s).bind fun x s1 => match truR s1 x with
  | some b => .ok (.own (.fz (.bl (!b)))) s1
  | none => .bad
theorem tru_R {σr : Sr} {H : Hp} {s : S} {Φ : List (R × V)} {x : R} {v : V} {b : Bool} (hK : X.K = G.K) (c : CfS G σr H s ((x, v) :: Φ)) (e : truR s x = some b) : TruV X.K v H b := by
  simp only [truR, Option.bind_eq_some_iff] at e
  obtain ⟨d, e2, e3⟩ := e
  obtain ⟨ρ, M, cp⟩ := c.parts
  exact tru_of hK (c.peek (by simp) e2 cp) e3
theorem e_and (g : GoodB G cc X) {a b : Expr} {rest : List Expr} {m n : E} {pos : Pos} (h : PE X a (tE G W call m)) (h2 : PE X (.BoolOp .And (b :: rest) pos) (tE G W call n)) : PE X (.BoolOp .And (a :: b :: rest) pos) (tE G W call (mAnd m n)) := by
  refine (pe_andT h h2).of fun σ H Q q => ?_
  obtain ⟨s, Φ, c, a⟩ := q
  refine ⟨s, Φ, c, (Aft.bind a).mono fun x s1 a1 => fun v H1 c1 => ?_⟩
  split at a1
  · rename_i e
    exact ⟨true, tru_R g.K c1 e, iteT ⟨s1, Φ, c1.drop, a1⟩⟩
  · rename_i e
    exact ⟨false, tru_R g.K c1 e, iteF (a1 v H1 c1)⟩
  · exact a1.elim
theorem e_or (g : GoodB G cc X) {a b : Expr} {rest : List Expr} {m n : E} {pos : Pos} (h : PE X a (tE G W call m)) (h2 : PE X (.BoolOp .Or (b :: rest) pos) (tE G W call n)) : PE X (.BoolOp .Or (a :: b :: rest) pos) (tE G W call (mOr m n)) := by
  refine (pe_orT h h2).of fun σ H Q q => ?_
  obtain ⟨s, Φ, c, a⟩ := q
  refine ⟨s, Φ, c, (Aft.bind a).mono fun x s1 a1 => fun v H1 c1 => ?_⟩
  split at a1
  · rename_i e
    exact ⟨true, tru_R g.K c1 e, iteT (a1 v H1 c1)⟩
  · rename_i e
    exact ⟨false, tru_R g.K c1 e, iteF ⟨s1, Φ, c1.drop, a1⟩⟩
  · exact a1.elim
theorem e_not (g : GoodB G cc X) {a : Expr} {m : E} {pos : Pos} (h : PE X a (tE G W call m)) : PE X (.UnaryOp .Not a pos) (tE G W call (mNot m)) := by
  refine (pe_notT h).of fun σ H Q q => ?_
  obtain ⟨s, Φ, c, a⟩ := q
  refine ⟨s, Φ, c, (Aft.bind a).mono fun x s1 a1 => fun v H1 c1 => ?_⟩
  split at a1
  · rename_i b e
    exact ⟨b, tru_R g.K c1 e, a1 _ H1 (c1.drop.simple rfl)⟩
  · exact a1.elim
def mIf (c : B) (a b : E) : E := fun call s => (c call s).bind fun x s1 => if x then a call s1 else b call s1
theorem e_if {c a b : Expr} {mc : B} {ma mb : E} {pos : Pos} (hc : PT X c (tB_ G W call mc)) (ha : PE X a (tE G W call ma)) (hb : PE X b (tE G W call mb)) : PE X (.IfExp c a b pos) (tE G W call (mIf mc ma mb)) := by
  refine (pe_ifExp hc ha hb).of fun σ H Q q => ?_
  obtain ⟨s, Φ, c, a⟩ := q
  refine ⟨s, Φ, c, (Aft.bind a).mono fun x s1 a1 => fun H1 c1 => ?_⟩
  cases x with
  | true => exact iteT ⟨s1, Φ, c1, a1⟩
  | false => exact iteF ⟨s1, Φ, c1, a1⟩

/-! ### calls of the program's own defs -/
def mCall (f : Str) (r : As) : E := fun call s => (r call s).bind fun ds s1 => match call f ds s1.h with
  | .ok o h => .ok (.own o) ⟨s1.σ, h⟩
  | .exc c d h => .exc c d ⟨s1.σ, h⟩
  | .bad => .bad
theorem call_of {f : Str} {n : Nat} {σr : Sr} {H1 : Hp} {s1 : S} {Φ : List (R × V)} {ds : List D} {vs : List V} {Q : VK} (hn : vs.length = n) (l : ds.length = vs.length) (c1 : CfS G σr H1 s1 (FzR ds vs ++ Φ))
    (a1 : Aft G W σr Φ (PV G σr Φ Q) (match call f ds s1.h with
      | .ok o h => Out.ok (.own o) ⟨s1.σ, h⟩
      | .exc c d h => .exc c d ⟨s1.σ, h⟩
      | .bad => .bad)) : spC G call f n vs H1 Q (WE W σr) := by
  refine ⟨hn, s1.h, slp s1.σ σr ++ ow Φ, ds, l, ?_, ?_⟩
  · have q := c1.cf
    rw [ow_append, ow_fz] at q
    refine q.perm ?_
    rw [← List.append_assoc, ← List.append_assoc]
    exact List.perm_append_comm.append_right _
  · cases e : call f ds s1.h with
    | ok o h =>
      rw [e] at a1
      intro v H' q
      refine a1 v H' ⟨c1.sl, fun i w z => ?_, q.perm ?_⟩
      · rcases List.mem_cons.mp z with z | z
        · cases z
        · exact c1.bo i w (List.mem_append_right _ z)
      · exact List.perm_middle.symm
    | exc cn d h =>
      rw [e] at a1
      intro C fl a v H' e1 e2 q
      refine a1 _ _ H' ⟨C, fl, a, v, rfl, e1, rfl, e2, c1.sl, fun i w z => ?_, q.perm ?_⟩
      · rcases List.mem_cons.mp z with z | z
        · cases z
        · exact c1.bo i w (List.mem_append_right _ z)
      · exact List.perm_middle.symm
    | bad => rw [e] at a1; exact a1.elim
theorem e_call (g : Good G k call cc W X) {f : Str} {e : Expr} {es : List Expr} {r : As} {p pos : Pos} (hf : f ∈ cc.fns) (hg : cc.sc.names.lookup f = some .globalImplicit) (h : PA X (e :: es) (tL G W call r)) (hn : (e :: es).all notStar = true) (hd : (f == ("__debug__" : Str)) = false) :
    PE X (.Call (.Name f p) (e :: es) [] pos) (tE G W call (mCall f r)) := by
  obtain ⟨a, fd, ps, ga, hm, hk, hb, F, hbad⟩ := g.fns f hf
  simp only [List.all_cons, Bool.and_eq_true] at hn
  refine (pe_callS F (g.room.mono (by omega)) (g.gl hg) hm hk hb (fun σ => passAt g.tk σ) h hd (star_cons hn.1) (star_any hn.2)).of fun σ H Q q => ?_
  obtain ⟨s, Φ, c, a⟩ := q
  refine ⟨s, Φ, c, (Aft.bind a).mono fun ds s1 a1 => fun vs H1 l c1 => ?_⟩
  by_cases hl : ds.length = ps.length
  · exact call_of (l ▸ hl) l c1 a1
  · rw [hbad ds s1.h hl] at a1
    exact a1.elim

/-! ### arguments that are only looked at -/
abbrev AsR := Call → S → Out (List R)
abbrev PR (G : GE) (σr : Sr) (Φ : List (R × V)) (Q : List V → Hp → Prop) : List R → S → Prop := fun rs s => ∀ vs H, rs.length = vs.length → CfS G σr H s (rs.zip vs ++ Φ) → Q vs H
def tR (G : GE) (W : WX) (call : Call) (m : AsR) : TA := fun σr H Q => ∃ s Φ, CfS G σr H s Φ ∧ Aft G W σr Φ (PR G σr Φ Q) (m call s)
def rNil : AsR := fun _ s => .ok [] s
def rCons (a : E) (r : AsR) : AsR := fun call s => (a call s).bind fun x s1 => (r call s1).bind fun rs s2 => .ok (x :: rs) s2
theorem r_nil : PA X [] (tR G W call rNil) := pa_nil.of fun σ H Q h => by
  obtain ⟨s, Φ, c, a⟩ := h
  exact a [] H rfl c
theorem r_cons {e : Expr} {es : List Expr} {m : E} {r : AsR} (he : PE X e (tE G W call m)) (hr : PA X es (tR G W call r)) (hn : notStar e = true) : PA X (e :: es) (tR G W call (rCons m r)) := by
  refine (pa_cons he hr (star_cons hn)).of fun σ H Q h => ?_
  obtain ⟨s, Φ, c, a⟩ := h
  refine ⟨s, Φ, c, (Aft.bind a).mono fun x s1 a1 => fun v H1 c1 => ?_⟩
  refine ⟨s1, _, c1, ((Aft.bind a1).frame1).mono fun rs s3 a3 => fun vs H3 l c3 => ?_⟩
  refine a3 (v :: vs) H3 (by simp [l]) ?_
  exact c3.perm (List.perm_middle)
def peeks (s : S) : List R → Option (List D)
  | [] => some []
  | r :: rs => (peek s r).bind fun d => (peeks s rs).bind fun ds => some (d :: ds)
def RepTs (G : GE) (ρ : List Addr) (H : Hp) (M : List Addr) : List D → List V → Prop
  | [], vs => vs = []
  | d :: ds, vs => ∃ v r, vs = v :: r ∧ RepT G ρ H M d v ∧ RepTs G ρ H M ds r
/-- a call that only looks at its arguments -/
def rN (G : GE) (f : List D → Option O) : List V → Hp → VK → Prop := fun vs H Q => ∃ ρ M h L ds o, Cp G ρ H M h L ∧ RepTs G ρ H M ds vs ∧ f ds = some o ∧ ∀ v H', Cf G H' h ((o, v) :: L) → Q v H'
def mBlt (f : List D → Option O) (r : AsR) : E := fun call s => (r call s).bind fun rs s1 => lift s1 ((peeks s1 rs).bind fun ds => (f ds).map R.own)
theorem peeks_of {ρ : List Addr} {H : Hp} {M : List Addr} {σr : Sr} {s : S} {Φ : List (R × V)} (c : CfS G σr H s Φ) (cp : Cp G ρ H M s.h (slp s.σ σr ++ ow Φ)) : ∀ {rs : List R} {vs : List V} {ds : List D}, rs.length = vs.length → (∀ p ∈ rs.zip vs, p ∈ Φ) → peeks s rs = some ds → RepTs G ρ H M ds vs
  | [], [], ds, _, _, e => by
    simp only [peeks, Option.some.injEq] at e; subst e; rfl
  | r :: rs, v :: vs, ds, l, hm, e => by
    simp only [peeks, Option.bind_eq_some_iff] at e
    obtain ⟨d, e1, ds', e2, e3⟩ := e
    simp only [Option.some.injEq] at e3
    subst e3
    exact ⟨v, vs, rfl, c.peek (hm (r, v) (by simp)) e1 cp, peeks_of c cp (by simpa using l) (fun p hp => hm p (by simp [hp])) e2⟩
  | [], _ :: _, _, l, _, _ => by simp at l
  | _ :: _, [], _, l, _, _ => by simp at l
theorem tBlt {f : List D → Option O} {r : AsR} {σr : Sr} {H : Hp} {Q : VK} (h : tE G W call (mBlt f r) σr H Q) : tR G W call r σr H fun vs H1 => rN G f vs H1 Q := by
  obtain ⟨s, Φ, c, a⟩ := h
  refine ⟨s, Φ, c, (Aft.bind a).mono fun rs s1 a1 => fun vs H1 l c1 => ?_⟩
  obtain ⟨y, e, q⟩ := Aft.lift a1
  simp only [Option.bind_eq_some_iff, Option.map_eq_some_iff] at e
  obtain ⟨ds, e1, o, eo, ey⟩ := e
  subst ey
  obtain ⟨ρ, M, cp⟩ := c1.parts
  exact ⟨ρ, M, _, _, ds, o, cp, peeks_of c1 cp l (fun p hp => List.mem_append_left _ hp) e1, eo, fun w H2 c2 => q w H2 (CfS.more (K := rs.zip vs) c1 c2)⟩
theorem e_blt (g : GoodB G cc X) {f : List D → Option O} {id : String} {x : Str} {e : Expr} {es : List Expr} {r : AsR} {p pos : Pos} (hc : CallR X (.builtin id) (rN G f)) (hb : x ∈ blts) (hg : cc.sc.names.lookup x = some .globalImplicit) (hv : bootBuiltins x = some (.builtin id))
    (h : PA X (e :: es) (tR G W call r)) (hn : (e :: es).all notStar = true) (h1 : x ≠ "__name__") (h2 : (x == ("__debug__" : Str)) = false) : PE X (.Call (.Name x p) (e :: es) [] pos) (tE G W call (mBlt f r)) := by
  simp only [List.all_cons, Bool.and_eq_true] at hn
  exact (pe_callB hc (g.gl hg) (g.blt x hb) hv h h1 h2 (star_cons hn.1) (star_any hn.2)).of fun σ H Q q => tBlt q
theorem e_ty (g : GoodB G cc X) {f : List D → Option O} {id : String} {x : Str} {e : Expr} {es : List Expr} {r : AsR} {p pos : Pos} (hc : CallR X (.type id) (rN G f)) (hb : x ∈ blts) (hg : cc.sc.names.lookup x = some .globalImplicit) (hv : bootBuiltins x = some (.type id))
    (h : PA X (e :: es) (tR G W call r)) (hn : (e :: es).all notStar = true) (h1 : x ≠ "__name__") (h2 : (x == ("__debug__" : Str)) = false) : PE X (.Call (.Name x p) (e :: es) [] pos) (tE G W call (mBlt f r)) := by
  simp only [List.all_cons, Bool.and_eq_true] at hn
  exact (pe_callTy hc (g.gl hg) (g.blt x hb) hv h h1 h2 (star_cons hn.1) (star_any hn.2)).of fun σ H Q q => tBlt q
/-- a built-in type's name as a value -/
theorem e_tyName (g : GoodB G cc X) {x : Str} {n : String} {pos : Pos} (hb : x ∈ blts) (hg : cc.sc.names.lookup x = some .globalImplicit) (hv : bootBuiltins x = some (.type n)) (h1 : x ≠ "__name__") (h2 : (x == ("__debug__" : Str)) = false) : PE X (.Name x pos) (tE G W call (mCon (.ty n))) :=
  (pe_bltn (v := .ty n) (g.gl hg) (g.blt x hb) hv rfl h1 h2).of fun σ H Q h => tCon rfl h
end
end Mi

set_option Elab.async false
set_option linter.all false
set_option maxRecDepth 100000
set_option maxHeartbeats 4000000
/-! Mi, part F: the operations on data, and that the layer's rules serve them. -/
namespace Mi
open PySem PySem.Spec PyProof.Rows L2

theorem _root_.L2.OpR.imp {X : Cx} {f : Value → Value → Sem Value} {r r' : R2} (h : OpR X f r') (i : ∀ x y H Q, r x y H Q → r' x y H Q) : OpR X f r := fun pins s σ H x y v u Q I rx ry q => h pins s σ H x y v u Q I rx ry (i x y H Q q)
theorem _root_.L2.IxR.imp {X : Cx} {r r' : R2} (h : IxR X r') (i : ∀ x y H Q, r x y H Q → r' x y H Q) : IxR X r := fun a b pins s σ H x y v u Q I rx ry q => h a b pins s σ H x y v u Q I rx ry (i x y H Q q)
theorem _root_.L2.CallR.imp {X : Cx} {f : Value} {r r' : List V → Hp → VK → Prop} (h : CallR X f r') (i : ∀ x H Q, r x H Q → r' x H Q) : CallR X f r := fun pins s σ H xs us Q I rx q => h pins s σ H xs us Q I rx (i xs H Q q)

/-! ### data as the library's data -/
mutual
def toP : D → Option PyData
  | .non => some .none
  | .bl b => some (.bool b)
  | .int i => some (.int i)
  | .str x => some (.str x)
  | .tup ds => (toPs ds).map .tuple
  | .lst ds => (toPs ds).map .list
  | .scr ns => some (.list (ns.map .int))
  | _ => none
def toPs : List D → Option (List PyData)
  | [] => some []
  | d :: ds => (toP d).bind fun p => (toPs ds).bind fun ps => some (p :: ps)
end
section
variable {G : GE} {ρ : List Addr} {H : Hp} {M : List Addr}
theorem dp_ints {K : PySem.W.Frag} : ∀ ns : List Int, DpAll K H (ns.map V.int) (ns.map PyData.int)
  | [] => .nil
  | n :: ns => .cons (.int n) (dp_ints ns)
mutual
theorem RepD.dp : ∀ (d : D) (v : V) (p : PyData), RepD G ρ H M d v → toP d = some p → Dp G.K H v p
  | .non, v, p, r, e => by simp only [toP, Option.some.injEq] at e; subst e; obtain rfl := (show v = _ from r); exact .non
  | .bl b, v, p, r, e => by simp only [toP, Option.some.injEq] at e; subst e; obtain rfl := (show v = _ from r); exact .bl b
  | .int b, v, p, r, e => by simp only [toP, Option.some.injEq] at e; subst e; obtain rfl := (show v = _ from r); exact .int b
  | .str b, v, p, r, e => by simp only [toP, Option.some.injEq] at e; subst e; obtain rfl := (show v = _ from r); exact .str b
  | .tup ds, v, p, r, e => by
    simp only [toP, Option.map_eq_some_iff] at e
    obtain ⟨ps, e1, e2⟩ := e
    subst e2
    obtain ⟨a, vs, rfl, t, q⟩ := r
    exact .tup t.sq (RepDs.dp ds vs ps q e1)
  | .lst ds, v, p, r, e => by
    simp only [toP, Option.map_eq_some_iff] at e
    obtain ⟨ps, e1, e2⟩ := e
    subst e2
    obtain ⟨a, vs, rfl, t, n, q⟩ := r
    exact .lst (.inl (.inl t)) (RepDs.dp ds vs ps q e1)
  | .scr ns, v, p, r, e => by
    simp only [toP, Option.some.injEq] at e
    subst e
    obtain ⟨a, rfl, t | t⟩ := r
    · exact .lst (.inl t.1) (dp_ints ns)
    · exact .lst (.inr t) (dp_ints ns)
  | .dic _ _, _, _, _, e => by simp [toP] at e
  | .ins _ _ _, _, _, _, e => by simp [toP] at e
  | .loc _, _, _, _, e => by simp [toP] at e
  | .fn _, _, _, _, e => by simp [toP] at e
  | .ty _, _, _, _, e => by simp [toP] at e
  | .cls _, _, _, _, e => by simp [toP] at e
  | .xn _ _ _, _, _, _, e => by simp [toP] at e
  | .lk _ _, _, _, _, e => by simp [toP] at e
theorem RepDs.dp : ∀ (ds : List D) (vs : List V) (ps : List PyData), RepDs G ρ H M ds vs → toPs ds = some ps → DpAll G.K H vs ps
  | [], vs, ps, r, e => by simp only [toPs, Option.some.injEq] at e; subst e; rw [show vs = [] from r]; exact .nil
  | d :: ds, vs, ps, r, e => by
    simp only [toPs, Option.bind_eq_some_iff] at e
    obtain ⟨p, e1, ps', e2, e3⟩ := e
    simp only [Option.some.injEq] at e3
    subst e3
    obtain ⟨v, r', e4, r1, r2⟩ := r
    subst e4
    exact .cons (RepD.dp d v p r1 e1) (RepDs.dp ds r' ps' r2 e2)
end
theorem RepT.dp {d : D} {v : V} {p : PyData} (r : RepT G ρ H M d v) (e : toP d = some p) : Dp G.K H v p := by
  cases d with
  | tup ds =>
    simp only [toP, Option.map_eq_some_iff] at e
    obtain ⟨ps, e1, e2⟩ := e
    subst e2
    obtain ⟨a, vs, rfl, t, q⟩ := r
    exact .tup t.sq (RepDs.dp ds vs ps q e1)
  | lst ds =>
    simp only [toP, Option.map_eq_some_iff] at e
    obtain ⟨ps, e1, e2⟩ := e
    subst e2
    obtain ⟨a, vs, rfl, t, q⟩ := r
    exact .lst (.inl (.inl t)) (RepDs.dp ds vs ps q e1)
  | scr ns =>
    simp only [toP, Option.some.injEq] at e
    subst e
    obtain ⟨a, rfl, t⟩ := r
    exact .lst t (dp_ints ns)
  | non => exact RepD.dp (G := G) (ρ := ρ) (M := M) .non v p r e
  | bl b => exact RepD.dp (G := G) (ρ := ρ) (M := M) (.bl b) v p r e
  | int b => exact RepD.dp (G := G) (ρ := ρ) (M := M) (.int b) v p r e
  | str b => exact RepD.dp (G := G) (ρ := ρ) (M := M) (.str b) v p r e
  | dic _ _ => simp [toP] at e
  | ins _ _ _ => simp [toP] at e
  | loc _ => simp [toP] at e
  | fn _ => simp [toP] at e
  | ty _ => simp [toP] at e
  | cls _ => simp [toP] at e
  | xn _ _ _ => simp [toP] at e
  | lk _ _ => simp [toP] at e
end

/-! ### the operations -/
def fI (i : Int) : Option O := some (.fz (.int i))
def fB (b : Bool) : Option O := some (.fz (.bl b))
def addD : D → D → Option O
  | .int i, .int j => fI (i + j)
  | .str x, .str y => if fitsB (x.length + y.length) then some (.fz (.str (x ++ y))) else none
  | .lst a, .lst b => if fitsB (a.length + b.length) then some (.lst (a ++ b)) else none
  | .tup a, .tup b => if fitsB (a.length + b.length) then some (.fz (.tup (a ++ b))) else none
  | _, _ => none
def subD : D → D → Option O
  | .int i, .int j => fI (i - j)
  | _, _ => none
def smallI (i : Int) : Bool := decide (-(2 ^ 64) < i) && decide (i < 2 ^ 64)
def mulD : D → D → Option O
  | .int i, .int j => if smallI i || smallI j then fI (i * j) else none
  | .lst a, .int k => if decide (-(2 ^ 63) ≤ k) && decide (k < 2 ^ 63) && fitsB (a.length * k.toNat) then some (.lst (List.replicate k.toNat a).flatten) else none
  | _, _ => none
def modD : D → D → Option O
  | .int i, .int j => if 0 < j then fI (i % j) else none
  | _, _ => none
def fdivD : D → D → Option O
  | .int i, .int j => if 0 < j ∧ j < 1073741824 then fI (i / j) else none
  | _, _ => none
def powD : D → D → Option O
  | .int i, .int j => if 0 ≤ j ∧ j ≤ 1000000 ∧ i.natAbs < 2 ^ 64 then fI (i ^ j.toNat) else none
  | _, _ => none
def negD : D → Option O
  | .int i => fI (-i)
  | _ => none
section
variable {G : GE} {X : Cx}
theorem Cp.int {ρ M : List Addr} {H : Hp} {h : List O} {L : List (O × V)} (c : Cp G ρ H M h L) (i : Int) : Cf G H h ((.fz (.int i), .int i) :: L) := c.cf.simple rfl
theorem Cp.bl {ρ M : List Addr} {H : Hp} {h : List O} {L : List (O × V)} (c : Cp G ρ H M h L) (i : Bool) : Cf G H h ((.fz (.bl i), .bl i) :: L) := c.cf.simple rfl
theorem Cp.lstNew {ρ M : List Addr} {H : Hp} {h : List O} {L : List (O × V)} {ds : List D} {vs : List V} {p : Addr} (c : Cp G ρ H M h L) (r : RepDs G ρ H M ds vs) (hp : H p = none) : Cf G (upd H p (.lst vs)) h ((.lst ds, .ref p) :: L) :=
  Cf.newLst r.length ((Cf.fz r.length).mpr ⟨ρ, M, c, r⟩) hp
theorem Cp.tupNew {ρ M : List Addr} {H : Hp} {h : List O} {L : List (O × V)} {ds : List D} {vs : List V} {p : Addr} {ho : HO} (c : Cp G ρ H M h L) (r : RepDs G ρ H M ds vs) (hp : H p = none) (ht : isTupO G vs ho) : Cf G (upd H p ho) h ((.fz (.tup ds), .ref p) :: L) :=
  Cf.newTup r.length ((Cf.fz r.length).mpr ⟨ρ, M, c, r⟩) hp ht

theorem o_add (hK : X.K = G.K) (hb : G.bare = false) : OpR X (binaryOp .Add) (r2 G addD) := (((op_add.or op_add_str).or op_cat).or op_catA).imp fun x y H Q ⟨ρ, M, h, L, d1, d2, o, cp, t1, t2, e, q⟩ => by
  unfold addD at e
  split at e
  · rename_i i j
    cases e
    exact .inl (.inl (.inl ⟨i, j, t1, t2, q _ _ (cp.int _)⟩))
  · rename_i a b
    split at e
    · rename_i hf
      cases e
      exact .inl (.inl (.inr ⟨a, b, t1, t2, fits hf, q _ _ (cp.cf.simple rfl)⟩))
    · cases e
  · rename_i a b
    split at e
    · rename_i hf
      cases e
      obtain ⟨l1, v1, rfl, k1, q1⟩ := t1
      obtain ⟨l2, v2, rfl, k2, q2⟩ := t2
      exact .inl (.inr ⟨l1, l2, v1, v2, rfl, rfl, k1, k2, by rw [← q1.length, ← q2.length]; exact fits hf, fun p hp => q _ _ (cp.lstNew (q1.append q2) hp)⟩)
    · cases e
  · rename_i a b
    split at e
    · rename_i hf
      cases e
      obtain ⟨l1, v1, rfl, k1, q1⟩ := t1
      obtain ⟨l2, v2, rfl, k2, q2⟩ := t2
      refine .inr ⟨l1, l2, v1, v2, rfl, rfl, by rw [hK]; exact k1.sq, by rw [hK]; exact k2.sq, by rw [← q1.length, ← q2.length]; exact fits hf, fun z => ?_, fun _ z => ?_, fun _ _ p hp => q _ _ (cp.tupNew (q1.append q2) hp ⟨hb, rfl⟩)⟩
      · subst z
        have e0 : a = [] := List.length_eq_zero_iff.mp q1.length
        subst e0
        exact q _ _ (cp.tupF k2 q2)
      · subst z
        have e0 : b = [] := List.length_eq_zero_iff.mp q2.length
        subst e0
        rw [List.append_nil] at q
        exact q _ _ (cp.tupF k1 q1)
    · cases e
  · cases e
/-- the same without tuples -/
def addB : D → D → Option O
  | .tup _, .tup _ => none
  | d, e => addD d e
theorem o_addB : OpR X (binaryOp .Add) (r2 G addB) := ((op_add.or op_add_str).or op_cat).imp fun x y H Q ⟨ρ, M, h, L, d1, d2, o, cp, t1, t2, e, q⟩ => by
  unfold addB at e
  split at e
  · cases e
  · rename_i hnt
    unfold addD at e
    split at e
    · rename_i i j
      cases e
      exact .inl (.inl ⟨i, j, t1, t2, q _ _ (cp.int _)⟩)
    · rename_i a b
      split at e
      · rename_i hf
        cases e
        exact .inl (.inr ⟨a, b, t1, t2, fits hf, q _ _ (cp.cf.simple rfl)⟩)
      · cases e
    · rename_i a b
      split at e
      · rename_i hf
        cases e
        obtain ⟨l1, v1, rfl, k1, q1⟩ := t1
        obtain ⟨l2, v2, rfl, k2, q2⟩ := t2
        exact .inr ⟨l1, l2, v1, v2, rfl, rfl, k1, k2, by rw [← q1.length, ← q2.length]; exact fits hf, fun p hp => q _ _ (cp.lstNew (q1.append q2) hp)⟩
      · cases e
    · exact (hnt _ _ rfl rfl).elim
    · cases e
theorem o_sub : OpR X (binaryOp .Sub) (r2 G subD) := op_sub.imp fun x y H Q ⟨ρ, M, h, L, d1, d2, o, cp, t1, t2, e, q⟩ => by
  unfold subD at e
  split at e
  · rename_i i j
    cases e
    exact ⟨i, j, t1, t2, q _ _ (cp.int _)⟩
  · cases e
theorem o_mul : OpR X (binaryOp .Mult) (r2 G mulD) := (op_mul.or op_rep).imp fun x y H Q ⟨ρ, M, h, L, d1, d2, o, cp, t1, t2, e, q⟩ => by
  unfold mulD at e
  split at e
  · rename_i i j
    split at e
    · rename_i hs
      cases e
      refine .inl ⟨i, j, t1, t2, ?_, q _ _ (cp.int _)⟩
      simp only [smallI, Bool.or_eq_true, Bool.and_eq_true, decide_eq_true_eq] at hs
      exact hs
    · cases e
  · rename_i a k
    split at e
    · rename_i hs
      simp only [Bool.and_eq_true, decide_eq_true_eq] at hs
      cases e
      obtain ⟨l1, v1, rfl, k1, q1⟩ := t1
      refine .inr ⟨l1, k, v1, rfl, t2, k1, hs.1.1, hs.1.2, by rw [← q1.length]; exact fits hs.2, fun p hp => q _ _ ?_⟩
      have := cp.lstNew (q1.flatten_rep k.toNat) hp
      exact this
    · cases e
  · cases e
theorem o_mod : OpR X (binaryOp .Mod) (r2 G modD) := op_mod.imp fun x y H Q ⟨ρ, M, h, L, d1, d2, o, cp, t1, t2, e, q⟩ => by
  unfold modD at e
  split at e
  · rename_i i j
    split at e
    · rename_i hs
      cases e
      exact ⟨i, j, t1, t2, hs, q _ _ (cp.int _)⟩
    · cases e
  · cases e
theorem o_fdiv : OpR X (binaryOp .FloorDiv) (r2 G fdivD) := op_fdiv.imp fun x y H Q ⟨ρ, M, h, L, d1, d2, o, cp, t1, t2, e, q⟩ => by
  unfold fdivD at e
  split at e
  · rename_i i j
    split at e
    · rename_i hs
      cases e
      exact ⟨i, j, t1, t2, hs, q _ _ (cp.int _)⟩
    · cases e
  · cases e
theorem o_pow : OpR X (binaryOp .Pow) (r2 G powD) := op_pow.imp fun x y H Q ⟨ρ, M, h, L, d1, d2, o, cp, t1, t2, e, q⟩ => by
  unfold powD at e
  split at e
  · rename_i i j
    split at e
    · rename_i hs
      cases e
      exact ⟨i, j, t1, t2, hs, q _ _ (cp.int _)⟩
    · cases e
  · cases e
theorem o_neg : UnR X (unaryOp .USub) (r1 G negD) := fun pins s σ H x v Q I rx ⟨ρ, M, h, L, d, o, cp, t, e, q⟩ => by
  unfold negD at e
  split at e
  · rename_i i
    cases e
    exact un_neg pins s σ H x v Q I rx ⟨i, t, q _ _ (cp.int _)⟩
  · cases e
/-! ### comparisons -/
def ltD : D → D → Option O | .int i, .int j => fB (decide (i < j)) | _, _ => none
def leD : D → D → Option O | .int i, .int j => fB (decide (i ≤ j)) | _, _ => none
def gtD : D → D → Option O | .int i, .int j => fB (decide (j < i)) | _, _ => none
def geD : D → D → Option O | .int i, .int j => fB (decide (j ≤ i)) | _, _ => none
theorem o_lt : OpR X (compareOp .Lt) (r2 G ltD) := op_lt.imp fun x y H Q ⟨ρ, M, h, L, d1, d2, o, cp, t1, t2, e, q⟩ => by
  unfold ltD at e
  split at e
  · rename_i i j; cases e; exact ⟨i, j, t1, t2, q _ _ (cp.bl _)⟩
  · cases e
theorem o_le : OpR X (compareOp .LtE) (r2 G leD) := op_le.imp fun x y H Q ⟨ρ, M, h, L, d1, d2, o, cp, t1, t2, e, q⟩ => by
  unfold leD at e
  split at e
  · rename_i i j; cases e; exact ⟨i, j, t1, t2, q _ _ (cp.bl _)⟩
  · cases e
theorem o_gt : OpR X (compareOp .Gt) (r2 G gtD) := op_gt.imp fun x y H Q ⟨ρ, M, h, L, d1, d2, o, cp, t1, t2, e, q⟩ => by
  unfold gtD at e
  split at e
  · rename_i i j; cases e; exact ⟨i, j, t1, t2, q _ _ (cp.bl _)⟩
  · cases e
theorem o_ge : OpR X (compareOp .GtE) (r2 G geD) := op_ge.imp fun x y H Q ⟨ρ, M, h, L, d1, d2, o, cp, t1, t2, e, q⟩ => by
  unfold geD at e
  split at e
  · rename_i i j; cases e; exact ⟨i, j, t1, t2, q _ _ (cp.bl _)⟩
  · cases e
/-- == of data -/
def eqB (d e : D) : Option Bool := match d, e with
  | .str x, .str y => some (decide (x = y))
  | .int x, .int y => some (decide (x = y))
  | .non, .non => some true
  | .non, .int _ => some false | .int _, .non => some false | .non, .str _ => some false | .str _, .non => some false
  | .int _, .str _ => some false | .str _, .int _ => some false
  | _, _ => (toP d).bind fun p => (toP e).bind fun q => if SeqAt.shaped p && SeqAt.shaped q then some (PyData.eqv p q) else none
def eqD (d e : D) : Option O := (eqB d e).map fun b => .fz (.bl b)
def neD (d e : D) : Option O := (eqB d e).map fun b => .fz (.bl (!b))
theorem eq_of {K : PySem.W.Frag} (hK : K = G.K) {ρ M : List Addr} {H : Hp} {d e : D} {x y : V} {b : Bool} (t1 : RepT G ρ H M d x) (t2 : RepT G ρ H M e y) (q : eqB d e = some b) :
    (scal x y = true ∧ decide (x = y) = b) ∨ (∃ p q, Dp K H x p ∧ Dp K H y q ∧ SeqAt.shaped p = true ∧ SeqAt.shaped q = true ∧ PyData.eqv p q = b) := by
  subst hK
  unfold eqB at q
  split at q
  · rename_i i j
    cases q; obtain rfl := (show x = _ from t1); obtain rfl := (show y = _ from t2)
    exact .inl ⟨rfl, by simp⟩
  · rename_i i j
    cases q; obtain rfl := (show x = _ from t1); obtain rfl := (show y = _ from t2)
    exact .inl ⟨rfl, by simp⟩
  · cases q; obtain rfl := (show x = _ from t1); obtain rfl := (show y = _ from t2)
    exact .inl ⟨rfl, by simp⟩
  · cases q; obtain rfl := (show x = _ from t1); obtain rfl := (show y = _ from t2)
    exact .inl ⟨rfl, by simp⟩
  · cases q; obtain rfl := (show x = _ from t1); obtain rfl := (show y = _ from t2)
    exact .inl ⟨rfl, by simp⟩
  · cases q; obtain rfl := (show x = _ from t1); obtain rfl := (show y = _ from t2)
    exact .inl ⟨rfl, by simp⟩
  · cases q; obtain rfl := (show x = _ from t1); obtain rfl := (show y = _ from t2)
    exact .inl ⟨rfl, by simp⟩
  · cases q; obtain rfl := (show x = _ from t1); obtain rfl := (show y = _ from t2)
    exact .inl ⟨rfl, by simp⟩
  · cases q; obtain rfl := (show x = _ from t1); obtain rfl := (show y = _ from t2)
    exact .inl ⟨rfl, by simp⟩
  · simp only [Option.bind_eq_some_iff] at q
    obtain ⟨p1, e1, p2, e2, e3⟩ := q
    split at e3
    · rename_i hs
      simp only [Bool.and_eq_true] at hs
      cases e3
      exact .inr ⟨p1, p2, t1.dp e1, t2.dp e2, hs.1, hs.2, rfl⟩
    · cases e3
theorem o_eq (hK : X.K = G.K) (hu : X.A.units + 64 < cLine) : OpR X (compareOp .Eq) (r2 G eqD) := (op_eq.or (op_eqD hu)).imp fun x y H Q ⟨ρ, M, h, L, d1, d2, o, cp, t1, t2, e, q⟩ => by
  simp only [eqD, Option.map_eq_some_iff] at e
  obtain ⟨b, e1, e2⟩ := e
  subst e2
  rcases eq_of hK t1 t2 e1 with ⟨s1, s2⟩ | ⟨p, p', s1, s2, s3, s4, s5⟩
  · exact .inl ⟨s1, by rw [s2]; exact q _ _ (cp.bl _)⟩
  · exact .inr ⟨p, p', s1, s2, s3, s4, by rw [s5]; exact q _ _ (cp.bl _)⟩
theorem o_ne (hK : X.K = G.K) (hu : X.A.units + 64 < cLine) : OpR X (compareOp .NotEq) (r2 G neD) := (op_ne.or (op_neD hu)).imp fun x y H Q ⟨ρ, M, h, L, d1, d2, o, cp, t1, t2, e, q⟩ => by
  simp only [neD, Option.map_eq_some_iff] at e
  obtain ⟨b, e1, e2⟩ := e
  subst e2
  rcases eq_of hK t1 t2 e1 with ⟨s1, s2⟩ | ⟨p, p', s1, s2, s3, s4, s5⟩
  · exact .inl ⟨s1, by rw [s2]; exact q _ _ (cp.bl _)⟩
  · exact .inr ⟨p, p', s1, s2, s3, s4, by rw [s5]; exact q _ _ (cp.bl _)⟩
end
end Mi

set_option Elab.async false
set_option linter.all false
set_option maxRecDepth 100000
set_option maxHeartbeats 4000000
/-! Mi, part G: in, items, slices, the built-ins by name. -/
namespace Mi
open PySem PySem.Spec PyProof.Rows L2

section
variable {G : GE} {X : Cx}
/-- what is walked or measured: the items of a tuple, of a list -/
def itemsD : D → Option (List D)
  | .tup ds => some ds
  | .lst ds => some ds
  | .scr ns => some (ns.map .int)
  | _ => none
theorem rep_ints {ρ M : List Addr} {H : Hp} : ∀ ns : List Int, RepDs G ρ H M (ns.map D.int) (ns.map V.int)
  | [] => rfl
  | n :: ns => ⟨_, _, rfl, rfl, rep_ints ns⟩
/-- a list (or the script) -/
def listD : D → Option (List D)
  | .lst ds => some ds
  | .scr ns => some (ns.map .int)
  | _ => none
theorem listD_of {ρ M : List Addr} {H : Hp} {d : D} {v : V} {ds : List D} (r : RepT G ρ H M d v) (e : listD d = some ds) : ∃ a vs, v = .ref a ∧ SqL G.K H a vs ∧ RepDs G ρ H M ds vs := by
  cases d with
  | lst ds' => cases e; obtain ⟨a, vs, rfl, t, q⟩ := r; exact ⟨a, vs, rfl, .inl (.inl t), q⟩
  | scr ns => cases e; obtain ⟨a, rfl, t⟩ := r; exact ⟨a, _, rfl, t, rep_ints ns⟩
  | _ => cases e
theorem itemsD_of {ρ M : List Addr} {H : Hp} {d : D} {v : V} {ds : List D} (r : RepT G ρ H M d v) (e : itemsD d = some ds) : ∃ a vs, v = .ref a ∧ (SqL G.K H a vs ∨ SqT G.K H a vs) ∧ RepDs G ρ H M ds vs := by
  cases d with
  | tup ds' => cases e; obtain ⟨a, vs, rfl, t, q⟩ := r; exact ⟨a, vs, rfl, .inr t.sq, q⟩
  | lst ds' => cases e; obtain ⟨a, vs, rfl, t, q⟩ := r; exact ⟨a, vs, rfl, .inl (.inl (.inl t)), q⟩
  | scr ns => cases e; obtain ⟨a, rfl, t⟩ := r; exact ⟨a, _, rfl, .inl t, rep_ints ns⟩
  | _ => cases e
/-! ### in -/
def flatD : D → Option V
  | .non => some .non | .bl b => some (.bl b) | .int i => some (.int i) | .str x => some (.str x) | _ => none
def flatsD : List D → Option (List V)
  | [] => some []
  | d :: ds => (flatD d).bind fun v => (flatsD ds).bind fun vs => some (v :: vs)
theorem flatD_of {ρ M : List Addr} {H : Hp} {d : D} {v u : V} (r : RepD G ρ H M d v) (e : flatD d = some u) : v = u ∧ flatV u = true := by
  cases d <;> simp only [flatD, Option.some.injEq, reduceCtorEq] at e <;> subst e <;> exact ⟨r, rfl⟩
theorem flatsD_of {ρ M : List Addr} {H : Hp} : ∀ {ds : List D} {vs us : List V}, RepDs G ρ H M ds vs → flatsD ds = some us → vs = us ∧ us.all flatV = true
  | [], vs, us, r, e => by simp only [flatsD, Option.some.injEq] at e; subst e; exact ⟨r, rfl⟩
  | d :: ds, vs, us, r, e => by
    simp only [flatsD, Option.bind_eq_some_iff, Option.some.injEq] at e
    obtain ⟨v, e1, us', e2, e3⟩ := e
    subst e3
    obtain ⟨w, r', e4, h1, h2⟩ := r
    subst e4
    obtain ⟨a1, a2⟩ := flatD_of h1 e1
    obtain ⟨b1, b2⟩ := flatsD_of h2 e2
    subst a1; subst b1
    exact ⟨rfl, by simp [a2, b2]⟩
/-- x in y: signs of a text; flat items of a list or a tuple -/
def inB : D → D → Option Bool
  | .str x, .str y => some (!(Builtin.Str.occurrences y x 0 y.length 1).isEmpty)
  | d, e => (flatD d).bind fun v => (itemsD e).bind fun ds => (flatsD ds).bind fun vs => some (inV v vs)
def inD (d e : D) : Option O := (inB d e).map fun b => .fz (.bl b)
def notInD (d e : D) : Option O := (inB d e).map fun b => .fz (.bl (!b))
theorem RepT.flat {ρ M : List Addr} {H : Hp} {d : D} {v u : V} (r : RepT G ρ H M d v) (e : flatD d = some u) : v = u ∧ flatV u = true := by
  cases d <;> simp only [flatD, Option.some.injEq, reduceCtorEq] at e <;> subst e <;> exact ⟨r, rfl⟩
theorem o_in (hK : X.K = G.K) : OpR X (compareOp .In) (r2 G inD) := (op_in_str.or op_in_seq).imp fun x y H Q ⟨ρ, M, h, L, d1, d2, o, cp, t1, t2, e, q⟩ => by
  simp only [inD, Option.map_eq_some_iff] at e
  obtain ⟨b, e1, e2⟩ := e
  subst e2
  unfold inB at e1
  split at e1
  · cases e1
    obtain rfl := (show x = _ from t1); obtain rfl := (show y = _ from t2)
    exact .inl ⟨_, _, rfl, rfl, q _ _ (cp.bl _)⟩
  · simp only [Option.bind_eq_some_iff, Option.some.injEq] at e1
    obtain ⟨v, f1, ds, f2, vs, f3, f4⟩ := e1
    obtain ⟨rfl, fl⟩ := t1.flat f1
    obtain ⟨a, us, rfl, t, r⟩ := itemsD_of t2 f2
    obtain ⟨rfl, fv⟩ := flatsD_of r f3
    refine .inr ⟨a, us, rfl, by rw [hK]; exact t, fl, fv, ?_⟩
    have : (if false then !inV x us else inV x us) = b := by simpa using f4
    rw [this]
    exact q _ _ (cp.bl _)
theorem o_notIn (hK : X.K = G.K) : OpR X (compareOp .NotIn) (r2 G notInD) := (op_notin_str.or op_notIn_seq).imp fun x y H Q ⟨ρ, M, h, L, d1, d2, o, cp, t1, t2, e, q⟩ => by
  simp only [notInD, Option.map_eq_some_iff] at e
  obtain ⟨b, e1, e2⟩ := e
  subst e2
  unfold inB at e1
  split at e1
  · cases e1
    obtain rfl := (show x = _ from t1); obtain rfl := (show y = _ from t2)
    exact .inl ⟨_, _, rfl, rfl, q _ _ (cp.bl _)⟩
  · simp only [Option.bind_eq_some_iff, Option.some.injEq] at e1
    obtain ⟨v, f1, ds, f2, vs, f3, f4⟩ := e1
    obtain ⟨rfl, fl⟩ := t1.flat f1
    obtain ⟨a, us, rfl, t, r⟩ := itemsD_of t2 f2
    obtain ⟨rfl, fv⟩ := flatsD_of r f3
    refine .inr ⟨a, us, rfl, by rw [hK]; exact t, fl, fv, ?_⟩
    have : (if true then !inV x us else inV x us) = !b := by simpa using f4
    rw [this]
    exact q _ _ (cp.bl _)
/-! ### is None -/
def isNon : D → Bool
  | .non => true
  | _ => false
def isNoneD (d e : D) : Option O := match e with
  | .non => fB (isNon d)
  | _ => none
def isNotNoneD (d e : D) : Option O := match e with
  | .non => fB (!isNon d)
  | _ => none
theorem non_iff {ρ M : List Addr} {H : Hp} {d : D} {v : V} (r : RepT G ρ H M d v) : decide (v = .non) = isNon d := by
  cases d with
  | non => obtain rfl := (show v = _ from r); rfl
  | bl b => obtain rfl := (show v = _ from r); rfl
  | int b => obtain rfl := (show v = _ from r); rfl
  | str b => obtain rfl := (show v = _ from r); rfl
  | ty b => obtain rfl := (show v = _ from r); rfl
  | tup ds => obtain ⟨a, vs, rfl, _⟩ := r; rfl
  | lst ds => obtain ⟨a, vs, rfl, _⟩ := r; rfl
  | dic ks ds => obtain ⟨a, vs, rfl, _⟩ := r; rfl
  | ins c fs ds => obtain ⟨a, C, dx, vs, rfl, _⟩ := r; rfl
  | loc n => obtain ⟨a, rfl, _⟩ := r; rfl
  | fn f => obtain ⟨a, rfl, _⟩ := r; rfl
  | scr ns => obtain ⟨a, rfl, _⟩ := r; rfl
  | cls c => obtain ⟨a, rfl, _⟩ := r; rfl
  | xn c f d => obtain ⟨a, a', C, v', _, rfl, _⟩ := r; rfl
  | lk o kvs => obtain ⟨a, rfl, _⟩ := r; rfl
theorem o_isN : OpR X (compareOp .Is) (r2 G isNoneD) := op_isN.imp fun x y H Q ⟨ρ, M, h, L, d1, d2, o, cp, t1, t2, e, q⟩ => by
  unfold isNoneD at e
  split at e
  · cases e
    refine ⟨t2, ?_⟩
    rw [non_iff t1]
    exact q _ _ (cp.bl _)
  · cases e
theorem o_isNotN : OpR X (compareOp .IsNot) (r2 G isNotNoneD) := op_notN.imp fun x y H Q ⟨ρ, M, h, L, d1, d2, o, cp, t1, t2, e, q⟩ => by
  unfold isNotNoneD at e
  split at e
  · cases e
    refine ⟨t2, ?_⟩
    rw [non_iff t1]
    exact q _ _ (cp.bl _)
  · cases e
/-! ### items -/
def atD (d i : D) : Option O := match i with
  | .int i => match d with
    | .str z => if fitsB z.length then (atI z.cps.toList i).map fun c => .fz (.str ⟨#[c]⟩) else none
    | _ => (itemsD d).bind fun ds => (atI ds i).map .fz
  | _ => none
theorem atI_len {α β : Type} {xs : List α} {ys : List β} {i : Int} {x : α} (l : xs.length = ys.length) (e : atI xs i = some x) : ∃ j y, ixN ys.length i = some j ∧ xs[j]? = some x ∧ ys[j]? = some y ∧ atI ys i = some y := by
  simp only [atI, Option.bind_eq_some_iff] at e
  obtain ⟨j, e1, e2⟩ := e
  have hj : j < ys.length := by
    rw [← l]
    rcases Nat.lt_or_ge j xs.length with z | z
    · exact z
    · rw [List.getElem?_eq_none z] at e2; cases e2
  refine ⟨j, ys[j], by rw [← l]; exact e1, e2, by simp [hj], ?_⟩
  simp only [atI, ← l, e1, Option.bind_some]
  simp [hj]
theorem o_at (hK : X.K = G.K) : IxR X (r2 G atD) := ix_seq.imp fun x y H Q ⟨ρ, M, h, L, d1, d2, o, cp, t1, t2, e, q⟩ => by
  unfold atD at e
  split at e
  · rename_i i
    obtain rfl := (show y = _ from t2)
    split at e
    · rename_i z
      split at e
      · rename_i hf
        simp only [Option.map_eq_some_iff] at e
        obtain ⟨c, e1, e2⟩ := e
        subst e2
        obtain rfl := (show x = _ from t1)
        exact .inr (.inr ⟨z, i, c, rfl, rfl, fits hf, e1, q _ _ (cp.cf.simple rfl)⟩)
      · cases e
    · simp only [Option.bind_eq_some_iff, Option.map_eq_some_iff] at e
      obtain ⟨ds, e1, d, e2, e3⟩ := e
      subst e3
      obtain ⟨a, vs, rfl, t, r⟩ := itemsD_of t1 e1
      obtain ⟨j, v, _, g1, g2, g3⟩ := atI_len r.length e2
      obtain ⟨v', g4, rd⟩ := r.get g1
      rw [g2] at g4
      cases g4
      have fin := q v H (Cf.fz1.mpr ⟨ρ, M, cp, rd⟩)
      rcases t with t | t
      · exact .inl ⟨a, vs, i, v, rfl, rfl, by rw [hK]; exact t, g3, fin⟩
      · exact .inr (.inl ⟨a, vs, i, v, rfl, rfl, by rw [hK]; exact t, g3, fin⟩)
  · cases e
end
end Mi

set_option Elab.async false
set_option linter.all false
set_option maxRecDepth 100000
set_option maxHeartbeats 4000000
/-! Mi, part H: slices, the built-ins by name. -/
namespace Mi
open PySem PySem.Spec PyProof.Rows L2
section
variable {G : GE} {W : WX} {call : Call} {X : Cx}
/-! ### slices -/
abbrev PP (G : GE) (σr : Sr) (Φ : List (R × V)) (Q : Option Int → Hp → Prop) : Option Int → S → Prop := fun i s => ∀ H, CfS G σr H s Φ → Q i H
abbrev Pt := Call → S → Out (Option Int)
def tP (G : GE) (W : WX) (call : Call) (m : Pt) : TO := fun σr H Q => ∃ s Φ, CfS G σr H s Φ ∧ Aft G W σr Φ (PP G σr Φ Q) (m call s)
def pNone : Pt := fun _ s => .ok none s
def pSome (m : E) : Pt := fun call s => (m call s).bind fun x s1 => match peek s1 x with
  | some (.int i) => .ok (some i) s1
  | _ => .bad
theorem _root_.L2.PO.of {X : Cx} {e : Option Expr} {t t' : TO} (h : PO X e t') (i : ∀ σ H Q, t σ H Q → t' σ H Q) : PO X e t := ⟨fun pins s σ H Q I q => h.run pins s σ H Q I (i σ H Q q)⟩
theorem p_none : PO X none (tP G W call pNone) := po_none.of fun σ H Q h => by
  obtain ⟨s, Φ, c, a⟩ := h
  exact a H c
theorem p_some {e : Expr} {m : E} (h : PE X e (tE G W call m)) : PO X (some e) (tP G W call (pSome m)) := (po_some h).of fun σ H Q h => by
  obtain ⟨s, Φ, c, a⟩ := h
  refine ⟨s, Φ, c, (Aft.bind a).mono fun x s1 a1 => fun v H1 c1 => ?_⟩
  split at a1
  · rename_i i e
    obtain ⟨ρ, M, cp⟩ := c1.parts
    exact ⟨i, c1.peek (by simp) e cp, a1 H1 c1.drop⟩
  · exact a1.elim
/-- a slice read -/
def cutD {α : Type} (xs : List α) (lo hi : Option Int) : List α := (xs.drop (HT.sIx xs.length 0 lo)).take (HT.sIx xs.length xs.length hi - HT.sIx xs.length 0 lo)
theorem RepDs.cut {ρ M : List Addr} {H : Hp} {ds : List D} {vs : List V} (r : RepDs G ρ H M ds vs) (lo hi : Option Int) : RepDs G ρ H M (cutD ds lo hi) (cutV vs lo hi) := by
  unfold cutD cutV
  rw [r.length]
  exact (r.drop _).take _
def slD (d : D) (lo hi : Option Int) : Option O := match d with
  | .tup ds => some (.fz (.tup (cutD ds lo hi)))
  | _ => (listD d).map fun ds => .lst (cutD ds lo hi)
def mSl (m : E) (lo hi : Pt) : E := fun call s => (m call s).bind fun x s1 => (lo call s1).bind fun l s2 => (hi call s2).bind fun u s3 => lift s3 ((peek s3 x).bind fun d => (slD d l u).map R.own)
/-- what a slice asks -/
def rS (G : GE) : V → Option Int → Option Int → Hp → VK → Prop := fun x lo hi H Q => ∃ ρ M h L d o, Cp G ρ H M h L ∧ RepT G ρ H M d x ∧ slD d lo hi = some o ∧ ∀ v H', Cf G H' h ((o, v) :: L) → Q v H'
theorem e_sl {e : Expr} {lo hi : Option Expr} {m : E} {ml mh : Pt} {p2 pos : Pos} (ho : SlR X (rS G)) (he : PE X e (tE G W call m)) (hl : PO X lo (tP G W call ml)) (hh : PO X hi (tP G W call mh)) : PE X (.Subscript e (.Slice lo hi none p2) pos) (tE G W call (mSl m ml mh)) := by
  refine (pe_slice ho he hl hh).of fun σ H Q h => ?_
  obtain ⟨s, Φ, c, h⟩ := h
  refine ⟨s, Φ, c, (Aft.bind h).mono fun x s1 h1 => fun v1 H1 c1 => ⟨s1, _, c1, ((Aft.bind h1).frame1).mono fun l s2 h2 => fun H2 c2 => ⟨s2, _, c2, ((Aft.bind h2).frame1).mono fun u s3 h3 => fun H3 c3 => ?_⟩⟩⟩
  obtain ⟨z, e, q⟩ := Aft.lift h3
  simp only [Option.bind_eq_some_iff, Option.map_eq_some_iff] at e
  obtain ⟨d, e1, o, eo, ey⟩ := e
  subst ey
  obtain ⟨ρ, M, cp⟩ := c3.parts
  exact ⟨ρ, M, _, _, d, o, cp, c3.peek (by simp) e1 cp, eo, fun w H4 c4 => q w H4 (CfS.more (K := [(x, v1)]) c3 c4)⟩
theorem sl_tupB : SlR X (fun x lo hi H Q => ∃ a xs, x = .ref a ∧ SqT X.K H a xs ∧ (HT.sIx xs.length 0 lo = 0 ∧ HT.sIx xs.length xs.length hi = xs.length → Q (.ref a) H) ∧
    (¬ (HT.sIx xs.length 0 lo = 0 ∧ HT.sIx xs.length xs.length hi = xs.length) → ∀ p ob, ob.dict = none → H p = none → Q (.ref p) (upd H p (.frz ob (.tup (cutV xs lo hi)))))) := by
  intro pins s σ H x v vl vu lo hi sl Q I rx hs pl pu h
  obtain ⟨a, xs, rfl, hx, q1, q2⟩ := h
  cases rx
  obtain ⟨its, r, ht, hz⟩ := I.tuple hx
  have hlen : its.toArray.size = xs.length := by rw [List.size_toArray]; exact r.length.symm
  refine ⟨"tuple", _, PyProof.Rows.slot_tuple_getitem.lookup, ht.typeIs, ?_⟩
  by_cases hw : HT.sIx xs.length 0 lo = 0 ∧ HT.sIx xs.length xs.length hi = xs.length
  · exact getItem_tuple_whole ht hs pl pu (by rw [hlen]; exact hw) ⟨.ref a, H, I, rfl, q1 hw⟩
  · refine HT.getItem_tuple_cut ht hs pl pu (by rw [hlen]; exact hw) ?_ (by rw [hlen]; exact hz)
    rw [hlen]
    refine ⟨.ref s.heap.objs.size, _, I.laid (t' := s.toks) (o := .frz { cls := .type "tuple", data := .seq (List.take (HT.sIx xs.length xs.length hi - HT.sIx xs.length 0 lo) (List.drop (HT.sIx xs.length 0 lo) its.toArray.toList)).toArray } (.tup (cutV xs lo hi))) (fun b ob q => Heap.get?_push_of_some _ q) (Nat.le_refl _) ?_, rfl, q2 hw _ _ rfl (I.hok.fresh (Nat.le_refl _))⟩
    exact ⟨Heap.get?_push_size _ rfl, Nat.le_trans (cutV_length xs lo hi) hz, _, (r.drop (HT.sIx xs.length 0 lo)).take (HT.sIx xs.length xs.length hi - HT.sIx xs.length 0 lo), IsTup.new _ _⟩
theorem o_sl (hK : X.K = G.K) : SlR X (rS G) := fun pins s σ H x v vl vu lo hi sl Q I rx hs pl pu ⟨ρ, M, h, L, d, o, cp, t, e, q⟩ => by
  unfold slD at e
  split at e
  · rename_i ds
    cases e
    obtain ⟨a, vs, rfl, t, r⟩ := t
    have whole : HT.sIx vs.length 0 lo = 0 ∧ HT.sIx vs.length vs.length hi = vs.length → Q (.ref a) H := fun z => by
      have e0 : cutD ds lo hi = ds := by
        unfold cutD
        rw [r.length, z.1, z.2, Nat.sub_zero, List.drop_zero, ← r.length, List.take_length]
      rw [e0] at q
      exact q _ _ (cp.tupF t r)
    cases hb : G.bare with
    | false => exact sl_tupA pins s σ H _ v vl vu lo hi sl Q I rx hs pl pu ⟨a, vs, rfl, by rw [hK]; exact t.sq, whole, fun _ p hp => q _ _ (cp.tupNew (r.cut lo hi) hp ⟨hb, rfl⟩)⟩
    | true => exact sl_tupB pins s σ H _ v vl vu lo hi sl Q I rx hs pl pu ⟨a, vs, rfl, by rw [hK]; exact t.sq, whole, fun _ p ob ho hp => q _ _ (cp.tupNew (r.cut lo hi) hp ⟨rfl, fun _ => ho⟩)⟩
  · simp only [Option.map_eq_some_iff] at e
    obtain ⟨ds, e1, e2⟩ := e
    subst e2
    obtain ⟨a, vs, rfl, t, r⟩ := listD_of t e1
    exact sl_list pins s σ H _ v vl vu lo hi sl Q I rx hs pl pu ⟨a, vs, rfl, by rw [hK]; exact t, fun p hp => q _ _ (cp.lstNew (r.cut lo hi) hp)⟩

/-! ### the built-ins by name -/
def lenD : List D → Option O
  | [.str x] => if fitsB x.length then fI x.length else none
  | [d] => (itemsD d).bind fun ds => fI ds.length
  | _ => none
theorem RepTs.one {ρ M : List Addr} {H : Hp} {d : D} {vs : List V} (r : RepTs G ρ H M [d] vs) : ∃ v, vs = [v] ∧ RepT G ρ H M d v := by
  obtain ⟨v, r', e, h1, h2⟩ := r
  exact ⟨v, by rw [e, show r' = [] from h2], h1⟩
theorem RepTs.two {ρ M : List Addr} {H : Hp} {d d' : D} {vs : List V} (r : RepTs G ρ H M [d, d'] vs) : ∃ v v', vs = [v, v'] ∧ RepT G ρ H M d v ∧ RepT G ρ H M d' v' := by
  obtain ⟨v, r', e, h1, h2⟩ := r
  obtain ⟨v', e2, h3⟩ := RepTs.one h2
  exact ⟨v, v', by rw [e, e2], h1, h3⟩
theorem b_len (hK : X.K = G.K) : CallR X (.builtin "len") (rN G lenD) := call_len.imp fun vs H Q ⟨ρ, M, h, L, ds, o, cp, t, e, q⟩ => by
  unfold lenD at e
  split at e
  · rename_i x
    split at e
    · rename_i hf
      cases e
      obtain ⟨v, rfl, r⟩ := t.one
      obtain rfl := (show v = _ from r)
      exact ⟨_, x.length, rfl, ⟨fits hf, rfl⟩, q _ _ (cp.int _)⟩
    · cases e
  · rename_i d _
    simp only [Option.bind_eq_some_iff] at e
    obtain ⟨ds, e1, e2⟩ := e
    cases e2
    obtain ⟨v, rfl, r⟩ := t.one
    obtain ⟨a, us, rfl, t, r⟩ := itemsD_of r e1
    refine ⟨_, us.length, rfl, ?_, by rw [← r.length]; exact q _ _ (cp.int _)⟩
    rw [hK]
    rcases t with t | t
    · exact .inl ⟨us, t, rfl⟩
    · exact .inr ⟨us, t, rfl⟩
  · cases e
def absD : List D → Option O
  | [.int i] => fI (if i < 0 then -i else i)
  | _ => none
theorem b_abs : CallR X (.builtin "abs") (rN G absD) := call_abs.imp fun vs H Q ⟨ρ, M, h, L, ds, o, cp, t, e, q⟩ => by
  unfold absD at e
  split at e
  · rename_i i
    cases e
    obtain ⟨v, rfl, r⟩ := t.one
    obtain rfl := (show v = _ from r)
    exact ⟨i, rfl, q _ _ (cp.int _)⟩
  · cases e
def maxD : List D → Option O
  | [.int i, .int j] => fI (if j > i then j else i)
  | _ => none
def minD : List D → Option O
  | [.int i, .int j] => fI (if j < i then j else i)
  | _ => none
theorem b_max (hc : X.calm = true) : CallR X (.builtin "max") (rN G maxD) := (call_max2 hc).imp fun vs H Q ⟨ρ, M, h, L, ds, o, cp, t, e, q⟩ => by
  unfold maxD at e
  split at e
  · rename_i i j
    cases e
    obtain ⟨v, v', rfl, r, r'⟩ := t.two
    obtain rfl := (show v = _ from r); obtain rfl := (show v' = _ from r')
    exact ⟨i, j, rfl, q _ _ (cp.int _)⟩
  · cases e
theorem b_min (hc : X.calm = true) : CallR X (.builtin "min") (rN G minD) := (call_min2 hc).imp fun vs H Q ⟨ρ, M, h, L, ds, o, cp, t, e, q⟩ => by
  unfold minD at e
  split at e
  · rename_i i j
    cases e
    obtain ⟨v, v', rfl, r, r'⟩ := t.two
    obtain rfl := (show v = _ from r); obtain rfl := (show v' = _ from r')
    exact ⟨i, j, rfl, q _ _ (cp.int _)⟩
  · cases e
def intsD : List D → Option (List Int)
  | [] => some []
  | .int i :: ds => (intsD ds).map (i :: ·)
  | _ => none
theorem intsD_of {ρ M : List Addr} {H : Hp} : ∀ {ds : List D} {vs : List V} {ns : List Int}, RepDs G ρ H M ds vs → intsD ds = some ns → vs = ns.map V.int
  | [], vs, ns, r, e => by simp only [intsD, Option.some.injEq] at e; subst e; exact r
  | d :: ds, vs, ns, r, e => by
    cases d with
    | int i =>
      simp only [intsD, Option.map_eq_some_iff] at e
      obtain ⟨ns', e1, e2⟩ := e
      subst e2
      obtain ⟨w, r', e4, h1, h2⟩ := r
      subst e4
      rw [intsD_of h2 e1, show w = _ from h1]; rfl
    | _ => simp [intsD] at e
def sumD : List D → Option O
  | [d] => (listD d).bind fun ds => (intsD ds).bind fun ns => fI ns.sum
  | _ => none
theorem b_sum (hK : X.K = G.K) (hc : X.calm = true) : CallR X (.builtin "sum") (rN G sumD) := (cr_sum hc).imp fun vs H Q ⟨ρ, M, h, L, ds, o, cp, t, e, q⟩ => by
  unfold sumD at e
  split at e
  · rename_i d
    simp only [Option.bind_eq_some_iff] at e
    obtain ⟨ds, e1, ns, e2, e3⟩ := e
    cases e3
    obtain ⟨v, rfl, r⟩ := t.one
    obtain ⟨a, us, rfl, t, r⟩ := listD_of r e1
    have := intsD_of r e2
    subst this
    exact ⟨a, ns, rfl, by rw [hK]; exact t, q _ _ (cp.int _)⟩
  · cases e
def boolsD : List D → Option (List Bool)
  | [] => some []
  | .bl i :: ds => (boolsD ds).map (i :: ·)
  | _ => none
theorem boolsD_of {ρ M : List Addr} {H : Hp} : ∀ {ds : List D} {vs : List V} {ns : List Bool}, RepDs G ρ H M ds vs → boolsD ds = some ns → vs = ns.map V.bl
  | [], vs, ns, r, e => by simp only [boolsD, Option.some.injEq] at e; subst e; exact r
  | d :: ds, vs, ns, r, e => by
    cases d with
    | bl i =>
      simp only [boolsD, Option.map_eq_some_iff] at e
      obtain ⟨ns', e1, e2⟩ := e
      subst e2
      obtain ⟨w, r', e4, h1, h2⟩ := r
      subst e4
      rw [boolsD_of h2 e1, show w = _ from h1]; rfl
    | _ => simp [boolsD] at e
def allD : List D → Option O
  | [d] => (listD d).bind fun ds => (boolsD ds).bind fun ns => fB (ns.all id)
  | _ => none
theorem b_all (hK : X.K = G.K) (hc : X.calm = true) : CallR X (.builtin "all") (rN G allD) := (cr_all hc).imp fun vs H Q ⟨ρ, M, h, L, ds, o, cp, t, e, q⟩ => by
  unfold allD at e
  split at e
  · rename_i d
    simp only [Option.bind_eq_some_iff] at e
    obtain ⟨ds, e1, ns, e2, e3⟩ := e
    cases e3
    obtain ⟨v, rfl, r⟩ := t.one
    obtain ⟨a, us, rfl, t, r⟩ := listD_of r e1
    have := boolsD_of r e2
    subst this
    exact ⟨a, ns, rfl, by rw [hK]; exact t, q _ _ (cp.bl _)⟩
  · cases e
def intD : List D → Option O
  | [.int i] => fI i
  | [.bl k] => fI (if k then 1 else 0)
  | _ => none
theorem b_int : CallR X (.type "int") (rN G intD) := call_int1.imp fun vs H Q ⟨ρ, M, h, L, ds, o, cp, t, e, q⟩ => by
  unfold intD at e
  split at e
  · rename_i i
    cases e
    obtain ⟨v, rfl, r⟩ := t.one
    obtain rfl := (show v = _ from r)
    exact .inl ⟨i, rfl, q _ _ (cp.int _)⟩
  · rename_i i
    cases e
    obtain ⟨v, rfl, r⟩ := t.one
    obtain rfl := (show v = _ from r)
    exact .inr ⟨i, rfl, q _ _ (cp.int _)⟩
  · cases e
def listOfD : List D → Option O
  | [d] => (itemsD d).map .lst
  | _ => none
theorem b_list (hK : X.K = G.K) : CallR X (.type "list") (rN G listOfD) := call_list_of.imp fun vs H Q ⟨ρ, M, h, L, ds, o, cp, t, e, q⟩ => by
  unfold listOfD at e
  split at e
  · rename_i d
    simp only [Option.map_eq_some_iff] at e
    obtain ⟨ds, e1, e2⟩ := e
    subst e2
    obtain ⟨v, rfl, r⟩ := t.one
    obtain ⟨a, us, rfl, t, r⟩ := itemsD_of r e1
    exact ⟨a, us, rfl, by rw [hK]; exact t, fun p hp => q _ _ (cp.lstNew r hp)⟩
  · cases e
def tupleOfD : List D → Option O
  | [d] => (itemsD d).map fun ds => .fz (.tup ds)
  | _ => none
theorem call_tuple_B : CallR X (.type "tuple") (fun xs H Q => ∃ p ys, xs = [.ref p] ∧ SqL X.K H p ys ∧ ∀ l ob, ob.dict = none → H l = none → Q (.ref l) (upd H l (.frz ob (.tup ys)))) := by
  intro pins s σ H xs us Q I r h
  obtain ⟨p, ys, rfl, hq, q⟩ := h
  obtain ⟨u, rfl, rx⟩ := r.one
  cases rx
  obtain ⟨its, r', pl, hz⟩ := I.list hq
  have hlen := r'.length
  refine call_tuple_list pl.isList (fun h' kp => ?_) (by simp only [List.size_toArray] <;> omega)
  have I1 : Inv X pins σ H { s with heap := h' } := I.kept (t' := s.toks) kp
  have I2 : Inv X pins σ (upd H h'.objs.size (.frz { cls := .type "tuple", data := .seq its.toArray } (.tup ys))) { s with heap := h'.push { cls := .type "tuple", data := .seq its.toArray } } :=
    I1.laid (t' := s.toks) (fun b o e => Heap.get?_push_of_some _ e) (Nat.le_refl _) ⟨Heap.get?_push_size _ rfl, hz, its, r', IsTup.new _ _⟩
  exact ⟨.ref h'.objs.size, _, I2, rfl, q _ _ rfl (I1.hok.fresh (Nat.le_refl _))⟩
theorem b_tuple (hK : X.K = G.K) : CallR X (.type "tuple") (rN G tupleOfD) := (call_tuple_of.or call_tuple_B).imp fun vs H Q ⟨ρ, M, h, L, ds, o, cp, t, e, q⟩ => by
  unfold tupleOfD at e
  split at e
  · rename_i d
    simp only [Option.map_eq_some_iff] at e
    obtain ⟨ds, e1, e2⟩ := e
    subst e2
    obtain ⟨v, rfl, r⟩ := t.one
    cases d with
    | tup ds' => cases e1; obtain ⟨a, us, rfl, t, r⟩ := r; exact .inl ⟨a, us, rfl, .inr ⟨by rw [hK]; exact t.sq, q _ _ (cp.tupF t r)⟩⟩
    | lst ds' =>
      have e2 : listD (.lst ds') = some ds := e1
      obtain ⟨a, us, rfl, t, r⟩ := listD_of r e2
      cases hb : G.bare with
      | false => exact .inl ⟨a, us, rfl, .inl ⟨by rw [hK]; exact t, fun p hp => q _ _ (cp.tupNew r hp ⟨hb, rfl⟩)⟩⟩
      | true => exact .inr ⟨a, us, rfl, by rw [hK]; exact t, fun p ob ho hp => q _ _ (cp.tupNew r hp ⟨rfl, fun _ => ho⟩)⟩
    | scr ns =>
      have e2 : listD (.scr ns) = some ds := e1
      obtain ⟨a, us, rfl, t, r⟩ := listD_of r e2
      cases hb : G.bare with
      | false => exact .inl ⟨a, us, rfl, .inl ⟨by rw [hK]; exact t, fun p hp => q _ _ (cp.tupNew r hp ⟨hb, rfl⟩)⟩⟩
      | true => exact .inr ⟨a, us, rfl, by rw [hK]; exact t, fun p ob ho hp => q _ _ (cp.tupNew r hp ⟨rfl, fun _ => ho⟩)⟩
    | _ => cases e1
  · cases e
/-! ### isinstance of built-in types -/
def tyD : D → Option String
  | .non => some "NoneType" | .bl _ => some "bool" | .int _ => some "int" | .str _ => some "str"
  | .tup _ => some "tuple" | .lst _ => some "list" | .scr _ => some "list" | .dic _ _ => some "dict"
  | _ => none
theorem tyD_of {ρ M : List Addr} {H : Hp} {d : D} {v : V} {n : String} (r : RepT G ρ H M d v) (e : tyD d = some n) : TyX G.K H v (.type n) := by
  cases d with
  | non => cases e; obtain rfl := (show v = _ from r); exact .base .non
  | bl b => cases e; obtain rfl := (show v = _ from r); exact .base (.bl b)
  | int b => cases e; obtain rfl := (show v = _ from r); exact .base (.int b)
  | str b => cases e; obtain rfl := (show v = _ from r); exact .base (.str b)
  | tup ds =>
    cases e
    obtain ⟨a, vs, rfl, t, _⟩ := r
    rcases t.sq with (t | ⟨o, t⟩) | ⟨o, its, n, l, c, _⟩
    · exact .base (.tup t)
    · exact .fTuple t
    · exact .kTuple l c
  | lst ds => cases e; obtain ⟨a, vs, rfl, t, _⟩ := r; exact .base (.lst t)
  | scr ns =>
    cases e
    obtain ⟨a, rfl, t⟩ := r
    rcases t with (t | ⟨o, t⟩) | ⟨o, its, n, l, c, _⟩
    · exact .base (.lst t)
    · exact .base (.frz t)
    · exact .kList l c
  | dic ks ds =>
    cases e
    obtain ⟨a, vs, rfl, t, _⟩ := r
    rcases t with t | ⟨o, t⟩
    · exact .base (.dK t)
    · exact .fDict t
  | _ => cases e
def isiB (d c : D) : Option Bool := match c with
  | .ty n => (tyD d).bind fun m => kitB m n
  | _ => none
def isiD : List D → Option O
  | [d, c] => (isiB d c).map fun b => .fz (.bl b)
  | _ => none
theorem b_isi (hK : X.K = G.K) : CallR X (.builtin "isinstance") (rN G isiD) := call_isi.imp fun vs H Q ⟨ρ, M, h, L, ds, o, cp, t, e, q⟩ => by
  unfold isiD at e
  split at e
  · rename_i d c
    simp only [Option.map_eq_some_iff] at e
    obtain ⟨b, e1, e2⟩ := e
    subst e2
    unfold isiB at e1
    split at e1
    · rename_i n
      simp only [Option.bind_eq_some_iff] at e1
      obtain ⟨m, e2, e3⟩ := e1
      obtain ⟨v, v', rfl, r, r'⟩ := t.two
      obtain rfl := (show v' = _ from r')
      exact ⟨v, _, _, _, b, rfl, .ty n, by rw [hK]; exact tyD_of r e2, kit_ty e3, q _ _ (cp.bl _)⟩
    · cases e1
  · cases e
end
end Mi

set_option Elab.async false
set_option linter.all false
set_option maxRecDepth 100000
set_option maxHeartbeats 4000000
/-! Mi, part I: slots as a whole; statements without loops. -/
namespace Mi
open PySem PySem.Spec PyProof.Rows L2

/-! ### the slots by places -/
def pr (σ : List (Option O)) (σr : Sr) (i : Nat) : List (O × V) := match σ[i]?, σr[i]? with
  | some (some o), some (some v) => [(o, v)]
  | _, _ => []
theorem slp_eq : ∀ {σ : List (Option O)} {σr : Sr}, σ.length = σr.length → slp σ σr = (List.range σ.length).flatMap (pr σ σr)
  | [], [], _ => rfl
  | a :: σ, b :: σr, l => by
    have ih := slp_eq (σ := σ) (σr := σr) (by simpa using l)
    rw [List.length_cons, List.range_succ_eq_map, List.flatMap_cons, List.flatMap_map]
    have e : (fun i => pr (a :: σ) (b :: σr) (Nat.succ i)) = pr σ σr := by funext i; simp [pr]
    rw [e, ← ih]
    cases a <;> cases b <;> simp [slp, pr]
  | [], _ :: _, l => by simp at l
  | _ :: _, [], l => by simp at l
theorem perm_part {α : Type} (p : Nat → Bool) (f : Nat → List α) : ∀ l : List Nat, (l.flatMap f).Perm ((l.filter fun i => !p i).flatMap f ++ (l.filter p).flatMap f)
  | [] => .refl _
  | x :: l => by
    have ih := perm_part p f l
    cases hx : p x with
    | false =>
      simp only [List.flatMap_cons, List.filter_cons, hx, Bool.not_false, if_true, Bool.false_eq_true, if_false, List.append_assoc]
      exact ih.append_left _
    | true =>
      simp only [List.flatMap_cons, List.filter_cons, hx, Bool.not_true, if_true, Bool.false_eq_true, if_false]
      refine (ih.append_left (f x)).trans ?_
      rw [← List.append_assoc, ← List.append_assoc]
      exact List.perm_append_comm.append_right _
theorem flatMap_nil {α : Type} {f : Nat → List α} : ∀ {l : List Nat}, (∀ i ∈ l, f i = []) → l.flatMap f = []
  | [], _ => rfl
  | x :: l, h => by rw [List.flatMap_cons, h x (by simp), flatMap_nil fun i hi => h i (by simp [hi])]; rfl
theorem flatMap_congr' {α : Type} {f g : Nat → List α} : ∀ {l : List Nat}, (∀ i ∈ l, f i = g i) → l.flatMap f = l.flatMap g
  | [], _ => rfl
  | x :: l, h => by rw [List.flatMap_cons, List.flatMap_cons, h x (by simp), flatMap_congr' fun i hi => h i (by simp [hi])]
def wipeO (σ : List (Option O)) : List Nat → List (Option O)
  | [] => σ
  | v :: vs => (wipeO σ vs).set v none
def rst (τ σ : List (Option O)) : List Nat → List (Option O)
  | [] => τ
  | v :: vs => (rst τ σ vs).set v ((σ[v]?).getD none)
theorem wipeO_len (σ : List (Option O)) : ∀ vs, (wipeO σ vs).length = σ.length
  | [] => rfl
  | v :: vs => by rw [wipeO, List.length_set, wipeO_len σ vs]
theorem rst_len (τ σ : List (Option O)) : ∀ vs, (rst τ σ vs).length = τ.length
  | [] => rfl
  | v :: vs => by rw [rst, List.length_set, rst_len τ σ vs]
theorem wipeO_in {σ : List (Option O)} {i : Nat} : ∀ {vs : List Nat}, i ∈ vs → ∀ o, (wipeO σ vs)[i]? ≠ some (some o)
  | v :: vs, h, o => by
    rw [wipeO]
    by_cases e : v = i
    · subst e
      rw [List.getElem?_set]
      split
      · split <;> simp
      · intro h2; contradiction
    · rw [List.getElem?_set_ne e]
      exact wipeO_in (by rcases List.mem_cons.mp h with z | z; exact absurd z.symm e; exact z) o
theorem wipeO_out {σ : List (Option O)} {i : Nat} : ∀ {vs : List Nat}, i ∉ vs → (wipeO σ vs)[i]? = σ[i]?
  | [], _ => rfl
  | v :: vs, h => by
    rw [wipeO, List.getElem?_set_ne (fun z => h (by simp [z]))]
    exact wipeO_out fun z => h (by simp [z])
theorem wipe_out {σ : Sr} {i : Nat} : ∀ {vs : List Nat}, i ∉ vs → (wipe σ vs)[i]? = σ[i]?
  | [], _ => rfl
  | v :: vs, h => by
    rw [wipe, List.getElem?_set_ne (fun z => h (by simp [z]))]
    exact wipe_out fun z => h (by simp [z])
theorem wipe_in {σ : Sr} {i : Nat} {vs : List Nat} (h : i ∈ vs) (v : V) : (wipe σ vs)[i]? ≠ some (some v) := fun z => (wipe_some z).2 h
theorem rst_out {τ σ : List (Option O)} {i : Nat} : ∀ {vs : List Nat}, i ∉ vs → (rst τ σ vs)[i]? = τ[i]?
  | [], _ => rfl
  | v :: vs, h => by
    rw [rst, List.getElem?_set_ne (fun z => h (by simp [z]))]
    exact rst_out fun z => h (by simp [z])
theorem rst_in {τ σ : List (Option O)} (l : τ.length = σ.length) {i : Nat} : ∀ {vs : List Nat}, i ∈ vs → (rst τ σ vs)[i]? = σ[i]?
  | v :: vs, h => by
    rw [rst]
    by_cases e : v = i
    · subst e
      rw [List.getElem?_set]
      simp only [if_true, rst_len, l]
      by_cases hv : v < σ.length
      · rw [if_pos hv]; simp [hv]
      · rw [if_neg hv, List.getElem?_eq_none (by omega)]
    · rw [List.getElem?_set_ne e]
      exact rst_in l (by rcases List.mem_cons.mp h with z | z; exact absurd z.symm e; exact z)
/-- the slots at vs are put aside, and put back -/
theorem slp_wipe {σ : List (Option O)} {σr : Sr} (ok : SlOk σ σr) (vs : List Nat) : ∃ Z, (slp σ σr).Perm (slp (wipeO σ vs) (wipe σr vs) ++ Z) ∧ SlOk (wipeO σ vs) (wipe σr vs) ∧
    ∀ τ, SlOk τ (wipe σr vs) → (slp (rst τ σ vs) σr).Perm (slp τ (wipe σr vs) ++ Z) ∧ SlOk (rst τ σ vs) σr := by
  refine ⟨((List.range σ.length).filter fun i => decide (i ∈ vs)).flatMap (pr σ σr), ?_, ⟨by rw [wipeO_len, wipe_length, ok.len], fun i o q => ?_⟩, fun τ okt => ?_⟩
  · rw [slp_eq ok.len, slp_eq (by rw [wipeO_len, wipe_length, ok.len]), wipeO_len]
    refine (perm_part (fun i => decide (i ∈ vs)) (pr σ σr) _).trans ?_
    refine List.Perm.append_right _ ?_
    refine List.Perm.trans ?_ (perm_part (fun i => decide (i ∈ vs)) (pr (wipeO σ vs) (wipe σr vs)) _).symm
    rw [flatMap_nil (l := (List.range σ.length).filter fun i => decide (i ∈ vs)) fun i hi => ?_, List.append_nil]
    · rw [flatMap_congr' fun i hi => ?_]
      have hi' : i ∉ vs := by simpa using (List.mem_filter.mp hi).2
      simp only [pr]
      rw [wipeO_out hi', wipe_out hi']
    · have hi' : i ∈ vs := by simpa using (List.mem_filter.mp hi).2
      simp only [pr]
      split
      · rename_i o v e1 e2
        exact absurd e1 (wipeO_in hi' o)
      · rfl
  · by_cases hi : i ∈ vs
    · exact absurd q (wipeO_in hi o)
    · rw [wipeO_out hi] at q
      rw [wipe_out hi]
      exact ok.at_ i o q
  · have lt : τ.length = σ.length := by rw [okt.len, wipe_length, ok.len]
    have okr : SlOk (rst τ σ vs) σr := ⟨by rw [rst_len, lt, ok.len], fun i o q => by
      by_cases hi : i ∈ vs
      · rw [rst_in lt hi] at q
        exact ok.at_ i o q
      · rw [rst_out hi] at q
        have := okt.at_ i o q
        rw [wipe_out hi] at this
        exact this⟩
    refine ⟨?_, okr⟩
    rw [slp_eq okr.len, slp_eq okt.len, rst_len, lt]
    refine (perm_part (fun i => decide (i ∈ vs)) (pr (rst τ σ vs) σr) _).trans ?_
    refine (List.Perm.append_right _ ?_).trans (List.Perm.append_left _ ?_)
    · refine List.Perm.trans ?_ (perm_part (fun i => decide (i ∈ vs)) (pr τ (wipe σr vs)) _).symm
      rw [flatMap_nil (l := (List.range σ.length).filter fun i => decide (i ∈ vs)) (f := pr τ (wipe σr vs)) fun i hi => ?_, List.append_nil]
      · rw [flatMap_congr' fun i hi => ?_]
        have hi' : i ∉ vs := by simpa using (List.mem_filter.mp hi).2
        simp only [pr]
        rw [rst_out hi', wipe_out hi']
      · have hi' : i ∈ vs := by simpa using (List.mem_filter.mp hi).2
        simp only [pr]
        split
        · rename_i o v e1 e2
          exact absurd e2 (wipe_in hi' v)
        · rfl
    · rw [flatMap_congr' fun i hi => ?_]
      have hi' : i ∈ vs := by simpa using (List.mem_filter.mp hi).2
      simp only [pr]
      rw [rst_in lt hi']

/-! ### statements -/
def NoB (Φ : List (R × V)) : Prop := ∀ i v, (R.bor i, v) ∉ Φ
def AftS (G : GE) (W : WX) (Φ : List (R × V)) (D : Ends) : Fl → Prop
  | .nx s => ∀ σr H, CfS G σr H s Φ → D.nx σr H
  | .rt o s => ∀ σr v H, CfS G σr H s ((.own o, v) :: Φ) → D.rt v H
  | .bk s => ∀ σr H, CfS G σr H s Φ → D.bk σr H
  | .ct s => ∀ σr H, CfS G σr H s Φ → D.ct σr H
  | .exc c d s => ∀ σr cls dx H, ExR G σr H s Φ c d cls dx → W cls dx σr H
  | .bad => False
def tS (G : GE) (W : WX) (call : Call) (m : C) : TS := fun D σr H => ∃ s Φ, NoB Φ ∧ CfS G σr H s Φ ∧ AftS G W Φ D (m call s)
theorem _root_.L2.PS.of {X : Cx} {st : Stmt} {t t' : TS} (h : PS X st t') (i : ∀ D σ H, t D σ H → t' D σ H) : PS X st t := ⟨fun pins s σ H D I q => h.run pins s σ H D I (i D σ H q)⟩
theorem _root_.L2.PSs.of {X : Cx} {st : List Stmt} {t t' : TS} (h : PSs X st t') (i : ∀ D σ H, t D σ H → t' D σ H) : PSs X st t := ⟨fun pins s σ H D I q => h.run pins s σ H D I (i D σ H q)⟩
section
variable {G : GE} {k : Nat} {call : Call} {cc : CC} {W : WX} {X : Cx}
theorem AftS.flow {α : Type} {Φ : List (R × V)} {D : Ends} {σr : Sr} {x : Out α} {f : α → S → Fl} (a : AftS G W Φ D (x.flow f)) : Aft G W σr Φ (fun y s => AftS G W Φ D (f y s)) x := by
  cases x with
  | ok y s => exact a
  | exc c d s => exact fun cls dx H q => a σr cls dx H q
  | bad => exact a
/-- a statement behind another -/
def Fl.then (x : Fl) (f : S → Fl) : Fl := match x with
  | .nx s => f s
  | y => y
def cNil : C := fun _ s => .nx s
def cSeq (a b : C) : C := fun call s => (a call s).then fun s1 => b call s1
theorem s_nil : PSs X [] (tS G W call cNil) := pss_nil.of fun D σ H q => by
  obtain ⟨s, Φ, nb, c, a⟩ := q
  exact a σ H c
theorem s_cons {st : Stmt} {r : List Stmt} {a b : C} (h1 : PS X st (tS G W call a)) (h2 : PSs X r (tS G W call b)) : PSs X (st :: r) (tS G W call (cSeq a b)) := by
  refine (pss_cons h1 h2).of fun D σ H q => ?_
  obtain ⟨s, Φ, nb, c, q⟩ := q
  refine ⟨s, Φ, nb, c, ?_⟩
  unfold cSeq at q
  cases e : a call s with
  | nx s1 => rw [e] at q; exact fun σ1 H1 c1 => ⟨s1, Φ, nb, c1, q⟩
  | rt o s1 => rw [e] at q; exact q
  | bk s1 => rw [e] at q; exact q
  | ct s1 => rw [e] at q; exact q
  | exc cn d s1 => rw [e] at q; exact q
  | bad => rw [e] at q; exact q
def cIf (c : B) (a b : C) : C := fun call s => (c call s).flow fun x s1 => if x then a call s1 else b call s1
theorem s_if {c : Expr} {a b : List Stmt} {mc : B} {ma mb : C} {pos : Pos} (hc : PT X c (tB_ G W call mc)) (ha : PSs X a (tS G W call ma)) (hb : PSs X b (tS G W call mb)) : PS X (.If c a b pos) (tS G W call (cIf mc ma mb)) := by
  refine (ps_if hc ha hb).of fun D σ H q => ?_
  obtain ⟨s, Φ, nb, c, q⟩ := q
  refine ⟨s, Φ, c, (AftS.flow q).mono fun x s1 a1 => fun H1 c1 => ?_⟩
  cases x with
  | true => exact iteT ⟨s1, Φ, nb, c1, a1⟩
  | false => exact iteF ⟨s1, Φ, nb, c1, a1⟩
/-- what is handed out of a frame: a name's value moves -/
def give (s : S) : R → Option (O × S)
  | .own o => some (o, s)
  | .bor i => match s.σ[i]? with
    | some (some o) => some (o, ⟨s.σ.set i none, s.h⟩)
    | _ => none
theorem slp_out : ∀ {σ : List (Option O)} {σr : Sr} {i : Nat} {o : O} {v : V}, σ[i]? = some (some o) → σr[i]? = some (some v) → (slp σ σr).Perm ((o, v) :: slp (σ.set i none) σr)
  | [], _, _, _, _, e, _ => by simp at e
  | _ :: _, [], _, _, _, _, e => by simp at e
  | a :: σ, b :: σr, 0, o, v, e1, e2 => by
    simp at e1 e2
    subst e1; subst e2
    exact .refl _
  | a :: σ, b :: σr, i + 1, o, v, e1, e2 => by
    have ih := slp_out (σ := σ) (σr := σr) (i := i) (o := o) (v := v) (by simpa using e1) (by simpa using e2)
    cases a with
    | none => exact ih
    | some a =>
      cases b with
      | none => exact ih
      | some b => exact (ih.cons (a, b)).trans (.swap _ _ _)
theorem CfS.give {σr : Sr} {H : Hp} {s s' : S} {Φ : List (R × V)} {r : R} {v : V} {o : O} (c : CfS G σr H s ((r, v) :: Φ)) (e : give s r = some (o, s')) : CfS G σr H s' ((.own o, v) :: Φ) := by
  cases r with
  | own o' =>
    simp only [Mi.give, Option.some.injEq, Prod.mk.injEq] at e
    obtain ⟨e1, e2⟩ := e
    subst e1; subst e2
    exact c
  | bor i =>
    simp only [Mi.give] at e
    have ev : σr[i]? = some (some v) := c.bo i v (by simp)
    split at e
    · rename_i o' eo
      simp only [Option.some.injEq, Prod.mk.injEq] at e
      obtain ⟨e1, e2⟩ := e
      subst e1; subst e2
      refine ⟨⟨by simp [c.sl.len], fun j o2 q => ?_⟩, fun j w q => ?_, ?_⟩
      · by_cases hj : i = j
        · subst hj
          rw [List.getElem?_set] at q
          simp at q
        · exact c.sl.at_ j o2 (by simpa [List.getElem?_set, hj] using q)
      · rcases List.mem_cons.mp q with q | q
        · cases q
        · exact c.bo j w (List.mem_cons_of_mem _ q)
      · have cf : Cf G H s.h (slp s.σ σr ++ ow Φ) := c.cf
        refine cf.perm ?_
        refine ((slp_out eo ev).append_right _).trans ?_
        exact List.perm_middle.symm
    · cases e
def cRet (m : E) : C := fun call s => (m call s).flow fun x s1 => match Mi.give s1 x with
  | some (o, s2) => .rt o s2
  | none => .bad
theorem s_ret {e : Expr} {m : E} {pos : Pos} (h : PE X e (tE G W call m)) : PS X (.Return (some e) pos) (tS G W call (cRet m)) := by
  refine (ps_ret h).of fun D σ H q => ?_
  obtain ⟨s, Φ, nb, c, q⟩ := q
  refine ⟨s, Φ, c, (AftS.flow q).mono fun x s1 a1 => fun v H1 c1 => ?_⟩
  split at a1
  · rename_i o s2 e2
    exact a1 σ v H1 (c1.give e2)
  · exact a1.elim
def cRetN : C := fun _ s => .rt (.fz .non) s
theorem s_retN {pos : Pos} : PS X (.Return none pos) (tS G W call cRetN) := ps_retN.of fun D σ H q => by
  obtain ⟨s, Φ, nb, c, q⟩ := q
  exact q σ .non H (c.simple rfl)
def cPass : C := fun _ s => .nx s
theorem s_pass {pos : Pos} : PS X (.Pass pos) (tS G W call cPass) := ps_pass.of fun D σ H q => by
  obtain ⟨s, Φ, nb, c, q⟩ := q
  exact q σ H c
def cBrk : C := fun _ s => .bk s
theorem s_brk {pos : Pos} : PS X (.Break pos) (tS G W call cBrk) := ps_break.of fun D σ H q => by
  obtain ⟨s, Φ, nb, c, q⟩ := q
  exact q σ H c
def cCnt : C := fun _ s => .ct s
theorem s_cnt {pos : Pos} : PS X (.Continue pos) (tS G W call cCnt) := ps_continue.of fun D σ H q => by
  obtain ⟨s, Φ, nb, c, q⟩ := q
  exact q σ H c
def noComp : Expr → Bool
  | .ListComp .. => false | .SetComp .. => false | .DictComp .. => false | _ => true
theorem noComp_sw {e : Expr} {t : Option Expr} {l : Nat} {env : Env} (h : noComp e = true) : swapsWith e t l env = pure false := by
  cases e <;> first | rfl | cases h
def cExpr (m : E) : C := fun call s => (m call s).flow fun _ s1 => .nx s1
theorem s_expr {e : Expr} {m : E} {pos : Pos} (h : PE X e (tE G W call m)) (hn : noComp e = true) : PS X (.Expr e pos) (tS G W call (cExpr m)) := by
  refine (ps_expr h (noComp_sw hn)).of fun D σ H q => ?_
  obtain ⟨s, Φ, nb, c, q⟩ := q
  exact ⟨s, Φ, c, (AftS.flow q).mono fun x s1 a1 => fun v H1 c1 => a1 σ H1 c1.drop⟩
end
end Mi

set_option Elab.async false
set_option linter.all false
set_option maxRecDepth 100000
set_option maxHeartbeats 4000000
/-! Mi, part J: targets, assignments, loops. -/
namespace Mi
open PySem PySem.Spec PyProof.Rows L2

abbrev Tg := O → S → Option S
abbrev Tgs := List D → S → Option S
def tG (G : GE) (g : Tg) : TG := fun v σr H Q => ∃ s Φ o s', NoB Φ ∧ CfS G σr H s ((.own o, v) :: Φ) ∧ g o s = some s' ∧ ∀ σr', CfS G σr' H s' Φ → σr'.length = σr.length → Q σr' H
def tGs (G : GE) (g : Tgs) : TGs := fun vs σr H Q => ∃ s Φ ds s', NoB Φ ∧ ds.length = vs.length ∧ CfS G σr H s (FzR ds vs ++ Φ) ∧ g ds s = some s' ∧ ∀ σr', CfS G σr' H s' Φ → σr'.length = σr.length → Q σr' H
theorem _root_.L2.PG.of {X : Cx} {e : Expr} {t t' : TG} (h : PG X e t') (i : ∀ v σ H Q, t v σ H Q → t' v σ H Q) : PG X e t := ⟨fun pins s σ H v u Q I r q => h.run pins s σ H v u Q I r (i v σ H Q q)⟩
theorem _root_.L2.PGs.of {X : Cx} {e : List Expr} {t t' : TGs} (h : PGs X e t') (i : ∀ v σ H Q, t v σ H Q → t' v σ H Q) : PGs X e t := ⟨fun pins s σ H v u Q I r q => h.run pins s σ H v u Q I r (i v σ H Q q)⟩

def gN (i : Nat) : Tg := fun o s => if i < s.σ.length then some ⟨s.σ.set i (some o), s.h⟩ else none
def gsNil : Tgs := fun ds s => match ds with
  | [] => some s
  | _ => none
def gsCons (g : Tg) (r : Tgs) : Tgs := fun ds s => match ds with
  | d :: ds => (g (.fz d) s).bind fun s1 => r ds s1
  | [] => none
/-- (a, b, ..) = a tuple or a list -/
def gT (n : Nat) (r : Tgs) : Tg := fun o s => match o with
  | .fz (.tup ds) => if ds.length = n then r ds s else none
  | .fz (.lst ds) => if ds.length = n then r ds s else none
  | .lst ds => if ds.length = n then r ds s else none
  | _ => none
theorem noB_fz {ds : List D} {vs : List V} {Φ : List (R × V)} (h : NoB Φ) : NoB (FzR ds vs ++ Φ) := fun i v q => by
  rcases List.mem_append.mp q with q | q
  · exact nob_fz q
  · exact h i v q
theorem noB_cons {o : O} {v : V} {Φ : List (R × V)} (h : NoB Φ) : NoB ((.own o, v) :: Φ) := fun i w q => by
  rcases List.mem_cons.mp q with q | q
  · cases q
  · exact h i w q
section
variable {G : GE} {k : Nat} {call : Call} {cc : CC} {W : WX} {X : Cx}
/-- a slot is written -/
theorem CfS.put {σr : Sr} {H : Hp} {s : S} {Φ : List (R × V)} {i : Nat} {o : O} {v : V} (nb : NoB Φ) (c : CfS G σr H s ((.own o, v) :: Φ)) (hi : i < s.σ.length) : CfS G (σr.set i (some v)) H ⟨s.σ.set i (some o), s.h⟩ Φ := by
  refine ⟨⟨by simp [c.sl.len], fun j o' q => ?_⟩, fun j w q => absurd q (nb j w), ?_⟩
  · by_cases hj : i = j
    · subst hj
      exact ⟨v, by rw [List.getElem?_set]; simp [← c.sl.len, hi]⟩
    · rw [List.getElem?_set_ne hj]
      exact c.sl.at_ j o' (by simpa [List.getElem?_set, hj] using q)
  · obtain ⟨X, Z, Y, q1, q2, q3⟩ := slp_set (o := o) (v := v) hi (by rw [← c.sl.len]; exact hi)
    show Cf G H s.h (slp (s.σ.set i (some o)) (σr.set i (some v)) ++ ow Φ)
    rw [q2]
    have cf : Cf G H s.h (slp s.σ σr ++ (o, v) :: ow Φ) := c.cf
    rw [q1] at cf
    have c2 : Cf G H s.h (Z ++ ((o, v) :: (X ++ (Y ++ ow Φ)))) := cf.perm (by
      have e1 : X ++ (Z ++ Y) ++ (o, v) :: ow Φ = (X ++ Z ++ Y) ++ (o, v) :: ow Φ := by simp
      rw [e1]
      refine List.perm_middle.trans (List.Perm.trans (List.Perm.cons _ ?_) List.perm_middle.symm)
      rw [List.append_assoc, List.append_assoc]
      exact List.perm_append_comm_assoc X Z _)
    exact (Cf.dropN c2).perm (by
      simp only [List.append_assoc, List.cons_append]
      exact List.perm_middle.symm)
theorem g_name (g : Good G k call cc W X) {i : Nat} {x : Str} {pos : Pos} (hi : cc.N[i]? = some x) (hx : cc.sc.names.lookup x = some .local ∨ (cc.top = true ∧ cc.sc.names.lookup x = some .cell)) : PG X (.Name x pos) (tG G (gN i)) := by
  have hl : Loc X.env.scope x := by
    rw [g.sc]
    rcases hx with h | ⟨_, h⟩
    · exact .inl h
    · exact .inr h
  have hf : X.fn x = true ∨ X.env.scope.names.lookup x = some .local := by
    rw [g.sc]
    rcases hx with h | ⟨h, _⟩
    · exact .inr h
    · exact .inl (g.fn h x)
  refine (pg_name (by rw [g.N]; exact g.nd) (by rw [g.N]; exact hi) hl hf).of fun v σ H Q q => ?_
  obtain ⟨s, Φ, o, s', nb, c, e, q⟩ := q
  simp only [gN] at e
  split at e
  · rename_i hl
    cases e
    exact q _ (c.put nb hl) (by simp)
  · cases e
theorem gs_nil : PGs X [] (tGs G gsNil) := pgs_nil.of fun vs σ H Q q => by
  obtain ⟨s, Φ, ds, s', nb, l, c, e, q⟩ := q
  cases ds with
  | nil =>
    cases e
    have : vs = [] := List.length_eq_zero_iff.mp l.symm
    subst this
    exact ⟨rfl, q σ c rfl⟩
  | cons d ds => cases e
def plainT : Expr → Bool
  | .Starred _ _ => false
  | _ => true
theorem asg_cons {e : Expr} {es : List Expr} {env : Env} (h : plainT e = true) : assignEach (e :: es) env = (false, assign e env) :: assignEach es env := by
  cases e <;> first | rfl | cases h
theorem gs_cons {e : Expr} {es : List Expr} {g : Tg} {r : Tgs} (h1 : PG X e (tG G g)) (h2 : PGs X es (tGs G r)) (hp : plainT e = true) : PGs X (e :: es) (tGs G (gsCons g r)) := by
  refine (pgs_cons h1 h2 (by rw [asg_cons hp]; rfl)).of fun vs σ H Q q => ?_
  obtain ⟨s, Φ, ds, s', nb, l, c, e, q⟩ := q
  cases ds with
  | nil => cases e
  | cons d ds =>
    cases vs with
    | nil => simp at l
    | cons v vs =>
      simp only [gsCons, Option.bind_eq_some_iff] at e
      obtain ⟨s1, e1, e2⟩ := e
      refine ⟨v, vs, rfl, s, FzR ds vs ++ Φ, .fz d, s1, noB_fz nb, c, e1, fun σ1 c1 l1 => ?_⟩
      exact ⟨s1, Φ, ds, s', nb, by simpa using l, c1, e2, fun σ2 c2 l2 => q σ2 c2 (l2.trans l1)⟩
theorem asg_len {env : Env} : ∀ {es : List Expr}, es.all plainT = true → (assignEach es env).length = es.length ∧ (assignEach es env).findIdx? (·.1) = none
  | [], _ => ⟨rfl, rfl⟩
  | e :: es, h => by
    simp only [List.all_cons, Bool.and_eq_true] at h
    obtain ⟨h1, h2⟩ := asg_len (env := env) h.2
    rw [asg_cons h.1]
    refine ⟨by simp [h1], ?_⟩
    rw [List.findIdx?_cons]
    simp [h2]
theorem _root_.L2.PG.or {e : Expr} {t t' : TG} (h : PG X e t) (h' : PG X e t') : PG X e (fun v σ H Q => t v σ H Q ∨ t' v σ H Q) := ⟨fun pins s σ H v u Q I r q => by
  rcases q with q | q
  · exact h.run pins s σ H v u Q I r q
  · exact h'.run pins s σ H v u Q I r q⟩
theorem CfS.spread {σr : Sr} {H : Hp} {s : S} {Φ : List (R × V)} {ds : List D} {vs : List V} {p : O × V} (c : CfS G σr H s Φ) (nb : NoB Φ) (z : Cf G H s.h (Fz ds vs ++ p :: (slp s.σ σr ++ ow Φ))) : CfS G σr H s (FzR ds vs ++ Φ) := by
  refine ⟨c.sl, fun i v q => ?_, ?_⟩
  · rcases List.mem_append.mp q with q | q
    · exact absurd q nob_fz
    · exact c.bo i v q
  · rw [ow_append, ow_fz]
    have z1 : Cf G H s.h (Fz ds vs ++ (slp s.σ σr ++ ow Φ)) := (Cf.unrot z).drop
    exact z1.perm (List.perm_append_comm_assoc _ _ _)
theorem g_tup (g : Good G k call cc W X) {es : List Expr} {r : Tgs} {n : Nat} {pos : Pos} (h : PGs X es (tGs G r)) (hp : es.all plainT = true) : PG X (.Tuple es n pos) (tG G (gT es.length r)) := by
  refine ((pg_tup g.calm h (asg_len hp).1 (asg_len hp).2).or (pg_lst g.calm h (asg_len hp).1 (asg_len hp).2)).of fun v σ H Q q => ?_
  obtain ⟨s, Φ, o, s', nb, c, e, q⟩ := q
  have cf : Cf G H s.h ((o, v) :: (slp s.σ σ ++ ow Φ)) := c.cf.perm List.perm_middle
  unfold gT at e
  split at e
  · rename_i ds
    split at e
    · rename_i hl
      obtain ⟨a, vs, rfl, t, l, z⟩ := Cf.tupF cf
      exact .inl ⟨a, vs, rfl, by rw [g.K]; exact t, by rw [← l, hl], s, Φ, ds, s', nb, l, CfS.spread c.drop nb z, e, q⟩
    · cases e
  · rename_i ds
    split at e
    · rename_i hl
      obtain ⟨a, vs, rfl, t, l, z⟩ := Cf.lstF cf
      exact .inr ⟨a, vs, rfl, .inl (.inl t), by rw [← l, hl], s, Φ, ds, s', nb, l, CfS.spread c.drop nb z, e, q⟩
    · cases e
  · rename_i ds
    split at e
    · rename_i hl
      obtain ⟨a, vs, rfl, t, l, z⟩ := Cf.lst cf
      exact .inr ⟨a, vs, rfl, .inl (.inl t), by rw [← l, hl], s, Φ, ds, s', nb, l, CfS.spread c.drop nb (Cf.rot z), e, q⟩
    · cases e
  · cases e

/-! ### assignments -/
/-- a value that is kept by a name: it moves, or (another name's) it is frozen -/
def keep (s : S) : R → Option (O × S)
  | .own o => some (o, s)
  | .bor i => (take s (.bor i)).map fun p => (.fz p.1, p.2)
theorem CfS.keep {σr : Sr} {H : Hp} {s s' : S} {Φ : List (R × V)} {r : R} {v : V} {o : O} (c : CfS G σr H s ((r, v) :: Φ)) (e : keep s r = some (o, s')) : CfS G σr H s' ((.own o, v) :: Φ) := by
  cases r with
  | own o' =>
    simp only [Mi.keep, Option.some.injEq, Prod.mk.injEq] at e
    obtain ⟨e1, e2⟩ := e
    subst e1; subst e2
    exact c
  | bor i =>
    simp only [Mi.keep, Option.map_eq_some_iff] at e
    obtain ⟨⟨d, s2⟩, e1, e2⟩ := e
    cases e2
    exact c.take e1
def cAsg (m : E) (g : Tg) : C := fun call s => (m call s).flow fun x s1 => match (keep s1 x).bind fun p => g p.1 p.2 with
  | some s2 => .nx s2
  | none => .bad
theorem tAsg_of {m : E} {g : Tg} {D : Ends} {σ : Sr} {H : Hp} (q : tS G W call (cAsg m g) D σ H) : tAsg (tE G W call m) (tG G g) D σ H := by
  obtain ⟨s, Φ, nb, c, q⟩ := q
  refine ⟨s, Φ, c, (AftS.flow q).mono fun x s1 a1 => fun v H1 c1 => ?_⟩
  split at a1
  · rename_i s2 e2
    simp only [Option.bind_eq_some_iff] at e2
    obtain ⟨⟨o, s3⟩, e3, e4⟩ := e2
    exact ⟨s3, Φ, o, s2, nb, c1.keep e3, e4, fun σ' c' _ => a1 σ' H1 c'⟩
  · exact a1.elim
theorem s_asg {tg e : Expr} {m : E} {g : Tg} {pos : Pos} (he : PE X e (tE G W call m)) (hg : PG X tg (tG G g)) (hn : noComp e = true) (hw : swappedStores [tg] e X.env = pure none) (hp : plainT tg = true) : PS X (.Assign [tg] e pos) (tS G W call (cAsg m g)) :=
  (ps_asg he hg (noComp_sw hn) hw (by rw [asg_cons hp]; rfl)).of fun D σ H q => tAsg_of q

/-! ### several targets at once -/
def keepAll (s : S) : List R → Option (List O × S)
  | [] => some ([], s)
  | r :: rs => (keep s r).bind fun p => (keepAll p.2 rs).bind fun q => some (p.1 :: q.1, q.2)
def asgAll : List Tg → List O → S → Option S
  | [], [], s => some s
  | g :: gs, o :: os, s => (g o s).bind fun s1 => asgAll gs os s1
  | _, _, _ => none
def OwR (os : List O) (vs : List V) : List (R × V) := List.zipWith (fun o v => (R.own o, v)) os vs
theorem nob_ow : ∀ {os : List O} {vs : List V} {i : Nat} {v : V}, (R.bor i, v) ∉ OwR os vs
  | [], _, _, _ => by simp [OwR]
  | _ :: _, [], _, _ => by simp [OwR]
  | o :: os, v :: vs, i, w => by
    show (R.bor i, w) ∉ (R.own o, v) :: OwR os vs
    intro h
    rcases List.mem_cons.mp h with h | h
    · cases h
    · exact nob_ow h
theorem CfS.keepAll {σr : Sr} {H : Hp} : ∀ {rs : List R} {vs : List V} {s s' : S} {os : List O} {Φ : List (R × V)}, rs.length = vs.length → CfS G σr H s (rs.zip vs ++ Φ) → keepAll s rs = some (os, s') → os.length = vs.length ∧ CfS G σr H s' (OwR os vs ++ Φ)
  | [], [], s, s', os, Φ, _, c, e => by cases e; exact ⟨rfl, c⟩
  | r :: rs, v :: vs, s, s', os, Φ, l, c, e => by
    simp only [Mi.keepAll, Option.bind_eq_some_iff] at e
    obtain ⟨⟨o, s1⟩, e1, ⟨os', s2⟩, e2, e3⟩ := e
    cases e3
    have c1 : CfS G σr H s1 ((.own o, v) :: (rs.zip vs ++ Φ)) := CfS.keep c e1
    have c2 : CfS G σr H s1 (rs.zip vs ++ (.own o, v) :: Φ) := c1.perm List.perm_middle.symm
    obtain ⟨l3, c3⟩ := CfS.keepAll (by simpa using l) c2 e2
    exact ⟨by simp [l3], c3.perm List.perm_middle⟩
  | [], _ :: _, _, _, _, _, l, _, _ => by simp at l
  | _ :: _, [], _, _, _, _, l, _, _ => by simp at l
def tGsO (G : GE) (gs : List Tg) : TGs := fun vs σr H Q => ∃ s Φ os s', NoB Φ ∧ os.length = vs.length ∧ CfS G σr H s (OwR os vs ++ Φ) ∧ asgAll gs os s = some s' ∧ ∀ σr', CfS G σr' H s' Φ → Q σr' H
theorem gso_nil : PGs X [] (tGsO G []) := pgs_nil.of fun vs σ H Q q => by
  obtain ⟨s, Φ, os, s', nb, l, c, e, q⟩ := q
  cases os with
  | nil =>
    cases e
    have : vs = [] := List.length_eq_zero_iff.mp l.symm
    subst this
    exact ⟨rfl, q σ c⟩
  | cons d ds => cases e
theorem gso_cons {e : Expr} {es : List Expr} {g : Tg} {gs : List Tg} (h1 : PG X e (tG G g)) (h2 : PGs X es (tGsO G gs)) (hp : plainT e = true) : PGs X (e :: es) (tGsO G (g :: gs)) := by
  refine (pgs_cons h1 h2 (by rw [asg_cons hp]; rfl)).of fun vs σ H Q q => ?_
  obtain ⟨s, Φ, os, s', nb, l, c, e, q⟩ := q
  cases os with
  | nil => cases e
  | cons o os =>
    cases vs with
    | nil => simp at l
    | cons v vs =>
      simp only [asgAll, Option.bind_eq_some_iff] at e
      obtain ⟨s1, e1, e2⟩ := e
      have nb2 : NoB (OwR os vs ++ Φ) := fun i w q => by
        rcases List.mem_append.mp q with q | q
        · exact nob_ow q
        · exact nb i w q
      refine ⟨v, vs, rfl, s, OwR os vs ++ Φ, o, s1, nb2, c, e1, fun σ1 c1 _ => ?_⟩
      exact ⟨s1, Φ, os, s', nb, by simpa using l, c1, e2, q⟩
def cMul (r : AsR) (gs : List Tg) : C := fun call s => (r call s).flow fun rs s1 => if fitsB rs.length then (match (keepAll s1 rs).bind fun p => asgAll gs p.1 p.2 with
  | some s2 => .nx s2
  | none => .bad) else .bad
theorem asgAll_len : ∀ {gs : List Tg} {os : List O} {s s' : S}, asgAll gs os s = some s' → gs.length = os.length
  | [], [], _, _, _ => rfl
  | _ :: gs, _ :: os, s, s', e => by
    simp only [asgAll, Option.bind_eq_some_iff] at e
    obtain ⟨s1, e1, e2⟩ := e
    simp [asgAll_len e2]
  | [], _ :: _, _, _, e => by cases e
  | _ :: _, [], _, _, e => by cases e
/-- a tuple written, and taken apart at once -/
theorem s_mul (g : Good G k call cc W X) {ts vs : List Expr} {r : AsR} {gs : List Tg} {k1 k2 : Nat} {p1 p2 pos : Pos} (hv : PA X vs (tR G W call r)) (ht : PGs X ts (tGsO G gs)) (hp : ts.all plainT = true) (hl : ts.length = gs.length) (hw : swappedStores [.Tuple ts k1 p1] (.Tuple vs k2 p2) X.env = pure none) :
    PS X (.Assign [.Tuple ts k1 p1] (.Tuple vs k2 p2) pos) (tS G W call (cMul r gs)) := by
  refine (ps_asg (pe_tup hv) (pg_tup g.calm ht (asg_len hp).1 (asg_len hp).2) rfl hw rfl).of fun D σ H q => ?_
  obtain ⟨s, Φ, nb, c, q⟩ := q
  refine ⟨s, Φ, c, (AftS.flow q).mono fun rs s1 a1 => fun us H1 l c1 => ?_⟩
  split at a1
  · rename_i hf
    split at a1
    · rename_i s2 e2
      simp only [Option.bind_eq_some_iff] at e2
      obtain ⟨⟨os, s3⟩, e3, e4⟩ := e2
      refine ⟨by rw [← l]; exact fits hf, fun p hp => ?_⟩
      obtain ⟨lo, c3⟩ := c1.keepAll l e3
      have lg := asgAll_len e4
      refine ⟨p, us, rfl, .inl (.inl upd_same), by rw [← lo, ← lg, hl], s3, Φ, os, s2, nb, lo, ?_, e4, fun σ' c' => a1 σ' _ c'⟩
      refine ⟨c3.sl, c3.bo, ?_⟩
      obtain ⟨ρ, M, cp⟩ := c3.parts
      exact (cp.alloc hp).1.cf
    · exact a1.elim
  · exact a1.elim
/-- the compiler's own way with two names, three names -/
theorem s_par2 (g : Good G k call cc W X) {i j : Nat} {x y : Str} {a b : Expr} {r : AsR} {px py pt pt2 pos : Pos} {kt k2 : Nat} (hi : cc.N[i]? = some x) (hj : cc.N[j]? = some y) (hij : i ≠ j) (hx : cc.sc.names.lookup x = some .local) (hy : cc.sc.names.lookup y = some .local)
    (hv : PA X [a, b] (tR G W call r)) (hw : swappedStores [.Tuple [.Name x px, .Name y py] kt pt] (.Tuple [a, b] k2 pt2) X.env = pure (some [x, y])) :
    PS X (.Assign [.Tuple [.Name x px, .Name y py] kt pt] (.Tuple [a, b] k2 pt2) pos) (tS G W call (cMul r [gN i, gN j])) := by
  refine (ps_par g.calm (by rw [g.N]; exact g.nd) (by rw [g.N]; exact hi) (by rw [g.N]; exact hj) hij (by rw [g.sc]; exact hx) (by rw [g.sc]; exact hy) hv hw).of fun D σ H q => ?_
  obtain ⟨s, Φ, nb, c, q⟩ := q
  refine ⟨s, Φ, c, (AftS.flow q).mono fun rs s1 a1 => fun us H1 l c1 => ?_⟩
  split at a1
  · rename_i hf
    split at a1
    · rename_i s2 e2
      simp only [Option.bind_eq_some_iff] at e2
      obtain ⟨⟨os, s3⟩, e3, e4⟩ := e2
      obtain ⟨lo, c3⟩ := c1.keepAll l e3
      match os, us, lo with
      | [o1, o2], [u1, u2], _ =>
        refine ⟨u1, u2, rfl, ?_⟩
        simp only [asgAll, Option.bind_eq_some_iff, gN] at e4
        obtain ⟨s4, e5, s5, e6, e7⟩ := e4
        split at e5
        · rename_i h1
          cases e5
          split at e6
          · rename_i h2
            cases e6; cases e7
            have c4 : CfS G (σ.set i (some u1)) H1 ⟨s3.σ.set i (some o1), s3.h⟩ ((.own o2, u2) :: Φ) := CfS.put (noB_cons nb) c3 h1
            exact a1 _ H1 (CfS.put nb c4 h2)
          · cases e6
        · cases e5
      | [], _, z => have := asgAll_len e4; simp at this
      | [_], _, z => have := asgAll_len e4; simp at this
      | _ :: _ :: _ :: _, _, z => have := asgAll_len e4; simp at this
      | [_, _], [], z => simp at z
      | [_, _], [_], z => simp at z
      | [_, _], _ :: _ :: _ :: _, z => simp at z
    · exact a1.elim
  · exact a1.elim
theorem s_par3 (g : Good G k call cc W X) {i j n : Nat} {x y z : Str} {a b c : Expr} {r : AsR} {px py pz pt pt2 pos : Pos} {kt k2 : Nat} (hi : cc.N[i]? = some x) (hj : cc.N[j]? = some y) (hn : cc.N[n]? = some z) (hij : i ≠ j) (hin : i ≠ n) (hjn : j ≠ n) (hx : cc.sc.names.lookup x = some .local) (hy : cc.sc.names.lookup y = some .local) (hz : cc.sc.names.lookup z = some .local)
    (hv : PA X [a, b, c] (tR G W call r)) (hw : swappedStores [.Tuple [.Name x px, .Name y py, .Name z pz] kt pt] (.Tuple [a, b, c] k2 pt2) X.env = pure (some [x, y, z])) :
    PS X (.Assign [.Tuple [.Name x px, .Name y py, .Name z pz] kt pt] (.Tuple [a, b, c] k2 pt2) pos) (tS G W call (cMul r [gN i, gN j, gN n])) := by
  refine (ps_par3 g.calm (by rw [g.N]; exact g.nd) (by rw [g.N]; exact hi) (by rw [g.N]; exact hj) (by rw [g.N]; exact hn) hij hin hjn (by rw [g.sc]; exact hx) (by rw [g.sc]; exact hy) (by rw [g.sc]; exact hz) hv hw).of fun D σ H q => ?_
  obtain ⟨s, Φ, nb, c, q⟩ := q
  refine ⟨s, Φ, c, (AftS.flow q).mono fun rs s1 a1 => fun us H1 l c1 => ?_⟩
  split at a1
  · rename_i hf
    split at a1
    · rename_i s2 e2
      simp only [Option.bind_eq_some_iff] at e2
      obtain ⟨⟨os, s3⟩, e3, e4⟩ := e2
      obtain ⟨lo, c3⟩ := c1.keepAll l e3
      match os, us, lo with
      | [o1, o2, o3], [u1, u2, u3], _ =>
        refine ⟨u1, u2, u3, rfl, ?_⟩
        simp only [asgAll, Option.bind_eq_some_iff, gN] at e4
        obtain ⟨s4, e5, s5, e6, s6, e7, e8⟩ := e4
        split at e5
        · rename_i h1
          cases e5
          split at e6
          · rename_i h2
            cases e6
            split at e7
            · rename_i h3
              cases e7; cases e8
              have c4 : CfS G (σ.set i (some u1)) H1 ⟨s3.σ.set i (some o1), s3.h⟩ ((.own o2, u2) :: (.own o3, u3) :: Φ) := CfS.put (noB_cons (noB_cons nb)) c3 h1
              exact a1 _ H1 (CfS.put nb (CfS.put (noB_cons nb) c4 h2) h3)
            · cases e7
          · cases e6
        · cases e5
      | [], _, z => have := asgAll_len e4; simp at this
      | [_], _, z => have := asgAll_len e4; simp at this
      | [_, _], _, z => have := asgAll_len e4; simp at this
      | _ :: _ :: _ :: _ :: _, _, z => have := asgAll_len e4; simp at this
      | [_, _, _], [], z => simp at z
      | [_, _, _], [_], z => simp at z
      | [_, _, _], [_, _], z => simp at z
      | [_, _, _], _ :: _ :: _ :: _ :: _, z => simp at z
    · exact a1.elim
  · exact a1.elim
end
end Mi

set_option Elab.async false
set_option linter.all false
set_option maxRecDepth 100000
set_option maxHeartbeats 4000000
/-! Mi, part K: what is walked, for, while. -/
namespace Mi
open PySem PySem.Spec PyProof.Rows L2

/-- the iterator J walks ds, while K is at hand -/
def Walks (G : GE) (J : It) (K : List (R × V)) (ds : List D) : Prop := ∀ (σr : Sr) (H : Hp) (s : S) (Φ : List (R × V)), CfS G σr H s (K ++ Φ) →
  (∀ i, i < ds.length → J.go i H) ∧ (∀ i d x H', ds[i]? = some d → J.yld i H x H' → CfS G σr H' s ((.own (.fz d), x) :: (K ++ Φ))) ∧ J.stop ds.length H
abbrev Iv := Call → S → Out (List D)
def tI (G : GE) (W : WX) (call : Call) (m : Iv) : TI := fun σr H Rr => ∃ s Φ, CfS G σr H s Φ ∧ Aft G W σr Φ (fun ds s1 => ∀ K J H1, NoB K → CfS G σr H1 s1 (K ++ Φ) → Walks G J K ds → Rr J H1) (m call s)
theorem _root_.L2.PI.of {X : Cx} {tg e : Expr} {t t' : TI} (h : PI X tg e t') (i : ∀ σ H Q, t σ H Q → t' σ H Q) : PI X tg e t := ⟨fun pins s σ H Q I q => h.run pins s σ H Q I (i σ H Q q)⟩
theorem _root_.L2.PI.or {X : Cx} {tg e : Expr} {t t' : TI} (h : PI X tg e t) (h' : PI X tg e t') : PI X tg e (fun σ H R => t σ H R ∨ t' σ H R) := ⟨fun pins s σ H Q I q => by
  rcases q with q | q
  · exact h.run pins s σ H Q I q
  · exact h'.run pins s σ H Q I q⟩

/-! ### a list, a tuple, a text -/
def signs (x : Str) : List D := x.cps.toList.map fun c => .str ⟨#[c]⟩
def iterD : D → Option (List D)
  | .str x => some (signs x)
  | d => itemsD d
def iVal (m : E) : Iv := fun call s => (m call s).bind fun x s1 => match take s1 x with
  | some (d, s2) => lift s2 (iterD d)
  | none => .bad
section
variable {G : GE} {k : Nat} {call : Call} {cc : CC} {W : WX} {X : Cx}
theorem walks_list {d : D} {ds : List D} {v : V} {a : Addr} (e : listD d = some ds) (hv : v = .ref a) : Walks G (Itl G.K a) [(.own (.fz d), v)] ds := by
  intro σr H s Φ c
  subst hv
  obtain ⟨ρ, M, cp⟩ := c.parts
  have r := c.peek (r := .own (.fz d)) (v := .ref a) (d := d) (by simp) (by cases d <;> first | rfl | cases e) cp
  obtain ⟨a', vs, ea, t, rd⟩ := listD_of r e
  cases ea
  exact ⟨fun i hi => ⟨vs, vs[i]'(by rw [← rd.length]; exact hi), t, by simp⟩, fun i d' x H' ei ⟨eH, y⟩ => by
    subst eH
    have ex := y vs t
    obtain ⟨w, hw, q⟩ := rd.get ei
    rw [ex] at hw
    cases hw
    exact CfS.cpMore (K := []) c cp q, ⟨vs, t, by rw [rd.length]; exact Nat.le_refl _⟩⟩
theorem walks_tup {ds : List D} {v : V} {a : Addr} (hv : v = .ref a) : Walks G (Itt G.K a) [(.own (.fz (.tup ds)), v)] ds := by
  intro σr H s Φ c
  subst hv
  obtain ⟨ρ, M, cp⟩ := c.parts
  have r := c.peek (r := .own (.fz (.tup ds))) (v := .ref a) (d := .tup ds) (by simp) rfl cp
  obtain ⟨a', vs, ea, t0, rd⟩ := r
  have t := t0.sq
  cases ea
  exact ⟨fun i hi => ⟨vs, vs[i]'(by rw [← rd.length]; exact hi), t, by simp⟩, fun i d' x H' ei ⟨eH, y⟩ => by
    subst eH
    have ex := y vs t
    obtain ⟨w, hw, q⟩ := rd.get ei
    rw [ex] at hw
    cases hw
    exact CfS.cpMore (K := []) c cp q, ⟨vs, t, by rw [rd.length]; exact Nat.le_refl _⟩⟩
theorem walks_str {x : Str} : Walks G (Its x) [] (signs x) := by
  intro σr H s Φ c
  refine ⟨fun i hi => by simpa [signs, Its] using hi, fun i d' y H' ei ⟨eH, cp, ec, ey⟩ => ?_, by simp [signs, Its]⟩
  subst eH; subst ey
  have : d' = .str ⟨#[cp]⟩ := by
    simp only [signs, List.getElem?_map, Option.map_eq_some_iff] at ei
    obtain ⟨z, e1, e2⟩ := ei
    rw [Array.getElem?_toList, ec] at e1
    cases e1
    exact e2.symm
  subst this
  exact c.simple rfl
theorem i_val (g : Good G k call cc W X) {tg e : Expr} {m : E} (h : PE X e (tE G W call m)) : PI X tg e (tI G W call (iVal m)) := by
  refine (((pi_list h).or (pi_tup h)).or (pi_str h)).of fun σ H Q q => ?_
  obtain ⟨s, Φ, c, q⟩ := q
  have q1 := Aft.bind q
  cases em : m call s with
  | bad => rw [em] at q1; exact q1.elim
  | exc cn d s1 => exact .inl (.inl ⟨s, Φ, c, by rw [em] at q1 ⊢; exact q1⟩)
  | ok x s1 =>
    rw [em] at q1
    have q2 : Aft G W σ Φ _ (match take s1 x with
      | some (d, s2) => lift s2 (iterD d)
      | none => .bad) := q1
    split at q2
    · rename_i d s2 et
      obtain ⟨ds, ed, q3⟩ := Aft.lift q2
      cases d with
      | str z =>
        cases ed
        refine .inr ⟨s, Φ, c, ?_⟩
        rw [em]
        intro v H1 c1
        have c2 := c1.take et
        have ev : v = .str z := by obtain ⟨ρ, M, cp⟩ := c2.parts; exact c2.peek (r := .own (.fz (.str z))) (d := .str z) (by simp) rfl cp
        exact ⟨z, ev, q3 [] _ H1 (fun _ _ z => by simp at z) c2.drop walks_str⟩
      | tup ds' =>
        cases ed
        refine .inl (.inr ⟨s, Φ, c, ?_⟩)
        rw [em]
        intro v H1 c1
        have c2 := c1.take et
        obtain ⟨ρ, M, cp⟩ := c2.parts
        obtain ⟨a, vs, ea, t, rd⟩ := c2.peek (r := .own (.fz (.tup ds))) (d := .tup ds) (v := v) (by simp) rfl cp
        exact ⟨a, ea, ⟨vs, by rw [g.K]; exact t.sq⟩, by rw [g.K]; exact q3 [(.own (.fz (.tup ds)), v)] _ H1 (noB_cons fun _ _ z => by simp at z) c2 (walks_tup ea)⟩
      | lst ds' =>
        have e2 : listD (.lst ds') = some ds := ed
        refine .inl (.inl ⟨s, Φ, c, ?_⟩)
        rw [em]
        intro v H1 c1
        have c2 := c1.take et
        obtain ⟨ρ, M, cp⟩ := c2.parts
        obtain ⟨a, vs, ea, t, rd⟩ := listD_of (c2.peek (r := .own (.fz (.lst ds'))) (d := .lst ds') (v := v) (by simp) rfl cp) e2
        exact ⟨a, ea, ⟨vs, by rw [g.K]; exact t⟩, by rw [g.K]; exact q3 [(.own (.fz (.lst ds')), v)] _ H1 (noB_cons fun _ _ z => by simp at z) c2 (walks_list e2 ea)⟩
      | scr ns =>
        have e2 : listD (.scr ns) = some ds := ed
        refine .inl (.inl ⟨s, Φ, c, ?_⟩)
        rw [em]
        intro v H1 c1
        have c2 := c1.take et
        obtain ⟨ρ, M, cp⟩ := c2.parts
        obtain ⟨a, vs, ea, t, rd⟩ := listD_of (c2.peek (r := .own (.fz (.scr ns))) (d := .scr ns) (v := v) (by simp) rfl cp) e2
        exact ⟨a, ea, ⟨vs, by rw [g.K]; exact t⟩, by rw [g.K]; exact q3 [(.own (.fz (.scr ns)), v)] _ H1 (noB_cons fun _ _ z => by simp at z) c2 (walks_list e2 ea)⟩
      | non => cases ed
      | bl _ => cases ed
      | int _ => cases ed
      | dic _ _ => cases ed
      | ins _ _ _ => cases ed
      | loc _ => cases ed
      | fn _ => cases ed
      | ty _ => cases ed
      | cls _ => cases ed
      | xn _ _ _ => cases ed
      | lk _ _ => cases ed
    · exact q2.elim

/-! ### range -/
def rangeD (lo : Int) (n : Nat) : List D := (List.range n).map fun i => .int (lo + (i : Nat))
def smallR (i : Int) : Bool := decide (-(2 ^ 62) ≤ i) && decide (i < 2 ^ 62)
def iRg1 (r : AsR) : Iv := fun call s => (r call s).bind fun rs s1 => match peeks s1 rs with
  | some [.int j] => if smallR j then .ok (rangeD 0 j.toNat) s1 else .bad
  | _ => .bad
def iRg2 (r : AsR) : Iv := fun call s => (r call s).bind fun rs s1 => match peeks s1 rs with
  | some [.int i, .int j] => if smallR i && smallR j then .ok (rangeD i (j - i).toNat) s1 else .bad
  | _ => .bad
theorem walks_range {lo : Int} {n : Nat} : Walks G (Itr lo n) [] (rangeD lo n) := by
  intro σr H s Φ c
  refine ⟨fun i hi => by simpa [rangeD, Itr] using hi, fun i d' y H' ei ⟨eH, ey⟩ => ?_, by simp [rangeD, Itr]⟩
  subst eH; subst ey
  simp only [rangeD, List.getElem?_map, Option.map_eq_some_iff] at ei
  obtain ⟨z, e1, e2⟩ := ei
  have hz : z = i := by
    by_cases hi : i < n
    · rw [List.getElem?_range hi] at e1; cases e1; rfl
    · rw [List.getElem?_eq_none (by simpa using hi)] at e1; cases e1
  subst hz; subst e2
  exact c.simple rfl
theorem i_range1 (g : Good G k call cc W X) {tg a : Expr} {r : AsR} {p pos : Pos} (hg : cc.sc.names.lookup ("range" : Str) = some .globalImplicit) (h : PA X [a] (tR G W call r)) (hn : notStar a = true) : PI X tg (.Call (.Name "range" p) [a] [] pos) (tI G W call (iRg1 r)) := by
  refine (pi_range1 (g.gl hg) (g.blt _ (by decide)) h (star_cons hn)).of fun σ H Q q => ?_
  obtain ⟨s, Φ, c, q⟩ := q
  refine ⟨s, Φ, c, (Aft.bind q).mono fun rs s1 a1 => fun vs H1 l c1 => ?_⟩
  split at a1
  · rename_i j e
    split at a1
    · rename_i hs
      simp only [smallR, Bool.and_eq_true, decide_eq_true_eq] at hs
      obtain ⟨ρ, M, cp⟩ := c1.parts
      obtain ⟨v, rfl, r⟩ := (peeks_of c1 cp l (fun p hp => List.mem_append_left _ hp) e).one
      obtain rfl := (show v = _ from r)
      exact ⟨j, rfl, hs.1, hs.2, a1 [] _ H1 (fun _ _ z => by simp at z) c1.dropN walks_range⟩
    · exact a1.elim
  · exact a1.elim
theorem i_range2 (g : Good G k call cc W X) {tg a b : Expr} {r : AsR} {p pos : Pos} (hg : cc.sc.names.lookup ("range" : Str) = some .globalImplicit) (h : PA X [a, b] (tR G W call r)) (hn : notStar a = true) (hm : notStar b = true) : PI X tg (.Call (.Name "range" p) [a, b] [] pos) (tI G W call (iRg2 r)) := by
  refine (pi_range2 (g.gl hg) (g.blt _ (by decide)) h (by rw [star_cons hn, star_cons hm]; rfl) (star_cons hm)).of fun σ H Q q => ?_
  obtain ⟨s, Φ, c, q⟩ := q
  refine ⟨s, Φ, c, (Aft.bind q).mono fun rs s1 a1 => fun vs H1 l c1 => ?_⟩
  split at a1
  · rename_i i j e
    split at a1
    · rename_i hs
      simp only [smallR, Bool.and_eq_true, decide_eq_true_eq] at hs
      obtain ⟨ρ, M, cp⟩ := c1.parts
      obtain ⟨v, v', rfl, r, r'⟩ := (peeks_of c1 cp l (fun p hp => List.mem_append_left _ hp) e).two
      obtain rfl := (show v = _ from r); obtain rfl := (show v' = _ from r')
      exact ⟨i, j, rfl, ⟨hs.1.1, hs.1.2, hs.2.1, hs.2.2⟩, a1 [] _ H1 (fun _ _ z => by simp at z) c1.dropN walks_range⟩
    · exact a1.elim
  · exact a1.elim

/-! ### for -/
def forL (call : Call) (g : Tg) (body : C) : List D → S → Fl
  | [], s => .nx s
  | d :: ds, s => match g (.fz d) s with
    | none => .bad
    | some s1 => match body call s1 with
      | .nx s2 => forL call g body ds s2
      | .ct s2 => forL call g body ds s2
      | .bk s2 => .nx s2
      | .rt o s2 => .rt o s2
      | .exc c d s2 => .exc c d s2
      | .bad => .bad
def cFor (m : Iv) (g : Tg) (body : C) : C := fun call s => (m call s).flow fun ds s1 => forL call g body ds s1
theorem AftS.imp {Φ : List (R × V)} {D : Ends} {x : Fl} (a : AftS G W Φ D x) {K : List (R × V)} {D' : Ends} (h1 : ∀ s, x = .nx s → ∀ σ H, CfS G σ H s (K ++ Φ) → D'.nx σ H) (h2 : ∀ s, x = .bk s → ∀ σ H, CfS G σ H s (K ++ Φ) → D'.bk σ H) (h3 : ∀ s, x = .ct s → ∀ σ H, CfS G σ H s (K ++ Φ) → D'.ct σ H) (h4 : ∀ v H, D.rt v H → D'.rt v H) : AftS G W (K ++ Φ) D' x := by
  cases x with
  | nx s => exact h1 s rfl
  | bk s => exact h2 s rfl
  | ct s => exact h3 s rfl
  | rt o s => exact fun σ v H c => h4 v H (a σ v H (CfS.dropN (K := K) (c.perm List.perm_middle.symm)))
  | exc cn d s =>
    rintro σ cls dx H ⟨C, f, b, v, e1, e2, e3, e4, c5⟩
    exact a σ cls dx H ⟨C, f, b, v, e1, e2, e3, e4, CfS.dropN (K := K) (c5.perm List.perm_middle.symm)⟩
  | bad => exact a
theorem for_walk {J : It} {K Φ : List (R × V)} {ds : List D} {g : Tg} {body : C} {D : Ends} {σ : Sr} {H : Hp} {s : S} (nk : NoB K) (nb : NoB Φ) (w : Walks G J K ds) (c : CfS G σ H s (K ++ Φ)) (a : AftS G W Φ D (forL call g body ds s)) :
    ∃ Wr : Nat → Nat → Sr → Hp → Prop, (∃ m, Wr 0 m σ H) ∧ ∀ i m σ H, Wr i m σ H →
      (J.stop i H ∧ D.nx σ H) ∨ (J.go i H ∧ ∃ N : Sr → Hp → Prop, (∀ σ' H', N σ' H' → ∃ m', m' < m ∧ Wr (i + 1) m' σ' H') ∧ ∀ x H', J.yld i H x H' → tG G g x σ H' fun σ2 H2 => tS G W call body { D with nx := N, ct := N, bk := D.nx } σ2 H2) := by
  have nkb : NoB (K ++ Φ) := fun i v z => by
    rcases List.mem_append.mp z with z | z
    · exact nk i v z
    · exact nb i v z
  refine ⟨fun i m σ H => m = ds.length - i ∧ i ≤ ds.length ∧ ∃ s, CfS G σ H s (K ++ Φ) ∧ AftS G W Φ D (forL call g body (ds.drop i) s), ⟨ds.length, by simp, Nat.zero_le _, s, c, a⟩, ?_⟩
  rintro i m σ H ⟨rfl, hi, s, c, a⟩
  obtain ⟨w1, w2, w3⟩ := w σ H s Φ c
  by_cases hlt : i < ds.length
  · refine .inr ⟨w1 i hlt, fun σ' H' => ∃ s, CfS G σ' H' s (K ++ Φ) ∧ AftS G W Φ D (forL call g body (ds.drop (i + 1)) s), fun σ' H' p' => ⟨ds.length - (i + 1), by omega, rfl, hlt, p'⟩, fun x H' y => ?_⟩
    have e : ds.drop i = ds[i] :: ds.drop (i + 1) := List.drop_eq_getElem_cons hlt
    rw [e] at a
    have c1 := w2 i ds[i] x H' (by simp [hlt]) y
    simp only [forL] at a
    split at a
    · exact a.elim
    · rename_i s1 eg
      refine ⟨s, K ++ Φ, .fz ds[i], s1, nkb, c1, eg, fun σ2 c2 _ => ⟨s1, K ++ Φ, nkb, c2, ?_⟩⟩
      cases eb : body call s1 with
      | nx s2 => rw [eb] at a; exact fun σ3 H3 c3 => ⟨s2, c3, a⟩
      | ct s2 => rw [eb] at a; exact fun σ3 H3 c3 => ⟨s2, c3, a⟩
      | bk s2 => rw [eb] at a; exact fun σ3 H3 c3 => a σ3 H3 (CfS.dropN c3)
      | rt o s2 => rw [eb] at a; exact fun σ3 v H3 c3 => a σ3 v H3 (CfS.dropN (K := K) (c3.perm List.perm_middle.symm))
      | exc cn d s2 =>
        rw [eb] at a
        rintro σ3 cls dx H3 ⟨C, f, b, v, e1, e2, e3, e4, c5⟩
        exact a σ3 cls dx H3 ⟨C, f, b, v, e1, e2, e3, e4, CfS.dropN (K := K) (c5.perm List.perm_middle.symm)⟩
      | bad => rw [eb] at a; exact a
  · have e : i = ds.length := by omega
    subst e
    rw [List.drop_length] at a
    exact .inl ⟨w3, a σ H (CfS.dropN c)⟩
theorem s_for (g : Good G k call cc W X) {tg it : Expr} {b : List Stmt} {m : Iv} {t : Tg} {mb : C} {pos : Pos} (hi : PI X tg it (tI G W call m)) (hg : PG X tg (tG G t)) (hb : PSs X b (tS G W call mb)) (hs : ∀ x, foldedSetIterable it X.env x = pure x) : PS X (.For tg it b [] pos) (tS G W call (cFor m t mb)) := by
  refine (ps_for g.po g.calm hi hg hb hs).of fun D σ H q => ?_
  obtain ⟨s, Φ, nb, c, q⟩ := q
  exact ⟨s, Φ, c, (AftS.flow q).mono fun ds s1 a1 => fun K J H1 nk c1 w => for_walk nk nb w c1 a1⟩

/-! ### while: with a number of turns -/
def whL (call : Call) (c : B) (body : C) : Nat → S → Fl
  | 0, _ => .bad
  | n + 1, s => match c call s with
    | .ok false s1 => .nx s1
    | .ok true s1 => (match body call s1 with
      | .nx s2 => whL call c body n s2
      | .ct s2 => whL call c body n s2
      | .bk s2 => .nx s2
      | .rt o s2 => .rt o s2
      | .exc c d s2 => .exc c d s2
      | .bad => .bad)
    | .exc c d s1 => .exc c d s1
    | .bad => .bad
def cWhile (c : B) (body : C) : C := fun call s => whL call c body 100000 s
theorem s_while (g : Good G k call cc W X) {e : Expr} {b : List Stmt} {mc : B} {mb : C} {pos : Pos} (hc : PT X e (tB_ G W call mc)) (hb : PSs X b (tS G W call mb)) : PS X (.While e b [] pos) (tS G W call (cWhile mc mb)) := by
  refine (ps_while g.po hc hb).of fun D σ H q => ?_
  obtain ⟨s, Φ, nb, c, q⟩ := q
  refine ⟨fun m σ H => ∃ s, CfS G σ H s Φ ∧ AftS G W Φ D (whL call mc mb m s), ⟨100000, s, c, q⟩, ?_⟩
  rintro m σ H ⟨s, c, a⟩
  cases m with
  | zero => exact a.elim
  | succ m =>
    simp only [whL] at a
    refine ⟨s, Φ, c, ?_⟩
    split at a
    · rename_i s1 e1
      rw [e1]
      exact fun H1 c1 => iteF (a σ H1 c1)
    · rename_i s1 e1
      rw [e1]
      refine fun H1 c1 => iteT ⟨fun σ' H' => ∃ s, CfS G σ' H' s Φ ∧ AftS G W Φ D (whL call mc mb m s), fun σ' H' p' => ⟨m, Nat.lt_succ_self _, p'⟩, s1, Φ, nb, c1, ?_⟩
      cases eb : mb call s1 with
      | nx s2 => rw [eb] at a; exact fun σ3 H3 c3 => ⟨s2, c3, a⟩
      | ct s2 => rw [eb] at a; exact fun σ3 H3 c3 => ⟨s2, c3, a⟩
      | bk s2 => rw [eb] at a; exact fun σ3 H3 c3 => a σ3 H3 c3
      | rt o s2 => rw [eb] at a; exact fun σ3 v H3 c3 => a σ3 v H3 c3
      | exc cn d s2 => rw [eb] at a; exact fun σ3 cls dx H3 q => a σ3 cls dx H3 q
      | bad => rw [eb] at a; exact a
    · rename_i cn d s1 e1
      rw [e1]
      exact fun cls dx H1 q => a σ cls dx H1 q
    · exact a.elim
end
end Mi

set_option Elab.async false
set_option linter.all false
set_option maxRecDepth 100000
set_option maxHeartbeats 4000000
/-! Mi, part L: list comprehensions. -/
namespace Mi
open PySem PySem.Spec PyProof.Rows L2

/-- the slots outside vs are the same -/
def Agree (vs : List Nat) (σ σ' : Sr) : Prop := σ'.length = σ.length ∧ ∀ (i : Nat), i ∉ vs → σ'[i]? = σ[i]?
theorem wipe_at {σ : Sr} {i : Nat} : ∀ {vs : List Nat}, i ∈ vs → i < σ.length → (wipe σ vs)[i]? = some none
  | v :: vs, h, hl => by
    rw [wipe]
    by_cases e : v = i
    · subst e
      rw [List.getElem?_set]
      simp [wipe_length, hl]
    · rw [List.getElem?_set_ne e]
      exact wipe_at (by rcases List.mem_cons.mp h with z | z; exact absurd z.symm e; exact z) hl
theorem Agree.wipe {vs : List Nat} {σ σ' : Sr} (a : Agree vs σ σ') : L2.wipe σ' vs = L2.wipe σ vs := by
  refine List.ext_getElem? fun i => ?_
  by_cases hi : i ∈ vs
  · by_cases hl : i < σ.length
    · rw [wipe_at hi hl, wipe_at hi (by rw [a.1]; exact hl)]
    · rw [List.getElem?_eq_none (by rw [wipe_length, a.1]; omega), List.getElem?_eq_none (by rw [wipe_length]; omega)]
  · rw [wipe_out hi, wipe_out hi, a.2 i hi]
theorem Agree.refl (vs : List Nat) (σ : Sr) : Agree vs σ σ := ⟨rfl, fun _ _ => rfl⟩
theorem Agree.trans {vs : List Nat} {σ σ' σ'' : Sr} (a : Agree vs σ σ') (b : Agree vs σ' σ'') : Agree vs σ σ'' := ⟨b.1.trans a.1, fun i hi => (b.2 i hi).trans (a.2 i hi)⟩
theorem Agree.set {vs : List Nat} {σ : Sr} {i : Nat} {v : Option V} (h : i ∈ vs) : Agree vs σ (σ.set i v) := ⟨by simp, fun j hj => by rw [List.getElem?_set_ne fun z : i = j => hj (by rw [← z]; exact h)]⟩
theorem wipe_wipe {σ : Sr} {vs : List Nat} : L2.wipe (L2.wipe σ vs) vs = L2.wipe σ vs := Agree.wipe (σ := σ) ⟨wipe_length σ vs, fun i hi => wipe_out hi⟩

def tGA (G : GE) (vs : List Nat) (g : Tg) : TG := fun v σr H Q => ∃ s Φ o s', NoB Φ ∧ CfS G σr H s ((.own o, v) :: Φ) ∧ g o s = some s' ∧ ∀ σr', CfS G σr' H s' Φ → Agree vs σr σr' → Q σr' H
def tGAs (G : GE) (vs : List Nat) (g : Tgs) : TGs := fun us σr H Q => ∃ s Φ ds s', NoB Φ ∧ ds.length = us.length ∧ CfS G σr H s (FzR ds us ++ Φ) ∧ g ds s = some s' ∧ ∀ σr', CfS G σr' H s' Φ → Agree vs σr σr' → Q σr' H
abbrev noW : WX := fun _ _ _ _ => False
section
variable {G : GE} {k : Nat} {call : Call} {cc : CC} {W : WX} {X : Cx} {vs : List Nat}
theorem ga_name (g : Good G k call cc W X) {i : Nat} {x : Str} {pos : Pos} (hi : cc.N[i]? = some x) (hx : cc.sc.names.lookup x = some .local) (hv : i ∈ vs) : PG X (.Name x pos) (tGA G vs (gN i)) := by
  refine (pg_name (by rw [g.N]; exact g.nd) (by rw [g.N]; exact hi) (by rw [g.sc]; exact .inl hx) (.inr (by rw [g.sc]; exact hx))).of fun v σ H Q q => ?_
  obtain ⟨s, Φ, o, s', nb, c, e, q⟩ := q
  simp only [gN] at e
  split at e
  · rename_i hl
    cases e
    exact q _ (c.put nb hl) (Agree.set hv)
  · cases e
theorem gas_nil : PGs X [] (tGAs G vs gsNil) := pgs_nil.of fun us σ H Q q => by
  obtain ⟨s, Φ, ds, s', nb, l, c, e, q⟩ := q
  cases ds with
  | nil =>
    cases e
    have : us = [] := List.length_eq_zero_iff.mp l.symm
    subst this
    exact ⟨rfl, q σ c (Agree.refl _ _)⟩
  | cons d ds => cases e
theorem gas_cons {e : Expr} {es : List Expr} {g : Tg} {r : Tgs} (h1 : PG X e (tGA G vs g)) (h2 : PGs X es (tGAs G vs r)) (hp : plainT e = true) : PGs X (e :: es) (tGAs G vs (gsCons g r)) := by
  refine (pgs_cons h1 h2 (by rw [asg_cons hp]; rfl)).of fun us σ H Q q => ?_
  obtain ⟨s, Φ, ds, s', nb, l, c, e, q⟩ := q
  cases ds with
  | nil => cases e
  | cons d ds =>
    cases us with
    | nil => simp at l
    | cons v us =>
      simp only [gsCons, Option.bind_eq_some_iff] at e
      obtain ⟨s1, e1, e2⟩ := e
      refine ⟨v, us, rfl, s, FzR ds us ++ Φ, .fz d, s1, noB_fz nb, c, e1, fun σ1 c1 l1 => ?_⟩
      exact ⟨s1, Φ, ds, s', nb, by simpa using l, c1, e2, fun σ2 c2 l2 => q σ2 c2 (l1.trans l2)⟩
theorem ga_tup (g : Good G k call cc W X) {es : List Expr} {r : Tgs} {n : Nat} {pos : Pos} (h : PGs X es (tGAs G vs r)) (hp : es.all plainT = true) : PG X (.Tuple es n pos) (tGA G vs (gT es.length r)) := by
  refine ((pg_tup g.calm h (asg_len hp).1 (asg_len hp).2).or (pg_lst g.calm h (asg_len hp).1 (asg_len hp).2)).of fun v σ H Q q => ?_
  obtain ⟨s, Φ, o, s', nb, c, e, q⟩ := q
  have cf : Cf G H s.h ((o, v) :: (slp s.σ σ ++ ow Φ)) := c.cf.perm List.perm_middle
  unfold gT at e
  split at e
  · rename_i ds
    split at e
    · rename_i hl
      obtain ⟨a, us, rfl, t, l, z⟩ := Cf.tupF cf
      exact .inl ⟨a, us, rfl, by rw [g.K]; exact t, by rw [← l, hl], s, Φ, ds, s', nb, l, CfS.spread c.drop nb z, e, q⟩
    · cases e
  · rename_i ds
    split at e
    · rename_i hl
      obtain ⟨a, us, rfl, t, l, z⟩ := Cf.lstF cf
      exact .inr ⟨a, us, rfl, .inl (.inl t), by rw [← l, hl], s, Φ, ds, s', nb, l, CfS.spread c.drop nb z, e, q⟩
    · cases e
  · rename_i ds
    split at e
    · rename_i hl
      obtain ⟨a, us, rfl, t, l, z⟩ := Cf.lst cf
      exact .inr ⟨a, us, rfl, .inl (.inl t), by rw [← l, hl], s, Φ, ds, s', nb, l, CfS.spread c.drop nb (Cf.rot z), e, q⟩
    · cases e
  · cases e

/-! ### the loop -/
def lcL (call : Call) (g : Tg) (tt : B) (te : E) (vs : List Nat) : List D → List D → S → Out (List D)
  | [], acc, s => .ok acc s
  | d :: ds, acc, s => match g (.fz d) s with
    | none => .bad
    | some s1 => match tt call s1 with
      | .ok true s2 => (match te call s2 with
        | .ok x s3 => (match take s3 x with
          | some (y, s4) => if fitsB (acc.length + 1) then lcL call g tt te vs ds (acc ++ [y]) ⟨wipeO s4.σ vs, s4.h⟩ else .bad
          | none => .bad)
        | _ => .bad)
      | .ok false s2 => lcL call g tt te vs ds acc ⟨wipeO s2.σ vs, s2.h⟩
      | _ => .bad
def mLc (m : Iv) (g : Tg) (tt : B) (te : E) (vs : List Nat) : E := fun call s => (m call s).bind fun ds s1 => match lcL call g tt te vs ds [] ⟨wipeO s1.σ vs, s1.h⟩ with
  | .ok acc s2 => .ok (.own (.lst acc)) ⟨rst s2.σ s1.σ vs, s2.h⟩
  | _ => .bad
def ownR (Z : List (O × V)) : List (R × V) := Z.map fun p => (R.own p.1, p.2)
theorem ow_ownR : ∀ Z, ow (ownR Z) = Z
  | [] => rfl
  | (o, v) :: Z => by show (o, v) :: ow (ownR Z) = _; rw [ow_ownR Z]
theorem nob_ownR {Z : List (O × V)} : NoB (ownR Z) := fun i v h => by
  simp only [ownR, List.mem_map] at h
  obtain ⟨p, _, e⟩ := h
  cases e
theorem noB_app {Φ Ψ : List (R × V)} (a : NoB Φ) (b : NoB Ψ) : NoB (Φ ++ Ψ) := fun i v z => by
  rcases List.mem_append.mp z with z | z
  · exact a i v z
  · exact b i v z
/-- the slots at vs are forgotten -/
theorem CfS.wipe {σr : Sr} {H : Hp} {s : S} {Φ : List (R × V)} (nb : NoB Φ) (c : CfS G σr H s Φ) (vs : List Nat) : CfS G (L2.wipe σr vs) H ⟨wipeO s.σ vs, s.h⟩ Φ := by
  obtain ⟨Z, p1, ok, _⟩ := slp_wipe c.sl vs
  refine ⟨ok, fun i v z => absurd z (nb i v), ?_⟩
  have cf := c.cf.perm (p1.append_right (ow Φ))
  have c2 : Cf G H s.h (Z ++ (slp (wipeO s.σ vs) (L2.wipe σr vs) ++ ow Φ)) := cf.perm (by
    rw [List.append_assoc]
    exact List.perm_append_comm_assoc _ _ _)
  exact Cf.dropN c2
theorem CfS.append {σr : Sr} {H : Hp} {s : S} {Φ : List (R × V)} {acc : List D} {d : D} {p : Addr} {y : V} (c : CfS G σr H s ((.own (.fz d), y) :: (.own (.lst acc), .ref p) :: Φ)) :
    ∃ us, H p = some (.lst us) ∧ us.length = acc.length ∧ CfS G σr (upd H p (.lst (us ++ [y]))) s ((.own (.lst (acc ++ [d])), .ref p) :: Φ) := by
  have cf : Cf G H s.h ((.lst acc, .ref p) :: (.fz d, y) :: (slp s.σ σr ++ ow Φ)) := c.cf.perm (by
    refine (List.perm_middle).trans ?_
    refine (List.Perm.cons _ List.perm_middle).trans (.swap _ _ _))
  obtain ⟨a, us, ea, t, l, z⟩ := Cf.lst cf
  cases ea
  refine ⟨us, t, l.symm, c.sl, fun i v q => ?_, ?_⟩
  · rcases List.mem_cons.mp q with q | q
    · cases q
    · exact c.bo i v (by simp [q])
  · have z2 : Cf G H s.h ((.lst acc, .ref p) :: (Fz (acc ++ [d]) (us ++ [y]) ++ (slp s.σ σr ++ ow Φ))) := by
      rw [Fz_append l, List.append_assoc]
      exact z
    exact (z2.change (ho := .lst (us ++ [y])) (o' := .lst (acc ++ [d])) (by simp [l]) (fun _ h => by cases h) fun ρ M H' e r => ⟨p, _, rfl, e, r, rfl⟩).perm List.perm_middle.symm
theorem lc_walk {J : It} {K Φ : List (R × V)} {ds : List D} {g : Tg} {tt : B} {te : E} {σ : Sr} {H1 : Hp} {s1 : S} {Q : VK} {Dd : Addr} (nk : NoB K) (bo : ∀ i v, (R.bor i, v) ∈ Φ → σ[i]? = some (some v)) (w : Walks G J K ds) (c : CfS G σ H1 s1 (K ++ Φ)) (hD : H1 Dd = none)
    (a : Aft G W σ Φ (PV G σ Φ Q) (match lcL call g tt te vs ds [] ⟨wipeO s1.σ vs, s1.h⟩ with
      | .ok acc s2 => .ok (.own (.lst acc)) ⟨rst s2.σ s1.σ vs, s2.h⟩
      | _ => .bad)) :
    ∃ Wr : Nat → Nat → Hp → Prop, (∃ m, Wr 0 m (upd H1 Dd (.lst []))) ∧ ∀ i m H, Wr i m H →
      (J.stop i H ∧ Q (.ref Dd) H) ∨ (J.go i H ∧ ∃ Nx : Hp → Prop, (∀ H', Nx H' → ∃ m', m' < m ∧ Wr (i + 1) m' H') ∧ ∀ x H', J.yld i H x H' → tGA G vs g x (L2.wipe σ vs) H' fun σ2 H2 => L2.wipe σ2 vs = L2.wipe σ vs ∧ tB_ G noW call tt σ2 H2 fun b H3 =>
        if b = true then tE G noW call te σ2 H3 fun y H4 => ∃ acc, H4 Dd = some (.lst acc) ∧ acc.length < sizeLine ∧ Nx (upd H4 Dd (.lst (acc ++ [y]))) else Nx H3) := by
  obtain ⟨Z, p1, ok, back⟩ := slp_wipe c.sl vs
  -- what is at hand in the block
  let Ψ := K ++ (ownR Z ++ ownR (ow Φ))
  have nΨ : NoB Ψ := noB_app nk (noB_app nob_ownR nob_ownR)
  let St : List D → S → Hp → Prop := fun acc s H => CfS G (L2.wipe σ vs) H s ((.own (.lst acc), .ref Dd) :: Ψ)
  let Fin : List D → List D → S → Prop := fun rest acc s => Aft G W σ Φ (PV G σ Φ Q) (match lcL call g tt te vs rest acc s with
      | .ok acc s2 => .ok (.own (.lst acc)) ⟨rst s2.σ s1.σ vs, s2.h⟩
      | _ => .bad)
  have st0 : St [] ⟨wipeO s1.σ vs, s1.h⟩ (upd H1 Dd (.lst [])) := by
    refine ⟨ok, fun i v z => absurd z (noB_cons nΨ i v), ?_⟩
    have cf := c.cf.perm (p1.append_right (ow (K ++ Φ)))
    have cf2 : Cf G H1 s1.h (Fz [] [] ++ (slp (wipeO s1.σ vs) (L2.wipe σ vs) ++ ow Ψ)) := cf.perm (by
      show List.Perm _ (slp (wipeO s1.σ vs) (L2.wipe σ vs) ++ ow Ψ)
      simp only [Ψ, ow_append, ow_ownR, List.append_assoc]
      exact List.Perm.append_left _ (List.perm_append_comm_assoc _ _ _))
    exact (Cf.newLst rfl cf2 hD).perm List.perm_middle.symm
  refine ⟨fun i m H => m = ds.length - i ∧ i ≤ ds.length ∧ ∃ acc s, St acc s H ∧ Fin (ds.drop i) acc s, ⟨ds.length, by simp, Nat.zero_le _, [], _, st0, a⟩, ?_⟩
  rintro i m H ⟨rfl, hi, acc, s, c, a⟩
  have cK : CfS G (L2.wipe σ vs) H s (K ++ ((.own (.lst acc), .ref Dd) :: (ownR Z ++ ownR (ow Φ)))) := c.perm List.perm_middle.symm
  obtain ⟨w1, w2, w3⟩ := w _ H s _ cK
  by_cases hlt : i < ds.length
  · refine .inr ⟨w1 i hlt, fun H' => ∃ acc s, St acc s H' ∧ Fin (ds.drop (i + 1)) acc s, fun H' p' => ⟨ds.length - (i + 1), by omega, rfl, hlt, p'⟩, fun x H' y => ?_⟩
    have e : ds.drop i = ds[i] :: ds.drop (i + 1) := List.drop_eq_getElem_cons hlt
    have a' : Fin (ds[i] :: ds.drop (i + 1)) acc s := by rw [← e]; exact a
    have c1 := w2 i ds[i] x H' (by simp [hlt]) y
    have c1' : CfS G (L2.wipe σ vs) H' s ((.own (.fz ds[i]), x) :: ((.own (.lst acc), .ref Dd) :: Ψ)) := c1.perm (List.Perm.cons _ List.perm_middle)
    simp only [Fin, lcL] at a'
    cases eg : g (.fz ds[i]) s with
    | none => simp only [eg] at a'; exact a'.elim
    | some s2 =>
      simp only [eg] at a'
      refine ⟨s, _, .fz ds[i], s2, noB_cons nΨ, c1', eg, fun σ2 c2 ag => ?_⟩
      have ew : L2.wipe σ2 vs = L2.wipe σ vs := by rw [ag.wipe, wipe_wipe]
      refine ⟨ew, s2, _, c2, ?_⟩
      cases et : tt call s2 with
      | bad => simp only [et] at a'; exact a'.elim
      | exc cn d s3 => simp only [et] at a'; exact a'.elim
      | ok b s3 =>
        cases b with
        | false =>
          simp only [et] at a'
          exact fun H3 c3 => iteF ⟨acc, _, by have := c3.wipe (noB_cons nΨ) vs; rw [ew] at this; exact this, a'⟩
        | true =>
          simp only [et] at a'
          intro H3 c3
          refine iteT ⟨s3, _, c3, ?_⟩
          cases ee : te call s3 with
          | bad => simp only [ee] at a'; exact a'.elim
          | exc cn d s4 => simp only [ee] at a'; exact a'.elim
          | ok r s4 =>
            simp only [ee] at a'
            intro yv H4 c4
            cases ek : take s4 r with
            | none => simp only [ek] at a'; exact a'.elim
            | some q =>
              obtain ⟨d, s5⟩ := q
              simp only [ek] at a'
              by_cases hf : fitsB (acc.length + 1) = true
              · rw [if_pos hf] at a'
                have c5 := c4.take ek
                obtain ⟨us, t, l, c6⟩ := c5.append
                refine ⟨us, t, ?_, acc ++ [d], ⟨wipeO s5.σ vs, s5.h⟩, ?_, a'⟩
                · rw [l]
                  exact Nat.lt_of_succ_le (fits hf)
                · have := c6.wipe (noB_cons nΨ) vs
                  rw [ew] at this
                  exact this
              · rw [if_neg hf] at a'
                exact a'.elim
  · have e : i = ds.length := by omega
    subst e
    have a' : Fin [] acc s := by have := a; rw [List.drop_length] at this; exact this
    refine .inl ⟨w3, a' (.ref Dd) H ?_⟩
    obtain ⟨p2, ok2⟩ := back s.σ c.sl
    refine ⟨ok2, fun j v z => ?_, ?_⟩
    · rcases List.mem_cons.mp z with z | z
      · cases z
      · exact bo j v z
    · have cf : Cf G H s.h (slp s.σ (L2.wipe σ vs) ++ (.lst acc, .ref Dd) :: ow Ψ) := c.cf
      have cf2 : Cf G H s.h (ow K ++ (slp (rst s.σ s1.σ vs) σ ++ (.lst acc, .ref Dd) :: ow Φ)) := cf.perm (by
        simp only [Ψ, ow_append, ow_ownR]
        refine List.perm_middle.trans ?_
        refine List.Perm.trans (List.Perm.cons _ ?_) (((List.perm_middle).append_left (ow K)).trans List.perm_middle).symm
        refine (List.perm_append_comm_assoc _ _ _).trans (List.Perm.append_left _ ?_)
        rw [← List.append_assoc]
        exact p2.symm.append_right _)
      exact Cf.dropN cf2
/-- [elt for tg in it if c] -/
theorem e_lc (g : Good G k call cc W X) {elt tg it : Expr} {ifs : List Expr} {scope : Scope} {own : List (Str × Nat)} {pos : Pos} {m : Iv} {t : Tg} {mt : B} {me : E} (hi : PI X tg it (tI G W call m)) (ok : BlkOk cc.N cc.sc scope own)
    (hg : ∀ (s : Shared) (H : Hp) (C : Addr) (cl : List (Str × Addr)) (fp : List Addr), PG (X.blk s H scope (compEnvC scope cl C X.env) fp) tg (tGA G (own.map (·.2)) t))
    (ht : ∀ (s : Shared) (H : Hp) (C : Addr) (cl : List (Str × Addr)) (fp : List Addr), PTs (X.blk s H scope (compEnvC scope cl C X.env) fp) ifs (tB_ G noW call mt))
    (he : ∀ (s : Shared) (H : Hp) (C : Addr) (cl : List (Str × Addr)) (fp : List Addr), PE (X.blk s H scope (compEnvC scope cl C X.env) fp) elt (tE G noW call me)) (hs : ∀ x, foldedSetIterable it X.env x = pure x) :
    PE X (.ListComp elt [⟨tg, it, ifs, 0⟩] scope pos) (tE G W call (mLc m t mt me (own.map (·.2)))) := by
  refine (pe_lc g.calm (by rw [g.N]; exact g.nd) hi (by rw [g.N, g.sc]; exact ok) hg ht he hs).of fun σ H Q q => ?_
  obtain ⟨s, Φ, c, q⟩ := q
  exact ⟨s, Φ, c, (Aft.bind q).mono fun ds s1 a1 => fun K J H1 nk c1 w => fun Dd hD => lc_walk nk c.bo w c1 hD a1⟩
/-- y = [elt for tg in it if c] in the compiler's own way -/
theorem s_setLc (g : Good G k call cc W X) {i : Nat} {y : Str} {py : Pos} {elt tg it : Expr} {ifs : List Expr} {scope : Scope} {own : List (Str × Nat)} {pos spos : Pos} {m : Iv} {t : Tg} {mt : B} {me : E} (hy : cc.N[i]? = some y) (hyl : cc.sc.names.lookup y = some .local) (hk : cc.sc.kind = .function)
    (hl : (py.line == pos.line) = true) (ha : (scope.names.any fun (n, k) => n == y && (k == .local || k == .cell)) = false) (hi : PI X tg it (tI G W call m)) (ok : BlkOk cc.N cc.sc scope own)
    (hg : ∀ (s : Shared) (H : Hp) (C : Addr) (cl : List (Str × Addr)) (fp : List Addr), PG (X.blk s H scope (compEnvC scope cl C X.env) fp) tg (tGA G (own.map (·.2)) t))
    (ht : ∀ (s : Shared) (H : Hp) (C : Addr) (cl : List (Str × Addr)) (fp : List Addr), PTs (X.blk s H scope (compEnvC scope cl C X.env) fp) ifs (tB_ G noW call mt))
    (he : ∀ (s : Shared) (H : Hp) (C : Addr) (cl : List (Str × Addr)) (fp : List Addr), PE (X.blk s H scope (compEnvC scope cl C X.env) fp) elt (tE G noW call me)) (hs : ∀ x, foldedSetIterable it X.env x = pure x) :
    PS X (.Assign [.Name y py] (.ListComp elt [⟨tg, it, ifs, 0⟩] scope pos) spos) (tS G W call (cAsg (mLc m t mt me (own.map (·.2))) (gN i))) := by
  refine (ps_setLc (i := i) g.calm (by rw [g.N]; exact g.nd) (by rw [g.N]; exact hy) (by rw [g.sc]; exact hyl) (sw_true (by rw [g.sc]; exact hk) (by rw [g.sc]; exact hyl) hl ha) hi (by rw [g.N, g.sc]; exact ok) hg ht he hs).of fun D σ H q => ?_
  have q2 := tAsg_of q
  obtain ⟨s, Φ, c, q3⟩ := q2
  refine ⟨s, Φ, c, (Aft.bind q3).mono fun ds s1 a1 => fun K J H1 nk c1 w => fun Dd hD => lc_walk (Q := fun x H1 => gName i x σ H1 D.nx) nk c.bo w c1 hD (a1.mono fun r s2 p => fun v H2 c2 => ?_)⟩
  have q4 := p v H2 c2
  obtain ⟨s5, Φ5, o5, s6, nb5, c5, e5, q5⟩ := q4
  simp only [gN] at e5
  split at e5
  · rename_i hl5
    cases e5
    exact q5 _ (c5.put nb5 hl5) (by simp)
  · cases e5
end
end Mi

set_option Elab.async false
set_option linter.all false
set_option maxRecDepth 100000
set_option maxHeartbeats 4000000
/-! Mi, part M: lists that are changed. -/
namespace Mi
open PySem PySem.Spec PyProof.Rows L2

/-- the list in a slot or in a cell -/
def mutD (h : List O) (f : List D → Option (List D)) : D → Option (List O)
  | .loc n => match h[n]? with
    | some (.lst ds) => (f ds).map fun ds' => h.set n (.lst ds')
    | _ => none
  | _ => none
def mutL (s : S) (f : List D → Option (List D)) : R → Option S
  | .own (.fz d) => (mutD s.h f d).map fun h => ⟨s.σ, h⟩
  | .own _ => none
  | .bor i => match s.σ[i]? with
    | some (some (.lst ds)) => (f ds).map fun ds' => ⟨s.σ.set i (some (.lst ds')), s.h⟩
    | some (some (.fz d)) => (mutD s.h f d).map fun h => ⟨s.σ, h⟩
    | _ => none
/-- its contents, as a reader sees them -/
def seeL (s : S) (r : R) : Option (List D) := match peek s r with
  | some (.lst ds) => some ds
  | _ => none
section
variable {G : GE} {k : Nat} {call : Call} {cc : CC} {W : WX} {X : Cx}
/-- a cell is changed -/
theorem Cf.mutCell {H : Hp} {h h' : List O} {L : List (O × V)} {f : List D → Option (List D)} {d : D} {v : V} (c : Cf G H h L) (hm : (O.fz d, v) ∈ L) (e : mutD h f d = some h') : ∃ p us ds ds', v = .ref p ∧ H p = some (.lst us) ∧ f ds = some ds' ∧ deref h d = some (.lst ds) ∧ ds.length = us.length ∧
    ∀ us' es ys K, es.length = ys.length → L.Perm (Fz es ys ++ K) → (∀ ρ H' M, RepDs G ρ H' M ds us → RepDs G ρ H' M es ys → RepDs G ρ H' M ds' us') → Cf G (upd H p (.lst us')) h' K := by
  unfold mutD at e
  split at e
  · rename_i n
    split at e
    · rename_i ds hn
      simp only [Option.map_eq_some_iff] at e
      obtain ⟨ds', ef, eh⟩ := e
      subst eh
      obtain ⟨X, Y, eL⟩ := List.append_of_mem hm
      have c1 : Cf G H h ((.fz (.loc n), v) :: L) := by
        have : Cf G H h ((.fz (.loc n), v) :: (X ++ Y)) := c.perm (by rw [eL]; exact List.perm_middle)
        exact this.dup.perm (List.Perm.cons _ (by rw [eL]; exact List.perm_middle.symm))
      obtain ⟨p, us, ev, t, l, c2⟩ := Cf.cellLst c1 hn
      subst ev
      refine ⟨p, us, ds, ds', rfl, t, ef, by simp [deref, hn, Mi.frz], l, fun us' es ys K le pm rep => ?_⟩
      have c3 : Cf G H h (Fz ds us ++ (.fz (.loc n), .ref p) :: (Fz es ys ++ K)) := c2.perm (List.Perm.append_left _ (List.Perm.cons _ pm))
      have c4 : Cf G H h (Fz (ds ++ es) (us ++ ys) ++ (.fz (.loc n), .ref p) :: K) := by
        rw [Fz_append l, List.append_assoc]
        exact c3.perm (List.Perm.append_left _ List.perm_middle.symm)
      have hlen : (ds ++ es).length = (us ++ ys).length := by simp [l, le]
      exact (Cf.putCell (o' := .lst ds') (ho := .lst us') hlen c4 hn (fun _ z => by cases z) fun ρ M H' e r => by
        have r1 : RepDs G ρ H' M ds us := by have := RepDs.take ds.length r; rw [List.take_left, l, List.take_left] at this; exact this
        have r2 : RepDs G ρ H' M es ys := by have := RepDs.drop ds.length r; rw [List.drop_left, l, List.drop_left] at this; exact this
        exact ⟨p, us', rfl, e, rep ρ H' M r1 r2, rfl⟩).drop
    · cases e
  · cases e
theorem CfS.mutate {σr : Sr} {H : Hp} {s s' : S} {Φ : List (R × V)} {f : List D → Option (List D)} {r : R} {v : V} {es : List D} {ys : List V} (le : es.length = ys.length) (c : CfS G σr H s (FzR es ys ++ ((r, v) :: Φ))) (e : mutL s f r = some s') :
    ∃ p us ds ds', v = .ref p ∧ H p = some (.lst us) ∧ f ds = some ds' ∧ seeL s r = some ds ∧ ds.length = us.length ∧
      ∀ us', (∀ ρ H' M, RepDs G ρ H' M ds us → RepDs G ρ H' M es ys → RepDs G ρ H' M ds' us') → CfS G σr (upd H p (.lst us')) s' Φ := by
  have bo : ∀ i w, (R.bor i, w) ∈ Φ → σr[i]? = some (some w) := fun i w q => c.bo i w (List.mem_append_right _ (List.mem_cons_of_mem _ q))
  have cell : ∀ (d : D) (h' : List O), (O.fz d, v) ∈ slp s.σ σr ++ ow (FzR es ys ++ ((r, v) :: Φ)) → mutD s.h f d = some h' → s' = ⟨s.σ, h'⟩ → (∃ x, ow ((r, v) :: Φ) = x ++ ow Φ) → (∀ ds, deref s.h d = some (.lst ds) → seeL s r = some ds) →
      ∃ p us ds ds', v = .ref p ∧ H p = some (.lst us) ∧ f ds = some ds' ∧ seeL s r = some ds ∧ ds.length = us.length ∧
      ∀ us', (∀ ρ H' M, RepDs G ρ H' M ds us → RepDs G ρ H' M es ys → RepDs G ρ H' M ds' us') → CfS G σr (upd H p (.lst us')) s' Φ := by
    intro d h' hm em es' ⟨x, hx⟩ hsee
    obtain ⟨p, us, ds, ds', ev, t, ef, ed, l, q⟩ := Cf.mutCell c.cf hm em
    refine ⟨p, us, ds, ds', ev, t, ef, hsee ds ed, l, fun us' rep => ?_⟩
    subst es'
    have := q us' es ys (slp s.σ σr ++ ow ((r, v) :: Φ)) le (by
      rw [ow_append, ow_fz]
      exact List.perm_append_comm_assoc _ _ _) rep
    refine ⟨c.sl, bo, ?_⟩
    rw [hx] at this
    exact Cf.dropN (K := x) (this.perm (List.perm_append_comm_assoc _ _ _))
  cases r with
  | own o =>
    cases o with
    | fz d =>
      simp only [mutL, Option.map_eq_some_iff] at e
      obtain ⟨h', em, eh⟩ := e
      refine cell d h' (List.mem_append_right _ ?_) em eh.symm ⟨[(.fz d, v)], rfl⟩ (fun ds q => by simp [Mi.seeL, Mi.peek, Mi.frz, q])
      rw [ow_append]
      exact List.mem_append_right _ (by simp [ow])
    | lst ds => cases e
    | dic ks ds => cases e
    | ins cn fs ds => cases e
  | bor i =>
    have ev : σr[i]? = some (some v) := c.bo i v (by simp)
    simp only [mutL] at e
    split at e
    · rename_i ds es1
      simp only [Option.map_eq_some_iff] at e
      obtain ⟨ds', ef, eh⟩ := e
      subst eh
      obtain ⟨X, Y, q1, q2⟩ := slp_at es1 ev
      have cf : Cf G H s.h (slp s.σ σr ++ ow (FzR es ys ++ Φ)) := by
        have := c.cf
        rw [ow_append] at this ⊢
        exact this
      rw [q1, ow_append, ow_fz] at cf
      have c1 : Cf G H s.h ((.lst ds, v) :: (Fz es ys ++ (X ++ Y ++ ow Φ))) := cf.perm (by
        have e1 : X ++ (O.lst ds, v) :: Y ++ (Fz es ys ++ ow Φ) = X ++ (O.lst ds, v) :: (Y ++ (Fz es ys ++ ow Φ)) := by simp
        rw [e1]
        refine List.perm_middle.trans (List.Perm.cons _ ?_)
        rw [← List.append_assoc]
        exact List.perm_append_comm_assoc _ _ _)
      obtain ⟨p, us, epv, t, l, z⟩ := Cf.lst c1
      subst epv
      refine ⟨p, us, ds, ds', rfl, t, ef, by simp [Mi.seeL, Mi.peek, es1, Mi.frz, deref], l, fun us' rep => ?_⟩
      have z2 : Cf G H s.h ((.lst ds, .ref p) :: (Fz (ds ++ es) (us ++ ys) ++ (X ++ Y ++ ow Φ))) := by
        rw [Fz_append l, List.append_assoc]
        exact z
      have z3 := z2.change (ho := .lst us') (o' := .lst ds') (by simp [l, le]) (fun _ h => by cases h) fun ρ M H' e r => by
        have r1 : RepDs G ρ H' M ds us := by have := RepDs.take ds.length r; rw [List.take_left, l, List.take_left] at this; exact this
        have r2 : RepDs G ρ H' M es ys := by have := RepDs.drop ds.length r; rw [List.drop_left, l, List.drop_left] at this; exact this
        exact ⟨p, us', rfl, e, rep ρ H' M r1 r2, rfl⟩
      refine ⟨⟨by simp [c.sl.len], fun j o' q => ?_⟩, bo, ?_⟩
      · by_cases hj : i = j
        · subst hj; exact ⟨_, ev⟩
        · exact c.sl.at_ j o' (by simpa [List.getElem?_set, hj] using q)
      · show Cf G _ s.h (slp (s.σ.set i (some (.lst ds'))) σr ++ ow Φ)
        rw [q2]
        refine z3.perm ?_
        rw [List.append_assoc, List.append_assoc]
        exact List.perm_middle.symm
    · rename_i d es1
      simp only [Option.map_eq_some_iff] at e
      obtain ⟨h', em, eh⟩ := e
      obtain ⟨X, Y, q1, q2⟩ := slp_at es1 ev
      exact cell d h' (List.mem_append_left _ (by rw [q1]; simp)) em eh.symm ⟨[], rfl⟩ (fun ds q => by simp [Mi.seeL, Mi.peek, es1, Mi.frz, q])
    · cases e
theorem CfS.seeL {σr : Sr} {H : Hp} {s : S} {Φ : List (R × V)} {r : R} {v : V} {ds : List D} (c : CfS G σr H s Φ) (hm : (r, v) ∈ Φ) (e : seeL s r = some ds) : ∃ p us, v = .ref p ∧ H p = some (.lst us) ∧ us.length = ds.length := by
  simp only [Mi.seeL] at e
  split at e
  · rename_i ds' ep
    cases e
    obtain ⟨ρ, M, cp⟩ := c.parts
    obtain ⟨a, us, ea, t, rd⟩ := c.peek hm ep cp
    exact ⟨a, us, ea, t, rd.length.symm⟩
  · cases e
/-! ### attributes of what is no super() -/
def plainO : Expr → Bool
  | .Call (.Name _ _) [] [] _ => false
  | _ => true
theorem base_ok {o : Expr} {a : Str} {env : Env} (h : plainO o = true) : attributeBase o a env (eval o env) = eval o env := by
  unfold attributeBase
  split
  · cases h
  · rfl
def fewB (n : Nat) : Bool := decide (n < 29)
theorem few_ok {cpos : Pos} {es : List Expr} {env : Env} (h : es.all notStar = true) (hn : fewB es.length = true) : ((backTo cpos (starEach es env)).all (fun x => !x.1) && (backToKw cpos (keywordEach [] env)).all (fun x => x.1.isSome)
      && decide (es.length + ([] : List Keyword).length + (if ([] : List Keyword).isEmpty then 0 else 1) < 30)) = true := by
  have h1 : (backTo cpos (starEach es env)).all (fun x => !x.1) = true := by
    have := star_any (pos := cpos) (env := env) h
    rw [List.any_eq_false] at this
    rw [List.all_eq_true]
    intro x hx
    have := this x hx
    simpa using this
  have h2 : es.length < 29 := of_decide_eq_true hn
  rw [h1]
  show (true && true && decide (es.length + 0 + 0 < 30)) = true
  simp; omega
/-! ### xs.append(e), as a statement -/
def cApp (mx me : E) : C := fun call s => (mx call s).flow fun x s1 => match Mi.seeL s1 x with
  | none => .bad
  | some _ => (me call s1).flow fun y s2 => match take s2 y with
    | some (d, s3) => (match mutL s3 (fun ds => if fitsB (ds.length + 1) then some (ds ++ [d]) else none) x with
      | some s4 => .nx s4
      | none => .bad)
    | none => .bad
theorem s_app (g : Good G k call cc W X) {x e : Expr} {mx me : E} {p pos spos : Pos} (hx : PE X x (tE G W call mx)) (he : PE X e (tE G W call me)) (hn : notStar e = true) (hp : plainO x = true) (hl : (p.endLine == pos.line) = true) :
    PS X (.Expr (.Call (.Attribute x "append" p) [e] [] pos) spos) (tS G W call (cApp mx me)) := by
  have hall : [e].all notStar = true := by simp [hn]
  refine (ps_expr (pe_bm PySem.F.plainAttrs_list PySem.F.slot_list_append PySem.F.type_list_append mt_append hx (pa_cons he pa_nil (star_cons hn)) (base_ok hp) (few_ok hall rfl) hl (star_cons hn) rfl) rfl).of fun D σ H q => ?_
  obtain ⟨s, Φ, nb, c, q⟩ := q
  refine ⟨s, Φ, c, (AftS.flow q).mono fun x s1 a1 => fun v H1 c1 => ?_⟩
  split at a1
  · exact a1.elim
  · rename_i ds es
    obtain ⟨pp, us, ev, t, _⟩ := c1.seeL (v := v) (by simp) es
    subst ev
    refine ⟨.inl ⟨rfl, us, .inl (.inl t)⟩, s1, _, c1, ((AftS.flow a1).frame1).mono fun y s2 a2 => fun yv H2 c2 => ?_⟩
    split at a2
    · rename_i d s3 et
      split at a2
      · rename_i s4 em
        have c3 : CfS G σ H2 s3 (FzR [d] [yv] ++ ((x, .ref pp) :: Φ)) := c2.take et
        obtain ⟨p', us', ds1, ds2, ep, t', ef, _, l, fin⟩ := CfS.mutate rfl c3 em
        cases ep
        split at ef
        · rename_i hf
          cases ef
          refine ⟨pp, us', yv, rfl, rfl, t', ?_, ?_⟩
          · rw [← l]; exact Nat.lt_of_succ_le (fits hf)
          · exact a2 σ _ (fin (us' ++ [yv]) fun ρ H' M r1 r2 => r1.append r2)
        · cases ef
      · exact a2.elim
    · exact a2.elim
/-! ### xs.pop(), as a statement -/
def cPop (mx : E) : C := fun call s => (mx call s).flow fun x s1 => match mutL s1 (fun ds => if ds.length = 0 then none else some ds.dropLast) x with
  | some s4 => .nx s4
  | none => .bad
theorem RepDs.dropLast {ρ : List Addr} {H : Hp} {M : List Addr} {ds : List D} {us : List V} (r : RepDs G ρ H M ds us) : RepDs G ρ H M ds.dropLast us.dropLast := by
  rw [List.dropLast_eq_take, List.dropLast_eq_take, r.length]
  exact r.take _
theorem s_pop (g : Good G k call cc W X) {x : Expr} {mx : E} {p pos spos : Pos} (hx : PE X x (tE G W call mx)) (hp : plainO x = true) (hl : (p.endLine == pos.line) = true) :
    PS X (.Expr (.Call (.Attribute x "pop" p) [] [] pos) spos) (tS G W call (cPop mx)) := by
  refine (ps_expr (pe_bm0 PySem.F.plainAttrs_list PySem.F.slot_list_pop PySem.F.type_list_pop mt_pop hx (base_ok hp) hl) rfl).of fun D σ H q => ?_
  obtain ⟨s, Φ, nb, c, q⟩ := q
  refine ⟨s, Φ, c, (AftS.flow q).mono fun x s1 a1 => fun v H1 c1 => ?_⟩
  split at a1
  · rename_i s4 em
    obtain ⟨pp, us, ds1, ds2, ev, t, ef, _, l, fin⟩ := CfS.mutate (es := []) (ys := []) rfl c1 em
    subst ev
    split at ef
    · cases ef
    · rename_i h0
      cases ef
      have hlt : us.length - 1 < us.length := by rw [← l]; omega
      exact ⟨.inl ⟨rfl, us, .inl (.inl t)⟩, pp, us, us[us.length - 1], rfl, rfl, t, by simp [hlt], a1 σ _ (fin us.dropLast fun ρ H' M r1 _ => r1.dropLast)⟩
  · exact a1.elim
/-! ### xs[i] = e -/
def cSetL (me mx mi : E) : C := fun call s => (me call s).flow fun y s1 => match take s1 y with
  | none => .bad
  | some (d, s2) => (mx call s2).flow fun x s3 => (mi call s3).flow fun i s4 => match peek s4 i with
    | some (.int i) => (match mutL s4 (fun ds => (ixN ds.length i).map fun j => ds.set j d) x with
      | some s5 => .nx s5
      | none => .bad)
    | _ => .bad
def noSw : Expr → Bool
  | .Tuple .. => false
  | .List .. => false
  | .Starred .. => false
  | _ => true
theorem sw_none {tg e : Expr} {env : Env} (h : noSw tg = true) : swappedStores [tg] e env = pure none := by
  cases tg <;> first | rfl | cases h
def notSlice : Expr → Bool
  | .Slice .. => false
  | _ => true
theorem asg_sub {x i : Expr} {p : Pos} {env : Env} (h : notSlice i = true) (v : Value) : assign (.Subscript x i p) env v = (do
    let ov ← holding [v] (eval x env)
    let iv ← holding [v, ov] (eval i env)
    standAt p
    holding [v, ov, iv] (setItem ov iv v)
    release [v, ov, iv] []) := by
  cases i <;> first | rfl | cases h
theorem plain_ix {i : Expr} (h : notSlice i = true) : PlainIx i := fun o j => by
  cases i <;> first | rfl | cases h
theorem s_setL (g : Good G k call cc W X) {e x i : Expr} {me mx mi : E} {p pos : Pos} (he : PE X e (tE G W call me)) (hx : PE X x (tE G W call mx)) (hi : PE X i (tE G W call mi)) (hn : noComp e = true) (hs : notSlice i = true) :
    PS X (.Assign [.Subscript x i p] e pos) (tS G W call (cSetL me mx mi)) := by
  have hsw : swapsWithSole [.Subscript x i p] e pos.line X.env = pure false := by
    show swapsWith e (some (.Subscript x i p)) pos.line X.env = pure false
    exact noComp_sw hn
  refine (ps_asg he (pg_sub hx hi set_list (asg_sub hs)) hsw rfl rfl).of fun D σ H q => ?_
  obtain ⟨s, Φ, nb, c, q⟩ := q
  refine ⟨s, Φ, c, (AftS.flow q).mono fun y s1 a1 => fun yv H1 c1 => ?_⟩
  split at a1
  · exact a1.elim
  · rename_i d s2 et
    have c2 := c1.take et
    refine ⟨s2, _, c2, ((AftS.flow a1).frame1).mono fun x s3 a3 => fun xv H3 c3 => ⟨s3, _, c3, ((AftS.flow a3).frame (K := [(x, xv), (.own (.fz d), yv)])).mono fun i s4 a4 => fun iv H4 c4 => ?_⟩⟩
    split at a4
    · rename_i n ei
      split at a4
      · rename_i s5 em
        obtain ⟨ρ, M, cp⟩ := c4.parts
        have ev : iv = .int n := c4.peek (by simp) ei cp
        subst ev
        have c5 : CfS G σ H4 s4 (FzR [d] [yv] ++ ((x, xv) :: Φ)) := c4.drop.swap
        obtain ⟨pp, us, ds1, ds2, ex, t, ef, _, l, fin⟩ := CfS.mutate rfl c5 em
        subst ex
        simp only [Option.map_eq_some_iff] at ef
        obtain ⟨j, e1, e2⟩ := ef
        subst e2
        refine ⟨pp, us, n, j, rfl, rfl, t, by rw [← l]; exact e1, ?_⟩
        exact a4 σ _ (fin (us.set j yv) fun ρ H' M r1 r2 => by
          obtain ⟨w, r', ew, q1, q2⟩ := r2
          cases ew
          exact r1.set j q1)
      · exact a4.elim
    · exact a4.elim
end
end Mi

set_option Elab.async false
set_option linter.all false
set_option maxRecDepth 100000
set_option maxHeartbeats 4000000
/-! Mi, part N: enumerate of a list or a tuple; two comparisons in a row; count. -/
namespace Mi
open PySem PySem.Spec PyProof.Rows L2

set_option maxHeartbeats 1000000 in
theorem enum_new1 {v : Value} {o : Obj} {H : Heap → Prop} (bg : Begins v o H) :
    Meets (Builtin.«enumerate.__new__» ⟨[.type "enumerate", v], []⟩) (fun _ R s => H s.heap ∧
      R (.ok (.ret (.ref (s.heap.push o).objs.size))) { s with heap := (s.heap.push o).push { cls := .type "enumerate", data := .fields #[.none, .bool false, .ref s.heap.objs.size, rawInt 0, .none, .none] } }) :=
  .of_wp fun prog w A R s z => by
    obtain ⟨hp, g, d, tk, os⟩ := s; obtain ⟨z1, z⟩ := z
    have hsub := sub_enumerate
    have q0 : ∀ {A' : Around} {E : Value → Shared → Prop} {Q : Value → Shared → Prop}, Q (.ref hp.objs.size) ⟨hp.push o, g, d, tk, os⟩ → wpAny (model prog w) A' (pyIter v) Q E ⟨hp, g, d, tk, os⟩ :=
      fun q => bg.iter prog w _ _ ⟨hp, g, d, tk, os⟩ _ z1 q
    wp_walk using q0
    refine wpAny_stack_any fun st => wpAny_pure ?_
    split
    · rename_i cl _ _ _ _ _
      cases (cl == Value.type "enumerate")
      · wp_walk using q0
        exact ⟨_, rfl, z⟩
      · wp_walk using q0
        exact ⟨_, rfl, z⟩
    · wp_walk using q0
      exact ⟨_, rfl, z⟩
theorem enum_begin1 {prog : Program} {w : World} {A : Around} {E : Value → Shared → Prop} {s : Shared} {v : Value} {o : Obj} {H : Heap → Prop} {Q : Value → Shared → Prop} (bg : Begins v o H) (z1 : H s.heap)
    (z : ∀ h', IsEnum h' (s.heap.objs.size + 1) s.heap.objs.size 0 .none → h'.get? s.heap.objs.size = some o → (∀ b u, s.heap.get? b = some u → h'.get? b = some u) → Q (.ref (s.heap.objs.size + 1)) { s with heap := h' }) :
    wpAny (model prog w) A (call (.type "enumerate") [v]) Q E s := by
  refine callType_new F.called_enumerate (by decide) (F.typeCall_enumerate_1 _) (F.newCall_enumerate_1 _) (fun obj => F.args_object_init_2 obj _) F.entry_enumerate_new (enum_new1 bg) ⟨z1, ?_⟩
  have hz : (s.heap.push o).objs.size = s.heap.objs.size + 1 := Heap.size_push ..
  show _ ∧ _
  rw [hz]
  have he : IsEnum ((s.heap.push o).push { cls := .type "enumerate", data := .fields #[.none, .bool false, .ref s.heap.objs.size, rawInt 0, .none, .none] }) (s.heap.objs.size + 1) s.heap.objs.size 0 .none := by
    have q := Heap.get?_push_size (s.heap.push o) (o := { cls := .type "enumerate", data := .fields #[.none, .bool false, .ref s.heap.objs.size, rawInt 0, .none, .none] }) rfl
    rw [hz] at q
    exact q
  exact ⟨⟨_, he, rfl⟩, z _ he (Heap.get?_push_of_some _ (Heap.get?_push_size _ bg.free)) fun b u x => Heap.get?_push_of_some _ (Heap.get?_push_of_some _ x)⟩

/-- the tuple at a, each item in a new pair -/
def pairO (b : Bool) (i : Nat) (x : V) (ho : HO) : Prop := if b = true then ∃ ob, ho = .frz ob (.tup [.int (i : Nat), x]) ∧ ob.dict = none else ho = .tup [.int (i : Nat), x]
def IteT (K : PySem.W.Frag) (a : Addr) (b : Bool) : It :=
  ⟨fun i H => ∃ (xs : List V) (x : V), SqT K H a xs ∧ xs[i]? = some x, fun i H v H' => ∃ T x ho, v = .ref T ∧ H T = none ∧ H' = upd H T ho ∧ pairO b i x ho ∧ ∀ xs, SqT K H a xs → xs[i]? = some x, fun i H => ∃ xs : List V, SqT K H a xs ∧ xs.length = i⟩
theorem turn_enumT {P : Program} {w : World} {K : PySem.W.Frag} {elts : List Expr} {kk : Nat} {tpos : Pos} (bb : Bool) (a e it : Addr) (hat : a ≠ it) (hae : a ≠ e) :
    Turn P w K (.Tuple elts kk tpos) (IteT K a bb) [e, it] e (fun i h => (∃ old, IsEnum h e it ((i : Nat) : Int) old) ∧ h.IsTupleIter it a i ∧ e ≠ it) where
  mem := by simp
  obj := fun i h st b hb => by
    obtain ⟨⟨old, he⟩, ⟨o, ho, hc, hd⟩, _⟩ := st
    rcases (show b = e ∨ b = it by simpa using hb) with z | z
    · subst z; exact ⟨_, he, fun v q => nomatch q⟩
    · subst z; exact ⟨o, ho, fun v q => by rw [hd] at q; cases q⟩
  keep := fun i h h' st kp => by
    obtain ⟨⟨old, he⟩, hi, hne⟩ := st
    exact ⟨⟨old, kp e (by simp) _ he⟩, hi.at fun o q => kp it (by simp) o q, hne⟩
  item := by
    intro X hP hw hK hc i pins s σ H E I hf st hg
    subst hP hw hK
    obtain ⟨⟨old, he⟩, hit, hne⟩ := st
    obtain ⟨xs, x, hq, hx⟩ := hg
    obtain ⟨its, rv, p, hz⟩ := I.tuple hq
    obtain ⟨u, hu, ru⟩ := rv.get hx
    have hel := Heap.lt_size he
    have hil : it < s.heap.objs.size := by obtain ⟨_, q, _⟩ := hit; exact Heap.lt_size q
    have hlt : i < its.toArray.size := by
      rcases Nat.lt_or_ge i its.length with z | z
      · simpa using z
      · rw [List.getElem?_eq_none z] at hu; cases hu
    have Dr : Draws X.prog X.w X.A.in1 it [it, a] its.toArray.size (fun i v => its.toArray[i]? = some v) (fun i h => h.IsTupleIter it a i ∧ h.IsTuple a its.toArray) := Draws.tuple (show X.A.in1.handled = none from I.ok.hd hc) it a hat _
    refine wpAny_pyNext_enum_itemD Dr he ⟨hit, p⟩ hlt hne (by simp [hne, Ne.symm hae]) fun y h' tk hy ho hst hT hsz hk => ?_
    have ey : y = u := by
      have : its.toArray[i]? = some u := by simpa using hu
      rw [this] at hy
      exact (Option.some.inj hy).symm
    subst ey
    refine ⟨_, rfl, wpAny_letOwnedTupleGo_enum (s := { s with heap := h', toks := tk + 1 }) ho fun h2 he2 sb => ?_⟩
    have hT2 : h2.get? s.heap.objs.size = some { cls := .type "tuple", data := .seq #[.int i tk, y] } := (sb.2 _ (Nat.ne_of_gt hel)).trans hT
    obtain ⟨ho2, hpo, new⟩ : ∃ ho2, pairO bb i x ho2 ∧ ObjOk X.prog X.w (upd H s.heap.objs.size ho2) h2 s.heap.objs.size ho2 := by
      cases bb with
      | false => exact ⟨.tup [.int (i : Nat), x], rfl, by show 2 ≤ sizeLine; decide, [.int i tk, y], .cons ⟨_, rfl⟩ (.cons ru .nil), ⟨_, hT2, rfl, _, rfl⟩⟩
      | true => exact ⟨.frz _ (.tup [.int (i : Nat), x]), ⟨_, rfl, rfl⟩, hT2, by show 2 ≤ sizeLine; decide, [.int i tk, y], .cons ⟨_, rfl⟩ (.cons ru .nil), ⟨_, hT2, rfl, _, rfl⟩⟩
    have I1 : Inv X pins σ (upd H s.heap.objs.size ho2) { s with heap := h2, toks := tk + 1 } :=
      I.turnedNew (ch := [e, it]) (fun b ob hb q => (sb.2 b (fun z => hb (by simp [z]))).trans (hk b ob (fun z => hb (by simp [z])) (fun z => hb (by simp [z])) q)) hf (Nat.le_refl _) new
    refine ⟨.ref s.heap.objs.size, _, I1, rfl, ⟨_, x, ho2, rfl, I.hok.fresh (Nat.le_refl _), rfl, hpo, fun ys hys => ?_⟩, ⟨⟨y, ?_⟩, hst.1.at fun o q => (sb.2 it (Ne.symm hne)).trans q, hne⟩, fun b hb => ?_⟩
    · rw [I.tuple_inj hys hq]; exact hx
    · have e1 : ((i + 1 : Nat) : Int) = (i : Int) + 1 := by omega
      rw [e1]; exact he2
    · have hb' : b < s.heap.objs.size := by
        rcases (show b = e ∨ b = it by simpa using hb) with z | z
        · rw [z]; exact hel
        · rw [z]; exact hil
      rw [upd_ne (Nat.ne_of_lt hb')]
      exact (hf b hb).1
  done := by
    intro X hP hw hK hc i pins s σ H E I hf st hg
    subst hP hw hK
    obtain ⟨⟨old, he⟩, hit, hne⟩ := st
    obtain ⟨xs, hq, hx⟩ := hg
    obtain ⟨its, rv, p, hz⟩ := I.tuple hq
    obtain ⟨f0, f1, f2, f3, f4, f5⟩ := hf it (by simp)
    have Dr : Draws X.prog X.w X.A.in1 it [it, a] its.toArray.size (fun i v => its.toArray[i]? = some v) (fun i h => h.IsTupleIter it a i ∧ h.IsTuple a its.toArray) := Draws.tuple (show X.A.in1.handled = none from I.ok.hd hc) it a hat _
    have en : its.toArray.size = i := by rw [← hx, rv.length]; simp
    exact wpAny_pyNext_enum_endD Dr he (by rw [en]; exact ⟨hit, p⟩) fun h' eb => ⟨rfl, I.turned (t' := s.toks) (fun b o hb q => eb b o hb q) f0 f1 f3 f4 f5⟩
  self := fun A i s Q E st h => by
    obtain ⟨⟨_, he⟩, _⟩ := st
    exact wpAny_pyIter_enum he h
def iEnumT (K : PySem.W.Frag) (b : Bool) (ta : TA) : TI := fun σ H R => ta σ H fun vs H1 => ∃ a xs, vs = [.ref a] ∧ SqT K H1 a xs ∧ R (IteT K a b) H1
theorem pi_enumT {X : Cx} {bb : Bool} {e : Expr} {ta : TA} {p pos tpos : Pos} {elts : List Expr} {kk : Nat} (hg : Gl X "enumerate") (hm : X.mg "enumerate" = none) (ha : PA X [e] ta) (hs : starEach [e] X.env = [(false, eval e X.env)]) :
    PI X (.Tuple elts kk tpos) (.Call (.Name "enumerate" p) [e] [] pos) (iEnumT X.K bb ta) := by
  refine ⟨fun pins s σ H R I h => ?_⟩
  refine Call_ (ld_blt I hg hm boot_enumerate (PyProof.Rows.callWith_type1 (thn (ha.run pos pins s σ H _ I h) fun us s1 ⟨vs, H1, I1, r1, q1⟩ => ?_) hs rfl))
  obtain ⟨a, xs, ex, hq, q⟩ := q1
  subst ex
  cases r1 with
  | cons r rr =>
    cases rr
    cases r
    obtain ⟨its, rv, p', hz⟩ := I1.tuple hq
    have hal : a < s1.heap.objs.size := by obtain ⟨_, z, _⟩ := p'; exact Heap.lt_size z
    refine enum_begin1 (begins_tuple a its.toArray) p' fun h' he hit hk => wpAny_pyIter_enum he ?_
    have I2 : Inv X pins σ H1 { s1 with heap := h' } := I1.kept (t' := s1.toks) hk
    refine ⟨s1.heap.objs.size + 1, [s1.heap.objs.size + 1, s1.heap.objs.size], _, _, H1, rfl, I2, turn_enumT bb a (s1.heap.objs.size + 1) s1.heap.objs.size (Nat.ne_of_lt hal) (Nat.ne_of_lt (Nat.lt_succ_of_lt hal)), ⟨⟨.none, he⟩, ⟨_, hit, rfl, rfl⟩, Nat.succ_ne_self _⟩, fun b hb => ?_, q⟩
    have hle : s1.heap.objs.size ≤ b := by
      rcases (show b = s1.heap.objs.size + 1 ∨ b = s1.heap.objs.size by simpa using hb) with z | z
      · rw [z]; exact Nat.le_succ _
      · rw [z]; exact Nat.le_refl _
    exact I1.fpOk hle (I1.hok.fresh hle)

section
variable {G : GE} {k : Nat} {call : Call} {cc : CC} {W : WX} {X : Cx}
def enumD (ds : List D) : List D := ds.mapIdx fun i d => .tup [.int (i : Nat), d]
def iEnB (m : As) : Iv := fun call s => (m call s).bind fun ds s1 => match ds with
  | [.tup ds] => .ok (enumD ds) s1
  | _ => .bad
def iEn (m : As) : Iv := fun call s => (m call s).bind fun ds s1 => match ds with
  | [d] => lift s1 ((itemsD d).map enumD)
  | _ => .bad
theorem CfS.pair {σr : Sr} {H : Hp} {s : S} {Φ : List (R × V)} {d : D} {v : V} {i : Int} {T : Addr} (c : CfS G σr H s ((.own (.fz d), v) :: Φ)) (hT : H T = none) {ho : HO} (ht : isTupO G [.int i, v] ho) : CfS G σr (upd H T ho) s ((.own (.fz (.tup [.int i, d])), .ref T) :: Φ) := by
  have c2 : CfS G σr H s (FzR [.int i, d] [.int i, v] ++ Φ) := c.simple (d := .int i) rfl
  exact c2.pack fun L q => Cf.newTup rfl q hT ht
theorem walks_enum {d : D} {ds : List D} {v : V} {a : Addr} (hb : G.bare = false) (e : listD d = some ds) (hv : v = .ref a) : Walks G (Ite G.K a) [(.own (.fz d), v)] (enumD ds) := by
  intro σr H s Φ c
  subst hv
  obtain ⟨ρ, M, cp⟩ := c.parts
  have r := c.peek (r := .own (.fz d)) (v := .ref a) (d := d) (by simp) (by cases d <;> first | rfl | cases e) cp
  obtain ⟨a', vs, ea, t, rd⟩ := listD_of r e
  cases ea
  refine ⟨fun i hi => ⟨vs, vs[i]'(by rw [← rd.length]; simpa [enumD] using hi), t, by simp⟩, fun i d' x H' ei ⟨T, y, ex, hT, eH, hy⟩ => ?_, ⟨vs, t, by rw [← rd.length]; simp [enumD]⟩⟩
  subst eH; subst ex
  have ey := hy vs t
  simp only [enumD, List.getElem?_mapIdx, Option.map_eq_some_iff] at ei
  obtain ⟨d0, e0, e1⟩ := ei
  subst e1
  obtain ⟨w, hw, q⟩ := rd.get e0
  rw [ey] at hw
  cases hw
  exact CfS.pair (CfS.cpMore (K := []) c cp q) hT ⟨hb, rfl⟩
theorem pairO_of {i : Nat} {x : V} {ho : HO} (h : pairO G.bare i x ho) : isTupO G [.int (i : Nat), x] ho := by
  unfold pairO at h
  split at h
  · obtain ⟨ob, e, d⟩ := h; subst e; exact ⟨rfl, fun _ => d⟩
  · rename_i hb
    subst h
    exact ⟨by simpa using hb, rfl⟩
theorem walks_enumT {ds : List D} {v : V} {a : Addr} (hv : v = .ref a) : Walks G (IteT G.K a G.bare) [(.own (.fz (.tup ds)), v)] (enumD ds) := by
  intro σr H s Φ c
  subst hv
  obtain ⟨ρ, M, cp⟩ := c.parts
  have r := c.peek (r := .own (.fz (.tup ds))) (v := .ref a) (d := .tup ds) (by simp) rfl cp
  obtain ⟨a', vs, ea, t0, rd⟩ := r
  have t := t0.sq
  cases ea
  refine ⟨fun i hi => ⟨vs, vs[i]'(by rw [← rd.length]; simpa [enumD] using hi), t, by simp⟩, fun i d' x H' ei ⟨T, y, ho, ex, hT, eH, hpo, hy⟩ => ?_, ⟨vs, t, by rw [← rd.length]; simp [enumD]⟩⟩
  subst eH; subst ex
  have ey := hy vs t
  simp only [enumD, List.getElem?_mapIdx, Option.map_eq_some_iff] at ei
  obtain ⟨d0, e0, e1⟩ := ei
  subst e1
  obtain ⟨w, hw, q⟩ := rd.get e0
  rw [ey] at hw
  cases hw
  exact CfS.pair (CfS.cpMore (K := []) c cp q) hT (pairO_of hpo)
theorem i_enum (g : Good G k call cc W X) (hb : G.bare = false) {e : Expr} {elts : List Expr} {kk : Nat} {m : As} {p pos tpos : Pos} (hg : cc.sc.names.lookup ("enumerate" : Str) = some .globalImplicit) (h : PA X [e] (tL G W call m)) (hn : notStar e = true) : PI X (.Tuple elts kk tpos) (.Call (.Name "enumerate" p) [e] [] pos) (tI G W call (iEn m)) := by
  refine ((pi_enum (g.gl hg) (g.blt _ (by decide)) h (star_cons hn)).or (pi_enumT (bb := G.bare) (g.gl hg) (g.blt _ (by decide)) h (star_cons hn))).of fun σ H Q q => ?_
  obtain ⟨s, Φ, c, q⟩ := q
  have q1 := Aft.bind q
  cases em : m call s with
  | bad => rw [em] at q1; exact q1.elim
  | exc cn d s1 => exact .inl ⟨s, Φ, c, by rw [em] at q1 ⊢; exact q1⟩
  | ok ds s1 =>
    rw [em] at q1
    match ds, em, q1 with
    | [], em, q1 => exact q1.elim
    | _ :: _ :: _, em, q1 => exact q1.elim
    | [d], em, q1 =>
      obtain ⟨es, ed, q3⟩ := Aft.lift (x := (itemsD d).map enumD) q1
      simp only [Option.map_eq_some_iff] at ed
      obtain ⟨is, ei, ee⟩ := ed
      subst ee
      have two : ∀ vs : List V, [d].length = vs.length → ∃ v, vs = [v] := fun vs l => by
        match vs, l with
        | [v], _ => exact ⟨v, rfl⟩
      cases d with
      | tup ds' =>
        cases ei
        refine .inr ⟨s, Φ, c, ?_⟩
        rw [em]
        intro vs H1 l c1
        obtain ⟨v, rfl⟩ := two vs l
        obtain ⟨ρ, M, cp⟩ := c1.parts
        obtain ⟨a, us, ea, t, rd⟩ := c1.peek (r := .own (.fz (.tup is))) (d := .tup is) (v := v) (by simp [FzR]) rfl cp
        subst ea
        exact ⟨a, us, rfl, by rw [g.K]; exact t.sq, by rw [g.K]; exact q3 [(.own (.fz (.tup is)), .ref a)] _ H1 (noB_cons fun _ _ z => by simp at z) c1 (walks_enumT rfl)⟩
      | lst ds' =>
        have e2 : listD (.lst ds') = some is := ei
        refine .inl ⟨s, Φ, c, ?_⟩
        rw [em]
        intro vs H1 l c1
        obtain ⟨v, rfl⟩ := two vs l
        obtain ⟨ρ, M, cp⟩ := c1.parts
        obtain ⟨a, us, ea, t, rd⟩ := listD_of (c1.peek (r := .own (.fz (.lst ds'))) (d := .lst ds') (v := v) (by simp [FzR]) rfl cp) e2
        subst ea
        exact ⟨a, us, rfl, by rw [g.K]; exact t, by rw [g.K]; exact q3 [(.own (.fz (.lst ds')), .ref a)] _ H1 (noB_cons fun _ _ z => by simp at z) c1 (walks_enum hb e2 rfl)⟩
      | scr ns =>
        have e2 : listD (.scr ns) = some is := ei
        refine .inl ⟨s, Φ, c, ?_⟩
        rw [em]
        intro vs H1 l c1
        obtain ⟨v, rfl⟩ := two vs l
        obtain ⟨ρ, M, cp⟩ := c1.parts
        obtain ⟨a, us, ea, t, rd⟩ := listD_of (c1.peek (r := .own (.fz (.scr ns))) (d := .scr ns) (v := v) (by simp [FzR]) rfl cp) e2
        subst ea
        exact ⟨a, us, rfl, by rw [g.K]; exact t, by rw [g.K]; exact q3 [(.own (.fz (.scr ns)), .ref a)] _ H1 (noB_cons fun _ _ z => by simp at z) c1 (walks_enum hb e2 rfl)⟩
      | _ => cases ei

theorem i_enumB (g : Good G k call cc W X) {e : Expr} {elts : List Expr} {kk : Nat} {m : As} {p pos tpos : Pos} (hg : cc.sc.names.lookup ("enumerate" : Str) = some .globalImplicit) (h : PA X [e] (tL G W call m)) (hn : notStar e = true) : PI X (.Tuple elts kk tpos) (.Call (.Name "enumerate" p) [e] [] pos) (tI G W call (iEnB m)) := by
  refine (pi_enumT (bb := G.bare) (g.gl hg) (g.blt _ (by decide)) h (star_cons hn)).of fun σ H Q q => ?_
  obtain ⟨s, Φ, c, q⟩ := q
  refine ⟨s, Φ, c, (Aft.bind q).mono fun ds s1 a1 => fun vs H1 l c1 => ?_⟩
  split at a1
  · rename_i is
    obtain ⟨v, rfl⟩ : ∃ v, vs = [v] := by
      match vs, l with
      | [v], _ => exact ⟨v, rfl⟩
    obtain ⟨ρ, M, cp⟩ := c1.parts
    obtain ⟨a, us, ea, t, rd⟩ := c1.peek (r := .own (.fz (.tup is))) (d := .tup is) (v := v) (by simp [FzR]) rfl cp
    subst ea
    exact ⟨a, us, rfl, by rw [g.K]; exact t.sq, by rw [g.K]; exact a1 [(.own (.fz (.tup is)), .ref a)] _ H1 (noB_cons fun _ _ z => by simp at z) c1 (walks_enumT rfl)⟩
  · exact a1.elim
/-! ### a op b op' c -/
def mChain (f f' : D → D → Option O) (a b c : E) : E := fun call s => (a call s).bind fun x s1 => (b call s1).bind fun y s2 => match (peek s2 x).bind fun d1 => (peek s2 y).bind fun d2 => f d1 d2 with
  | some (.fz (.bl true)) => (c call s2).bind fun z s3 => lift s3 ((peek s3 y).bind fun d2 => (peek s3 z).bind fun d3 => (f' d2 d3).map R.own)
  | some (.fz (.bl false)) => .ok (.own (.fz (.bl false))) s2
  | _ => .bad
theorem lm_two {op op' : CmpOp} {b c : Expr} (h : behindInMarks op' c = false) : lastMarks [op, op'] [b, c] = false := h
theorem e_chain {f f' : D → D → Option O} {op op' : CmpOp} {a b c : Expr} {ma mb mc : E} {pos : Pos} (ho : OpR X (compareOp op) (r2 G f)) (ho' : OpR X (compareOp op') (r2 G f')) (ha : PE X a (tE G W call ma)) (hb : PE X b (tE G W call mb)) (hc : PE X c (tE G W call mc)) (hm : behindInMarks op' c = false) : PE X (.Compare a [op, op'] [b, c] pos) (tE G W call (mChain f f' ma mb mc)) := by
  refine (pe_chain ho ho' ha hb hc (lm_two hm)).of fun σ H Q q => ?_
  obtain ⟨s, Φ, c, h⟩ := q
  refine ⟨s, Φ, c, (Aft.bind h).mono fun x s1 h1 => fun v1 H1 c1 => ⟨s1, _, c1, ((Aft.bind h1).frame1).mono fun y s2 h2 => fun v2 H2 c2 => ?_⟩⟩
  obtain ⟨ρ, M, cp⟩ := c2.parts
  split at h2
  · rename_i e
    simp only [Option.bind_eq_some_iff] at e
    obtain ⟨d1, e1, d2, e2, eo⟩ := e
    refine ⟨ρ, M, _, _, d1, d2, _, cp, c2.peek (by simp) e1 cp, c2.peek (by simp) e2 cp, eo, fun w H3 c3 => ?_⟩
    have cK := CfS.more (K := []) c2 c3
    have ew : w = .bl true := by obtain ⟨ρ, M, cp⟩ := cK.parts; exact cK.peek (r := .own (.fz (.bl true))) (d := .bl true) (by simp) rfl cp
    refine ⟨true, ew, iteT ⟨s2, _, cK.drop, ((Aft.bind h2).frame (K := [(y, v2), (x, v1)])).mono fun z s3 h3 => fun v3 H4 c4 => ?_⟩⟩
    obtain ⟨zz, e5, q⟩ := Aft.lift h3
    simp only [Option.bind_eq_some_iff, Option.map_eq_some_iff] at e5
    obtain ⟨d2', e6, d3, e7, o, eo', ey⟩ := e5
    subst ey
    obtain ⟨ρ', M', cp'⟩ := c4.parts
    exact ⟨ρ', M', _, _, d2', d3, o, cp', c4.peek (by simp) e6 cp', c4.peek (by simp) e7 cp', eo', fun w H5 c5 => q w H5 (CfS.more (K := [(z, v3), (y, v2), (x, v1)]) c4 c5)⟩
  · rename_i e
    simp only [Option.bind_eq_some_iff] at e
    obtain ⟨d1, e1, d2, e2, eo⟩ := e
    refine ⟨ρ, M, _, _, d1, d2, _, cp, c2.peek (by simp) e1 cp, c2.peek (by simp) e2 cp, eo, fun w H3 c3 => ?_⟩
    have cK := CfS.more (K := [(y, v2), (x, v1)]) c2 c3
    have ew : w = .bl false := by obtain ⟨ρ, M, cp⟩ := cK.parts; exact cK.peek (r := .own (.fz (.bl false))) (d := .bl false) (by simp) rfl cp
    refine ⟨false, ew, iteF ?_⟩
    subst ew
    exact h2 _ H3 cK
  · exact h2.elim
/-! ### t.count(x) of a tuple that bears no dict -/
def countD (d e : D) : Option O := match d with
  | .tup ds => (toPs ds).bind fun ps => (toP e).bind fun p => if PyData.plainAll ps && p.plain && decide (p.depth ≤ 60) then fI ((ps.countP fun y => PyData.eqv y p : Nat) : Int) else none
  | _ => none
def mCnt (mx me : E) : E := fun call s => (mx call s).bind fun x s1 => match peek s1 x with
  | some (.tup _) => (me call s1).bind fun y s2 => lift s2 ((peek s2 x).bind fun d1 => (peek s2 y).bind fun d2 => (countD d1 d2).map R.own)
  | _ => .bad
theorem tr_bare {pins : List (Addr × Obj)} {σ : Sr} {H : Hp} {s : Shared} {M : List Addr} {a : Addr} {vs : List V} (hK : X.K = G.K) (hb : G.bare = true) (I : Inv X pins σ H s) (t : Tr G H M a vs) : s.TypeIs (.ref a) "tuple" ∧ ∃ ob, s.heap.get? a = some ob ∧ ob.dict = none := by
  rcases t with ⟨ho, e, i, n⟩ | ⟨o, its, n, t1, t2, t3, t4, t5, t6⟩
  · unfold isTupO at i
    split at i
    · rw [hb] at i; cases i.1
    · rename_i o us
      obtain ⟨z1, z2⟩ : ObjOk X.prog X.w H s.heap a (.frz o (.tup us)) := I.hok a _ e
      obtain ⟨_, its, _, ⟨o', e1, c, _⟩⟩ := z2
      rw [z1] at e1
      cases e1
      exact ⟨⟨o, z1, c⟩, o, z1, i.2 hb⟩
    · exact i.elim
  · have q := I.kIn a o (by rw [hK]; exact t1)
    exact ⟨⟨o, q, t2⟩, o, q, t6 hb⟩
theorem e_count (g : Good G k call cc W X) (hb : G.bare = true) {x e : Expr} {mx me : E} {p pos : Pos} (hx : PE X x (tE G W call mx)) (he : PE X e (tE G W call me)) (hn : notStar e = true) (hp : plainO x = true) (hl : (p.endLine == pos.line) = true) :
    PE X (.Call (.Attribute x "count" p) [e] [] pos) (tE G W call (mCnt mx me)) := by
  have hall : [e].all notStar = true := by simp [hn]
  refine ⟨fun pins s σ H Q I h => ?_⟩
  obtain ⟨ms, Φ, c, a⟩ := h
  refine wpAny_Call_method_late (base_ok hp) (few_ok hall rfl) hl rfl (thn (hx.run pins s σ H (fun v H1 => ∃ xr s1, CfS G σ H1 s1 ((xr, v) :: Φ) ∧ Aft G W σ Φ (PV G σ Φ Q) (match peek s1 xr with
    | some (.tup _) => (me call s1).bind fun y s2 => lift s2 ((peek s2 xr).bind fun d1 => (peek s2 y).bind fun d2 => (countD d1 d2).map R.own)
    | _ => .bad)) I ⟨ms, Φ, c, (Aft.bind a).mono fun xr s1 a1 => fun v H1 c1 => ⟨xr, s1, c1, a1⟩⟩) fun v s1 ⟨xv, H1, I1, r1, xr, ms1, c1, a1⟩ => ?_)
  split at a1
  · rename_i ds0 e0
    obtain ⟨ρ, M, cp⟩ := c1.parts
    obtain ⟨t, us, ex, tr, rd⟩ := c1.peek (v := xv) (by simp) e0 cp
    subst ex
    obtain rfl := (show v = Value.ref t from r1)
    obtain ⟨h1, h2⟩ := tr_bare g.K hb I1 tr
    refine ⟨"tuple", "tuple.count", PySem.F.plainAttrs_tuple, PySem.F.slot_tuple_count, PySem.F.type_tuple_count, h1, fun b eb => by cases eb; exact h2, ?_⟩
    have hA := (pa_cons he pa_nil (star_cons hn)).run pos pins s1 σ H1 (fun vs H2 => ∃ yv yr s2, vs = [yv] ∧ CfS G σ H2 s2 ((yr, yv) :: (xr, .ref t) :: Φ) ∧ Aft G W σ Φ (PV G σ Φ Q) (lift s2 ((peek s2 xr).bind fun d1 => (peek s2 yr).bind fun d2 => (countD d1 d2).map R.own))) I1
      ⟨ms1, _, c1, ((Aft.bind a1).frame1).mono fun y s2 a2 => fun yv H2 c2 => ⟨yv, y, s2, rfl, c2, a2⟩⟩
    rw [star_cons hn] at hA ⊢
    refine Calls.callWith_builtin rfl (Calls.evalArgs_plain ?_)
    refine thn hA fun ws s2 ⟨vs, H2, I2, r2, yv, yr, ms2, ev, c2, a2⟩ => ?_
    subst ev
    obtain ⟨u, rfl, ru⟩ := r2.one
    obtain ⟨z, ez, q⟩ := Aft.lift a2
    simp only [Option.bind_eq_some_iff, Option.map_eq_some_iff] at ez
    obtain ⟨d1, e1, d2, e2, o, eo, ey⟩ := ez
    subst ey
    obtain ⟨ρ2, M2, cp2⟩ := c2.parts
    have t1 := c2.peek (v := .ref t) (by simp) e1 cp2
    have t2 := c2.peek (v := yv) (by simp) e2 cp2
    unfold countD at eo
    split at eo
    · rename_i ds
      simp only [Option.bind_eq_some_iff] at eo
      obtain ⟨ps, f1, pp, f2, f3⟩ := eo
      split at f3
      · rename_i hc
        simp only [Bool.and_eq_true, decide_eq_true_eq] at hc
        cases f3
        obtain ⟨t', us', et, tr', rd'⟩ := t1
        cases et
        obtain ⟨its, rv, pl, hz⟩ := I2.tuple (by rw [g.K]; exact tr'.sq)
        have dp : DpAll X.K H2 us' ps := by rw [g.K]; exact RepDs.dp ds us' ps rd' f1
        obtain ⟨as, rs⟩ := Dp.readsAll I2 ps us' its dp rv
        obtain ⟨bs, rx⟩ := Dp.reads I2 pp yv u (by rw [g.K]; exact t2.dp f2) ru
        refine PySem.SeqAt.count_tuple_data (vs := its.toArray) pl (by simpa using rs) rx hc.1.1 hc.1.2 ?_ ?_
        · have h4 := g.units
          have h5 : min (PyData.depthAll ps) pp.depth ≤ pp.depth := Nat.min_le_right _ _
          have h6 := hc.2
          omega
        · exact ⟨.int _, H2, I2.tok _, ⟨_, rfl⟩, q _ H2 (CfS.more (K := [(yr, yv), (xr, .ref t)]) c2 (cp2.int _))⟩
      · cases f3
    · cases eo
  · exact a1.elim
/-! ### {} -/
def mDic0 : E := fun _ s => .ok (.own (.dic [] [])) s
theorem e_dic0 {pos : Pos} : PE X (.Dict [] [] pos) (tE G W call mDic0) := pe_dnewK.of fun σ H Q h => by
  obtain ⟨s, Φ, c, a⟩ := h
  intro d hd
  exact a _ _ (CfS.more (K := []) c (Cf.newDic (ks := []) (ds := []) (vs := []) rfl rfl c.cf hd))
/-! ### a new container is put into a cell -/
def isCont : O → Bool
  | .fz _ => false
  | _ => true
def mCell (m : E) : E := fun call s => (m call s).bind fun x s1 => match x with
  | .own o => if isCont o then .ok (.own (.fz (.loc s1.h.length))) ⟨s1.σ, s1.h ++ [o]⟩ else .bad
  | _ => .bad
theorem e_cell {e : Expr} {m : E} (h : PE X e (tE G W call m)) : PE X e (tE G W call (mCell m)) := h.of fun σ H Q q => by
  obtain ⟨s, Φ, c, a⟩ := q
  refine ⟨s, Φ, c, (Aft.bind a).mono fun x s1 a1 => fun v H1 c1 => ?_⟩
  split at a1
  · rename_i o
    split at a1
    · rename_i hc
      refine a1 v H1 ⟨c1.sl, fun i w z => ?_, ?_⟩
      · rcases List.mem_cons.mp z with z | z
        · cases z
        · exact c1.bo i w (List.mem_cons_of_mem _ z)
      · have c2 : Cf G H1 s1.h ((o, v) :: (slp s1.σ σ ++ ow Φ)) := c1.cf.perm List.perm_middle
        exact (c2.newCell fun d z => by subst z; cases hc).perm List.perm_middle.symm
    · exact a1.elim
  · exact a1.elim
end
end Mi

set_option Elab.async false
set_option linter.all false
set_option maxRecDepth 100000
set_option maxHeartbeats 4000000
/-! Mi, part Z: raise; try and what its suites see; fields. -/
namespace Mi
open PySem PySem.Spec PyProof.Rows L2
section
variable {G : GE} {k : Nat} {call : Call} {cc : CC} {W : WX} {X : Cx}
/-! ### raise -/
theorem Cf.alloc {H : Hp} {h : List O} {L : List (O × V)} {p : Addr} {o : HO} (c : Cf G H h L) (hp : H p = none) : Cf G (upd H p o) h L := by
  obtain ⟨ρ, M, cp⟩ := c
  exact ⟨ρ, M, (Cp.alloc cp hp).1⟩
theorem CfS.alloc {σr : Sr} {H : Hp} {s : S} {Φ : List (R × V)} {p : Addr} {o : HO} (c : CfS G σr H s Φ) (hp : H p = none) : CfS G σr (upd H p o) s Φ := ⟨c.sl, c.bo, c.cf.alloc hp⟩
def cRaise (c : Str) (r : As) : C := fun call s => (r call s).flow fun ds s1 => match ds with
  | [d] => .exc c d s1
  | _ => .bad
theorem s_raise (g : Good G k call cc W X) {c f : Str} {e : Expr} {r : As} {p pos pos2 : Pos} (hc : (c, f) ∈ cc.exs) (hg : cc.sc.names.lookup c = some .globalImplicit) (h : PA X [e] (tL G W call r)) (hn : notStar e = true) :
    PS X (.Raise (some (.Call (.Name c p) [e] [] pos)) none pos2) (tS G W call (cRaise c r)) := by
  obtain ⟨C, hE⟩ := g.exs c f hc
  have R := g.xr c C f hE
  refine (ps_raise g.calm g.tk (pmk_row (p := p) (pos := pos) R (g.room.mono (by omega)) (g.gl hg) h (star_cons hn))).of fun D σ H q => ?_
  obtain ⟨s, Φ, nb, cf, q⟩ := q
  refine ⟨s, Φ, cf, (AftS.flow q).mono fun ds s1 a1 => fun vs H1 l c1 => ?_⟩
  match ds, a1, l, c1 with
  | [d], a1, l, c1 =>
    match vs, l, c1 with
    | [v], _, c1 => exact ⟨v, rfl, fun a ha => a1 σ (.ref C) (some a) _ ⟨C, f, a, v, rfl, hE, rfl, upd_same, c1.alloc ha⟩⟩
  | [], a1, _, _ => exact a1.elim
  | _ :: _ :: _, a1, _, _ => exact a1.elim

/-! ### fields -/
theorem lookup_zip {ρ : List Addr} {H : Hp} {M : List Addr} {f : Str} {d : D} : ∀ {fs : List Str} {xs : List D} {vs : List V}, RepDs G ρ H M xs vs → (fs.zip xs).lookup f = some d → ∃ v, (fs.zip vs).lookup f = some v ∧ RepD G ρ H M d v
  | [], xs, vs, _, e => by simp at e
  | _ :: _, [], vs, _, e => by simp at e
  | g :: fs, x :: xs, vs, r, e => by
    obtain ⟨v, us, rfl, r1, r2⟩ := r
    simp only [List.zip_cons_cons, List.lookup_cons] at e ⊢
    by_cases h : f == g
    · simp only [h] at e ⊢
      cases e
      exact ⟨v, rfl, r1⟩
    · have h' : (f == g) = false := by simpa using h
      simp only [h'] at e ⊢
      exact lookup_zip r2 e
def fldD (fl : List (Str × Str)) (f : Str) : D → Option O
  | .ins c fs xs => if (c, f) ∈ fl then ((fs.zip xs).lookup f).map .fz else none
  | .xn _ g d => if f = g then some (.fz d) else none
  | _ => none
/-- the field of the exception that is handled -/
theorem pe_xn {e : Expr} {te : TE} {n : Str} {pos : Pos} (he : PE X e te) (hb : attributeBase e n X.env (eval e X.env) = eval e X.env) :
    PE X (.Attribute e n pos) (fun σ H Q => te σ H fun x H1 => ∃ (a : Addr) (oe : Obj) (C dd : Addr) (v : V), x = .ref a ∧ (a, oe) ∈ X.pn ∧ oe.cls = .ref C ∧ oe.dict = some dd ∧ (∃ vs, oe.data = .fields vs) ∧ XfC X.K C ∧ PySem.W.findIn X.K (.ref C) n = some none ∧ H1 dd = some (.xd [(n, v)]) ∧ Q v H1) := by
  refine ⟨fun pins s σ H Q I h => ?_⟩
  refine attr_of hb (thn (he.run pins s σ H _ I h) fun u s1 ⟨x, H1, I1, rx, a, oe, C, dd, v, ex, hm, hc, hdct, ⟨vs, hdat⟩, T, hno, ea, q⟩ => ?_)
  subst ex
  obtain rfl : u = Value.ref a := rx
  obtain ⟨atA, _⟩ := I1.pin (a, oe) (List.mem_append_left _ hm)
  have hx : ObjOk X.prog X.w H1 s1.heap dd (.xd [(n, v)]) := I1.hok dd _ ea
  obtain ⟨mA, hns, hr⟩ := hx
  obtain ⟨od, ho, hl⟩ := lookIn_ns hns
  have l : List.lookup n [(n, v)] = some v := by simp [List.lookup]
  obtain ⟨u, hu, ru⟩ := RelO.some_of (v := v) (o := mA n) (by rw [← l]; exact hr n)
  have J : PySem.W.InstAt s1.heap a oe C (some od) := ⟨atA, hc, by unfold PySem.W.notCls; rw [hdat] <;> rfl, by rw [hdct]; exact ho⟩
  exact HandSPX.exc_get I1.kIn J T.ga T.gg T.exC (PySem.W.findObj_own T.hdC hno rfl (by rw [hl, hu])) (handed_of ru) ⟨v, H1, I1.tok _, ru, q⟩
theorem _root_.L2.PE.or {X : Cx} {e : Expr} {t t' : TE} (h : PE X e t) (h' : PE X e t') : PE X e (fun σ H Q => t σ H Q ∨ t' σ H Q) := ⟨fun pins s σ H Q I q => by
  rcases q with q | q
  · exact h.run pins s σ H Q I q
  · exact h'.run pins s σ H Q I q⟩
/-- what is made of one value, whatever its reading is: in two parts -/
theorem tOneOr {f : D → Option O} {a : E} {σr : Sr} {H : Hp} {Q : VK} (P P' : V → Hp → Prop) (h : tE G W call (mOne f a) σr H Q) (hp : (∀ x H1, r1 G f x H1 Q → P x H1) ∨ (∀ x H1, r1 G f x H1 Q → P' x H1)) : tE G W call a σr H P ∨ tE G W call a σr H P' := by
  have t := tOne h
  obtain ⟨s, Φ, c, q⟩ := t
  rcases hp with hp | hp
  · exact .inl ⟨s, Φ, c, q.mono fun y s1 z => fun v H1 c1 => hp _ _ (z v H1 c1)⟩
  · exact .inr ⟨s, Φ, c, q.mono fun y s1 z => fun v H1 c1 => hp _ _ (z v H1 c1)⟩
/-- a field: of an instance, or of the exception that is handled -/
theorem e_fld (g : GoodB G cc X) {e : Expr} {m : E} {f : Str} {pos : Pos} (he : PE X e (tE G W call m)) (hb : attributeBase e f X.env (eval e X.env) = eval e X.env) : PE X (.Attribute e f pos) (tE G W call (mOne (fldD cc.flds f) m)) := by
  refine ⟨fun pins s σ H Q I h => ?_⟩
  obtain ⟨st, Φ, c, q⟩ := tOne h
  refine attr_of hb (thn (he.run pins s σ H _ I ⟨st, Φ, c, q⟩) fun u s1 ⟨x, H1, I1, rx, rr⟩ => ?_)
  obtain ⟨ρ, M, h0, L, d, o, cp, t, ef, fin⟩ := rr
  unfold fldD at ef
  split at ef
  · rename_i cn fs xs
    split at ef
    · rename_i hin
      simp only [Option.map_eq_some_iff] at ef
      obtain ⟨d1, el, eo⟩ := ef
      subst eo
      obtain ⟨a, C, dx, vs, ex, hC, hH, hl, rd⟩ := t
      obtain ⟨v, ev, rv⟩ := lookup_zip rd el
      subst ex
      obtain rfl : u = Value.ref a := rx
      exact getattr_ok I1 hH (g.cls cn C hC).1 (g.fld cn C f hC hin) ev fun u' s2 I2 ru => ⟨v, H1, I2, ru, fin v H1 (Cf.fz1.mpr ⟨ρ, M, cp, rv⟩)⟩
    · cases ef
  · rename_i cn gf d1
    split at ef
    · rename_i hfg
      cases ef
      subst hfg
      obtain ⟨a, a', C, v, hcur, ex, hE, hH, _, rv⟩ := t
      subst ex
      obtain ⟨oe, hm, hc, hdct, vs, hdat⟩ := g.cur a a' C hcur
      obtain rfl : u = Value.ref a := rx
      have R := g.xr cn C f hE
      have hno : PySem.W.findIn X.K (.ref C) f = some none := by
        obtain ⟨_, _, _, _, _, _, _, _, z, _⟩ := R.ex
        exact z
      have T := R.rd
      obtain ⟨atA, _⟩ := I1.pin (a, oe) (List.mem_append_left _ hm)
      have hx : ObjOk X.prog X.w H1 s1.heap a' (.xd [(f, v)]) := I1.hok a' _ hH
      obtain ⟨mA, hns, hr⟩ := hx
      obtain ⟨od, ho, hl⟩ := lookIn_ns hns
      have l : List.lookup f [(f, v)] = some v := by simp [List.lookup]
      obtain ⟨u, hu, ru⟩ := RelO.some_of (v := v) (o := mA f) (by rw [← l]; exact hr f)
      have J : PySem.W.InstAt s1.heap a oe C (some od) := ⟨atA, hc, by unfold PySem.W.notCls; rw [hdat] <;> rfl, by rw [hdct]; exact ho⟩
      exact HandSPX.exc_get I1.kIn J T.ga T.gg T.exC (PySem.W.findObj_own T.hdC hno rfl (by rw [hl, hu])) (handed_of ru) ⟨v, H1, I1.tok _, ru, fin v H1 (Cf.fz1.mpr ⟨ρ, M, cp, rv⟩)⟩
    · cases ef
  · cases ef
end
end Mi

set_option Elab.async false
set_option linter.all false
set_option maxRecDepth 100000
set_option maxHeartbeats 4000000
/-! Mi, part Zb: within a suite and out of it; try. -/
namespace Mi
open PySem PySem.Spec PyProof.Rows L2
mutual
def cleanD : D → Bool
  | .xn _ _ _ => false
  | .tup ds => cleanDs ds
  | .lst ds => cleanDs ds
  | .dic _ ds => cleanDs ds
  | .ins _ _ ds => cleanDs ds
  | _ => true
def cleanDs : List D → Bool
  | [] => true
  | d :: ds => cleanD d && cleanDs ds
end
def cleanO : O → Bool
  | .fz d => cleanD d
  | .lst ds => cleanDs ds
  | .dic _ ds => cleanDs ds
  | .ins _ _ ds => cleanDs ds
abbrev GE.at (G : GE) (z : Option (Addr × Addr × Addr)) : GE := { G with cur := z }
section
variable {G : GE} {z : Option (Addr × Addr × Addr)} {ρ : List Addr} {H : Hp} {M : List Addr}
mutual
theorem RepD.into (hz : G.cur = none) : ∀ (d : D) (v : V), RepD G ρ H M d v → RepD (G.at z) ρ H M d v ∧ cleanD d = true
  | .non, v, h => ⟨h, rfl⟩
  | .bl b, v, h => ⟨h, rfl⟩
  | .int i, v, h => ⟨h, rfl⟩
  | .str x, v, h => ⟨h, rfl⟩
  | .tup ds, v, h => by obtain ⟨a, vs, e, t, r⟩ := h; have q := RepDs.into hz ds vs r; exact ⟨⟨a, vs, e, t, q.1⟩, q.2⟩
  | .lst ds, v, h => by obtain ⟨a, vs, e, t, n, r⟩ := h; have q := RepDs.into hz ds vs r; exact ⟨⟨a, vs, e, t, n, q.1⟩, q.2⟩
  | .dic ks ds, v, h => by obtain ⟨a, vs, e, t, l, n, r⟩ := h; have q := RepDs.into hz ds vs r; exact ⟨⟨a, vs, e, t, l, n, q.1⟩, q.2⟩
  | .ins c fs ds, v, h => by obtain ⟨a, C, dx, vs, e, g, t, l, n, r⟩ := h; have q := RepDs.into hz ds vs r; exact ⟨⟨a, C, dx, vs, e, g, t, l, n, q.1⟩, q.2⟩
  | .loc n, v, h => ⟨h, rfl⟩
  | .fn f, v, h => ⟨h, rfl⟩
  | .scr ns, v, h => ⟨h, rfl⟩
  | .ty n, v, h => ⟨h, rfl⟩
  | .cls c, v, h => ⟨h, rfl⟩
  | .lk o kvs, v, h => ⟨h, rfl⟩
  | .xn c f d, v, h => by obtain ⟨a, a', C, v', e1, _⟩ := h; rw [hz] at e1; cases e1
theorem RepDs.into (hz : G.cur = none) : ∀ (ds : List D) (vs : List V), RepDs G ρ H M ds vs → RepDs (G.at z) ρ H M ds vs ∧ cleanDs ds = true
  | [], vs, h => ⟨h, rfl⟩
  | d :: ds, vs, h => by
    obtain ⟨v, r, e, h1, h2⟩ := h
    have q1 := RepD.into hz d v h1
    have q2 := RepDs.into hz ds r h2
    exact ⟨⟨v, r, e, q1.1, q2.1⟩, by simp only [cleanDs, q1.2, q2.2, Bool.and_self]⟩
end
mutual
theorem RepD.out : ∀ (d : D) (v : V), cleanD d = true → RepD (G.at z) ρ H M d v → RepD G ρ H M d v
  | .non, v, _, h => h
  | .bl b, v, _, h => h
  | .int i, v, _, h => h
  | .str x, v, _, h => h
  | .tup ds, v, c, h => by obtain ⟨a, vs, e, t, r⟩ := h; exact ⟨a, vs, e, t, RepDs.out ds vs c r⟩
  | .lst ds, v, c, h => by obtain ⟨a, vs, e, t, n, r⟩ := h; exact ⟨a, vs, e, t, n, RepDs.out ds vs c r⟩
  | .dic ks ds, v, c, h => by obtain ⟨a, vs, e, t, l, n, r⟩ := h; exact ⟨a, vs, e, t, l, n, RepDs.out ds vs c r⟩
  | .ins cn fs ds, v, c, h => by obtain ⟨a, C, dx, vs, e, g, t, l, n, r⟩ := h; exact ⟨a, C, dx, vs, e, g, t, l, n, RepDs.out ds vs c r⟩
  | .loc n, v, _, h => h
  | .fn f, v, _, h => h
  | .scr ns, v, _, h => h
  | .ty n, v, _, h => h
  | .cls c, v, _, h => h
  | .lk o kvs, v, _, h => h
  | .xn _ _ _, v, c, h => by cases c
theorem RepDs.out : ∀ (ds : List D) (vs : List V), cleanDs ds = true → RepDs (G.at z) ρ H M ds vs → RepDs G ρ H M ds vs
  | [], vs, _, h => h
  | d :: ds, vs, c, h => by
    simp only [cleanDs, Bool.and_eq_true] at c
    obtain ⟨v, r, e, h1, h2⟩ := h
    exact ⟨v, r, e, RepD.out d v c.1 h1, RepDs.out ds r c.2 h2⟩
end
theorem Own.into (hz : G.cur = none) {o : O} {v : V} {F : List Addr} (w : Own G ρ H M o v F) : Own (G.at z) ρ H M o v F ∧ cleanO o = true := by
  cases o with
  | fz d => exact ⟨⟨(RepD.into hz d v w.1).1, w.2⟩, (RepD.into (z := z) hz d v w.1).2⟩
  | lst ds => obtain ⟨a, vs, e, t, r, f⟩ := w; have q := RepDs.into (z := z) hz ds vs r; exact ⟨⟨a, vs, e, t, q.1, f⟩, q.2⟩
  | dic ks ds => obtain ⟨a, vs, e, t, l, r, f⟩ := w; have q := RepDs.into (z := z) hz ds vs r; exact ⟨⟨a, vs, e, t, l, q.1, f⟩, q.2⟩
  | ins c fs ds => obtain ⟨a, C, dx, vs, e, g, t, l, r, f⟩ := w; have q := RepDs.into (z := z) hz ds vs r; exact ⟨⟨a, C, dx, vs, e, g, t, l, q.1, f⟩, q.2⟩
theorem Own.out {o : O} {v : V} {F : List Addr} (c : cleanO o = true) (w : Own (G.at z) ρ H M o v F) : Own G ρ H M o v F := by
  cases o with
  | fz d => exact ⟨RepD.out d v c w.1, w.2⟩
  | lst ds => obtain ⟨a, vs, e, t, r, f⟩ := w; exact ⟨a, vs, e, t, RepDs.out ds vs c r, f⟩
  | dic ks ds => obtain ⟨a, vs, e, t, l, r, f⟩ := w; exact ⟨a, vs, e, t, l, RepDs.out ds vs c r, f⟩
  | ins cn fs ds => obtain ⟨a, C, dx, vs, e, g, t, l, r, f⟩ := w; exact ⟨a, C, dx, vs, e, g, t, l, RepDs.out ds vs c r, f⟩
theorem Owns.into (hz : G.cur = none) : ∀ {L : List (O × V)} {F : List Addr}, Owns G ρ H M L F → Owns (G.at z) ρ H M L F ∧ ∀ p ∈ L, cleanO p.1 = true
  | [], F, h => ⟨h, by simp⟩
  | p :: ps, F, h => by
    obtain ⟨A, B, e, h1, h2⟩ := h
    have q1 := Own.into (z := z) hz h1
    have q2 := Owns.into hz h2
    exact ⟨⟨A, B, e, q1.1, q2.1⟩, List.forall_mem_cons.mpr ⟨q1.2, q2.2⟩⟩
theorem Owns.out : ∀ {L : List (O × V)} {F : List Addr}, (∀ p ∈ L, cleanO p.1 = true) → Owns (G.at z) ρ H M L F → Owns G ρ H M L F
  | [], F, _, h => h
  | p :: ps, F, c, h => by
    obtain ⟨A, B, e, h1, h2⟩ := h
    exact ⟨A, B, e, h1.out (c p (by simp)), Owns.out (fun q hq => c q (by simp [hq])) h2⟩
end
section
variable {G : GE} {z : Option (Addr × Addr × Addr)} {H : Hp} {h : List O} {L : List (O × V)}
theorem Cf.into (hz : G.cur = none) (c : Cf G H h L) : Cf (G.at z) H h L ∧ (∀ o ∈ h, cleanO o = true) ∧ ∀ p ∈ L, cleanO p.1 = true := by
  obtain ⟨ρ, M, l, ow, n⟩ := c
  obtain ⟨q1, q2⟩ := Owns.into (z := z) hz ow
  refine ⟨⟨ρ, M, l, q1, n⟩, fun o ho => ?_, fun p hp => q2 p (List.mem_append_right _ hp)⟩
  obtain ⟨i, hi, e⟩ := List.getElem_of_mem ho
  have hi2 : i < (ρ.map V.ref).length := by rw [List.length_map, l]; exact hi
  refine q2 (o, (ρ.map V.ref)[i]) (List.mem_append_left _ ?_)
  rw [← e]
  have : (h.zip (ρ.map V.ref))[i]'(by simp; omega) = (h[i], (ρ.map V.ref)[i]) := List.getElem_zip
  rw [← this]
  exact List.getElem_mem _
theorem Cf.out (ch : ∀ o ∈ h, cleanO o = true) (cL : ∀ p ∈ L, cleanO p.1 = true) (c : Cf (G.at z) H h L) : Cf G H h L := by
  obtain ⟨ρ, M, l, ow, n⟩ := c
  refine ⟨ρ, M, l, ow.out fun p hp => ?_, n⟩
  rcases List.mem_append.mp hp with q | q
  · exact ch p.1 (List.of_mem_zip (show (p.1, p.2) ∈ _ from q)).1
  · exact cL p q
end
/-! ### try -/
/-- a suite: return m, with the exception in slot i -/
def suiteS (i : Option Nat) (c f : Str) (d : D) (s : S) : S := match i with
  | some i => ⟨s.σ.set i (some (.fz (.xn c f d))), s.h⟩
  | none => s
def offS (s : S) : S := ⟨s.σ.map fun _ => none, s.h⟩
def endSu : Fl → Fl
  | .rt o s => if cleanO o then .rt o (offS s) else .bad
  | _ => .bad
def tryCl (xs : List (Str × Str)) (c : Str) (d : D) (call : Call) (s : S) : List (Str × Option Nat × E) → Fl
  | [] => .exc c d s
  | (x, i, m) :: r => if c = x then (match xs.lookup c with | some f => endSu (cRet m call (suiteS i c f d s)) | none => .bad) else tryCl xs c d call s r
def cTry (xs : List (Str × Str)) (mb : C) (hs : List (Str × Option Nat × E)) : C := fun call s => match mb call s with
  | .exc c d s1 => tryCl xs c d call s1 hs
  | y => y
/-- an expression in a suite: it leaves the cells -/
structure CH (cc : CC) (e : Expr) where
  m : E
  ok : ∀ G call W X, GoodB G cc X → PE X e (tE G W call m)
  keep : ∀ call s r s', m call s = .ok r s' → s'.h = s.h
section
variable {G : GE} {k : Nat} {call : Call} {cc : CC} {W : WX} {X : Cx}
/-- what the clause's reading is -/
def tSu (G : GE) (call : Call) (m : E) (a : Addr) (cls : Value) (dx : Option Addr) : TS := fun D σ H => ∃ C a', cls = .ref C ∧ dx = some a' ∧ tS (G.at (some (a, a', C))) noW call (cRet m) D σ H
theorem good_suite (g : GoodB G cc X) {a a' C : Addr} {oe : Obj} {pn : List (Addr × Obj)} (hz : Zc (.ref C) (some a') oe) (hf : ∃ vs, oe.data = .fields vs) : GoodB (G.at (some (a, a', C))) cc (X.suite a ((a, oe) :: pn)) where
  N := g.N
  bare := g.bare
  nd := g.nd
  sc := g.sc
  K := g.K
  units := g.units
  blt := g.blt
  con := g.con
  exs := g.exs
  xr := g.xr
  sub := g.sub
  cls := g.cls
  fld := g.fld
  isx := g.isx
  cur := fun b b' C' e => by
    have e' : some (a, a', C) = some (b, b', C') := e
    cases e'
    exact ⟨oe, List.mem_cons_self, hz.1, hz.2, hf⟩
theorem suite_ok (g : GoodB G cc X) {e : Expr} (m : CH cc e) {rp : Pos} : SuiteOk X [.Return (some e) rp] (tSu G call m.m) := by
  intro a oe cls d pn hz hf
  refine ⟨fun pins s σ H D I q => ?_⟩
  obtain ⟨C, a', rfl, rfl, q⟩ := q
  have gs := good_suite (a := a) (pn := pn) g hz hf
  exact (pss_one (s_ret (m.ok _ call noW _ gs))).run pins s σ H D I q
def putI (i : Option Nat) (σr : Sr) (a : Addr) : Sr := match i with
  | some i => σr.set i (some (.ref a))
  | none => σr
def endI (i : Option Nat) (En : Ends) : Ends := match i with
  | some i => offEnds i En
  | none => En
/-- the exception is put into its slot -/
theorem CfS.enter (hz : G.cur = none) {σr : Sr} {H : Hp} {s : S} {Φ : List (R × V)} {c f : Str} {d : D} {v : V} {a a' C : Addr} (nb : NoB Φ) (hE : G.exc c = some (C, f)) (hH : H a' = some (.xd [(f, v)])) (q : CfS G σr H s ((.own (.fz d), v) :: Φ)) (i : Option Nat) :
    CfS (G.at (some (a, a', C))) (putI i σr a) H (suiteS i c f d s) Φ := by
  obtain ⟨q1, q2, q3⟩ := Cf.into (z := some (a, a', C)) hz q.cf
  have c1 : CfS (G.at (some (a, a', C))) σr H s ((.own (.fz d), v) :: Φ) := ⟨q.sl, q.bo, q1⟩
  cases i with
  | none => exact c1.drop
  | some i =>
    have c2 : CfS (G.at (some (a, a', C))) σr H s ((.own (.fz (.xn c f d)), .ref a) :: Φ) := by
      refine c1.by_ (fun j w hw => ?_) fun L cL => ?_
      · rcases List.mem_cons.mp hw with h | h
        · cases h
        · exact List.mem_cons_of_mem _ h
      · obtain ⟨ρ, M, cp, r⟩ := Cf.fz1.mp (show Cf (G.at (some (a, a', C))) H s.h ((.fz d, v) :: (ow Φ ++ L)) from cL)
        refine Cf.fz1.mpr ⟨ρ, M, cp, a, a', C, v, rfl, rfl, hE, hH, fun hm => ?_, r⟩
        obtain ⟨x, hx, mu⟩ := Owns.kind cp.2.1 a' hm
        rw [hH] at hx
        cases hx
        exact mu
    by_cases hi : i < s.σ.length
    · exact c2.put nb hi
    · have e1 : s.σ.set i (some (.fz (.xn c f d))) = s.σ := List.set_eq_of_length_le (by omega)
      have e2 : σr.set i (some (.ref a)) = σr := List.set_eq_of_length_le (by rw [← c2.sl.len]; omega)
      show CfS _ (σr.set i (some (.ref a))) H ⟨s.σ.set i (some (.fz (.xn c f d))), s.h⟩ Φ
      rw [e1, e2]
      exact c1.drop
theorem slp_off : ∀ {σ : List (Option O)} {σr : Sr}, slp (σ.map fun _ => none) σr = []
  | [], _ => rfl
  | _ :: _, [] => rfl
  | _ :: σ, _ :: σr => by show slp (σ.map fun _ => none) σr = []; exact slp_off
/-- behind a suite that has returned -/
theorem CfS.leave {a a' C : Addr} {σr : Sr} {H : Hp} {s s0 : S} {Φ : List (R × V)} {o : O} {v : V} (hh : s.h = s0.h) (ch : ∀ o ∈ s0.h, cleanO o = true) (cΦ : ∀ p ∈ ow Φ, cleanO p.1 = true) (nb : NoB Φ) (co : cleanO o = true)
    (q : CfS (G.at (some (a, a', C))) σr H s ((.own o, v) :: Φ)) : CfS G σr H (offS s) ((.own o, v) :: Φ) := by
  refine ⟨⟨?_, fun j w e => ?_⟩, fun j w hw => ?_, ?_⟩
  · show (s.σ.map fun _ => none).length = _
    rw [List.length_map]; exact q.sl.len
  · have : (s.σ.map fun _ => (none : Option O))[j]? = some (some w) := e
    rw [List.getElem?_map] at this
    cases hj : s.σ[j]? with
    | none => rw [hj] at this; cases this
    | some z => rw [hj] at this; cases this
  · rcases List.mem_cons.mp hw with h | h
    · cases h
    · exact absurd h (nb j w)
  · show Cf G H s.h (slp (s.σ.map fun _ => none) σr ++ ow ((.own o, v) :: Φ))
    rw [slp_off, List.nil_append]
    refine Cf.out (by rw [hh]; exact ch) (fun p hp => ?_) (Cf.dropN q.cf)
    rcases List.mem_cons.mp (show p ∈ (o, v) :: ow Φ from hp) with h | h
    · rw [h]; exact co
    · exact cΦ p h
/-- the clauses, turned -/
inductive HdT (cc : CC) : List ExceptHandler → List (Str × Option Nat × E) → Type
  | nil : HdT cc [] []
  | named {x n f : Str} {e : Expr} {np rp pos' : Pos} {hds : List ExceptHandler} {l : List (Str × Option Nat × E)} (hx : (x, f) ∈ cc.exs) (hg : cc.sc.names.lookup x = some .globalImplicit) (i : Nat) (hi : cc.N[i]? = some n) (hl : cc.sc.names.lookup n = some .local) (m : CH cc e) (r : HdT cc hds l) :
      HdT cc (.ExceptHandler (some (.Name x np)) (some n) [.Return (some e) rp] pos' :: hds) ((x, some i, m.m) :: l)
  | bare {x f : Str} {e : Expr} {np rp pos' : Pos} {hds : List ExceptHandler} {l : List (Str × Option Nat × E)} (hx : (x, f) ∈ cc.exs) (hg : cc.sc.names.lookup x = some .globalImplicit) (m : CH cc e) (r : HdT cc hds l) :
      HdT cc (.ExceptHandler (some (.Name x np)) none [.Return (some e) rp] pos' :: hds) ((x, none, m.m) :: l)
theorem ret_h {m : E} {s' s2 : S} {o : O} (hk : ∀ call s r s', m call s = .ok r s' → s'.h = s.h) (e : cRet m call s' = .rt o s2) : s2.h = s'.h := by
  unfold cRet at e
  cases em : m call s' with
  | ok r s1 =>
    rw [em] at e
    simp only [Out.flow_ok] at e
    have h1 := hk call s' r s1 em
    cases eg : give s1 r with
    | none => rw [eg] at e; cases e
    | some p =>
      obtain ⟨o', s3⟩ := p
      rw [eg] at e
      cases e
      rw [← h1]
      cases r with
      | own o' => cases eg; rfl
      | bor j =>
        simp only [give] at eg
        split at eg
        · cases eg; rfl
        · cases eg
  | exc cn d s1 => rw [em] at e; cases e
  | bad => rw [em] at e; cases e
theorem lookup_mem {xs : List (Str × Str)} {c f : Str} : xs.lookup c = some f → (c, f) ∈ xs := by
  induction xs with
  | nil => intro h; cases h
  | cons p r ih =>
    intro h
    rw [List.lookup_cons] at h
    split at h
    · rename_i hc
      cases h
      have : c = p.1 := by simpa using hc
      subst this
      exact List.mem_cons_self
    · exact List.mem_cons_of_mem _ (ih h)
/-- one clause that takes the exception -/
theorem su_ok (g : Good G k call cc W X) {En : Ends} {c f : Str} {d : D} {s : S} {Φ : List (R × V)} {e : Expr} (m : CH cc e) (nb : NoB Φ) (i : Option Nat) (hf : cc.exs.lookup c = some f)
    (q : AftS G W Φ En (endSu (cRet m.m call (suiteS i c f d s)))) {σr : Sr} {cls : Value} {dx : Option Addr} {H : Hp} (ex : ExR G σr H s Φ c d cls dx) (a : Addr) :
    tSu G call m.m a cls dx (endI i En) (putI i σr a) H := by
  obtain ⟨C, f1, a', v, rfl, hE, rfl, hH, cf⟩ := ex
  obtain ⟨C2, hE2⟩ := g.exs c f (lookup_mem hf)
  rw [hE] at hE2
  cases hE2
  obtain ⟨_, clh, clL⟩ := Cf.into (z := none) g.cold cf.cf
  have ent := CfS.enter (a := a) g.cold nb hE hH cf i
  refine ⟨C, a', rfl, rfl, suiteS i c f d s, Φ, nb, ent, ?_⟩
  cases er : cRet m.m call (suiteS i c f d s) with
  | rt o s2 =>
    rw [er] at q
    simp only [endSu] at q
    split at q
    · rename_i co
      have hh : s2.h = s.h := (ret_h m.keep er).trans (by cases i <;> rfl)
      intro σ1 v1 H1 c1
      have := q σ1 v1 H1 (CfS.leave hh clh (fun p hp => clL p (List.mem_append_right _ (List.mem_cons_of_mem _ hp))) nb co c1)
      cases i with
      | none => exact this
      | some i => exact this
    · exact q.elim
  | _ => all_goals (rw [er] at q; exact q.elim)
/-- the wished and the told, clause by clause -/
theorem cl_ok (g : Good G k call cc W X) : ∀ {hds : List ExceptHandler} {l : List (Str × Option Nat × E)}, HdT cc hds l → ∃ cl : List Clause, HdCl X hds cl ∧
    ∀ (En : Ends) (c : Str) (d : D) (s : S) (Φ : List (R × V)), NoB Φ → AftS G W Φ En (tryCl cc.exs c d call s l) → ∀ σr cls dx H, ExR G σr H s Φ c d cls dx → wCl X.K W En cl cls dx σr H
  | _, _, .nil => ⟨[], .nil, fun En c d s Φ nb q σr cls dx H ex => q σr cls dx H ex⟩
  | _, _, .named (x := x) (f := f) hx hg i hi hl m r => by
    obtain ⟨cl, hc, ih⟩ := cl_ok g r
    obtain ⟨C', hE'⟩ := g.exs x f hx
    have R := g.xr x C' f hE'
    refine ⟨(.ref C', some i, tSu G call m.m) :: cl, .named ⟨g.gl hg, R.db, .inl R.gC⟩ (by rw [g.N]; exact hi) (by show X.env.scope.names.lookup _ = _; rw [g.sc]; exact hl) (suite_ok g.toGoodB m) hc, fun En c d s Φ nb q σr cls dx H ex => ?_⟩
    have ex0 := ex
    obtain ⟨C, f1, a', v, rfl, hE, rfl, hH, cf⟩ := ex0
    refine ⟨decide (c = x), g.sub c C f1 x C' f hE hE', fun hb a ha => ?_, fun hb => ?_⟩
    · have hcx : c = x := of_decide_eq_true hb
      subst hcx
      simp only [tryCl, if_true] at q
      split at q
      · rename_i f2 hf
        exact su_ok g m nb (some i) hf q ex a
      · exact q.elim
    · have hcx : ¬ c = x := of_decide_eq_false hb
      simp only [tryCl, if_neg hcx] at q
      exact ih En c d s Φ nb q _ _ _ _ ex
  | _, _, .bare (x := x) (f := f) hx hg m r => by
    obtain ⟨cl, hc, ih⟩ := cl_ok g r
    obtain ⟨C', hE'⟩ := g.exs x f hx
    have R := g.xr x C' f hE'
    refine ⟨(.ref C', none, tSu G call m.m) :: cl, .bare ⟨g.gl hg, R.db, .inl R.gC⟩ (suite_ok g.toGoodB m) hc, fun En c d s Φ nb q σr cls dx H ex => ?_⟩
    have ex0 := ex
    obtain ⟨C, f1, a', v, rfl, hE, rfl, hH, cf⟩ := ex0
    refine ⟨decide (c = x), g.sub c C f1 x C' f hE hE', fun hb a ha => ?_, fun hb => ?_⟩
    · have hcx : c = x := of_decide_eq_true hb
      subst hcx
      simp only [tryCl, if_true] at q
      split at q
      · rename_i f2 hf
        exact su_ok g m nb none hf q ex a
      · exact q.elim
    · have hcx : ¬ c = x := of_decide_eq_false hb
      simp only [tryCl, if_neg hcx] at q
      exact ih En c d s Φ nb q _ _ _ _ ex
theorem good_tr (g : Good G k call cc W X) {W' : WX} {pn : List (Addr × Obj)} {xe : Value → Shared → Prop} (tk : Takes (X.tr pn xe) W') (po : PassesOwn (model X.prog X.w) X.A X.env xe) : Good G k call cc W' (X.tr pn xe) where
  N := g.N
  bare := g.bare
  nd := g.nd
  sc := g.sc
  K := g.K
  units := g.units
  blt := g.blt
  con := g.con
  exs := g.exs
  xr := g.xr
  sub := g.sub
  cls := g.cls
  fld := g.fld
  isx := g.isx
  cur := fun a a' C e => by rw [g.cold] at e; cases e
  calm := g.calm
  cold := g.cold
  tk := tk
  room := g.room
  fn := g.fn
  po := po
  stk := g.stk
  fns := g.fns
  news := g.news
  mths := g.mths
theorem s_try (g : Good G k call cc W X) (ht : cc.top = true) {body : List Stmt} {h0 : ExceptHandler} {hds : List ExceptHandler} {l : List (Str × Option Nat × E)} {mb : C} {pos : Pos}
    (hb : ∀ W X, Good G k call cc W X → PSs X body (tS G W call mb)) (hh : HdT cc (h0 :: hds) l) : PS X (.Try body (h0 :: hds) [] [] pos) (tS G W call (cTry cc.exs mb l)) := by
  obtain ⟨cl, hc, ih⟩ := cl_ok g hh
  obtain ⟨e1, e2⟩ := g.stk ht
  refine (ps_tryCl (tb := fun W' => tS G W' call mb) e1 e2 (by rw [g.N]; exact g.nd) g.tk (fun W' pn xe tk po => hb W' _ (good_tr g tk po)) hc).of fun En σ H q => ?_
  obtain ⟨s, Φ, nb, c, q⟩ := q
  refine ⟨s, Φ, nb, c, ?_⟩
  unfold cTry at q
  cases em : mb call s with
  | exc cn d s1 =>
    rw [em] at q
    exact fun σr cls dx H ex => ih En cn d s1 Φ nb q σr cls dx H ex
  | _ => all_goals (rw [em] at q; exact q)
end
end Mi

set_option Elab.async false
set_option linter.all false
set_option maxRecDepth 100000
set_option maxHeartbeats 4000000
/-! Mi, part Zc: instances: they stand in cells; made, their fields stored, their methods called. -/
namespace Mi
open PySem PySem.Spec PyProof.Rows L2
/-- C(..), where what is raised is wished for at the caller's slots -/
theorem run_mk {X : Cx} {CX : CXT} {k : Nat} {f C : Addr} {fd : FuncData} {ps : List Str} {sp : Sp} {E : XK} {pins : List (Addr × Obj)} {σ : L2.St} {H : Hp} {s : Shared} {Q : VK} {us : List Value} {vs : List V} (Mm : Mk X.K C f) (Fi : FnOk X.prog X.w X.K X.mg X.base CX k f fd ps sp)
    (room : Room (k + 1) X.A) (bi : Binds X.K fd ps []) (pa : PassesAt CX X σ E) (I : Inv X pins σ H s) (rv : Vals vs us)
    (told : ∀ x dx, H x = none → H dx = none → dx ≠ x → sp (.ref x :: vs) (upd (upd H dx (.own x)) x (.ins C dx [])) (fun v H2 => v = .non ∧ Q (.ref x) H2) E) :
    wpAny (model X.prog X.w) X.A (call (.ref C) us) (EP X pins σ Q) X.xe s := by
  let x := s.heap.objs.size + 1
  have tq := told x s.heap.objs.size (I.hok.fresh (Nat.le_succ _)) (I.hok.fresh (Nat.le_refl _)) (Nat.ne_of_lt (Nat.lt_succ_self _))
  have Im := Inv.made (C := C) I
  have rv2 : Vals (V.ref x :: vs) (Value.ref x :: us) := .cons rfl rv
  have ln : (Value.ref x :: us).length = ps.length := by
    have e := rv2.length
    rw [Fi.len _ _ _ _ tq] at e
    exact e.symm
  have b2 := bi _ (Value.ref x :: us) Im.kIn (by rw [List.append_nil]; exact ln)
  rw [List.append_nil] at b2
  refine wpAny_call (make_map (f := f) I.kIn Mm.makes Mm.init (beq_iff_eq.mp Mm.fn) (codeAny_mono (Fi.run _ X.stack _ _ ⟨Value.ref x :: us, []⟩ (Value.ref x :: us) _ _ E (room.make C us []) (Im.env0.make C us []) b2 rv2 tq) fun res s' back => ?_))
  cases res with
  | error e => exact pa pins _ _ e s' Im back
  | ok fl =>
    cases fl with
    | ret u =>
      obtain ⟨v, H', In, ru, ev, q3⟩ := Im.after back
      subst ev
      exact ⟨ru, ⟨V.ref x, H', In, rfl, q3⟩⟩
    | _ => all_goals exact False.elim back
section
variable {G : GE} {k : Nat} {call : Call} {cc : CC} {W : WX} {X : Cx}
def mNew (c : Str) (r : As) : E := fun call s => (r call s).bind fun ds s1 => match call (mkey c "__init__") (.loc s1.h.length :: ds) (s1.h ++ [.ins c [] []]) with
  | .ok (.fz .non) h => .ok (.own (.fz (.loc s1.h.length))) ⟨s1.σ, h⟩
  | .exc c' d h => .exc c' d ⟨s1.σ, h⟩
  | _ => .bad
/-- a new instance at x, its dict at dx: a new cell -/
theorem Cf.newIns {H : Hp} {h : List O} {L : List (O × V)} {c : Str} {C x dx : Addr} (cf : Cf G H h L) (hC : G.cls c = some C) (hx : H x = none) (hd : H dx = none) (hne : dx ≠ x) :
    Cf G (upd (upd H dx (.own x)) x (.ins C dx [])) (h ++ [.ins c [] []]) ((.fz (.loc h.length), .ref x) :: L) := by
  have c1 : Cf G (upd H dx (.own x)) h (Fz [] [] ++ L) := cf.alloc hd
  have c2 := c1.newOwn (p := x) (ho := .ins C dx []) (o := .ins c [] []) rfl (by rw [upd_ne (Ne.symm hne)]; exact hx) fun ρ M H' e r => ⟨x, C, dx, [], rfl, hC, e, rfl, rfl, rfl⟩
  exact c2.newCell fun d => by simp
theorem e_new (g : Good G k call cc W X) {c : Str} {e : Expr} {es : List Expr} {r : As} {p pos : Pos} (hc : c ∈ cc.news) (hg : cc.sc.names.lookup c = some .globalImplicit) (h : PA X (e :: es) (tL G W call r)) (hn : (e :: es).all notStar = true) (hd : (c == ("__debug__" : Str)) = false) :
    PE X (.Call (.Name c p) (e :: es) [] pos) (tE G W call (mNew c r)) := by
  obtain ⟨C, a, fd, ps, hC, M, hb, F, hbad⟩ := g.news c hc
  obtain ⟨hcls, hmg⟩ := g.cls c C hC
  simp only [List.all_cons, Bool.and_eq_true] at hn
  refine ⟨fun pins s σ H Q I q => ?_⟩
  obtain ⟨st, Φ, cf, q⟩ := q
  refine wpAny_Call_Name_kw (ld_glob I (g.gl hg) hmg ?_ hd)
  have ev : tL G W call r σ H (fun vs H1 => ∀ x dx, H1 x = none → H1 dx = none → dx ≠ x → spC G call (mkey c "__init__") ps.length (.ref x :: vs) (upd (upd H1 dx (.own x)) x (.ins C dx [])) (fun v H2 => v = .non ∧ Q (.ref x) H2) (WE W σ)) := by
    refine ⟨st, Φ, cf, (Aft.bind q).mono fun ds s1 a1 => fun vs H1 l c1 => fun x dx hx hdx hne => ?_⟩
    have hlen : (D.loc s1.h.length :: ds).length = ps.length := by
      by_cases hl : (D.loc s1.h.length :: ds).length = ps.length
      · exact hl
      · rw [hbad _ _ hl] at a1; exact a1.elim
    have q1 : Cf G H1 s1.h (Fz ds vs ++ (slp s1.σ σ ++ ow Φ)) := by
      have := c1.cf
      rw [ow_append, ow_fz] at this
      refine this.perm ?_
      rw [← List.append_assoc, ← List.append_assoc]
      exact List.perm_append_comm.append_right _
    have q2 := (q1.newIns hC hx hdx hne).dup
    refine ⟨by simp only [List.length_cons] at hlen ⊢; rw [← l]; exact hlen, s1.h ++ [.ins c [] []], (.fz (.loc s1.h.length), .ref x) :: (slp s1.σ σ ++ ow Φ), .loc s1.h.length :: ds, by simp [l], ?_, ?_⟩
    · show Cf G _ _ ((.fz (.loc s1.h.length), .ref x) :: (Fz ds vs ++ (.fz (.loc s1.h.length), .ref x) :: (slp s1.σ σ ++ ow Φ)))
      refine q2.perm (.cons _ ?_)
      exact List.perm_middle.symm
    · cases ec : call (mkey c "__init__") (.loc s1.h.length :: ds) (s1.h ++ [.ins c [] []]) with
      | ok o h' =>
        rw [ec] at a1
        cases o with
        | fz d =>
          cases d with
          | non =>
            intro v H2 z
            refine ⟨z.non, a1 _ H2 ⟨c1.sl, fun i w hw => ?_, ?_⟩⟩
            · rcases List.mem_cons.mp hw with hw | hw
              · cases hw
              · exact c1.bo i w (List.mem_append_right _ hw)
            · exact z.drop.perm List.perm_middle.symm
          | _ => all_goals exact a1.elim
        | _ => all_goals exact a1.elim
      | exc cn d h' =>
        rw [ec] at a1
        intro C' fl b v H2 e1 e2 z
        refine a1 _ _ H2 ⟨C', fl, b, v, rfl, e1, rfl, e2, c1.sl, fun i w hw => ?_, ?_⟩
        · rcases List.mem_cons.mp hw with hw | hw
          · cases hw
          · exact c1.bo i w (List.mem_append_right _ hw)
        · exact z.swap.drop.perm List.perm_middle.symm
      | bad => rw [ec] at a1; exact a1.elim
  refine PySem.W.callWith_K (h₀ := X.base) I.ok.mod.kin M.kp (thn (h.run pos pins s σ H _ I ev) fun us s1 ⟨vs, H1, I1, rv, told⟩ => ⟨I1.kIn, ?_⟩) (star_cons hn.1) (star_any hn.2)
  exact run_mk M F (g.room.mono (by omega)) hb (passAt g.tk σ) I1 rv told
/-! ### x.f = e -/
def putL (f : Str) (d : D) (fs : List Str) (xs : List D) : List Str × List D := if f ∈ fs then (fs, xs.set (fs.findIdx fun g => decide (g = f)) d) else (fs ++ [f], xs ++ [d])
theorem putF_in {α : Type} {f : Str} {v : V} : ∀ {fs : List Str} {vs : List V}, fs.length = vs.length → f ∈ fs → putF f v (fs.zip vs) = fs.zip (vs.set (fs.findIdx fun g => decide (g = f)) v)
  | [], _, _, h => by simp at h
  | _ :: _, [], l, _ => by simp at l
  | g :: fs, w :: vs, l, h => by
    by_cases e : g = f
    · subst e
      simp [putF, List.findIdx_cons]
    · have hm : f ∈ fs := by
        rcases List.mem_cons.mp h with z | z
        · exact absurd z.symm e
        · exact z
      simp only [List.zip_cons_cons, putF, if_neg e, List.findIdx_cons, decide_eq_false e, cond_false, List.set_cons_succ]
      rw [putF_in (α := α) (by simpa using l) hm]
theorem putF_out {f : Str} {v : V} : ∀ {fs : List Str} {vs : List V}, fs.length = vs.length → f ∉ fs → putF f v (fs.zip vs) = (fs ++ [f]).zip (vs ++ [v])
  | [], [], _, _ => rfl
  | [], _ :: _, l, _ => by simp at l
  | _ :: _, [], l, _ => by simp at l
  | g :: fs, w :: vs, l, h => by
    have e : ¬ g = f := fun z => h (by simp [z])
    simp only [List.zip_cons_cons, putF, if_neg e, List.cons_append]
    rw [putF_out (by simpa using l) fun z => h (by simp [z])]
def setFld (fl : List (Str × Str)) (h : List O) (f : Str) (d : D) : D → Option (List O)
  | .loc n => match h[n]? with
    | some (.ins c fs xs) => if (c, f) ∈ fl ∧ fs.length < 900 then some (h.set n (.ins c (putL f d fs xs).1 (putL f d fs xs).2)) else none
    | _ => none
  | _ => none
def cFld (fl : List (Str × Str)) (me mx : E) (f : Str) : C := fun call s => (me call s).flow fun y s1 => match take s1 y with
  | none => .bad
  | some (d, s2) => (mx call s2).flow fun x s3 => match take s3 x with
    | none => .bad
    | some (dx, s4) => (match setFld fl s4.h f d dx with
      | some h => .nx ⟨s4.σ, h⟩
      | none => .bad)
theorem Cf.cellIns {H : Hp} {h : List O} {L : List (O × V)} {n : Nat} {v : V} {c : Str} {fs : List Str} {ds : List D} (cf : Cf G H h ((.fz (.loc n), v) :: L)) (hn : h[n]? = some (.ins c fs ds)) :
    ∃ a C dx vs, v = .ref a ∧ G.cls c = some C ∧ H a = some (.ins C dx (fs.zip vs)) ∧ fs.length = vs.length ∧ ds.length = vs.length ∧ Cf G H h (Fz ds vs ++ (.fz (.loc n), v) :: L) := by
  obtain ⟨a, e, ρ, M, A, hr, cp, a', C, dx, vs, e', hC, t, l, r, f⟩ := cf.cell hn
  cases e'
  refine ⟨a, C, dx, vs, e, hC, t, l, r.length, ?_⟩
  have := (Cf.fz (L := L) (ds := ds ++ [.loc n]) (vs := vs ++ [v]) (by simp [r.length])).mpr ⟨ρ, M, cp, r.append (.one (d := .loc n) ⟨a, e, hr⟩)⟩
  rw [Fz, List.zipWith_append r.length, List.append_assoc] at this
  exact this
theorem s_fld (g : Good G k call cc W X) {o e : Expr} {f : Str} {me mx : E} {p pos : Pos} (he : PE X e (tE G W call me)) (ho : PE X o (tE G W call mx)) (hs : swapsWith e (some (.Attribute o f p)) pos.line X.env = pure false) :
    PS X (.Assign [.Attribute o f p] e pos) (tS G W call (cFld cc.flds me mx f)) := by
  refine (ps_fld ho he hs).of fun En σ H q => ?_
  obtain ⟨s, Φ, nb, c, q⟩ := q
  refine ⟨s, Φ, c, (AftS.flow q).mono fun y s1 a1 => fun yv H1 c1 => ?_⟩
  split at a1
  · exact a1.elim
  · rename_i d s2 et
    have c2 := c1.take et
    refine ⟨s2, _, c2, ((AftS.flow a1).frame1).mono fun x s3 a3 => fun xv H2 c3 => ?_⟩
    split at a3
    · exact a3.elim
    · rename_i dx s4 et2
      have c4 := c3.take et2
      split at a3
      · rename_i h' es
        unfold setFld at es
        split at es
        · rename_i n
          split at es
          · rename_i cn fs xs hn
            split at es
            · rename_i hin
              cases es
              have cf : Cf G H2 s4.h ((.fz (.loc n), xv) :: (.fz d, yv) :: (slp s4.σ σ ++ ow Φ)) := c4.cf.perm (by
                show (slp s4.σ σ ++ (O.fz (.loc n), xv) :: (O.fz d, yv) :: ow Φ).Perm _
                refine List.perm_middle.trans (.cons _ List.perm_middle))
              obtain ⟨a, C, dd, vs, ex, hC, hH, l1, l2, cf2⟩ := cf.cellIns hn
              subst ex
              have key : Cf G H2 s4.h (Fz (xs ++ [d]) (vs ++ [yv]) ++ (.fz (.loc n), .ref a) :: (slp s4.σ σ ++ ow Φ)) := by
                rw [Fz_append l2, List.append_assoc]
                refine cf2.perm (List.Perm.append_left _ ?_)
                show ((O.fz (.loc n), V.ref a) :: (O.fz d, yv) :: _).Perm ((O.fz d, yv) :: (O.fz (.loc n), V.ref a) :: _)
                exact .swap _ _ _
              have fin : Cf G (upd H2 a (.ins C dd (putF f yv (fs.zip vs)))) (s4.h.set n (.ins cn (putL f d fs xs).1 (putL f d fs xs).2)) ((.fz (.loc n), .ref a) :: (slp s4.σ σ ++ ow Φ)) := by
                refine Cf.putCell (by simp [l2]) key hn (fun d => by simp) fun ρ M H' e r => ?_
                have r0 : RepDs G ρ H' M xs vs := by
                  have := RepDs.take xs.length r
                  rw [List.take_left, l2, List.take_left] at this
                  exact this
                have r1 : RepD G ρ H' M d yv := by
                  have := RepDs.drop xs.length r
                  rw [List.drop_left, l2, List.drop_left] at this
                  obtain ⟨v', r', e', q1, _⟩ := this
                  cases e'
                  exact q1
                by_cases hf : f ∈ fs
                · refine ⟨a, C, dd, vs.set (fs.findIdx fun g => decide (g = f)) yv, rfl, hC, ?_, ?_, ?_, rfl⟩
                  · rw [e, putF_in (α := Nat) l1 hf]; simp [putL, hf]
                  · simp [putL, hf, l1]
                  · simp only [putL, hf, if_true]; exact r0.set _ r1
                · refine ⟨a, C, dd, vs ++ [yv], rfl, hC, ?_, ?_, ?_, rfl⟩
                  · rw [e, putF_out l1 hf]; simp [putL, hf]
                  · simp [putL, hf, l1]
                  · simp only [putL, hf, if_false]; exact r0.append (.one r1)
              refine ⟨a, C, dd, fs.zip vs, rfl, hH, (g.cls cn C hC).1, g.fld cn C f hC hin.1, by rw [List.length_zip]; omega, ?_⟩
              refine a3 σ _ ⟨c4.sl, fun i w hw => absurd hw (nb i w), fin.drop⟩
            · cases es
          · cases es
        · cases es
      · exact a3.elim
/-! ### o.m(..) -/
def resOut (σ : List (Option O)) : Res → Out R
  | .ok o h => .ok (.own o) ⟨σ, h⟩
  | .exc c d h => .exc c d ⟨σ, h⟩
  | .bad => .bad
def mMeth (ml : List (Str × Str)) (m : Str) (mx : E) (r : As) : E := fun call s => (mx call s).bind fun x s1 => match take s1 x with
  | none => .bad
  | some (d, s2) => match deref s2.h d with
    | some (.ins c fs _) => if (c, m) ∈ ml ∧ (fs.all fun g => !decide (g = m)) = true then (r call s2).bind fun ds s3 => resOut s3.σ (call (mkey c m) (d :: ds) s3.h) else .bad
    | _ => .bad
theorem lookup_no {m : Str} : ∀ {fs : List Str} {vs : List V}, (fs.all fun g => !decide (g = m)) = true → (fs.zip vs).lookup m = none
  | [], _, _ => rfl
  | _ :: _, [], _ => rfl
  | g :: fs, v :: vs, h => by
    simp only [List.all_cons, Bool.and_eq_true, Bool.not_eq_true', decide_eq_false_iff_not] at h
    have : (m == g) = false := by simpa using fun z : m = g => h.1 z.symm
    simp only [List.zip_cons_cons, List.lookup_cons, this]
    exact lookup_no (by simpa using h.2)
theorem e_meth (g : Good G k call cc W X) {o : Expr} {m : Str} {es : List Expr} {mx : E} {r : As} {apos pos : Pos} (ho : PE X o (tE G W call mx)) (h : PA X es (tL G W call r)) (hn : es.all notStar = true) (hfew : fewB es.length = true) (hp : plainO o = true) (hl : (apos.endLine == pos.line) = true) (h0 : es = [] → r = aNil) :
    PE X (.Call (.Attribute o m apos) es [] pos) (tE G W call (mMeth cc.mths m mx r)) := by
  obtain ⟨pl, hpl⟩ := meth_eval (o := o) (name := m) (apos := apos) (pos := pos) (args := es) (env := X.env) (base_ok hp) (few_ok hn hfew) hl
  refine ⟨fun pins s σ H Q I q => ?_⟩
  obtain ⟨st, Φ, cf, q⟩ := q
  let Q1 : V → Hp → Prop := fun x H1 => ∃ (c : Str) (C dd : Addr) (fs : List Str) (vs : List V), x = .ref dd ∧ (c, m) ∈ cc.mths ∧ G.cls c = some C ∧ (∃ dx, H1 dd = some (.ins C dx (fs.zip vs))) ∧ (fs.zip vs).lookup m = none ∧ tL G W call r σ H1 fun ws H2 => spC G call (mkey c m) (ws.length + 1) (x :: ws) H2 Q (WE W σ)
  have ev : tE G W call mx σ H Q1 := by
    refine ⟨st, Φ, cf, (Aft.bind q).mono fun x s1 a1 => fun xv H1 c1 => ?_⟩
    split at a1
    · exact a1.elim
    · rename_i d s2 et
      have c2 := c1.take et
      split at a1
      · rename_i c fs ds hd
        split at a1
        · rename_i hin
          obtain ⟨ρ, M, cp⟩ := c2.parts
          have t := c2.peek (r := .own (.fz d)) (v := xv) (by simp) (show peek s2 (.own (.fz d)) = some (.ins c fs ds) from hd) cp
          obtain ⟨a, C, dx, vs, ex, hC, hH, l1, rd⟩ := t
          subst ex
          have ln := lookup_no (vs := vs) hin.2
          refine ⟨c, C, a, fs, vs, rfl, hin.1, hC, ⟨dx, hH⟩, ln, s2, _, c2, ((Aft.bind a1).frame1).mono fun es3 s3 a3 => fun ws H3 l3 c3 => ?_⟩
          have c4 : CfS G σ H3 s3 (FzR (d :: es3) (.ref a :: ws) ++ Φ) := c3.perm (by
            show (FzR es3 ws ++ (R.own (.fz d), V.ref a) :: Φ).Perm ((R.own (.fz d), V.ref a) :: (FzR es3 ws ++ Φ))
            exact List.perm_middle)
          refine call_of (G := G) (call := call) (f := mkey c m) (n := ws.length + 1) (by simp) (by simp [l3]) c4 ?_
          cases hc : call (mkey c m) (d :: es3) s3.h with
          | ok o h' => simp only [hc, resOut] at a3; exact a3
          | exc cn d' h' => simp only [hc, resOut] at a3; exact a3
          | bad => simp only [hc, resOut] at a3; exact a3
        · exact a1.elim
      · exact a1.elim
  refine PySem.W.methodCall_KW (pl := pl) (thn (ho.run pins s σ H _ I ev) fun u s1 ⟨x, H1, I1, rx, c, C, dd, fs, vs, ex, hin, hC, ⟨dx, hH⟩, ln, tl⟩ => ?_) hpl
  subst ex
  obtain rfl : u = Value.ref dd := rx
  obtain ⟨C2, a, fd, ps, hC2, hM, hb, F, hbad⟩ := g.mths c m hin
  rw [hC] at hC2
  cases hC2
  refine getmeth_ok I1 hH (g.cls c C hC).1 hM ln ?_
  have conv : ∀ ws H2, spC G call (mkey c m) (ws.length + 1) (.ref dd :: ws) H2 Q (WE W σ) → spC G call (mkey c m) ps.length (.ref dd :: ws) H2 Q (WE W σ) := by
    rintro ws H2 ⟨e1, h0, Φ0, ds, l0, cf0, af⟩
    refine ⟨?_, h0, Φ0, ds, l0, cf0, af⟩
    by_cases hl : ds.length = ps.length
    · rw [← l0]; exact hl
    · rw [hbad _ _ hl] at af; exact af.elim
  cases es with
  | nil =>
    obtain ⟨s9, Φ9, c9, q9⟩ := tl
    rw [h0 rfl] at q9
    exact PySem.W.callWith_K0 (first := [.ref dd]) I1.kIn hM.kp (run_fnS (us := [.ref dd]) (vs := [.ref dd]) (E := WE W) F (g.room.mono (by omega)) hb (passAt g.tk σ) I1 (.cons rfl .nil) (conv [] H1 (q9 [] H1 rfl c9)))
  | cons e es =>
    simp only [List.all_cons, Bool.and_eq_true] at hn
    refine PySem.W.callWith_K (first := [.ref dd]) (h₀ := X.base) I.ok.mod.kin hM.kp (thn (h.run pos pins s1 σ H1 _ I1 tl) fun us s2 ⟨ws, H2, I2, rv, sp2⟩ => ⟨I2.kIn, ?_⟩) (star_cons hn.1) (star_any hn.2)
    exact run_fnS (us := .ref dd :: us) (vs := .ref dd :: ws) (E := WE W) F (g.room.mono (by omega)) hb (passAt g.tk σ) I2 (.cons rfl rv) (conv ws H2 sp2)
end
end Mi

set_option Elab.async false
set_option linter.all false
set_option maxRecDepth 100000
set_option maxHeartbeats 4000000
/-! Mi, part Zd: dicts whose keys are ints and texts. -/
namespace Mi
open PySem PySem.Spec PyProof.Rows L2
def keyD : D → Option Key
  | .int i => some (.inl i)
  | .str x => some (.inr x)
  | _ => none
def kD : Key → D
  | .inl i => .int i
  | .inr x => .str x
/-- what stands at a key -/
def valD (ks : List Key) (xs : List D) (k : Key) : Option D := ((ks.zip xs).find? fun p => decide (p.1 = k)).map (·.2)
/-- a key's value put -/
def putD (ks : List Key) (xs : List D) (k : Key) (d : D) : List Key × List D := if (ks.any fun g => decide (g = k)) = true then (ks, List.zipWith (fun g x => if g = k then d else x) ks xs) else (ks ++ [k], xs ++ [d])
def mergeD (kds : List (Key × D)) (acc : List Key × List D) : List Key × List D := kds.foldl (fun a p => putD a.1 a.2 p.1 p.2) acc
section
variable {G : GE} {ρ : List Addr} {H : Hp} {M : List Addr}
theorem key_of' {d : D} {v : V} {k : Key} (r : RepT G ρ H M d v) (e : keyD d = some k) : v = kV k := by
  cases d <;> first | (cases e; exact r) | cases e
theorem val_of : ∀ {ks : List Key} {xs : List D} {vs : List V} {k : Key}, ks.length = vs.length → RepDs G ρ H M xs vs → (∀ d, valD ks xs k = some d → ∃ v, valV (ks.zip vs) k = some v ∧ RepD G ρ H M d v) ∧ (valD ks xs k = none → valV (ks.zip vs) k = none)
  | [], xs, vs, k, l, r => ⟨fun d e => by simp [valD] at e, fun _ => rfl⟩
  | g :: ks, xs, vs, k, l, r => by
    cases vs with
    | nil => simp at l
    | cons w vs =>
      cases xs with
      | nil => cases r
      | cons x xs =>
        obtain ⟨v, us, e, r1, r2⟩ := r
        cases e
        have ih := val_of (ks := ks) (xs := xs) (vs := vs) (k := k) (by simpa using l) r2
        by_cases hg : g = k
        · subst hg
          refine ⟨fun d e => ?_, fun e => ?_⟩
          · simp only [valD, List.zip_cons_cons, List.find?_cons, decide_true, Option.map_some, Option.some.injEq] at e
            subst e
            exact ⟨w, by simp [valV, List.find?_cons], r1⟩
          · simp [valD, List.find?_cons] at e
        · have h1 : valD (g :: ks) (x :: xs) k = valD ks xs k := by simp [valD, List.find?_cons, hg]
          have h2 : valV ((g :: ks).zip (w :: vs)) k = valV (ks.zip vs) k := by simp [valV, List.find?_cons, hg]
          rw [h1, h2]
          exact ih
theorem put_of : ∀ {ks : List Key} {xs : List D} {vs : List V} {k : Key} {d : D} {v : V}, ks.length = vs.length → RepDs G ρ H M xs vs → RepD G ρ H M d v →
    ∃ vs', putK (ks.zip vs) k v = (putD ks xs k d).1.zip vs' ∧ (putD ks xs k d).1.length = vs'.length ∧ RepDs G ρ H M (putD ks xs k d).2 vs' := by
  intro ks xs vs k d v l r rd
  have hany : ((ks.zip vs).any fun kv => decide (kv.1 = k)) = (ks.any fun g => decide (g = k)) := by
    clear r
    induction ks generalizing vs with
    | nil => rfl
    | cons g ks ih =>
      cases vs with
      | nil => simp at l
      | cons w vs => simp only [List.zip_cons_cons, List.any_cons, ih (by simpa using l)]
  by_cases hk : (ks.any fun g => decide (g = k)) = true
  · refine ⟨List.zipWith (fun g w => if g = k then v else w) ks vs, ?_, ?_, ?_⟩
    · simp only [putK, hany, hk, if_true, putD]
      clear r hany hk
      induction ks generalizing vs with
      | nil => rfl
      | cons g ks ih =>
        cases vs with
        | nil => simp at l
        | cons w vs =>
          simp only [List.zip_cons_cons, List.map_cons, List.zipWith_cons_cons]
          rw [ih (by simpa using l)]
          by_cases hg : g = k <;> simp [hg]
    · simp [putD, hk, l]
    · simp only [putD, hk, if_true]
      clear hany hk
      induction ks generalizing xs vs with
      | nil => rfl
      | cons g ks ih =>
        cases vs with
        | nil => simp at l
        | cons w vs =>
          cases xs with
          | nil => cases r
          | cons x xs =>
            obtain ⟨v', us, e, r1, r2⟩ := r
            cases e
            refine ⟨if g = k then v else w, List.zipWith (fun g w => if g = k then v else w) ks vs, rfl, ?_, ih (by simpa using l) r2⟩
            by_cases hg : g = k
            · simp only [hg, if_true]; exact rd
            · simp only [hg, if_false]; exact r1
  · refine ⟨vs ++ [v], ?_, ?_, ?_⟩
    · simp only [putK, hany, hk, putD, if_false, Bool.false_eq_true]
      rw [List.zip_append l]; rfl
    · simp [putD, hk, l]
    · simp only [putD, hk, if_false]; exact r.append (.one rd)
theorem merge_of : ∀ {kds : List (Key × D)} {kvs : List (Key × V)} {ks : List Key} {xs : List D} {vs : List V}, ks.length = vs.length → RepDs G ρ H M xs vs → kds.map (·.1) = kvs.map (·.1) → RepDs G ρ H M (kds.map (·.2)) (kvs.map (·.2)) →
    ∃ vs', mergeK (ks.zip vs) kvs = (mergeD kds (ks, xs)).1.zip vs' ∧ (mergeD kds (ks, xs)).1.length = vs'.length ∧ RepDs G ρ H M (mergeD kds (ks, xs)).2 vs'
  | [], kvs, ks, xs, vs, l, r, e, _ => by
    have : kvs = [] := by simpa using e.symm
    subst this
    exact ⟨vs, rfl, l, r⟩
  | p :: kds, kvs, ks, xs, vs, l, r, e, rr => by
    cases kvs with
    | nil => simp at e
    | cons q kvs =>
      obtain ⟨v, us, eu, r1, r2⟩ := rr
      simp only [List.map_cons, List.cons.injEq] at e eu
      obtain ⟨e1, e2⟩ := e
      obtain ⟨rfl, rfl⟩ := eu
      obtain ⟨vs1, z1, z2, z3⟩ := put_of (k := p.1) (d := p.2) (v := q.2) l r r1
      obtain ⟨vs2, w1, w2, w3⟩ := merge_of (kds := kds) (kvs := kvs) z2 z3 e2 r2
      refine ⟨vs2, ?_, w2, w3⟩
      show mergeK (putK (ks.zip vs) q.1 q.2) kvs = _
      rw [← e1, z1]
      exact w1
end
section
variable {G : GE} {k : Nat} {call : Call} {cc : CC} {W : WX} {X : Cx}
/-! ### d[k], k in d, len(d) -/
def dAt (d i : D) : Option O := match d with
  | .dic ks xs => (keyD i).bind fun k => (valD ks xs k).map .fz
  | _ => none
theorem o_dat (hu : X.A.units + 1 < cLine) : IxR X (r2 G dAt) := by
  intro value slice pins s σ H x y v u Q I rx ry h hs
  obtain ⟨ρ, M, h0, L, d1, d2, o, cp, t1, t2, e, q⟩ := h
  unfold dAt at e
  split at e
  · rename_i ks xs
    simp only [Option.bind_eq_some_iff, Option.map_eq_some_iff] at e
    obtain ⟨kk, ek, d, ed, eo⟩ := e
    subst eo
    obtain ⟨a, vs, ex, hr, l, rd⟩ := t1
    subst ex
    obtain rfl : v = Value.ref a := rx
    obtain rfl := key_of' t2 ek
    obtain ⟨w, ew, rw'⟩ := (val_of l rd).1 d ed
    have dg : DGet H a (kV kk) (some w) := .inl ⟨ks.zip vs, kk, hr, rfl, ew.symm⟩
    have hT := dict_typeIs I dg
    unfold subscriptTail
    refine wpAny_bind ?_
    rw [getitemInPython_of_ne hT.not_modules]
    refine wpAny_bind (wpAny_specialOf hT PySem.F.slot_dict_getitem.lookup ?_)
    have go : wpAny (model X.prog X.w) X.A (subscripted slice false (.ref a) u) (fun r s3 => wpAny (model X.prog X.w) X.A (letTemporaryGo value (.ref a) r >>= fun _ => pure r) (EP X pins σ Q) X.xe s3) X.xe s := by
      rw [hs]
      exact wpAny_operating (wpAny_mono (d_getItem hu I dg ry fun w' s3 I3 r3 => (show EP X pins σ Q w' s3 from ⟨w, H, I3, r3, q w H (Cf.fz1.mpr ⟨ρ, M, cp, rw'⟩)⟩)) (fun r s3 h3 => wpAny_bind (wpAny_letTemporaryGo (wpAny_pure h3))) fun _ _ x => x)
    first
      | exact wpAny_pure (wpAny_bind go)
      | exact wpAny_bind (wpAny_pure (wpAny_bind go))
      | exact wpAny_bind go
  · cases e
def dIn (i d : D) : Option O := match d with
  | .dic ks xs => (keyD i).map fun k => .fz (.bl (valD ks xs k).isSome)
  | _ => none
def dNotIn (i d : D) : Option O := match d with
  | .dic ks xs => (keyD i).map fun k => .fz (.bl (!(valD ks xs k).isSome))
  | _ => none
theorem val_some {ρ : List Addr} {H : Hp} {M : List Addr} {ks : List Key} {xs : List D} {vs : List V} {kk : Key} (l : ks.length = vs.length) (rd : RepDs G ρ H M xs vs) : (valV (ks.zip vs) kk).isSome = (valD ks xs kk).isSome := by
  cases ed : valD ks xs kk with
  | none => rw [(val_of l rd).2 ed]; rfl
  | some d => obtain ⟨w, ew, _⟩ := (val_of l rd).1 d ed; rw [ew]; rfl
theorem o_din (hu : X.A.units + 1 < cLine) : OpR X (compareOp .In) (r2 G dIn) := by
  intro pins s σ H x y v u Q I rx ry h
  obtain ⟨ρ, M, h0, L, d1, d2, o, cp, t1, t2, e, q⟩ := h
  unfold dIn at e
  split at e
  · rename_i ks xs
    simp only [Option.map_eq_some_iff] at e
    obtain ⟨kk, ek, eo⟩ := e
    subst eo
    obtain ⟨a, vs, ex, hr, l, rd⟩ := t2
    subst ex
    obtain rfl : u = Value.ref a := ry
    obtain rfl := key_of' t1 ek
    refine d_in hu I (.inl ⟨ks.zip vs, kk, hr, rfl, rfl⟩) rx fun s3 I3 => ⟨.bl (valV (ks.zip vs) kk).isSome, H, I3, rfl, ?_⟩
    rw [val_some l rd]
    exact q _ H (cp.bl _)
  · cases e
theorem o_dnotin (hu : X.A.units + 1 < cLine) : OpR X (compareOp .NotIn) (r2 G dNotIn) := by
  intro pins s σ H x y v u Q I rx ry h
  obtain ⟨ρ, M, h0, L, d1, d2, o, cp, t1, t2, e, q⟩ := h
  unfold dNotIn at e
  split at e
  · rename_i ks xs
    simp only [Option.map_eq_some_iff] at e
    obtain ⟨kk, ek, eo⟩ := e
    subst eo
    obtain ⟨a, vs, ex, hr, l, rd⟩ := t2
    subst ex
    obtain rfl : u = Value.ref a := ry
    obtain rfl := key_of' t1 ek
    refine d_notIn hu I (.inl ⟨ks.zip vs, kk, hr, rfl, rfl⟩) rx fun s3 I3 => ⟨.bl (!(valV (ks.zip vs) kk).isSome), H, I3, rfl, ?_⟩
    rw [val_some l rd]
    exact q _ H (cp.bl _)
  · cases e
def dLen : List D → Option O
  | [.dic ks _] => fI ks.length
  | _ => none
theorem b_dlen : CallR X (.builtin "len") (rN G dLen) := by
  intro pins s σ H xs us Q I r h
  obtain ⟨ρ, M, h0, L, ds, o, cp, t, e, q⟩ := h
  unfold dLen at e
  split at e
  · rename_i ks xs'
    cases e
    obtain ⟨v, ev, t⟩ := t.one
    obtain ⟨a, vs, ex, hr, l, rd⟩ := t
    subst ex
    subst ev
    obtain ⟨u, rfl, ru⟩ := vals1 r
    cases ru
    refine d_len I hr fun t s' I' => ⟨.int (ks.zip vs).length, H, I', ⟨t, rfl⟩, ?_⟩
    have : (ks.zip vs).length = ks.length := by rw [List.length_zip]; omega
    rw [this]
    exact q _ H (cp.int _)
  · cases e
end
end Mi

set_option Elab.async false
set_option linter.all false
set_option maxRecDepth 100000
set_option maxHeartbeats 4000000
/-! Mi, part Ze: dicts stored into, displayed, walked over. -/
namespace Mi
open PySem PySem.Spec PyProof.Rows L2
section
variable {G : GE} {k : Nat} {call : Call} {cc : CC} {W : WX} {X : Cx}
/-! ### d[k] = v -/
def mutKD (h : List O) (kk : Key) (d : D) : D → Option (List O)
  | .loc n => match h[n]? with
    | some (.dic ks xs) => if fitsB ks.length then some (h.set n (.dic (putD ks xs kk d).1 (putD ks xs kk d).2)) else none
    | _ => none
  | _ => none
def mutK (s : S) (kk : Key) (d : D) : R → Option S
  | .own (.fz dd) => (mutKD s.h kk d dd).map fun h => ⟨s.σ, h⟩
  | .own _ => none
  | .bor i => match s.σ[i]? with
    | some (some (.dic ks xs)) => if fitsB ks.length then some ⟨s.σ.set i (some (.dic (putD ks xs kk d).1 (putD ks xs kk d).2)), s.h⟩ else none
    | some (some (.fz dd)) => (mutKD s.h kk d dd).map fun h => ⟨s.σ, h⟩
    | _ => none
theorem Cf.cellDic {H : Hp} {h : List O} {L : List (O × V)} {n : Nat} {v : V} {ks : List Key} {ds : List D} (cf : Cf G H h ((.fz (.loc n), v) :: L)) (hn : h[n]? = some (.dic ks ds)) :
    ∃ a vs, v = .ref a ∧ H a = some (.dK (ks.zip vs)) ∧ ks.length = vs.length ∧ ds.length = vs.length ∧ Cf G H h (Fz ds vs ++ (.fz (.loc n), v) :: L) := by
  obtain ⟨a, e, ρ, M, A, hr, cp, a', vs, e', t, l, r, f⟩ := cf.cell hn
  cases e'
  refine ⟨a, vs, e, t, l, r.length, ?_⟩
  have := (Cf.fz (L := L) (ds := ds ++ [.loc n]) (vs := vs ++ [v]) (by simp [r.length])).mpr ⟨ρ, M, cp, r.append (.one (d := .loc n) ⟨a, e, hr⟩)⟩
  rw [Fz, List.zipWith_append r.length, List.append_assoc] at this
  exact this
theorem Cf.dicO {H : Hp} {h : List O} {L : List (O × V)} {v : V} {ks : List Key} {ds : List D} (cf : Cf G H h ((.dic ks ds, v) :: L)) : ∃ a vs, v = .ref a ∧ H a = some (.dK (ks.zip vs)) ∧ ks.length = vs.length ∧ ds.length = vs.length ∧ Cf G H h ((.dic ks ds, v) :: (Fz ds vs ++ L)) := by
  obtain ⟨ρ, M, l, ow, n⟩ := cf
  obtain ⟨A, B, o1, o2, pm⟩ := ow.ahead
  obtain ⟨a, vs, e, t, lk, r, f⟩ := o1
  refine ⟨a, vs, e, t, lk, r.length, ?_⟩
  have c2 : Cf G H h (Fz ds vs ++ (.dic ks ds, v) :: L) := (Cf.fz r.length).mpr ⟨ρ, M, ⟨l, ow, n⟩, r⟩
  exact c2.perm List.perm_middle
/-- the parts of what is put together -/
theorem reps_split {ρ : List Addr} {H : Hp} {M : List Addr} {xs : List D} {vs : List V} {d : D} {v : V} (l : xs.length = vs.length) (r : RepDs G ρ H M (xs ++ [d]) (vs ++ [v])) : RepDs G ρ H M xs vs ∧ RepD G ρ H M d v := by
  have r0 := RepDs.take xs.length r
  rw [List.take_left, l, List.take_left] at r0
  have r1 := RepDs.drop xs.length r
  rw [List.drop_left, l, List.drop_left] at r1
  obtain ⟨v', r', e', q1, _⟩ := r1
  cases e'
  exact ⟨r0, q1⟩
theorem CfS.mutateK {σr : Sr} {H : Hp} {s s' : S} {Φ : List (R × V)} {kk : Key} {r : R} {v : V} {d : D} {yv : V} (c : CfS G σr H s ((r, v) :: (.own (.fz d), yv) :: Φ)) (e : mutK s kk d r = some s') :
    ∃ p kvs, v = .ref p ∧ H p = some (.dK kvs) ∧ kvs.length < sizeLine ∧ CfS G σr (upd H p (.dK (putK kvs kk yv))) s' Φ := by
  have bo : ∀ i w, (R.bor i, w) ∈ Φ → σr[i]? = some (some w) := fun i w q => c.bo i w (List.mem_cons_of_mem _ (List.mem_cons_of_mem _ q))
  have szl : ∀ {ks : List Key} {vs : List V}, fitsB ks.length = true → (ks.zip vs).length < sizeLine := fun {ks vs} h => by
    have h1 := of_decide_eq_true h
    have h2 : (100001 : Nat) ≤ sizeLine := by rw [sizeLine_eq]; decide
    rw [List.length_zip]
    omega
  have cell : ∀ (dd : D) (h' : List O) (L : List (O × V)), Cf G H s.h ((.fz dd, v) :: (.fz d, yv) :: L) → mutKD s.h kk d dd = some h' → ∃ p kvs, v = .ref p ∧ H p = some (.dK kvs) ∧ kvs.length < sizeLine ∧ Cf G (upd H p (.dK (putK kvs kk yv))) h' ((.fz dd, v) :: L) := by
    intro dd h' L cf em
    unfold mutKD at em
    split at em
    · rename_i n
      split at em
      · rename_i ks xs hn
        split at em
        · rename_i hfit
          cases em
          obtain ⟨a, vs, ex, hH, l1, l2, cf2⟩ := cf.cellDic hn
          subst ex
          have key : Cf G H s.h (Fz (xs ++ [d]) (vs ++ [yv]) ++ (.fz (.loc n), .ref a) :: L) := by
            rw [Fz_append l2, List.append_assoc]
            exact cf2.perm (List.Perm.append_left _ (.swap _ _ _))
          refine ⟨a, ks.zip vs, rfl, hH, szl hfit, Cf.putCell (by simp [l2]) key hn (fun d => by simp) fun ρ M H' e r => ?_⟩
          obtain ⟨r0, r1⟩ := reps_split l2 r
          obtain ⟨vs', z1, z2, z3⟩ := put_of (k := kk) l1 r0 r1
          exact ⟨a, vs', rfl, by rw [e, z1], z2, z3, rfl⟩
        · cases em
      · cases em
    · cases em
  cases r with
  | own o =>
    cases o with
    | fz dd =>
      simp only [mutK, Option.map_eq_some_iff] at e
      obtain ⟨h', em, eh⟩ := e
      subst eh
      obtain ⟨p, kvs, ev, hH, hz, cf⟩ := cell dd h' (slp s.σ σr ++ ow Φ) (c.cf.perm (by
        show (slp s.σ σr ++ (O.fz dd, v) :: (O.fz d, yv) :: ow Φ).Perm _
        exact List.perm_middle.trans (.cons _ List.perm_middle))) em
      exact ⟨p, kvs, ev, hH, hz, c.sl, bo, cf.drop⟩
    | _ => all_goals cases e
  | bor i =>
    have ev : σr[i]? = some (some v) := c.bo i v (by simp)
    have cfY : Cf G H s.h (slp s.σ σr ++ (.fz d, yv) :: ow Φ) := c.cf
    simp only [mutK] at e
    split at e
    · rename_i ks xs es1
      split at e
      · rename_i hfit
        cases e
        obtain ⟨Xl, Yl, q1, q2⟩ := slp_at es1 ev
        rw [q1] at cfY
        have c1 : Cf G H s.h ((.dic ks xs, v) :: ((.fz d, yv) :: (Xl ++ Yl ++ ow Φ))) := cfY.perm (by
          rw [show Xl ++ (O.dic ks xs, v) :: Yl ++ (O.fz d, yv) :: ow Φ = Xl ++ (O.dic ks xs, v) :: (Yl ++ (O.fz d, yv) :: ow Φ) by simp]
          refine List.perm_middle.trans (.cons _ ?_)
          rw [← List.append_assoc]
          exact List.perm_middle)
        obtain ⟨a, vs, ex, hH, l1, l2, cf2⟩ := c1.dicO
        subst ex
        have key : Cf G H s.h ((.dic ks xs, .ref a) :: (Fz (xs ++ [d]) (vs ++ [yv]) ++ (Xl ++ Yl ++ ow Φ))) := by
          rw [Fz_append l2, List.append_assoc]
          exact cf2
        refine ⟨a, ks.zip vs, rfl, hH, szl hfit, ?_⟩
        have z3 := key.change (ho := .dK (putK (ks.zip vs) kk yv)) (o' := .dic (putD ks xs kk d).1 (putD ks xs kk d).2) (by simp [l2]) (fun _ h => by cases h) fun ρ M H' e r => by
          obtain ⟨r0, r1⟩ := reps_split l2 r
          obtain ⟨vs', z1, z2, z3⟩ := put_of (k := kk) l1 r0 r1
          exact ⟨a, vs', rfl, by rw [e, z1], z2, z3, rfl⟩
        refine ⟨⟨by simp [c.sl.len], fun j o' q => ?_⟩, bo, ?_⟩
        · by_cases hj : i = j
          · subst hj; exact ⟨_, ev⟩
          · exact c.sl.at_ j o' (by simpa [List.getElem?_set, hj] using q)
        · show Cf G _ s.h (slp (s.σ.set i (some _)) σr ++ ow Φ)
          rw [q2]
          refine z3.perm ?_
          rw [List.append_assoc, List.append_assoc]
          exact List.perm_middle.symm
      · cases e
    · rename_i dd es1
      simp only [Option.map_eq_some_iff] at e
      obtain ⟨h', em, eh⟩ := e
      subst eh
      obtain ⟨Xl, Yl, q1, q2⟩ := slp_at es1 ev
      rw [q1] at cfY
      obtain ⟨p, kvs, evv, hH, hz, cf⟩ := cell dd h' (Xl ++ Yl ++ ow Φ) (cfY.perm (by
        rw [show Xl ++ (O.fz dd, v) :: Yl ++ (O.fz d, yv) :: ow Φ = Xl ++ (O.fz dd, v) :: (Yl ++ (O.fz d, yv) :: ow Φ) by simp]
        refine List.perm_middle.trans (.cons _ ?_)
        rw [← List.append_assoc]
        exact List.perm_middle)) em
      refine ⟨p, kvs, evv, hH, hz, c.sl, bo, ?_⟩
      rw [q1]
      refine cf.perm ?_
      rw [List.append_assoc, List.append_assoc]
      exact List.perm_middle.symm
    · cases e
def cSetK (me mx mi : E) : C := fun call s => (me call s).flow fun y s1 => match take s1 y with
  | none => .bad
  | some (d, s2) => (mx call s2).flow fun x s3 => (mi call s3).flow fun i s4 => match (peek s4 i).bind keyD with
    | some kk => (match mutK s4 kk d x with
      | some s5 => .nx s5
      | none => .bad)
    | none => .bad
theorem s_setK (g : Good G k call cc W X) {e x i : Expr} {me mx mi : E} {p pos : Pos} (he : PE X e (tE G W call me)) (hx : PE X x (tE G W call mx)) (hi : PE X i (tE G W call mi)) (hn : noComp e = true) :
    PS X (.Assign [.Subscript x i p] e pos) (tS G W call (cSetK me mx mi)) := by
  refine (ps_dput (Nat.lt_of_le_of_lt (Nat.add_le_add_left (by decide) _) g.units) hx hi he (noComp_sw hn)).of fun En σ H q => ?_
  obtain ⟨s, Φ, nb, c, q⟩ := q
  refine ⟨s, Φ, c, (AftS.flow q).mono fun y s1 a1 => fun yv H1 c1 => ?_⟩
  split at a1
  · exact a1.elim
  · rename_i d s2 et
    have c2 := c1.take et
    refine ⟨s2, _, c2, ((AftS.flow a1).frame1).mono fun x s3 a3 => fun xv H2 c3 => ?_⟩
    refine ⟨s3, _, c3, ((AftS.flow a3).frame (K := [(x, xv), (.own (.fz d), yv)])).mono fun i s4 a4 => fun iv H3 c4 => ?_⟩
    split at a4
    · rename_i kk ek
      split at a4
      · rename_i s5 em
        simp only [Option.bind_eq_some_iff] at ek
        obtain ⟨di, e1, e2⟩ := ek
        obtain ⟨ρ, M, cp⟩ := c4.parts
        have hiv := key_of' (c4.peek (r := i) (v := iv) (by simp) e1 cp) e2
        obtain ⟨pp, kvs, ev, hH, hz, fin⟩ := CfS.mutateK c4.drop em
        subst ev
        subst hiv
        exact ⟨pp, _, rfl, .inl ⟨kvs, kk, hH, rfl, hz, rfl⟩, a4 σ _ fin⟩
      · exact a4.elim
    · exact a4.elim
/-- x[i] = e, x a list or a dict -/
def cSetX (me mx mi : E) : C := fun call s => match cSetL me mx mi call s with
  | .bad => cSetK me mx mi call s
  | y => y
theorem s_setX (g : Good G k call cc W X) {e x i : Expr} {me mx mi : E} {p pos : Pos} (he : PE X e (tE G W call me)) (hx : PE X x (tE G W call mx)) (hi : PE X i (tE G W call mi)) (hn : noComp e = true) (hs : notSlice i = true) :
    PS X (.Assign [.Subscript x i p] e pos) (tS G W call (cSetX me mx mi)) := by
  have h1 := s_setL g (p := p) (pos := pos) he hx hi hn hs
  have h2 := s_setK g (p := p) (pos := pos) he hx hi hn
  refine ⟨fun pins s σ H D I q => ?_⟩
  obtain ⟨st, Φ, nb, c, q⟩ := q
  unfold cSetX at q
  cases es : cSetL me mx mi call st with
  | bad => rw [es] at q; exact h2.run pins s σ H D I ⟨st, Φ, nb, c, q⟩
  | _ => all_goals (rw [es] at q; exact h1.run pins s σ H D I ⟨st, Φ, nb, c, by rw [es]; exact q⟩)
/-! ### displays -/
def mPairs : List (E × E) → Call → S → Out (List (Key × D))
  | [], _, s => .ok [] s
  | (mk, mv) :: r, call, s => (mk call s).bind fun x s1 => match (peek s1 x).bind keyD with
    | none => .bad
    | some kk => (mv call s1).bind fun y s2 => match take s2 y with
      | none => .bad
      | some (d, s3) => (mPairs r call s3).bind fun kds s4 => .ok ((kk, d) :: kds) s4
def mDisp (ps : List (E × E)) : E := fun call s => (mPairs ps call s).bind fun kds s1 => if kds.length ≤ 15 then .ok (.own (.dic (mergeD kds ([], [])).1 (mergeD kds ([], [])).2)) s1 else .bad
theorem pairs_ok : ∀ (ps : List (E × E)) {σ : Sr} {H : Hp} {s : S} {Ψ : List (R × V)} {Qp : List (V × V) → Hp → Prop}, CfS G σ H s Ψ →
    Aft G W σ Ψ (fun kds s1 => ∀ (kvs : List (Key × V)) H2, kds.map (·.1) = kvs.map (·.1) → CfS G σ H2 s1 (FzR (kds.map (·.2)) (kvs.map (·.2)) ++ Ψ) → Qp (kvs.map fun kv => (kV kv.1, kv.2)) H2) (mPairs ps call s) →
    tPairs (ps.map fun p => (tE G W call p.1, tE G W call p.2)) σ H Qp
  | [], σ, H, s, Ψ, Qp, c, a => a [] H rfl c
  | (mk, mv) :: r, σ, H, s, Ψ, Qp, c, a => by
    refine ⟨s, Ψ, c, (Aft.bind a).mono fun x s1 a1 => fun xv H1 c1 => ?_⟩
    split at a1
    · exact a1.elim
    · rename_i kk ek
      simp only [Option.bind_eq_some_iff] at ek
      obtain ⟨dk, e1, e2⟩ := ek
      obtain ⟨ρ, M, cp⟩ := c1.parts
      have hxv := key_of' (c1.peek (r := x) (v := xv) (by simp) e1 cp) e2
      subst hxv
      refine ⟨s1, Ψ, c1.drop, (Aft.bind a1).mono fun y s2 a2 => fun yv H2 c2 => ?_⟩
      split at a2
      · exact a2.elim
      · rename_i d s3 et
        have c3 := c2.take et
        refine pairs_ok r c3 (((Aft.bind a2).frame1).mono fun kds s4 a4 => fun kvs H4 ek c4 => ?_)
        refine a4 ((kk, yv) :: kvs) H4 (by simp [ek]) ?_
        exact c4.perm List.perm_middle
theorem pps_of {pos : Pos} : ∀ {keys : List Expr} {values : List Expr} {ps : List (E × E)}, keys.length = ps.length → values.length = ps.length → (∀ (i : Nat) e p, keys[i]? = some e → ps[i]? = some p → PE X e (tE G W call p.1)) →
    (∀ (i : Nat) e p, values[i]? = some e → ps[i]? = some p → PE X e (tE G W call p.2)) → PPs X pos (keys.map some) values (ps.map fun p => (tE G W call p.1, tE G W call p.2))
  | [], [], [], _, _, _, _ => pps_nil
  | e :: keys, v :: values, p :: ps, l1, l2, h1, h2 => pps_cons (h1 0 e p rfl rfl) (h2 0 v p rfl rfl) (pps_of (by simpa using l1) (by simpa using l2) (fun i e' p' a b => h1 (i + 1) e' p' (by simpa using a) (by simpa using b)) (fun i e' p' a b => h2 (i + 1) e' p' (by simpa using a) (by simpa using b)))
  | [], _ :: _, [], _, l, _, _ => by simp at l
  | _ :: _, _, [], l, _, _, _ => by simp at l
  | [], _, _ :: _, l, _, _, _ => by simp at l
  | _ :: _, [], _ :: _, _, l, _, _ => by simp at l
theorem e_disp {keys values : List Expr} {ps : List (E × E)} {pos : Pos} (h : PPs X pos (keys.map some) values (ps.map fun p => (tE G W call p.1, tE G W call p.2))) (hl : keys.length = values.length) (h0 : keys ≠ []) (h15 : keys.length ≤ 15) :
    PE X (.Dict (keys.map some) values pos) (tE G W call (mDisp ps)) := by
  refine (pe_disp h (by simp) (by simpa using hl) (by simpa using h0) (by simpa using h15)).of fun σ H Q q => ?_
  obtain ⟨s, Φ, c, a⟩ := q
  intro p hp
  have c1 : CfS G σ (upd H p (.dK [])) s ((.own (.dic [] []), .ref p) :: Φ) := by
    refine ⟨c.sl, fun i v hv => ?_, ?_⟩
    · rcases List.mem_cons.mp hv with z | z
      · cases z
      · exact c.bo i v z
    · have := Cf.newDic (G := G) (ks := []) (ds := []) (vs := []) (p := p) rfl rfl (show Cf G H s.h (Fz [] [] ++ (slp s.σ σ ++ ow Φ)) from c.cf) hp
      exact this.perm List.perm_middle.symm
  refine pairs_ok ps c1 (((Aft.bind a).frame1).mono fun kds s1 a1 => fun kvs H2 ek c2 => ?_)
  split at a1
  · rename_i h15'
    have l2 : (kds.map (·.2)).length = (kvs.map (·.2)).length := by
      have := congrArg List.length ek
      simpa using this
    have cf : Cf G H2 s1.h ((.dic [] [], .ref p) :: (Fz (kds.map (·.2)) (kvs.map (·.2)) ++ (slp s1.σ σ ++ ow Φ))) := by
      have := c2.cf
      rw [ow_append, ow_fz] at this
      refine this.perm ?_
      show (slp s1.σ σ ++ (Fz _ _ ++ (O.dic [] [], V.ref p) :: ow Φ)).Perm _
      rw [← List.append_assoc]
      refine List.perm_middle.trans (.cons _ ?_)
      rw [← List.append_assoc]
      exact (List.perm_append_comm).append_right _
    obtain ⟨a', vs0, ep, hH, l0, _, _⟩ := cf.dicO
    cases ep
    refine ⟨by rw [hH]; rfl, kvs, rfl, ?_, ?_⟩
    · have := congrArg List.length ek
      simp only [List.length_map] at this
      omega
    · have z := cf.change (ho := .dK (mergeK [] kvs)) (o' := .dic (mergeD kds ([], [])).1 (mergeD kds ([], [])).2) l2 (fun _ h => by cases h) fun ρ M H' e r => by
        obtain ⟨vs', z1, z2, z3⟩ := merge_of (G := G) (ρ := ρ) (H := H') (M := M) (kds := kds) (kvs := kvs) (ks := []) (xs := []) (vs := []) rfl rfl ek r
        exact ⟨p, vs', rfl, by rw [e, ← z1]; rfl, z2, z3, rfl⟩
      refine a1 _ _ ⟨c2.sl, fun i v hv => ?_, z.perm List.perm_middle.symm⟩
      rcases List.mem_cons.mp hv with hz | hz
      · cases hz
      · exact c2.bo i v (List.mem_append_right _ (List.mem_cons_of_mem _ hz))
  · exact a1.elim
end
end Mi

set_option Elab.async false
set_option linter.all false
set_option maxRecDepth 100000
set_option maxHeartbeats 4000000
/-! Mi, part Zf: dicts walked over. -/
namespace Mi
open PySem PySem.Spec PyProof.Rows L2
section
variable {G : GE} {ρ : List Addr} {H : Hp} {M : List Addr} {d : Addr} {kvs : List (Key × V)} {od : Obj}
abbrev lockH (H : Hp) (d : Addr) (od : Obj) (kvs : List (Key × V)) : Hp := upd H d (.frz od (.dK kvs))
theorem lock_ne {a : Addr} (z : a ≠ d) : lockH H d od kvs a = H a := upd_ne z
theorem lock_keep (hd : H d = some (.dK kvs)) {a : Addr} {o : HO} (e : H a = some o) (h : ∀ x, o ≠ .dK x) : lockH H d od kvs a = some o := by
  have : a ≠ d := fun z => by subst z; rw [hd] at e; cases e; exact h _ rfl
  rw [lock_ne this]; exact e
theorem lock_rd (hd : H d = some (.dK kvs)) {a : Addr} {u : HO} (r : Rd H a u) : Rd (lockH H d od kvs) a u := by
  by_cases z : a = d
  · subst z
    rcases r with r | ⟨o, r⟩
    · rw [hd] at r; cases r; exact .inr ⟨od, upd_same⟩
    · rw [hd] at r; cases r
  · rcases r with r | ⟨o, r⟩
    · exact .inl (by rw [lock_ne z]; exact r)
    · exact .inr ⟨o, by rw [lock_ne z]; exact r⟩
mutual
theorem RepD.lock (hd : H d = some (.dK kvs)) : ∀ (x : D) (v : V), RepD G ρ H M x v → RepD G ρ (lockH H d od kvs) M x v
  | .non, v, h => h
  | .bl b, v, h => h
  | .int i, v, h => h
  | .str x, v, h => h
  | .tup ds, v, h => by
    obtain ⟨a, vs, e, t, r⟩ := h
    refine ⟨a, vs, e, ?_, RepDs.lock hd ds vs r⟩
    rcases t with ⟨ho, q, i, n⟩ | t
    · exact .inl ⟨ho, lock_keep hd q (fun x z => by subst z; exact i.elim), i, n⟩
    · exact .inr t
  | .lst ds, v, h => by obtain ⟨a, vs, e, t, n, r⟩ := h; exact ⟨a, vs, e, lock_keep hd t (by simp), n, RepDs.lock hd ds vs r⟩
  | .dic ks ds, v, h => by obtain ⟨a, vs, e, t, l, n, r⟩ := h; exact ⟨a, vs, e, lock_rd hd t, l, n, RepDs.lock hd ds vs r⟩
  | .ins c fs ds, v, h => by obtain ⟨a, C, dx, vs, e, g, t, l, n, r⟩ := h; exact ⟨a, C, dx, vs, e, g, lock_keep hd t (by simp), l, n, RepDs.lock hd ds vs r⟩
  | .loc n, v, h => h
  | .fn f, v, h => h
  | .scr ns, v, h => by
    obtain ⟨a, e, t | t⟩ := h
    · exact ⟨a, e, .inl ⟨lock_rd hd t.1, t.2⟩⟩
    · exact ⟨a, e, .inr t⟩
  | .ty n, v, h => h
  | .cls c, v, h => h
  | .lk o x, v, h => by obtain ⟨a, e, t, n⟩ := h; exact ⟨a, e, lock_keep hd t (by simp), n⟩
  | .xn c f x, v, h => by obtain ⟨a, a', C, v', e1, e2, e3, t, n, r⟩ := h; exact ⟨a, a', C, v', e1, e2, e3, lock_keep hd t (by simp), n, RepD.lock hd x v' r⟩
theorem RepDs.lock (hd : H d = some (.dK kvs)) : ∀ (ds : List D) (vs : List V), RepDs G ρ H M ds vs → RepDs G ρ (lockH H d od kvs) M ds vs
  | [], vs, h => h
  | x :: ds, vs, h => by
    obtain ⟨v, r, e, h1, h2⟩ := h
    exact ⟨v, r, e, RepD.lock hd x v h1, RepDs.lock hd ds r h2⟩
end
theorem Own.lock (hd : H d = some (.dK kvs)) {o : O} {v : V} {F : List Addr} (w : Own G ρ H M o v F) (hF : d ∉ F) : Own G ρ (lockH H d od kvs) M o v F := by
  cases o with
  | fz x => exact ⟨RepD.lock hd x v w.1, w.2⟩
  | lst ds => obtain ⟨a, vs, e, t, r, f⟩ := w; exact ⟨a, vs, e, lock_keep hd t (by simp), RepDs.lock hd ds vs r, f⟩
  | dic ks ds =>
    obtain ⟨a, vs, e, t, l, r, f⟩ := w
    refine ⟨a, vs, e, ?_, l, RepDs.lock hd ds vs r, f⟩
    rw [lock_ne (fun z : a = d => hF (by rw [f]; simp [z]))]; exact t
  | ins c fs ds => obtain ⟨a, C, dx, vs, e, g, t, l, r, f⟩ := w; exact ⟨a, C, dx, vs, e, g, lock_keep hd t (by simp), l, RepDs.lock hd ds vs r, f⟩
theorem Owns.lock (hd : H d = some (.dK kvs)) : ∀ {L : List (O × V)} {F : List Addr}, Owns G ρ H M L F → d ∉ F → Owns G ρ (lockH H d od kvs) M L F
  | [], F, h, _ => h
  | p :: ps, F, h, hF => by
    obtain ⟨A, B, e, h1, h2⟩ := h
    subst e
    exact ⟨A, B, rfl, h1.lock hd fun z => hF (List.mem_append_left _ z), Owns.lock hd h2 fun z => hF (List.mem_append_right _ z)⟩
end
section
variable {G : GE} {k : Nat} {call : Call} {cc : CC} {W : WX} {X : Cx}
/-- the dict at hand is told to stand as it is -/
theorem CfS.lockD {σr : Sr} {H : Hp} {s : S} {Φ : List (R × V)} {ks : List Key} {xs : List D} {v : V} (c : CfS G σr H s ((.own (.fz (.dic ks xs)), v) :: Φ)) :
    ∃ d kvs, v = .ref d ∧ ((∃ o, H d = some (.frz o (.dK kvs)) ∧ CfS G σr H s ((.own (.fz (.lk o kvs)), v) :: (.own (.fz (.dic ks xs)), v) :: Φ)) ∨
      (H d = some (.dK kvs) ∧ ∀ od, CfS G σr (lockH H d od kvs) s ((.own (.fz (.lk od kvs)), v) :: (.own (.fz (.dic ks xs)), v) :: Φ))) := by
  obtain ⟨ρ, M, cp⟩ := c.parts
  obtain ⟨A, w⟩ := Owns.mem (p := (O.fz (.dic ks xs), v)) cp.2.1 (List.mem_append_right _ (List.mem_append_right _ (by simp [ow])))
  obtain ⟨a, vs, ev, hr, l, n, rd⟩ := w.1
  have bo : ∀ (o : Obj) (kvs : List (Key × V)) i u, (R.bor i, u) ∈ (R.own (.fz (.lk o kvs)), v) :: (R.own (.fz (.dic ks xs)), v) :: Φ → σr[i]? = some (some u) := fun o kvs i u hu => by
    rcases List.mem_cons.mp hu with z | z
    · cases z
    · exact c.bo i u z
  refine ⟨a, ks.zip vs, ev, ?_⟩
  rcases hr with hr | ⟨o, hr⟩
  · refine .inr ⟨hr, fun od => ⟨c.sl, bo od _, ?_⟩⟩
    have cp' : Cp G ρ (lockH H a od (ks.zip vs)) M s.h (slp s.σ σr ++ ow ((.own (.fz (.dic ks xs)), v) :: Φ)) := ⟨cp.1, cp.2.1.lock hr n, cp.2.2⟩
    have q : Cf G (lockH H a od (ks.zip vs)) s.h ((.fz (.lk od (ks.zip vs)), v) :: (slp s.σ σr ++ ow ((.own (.fz (.dic ks xs)), v) :: Φ))) := Cf.fz1.mpr ⟨ρ, M, cp', a, ev, upd_same, n⟩
    exact q.perm List.perm_middle.symm
  · refine .inl ⟨o, hr, c.sl, bo o _, ?_⟩
    have q : Cf G H s.h ((.fz (.lk o (ks.zip vs)), v) :: (slp s.σ σr ++ ow ((.own (.fz (.dic ks xs)), v) :: Φ))) := Cf.fz1.mpr ⟨ρ, M, cp, a, ev, hr, n⟩
    exact q.perm List.perm_middle.symm
/-- what stands locked, as the walks see it -/
theorem lk_see {σr : Sr} {H : Hp} {s : S} {Φ : List (R × V)} {ks : List Key} {xs : List D} {d : Addr} {o : Obj} {kvs : List (Key × V)} (c : CfS G σr H s ([(.own (.fz (.lk o kvs)), .ref d), (.own (.fz (.dic ks xs)), .ref d)] ++ Φ)) :
    H d = some (.frz o (.dK kvs)) ∧ ∃ ρ M vs, Cp G ρ H M s.h (slp s.σ σr ++ ow ([(.own (.fz (.lk o kvs)), .ref d), (.own (.fz (.dic ks xs)), .ref d)] ++ Φ)) ∧ kvs = ks.zip vs ∧ ks.length = vs.length ∧ RepDs G ρ H M xs vs := by
  obtain ⟨ρ, M, cp⟩ := c.parts
  obtain ⟨_, w1⟩ := Owns.mem (p := (O.fz (.lk o kvs), V.ref d)) cp.2.1 (List.mem_append_right _ (List.mem_append_right _ (by simp [ow])))
  obtain ⟨_, w2⟩ := Owns.mem (p := (O.fz (.dic ks xs), V.ref d)) cp.2.1 (List.mem_append_right _ (List.mem_append_right _ (by simp [ow])))
  obtain ⟨a, ea, hH, _⟩ := w1.1
  cases ea
  obtain ⟨b, vs, eb, hr, l, _, rd⟩ := w2.1
  cases eb
  refine ⟨hH, ρ, M, vs, cp, ?_, l, rd⟩
  rcases hr with hr | ⟨o', hr⟩
  · rw [hH] at hr; cases hr
  · rw [hH] at hr; cases hr; rfl
theorem walks_vals {ks : List Key} {xs : List D} {d : Addr} {o : Obj} {kvs : List (Key × V)} : Walks G (Itd d o kvs) [(.own (.fz (.lk o kvs)), .ref d), (.own (.fz (.dic ks xs)), .ref d)] xs := by
  intro σr H s Φ c
  obtain ⟨hH, ρ, M, vs, cp, rfl, l, rd⟩ := lk_see c
  have lz : (ks.zip vs).length = xs.length := by rw [List.length_zip, rd.length, l]; exact Nat.min_self _
  refine ⟨fun i hi => ⟨hH, by omega⟩, fun i d' x H' ei y => ?_, ⟨hH, by omega⟩⟩
  obtain ⟨rfl, kk, hk⟩ := y
  obtain ⟨w, hw, q⟩ := rd.get ei
  have : x = w := by
    rw [List.getElem?_zip_eq_some] at hk
    rw [hk.2] at hw
    exact Option.some.inj hw
  subst this
  exact CfS.cpMore (K := []) c cp q
theorem walks_keys {ks : List Key} {xs : List D} {d : Addr} {o : Obj} {kvs : List (Key × V)} (hl : ks.length = xs.length) : Walks G (Itk d o kvs) [(.own (.fz (.lk o kvs)), .ref d), (.own (.fz (.dic ks xs)), .ref d)] (ks.map kD) := by
  intro σr H s Φ c
  obtain ⟨hH, ρ, M, vs, cp, rfl, l, rd⟩ := lk_see c
  have lz : (ks.zip vs).length = ks.length := by rw [List.length_zip, l]; exact Nat.min_self _
  refine ⟨fun i hi => ⟨hH, by rw [lz]; simpa using hi⟩, fun i d' x H' ei y => ?_, ⟨hH, by rw [lz]; simp⟩⟩
  obtain ⟨rfl, kk, v, hk, rfl⟩ := y
  rw [List.getElem?_zip_eq_some] at hk
  rw [List.getElem?_map, hk.1] at ei
  cases ei
  refine CfS.cpMore (K := []) c cp ?_
  cases kk <;> rfl
theorem _root_.L2.PE.locks {e : Expr} {t : TE} (h : PE X e t) : PE X e (fun σ H Q => t σ H fun x H1 => Q x H1 ∨ ∃ d u, H1 d = some u ∧ Mut (some u) ∧ ∀ od, Q x (upd H1 d (.frz od u))) := by
  refine ⟨fun pins s σ H Q I q => thn (h.run pins s σ H _ I q) fun v s1 ⟨x, H1, I1, rx, z⟩ => ?_⟩
  rcases z with z | ⟨d, u, hd, mu, z⟩
  · exact ⟨x, H1, I1, rx, z⟩
  · obtain ⟨od, I2⟩ := I1.lock hd mu
    exact ⟨x, _, I2, rx, z od⟩
def iVals_ (m : E) : Iv := fun call s => (m call s).bind fun x s1 => match take s1 x with
  | some (.dic _ xs, s2) => .ok xs s2
  | _ => .bad
theorem i_vals {tg e : Expr} {m : E} {apos cpos : Pos} (he : PE X e (tE G W call m)) (hp : plainO e = true) (hl : (apos.endLine == cpos.line) = true) : PI X tg (.Call (.Attribute e "values" apos) [] [] cpos) (tI G W call (iVals_ m)) := by
  refine (pi_values (tg := tg) he.locks (base_ok hp) hl).of fun σ H Rr q => ?_
  obtain ⟨s, Φ, c, a⟩ := q
  refine ⟨s, Φ, c, (Aft.bind a).mono fun x s1 a1 => fun v H1 c1 => ?_⟩
  split at a1
  · rename_i ks xs s2 et
    have c2 := c1.take et
    obtain ⟨d, kvs, rfl, ⟨o, hH, c3⟩ | ⟨hH, c3⟩⟩ := c2.lockD
    · exact .inl ⟨d, o, kvs, rfl, hH, a1 _ _ _ (fun i u z => by simp at z) c3 walks_vals⟩
    · exact .inr ⟨d, .dK kvs, hH, trivial, fun od => ⟨d, od, kvs, rfl, upd_same, a1 _ _ _ (fun i u z => by simp at z) (c3 od) walks_vals⟩⟩
  · exact a1.elim
/-- for x in d -/
def iKeys_ (m : E) : Iv := fun call s => (m call s).bind fun x s1 => match take s1 x with
  | some (.dic ks xs, s2) => if ks.length = xs.length then .ok (ks.map kD) s2 else .bad
  | _ => .bad
theorem i_keys {tg e : Expr} {m : E} (he : PE X e (tE G W call m)) : PI X tg e (tI G W call (iKeys_ m)) := by
  refine (pi_keys (tg := tg) he.locks).of fun σ H Rr q => ?_
  obtain ⟨s, Φ, c, a⟩ := q
  refine ⟨s, Φ, c, (Aft.bind a).mono fun x s1 a1 => fun v H1 c1 => ?_⟩
  split at a1
  · rename_i ks xs s2 et
    split at a1
    · rename_i hln
      have c2 := c1.take et
      obtain ⟨d, kvs, rfl, ⟨o, hH, c3⟩ | ⟨hH, c3⟩⟩ := c2.lockD
      · exact .inl ⟨d, o, rfl, .inl ⟨kvs, hH, a1 _ _ _ (fun i u z => by simp at z) c3 (walks_keys hln)⟩⟩
      · exact .inr ⟨d, .dK kvs, hH, trivial, fun od => ⟨d, od, rfl, .inl ⟨kvs, upd_same, a1 _ _ _ (fun i u z => by simp at z) (c3 od) (walks_keys hln)⟩⟩⟩
    · exact a1.elim
  · exact a1.elim
/-- a thing that is walked: a sequence, a text, or a dict by its keys -/
def iAny (m : E) : Iv := fun call s => match iVal m call s with
  | .bad => iKeys_ m call s
  | y => y
theorem i_any (g : Good G k call cc W X) {tg e : Expr} {m : E} (he : PE X e (tE G W call m)) : PI X tg e (tI G W call (iAny m)) := by
  have h1 := i_val (tg := tg) g he
  have h2 := i_keys (tg := tg) he
  refine ⟨fun pins s σ H R I q => ?_⟩
  obtain ⟨st, Φ, c, q⟩ := q
  unfold iAny at q
  cases es : iVal m call st with
  | bad => rw [es] at q; exact h2.run pins s σ H R I ⟨st, Φ, c, q⟩
  | _ => all_goals (rw [es] at q; exact h1.run pins s σ H R I ⟨st, Φ, c, by rw [es]; exact q⟩)
end
end Mi

set_option Elab.async false
set_option linter.all false
set_option maxRecDepth 100000
set_option maxHeartbeats 4000000
/-! Mi, part Zg: isinstance of the handled exception, isinstance with a written tuple, a tuple many times. -/
namespace Mi
open PySem PySem.Spec PyProof.Rows L2
section
open PySem.W PySem.Calls
variable {prog : Program} {w : World} {A : Around} {E : Value → Shared → Prop} {s : Shared} {K : Frag} {x C : Addr} {ox od : Obj}
/-- e.__class__ of an own exception that has its dict -/
theorem x_class {Q : Option Value → Shared → Prop} (T : ExcC K C) (Kin : K.In s.heap) (In : InstAt s.heap x ox C (some od)) (nxt : Q (some (.ref C)) { s with toks := s.toks + 1 }) : wpAny (model prog w) A (getAttr? (.ref x) "__class__") Q E s := by
  have found : findObj K C (some od) "__class__" = some (.bind (.builtin "getset_descriptor.__get__") (.builtin "object.__class__")) :=
    findObj_data (by obtain ⟨cd, hc, _⟩ := any_some T.hd; rw [hc]; rfl) T.ha T.hn T.ht
  obtain ⟨hp, g, d, t, os⟩ := s
  have isT := In.type (M := model prog w)
  have isG := looks_findIn (M := model prog w) Kin T.hg
  have noG := looks_findIn (M := model prog w) Kin T.hk
  have isF := looks_find (M := model prog w) Kin In found
  have isB : Looks (model prog w) hp (isInstance (.ref x) (.type "BaseException")) true := isT.andThen (looks_subIn Kin T.hs)
  have n1 : (onTheHeap (Value.ref C) && Value.builtin "BaseException.__getattribute__" == Value.builtin "object.__getattribute__") = false := by
    rw [show (Value.builtin "BaseException.__getattribute__" == Value.builtin "object.__getattribute__") = false by decide +kernel]; rfl
  unfold getAttr? getAttrBy? getAttrBy
  refine wpAny_bind (wpAny_mkText (wpAny_bind (wpAny_attempt (wpAny_holding (wpAny_bind (isT.at (wpAny_bind (isG.at ?_))))))))
  show wpAny _ _ (if (onTheHeap (Value.ref C) && Value.builtin "BaseException.__getattribute__" == Value.builtin "object.__getattribute__") = true then _ else _) _ _ _
  rw [n1, if_neg Bool.false_ne_true]
  unfold getAttrByItsOwn hookBefore
  refine wpAny_bind ?_
  rw [if_pos (show onTheHeap (Value.ref C) = true from rfl)]
  refine noG.at ?_
  refine wpAny_bind (wpAny_attempt (wpAny_holding ?_))
  unfold callGetattribute
  rw [if_neg (show ¬ (false && onTheHeap (Value.builtin "BaseException.__getattribute__")) = true from Bool.false_ne_true)]
  unfold boundAndCalled
  rw [PySem.F.excAttr_ValueError.ga.bind (.ref x)]
  refine wpAny_bind (wpAny_pure ?_)
  show wpAny _ _ (call (.builtin "BaseException.__getattribute__") [.ref x, .str "__class__" t]) _ _ _
  refine wpAny_call (codeAny_call_builtin PySem.F.excAttr_ValueError.ga.plain PySem.F.entry_bexc_ga (@check_slot (model prog w) _ _ ⟨hp, g, d, t + 1, os⟩ "BaseException.__getattribute__" "BaseException" "__getattribute__" (.ref x) [.str "__class__" t] [] _ (by decide +kernel) (by decide +kernel) isB
    (PySem.F.args_bexc_ga (.ref x) (.str "__class__" t)) ?_))
  unfold Builtin.«object.__getattribute__»
  refine wpAny_bind (wpAny_of_eq (a := ((Value.ref x : Value), [Value.str "__class__" t])) (by first | rfl | (simp only [slotArgs]; rfl)) ?_)
  refine wpAny_bind (wpAny_pure (wpAny_bind (isT.at (wpAny_bind (isF.at ?_)))))
  show wpAny _ _ (holding [Value.builtin "object.__class__"] (call (.builtin "getset_descriptor.__get__") [.builtin "object.__class__", .ref x, .ref C]) >>= ret) _ _ _
  refine wpAny_bind (wpAny_holding (wpAny_call (class_get (s := ⟨hp, g, d, t + 1, os⟩) (ox := ox) (od := some od) Kin In T.hm ?_)))
  refine wpAny_pure ?_
  show wpAny _ _ (handedOut (.ref C)) _ _ _
  rw [handedOut_of (v := .ref C) rfl]
  first
    | exact wpAny_pure (wpAny_pure nxt)
    | exact wpAny_pure nxt
    | exact wpAny_pure (wpAny_bind (wpAny_pure (wpAny_pure nxt)))
theorem x_kit (T : ExcC K C) : KitX K (.ref x) (.ref C) (fun h => InstAt h x ox C (some od)) := by
  obtain ⟨cd, hc, _⟩ := any_some T.hd
  refine ⟨fun _ _ _ In => In.type, fun _ _ Kin _ => ?_, fun h tp dd its n sl Kin htp => ?_, fun Kin In nxt => x_class T Kin In nxt⟩
  · unfold clsIn at hc
    split at hc
    · rename_i c' d' cd' sl' ho
      intro A' Q' E' s' kp q
      unfold isType loadHead
      exact wpAny_bind (wpAny_loadPart (kp _ _ (Kin _ _ ho)) (wpAny_pure q))
    · cases hc
  · refine Bool.eq_false_iff.mpr fun q => ?_
    obtain rfl : C = tp := Value.ref.inj (beq_iff_eq.mp q)
    unfold clsIn at hc
    split at hc
    · rename_i c' d' cd' sl' ho
      have z := (Kin _ _ ho).symm.trans htp
      cases z
    · cases hc
end
section
variable {G : GE} {k : Nat} {call : Call} {cc : CC} {W : WX} {X : Cx}
def isxD (tb : List (Str × Str × Bool)) (nm : Str) : D → Option O
  | .xn c _ _ => (tb.find? fun p => decide (p.1 = c) && decide (p.2.1 = nm)).map fun p => .fz (.bl p.2.2)
  | _ => none
theorem pe_nm {nm : Str} {p2 : Pos} (hg : Gl X nm) (hd : (nm == ("__debug__" : Str)) = false) : PE X (.Name nm p2) (fun _ H Q => ∃ u cv, RelV u cv ∧ ((X.mg nm = some cv) ∨ (X.mg nm = none ∧ bootBuiltins nm = some cv ∧ nm ≠ "__name__")) ∧ Q u H) := by
  refine ⟨fun pins s σ H Q I h => ?_⟩
  obtain ⟨u, cv, r, hm | ⟨hm, hb, hn⟩, q⟩ := h
  · exact ld_glob I hg hm ⟨u, H, I, r, q⟩ hd
  · exact ld_blt I hg hm hb ⟨u, H, I, r, q⟩ hn hd
theorem call_isX : CallR X (.builtin "isinstance") (fun xs H Q => ∃ (a : Addr) (oe : Obj) (C dd : Addr) (fs : List (Str × V)) (c : V) (cv : Value) (b : Bool), xs = [.ref a, c] ∧ (a, oe) ∈ X.pn ∧ oe.cls = .ref C ∧ oe.dict = some dd ∧ (∃ vs, oe.data = .fields vs) ∧ H dd = some (.xd fs) ∧ ExcC X.K C ∧
    (∀ w, RelV c w → w = cv) ∧ PySem.W.kitOne X.K (.ref C) cv = some b ∧ Q (.bl b) H) := by
  intro pins s σ H xs us Q I r h
  obtain ⟨a, oe, C, dd, fs, c, cv, b, rfl, hm, hc, hdct, ⟨vs, hdat⟩, hH, T, hcv, e, q⟩ := h
  obtain ⟨u1, u2, rfl, ra, rb⟩ := vals2 r
  obtain rfl : u1 = Value.ref a := ra
  obtain rfl := hcv _ rb
  obtain ⟨atA, _⟩ := I.pin (a, oe) (List.mem_append_left _ hm)
  have hx : ObjOk X.prog X.w H s.heap dd (.xd fs) := I.hok dd _ hH
  obtain ⟨mA, hns, _⟩ := hx
  obtain ⟨od, ho, _⟩ := lookIn_ns hns
  have In : PySem.W.InstAt s.heap a oe C (some od) := ⟨atA, hc, by unfold PySem.W.notCls; rw [hdat] <;> rfl, by rw [hdct]; exact ho⟩
  exact PySem.W.kia_one (x_kit T) I.kIn In e (fun z => nomatch z) fun tk => ⟨.bl b, H, I.kept (t' := tk) fun _ _ z => z, rfl, q⟩
theorem e_isx (g : GoodB G cc X) {e : Expr} {m : E} {nm : Str} {p p2 pos : Pos} (he : PE X e (tE G W call m)) (hn : notStar e = true) (hi : cc.sc.names.lookup ("isinstance" : Str) = some .globalImplicit) (hg : cc.sc.names.lookup nm = some .globalImplicit) (hd : (nm == ("__debug__" : Str)) = false) :
    PE X (.Call (.Name "isinstance" p) [e, .Name nm p2] [] pos) (tE G W call (mOne (isxD cc.isx nm) m)) := by
  have mi : X.mg "isinstance" = none := g.blt _ (by decide)
  refine (pe_callB call_isX (g.gl hi) mi (show bootBuiltins "isinstance" = some (.builtin "isinstance") by decide +kernel) (pa_cons he (pa_cons (pe_nm (p2 := p2) (g.gl hg) hd) pa_nil) (star_cons hn)) (by decide) (by decide) (star_cons hn) rfl).of fun σ H Q q => ?_
  obtain ⟨st, Φ, c, q⟩ := tOne q
  refine ⟨st, Φ, c, q.mono fun y s1 z => fun v H1 c1 => ?_⟩
  obtain ⟨ρ, M, h0, L, d, o, cp, t, ef, fin⟩ := z v H1 c1
  unfold isxD at ef
  split at ef
  · rename_i cn f d1
    simp only [Option.map_eq_some_iff] at ef
    obtain ⟨tr, ht, eo⟩ := ef
    subst eo
    have hmem := List.mem_of_find?_eq_some ht
    have hprop := List.find?_some ht
    simp only [Bool.and_eq_true, decide_eq_true_eq] at hprop
    obtain ⟨a, a', C, v', hcur, ex, hE, hH, _, rv⟩ := t
    subst ex
    obtain ⟨oe, hm, hc, hdct, hdat⟩ := g.cur a a' C hcur
    obtain ⟨t1, t2, t3⟩ := tr
    simp only at hprop hmem
    obtain ⟨rfl, rfl⟩ := hprop
    obtain ⟨T, u, cv, ru, rall, hv, kit⟩ := g.isx _ C f _ _ hE hmem
    exact ⟨u, cv, ru, hv, a, oe, C, a', _, u, cv, t3, rfl, hm, hc, hdct, hdat, hH, T, rall, kit, fin _ H1 (cp.bl _)⟩
  · cases ef
/-! ### isinstance(x, (T, ..)) -/
def kitAnyB (t : String) : List String → Option Bool
  | [] => some false
  | c :: r => match kitB t c with
    | some true => some true
    | some false => kitAnyB t r
    | none => none
def isiT (ts : List String) (d : D) : Option O := (tyD d).bind fun t => (kitAnyB t ts).map fun b => .fz (.bl b)
theorem kitAny_of {K : PySem.W.Frag} {t : String} : ∀ {ts : List String} {b : Bool}, kitAnyB t ts = some b → PySem.W.kitAny K (.type t) (ts.map Value.type) = some b
  | [], b, e => by cases e; rfl
  | c :: r, b, e => by
    simp only [kitAnyB] at e
    simp only [List.map_cons, PySem.W.kitAny]
    cases hk : kitB t c with
    | none => rw [hk] at e; cases e
    | some z =>
      rw [kit_ty hk]
      rw [hk] at e
      cases z with
      | true => exact e
      | false => exact kitAny_of e
/-- the names of built-in types -/
inductive TyNames (cc : CC) : List Expr → List String → Prop
  | nil : TyNames cc [] []
  | cons {x : Str} {p : Pos} {t : String} {es : List Expr} {ts : List String} (hb : x ∈ blts) (hg : cc.sc.names.lookup x = some .globalImplicit) (hv : bootBuiltins x = some (.type t)) (n1 : x ≠ "__name__") (n2 : (x == ("__debug__" : Str)) = false) (r : TyNames cc es ts) : TyNames cc (.Name x p :: es) (t :: ts)
theorem pa_tys (g : GoodB G cc X) {es : List Expr} {ts : List String} (h : TyNames cc es ts) :
    PA X es (fun _ H Q => Q (ts.map V.ty) H) := by
  induction h with
  | nil => exact pa_nil.of fun σ H Q q => q
  | @cons x p t es ts hb hg hv n1 n2 r ih =>
    exact (pa_cons (pe_bltn (v := .ty _) (g.gl hg) (g.blt x hb) hv rfl n1 n2) ih (star_cons rfl)).of fun σ H Q q => q
theorem clsV_tys : ∀ ts : List String, Paired ClsV (ts.map V.ty) (ts.map Value.type)
  | [] => .nil
  | t :: ts => .cons (.ty t) (clsV_tys ts)
theorem e_isiT (g : GoodB G cc X) {e : Expr} {m : E} {es : List Expr} {ts : List String} {n : Nat} {p tp pos : Pos} (he : PE X e (tE G W call m)) (hn : notStar e = true) (hi : cc.sc.names.lookup ("isinstance" : Str) = some .globalImplicit)
    (h : TyNames cc es ts) (hl : ts.length ≤ 1000) :
    PE X (.Call (.Name "isinstance" p) [e, .Tuple es n tp] [] pos) (tE G W call (mOne (isiT ts) m)) := by
  have mi : X.mg "isinstance" = none := g.blt _ (by decide)
  refine (pe_callB call_isiT (g.gl hi) mi (show bootBuiltins "isinstance" = some (.builtin "isinstance") by decide +kernel) (pa_cons he (pa_cons (pe_tup (x1 := n) (pos := tp) (pa_tys g h)) pa_nil (star_cons rfl)) (star_cons hn)) (by decide) (by decide) (star_cons hn) rfl).of fun σ H Q q => ?_
  obtain ⟨st, Φ, c, q⟩ := q
  unfold mOne at q
  refine ⟨st, Φ, c, (Aft.bind q).mono fun y s1 z => fun v H1 c1 => ⟨?_, fun t ht => ?_⟩⟩
  · rw [List.length_map, sizeLine_eq]; omega
  · obtain ⟨o, eo, fin⟩ := Aft.lift z
    simp only [Option.bind_eq_some_iff, Option.map_eq_some_iff] at eo
    obtain ⟨d, ed, o', ef, eo⟩ := eo
    subst eo
    have c2 : CfS G σ (upd H1 t (.tup (ts.map V.ty))) s1 ((y, v) :: Φ) := c1.alloc ht
    obtain ⟨ρ, M, cp⟩ := c2.parts
    have rt := c2.peek (r := y) (v := v) (by simp) ed cp
    unfold isiT at ef
    simp only [Option.bind_eq_some_iff, Option.map_eq_some_iff] at ef
    obtain ⟨tn, et, b, ek, eo⟩ := ef
    subst eo
    have ty := tyD_of rt et
    rw [← g.K] at ty
    exact ⟨v, t, ts.map V.ty, .type tn, ts.map Value.type, b, rfl, upd_same, clsV_tys ts, ty, kitAny_of ek, fin _ _ (c2.drop.simple rfl)⟩
/-! ### a tuple many times -/
def mulT : D → D → Option O
  | .tup a, .int j => if a ≠ [] ∧ 2 ≤ j ∧ j ≤ 1000 ∧ a.length ≤ 1000 then some (.fz (.tup (List.replicate j.toNat a).flatten)) else none
  | _, _ => none
theorem o_mulT (hK : X.K = G.K) (hb : G.bare = false) : OpR X (binaryOp .Mult) (r2 G mulT) := op_repT.imp fun x y H Q ⟨ρ, M, h, L, d1, d2, o, cp, t1, t2, e, q⟩ => by
  unfold mulT at e
  split at e
  · rename_i a j
    split at e
    · rename_i hc
      cases e
      obtain ⟨p, vs, rfl, t, r⟩ := t1
      obtain rfl := (show y = _ from t2)
      refine ⟨p, j, vs, rfl, rfl, by rw [hK]; exact t.sq, fun z => ?_, hc.2.1, hc.2.2.1, by rw [← r.length]; exact hc.2.2.2, fun p' hp => q _ _ ?_⟩
      · subst z
        have := r.length
        exact hc.1 (List.length_eq_zero_iff.mp (by simpa using this))
      · exact cp.tupNew (r.flatten_rep _) hp ⟨hb, rfl⟩
    · cases e
  · cases e
end
end Mi

set_option Elab.async false
set_option linter.all false
set_option maxRecDepth 100000
set_option maxHeartbeats 4000000
/-! Mi, part Zh: one operation or another. -/
namespace Mi
open PySem PySem.Spec PyProof.Rows L2
def or2 (f g : D → D → Option O) (d e : D) : Option O := match f d e with
  | some o => some o
  | none => g d e
def orN (f g : List D → Option O) (ds : List D) : Option O := match f ds with
  | some o => some o
  | none => g ds
section
variable {G : GE} {k : Nat} {call : Call} {cc : CC} {W : WX} {X : Cx}
theorem r2_or {f g : D → D → Option O} {x y : V} {H : Hp} {Q : VK} (h : r2 G (or2 f g) x y H Q) : r2 G f x y H Q ∨ r2 G g x y H Q := by
  obtain ⟨ρ, M, h0, L, d1, d2, o, cp, t1, t2, e, q⟩ := h
  unfold or2 at e
  split at e
  · rename_i o' ef
    cases e
    exact .inl ⟨ρ, M, h0, L, d1, d2, o, cp, t1, t2, ef, q⟩
  · exact .inr ⟨ρ, M, h0, L, d1, d2, o, cp, t1, t2, e, q⟩
theorem o_or {F : Value → Value → Sem Value} {f g : D → D → Option O} (h1 : OpR X F (r2 G f)) (h2 : OpR X F (r2 G g)) : OpR X F (r2 G (or2 f g)) := (h1.or h2).imp fun _ _ _ _ h => r2_or h
theorem ix_or {f g : D → D → Option O} (h1 : IxR X (r2 G f)) (h2 : IxR X (r2 G g)) : IxR X (r2 G (or2 f g)) := (h1.or h2).imp fun _ _ _ _ h => r2_or h
theorem b_or {F : Value} {f g : List D → Option O} (h1 : CallR X F (rN G f)) (h2 : CallR X F (rN G g)) : CallR X F (rN G (orN f g)) := by
  intro pins s σ H xs us Q I r h
  obtain ⟨ρ, M, h0, L, ds, o, cp, t, e, q⟩ := h
  unfold orN at e
  split at e
  · rename_i o' ef
    cases e
    exact h1 pins s σ H xs us Q I r ⟨ρ, M, h0, L, ds, o, cp, t, ef, q⟩
  · exact h2 pins s σ H xs us Q I r ⟨ρ, M, h0, L, ds, o, cp, t, e, q⟩
abbrev atX : D → D → Option O := or2 atD dAt
abbrev inX : D → D → Option O := or2 inD dIn
abbrev notInX : D → D → Option O := or2 notInD dNotIn
abbrev mulX : D → D → Option O := or2 mulD mulT
abbrev lenX : List D → Option O := orN lenD dLen
theorem hu_of' (h : X.A.units + 64 < cLine) : X.A.units + 1 < cLine := Nat.lt_of_le_of_lt (Nat.add_le_add_left (by decide) _) h
end
end Mi

set_option Elab.async false
set_option linter.all false
set_option maxRecDepth 100000
set_option maxHeartbeats 4000000
/-! Mi, part O: the turner: from a tree of the program to what it does, with the proof that it does it. -/
namespace Mi
open PySem PySem.Spec PyProof.Rows L2

structure CE (cc : CC) (e : Expr) where
  m : E
  ok : ∀ G k call W X, Good G k call cc W X → PE X e (tE G W call m)
structure CB (cc : CC) (e : Expr) where
  m : B
  ok : ∀ G k call W X, Good G k call cc W X → PT X e (tB_ G W call m)
structure CA (cc : CC) (es : List Expr) where
  m : As
  ns : es.all notStar = true
  ok : ∀ G k call W X, Good G k call cc W X → PA X es (tL G W call m)
structure CR (cc : CC) (es : List Expr) where
  m : AsR
  ns : es.all notStar = true
  ok : ∀ G k call W X, Good G k call cc W X → PA X es (tR G W call m)
structure CP (cc : CC) (e : Option Expr) where
  m : Pt
  ok : ∀ G k call W X, Good G k call cc W X → PO X e (tP G W call m)
structure CTg (cc : CC) (e : Expr) where
  m : Tg
  pl : plainT e = true
  ok : ∀ G k call W X, Good G k call cc W X → PG X e (tG G m)
structure CTs (cc : CC) (es : List Expr) where
  m : Tgs
  ms : List Tg
  pl : es.all plainT = true
  ln : es.length = ms.length
  ok : ∀ G k call W X, Good G k call cc W X → PGs X es (tGs G m)
  oks : ∀ G k call W X, Good G k call cc W X → PGs X es (tGsO G ms)
structure CGA (cc : CC) (vs : List Nat) (e : Expr) where
  m : Tg
  pl : plainT e = true
  ok : ∀ G k call W X, Good G k call cc W X → PG X e (tGA G vs m)
structure CGAs (cc : CC) (vs : List Nat) (es : List Expr) where
  m : Tgs
  pl : es.all plainT = true
  ok : ∀ G k call W X, Good G k call cc W X → PGs X es (tGAs G vs m)
structure CIv (cc : CC) (tg it : Expr) where
  m : Iv
  fs : ∀ env x, foldedSetIterable it env x = pure x
  ok : ∀ G k call W X, Good G k call cc W X → PI X tg it (tI G W call m)
structure CS (cc : CC) (st : Stmt) where
  m : C
  ok : ∀ G k call W X, Good G k call cc W X → PS X st (tS G W call m)
structure CSs (cc : CC) (st : List Stmt) where
  m : C
  ok : ∀ G k call W X, Good G k call cc W X → PSs X st (tS G W call m)
/-- the turners of one depth -/
structure Tn where
  e : ∀ cc e, Option (CE cc e)
  b : ∀ cc e, Option (CB cc e)
  s : ∀ cc st, Option (CS cc st)

/-! ### names -/
def idx (N : List Str) (x : Str) : Nat := N.findIdx (fun y => decide (y = x))
def okName (x : Str) : Bool := !(x == ("__debug__" : Str)) && !(x == ("__classdict__" : Str))
def visB (sc : Scope) (x : Str) : Bool := match sc.names.lookup x with
  | some .local => true
  | some .cell => true
  | some .free => true
  | _ => false
theorem vis_of {sc : Scope} {x : Str} (h : visB sc x = true) : Vis sc x := by
  unfold visB at h
  split at h
  · exact .inl (by assumption)
  · exact .inr (.inl (by assumption))
  · exact .inr (.inr (by assumption))
  · cases h
def glB (sc : Scope) (x : Str) : Bool := match sc.names.lookup x with
  | some .globalImplicit => true
  | _ => false
theorem gl_of {sc : Scope} {x : Str} (h : glB sc x = true) : sc.names.lookup x = some .globalImplicit := by
  unfold glB at h
  split at h
  · assumption
  · cases h
def locB (sc : Scope) (x : Str) : Bool := match sc.names.lookup x with
  | some .local => true
  | _ => false
theorem loc_of {sc : Scope} {x : Str} (h : locB sc x = true) : sc.names.lookup x = some .local := by
  unfold locB at h
  split at h
  · assumption
  · cases h
def celB (sc : Scope) (x : Str) : Bool := match sc.names.lookup x with
  | some .cell => true
  | _ => false
theorem cel_of {sc : Scope} {x : Str} (h : celB sc x = true) : sc.names.lookup x = some .cell := by
  unfold celB at h
  split at h
  · assumption
  · cases h
theorem ok1 {x : Str} (h : okName x = true) : (x == ("__debug__" : Str)) = false := by
  simp only [okName, Bool.and_eq_true, Bool.not_eq_true'] at h; exact h.1
theorem ok2 {x : Str} (h : okName x = true) : (x == ("__classdict__" : Str)) = false := by
  simp only [okName, Bool.and_eq_true, Bool.not_eq_true'] at h; exact h.2
def tName (cc : CC) (x : Str) (pos : Pos) : Option (CE cc (.Name x pos)) :=
  if ho : okName x = true then
    if h : visB cc.sc x = true then
      (if h1 : cc.N[idx cc.N x]? = some x then some ⟨mVar (idx cc.N x), fun G k call W X g => e_var g.toGoodB h1 (vis_of h) (ok1 ho) (ok2 ho)⟩ else none)
    else if hg : glB cc.sc x = true then
      (match hc : cc.con x with
      | some d => (match hs : simple d with
        | some v => some ⟨mCon d, fun G k call W X g => e_glo g.toGoodB (gl_of hg) hc hs (ok1 ho)⟩
        | none => none)
      | none =>
        if h : x = "str" then some ⟨mCon (.ty "str"), fun G k call W X g => e_tyName g.toGoodB (by subst h; decide) (gl_of hg) (by subst h; decide +kernel) (by subst h; decide) (ok1 ho)⟩
        else if h : x = "tuple" then some ⟨mCon (.ty "tuple"), fun G k call W X g => e_tyName g.toGoodB (by subst h; decide) (gl_of hg) (by subst h; decide +kernel) (by subst h; decide) (ok1 ho)⟩
        else if h : x = "list" then some ⟨mCon (.ty "list"), fun G k call W X g => e_tyName g.toGoodB (by subst h; decide) (gl_of hg) (by subst h; decide +kernel) (by subst h; decide) (ok1 ho)⟩
        else if h : x = "int" then some ⟨mCon (.ty "int"), fun G k call W X g => e_tyName g.toGoodB (by subst h; decide) (gl_of hg) (by subst h; decide +kernel) (by subst h; decide) (ok1 ho)⟩
        else if h : x = "bool" then some ⟨mCon (.ty "bool"), fun G k call W X g => e_tyName g.toGoodB (by subst h; decide) (gl_of hg) (by subst h; decide +kernel) (by subst h; decide) (ok1 ho)⟩
        else if h : x = "dict" then some ⟨mCon (.ty "dict"), fun G k call W X g => e_tyName g.toGoodB (by subst h; decide) (gl_of hg) (by subst h; decide +kernel) (by subst h; decide) (ok1 ho)⟩
        else none)
    else none
  else none

/-! ### argument lists -/
def tA (T : Tn) (cc : CC) : (es : List Expr) → Option (CA cc es)
  | [] => some ⟨aNil, rfl, fun _ _ _ _ _ _ => a_nil⟩
  | e :: es => if hn : notStar e = true then
      (T.e cc e).bind fun a => (tA T cc es).map fun r => ⟨aCons a.m r.m, by simp [hn, r.ns], fun G k call W X g => a_cons (a.ok G k call W X g) (r.ok G k call W X g) hn⟩
    else none
def tR_ (T : Tn) (cc : CC) : (es : List Expr) → Option (CR cc es)
  | [] => some ⟨rNil, rfl, fun _ _ _ _ _ _ => r_nil⟩
  | e :: es => if hn : notStar e = true then
      (T.e cc e).bind fun a => (tR_ T cc es).map fun r => ⟨rCons a.m r.m, by simp [hn, r.ns], fun G k call W X g => r_cons (a.ok G k call W X g) (r.ok G k call W X g) hn⟩
    else none

/-! ### and, or -/
def tAndE (T : Tn) (cc : CC) (pos : Pos) : (es : List Expr) → Option (CE cc (.BoolOp .And es pos))
  | [] => none
  | [a] => (T.e cc a).map fun c => ⟨c.m, fun G k call W X g => pe_one (c.ok G k call W X g)⟩
  | a :: b :: r => (T.e cc a).bind fun c => (tAndE T cc pos (b :: r)).map fun d => ⟨mAnd c.m d.m, fun G k call W X g => e_and g.toGoodB (c.ok G k call W X g) (d.ok G k call W X g)⟩
def tOrE (T : Tn) (cc : CC) (pos : Pos) : (es : List Expr) → Option (CE cc (.BoolOp .Or es pos))
  | [] => none
  | [a] => (T.e cc a).map fun c => ⟨c.m, fun G k call W X g => pe_one (c.ok G k call W X g)⟩
  | a :: b :: r => (T.e cc a).bind fun c => (tOrE T cc pos (b :: r)).map fun d => ⟨mOr c.m d.m, fun G k call W X g => e_or g.toGoodB (c.ok G k call W X g) (d.ok G k call W X g)⟩
structure CW (cc : CC) (e : Expr) where
  m : B
  ok : ∀ G k call W X, Good G k call cc W X → PW X e (tB_ G W call m)
def tAndB (T : Tn) (cc : CC) (pos : Pos) : (es : List Expr) → Option (CW cc (.BoolOp .And es pos))
  | [] => none
  | [a] => (T.b cc a).map fun c => ⟨c.m, fun G k call W X g => w_and1 (c.ok G k call W X g)⟩
  | a :: b :: r => (T.b cc a).bind fun c => (tAndB T cc pos (b :: r)).map fun d => ⟨bAnd c.m d.m, fun G k call W X g => w_and (c.ok G k call W X g) (d.ok G k call W X g)⟩
def tOrB (T : Tn) (cc : CC) (pos : Pos) : (es : List Expr) → Option (CW cc (.BoolOp .Or es pos))
  | [] => none
  | [a] => (T.b cc a).map fun c => ⟨c.m, fun G k call W X g => w_or1 (c.ok G k call W X g)⟩
  | a :: b :: r => (T.b cc a).bind fun c => (tOrB T cc pos (b :: r)).map fun d => ⟨bOr c.m d.m, fun G k call W X g => w_or (c.ok G k call W X g) (d.ok G k call W X g)⟩

/-! ### operators -/
structure OB (b : Bool) (op : Operator) where
  f : D → D → Option O
  ok : ∀ (G : GE) (X : Cx), X.K = G.K → G.bare = b → OpR X (binaryOp op) (r2 G f)
def tOp2 : (b : Bool) → (op : Operator) → Option (OB b op)
  | false, .Add => some ⟨addD, fun _ _ h hb => o_add h hb⟩
  | true, .Add => some ⟨addB, fun _ _ _ _ => o_addB⟩
  | _, .Sub => some ⟨subD, fun _ _ _ _ => o_sub⟩
  | false, .Mult => some ⟨mulX, fun _ _ h hb => o_or o_mul (o_mulT h hb)⟩
  | true, .Mult => some ⟨mulD, fun _ _ _ _ => o_mul⟩
  | _, .Mod => some ⟨modD, fun _ _ _ _ => o_mod⟩
  | _, .FloorDiv => some ⟨fdivD, fun _ _ _ _ => o_fdiv⟩
  | _, .Pow => some ⟨powD, fun _ _ _ _ => o_pow⟩
  | _, _ => none
structure OC (op : CmpOp) where
  f : D → D → Option O
  ok : ∀ (G : GE) (X : Cx), X.K = G.K → X.A.units + 64 < cLine → OpR X (compareOp op) (r2 G f)
def tCmp2 : (op : CmpOp) → Option (OC op)
  | .Lt => some ⟨ltD, fun _ _ _ _ => o_lt⟩
  | .LtE => some ⟨leD, fun _ _ _ _ => o_le⟩
  | .Gt => some ⟨gtD, fun _ _ _ _ => o_gt⟩
  | .GtE => some ⟨geD, fun _ _ _ _ => o_ge⟩
  | .Eq => some ⟨eqD, fun _ _ h u => o_eq h u⟩
  | .NotEq => some ⟨neD, fun _ _ h u => o_ne h u⟩
  | .In => some ⟨inX, fun _ _ h u => o_or (o_in h) (o_din (hu_of' u))⟩
  | .NotIn => some ⟨notInX, fun _ _ h u => o_or (o_notIn h) (o_dnotin (hu_of' u))⟩
  | .Is => some ⟨isNoneD, fun _ _ _ _ => o_isN⟩
  | .IsNot => some ⟨isNotNoneD, fun _ _ _ _ => o_isNotN⟩

/-! ### the built-ins -/
structure BF (x : Str) where
  f : List D → Option O
  ok : ∀ G k call cc W X, Good G k call cc W X → cc.sc.names.lookup x = some .globalImplicit → ∀ e es r p pos, PA X (e :: es) (tR G W call r) → (e :: es).all notStar = true → PE X (.Call (.Name x p) (e :: es) [] pos) (tE G W call (mBlt f r))
def bfOf (x : Str) : Option (BF x) :=
  if h : x = "len" then some ⟨lenX, fun G k call cc W X g hl e es r p pos ha hn => by subst h; exact e_blt g.toGoodB (b_or (b_len g.K) b_dlen) (by decide) hl PySem.boot_len ha hn (by decide) (by decide)⟩
  else if h : x = "abs" then some ⟨absD, fun G k call cc W X g hl e es r p pos ha hn => by subst h; exact e_blt g.toGoodB b_abs (by decide) hl (by decide +kernel) ha hn (by decide) (by decide)⟩
  else if h : x = "max" then some ⟨maxD, fun G k call cc W X g hl e es r p pos ha hn => by subst h; exact e_blt g.toGoodB (b_max g.calm) (by decide) hl (by decide +kernel) ha hn (by decide) (by decide)⟩
  else if h : x = "min" then some ⟨minD, fun G k call cc W X g hl e es r p pos ha hn => by subst h; exact e_blt g.toGoodB (b_min g.calm) (by decide) hl (by decide +kernel) ha hn (by decide) (by decide)⟩
  else if h : x = "sum" then some ⟨sumD, fun G k call cc W X g hl e es r p pos ha hn => by subst h; exact e_blt g.toGoodB (b_sum g.K g.calm) (by decide) hl (by decide +kernel) ha hn (by decide) (by decide)⟩
  else if h : x = "all" then some ⟨allD, fun G k call cc W X g hl e es r p pos ha hn => by subst h; exact e_blt g.toGoodB (b_all g.K g.calm) (by decide) hl (by decide +kernel) ha hn (by decide) (by decide)⟩
  else if h : x = "isinstance" then some ⟨isiD, fun G k call cc W X g hl e es r p pos ha hn => by subst h; exact e_blt g.toGoodB (b_isi g.K) (by decide) hl (by decide +kernel) ha hn (by decide) (by decide)⟩
  else if h : x = "int" then some ⟨intD, fun G k call cc W X g hl e es r p pos ha hn => by subst h; exact e_ty g.toGoodB b_int (by decide) hl (by decide +kernel) ha hn (by decide) (by decide)⟩
  else if h : x = "list" then some ⟨listOfD, fun G k call cc W X g hl e es r p pos ha hn => by subst h; exact e_ty g.toGoodB (b_list g.K) (by decide) hl (by decide +kernel) ha hn (by decide) (by decide)⟩
  else if h : x = "tuple" then some ⟨tupleOfD, fun G k call cc W X g hl e es r p pos ha hn => by subst h; exact e_ty g.toGoodB (b_tuple g.K) (by decide) hl (by decide +kernel) ha hn (by decide) (by decide)⟩
  else none
def tCall (T : Tn) (cc : CC) (f : Str) (p : Pos) (pos : Pos) : (es : List Expr) → Option (CE cc (.Call (.Name f p) es [] pos))
  | [] => none
  | e :: es => if hg : glB cc.sc f = true then
      (if hf : f ∈ cc.fns then
        (if ho : okName f = true then (tA T cc (e :: es)).map fun r => if f ∈ cc.cells then ⟨mCell (mCall f r.m), fun G k call W X g => e_cell (e_call g hf (gl_of hg) (r.ok G k call W X g) r.ns (ok1 ho))⟩ else ⟨mCall f r.m, fun G k call W X g => e_call g hf (gl_of hg) (r.ok G k call W X g) r.ns (ok1 ho)⟩ else none)
      else if hw : f ∈ cc.news then
        (if ho : okName f = true then (tA T cc (e :: es)).map fun r => ⟨mNew f r.m, fun G k call W X g => e_new g hw (gl_of hg) (r.ok G k call W X g) r.ns (ok1 ho)⟩ else none)
      else (bfOf f).bind fun b => (tR_ T cc (e :: es)).map fun r => ⟨mBlt b.f r.m, fun G k call W X g => b.ok G k call cc W X g (gl_of hg) e es r.m p pos (r.ok G k call W X g) r.ns⟩)
    else none

/-! ### targets -/
def tTgN (cc : CC) (x : Str) (pos : Pos) : Option (CTg cc (.Name x pos)) :=
  if h1 : cc.N[idx cc.N x]? = some x then
    (if hl : locB cc.sc x = true then some ⟨gN (idx cc.N x), rfl, fun G k call W X g => g_name g h1 (.inl (loc_of hl))⟩
    else if hc : (celB cc.sc x && cc.top) = true then some ⟨gN (idx cc.N x), rfl, fun G k call W X g => g_name g h1 (.inr ⟨(Bool.and_eq_true_iff.mp hc).2, cel_of (Bool.and_eq_true_iff.mp hc).1⟩)⟩
    else none)
  else none
def tTgs (cc : CC) : (es : List Expr) → Option (CTs cc es)
  | [] => some ⟨gsNil, [], rfl, rfl, fun _ _ _ _ _ _ => gs_nil, fun _ _ _ _ _ _ => gso_nil⟩
  | .Name x pos :: es => (tTgN cc x pos).bind fun a => (tTgs cc es).map fun r => ⟨gsCons a.m r.m, a.m :: r.ms, by simp [a.pl, r.pl], by simp [r.ln], fun G k call W X g => gs_cons (a.ok G k call W X g) (r.ok G k call W X g) a.pl, fun G k call W X g => gso_cons (a.ok G k call W X g) (r.oks G k call W X g) a.pl⟩
  | _ => none
def tTg (cc : CC) : (e : Expr) → Option (CTg cc e)
  | .Name x pos => tTgN cc x pos
  | .Tuple es n pos => (tTgs cc es).map fun r => ⟨gT es.length r.m, rfl, fun G k call W X g => g_tup g (r.ok G k call W X g) r.pl⟩
  | _ => none
def tGaN (cc : CC) (vs : List Nat) (x : Str) (pos : Pos) : Option (CGA cc vs (.Name x pos)) :=
  if h1 : cc.N[idx cc.N x]? = some x then
    (if hl : locB cc.sc x = true then (if hv : idx cc.N x ∈ vs then some ⟨gN (idx cc.N x), rfl, fun G k call W X g => ga_name g h1 (loc_of hl) hv⟩ else none) else none)
  else none
def tGas (cc : CC) (vs : List Nat) : (es : List Expr) → Option (CGAs cc vs es)
  | [] => some ⟨gsNil, rfl, fun _ _ _ _ _ _ => gas_nil⟩
  | .Name x pos :: es => (tGaN cc vs x pos).bind fun a => (tGas cc vs es).map fun r => ⟨gsCons a.m r.m, by simp [a.pl, r.pl], fun G k call W X g => gas_cons (a.ok G k call W X g) (r.ok G k call W X g) a.pl⟩
  | _ => none
def tGa (cc : CC) (vs : List Nat) : (e : Expr) → Option (CGA cc vs e)
  | .Name x pos => tGaN cc vs x pos
  | .Tuple es n pos => (tGas cc vs es).map fun r => ⟨gT es.length r.m, rfl, fun G k call W X g => ga_tup g (r.ok G k call W X g) r.pl⟩
  | _ => none
def namesOf : Expr → List Str
  | .Name x _ => [x]
  | .Tuple es _ _ => es.filterMap fun e => match e with | .Name x _ => some x | _ => none
  | _ => []

/-! ### what is walked -/
def noSet : Expr → Bool
  | .Set .. => false
  | _ => true
theorem fs_ok {it : Expr} (h : noSet it = true) (env : Env) (x : Value) : foldedSetIterable it env x = pure x := by
  unfold foldedSetIterable
  split
  · cases h
  · rfl
def tIv (T : Tn) (cc : CC) (tg : Expr) : (it : Expr) → Option (CIv cc tg it)
  | .Call (.Name f p) args [] pos =>
    if h : f = "range" ∧ glB cc.sc "range" = true then
      (match args with
      | [a] => (tR_ T cc [a]).map fun r => ⟨iRg1 r.m, fun env x => rfl, fun G k call W X g => by rw [h.1]; exact i_range1 g (gl_of h.2) (r.ok G k call W X g) (by simpa using r.ns)⟩
      | [a, b] => (tR_ T cc [a, b]).map fun r => ⟨iRg2 r.m, fun env x => rfl, fun G k call W X g => by rw [h.1]; exact i_range2 g (gl_of h.2) (r.ok G k call W X g) (by have := r.ns; simp at this; exact this.1) (by have := r.ns; simp at this; exact this.2)⟩
      | _ => none)
    else if h : f = "enumerate" ∧ glB cc.sc "enumerate" = true then
      (match args, tg with
      | [a], .Tuple elts kk tpos => (tA T cc [a]).map fun r => if hb : cc.bare = false then ⟨iEn r.m, fun env x => rfl, fun G k call W X g => by rw [h.1]; exact i_enum g (g.bare.trans hb) (gl_of h.2) (r.ok G k call W X g) (by simpa using r.ns)⟩
        else ⟨iEnB r.m, fun env x => rfl, fun G k call W X g => by rw [h.1]; exact i_enumB g (gl_of h.2) (r.ok G k call W X g) (by simpa using r.ns)⟩
      | _, _ => none)
    else (T.e cc (.Call (.Name f p) args [] pos)).map fun a => ⟨iAny a.m, fun env x => rfl, fun G k call W X g => i_any g (a.ok G k call W X g)⟩
  | .Call (.Attribute o m apos) [] [] cpos => if h : m = "values" ∧ plainO o = true ∧ (apos.endLine == cpos.line) = true then
      (T.e cc o).map fun a => ⟨iVals_ a.m, fun env x => rfl, fun G k call W X g => by rw [h.1]; exact i_vals (a.ok G k call W X g) h.2.1 h.2.2⟩
    else (T.e cc (.Call (.Attribute o m apos) [] [] cpos)).map fun a => ⟨iAny a.m, fun env x => rfl, fun G k call W X g => i_any g (a.ok G k call W X g)⟩
  | it => if hs : noSet it = true then (T.e cc it).map fun a => ⟨iAny a.m, fs_ok hs, fun G k call W X g => i_any g (a.ok G k call W X g)⟩ else none

/-! ### comprehensions -/
theorem scope_comp {scope : Scope} {cl : List (Str × Addr)} {C : Addr} {env : Env} : (compEnvC scope cl C env).scope = relS scope env.scope := rfl
def CC.blk (cc : CC) (scope : Scope) : CC := { cc with sc := relS scope cc.sc, top := false }
theorem good_blk {G : GE} {k : Nat} {call : Call} {cc : CC} {W : WX} {X : Cx} (g : Good G k call cc W X) (scope : Scope) (s : Shared) (H : Hp) (C : Addr) (cl : List (Str × Addr)) (fp : List Addr) :
    Good G k call (cc.blk scope) noW (X.blk s H scope (compEnvC scope cl C X.env) fp) where
  N := g.N
  bare := g.bare
  nd := g.nd
  sc := by show relS scope X.env.scope = relS scope cc.sc; rw [g.sc]
  K := g.K
  units := g.units
  blt := g.blt
  con := g.con
  exs := g.exs
  xr := g.xr
  sub := g.sub
  cls := g.cls
  fld := g.fld
  isx := g.isx
  cur := fun a a' C e => by rw [g.cold] at e; cases e
  calm := g.calm
  cold := g.cold
  tk := takes0
  room := g.room
  fn := fun h => nomatch h
  po := PassesOwn.never
  stk := fun h => nomatch h
  fns := g.fns
  news := g.news
  mths := g.mths
structure CTt (cc : CC) (es : List Expr) where
  m : B
  ok : ∀ G k call W X, Good G k call cc W X → PTs X es (tB_ G W call m)
def bYes : B := fun _ s => .ok true s
theorem b_yes {G : GE} {W : WX} {call : Call} {X : Cx} : PTs X [] (tB_ G W call bYes) := ⟨fun pins s σ H Q I q => pts_nil.run pins s σ H Q I (by obtain ⟨s, Φ, c, a⟩ := q; exact a H c)⟩
def tTt (T : Tn) (cc : CC) : (es : List Expr) → Option (CTt cc es)
  | [] => some ⟨bYes, fun _ _ _ _ _ _ => b_yes⟩
  | [e] => (T.b cc e).map fun c => ⟨c.m, fun G k call W X g => pts_one (c.ok G k call W X g)⟩
  | _ => none
def tLc (T : Tn) (cc : CC) (elt tg it : Expr) (ifs : List Expr) (scope : Scope) (pos : Pos) : Option (CE cc (.ListComp elt [⟨tg, it, ifs, 0⟩] scope pos)) :=
  let own : List (Str × Nat) := (namesOf tg).map fun x => (x, idx cc.N x)
  if hb : blkC cc.N cc.sc scope own = true then
    (tIv T cc tg it).bind fun i => (tGa (cc.blk scope) (own.map (·.2)) tg).bind fun t => (tTt T (cc.blk scope) ifs).bind fun c => (T.e (cc.blk scope) elt).map fun e =>
      ⟨mLc i.m t.m c.m e.m (own.map (·.2)), fun G k call W X g => e_lc g (i.ok G k call W X g) (blkOk_by hb) (fun s H C cl fp => t.ok _ _ _ _ _ (good_blk g scope s H C cl fp)) (fun s H C cl fp => c.ok _ _ _ _ _ (good_blk g scope s H C cl fp)) (fun s H C cl fp => e.ok _ _ _ _ _ (good_blk g scope s H C cl fp)) (i.fs _)⟩
  else none

/-! ### expressions -/
def tPart (T : Tn) (cc : CC) : (e : Option Expr) → Option (CP cc e)
  | none => some ⟨pNone, fun _ _ _ _ _ _ => p_none⟩
  | some e => (T.e cc e).map fun c => ⟨pSome c.m, fun G k call W X g => p_some (c.ok G k call W X g)⟩
def tCount (T : Tn) (cc : CC) (x : Expr) (name : Str) (p : Pos) (e : Expr) (pos : Pos) : Option (CE cc (.Call (.Attribute x name p) [e] [] pos)) :=
  if h : name = "count" ∧ cc.bare = true then
    (if hc : (notStar e && plainO x && (p.endLine == pos.line)) = true then
      (T.e cc x).bind fun a => (T.e cc e).map fun b => ⟨mCnt a.m b.m, fun G k call W X g => by
        simp only [Bool.and_eq_true] at hc
        obtain ⟨h1, h2⟩ := h
        subst h1
        exact e_count g (g.bare.trans h2) (a.ok G k call W X g) (b.ok G k call W X g) hc.1.1 hc.1.2 hc.2⟩
    else none)
  else none
def isSome_ : Option Expr → Bool
  | some _ => true
  | none => false
def theKeys : List (Option Expr) → List Expr
  | some e :: r => e :: theKeys r
  | none :: r => theKeys r
  | [] => []
theorem keys_eq : ∀ {ks : List (Option Expr)}, ks.all isSome_ = true → (theKeys ks).map some = ks
  | [], _ => rfl
  | some e :: r, h => by
    simp only [List.all_cons, Bool.and_eq_true] at h
    show some e :: (theKeys r).map some = _
    rw [keys_eq h.2]
  | none :: r, h => by simp [isSome_] at h
structure CPs (cc : CC) (ks vs : List Expr) where
  ps : List (E × E)
  ok : ∀ G k call W X pos, Good G k call cc W X → PPs X pos (ks.map some) vs (ps.map fun p => (tE G W call p.1, tE G W call p.2))
def tPs (T : Tn) (cc : CC) : (ks vs : List Expr) → Option (CPs cc ks vs)
  | [], [] => some ⟨[], fun _ _ _ _ _ _ _ => pps_nil⟩
  | k :: ks, v :: vs => (T.e cc k).bind fun a => (T.e cc v).bind fun b => (tPs T cc ks vs).map fun r => ⟨(a.m, b.m) :: r.ps, fun G k' call W X pos g => pps_cons (a.ok G k' call W X g) (b.ok G k' call W X g) (r.ok G k' call W X pos g)⟩
  | _, _ => none
def tDict (T : Tn) (cc : CC) (ks : List (Option Expr)) (vs : List Expr) (pos : Pos) : Option (CE cc (.Dict ks vs pos)) :=
  if h : ks.all isSome_ = true ∧ (theKeys ks).length = vs.length ∧ theKeys ks ≠ [] ∧ (theKeys ks).length ≤ 15 then
    (tPs T cc (theKeys ks) vs).map fun r => ⟨mDisp r.ps, fun G k call W X g => by
      have := e_disp (pos := pos) (r.ok G k call W X pos g) h.2.1 h.2.2.1 h.2.2.2
      rw [keys_eq h.1] at this
      exact this⟩
  else none
def tyOf (x : Str) : Option String := if x = "str" then some "str" else if x = "tuple" then some "tuple" else if x = "list" then some "list" else if x = "int" then some "int" else if x = "bool" then some "bool" else if x = "dict" then some "dict" else none
theorem tyOf_ok {x : Str} {t : String} (h : tyOf x = some t) : x ∈ blts ∧ bootBuiltins x = some (.type t) ∧ x ≠ "__name__" ∧ (x == ("__debug__" : Str)) = false := by
  unfold tyOf at h
  repeat' (split at h)
  all_goals first | (cases h; done) | (rename_i hx; cases h; subst hx; exact ⟨by decide, by decide +kernel, by decide, by decide⟩)
structure CTy (cc : CC) (es : List Expr) where
  ts : List String
  ok : TyNames cc es ts
def tTys (cc : CC) : (es : List Expr) → Option (CTy cc es)
  | [] => some ⟨[], .nil⟩
  | .Name x p :: es => match hx : tyOf x with
    | some t => if hg : glB cc.sc x = true then (tTys cc es).map fun r => ⟨t :: r.ts, .cons (tyOf_ok hx).1 (gl_of hg) (tyOf_ok hx).2.1 (tyOf_ok hx).2.2.1 (tyOf_ok hx).2.2.2 r.ok⟩ else none
    | none => none
  | _ => none
def tIsiT (T : Tn) (cc : CC) (p : Pos) (e : Expr) (es : List Expr) (n : Nat) (tp pos : Pos) : Option (CE cc (.Call (.Name "isinstance" p) [e, .Tuple es n tp] [] pos)) :=
  if h : notStar e = true ∧ glB cc.sc "isinstance" = true then
    (T.e cc e).bind fun a => (tTys cc es).bind fun t => if hl : t.ts.length ≤ 1000 then some ⟨mOne (isiT t.ts) a.m, fun G k call W X g => e_isiT g.toGoodB (a.ok G k call W X g) h.1 (gl_of h.2) t.ok hl⟩ else none
  else none
def tMethE (T : Tn) (cc : CC) (o : Expr) (m : Str) (apos : Pos) (es : List Expr) (pos : Pos) : Option (CE cc (.Call (.Attribute o m apos) es [] pos)) :=
  if h : (cc.mths.any fun p => decide (p.2 = m)) = true ∧ fewB es.length = true ∧ plainO o = true ∧ (apos.endLine == pos.line) = true then
    (match es with
    | [] => (T.e cc o).map fun a => ⟨mMeth cc.mths m a.m aNil, fun G k call W X g => e_meth g (a.ok G k call W X g) a_nil rfl h.2.1 h.2.2.1 h.2.2.2 fun _ => rfl⟩
    | e :: es => (T.e cc o).bind fun a => (tA T cc (e :: es)).map fun r => ⟨mMeth cc.mths m a.m r.m, fun G k call W X g => e_meth g (a.ok G k call W X g) (r.ok G k call W X g) r.ns h.2.1 h.2.2.1 h.2.2.2 fun z => nomatch z⟩)
  else none
def plainA : Expr → Bool
  | .Call _ _ _ _ => false
  | _ => true
theorem plainA_ok {o : Expr} {a : Str} {env : Env} (h : plainO o = true) : attributeBase o a env (eval o env) = eval o env := base_ok h
def turnE (T : Tn) (cc : CC) : (e : Expr) → Option (CE cc e)
  | .Constant (.int i) j pos => some ⟨mCon (.int i), fun _ _ _ _ _ _ => e_int⟩
  | .Constant (.bool i) j pos => some ⟨mCon (.bl i), fun _ _ _ _ _ _ => e_bl⟩
  | .Constant (.str i) j pos => some ⟨mCon (.str i), fun _ _ _ _ _ _ => e_str⟩
  | .Constant .none j pos => some ⟨mCon .non, fun _ _ _ _ _ _ => e_non⟩
  | .Name x pos => tName cc x pos
  | .BoolOp .And es pos => tAndE T cc pos es
  | .BoolOp .Or es pos => tOrE T cc pos es
  | .UnaryOp .Not a pos => (T.e cc a).map fun c => ⟨mNot c.m, fun G k call W X g => e_not g.toGoodB (c.ok G k call W X g)⟩
  | .UnaryOp .USub a pos => (T.e cc a).map fun c => ⟨mOne negD c.m, fun G k call W X g => pe_una o_neg (c.ok G k call W X g)⟩
  | .BinOp a op b pos => (tOp2 cc.bare op).bind fun o => (T.e cc a).bind fun x => (T.e cc b).map fun y => ⟨mTwo o.f x.m y.m, fun G k call W X g => pe_bin (o.ok G X g.K g.bare) (x.ok G k call W X g) (y.ok G k call W X g)⟩
  | .Compare a [op] [b] pos => if hm : behindInMarks op b = false then
      (tCmp2 op).bind fun o => (T.e cc a).bind fun x => (T.e cc b).map fun y => ⟨mTwo o.f x.m y.m, fun G k call W X g => pe_cmp1 (o.ok G X g.K g.units) (x.ok G k call W X g) (y.ok G k call W X g) hm⟩
    else none
  | .Compare a [op, op'] [b, c] pos => if hm : behindInMarks op' c = false then
      (tCmp2 op).bind fun o => (tCmp2 op').bind fun o' => (T.e cc a).bind fun x => (T.e cc b).bind fun y => (T.e cc c).map fun z => ⟨mChain o.f o'.f x.m y.m z.m, fun G k call W X g => e_chain (o.ok G X g.K g.units) (o'.ok G X g.K g.units) (x.ok G k call W X g) (y.ok G k call W X g) (z.ok G k call W X g) hm⟩
    else none
  | .IfExp c a b pos => (T.b cc c).bind fun t => (T.e cc a).bind fun x => (T.e cc b).map fun y => ⟨mIf t.m x.m y.m, fun G k call W X g => e_if (t.ok G k call W X g) (x.ok G k call W X g) (y.ok G k call W X g)⟩
  | .Tuple es n pos => (tA T cc es).map fun r => ⟨mTup r.m, fun G k call W X g => e_tup (r.ok G k call W X g)⟩
  | .List es pos => (tA T cc es).map fun r => ⟨mLst r.m, fun G k call W X g => e_lst (r.ok G k call W X g)⟩
  | .Subscript a (.Slice lo hi none p2) pos => (T.e cc a).bind fun x => (tPart T cc lo).bind fun l => (tPart T cc hi).map fun h => ⟨mSl x.m l.m h.m, fun G k call W X g => e_sl (o_sl g.K) (x.ok G k call W X g) (l.ok G k call W X g) (h.ok G k call W X g)⟩
  | .Subscript a i pos => if hs : notSlice i = true then
      (T.e cc a).bind fun x => (T.e cc i).map fun y => ⟨mTwo atX x.m y.m, fun G k call W X g => pe_sub1 (ix_or (o_at g.K) (o_dat (hu_of' g.units))) (x.ok G k call W X g) (y.ok G k call W X g) (plain_ix hs)⟩
    else none
  | .Dict [] [] pos => some ⟨mDic0, fun _ _ _ _ _ _ => e_dic0⟩
  | .Dict ks vs pos => tDict T cc ks vs pos
  | .Attribute o f pos => if h : plainO o = true then (T.e cc o).map fun a => ⟨mOne (fldD cc.flds f) a.m, fun G k call W X g => e_fld g.toGoodB (a.ok G k call W X g) (base_ok h)⟩ else none
  | .Call (.Name f p) [e, .Tuple es n tp] [] pos => if h : f = "isinstance" then (tIsiT T cc p e es n tp pos).map fun a => ⟨a.m, fun G k call W X g => by rw [h]; exact a.ok G k call W X g⟩ else tCall T cc f p pos [e, .Tuple es n tp]
  | .Call (.Name f p) es [] pos => tCall T cc f p pos es
  | .Call (.Attribute x name p) [e] [] pos => (tCount T cc x name p e pos).orElse fun _ => tMethE T cc x name p [e] pos
  | .Call (.Attribute x name p) es [] pos => tMethE T cc x name p es pos
  | .ListComp elt [⟨tg, it, ifs, 0⟩] scope pos => tLc T cc elt tg it ifs scope pos
  | _ => none
def plainB : Expr → Bool
  | .UnaryOp .Not _ _ => false
  | .BoolOp .. => false
  | .IfExp .. => false
  | .Compare .. => false
  | _ => true
theorem plainB_ok {e : Expr} (h : plainB e = true) (env : Env) (whole : Sem Value) : isTrue e env whole = (do let v ← whole; standAt e.pos; holding [v] (truthy v)) := by
  cases e with
  | UnaryOp op a p => cases op <;> first | rfl | cases h
  | BoolOp => cases h
  | IfExp => cases h
  | Compare => cases h
  | _ => rfl
def turnB (T : Tn) (cc : CC) : (e : Expr) → Option (CB cc e)
  | .UnaryOp .Not a pos => (T.b cc a).map fun c => ⟨bNot c.m, fun G k call W X g => t_not (c.ok G k call W X g)⟩
  | .BoolOp .And es pos => (tAndB T cc pos es).map fun c => ⟨c.m, fun G k call W X g => (c.ok G k call W X g).pt⟩
  | .BoolOp .Or es pos => (tOrB T cc pos es).map fun c => ⟨c.m, fun G k call W X g => (c.ok G k call W X g).pt⟩
  | .Compare a [op] [b] pos => if hm : behindInMarks op b = false then
      (tCmp2 op).bind fun o => (T.e cc a).bind fun x => (T.e cc b).map fun y => ⟨bCmp (mTwo o.f x.m y.m), fun G k call W X g => t_cmp1 (o.ok G X g.K g.units) (x.ok G k call W X g) (y.ok G k call W X g) hm⟩
    else none
  | e => if hp : plainB e = true then (T.e cc e).map fun c => ⟨bVal c.m, fun G k call W X g => t_val g.toGoodB (c.ok G k call W X g) (plainB_ok hp)⟩ else none
end Mi

set_option Elab.async false
set_option linter.all false
set_option maxRecDepth 100000
set_option maxHeartbeats 4000000
/-! Mi, part P: the turner for statements and defs. -/
namespace Mi
open PySem PySem.Spec PyProof.Rows L2

def isStar : Expr → Bool
  | .Starred .. => true
  | _ => false
def swNames (sc : Scope) (ts : List Expr) : List Str := ts.filterMap fun
      | .Name id pos => if (sc.names.lookup id == some .local && pos.line == (ts.head?.map (·.pos.line)).getD 0) = true then some id else none
      | _ => none
def swN (sc : Scope) (ts vs : List Expr) : Option (Option (List Str)) :=
  if (!(ts.length == 2 || ts.length == 3) || vs.length != ts.length) = true then some none
  else if (vs.any fun | .Starred .. => true | _ => false) = true then some none
  else if ((swNames sc ts).length != ts.length || (swNames sc ts).eraseDups.length != (swNames sc ts).length) = true then some none
  else if vs.all (foldedForSure 8) = true then some none
  else if vs.all (constantsAlone 8) = true then none
  else some (some (swNames sc ts))
theorem sw_eq {ts vs : List Expr} {env : Env} {r : Option (List Str)} {k k2 : Nat} {p p2 : Pos} (hk : env.scope.kind = .function) (h : swN env.scope ts vs = some r) : swappedStores [.Tuple ts k p] (.Tuple vs k2 p2) env = pure r := by
  have hb : (env.blockKind != .function) = false := by unfold Env.blockKind; rw [hk]; rfl
  unfold swN at h
  unfold swappedStores
  show (if (!(ts.length == 2 || ts.length == 3) || vs.length != ts.length || env.blockKind != .function) = true then _ else _) = _
  rw [hb, Bool.or_false]
  by_cases h1 : (!(ts.length == 2 || ts.length == 3) || vs.length != ts.length) = true
  · rw [if_pos h1] at h ⊢; cases h; rfl
  · rw [if_neg h1] at h ⊢
    by_cases h2 : (vs.any fun | .Starred .. => true | _ => false) = true
    · rw [if_pos h2] at h; cases h; exact if_pos h2
    · rw [if_neg h2] at h
      refine (if_neg h2).trans ?_
      by_cases h3 : ((swNames env.scope ts).length != ts.length || (swNames env.scope ts).eraseDups.length != (swNames env.scope ts).length) = true
      · rw [if_pos h3] at h; cases h; exact if_pos h3
      · rw [if_neg h3] at h
        refine (if_neg h3).trans ?_
        by_cases h4 : vs.all (foldedForSure 8) = true
        · rw [if_pos h4] at h; cases h; exact if_pos h4
        · rw [if_neg h4] at h
          refine (if_neg h4).trans ?_
          by_cases h5 : vs.all (constantsAlone 8) = true
          · rw [if_pos h5] at h; cases h
          · rw [if_neg h5] at h; cases h
            exact if_neg h5
def noTup : Expr → Bool
  | .Tuple .. => false
  | _ => true
theorem sw_noTup {tg e : Expr} {env : Env} (h : noTup e = true) : swappedStores [tg] e env = pure none := by
  cases e <;> first | (cases tg <;> rfl) | cases h

/-! ### x op= e of ints -/
section
variable {G : GE} {k : Nat} {call : Call} {cc : CC} {W : WX} {X : Cx}
def cAug (i : Nat) (f : Int → Int → Int) (m : E) : C := fun call s => match s.σ[i]? with
  | some (some (.fz (.int a))) => (m call s).flow fun y s1 => (match peek s1 y with
    | some (.int b) => .nx ⟨s1.σ.set i (some (.fz (.int (f a b)))), s1.h⟩
    | _ => .bad)
  | _ => .bad
theorem s_aug (g : Good G k call cc W X) {op : Operator} {f : Int → Int → Int} {i : Nat} {x : Str} {e : Expr} {m : E} {p pos : Pos} (hi : cc.N[i]? = some x) (hx : cc.sc.names.lookup x = some .local ∨ (cc.top = true ∧ cc.sc.names.lookup x = some .cell)) (he : PE X e (tE G W call m)) (hp : PIp X op (ipI f)) :
    PS X (.AugAssign (.Name x p) op e pos) (tS G W call (cAug i f m)) := by
  have hl : Loc X.env.scope x := by
    rw [g.sc]
    rcases hx with h | ⟨_, h⟩
    · exact .inl h
    · exact .inr h
  have hf : X.fn x = true ∨ X.env.scope.names.lookup x = some .local := by
    rw [g.sc]
    rcases hx with h | ⟨h, _⟩
    · exact .inr h
    · exact .inl (g.fn h x)
  refine (ps_aug (i := i) (by rw [g.N]; exact g.nd) (by rw [g.N]; exact hi) hl he hp hf).of fun D σ H q => ?_
  obtain ⟨s, Φ, nb, c, q⟩ := q
  unfold cAug at q
  split at q
  · rename_i a ea
    obtain ⟨v, ev, c0⟩ := c.name ea
    have evi : v = .int a := by
      obtain ⟨ρ, M, cp⟩ := c0.parts
      exact c0.peek (r := .bor i) (d := .int a) (by simp) (by simp [Mi.peek, ea, Mi.frz, deref]) cp
    subst evi
    refine ⟨.int a, ev, s, Φ, c, (AftS.flow q).mono fun y s1 a1 => fun yv H1 c1 => ?_⟩
    split at a1
    · rename_i b eb
      obtain ⟨ρ, M, cp⟩ := c1.parts
      have eyv : yv = .int b := c1.peek (by simp) eb cp
      refine ⟨a, b, rfl, eyv, a1 _ H1 ?_⟩
      have hlen : i < s1.σ.length := by
        rw [c1.sl.len, ← c.sl.len]
        rcases Nat.lt_or_ge i s.σ.length with z | z
        · exact z
        · rw [List.getElem?_eq_none z] at ea; cases ea
      exact (c1.drop.simple (d := .int (f a b)) rfl).put nb hlen
    · exact a1.elim
  · exact q.elim
end

/-! ### within a suite -/
def keepH (m : E) : Prop := ∀ call s r s', m call s = .ok r s' → s'.h = s.h
theorem kh_con {d : D} : keepH (mCon d) := fun call s r s' e => by cases e; rfl
theorem kh_var {i : Nat} : keepH (mVar i) := fun call s r s' e => by
  unfold mVar at e
  split at e
  · cases e; rfl
  · cases e
theorem bind_ok {α β : Type} {x : Out α} {f : α → S → Out β} {r : β} {s' : S} (e : x.bind f = .ok r s') : ∃ a s1, x = .ok a s1 ∧ f a s1 = .ok r s' := by
  cases x with
  | ok a s1 => exact ⟨a, s1, rfl, e⟩
  | exc c d s1 => cases e
  | bad => cases e
theorem lift_ok {α : Type} {s s' : S} {x : Option α} {r : α} (e : lift s x = .ok r s') : s' = s := by
  cases x with
  | none => cases e
  | some a => cases e; rfl
theorem take_h {s s' : S} {r : R} {d : D} (e : take s r = some (d, s')) : s'.h = s.h := by
  cases r with
  | own o => cases e; rfl
  | bor i =>
    simp only [take] at e
    split at e
    · cases e; rfl
    · cases e
theorem kh_one {f : D → Option O} {m : E} (h : keepH m) : keepH (mOne f m) := fun call s r s' e => by
  obtain ⟨a, s1, e1, e2⟩ := bind_ok e
  rw [lift_ok e2]; exact h call s a s1 e1
theorem kh_two {f : D → D → Option O} {m n : E} (h : keepH m) (h2 : keepH n) : keepH (mTwo f m n) := fun call s r s' e => by
  obtain ⟨a, s1, e1, e2⟩ := bind_ok e
  obtain ⟨b, s2, e3, e4⟩ := bind_ok e2
  rw [lift_ok e4, h2 call s1 b s2 e3]; exact h call s a s1 e1
structure CHs (cc : CC) (es : List Expr) where
  m : As
  ns : es.all notStar = true
  ok : ∀ G call W X, GoodB G cc X → PA X es (tL G W call m)
  keep : ∀ call s r s', m call s = .ok r s' → s'.h = s.h
def hAs (T : ∀ e, Option (CH cc e)) : (es : List Expr) → Option (CHs cc es)
  | [] => some ⟨aNil, rfl, fun _ _ _ _ _ => a_nil, fun call s r s' e => by cases e; rfl⟩
  | e :: es => if hn : notStar e = true then (T e).bind fun a => (hAs T es).map fun r => ⟨aCons a.m r.m, by simp [hn, r.ns], fun G call W X g => a_cons (a.ok G call W X g) (r.ok G call W X g) hn, fun call s x s' e => by
      obtain ⟨b, s1, e1, e2⟩ := bind_ok e
      have h1 := a.keep call s b s1 e1
      cases et : take s1 b with
      | none => simp only [et] at e2; cases e2
      | some p =>
        obtain ⟨d, s2⟩ := p
        simp only [et] at e2
        obtain ⟨ds, s3, e3, e4⟩ := bind_ok e2
        have h3 := r.keep call s2 ds s3 e3
        have h2 := take_h et
        cases e4
        exact h3.trans (h2.trans h1)⟩
    else none
def hE : Nat → (cc : CC) → (e : Expr) → Option (CH cc e)
  | 0, _, _ => none
  | _ + 1, cc, .Constant (.int i) j pos => some ⟨mCon (.int i), fun _ _ _ _ _ => e_int, kh_con⟩
  | _ + 1, cc, .Constant (.bool i) j pos => some ⟨mCon (.bl i), fun _ _ _ _ _ => e_bl, kh_con⟩
  | _ + 1, cc, .Constant (.str i) j pos => some ⟨mCon (.str i), fun _ _ _ _ _ => e_str, kh_con⟩
  | _ + 1, cc, .Constant .none j pos => some ⟨mCon .non, fun _ _ _ _ _ => e_non, kh_con⟩
  | _ + 1, cc, .Name x pos => if h : okName x = true ∧ visB cc.sc x = true ∧ cc.N[idx cc.N x]? = some x then some ⟨mVar (idx cc.N x), fun G call W X g => e_var g h.2.2 (vis_of h.2.1) (ok1 h.1) (ok2 h.1), kh_var⟩ else none
  | n + 1, cc, .Attribute o f pos => if h : plainO o = true then (hE n cc o).map fun a => ⟨mOne (fldD cc.flds f) a.m, fun G call W X g => e_fld g (a.ok G call W X g) (base_ok h), kh_one a.keep⟩ else none
  | n + 1, cc, .List es pos => (hAs (hE n cc) es).map fun r => ⟨mLst r.m, fun G call W X g => e_lst (r.ok G call W X g), fun call s x s' e => by
      obtain ⟨ds, s1, e1, e2⟩ := bind_ok e
      have h1 := r.keep call s ds s1 e1
      split at e2
      · cases e2; exact h1
      · cases e2⟩
  | n + 1, cc, .Call (.Name f p) [e, .Name nm p2] [] pos => if h : f = "isinstance" ∧ notStar e = true ∧ glB cc.sc "isinstance" = true ∧ glB cc.sc nm = true ∧ okName nm = true then
      (hE n cc e).map fun a => ⟨mOne (isxD cc.isx nm) a.m, fun G call W X g => by rw [h.1]; exact e_isx g (a.ok G call W X g) h.2.1 (gl_of h.2.2.1) (gl_of h.2.2.2.1) (ok1 h.2.2.2.2), kh_one a.keep⟩
    else none
  | n + 1, cc, .Compare a [op] [b] pos => if hm : behindInMarks op b = false then (tCmp2 op).bind fun o => (hE n cc a).bind fun x => (hE n cc b).map fun y => ⟨mTwo o.f x.m y.m, fun G call W X g => pe_cmp1 (o.ok G X g.K g.units) (x.ok G call W X g) (y.ok G call W X g) hm, kh_two x.keep y.keep⟩ else none
  | _ + 1, _, _ => none
structure CHd (cc : CC) (hds : List ExceptHandler) where
  l : List (Str × Option Nat × E)
  t : HdT cc hds l
def excF (xs : List (Str × Str)) (c : Str) : Option Str := (xs.find? fun p => decide (p.1 = c)).map (·.2)
theorem excF_mem {xs : List (Str × Str)} {c f : Str} (h : excF xs c = some f) : (c, f) ∈ xs := by
  simp only [excF, Option.map_eq_some_iff] at h
  obtain ⟨p, hp, e⟩ := h
  have h1 := List.mem_of_find?_eq_some hp
  have h2 : p.1 = c := by simpa using List.find?_some hp
  obtain ⟨a, b⟩ := p
  simp only at h2 e
  subst h2; subst e
  exact h1
def tHds (cc : CC) : (hds : List ExceptHandler) → Option (CHd cc hds)
  | [] => some ⟨[], .nil⟩
  | .ExceptHandler (some (.Name x np)) (some n) [.Return (some e) rp] pos' :: hds => match hf : excF cc.exs x with
    | some f => if h : glB cc.sc x = true ∧ cc.N[idx cc.N n]? = some n ∧ locB cc.sc n = true then (hE 12 cc e).bind fun m => (tHds cc hds).map fun r => ⟨(x, some (idx cc.N n), m.m) :: r.l, .named (excF_mem hf) (gl_of h.1) (idx cc.N n) h.2.1 (loc_of h.2.2) m r.t⟩ else none
    | none => none
  | .ExceptHandler (some (.Name x np)) none [.Return (some e) rp] pos' :: hds => match hf : excF cc.exs x with
    | some f => if h : glB cc.sc x = true then (hE 12 cc e).bind fun m => (tHds cc hds).map fun r => ⟨(x, none, m.m) :: r.l, .bare (excF_mem hf) (gl_of h) m r.t⟩ else none
    | none => none
  | _ => none
/-! ### statements -/
def tSs (T : Tn) (cc : CC) : (sts : List Stmt) → Option (CSs cc sts)
  | [] => some ⟨cNil, fun _ _ _ _ _ _ => s_nil⟩
  | st :: r => (T.s cc st).bind fun a => (tSs T cc r).map fun b => ⟨cSeq a.m b.m, fun G k call W X g => s_cons (a.ok G k call W X g) (b.ok G k call W X g)⟩
def tMeth1 (T : Tn) (cc : CC) (x : Expr) (name : Str) (p : Pos) (e : Expr) (pos spos : Pos) : Option (CS cc (.Expr (.Call (.Attribute x name p) [e] [] pos) spos)) :=
  if h : name = "append" then
    (if hc : (notStar e && plainO x && (p.endLine == pos.line)) = true then
      (T.e cc x).bind fun a => (T.e cc e).map fun b => ⟨cApp a.m b.m, fun G k call W X g => by
        simp only [Bool.and_eq_true] at hc
        subst h
        exact s_app g (a.ok G k call W X g) (b.ok G k call W X g) hc.1.1 hc.1.2 hc.2⟩
    else none)
  else none
def tMeth0 (T : Tn) (cc : CC) (x : Expr) (name : Str) (p : Pos) (pos spos : Pos) : Option (CS cc (.Expr (.Call (.Attribute x name p) [] [] pos) spos)) :=
  if h : name = "pop" then
    (if hc : (plainO x && (p.endLine == pos.line)) = true then
      (T.e cc x).map fun a => ⟨cPop a.m, fun G k call W X g => by
        simp only [Bool.and_eq_true] at hc
        subst h
        exact s_pop g (a.ok G k call W X g) hc.1 hc.2⟩
    else none)
  else none
def funK (sc : Scope) : Bool := match sc.kind with
  | .function => true
  | _ => false
theorem funK_of {sc : Scope} (h : funK sc = true) : sc.kind = .function := by
  unfold funK at h
  split at h
  · assumption
  · cases h
def tPar (T : Tn) (cc : CC) (ts vs : List Expr) (k1 : Nat) (p1 : Pos) (k2 : Nat) (p2 pos : Pos) : Option (CS cc (.Assign [.Tuple ts k1 p1] (.Tuple vs k2 p2) pos)) :=
  if hk : funK cc.sc = true then
    (match hs : swN cc.sc ts vs with
    | some none => (tR_ T cc vs).bind fun r => (tTgs cc ts).map fun t => ⟨cMul r.m t.ms, fun G k call W X g => s_mul g (r.ok G k call W X g) (t.oks G k call W X g) t.pl t.ln (sw_eq (by rw [g.sc]; exact funK_of hk) (by rw [g.sc]; exact hs))⟩
    | some (some names) => (match ts, vs, names, hs with
      | [.Name x px, .Name y py], [a, b], [x', y'], hs =>
        if hc : (x = x' ∧ y = y' ∧ cc.N[idx cc.N x]? = some x ∧ cc.N[idx cc.N y]? = some y ∧ idx cc.N x ≠ idx cc.N y ∧ locB cc.sc x = true ∧ locB cc.sc y = true) then
          (tR_ T cc [a, b]).map fun r => ⟨cMul r.m [gN (idx cc.N x), gN (idx cc.N y)], fun G k call W X g => by
            obtain ⟨rfl, rfl, h1, h2, h3, h4, h5⟩ := hc
            exact s_par2 g h1 h2 h3 (loc_of h4) (loc_of h5) (r.ok G k call W X g) (sw_eq (by rw [g.sc]; exact funK_of hk) (by rw [g.sc]; exact hs))⟩
        else none
      | [.Name x px, .Name y py, .Name z pz], [a, b, c], [x', y', z'], hs =>
        if hc : (x = x' ∧ y = y' ∧ z = z' ∧ cc.N[idx cc.N x]? = some x ∧ cc.N[idx cc.N y]? = some y ∧ cc.N[idx cc.N z]? = some z ∧ idx cc.N x ≠ idx cc.N y ∧ idx cc.N x ≠ idx cc.N z ∧ idx cc.N y ≠ idx cc.N z ∧ locB cc.sc x = true ∧ locB cc.sc y = true ∧ locB cc.sc z = true) then
          (tR_ T cc [a, b, c]).map fun r => ⟨cMul r.m [gN (idx cc.N x), gN (idx cc.N y), gN (idx cc.N z)], fun G k call W X g => by
            obtain ⟨rfl, rfl, rfl, h1, h2, h3, h4, h5, h6, h7, h8, h9⟩ := hc
            exact s_par3 g h1 h2 h3 h4 h5 h6 (loc_of h7) (loc_of h8) (loc_of h9) (r.ok G k call W X g) (sw_eq (by rw [g.sc]; exact funK_of hk) (by rw [g.sc]; exact hs))⟩
        else none
      | _, _, _, _ => none)
    | none => none)
  else none
def tSetLc (T : Tn) (cc : CC) (y : Str) (py : Pos) (elt tg it : Expr) (ifs : List Expr) (scope : Scope) (pos spos : Pos) : Option (CS cc (.Assign [.Name y py] (.ListComp elt [⟨tg, it, ifs, 0⟩] scope pos) spos)) :=
  let own : List (Str × Nat) := (namesOf tg).map fun x => (x, idx cc.N x)
  if hb : blkC cc.N cc.sc scope own = true then
    (if hc : (cc.N[idx cc.N y]? = some y ∧ locB cc.sc y = true ∧ funK cc.sc = true ∧ (py.line == pos.line) = true ∧ (scope.names.any fun (n, k) => n == y && (k == .local || k == .cell)) = false) then
      (tIv T cc tg it).bind fun i => (tGa (cc.blk scope) (own.map (·.2)) tg).bind fun t => (tTt T (cc.blk scope) ifs).bind fun c => (T.e (cc.blk scope) elt).map fun e =>
        ⟨cAsg (mLc i.m t.m c.m e.m (own.map (·.2))) (gN (idx cc.N y)), fun G k call W X g => s_setLc g hc.1 (loc_of hc.2.1) (funK_of hc.2.2.1) hc.2.2.2.1 hc.2.2.2.2 (i.ok G k call W X g) (blkOk_by hb) (fun s H C cl fp => t.ok _ _ _ _ _ (good_blk g scope s H C cl fp)) (fun s H C cl fp => c.ok _ _ _ _ _ (good_blk g scope s H C cl fp)) (fun s H C cl fp => e.ok _ _ _ _ _ (good_blk g scope s H C cl fp)) (i.fs _)⟩
    else none)
  else none
theorem sw_cell {y : Str} {py : Pos} {elt : Expr} {gs : List Comprehension} {scope : Scope} {pos : Pos} {l : Nat} {env : Env} (h : env.scope.names.lookup y = some .cell) : swapsWith (.ListComp elt gs scope pos) (some (.Name y py)) l env = pure false := by
  unfold swapsWith
  have hk : env.kindOf y = some .cell := h
  simp only [hk]
  have h2 : ((some NameKind.cell == some NameKind.local) : Bool) = false := by decide
  simp [h2]
def tSetLcC (T : Tn) (cc : CC) (y : Str) (py : Pos) (elt tg it : Expr) (ifs : List Expr) (scope : Scope) (pos spos : Pos) : Option (CS cc (.Assign [.Name y py] (.ListComp elt [⟨tg, it, ifs, 0⟩] scope pos) spos)) :=
  if hc : (celB cc.sc y && cc.top) = true then
    (if h1 : cc.N[idx cc.N y]? = some y then
      (tLc T cc elt tg it ifs scope pos).map fun a => ⟨cAsg a.m (gN (idx cc.N y)), fun G k call W X g =>
        have hg : PG X (.Name y py) (tG G (gN (idx cc.N y))) := g_name g h1 (.inr ⟨(Bool.and_eq_true_iff.mp hc).2, cel_of (Bool.and_eq_true_iff.mp hc).1⟩)
        have hsw : swapsWithSole [.Name y py] (.ListComp elt [⟨tg, it, ifs, 0⟩] scope pos) spos.line X.env = pure false := by
          show swapsWith (.ListComp elt [⟨tg, it, ifs, 0⟩] scope pos) (some (.Name y py)) spos.line X.env = pure false
          exact sw_cell (by rw [g.sc]; exact cel_of (Bool.and_eq_true_iff.mp hc).1)
        (ps_asg (a.ok G k call W X g) hg hsw rfl rfl).of fun D σ H q => tAsg_of q⟩
    else none)
  else none
def tTry (T : Tn) (cc : CC) (body : List Stmt) (h0 : ExceptHandler) (hds : List ExceptHandler) (pos : Pos) : Option (CS cc (.Try body (h0 :: hds) [] [] pos)) :=
  if ht : cc.top = true then
    (tSs T cc body).bind fun b => (tHds cc (h0 :: hds)).map fun r => ⟨cTry cc.exs b.m r.l, fun G k call W X g => s_try g ht (fun W' X' g' => b.ok G k call W' X' g') r.t⟩
  else none
def tRaise (T : Tn) (cc : CC) (c : Str) (p : Pos) (e : Expr) (pos pos2 : Pos) : Option (CS cc (.Raise (some (.Call (.Name c p) [e] [] pos)) none pos2)) := match hf : excF cc.exs c with
  | some f => if h : glB cc.sc c = true ∧ notStar e = true then (tA T cc [e]).map fun r => ⟨cRaise c r.m, fun G k call W X g => s_raise g (excF_mem hf) (gl_of h.1) (r.ok G k call W X g) h.2⟩ else none
  | none => none
def turnS (T : Tn) (cc : CC) : (st : Stmt) → Option (CS cc st)
  | .Return (some e) pos => (T.e cc e).map fun a => ⟨cRet a.m, fun G k call W X g => s_ret (a.ok G k call W X g)⟩
  | .Return none pos => some ⟨cRetN, fun _ _ _ _ _ _ => s_retN⟩
  | .Pass pos => some ⟨cPass, fun _ _ _ _ _ _ => s_pass⟩
  | .Break pos => some ⟨cBrk, fun _ _ _ _ _ _ => s_brk⟩
  | .Continue pos => some ⟨cCnt, fun _ _ _ _ _ _ => s_cnt⟩
  | .If c a b pos => (T.b cc c).bind fun x => (tSs T cc a).bind fun y => (tSs T cc b).map fun z => ⟨cIf x.m y.m z.m, fun G k call W X g => s_if (x.ok G k call W X g) (y.ok G k call W X g) (z.ok G k call W X g)⟩
  | .For tg it b [] pos => (tIv T cc tg it).bind fun i => (tTg cc tg).bind fun t => (tSs T cc b).map fun y => ⟨cFor i.m t.m y.m, fun G k call W X g => s_for g (i.ok G k call W X g) (t.ok G k call W X g) (y.ok G k call W X g) (i.fs _)⟩
  | .While c b [] pos => (T.b cc c).bind fun x => (tSs T cc b).map fun y => ⟨cWhile x.m y.m, fun G k call W X g => s_while g (x.ok G k call W X g) (y.ok G k call W X g)⟩
  | .Try body (h0 :: hds) [] [] pos => tTry T cc body h0 hds pos
  | .Raise (some (.Call (.Name c p) [e] [] pos)) none pos2 => tRaise T cc c p e pos pos2
  | .Expr (.Call (.Attribute x name p) [e] [] pos) spos => tMeth1 T cc x name p e pos spos
  | .Expr (.Call (.Attribute x name p) [] [] pos) spos => tMeth0 T cc x name p pos spos
  | .Expr e pos => if hn : noComp e = true then (T.e cc e).map fun a => ⟨cExpr a.m, fun G k call W X g => s_expr (a.ok G k call W X g) hn⟩ else none
  | .AugAssign (.Name x p) .Add e pos => if h1 : cc.N[idx cc.N x]? = some x then (if hl : locB cc.sc x = true then (T.e cc e).map fun a => ⟨cAug (idx cc.N x) (· + ·) a.m, fun G k call W X g => s_aug g h1 (.inl (loc_of hl)) (a.ok G k call W X g) ip_add⟩ else none) else none
  | .Assign [.Tuple ts k1 p1] (.Tuple vs k2 p2) pos => tPar T cc ts vs k1 p1 k2 p2 pos
  | .Assign [.Name y py] (.ListComp elt [⟨tg, it, ifs, 0⟩] scope pos) spos => (tSetLc T cc y py elt tg it ifs scope pos spos).orElse fun _ => tSetLcC T cc y py elt tg it ifs scope pos spos
  | .Assign [.Subscript x i p] e pos => if hn : noComp e = true then
      (if hs : notSlice i = true then (T.e cc e).bind fun a => (T.e cc x).bind fun b => (T.e cc i).map fun c => ⟨cSetX a.m b.m c.m, fun G k call W X g => s_setX g (a.ok G k call W X g) (b.ok G k call W X g) (c.ok G k call W X g) hn hs⟩ else none)
    else none
  | .Assign [.Attribute o f p] e pos => if hn : noComp e = true then (T.e cc e).bind fun a => (T.e cc o).map fun b => ⟨cFld cc.flds a.m b.m f, fun G k call W X g => s_fld g (a.ok G k call W X g) (b.ok G k call W X g) (noComp_sw hn)⟩ else none
  | .Assign [tg] e pos => if hn : noComp e = true then
      (if hw : (noTup e || noSw tg) = true then (T.e cc e).bind fun a => (tTg cc tg).map fun t => ⟨cAsg a.m t.m, fun G k call W X g => s_asg (a.ok G k call W X g) (t.ok G k call W X g) hn (by
          rcases Bool.or_eq_true_iff.mp hw with h | h
          · exact sw_noTup h
          · exact sw_none h) t.pl⟩
      else none)
    else none
  | _ => none
def Tn.at : Nat → Tn
  | 0 => ⟨fun _ _ => none, fun _ _ => none, fun _ _ => none⟩
  | n + 1 => ⟨turnE (Tn.at n), turnB (Tn.at n), turnS (Tn.at n)⟩
def turn (cc : CC) (sts : List Stmt) : Option (CSs cc sts) := tSs (Tn.at 40) cc sts

/-! ### defs -/
structure MFn where
  N : List Str
  np : Nat
  body : C
def start0 (N : List Str) (ds : List D) : List (Option O) := ds.map (fun d => some (.fz d)) ++ List.replicate (N.length - ds.length) none
def runFn (mf : MFn) (call : Call) (ds : List D) (h : List O) : Res := if ds.length = mf.np then (match mf.body call ⟨start0 mf.N ds, h⟩ with
  | .rt o s => .ok o s.h
  | .nx s => .ok (.fz .non) s.h
  | .exc c d s => .exc c d s.h
  | _ => .bad) else .bad
def callN (tab : Str → Option MFn) : Nat → Call
  | 0 => fun _ _ _ => .bad
  | k + 1 => fun f ds h => match tab f with
    | some mf => runFn mf (callN tab k) ds h
    | none => .bad
section
variable {P : Program} {w : World} {mg : Str → Option Value} {base : Heap} {G : GE}
theorem slp_start : ∀ {ds : List D} {vs : List V} (n : Nat), ds.length = vs.length → slp (ds.map (fun d => some (.fz d)) ++ List.replicate n none) (vs.map some ++ List.replicate n none) = Fz ds vs
  | [], [], n, _ => by
    show slp (List.replicate n none) (List.replicate n none) = []
    induction n with
    | zero => rfl
    | succ n ih => rw [List.replicate_succ, List.replicate_succ]; exact ih
  | d :: ds, v :: vs, n, l => by
    show (O.fz d, v) :: slp (ds.map (fun d => some (.fz d)) ++ List.replicate n none) (vs.map some ++ List.replicate n none) = (O.fz d, v) :: Fz ds vs
    rw [slp_start n (by simpa using l)]
  | [], _ :: _, _, l => by simp at l
  | _ :: _, [], _, l => by simp at l
theorem slok_start {ds : List D} {vs : List V} (n : Nat) (l : ds.length = vs.length) : SlOk (ds.map (fun d => some (O.fz d)) ++ List.replicate n none) (vs.map some ++ List.replicate n none) := by
  refine ⟨by simp [l], fun i o q => ?_⟩
  by_cases hi : i < ds.length
  · have hv : i < vs.length := by omega
    exact ⟨vs[i], by rw [List.getElem?_append_left (by simpa using hv)]; simp [hv]⟩
  · rw [List.getElem?_append_right (by simpa using hi)] at q
    simp only [List.getElem?_replicate] at q
    split at q <;> cases q
/-- what the turner is told of a program -/
structure PD where
  con : Str → Option D
  names : List Str
  cells : List Str
  exs : List (Str × Str) := []
  flds : List (Str × Str) := []
  news : List Str := []
  mths : List (Str × Str) := []
  isx : List (Str × Str × Bool) := []
def PD.cc (pd : PD) (bare : Bool) (N : List Str) (sc : Scope) : CC := ⟨N, sc, pd.con, pd.names, true, bare, pd.cells, pd.exs, pd.flds, pd.news, pd.mths, pd.isx⟩
/-- what stands behind the top -/
structure Glob (G : GE) (mg : Str → Option Value) (pd : PD) : Prop where
  blt : ∀ x ∈ blts, mg x = none
  con : ∀ x d v, pd.con x = some d → simple d = some v → ∃ u, mg x = some u ∧ RelV v u
  exs : ∀ c f, (c, f) ∈ pd.exs → ∃ C, G.exc c = some (C, f)
  xr : ∀ c C f, G.exc c = some (C, f) → XRow G.K mg c C f
  sub : ∀ c C f c' C' f', G.exc c = some (C, f) → G.exc c' = some (C', f') → PySem.W.exmOne G.K (.ref C) (.ref C') = some (decide (c = c'))
  cls : ∀ c C, G.cls c = some C → L2.Cls G.K C ∧ mg c = some (.ref C)
  fld : ∀ c C f, G.cls c = some C → (c, f) ∈ pd.flds → NoAttr G.K C f
  isx : ∀ c C f nm b, G.exc c = some (C, f) → (c, nm, b) ∈ pd.isx → ExcC G.K C ∧ ∃ u cv, RelV u cv ∧ (∀ w, RelV u w → w = cv) ∧ ((mg nm = some cv) ∨ (mg nm = none ∧ bootBuiltins nm = some cv ∧ nm ≠ "__name__")) ∧ PySem.W.kitOne G.K (.ref C) cv = some b
  cold : G.cur = none
/-- a def as it stands, with or without defaults -/
structure FunA (K : PySem.W.Frag) (st : Stmt) (a : Addr) (fd : FuncData) : Prop where
  ex : ∃ (x qual : Str) (oc : Value) (od : Option Addr) (dV kV doc pm : Value) (an : Option Addr) (cdv ct : Value) (osl : Array (Option Value)),
    fd = PySem.W.fnOf x qual (defArgs st) (defBody st) (defScope st) dV kV doc pm an cdv ct ∧ K.lookup a = some ⟨oc, od, .func fd, osl⟩ ∧ PySem.W.codeIn K cdv qual = true
structure DefAt (G : GE) (pd : PD) (tab : Str → Option MFn) (f : Str) (a : Addr) (fd : FuncData) (ps : List Str) : Prop where
  ex : ∃ (st : Stmt) (N : List Str) (c : CSs (pd.cc G.bare N (defScope st)) (defBody st)), FunA G.K st a fd ∧ FnScope N ps (defScope st) ∧ tab f = some ⟨N, ps.length, c.m⟩
  b : Binds G.K fd ps []
structure Rows (G : GE) (mg : Str → Option Value) (pd : PD) (tab : Str → Option MFn) : Prop where
  fns : ∀ f ∈ pd.names, ∃ a fd ps, G.fns f = some a ∧ mg f = some (.ref a) ∧ PySem.W.keepIn G.K (.ref a) = true ∧ DefAt G pd tab f a fd ps
  news : ∀ c ∈ pd.news, ∃ C a fd ps, G.cls c = some C ∧ Mk G.K C a ∧ DefAt G pd tab (mkey c "__init__") a fd ps
  mths : ∀ c m, (c, m) ∈ pd.mths → ∃ C a fd ps, G.cls c = some C ∧ Meth G.K C m a ∧ DefAt G pd tab (mkey c m) a fd ps
/-- a def keeps its promise, if those that it calls keep theirs -/
theorem fn_ok {pd : PD} {tab : Str → Option MFn} {k : Nat} {f : Str} {a : Addr} {fd : FuncData} {ps : List Str} (gl : Glob G mg pd) (rows : Rows G mg pd tab)
    (ih : ∀ f a fd ps, DefAt G pd tab f a fd ps → FnOk P w G.K mg base (L2.CX P w) (2 * k + 2) a fd ps (spC G (callN tab k) f ps.length) ∧ ∀ ds h, ds.length ≠ ps.length → callN tab k f ds h = .bad)
    (Df : DefAt G pd tab f a fd ps) : FnOk P w G.K mg base (L2.CX P w) (2 * k + 3 + 1) a fd ps (spC G (callN tab (k + 1)) f ps.length) := by
  obtain ⟨st, N, c, ⟨x, qual, oc, od, dV, kV, doc, pm, an, cdv, ct, osl, rfl, lk, hcd⟩, S, ht⟩ := Df.ex
  refine fn_of lk hcd S (fun vs H Q E h => h.1) fun A outer s H vs Q E hr h => ?_
  obtain ⟨hl, h0, Φ, ds, ld, cf, aft⟩ := h
  have hpl : ps.length ≤ N.length := by have z := congrArg List.length S.pre; rw [List.length_take] at z; omega
  let XX : Cx := cxOf (L2.CX P w) P w G.K mg base N qual (defScope st) a cdv A outer s H E
  have gb : GoodB G (pd.cc G.bare N (defScope st)) XX := ⟨rfl, rfl, S.nd, rfl, rfl, hr.units, gl.blt, gl.con, gl.exs, gl.xr, gl.sub, gl.cls, gl.fld, gl.isx, fun a a' C e => by rw [gl.cold] at e; cases e⟩
  have g : Good G k (callN tab k) (pd.cc G.bare N (defScope st)) (fun cls d _ H => E cls d H) XX := ⟨gb, rfl, gl.cold, takes_of rfl rfl rfl rfl, hr, fun _ _ => rfl, passes_of rfl, fun _ => ⟨rfl, rfl⟩, fun f hf => by
      obtain ⟨a, fd, ps, g1, g2, g3, Df⟩ := rows.fns f hf
      exact ⟨a, fd, ps, g1, g2, g3, Df.b, (ih f a fd ps Df).1, (ih f a fd ps Df).2⟩, fun c hc => by
      obtain ⟨C, a, fd, ps, g1, g2, Df⟩ := rows.news c hc
      exact ⟨C, a, fd, ps, g1, g2, Df.b, (ih _ a fd ps Df).1, (ih _ a fd ps Df).2⟩, fun c m hm => by
      obtain ⟨C, a, fd, ps, g1, g2, Df⟩ := rows.mths c m hm
      exact ⟨C, a, fd, ps, g1, g2, Df.b, (ih _ a fd ps Df).1, (ih _ a fd ps Df).2⟩⟩
  refine ⟨_, c.ok G k (callN tab k) _ _ g, ⟨start0 N ds, h0⟩, ownR Φ, nob_ownR, ⟨?_, fun i v z => absurd z (nob_ownR i v), ?_⟩, ?_⟩
  · show SlOk (start0 N ds) (L2.start N vs)
    unfold start0 L2.start
    rw [ld]
    exact slok_start _ ld
  · show Cf G H h0 (slp (start0 N ds) (L2.start N vs) ++ ow (ownR Φ))
    unfold start0 L2.start
    rw [ld, slp_start _ ld, ow_ownR]
    exact cf
  · simp only [callN, ht, runFn, ld.trans hl, if_true] at aft
    cases e : c.m (callN tab k) ⟨start0 N ds, h0⟩ with
    | nx s1 =>
      simp only [e] at aft
      intro σ1 H1 c1
      refine aft .non H1 ?_
      have c2 := (c1.simple (d := .non) rfl).cf
      rw [show ow ((R.own (.fz .non), V.non) :: ownR Φ) = (.fz .non, .non) :: Φ by show _ :: ow (ownR Φ) = _; rw [ow_ownR]] at c2
      exact Cf.dropN c2
    | rt o s1 =>
      simp only [e] at aft
      intro σ1 v H1 c1
      refine aft v H1 ?_
      have c2 := c1.cf
      rw [show ow ((R.own o, v) :: ownR Φ) = (o, v) :: Φ by show _ :: ow (ownR Φ) = _; rw [ow_ownR]] at c2
      exact Cf.dropN c2
    | exc cn d s1 =>
      simp only [e] at aft
      rintro σ1 cls dx H1 ⟨C, fl, b, v, e1, e2, e3, e4, c5⟩
      subst e1; subst e3
      refine aft C fl b v H1 e2 e4 ?_
      have c2 := c5.cf
      rw [show ow ((R.own (.fz d), v) :: ownR Φ) = (.fz d, v) :: Φ by show _ :: ow (ownR Φ) = _; rw [ow_ownR]] at c2
      exact Cf.dropN c2
    | bk s1 => simp only [e] at aft; exact aft.elim
    | ct s1 => simp only [e] at aft; exact aft.elim
    | bad => simp only [e] at aft; exact aft.elim
theorem all_ok {pd : PD} {tab : Str → Option MFn} (gl : Glob G mg pd) (rows : Rows G mg pd tab) (k : Nat) :
    ∀ f a fd ps, DefAt G pd tab f a fd ps → FnOk P w G.K mg base (L2.CX P w) (2 * k + 2) a fd ps (spC G (callN tab k) f ps.length) ∧ ∀ ds h, ds.length ≠ ps.length → callN tab k f ds h = .bad := by
  induction k with
  | zero =>
    intro f a fd ps Df
    refine ⟨⟨fun vs H Q E h => h.1, fun A outer s H args us vs Q E hr he hb hv h => ?_⟩, fun ds h _ => rfl⟩
    obtain ⟨_, h0, Φ, ds, ld, cf, aft⟩ := h
    exact aft.elim
  | succ k ih =>
    intro f a fd ps Df
    refine ⟨fn_ok gl rows ih Df, fun ds h hl => ?_⟩
    obtain ⟨st, N, c, _, _, ht⟩ := Df.ex
    simp only [callN, ht, runFn, if_neg hl]
end
end Mi

set_option Elab.async false
set_option linter.all false
set_option maxRecDepth 100000
set_option maxHeartbeats 4000000
/-! Mi, part Q: a law's end. -/
namespace Mi
open PySem PySem.Spec PyProof.Rows L2

def dedup : List Str → List Str → List Str
  | [], acc => acc.reverse
  | x :: r, acc => if acc.contains x then dedup r acc else dedup r (x :: acc)
/-- the names of a def by slots -/
def mkN (st : Stmt) : List Str :=
  dedup ((defArgs st).args.map (·.arg) ++ ((defScope st).names.filterMap fun (n, k) => match k with | .local => some n | .cell => some n | _ => none) ++ ((defScope st).more.filterMap fun (n, c) => match c with | .str x => if n == ("fast" : Str) then some x else none | _ => none)) []
def mkP (st : Stmt) : List Str := (defArgs st).args.map (·.arg)
def conOf (l : List (Str × D)) (x : Str) : Option D := match l with
  | [] => none
  | (y, d) :: r => if x = y then some d else conOf r x
def funScB (N ps : List Str) (sc : Scope) : Bool :=
  funK sc && !sc.isCoroutine && !sc.isGenerator && decide N.Nodup && decide (N.take ps.length = ps) && ps.all (fun x => locB sc x || celB sc x) && sc.names.all (fun y => match y.2 with | .free => false | _ => true)
theorem funSc_of {N ps : List Str} {sc : Scope} (h : funScB N ps sc = true) : FnScope N ps sc := by
  simp only [funScB, Bool.and_eq_true, Bool.not_eq_true', decide_eq_true_eq, List.all_eq_true] at h
  obtain ⟨⟨⟨⟨⟨⟨h1, h2⟩, h3⟩, h4⟩, h5⟩, h6⟩, h7⟩ := h
  refine ⟨funK_of h1, h2, h3, h4, h5, fun x hx => ?_, fun y hy e => ?_⟩
  · have := h6 x hx
    simp only [Bool.or_eq_true] at this
    rcases this with z | z
    · exact .inl (loc_of z)
    · exact .inr (cel_of z)
  · have := h7 y hy
    rw [e] at this
    cases this
/-- a def of the text: its tree is turned into m -/
theorem def_mk {G : GE} {pd : PD} {tab : Str → Option MFn} {f : Str} {st : Stmt} {a : Addr} {fd : FuncData} {m : C} {np : Nat} (F : FunA G.K st a fd) (hS : funScB (mkN st) (mkP st) (defScope st) = true) (b : Binds G.K fd (mkP st) []) (ht : tab f = some ⟨mkN st, np, m⟩) (hn : (mkP st).length = np)
    (hm : (turn (pd.cc G.bare (mkN st) (defScope st)) (defBody st)).map (·.m) = some m) : DefAt G pd tab f a fd (mkP st) := by
  simp only [Option.map_eq_some_iff] at hm
  obtain ⟨c, _, e⟩ := hm
  exact ⟨⟨st, mkN st, c, F, funSc_of hS, by rw [ht, e, hn]⟩, b⟩
theorem funA_mk {K : PySem.W.Frag} {x qual : Str} {st : Stmt} {f : Addr} {oc : Value} {od an : Option Addr} {osl : Array (Option Value)} {dV kV doc pm cdv ct : Value} (l : K.lookup f = some ⟨oc, od, .func (PySem.W.fnOf x qual (defArgs st) (defBody st) (defScope st) dV kV doc pm an cdv ct), osl⟩)
    (c : PySem.W.codeIn K cdv qual = true) : FunA K st f (PySem.W.fnOf x qual (defArgs st) (defBody st) (defScope st) dV kV doc pm an cdv ct) := ⟨x, qual, oc, od, dV, kV, doc, pm, an, cdv, ct, osl, rfl, l, c⟩
def clsBody : Stmt → List Stmt
  | .ClassDef (body := b) .. => b
  | _ => []
/-- what is asked of a law's call -/
def spL (K : PySem.W.Frag) (bare : Bool) (call : Call) : Sp := fun vs H Q E => vs.length = 1 ∧ ∀ G : GE, G.K = K → G.bare = bare → spC G call "law" 1 vs H Q E
theorem spL_of {K : PySem.W.Frag} {bare : Bool} {call : Call} {H : Hp} {a : Addr} {ns : List Int} {h' : List O} (hS : SqL K H a (ns.map V.int)) (e : call "law" [.scr ns] [] = .ok (.fz (.bl true)) h') : spL K bare call [.ref a] H (fun v _ => v = .bl true) (fun _ _ _ => False) := by
  refine ⟨rfl, fun G hK _ => ⟨rfl, [], [], [.scr ns], rfl, ?_, ?_⟩⟩
  · refine Cf.fz1.mpr ⟨[], [], ⟨rfl, rfl, List.nodup_nil⟩, a, rfl, ?_⟩
    subst hK
    rcases hS with z | z
    · exact .inl ⟨z, by simp⟩
    · exact .inr z
  · rw [e]
    exact fun v H' c => c.bl
theorem fn_law {P : Program} {w : World} {mg : Str → Option Value} {base : Heap} {G : GE} {a : Addr} {fd : FuncData} {ps : List Str} {k : Nat} {call : Call} (hl : ps.length = 1) (F : FnOk P w G.K mg base (L2.CX P w) k a fd ps (spC G call "law" ps.length)) : FnOk P w G.K mg base (L2.CX P w) k a fd ps (spL G.K G.bare call) :=
  F.imp fun vs H Q E h => by rw [hl]; exact h.2 G rfl rfl
theorem cx_no {P : Program} {w : World} {H : Hp} {s : Shared} {e : Value} {s' : Shared} (h : L2.CX P w [] H s (fun _ _ _ => False) e s') : False := by
  obtain ⟨_, _, _, _, _, _, _, _, _, _, _, _, z⟩ := h
  exact z
/-- a simple constant of the module -/
def MgCon (mg : Str → Option Value) (x : Str) (d : D) : Prop := ∀ v, simple d = some v → ∃ u, mg x = some u ∧ RelV v u
theorem con_all {mg : Str → Option Value} : ∀ {l : List (Str × D)}, (∀ p ∈ l, MgCon mg p.1 p.2) → ∀ x d v, conOf l x = some d → simple d = some v → ∃ u, mg x = some u ∧ RelV v u
  | [], _, x, d, v, e, _ => by cases e
  | (y, d0) :: r, h, x, d, v, e, es => by
    unfold conOf at e
    split at e
    · rename_i hx
      cases e
      subst hx
      exact h (x, d0) (by simp) v es
    · exact con_all (fun p hp => h p (by simp [hp])) x d v e es
end Mi

set_option Elab.async false
set_option linter.all false
set_option maxRecDepth 100000
set_option maxHeartbeats 4000000
/-! Mi, part R: a law's end: classes and exceptions as they stand behind the top. -/
namespace Mi
open PySem PySem.Spec PyProof.Rows L2
def lookA {α : Type} : List (Str × α) → Str → Option α
  | [], _ => none
  | (x, a) :: r, c => if c = x then some a else lookA r c
theorem lookA_mem {α : Type} {c : Str} {a : α} : ∀ {l : List (Str × α)}, lookA l c = some a → (c, a) ∈ l
  | [], e => by cases e
  | (x, b) :: r, e => by
    unfold lookA at e
    split at e
    · rename_i h
      cases e
      subst h
      exact List.mem_cons_self ..
    · exact List.mem_cons_of_mem _ (lookA_mem e)
/-! ### the text of an exception's __init__ -/
def initGet : List Stmt → Option (Str × Str × Str × Nat × List Pos)
  | [.Expr (.Call (.Attribute (.Name b q1) i q2) [.Name s1 q3, .Constant (.str m) j q4] [] q5) q6, .Assign [.Attribute (.Name s2 q7) f q8] (.Name f2 q9) q10] =>
    if i = "__init__" ∧ s1 = "self" ∧ s2 = "self" ∧ f2 = f then some (b, f, m, j, [q1, q2, q3, q4, q5, q6, q7, q8, q9, q10]) else none
  | _ => none
theorem initGet_ok {l : List Stmt} {b f m : Str} {j : Nat} {q : List Pos} (h : initGet l = some (b, f, m, j, q)) : l = initBody b f m j q ∧ q.length = 10 := by
  unfold initGet at h
  split at h
  · split at h
    · rename_i hc
      obtain ⟨rfl, rfl, rfl, rfl⟩ := hc
      cases h
      exact ⟨rfl, rfl⟩
    · cases h
  · cases h
def initB (st : Stmt) (b f : Str) : Bool := (match initGet (defBody st) with
  | some (b', f', _, _, q) => decide (b' = b) && decide (f' = f) && ((q.getD 1 ⟨0, 0, 0, 0⟩).endLine == (q.getD 4 ⟨0, 0, 0, 0⟩).line)
  | none => false) && funScB ["self", f] ["self", f] (defScope st) && locB (defScope st) "self" && locB (defScope st) f && glB (defScope st) b && !(f == ("__debug__" : Str)) && !(f == ("__classdict__" : Str))
theorem initB_ok {st : Stmt} {b f : Str} (h : initB st b f = true) : InitTxt st b f := by
  simp only [initB, Bool.and_eq_true, Bool.not_eq_true'] at h
  obtain ⟨⟨⟨⟨⟨⟨h0, h1⟩, h2⟩, h3⟩, h4⟩, h5⟩, h6⟩ := h
  refine ⟨?_, funSc_of h1, loc_of h2, loc_of h3, gl_of h4, h5, h6⟩
  cases e : initGet (defBody st) with
  | none => rw [e] at h0; cases h0
  | some p =>
    obtain ⟨b', f', m, j, q⟩ := p
    rw [e] at h0
    simp only [Bool.and_eq_true, decide_eq_true_eq] at h0
    obtain ⟨⟨rfl, rfl⟩, h0⟩ := h0
    obtain ⟨e1, e2⟩ := initGet_ok e
    exact ⟨m, j, q, e2, e1, h0⟩
section
variable {K : PySem.W.Frag} {h : Heap} {mg : Str → Option Value}
theorem binit_own (X : K.In h) (G : h.Ns mainGlobals mg) {b : Str} {SB : Addr} {initId : String} (hh : PySem.W.handedIn (.builtin initId) = true) (db : (b == ("__debug__" : Str)) = false) (q : PySem.W.nsIn K mainGlobals b = some (some (.ref SB)))
    (sp : PySem.W.specialIn K (.ref SB) "__getattribute__" = some (some (.builtin "type.__getattribute__"))) (rd : PySem.W.readsIn K SB (.type "type") = true) (fc : PySem.W.findCls K (.ref SB) (.type "type") "__init__" = some (.val (.builtin initId))) : BInit K mg b initId :=
  ⟨hh, db, .inl ⟨SB, .type "type", PySem.W.mg_of X G q, sp, rd, fc⟩⟩
theorem binit_blt (X : K.In h) (G : h.Ns mainGlobals mg) {b : Str} {B initId : String} (hh : PySem.W.handedIn (.builtin initId) = true) (db : (b == ("__debug__" : Str)) = false) (z : PySem.W.nsIn K mainGlobals b = some none) (bt : bootBuiltins b = some (.type B))
    (km : PySem.W.kitMeta B = true) (st : Manifest.isStub B = false) (hn : b ≠ "__name__") (fc : PySem.W.findCls K (.type B) (.type "type") "__init__" = some (.val (.builtin initId))) : BInit K mg b initId :=
  ⟨hh, db, .inr ⟨B, PySem.W.mg_none_of X G z, bt, PySem.W.kitMeta_of km, st, fc, hn⟩⟩
/-- what is looked up of an exception class -/
structure XLook (K : PySem.W.Frag) (C : Addr) : Prop where
  sa : PySem.W.findIn K (.ref C) "__setattr__" = some (some (.builtin "object.__setattr__"))
  exC : PySem.W.subIn K (.ref C) (.type "BaseException") = some true
  tyC : PySem.W.typeIn K (.ref C) = some (.type "type")
  kC : PySem.W.keepIn K (.ref C) = true
  ga : PySem.W.findIn K (.ref C) "__getattribute__" = some (some (.builtin "BaseException.__getattribute__"))
  gg : PySem.W.findIn K (.ref C) "__getattr__" = some none
  hd : PySem.W.hasDictIn K C = true
  ha : PySem.W.findIn K (.ref C) "__class__" = some (some (.builtin "object.__class__"))
  hn : PySem.W.specialIn K (.builtin "object.__class__") "__get__" = some (some (.builtin "getset_descriptor.__get__"))
  ht : PySem.W.takesIn K (.builtin "object.__class__") = some true
  hm : PySem.W.mroIn K C (.type "object") = some true
theorem XLook.exc {C : Addr} (L : XLook K C) : ExcC K C := ⟨L.ga, L.gg, L.exC, L.hd, L.ha, L.hn, L.ht, L.hm⟩
theorem xrow_mk (X : K.In h) (G : h.Ns mainGlobals mg) {c f b qual : Str} {C fI : Addr} {st : Stmt} {tl : List Value} {newId initId : String} (hB : XB tl newId initId) (qC : PySem.W.nsIn K mainGlobals c = some (some (.ref C))) (db : (c == ("__debug__" : Str)) = false)
    {nm q : Str} {N : Addr} {bs bm : List Value} {sno : List Str} {sub : List Value} {abc0 : Bool} {cl : Option Bool} {ddd : Option Addr} {k0 k1 k2 k3 k5 : Option Value} (lC : K.lookup C = some (excClassObj nm q C N bs bm true sno sub abc0 cl ddd k0 k1 k2 k3 k5 newId)) (hm : refsT tl bm = true)
    (L : XLook K C) (hno : PySem.W.findIn K (.ref C) f = some none) (BI : BInit K mg b initId) (iC : PySem.W.findIn K (.ref C) "__init__" = some (some (.ref fI))) (tI : PySem.W.typeIn K (.ref fI) = some (.type "function"))
    {oc : Value} {od an : Option Addr} {osl : Array (Option Value)} {kV doc pm cdv ct : Value} (l : K.lookup fI = some ⟨oc, od, .func (PySem.W.fnOf "__init__" qual (defArgs st) (defBody st) (defScope st) .none kV doc pm an cdv ct), osl⟩)
    (cI : PySem.W.codeIn K cdv qual = true) (kI : PySem.W.keepIn K (.ref fI) = true) (I : InitTxt st b f) (hb : ∀ (kV doc pm : Value) (an : Option Addr) (cdv ct : Value) (us : List Value), us.length = 2 → bindArgs (PySem.W.fnOf "__init__" qual (defArgs st) (defBody st) (defScope st) .none kV doc pm an cdv ct) ⟨us, []⟩ = pure ((["self", f] : List Str).zip us)) : XRow K mg c C f :=
  have F := fun_mk (st := st) l cI kI
  ⟨⟨initId, fI, b, "__init__", qual, st, _, ⟨⟨tl, newId, hB, _, _, _, _, _, _, _, _, _, _, _, _, _, _, _, lC, hm⟩, L.sa, L.exC, L.tyC, L.kC⟩, hno, BI, F, I, F.binds (ps := (["self", f] : List Str)) hb, iC, tI⟩, PySem.W.mg_of X G qC, db, ⟨L.ga, L.gg, L.exC, L.hd⟩⟩
theorem exm_mk {C : Addr} {cls : Value} {b b' : Bool} (L : XLook K C) (hs : PySem.W.subIn K cls (.ref C) = some b) (e : b' = b) : PySem.W.exmOne K cls (.ref C) = some b' := by
  rw [e]; exact PySem.W.exm_ref L.exC L.hd L.tyC hs
/-- what the suite's isinstance asks -/
def IsxOk (K : PySem.W.Frag) (mg : Str → Option Value) (C : Addr) (nm : Str) (b : Bool) : Prop := ∃ u cv, RelV u cv ∧ (∀ w, RelV u w → w = cv) ∧ ((mg nm = some cv) ∨ (mg nm = none ∧ bootBuiltins nm = some cv ∧ nm ≠ "__name__")) ∧ PySem.W.kitOne K (.ref C) cv = some b
theorem isx_own (X : K.In h) (G : h.Ns mainGlobals mg) {nm : Str} {C D : Addr} {b : Bool} (q : PySem.W.nsIn K mainGlobals nm = some (some (.ref D))) (hd : PySem.W.hasDictIn K D = true) (ty : PySem.W.typeIn K (.ref D) = some (.type "type")) (hs : PySem.W.subIn K (.ref C) (.ref D) = some b) (hne : (Value.ref C == Value.ref D) = false) : IsxOk K mg C nm b := by
  refine ⟨.ref D, .ref D, rfl, fun w r => r, .inl (PySem.W.mg_of X G q), ?_⟩
  obtain ⟨cd, hc, _⟩ := PySem.W.any_some hd
  have e2 : ((PySem.W.clsIn K D).isSome && PySem.W.typeIn K (.ref D) == some (.type "type")) = true := by rw [hc, ty] <;> rfl
  show (if (Value.ref C == Value.ref D) = true then some true else (if ((PySem.W.clsIn K D).isSome && PySem.W.typeIn K (.ref D) == some (.type "type")) = true then PySem.W.subIn K (.ref C) (.ref D) else none)) = some b
  rw [hne, if_neg Bool.false_ne_true, if_pos e2]
  exact hs
theorem isx_blt (X : K.In h) (G : h.Ns mainGlobals mg) {nm : Str} {C : Addr} {T : String} {b : Bool} (z : PySem.W.nsIn K mainGlobals nm = some none) (bt : bootBuiltins nm = some (.type T)) (hn : nm ≠ "__name__") (km : PySem.W.kitMeta T = true) (hs : PySem.W.subIn K (.ref C) (.type T) = some b) : IsxOk K mg C nm b := by
  refine ⟨.ty T, .type T, rfl, fun w r => r, .inr ⟨PySem.W.mg_none_of X G z, bt, hn⟩, ?_⟩
  show (if (Value.ref C == Value.type T) = true then some true else (if PySem.W.kitMeta T = true then PySem.W.subIn K (.ref C) (.type T) else none)) = some b
  rw [if_neg (show ¬ (Value.ref C == Value.type T) = true from fun z => by cases z), if_pos km]
  exact hs
/-- the arguments of a def with defaults, all of them given -/
theorem binds_d {x qual : Str} {st : Stmt} {T : Addr} {oc' : Value} {od' : Option Addr} {sl' : Array (Option Value)} {its : List Value} {n : Nat} {kV doc pm : Value} {an : Option Addr} {cdv ct : Value} {ps : List Str} (lT : K.lookup T = some ⟨oc', od', .seq its.toArray n, sl'⟩)
    (hb : ∀ us : List Value, us.length = ps.length → ∃ k, bindArgs (PySem.W.fnOf x qual (defArgs st) (defBody st) (defScope st) (.ref T) kV doc pm an cdv ct) ⟨us, []⟩ = seqItems? (.ref T) >>= k ∧ k (some its.toArray) = pure (ps.zip us)) :
    Binds K (PySem.W.fnOf x qual (defArgs st) (defBody st) (defScope st) (.ref T) kV doc pm an cdv ct) ps [] := fun s us X hl => by
  rw [List.append_nil] at hl ⊢
  obtain ⟨k, e1, e2⟩ := hb us hl
  refine L2.BindsTo.of_looks fun M => ?_
  rw [e1]
  exact looks_items X lT rfl (.of_pure e2)
end
/-- the table of a program: its classes, its defs, its exceptions -/
def geOf (K : PySem.W.Frag) (cls fns : List (Str × Addr)) (exc : List (Str × Addr × Str)) (bare : Bool) : GE := ⟨K, lookA cls, lookA fns, lookA exc, bare, none⟩
theorem glob_mk {K : PySem.W.Frag} {h : Heap} {mg : Str → Option Value} {clsT fnsT : List (Str × Addr)} {exT : List (Str × Addr × Str)} {bare : Bool} {pd : PD}
    (blt : ∀ x ∈ blts, mg x = none) (con : ∀ x d v, pd.con x = some d → simple d = some v → ∃ u, mg x = some u ∧ RelV v u)
    (exs : ∀ p ∈ pd.exs, ∃ C, lookA exT p.1 = some (C, p.2)) (xr : ∀ p ∈ exT, XRow K mg p.1 p.2.1 p.2.2) (sub : ∀ p ∈ exT, ∀ q ∈ exT, PySem.W.exmOne K (.ref p.2.1) (.ref q.2.1) = some (decide (p.1 = q.1)))
    (cls : ∀ p ∈ clsT, L2.Cls K p.2 ∧ mg p.1 = some (.ref p.2)) (fld : ∀ p ∈ pd.flds, ∀ C, lookA clsT p.1 = some C → NoAttr K C p.2)
    (isx : ∀ p ∈ pd.isx, ∀ C f, lookA exT p.1 = some (C, f) → ExcC K C ∧ IsxOk K mg C p.2.1 p.2.2) : Glob (geOf K clsT fnsT exT bare) mg pd where
  blt := blt
  con := con
  exs := fun c f e => exs (c, f) e
  xr := fun c C f e => xr (c, C, f) (lookA_mem e)
  sub := fun c C f c' C' f' e e' => sub (c, C, f) (lookA_mem e) (c', C', f') (lookA_mem e')
  cls := fun c C e => cls (c, C) (lookA_mem e)
  fld := fun c C f e hm => fld (c, f) hm C e
  isx := fun c C f nm b e hm => isx (c, nm, b) hm C f e
  cold := rfl
end Mi

set_option Elab.async false
set_option linter.all false
set_option maxRecDepth 100000
set_option maxHeartbeats 4000000
/-! Mi, part S: reckoning with what is turned: loops, plain lemmas. -/
namespace Mi
open PySem PySem.Spec PyProof.Rows L2

/-- a comprehension whose turns change nothing: filter and map -/
theorem lcL_map {call : Call} {g : Tg} {tt : B} {te : E} {vs : List Nat} {f : D → D} {p : D → Bool} {s : S} : ∀ (ds acc : List D),
    (∀ d ∈ ds, ∃ s1, g (.fz d) s = some s1 ∧ tt call s1 = .ok (p d) s1 ∧ (p d = true → ∃ r, te call s1 = .ok r s1 ∧ take s1 r = some (f d, s1)) ∧ (⟨wipeO s1.σ vs, s1.h⟩ : S) = s) →
    fitsB (acc.length + ds.length) = true → lcL call g tt te vs ds acc s = .ok (acc ++ (ds.filter p).map f) s
  | [], acc, _, _ => by simp [lcL]
  | d :: ds, acc, h, hf => by
    obtain ⟨s1, e1, e2, e3, e4⟩ := h d (by simp)
    have hf' : fitsB (acc.length + 1) = true := by
      simp only [fitsB, decide_eq_true_eq, List.length_cons] at hf ⊢; omega
    simp only [lcL, e1, e2]
    cases hp : p d with
    | false =>
      simp only []
      rw [e4, lcL_map ds acc (fun x hx => h x (by simp [hx])) (by simp only [fitsB, decide_eq_true_eq, List.length_cons] at hf ⊢; omega)]
      simp [hp]
    | true =>
      obtain ⟨r, e5, e6⟩ := e3 hp
      simp only [e5, e6, hf', if_true]
      rw [e4, lcL_map ds (acc ++ [f d]) (fun x hx => h x (by simp [hx])) (by simp only [fitsB, decide_eq_true_eq, List.length_cons, List.length_append, List.length_nil] at hf ⊢; omega)]
      simp [hp]
/-- a comprehension whose turns draw: what holds of the state goes on, each item is as P says -/
theorem lcL_draw {call : Call} {g : Tg} {te : E} {vs : List Nat} (I : S → Prop) (P : D → Prop) : ∀ (ds acc : List D) (s : S), I s → (∀ x ∈ acc, P x) →
    (∀ d ∈ ds, ∀ s, I s → ∃ s1, g (.fz d) s = some s1 ∧ ∃ r s2, te call s1 = .ok r s2 ∧ ∃ y s3, take s2 r = some (y, s3) ∧ P y ∧ I ⟨wipeO s3.σ vs, s3.h⟩) →
    fitsB (acc.length + ds.length) = true → ∃ out s', lcL call g bYes te vs ds acc s = .ok out s' ∧ out.length = acc.length + ds.length ∧ (∀ x ∈ out, P x) ∧ I s'
  | [], acc, s, hi, ha, _, _ => ⟨acc, s, rfl, by simp, ha, hi⟩
  | d :: ds, acc, s, hi, ha, h, hf => by
    obtain ⟨s1, e1, r, s2, e2, y, s3, e3, py, i3⟩ := h d (by simp) s hi
    have hf' : fitsB (acc.length + 1) = true := by
      simp only [fitsB, decide_eq_true_eq, List.length_cons] at hf ⊢; omega
    obtain ⟨out, s', e, l, pa, i'⟩ := lcL_draw I P ds (acc ++ [y]) _ i3 (fun x hx => by
      rcases List.mem_append.mp hx with z | z
      · exact ha x z
      · simp at z; subst z; exact py) (fun x hx => h x (by simp [hx])) (by simp only [fitsB, decide_eq_true_eq, List.length_cons, List.length_append, List.length_nil] at hf ⊢; omega)
    refine ⟨out, s', ?_, by simp at l ⊢; omega, pa, i'⟩
    simp only [lcL, e1, bYes, e2, e3, hf', if_true, e]
/-- a loop: what holds ahead of each turn -/
theorem forL_inv {call : Call} {g : Tg} {body : C} (I : S → Prop) : ∀ (ds : List D) (s : S), I s →
    (∀ d ∈ ds, ∀ s, I s → ∃ s1, g (.fz d) s = some s1 ∧ ∃ s2, (body call s1 = .nx s2 ∨ body call s1 = .ct s2) ∧ I s2) → ∃ s', forL call g body ds s = .nx s' ∧ I s'
  | [], s, hi, _ => ⟨s, rfl, hi⟩
  | d :: ds, s, hi, h => by
    obtain ⟨s1, e1, s2, e2, i2⟩ := h d (by simp) s hi
    obtain ⟨s', e, i'⟩ := forL_inv I ds s2 i2 fun x hx => h x (by simp [hx])
    refine ⟨s', ?_, i'⟩
    rcases e2 with e2 | e2 <;> simp only [forL, e1, e2, e]
theorem filt_true {α : Type} : ∀ l : List α, l.filter (fun _ => true) = l
  | [] => rfl
  | a :: l => by rw [List.filter_cons, if_pos rfl, filt_true l]
/-- the same without a test -/
theorem lcL_all {call : Call} {g : Tg} {te : E} {vs : List Nat} {f : D → D} {s : S} (ds : List D)
    (h : ∀ d ∈ ds, ∃ s1, g (.fz d) s = some s1 ∧ (∃ r, te call s1 = .ok r s1 ∧ take s1 r = some (f d, s1)) ∧ (⟨wipeO s1.σ vs, s1.h⟩ : S) = s) (hf : fitsB ds.length = true) : lcL call g bYes te vs ds [] s = .ok (ds.map f) s := by
  rw [lcL_map (p := fun _ => true) (f := f) ds [] (fun d hd => by
    obtain ⟨s1, e1, e2, e3⟩ := h d hd
    exact ⟨s1, e1, rfl, fun _ => e2, e3⟩) (by simpa using hf), filt_true, List.nil_append]
def fin : Fl → Res
  | .rt o s => .ok o s.h
  | .nx s => .ok (.fz .non) s.h
  | .exc c d s => .exc c d s.h
  | _ => .bad
theorem call_at {tab : Str → Option MFn} {f : Str} {mf : MFn} (h : tab f = some mf) {k : Nat} {ds : List D} {hp : List O} (σ : List (Option O)) (hn : ds.length = mf.np) (hs : start0 mf.N ds = σ) : callN tab (k + 1) f ds hp = fin (mf.body (callN tab k) ⟨σ, hp⟩) := by
  simp only [callN, h, runFn, hn, if_true, hs, fin]
  all_goals (cases mf.body (callN tab k) ⟨σ, hp⟩ <;> rfl)
theorem at0 {a : D} {r : List D} : atI (a :: r) 0 = some a := atI_nat (j := 0) rfl
theorem at1 {a b : D} {r : List D} : atI (a :: b :: r) 1 = some b := atI_nat (j := 1) rfl
theorem at2 {a b c : D} {r : List D} : atI (a :: b :: c :: r) 2 = some c := atI_nat (j := 2) rfl
theorem at3 {a b c d : D} {r : List D} : atI (a :: b :: c :: d :: r) 3 = some d := atI_nat (j := 3) rfl
theorem at4 {a b c d e : D} {r : List D} : atI (a :: b :: c :: d :: e :: r) 4 = some e := atI_nat (j := 4) rfl
theorem at5 {a b c d e f : D} {r : List D} : atI (a :: b :: c :: d :: e :: f :: r) 5 = some f := atI_nat (j := 5) rfl
theorem k_str : kitB "str" "str" = some true := by decide +kernel
theorem k_non : kitB "NoneType" "str" = some false := by decide +kernel
theorem k_int : kitB "int" "str" = some false := by decide +kernel
theorem k_bool : kitB "bool" "str" = some false := by decide +kernel
theorem k_tup : kitB "tuple" "str" = some false := by decide +kernel
theorem k_lst : kitB "list" "str" = some false := by decide +kernel
theorem k_dic : kitB "dict" "str" = some false := by decide +kernel
theorem t_str : kitB "str" "tuple" = some false := by decide +kernel
theorem t_non : kitB "NoneType" "tuple" = some false := by decide +kernel
theorem t_int : kitB "int" "tuple" = some false := by decide +kernel
theorem t_bool : kitB "bool" "tuple" = some false := by decide +kernel
theorem t_tup : kitB "tuple" "tuple" = some true := by decide +kernel
theorem t_lst : kitB "list" "tuple" = some false := by decide +kernel
theorem t_dic : kitB "dict" "tuple" = some false := by decide +kernel
theorem bools_map {α : Type} (f : α → Bool) : ∀ l : List α, boolsD (l.map fun c => .bl (f c)) = some (l.map f)
  | [] => rfl
  | a :: l => by simp only [List.map_cons, boolsD, bools_map f l, Option.map_some]
theorem le2 {n : Nat} : decide ((n : Int) ≤ 2) = decide (n ≤ 2) := by
  by_cases h : n ≤ 2
  · rw [decide_eq_true h, decide_eq_true (by omega)]
  · rw [decide_eq_false h, decide_eq_false (by omega)]
end Mi

set_option Elab.async false
set_option linter.all false
set_option maxRecDepth 100000
set_option maxHeartbeats 4000000
/-! Mi, part U: evaluation from the head on: each rule fires only where what is looked at is known (printed by mku.py). -/
namespace Mi
open PySem PySem.Spec PyProof.Rows L2
variable {call : Call} {s : S} {σ : List (Option O)} {h : List O} {α β : Type}
def ofS (b : Bool) (x y : α) : α := match b with | true => x | false => y
theorem y_bo {a : α} {f : α → S → Out β} : (Out.ok a s).bind f = f a s := id rfl
theorem y_be {c : Str} {e : D} {f : α → S → Out β} : (Out.exc c e s).bind f = .exc c e s := id rfl
theorem y_bb {f : α → S → Out β} : (Out.bad).bind f = .bad := id rfl
theorem y_fo {a : α} {f : α → S → Fl} : (Out.ok a s).flow f = f a s := id rfl
theorem y_fe {c : Str} {e : D} {f : α → S → Fl} : (Out.exc c e s).flow f = .exc c e s := id rfl
theorem y_fb {f : α → S → Fl} : (Out.bad).flow f = .bad := id rfl
theorem y_ob {a : α} {f : α → Option β} : (some a).bind f = f a := id rfl
theorem xT_nx {f : S → Fl} : (Fl.nx s).then f = f s := id rfl
theorem xT_rt {o : O} {f : S → Fl} : (Fl.rt o s).then f = .rt o s := id rfl
theorem xT_bk {f : S → Fl} : (Fl.bk s).then f = .bk s := id rfl
theorem xT_ct {f : S → Fl} : (Fl.ct s).then f = .ct s := id rfl
theorem xT_exc {c : Str} {e : D} {f : S → Fl} : (Fl.exc c e s).then f = .exc c e s := id rfl
theorem xT_bad {f : S → Fl} : (Fl.bad).then f = .bad := id rfl
theorem x_seq {a b : C} : cSeq a b call s = (a call s).then (b call) := id rfl
theorem x_nil : cNil call s = .nx s := id rfl
theorem x_pass : cPass call s = .nx s := id rfl
theorem x_brk : cBrk call s = .bk s := id rfl
theorem x_cnt : cCnt call s = .ct s := id rfl
theorem x_retN : cRetN call s = .rt (.fz .non) s := id rfl
def kIf (a b : C) (call : Call) (x : Bool) (s : S) : Fl := if x then a call s else b call s
theorem x_if {c : B} {a b : C} : cIf c a b call s = (c call s).flow (kIf a b call) := id rfl
theorem x_ifT {a b : C} : kIf a b call true s = a call s := id rfl
theorem x_ifF {a b : C} : kIf a b call false s = b call s := id rfl
def kGv (σ : List (Option O)) (h : List O) (i : Nat) : Option (Option O) → Option (O × S)
  | some (some o) => some (o, ⟨σ.set i none, h⟩)
  | _ => none
def kRet2 : Option (O × S) → Fl
  | some (o, s2) => .rt o s2
  | none => .bad
def kRet (x : R) (s : S) : Fl := kRet2 (give s x)
theorem x_ret {m : E} : cRet m call s = (m call s).flow kRet := id rfl
theorem x_ret1 {x : R} : kRet x s = kRet2 (give s x) := id rfl
theorem x_ret2 {o : O} : kRet2 (some (o, s)) = .rt o s := id rfl
theorem x_gvO {o : O} : give s (.own o) = some (o, s) := id rfl
theorem x_gvB {i : Nat} : give ⟨σ, h⟩ (.bor i) = kGv σ h i (σ[i]?) := by
  show (match σ[i]? with | some (some o) => _ | _ => _) = _; cases σ[i]? with
  | none => rfl
  | some z => cases z <;> rfl
theorem x_gv {o : O} {i : Nat} : kGv σ h i (some (some o)) = some (o, ⟨σ.set i none, h⟩) := id rfl
theorem x_frz1 {d : D} : frz (.fz d) = d := id rfl
theorem x_frz2 {l : List D} : frz (.lst l) = .lst l := id rfl
theorem x_frz3 {ks : List Key} {l : List D} : frz (.dic ks l) = .dic ks l := id rfl
theorem x_frz4 {c : Str} {fs : List Str} {l : List D} : frz (.ins c fs l) = .ins c fs l := id rfl
def kPk (h : List O) : Option (Option O) → Option D
  | some (some o) => deref h (frz o)
  | _ => none
def kTk (σ : List (Option O)) (h : List O) (i : Nat) : Option (Option O) → Option (D × S)
  | some (some o) => some (frz o, ⟨σ.set i (some (.fz (frz o))), h⟩)
  | _ => none
def kKp (σ : List (Option O)) (h : List O) (i : Nat) : Option (Option O) → Option (O × S)
  | some (some o) => some (.fz (frz o), ⟨σ.set i (some (.fz (frz o))), h⟩)
  | _ => none
theorem x_pkO {o : O} : peek ⟨σ, h⟩ (.own o) = deref h (frz o) := id rfl
theorem x_pkB {i : Nat} : peek ⟨σ, h⟩ (.bor i) = kPk h (σ[i]?) := by
  show (match σ[i]? with | some (some o) => _ | _ => _) = _; cases σ[i]? with
  | none => rfl
  | some z => cases z <;> rfl
theorem x_pk {o : O} : kPk h (some (some o)) = deref h (frz o) := id rfl
theorem x_tkO {o : O} : take s (.own o) = some (frz o, s) := id rfl
theorem x_tkB {i : Nat} : take ⟨σ, h⟩ (.bor i) = kTk σ h i (σ[i]?) := by
  show (match σ[i]? with | some (some o) => _ | _ => _) = _; cases σ[i]? with
  | none => rfl
  | some z => cases z <;> rfl
theorem x_tk {o : O} {i : Nat} : kTk σ h i (some (some o)) = some (frz o, ⟨σ.set i (some (.fz (frz o))), h⟩) := id rfl
theorem x_kpO {o : O} : keep s (.own o) = some (o, s) := id rfl
theorem x_kpB {i : Nat} : keep ⟨σ, h⟩ (.bor i) = kKp σ h i (σ[i]?) := by
  show (match σ[i]? with | some (some o) => _ | _ => _ : Option (D × S)).map _ = _; cases σ[i]? with
  | none => rfl
  | some z => cases z <;> rfl
theorem x_kp {o : O} {i : Nat} : kKp σ h i (some (some o)) = some (.fz (frz o), ⟨σ.set i (some (.fz (frz o))), h⟩) := id rfl
/-- not a cell -/
def nl : D → Bool
  | .loc _ => false
  | _ => true
theorem x_dl {n : Nat} : deref h (.loc n) = (h[n]?).map frz := id rfl
theorem x_d_non  : deref h (.non) = some (.non) := id rfl
theorem x_d_bl {b : Bool} : deref h (.bl b) = some (.bl b) := id rfl
theorem x_d_int {b : Int} : deref h (.int b) = some (.int b) := id rfl
theorem x_d_str {b : Str} : deref h (.str b) = some (.str b) := id rfl
theorem x_d_tup {b : List D} : deref h (.tup b) = some (.tup b) := id rfl
theorem x_d_lst {b : List D} : deref h (.lst b) = some (.lst b) := id rfl
theorem x_d_scr {b : List Int} : deref h (.scr b) = some (.scr b) := id rfl
theorem x_d_ty {b : String} : deref h (.ty b) = some (.ty b) := id rfl
theorem x_d_fn {b : Str} : deref h (.fn b) = some (.fn b) := id rfl
theorem x_d_cls {b : Str} : deref h (.cls b) = some (.cls b) := id rfl
theorem x_d_dic {ks : List Key} {l : List D} : deref h (.dic ks l) = some (.dic ks l) := id rfl
theorem x_d_ins {c : Str} {fs : List Str} {l : List D} : deref h (.ins c fs l) = some (.ins c fs l) := id rfl
theorem x_d_nl {d : D} (hd : nl d = true) : deref h d = some d := by cases d <;> first | rfl | cases hd
def kVar (i : Nat) (s : S) : Option (Option O) → Out R
  | some (some _) => .ok (.bor i) s
  | _ => .bad
theorem x_var {i : Nat} : mVar i call ⟨σ, h⟩ = kVar i ⟨σ, h⟩ (σ[i]?) := by
  show (match σ[i]? with | some (some o) => _ | _ => _) = _; cases σ[i]? with
  | none => rfl
  | some z => cases z <;> rfl
theorem x_var1 {i : Nat} {o : O} : kVar i s (some (some o)) = .ok (.bor i) s := id rfl
theorem x_con {d : D} : mCon d call s = .ok (.own (.fz d)) s := id rfl
theorem x_dic0 : mDic0 call s = .ok (.own (.dic [] [])) s := id rfl
def kA3 (d : D) (ds : List D) (s : S) : Out (List D) := .ok (d :: ds) s
def kA2 (r : As) (call : Call) : Option (D × S) → Out (List D)
  | some (d, s2) => (r call s2).bind (kA3 d)
  | none => .bad
def kA1 (r : As) (call : Call) (x : R) (s : S) : Out (List D) := kA2 r call (take s x)
def kR2 (x : R) (rs : List R) (s : S) : Out (List R) := .ok (x :: rs) s
def kR1 (r : AsR) (call : Call) (x : R) (s : S) : Out (List R) := (r call s).bind (kR2 x)
theorem x_aNil : aNil call s = .ok [] s := id rfl
theorem x_aCons {a : E} {r : As} : aCons a r call s = (a call s).bind (kA1 r call) := id rfl
theorem x_a1 {r : As} {x : R} : kA1 r call x s = kA2 r call (take s x) := id rfl
theorem x_a2 {r : As} {e : D} : kA2 r call (some (e, s)) = (r call s).bind (kA3 e) := id rfl
theorem x_a3 {e : D} {ds : List D} : kA3 e ds s = .ok (e :: ds) s := id rfl
theorem x_rNil : rNil call s = .ok [] s := id rfl
theorem x_rCons {a : E} {r : AsR} : rCons a r call s = (a call s).bind (kR1 r call) := id rfl
theorem x_r1 {r : AsR} {x : R} : kR1 r call x s = (r call s).bind (kR2 x) := id rfl
theorem x_r2 {x : R} {rs : List R} : kR2 x rs s = .ok (x :: rs) s := id rfl
def kT3 (f : D → D → Option O) (d1 d2 : D) : Option R := (f d1 d2).map R.own
def kT2 (f : D → D → Option O) (p2 : Option D) (d1 : D) : Option R := p2.bind (kT3 f d1)
def kTb (f : D → D → Option O) (x y : R) (s : S) : Out R := lift s ((peek s x).bind (kT2 f (peek s y)))
def kTa (f : D → D → Option O) (b : E) (call : Call) (x : R) (s : S) : Out R := (b call s).bind (kTb f x)
def kO2 (f : D → Option O) (d1 : D) : Option R := (f d1).map R.own
def kO (f : D → Option O) (x : R) (s : S) : Out R := lift s ((peek s x).bind (kO2 f))
theorem x_two {f : D → D → Option O} {a b : E} : mTwo f a b call s = (a call s).bind (kTa f b call) := id rfl
theorem x_ta {f : D → D → Option O} {b : E} {x : R} : kTa f b call x s = (b call s).bind (kTb f x) := id rfl
theorem x_tb {f : D → D → Option O} {x y : R} : kTb f x y s = lift s ((peek s x).bind (kT2 f (peek s y))) := id rfl
theorem x_t2 {f : D → D → Option O} {p : D} {e : D} : kT2 f (some p) e = kT3 f e p := id rfl
theorem x_t3 {f : D → D → Option O} {d e : D} : kT3 f d e = (f d e).map R.own := id rfl
theorem x_one {f : D → Option O} {a : E} : mOne f a call s = (a call s).bind (kO f) := id rfl
theorem x_o {f : D → Option O} {x : R} : kO f x s = lift s ((peek s x).bind (kO2 f)) := id rfl
theorem x_o2 {f : D → Option O} {e : D} : kO2 f e = (f e).map R.own := id rfl
def kTup (ds : List D) (s : S) : Out R := if fitsB ds.length then .ok (.own (.fz (.tup ds))) s else .bad
def kLst (ds : List D) (s : S) : Out R := if fitsB ds.length then .ok (.own (.lst ds)) s else .bad
theorem x_tup {r : As} : mTup r call s = (r call s).bind kTup := id rfl
theorem x_lst {r : As} : mLst r call s = (r call s).bind kLst := id rfl
theorem x_tupK {ds : List D} (hf : ds.length ≤ 100000) : kTup ds s = .ok (.own (.fz (.tup ds))) s := by simp [kTup, fitsB, hf]
theorem x_lstK {ds : List D} (hf : ds.length ≤ 100000) : kLst ds s = .ok (.own (.lst ds)) s := by simp [kLst, fitsB, hf]
theorem x_tupK0 : kTup [] s = .ok (.own (.fz (.tup []))) s := id rfl
theorem x_lstK0 : kLst [] s = .ok (.own (.lst [])) s := id rfl
theorem x_tupK1 {a : D} : kTup [a] s = .ok (.own (.fz (.tup [a]))) s := id rfl
theorem x_lstK1 {a : D} : kLst [a] s = .ok (.own (.lst [a])) s := id rfl
theorem x_tupK2 {a b : D} : kTup [a, b] s = .ok (.own (.fz (.tup [a, b]))) s := id rfl
theorem x_lstK2 {a b : D} : kLst [a, b] s = .ok (.own (.lst [a, b])) s := id rfl
theorem x_tupK3 {a b c : D} : kTup [a, b, c] s = .ok (.own (.fz (.tup [a, b, c]))) s := id rfl
theorem x_lstK3 {a b c : D} : kLst [a, b, c] s = .ok (.own (.lst [a, b, c])) s := id rfl
theorem x_tupK4 {a b c d : D} : kTup [a, b, c, d] s = .ok (.own (.fz (.tup [a, b, c, d]))) s := id rfl
theorem x_lstK4 {a b c d : D} : kLst [a, b, c, d] s = .ok (.own (.lst [a, b, c, d])) s := id rfl
theorem x_tupK5 {a b c d e : D} : kTup [a, b, c, d, e] s = .ok (.own (.fz (.tup [a, b, c, d, e]))) s := id rfl
theorem x_lstK5 {a b c d e : D} : kLst [a, b, c, d, e] s = .ok (.own (.lst [a, b, c, d, e])) s := id rfl
theorem x_tupK6 {a b c d e f : D} : kTup [a, b, c, d, e, f] s = .ok (.own (.fz (.tup [a, b, c, d, e, f]))) s := id rfl
theorem x_lstK6 {a b c d e f : D} : kLst [a, b, c, d, e, f] s = .ok (.own (.lst [a, b, c, d, e, f])) s := id rfl
theorem x_tupK7 {a b c d e f g : D} : kTup [a, b, c, d, e, f, g] s = .ok (.own (.fz (.tup [a, b, c, d, e, f, g]))) s := id rfl
theorem x_lstK7 {a b c d e f g : D} : kLst [a, b, c, d, e, f, g] s = .ok (.own (.lst [a, b, c, d, e, f, g])) s := id rfl
theorem x_tupK8 {a b c d e f g h : D} : kTup [a, b, c, d, e, f, g, h] s = .ok (.own (.fz (.tup [a, b, c, d, e, f, g, h]))) s := id rfl
theorem x_lstK8 {a b c d e f g h : D} : kLst [a, b, c, d, e, f, g, h] s = .ok (.own (.lst [a, b, c, d, e, f, g, h])) s := id rfl
theorem x_tupK9 {a b c d e f g h i : D} : kTup [a, b, c, d, e, f, g, h, i] s = .ok (.own (.fz (.tup [a, b, c, d, e, f, g, h, i]))) s := id rfl
theorem x_lstK9 {a b c d e f g h i : D} : kLst [a, b, c, d, e, f, g, h, i] s = .ok (.own (.lst [a, b, c, d, e, f, g, h, i])) s := id rfl
theorem x_tupK10 {a b c d e f g h i j : D} : kTup [a, b, c, d, e, f, g, h, i, j] s = .ok (.own (.fz (.tup [a, b, c, d, e, f, g, h, i, j]))) s := id rfl
theorem x_lstK10 {a b c d e f g h i j : D} : kLst [a, b, c, d, e, f, g, h, i, j] s = .ok (.own (.lst [a, b, c, d, e, f, g, h, i, j])) s := id rfl
theorem x_tupK11 {a b c d e f g h i j k : D} : kTup [a, b, c, d, e, f, g, h, i, j, k] s = .ok (.own (.fz (.tup [a, b, c, d, e, f, g, h, i, j, k]))) s := id rfl
theorem x_lstK11 {a b c d e f g h i j k : D} : kLst [a, b, c, d, e, f, g, h, i, j, k] s = .ok (.own (.lst [a, b, c, d, e, f, g, h, i, j, k])) s := id rfl
theorem x_tupK12 {a b c d e f g h i j k l : D} : kTup [a, b, c, d, e, f, g, h, i, j, k, l] s = .ok (.own (.fz (.tup [a, b, c, d, e, f, g, h, i, j, k, l]))) s := id rfl
theorem x_lstK12 {a b c d e f g h i j k l : D} : kLst [a, b, c, d, e, f, g, h, i, j, k, l] s = .ok (.own (.lst [a, b, c, d, e, f, g, h, i, j, k, l])) s := id rfl
theorem x_tupK13 {a b c d e f g h i j k l m : D} : kTup [a, b, c, d, e, f, g, h, i, j, k, l, m] s = .ok (.own (.fz (.tup [a, b, c, d, e, f, g, h, i, j, k, l, m]))) s := id rfl
theorem x_lstK13 {a b c d e f g h i j k l m : D} : kLst [a, b, c, d, e, f, g, h, i, j, k, l, m] s = .ok (.own (.lst [a, b, c, d, e, f, g, h, i, j, k, l, m])) s := id rfl
theorem x_tupK14 {a b c d e f g h i j k l m n : D} : kTup [a, b, c, d, e, f, g, h, i, j, k, l, m, n] s = .ok (.own (.fz (.tup [a, b, c, d, e, f, g, h, i, j, k, l, m, n]))) s := id rfl
theorem x_lstK14 {a b c d e f g h i j k l m n : D} : kLst [a, b, c, d, e, f, g, h, i, j, k, l, m, n] s = .ok (.own (.lst [a, b, c, d, e, f, g, h, i, j, k, l, m, n])) s := id rfl
def kVal (x : R) (s : S) : Out Bool := lift s ((peek s x).bind truD)
def isBl : D → Option Bool
  | .bl b => some b
  | _ => none
def kCmp (x : R) (s : S) : Out Bool := lift s ((peek s x).bind isBl)
def kNotB (b : Bool) (s : S) : Out Bool := .ok (!b) s
def kAndB (b : B) (call : Call) (x : Bool) (s : S) : Out Bool := if x then b call s else .ok false s
def kOrB (b : B) (call : Call) (x : Bool) (s : S) : Out Bool := if x then .ok true s else b call s
def kAnd2 (b : E) (call : Call) (x : R) (s : S) : Option Bool → Out R
  | some true => b call s
  | some false => .ok x s
  | none => .bad
def kAnd (b : E) (call : Call) (x : R) (s : S) : Out R := kAnd2 b call x s ((peek s x).bind truD)
def kOr2 (b : E) (call : Call) (x : R) (s : S) : Option Bool → Out R
  | some true => .ok x s
  | some false => b call s
  | none => .bad
def kOr (b : E) (call : Call) (x : R) (s : S) : Out R := kOr2 b call x s ((peek s x).bind truD)
def kNot2 (s : S) : Option Bool → Out R
  | some b => .ok (.own (.fz (.bl (!b)))) s
  | none => .bad
def kNot (x : R) (s : S) : Out R := kNot2 s ((peek s x).bind truD)
def kIfE (a b : E) (call : Call) (x : Bool) (s : S) : Out R := if x then a call s else b call s
theorem x_bval {m : E} : bVal m call s = (m call s).bind kVal := id rfl
theorem x_val {x : R} : kVal x s = lift s ((peek s x).bind truD) := id rfl
theorem x_bcmp {m : E} : bCmp m call s = (m call s).bind kCmp := id rfl
theorem x_cmp {x : R} : kCmp x s = lift s ((peek s x).bind isBl) := id rfl
theorem x_isbl {b : Bool} : isBl (.bl b) = some b := id rfl
theorem x_bnot {m : B} : bNot m call s = (m call s).bind kNotB := id rfl
theorem x_notB {b : Bool} : kNotB b s = .ok (!b) s := id rfl
theorem x_band {a b : B} : bAnd a b call s = (a call s).bind (kAndB b call) := id rfl
theorem x_andT {b : B} : kAndB b call true s = b call s := id rfl
theorem x_andF {b : B} : kAndB b call false s = .ok false s := id rfl
theorem x_bor {a b : B} : bOr a b call s = (a call s).bind (kOrB b call) := id rfl
theorem x_orT {b : B} : kOrB b call true s = .ok true s := id rfl
theorem x_orF {b : B} : kOrB b call false s = b call s := id rfl
theorem x_byes : bYes call s = .ok true s := id rfl
theorem x_and {a b : E} : mAnd a b call s = (a call s).bind (kAnd b call) := id rfl
theorem x_and1 {b : E} {x : R} : kAnd b call x s = kAnd2 b call x s ((peek s x).bind truD) := id rfl
theorem x_and2T {b : E} {x : R} : kAnd2 b call x s (some true) = b call s := id rfl
theorem x_and2F {b : E} {x : R} : kAnd2 b call x s (some false) = .ok x s := id rfl
theorem x_or {a b : E} : mOr a b call s = (a call s).bind (kOr b call) := id rfl
theorem x_or1 {b : E} {x : R} : kOr b call x s = kOr2 b call x s ((peek s x).bind truD) := id rfl
theorem x_or2T {b : E} {x : R} : kOr2 b call x s (some true) = .ok x s := id rfl
theorem x_or2F {b : E} {x : R} : kOr2 b call x s (some false) = b call s := id rfl
theorem x_not {a : E} : mNot a call s = (a call s).bind kNot := id rfl
theorem x_not1 {x : R} : kNot x s = kNot2 s ((peek s x).bind truD) := id rfl
theorem x_not2 {b : Bool} : kNot2 s (some b) = .ok (.own (.fz (.bl (!b)))) s := id rfl
theorem x_ife {c : B} {a b : E} : mIf c a b call s = (c call s).bind (kIfE a b call) := id rfl
theorem x_ifeT {a b : E} : kIfE a b call true s = a call s := id rfl
theorem x_ifeF {a b : E} : kIfE a b call false s = b call s := id rfl
theorem x_tr_n : truD .non = some false := id rfl
theorem x_tr_b {b : Bool} : truD (.bl b) = some b := id rfl
theorem x_tr_i {b : Int} : truD (.int b) = some (b != 0) := id rfl
theorem x_tr_t {b : List D} : truD (.tup b) = some (!b.isEmpty) := id rfl
theorem x_tr_l {b : List D} : truD (.lst b) = some (!b.isEmpty) := id rfl
def kRes (σ : List (Option O)) : Res → Out R
  | .ok o h => .ok (.own o) ⟨σ, h⟩
  | .exc c d h => .exc c d ⟨σ, h⟩
  | .bad => .bad
def kCall (f : Str) (call : Call) (ds : List D) (s : S) : Out R := kRes s.σ (call f ds s.h)
theorem x_call {f : Str} {r : As} : mCall f r call s = (r call s).bind (kCall f call) := id rfl
theorem x_kcall {f : Str} {ds : List D} : kCall f call ds ⟨σ, h⟩ = kRes σ (call f ds h) := id rfl
theorem x_res1 {o : O} : kRes σ (.ok o h) = .ok (.own o) ⟨σ, h⟩ := id rfl
theorem x_res2 {c : Str} {e : D} : kRes σ (.exc c e h) = .exc c e ⟨σ, h⟩ := id rfl
def kBlt2 (f : List D → Option O) (ds : List D) : Option R := (f ds).map R.own
def kBlt (f : List D → Option O) (rs : List R) (s : S) : Out R := lift s ((peeks s rs).bind (kBlt2 f))
def kPs2 (d : D) (ds : List D) : Option (List D) := some (d :: ds)
def kPs (ps : Option (List D)) (d : D) : Option (List D) := ps.bind (kPs2 d)
theorem x_blt {f : List D → Option O} {r : AsR} : mBlt f r call s = (r call s).bind (kBlt f) := id rfl
theorem x_kblt {f : List D → Option O} {rs : List R} : kBlt f rs s = lift s ((peeks s rs).bind (kBlt2 f)) := id rfl
theorem x_kblt2 {f : List D → Option O} {ds : List D} : kBlt2 f ds = (f ds).map R.own := id rfl
theorem x_ps0 : peeks s [] = some [] := id rfl
theorem x_ps {r : R} {rs : List R} : peeks s (r :: rs) = (peek s r).bind (kPs (peeks s rs)) := id rfl
theorem x_ps1 {ps : List D} {e : D} : kPs (some ps) e = some (e :: ps) := id rfl
def kCell (x : R) (s : S) : Out R := match x with
  | .own o => if isCont o then .ok (.own (.fz (.loc s.h.length))) ⟨s.σ, s.h ++ [o]⟩ else .bad
  | _ => .bad
theorem x_cell {m : E} : mCell m call s = (m call s).bind kCell := id rfl
theorem x_cellL {l : List D} : kCell (.own (.lst l)) ⟨σ, h⟩ = .ok (.own (.fz (.loc h.length))) ⟨σ, h ++ [.lst l]⟩ := id rfl
def kAsg2 : Option S → Fl
  | some s2 => .nx s2
  | none => .bad
def kAsg1 (g : Tg) (p : O × S) : Option S := g p.1 p.2
def kAsg (g : Tg) (x : R) (s : S) : Fl := kAsg2 ((keep s x).bind (kAsg1 g))
def kMul1 (gs : List Tg) (p : List O × S) : Option S := asgAll gs p.1 p.2
def kMul (gs : List Tg) (rs : List R) (s : S) : Fl := if fitsB rs.length then kAsg2 ((keepAll s rs).bind (kMul1 gs)) else .bad
def kKa2 (o : O) (q : List O × S) : Option (List O × S) := some (o :: q.1, q.2)
def kKa (rs : List R) (p : O × S) : Option (List O × S) := (keepAll p.2 rs).bind (kKa2 p.1)
def kAs (gs : List Tg) (os : List O) (s : S) : Option S := asgAll gs os s
def kEx (_ : R) (s : S) : Fl := .nx s
theorem x_asg {m : E} {g : Tg} : cAsg m g call s = (m call s).flow (kAsg g) := id rfl
theorem x_asg1 {g : Tg} {x : R} : kAsg g x s = kAsg2 ((keep s x).bind (kAsg1 g)) := id rfl
theorem x_asg2 {g : Tg} {o : O} : kAsg1 g (o, s) = g o s := id rfl
theorem x_asg3 : kAsg2 (some s) = .nx s := id rfl
theorem x_mul {r : AsR} {gs : List Tg} : cMul r gs call s = (r call s).flow (kMul gs) := id rfl
theorem x_mul2 {gs : List Tg} {a b : R} : kMul gs [a, b] s = kAsg2 ((keepAll s [a, b]).bind (kMul1 gs)) := id rfl
theorem x_mul3 {gs : List Tg} {a b c : R} : kMul gs [a, b, c] s = kAsg2 ((keepAll s [a, b, c]).bind (kMul1 gs)) := id rfl
theorem x_mul4 {gs : List Tg} {a b c e : R} : kMul gs [a, b, c, e] s = kAsg2 ((keepAll s [a, b, c, e]).bind (kMul1 gs)) := id rfl
theorem x_mulA {gs : List Tg} {os : List O} : kMul1 gs (os, s) = asgAll gs os s := id rfl
theorem x_ka0 : keepAll s [] = some ([], s) := id rfl
theorem x_ka {r : R} {rs : List R} : keepAll s (r :: rs) = (keep s r).bind (kKa rs) := id rfl
theorem x_ka1 {rs : List R} {o : O} : kKa rs (o, s) = (keepAll s rs).bind (kKa2 o) := id rfl
theorem x_ka2 {o : O} {os : List O} : kKa2 o (os, s) = some (o :: os, s) := id rfl
theorem x_as0 : asgAll [] [] s = some s := id rfl
theorem x_as {g : Tg} {gs : List Tg} {o : O} {os : List O} : asgAll (g :: gs) (o :: os) s = (g o s).bind (kAs gs os) := id rfl
theorem x_as1 {gs : List Tg} {os : List O} : kAs gs os s = asgAll gs os s := id rfl
theorem x_ex {m : E} : cExpr m call s = (m call s).flow kEx := id rfl
theorem x_ex1 {x : R} : kEx x s = .nx s := id rfl
def gUp (a : Option O) (s : S) : S := ⟨a :: s.σ, s.h⟩
theorem x_g0 {a : Option O} {o : O} : gN 0 o ⟨a :: σ, h⟩ = some ⟨some o :: σ, h⟩ := by simp [gN]
theorem x_gS {a : Option O} {o : O} {i : Nat} : gN (i + 1) o ⟨a :: σ, h⟩ = (gN i o ⟨σ, h⟩).map (gUp a) := by
  simp only [gN, List.length_cons, Nat.add_lt_add_iff_right]; split <;> rfl
theorem x_gU {a : Option O} : gUp a ⟨σ, h⟩ = ⟨a :: σ, h⟩ := id rfl
def kGs (r : Tgs) (ds : List D) (s : S) : Option S := r ds s
theorem x_gsN : gsNil [] s = some s := id rfl
theorem x_gsC {g : Tg} {r : Tgs} {e : D} {ds : List D} : gsCons g r (e :: ds) s = (g (.fz e) s).bind (kGs r ds) := id rfl
theorem x_gs {r : Tgs} {ds : List D} : kGs r ds s = r ds s := id rfl
theorem x_gTt1 {r : Tgs} {a : D} : gT 1 r (.fz (.tup [a])) s = r [a] s := id rfl
theorem x_gTl1 {r : Tgs} {a : D} : gT 1 r (.fz (.lst [a])) s = r [a] s := id rfl
theorem x_gTo1 {r : Tgs} {a : D} : gT 1 r (.lst [a]) s = r [a] s := id rfl
theorem x_gTt2 {r : Tgs} {a b : D} : gT 2 r (.fz (.tup [a, b])) s = r [a, b] s := id rfl
theorem x_gTl2 {r : Tgs} {a b : D} : gT 2 r (.fz (.lst [a, b])) s = r [a, b] s := id rfl
theorem x_gTo2 {r : Tgs} {a b : D} : gT 2 r (.lst [a, b]) s = r [a, b] s := id rfl
theorem x_gTt3 {r : Tgs} {a b c : D} : gT 3 r (.fz (.tup [a, b, c])) s = r [a, b, c] s := id rfl
theorem x_gTl3 {r : Tgs} {a b c : D} : gT 3 r (.fz (.lst [a, b, c])) s = r [a, b, c] s := id rfl
theorem x_gTo3 {r : Tgs} {a b c : D} : gT 3 r (.lst [a, b, c]) s = r [a, b, c] s := id rfl
theorem x_gTt4 {r : Tgs} {a b c d : D} : gT 4 r (.fz (.tup [a, b, c, d])) s = r [a, b, c, d] s := id rfl
theorem x_gTl4 {r : Tgs} {a b c d : D} : gT 4 r (.fz (.lst [a, b, c, d])) s = r [a, b, c, d] s := id rfl
theorem x_gTo4 {r : Tgs} {a b c d : D} : gT 4 r (.lst [a, b, c, d]) s = r [a, b, c, d] s := id rfl
theorem x_gTt5 {r : Tgs} {a b c d e : D} : gT 5 r (.fz (.tup [a, b, c, d, e])) s = r [a, b, c, d, e] s := id rfl
theorem x_gTl5 {r : Tgs} {a b c d e : D} : gT 5 r (.fz (.lst [a, b, c, d, e])) s = r [a, b, c, d, e] s := id rfl
theorem x_gTo5 {r : Tgs} {a b c d e : D} : gT 5 r (.lst [a, b, c, d, e]) s = r [a, b, c, d, e] s := id rfl
def seeD : D → Option (List D)
  | .lst ds => some ds
  | _ => none
def kApp4 (x : R) (d : D) (s : S) : Fl := kAsg2 (mutL s (fun ds => if fitsB (ds.length + 1) then some (ds ++ [d]) else none) x)
def kApp3 (x : R) : Option (D × S) → Fl
  | some (d, s3) => kApp4 x d s3
  | none => .bad
def kApp2 (x y : R) (s : S) : Fl := kApp3 x (take s y)
def kApp1 (me : E) (call : Call) (x : R) (s : S) : Option (List D) → Fl
  | none => .bad
  | some _ => (me call s).flow (kApp2 x)
def kApp (me : E) (call : Call) (x : R) (s : S) : Fl := kApp1 me call x s ((peek s x).bind seeD)
theorem x_app {mx me : E} : cApp mx me call s = (mx call s).flow (kApp me call) := by
  show Out.flow _ _ = _; congr 1; funext x s1
  have hz : seeL s1 x = (peek s1 x).bind seeD := by
    unfold seeL
    cases peek s1 x with
    | none => rfl
    | some e => cases e <;> rfl
  show _ = kApp1 me call x s1 ((peek s1 x).bind seeD)
  rw [← hz]
  cases seeL s1 x with
  | none => rfl
  | some e => rfl
theorem x_app0 {me : E} {x : R} : kApp me call x s = kApp1 me call x s ((peek s x).bind seeD) := id rfl
theorem x_see {l : List D} : seeD (.lst l) = some l := id rfl
theorem x_app1 {me : E} {x : R} {l : List D} : kApp1 me call x s (some l) = (me call s).flow (kApp2 x) := id rfl
theorem x_app2 {x y : R} : kApp2 x y s = kApp3 x (take s y) := id rfl
theorem x_app3 {x : R} {e : D} : kApp3 x (some (e, s)) = kApp4 x e s := id rfl
def kMut (σ : List (Option O)) (h : List O) (f : List D → Option (List D)) (i : Nat) : Option (Option O) → Option S
  | some (some (.lst ds)) => (f ds).map fun ds' => ⟨σ.set i (some (.lst ds')), h⟩
  | some (some (.fz d)) => (mutD h f d).map fun h => ⟨σ, h⟩
  | _ => none
theorem x_mutB {f : List D → Option (List D)} {i : Nat} : mutL ⟨σ, h⟩ f (.bor i) = kMut σ h f i (σ[i]?) := by
  show (match σ[i]? with | some (some (.lst ds)) => _ | some (some (.fz d)) => _ | _ => _) = _
  cases σ[i]? with
  | none => rfl
  | some z => cases z with
    | none => rfl
    | some o => cases o <;> rfl
/-- a list in a slot is appended to, loses its last item, is stored into -/
def kAppS (σ : List (Option O)) (h : List O) (i : Nat) (e : D) : Option (Option O) → Fl
  | some (some (.lst ds)) => if fitsB (ds.length + 1) then .nx ⟨σ.set i (some (.lst (ds ++ [e]))), h⟩ else .bad
  | z => kAsg2 (kMut σ h (fun ds => if fitsB (ds.length + 1) then some (ds ++ [e]) else none) i z)
theorem x_app4 {i : Nat} {e : D} : kApp4 (.bor i) e ⟨σ, h⟩ = kAppS σ h i e (σ[i]?) := by
  show kAsg2 (mutL _ _ _) = _
  rw [x_mutB]
  cases σ[i]? with
  | none => rfl
  | some z => cases z with
    | none => rfl
    | some o =>
      cases o with
      | lst ds => show kAsg2 (Option.map _ (if _ then _ else _)) = (if _ then _ else _); split <;> rfl
      | _ => all_goals rfl
theorem x_appS {i : Nat} {e : D} {ds : List D} (hf : ds.length < 100000) : kAppS σ h i e (some (some (.lst ds))) = .nx ⟨σ.set i (some (.lst (ds ++ [e]))), h⟩ := by
  have : fitsB (ds.length + 1) = true := by simp only [fitsB, decide_eq_true_eq]; omega
  simp only [kAppS, this, if_true]
theorem x_appS0 {i : Nat} {z : D}  : kAppS σ h i z (some (some (.lst []))) = .nx ⟨σ.set i (some (.lst [z])), h⟩ := id rfl
theorem x_appS1 {i : Nat} {z : D} {a : D} : kAppS σ h i z (some (some (.lst [a]))) = .nx ⟨σ.set i (some (.lst [a, z])), h⟩ := id rfl
theorem x_appS2 {i : Nat} {z : D} {a b : D} : kAppS σ h i z (some (some (.lst [a, b]))) = .nx ⟨σ.set i (some (.lst [a, b, z])), h⟩ := id rfl
theorem x_appS3 {i : Nat} {z : D} {a b c : D} : kAppS σ h i z (some (some (.lst [a, b, c]))) = .nx ⟨σ.set i (some (.lst [a, b, c, z])), h⟩ := id rfl
theorem x_appS4 {i : Nat} {z : D} {a b c d : D} : kAppS σ h i z (some (some (.lst [a, b, c, d]))) = .nx ⟨σ.set i (some (.lst [a, b, c, d, z])), h⟩ := id rfl
theorem x_appS5 {i : Nat} {z : D} {a b c d e : D} : kAppS σ h i z (some (some (.lst [a, b, c, d, e]))) = .nx ⟨σ.set i (some (.lst [a, b, c, d, e, z])), h⟩ := id rfl
theorem x_appS6 {i : Nat} {z : D} {a b c d e f : D} : kAppS σ h i z (some (some (.lst [a, b, c, d, e, f]))) = .nx ⟨σ.set i (some (.lst [a, b, c, d, e, f, z])), h⟩ := id rfl
def kPopS (σ : List (Option O)) (h : List O) (i : Nat) (z : Option (Option O)) : Fl := kAsg2 (kMut σ h (fun ds => if ds.length = 0 then none else some ds.dropLast) i z)
def kPop (x : R) (s : S) : Fl := kAsg2 (mutL s (fun ds => if ds.length = 0 then none else some ds.dropLast) x)
theorem x_pop {mx : E} : cPop mx call s = (mx call s).flow kPop := id rfl
theorem x_pop1 {i : Nat} : kPop (.bor i) ⟨σ, h⟩ = kPopS σ h i (σ[i]?) := by show kAsg2 (mutL _ _ _) = _; rw [x_mutB]; rfl
theorem x_popS {i : Nat} {e : D} {l : List D} : kPopS σ h i (some (some (.lst (e :: l)))) = .nx ⟨σ.set i (some (.lst (e :: l).dropLast)), h⟩ := id rfl
def stL (i : Int) (e : D) (ds : List D) : Option (List D) := (ixN ds.length i).map fun j => ds.set j e
def kSet4 (e : D) (x : R) (s : S) : Option D → Fl
  | some (.int i) => kAsg2 (mutL s (stL i e) x)
  | _ => .bad
def kSet3 (e : D) (x i : R) (s : S) : Fl := kSet4 e x s (peek s i)
def kSet2 (mi : E) (call : Call) (e : D) (x : R) (s : S) : Fl := (mi call s).flow (kSet3 e x)
def kSet1 (mx mi : E) (call : Call) : Option (D × S) → Fl
  | some (e, s2) => (mx call s2).flow (kSet2 mi call e)
  | none => .bad
def kSet (mx mi : E) (call : Call) (y : R) (s : S) : Fl := kSet1 mx mi call (take s y)
theorem x_set {me mx mi : E} : cSetL me mx mi call s = (me call s).flow (kSet mx mi call) := by
  show Out.flow _ _ = _; congr 1; funext y s1; show _ = kSet1 mx mi call (take s1 y); cases take s1 y with
  | none => rfl
  | some p =>
    obtain ⟨e, s2⟩ := p
    rfl
theorem x_set1 {mx mi : E} {y : R} : kSet mx mi call y s = kSet1 mx mi call (take s y) := id rfl
theorem x_set2 {mx mi : E} {e : D} : kSet1 mx mi call (some (e, s)) = (mx call s).flow (kSet2 mi call e) := id rfl
theorem x_set3 {mi : E} {e : D} {x : R} : kSet2 mi call e x s = (mi call s).flow (kSet3 e x) := id rfl
theorem x_set4 {e : D} {x i : R} : kSet3 e x i s = kSet4 e x s (peek s i) := id rfl
theorem x_set5 {e : D} {x : R} {i : Int} : kSet4 e x s (some (.int i)) = kAsg2 (mutL s (stL i e) x) := id rfl
def kMuL (σ : List (Option O)) (h : List O) (i : Nat) : Option (List D) → Option S
  | some ds => some ⟨σ.set i (some (.lst ds)), h⟩
  | none => none
def kMuC (σ : List (Option O)) : Option (List O) → Option S
  | some h => some ⟨σ, h⟩
  | none => none
def kMc2 (h : List O) (n : Nat) : Option (List D) → Option (List O)
  | some ds => some (h.set n (.lst ds))
  | none => none
def kMc (h : List O) (f : List D → Option (List D)) (n : Nat) : Option O → Option (List O)
  | some (.lst ds) => kMc2 h n (f ds)
  | _ => none
theorem x_mutS {f : List D → Option (List D)} {i : Nat} {ds : List D} : kMut σ h f i (some (some (.lst ds))) = kMuL σ h i (f ds) := by show Option.map _ (f ds) = _; cases f ds <;> rfl
theorem x_mutF {f : List D → Option (List D)} {i : Nat} {e : D} : kMut σ h f i (some (some (.fz e))) = kMuC σ (mutD h f e) := by show Option.map _ (mutD h f e) = _; cases mutD h f e <;> rfl
theorem x_muL {i : Nat} {ds : List D} : kMuL σ h i (some ds) = some ⟨σ.set i (some (.lst ds)), h⟩ := id rfl
theorem x_muC : kMuC σ (some h) = some ⟨σ, h⟩ := id rfl
theorem x_mc {f : List D → Option (List D)} {n : Nat} : mutD h f (.loc n) = kMc h f n (h[n]?) := by
  show (match h[n]? with | some (.lst ds) => _ | _ => _) = _; cases h[n]? with
  | none => rfl
  | some o => cases o with
    | lst ds => show Option.map _ (f ds) = kMc2 h n (f ds); cases f ds <;> rfl
    | _ => all_goals rfl
theorem x_mc1 {f : List D → Option (List D)} {n : Nat} {ds : List D} : kMc h f n (some (.lst ds)) = kMc2 h n (f ds) := id rfl
theorem x_mc2 {n : Nat} {ds : List D} : kMc2 h n (some ds) = some (h.set n (.lst ds)) := id rfl
def kFor (g : Tg) (body : C) (call : Call) (ds : List D) (s : S) : Fl := forL call g body ds s
def kLc2 (σ : List (Option O)) (vs : List Nat) : Out (List D) → Out R
  | .ok acc s2 => .ok (.own (.lst acc)) ⟨rst s2.σ σ vs, s2.h⟩
  | _ => .bad
def kLc (g : Tg) (tt : B) (te : E) (vs : List Nat) (call : Call) (ds : List D) (s : S) : Out R := kLc2 s.σ vs (lcL call g tt te vs ds [] ⟨wipeO s.σ vs, s.h⟩)
def kIv2 : Option (D × S) → Out (List D)
  | some (d, s2) => lift s2 (iterD d)
  | none => .bad
def kIv (x : R) (s : S) : Out (List D) := kIv2 (take s x)
def kRg2 (s : S) : Option (List D) → Out (List D)
  | some [.int j] => if smallR j then .ok (rangeD 0 j.toNat) s else .bad
  | _ => .bad
def kRg (rs : List R) (s : S) : Out (List D) := kRg2 s (peeks s rs)
def kRg22 (s : S) : Option (List D) → Out (List D)
  | some [.int i, .int j] => if smallR i && smallR j then .ok (rangeD i (j - i).toNat) s else .bad
  | _ => .bad
def kRgB (rs : List R) (s : S) : Out (List D) := kRg22 s (peeks s rs)
theorem x_for {m : Iv} {g : Tg} {b : C} : cFor m g b call s = (m call s).flow (kFor g b call) := id rfl
theorem x_forL {g : Tg} {b : C} {ds : List D} : kFor g b call ds s = forL call g b ds s := id rfl
theorem x_lc {m : Iv} {g : Tg} {tt : B} {te : E} {vs : List Nat} : mLc m g tt te vs call s = (m call s).bind (kLc g tt te vs call) := id rfl
theorem x_lc1 {g : Tg} {tt : B} {te : E} {vs : List Nat} {ds : List D} : kLc g tt te vs call ds ⟨σ, h⟩ = kLc2 σ vs (lcL call g tt te vs ds [] ⟨wipeO σ vs, h⟩) := id rfl
theorem x_lc2 {τ : List (Option O)} {vs : List Nat} {l : List D} : kLc2 σ vs (.ok l ⟨τ, h⟩) = .ok (.own (.lst l)) ⟨rst τ σ vs, h⟩ := id rfl
theorem x_wp0 : wipeO σ [] = σ := id rfl
theorem x_wp {v : Nat} {vs : List Nat} : wipeO σ (v :: vs) = (wipeO σ vs).set v none := id rfl
theorem x_rs0 {τ : List (Option O)} : rst τ σ [] = τ := id rfl
theorem x_rs {τ : List (Option O)} {v : Nat} {vs : List Nat} : rst τ σ (v :: vs) = (rst τ σ vs).set v ((σ[v]?).getD none) := id rfl
theorem x_iv {m : E} : iVal m call s = (m call s).bind kIv := id rfl
theorem x_iv1 {x : R} : kIv x s = kIv2 (take s x) := id rfl
theorem x_iv2 {e : D} : kIv2 (some (e, s)) = lift s (iterD e) := id rfl
theorem x_itT {l : List D} : iterD (.tup l) = some l := id rfl
theorem x_itL {l : List D} : iterD (.lst l) = some l := id rfl
theorem x_itS {x : Str} : iterD (.str x) = some (signs x) := id rfl
theorem x_itC {l : List Int} : iterD (.scr l) = some (l.map .int) := id rfl
theorem x_rg {r : AsR} : iRg1 r call s = (r call s).bind kRg := id rfl
theorem x_rg1 {rs : List R} : kRg rs s = kRg2 s (peeks s rs) := id rfl
theorem x_rg2 {j : Int} : kRg2 s (some [.int j]) = if smallR j then .ok (rangeD 0 j.toNat) s else .bad := id rfl
theorem x_rgK {j : Int} (h1 : 0 ≤ j) (h2 : j < 100000) : kRg2 s (some [.int j]) = .ok (rangeD 0 j.toNat) s := by
  have : smallR j = true := by simp only [smallR, Bool.and_eq_true, decide_eq_true_eq]; exact ⟨by omega, by omega⟩
  simp only [kRg2, this, if_true]
theorem x_en {m : As} : iEnB m call s = (m call s).bind (fun ds s1 => match ds with | [.tup ds] => .ok (enumD ds) s1 | _ => .bad) := id rfl
def isInt (s : S) : Option D → Out (Option Int)
  | some (.int i) => .ok (some i) s
  | _ => .bad
def kPS (x : R) (s : S) : Out (Option Int) := isInt s (peek s x)
def kSl3 (l u : Option Int) (d : D) : Option R := (slD d l u).map R.own
def kSl2 (x : R) (l u : Option Int) (s : S) : Out R := lift s ((peek s x).bind (kSl3 l u))
def kSl1 (hi : Pt) (call : Call) (x : R) (l : Option Int) (s : S) : Out R := (hi call s).bind (kSl2 x l)
def kSl (lo hi : Pt) (call : Call) (x : R) (s : S) : Out R := (lo call s).bind (kSl1 hi call x)
theorem x_pn : pNone call s = .ok none s := id rfl
theorem x_psm {m : E} : pSome m call s = (m call s).bind kPS := id rfl
theorem x_psm1 {x : R} : kPS x s = isInt s (peek s x) := id rfl
theorem x_psm2 {i : Int} : isInt s (some (.int i)) = .ok (some i) s := id rfl
theorem x_sl {m : E} {lo hi : Pt} : mSl m lo hi call s = (m call s).bind (kSl lo hi call) := id rfl
theorem x_sl0 {lo hi : Pt} {x : R} : kSl lo hi call x s = (lo call s).bind (kSl1 hi call x) := id rfl
theorem x_sl1 {hi : Pt} {x : R} {l : Option Int} : kSl1 hi call x l s = (hi call s).bind (kSl2 x l) := id rfl
theorem x_sl2 {x : R} {l u : Option Int} : kSl2 x l u s = lift s ((peek s x).bind (kSl3 l u)) := id rfl
theorem x_sl3 {l u : Option Int} {e : D} : kSl3 l u e = (slD e l u).map R.own := id rfl
theorem x_slT {l u : Option Int} {ds : List D} : slD (.tup ds) l u = some (.fz (.tup (cutD ds l u))) := id rfl
theorem x_slC {l u : Option Int} {ds : List Int} : slD (.scr ds) l u = some (.lst (cutD (ds.map D.int) l u)) := id rfl
theorem x_slL {l u : Option Int} {ds : List D} : slD (.lst ds) l u = some (.lst (cutD ds l u)) := id rfl
def kCh4 (f' : D → D → Option O) (y z : R) (s : S) : Out R := lift s ((peek s y).bind (kT2 f' (peek s z)))
def kCh3 (f' : D → D → Option O) (c : E) (call : Call) (y : R) (s : S) : Option O → Out R
  | some (.fz (.bl true)) => (c call s).bind (kCh4 f' y)
  | some (.fz (.bl false)) => .ok (.own (.fz (.bl false))) s
  | _ => .bad
def kCh5 (f : D → D → Option O) (p2 : Option D) (d1 : D) : Option O := p2.bind (f d1)
def kCh2 (f f' : D → D → Option O) (c : E) (call : Call) (x y : R) (s : S) : Out R := kCh3 f' c call y s ((peek s x).bind (kCh5 f (peek s y)))
def kCh1 (f f' : D → D → Option O) (b c : E) (call : Call) (x : R) (s : S) : Out R := (b call s).bind (kCh2 f f' c call x)
theorem x_ch {f f' : D → D → Option O} {a b c : E} : mChain f f' a b c call s = (a call s).bind (kCh1 f f' b c call) := id rfl
theorem x_ch1 {f f' : D → D → Option O} {b c : E} {x : R} : kCh1 f f' b c call x s = (b call s).bind (kCh2 f f' c call x) := id rfl
theorem x_ch2 {f f' : D → D → Option O} {c : E} {x y : R} : kCh2 f f' c call x y s = kCh3 f' c call y s ((peek s x).bind (kCh5 f (peek s y))) := id rfl
theorem x_ch3T {f' : D → D → Option O} {c : E} {y : R} : kCh3 f' c call y s (some (.fz (.bl true))) = (c call s).bind (kCh4 f' y) := id rfl
theorem x_ch3F {f' : D → D → Option O} {c : E} {y : R} : kCh3 f' c call y s (some (.fz (.bl false))) = .ok (.own (.fz (.bl false))) s := id rfl
theorem x_ch4 {f' : D → D → Option O} {y z : R} : kCh4 f' y z s = lift s ((peek s y).bind (kT2 f' (peek s z))) := id rfl
theorem x_ch5 {f : D → D → Option O} {p e : D} : kCh5 f (some p) e = f e p := id rfl
def kCn2 (me : E) (call : Call) (x : R) (s : S) : Option D → Out R
  | some (.tup _) => (me call s).bind (kTb countD x)
  | _ => .bad
def kCn (me : E) (call : Call) (x : R) (s : S) : Out R := kCn2 me call x s (peek s x)
theorem x_cn {mx me : E} : mCnt mx me call s = (mx call s).bind (kCn me call) := id rfl
theorem x_cn1 {me : E} {x : R} : kCn me call x s = kCn2 me call x s (peek s x) := id rfl
theorem x_cn2 {me : E} {x : R} {l : List D} : kCn2 me call x s (some (.tup l)) = (me call s).bind (kTb countD x) := id rfl
theorem x_ltII {i j : Int} : ltD (.int i) (.int j) = some (.fz (.bl (decide (i < j)))) := id rfl
theorem x_leII {i j : Int} : leD (.int i) (.int j) = some (.fz (.bl (decide (i ≤ j)))) := id rfl
theorem x_gtII {i j : Int} : gtD (.int i) (.int j) = some (.fz (.bl (decide (j < i)))) := id rfl
theorem x_geII {i j : Int} : geD (.int i) (.int j) = some (.fz (.bl (decide (j ≤ i)))) := id rfl
theorem x_eqSS {x : Str} {y : Str} : eqD (.str x) (.str y) = some (.fz (.bl (decide (x = y)))) := id rfl
theorem x_neSS {x : Str} {y : Str} : neD (.str x) (.str y) = some (.fz (.bl (!(decide (x = y))))) := id rfl
theorem x_eqSI {x : Str} {y : Int} : eqD (.str x) (.int y) = some (.fz (.bl (false))) := id rfl
theorem x_neSI {x : Str} {y : Int} : neD (.str x) (.int y) = some (.fz (.bl (!(false)))) := id rfl
theorem x_eqSN {x : Str}  : eqD (.str x) .non = some (.fz (.bl (false))) := id rfl
theorem x_neSN {x : Str}  : neD (.str x) .non = some (.fz (.bl (!(false)))) := id rfl
theorem x_eqIS {x : Int} {y : Str} : eqD (.int x) (.str y) = some (.fz (.bl (false))) := id rfl
theorem x_neIS {x : Int} {y : Str} : neD (.int x) (.str y) = some (.fz (.bl (!(false)))) := id rfl
theorem x_eqII {x : Int} {y : Int} : eqD (.int x) (.int y) = some (.fz (.bl (decide (x = y)))) := id rfl
theorem x_neII {x : Int} {y : Int} : neD (.int x) (.int y) = some (.fz (.bl (!(decide (x = y))))) := id rfl
theorem x_eqIN {x : Int}  : eqD (.int x) .non = some (.fz (.bl (false))) := id rfl
theorem x_neIN {x : Int}  : neD (.int x) .non = some (.fz (.bl (!(false)))) := id rfl
theorem x_eqNS  {y : Str} : eqD .non (.str y) = some (.fz (.bl (false))) := id rfl
theorem x_neNS  {y : Str} : neD .non (.str y) = some (.fz (.bl (!(false)))) := id rfl
theorem x_eqNI  {y : Int} : eqD .non (.int y) = some (.fz (.bl (false))) := id rfl
theorem x_neNI  {y : Int} : neD .non (.int y) = some (.fz (.bl (!(false)))) := id rfl
theorem x_eqNN   : eqD .non .non = some (.fz (.bl (true))) := id rfl
theorem x_neNN   : neD .non .non = some (.fz (.bl (!(true)))) := id rfl
theorem x_addII {i j : Int} : addD (.int i) (.int j) = some (.fz (.int (i + j))) := id rfl
theorem x_addBII {i j : Int} : addB (.int i) (.int j) = some (.fz (.int (i + j))) := id rfl
theorem x_subII {i j : Int} : subD (.int i) (.int j) = some (.fz (.int (i - j))) := id rfl
theorem x_negI {i : Int} : negD (.int i) = some (.fz (.int (-i))) := id rfl
theorem x_isN : isNoneD .non .non = some (.fz (.bl true)) := id rfl
theorem x_isN2 {e : D} : isNoneD e .non = some (.fz (.bl (isNon e))) := id rfl
theorem x_isNN {e : D} : isNotNoneD e .non = some (.fz (.bl (!isNon e))) := id rfl
theorem x_isn_non  : isNon (.non) = true := id rfl
theorem x_isn_bl {b : Bool} : isNon (.bl b) = false := id rfl
theorem x_isn_int {b : Int} : isNon (.int b) = false := id rfl
theorem x_isn_str {b : Str} : isNon (.str b) = false := id rfl
theorem x_isn_tup {b : List D} : isNon (.tup b) = false := id rfl
theorem x_isn_lst {b : List D} : isNon (.lst b) = false := id rfl
theorem x_isn_loc {b : Nat} : isNon (.loc b) = false := id rfl
theorem x_isn_fn {b : Str} : isNon (.fn b) = false := id rfl
theorem x_lenT {l : List D} : lenD [.tup l] = some (.fz (.int l.length)) := id rfl
theorem x_lenL {l : List D} : lenD [.lst l] = some (.fz (.int l.length)) := id rfl
theorem x_lenC {l : List Int} : lenD [.scr l] = some (.fz (.int (l.map D.int).length)) := id rfl
theorem x_atT {l : List D} {i : Int} : atD (.tup l) (.int i) = (atI l i).map .fz := id rfl
theorem x_atL {l : List D} {i : Int} : atD (.lst l) (.int i) = (atI l i).map .fz := id rfl
theorem x_atC {l : List Int} {i : Int} : atD (.scr l) (.int i) = (atI (l.map D.int) i).map .fz := id rfl
theorem x_max {i j : Int} : maxD [.int i, .int j] = some (.fz (.int (if j > i then j else i))) := id rfl
theorem x_min {i j : Int} : minD [.int i, .int j] = some (.fz (.int (if j < i then j else i))) := id rfl
theorem x_intI {i : Int} : intD [.int i] = some (.fz (.int i)) := id rfl
theorem x_intB {i : Bool} : intD [.bl i] = some (.fz (.int (if i then 1 else 0))) := id rfl
theorem x_loT {l : List D} : listOfD [.tup l] = some (.lst l) := id rfl
theorem x_loL {l : List D} : listOfD [.lst l] = some (.lst l) := id rfl
theorem x_toL {l : List D} : tupleOfD [.lst l] = some (.fz (.tup l)) := id rfl
theorem x_toT {l : List D} : tupleOfD [.tup l] = some (.fz (.tup l)) := id rfl
theorem x_ii_non_str  : isiD [.non, .ty "str"] = some (.fz (.bl false)) := by simp only [isiD, isiB, tyD, Option.bind_some, show kitB "NoneType" "str" = some false by decide +kernel, Option.map_some]
theorem x_ii_non_tuple  : isiD [.non, .ty "tuple"] = some (.fz (.bl false)) := by simp only [isiD, isiB, tyD, Option.bind_some, show kitB "NoneType" "tuple" = some false by decide +kernel, Option.map_some]
theorem x_ii_non_list  : isiD [.non, .ty "list"] = some (.fz (.bl false)) := by simp only [isiD, isiB, tyD, Option.bind_some, show kitB "NoneType" "list" = some false by decide +kernel, Option.map_some]
theorem x_ii_non_int  : isiD [.non, .ty "int"] = some (.fz (.bl false)) := by simp only [isiD, isiB, tyD, Option.bind_some, show kitB "NoneType" "int" = some false by decide +kernel, Option.map_some]
theorem x_ii_non_bool  : isiD [.non, .ty "bool"] = some (.fz (.bl false)) := by simp only [isiD, isiB, tyD, Option.bind_some, show kitB "NoneType" "bool" = some false by decide +kernel, Option.map_some]
theorem x_ii_non_dict  : isiD [.non, .ty "dict"] = some (.fz (.bl false)) := by simp only [isiD, isiB, tyD, Option.bind_some, show kitB "NoneType" "dict" = some false by decide +kernel, Option.map_some]
theorem x_ii_bl_str {b : Bool} : isiD [.bl b, .ty "str"] = some (.fz (.bl false)) := by simp only [isiD, isiB, tyD, Option.bind_some, show kitB "bool" "str" = some false by decide +kernel, Option.map_some]
theorem x_ii_bl_tuple {b : Bool} : isiD [.bl b, .ty "tuple"] = some (.fz (.bl false)) := by simp only [isiD, isiB, tyD, Option.bind_some, show kitB "bool" "tuple" = some false by decide +kernel, Option.map_some]
theorem x_ii_bl_list {b : Bool} : isiD [.bl b, .ty "list"] = some (.fz (.bl false)) := by simp only [isiD, isiB, tyD, Option.bind_some, show kitB "bool" "list" = some false by decide +kernel, Option.map_some]
theorem x_ii_bl_int {b : Bool} : isiD [.bl b, .ty "int"] = some (.fz (.bl true)) := by simp only [isiD, isiB, tyD, Option.bind_some, show kitB "bool" "int" = some true by decide +kernel, Option.map_some]
theorem x_ii_bl_bool {b : Bool} : isiD [.bl b, .ty "bool"] = some (.fz (.bl true)) := by simp only [isiD, isiB, tyD, Option.bind_some, show kitB "bool" "bool" = some true by decide +kernel, Option.map_some]
theorem x_ii_bl_dict {b : Bool} : isiD [.bl b, .ty "dict"] = some (.fz (.bl false)) := by simp only [isiD, isiB, tyD, Option.bind_some, show kitB "bool" "dict" = some false by decide +kernel, Option.map_some]
theorem x_ii_int_str {b : Int} : isiD [.int b, .ty "str"] = some (.fz (.bl false)) := by simp only [isiD, isiB, tyD, Option.bind_some, show kitB "int" "str" = some false by decide +kernel, Option.map_some]
theorem x_ii_int_tuple {b : Int} : isiD [.int b, .ty "tuple"] = some (.fz (.bl false)) := by simp only [isiD, isiB, tyD, Option.bind_some, show kitB "int" "tuple" = some false by decide +kernel, Option.map_some]
theorem x_ii_int_list {b : Int} : isiD [.int b, .ty "list"] = some (.fz (.bl false)) := by simp only [isiD, isiB, tyD, Option.bind_some, show kitB "int" "list" = some false by decide +kernel, Option.map_some]
theorem x_ii_int_int {b : Int} : isiD [.int b, .ty "int"] = some (.fz (.bl true)) := by simp only [isiD, isiB, tyD, Option.bind_some, show kitB "int" "int" = some true by decide +kernel, Option.map_some]
theorem x_ii_int_bool {b : Int} : isiD [.int b, .ty "bool"] = some (.fz (.bl false)) := by simp only [isiD, isiB, tyD, Option.bind_some, show kitB "int" "bool" = some false by decide +kernel, Option.map_some]
theorem x_ii_int_dict {b : Int} : isiD [.int b, .ty "dict"] = some (.fz (.bl false)) := by simp only [isiD, isiB, tyD, Option.bind_some, show kitB "int" "dict" = some false by decide +kernel, Option.map_some]
theorem x_ii_str_str {b : Str} : isiD [.str b, .ty "str"] = some (.fz (.bl true)) := by simp only [isiD, isiB, tyD, Option.bind_some, show kitB "str" "str" = some true by decide +kernel, Option.map_some]
theorem x_ii_str_tuple {b : Str} : isiD [.str b, .ty "tuple"] = some (.fz (.bl false)) := by simp only [isiD, isiB, tyD, Option.bind_some, show kitB "str" "tuple" = some false by decide +kernel, Option.map_some]
theorem x_ii_str_list {b : Str} : isiD [.str b, .ty "list"] = some (.fz (.bl false)) := by simp only [isiD, isiB, tyD, Option.bind_some, show kitB "str" "list" = some false by decide +kernel, Option.map_some]
theorem x_ii_str_int {b : Str} : isiD [.str b, .ty "int"] = some (.fz (.bl false)) := by simp only [isiD, isiB, tyD, Option.bind_some, show kitB "str" "int" = some false by decide +kernel, Option.map_some]
theorem x_ii_str_bool {b : Str} : isiD [.str b, .ty "bool"] = some (.fz (.bl false)) := by simp only [isiD, isiB, tyD, Option.bind_some, show kitB "str" "bool" = some false by decide +kernel, Option.map_some]
theorem x_ii_str_dict {b : Str} : isiD [.str b, .ty "dict"] = some (.fz (.bl false)) := by simp only [isiD, isiB, tyD, Option.bind_some, show kitB "str" "dict" = some false by decide +kernel, Option.map_some]
theorem x_ii_tup_str {b : List D} : isiD [.tup b, .ty "str"] = some (.fz (.bl false)) := by simp only [isiD, isiB, tyD, Option.bind_some, show kitB "tuple" "str" = some false by decide +kernel, Option.map_some]
theorem x_ii_tup_tuple {b : List D} : isiD [.tup b, .ty "tuple"] = some (.fz (.bl true)) := by simp only [isiD, isiB, tyD, Option.bind_some, show kitB "tuple" "tuple" = some true by decide +kernel, Option.map_some]
theorem x_ii_tup_list {b : List D} : isiD [.tup b, .ty "list"] = some (.fz (.bl false)) := by simp only [isiD, isiB, tyD, Option.bind_some, show kitB "tuple" "list" = some false by decide +kernel, Option.map_some]
theorem x_ii_tup_int {b : List D} : isiD [.tup b, .ty "int"] = some (.fz (.bl false)) := by simp only [isiD, isiB, tyD, Option.bind_some, show kitB "tuple" "int" = some false by decide +kernel, Option.map_some]
theorem x_ii_tup_bool {b : List D} : isiD [.tup b, .ty "bool"] = some (.fz (.bl false)) := by simp only [isiD, isiB, tyD, Option.bind_some, show kitB "tuple" "bool" = some false by decide +kernel, Option.map_some]
theorem x_ii_tup_dict {b : List D} : isiD [.tup b, .ty "dict"] = some (.fz (.bl false)) := by simp only [isiD, isiB, tyD, Option.bind_some, show kitB "tuple" "dict" = some false by decide +kernel, Option.map_some]
theorem x_ii_lst_str {b : List D} : isiD [.lst b, .ty "str"] = some (.fz (.bl false)) := by simp only [isiD, isiB, tyD, Option.bind_some, show kitB "list" "str" = some false by decide +kernel, Option.map_some]
theorem x_ii_lst_tuple {b : List D} : isiD [.lst b, .ty "tuple"] = some (.fz (.bl false)) := by simp only [isiD, isiB, tyD, Option.bind_some, show kitB "list" "tuple" = some false by decide +kernel, Option.map_some]
theorem x_ii_lst_list {b : List D} : isiD [.lst b, .ty "list"] = some (.fz (.bl true)) := by simp only [isiD, isiB, tyD, Option.bind_some, show kitB "list" "list" = some true by decide +kernel, Option.map_some]
theorem x_ii_lst_int {b : List D} : isiD [.lst b, .ty "int"] = some (.fz (.bl false)) := by simp only [isiD, isiB, tyD, Option.bind_some, show kitB "list" "int" = some false by decide +kernel, Option.map_some]
theorem x_ii_lst_bool {b : List D} : isiD [.lst b, .ty "bool"] = some (.fz (.bl false)) := by simp only [isiD, isiB, tyD, Option.bind_some, show kitB "list" "bool" = some false by decide +kernel, Option.map_some]
theorem x_ii_lst_dict {b : List D} : isiD [.lst b, .ty "dict"] = some (.fz (.bl false)) := by simp only [isiD, isiB, tyD, Option.bind_some, show kitB "list" "dict" = some false by decide +kernel, Option.map_some]
theorem x_ii_scr_str {b : List Int} : isiD [.scr b, .ty "str"] = some (.fz (.bl false)) := by simp only [isiD, isiB, tyD, Option.bind_some, show kitB "list" "str" = some false by decide +kernel, Option.map_some]
theorem x_ii_scr_tuple {b : List Int} : isiD [.scr b, .ty "tuple"] = some (.fz (.bl false)) := by simp only [isiD, isiB, tyD, Option.bind_some, show kitB "list" "tuple" = some false by decide +kernel, Option.map_some]
theorem x_ii_scr_list {b : List Int} : isiD [.scr b, .ty "list"] = some (.fz (.bl true)) := by simp only [isiD, isiB, tyD, Option.bind_some, show kitB "list" "list" = some true by decide +kernel, Option.map_some]
theorem x_ii_scr_int {b : List Int} : isiD [.scr b, .ty "int"] = some (.fz (.bl false)) := by simp only [isiD, isiB, tyD, Option.bind_some, show kitB "list" "int" = some false by decide +kernel, Option.map_some]
theorem x_ii_scr_bool {b : List Int} : isiD [.scr b, .ty "bool"] = some (.fz (.bl false)) := by simp only [isiD, isiB, tyD, Option.bind_some, show kitB "list" "bool" = some false by decide +kernel, Option.map_some]
theorem x_ii_scr_dict {b : List Int} : isiD [.scr b, .ty "dict"] = some (.fz (.bl false)) := by simp only [isiD, isiB, tyD, Option.bind_some, show kitB "list" "dict" = some false by decide +kernel, Option.map_some]
theorem x_ii_dic_str {ks : List Key} {b : List D} : isiD [.dic ks b, .ty "str"] = some (.fz (.bl false)) := by simp only [isiD, isiB, tyD, Option.bind_some, show kitB "dict" "str" = some false by decide +kernel, Option.map_some]
theorem x_ii_dic_tuple {ks : List Key} {b : List D} : isiD [.dic ks b, .ty "tuple"] = some (.fz (.bl false)) := by simp only [isiD, isiB, tyD, Option.bind_some, show kitB "dict" "tuple" = some false by decide +kernel, Option.map_some]
theorem x_ii_dic_list {ks : List Key} {b : List D} : isiD [.dic ks b, .ty "list"] = some (.fz (.bl false)) := by simp only [isiD, isiB, tyD, Option.bind_some, show kitB "dict" "list" = some false by decide +kernel, Option.map_some]
theorem x_ii_dic_int {ks : List Key} {b : List D} : isiD [.dic ks b, .ty "int"] = some (.fz (.bl false)) := by simp only [isiD, isiB, tyD, Option.bind_some, show kitB "dict" "int" = some false by decide +kernel, Option.map_some]
theorem x_ii_dic_bool {ks : List Key} {b : List D} : isiD [.dic ks b, .ty "bool"] = some (.fz (.bl false)) := by simp only [isiD, isiB, tyD, Option.bind_some, show kitB "dict" "bool" = some false by decide +kernel, Option.map_some]
theorem x_ii_dic_dict {ks : List Key} {b : List D} : isiD [.dic ks b, .ty "dict"] = some (.fz (.bl true)) := by simp only [isiD, isiB, tyD, Option.bind_some, show kitB "dict" "dict" = some true by decide +kernel, Option.map_some]
def kRz (c : Str) (ds : List D) (s : S) : Fl := match ds with
  | [e] => .exc c e s
  | _ => .bad
def kTry (xs : List (Str × Str)) (hs : List (Str × Option Nat × E)) (call : Call) : Fl → Fl
  | .exc c e s => tryCl xs c e call s hs
  | y => y
def kTf (c : Str) (e : D) (call : Call) (s : S) (i : Option Nat) (m : E) : Option Str → Fl
  | some f => endSu (cRet m call (suiteS i c f e s))
  | none => .bad
def kTc (xs : List (Str × Str)) (c : Str) (e : D) (call : Call) (s : S) (i : Option Nat) (m : E) (r : List (Str × Option Nat × E)) : Bool → Fl
  | true => kTf c e call s i m (xs.lookup c)
  | false => tryCl xs c e call s r
def kEs (o : O) (s : S) : Bool → Fl
  | true => .rt o (offS s)
  | false => .bad
theorem x_rz {c : Str} {r : As} : cRaise c r call s = (r call s).flow (kRz c) := id rfl
theorem x_rz1 {c : Str} {e : D} : kRz c [e] s = .exc c e s := id rfl
theorem x_try {xs : List (Str × Str)} {mb : C} {hs : List (Str × Option Nat × E)} : cTry xs mb hs call s = kTry xs hs call (mb call s) := by
  show (match mb call s with | .exc c e s1 => _ | y => y) = _; cases mb call s <;> rfl
theorem x_tryE {xs : List (Str × Str)} {hs : List (Str × Option Nat × E)} {c : Str} {e : D} : kTry xs hs call (.exc c e s) = tryCl xs c e call s hs := id rfl
theorem x_tryN {xs : List (Str × Str)} {hs : List (Str × Option Nat × E)} : kTry xs hs call (.nx s) = .nx s := id rfl
theorem x_tryR {xs : List (Str × Str)} {hs : List (Str × Option Nat × E)} {o : O} : kTry xs hs call (.rt o s) = .rt o s := id rfl
theorem x_tc0 {xs : List (Str × Str)} {c : Str} {e : D} : tryCl xs c e call s [] = .exc c e s := id rfl
theorem x_tc {xs : List (Str × Str)} {c x : Str} {e : D} {i : Option Nat} {m : E} {r : List (Str × Option Nat × E)} : tryCl xs c e call s ((x, i, m) :: r) = kTc xs c e call s i m r (decide (c = x)) := by
  show (if c = x then _ else _) = _; by_cases h : c = x
  · rw [if_pos h, decide_eq_true h]; show _ = kTf _ _ _ _ _ _ (xs.lookup c); cases xs.lookup c <;> rfl
  · rw [if_neg h, decide_eq_false h]; rfl
theorem x_tcT {xs : List (Str × Str)} {c : Str} {e : D} {i : Option Nat} {m : E} {r : List (Str × Option Nat × E)} : kTc xs c e call s i m r true = kTf c e call s i m (xs.lookup c) := id rfl
theorem x_tcF {xs : List (Str × Str)} {c : Str} {e : D} {i : Option Nat} {m : E} {r : List (Str × Option Nat × E)} : kTc xs c e call s i m r false = tryCl xs c e call s r := id rfl
theorem x_tf {c f : Str} {e : D} {i : Option Nat} {m : E} : kTf c e call s i m (some f) = endSu (cRet m call (suiteS i c f e s)) := id rfl
theorem x_su {c f : Str} {e : D} {i : Nat} : suiteS (some i) c f e ⟨σ, h⟩ = ⟨σ.set i (some (.fz (.xn c f e))), h⟩ := id rfl
theorem x_su0 {c f : Str} {e : D} : suiteS none c f e s = s := id rfl
theorem x_es {o : O} : endSu (.rt o s) = kEs o s (cleanO o) := by show (if _ then _ else _) = _; cases cleanO o <;> rfl
theorem x_esT {o : O} : kEs o ⟨σ, h⟩ true = .rt o ⟨σ.map (fun _ => none), h⟩ := id rfl
theorem x_coF {e : D} : cleanO (.fz e) = cleanD e := id rfl
theorem x_coL {l : List D} : cleanO (.lst l) = cleanDs l := id rfl
theorem x_cd0 : cleanDs [] = true := id rfl
theorem x_cdC {e : D} {l : List D} : cleanDs (e :: l) = (cleanD e && cleanDs l) := id rfl
theorem x_cd_non  : cleanD (.non) = true := by simp only [cleanD]
theorem x_cd_bl {b : Bool} : cleanD (.bl b) = true := by simp only [cleanD]
theorem x_cd_int {b : Int} : cleanD (.int b) = true := by simp only [cleanD]
theorem x_cd_str {b : Str} : cleanD (.str b) = true := by simp only [cleanD]
theorem x_cd_scr {b : List Int} : cleanD (.scr b) = true := by simp only [cleanD]
theorem x_cd_loc {b : Nat} : cleanD (.loc b) = true := by simp only [cleanD]
theorem x_cd_fn {b : Str} : cleanD (.fn b) = true := by simp only [cleanD]
theorem x_cd_ty {b : String} : cleanD (.ty b) = true := by simp only [cleanD]
theorem x_cd_tup {b : List D} : cleanD (.tup b) = cleanDs b :=  by simp only [cleanD]
theorem x_cd_lst {b : List D} : cleanD (.lst b) = cleanDs b :=  by simp only [cleanD]
def kFx (e : D) : Bool → Option O
  | true => some (.fz e)
  | false => none
def kFi (z : Option D) : Bool → Option O
  | true => z.map .fz
  | false => none
theorem x_fx {fl : List (Str × Str)} {c f g : Str} {e : D} : fldD fl f (.xn c g e) = kFx e (decide (f = g)) := by
  show (if f = g then _ else _) = _; by_cases h : f = g
  · rw [if_pos h, decide_eq_true h]; rfl
  · rw [if_neg h, decide_eq_false h]; rfl
theorem x_fxT {e : D} : kFx e true = some (.fz e) := id rfl
theorem x_fi {fl : List (Str × Str)} {c f : Str} {fs : List Str} {l : List D} : fldD fl f (.ins c fs l) = kFi ((fs.zip l).lookup f) (decide ((c, f) ∈ fl)) := by
  show (if (c, f) ∈ fl then _ else _) = _; by_cases h : (c, f) ∈ fl
  · rw [if_pos h, decide_eq_true h]; rfl
  · rw [if_neg h, decide_eq_false h]; rfl
theorem x_fiT {z : Option D} : kFi z true = z.map .fz := id rfl
theorem x_d_xn {c f : Str} {e : D} : deref h (.xn c f e) = some (.xn c f e) := id rfl
theorem x_frz5 {c f : Str} {e : D} : frz (.fz (.xn c f e)) = .xn c f e := id rfl
def kNw (σ : List (Option O)) (n : Nat) : Res → Out R
  | .ok (.fz .non) h => .ok (.own (.fz (.loc n))) ⟨σ, h⟩
  | .exc c e h => .exc c e ⟨σ, h⟩
  | _ => .bad
def kNew (c : Str) (call : Call) (ds : List D) (s : S) : Out R := kNw s.σ s.h.length (call (mkey c "__init__") (.loc s.h.length :: ds) (s.h ++ [.ins c [] []]))
theorem x_new {c : Str} {r : As} : mNew c r call s = (r call s).bind (kNew c call) := id rfl
theorem x_new1 {c : Str} {ds : List D} : kNew c call ds ⟨σ, h⟩ = kNw σ h.length (call (mkey c "__init__") (.loc h.length :: ds) (h ++ [.ins c [] []])) := id rfl
theorem x_new2 {n : Nat} : kNw σ n (.ok (.fz .non) h) = .ok (.own (.fz (.loc n))) ⟨σ, h⟩ := id rfl
theorem x_new3 {n : Nat} {c : Str} {e : D} : kNw σ n (.exc c e h) = .exc c e ⟨σ, h⟩ := id rfl
def kFl4 (σ : List (Option O)) : Option (List O) → Fl
  | some h => .nx ⟨σ, h⟩
  | none => .bad
def kFl3 (fl : List (Str × Str)) (f : Str) (e : D) : Option (D × S) → Fl
  | some (dx, s) => kFl4 s.σ (setFld fl s.h f e dx)
  | none => .bad
def kFl2 (fl : List (Str × Str)) (f : Str) (e : D) (x : R) (s : S) : Fl := kFl3 fl f e (take s x)
def kFl1 (fl : List (Str × Str)) (mx : E) (f : Str) (call : Call) : Option (D × S) → Fl
  | some (e, s) => (mx call s).flow (kFl2 fl f e)
  | none => .bad
def kFl (fl : List (Str × Str)) (mx : E) (f : Str) (call : Call) (y : R) (s : S) : Fl := kFl1 fl mx f call (take s y)
def kSf2 (h : List O) (n : Nat) (c f : Str) (fs : List Str) (xs : List D) (e : D) : Bool → Option (List O)
  | true => some (h.set n (.ins c (putL f e fs xs).1 (putL f e fs xs).2))
  | false => none
def kSf (fl : List (Str × Str)) (h : List O) (f : Str) (e : D) (n : Nat) : Option O → Option (List O)
  | some (.ins c fs xs) => kSf2 h n c f fs xs e (decide ((c, f) ∈ fl ∧ fs.length < 900))
  | _ => none
theorem x_fl {fl : List (Str × Str)} {me mx : E} {f : Str} : cFld fl me mx f call s = (me call s).flow (kFl fl mx f call) := by
  show Out.flow _ _ = Out.flow _ _; congr 1; funext y s1; show _ = kFl1 fl mx f call (take s1 y)
  cases take s1 y with
  | none => rfl
  | some p =>
    obtain ⟨e, s2⟩ := p
    show Out.flow _ _ = Out.flow _ _; congr 1; funext x s3; show _ = kFl3 fl f e (take s3 x)
    cases take s3 x with
    | none => rfl
    | some p =>
      obtain ⟨dx, s4⟩ := p
      show _ = kFl4 s4.σ (setFld fl s4.h f e dx)
      cases hz : setFld fl s4.h f e dx with
      | none => show (match setFld fl s4.h f e dx with | some h => Fl.nx ⟨s4.σ, h⟩ | none => Fl.bad) = _; rw [hz]; rfl
      | some z => show (match setFld fl s4.h f e dx with | some h => Fl.nx ⟨s4.σ, h⟩ | none => Fl.bad) = _; rw [hz]; rfl
theorem x_fl0 {fl : List (Str × Str)} {mx : E} {f : Str} {y : R} : kFl fl mx f call y s = kFl1 fl mx f call (take s y) := id rfl
theorem x_fl1 {fl : List (Str × Str)} {mx : E} {f : Str} {e : D} : kFl1 fl mx f call (some (e, s)) = (mx call s).flow (kFl2 fl f e) := id rfl
theorem x_fl2 {fl : List (Str × Str)} {f : Str} {e : D} {x : R} : kFl2 fl f e x s = kFl3 fl f e (take s x) := id rfl
theorem x_fl3 {fl : List (Str × Str)} {f : Str} {e dx : D} : kFl3 fl f e (some (dx, ⟨σ, h⟩)) = kFl4 σ (setFld fl h f e dx) := id rfl
theorem x_fl4 : kFl4 σ (some h) = .nx ⟨σ, h⟩ := id rfl
theorem x_sf {fl : List (Str × Str)} {f : Str} {e : D} {n : Nat} : setFld fl h f e (.loc n) = kSf fl h f e n (h[n]?) := by
  unfold setFld
  simp only []
  cases hz : h[n]? with
  | none => rfl
  | some o => cases o with
    | ins c fs xs => show (if _ then _ else _) = _; by_cases hh : (c, f) ∈ fl ∧ fs.length < 900
                     · rw [if_pos hh]; simp only [kSf, decide_eq_true hh, kSf2]
                     · rw [if_neg hh]; simp only [kSf, decide_eq_false hh, kSf2]
    | _ => all_goals rfl
theorem x_sf1 {fl : List (Str × Str)} {f c : Str} {e : D} {n : Nat} {fs : List Str} {xs : List D} : kSf fl h f e n (some (.ins c fs xs)) = kSf2 h n c f fs xs e (decide ((c, f) ∈ fl ∧ fs.length < 900)) := id rfl
theorem x_sf2 {f c : Str} {e : D} {n : Nat} {fs : List Str} {xs : List D} : kSf2 h n c f fs xs e true = some (h.set n (.ins c (putL f e fs xs).1 (putL f e fs xs).2)) := id rfl
theorem x_aXT {l : List D} {i : Int} : or2 atD dAt (.tup l) (.int i) = atD (.tup l) (.int i) := by
  unfold or2; cases hz : atD (.tup l) (.int i) <;> rfl
theorem x_aXL {l : List D} {i : Int} : or2 atD dAt (.lst l) (.int i) = atD (.lst l) (.int i) := by
  unfold or2; cases hz : atD (.lst l) (.int i) <;> rfl
theorem x_aXC {l : List Int} {i : Int} : or2 atD dAt (.scr l) (.int i) = atD (.scr l) (.int i) := by
  unfold or2; cases hz : atD (.scr l) (.int i) <;> rfl
theorem x_aXS {l : Str} {i : Int} : or2 atD dAt (.str l) (.int i) = atD (.str l) (.int i) := by
  unfold or2; cases hz : atD (.str l) (.int i) <;> rfl
theorem x_aXD {ks : List Key} {l : List D} {k : Str} : or2 atD dAt (.dic ks l) (.str k) = (valD ks l (.inr k)).map .fz := id rfl
theorem x_iX_tup {a : D} {l : List D} : or2 inD dIn a (.tup l) = inD a (.tup l) := by
  unfold or2; cases hz : inD a (.tup l) <;> rfl
theorem x_iX_lst {a : D} {l : List D} : or2 inD dIn a (.lst l) = inD a (.lst l) := by
  unfold or2; cases hz : inD a (.lst l) <;> rfl
theorem x_iX_str {a : D} {l : Str} : or2 inD dIn a (.str l) = inD a (.str l) := by
  unfold or2; cases hz : inD a (.str l) <;> rfl
theorem x_iX_scr {a : D} {l : List Int} : or2 inD dIn a (.scr l) = inD a (.scr l) := by
  unfold or2; cases hz : inD a (.scr l) <;> rfl
theorem x_nX_tup {a : D} {l : List D} : or2 notInD dNotIn a (.tup l) = notInD a (.tup l) := by
  unfold or2; cases hz : notInD a (.tup l) <;> rfl
theorem x_nX_lst {a : D} {l : List D} : or2 notInD dNotIn a (.lst l) = notInD a (.lst l) := by
  unfold or2; cases hz : notInD a (.lst l) <;> rfl
theorem x_nX_str {a : D} {l : Str} : or2 notInD dNotIn a (.str l) = notInD a (.str l) := by
  unfold or2; cases hz : notInD a (.str l) <;> rfl
theorem x_nX_scr {a : D} {l : List Int} : or2 notInD dNotIn a (.scr l) = notInD a (.scr l) := by
  unfold or2; cases hz : notInD a (.scr l) <;> rfl
theorem x_iXD {ks : List Key} {l : List D} {k : Str} : or2 inD dIn (.str k) (.dic ks l) = some (.fz (.bl (valD ks l (.inr k)).isSome)) := id rfl
theorem x_nXD {ks : List Key} {l : List D} {k : Str} : or2 notInD dNotIn (.str k) (.dic ks l) = some (.fz (.bl (!(valD ks l (.inr k)).isSome))) := id rfl
theorem x_mXI {i j : Int} : or2 mulD mulT (.int i) (.int j) = mulD (.int i) (.int j) := by
  unfold or2; cases hz : mulD (.int i) (.int j) <;> rfl
theorem x_mXL {l : List D} {j : Int} : or2 mulD mulT (.lst l) (.int j) = mulD (.lst l) (.int j) := by
  unfold or2; cases hz : mulD (.lst l) (.int j) <;> rfl
theorem x_mXT {l : List D} {j : Int} : or2 mulD mulT (.tup l) (.int j) = mulT (.tup l) (.int j) := id rfl
theorem x_lX_tup {l : List D} : orN lenD dLen [.tup l] = lenD [.tup l] := by
  unfold orN; cases hz : lenD [.tup l] <;> rfl
theorem x_lX_lst {l : List D} : orN lenD dLen [.lst l] = lenD [.lst l] := by
  unfold orN; cases hz : lenD [.lst l] <;> rfl
theorem x_lX_scr {l : List Int} : orN lenD dLen [.scr l] = lenD [.scr l] := by
  unfold orN; cases hz : lenD [.scr l] <;> rfl
theorem x_lX_str {l : Str} : orN lenD dLen [.str l] = lenD [.str l] := by
  unfold orN; cases hz : lenD [.str l] <;> rfl
theorem x_lX_dic {ks : List Key} {l : List D} : orN lenD dLen [.dic ks l] = some (.fz (.int ks.length)) := id rfl
def kAy3 (e : D) (s : S) : Out (List D) := match e with
  | .dic ks xs => if ks.length = xs.length then .ok (ks.map kD) s else .bad
  | e => lift s (iterD e)
def kAy2 : Option (D × S) → Out (List D)
  | some (e, s) => kAy3 e s
  | none => .bad
def kAy (x : R) (s : S) : Out (List D) := kAy2 (take s x)
def kVs2 : Option (D × S) → Out (List D)
  | some (.dic _ xs, s) => .ok xs s
  | _ => .bad
def kVs (x : R) (s : S) : Out (List D) := kVs2 (take s x)
def kEn (ds : List D) (s : S) : Out (List D) := match ds with
  | [e] => lift s ((itemsD e).map enumD)
  | _ => .bad
theorem x_ay {m : E} : iAny m call s = (m call s).bind kAy := by
  unfold iAny iVal iKeys_
  cases m call s with
  | exc c e s1 => rfl
  | bad => rfl
  | ok x s1 =>
    simp only [Out.bind_ok]
    show _ = kAy2 (take s1 x)
    cases take s1 x with
    | none => rfl
    | some p =>
      obtain ⟨e, s2⟩ := p
      cases e <;> rfl
theorem x_ay1 {x : R} : kAy x s = kAy2 (take s x) := id rfl
theorem x_ay2 {e : D} : kAy2 (some (e, s)) = kAy3 e s := id rfl
theorem x_ayT {l : List D} : kAy3 (.tup l) s = .ok l s := id rfl
theorem x_ayL {l : List D} : kAy3 (.lst l) s = .ok l s := id rfl
theorem x_ayS {x : Str} : kAy3 (.str x) s = .ok (signs x) s := id rfl
theorem x_ayC {l : List Int} : kAy3 (.scr l) s = .ok (l.map .int) s := id rfl
theorem x_vs {m : E} : iVals_ m call s = (m call s).bind kVs := id rfl
theorem x_vs1 {x : R} : kVs x s = kVs2 (take s x) := id rfl
theorem x_vs2 {ks : List Key} {l : List D} : kVs2 (some (.dic ks l, s)) = .ok l s := id rfl
theorem x_ien {m : As} : iEn m call s = (m call s).bind kEn := id rfl
theorem x_enT {l : List D} : kEn [.tup l] s = .ok (enumD l) s := id rfl
theorem x_enL {l : List D} : kEn [.lst l] s = .ok (enumD l) s := id rfl
def kSx5 (e : D) (x : R) (s : S) (k : Key) : Option S → Fl
  | some s2 => .nx s2
  | none => kAsg2 (mutK s k e x)
def kSx4 (e : D) (x : R) (s : S) : Option D → Fl
  | some (.int i) => kSx5 e x s (.inl i) (mutL s (stL i e) x)
  | some (.str k) => kAsg2 (mutK s (.inr k) e x)
  | _ => .bad
def kSx3 (e : D) (x i : R) (s : S) : Fl := kSx4 e x s (peek s i)
def kSx2 (mi : E) (call : Call) (e : D) (x : R) (s : S) : Fl := (mi call s).flow (kSx3 e x)
def kSx1 (mx mi : E) (call : Call) : Option (D × S) → Fl
  | some (e, s2) => (mx call s2).flow (kSx2 mi call e)
  | none => .bad
def kSx (mx mi : E) (call : Call) (y : R) (s : S) : Fl := kSx1 mx mi call (take s y)
theorem x_sx {me mx mi : E} : cSetX me mx mi call s = (me call s).flow (kSx mx mi call) := by
  unfold cSetX cSetL cSetK
  cases me call s with
  | exc c e s1 => rfl
  | bad => rfl
  | ok y s1 =>
    simp only [Out.flow_ok]
    show _ = kSx1 mx mi call (take s1 y)
    cases take s1 y with
    | none => rfl
    | some p =>
      obtain ⟨e, s2⟩ := p
      show _ = (mx call s2).flow (kSx2 mi call e)
      simp only []
      cases mx call s2 with
      | exc c e s1 => rfl
      | bad => rfl
      | ok x s3 =>
        simp only [Out.flow_ok]
        show _ = (mi call s3).flow (kSx3 e x)
        cases mi call s3 with
        | exc c e s1 => rfl
        | bad => rfl
        | ok i s4 =>
          simp only [Out.flow_ok]
          show _ = kSx4 e x s4 (peek s4 i)
          cases peek s4 i with
          | none => rfl
          | some ei => cases ei with
            | int j =>
              show _ = kSx5 e x s4 (.inl j) (mutL s4 (stL j e) x)
              simp only [Option.bind_some, keyD, show (fun ds : List D => (ixN ds.length j).map fun j' => ds.set j' e) = stL j e from rfl]
              cases mutL s4 (stL j e) x with
              | none => simp only [kSx5]; cases mutK s4 (.inl j) e x <;> rfl
              | some s5 => rfl
            | str k =>
              show _ = kAsg2 (mutK s4 (.inr k) e x)
              simp only [Option.bind_some, keyD]
              cases mutK s4 (.inr k) e x <;> rfl
            | _ => all_goals rfl
theorem x_sx1 {mx mi : E} {y : R} : kSx mx mi call y s = kSx1 mx mi call (take s y) := id rfl
theorem x_sx2 {mx mi : E} {e : D} : kSx1 mx mi call (some (e, s)) = (mx call s).flow (kSx2 mi call e) := id rfl
theorem x_sx3 {mi : E} {e : D} {x : R} : kSx2 mi call e x s = (mi call s).flow (kSx3 e x) := id rfl
theorem x_sx4 {e : D} {x i : R} : kSx3 e x i s = kSx4 e x s (peek s i) := id rfl
theorem x_sxI {e : D} {x : R} {i : Int} : kSx4 e x s (some (.int i)) = kSx5 e x s (.inl i) (mutL s (stL i e) x) := id rfl
theorem x_sxS {e : D} {x : R} {k : Str} : kSx4 e x s (some (.str k)) = kAsg2 (mutK s (.inr k) e x) := id rfl
theorem x_sx5 {e : D} {x : R} {k : Key} {s2 : S} : kSx5 e x s k (some s2) = .nx s2 := id rfl
def kMk (σ : List (Option O)) (h : List O) (kk : Key) (e : D) (i : Nat) : Option (Option O) → Option S
  | some (some (.dic ks xs)) => if fitsB ks.length then some ⟨σ.set i (some (.dic (putD ks xs kk e).1 (putD ks xs kk e).2)), h⟩ else none
  | some (some (.fz dd)) => (mutKD h kk e dd).map fun h => ⟨σ, h⟩
  | _ => none
theorem x_mk {kk : Key} {e : D} {i : Nat} : mutK ⟨σ, h⟩ kk e (.bor i) = kMk σ h kk e i (σ[i]?) := by
  show (match σ[i]? with | some (some (.dic ks xs)) => _ | some (some (.fz dd)) => _ | _ => _) = _; cases σ[i]? with
  | none => rfl
  | some z => cases z with
    | none => rfl
    | some o => cases o <;> rfl
theorem x_mkD {kk : Key} {e : D} {i : Nat} {ks : List Key} {xs : List D} (hf : ks.length ≤ 100000) : kMk σ h kk e i (some (some (.dic ks xs))) = some ⟨σ.set i (some (.dic (putD ks xs kk e).1 (putD ks xs kk e).2)), h⟩ := by
  have : fitsB ks.length = true := by simp only [fitsB, decide_eq_true_eq]; exact hf
  simp only [kMk, this, if_true]
def kPr5 (kk : Key) (e : D) (kds : List (Key × D)) (s : S) : Out (List (Key × D)) := .ok ((kk, e) :: kds) s
def kPr4 (r : List (E × E)) (call : Call) (kk : Key) : Option (D × S) → Out (List (Key × D))
  | some (e, s) => (mPairs r call s).bind (kPr5 kk e)
  | none => .bad
def kPr3 (r : List (E × E)) (call : Call) (kk : Key) (y : R) (s : S) : Out (List (Key × D)) := kPr4 r call kk (take s y)
def kPr2 (mv : E) (r : List (E × E)) (call : Call) (s : S) : Option Key → Out (List (Key × D))
  | some kk => (mv call s).bind (kPr3 r call kk)
  | none => .bad
def kPr (mv : E) (r : List (E × E)) (call : Call) (x : R) (s : S) : Out (List (Key × D)) := kPr2 mv r call s ((peek s x).bind keyD)
def kDisp (kds : List (Key × D)) (s : S) : Out R := if kds.length ≤ 15 then .ok (.own (.dic (mergeD kds ([], [])).1 (mergeD kds ([], [])).2)) s else .bad
theorem x_disp {ps : List (E × E)} : mDisp ps call s = (mPairs ps call s).bind kDisp := id rfl
theorem x_pr0 : mPairs [] call s = .ok [] s := id rfl
theorem x_pr {a b : E} {r : List (E × E)} : mPairs ((a, b) :: r) call s = (a call s).bind (kPr b r call) := by
  show Out.bind _ _ = Out.bind _ _; congr 1; funext x s1; show _ = kPr2 b r call s1 ((peek s1 x).bind keyD)
  cases (peek s1 x).bind keyD with
  | none => rfl
  | some kk =>
    show Out.bind _ _ = Out.bind _ _; congr 1; funext y s2; show _ = kPr4 r call kk (take s2 y)
    cases take s2 y with
    | none => rfl
    | some p => rfl
theorem x_pr1 {b : E} {r : List (E × E)} {x : R} : kPr b r call x s = kPr2 b r call s ((peek s x).bind keyD) := id rfl
theorem x_pr2 {b : E} {r : List (E × E)} {kk : Key} : kPr2 b r call s (some kk) = (b call s).bind (kPr3 r call kk) := id rfl
theorem x_pr3 {r : List (E × E)} {kk : Key} {y : R} : kPr3 r call kk y s = kPr4 r call kk (take s y) := id rfl
theorem x_pr4 {r : List (E × E)} {kk : Key} {e : D} : kPr4 r call kk (some (e, s)) = (mPairs r call s).bind (kPr5 kk e) := id rfl
theorem x_pr5 {kk : Key} {e : D} {kds : List (Key × D)} : kPr5 kk e kds s = .ok ((kk, e) :: kds) s := id rfl
theorem x_keyS {x : Str} : keyD (.str x) = some (.inr x) := id rfl
theorem x_keyI {x : Int} : keyD (.int x) = some (.inl x) := id rfl
theorem x_dispK1 {k0 : Key} {a : D} : kDisp [(k0, a)] s = .ok (.own (.dic (mergeD [(k0, a)] ([], [])).1 (mergeD [(k0, a)] ([], [])).2)) s := id rfl
theorem x_dispK2 {k0 k1 : Key} {a b : D} : kDisp [(k0, a), (k1, b)] s = .ok (.own (.dic (mergeD [(k0, a), (k1, b)] ([], [])).1 (mergeD [(k0, a), (k1, b)] ([], [])).2)) s := id rfl
theorem x_dispK3 {k0 k1 k2 : Key} {a b c : D} : kDisp [(k0, a), (k1, b), (k2, c)] s = .ok (.own (.dic (mergeD [(k0, a), (k1, b), (k2, c)] ([], [])).1 (mergeD [(k0, a), (k1, b), (k2, c)] ([], [])).2)) s := id rfl
theorem x_dispK4 {k0 k1 k2 k3 : Key} {a b c d : D} : kDisp [(k0, a), (k1, b), (k2, c), (k3, d)] s = .ok (.own (.dic (mergeD [(k0, a), (k1, b), (k2, c), (k3, d)] ([], [])).1 (mergeD [(k0, a), (k1, b), (k2, c), (k3, d)] ([], [])).2)) s := id rfl
theorem x_dispK5 {k0 k1 k2 k3 k4 : Key} {a b c d e : D} : kDisp [(k0, a), (k1, b), (k2, c), (k3, d), (k4, e)] s = .ok (.own (.dic (mergeD [(k0, a), (k1, b), (k2, c), (k3, d), (k4, e)] ([], [])).1 (mergeD [(k0, a), (k1, b), (k2, c), (k3, d), (k4, e)] ([], [])).2)) s := id rfl
theorem x_dispK6 {k0 k1 k2 k3 k4 k5 : Key} {a b c d e f : D} : kDisp [(k0, a), (k1, b), (k2, c), (k3, d), (k4, e), (k5, f)] s = .ok (.own (.dic (mergeD [(k0, a), (k1, b), (k2, c), (k3, d), (k4, e), (k5, f)] ([], [])).1 (mergeD [(k0, a), (k1, b), (k2, c), (k3, d), (k4, e), (k5, f)] ([], [])).2)) s := id rfl
theorem x_iT_non  : isiT ["list", "tuple"] (.non) = some (.fz (.bl false)) := by
  simp only [isiT, tyD, Option.bind_some]; rw [show kitAnyB "NoneType" ["list", "tuple"] = some false by decide +kernel]; rfl
theorem x_iT_bl {b : Bool} : isiT ["list", "tuple"] (.bl b) = some (.fz (.bl false)) := by
  simp only [isiT, tyD, Option.bind_some]; rw [show kitAnyB "bool" ["list", "tuple"] = some false by decide +kernel]; rfl
theorem x_iT_int {b : Int} : isiT ["list", "tuple"] (.int b) = some (.fz (.bl false)) := by
  simp only [isiT, tyD, Option.bind_some]; rw [show kitAnyB "int" ["list", "tuple"] = some false by decide +kernel]; rfl
theorem x_iT_str {b : Str} : isiT ["list", "tuple"] (.str b) = some (.fz (.bl false)) := by
  simp only [isiT, tyD, Option.bind_some]; rw [show kitAnyB "str" ["list", "tuple"] = some false by decide +kernel]; rfl
theorem x_iT_tup {b : List D} : isiT ["list", "tuple"] (.tup b) = some (.fz (.bl true)) := by
  simp only [isiT, tyD, Option.bind_some]; rw [show kitAnyB "tuple" ["list", "tuple"] = some true by decide +kernel]; rfl
theorem x_iT_lst {b : List D} : isiT ["list", "tuple"] (.lst b) = some (.fz (.bl true)) := by
  simp only [isiT, tyD, Option.bind_some]; rw [show kitAnyB "list" ["list", "tuple"] = some true by decide +kernel]; rfl
theorem x_iT_scr {b : List Int} : isiT ["list", "tuple"] (.scr b) = some (.fz (.bl true)) := by
  simp only [isiT, tyD, Option.bind_some]; rw [show kitAnyB "list" ["list", "tuple"] = some true by decide +kernel]; rfl
theorem x_iT_dic {ks : List Key} {b : List D} : isiT ["list", "tuple"] (.dic ks b) = some (.fz (.bl false)) := by
  simp only [isiT, tyD, Option.bind_some]; rw [show kitAnyB "dict" ["list", "tuple"] = some false by decide +kernel]; rfl
theorem x_finR {o : O} : fin (.rt o ⟨σ, h⟩) = .ok o h := id rfl
theorem x_finN : fin (.nx ⟨σ, h⟩) = .ok (.fz .non) h := id rfl
theorem x_finE {c : Str} {e : D} : fin (.exc c e ⟨σ, h⟩) = .exc c e h := id rfl
theorem ofS_inj {a b : String} : (Str.ofString a = Str.ofString b) = (a = b) := by
  apply propext
  constructor
  · intro e
    rw [Str.ofString_eq_toList, Str.ofString_eq_toList] at e
    have e1 := congrArg (fun x : Str => x.cps.toList) e
    simp only at e1
    have e2 := List.map_inj_right (f := Char.toNat) (fun x y hxy => Char.toNat_inj.mp hxy) |>.mp e1
    exact String.toList_inj.mp e2
  · intro e; rw [e]
end Mi

set_option Elab.async false
set_option linter.all false
set_option maxRecDepth 100000
set_option maxHeartbeats 4000000
/-! Mi, part T: the laws' pools and draws. -/
local macro_rules
  | `(tactic| simp_arith [$xs,*]) => `(tactic| simp only [$xs,*, Mi.y_bo, Mi.y_be, Mi.y_bb, Mi.y_fo, Mi.y_fe, Mi.y_fb, Mi.y_ob, Mi.lift_some, Mi.lift_none, Mi.xT_nx, Mi.xT_rt, Mi.xT_bk, Mi.xT_ct, Mi.xT_exc, Mi.xT_bad, Mi.x_seq, Mi.x_nil, Mi.x_pass, Mi.x_brk, Mi.x_cnt, Mi.x_retN, Mi.x_if, Mi.x_ifT, Mi.x_ifF, Mi.x_ret, Mi.x_ret1, Mi.x_ret2, Mi.x_gvO, Mi.x_gvB, Mi.x_gv, Mi.x_frz1, Mi.x_frz2, Mi.x_frz3, Mi.x_frz4, Mi.x_pkO, Mi.x_pkB, Mi.x_pk, Mi.x_tkO, Mi.x_tkB, Mi.x_tk, Mi.x_kpO, Mi.x_kpB, Mi.x_kp, Mi.x_dl, Mi.x_d_non, Mi.x_d_bl, Mi.x_d_int, Mi.x_d_str, Mi.x_d_tup, Mi.x_d_lst, Mi.x_d_scr, Mi.x_d_ty, Mi.x_d_fn, Mi.x_d_cls, Mi.x_d_dic, Mi.x_d_ins, Mi.x_d_nl, Option.bind_none, Option.map_some, Option.map_none, Mi.x_var, Mi.x_var1, Mi.x_con, Mi.x_dic0, Mi.x_aNil, Mi.x_aCons, Mi.x_a1, Mi.x_a2, Mi.x_a3, Mi.x_rNil, Mi.x_rCons, Mi.x_r1, Mi.x_r2, Mi.x_two, Mi.x_ta, Mi.x_tb, Mi.x_t2, Mi.x_t3, Mi.x_one, Mi.x_o, Mi.x_o2, Mi.x_tup, Mi.x_lst, Mi.x_tupK0, Mi.x_lstK0, Mi.x_tupK1, Mi.x_lstK1, Mi.x_tupK2, Mi.x_lstK2, Mi.x_tupK3, Mi.x_lstK3, Mi.x_tupK4, Mi.x_lstK4, Mi.x_tupK5, Mi.x_lstK5, Mi.x_tupK6, Mi.x_lstK6, Mi.x_tupK7, Mi.x_lstK7, Mi.x_tupK8, Mi.x_lstK8, Mi.x_tupK9, Mi.x_lstK9, Mi.x_tupK10, Mi.x_lstK10, Mi.x_tupK11, Mi.x_lstK11, Mi.x_tupK12, Mi.x_lstK12, Mi.x_tupK13, Mi.x_lstK13, Mi.x_tupK14, Mi.x_lstK14, Mi.x_bval, Mi.x_val, Mi.x_bcmp, Mi.x_cmp, Mi.x_isbl, Mi.x_bnot, Mi.x_notB, Mi.x_band, Mi.x_andT, Mi.x_andF, Mi.x_bor, Mi.x_orT, Mi.x_orF, Mi.x_byes, Mi.x_and, Mi.x_and1, Mi.x_and2T, Mi.x_and2F, Mi.x_or, Mi.x_or1, Mi.x_or2T, Mi.x_or2F, Mi.x_not, Mi.x_not1, Mi.x_not2, Mi.x_ife, Mi.x_ifeT, Mi.x_ifeF, Mi.x_tr_n, Mi.x_tr_b, Mi.x_tr_i, Mi.x_tr_t, Mi.x_tr_l, Mi.x_call, Mi.x_kcall, Mi.x_res1, Mi.x_res2, Mi.x_blt, Mi.x_kblt, Mi.x_kblt2, Mi.x_ps0, Mi.x_ps, Mi.x_ps1, Mi.x_cell, Mi.x_cellL, Mi.x_asg, Mi.x_asg1, Mi.x_asg2, Mi.x_asg3, Mi.x_mul, Mi.x_mul2, Mi.x_mul3, Mi.x_mul4, Mi.x_mulA, Mi.x_ka0, Mi.x_ka, Mi.x_ka1, Mi.x_ka2, Mi.x_as0, Mi.x_as, Mi.x_as1, Mi.x_ex, Mi.x_ex1, Mi.x_g0, Mi.x_gS, Mi.x_gU, Mi.x_gsN, Mi.x_gsC, Mi.x_gs, Mi.x_gTt1, Mi.x_gTl1, Mi.x_gTo1, Mi.x_gTt2, Mi.x_gTl2, Mi.x_gTo2, Mi.x_gTt3, Mi.x_gTl3, Mi.x_gTo3, Mi.x_gTt4, Mi.x_gTl4, Mi.x_gTo4, Mi.x_gTt5, Mi.x_gTl5, Mi.x_gTo5, Mi.x_app, Mi.x_app0, Mi.x_see, Mi.x_app1, Mi.x_app2, Mi.x_app3, Mi.x_app4, Mi.x_appS0, Mi.x_appS1, Mi.x_appS2, Mi.x_appS3, Mi.x_appS4, Mi.x_appS5, Mi.x_appS6, Mi.x_pop, Mi.x_pop1, Mi.x_popS, Mi.x_set, Mi.x_set1, Mi.x_set2, Mi.x_set3, Mi.x_set4, Mi.x_set5, Mi.x_mutB, Mi.x_mutS, Mi.x_mutF, Mi.x_muL, Mi.x_muC, Mi.x_mc, Mi.x_mc1, Mi.x_mc2, Mi.x_for, Mi.x_forL, Mi.x_lc, Mi.x_lc1, Mi.x_lc2, Mi.x_wp0, Mi.x_wp, Mi.x_rs0, Mi.x_rs, Option.getD_some, Option.getD_none, Mi.x_iv, Mi.x_iv1, Mi.x_iv2, Mi.x_itT, Mi.x_itL, Mi.x_itS, Mi.x_itC, Mi.x_rg, Mi.x_rg1, Mi.x_pn, Mi.x_psm, Mi.x_psm1, Mi.x_psm2, Mi.x_sl, Mi.x_sl0, Mi.x_sl1, Mi.x_sl2, Mi.x_sl3, Mi.x_slT, Mi.x_slC, Mi.x_slL, Mi.x_ch, Mi.x_ch1, Mi.x_ch2, Mi.x_ch3T, Mi.x_ch3F, Mi.x_ch4, Mi.x_ch5, Mi.x_cn, Mi.x_cn1, Mi.x_cn2, Mi.x_ltII, Mi.x_leII, Mi.x_gtII, Mi.x_geII, Mi.x_eqSS, Mi.x_neSS, Mi.x_eqSI, Mi.x_neSI, Mi.x_eqSN, Mi.x_neSN, Mi.x_eqIS, Mi.x_neIS, Mi.x_eqII, Mi.x_neII, Mi.x_eqIN, Mi.x_neIN, Mi.x_eqNS, Mi.x_neNS, Mi.x_eqNI, Mi.x_neNI, Mi.x_eqNN, Mi.x_neNN, Mi.x_addII, Mi.x_addBII, Mi.x_subII, Mi.x_negI, Mi.x_isN, Mi.x_isN2, Mi.x_isNN, Mi.x_isn_non, Mi.x_isn_bl, Mi.x_isn_int, Mi.x_isn_str, Mi.x_isn_tup, Mi.x_isn_lst, Mi.x_isn_loc, Mi.x_isn_fn, Mi.x_lenT, Mi.x_lenL, Mi.x_lenC, Mi.x_atT, Mi.x_atL, Mi.x_atC, Mi.x_max, Mi.x_min, Mi.x_intI, Mi.x_intB, Mi.x_loT, Mi.x_loL, Mi.x_toL, Mi.x_toT, Mi.x_ii_non_str, Mi.x_ii_non_tuple, Mi.x_ii_non_list, Mi.x_ii_non_int, Mi.x_ii_non_bool, Mi.x_ii_non_dict, Mi.x_ii_bl_str, Mi.x_ii_bl_tuple, Mi.x_ii_bl_list, Mi.x_ii_bl_int, Mi.x_ii_bl_bool, Mi.x_ii_bl_dict, Mi.x_ii_int_str, Mi.x_ii_int_tuple, Mi.x_ii_int_list, Mi.x_ii_int_int, Mi.x_ii_int_bool, Mi.x_ii_int_dict, Mi.x_ii_str_str, Mi.x_ii_str_tuple, Mi.x_ii_str_list, Mi.x_ii_str_int, Mi.x_ii_str_bool, Mi.x_ii_str_dict, Mi.x_ii_tup_str, Mi.x_ii_tup_tuple, Mi.x_ii_tup_list, Mi.x_ii_tup_int, Mi.x_ii_tup_bool, Mi.x_ii_tup_dict, Mi.x_ii_lst_str, Mi.x_ii_lst_tuple, Mi.x_ii_lst_list, Mi.x_ii_lst_int, Mi.x_ii_lst_bool, Mi.x_ii_lst_dict, Mi.x_ii_scr_str, Mi.x_ii_scr_tuple, Mi.x_ii_scr_list, Mi.x_ii_scr_int, Mi.x_ii_scr_bool, Mi.x_ii_scr_dict, Mi.x_ii_dic_str, Mi.x_ii_dic_tuple, Mi.x_ii_dic_list, Mi.x_ii_dic_int, Mi.x_ii_dic_bool, Mi.x_ii_dic_dict, Mi.x_rz, Mi.x_rz1, Mi.x_try, Mi.x_tryE, Mi.x_tryN, Mi.x_tryR, Mi.x_tc0, Mi.x_tc, Mi.x_tcT, Mi.x_tcF, Mi.x_tf, Mi.x_su, Mi.x_su0, Mi.x_es, Mi.x_esT, Mi.x_coF, Mi.x_coL, Mi.x_cd0, Mi.x_cdC, Mi.x_cd_non, Mi.x_cd_bl, Mi.x_cd_int, Mi.x_cd_str, Mi.x_cd_scr, Mi.x_cd_loc, Mi.x_cd_fn, Mi.x_cd_ty, Mi.x_cd_tup, Mi.x_cd_lst, Bool.true_and, Bool.and_true, Mi.x_fx, Mi.x_fxT, Mi.x_fi, Mi.x_fiT, Mi.x_d_xn, Mi.x_frz5, Mi.x_new, Mi.x_new1, Mi.x_new2, Mi.x_new3, Mi.x_fl, Mi.x_fl0, Mi.x_fl1, Mi.x_fl2, Mi.x_fl3, Mi.x_fl4, Mi.x_sf, Mi.x_sf1, Mi.x_sf2, Mi.x_aXT, Mi.x_aXL, Mi.x_aXC, Mi.x_aXS, Mi.x_aXD, Mi.x_iX_tup, Mi.x_iX_lst, Mi.x_iX_str, Mi.x_iX_scr, Mi.x_nX_tup, Mi.x_nX_lst, Mi.x_nX_str, Mi.x_nX_scr, Mi.x_iXD, Mi.x_nXD, Mi.x_mXI, Mi.x_mXL, Mi.x_mXT, Mi.x_lX_tup, Mi.x_lX_lst, Mi.x_lX_scr, Mi.x_lX_str, Mi.x_lX_dic, Mi.x_ay, Mi.x_ay1, Mi.x_ay2, Mi.x_ayT, Mi.x_ayL, Mi.x_ayS, Mi.x_ayC, Mi.x_vs, Mi.x_vs1, Mi.x_vs2, Mi.x_ien, Mi.x_enT, Mi.x_enL, Mi.x_sx, Mi.x_sx1, Mi.x_sx2, Mi.x_sx3, Mi.x_sx4, Mi.x_sxI, Mi.x_sxS, Mi.x_sx5, Mi.x_mk, Mi.x_disp, Mi.x_pr0, Mi.x_pr, Mi.x_pr1, Mi.x_pr2, Mi.x_pr3, Mi.x_pr4, Mi.x_pr5, Mi.x_keyS, Mi.x_keyI, Mi.x_dispK1, Mi.x_dispK2, Mi.x_dispK3, Mi.x_dispK4, Mi.x_dispK5, Mi.x_dispK6, Mi.x_iT_non, Mi.x_iT_bl, Mi.x_iT_int, Mi.x_iT_str, Mi.x_iT_tup, Mi.x_iT_lst, Mi.x_iT_scr, Mi.x_iT_dic, Mi.x_finR, Mi.x_finN, Mi.x_finE, Mi.ofS_inj, List.getElem?_cons_zero, List.getElem?_cons_succ, List.set_cons_zero, List.set_cons_succ, List.length_cons, List.length_nil, Bool.not_true, Bool.not_false, decide_true, decide_false, String.reduceEq, Nat.reduceAdd, Mi.fI, Mi.fB, Mi.at0, Mi.at1, Mi.at2, Mi.at3, Mi.at4, Mi.at5])
namespace Mi
open PySem PySem.Spec PyProof.Rows L2

def m_pool (add : D → D → Option O) : C := (cSeq (cAsg (mIf (bCmp (mTwo ltD (mVar 1) (mBlt lenX (rCons (mVar 0) rNil)))) (mTwo atX (mVar 0) (mVar 1)) (mTwo add (mTwo mulX (mCon (.int 7)) (mBlt sumD (rCons (mSl (mVar 0) pNone (pSome (mCon (.int 63)))) rNil))) (mVar 1))) (gN 2)) (cSeq (cAsg (mBlt absD (rCons (mVar 2) rNil)) (gN 3)) (cSeq (cAsg (mTwo add (mTwo add (mTwo add (mTwo modD (mBlt intD (rCons (mVar 3) rNil)) (mCon (.int 2147483629))) (mTwo mulX (mTwo mulX (mCon (.int 7919)) (mVar 1)) (mVar 1))) (mTwo mulX (mCon (.int 31)) (mVar 1))) (mCon (.int 17))) (gN 4)) (cSeq (cAsg (mTwo modD (mBlt intD (rCons (mTwo mulX (mVar 4) (mCon (.int 48271))) rNil)) (mCon (.int 2147483647))) (gN 4)) (cSeq (cRet (mLst (aCons (mTwo mulX (mVar 3) (mBlt intD (rCons (mTwo geD (mVar 3) (mTwo powD (mCon (.int 10)) (mCon (.int 18)))) rNil))) (aCons (mTwo modD (mBlt intD (rCons (mTwo mulX (mVar 4) (mVar 4)) rNil)) (mCon (.int 2147483629))) aNil)))) cNil)))))
def m_draw (add : D → D → Option O) : C := (cSeq (cIf (bCmp (mTwo gtD (mTwo atX (mVar 0) (mCon (.int 0))) (mCon (.int 0)))) (cSeq (cAsg (mTwo modD (mBlt intD (rCons (mTwo atX (mVar 0) (mCon (.int 0))) rNil)) (mVar 1)) (gN 2)) (cSeq (cSetX (mTwo fdivD (mTwo atX (mVar 0) (mCon (.int 0))) (mVar 1)) (mVar 0) (mCon (.int 0))) (cSeq (cRet (mVar 2)) cNil))) cNil) (cSeq (cSetX (mTwo modD (mBlt intD (rCons (mTwo add (mTwo mulX (mTwo atX (mVar 0) (mCon (.int 1))) (mCon (.int 48271))) (mCon (.int 11))) rNil)) (mCon (.int 2147483647))) (mVar 0) (mCon (.int 1))) (cSeq (cRet (mTwo modD (mBlt intD (rCons (mTwo fdivD (mTwo modD (mBlt intD (rCons (mTwo mulX (mTwo atX (mVar 0) (mCon (.int 1))) (mTwo atX (mVar 0) (mCon (.int 1)))) rNil)) (mCon (.int 2147483629))) (mCon (.int 16))) rNil)) (mVar 1))) cNil)))
def m_pick : C := (cSeq (cRet (mTwo atX (mVar 1) (mCall "_law_draw" (aCons (mVar 0) (aCons (mBlt lenX (rCons (mVar 1) rNil)) aNil))))) cNil)
/-- a pool stands in the n-th cell -/
def PoolAt (h : List O) (n : Nat) : Prop := ∃ a b : Int, h[n]? = some (.lst [.int a, .int b]) ∧ 0 ≤ a ∧ 0 ≤ b ∧ b < 2147483647
/-- addition of ints -/
def AddI (add : D → D → Option O) : Prop := ∀ i j : Int, add (.int i) (.int j) = fI (i + j)
theorem addI_D : AddI addD := fun _ _ => rfl
theorem addI_B : AddI addB := fun _ _ => rfl
theorem smallI_of {i : Int} (h1 : 0 ≤ i) (h2 : i < 2147483648) : smallI i = true := by
  simp only [smallI, Bool.and_eq_true, decide_eq_true_eq]
  exact ⟨by omega, by omega⟩
/-- the table has the laws' draws -/
structure Draws (tab : Str → Option MFn) (add : D → D → Option O) : Prop where
  addI : AddI add
  pool : ∃ N, N.length = 5 ∧ tab "_law_pool" = some ⟨N, 2, m_pool add⟩
  draw : ∃ N, N.length = 3 ∧ tab "_law_draw" = some ⟨N, 2, m_draw add⟩
  pick : ∃ N, N.length = 2 ∧ tab "_law_pick" = some ⟨N, 2, m_pick⟩
/-- a pool drawn from: just its cell has changed -/
def PoolTo (n : Nat) (h h' : List O) : Prop := h'.length = h.length ∧ (∀ i, i ≠ n → h'[i]? = h[i]?) ∧ PoolAt h' n
theorem PoolTo.refl {n : Nat} {h : List O} (p : PoolAt h n) : PoolTo n h h := ⟨rfl, fun _ _ => rfl, p⟩
theorem PoolTo.trans {n : Nat} {h h' h'' : List O} (a : PoolTo n h h') (b : PoolTo n h' h'') : PoolTo n h h'' := ⟨b.1.trans a.1, fun i hi => (b.2.1 i hi).trans (a.2.1 i hi), b.2.2⟩
theorem PoolTo.at {n : Nat} {h h' : List O} (a : PoolTo n h h') : PoolAt h' n := a.2.2
theorem PoolTo.set {n : Nat} {h : List O} {a b : Int} (p : PoolAt h n) (h1 : 0 ≤ a) (h2 : 0 ≤ b) (h3 : b < 2147483647) : PoolTo n h (h.set n (.lst [.int a, .int b])) := by
  obtain ⟨x, y, e, _⟩ := p
  have hl : n < h.length := by
    rcases Nat.lt_or_ge n h.length with z | z
    · exact z
    · rw [List.getElem?_eq_none z] at e; cases e
  refine ⟨by simp, fun i hi => by rw [List.getElem?_set_ne (fun z => hi z.symm)], a, b, ?_, h1, h2, h3⟩
  rw [List.getElem?_set_self hl]
theorem st0_2 {N : List Str} {a b : D} {m : Nat} (h : N.length = m + 2) : start0 N [a, b] = some (.fz a) :: some (.fz b) :: List.replicate m none := by
  simp only [start0, h, List.length_cons, List.length_nil, List.map_cons, List.map_nil]
  rfl
variable {tab : Str → Option MFn} {add : D → D → Option O}
theorem ix0 : ixN 2 0 = some 0 := rfl
theorem ix1 : ixN 2 1 = some 1 := rfl
theorem draw_ok (T : Draws tab add) (k : Nat) {h : List O} {n : Nat} (hp : PoolAt h n) {m : Int} (h1 : 0 < m) (h2 : m < 1073741824) :
    ∃ r h', callN tab (k + 1) "_law_draw" [.loc n, .int m] h = .ok (.fz (.int r)) h' ∧ 0 ≤ r ∧ r < m ∧ PoolTo n h h' := by
  obtain ⟨N, hN, e⟩ := T.draw
  have hadd := T.addI
  rw [call_at e _ rfl (st0_2 hN)]
  have hp0 := hp
  obtain ⟨a, b, eh, ha, hb, hb2⟩ := hp
  have hsm : smallI b = true := smallI_of hb (by omega)
  simp_arith [m_draw, eh, List.replicate]
  by_cases hz : 0 < a
  · have e0 : decide (0 < a) = true := decide_eq_true hz
    simp_arith [e0, modD, fdivD, h1, h2, if_true, and_self, eh, ix0, stL, fI]
    exact ⟨_, _, rfl, Int.emod_nonneg _ (by omega), Int.emod_lt_of_pos _ h1, PoolTo.set hp0 (Int.ediv_nonneg ha (by omega)) hb hb2⟩
  · have e0 : decide (0 < a) = false := decide_eq_false hz
    have hsm2 : smallI 48271 = true := rfl
    have hq : (0 : Int) < 2147483647 := by decide
    have hq2 : (0 : Int) < 2147483629 := by decide
    have hq3 : (0 : Int) < 16 ∧ (16 : Int) < 1073741824 := by decide
    have l1 : 0 ≤ (b * 48271 + 11) % 2147483647 := Int.emod_nonneg _ (by omega)
    have l2 : (b * 48271 + 11) % 2147483647 < 2147483647 := Int.emod_lt_of_pos _ (by omega)
    have hsm3 : smallI ((b * 48271 + 11) % 2147483647) = true := smallI_of l1 (by omega)
    have hl : n < h.length := by
      rcases Nat.lt_or_ge n h.length with z | z
      · exact z
      · rw [List.getElem?_eq_none z] at eh; cases eh
    have es : ∀ o : O, (h.set n o)[n]? = some o := fun o => List.getElem?_set_self hl
    simp_arith [e0, modD, fdivD, mulD, hadd _ _, h1, h2, if_true, and_self, eh, ix1, hsm, hsm2, Bool.or_true, hq, es, hsm3, hq2, hq3, stL, fI]
    exact ⟨_, _, rfl, Int.emod_nonneg _ (by omega), Int.emod_lt_of_pos _ h1, PoolTo.set hp0 ha l1 l2⟩
theorem atI_lt {l : List D} {r : Int} (h1 : 0 ≤ r) (h2 : r < l.length) : ∃ d, d ∈ l ∧ atI l r = some d ∧ l[r.toNat]? = some d := by
  have hl : r.toNat < l.length := by omega
  refine ⟨l[r.toNat], List.getElem_mem hl, ?_, by simp [hl]⟩
  have := atI_nat (xs := l) (j := r.toNat) (v := l[r.toNat]) (by simp [hl])
  rwa [Int.toNat_of_nonneg h1] at this
/-- what is picked is one of them -/
theorem pick_ok (T : Draws tab add) (k : Nat) {h : List O} {n : Nat} (hp : PoolAt h n) (d0 : D) (l : List D) (hl : itemsD d0 = some l) (h0 : 0 < l.length) (h1 : l.length < 1073741824) :
    ∃ d h', callN tab (k + 2) "_law_pick" [.loc n, d0] h = .ok (.fz d) h' ∧ d ∈ l ∧ PoolTo n h h' := by
  obtain ⟨N, hN, e⟩ := T.pick
  rw [call_at e _ rfl (st0_2 hN)]
  obtain ⟨r, h', ec, r0, r1, pt⟩ := draw_ok T k hp (m := l.length) (by omega) (by omega)
  obtain ⟨d, hd, ea, _⟩ := atI_lt (l := l) r0 r1
  refine ⟨d, h', ?_, hd, pt⟩
  cases d0 with
  | lst ds => cases hl; simp_arith [m_pick, List.replicate, ec, ea]
  | tup ds => cases hl; simp_arith [m_pick, List.replicate, ec, ea]
  | scr ds => cases hl; simp only [List.length_map] at ec; simp_arith [m_pick, List.replicate, List.length_map, ec, ea]
  | _ => all_goals cases hl
theorem ints_map (ns : List Int) : intsD (ns.map .int) = some ns := by
  induction ns with
  | nil => rfl
  | cons a l ih => simp only [List.map_cons, intsD, ih, Option.map_some]
def m_pool0 (add : D → D → Option O) : E := (mIf (bCmp (mTwo ltD (mVar 1) (mBlt lenX (rCons (mVar 0) rNil)))) (mTwo atX (mVar 0) (mVar 1)) (mTwo add (mTwo mulX (mCon (.int 7)) (mBlt sumD (rCons (mSl (mVar 0) pNone (pSome (mCon (.int 63)))) rNil))) (mVar 1)))
theorem pool0_ok {call : Call} (hadd : AddI add) (ns : List Int) {i : Int} (h1 : 0 ≤ i) (h2 : i < 64) (h : List O) :
    ∃ c : Int, m_pool0 add call ⟨[some (.fz (.scr ns)), some (.fz (.int i)), none, none, none], h⟩ = .ok (.own (.fz (.int c))) ⟨[some (.fz (.scr ns)), some (.fz (.int i)), none, none, none], h⟩ := by
  by_cases hlt : i < (ns.map D.int).length
  · have d1 : decide (i < ((ns.map D.int).length : Int)) = true := decide_eq_true hlt
    obtain ⟨d, hd, ea, _⟩ := atI_lt (l := ns.map D.int) h1 hlt
    obtain ⟨c, hc, rfl⟩ := List.mem_map.mp hd
    refine ⟨c, ?_⟩
    simp_arith [m_pool0, d1, ea]
  · have d1 : decide (i < ((ns.map D.int).length : Int)) = false := decide_eq_false hlt
    refine ⟨(7 * (cutD ns none (some 63)).sum + i), ?_⟩
    have s7 : smallI 7 = true := rfl
    have ec : cutD (ns.map D.int) none (some 63) = (cutD ns none (some 63)).map D.int := by
      simp only [cutD, List.length_map, List.map_drop, List.map_take]
    simp_arith [m_pool0, d1, ec, sumD, listD, ints_map, mulD, s7, Bool.true_or, if_true, hadd _ _]
theorem pool_ok (T : Draws tab add) (k : Nat) (ns : List Int) {i : Int} (h1 : 0 ≤ i) (h2 : i < 64) (h : List O) :
    ∃ a b : Int, callN tab (k + 1) "_law_pool" [.scr ns, .int i] h = .ok (.lst [.int a, .int b]) h ∧ 0 ≤ a ∧ 0 ≤ b ∧ b < 2147483647 := by
  obtain ⟨N, hN, e⟩ := T.pool
  have hadd := T.addI
  rw [call_at e _ rfl (st0_2 hN)]
  obtain ⟨c, ec⟩ := pool0_ok (call := callN tab k) hadd ns h1 h2 h
  have c0 : 0 ≤ (if c < 0 then -c else c) := by split <;> omega
  generalize hcc : (if c < 0 then -c else c) = z at c0
  have hq : (0 : Int) < 2147483647 := by decide
  have hq2 : (0 : Int) < 2147483629 := by decide
  have s1 : smallI 7919 = true := rfl
  have s2 : smallI 31 = true := rfl
  have s3 : smallI 48271 = true := rfl
  have si : smallI i = true := smallI_of h1 (by omega)
  have hpw : (0 : Int) ≤ 18 ∧ (18 : Int) ≤ 1000000 ∧ Int.natAbs 10 < 2 ^ 64 := by decide
  generalize hm : ((z % 2147483629 + 7919 * i * i + 31 * i + 17) * 48271) % 2147483647 = m
  have m0 : 0 ≤ m := by rw [← hm]; exact Int.emod_nonneg _ (by omega)
  have m1 : m < 2147483647 := by rw [← hm]; exact Int.emod_lt_of_pos _ (by omega)
  have sm : smallI m = true := smallI_of m0 (by omega)
  have sb : ∀ q : Bool, smallI (if q then 1 else 0) = true := by decide
  refine ⟨z * (if decide ((10 : Int) ^ Int.toNat 18 ≤ z) then 1 else 0), (m * m) % 2147483629, ?_, ?_, Int.emod_nonneg _ (by omega), ?_⟩
  · simp only [m_pool, x_seq, x_asg]
    show fin (((m_pool0 add (callN tab k) _).flow _).then _) = _
    simp only [List.replicate]
    rw [ec]
    simp_arith [absD, hcc, modD, mulD, hadd _ _, hq, hq2, s1, s2, s3, si, hpw, powD, Bool.or_true, Bool.true_or, and_self, hm, sm, sb, if_true]
  · split <;> omega
  · have := Int.emod_lt_of_pos (m * m) (show (0 : Int) < 2147483629 by decide)
    omega
end Mi

set_option Elab.async false
set_option linter.all false
set_option maxRecDepth 100000
set_option maxHeartbeats 4000000
/-! the program's defs and the laws' drawings, turned (printed by vsd.py) -/
namespace Vs
open PySem PySem.Spec PyProof.Rows L2 Mi
def m_is_name : C := (cSeq (cRet (mAnd (mBlt isiD (rCons (mVar 0) (rCons (mCon (.ty "str")) rNil))) (mAnd (mChain leD leD (mCon (.int 1)) (mBlt lenX (rCons (mVar 0) rNil)) (mCon (.int 8))) (mBlt allD (rCons (mLc (iAny (mVar 0)) (gN 1) bYes (mTwo inX (mVar 1) (mCon (.str "abcdefghijklmnopqrstuvwxyz"))) [1]) rNil))))) cNil)
def v_is_name : MFn := ⟨["value", "sign"], 1, m_is_name⟩
def m_are_names : C := (cSeq (cRet (mAnd (mBlt isiD (rCons (mVar 0) (rCons (mCon (.ty "tuple")) rNil))) (mBlt allD (rCons (mLc (iAny (mVar 0)) (gN 1) bYes (mCall "is_name" (aCons (mVar 1) aNil)) [1]) rNil)))) cNil)
def v_are_names : MFn := ⟨["value", "item"], 1, m_are_names⟩
def m_has_kind : C := (cSeq (cRet (mAnd (mBlt isiD (rCons (mVar 0) (rCons (mCon (.ty "tuple")) rNil))) (mAnd (mTwo eqD (mBlt lenX (rCons (mVar 0) rNil)) (mVar 2)) (mAnd (mBlt isiD (rCons (mTwo atX (mVar 0) (mCon (.int 0))) (rCons (mCon (.ty "str")) rNil))) (mTwo eqD (mTwo atX (mVar 0) (mCon (.int 0))) (mVar 1)))))) cNil)
def v_has_kind : MFn := ⟨["value", "kind", "many"], 3, m_has_kind⟩
def m_is_row : C := (cSeq (cIf (bVal (mCall "has_kind" (aCons (mVar 0) (aCons (mCon (.str "copy")) (aCons (mCon (.int 3)) aNil))))) (cSeq (cRet (mAnd (mCall "is_name" (aCons (mTwo atX (mVar 0) (mCon (.int 1))) aNil)) (mCall "is_name" (aCons (mTwo atX (mVar 0) (mCon (.int 2))) aNil)))) cNil) cNil) (cSeq (cIf (bOr (bNot (bVal (mCall "has_kind" (aCons (mVar 0) (aCons (mCon (.str "set")) (aCons (mCon (.int 4)) aNil)))))) (bOr (bNot (bVal (mCall "is_name" (aCons (mTwo atX (mVar 0) (mCon (.int 1))) aNil)))) (bNot (bVal (mCall "is_name" (aCons (mTwo atX (mVar 0) (mCon (.int 2))) aNil)))))) (cSeq (cRet (mCon (.bl false))) cNil) cNil) (cSeq (cRet (mAnd (mCall "are_names" (aCons (mTwo atX (mVar 0) (mCon (.int 3))) aNil)) (mTwo leD (mBlt lenX (rCons (mTwo atX (mVar 0) (mCon (.int 3))) rNil)) (mCon (.int 2))))) cNil)))
def v_is_row : MFn := ⟨["value"], 1, m_is_row⟩
def m_is_end : C := (cSeq (cIf (bOr (bVal (mCall "has_kind" (aCons (mVar 0) (aCons (mCon (.str "go")) (aCons (mCon (.int 2)) aNil))))) (bVal (mCall "has_kind" (aCons (mVar 0) (aCons (mCon (.str "return")) (aCons (mCon (.int 2)) aNil)))))) (cSeq (cRet (mCall "is_name" (aCons (mTwo atX (mVar 0) (mCon (.int 1))) aNil))) cNil) cNil) (cSeq (cRet (mAnd (mCall "has_kind" (aCons (mVar 0) (aCons (mCon (.str "either")) (aCons (mCon (.int 3)) aNil)))) (mAnd (mCall "is_name" (aCons (mTwo atX (mVar 0) (mCon (.int 1))) aNil)) (mAnd (mCall "is_name" (aCons (mTwo atX (mVar 0) (mCon (.int 2))) aNil)) (mTwo neD (mTwo atX (mVar 0) (mCon (.int 1))) (mTwo atX (mVar 0) (mCon (.int 2)))))))) cNil))
def v_is_end : MFn := ⟨["value"], 1, m_is_end⟩
structure Words (tab : Str → Option MFn) : Prop where
  is_name : tab "is_name" = some v_is_name
  are_names : tab "are_names" = some v_are_names
  has_kind : tab "has_kind" = some v_has_kind
  is_row : tab "is_row" = some v_is_row
  is_end : tab "is_end" = some v_is_end
def m_is_block : C := (cSeq (cIf (bOr (bNot (bVal (mBlt isiD (rCons (mVar 0) (rCons (mCon (.ty "tuple")) rNil))))) (bOr (bCmp (mTwo neD (mBlt lenX (rCons (mVar 0) rNil)) (mCon (.int 3)))) (bOr (bNot (bVal (mCall "is_name" (aCons (mTwo atX (mVar 0) (mCon (.int 0))) aNil)))) (bNot (bVal (mBlt isiD (rCons (mTwo atX (mVar 0) (mCon (.int 1))) (rCons (mCon (.ty "tuple")) rNil)))))))) (cSeq (cRet (mCon (.bl false))) cNil) cNil) (cSeq (cRet (mAnd (mTwo leD (mBlt lenX (rCons (mTwo atX (mVar 0) (mCon (.int 1))) rNil)) (mCon (.int 6))) (mAnd (mBlt allD (rCons (mLc (iAny (mTwo atX (mVar 0) (mCon (.int 1)))) (gN 1) bYes (mCall "is_row" (aCons (mVar 1) aNil)) [1]) rNil)) (mCall "is_end" (aCons (mTwo atX (mVar 0) (mCon (.int 2))) aNil))))) cNil))
def v_is_block : MFn := ⟨["value", "row"], 1, m_is_block⟩
def m_next_blocks : C := (cSeq (cRet (mIf (bCmp (mTwo eqD (mTwo atX (mVar 0) (mCon (.int 0))) (mCon (.str "return")))) (mTup aNil) (mSl (mVar 0) (pSome (mCon (.int 1))) pNone))) cNil)
def v_next_blocks : MFn := ⟨["end"], 1, m_next_blocks⟩
def m_checked_blocks : C := (cSeq (cIf (bNot (bVal (mOne (isiT ["list", "tuple"]) (mVar 0)))) (cSeq (cRaise "BadBlock" (aCons (mCon .non) aNil)) cNil) cNil) (cSeq (cAsg mDic0 (gN 1)) (cSeq (cFor (iEn (aCons (mVar 0) aNil)) (gT 2 (gsCons (gN 2) (gsCons (gN 3) gsNil))) (cSeq (cIf (bOr (bNot (bVal (mCall "is_block" (aCons (mVar 3) aNil)))) (bCmp (mTwo inX (mTwo atX (mVar 3) (mCon (.int 0))) (mVar 1)))) (cSeq (cRaise "BadBlock" (aCons (mVar 2) aNil)) cNil) cNil) (cSeq (cSetX (mTup (aCons (mTwo atX (mVar 3) (mCon (.int 1))) (aCons (mTwo atX (mVar 3) (mCon (.int 2))) aNil))) (mVar 1) (mTwo atX (mVar 3) (mCon (.int 0)))) cNil))) (cSeq (cIf (bCmp (mTwo gtD (mBlt lenX (rCons (mVar 1) rNil)) (mCon (.int 8)))) (cSeq (cRaise "TooMany" (aCons (mCon (.int 8)) aNil)) cNil) cNil) (cSeq (cIf (bCmp (mTwo eqD (mBlt lenX (rCons (mVar 1) rNil)) (mCon (.int 0)))) (cSeq (cRaise "BadBlock" (aCons (mCon .non) aNil)) cNil) cNil) (cSeq (cFor (iVals_ (mVar 1)) (gT 2 (gsCons (gN 4) (gsCons (gN 5) gsNil))) (cSeq (cFor (iAny (mCall "next_blocks" (aCons (mVar 5) aNil))) (gN 6) (cSeq (cIf (bCmp (mTwo notInX (mVar 6) (mVar 1))) (cSeq (cRaise "UnknownBlock" (aCons (mVar 6) aNil)) cNil) cNil) cNil)) cNil)) (cSeq (cRet (mVar 1)) cNil)))))))
def v_checked_blocks : MFn := ⟨["blocks", "found", "index", "value", "rows", "end", "block"], 1, m_checked_blocks⟩
def m_checked_inputs : C := (cSeq (cIf (bNot (bVal (mOne (isiT ["list", "tuple"]) (mVar 0)))) (cSeq (cRaise "BadInput" (aCons (mCon .non) aNil)) cNil) cNil) (cSeq (cFor (iEn (aCons (mVar 0) aNil)) (gT 2 (gsCons (gN 1) (gsCons (gN 2) gsNil))) (cSeq (cIf (bOr (bNot (bVal (mCall "is_name" (aCons (mVar 2) aNil)))) (bCmp (mTwo inX (mVar 2) (mSl (mVar 0) pNone (pSome (mVar 1)))))) (cSeq (cRaise "BadInput" (aCons (mVar 1) aNil)) cNil) cNil) cNil)) (cSeq (cIf (bCmp (mTwo gtD (mBlt lenX (rCons (mVar 0) rNil)) (mCon (.int 6)))) (cSeq (cRaise "TooMany" (aCons (mCon (.int 6)) aNil)) cNil) cNil) (cSeq (cRet (mBlt tupleOfD (rCons (mVar 0) rNil))) cNil))))
def v_checked_inputs : MFn := ⟨["inputs", "index", "value"], 1, m_checked_inputs⟩
structure Srcs (tab : Str → Option MFn) : Prop extends Words tab where
  is_block : tab "is_block" = some v_is_block
  next_blocks : tab "next_blocks" = some v_next_blocks
  checked_blocks : tab "checked_blocks" = some v_checked_blocks
  checked_inputs : tab "checked_inputs" = some v_checked_inputs
def m_law_names : C := (cSeq (cAsg (mCon (.str "abcdefghijklmnopqrstuvwxyz")) (gN 2)) (cSeq (cMul (rCons (mCall "_law_draw" (aCons (mVar 0) (aCons (mCon (.int 26)) aNil))) (rCons (mTwo addD (mCon (.int 1)) (mTwo mulX (mCon (.int 2)) (mCall "_law_draw" (aCons (mVar 0) (aCons (mCon (.int 6)) aNil))))) rNil)) [(gN 3), (gN 4)]) (cSeq (cAsg (mLst (aCons (mTup (aCons (mCon (.str "")) (aCons (mCon (.str "")) aNil))) (aCons (mTup (aCons (mCon (.str "")) (aCons (mCon (.str "q")) aNil))) (aCons (mTup (aCons (mCon (.str "ab")) (aCons (mCon (.str "")) aNil))) (aCons (mTup (aCons (mCon (.str "abcdefg")) (aCons (mCon (.str "")) aNil))) (aCons (mTup (aCons (mCon (.str "")) (aCons (mCon (.str "abcdefg")) aNil))) aNil)))))) (gN 5)) (cSeq (cAsg (mCall "_law_pick" (aCons (mVar 0) (aCons (mVar 5) aNil))) (gT 2 (gsCons (gN 6) (gsCons (gN 7) gsNil)))) (cSeq (cRet (mLc (iRg1 (rCons (mVar 1) rNil)) (gN 8) bYes (mTwo addD (mTwo addD (mVar 6) (mTwo atX (mVar 2) (mTwo modD (mBlt intD (rCons (mTwo addD (mVar 3) (mTwo mulX (mVar 4) (mVar 8))) rNil)) (mCon (.int 26))))) (mVar 7)) [8])) cNil)))))
def v_law_names : MFn := ⟨["_law_pool_here", "_law_count", "_law_signs", "_law_origin", "_law_step", "_law_ends", "_law_head", "_law_tail", "_law_k"], 2, m_law_names⟩
def m_law_row : C := (cSeq (cAsg (mCall "_law_pick" (aCons (mVar 0) (aCons (mVar 1) aNil))) (gN 3)) (cSeq (cIf (bCmp (mTwo eqD (mCall "_law_draw" (aCons (mVar 0) (aCons (mCon (.int 3)) aNil))) (mCon (.int 0)))) (cSeq (cRet (mTup (aCons (mCon (.str "copy")) (aCons (mVar 3) (aCons (mCall "_law_pick" (aCons (mVar 0) (aCons (mVar 1) aNil))) aNil))))) cNil) cNil) (cSeq (cAsg (mCall "_law_pick" (aCons (mVar 0) (aCons (mVar 2) aNil))) (gN 4)) (cSeq (cAsg (mLc (iRg1 (rCons (mCall "_law_draw" (aCons (mVar 0) (aCons (mCon (.int 3)) aNil))) rNil)) (gN 6) bYes (mCall "_law_pick" (aCons (mVar 0) (aCons (mVar 1) aNil))) [6]) (gN 5)) (cSeq (cRet (mTup (aCons (mCon (.str "set")) (aCons (mVar 3) (aCons (mVar 4) (aCons (mBlt tupleOfD (rCons (mVar 5) rNil)) aNil)))))) cNil)))))
def v_law_row : MFn := ⟨["_law_pool_here", "_law_words", "_law_ops", "_law_x", "_law_op", "_law_some", "_law_turn"], 3, m_law_row⟩
def m_law_end : C := (cSeq (cAsg (mCall "_law_draw" (aCons (mVar 0) (aCons (mCon (.int 4)) aNil))) (gN 3)) (cSeq (cIf (bOr (bCmp (mTwo eqD (mVar 3) (mCon (.int 0)))) (bAnd (bCmp (mTwo eqD (mBlt lenX (rCons (mVar 1) rNil)) (mCon (.int 1)))) (bCmp (mTwo neD (mVar 3) (mCon (.int 1)))))) (cSeq (cRet (mTup (aCons (mCon (.str "return")) (aCons (mCall "_law_pick" (aCons (mVar 0) (aCons (mVar 2) aNil))) aNil)))) cNil) cNil) (cSeq (cIf (bCmp (mTwo eqD (mVar 3) (mCon (.int 1)))) (cSeq (cRet (mTup (aCons (mCon (.str "go")) (aCons (mCall "_law_pick" (aCons (mVar 0) (aCons (mVar 1) aNil))) aNil)))) cNil) cNil) (cSeq (cAsg (mCall "_law_draw" (aCons (mVar 0) (aCons (mBlt lenX (rCons (mVar 1) rNil)) aNil))) (gN 4)) (cSeq (cAsg (mTwo addD (mTwo addD (mVar 4) (mCon (.int 1))) (mCall "_law_draw" (aCons (mVar 0) (aCons (mTwo subD (mBlt lenX (rCons (mVar 1) rNil)) (mCon (.int 1))) aNil)))) (gN 5)) (cSeq (cRet (mTup (aCons (mCon (.str "either")) (aCons (mTwo atX (mVar 1) (mVar 4)) (aCons (mTwo atX (mVar 1) (mTwo modD (mBlt intD (rCons (mVar 5) rNil)) (mBlt lenX (rCons (mVar 1) rNil)))) aNil))))) cNil))))))
def v_law_end : MFn := ⟨["_law_pool_here", "_law_blocks", "_law_words", "_law_kind", "_law_at", "_law_far"], 3, m_law_end⟩
def m_law_source : C := (cSeq (cAsg (mCall "_law_names" (aCons (mVar 0) (aCons (mTwo addD (mCon (.int 1)) (mCall "_law_draw" (aCons (mVar 0) (aCons (mVar 1) aNil)))) aNil))) (gN 2)) (cSeq (cAsg (mCall "_law_names" (aCons (mVar 0) (aCons (mTwo addD (mCon (.int 2)) (mCall "_law_draw" (aCons (mVar 0) (aCons (mCon (.int 2)) aNil)))) aNil))) (gN 3)) (cSeq (cMul (rCons (mCall "_law_names" (aCons (mVar 0) (aCons (mCon (.int 2)) aNil))) (rCons (mLst aNil) rNil)) [(gN 4), (gN 5)]) (cSeq (cFor (iAny (mVar 2)) (gN 6) (cSeq (cAsg (mBlt tupleOfD (rCons (mLc (iRg1 (rCons (mCall "_law_draw" (aCons (mVar 0) (aCons (mCon (.int 4)) aNil))) rNil)) (gN 9) bYes (mCall "_law_row" (aCons (mVar 0) (aCons (mVar 3) (aCons (mVar 4) aNil)))) [9]) rNil)) (gN 7)) (cSeq (cApp (mVar 5) (mTup (aCons (mVar 6) (aCons (mVar 7) (aCons (mCall "_law_end" (aCons (mVar 0) (aCons (mVar 2) (aCons (mVar 3) aNil)))) aNil))))) cNil))) (cSeq (cAsg (mCall "_law_draw" (aCons (mVar 0) (aCons (mTwo addD (mBlt lenX (rCons (mVar 3) rNil)) (mCon (.int 1))) aNil))) (gN 8)) (cSeq (cRet (mDisp [((mCon (.str "blocks")), (mVar 5)), ((mCon (.str "inputs")), (mSl (mVar 3) pNone (pSome (mVar 8)))), ((mCon (.str "words")), (mVar 3)), ((mCon (.str "ops")), (mVar 4))])) cNil))))))
def v_law_source : MFn := ⟨["_law_pool_here", "_law_most", "_law_blocks", "_law_words", "_law_ops", "_law_rows", "_law_block", "_law_some", "_law_many", "_law_turn"], 2, m_law_source⟩
structure Gens (tab : Str → Option MFn) : Prop extends Draws tab addD where
  law_names : tab "_law_names" = some v_law_names
  law_row : tab "_law_row" = some v_law_row
  law_end : tab "_law_end" = some v_law_end
  law_source : tab "_law_source" = some v_law_source
end Vs

set_option Elab.async false
set_option linter.all false
set_option maxRecDepth 100000
set_option maxHeartbeats 8000000
/-! names, rows, ends: what the program's words tell -/
namespace Vs
open PySem PySem.Spec PyProof.Rows L2 Mi
abbrev abc : Str := "abcdefghijklmnopqrstuvwxyz"
def isL (c : Nat) : Bool := !(Builtin.Str.occurrences abc ⟨#[c]⟩ 0 abc.length 1).isEmpty
def isName : D → Bool
  | .str x => decide (1 ≤ x.length) && decide (x.length ≤ 8) && x.cps.toList.all isL
  | _ => false
/-- a value with a known type, of bearable length -/
def okD : D → Bool
  | .str x => fitsB x.length && fitsB x.cps.toList.length
  | d => (tyD d).isSome
theorem le1 {x : Str} : decide ((1 : Int) ≤ (x.length : Int)) = decide (1 ≤ x.length) := by
  by_cases h : 1 ≤ x.length
  · rw [decide_eq_true h, decide_eq_true (by omega)]
  · rw [decide_eq_false h, decide_eq_false (by omega)]
theorem le8 {x : Str} : decide ((x.length : Int) ≤ 8) = decide (x.length ≤ 8) := by
  by_cases h : x.length ≤ 8
  · rw [decide_eq_true h, decide_eq_true (by omega)]
  · rw [decide_eq_false h, decide_eq_false (by omega)]
theorem lenS {x : Str} (h : fitsB x.length = true) : lenD [.str x] = some (.fz (.int x.length)) := by
  simp only [lenD, h, if_true, fI]
theorem inSS {x y : Str} : inD (.str x) (.str y) = some (.fz (.bl (!(Builtin.Str.occurrences y x 0 y.length 1).isEmpty))) := rfl
theorem allB {α : Type} {f : α → Bool} {l : List α} : allD [.lst (l.map fun c => .bl (f c))] = some (.fz (.bl (l.all f))) := by
  simp only [allD, listD, Option.bind_some, bools_map, fB, List.all_map]
  rfl
variable {tab : Str → Option MFn}
theorem c_is_name (T : Words tab) (k : Nat) (d : D) (hp : List O) (hd : okD d = true) : callN tab (k + 1) "is_name" [d] hp = .ok (.fz (.bl (isName d))) hp := by
  rw [call_at T.is_name [some (.fz d), none] rfl rfl]
  cases d with
  | str x =>
    simp only [okD, Bool.and_eq_true] at hd
    have hl : fitsB (Mi.signs x).length = true := by simpa [Mi.signs] using hd.2
    simp_arith [v_is_name, m_is_name, lenS hd.1, le1, le8]
    by_cases h1 : 1 ≤ x.length
    · by_cases h8 : x.length ≤ 8
      · simp_arith [decide_eq_true h1, le8, decide_eq_true h8]
        rw [lcL_all (f := fun d => match d with | .str y => .bl (!(Builtin.Str.occurrences abc y 0 abc.length 1).isEmpty) | _ => .non) (Mi.signs x) (fun d hd => ?_) hl]
        · have e : (Mi.signs x).map (fun d => match d with | .str y => D.bl (!(Builtin.Str.occurrences abc y 0 abc.length 1).isEmpty) | _ => .non) = x.cps.toList.map fun c => D.bl (isL c) := by
            rw [Mi.signs, List.map_map]; rfl
          rw [e]
          simp_arith [allB, isName, decide_eq_true h1, decide_eq_true h8]
        · simp only [Mi.signs, List.mem_map] at hd
          obtain ⟨c, _, e⟩ := hd
          subst e
          refine ⟨⟨[some (.fz (.str x)), some (.fz (.str ⟨#[c]⟩))], hp⟩, rfl, ⟨.own (.fz (.bl (!(Builtin.Str.occurrences abc ⟨#[c]⟩ 0 abc.length 1).isEmpty))), ?_, rfl⟩, rfl⟩
          simp_arith [inSS]
      · simp_arith [decide_eq_true h1, le8, decide_eq_false h8, isName, Bool.and_false, Bool.false_and]
    · simp_arith [decide_eq_false h1, isName, Bool.false_and]
  | ins _ _ _ => cases hd
  | loc _ => cases hd
  | fn _ => cases hd
  | ty _ => cases hd
  | cls _ => cases hd
  | xn _ _ _ => cases hd
  | lk _ _ => cases hd
  | _ => all_goals simp_arith [v_is_name, m_is_name, isName]

/-- data of one layer more -/
def okT : D → Bool
  | .tup ds => fitsB ds.length && ds.all okD
  | d => okD d
theorem okD_of {d : D} (h : okT d = true) : okD d = true := by
  cases d with
  | tup ds => rfl
  | _ => all_goals exact h
def first : List D → Option Str
  | .str x :: _ => some x
  | _ => none
def hasKind (d : D) (kind : Str) (many : Int) : Bool := match d with
  | .tup r => decide ((r.length : Int) = many) && decide (first r = some kind)
  | _ => false
theorem c_has_kind (T : Words tab) (k : Nat) (d : D) (kind : Str) (many : Int) (hp : List O) (hd : okT d = true) (hm : 0 < many) : callN tab (k + 1) "has_kind" [d, .str kind, .int many] hp = .ok (.fz (.bl (hasKind d kind many))) hp := by
  rw [call_at T.has_kind [some (.fz d), some (.fz (.str kind)), some (.fz (.int many))] rfl rfl]
  cases d with
  | tup r =>
    simp only [okT, Bool.and_eq_true, List.all_eq_true] at hd
    simp_arith [v_has_kind, m_has_kind]
    by_cases hl : (r.length : Int) = many
    · have e1 : decide ((r.length : Int) = many) = true := decide_eq_true hl
      simp_arith [e1]
      cases r with
      | nil => simp at hl; omega
      | cons a r =>
        have ha := hd.2 a (by simp)
        simp_arith [x_seq]
        cases a with
        | str x =>
          simp only [List.length_cons] at e1
          simp_arith [hasKind, e1, first, Option.some.injEq]
        | ins _ _ _ => cases ha
        | loc _ => cases ha
        | fn _ => cases ha
        | ty _ => cases ha
        | cls _ => cases ha
        | xn _ _ _ => cases ha
        | lk _ _ => cases ha
        | _ => all_goals simp_arith [hasKind, first, Bool.and_false, decide_false, reduceCtorEq]
    · have e1 : decide ((r.length : Int) = many) = false := decide_eq_false hl
      simp_arith [e1, hasKind, Bool.false_and]
  | ins _ _ _ => cases hd
  | loc _ => cases hd
  | fn _ => cases hd
  | ty _ => cases hd
  | cls _ => cases hd
  | xn _ _ _ => cases hd
  | lk _ _ => cases hd
  | _ => all_goals simp_arith [v_has_kind, m_has_kind, hasKind]
def areNames : D → Bool
  | .tup ws => ws.all isName
  | _ => false
theorem c_are_names (T : Words tab) (k : Nat) (d : D) (hp : List O) (hd : okT d = true) : callN tab (k + 2) "are_names" [d] hp = .ok (.fz (.bl (areNames d))) hp := by
  rw [call_at T.are_names [some (.fz d), none] rfl rfl]
  cases d with
  | tup r =>
    simp only [okT, Bool.and_eq_true, List.all_eq_true] at hd
    simp_arith [v_are_names, m_are_names]
    rw [lcL_all (f := fun d => .bl (isName d)) r (fun d hdr => ?_) hd.1]
    · simp_arith [allB, areNames]
    · refine ⟨⟨[some (.fz (.tup r)), some (.fz d)], hp⟩, rfl, ⟨.own (.fz (.bl (isName d))), ?_, rfl⟩, rfl⟩
      simp_arith [c_is_name T k d hp (hd.2 d hdr)]
  | ins _ _ _ => cases hd
  | loc _ => cases hd
  | fn _ => cases hd
  | ty _ => cases hd
  | cls _ => cases hd
  | xn _ _ _ => cases hd
  | lk _ _ => cases hd
  | _ => all_goals simp_arith [v_are_names, m_are_names, areNames]
def lenT : D → Nat
  | .tup ws => ws.length
  | _ => 0
def isRow (d : D) : Bool := match d with
  | .tup [a, b, c] => decide (first [a, b, c] = some ("copy" : Str)) && (isName b && isName c)
  | .tup [a, b, c, e] => decide (first [a, b, c, e] = some ("set" : Str)) && (isName b && (isName c && (areNames e && decide (lenT e ≤ 2))))
  | _ => false
/-- two layers -/
def okU : D → Bool
  | .tup ds => fitsB ds.length && ds.all okT
  | d => okD d
theorem okT_of {d : D} (h : okU d = true) : okT d = true := by
  cases d with
  | tup ds =>
    simp only [okU, Bool.and_eq_true, List.all_eq_true] at h
    simp only [okT, Bool.and_eq_true, List.all_eq_true]
    exact ⟨h.1, fun x hx => okD_of (h.2 x hx)⟩
  | _ => all_goals exact h
theorem areNames_tup {e : D} (h : areNames e = true) : ∃ ws, e = .tup ws := by
  cases e with
  | tup ws => exact ⟨ws, rfl⟩
  | _ => all_goals cases h
theorem two {r : List D} {kd : Str} (h : hasKind (.tup r) kd 2 = true) : ∃ a b, r = [a, b] ∧ first [a, b] = some kd := by
  simp only [hasKind, Bool.and_eq_true, decide_eq_true_eq] at h
  match r, h with
  | [a, b], h => exact ⟨a, b, rfl, h.2⟩
  | [], hk => simp at hk
  | [_], hk => simp at hk
  | _ :: _ :: _ :: _, hk => simp at hk; omega
theorem three {r : List D} {kd : Str} (h : hasKind (.tup r) kd 3 = true) : ∃ a b c, r = [a, b, c] ∧ first [a, b, c] = some kd := by
  simp only [hasKind, Bool.and_eq_true, decide_eq_true_eq] at h
  match r, h with
  | [a, b, c], h => exact ⟨a, b, c, rfl, h.2⟩
  | [], hk => simp at hk
  | [_], hk => simp at hk
  | [_, _], hk => simp at hk
  | _ :: _ :: _ :: _ :: _, hk => simp at hk; omega
theorem four {r : List D} {kd : Str} (h : hasKind (.tup r) kd 4 = true) : ∃ a b c e, r = [a, b, c, e] ∧ first [a, b, c, e] = some kd := by
  simp only [hasKind, Bool.and_eq_true, decide_eq_true_eq] at h
  match r, h with
  | [a, b, c, e], h => exact ⟨a, b, c, e, rfl, h.2⟩
  | [], hk => simp at hk
  | [_], hk => simp at hk
  | [_, _], hk => simp at hk
  | [_, _, _], hk => simp at hk
  | _ :: _ :: _ :: _ :: _ :: _, hk => simp at hk; omega
theorem c_is_row (T : Words tab) (k : Nat) (d : D) (hp : List O) (hd : okU d = true) : callN tab (k + 3) "is_row" [d] hp = .ok (.fz (.bl (isRow d))) hp := by
  rw [call_at T.is_row [some (.fz d)] rfl rfl]
  have h1 := okT_of hd
  have k3 := c_has_kind T (k + 1) d "copy" 3 hp h1 (by decide)
  have k4 := c_has_kind T (k + 1) d "set" 4 hp h1 (by decide)
  simp_arith [v_is_row, m_is_row, k3]
  cases hk : hasKind d "copy" 3 with
  | true =>
    cases d with
    | tup r =>
      obtain ⟨a, b, c, rfl, hk2⟩ := three hk
      simp only [okU, Bool.and_eq_true, List.all_eq_true] at hd
      have n1 := c_is_name T (k + 1) b hp (okD_of (hd.2 b (by simp)))
      have n2 := c_is_name T (k + 1) c hp (okD_of (hd.2 c (by simp)))
      simp_arith [n1, n2, isRow, hk2]
      cases isName b <;> simp_arith [n2, Bool.false_and]
    | _ => all_goals cases hk
  | false =>
    simp_arith [k4]
    cases hs : hasKind d "set" 4 with
    | true =>
      cases d with
      | tup r =>
        obtain ⟨a, b, c, e, rfl, hs2⟩ := four hs
        simp only [okU, Bool.and_eq_true, List.all_eq_true] at hd
        have n1 := c_is_name T (k + 1) b hp (okD_of (hd.2 b (by simp)))
        have n2 := c_is_name T (k + 1) c hp (okD_of (hd.2 c (by simp)))
        have n3 := c_are_names T k e hp (hd.2 e (by simp))
        simp_arith [n1, isRow, hs2]
        cases isName b
        · simp_arith [Bool.false_and]
        · simp_arith [n2]
          cases isName c
          · simp_arith [Bool.false_and]
          · simp_arith [n3]
            cases hn : areNames e
            · simp_arith [Bool.false_and]
            · obtain ⟨ws, rfl⟩ := areNames_tup hn
              simp_arith [lenT, le2]
              rfl
      | _ => all_goals cases hs
    | false =>
      simp_arith [x_seq]
      have : isRow d = false := by
        cases d with
        | tup r =>
          simp only [hasKind, Bool.and_eq_false_iff, decide_eq_false_iff_not] at hk hs
          match r, hk, hs with
          | [a, b, c], hk, hs => simp at hk; simp [isRow, hk]
          | [a, b, c, e], hk, hs => simp at hs; simp [isRow, hs]
          | [], _, _ => rfl
          | [_], _, _ => rfl
          | [_, _], _, _ => rfl
          | _ :: _ :: _ :: _ :: _ :: _, _, _ => rfl
        | _ => all_goals rfl
      rw [this]
theorem name_str {d : D} (h : isName d = true) : ∃ x, d = .str x := by
  cases d with
  | str x => exact ⟨x, rfl⟩
  | _ => all_goals cases h
def isEnd (d : D) : Bool := match d with
  | .tup [a, b] => (decide (first [a, b] = some ("go" : Str)) || decide (first [a, b] = some ("return" : Str))) && isName b
  | .tup [a, b, c] => decide (first [a, b, c] = some ("either" : Str)) && (isName b && (isName c && !decide (first [b] = first [c])))
  | _ => false
theorem c_is_end (T : Words tab) (k : Nat) (d : D) (hp : List O) (hu : okU d = true) : callN tab (k + 2) "is_end" [d] hp = .ok (.fz (.bl (isEnd d))) hp := by
  rw [call_at T.is_end [some (.fz d)] rfl rfl]
  have h1 := okT_of hu
  have kg := c_has_kind T k d "go" 2 hp h1 (by decide)
  have kr := c_has_kind T k d "return" 2 hp h1 (by decide)
  have ke := c_has_kind T k d "either" 3 hp h1 (by decide)
  simp_arith [v_is_end, m_is_end, kg]
  cases d with
  | tup r =>
    simp only [okU, Bool.and_eq_true, List.all_eq_true] at hu
    cases hg : hasKind (.tup r) "go" 2 with
    | true =>
      obtain ⟨a, b, rfl, hk⟩ := two hg
      have n1 := c_is_name T k b hp (okD_of (hu.2 b (by simp)))
      simp_arith [n1, isEnd, hk, Bool.true_or]
    | false =>
      simp_arith [kr]
      cases hr : hasKind (.tup r) "return" 2 with
      | true =>
        obtain ⟨a, b, rfl, hk⟩ := two hr
        have n1 := c_is_name T k b hp (okD_of (hu.2 b (by simp)))
        simp_arith [n1, isEnd, hk, Bool.or_true]
      | false =>
        simp_arith [ke]
        cases he : hasKind (.tup r) "either" 3 with
        | true =>
          obtain ⟨a, b, c, rfl, hk⟩ := three he
          have n1 := c_is_name T k b hp (okD_of (hu.2 b (by simp)))
          have n2 := c_is_name T k c hp (okD_of (hu.2 c (by simp)))
          simp_arith [n1, isEnd, hk]
          cases nb : isName b
          · simp_arith [Bool.false_and]
          · simp_arith [n2]
            cases nc : isName c
            · simp_arith [Bool.false_and]
            · obtain ⟨x, rfl⟩ := name_str nb
              obtain ⟨y, rfl⟩ := name_str nc
              simp_arith [first, Option.some.injEq]
        | false =>
          simp_arith [x_seq]
          have : isEnd (.tup r) = false := by
            match r, hg, hr, he with
            | [a, b], hg, hr, he => simp [hasKind] at hg hr; simp [isEnd, hg, hr]
            | [a, b, c], hg, hr, he => simp [hasKind] at he; simp [isEnd, he]
            | [], _, _, _ => rfl
            | [_], _, _, _ => rfl
            | _ :: _ :: _ :: _ :: _, _, _, _ => rfl
          rw [this]
  | _ => all_goals (simp only [hasKind] at kr ke; simp_arith [hasKind, kr, ke, isEnd])
end Vs

set_option Elab.async false
set_option linter.all false
set_option maxRecDepth 100000
set_option maxHeartbeats 8000000
/-! blocks and sources: what the checks tell -/
namespace Vs
open PySem PySem.Spec PyProof.Rows L2 Mi
variable {tab : Str → Option MFn}
def isBlock : D → Bool
  | .tup [a, .tup rs, e] => isName a && (decide (rs.length ≤ 6) && (rs.all isRow && isEnd e))
  | _ => false
/-- what is_block bears -/
def okRs : D → Bool
  | .tup rs => fitsB rs.length && rs.all okU
  | d => okD d
def okB : D → Bool
  | .tup [a, b, c] => okD a && (okRs b && okU c)
  | d => okD d
theorem le6 {n : Nat} : decide ((n : Int) ≤ 6) = decide (n ≤ 6) := by
  by_cases h : n ≤ 6
  · rw [decide_eq_true h, decide_eq_true (by omega)]
  · rw [decide_eq_false h, decide_eq_false (by omega)]
theorem okRs_D {d : D} (h : okRs d = true) : okD d = true := by
  cases d with
  | tup rs => rfl
  | _ => all_goals exact h
theorem c_is_block (T : Srcs tab) (k : Nat) (d : D) (hp : List O) (hd : okB d = true) : callN tab (k + 4) "is_block" [d] hp = .ok (.fz (.bl (isBlock d))) hp := by
  rw [call_at T.is_block [some (.fz d), none] rfl rfl]
  have W := T.toWords
  cases d with
  | tup r =>
    by_cases hl : (r.length : Int) = 3
    · match r, hl with
      | [a, b, c], _ =>
        simp only [okB, Bool.and_eq_true] at hd
        obtain ⟨ha, hb, hc⟩ := hd
        have n1 := c_is_name W (k + 2) a hp ha
        have e3 : decide (((3 : Nat) : Int) = 3) = true := rfl
        simp_arith [v_is_block, m_is_block, n1, e3]
        cases na : isName a
        · have : isBlock (.tup [a, b, c]) = false := by cases b <;> simp [isBlock, na]
          simp_arith [this]
        · simp_arith [x_seq]
          cases b with
          | tup rs =>
            simp only [okRs, Bool.and_eq_true, List.all_eq_true] at hb
            simp_arith [le6, isBlock, na]
            by_cases h6 : rs.length ≤ 6
            · simp_arith [decide_eq_true h6]
              rw [lcL_all (f := fun d => .bl (isRow d)) rs (fun d hdr => ?_) hb.1]
              · have n2 := c_is_end W (k + 1) c hp hc
                simp_arith [allB]
                cases rs.all isRow <;> simp_arith [n2, Bool.false_and]
              · refine ⟨⟨[some (.fz (.tup [a, .tup rs, c])), some (.fz d)], hp⟩, rfl, ⟨.own (.fz (.bl (isRow d))), ?_, rfl⟩, rfl⟩
                simp_arith [c_is_row W k d hp (hb.2 d hdr)]
            · simp_arith [decide_eq_false h6, Bool.false_and]
          | ins _ _ _ => cases hb
          | loc _ => cases hb
          | fn _ => cases hb
          | ty _ => cases hb
          | cls _ => cases hb
          | xn _ _ _ => cases hb
          | lk _ _ => cases hb
          | _ => all_goals simp_arith [isBlock]
      | [], hl => simp at hl
      | [_], hl => simp at hl
      | [_, _], hl => simp at hl
      | _ :: _ :: _ :: _ :: _, hl => simp at hl; omega
    · have e1 : decide ((r.length : Int) = 3) = false := decide_eq_false hl
      have : isBlock (.tup r) = false := by
        match r, hl with
        | [a, b, c], hl => simp at hl
        | [], _ => rfl
        | [_], _ => simp [isBlock]
        | [_, _], _ => simp [isBlock]
        | _ :: _ :: _ :: _ :: _, _ => simp [isBlock]
      simp_arith [v_is_block, m_is_block, e1, this]
  | ins _ _ _ => cases hd
  | loc _ => cases hd
  | fn _ => cases hd
  | ty _ => cases hd
  | cls _ => cases hd
  | xn _ _ _ => cases hd
  | lk _ _ => cases hd
  | _ => all_goals simp_arith [v_is_block, m_is_block, isBlock]
/-- where an end leads -/
def nexts : D → List D
  | .tup (.str x :: r) => if x = "return" then [] else r
  | _ => []
theorem cut1 {α : Type} {a : α} {r : List α} : Mi.cutD (a :: r) (some 1) none = r := by
  simp [Mi.cutD, HT.sIx]
theorem c_next_blocks (T : Srcs tab) (k : Nat) (x : Str) (r : List D) (hp : List O) : callN tab (k + 1) "next_blocks" [.tup (.str x :: r)] hp = .ok (.fz (.tup (nexts (.tup (.str x :: r))))) hp := by
  rw [call_at T.next_blocks [some (.fz (.tup (.str x :: r)))] rfl rfl]
  by_cases h : x = "return"
  · simp_arith [v_next_blocks, m_next_blocks, h, nexts, if_true]
  · have e : decide (x = Str.ofString "return") = false := decide_eq_false h
    simp_arith [v_next_blocks, m_next_blocks, e, nexts, h, if_false, cut1]
/-! ### the blocks, one by one -/
def strOf : D → Str
  | .tup (.str x :: _) => x
  | _ => ""
def keyOf (b : D) : Key := .inr (strOf b)
def pairOf : D → D
  | .tup [_, b, c] => .tup [b, c]
  | _ => .non
def had (pre : List D) (b : D) : Bool := pre.any fun p => decide (strOf p = strOf b)
/-- the index of the first that is no block, or whose name stood already -/
def firstBad (pre : List D) : List D → Option Nat
  | [] => none
  | b :: bs => if isBlock b && !had pre b then firstBad (pre ++ [b]) bs else some pre.length
theorem block_is {d : D} (h : isBlock d = true) : ∃ x rs e, d = .tup [.str x, .tup rs, e] ∧ isName (.str x) = true ∧ rs.length ≤ 6 ∧ rs.all isRow = true ∧ isEnd e = true := by
  unfold isBlock at h
  split at h
  · rename_i a rs e
    simp only [Bool.and_eq_true, decide_eq_true_eq] at h
    obtain ⟨x, rfl⟩ := name_str h.1
    exact ⟨x, rs, e, rfl, h.1, h.2.1, h.2.2.1, h.2.2.2⟩
  · cases h
def enumF : Nat → List D → List D
  | _, [] => []
  | n, d :: ds => .tup [.int n, d] :: enumF (n + 1) ds
theorem enumF_eq : ∀ (n : Nat) (ds : List D), enumF n ds = ds.mapIdx fun i d => .tup [.int ((n + i : Nat) : Int), d]
  | n, [] => rfl
  | n, d :: ds => by
    rw [enumF, enumF_eq (n + 1) ds, List.mapIdx_cons]
    congr 1
    congr 1
    funext i d
    rw [show n + 1 + i = n + (i + 1) by omega]
theorem enum_eq (ds : List D) : enumD ds = enumF 0 ds := by
  rw [enumF_eq]
  simp only [enumD, Nat.zero_add]
theorem val_isSome {ks : List Key} {xs : List D} {k : Key} (h : ks.length = xs.length) : (valD ks xs k).isSome = ks.any fun g => decide (g = k) := by
  induction ks generalizing xs with
  | nil => rfl
  | cons a ks ih =>
    cases xs with
    | nil => simp at h
    | cons b xs =>
      have := ih (xs := xs) (by simpa using h)
      simp only [valD, List.zip_cons_cons, List.find?_cons, List.any_cons] at this ⊢
      by_cases e : a = k
      · simp [e]
      · simp only [decide_eq_false e, Bool.false_or]
        exact this
theorem key_any {pre : List D} {b : D} : ((pre.map keyOf).any fun g => decide (g = keyOf b)) = had pre b := by
  rw [List.any_map, had]
  congr 1
  funext p
  simp [keyOf]
theorem put_new {pre : List D} {b d : D} (h : had pre b = false) : putD (pre.map keyOf) (pre.map pairOf) (keyOf b) d = (pre.map keyOf ++ [keyOf b], pre.map pairOf ++ [d]) := by
  unfold putD
  rw [key_any, h, if_neg Bool.false_ne_true]
def m_cbTurn : C := (cSeq (cIf (bOr (bNot (bVal (mCall "is_block" (aCons (mVar 3) aNil)))) (bCmp (mTwo inX (mTwo atX (mVar 3) (mCon (.int 0))) (mVar 1)))) (cSeq (cRaise "BadBlock" (aCons (mVar 2) aNil)) cNil) cNil) (cSeq (cSetX (mTup (aCons (mTwo atX (mVar 3) (mCon (.int 1))) (aCons (mTwo atX (mVar 3) (mCon (.int 2))) aNil))) (mVar 1) (mTwo atX (mVar 3) (mCon (.int 0)))) cNil))
abbrev g23 : Tg := gT 2 (gsCons (gN 2) (gsCons (gN 3) gsNil))
theorem cb_loop (T : Srcs tab) (k : Nat) (hp : List O) (z : Option O) : ∀ (bs pre : List D) (x2 x3 : Option O), (∀ b ∈ bs, okB b = true) → pre.length + bs.length ≤ 100000 →
    (firstBad pre bs = none → ∃ y2 y3, forL (callN tab (k + 4)) g23 m_cbTurn (enumF pre.length bs) ⟨[z, some (.dic (pre.map keyOf) (pre.map pairOf)), x2, x3, none, none, none], hp⟩ = .nx ⟨[z, some (.dic ((pre ++ bs).map keyOf) ((pre ++ bs).map pairOf)), y2, y3, none, none, none], hp⟩) ∧
    (∀ i, firstBad pre bs = some i → ∃ σ, forL (callN tab (k + 4)) g23 m_cbTurn (enumF pre.length bs) ⟨[z, some (.dic (pre.map keyOf) (pre.map pairOf)), x2, x3, none, none, none], hp⟩ = .exc "BadBlock" (.int i) ⟨σ, hp⟩)
  | [], pre, x2, x3, _, _ => ⟨fun _ => ⟨x2, x3, by simp [enumF, forL]⟩, fun i h => by cases h⟩
  | b :: bs, pre, x2, x3, hb, hl => by
    have cb := c_is_block T k b hp (hb b (by simp))
    have e0 : g23 (.fz (.tup [.int (pre.length : Nat), b])) ⟨[z, some (.dic (pre.map keyOf) (pre.map pairOf)), x2, x3, none, none, none], hp⟩ = some ⟨[z, some (.dic (pre.map keyOf) (pre.map pairOf)), some (.fz (.int pre.length)), some (.fz b), none, none, none], hp⟩ := rfl
    have lk : (pre.map keyOf).length = (pre.map pairOf).length := by simp
    simp only [enumF, forL, e0, firstBad]
    cases hB : isBlock b with
    | false =>
      refine ⟨fun h => by simp at h, fun i h => ?_⟩
      simp at h
      subst h
      simp_arith [m_cbTurn, cb, hB]
      exact ⟨_, rfl⟩
    | true =>
      obtain ⟨x, rs, e, rfl, nx, _, _, _⟩ := block_is hB
      have hv : (valD (pre.map keyOf) (pre.map pairOf) (.inr x)).isSome = had pre (.tup [.str x, .tup rs, e]) := (val_isSome lk).trans (key_any (b := .tup [.str x, .tup rs, e]))
      cases hh : had pre (.tup [.str x, .tup rs, e]) with
      | true =>
        refine ⟨fun h => by simp at h, fun i h => ?_⟩
        simp at h
        subst h
        simp_arith [m_cbTurn, cb, hB, hv, hh]
        exact ⟨_, rfl⟩
      | false =>
        have pn := put_new (pre := pre) (b := .tup [.str x, .tup rs, e]) (d := .tup [.tup rs, e]) hh
        have pn' : putD (pre.map keyOf) (pre.map pairOf) (.inr x) (.tup [.tup rs, e]) = ((pre ++ [D.tup [.str x, .tup rs, e]]).map keyOf, (pre ++ [D.tup [.str x, .tup rs, e]]).map pairOf) := by
          rw [List.map_append, List.map_append]; exact pn
        have hfit : (pre.map keyOf).length ≤ 100000 := by rw [List.length_map]; omega
        obtain ⟨q1, q2⟩ := cb_loop T k hp z bs (pre ++ [D.tup [.str x, .tup rs, e]]) (some (.fz (.int pre.length))) (some (.fz (.tup [.str x, .tup rs, e]))) (fun b hb' => hb b (by simp [hb'])) (by simp at hl ⊢; omega)
        have et : m_cbTurn (callN tab (k + 4)) ⟨[z, some (.dic (pre.map keyOf) (pre.map pairOf)), some (.fz (.int pre.length)), some (.fz (.tup [.str x, .tup rs, e])), none, none, none], hp⟩ = .nx ⟨[z, some (.dic ((pre ++ [D.tup [.str x, .tup rs, e]]).map keyOf) ((pre ++ [D.tup [.str x, .tup rs, e]]).map pairOf)), some (.fz (.int pre.length)), some (.fz (.tup [.str x, .tup rs, e])), none, none, none], hp⟩ := by
          simp_arith [m_cbTurn, cb, hB, hv, hh, x_mkD hfit, pn']
        rw [et]
        simp only [List.append_assoc, List.singleton_append, List.length_append, List.length_cons, List.length_nil, Nat.zero_add] at q1 q2
        simp only [Bool.true_and, Bool.not_false, if_true]
        exact ⟨q1, q2⟩
/-! ### the ends, one by one -/
def isIn (ks : List Key) : D → Bool
  | .str x => ks.any fun g => decide (g = .inr x)
  | _ => false
def pairNexts : D → List D
  | .tup [_, e] => nexts e
  | _ => []
def isStr : D → Bool
  | .str _ => true
  | _ => false
theorem isStr_of {d : D} (h : isStr d = true) : ∃ x, d = .str x := by
  cases d with
  | str x => exact ⟨x, rfl⟩
  | _ => all_goals cases h
def okE : D → Bool
  | .tup [_, .tup (.str x :: r)] => (nexts (.tup (.str x :: r))).all isStr
  | _ => false
def m_cvIn : C := (cSeq (cIf (bCmp (mTwo notInX (mVar 6) (mVar 1))) (cSeq (cRaise "UnknownBlock" (aCons (mVar 6) aNil)) cNil) cNil) cNil)
def m_cvTurn : C := (cSeq (cFor (iAny (mCall "next_blocks" (aCons (mVar 5) aNil))) (gN 6) m_cvIn) cNil)
abbrev g45 : Tg := gT 2 (gsCons (gN 4) (gsCons (gN 5) gsNil))
theorem cv_in (call : Call) (hp : List O) (z x2 x3 x4 x5 : Option O) {ks : List Key} {xs : List D} (lk : ks.length = xs.length) : ∀ (ds : List D) (x6 : Option O), ds.all isStr = true →
    (ds.find? (fun d => !isIn ks d) = none → ∃ y6, forL call (gN 6) m_cvIn ds ⟨[z, some (.fz (.dic ks xs)), x2, x3, x4, x5, x6], hp⟩ = .nx ⟨[z, some (.fz (.dic ks xs)), x2, x3, x4, x5, y6], hp⟩) ∧
    (∀ d, ds.find? (fun d => !isIn ks d) = some d → ∃ σ, forL call (gN 6) m_cvIn ds ⟨[z, some (.fz (.dic ks xs)), x2, x3, x4, x5, x6], hp⟩ = .exc "UnknownBlock" d ⟨σ, hp⟩)
  | [], x6, _ => ⟨fun _ => ⟨x6, rfl⟩, fun d h => by cases h⟩
  | d :: ds, x6, hs => by
    simp only [List.all_cons, Bool.and_eq_true] at hs
    obtain ⟨x, rfl⟩ := isStr_of hs.1
    have e0 : gN 6 (.fz (.str x)) ⟨[z, some (.fz (.dic ks xs)), x2, x3, x4, x5, x6], hp⟩ = some ⟨[z, some (.fz (.dic ks xs)), x2, x3, x4, x5, some (.fz (.str x))], hp⟩ := rfl
    have hv : (valD ks xs (.inr x)).isSome = isIn ks (.str x) := val_isSome lk
    obtain ⟨q1, q2⟩ := cv_in call hp z x2 x3 x4 x5 lk ds (some (.fz (.str x))) hs.2
    simp only [forL, e0, List.find?_cons]
    cases hi : isIn ks (.str x) with
    | true =>
      have et : m_cvIn call ⟨[z, some (.fz (.dic ks xs)), x2, x3, x4, x5, some (.fz (.str x))], hp⟩ = .nx ⟨[z, some (.fz (.dic ks xs)), x2, x3, x4, x5, some (.fz (.str x))], hp⟩ := by
        simp_arith [m_cvIn, hv, hi]
      rw [et]
      exact ⟨q1, q2⟩
    | false =>
      refine ⟨fun h => (nomatch h), fun d h => ?_⟩
      cases h
      simp_arith [m_cvIn, hv, hi]
      exact ⟨_, rfl⟩
theorem cv_loop (T : Srcs tab) (k : Nat) (hp : List O) (z x2 x3 : Option O) {ks : List Key} {xs : List D} (lk : ks.length = xs.length) : ∀ (ps : List D) (x4 x5 x6 : Option O), ps.all okE = true →
    ((ps.flatMap pairNexts).find? (fun d => !isIn ks d) = none → ∃ y4 y5 y6, forL (callN tab (k + 1)) g45 m_cvTurn ps ⟨[z, some (.fz (.dic ks xs)), x2, x3, x4, x5, x6], hp⟩ = .nx ⟨[z, some (.fz (.dic ks xs)), x2, x3, y4, y5, y6], hp⟩) ∧
    (∀ d, (ps.flatMap pairNexts).find? (fun d => !isIn ks d) = some d → ∃ σ, forL (callN tab (k + 1)) g45 m_cvTurn ps ⟨[z, some (.fz (.dic ks xs)), x2, x3, x4, x5, x6], hp⟩ = .exc "UnknownBlock" d ⟨σ, hp⟩)
  | [], x4, x5, x6, _ => ⟨fun _ => ⟨x4, x5, x6, rfl⟩, fun d h => by cases h⟩
  | p :: ps, x4, x5, x6, hs => by
    simp only [List.all_cons, Bool.and_eq_true] at hs
    obtain ⟨hp1, hps⟩ := hs
    unfold okE at hp1
    split at hp1
    · rename_i r x l
      have e0 : g45 (.fz (.tup [r, .tup (.str x :: l)])) ⟨[z, some (.fz (.dic ks xs)), x2, x3, x4, x5, x6], hp⟩ = some ⟨[z, some (.fz (.dic ks xs)), x2, x3, some (.fz r), some (.fz (.tup (.str x :: l))), x6], hp⟩ := rfl
      have cn := c_next_blocks T k x l hp
      obtain ⟨i1, i2⟩ := cv_in (callN tab (k + 1)) hp z x2 x3 (some (.fz r)) (some (.fz (.tup (.str x :: l)))) lk (nexts (.tup (.str x :: l))) x6 hp1
      simp only [forL, e0, List.flatMap_cons, List.find?_append, pairNexts]
      cases hf : (nexts (.tup (.str x :: l))).find? (fun d => !isIn ks d) with
      | none =>
        obtain ⟨y6, e6⟩ := i1 hf
        obtain ⟨q1, q2⟩ := cv_loop T k hp z x2 x3 lk ps (some (.fz r)) (some (.fz (.tup (.str x :: l)))) y6 hps
        have et : m_cvTurn (callN tab (k + 1)) ⟨[z, some (.fz (.dic ks xs)), x2, x3, some (.fz r), some (.fz (.tup (.str x :: l))), x6], hp⟩ = .nx ⟨[z, some (.fz (.dic ks xs)), x2, x3, some (.fz r), some (.fz (.tup (.str x :: l))), y6], hp⟩ := by
          simp_arith [m_cvTurn, cn, e6]
        rw [et]
        simp only [Option.none_or]
        exact ⟨q1, q2⟩
      | some d =>
        obtain ⟨σ, e6⟩ := i2 d hf
        refine ⟨fun h => (nomatch h), fun d' h => ?_⟩
        cases h
        simp_arith [m_cvTurn, cn, e6]
        exact ⟨_, rfl⟩
    · cases hp1
/-! ### all blocks -/
inductive Ck
  | ok
  | exc (c : Str) (d : D)
def blockNexts (b : D) : List D := pairNexts (pairOf b)
def ckBlocks (bs : List D) : Ck := match firstBad [] bs with
  | some i => .exc "BadBlock" (.int i)
  | none => if 8 < bs.length then .exc "TooMany" (.int 8) else if bs.length = 0 then .exc "BadBlock" .non else match (bs.flatMap blockNexts).find? (fun d => !isIn (bs.map keyOf) d) with
    | some d => .exc "UnknownBlock" d
    | none => .ok
theorem firstBad_all {pre bs : List D} (h : firstBad pre bs = none) : ∀ b ∈ bs, isBlock b = true := by
  induction bs generalizing pre with
  | nil => intro b hb; cases hb
  | cons a bs ih =>
    unfold firstBad at h
    split at h
    · rename_i hc
      simp only [Bool.and_eq_true] at hc
      intro b hb
      rcases List.mem_cons.mp hb with rfl | hb
      · exact hc.1
      · exact ih h b hb
    · cases h
theorem end_is {e : D} (h : isEnd e = true) : ∃ x l, e = .tup (.str x :: l) ∧ (nexts e).all isStr = true := by
  unfold isEnd at h
  split at h
  · rename_i a b
    simp only [Bool.and_eq_true, Bool.or_eq_true, decide_eq_true_eq] at h
    obtain ⟨y, rfl⟩ := name_str h.2
    cases a with
    | str x => exact ⟨x, _, rfl, by simp only [nexts]; split <;> rfl⟩
    | _ => all_goals (simp [first] at h)
  · rename_i a b c
    simp only [Bool.and_eq_true, decide_eq_true_eq] at h
    obtain ⟨y, rfl⟩ := name_str h.2.1
    obtain ⟨y2, rfl⟩ := name_str h.2.2.1
    cases a with
    | str x => exact ⟨x, _, rfl, by simp only [nexts]; split <;> rfl⟩
    | _ => all_goals (simp [first] at h)
  · cases h
theorem block_okE {b : D} (h : isBlock b = true) : okE (pairOf b) = true := by
  obtain ⟨x, rs, e, rfl, _, _, _, he⟩ := block_is h
  obtain ⟨y, l, rfl, hn⟩ := end_is he
  exact hn
def ckRes (x : O) (hp : List O) : Ck → Res
  | .ok => .ok x hp
  | .exc c d => .exc c d hp
theorem gt8 {n : Nat} : decide ((8 : Int) < (n : Int)) = decide (8 < n) := by
  by_cases h : 8 < n
  · rw [decide_eq_true h, decide_eq_true (by omega)]
  · rw [decide_eq_false h, decide_eq_false (by omega)]
theorem eq0 {n : Nat} : decide ((n : Int) = 0) = decide (n = 0) := by
  by_cases h : n = 0
  · rw [decide_eq_true h, decide_eq_true (by omega)]
  · rw [decide_eq_false h, decide_eq_false (by omega)]
def isScr : D → Bool
  | .scr _ => true
  | _ => false
theorem c_checked_blocks (T : Srcs tab) (k : Nat) (d : D) (bs : List D) (hp : List O) (hd : itemsD d = some bs) (ht : isScr d = false) (hb : ∀ b ∈ bs, okB b = true) (hl : bs.length ≤ 100000) :
    callN tab (k + 5) "checked_blocks" [d] hp = ckRes (.fz (.dic (bs.map keyOf) (bs.map pairOf))) hp (ckBlocks bs) := by
  rw [call_at T.checked_blocks [some (.fz d), none, none, none, none, none, none] rfl rfl]
  have key : fin ((cSeq (cFor (iEn (aCons (mVar 0) aNil)) g23 m_cbTurn) (cSeq (cIf (bCmp (mTwo gtD (mBlt lenX (rCons (mVar 1) rNil)) (mCon (.int 8)))) (cSeq (cRaise "TooMany" (aCons (mCon (.int 8)) aNil)) cNil) cNil) (cSeq (cIf (bCmp (mTwo eqD (mBlt lenX (rCons (mVar 1) rNil)) (mCon (.int 0)))) (cSeq (cRaise "BadBlock" (aCons (mCon .non) aNil)) cNil) cNil) (cSeq (cFor (iVals_ (mVar 1)) g45 m_cvTurn) (cSeq (cRet (mVar 1)) cNil))))) (callN tab (k + 4)) ⟨[some (.fz d), some (.dic [] []), none, none, none, none, none], hp⟩) = ckRes (.fz (.dic (bs.map keyOf) (bs.map pairOf))) hp (ckBlocks bs) := by
    obtain ⟨q1, q2⟩ := cb_loop T k hp (some (.fz d)) bs [] none none hb (by simpa using hl)
    simp only [List.map_nil, List.length_nil, List.nil_append] at q1 q2
    have he : kEn [d] ⟨[some (.fz d), some (.dic [] []), none, none, none, none, none], hp⟩ = .ok (enumF 0 bs) ⟨[some (.fz d), some (.dic [] []), none, none, none, none, none], hp⟩ := by
      rw [← enum_eq]
      simp only [kEn, hd, Option.map_some, lift]
    simp_arith [he, ckBlocks]
    cases hf : firstBad [] bs with
    | some i =>
      obtain ⟨σ, e⟩ := q2 i hf
      simp_arith [e, ckRes]
    | none =>
      obtain ⟨y2, y3, e⟩ := q1 hf
      simp_arith [e, gt8, List.length_map]
      by_cases h8 : 8 < bs.length
      · simp_arith [decide_eq_true h8, h8, if_true, ckRes]
      · simp_arith [decide_eq_false h8, h8, if_false, eq0, List.length_map]
        by_cases h0 : bs.length = 0
        · simp_arith [decide_eq_true h0, h0, if_true, ckRes]
        · have hall := firstBad_all hf
          obtain ⟨c1, c2⟩ := cv_loop T (k + 3) hp (some (.fz d)) y2 y3 (ks := bs.map keyOf) (xs := bs.map pairOf) (by simp) (bs.map pairOf) none none none (by
            simp only [List.all_map, List.all_eq_true]
            exact fun b hb => block_okE (hall b hb))
          have efm : (bs.map pairOf).flatMap pairNexts = bs.flatMap blockNexts := by rw [List.flatMap_map]; rfl
          rw [efm] at c1 c2
          simp_arith [decide_eq_false h0, h0, if_false]
          cases hfd : (bs.flatMap blockNexts).find? (fun d => !isIn (bs.map keyOf) d) with
          | none =>
            obtain ⟨y4, y5, y6, e2⟩ := c1 hfd
            simp_arith [e2, ckRes]
          | some dd =>
            obtain ⟨σ, e2⟩ := c2 dd hfd
            simp_arith [e2, ckRes]
  cases d with
  | tup r => rw [← key]; simp_arith [v_checked_blocks, m_checked_blocks]; rfl
  | lst r => rw [← key]; simp_arith [v_checked_blocks, m_checked_blocks]; rfl
  | scr r => cases ht
  | _ => all_goals cases hd
theorem c_checked_blocks_no (T : Srcs tab) (k : Nat) (d : D) (hp : List O) (hd : isiT ["list", "tuple"] d = some (.fz (.bl false))) (hn : nl d = true) :
    callN tab (k + 1) "checked_blocks" [d] hp = .exc "BadBlock" .non hp := by
  rw [call_at T.checked_blocks [some (.fz d), none, none, none, none, none, none] rfl rfl]
  simp_arith [v_checked_blocks, m_checked_blocks, x_d_nl hn, hd]
end Vs

set_option Elab.async false
set_option linter.all false
set_option maxRecDepth 100000
set_option maxHeartbeats 8000000
/-! inputs -/
namespace Vs
open PySem PySem.Spec PyProof.Rows L2 Mi
variable {tab : Str → Option MFn}
def strV : D → V
  | .str x => .str x
  | _ => .non
theorem flats_str : ∀ (ds : List D), ds.all isStr = true → flatsD ds = some (ds.map strV)
  | [], _ => rfl
  | d :: ds, h => by
    simp only [List.all_cons, Bool.and_eq_true] at h
    obtain ⟨x, rfl⟩ := isStr_of h.1
    simp only [flatsD, flatD, Option.bind_some, flats_str ds h.2, List.map_cons, strV]
def hadS (pre : List D) (d : D) : Bool := inV (strV d) (pre.map strV)
theorem in_pre {x : Str} {pre : List D} (h : pre.all isStr = true) : inD (.str x) (.lst pre) = some (.fz (.bl (hadS pre (.str x)))) ∧ inD (.str x) (.tup pre) = some (.fz (.bl (hadS pre (.str x)))) := by
  simp only [inD, inB, flatD, itemsD, Option.bind_some, flats_str pre h, Option.map_some, hadS, strV, and_self]
/-- the index of the first that is no name, or stood already -/
def firstBadI (pre : List D) : List D → Option Nat
  | [] => none
  | b :: bs => if isName b && !hadS pre b then firstBadI (pre ++ [b]) bs else some pre.length
def ckInputs (is : List D) : Ck := match firstBadI [] is with
  | some i => .exc "BadInput" (.int i)
  | none => if 6 < is.length then .exc "TooMany" (.int 6) else .ok
def m_ciTurn : C := (cSeq (cIf (bOr (bNot (bVal (mCall "is_name" (aCons (mVar 2) aNil)))) (bCmp (mTwo inX (mVar 2) (mSl (mVar 0) pNone (pSome (mVar 1)))))) (cSeq (cRaise "BadInput" (aCons (mVar 1) aNil)) cNil) cNil) cNil)
abbrev g12 : Tg := gT 2 (gsCons (gN 1) (gsCons (gN 2) gsNil))
theorem cut_pre {α : Type} {pre bs : List α} : Mi.cutD (pre ++ bs) none (some (pre.length : Int)) = pre := by
  simp only [Mi.cutD, HT.sIx_none, HT.sIx_nat, List.drop_zero, List.length_append]
  rw [show min pre.length (pre.length + bs.length) - 0 = pre.length by omega]
  exact List.take_left' rfl
def seqD (t : Bool) (l : List D) : D := if t then .tup l else .lst l
theorem ci_loop (T : Srcs tab) (k : Nat) (hp : List O) (t : Bool) : ∀ (bs pre : List D) (x1 x2 : Option O), (∀ b ∈ bs, okD b = true) → pre.all isStr = true →
    (firstBadI pre bs = none → ∃ y1 y2, forL (callN tab (k + 1)) g12 m_ciTurn (enumF pre.length bs) ⟨[some (.fz (seqD t (pre ++ bs))), x1, x2], hp⟩ = .nx ⟨[some (.fz (seqD t (pre ++ bs))), y1, y2], hp⟩) ∧
    (∀ i, firstBadI pre bs = some i → ∃ σ, forL (callN tab (k + 1)) g12 m_ciTurn (enumF pre.length bs) ⟨[some (.fz (seqD t (pre ++ bs))), x1, x2], hp⟩ = .exc "BadInput" (.int i) ⟨σ, hp⟩)
  | [], pre, x1, x2, _, _ => ⟨fun _ => ⟨x1, x2, rfl⟩, fun i h => by cases h⟩
  | b :: bs, pre, x1, x2, hb, hs => by
    have cb := c_is_name T.toWords k b hp (hb b (by simp))
    have e0 : ∀ q : D, g12 (.fz (.tup [.int (pre.length : Nat), b])) ⟨[some (.fz q), x1, x2], hp⟩ = some ⟨[some (.fz q), some (.fz (.int pre.length)), some (.fz b)], hp⟩ := fun _ => rfl
    simp only [enumF, forL, e0, firstBadI]
    cases hB : isName b with
    | false =>
      refine ⟨fun h => by simp at h, fun i h => ?_⟩
      simp at h
      subst h
      cases b <;> (simp_arith [m_ciTurn, cb, hB]; exact ⟨_, rfl⟩)
    | true =>
      obtain ⟨x, rfl⟩ := name_str hB
      obtain ⟨i1, i2⟩ := in_pre (x := x) hs
      have cut := cut_pre (pre := pre) (bs := D.str x :: bs)
      cases hh : hadS pre (.str x) with
      | true =>
        refine ⟨fun h => by simp at h, fun i h => ?_⟩
        simp at h
        subst h
        cases t <;> (simp_arith [m_ciTurn, seqD, cb, hB, cut, i1, i2, hh, if_true, if_false, Bool.false_eq_true]; exact ⟨_, rfl⟩)
      | false =>
        obtain ⟨q1, q2⟩ := ci_loop T k hp t bs (pre ++ [D.str x]) (some (.fz (.int pre.length))) (some (.fz (.str x))) (fun b hb' => hb b (by simp [hb'])) (by simp [hs, isStr])
        have et : m_ciTurn (callN tab (k + 1)) ⟨[some (.fz (seqD t (pre ++ D.str x :: bs))), some (.fz (.int pre.length)), some (.fz (.str x))], hp⟩ = .nx ⟨[some (.fz (seqD t (pre ++ D.str x :: bs))), some (.fz (.int pre.length)), some (.fz (.str x))], hp⟩ := by
          cases t <;> simp_arith [m_ciTurn, seqD, cb, hB, cut, i1, i2, hh, if_true, if_false, Bool.false_eq_true]
        rw [et]
        simp only [List.append_assoc, List.singleton_append, List.length_append, List.length_cons, List.length_nil, Nat.zero_add] at q1 q2
        simp only [Bool.true_and, Bool.not_false, if_true]
        exact ⟨q1, q2⟩
theorem gt6 {n : Nat} : decide ((6 : Int) < (n : Int)) = decide (6 < n) := by
  by_cases h : 6 < n
  · rw [decide_eq_true h, decide_eq_true (by omega)]
  · rw [decide_eq_false h, decide_eq_false (by omega)]
theorem c_checked_inputs (T : Srcs tab) (k : Nat) (t : Bool) (is : List D) (hp : List O) (hb : ∀ b ∈ is, okD b = true) :
    callN tab (k + 2) "checked_inputs" [seqD t is] hp = ckRes (.fz (.tup is)) hp (ckInputs is) := by
  rw [call_at T.checked_inputs [some (.fz (seqD t is)), none, none] rfl rfl]
  obtain ⟨q1, q2⟩ := ci_loop T k hp t is [] none none hb rfl
  simp only [List.length_nil, List.nil_append] at q1 q2
  have key : fin ((cSeq (cFor (iEn (aCons (mVar 0) aNil)) g12 m_ciTurn) (cSeq (cIf (bCmp (mTwo gtD (mBlt lenX (rCons (mVar 0) rNil)) (mCon (.int 6)))) (cSeq (cRaise "TooMany" (aCons (mCon (.int 6)) aNil)) cNil) cNil) (cSeq (cRet (mBlt tupleOfD (rCons (mVar 0) rNil))) cNil))) (callN tab (k + 1)) ⟨[some (.fz (seqD t is)), none, none], hp⟩) = ckRes (.fz (.tup is)) hp (ckInputs is) := by
    have he : kEn [seqD t is] ⟨[some (.fz (seqD t is)), none, none], hp⟩ = .ok (enumF 0 is) ⟨[some (.fz (seqD t is)), none, none], hp⟩ := by
      rw [← enum_eq]
      cases t <;> rfl
    simp_arith [he, ckInputs]
    cases hf : firstBadI [] is with
    | some i =>
      obtain ⟨σ, e⟩ := q2 i hf
      simp_arith [e, ckRes]
    | none =>
      obtain ⟨y1, y2, e⟩ := q1 hf
      by_cases h6 : 6 < is.length
      · cases t <;> (simp only [seqD, if_true, if_false, Bool.false_eq_true] at e ⊢; simp_arith [e, gt6, decide_eq_true h6, h6, if_true, ckRes])
      · cases t <;> (simp only [seqD, if_true, if_false, Bool.false_eq_true] at e ⊢; simp_arith [e, gt6, decide_eq_false h6, h6, if_false, ckRes])
  rw [← key]
  cases t <;> (simp_arith [v_checked_inputs, m_checked_inputs, seqD, if_true, if_false, Bool.false_eq_true]; rfl)
theorem c_checked_inputs_no (T : Srcs tab) (k : Nat) (d : D) (hp : List O) (hd : isiT ["list", "tuple"] d = some (.fz (.bl false))) (hn : nl d = true) :
    callN tab (k + 1) "checked_inputs" [d] hp = .exc "BadInput" .non hp := by
  rw [call_at T.checked_inputs [some (.fz d), none, none] rfl rfl]
  simp_arith [v_checked_inputs, m_checked_inputs, x_d_nl hn, hd]
end Vs

set_option Elab.async false
set_option linter.all false
set_option maxRecDepth 100000
set_option maxHeartbeats 8000000
/-! the laws' drawings: names, rows, ends, sources -/
namespace Vs
open PySem PySem.Spec PyProof.Rows L2 Mi
variable {tab : Str → Option MFn}
def ends5 : List (Str × Str) := [("", ""), ("", "q"), ("ab", ""), ("abcdefg", ""), ("", "abcdefg")]
def letter (m : Nat) : Str := ⟨#[97 + m]⟩
def nm (p : Str × Str) (m : Nat) : Str := p.1 ++ letter m ++ p.2
def nmB (p : Str × Str) (m : Nat) : Bool := fitsB (p.1.length + (letter m).length) && (fitsB ((p.1 ++ letter m).length + p.2.length) && (isName (.str (nm p m)) && (okD (.str (nm p m)) && (PyData.strOk (nm p m) && (!decide (nm p m = "zzzzz") && decide (atI abc.cps.toList (m : Int) = some (97 + m)))))))
theorem nm_all : ends5.all (fun p => (List.range 26).all fun m => nmB p m) = true := by decide +kernel
theorem nm_inj_all : ends5.all (fun p => (List.range 26).all fun m => (List.range 26).all fun m' => decide (nm p m = nm p m' → m = m')) = true := by decide +kernel
theorem nm_ok {p : Str × Str} (hp : p ∈ ends5) {m : Nat} (hm : m < 26) : nmB p m = true := by
  have := List.all_eq_true.mp nm_all p hp
  exact List.all_eq_true.mp this m (List.mem_range.mpr hm)
theorem nm_inj {p : Str × Str} (hp : p ∈ ends5) {m m' : Nat} (hm : m < 26) (hm' : m' < 26) (e : nm p m = nm p m') : m = m' := by
  have h1 := List.all_eq_true.mp nm_inj_all p hp
  have h2 := List.all_eq_true.mp h1 m (List.mem_range.mpr hm)
  have h3 := List.all_eq_true.mp h2 m' (List.mem_range.mpr hm')
  exact of_decide_eq_true h3 e
/-- a drawn word -/
def Word (w : Str) : Prop := ∃ p ∈ ends5, ∃ m, m < 26 ∧ w = nm p m
theorem Word.is {w : Str} (h : Word w) : isName (.str w) = true ∧ okD (.str w) = true ∧ PyData.strOk w = true ∧ w ≠ "zzzzz" := by
  obtain ⟨p, hp, m, hm, rfl⟩ := h
  have := nm_ok hp hm
  simp only [nmB, Bool.and_eq_true, Bool.not_eq_true', decide_eq_false_iff_not] at this
  exact ⟨this.2.2.1, this.2.2.2.1, this.2.2.2.2.1, this.2.2.2.2.2.1⟩
end Vs

set_option Elab.async false
set_option linter.all false
set_option maxRecDepth 100000
set_option maxHeartbeats 8000000
/-! the laws' drawings: names, rows, ends, sources -/
namespace Vs
open PySem PySem.Spec PyProof.Rows L2 Mi
variable {tab : Str → Option MFn}
theorem rangeD_eq (c : Nat) : rangeD 0 c = (List.range c).map fun i : Nat => D.int ((i : Nat) : Int) := by
  simp [rangeD]
def cases6 (s : Int) : Prop := s = 1 ∨ s = 3 ∨ s = 5 ∨ s = 7 ∨ s = 9 ∨ s = 11
def idxOf (o s : Int) (i : Nat) : Nat := ((o + s * i) % 26).toNat
theorem idx_lt {o s : Int} {i : Nat} : idxOf o s i < 26 := by
  have h1 := Int.emod_nonneg (o + s * i) (show (26 : Int) ≠ 0 by decide)
  have h2 := Int.emod_lt_of_pos (o + s * i) (show (0 : Int) < 26 by decide)
  unfold idxOf
  omega
theorem idx_inj {o s : Int} (hs : cases6 s) {i j : Nat} (hi : i < 12) (hj : j < 12) (e : idxOf o s i = idxOf o s j) : i = j := by
  unfold idxOf at e
  rcases hs with rfl | rfl | rfl | rfl | rfl | rfl <;> omega
theorem mulS {i j : Int} (h : smallI i = true) : mulD (.int i) (.int j) = some (.fz (.int (i * j))) := by
  simp only [mulD, h, Bool.true_or, if_true, fI]
theorem mod26 {i : Int} : modD (.int i) (.int 26) = some (.fz (.int (i % 26))) := rfl
theorem ends_mem {d : D} (h : d ∈ [D.tup [.str "", .str ""], .tup [.str "", .str "q"], .tup [.str "ab", .str ""], .tup [.str "abcdefg", .str ""], .tup [.str "", .str "abcdefg"]]) : ∃ p ∈ ends5, d = .tup [.str p.1, .str p.2] := by
  simp only [List.mem_cons, List.not_mem_nil, or_false] at h
  rcases h with rfl | rfl | rfl | rfl | rfl
  · exact ⟨("", ""), by simp [ends5], rfl⟩
  · exact ⟨("", "q"), by simp [ends5], rfl⟩
  · exact ⟨("ab", ""), by simp [ends5], rfl⟩
  · exact ⟨("abcdefg", ""), by simp [ends5], rfl⟩
  · exact ⟨("", "abcdefg"), by simp [ends5], rfl⟩
theorem atAbc {m : Int} (h0 : 0 ≤ m) (h1 : m < 26) : atD (.str abc) (.int m) = some (.fz (.str (letter m.toNat))) := by
  have := nm_ok (p := ("", "")) (by simp [ends5]) (m := m.toNat) (by omega)
  simp only [nmB, Bool.and_eq_true, decide_eq_true_eq] at this
  have h2 := this.2.2.2.2.2.2
  rw [Int.toNat_of_nonneg h0] at h2
  have hf : fitsB abc.length = true := by decide +kernel
  simp only [atD, hf, if_true, h2, Option.map_some, letter]
theorem add_nm {p : Str × Str} (hp : p ∈ ends5) {m : Nat} (hm : m < 26) : addD (.str p.1) (.str (letter m)) = some (.fz (.str (p.1 ++ letter m))) ∧ addD (.str (p.1 ++ letter m)) (.str p.2) = some (.fz (.str (nm p m))) := by
  have := nm_ok hp hm
  simp only [nmB, Bool.and_eq_true] at this
  exact ⟨by simp only [addD, this.1, if_true], by simp only [addD, this.2.1, if_true]; rfl⟩
theorem names_ok (T : Gens tab) (k : Nat) {h : List O} {n : Nat} (hp : PoolAt h n) (c : Nat) (hc : c < 12) :
    ∃ (ws : List Str) (h' : List O), callN tab (k + 3) "_law_names" [.loc n, .int c] h = .ok (.lst (ws.map D.str)) h' ∧ PoolTo n h h' ∧ ws.length = c ∧ ws.Nodup ∧ ∀ w ∈ ws, Word w := by
  rw [call_at T.law_names [some (.fz (.loc n)), some (.fz (.int c)), none, none, none, none, none, none, none] rfl rfl]
  obtain ⟨r1, h1, e1, a1, b1, p1⟩ := draw_ok T.toDraws (k + 1) hp (m := 26) (by omega) (by omega)
  obtain ⟨r2, h2, e2, a2, b2, p2⟩ := draw_ok T.toDraws (k + 1) p1.at (m := 6) (by omega) (by omega)
  obtain ⟨dd, h3, e3, hd, p3⟩ := pick_ok T.toDraws k p2.at (.lst [D.tup [.str "", .str ""], .tup [.str "", .str "q"], .tup [.str "ab", .str ""], .tup [.str "abcdefg", .str ""], .tup [.str "", .str "abcdefg"]]) _ rfl (by simp) (by simp)
  obtain ⟨p, hp5, rfl⟩ := ends_mem hd
  have hs : cases6 (1 + 2 * r2) := by unfold cases6; omega
  have sm2 : smallI 2 = true := rfl
  have smS : smallI (1 + 2 * r2) = true := smallI_of (by omega) (by omega)
  simp_arith [v_law_names, m_law_names, e1, e2, e3, mulS sm2]
  rw [x_rgK (by omega) (by omega)]
  simp_arith [x_seq]
  rw [lcL_all (f := fun d => match d with | .int i => .str (nm p ((r1 + (1 + 2 * r2) * i) % 26).toNat) | _ => .non) _ (fun d hd => ?_) (by simp only [fitsB, decide_eq_true_eq, rangeD_eq, List.length_map, List.length_range]; omega)]
  · have e : (rangeD 0 (c : Int).toNat).map (fun d => match d with | .int i => D.str (nm p ((r1 + (1 + 2 * r2) * i) % 26).toNat) | _ => .non) = ((List.range c).map fun i => nm p (idxOf r1 (1 + 2 * r2) i)).map D.str := by
      rw [Int.toNat_natCast, rangeD_eq, List.map_map, List.map_map]; rfl
    rw [e]
    simp_arith [x_seq]
    refine ⟨_, _, rfl, (p1.trans p2).trans p3, by simp, ?_, fun w hw => ?_⟩
    · refine List.pairwise_map.mpr (List.Pairwise.imp_of_mem (R := (· < ·)) (fun {a b} ha hb hab e => ?_) List.pairwise_lt_range)
      have ha' := List.mem_range.mp ha
      have hb' := List.mem_range.mp hb
      have := idx_inj hs (by omega) (by omega) (nm_inj hp5 idx_lt idx_lt e)
      omega
    · obtain ⟨i, hi, rfl⟩ := List.mem_map.mp hw
      exact ⟨p, hp5, _, idx_lt, rfl⟩
  · rw [Int.toNat_natCast, rangeD_eq] at hd
    obtain ⟨i, hi, rfl⟩ := List.mem_map.mp hd
    have hi' := List.mem_range.mp hi
    have m0 := Int.emod_nonneg (r1 + (1 + 2 * r2) * i) (show (26 : Int) ≠ 0 by decide)
    have m1 := Int.emod_lt_of_pos (r1 + (1 + 2 * r2) * i) (show (0 : Int) < 26 by decide)
    obtain ⟨ad1, ad2⟩ := add_nm hp5 (m := ((r1 + (1 + 2 * r2) * i) % 26).toNat) (by omega)
    refine ⟨_, rfl, ⟨.own (.fz (.str (nm p ((r1 + (1 + 2 * r2) * i) % 26).toNat))), ?_, rfl⟩, rfl⟩
    simp_arith [mulS smS, mod26, atAbc m0 m1, ad1, ad2]
/-- a drawn row -/
inductive Row (ws ops : List Str) : D → Prop
  | copy {x y : Str} : x ∈ ws → y ∈ ws → Row ws ops (.tup [.str "copy", .str x, .str y])
  | set {x op : Str} {l : List Str} : x ∈ ws → op ∈ ops → (∀ w ∈ l, w ∈ ws) → l.length ≤ 2 → Row ws ops (.tup [.str "set", .str x, .str op, .tup (l.map D.str)])
theorem mem_str {ws : List Str} {d : D} (h : d ∈ ws.map D.str) : ∃ w ∈ ws, d = .str w := by
  obtain ⟨w, hw, e⟩ := List.mem_map.mp h
  exact ⟨w, hw, e.symm⟩
theorem strs_of {ws : List Str} : ∀ {l : List D}, (∀ d ∈ l, ∃ w ∈ ws, d = D.str w) → ∃ l' : List Str, l = l'.map D.str ∧ (∀ w ∈ l', w ∈ ws) ∧ l'.length = l.length
  | [], _ => ⟨[], rfl, fun w h => (nomatch h), rfl⟩
  | d :: l, h => by
    obtain ⟨w, hw, rfl⟩ := h d (by simp)
    obtain ⟨l', rfl, h2, h3⟩ := strs_of (l := l) fun d hd => h d (by simp [hd])
    exact ⟨w :: l', rfl, fun v hv => (List.mem_cons.mp hv).elim (fun e => e ▸ hw) (h2 v), by simp⟩
theorem row_ok (T : Gens tab) (k : Nat) {h : List O} {n : Nat} (hp : PoolAt h n) (ws ops : List Str) (hw : 0 < ws.length) (hw2 : ws.length < 1000) (ho : 0 < ops.length) (ho2 : ops.length < 1000) :
    ∃ d h', callN tab (k + 3) "_law_row" [.loc n, .lst (ws.map D.str), .lst (ops.map D.str)] h = .ok (.fz d) h' ∧ PoolTo n h h' ∧ Row ws ops d := by
  rw [call_at T.law_row [some (.fz (.loc n)), some (.fz (.lst (ws.map D.str))), some (.fz (.lst (ops.map D.str))), none, none, none, none] rfl rfl]
  obtain ⟨d1, h1, e1, m1, p1⟩ := pick_ok T.toDraws k hp (.lst (ws.map D.str)) _ rfl (by simpa using hw) (by simp; omega)
  obtain ⟨x, hx, rfl⟩ := mem_str m1
  obtain ⟨r2, h2, e2, a2, b2, p2⟩ := draw_ok T.toDraws (k + 1) p1.at (m := 3) (by omega) (by omega)
  by_cases h0 : r2 = 0
  · obtain ⟨d3, h3, e3, m3, p3⟩ := pick_ok T.toDraws k p2.at (.lst (ws.map D.str)) _ rfl (by simpa using hw) (by simp; omega)
    obtain ⟨y, hy, rfl⟩ := mem_str m3
    simp_arith [v_law_row, m_law_row, e1, e2, decide_eq_true h0, e3]
    exact ⟨_, _, rfl, (p1.trans p2).trans p3, .copy hx hy⟩
  · obtain ⟨d3, h3, e3, m3, p3⟩ := pick_ok T.toDraws k p2.at (.lst (ops.map D.str)) _ rfl (by simpa using ho) (by simp; omega)
    obtain ⟨op, hop, rfl⟩ := mem_str m3
    obtain ⟨r4, h4, e4, a4, b4, p4⟩ := draw_ok T.toDraws (k + 1) p3.at (m := 3) (by omega) (by omega)
    simp_arith [v_law_row, m_law_row, e1, e2, decide_eq_false h0, e3, e4]
    rw [x_rgK a4 (by omega)]
    simp_arith [x_seq]
    obtain ⟨out, s', eo, lo, po, σe, io⟩ := lcL_draw (call := callN tab (k + 2)) (g := gN 6) (te := mCall "_law_pick" (aCons (mVar 0) (aCons (mVar 1) aNil))) (vs := [6])
      (fun s => s.σ = [some (.fz (.loc n)), some (.fz (.lst (ws.map D.str))), some (.fz (.lst (ops.map D.str))), some (.fz (.str x)), some (.fz (.str op)), none, none] ∧ PoolTo n h4 s.h) (fun d => ∃ w ∈ ws, d = D.str w)
      (rangeD 0 r4.toNat) [] ⟨[some (.fz (.loc n)), some (.fz (.lst (ws.map D.str))), some (.fz (.lst (ops.map D.str))), some (.fz (.str x)), some (.fz (.str op)), none, none], h4⟩ ⟨rfl, .refl p4.at⟩ (fun d hd => by cases hd) (fun d hd s hs => by
        obtain ⟨σ, hh⟩ := s
        obtain ⟨hσ, hpt⟩ := hs
        simp only at hσ hpt
        subst hσ
        obtain ⟨d5, h5, e5, m5, p5⟩ := pick_ok T.toDraws k hpt.at (.lst (ws.map D.str)) _ rfl (by simpa using hw) (by simp; omega)
        refine ⟨_, rfl, .own (.fz d5), ⟨[some (.fz (.loc n)), some (.fz (.lst (ws.map D.str))), some (.fz (.lst (ops.map D.str))), some (.fz (.str x)), some (.fz (.str op)), none, some (.fz d)], h5⟩, ?_, d5, _, rfl, mem_str m5, rfl, hpt.trans p5⟩
        simp_arith [e5]) (by simp only [fitsB, decide_eq_true_eq, rangeD_eq, List.length_map, List.length_range, List.length_nil]; omega)
    obtain ⟨σ', h5⟩ := s'
    simp only at σe io
    subst σe
    rw [eo]
    obtain ⟨l, rfl, hl1, hl2⟩ := strs_of po
    simp_arith [x_seq]
    refine ⟨_, _, rfl, (((p1.trans p2).trans p3).trans p4).trans io, .set hx hop hl1 ?_⟩
    simp only [List.length_nil, Nat.zero_add, rangeD_eq, List.length_map, List.length_range] at lo hl2
    omega
/-- a drawn end -/
inductive End (bs ws : List Str) : D → Prop
  | ret {w : Str} : w ∈ ws → End bs ws (.tup [.str "return", .str w])
  | go {b : Str} : b ∈ bs → End bs ws (.tup [.str "go", .str b])
  | either {b c : Str} : b ∈ bs → c ∈ bs → b ≠ c → End bs ws (.tup [.str "either", .str b, .str c])
theorem eqLen1 {n : Nat} : decide ((n : Int) = 1) = decide (n = 1) := by
  by_cases h : n = 1
  · rw [decide_eq_true h, decide_eq_true (by omega)]
  · rw [decide_eq_false h, decide_eq_false (by omega)]
theorem end_ok (T : Gens tab) (k : Nat) {h : List O} {n : Nat} (hp : PoolAt h n) (bs ws : List Str) (hb : 0 < bs.length) (hb2 : bs.length < 1000) (hd : bs.Nodup) (hw : 0 < ws.length) (hw2 : ws.length < 1000) :
    ∃ d h', callN tab (k + 3) "_law_end" [.loc n, .lst (bs.map D.str), .lst (ws.map D.str)] h = .ok (.fz d) h' ∧ PoolTo n h h' ∧ End bs ws d := by
  rw [call_at T.law_end [some (.fz (.loc n)), some (.fz (.lst (bs.map D.str))), some (.fz (.lst (ws.map D.str))), none, none, none] rfl rfl]
  obtain ⟨r1, h1, e1, a1, b1, p1⟩ := draw_ok T.toDraws (k + 1) hp (m := 4) (by omega) (by omega)
  have ret : ∃ d h', callN tab (k + 2) "_law_pick" [.loc n, .lst (ws.map D.str)] h1 = .ok (.fz d) h' ∧ d ∈ ws.map D.str ∧ PoolTo n h1 h' := pick_ok T.toDraws k p1.at (.lst (ws.map D.str)) _ rfl (by simpa using hw) (by simp; omega)
  by_cases h0 : r1 = 0
  · obtain ⟨d2, h2, e2, m2, p2⟩ := ret
    obtain ⟨w, hw, rfl⟩ := mem_str m2
    simp_arith [v_law_end, m_law_end, e1, decide_eq_true h0, e2]
    exact ⟨_, _, rfl, p1.trans p2, .ret hw⟩
  · by_cases h1' : r1 = 1
    · obtain ⟨d2, h2, e2, m2, p2⟩ := pick_ok T.toDraws k p1.at (.lst (bs.map D.str)) _ rfl (by simpa using hb) (by simp; omega)
      obtain ⟨w, hw, rfl⟩ := mem_str m2
      by_cases hl : bs.length = 1
      · simp_arith [v_law_end, m_law_end, e1, decide_eq_false h0, decide_eq_true h1', List.length_map, eqLen1, decide_eq_true hl, e2]
        exact ⟨_, _, rfl, p1.trans p2, .go hw⟩
      · simp_arith [v_law_end, m_law_end, e1, decide_eq_false h0, decide_eq_true h1', List.length_map, eqLen1, decide_eq_false hl, e2]
        exact ⟨_, _, rfl, p1.trans p2, .go hw⟩
    · by_cases hl : bs.length = 1
      · obtain ⟨d2, h2, e2, m2, p2⟩ := ret
        obtain ⟨w, hw, rfl⟩ := mem_str m2
        simp_arith [v_law_end, m_law_end, e1, decide_eq_false h0, decide_eq_false h1', List.length_map, eqLen1, decide_eq_true hl, e2]
        exact ⟨_, _, rfl, p1.trans p2, .ret hw⟩
      · obtain ⟨r3, h3, e3, a3, b3, p3⟩ := draw_ok T.toDraws (k + 1) p1.at (m := bs.length) (by omega) (by omega)
        obtain ⟨r4, h4, e4, a4, b4, p4⟩ := draw_ok T.toDraws (k + 1) p3.at (m := bs.length - 1) (by omega) (by omega)
        have hm0 : 0 ≤ (r3 + 1 + r4) % (bs.length : Int) := Int.emod_nonneg _ (by omega)
        have hm1 : (r3 + 1 + r4) % (bs.length : Int) < bs.length := Int.emod_lt_of_pos _ (by omega)
        have hmd : modD (.int (r3 + 1 + r4)) (.int bs.length) = some (.fz (.int ((r3 + 1 + r4) % (bs.length : Int)))) := by
          simp only [modD, show (0 : Int) < bs.length by omega, if_true, fI]
        have hne : (r3 + 1 + r4) % (bs.length : Int) ≠ r3 := by
          by_cases hlt : r3 + 1 + r4 < bs.length
          · rw [Int.emod_eq_of_lt (by omega) hlt]; omega
          · have : (r3 + 1 + r4) % (bs.length : Int) = (r3 + 1 + r4 - bs.length) % (bs.length : Int) := by rw [Int.sub_emod_right]
            rw [this, Int.emod_eq_of_lt (by omega) (by omega)]
            omega
        obtain ⟨d5, m5, e5, g5⟩ := atI_lt (l := bs.map D.str) (r := r3) a3 (by simpa using b3)
        obtain ⟨d6, m6, e6, g6⟩ := atI_lt (l := bs.map D.str) (r := (r3 + 1 + r4) % (bs.length : Int)) hm0 (by simpa using hm1)
        obtain ⟨u, hu, rfl⟩ := mem_str m5
        obtain ⟨v, hv, rfl⟩ := mem_str m6
        simp_arith [v_law_end, m_law_end, e1, decide_eq_false h0, decide_eq_false h1', List.length_map, eqLen1, decide_eq_false hl, e3, e4, e5, hmd, e6]
        refine ⟨_, _, rfl, (p1.trans p3).trans p4, .either hu hv fun e => ?_⟩
        subst e
        simp only [List.getElem?_map, Option.map_eq_some_iff, D.str.injEq, exists_eq_right] at g5 g6
        have := (List.getElem?_inj (i := r3.toNat) (j := ((r3 + 1 + r4) % (bs.length : Int)).toNat) (by
          rcases Nat.lt_or_ge r3.toNat bs.length with z | z
          · exact z
          · omega) hd).mp (g5.trans g6.symm)
        omega
end Vs

set_option Elab.async false
set_option linter.all false
set_option maxRecDepth 100000
set_option maxHeartbeats 8000000
/-! the laws' drawings: sources -/
namespace Vs
open PySem PySem.Spec PyProof.Rows L2 Mi
variable {tab : Str → Option MFn}
/-- a list in a slot, still owned or not -/
def Ls (l : List D) (x : Option O) : Prop := x = some (.lst l) ∨ x = some (.fz (.lst l))
structure Blk (bs ws ops : List Str) (b : Str) (rs : List D) (e : D) : Prop where
  few : rs.length ≤ 3
  rows : ∀ r ∈ rs, Row ws ops r
  fin : End bs ws e
inductive Blks (bs ws ops : List Str) : List Str → List D → Prop
  | nil : Blks bs ws ops [] []
  | cons {b : Str} {r : List Str} {rs : List D} {e : D} {l : List D} : Blk bs ws ops b rs e → Blks bs ws ops r l → Blks bs ws ops (b :: r) (.tup [.str b, .tup rs, e] :: l)
def m_soTurn : C := (cSeq (cAsg (mBlt tupleOfD (rCons (mLc (iRg1 (rCons (mCall "_law_draw" (aCons (mVar 0) (aCons (mCon (.int 4)) aNil))) rNil)) (gN 9) bYes (mCall "_law_row" (aCons (mVar 0) (aCons (mVar 3) (aCons (mVar 4) aNil)))) [9]) rNil)) (gN 7)) (cSeq (cApp (mVar 5) (mTup (aCons (mVar 6) (aCons (mVar 7) (aCons (mCall "_law_end" (aCons (mVar 0) (aCons (mVar 2) (aCons (mVar 3) aNil)))) aNil))))) cNil))
theorem so_turn (T : Gens tab) (k : Nat) {h : List O} {n : Nat} (hp : PoolAt h n) (bs ws ops : List Str) (hb : 0 < bs.length) (hb2 : bs.length < 1000) (hd : bs.Nodup) (hw : 0 < ws.length) (hw2 : ws.length < 1000) (ho : 0 < ops.length) (ho2 : ops.length < 1000)
    (x1 x3 x4 x7 : Option O) (h3 : Ls (ws.map D.str) x3) (h4 : Ls (ops.map D.str) x4) (b : Str) (acc : List D) (ha : acc.length < 1000) :
    ∃ rs e y3 y4 y7 h', m_soTurn (callN tab (k + 3)) ⟨[some (.fz (.loc n)), x1, some (.fz (.lst (bs.map D.str))), x3, x4, some (.lst acc), some (.fz (.str b)), x7, none, none], h⟩ = .nx ⟨[some (.fz (.loc n)), x1, some (.fz (.lst (bs.map D.str))), y3, y4, some (.lst (acc ++ [.tup [.str b, .tup rs, e]])), some (.fz (.str b)), y7, none, none], h'⟩ ∧
      PoolTo n h h' ∧ Ls (ws.map D.str) y3 ∧ Ls (ops.map D.str) y4 ∧ Blk bs ws ops b rs e := by
  obtain ⟨r1, h1, e1, a1, b1, p1⟩ := draw_ok T.toDraws (k + 2) hp (m := 4) (by omega) (by omega)
  simp_arith [m_soTurn, e1]
  rw [x_rgK a1 (by omega)]
  simp_arith [x_seq]
  obtain ⟨out, s', eo, lo, po, y3, y4, σe, i3, i4, io⟩ := lcL_draw (call := callN tab (k + 3)) (g := gN 9) (te := mCall "_law_row" (aCons (mVar 0) (aCons (mVar 3) (aCons (mVar 4) aNil)))) (vs := [9])
      (fun s => ∃ y3 y4, s.σ = [some (.fz (.loc n)), x1, some (.fz (.lst (bs.map D.str))), y3, y4, some (.lst acc), some (.fz (.str b)), x7, none, none] ∧ Ls (ws.map D.str) y3 ∧ Ls (ops.map D.str) y4 ∧ PoolTo n h1 s.h) (fun d => Row ws ops d)
      (rangeD 0 r1.toNat) [] ⟨[some (.fz (.loc n)), x1, some (.fz (.lst (bs.map D.str))), x3, x4, some (.lst acc), some (.fz (.str b)), x7, none, none], h1⟩ ⟨_, _, rfl, h3, h4, .refl p1.at⟩ (fun d hd => by cases hd) (fun d hd s hs => by
        obtain ⟨σ, hh⟩ := s
        obtain ⟨y3, y4, hσ, j3, j4, hpt⟩ := hs
        simp only at hσ hpt
        subst hσ
        obtain ⟨d5, h5, e5, p5, m5⟩ := row_ok T k hpt.at ws ops hw hw2 ho ho2
        refine ⟨_, rfl, .own (.fz d5), ⟨[some (.fz (.loc n)), x1, some (.fz (.lst (bs.map D.str))), some (.fz (.lst (ws.map D.str))), some (.fz (.lst (ops.map D.str))), some (.lst acc), some (.fz (.str b)), x7, none, some (.fz d)], h5⟩, ?_, d5, _, rfl, m5, _, _, rfl, .inr rfl, .inr rfl, hpt.trans p5⟩
        rcases j3 with rfl | rfl <;> rcases j4 with rfl | rfl <;> simp_arith [e5]) (by simp only [fitsB, decide_eq_true_eq, rangeD_eq, List.length_map, List.length_range, List.length_nil]; omega)
  obtain ⟨σ', h5⟩ := s'
  simp only at σe io
  subst σe
  rw [eo]
  obtain ⟨d6, h6, e6, p6, m6⟩ := end_ok T k io.at bs ws hb hb2 hd hw hw2
  simp only [List.length_nil, Nat.zero_add, rangeD_eq, List.length_map, List.length_range] at lo
  have hac : acc.length < 100000 := by omega
  refine ⟨out, d6, some (.fz (.lst (ws.map D.str))), y4, some (.fz (.tup out)), h6, ?_, (p1.trans io).trans p6, .inr rfl, i4, ⟨by omega, po, m6⟩⟩
  rcases i3 with rfl | rfl <;> simp_arith [e6, x_appS hac]
theorem so_loop (T : Gens tab) (k : Nat) {n : Nat} (bs ws ops : List Str) (hb : 0 < bs.length) (hb2 : bs.length < 1000) (hd : bs.Nodup) (hw : 0 < ws.length) (hw2 : ws.length < 1000) (ho : 0 < ops.length) (ho2 : ops.length < 1000) (x1 : Option O) :
    ∀ (rest : List Str) (h : List O) (x3 x4 x6 x7 : Option O) (acc : List D), PoolAt h n → Ls (ws.map D.str) x3 → Ls (ops.map D.str) x4 → acc.length + rest.length < 1000 →
    ∃ out y3 y4 y6 y7 h', forL (callN tab (k + 3)) (gN 6) m_soTurn (rest.map D.str) ⟨[some (.fz (.loc n)), x1, some (.fz (.lst (bs.map D.str))), x3, x4, some (.lst acc), x6, x7, none, none], h⟩ = .nx ⟨[some (.fz (.loc n)), x1, some (.fz (.lst (bs.map D.str))), y3, y4, some (.lst (acc ++ out)), y6, y7, none, none], h'⟩ ∧
      PoolTo n h h' ∧ Ls (ws.map D.str) y3 ∧ Ls (ops.map D.str) y4 ∧ Blks bs ws ops rest out
  | [], h, x3, x4, x6, x7, acc, hp, h3, h4, _ => ⟨[], x3, x4, x6, x7, h, by simp [forL], .refl hp, h3, h4, .nil⟩
  | b :: rest, h, x3, x4, x6, x7, acc, hp, h3, h4, hl => by
    simp only [List.length_cons] at hl
    obtain ⟨rs, e, y3, y4, y7, h', et, pt, j3, j4, hB⟩ := so_turn T k hp bs ws ops hb hb2 hd hw hw2 ho ho2 x1 x3 x4 x7 h3 h4 b acc (by omega)
    obtain ⟨out, z3, z4, z6, z7, h'', el, pl, l3, l4, hBs⟩ := so_loop T k bs ws ops hb hb2 hd hw hw2 ho ho2 x1 rest h' y3 y4 (some (.fz (.str b))) y7 (acc ++ [.tup [.str b, .tup rs, e]]) pt.at j3 j4 (by simp; omega)
    refine ⟨.tup [.str b, .tup rs, e] :: out, z3, z4, z6, z7, h'', ?_, pt.trans pl, l3, l4, .cons hB hBs⟩
    have e0 : gN 6 (.fz (.str b)) ⟨[some (.fz (.loc n)), x1, some (.fz (.lst (bs.map D.str))), x3, x4, some (.lst acc), x6, x7, none, none], h⟩ = some ⟨[some (.fz (.loc n)), x1, some (.fz (.lst (bs.map D.str))), x3, x4, some (.lst acc), some (.fz (.str b)), x7, none, none], h⟩ := rfl
    simp only [List.map_cons, forL, e0, et]
    rw [List.append_assoc] at el
    exact el
abbrev srcK : List Key := [.inr "blocks", .inr "inputs", .inr "words", .inr "ops"]
theorem merge4 {a b c d : D} : mergeD [(.inr "blocks", a), (.inr "inputs", b), (.inr "words", c), (.inr "ops", d)] ([], []) = (srcK, [a, b, c, d]) := by
  have e1 : ("blocks" : Str) ≠ "inputs" := by decide +kernel
  have e2 : ("blocks" : Str) ≠ "words" := by decide +kernel
  have e3 : ("blocks" : Str) ≠ "ops" := by decide +kernel
  have e4 : ("inputs" : Str) ≠ "words" := by decide +kernel
  have e5 : ("inputs" : Str) ≠ "ops" := by decide +kernel
  have e6 : ("words" : Str) ≠ "ops" := by decide +kernel
  simp [mergeD, putD, e1, e2, e3, e4, e5, e6]
theorem src_at {a b c d : D} : valD srcK [a, b, c, d] (.inr "blocks") = some a ∧ valD srcK [a, b, c, d] (.inr "inputs") = some b ∧ valD srcK [a, b, c, d] (.inr "words") = some c ∧ valD srcK [a, b, c, d] (.inr "ops") = some d := by
  have e1 : ("blocks" : Str) ≠ "inputs" := by decide +kernel
  have e2 : ("blocks" : Str) ≠ "words" := by decide +kernel
  have e3 : ("blocks" : Str) ≠ "ops" := by decide +kernel
  have e4 : ("inputs" : Str) ≠ "words" := by decide +kernel
  have e5 : ("inputs" : Str) ≠ "ops" := by decide +kernel
  have e6 : ("words" : Str) ≠ "ops" := by decide +kernel
  simp [valD, e1, e2, e3, e4, e5, e6]
theorem cut_take {α : Type} {l : List α} {m : Int} (h0 : 0 ≤ m) : Mi.cutD l none (some m) = l.take m.toNat := by
  obtain ⟨j, rfl⟩ := Int.eq_ofNat_of_zero_le h0
  simp only [Mi.cutD, HT.sIx_none, HT.sIx_nat, List.drop_zero, Int.toNat_natCast, Nat.sub_zero]
  rcases Nat.le_total j l.length with z | z
  · rw [Nat.min_eq_left z]
  · rw [Nat.min_eq_right z, List.take_of_length_le (Nat.le_refl _), List.take_of_length_le z]
/-- a drawn source -/
structure Src (most : Nat) (bs ws ops : List Str) (rows : List D) : Prop where
  b0 : 0 < bs.length
  b1 : bs.length ≤ most
  bd : bs.Nodup
  bw : ∀ w ∈ bs, Word w
  w0 : 2 ≤ ws.length
  w1 : ws.length ≤ 3
  wd : ws.Nodup
  ww : ∀ w ∈ ws, Word w
  o0 : ops.length = 2
  od : ops.Nodup
  ow : ∀ w ∈ ops, Word w
  rows : Blks bs ws ops bs rows
theorem source_ok (T : Gens tab) (k : Nat) {h : List O} {n : Nat} (hp : PoolAt h n) (most : Nat) (hm0 : 0 < most) (hm1 : most < 11) :
    ∃ (bs ws ops : List Str) (rows : List D) (m : Nat) (h' : List O), callN tab (k + 4) "_law_source" [.loc n, .int most] h = .ok (.dic srcK [.lst rows, .lst ((ws.take m).map D.str), .lst (ws.map D.str), .lst (ops.map D.str)]) h' ∧ PoolTo n h h' ∧ Src most bs ws ops rows := by
  rw [call_at T.law_source [some (.fz (.loc n)), some (.fz (.int most)), none, none, none, none, none, none, none, none] rfl rfl]
  obtain ⟨r1, h1, e1, a1, b1, p1⟩ := draw_ok T.toDraws (k + 2) hp (m := most) (by omega) (by omega)
  obtain ⟨c1, hc1⟩ := Int.eq_ofNat_of_zero_le (show 0 ≤ 1 + r1 by omega)
  obtain ⟨bs, h2, e2, p2, l2, d2, w2⟩ := names_ok T k p1.at c1 (by omega)
  obtain ⟨r3, h3, e3, a3, b3, p3⟩ := draw_ok T.toDraws (k + 2) p2.at (m := 2) (by omega) (by omega)
  obtain ⟨c3, hc3⟩ := Int.eq_ofNat_of_zero_le (show 0 ≤ 2 + r3 by omega)
  obtain ⟨ws, h4, e4, p4, l4, d4, w4⟩ := names_ok T k p3.at c3 (by omega)
  obtain ⟨ops, h5, e5, p5, l5, d5, w5⟩ := names_ok T k p4.at 2 (by omega)
  have e5' : callN tab (k + 3) "_law_names" [.loc n, .int 2] h4 = .ok (.lst (ops.map D.str)) h5 := e5
  obtain ⟨rows, y3, y4, y6, y7, h6, e6, p6, j3, j4, hB⟩ := so_loop T k bs ws ops (by omega) (by omega) d2 (by omega) (by omega) (by omega) (by omega) (some (.fz (.int most))) bs h5 (some (.lst (ws.map D.str))) (some (.lst (ops.map D.str))) none none [] p5.at (.inl rfl) (.inl rfl) (by simp; omega)
  obtain ⟨r7, h7, e7, a7, b7, p7⟩ := draw_ok T.toDraws (k + 2) p6.at (m := ws.length + 1) (by omega) (by omega)
  refine ⟨bs, ws, ops, rows, r7.toNat, h7, ?_, (((((p1.trans p2).trans p3).trans p4).trans p5).trans p6).trans p7, ⟨by omega, by omega, d2, w2, by omega, by omega, d4, w4, l5, d5, w5, hB⟩⟩
  have e6' := e6
  simp only [List.nil_append] at e6'
  simp_arith [v_law_source, m_law_source, e1, hc1, e2, e3, hc3, e4, e5']
  show fin ((Fl.then (forL (callN tab (k + 3)) (gN 6) m_soTurn _ _) _)) = _
  rw [e6']
  rcases j3 with rfl | rfl <;> rcases j4 with rfl | rfl <;> simp_arith [List.length_map, e7, cut_take a7, merge4, List.map_take]
end Vs

set_option Elab.async false
set_option linter.all false
set_option maxRecDepth 100000
set_option maxHeartbeats 8000000
/-! drawn sources are right ones -/
namespace Vs
open PySem PySem.Spec PyProof.Rows L2 Mi
theorem name_okD {w : Str} (h : Word w) : okT (.str w) = true := h.is.2.1
theorem fits_le {n : Nat} (h : n ≤ 100000) : fitsB n = true := by simp only [fitsB, decide_eq_true_eq]; exact h
theorem Row.is {ws ops : List Str} (hw : ∀ w ∈ ws, Word w) (ho : ∀ w ∈ ops, Word w) {d : D} (h : Row ws ops d) : isRow d = true ∧ okU d = true := by
  cases h with
  | copy hx hy =>
    have a := (hw _ hx).is
    have b := (hw _ hy).is
    refine ⟨by simp [isRow, first, a.1, b.1], ?_⟩
    simp only [okU, List.all_cons, List.all_nil, okT, a.2.1, b.2.1, Bool.and_true]
    rfl
  | @set x op l hx hop hl h2 =>
    have a := (hw _ hx).is
    have b := (ho _ hop).is
    have c : (l.map D.str).all isName = true := by
      simp only [List.all_map, List.all_eq_true]
      exact fun w hw' => (hw w (hl w hw')).is.1
    have c2 : (l.map D.str).all okD = true := by
      simp only [List.all_map, List.all_eq_true]
      exact fun w hw' => (hw w (hl w hw')).is.2.1
    refine ⟨by simp [isRow, first, a.1, b.1, areNames, c, lenT, h2], ?_⟩
    simp only [okU, List.all_cons, List.all_nil, okT, a.2.1, b.2.1, c2, List.length_map, fits_le (show l.length ≤ 100000 by omega), Bool.and_true]
    rfl
theorem End.is {bs ws : List Str} (hb : ∀ w ∈ bs, Word w) (hw : ∀ w ∈ ws, Word w) {d : D} (h : End bs ws d) : isEnd d = true ∧ okU d = true ∧ ∀ x ∈ nexts d, ∃ b ∈ bs, x = .str b := by
  have n1 : ("go" : Str) ≠ "return" := by decide +kernel
  have n2 : ("either" : Str) ≠ "return" := by decide +kernel
  cases h with
  | ret hx =>
    have a := (hw _ hx).is
    refine ⟨by simp [isEnd, first, a.1], ?_, fun x hx => by simp [nexts] at hx⟩
    simp only [okU, List.all_cons, List.all_nil, okT, a.2.1, Bool.and_true]
    rfl
  | go hx =>
    have a := (hb _ hx).is
    refine ⟨by simp [isEnd, first, a.1], ?_, fun x hx' => ?_⟩
    · simp only [okU, List.all_cons, List.all_nil, okT, a.2.1, Bool.and_true]
      rfl
    · simp only [nexts, n1, if_false, List.mem_singleton] at hx'
      exact ⟨_, hx, hx'⟩
  | either hx hy hne =>
    have a := (hb _ hx).is
    have b := (hb _ hy).is
    refine ⟨by simp [isEnd, first, a.1, b.1, hne], ?_, fun x hx' => ?_⟩
    · simp only [okU, List.all_cons, List.all_nil, okT, a.2.1, b.2.1, Bool.and_true]
      rfl
    · simp only [nexts, n2, if_false, List.mem_cons, List.not_mem_nil, or_false] at hx'
      rcases hx' with e | e
      · exact ⟨_, hx, e⟩
      · exact ⟨_, hy, e⟩
theorem Blks.all {bs ws ops rest : List Str} {rows : List D} (h : Blks bs ws ops rest rows) : (∀ d ∈ rows, ∃ b rs e, d = .tup [.str b, .tup rs, e] ∧ b ∈ rest ∧ Blk bs ws ops b rs e) ∧ rows.map strOf = rest := by
  induction h with
  | nil => exact ⟨fun d hd => (nomatch hd), rfl⟩
  | @cons b r rs e l hB _ ih =>
    refine ⟨fun d hd => ?_, by simp [strOf, ih.2]⟩
    rcases List.mem_cons.mp hd with rfl | hd
    · exact ⟨b, rs, e, rfl, by simp, hB⟩
    · obtain ⟨b', rs', e', h1, h2, h3⟩ := ih.1 d hd
      exact ⟨b', rs', e', h1, by simp [h2], h3⟩
theorem Blk.is {bs ws ops : List Str} (hb : ∀ w ∈ bs, Word w) (hw : ∀ w ∈ ws, Word w) (ho : ∀ w ∈ ops, Word w) {b : Str} {rs : List D} {e : D} (hB : b ∈ bs) (h : Blk bs ws ops b rs e) :
    isBlock (.tup [.str b, .tup rs, e]) = true ∧ okB (.tup [.str b, .tup rs, e]) = true ∧ okRs (.tup rs) = true ∧ okU e = true ∧ rs.all isRow = true := by
  have a := (hb _ hB).is
  have c : rs.all isRow = true := by
    simp only [List.all_eq_true]
    exact fun r hr => ((h.rows r hr).is hw ho).1
  have c2 : rs.all okU = true := by
    simp only [List.all_eq_true]
    exact fun r hr => ((h.rows r hr).is hw ho).2
  have d := h.fin.is hb hw
  have f : rs.length ≤ 6 := by have := h.few; omega
  have o : okRs (.tup rs) = true := by simp only [okRs, c2, fits_le (show rs.length ≤ 100000 by omega), Bool.and_true]
  refine ⟨by simp [isBlock, a.1, f, c, d.1], by simp only [okB, a.2.1, o, d.2.1, Bool.and_true], o, d.2.1, c⟩
theorem had_false {pre : List D} {b : D} (h : strOf b ∉ pre.map strOf) : had pre b = false := by
  simp only [had, List.any_eq_false, decide_eq_true_eq]
  exact fun p hp e => h (List.mem_map.mpr ⟨p, hp, e⟩)
theorem firstBad_none : ∀ {rows pre : List D}, (∀ d ∈ rows, isBlock d = true) → ((pre ++ rows).map strOf).Nodup → firstBad pre rows = none
  | [], _, _, _ => rfl
  | b :: rows, pre, h, hd => by
    have hd0 := hd
    rw [List.map_append, List.nodup_append] at hd
    have hb : had pre b = false := had_false fun hm => hd.2.2 _ hm _ (by simp) rfl
    simp only [firstBad, h b (by simp), hb, Bool.not_false, Bool.and_self, if_true]
    refine firstBad_none (fun d hd => h d (by simp [hd])) ?_
    rw [List.append_assoc]
    exact hd0
theorem firstBad_at : ∀ {good pre rest : List D} {bad : D}, firstBad pre good = none → (isBlock bad && !had (pre ++ good) bad) = false → firstBad pre (good ++ bad :: rest) = some (pre.length + good.length)
  | [], pre, rest, bad, _, h => by
    rw [List.append_nil] at h
    simp only [List.nil_append, firstBad, h, Bool.false_eq_true, if_false, List.length_nil, Nat.add_zero]
  | g :: good, pre, rest, bad, hg, h => by
    unfold firstBad at hg
    split at hg
    · rename_i hc
      have := firstBad_at (good := good) (pre := pre ++ [g]) (rest := rest) (bad := bad) hg (by rw [List.append_assoc]; exact h)
      simp only [List.cons_append, firstBad, hc, if_true, this, List.length_append, List.length_cons, List.length_nil]
      congr 1
      omega
    · cases hg
theorem firstBad_pre : ∀ {a b pre : List D}, firstBad pre (a ++ b) = none → firstBad pre a = none
  | [], b, pre, _ => rfl
  | x :: a, b, pre, h => by
    simp only [List.cons_append, firstBad] at h ⊢
    split at h
    · rename_i hc
      rw [if_pos hc]
      exact firstBad_pre h
    · cases h
theorem isIn_keys {rows : List D} {x : Str} : isIn (rows.map keyOf) (.str x) = true ↔ x ∈ rows.map strOf := by
  simp only [isIn, List.any_map, List.any_eq_true, Function.comp_apply, keyOf, decide_eq_true_eq, Sum.inr.injEq, List.mem_map]
theorem blockNexts_is {b : Str} {rs : List D} {e : D} : blockNexts (.tup [.str b, .tup rs, e]) = nexts e := rfl
theorem nextsIn {most : Nat} {bs ws ops : List Str} {rows : List D} (S : Src most bs ws ops rows) {ks : List Key} (hk : ∀ x ∈ bs, isIn ks (.str x) = true) {d : D} (hd : d ∈ rows) : ∀ y ∈ blockNexts d, isIn ks y = true := by
  obtain ⟨b, rs, e, rfl, hb, hB⟩ := S.rows.all.1 d hd
  intro y hy
  obtain ⟨c, hc, rfl⟩ := (hB.fin.is S.bw S.ww).2.2 y hy
  exact hk c hc
theorem src_blocks {most : Nat} {bs ws ops : List Str} {rows : List D} (S : Src most bs ws ops rows) : (∀ d ∈ rows, isBlock d = true) ∧ (∀ d ∈ rows, okB d = true) ∧ rows.map strOf = bs ∧ firstBad [] rows = none ∧ rows.length = bs.length := by
  have h := S.rows.all
  have h1 : ∀ d ∈ rows, isBlock d = true := fun d hd => by
    obtain ⟨b, rs, e, rfl, hb, hB⟩ := h.1 d hd
    exact (hB.is S.bw S.ww S.ow hb).1
  refine ⟨h1, fun d hd => ?_, h.2, firstBad_none h1 (by rw [List.nil_append, h.2]; exact S.bd), by rw [← h.2, List.length_map]⟩
  obtain ⟨b, rs, e, rfl, hb, hB⟩ := h.1 d hd
  exact (hB.is S.bw S.ww S.ow hb).2.1
theorem ck_ok {most : Nat} {bs ws ops : List Str} {rows : List D} (S : Src most bs ws ops rows) (hm : most ≤ 8) : ckBlocks rows = .ok := by
  obtain ⟨h1, h2, h3, h4, h5⟩ := src_blocks S
  have b0 := S.b0
  have b1 := S.b1
  have hf : (rows.flatMap blockNexts).find? (fun d => !isIn (rows.map keyOf) d) = none := by
    simp only [List.find?_eq_none, List.mem_flatMap, Bool.not_eq_true', Bool.not_eq_false]
    rintro y ⟨d, hd, hy⟩
    exact nextsIn S (fun x hx => isIn_keys.mpr (by rw [h3]; exact hx)) hd y hy
  simp only [ckBlocks, h4, show ¬ 8 < rows.length by omega, show ¬ rows.length = 0 by omega, if_false, hf]
/-- inputs that are unlike names are taken -/
theorem hadS_mem {pre : List Str} {x : Str} : hadS (pre.map D.str) (.str x) = true ↔ x ∈ pre := by
  simp only [hadS, inV, List.map_map, List.any_map, List.any_eq_true, Function.comp_apply, strV]
  constructor
  · rintro ⟨y, hy, e⟩
    have : y = x := by simpa [eqV] using e
    exact this ▸ hy
  · intro h
    exact ⟨x, h, by simp [eqV]⟩
theorem firstBadI_none : ∀ {ws pre : List Str}, (∀ w ∈ ws, isName (.str w) = true) → (pre ++ ws).Nodup → firstBadI (pre.map D.str) (ws.map D.str) = none
  | [], _, _, _ => rfl
  | w :: ws, pre, h, hd => by
    have hd0 := hd
    rw [List.nodup_append] at hd
    have hb : hadS (pre.map D.str) (.str w) = false := by
      rw [Bool.eq_false_iff]
      exact fun hm => hd.2.2 _ (hadS_mem.mp hm) _ (by simp) rfl
    simp only [List.map_cons, firstBadI, h w (by simp), hb, Bool.not_false, Bool.and_self, if_true]
    have := firstBadI_none (ws := ws) (pre := pre ++ [w]) (fun v hv => h v (by simp [hv])) (by rw [List.append_assoc]; exact hd0)
    rw [List.map_append] at this
    exact this
theorem firstBadI_at : ∀ {good pre rest : List D} {bad : D}, firstBadI pre good = none → (isName bad && !hadS (pre ++ good) bad) = false → firstBadI pre (good ++ bad :: rest) = some (pre.length + good.length)
  | [], pre, rest, bad, _, h => by
    rw [List.append_nil] at h
    simp only [List.nil_append, firstBadI, h, Bool.false_eq_true, if_false, List.length_nil, Nat.add_zero]
  | g :: good, pre, rest, bad, hg, h => by
    unfold firstBadI at hg
    split at hg
    · rename_i hc
      have := firstBadI_at (good := good) (pre := pre ++ [g]) (rest := rest) (bad := bad) hg (by rw [List.append_assoc]; exact h)
      simp only [List.cons_append, firstBadI, hc, if_true, this, List.length_append, List.length_cons, List.length_nil]
      congr 1
      omega
    · cases hg
theorem ckI_ok {ws : List Str} (h : ∀ w ∈ ws, isName (.str w) = true) (hd : ws.Nodup) (hl : ws.length ≤ 6) : ckInputs (ws.map D.str) = .ok := by
  have := firstBadI_none (ws := ws) (pre := []) h (by simpa using hd)
  simp only [List.map_nil] at this
  simp only [ckInputs, this, List.length_map, show ¬ 6 < ws.length by omega, if_false]
theorem cut_post {α : Type} {A B : List α} {x : α} : Mi.cutD (A ++ x :: B) (some ((A.length : Int) + 1)) none = B := by
  have : ((A.length : Int) + 1) = ((A.length + 1 : Nat) : Int) := by omega
  rw [this]
  simp only [Mi.cutD, HT.sIx_none, HT.sIx_nat, List.length_append, List.length_cons]
  rw [show min (A.length + 1) (A.length + (B.length + 1)) = A.length + 1 by omega, List.take_of_length_le (by simp; omega), show A ++ x :: B = (A ++ [x]) ++ B by simp]
  exact List.drop_left' (by simp)
theorem cut_drop {α : Type} {A B : List α} : Mi.cutD (A ++ B) (some (A.length : Int)) none = B := by
  simp only [Mi.cutD, HT.sIx_none, HT.sIx_nat, List.length_append]
  rw [show min A.length (A.length + B.length) = A.length by omega, List.take_of_length_le (by simp)]
  exact List.drop_left' rfl
theorem at_mid {A B : List D} {x : D} : atI (A ++ x :: B) (A.length : Int) = some x := atI_nat (by simp)
theorem addLL {a b : List D} (h : a.length + b.length ≤ 100000) : addD (.lst a) (.lst b) = some (.lst (a ++ b)) := by
  simp only [addD, fits_le h, if_true]
theorem split_at {l : List D} {r : Int} (h0 : 0 ≤ r) (h1 : r < l.length) : ∃ A x B, l = A ++ x :: B ∧ r = A.length := by
  have hr : r.toNat < l.length := by omega
  refine ⟨l.take r.toNat, l[r.toNat], l.drop (r.toNat + 1), ?_, ?_⟩
  · rw [List.getElem_cons_drop, List.take_append_drop]
  · rw [List.length_take]; omega
end Vs

set_option Elab.async false
set_option linter.all false
set_option maxRecDepth 100000
set_option maxHeartbeats 4000000
/-! the law's defs, turned (printed by gen.py) -/
namespace K03
open PySem PySem.Spec PyProof.Rows L2 Mi
def tops : List Stmt := PySem.Challenge.pw_valueshown_k03_sources_refused.main.body
def topS (i : Nat) : Stmt := tops.getD i (.Pass ⟨0, 0, 0, 0⟩)
def inS (i j : Nat) : Stmt := (clsBody (topS i)).getD j (.Pass ⟨0, 0, 0, 0⟩)
def cons : List (Str × D) := [("LETTERS", (.str "abcdefghijklmnopqrstuvwxyz")), ("MOST_LETTERS", (.int 8)), ("MOST_OPERANDS", (.int 2)), ("MOST_BLOCKS", (.int 8)), ("MOST_ROWS", (.int 6)), ("MOST_INPUTS", (.int 6))]
def con : Str → Option D := conOf cons
def names : List Str := ["is_name", "are_names", "has_kind", "is_row", "is_end", "is_block", "next_blocks", "checked_blocks", "checked_inputs", "_law_pool", "_law_draw", "_law_pick", "_law_names", "_law_row", "_law_end", "_law_source", "_law_told", "_law_bad", "law"]
def cells : List Str := ["_law_pool"]
def exs : List (Str × Str) := [("BadBlock", "index"), ("BadInput", "index"), ("UnknownBlock", "block"), ("TooMany", "limit")]
def flds : List (Str × Str) := [("Source", "own_blocks"), ("Source", "inputs")]
def news : List Str := ["Source"]
def mths : List (Str × Str) := []
def isx : List (Str × Str × Bool) := [("BadBlock", "ShownError", true), ("BadBlock", "ValueError", true), ("BadInput", "ShownError", true), ("BadInput", "ValueError", true), ("TooMany", "ShownError", false), ("TooMany", "OverflowError", true), ("UnknownBlock", "ShownError", false), ("UnknownBlock", "KeyError", true)]
def pd : PD := ⟨con, names, cells, exs, flds, news, mths, isx⟩
def m_is_name : C := (cSeq (cRet (mAnd (mBlt isiD (rCons (mVar 0) (rCons (mCon (.ty "str")) rNil))) (mAnd (mChain leD leD (mCon (.int 1)) (mBlt lenX (rCons (mVar 0) rNil)) (mCon (.int 8))) (mBlt allD (rCons (mLc (iAny (mVar 0)) (gN 1) bYes (mTwo inX (mVar 1) (mCon (.str "abcdefghijklmnopqrstuvwxyz"))) [1]) rNil))))) cNil)
theorem t_is_name : (turn (pd.cc false (mkN (topS 11)) (defScope (topS 11))) (defBody (topS 11))).map (·.m) = some m_is_name := by kernel_rfl
def f_is_name : MFn := ⟨["value", "sign"], 1, m_is_name⟩
theorem n_is_name : mkN (topS 11) = (["value", "sign"] : List Str) := by decide +kernel
def m_are_names : C := (cSeq (cRet (mAnd (mBlt isiD (rCons (mVar 0) (rCons (mCon (.ty "tuple")) rNil))) (mBlt allD (rCons (mLc (iAny (mVar 0)) (gN 1) bYes (mCall "is_name" (aCons (mVar 1) aNil)) [1]) rNil)))) cNil)
theorem t_are_names : (turn (pd.cc false (mkN (topS 12)) (defScope (topS 12))) (defBody (topS 12))).map (·.m) = some m_are_names := by kernel_rfl
def f_are_names : MFn := ⟨["value", "item"], 1, m_are_names⟩
theorem n_are_names : mkN (topS 12) = (["value", "item"] : List Str) := by decide +kernel
def m_has_kind : C := (cSeq (cRet (mAnd (mBlt isiD (rCons (mVar 0) (rCons (mCon (.ty "tuple")) rNil))) (mAnd (mTwo eqD (mBlt lenX (rCons (mVar 0) rNil)) (mVar 2)) (mAnd (mBlt isiD (rCons (mTwo atX (mVar 0) (mCon (.int 0))) (rCons (mCon (.ty "str")) rNil))) (mTwo eqD (mTwo atX (mVar 0) (mCon (.int 0))) (mVar 1)))))) cNil)
theorem t_has_kind : (turn (pd.cc false (mkN (topS 13)) (defScope (topS 13))) (defBody (topS 13))).map (·.m) = some m_has_kind := by kernel_rfl
def f_has_kind : MFn := ⟨["value", "kind", "many"], 3, m_has_kind⟩
theorem n_has_kind : mkN (topS 13) = (["value", "kind", "many"] : List Str) := by decide +kernel
def m_is_row : C := (cSeq (cIf (bVal (mCall "has_kind" (aCons (mVar 0) (aCons (mCon (.str "copy")) (aCons (mCon (.int 3)) aNil))))) (cSeq (cRet (mAnd (mCall "is_name" (aCons (mTwo atX (mVar 0) (mCon (.int 1))) aNil)) (mCall "is_name" (aCons (mTwo atX (mVar 0) (mCon (.int 2))) aNil)))) cNil) cNil) (cSeq (cIf (bOr (bNot (bVal (mCall "has_kind" (aCons (mVar 0) (aCons (mCon (.str "set")) (aCons (mCon (.int 4)) aNil)))))) (bOr (bNot (bVal (mCall "is_name" (aCons (mTwo atX (mVar 0) (mCon (.int 1))) aNil)))) (bNot (bVal (mCall "is_name" (aCons (mTwo atX (mVar 0) (mCon (.int 2))) aNil)))))) (cSeq (cRet (mCon (.bl false))) cNil) cNil) (cSeq (cRet (mAnd (mCall "are_names" (aCons (mTwo atX (mVar 0) (mCon (.int 3))) aNil)) (mTwo leD (mBlt lenX (rCons (mTwo atX (mVar 0) (mCon (.int 3))) rNil)) (mCon (.int 2))))) cNil)))
theorem t_is_row : (turn (pd.cc false (mkN (topS 14)) (defScope (topS 14))) (defBody (topS 14))).map (·.m) = some m_is_row := by kernel_rfl
def f_is_row : MFn := ⟨["value"], 1, m_is_row⟩
theorem n_is_row : mkN (topS 14) = (["value"] : List Str) := by decide +kernel
def m_is_end : C := (cSeq (cIf (bOr (bVal (mCall "has_kind" (aCons (mVar 0) (aCons (mCon (.str "go")) (aCons (mCon (.int 2)) aNil))))) (bVal (mCall "has_kind" (aCons (mVar 0) (aCons (mCon (.str "return")) (aCons (mCon (.int 2)) aNil)))))) (cSeq (cRet (mCall "is_name" (aCons (mTwo atX (mVar 0) (mCon (.int 1))) aNil))) cNil) cNil) (cSeq (cRet (mAnd (mCall "has_kind" (aCons (mVar 0) (aCons (mCon (.str "either")) (aCons (mCon (.int 3)) aNil)))) (mAnd (mCall "is_name" (aCons (mTwo atX (mVar 0) (mCon (.int 1))) aNil)) (mAnd (mCall "is_name" (aCons (mTwo atX (mVar 0) (mCon (.int 2))) aNil)) (mTwo neD (mTwo atX (mVar 0) (mCon (.int 1))) (mTwo atX (mVar 0) (mCon (.int 2)))))))) cNil))
theorem t_is_end : (turn (pd.cc false (mkN (topS 15)) (defScope (topS 15))) (defBody (topS 15))).map (·.m) = some m_is_end := by kernel_rfl
def f_is_end : MFn := ⟨["value"], 1, m_is_end⟩
theorem n_is_end : mkN (topS 15) = (["value"] : List Str) := by decide +kernel
def m_is_block : C := (cSeq (cIf (bOr (bNot (bVal (mBlt isiD (rCons (mVar 0) (rCons (mCon (.ty "tuple")) rNil))))) (bOr (bCmp (mTwo neD (mBlt lenX (rCons (mVar 0) rNil)) (mCon (.int 3)))) (bOr (bNot (bVal (mCall "is_name" (aCons (mTwo atX (mVar 0) (mCon (.int 0))) aNil)))) (bNot (bVal (mBlt isiD (rCons (mTwo atX (mVar 0) (mCon (.int 1))) (rCons (mCon (.ty "tuple")) rNil)))))))) (cSeq (cRet (mCon (.bl false))) cNil) cNil) (cSeq (cRet (mAnd (mTwo leD (mBlt lenX (rCons (mTwo atX (mVar 0) (mCon (.int 1))) rNil)) (mCon (.int 6))) (mAnd (mBlt allD (rCons (mLc (iAny (mTwo atX (mVar 0) (mCon (.int 1)))) (gN 1) bYes (mCall "is_row" (aCons (mVar 1) aNil)) [1]) rNil)) (mCall "is_end" (aCons (mTwo atX (mVar 0) (mCon (.int 2))) aNil))))) cNil))
theorem t_is_block : (turn (pd.cc false (mkN (topS 22)) (defScope (topS 22))) (defBody (topS 22))).map (·.m) = some m_is_block := by kernel_rfl
def f_is_block : MFn := ⟨["value", "row"], 1, m_is_block⟩
theorem n_is_block : mkN (topS 22) = (["value", "row"] : List Str) := by decide +kernel
def m_next_blocks : C := (cSeq (cRet (mIf (bCmp (mTwo eqD (mTwo atX (mVar 0) (mCon (.int 0))) (mCon (.str "return")))) (mTup aNil) (mSl (mVar 0) (pSome (mCon (.int 1))) pNone))) cNil)
theorem t_next_blocks : (turn (pd.cc false (mkN (topS 23)) (defScope (topS 23))) (defBody (topS 23))).map (·.m) = some m_next_blocks := by kernel_rfl
def f_next_blocks : MFn := ⟨["end"], 1, m_next_blocks⟩
theorem n_next_blocks : mkN (topS 23) = (["end"] : List Str) := by decide +kernel
def m_checked_blocks : C := (cSeq (cIf (bNot (bVal (mOne (isiT ["list", "tuple"]) (mVar 0)))) (cSeq (cRaise "BadBlock" (aCons (mCon .non) aNil)) cNil) cNil) (cSeq (cAsg mDic0 (gN 1)) (cSeq (cFor (iEn (aCons (mVar 0) aNil)) (gT 2 (gsCons (gN 2) (gsCons (gN 3) gsNil))) (cSeq (cIf (bOr (bNot (bVal (mCall "is_block" (aCons (mVar 3) aNil)))) (bCmp (mTwo inX (mTwo atX (mVar 3) (mCon (.int 0))) (mVar 1)))) (cSeq (cRaise "BadBlock" (aCons (mVar 2) aNil)) cNil) cNil) (cSeq (cSetX (mTup (aCons (mTwo atX (mVar 3) (mCon (.int 1))) (aCons (mTwo atX (mVar 3) (mCon (.int 2))) aNil))) (mVar 1) (mTwo atX (mVar 3) (mCon (.int 0)))) cNil))) (cSeq (cIf (bCmp (mTwo gtD (mBlt lenX (rCons (mVar 1) rNil)) (mCon (.int 8)))) (cSeq (cRaise "TooMany" (aCons (mCon (.int 8)) aNil)) cNil) cNil) (cSeq (cIf (bCmp (mTwo eqD (mBlt lenX (rCons (mVar 1) rNil)) (mCon (.int 0)))) (cSeq (cRaise "BadBlock" (aCons (mCon .non) aNil)) cNil) cNil) (cSeq (cFor (iVals_ (mVar 1)) (gT 2 (gsCons (gN 4) (gsCons (gN 5) gsNil))) (cSeq (cFor (iAny (mCall "next_blocks" (aCons (mVar 5) aNil))) (gN 6) (cSeq (cIf (bCmp (mTwo notInX (mVar 6) (mVar 1))) (cSeq (cRaise "UnknownBlock" (aCons (mVar 6) aNil)) cNil) cNil) cNil)) cNil)) (cSeq (cRet (mVar 1)) cNil)))))))
theorem t_checked_blocks : (turn (pd.cc false (mkN (topS 24)) (defScope (topS 24))) (defBody (topS 24))).map (·.m) = some m_checked_blocks := by kernel_rfl
def f_checked_blocks : MFn := ⟨["blocks", "found", "index", "value", "rows", "end", "block"], 1, m_checked_blocks⟩
theorem n_checked_blocks : mkN (topS 24) = (["blocks", "found", "index", "value", "rows", "end", "block"] : List Str) := by decide +kernel
def m_checked_inputs : C := (cSeq (cIf (bNot (bVal (mOne (isiT ["list", "tuple"]) (mVar 0)))) (cSeq (cRaise "BadInput" (aCons (mCon .non) aNil)) cNil) cNil) (cSeq (cFor (iEn (aCons (mVar 0) aNil)) (gT 2 (gsCons (gN 1) (gsCons (gN 2) gsNil))) (cSeq (cIf (bOr (bNot (bVal (mCall "is_name" (aCons (mVar 2) aNil)))) (bCmp (mTwo inX (mVar 2) (mSl (mVar 0) pNone (pSome (mVar 1)))))) (cSeq (cRaise "BadInput" (aCons (mVar 1) aNil)) cNil) cNil) cNil)) (cSeq (cIf (bCmp (mTwo gtD (mBlt lenX (rCons (mVar 0) rNil)) (mCon (.int 6)))) (cSeq (cRaise "TooMany" (aCons (mCon (.int 6)) aNil)) cNil) cNil) (cSeq (cRet (mBlt tupleOfD (rCons (mVar 0) rNil))) cNil))))
theorem t_checked_inputs : (turn (pd.cc false (mkN (topS 25)) (defScope (topS 25))) (defBody (topS 25))).map (·.m) = some m_checked_inputs := by kernel_rfl
def f_checked_inputs : MFn := ⟨["inputs", "index", "value"], 1, m_checked_inputs⟩
theorem n_checked_inputs : mkN (topS 25) = (["inputs", "index", "value"] : List Str) := by decide +kernel
def m_law_pool : C := (cSeq (cAsg (mIf (bCmp (mTwo ltD (mVar 1) (mBlt lenX (rCons (mVar 0) rNil)))) (mTwo atX (mVar 0) (mVar 1)) (mTwo addD (mTwo mulX (mCon (.int 7)) (mBlt sumD (rCons (mSl (mVar 0) pNone (pSome (mCon (.int 63)))) rNil))) (mVar 1))) (gN 2)) (cSeq (cAsg (mBlt absD (rCons (mVar 2) rNil)) (gN 3)) (cSeq (cAsg (mTwo addD (mTwo addD (mTwo addD (mTwo modD (mBlt intD (rCons (mVar 3) rNil)) (mCon (.int 2147483629))) (mTwo mulX (mTwo mulX (mCon (.int 7919)) (mVar 1)) (mVar 1))) (mTwo mulX (mCon (.int 31)) (mVar 1))) (mCon (.int 17))) (gN 4)) (cSeq (cAsg (mTwo modD (mBlt intD (rCons (mTwo mulX (mVar 4) (mCon (.int 48271))) rNil)) (mCon (.int 2147483647))) (gN 4)) (cSeq (cRet (mLst (aCons (mTwo mulX (mVar 3) (mBlt intD (rCons (mTwo geD (mVar 3) (mTwo powD (mCon (.int 10)) (mCon (.int 18)))) rNil))) (aCons (mTwo modD (mBlt intD (rCons (mTwo mulX (mVar 4) (mVar 4)) rNil)) (mCon (.int 2147483629))) aNil)))) cNil)))))
theorem t_law_pool : (turn (pd.cc false (mkN (topS 28)) (defScope (topS 28))) (defBody (topS 28))).map (·.m) = some m_law_pool := by kernel_rfl
def f_law_pool : MFn := ⟨["_law_script", "_law_k", "_law_cell", "_law_size", "_law_mixed"], 2, m_law_pool⟩
theorem n_law_pool : mkN (topS 28) = (["_law_script", "_law_k", "_law_cell", "_law_size", "_law_mixed"] : List Str) := by decide +kernel
def m_law_draw : C := (cSeq (cIf (bCmp (mTwo gtD (mTwo atX (mVar 0) (mCon (.int 0))) (mCon (.int 0)))) (cSeq (cAsg (mTwo modD (mBlt intD (rCons (mTwo atX (mVar 0) (mCon (.int 0))) rNil)) (mVar 1)) (gN 2)) (cSeq (cSetX (mTwo fdivD (mTwo atX (mVar 0) (mCon (.int 0))) (mVar 1)) (mVar 0) (mCon (.int 0))) (cSeq (cRet (mVar 2)) cNil))) cNil) (cSeq (cSetX (mTwo modD (mBlt intD (rCons (mTwo addD (mTwo mulX (mTwo atX (mVar 0) (mCon (.int 1))) (mCon (.int 48271))) (mCon (.int 11))) rNil)) (mCon (.int 2147483647))) (mVar 0) (mCon (.int 1))) (cSeq (cRet (mTwo modD (mBlt intD (rCons (mTwo fdivD (mTwo modD (mBlt intD (rCons (mTwo mulX (mTwo atX (mVar 0) (mCon (.int 1))) (mTwo atX (mVar 0) (mCon (.int 1)))) rNil)) (mCon (.int 2147483629))) (mCon (.int 16))) rNil)) (mVar 1))) cNil)))
theorem t_law_draw : (turn (pd.cc false (mkN (topS 29)) (defScope (topS 29))) (defBody (topS 29))).map (·.m) = some m_law_draw := by kernel_rfl
def f_law_draw : MFn := ⟨["_law_pool_here", "_law_many", "_law_found"], 2, m_law_draw⟩
theorem n_law_draw : mkN (topS 29) = (["_law_pool_here", "_law_many", "_law_found"] : List Str) := by decide +kernel
def m_law_pick : C := (cSeq (cRet (mTwo atX (mVar 1) (mCall "_law_draw" (aCons (mVar 0) (aCons (mBlt lenX (rCons (mVar 1) rNil)) aNil))))) cNil)
theorem t_law_pick : (turn (pd.cc false (mkN (topS 30)) (defScope (topS 30))) (defBody (topS 30))).map (·.m) = some m_law_pick := by kernel_rfl
def f_law_pick : MFn := ⟨["_law_pool_here", "_law_row_here"], 2, m_law_pick⟩
theorem n_law_pick : mkN (topS 30) = (["_law_pool_here", "_law_row_here"] : List Str) := by decide +kernel
def m_law_names : C := (cSeq (cAsg (mCon (.str "abcdefghijklmnopqrstuvwxyz")) (gN 2)) (cSeq (cMul (rCons (mCall "_law_draw" (aCons (mVar 0) (aCons (mCon (.int 26)) aNil))) (rCons (mTwo addD (mCon (.int 1)) (mTwo mulX (mCon (.int 2)) (mCall "_law_draw" (aCons (mVar 0) (aCons (mCon (.int 6)) aNil))))) rNil)) [(gN 3), (gN 4)]) (cSeq (cAsg (mLst (aCons (mTup (aCons (mCon (.str "")) (aCons (mCon (.str "")) aNil))) (aCons (mTup (aCons (mCon (.str "")) (aCons (mCon (.str "q")) aNil))) (aCons (mTup (aCons (mCon (.str "ab")) (aCons (mCon (.str "")) aNil))) (aCons (mTup (aCons (mCon (.str "abcdefg")) (aCons (mCon (.str "")) aNil))) (aCons (mTup (aCons (mCon (.str "")) (aCons (mCon (.str "abcdefg")) aNil))) aNil)))))) (gN 5)) (cSeq (cAsg (mCall "_law_pick" (aCons (mVar 0) (aCons (mVar 5) aNil))) (gT 2 (gsCons (gN 6) (gsCons (gN 7) gsNil)))) (cSeq (cRet (mLc (iRg1 (rCons (mVar 1) rNil)) (gN 8) bYes (mTwo addD (mTwo addD (mVar 6) (mTwo atX (mVar 2) (mTwo modD (mBlt intD (rCons (mTwo addD (mVar 3) (mTwo mulX (mVar 4) (mVar 8))) rNil)) (mCon (.int 26))))) (mVar 7)) [8])) cNil)))))
theorem t_law_names : (turn (pd.cc false (mkN (topS 31)) (defScope (topS 31))) (defBody (topS 31))).map (·.m) = some m_law_names := by kernel_rfl
def f_law_names : MFn := ⟨["_law_pool_here", "_law_count", "_law_signs", "_law_origin", "_law_step", "_law_ends", "_law_head", "_law_tail", "_law_k"], 2, m_law_names⟩
theorem n_law_names : mkN (topS 31) = (["_law_pool_here", "_law_count", "_law_signs", "_law_origin", "_law_step", "_law_ends", "_law_head", "_law_tail", "_law_k"] : List Str) := by decide +kernel
def m_law_row : C := (cSeq (cAsg (mCall "_law_pick" (aCons (mVar 0) (aCons (mVar 1) aNil))) (gN 3)) (cSeq (cIf (bCmp (mTwo eqD (mCall "_law_draw" (aCons (mVar 0) (aCons (mCon (.int 3)) aNil))) (mCon (.int 0)))) (cSeq (cRet (mTup (aCons (mCon (.str "copy")) (aCons (mVar 3) (aCons (mCall "_law_pick" (aCons (mVar 0) (aCons (mVar 1) aNil))) aNil))))) cNil) cNil) (cSeq (cAsg (mCall "_law_pick" (aCons (mVar 0) (aCons (mVar 2) aNil))) (gN 4)) (cSeq (cAsg (mLc (iRg1 (rCons (mCall "_law_draw" (aCons (mVar 0) (aCons (mCon (.int 3)) aNil))) rNil)) (gN 6) bYes (mCall "_law_pick" (aCons (mVar 0) (aCons (mVar 1) aNil))) [6]) (gN 5)) (cSeq (cRet (mTup (aCons (mCon (.str "set")) (aCons (mVar 3) (aCons (mVar 4) (aCons (mBlt tupleOfD (rCons (mVar 5) rNil)) aNil)))))) cNil)))))
theorem t_law_row : (turn (pd.cc false (mkN (topS 32)) (defScope (topS 32))) (defBody (topS 32))).map (·.m) = some m_law_row := by kernel_rfl
def f_law_row : MFn := ⟨["_law_pool_here", "_law_words", "_law_ops", "_law_x", "_law_op", "_law_some", "_law_turn"], 3, m_law_row⟩
theorem n_law_row : mkN (topS 32) = (["_law_pool_here", "_law_words", "_law_ops", "_law_x", "_law_op", "_law_some", "_law_turn"] : List Str) := by decide +kernel
def m_law_end : C := (cSeq (cAsg (mCall "_law_draw" (aCons (mVar 0) (aCons (mCon (.int 4)) aNil))) (gN 3)) (cSeq (cIf (bOr (bCmp (mTwo eqD (mVar 3) (mCon (.int 0)))) (bAnd (bCmp (mTwo eqD (mBlt lenX (rCons (mVar 1) rNil)) (mCon (.int 1)))) (bCmp (mTwo neD (mVar 3) (mCon (.int 1)))))) (cSeq (cRet (mTup (aCons (mCon (.str "return")) (aCons (mCall "_law_pick" (aCons (mVar 0) (aCons (mVar 2) aNil))) aNil)))) cNil) cNil) (cSeq (cIf (bCmp (mTwo eqD (mVar 3) (mCon (.int 1)))) (cSeq (cRet (mTup (aCons (mCon (.str "go")) (aCons (mCall "_law_pick" (aCons (mVar 0) (aCons (mVar 1) aNil))) aNil)))) cNil) cNil) (cSeq (cAsg (mCall "_law_draw" (aCons (mVar 0) (aCons (mBlt lenX (rCons (mVar 1) rNil)) aNil))) (gN 4)) (cSeq (cAsg (mTwo addD (mTwo addD (mVar 4) (mCon (.int 1))) (mCall "_law_draw" (aCons (mVar 0) (aCons (mTwo subD (mBlt lenX (rCons (mVar 1) rNil)) (mCon (.int 1))) aNil)))) (gN 5)) (cSeq (cRet (mTup (aCons (mCon (.str "either")) (aCons (mTwo atX (mVar 1) (mVar 4)) (aCons (mTwo atX (mVar 1) (mTwo modD (mBlt intD (rCons (mVar 5) rNil)) (mBlt lenX (rCons (mVar 1) rNil)))) aNil))))) cNil))))))
theorem t_law_end : (turn (pd.cc false (mkN (topS 33)) (defScope (topS 33))) (defBody (topS 33))).map (·.m) = some m_law_end := by kernel_rfl
def f_law_end : MFn := ⟨["_law_pool_here", "_law_blocks", "_law_words", "_law_kind", "_law_at", "_law_far"], 3, m_law_end⟩
theorem n_law_end : mkN (topS 33) = (["_law_pool_here", "_law_blocks", "_law_words", "_law_kind", "_law_at", "_law_far"] : List Str) := by decide +kernel
def m_law_source : C := (cSeq (cAsg (mCall "_law_names" (aCons (mVar 0) (aCons (mTwo addD (mCon (.int 1)) (mCall "_law_draw" (aCons (mVar 0) (aCons (mVar 1) aNil)))) aNil))) (gN 2)) (cSeq (cAsg (mCall "_law_names" (aCons (mVar 0) (aCons (mTwo addD (mCon (.int 2)) (mCall "_law_draw" (aCons (mVar 0) (aCons (mCon (.int 2)) aNil)))) aNil))) (gN 3)) (cSeq (cMul (rCons (mCall "_law_names" (aCons (mVar 0) (aCons (mCon (.int 2)) aNil))) (rCons (mLst aNil) rNil)) [(gN 4), (gN 5)]) (cSeq (cFor (iAny (mVar 2)) (gN 6) (cSeq (cAsg (mBlt tupleOfD (rCons (mLc (iRg1 (rCons (mCall "_law_draw" (aCons (mVar 0) (aCons (mCon (.int 4)) aNil))) rNil)) (gN 9) bYes (mCall "_law_row" (aCons (mVar 0) (aCons (mVar 3) (aCons (mVar 4) aNil)))) [9]) rNil)) (gN 7)) (cSeq (cApp (mVar 5) (mTup (aCons (mVar 6) (aCons (mVar 7) (aCons (mCall "_law_end" (aCons (mVar 0) (aCons (mVar 2) (aCons (mVar 3) aNil)))) aNil))))) cNil))) (cSeq (cAsg (mCall "_law_draw" (aCons (mVar 0) (aCons (mTwo addD (mBlt lenX (rCons (mVar 3) rNil)) (mCon (.int 1))) aNil))) (gN 8)) (cSeq (cRet (mDisp [((mCon (.str "blocks")), (mVar 5)), ((mCon (.str "inputs")), (mSl (mVar 3) pNone (pSome (mVar 8)))), ((mCon (.str "words")), (mVar 3)), ((mCon (.str "ops")), (mVar 4))])) cNil))))))
theorem t_law_source : (turn (pd.cc false (mkN (topS 34)) (defScope (topS 34))) (defBody (topS 34))).map (·.m) = some m_law_source := by kernel_rfl
def f_law_source : MFn := ⟨["_law_pool_here", "_law_most", "_law_blocks", "_law_words", "_law_ops", "_law_rows", "_law_block", "_law_some", "_law_many", "_law_turn"], 2, m_law_source⟩
theorem n_law_source : mkN (topS 34) = (["_law_pool_here", "_law_most", "_law_blocks", "_law_words", "_law_ops", "_law_rows", "_law_block", "_law_some", "_law_many", "_law_turn"] : List Str) := by decide +kernel
def m_law_told : C := (cSeq (cTry exs (cSeq (cExpr (mNew "Source" (aCons (mVar 0) (aCons (mVar 1) aNil)))) cNil) [("BadBlock", (some 2), (mLst (aCons (mCon (.str "block")) (aCons (mOne (fldD flds "index") (mVar 2)) (aCons (mOne (isxD isx "ShownError") (mVar 2)) (aCons (mOne (isxD isx "ValueError") (mVar 2)) aNil)))))), ("BadInput", (some 2), (mLst (aCons (mCon (.str "input")) (aCons (mOne (fldD flds "index") (mVar 2)) (aCons (mOne (isxD isx "ShownError") (mVar 2)) (aCons (mOne (isxD isx "ValueError") (mVar 2)) aNil)))))), ("TooMany", (some 2), (mLst (aCons (mCon (.str "many")) (aCons (mOne (fldD flds "limit") (mVar 2)) (aCons (mOne (isxD isx "ShownError") (mVar 2)) (aCons (mOne (isxD isx "OverflowError") (mVar 2)) aNil)))))), ("UnknownBlock", (some 2), (mLst (aCons (mCon (.str "unknown")) (aCons (mOne (fldD flds "block") (mVar 2)) (aCons (mOne (isxD isx "ShownError") (mVar 2)) (aCons (mOne (isxD isx "KeyError") (mVar 2)) aNil))))))]) (cSeq (cRet (mLst aNil)) cNil))
theorem t_law_told : (turn (pd.cc false (mkN (topS 35)) (defScope (topS 35))) (defBody (topS 35))).map (·.m) = some m_law_told := by kernel_rfl
def f_law_told : MFn := ⟨["_law_blocks", "_law_inputs", "e"], 2, m_law_told⟩
theorem n_law_told : mkN (topS 35) = (["_law_blocks", "_law_inputs", "e"] : List Str) := by decide +kernel
def m_law_bad : C := (cSeq (cAsg (mVar 0) (gT 3 (gsCons (gN 1) (gsCons (gN 2) (gsCons (gN 3) gsNil))))) (cSeq (cAsg (mTwo mulX (mTup (aCons (mTup (aCons (mCon (.str "copy")) (aCons (mCon (.str "a")) (aCons (mCon (.str "a")) aNil)))) aNil)) (mCon (.int 7))) (gN 4)) (cSeq (cAsg (mLst (aCons (mCon .non) (aCons (mSl (mVar 0) pNone (pSome (mCon (.int 2)))) (aCons (mTwo addD (mVar 0) (mTup (aCons (mCon (.int 1)) aNil))) (aCons (mLst (aCons (mVar 1) (aCons (mVar 2) (aCons (mVar 3) aNil)))) (aCons (mTup (aCons (mCon (.str "")) (aCons (mVar 2) (aCons (mVar 3) aNil)))) (aCons (mTup (aCons (mCon (.str "A")) (aCons (mVar 2) (aCons (mVar 3) aNil)))) aNil))))))) (gN 5)) (cSeq (cAsg (mTwo addD (mVar 5) (mLst (aCons (mTup (aCons (mVar 1) (aCons (mBlt listOfD (rCons (mVar 2) rNil)) (aCons (mVar 3) aNil)))) (aCons (mTup (aCons (mVar 1) (aCons (mTwo addD (mVar 2) (mTup (aCons (mTup (aCons (mCon (.str "copy")) (aCons (mCon (.str "a")) aNil))) aNil))) (aCons (mVar 3) aNil)))) (aCons (mTup (aCons (mVar 1) (aCons (mVar 4) (aCons (mVar 3) aNil)))) aNil))))) (gN 5)) (cSeq (cAsg (mTwo addD (mVar 5) (mLst (aCons (mTup (aCons (mVar 1) (aCons (mVar 2) (aCons (mTup (aCons (mCon (.str "go")) aNil)) aNil)))) (aCons (mTup (aCons (mVar 1) (aCons (mVar 2) (aCons (mCon .non) aNil)))) (aCons (mTup (aCons (mVar 1) (aCons (mVar 2) (aCons (mTup (aCons (mCon (.str "either")) (aCons (mVar 1) (aCons (mVar 1) aNil)))) aNil)))) aNil))))) (gN 5)) (cSeq (cRet (mTwo addD (mVar 5) (mLst (aCons (mTup (aCons (mVar 1) (aCons (mVar 2) (aCons (mTup (aCons (mCon (.str "return")) (aCons (mCon (.str "")) aNil))) aNil)))) (aCons (mTup (aCons (mVar 1) (aCons (mTup (aCons (mCon .non) aNil)) (aCons (mVar 3) aNil)))) aNil))))) cNil))))))
theorem t_law_bad : (turn (pd.cc false (mkN (topS 36)) (defScope (topS 36))) (defBody (topS 36))).map (·.m) = some m_law_bad := by kernel_rfl
def f_law_bad : MFn := ⟨["_law_row_here", "_law_name", "_law_rows", "_law_end_here", "_law_seven", "_law_found"], 1, m_law_bad⟩
theorem n_law_bad : mkN (topS 36) = (["_law_row_here", "_law_name", "_law_rows", "_law_end_here", "_law_seven", "_law_found"] : List Str) := by decide +kernel
def m_law : C := (cSeq (cFor (iRg1 (rCons (mBlt maxD (rCons (mCon (.int 1)) (rCons (mBlt minD (rCons (mBlt lenX (rCons (mVar 0) rNil)) (rCons (mCon (.int 6)) rNil))) rNil))) rNil)) (gN 1) (cSeq (cAsg (mCell (mCall "_law_pool" (aCons (mVar 0) (aCons (mVar 1) aNil)))) (gN 2)) (cSeq (cAsg (mCall "_law_source" (aCons (mVar 2) (aCons (mCon (.int 6)) aNil))) (gN 3)) (cSeq (cMul (rCons (mTwo atX (mVar 3) (mCon (.str "blocks"))) (rCons (mBlt listOfD (rCons (mTwo atX (mVar 3) (mCon (.str "inputs"))) rNil)) rNil)) [(gN 4), (gN 5)]) (cSeq (cAsg (mCall "_law_draw" (aCons (mVar 2) (aCons (mBlt lenX (rCons (mVar 4) rNil)) aNil))) (gN 6)) (cSeq (cAsg (mTwo atX (mVar 4) (mVar 6)) (gT 3 (gsCons (gN 7) (gsCons (gN 8) (gsCons (gN 9) gsNil))))) (cSeq (cAsg (mTwo addD (mVar 5) (mLst (aCons (mCon .non) aNil))) (gN 10)) (cSeq (cIf (bOr (bCmp (mTwo neD (mCall "_law_told" (aCons (mVar 4) (aCons (mVar 5) aNil))) (mLst aNil))) (bCmp (mTwo neD (mCall "_law_told" (aCons (mBlt tupleOfD (rCons (mVar 4) rNil)) (aCons (mBlt tupleOfD (rCons (mVar 5) rNil)) aNil))) (mLst aNil)))) (cSeq (cRet (mCon (.bl false))) cNil) cNil) (cSeq (cAsg (mTwo addD (mTwo addD (mSl (mVar 4) pNone (pSome (mVar 6))) (mLst (aCons (mCall "_law_pick" (aCons (mVar 2) (aCons (mCall "_law_bad" (aCons (mTwo atX (mVar 4) (mVar 6)) aNil)) aNil))) aNil))) (mSl (mVar 4) (pSome (mTwo addD (mVar 6) (mCon (.int 1)))) pNone)) (gN 11)) (cSeq (cFor (iAny (mLst (aCons (mVar 11) (aCons (mTwo addD (mVar 11) (mLst (aCons (mCon .non) (aCons (mCon .non) aNil)))) aNil)))) (gN 12) (cSeq (cIf (bCmp (mTwo neD (mCall "_law_told" (aCons (mVar 12) (aCons (mVar 10) aNil))) (mLst (aCons (mCon (.str "block")) (aCons (mVar 6) (aCons (mCon (.bl true)) (aCons (mCon (.bl true)) aNil))))))) (cSeq (cRet (mCon (.bl false))) cNil) cNil) cNil)) (cSeq (cIf (bCmp (mTwo neD (mCall "_law_told" (aCons (mTwo addD (mVar 4) (mLst (aCons (mTwo atX (mVar 4) (mVar 6)) aNil))) (aCons (mVar 10) aNil))) (mLst (aCons (mCon (.str "block")) (aCons (mBlt lenX (rCons (mVar 4) rNil)) (aCons (mCon (.bl true)) (aCons (mCon (.bl true)) aNil))))))) (cSeq (cRet (mCon (.bl false))) cNil) cNil) (cSeq (cAsg (mTwo addD (mTwo addD (mSl (mVar 4) pNone (pSome (mVar 6))) (mLst (aCons (mTup (aCons (mVar 7) (aCons (mVar 8) (aCons (mTup (aCons (mCon (.str "go")) (aCons (mCon (.str "zzzzz")) aNil))) aNil)))) aNil))) (mSl (mVar 4) (pSome (mTwo addD (mVar 6) (mCon (.int 1)))) pNone)) (gN 13)) (cSeq (cIf (bCmp (mTwo neD (mCall "_law_told" (aCons (mVar 13) (aCons (mVar 10) aNil))) (mLst (aCons (mCon (.str "unknown")) (aCons (mCon (.str "zzzzz")) (aCons (mCon (.bl false)) (aCons (mCon (.bl true)) aNil))))))) (cSeq (cRet (mCon (.bl false))) cNil) cNil) (cSeq (cAsg (mLc (iRg1 (rCons (mCon (.int 9)) rNil)) (gN 18) bYes (mTup (aCons (mTwo addD (mCon (.str "b")) (mTwo atX (mCon (.str "abcdefghi")) (mVar 18))) (aCons (mTup aNil) (aCons (mTup (aCons (mCon (.str "go")) (aCons (mCon (.str "zzzzz")) aNil))) aNil)))) [18]) (gN 14)) (cSeq (cIf (bOr (bCmp (mTwo neD (mCall "_law_told" (aCons (mVar 14) (aCons (mVar 10) aNil))) (mLst (aCons (mCon (.str "many")) (aCons (mCon (.int 8)) (aCons (mCon (.bl false)) (aCons (mCon (.bl true)) aNil))))))) (bCmp (mTwo neD (mCall "_law_told" (aCons (mLst aNil) (aCons (mVar 10) aNil))) (mLst (aCons (mCon (.str "block")) (aCons (mCon .non) (aCons (mCon (.bl true)) (aCons (mCon (.bl true)) aNil)))))))) (cSeq (cRet (mCon (.bl false))) cNil) cNil) (cSeq (cAsg (mLc (iRg1 (rCons (mCon (.int 7)) rNil)) (gN 18) bYes (mTwo addD (mCon (.str "i")) (mTwo atX (mCon (.str "abcdefg")) (mVar 18))) [18]) (gN 15)) (cSeq (cIf (bOr (bCmp (mTwo neD (mCall "_law_told" (aCons (mVar 4) (aCons (mVar 15) aNil))) (mLst (aCons (mCon (.str "many")) (aCons (mCon (.int 6)) (aCons (mCon (.bl false)) (aCons (mCon (.bl true)) aNil))))))) (bCmp (mTwo neD (mCall "_law_told" (aCons (mVar 4) (aCons (mSl (mVar 15) pNone (pSome (mCon (.int 6)))) aNil))) (mLst aNil)))) (cSeq (cRet (mCon (.bl false))) cNil) cNil) (cSeq (cAsg (mCall "_law_draw" (aCons (mVar 2) (aCons (mTwo addD (mBlt lenX (rCons (mVar 5) rNil)) (mCon (.int 1))) aNil))) (gN 16)) (cSeq (cFor (iAny (mTwo addD (mLst (aCons (mCon .non) (aCons (mCon (.str "")) (aCons (mCon (.str "A")) (aCons (mCon (.int 1)) (aCons (mCon (.str "abcdefghi")) aNil)))))) (mSl (mSl (mVar 5) pNone (pSome (mVar 16))) pNone (pSome (mCon (.int 1)))))) (gN 17) (cSeq (cIf (bCmp (mTwo neD (mCall "_law_told" (aCons (mVar 4) (aCons (mTwo addD (mTwo addD (mTwo addD (mSl (mVar 5) pNone (pSome (mVar 16))) (mLst (aCons (mVar 17) aNil))) (mSl (mVar 5) (pSome (mVar 16)) pNone)) (mLst (aCons (mCon .non) aNil))) aNil))) (mLst (aCons (mCon (.str "input")) (aCons (mVar 16) (aCons (mCon (.bl true)) (aCons (mCon (.bl true)) aNil))))))) (cSeq (cRet (mCon (.bl false))) cNil) cNil) cNil)) (cSeq (cFor (iAny (mLst (aCons (mCon .non) (aCons (mCon (.int 5)) (aCons (mCon (.str "ab")) (aCons mDic0 aNil)))))) (gN 17) (cSeq (cIf (bCmp (mTwo neD (mCall "_law_told" (aCons (mVar 17) (aCons (mVar 10) aNil))) (mLst (aCons (mCon (.str "block")) (aCons (mCon .non) (aCons (mCon (.bl true)) (aCons (mCon (.bl true)) aNil))))))) (cSeq (cRet (mCon (.bl false))) cNil) cNil) (cSeq (cIf (bCmp (mTwo neD (mCall "_law_told" (aCons (mVar 4) (aCons (mVar 17) aNil))) (mLst (aCons (mCon (.str "input")) (aCons (mCon .non) (aCons (mCon (.bl true)) (aCons (mCon (.bl true)) aNil))))))) (cSeq (cRet (mCon (.bl false))) cNil) cNil) cNil))) cNil)))))))))))))))))))) (cSeq (cRet (mCon (.bl true))) cNil))
theorem t_law : (turn (pd.cc false (mkN (topS 37)) (defScope (topS 37))) (defBody (topS 37))).map (·.m) = some m_law := by kernel_rfl
def f_law : MFn := ⟨["_law_script", "_law_k", "_law_pool_here", "_law_s", "_law_blocks", "_law_inputs", "_law_at", "_law_name", "_law_rows", "_law_end_here", "_law_odd", "_law_bad_here", "_law_some", "_law_lost", "_law_many", "_law_seven", "_law_place", "_law_one", "_law_n"], 1, m_law⟩
theorem n_law : mkN (topS 37) = (["_law_script", "_law_k", "_law_pool_here", "_law_s", "_law_blocks", "_law_inputs", "_law_at", "_law_name", "_law_rows", "_law_end_here", "_law_odd", "_law_bad_here", "_law_some", "_law_lost", "_law_many", "_law_seven", "_law_place", "_law_one", "_law_n"] : List Str) := by decide +kernel
def m_Source_init : C := (cSeq (cFld flds (mCall "checked_blocks" (aCons (mVar 1) aNil)) (mVar 0) "own_blocks") (cSeq (cFld flds (mCall "checked_inputs" (aCons (mVar 2) aNil)) (mVar 0) "inputs") cNil))
theorem t_Source_init : (turn (pd.cc false (mkN (inS 26 0)) (defScope (inS 26 0))) (defBody (inS 26 0))).map (·.m) = some m_Source_init := by kernel_rfl
def f_Source_init : MFn := ⟨["self", "blocks", "inputs"], 3, m_Source_init⟩
theorem n_Source_init : mkN (inS 26 0) = (["self", "blocks", "inputs"] : List Str) := by decide +kernel
def tabL : List (Str × MFn) := [("is_name", f_is_name), ("are_names", f_are_names), ("has_kind", f_has_kind), ("is_row", f_is_row), ("is_end", f_is_end), ("is_block", f_is_block), ("next_blocks", f_next_blocks), ("checked_blocks", f_checked_blocks), ("checked_inputs", f_checked_inputs), ("_law_pool", f_law_pool), ("_law_draw", f_law_draw), ("_law_pick", f_law_pick), ("_law_names", f_law_names), ("_law_row", f_law_row), ("_law_end", f_law_end), ("_law_source", f_law_source), ("_law_told", f_law_told), ("_law_bad", f_law_bad), ("law", f_law), ("Source.__init__", f_Source_init)]
def tab (x : Str) : Option MFn := tabL.lookup x
theorem u_is_name : tab "is_name" = some f_is_name := by kernel_rfl
theorem u_are_names : tab "are_names" = some f_are_names := by kernel_rfl
theorem u_has_kind : tab "has_kind" = some f_has_kind := by kernel_rfl
theorem u_is_row : tab "is_row" = some f_is_row := by kernel_rfl
theorem u_is_end : tab "is_end" = some f_is_end := by kernel_rfl
theorem u_is_block : tab "is_block" = some f_is_block := by kernel_rfl
theorem u_next_blocks : tab "next_blocks" = some f_next_blocks := by kernel_rfl
theorem u_checked_blocks : tab "checked_blocks" = some f_checked_blocks := by kernel_rfl
theorem u_checked_inputs : tab "checked_inputs" = some f_checked_inputs := by kernel_rfl
theorem u_law_pool : tab "_law_pool" = some f_law_pool := by kernel_rfl
theorem u_law_draw : tab "_law_draw" = some f_law_draw := by kernel_rfl
theorem u_law_pick : tab "_law_pick" = some f_law_pick := by kernel_rfl
theorem u_law_names : tab "_law_names" = some f_law_names := by kernel_rfl
theorem u_law_row : tab "_law_row" = some f_law_row := by kernel_rfl
theorem u_law_end : tab "_law_end" = some f_law_end := by kernel_rfl
theorem u_law_source : tab "_law_source" = some f_law_source := by kernel_rfl
theorem u_law_told : tab "_law_told" = some f_law_told := by kernel_rfl
theorem u_law_bad : tab "_law_bad" = some f_law_bad := by kernel_rfl
theorem u_law : tab "law" = some f_law := by kernel_rfl
theorem u_Source_init : tab "Source.__init__" = some f_Source_init := by kernel_rfl
end K03

set_option Elab.async false
set_option linter.all false
set_option maxRecDepth 100000
set_option maxHeartbeats 8000000
/-! k03: what is told of a source -/
namespace K03
open PySem PySem.Spec PyProof.Rows L2 Mi Vs
theorem srcs : Srcs tab := ⟨⟨u_is_name, u_are_names, u_has_kind, u_is_row, u_is_end⟩, u_is_block, u_next_blocks, u_checked_blocks, u_checked_inputs⟩
theorem gens : Gens tab := ⟨⟨addI_D, ⟨_, rfl, u_law_pool⟩, ⟨_, rfl, u_law_draw⟩, ⟨_, rfl, u_law_pick⟩⟩, u_law_names, u_law_row, u_law_end, u_law_source⟩
/-- what the first argument of Source comes to -/
def ArgB (d : D) (c : Ck) : Prop := (∃ bs, itemsD d = some bs ∧ isScr d = false ∧ (∀ b ∈ bs, okB b = true) ∧ bs.length ≤ 100000 ∧ c = ckBlocks bs) ∨ (isiT ["list", "tuple"] d = some (.fz (.bl false)) ∧ nl d = true ∧ c = .exc "BadBlock" .non)
/-- the second -/
def ArgI (d : D) (c : Ck) : Prop := (∃ t is, d = seqD t is ∧ (∀ b ∈ is, okD b = true) ∧ c = ckInputs is) ∨ (isiT ["list", "tuple"] d = some (.fz (.bl false)) ∧ nl d = true ∧ c = .exc "BadInput" .non)
def both : Ck → Ck → Ck
  | .ok, c => c
  | e, _ => e
theorem cB (k : Nat) {d : D} {c : Ck} (h : ArgB d c) (hp : List O) : ∃ x, callN tab (k + 5) "checked_blocks" [d] hp = ckRes (.fz x) hp c := by
  rcases h with ⟨bs, h1, h2, h3, h4, rfl⟩ | ⟨h1, h2, rfl⟩
  · exact ⟨_, c_checked_blocks srcs k d bs hp h1 h2 h3 h4⟩
  · exact ⟨.non, c_checked_blocks_no srcs (k + 4) d hp h1 h2⟩
theorem cI (k : Nat) {d : D} {c : Ck} (h : ArgI d c) (hp : List O) : ∃ x, callN tab (k + 2) "checked_inputs" [d] hp = ckRes (.fz x) hp c := by
  rcases h with ⟨t, is, rfl, h1, rfl⟩ | ⟨h1, h2, rfl⟩
  · exact ⟨_, c_checked_inputs srcs k t is hp h1⟩
  · exact ⟨.non, c_checked_inputs_no srcs (k + 1) d hp h1 h2⟩
theorem last_at {h : List O} {x : O} : (h ++ [x])[h.length]? = some x := by simp
theorem last_set {h : List O} {x y : O} : (h ++ [x]).set h.length y = h ++ [y] := by simp
theorem f1 : decide ((("Source" : Str), ("own_blocks" : Str)) ∈ flds ∧ (0 : Nat) < 900) = true := by decide +kernel
theorem f2 : decide ((("Source" : Str), ("inputs" : Str)) ∈ flds ∧ (1 : Nat) < 900) = true := by decide +kernel
theorem p1 {d : D} : putL "own_blocks" d [] [] = ((["own_blocks"] : List Str), [d]) := rfl
theorem p2 {d e : D} : putL "inputs" d ["own_blocks"] [e] = ((["own_blocks", "inputs"] : List Str), [e, d]) := by
  have : ("inputs" : Str) ∉ (["own_blocks"] : List Str) := by decide +kernel
  simp only [putL, this, if_false, List.cons_append, List.nil_append]
theorem c_init (k : Nat) {b i : D} {cb ci : Ck} (hb : ArgB b cb) (hi : ArgI i ci) (h : List O) : ∃ o, callN tab (k + 6) "Source.__init__" [.loc h.length, b, i] (h ++ [.ins "Source" [] []]) = ckRes (.fz .non) (h ++ [o]) (both cb ci) := by
  rw [call_at u_Source_init [some (.fz (.loc h.length)), some (.fz b), some (.fz i)] rfl rfl]
  obtain ⟨x, ex⟩ := cB k hb (h ++ [.ins "Source" [] []])
  cases cb with
  | exc c d =>
    simp only [ckRes] at ex
    refine ⟨.ins "Source" [] [], ?_⟩
    simp_arith [f_Source_init, m_Source_init, ex, both, ckRes]
  | ok =>
    simp only [ckRes] at ex
    obtain ⟨y, ey⟩ := cI (k + 3) hi (h ++ [.ins "Source" ["own_blocks"] [x]])
    cases ci with
    | exc c d =>
      simp only [ckRes] at ey
      refine ⟨.ins "Source" ["own_blocks"] [x], ?_⟩
      simp_arith [f_Source_init, m_Source_init, ex, last_at, last_set, f1, p1, ey, both, ckRes]
    | ok =>
      simp only [ckRes] at ey
      refine ⟨.ins "Source" ["own_blocks", "inputs"] [x, y], ?_⟩
      simp_arith [f_Source_init, m_Source_init, ex, last_at, last_set, f1, f2, p1, p2, ey, both, ckRes]
/-! ### what is told -/
def toldL : Ck → List D
  | .ok => []
  | .exc c d => if c = "BadBlock" then [.str "block", d, .bl true, .bl true] else if c = "BadInput" then [.str "input", d, .bl true, .bl true] else if c = "TooMany" then [.str "many", d, .bl false, .bl true] else [.str "unknown", d, .bl false, .bl true]
inductive CkOk : Ck → Prop
  | ok : CkOk .ok
  | exc {c : Str} {d : D} : (c = "BadBlock" ∨ c = "BadInput" ∨ c = "TooMany" ∨ c = "UnknownBlock") → cleanD d = true → nl d = true → CkOk (.exc c d)
theorem mk1 : mkey "Source" "__init__" = "Source.__init__" := by kernel_rfl
theorem x1 : List.lookup ("BadBlock" : Str) exs = some ("index" : Str) := by kernel_rfl
theorem x2 : List.lookup ("BadInput" : Str) exs = some ("index" : Str) := by kernel_rfl
theorem x3 : List.lookup ("TooMany" : Str) exs = some ("limit" : Str) := by kernel_rfl
theorem x4 : List.lookup ("UnknownBlock" : Str) exs = some ("block" : Str) := by kernel_rfl
theorem i1 {f : Str} {d : D} : isxD isx "ShownError" (.xn "BadBlock" f d) = some (.fz (.bl true)) := by kernel_rfl
theorem i2 {f : Str} {d : D} : isxD isx "ValueError" (.xn "BadBlock" f d) = some (.fz (.bl true)) := by kernel_rfl
theorem i3 {f : Str} {d : D} : isxD isx "ShownError" (.xn "BadInput" f d) = some (.fz (.bl true)) := by kernel_rfl
theorem i4 {f : Str} {d : D} : isxD isx "ValueError" (.xn "BadInput" f d) = some (.fz (.bl true)) := by kernel_rfl
theorem i5 {f : Str} {d : D} : isxD isx "ShownError" (.xn "TooMany" f d) = some (.fz (.bl false)) := by kernel_rfl
theorem i6 {f : Str} {d : D} : isxD isx "OverflowError" (.xn "TooMany" f d) = some (.fz (.bl true)) := by kernel_rfl
theorem i7 {f : Str} {d : D} : isxD isx "ShownError" (.xn "UnknownBlock" f d) = some (.fz (.bl false)) := by kernel_rfl
theorem i8 {f : Str} {d : D} : isxD isx "KeyError" (.xn "UnknownBlock" f d) = some (.fz (.bl true)) := by kernel_rfl
theorem told_ok (k : Nat) {b i : D} {cb ci : Ck} (hb : ArgB b cb) (hi : ArgI i ci) (hc : CkOk (both cb ci)) (h : List O) : ∃ o, callN tab (k + 7) "_law_told" [b, i] h = .ok (.lst (toldL (both cb ci))) (h ++ [o]) := by
  rw [call_at u_law_told [some (.fz b), some (.fz i), none] rfl rfl]
  obtain ⟨o, e⟩ := c_init k hb hi h
  refine ⟨o, ?_⟩
  generalize both cb ci = c at *
  cases hc with
  | ok =>
    simp only [ckRes] at e
    simp_arith [f_law_told, m_law_told, mk1, e, toldL]
  | @exc c d hc hcl hnl =>
    simp only [ckRes] at e
    have n1 : ("BadInput" : Str) ≠ "BadBlock" := by decide +kernel
    have n2 : ("TooMany" : Str) ≠ "BadBlock" := by decide +kernel
    have n3 : ("TooMany" : Str) ≠ "BadInput" := by decide +kernel
    have n4 : ("UnknownBlock" : Str) ≠ "BadBlock" := by decide +kernel
    have n5 : ("UnknownBlock" : Str) ≠ "BadInput" := by decide +kernel
    have n6 : ("UnknownBlock" : Str) ≠ "TooMany" := by decide +kernel
    rcases hc with rfl | rfl | rfl | rfl
    · simp_arith [f_law_told, m_law_told, mk1, e, toldL, if_true, x1, i1, i2, hcl, x_d_nl hnl]
    · simp_arith [f_law_told, m_law_told, mk1, e, toldL, n1, if_true, if_false, x2, i3, i4, hcl, x_d_nl hnl]
    · simp_arith [f_law_told, m_law_told, mk1, e, toldL, n2, n3, if_true, if_false, x3, i5, i6, hcl, x_d_nl hnl]
    · simp_arith [f_law_told, m_law_told, mk1, e, toldL, n4, n5, n6, if_true, if_false, x4, i7, i8, hcl, x_d_nl hnl]
end K03

set_option Elab.async false
set_option linter.all false
set_option maxRecDepth 100000
set_option maxHeartbeats 8000000
/-! k03: blocks of wrong form, strange blocks -/
namespace K03
open PySem PySem.Spec PyProof.Rows L2 Mi Vs
abbrev cp7 : List D := List.replicate 7 (.tup [.str "copy", .str "a", .str "a"])
def bads (b : Str) (rs : List D) (e : D) : List D := [.non, .tup [.str b, .tup rs], .tup [.str b, .tup rs, e, .int 1], .lst [.str b, .tup rs, e], .tup [.str "", .tup rs, e], .tup [.str "A", .tup rs, e],
  .tup [.str b, .lst rs, e], .tup [.str b, .tup (rs ++ [.tup [.str "copy", .str "a"]]), e], .tup [.str b, .tup cp7, e],
  .tup [.str b, .tup rs, .tup [.str "go"]], .tup [.str b, .tup rs, .non], .tup [.str b, .tup rs, .tup [.str "either", .str b, .str b]],
  .tup [.str b, .tup rs, .tup [.str "return", .str ""]], .tup [.str b, .tup [.non], e]]
theorem mul7 : mulT (.tup [.tup [.str "copy", .str "a", .str "a"]]) (.int 7) = some (.fz (.tup cp7)) := by
  simp [mulT, cp7, List.replicate]
theorem addTT {a b : List D} (h : a.length + b.length ≤ 100000) : addD (.tup a) (.tup b) = some (.fz (.tup (a ++ b))) := by
  simp only [addD, fits_le h, if_true]
theorem cut2 {a b c : D} : Mi.cutD [a, b, c] none (some 2) = [a, b] := rfl
theorem bad_ok (k : Nat) (b : Str) (rs : List D) (e : D) (he : nl e = true) (hr : rs.length ≤ 3) (h : List O) : callN tab (k + 1) "_law_bad" [.tup [.str b, .tup rs, e]] h = .ok (.lst (bads b rs e)) h := by
  rw [call_at u_law_bad [some (.fz (.tup [.str b, .tup rs, e])), none, none, none, none, none] rfl rfl]
  have t1 : addD (.tup [.str b, .tup rs, e]) (.tup [.int 1]) = some (.fz (.tup [.str b, .tup rs, e, .int 1])) := addTT (by simp)
  have t2 : addD (.tup rs) (.tup [.tup [.str "copy", .str "a"]]) = some (.fz (.tup (rs ++ [.tup [.str "copy", .str "a"]]))) := addTT (by simp; omega)
  have a1 : ∀ a b c d e f g i j : D, addD (.lst [a, b, c, d, e, f]) (.lst [g, i, j]) = some (.lst [a, b, c, d, e, f, g, i, j]) := fun _ _ _ _ _ _ _ _ _ => addLL (by simp)
  have a2 : ∀ a b c d e f g i j k l m : D, addD (.lst [a, b, c, d, e, f, g, i, j]) (.lst [k, l, m]) = some (.lst [a, b, c, d, e, f, g, i, j, k, l, m]) := fun _ _ _ _ _ _ _ _ _ _ _ _ => addLL (by simp)
  have a3 : ∀ a b c d e f g i j k l m n o : D, addD (.lst [a, b, c, d, e, f, g, i, j, k, l, m]) (.lst [n, o]) = some (.lst [a, b, c, d, e, f, g, i, j, k, l, m, n, o]) := fun _ _ _ _ _ _ _ _ _ _ _ _ _ _ => addLL (by simp)
  simp_arith [f_law_bad, m_law_bad, mul7, cut2, t1, t2, a1, a2, a3, x_d_nl he, bads]
theorem bads_ok {b : Str} {rs : List D} {e : D} (hw : Word b) (hr : okRs (.tup rs) = true) (hrl : rs.length ≤ 3) (he : okU e = true) : ∀ d ∈ bads b rs e, okB d = true ∧ isBlock d = false ∧ nl d = true := by
  have a := hw.is
  have o1 : okD (.str b) = true := a.2.1
  have oL : okRs (.lst rs) = true := rfl
  simp only [okRs, Bool.and_eq_true, List.all_eq_true] at hr
  have o2 : okRs (.tup rs) = true := by simp only [okRs, Bool.and_eq_true, List.all_eq_true]; exact hr
  have o3 : okRs (.tup (rs ++ [.tup [.str "copy", .str "a"]])) = true := by
    simp only [okRs, Bool.and_eq_true, List.all_eq_true, List.length_append, List.length_cons, List.length_nil]
    refine ⟨fits_le (by omega), fun x hx => ?_⟩
    rcases List.mem_append.mp hx with z | z
    · exact hr.2 x z
    · simp only [List.mem_singleton] at z; subst z; decide +kernel
  have n1 : isName (.str "") = false := by decide +kernel
  have n2 : isName (.str "A") = false := by decide +kernel
  have e1 : isEnd (.tup [.str "go"]) = false := rfl
  have e2 : isEnd (.tup [.str "return", .str ""]) = false := by decide +kernel
  have e3 : isEnd (.tup [.str "either", .str b, .str b]) = false := by simp [isEnd, first]
  intro d hd
  simp only [bads, List.mem_cons, List.not_mem_nil, or_false] at hd
  rcases hd with rfl | rfl | rfl | rfl | rfl | rfl | rfl | rfl | rfl | rfl | rfl | rfl | rfl | rfl
  · exact ⟨rfl, rfl, rfl⟩
  · exact ⟨rfl, by simp [isBlock], rfl⟩
  · exact ⟨rfl, by simp [isBlock], rfl⟩
  · exact ⟨rfl, rfl, rfl⟩
  · exact ⟨by simp only [okB, o2, he, Bool.and_true]; decide +kernel, by simp [isBlock, n1], rfl⟩
  · exact ⟨by simp only [okB, o2, he, Bool.and_true]; decide +kernel, by simp [isBlock, n2], rfl⟩
  · exact ⟨by simp only [okB, o1, oL, he, Bool.and_true], by simp [isBlock], rfl⟩
  · exact ⟨by simp only [okB, o1, o3, he, Bool.and_true], by simp [isBlock, isRow], rfl⟩
  · exact ⟨by simp only [okB, o1, he, Bool.true_and, Bool.and_true]; decide +kernel, by simp [isBlock], rfl⟩
  · exact ⟨by simp only [okB, o1, o2, Bool.true_and]; decide +kernel, by simp [isBlock, e1], rfl⟩
  · exact ⟨by simp only [okB, o1, o2, Bool.true_and]; decide +kernel, by simp [isBlock, isEnd], rfl⟩
  · exact ⟨by simp only [okB, o1, o2, okU, okT, List.all_cons, List.all_nil, Bool.true_and, Bool.and_true, List.length_cons, List.length_nil]; decide +kernel, by simp [isBlock, e3], rfl⟩
  · exact ⟨by simp only [okB, o1, o2, Bool.true_and]; decide +kernel, by simp [isBlock, e2], rfl⟩
  · exact ⟨by simp only [okB, o1, he, Bool.true_and, Bool.and_true]; decide +kernel, by simp [isBlock, isRow], rfl⟩
/-! ### what the arguments come to -/
section
variable {bs ws ops : List Str} {rows A B : List D} {b : Str} {rs : List D} {e : D}
theorem ck_bad (S : Src 6 bs ws ops rows) (hs : rows = A ++ .tup [.str b, .tup rs, e] :: B) {d : D} (hd : isBlock d = false) (rest : List D) : ckBlocks (A ++ d :: rest) = .exc "BadBlock" (.int A.length) := by
  obtain ⟨h1, h2, h3, h4, h5⟩ := src_blocks S
  rw [hs] at h4
  have := firstBad_at (rest := rest) (firstBad_pre h4) (bad := d) (by rw [hd]; rfl)
  simp only [ckBlocks, this, List.length_nil, Nat.zero_add]
theorem ck_twice (S : Src 6 bs ws ops rows) (hs : rows = A ++ .tup [.str b, .tup rs, e] :: B) : ckBlocks (rows ++ [.tup [.str b, .tup rs, e]]) = .exc "BadBlock" (.int rows.length) := by
  obtain ⟨h1, h2, h3, h4, h5⟩ := src_blocks S
  have hh : had rows (.tup [.str b, .tup rs, e]) = true := by
    simp only [had, List.any_eq_true, decide_eq_true_eq]
    exact ⟨_, by rw [hs]; simp, rfl⟩
  have := firstBad_at (rest := []) h4 (bad := .tup [.str b, .tup rs, e]) (by rw [List.nil_append, hh]; simp)
  simp only [ckBlocks, this, List.length_nil, Nat.zero_add]
abbrev goZ : D := .tup [.str "go", .str "zzzzz"]
theorem ck_lost (S : Src 6 bs ws ops rows) (hs : rows = A ++ .tup [.str b, .tup rs, e] :: B) : ckBlocks (A ++ .tup [.str b, .tup rs, goZ] :: B) = .exc "UnknownBlock" (.str "zzzzz") ∧ okB (.tup [.str b, .tup rs, goZ]) = true := by
  obtain ⟨h1, h2, h3, h4, h5⟩ := src_blocks S
  obtain ⟨b', rs', e', e1, hb, hB⟩ := S.rows.all.1 (.tup [.str b, .tup rs, e]) (by rw [hs]; simp)
  cases e1
  have hI := hB.is S.bw S.ww S.ow hb
  have ze : isEnd goZ = true := by decide +kernel
  have hz : isBlock (.tup [.str b, .tup rs, goZ]) = true := by
    have f : rs.length ≤ 6 := by have := hB.few; omega
    simp [isBlock, (S.bw _ hb).is.1, f, hI.2.2.2.2, ze]
  have hok : okB (.tup [.str b, .tup rs, goZ]) = true := by
    have := (S.bw _ hb).is.2.1
    simp only [okB, this, hI.2.2.1, Bool.true_and]
    decide +kernel
  have hst : (A ++ .tup [.str b, .tup rs, goZ] :: B).map Vs.strOf = bs := by
    rw [← h3, hs]; simp [Vs.strOf]
  have hall : ∀ d ∈ A ++ .tup [.str b, .tup rs, goZ] :: B, isBlock d = true := fun d hd => by
    rcases List.mem_append.mp hd with z | z
    · exact h1 d (by rw [hs]; simp [z])
    · rcases List.mem_cons.mp z with rfl | z
      · exact hz
      · exact h1 d (by rw [hs]; simp [z])
  have hf : firstBad [] (A ++ .tup [.str b, .tup rs, goZ] :: B) = none := firstBad_none hall (by rw [List.nil_append, hst]; exact S.bd)
  have hl : (A ++ .tup [.str b, .tup rs, goZ] :: B).length = bs.length := by rw [← hst, List.length_map]
  have b0 := S.b0
  have b1 := S.b1
  have hk : ∀ x ∈ bs, isIn ((A ++ .tup [.str b, .tup rs, goZ] :: B).map keyOf) (.str x) = true := fun x hx => isIn_keys.mpr (by rw [hst]; exact hx)
  have hn : isIn ((A ++ .tup [.str b, .tup rs, goZ] :: B).map keyOf) (.str "zzzzz") = false := by
    rw [Bool.eq_false_iff]
    intro hc
    have := isIn_keys.mp hc
    rw [hst] at this
    exact (S.bw _ this).is.2.2.2 rfl
  have hA : (A.flatMap blockNexts).find? (fun d => !isIn ((A ++ .tup [.str b, .tup rs, goZ] :: B).map keyOf) d) = none := by
    simp only [List.find?_eq_none, List.mem_flatMap, Bool.not_eq_true', Bool.not_eq_false]
    rintro y ⟨d, hd, hy⟩
    exact nextsIn S hk (by rw [hs]; simp [hd]) y hy
  have hN : blockNexts (.tup [.str b, .tup rs, goZ]) = [.str "zzzzz"] := by
    have n1 : ("go" : Str) ≠ "return" := by decide +kernel
    simp only [blockNexts, pairOf, pairNexts, nexts, n1, if_false]
  have hfd : ((A ++ .tup [.str b, .tup rs, goZ] :: B).flatMap blockNexts).find? (fun d => !isIn ((A ++ .tup [.str b, .tup rs, goZ] :: B).map keyOf) d) = some (.str "zzzzz") := by
    rw [List.flatMap_append, List.find?_append, hA, Option.none_or, List.flatMap_cons, hN, List.cons_append, List.find?_cons, hn]
    rfl
  refine ⟨?_, hok⟩
  simp only [ckBlocks, hf, show ¬ 8 < (A ++ .tup [.str b, .tup rs, goZ] :: B).length by omega, show ¬ (A ++ .tup [.str b, .tup rs, goZ] :: B).length = 0 by omega, if_false, hfd]
end
end K03

set_option Elab.async false
set_option linter.all false
set_option maxRecDepth 100000
set_option maxHeartbeats 8000000
/-! k03: the law's turn, statement by statement -/
namespace K03
open PySem PySem.Spec PyProof.Rows L2 Mi Vs
def b_0 : C := (cAsg (mCell (mCall "_law_pool" (aCons (mVar 0) (aCons (mVar 1) aNil)))) (gN 2))
def b_1 : C := (cAsg (mCall "_law_source" (aCons (mVar 2) (aCons (mCon (.int 6)) aNil))) (gN 3))
def b_2 : C := (cMul (rCons (mTwo atX (mVar 3) (mCon (.str "blocks"))) (rCons (mBlt listOfD (rCons (mTwo atX (mVar 3) (mCon (.str "inputs"))) rNil)) rNil)) [(gN 4), (gN 5)])
def b_3 : C := (cAsg (mCall "_law_draw" (aCons (mVar 2) (aCons (mBlt lenX (rCons (mVar 4) rNil)) aNil))) (gN 6))
def b_4 : C := (cAsg (mTwo atX (mVar 4) (mVar 6)) (gT 3 (gsCons (gN 7) (gsCons (gN 8) (gsCons (gN 9) gsNil)))))
def b_5 : C := (cAsg (mTwo addD (mVar 5) (mLst (aCons (mCon .non) aNil))) (gN 10))
def b_6 : C := (cIf (bOr (bCmp (mTwo neD (mCall "_law_told" (aCons (mVar 4) (aCons (mVar 5) aNil))) (mLst aNil))) (bCmp (mTwo neD (mCall "_law_told" (aCons (mBlt tupleOfD (rCons (mVar 4) rNil)) (aCons (mBlt tupleOfD (rCons (mVar 5) rNil)) aNil))) (mLst aNil)))) (cSeq (cRet (mCon (.bl false))) cNil) cNil)
def b_7 : C := (cAsg (mTwo addD (mTwo addD (mSl (mVar 4) pNone (pSome (mVar 6))) (mLst (aCons (mCall "_law_pick" (aCons (mVar 2) (aCons (mCall "_law_bad" (aCons (mTwo atX (mVar 4) (mVar 6)) aNil)) aNil))) aNil))) (mSl (mVar 4) (pSome (mTwo addD (mVar 6) (mCon (.int 1)))) pNone)) (gN 11))
def bb_8 : C := (cSeq (cIf (bCmp (mTwo neD (mCall "_law_told" (aCons (mVar 12) (aCons (mVar 10) aNil))) (mLst (aCons (mCon (.str "block")) (aCons (mVar 6) (aCons (mCon (.bl true)) (aCons (mCon (.bl true)) aNil))))))) (cSeq (cRet (mCon (.bl false))) cNil) cNil) cNil)
def b_8 : C := (cFor (iAny (mLst (aCons (mVar 11) (aCons (mTwo addD (mVar 11) (mLst (aCons (mCon .non) (aCons (mCon .non) aNil)))) aNil)))) (gN 12) bb_8)
def b_9 : C := (cIf (bCmp (mTwo neD (mCall "_law_told" (aCons (mTwo addD (mVar 4) (mLst (aCons (mTwo atX (mVar 4) (mVar 6)) aNil))) (aCons (mVar 10) aNil))) (mLst (aCons (mCon (.str "block")) (aCons (mBlt lenX (rCons (mVar 4) rNil)) (aCons (mCon (.bl true)) (aCons (mCon (.bl true)) aNil))))))) (cSeq (cRet (mCon (.bl false))) cNil) cNil)
def b_10 : C := (cAsg (mTwo addD (mTwo addD (mSl (mVar 4) pNone (pSome (mVar 6))) (mLst (aCons (mTup (aCons (mVar 7) (aCons (mVar 8) (aCons (mTup (aCons (mCon (.str "go")) (aCons (mCon (.str "zzzzz")) aNil))) aNil)))) aNil))) (mSl (mVar 4) (pSome (mTwo addD (mVar 6) (mCon (.int 1)))) pNone)) (gN 13))
def b_11 : C := (cIf (bCmp (mTwo neD (mCall "_law_told" (aCons (mVar 13) (aCons (mVar 10) aNil))) (mLst (aCons (mCon (.str "unknown")) (aCons (mCon (.str "zzzzz")) (aCons (mCon (.bl false)) (aCons (mCon (.bl true)) aNil))))))) (cSeq (cRet (mCon (.bl false))) cNil) cNil)
def b_12 : C := (cAsg (mLc (iRg1 (rCons (mCon (.int 9)) rNil)) (gN 18) bYes (mTup (aCons (mTwo addD (mCon (.str "b")) (mTwo atX (mCon (.str "abcdefghi")) (mVar 18))) (aCons (mTup aNil) (aCons (mTup (aCons (mCon (.str "go")) (aCons (mCon (.str "zzzzz")) aNil))) aNil)))) [18]) (gN 14))
def b_13 : C := (cIf (bOr (bCmp (mTwo neD (mCall "_law_told" (aCons (mVar 14) (aCons (mVar 10) aNil))) (mLst (aCons (mCon (.str "many")) (aCons (mCon (.int 8)) (aCons (mCon (.bl false)) (aCons (mCon (.bl true)) aNil))))))) (bCmp (mTwo neD (mCall "_law_told" (aCons (mLst aNil) (aCons (mVar 10) aNil))) (mLst (aCons (mCon (.str "block")) (aCons (mCon .non) (aCons (mCon (.bl true)) (aCons (mCon (.bl true)) aNil)))))))) (cSeq (cRet (mCon (.bl false))) cNil) cNil)
def b_14 : C := (cAsg (mLc (iRg1 (rCons (mCon (.int 7)) rNil)) (gN 18) bYes (mTwo addD (mCon (.str "i")) (mTwo atX (mCon (.str "abcdefg")) (mVar 18))) [18]) (gN 15))
def b_15 : C := (cIf (bOr (bCmp (mTwo neD (mCall "_law_told" (aCons (mVar 4) (aCons (mVar 15) aNil))) (mLst (aCons (mCon (.str "many")) (aCons (mCon (.int 6)) (aCons (mCon (.bl false)) (aCons (mCon (.bl true)) aNil))))))) (bCmp (mTwo neD (mCall "_law_told" (aCons (mVar 4) (aCons (mSl (mVar 15) pNone (pSome (mCon (.int 6)))) aNil))) (mLst aNil)))) (cSeq (cRet (mCon (.bl false))) cNil) cNil)
def b_16 : C := (cAsg (mCall "_law_draw" (aCons (mVar 2) (aCons (mTwo addD (mBlt lenX (rCons (mVar 5) rNil)) (mCon (.int 1))) aNil))) (gN 16))
def bb_17 : C := (cSeq (cIf (bCmp (mTwo neD (mCall "_law_told" (aCons (mVar 4) (aCons (mTwo addD (mTwo addD (mTwo addD (mSl (mVar 5) pNone (pSome (mVar 16))) (mLst (aCons (mVar 17) aNil))) (mSl (mVar 5) (pSome (mVar 16)) pNone)) (mLst (aCons (mCon .non) aNil))) aNil))) (mLst (aCons (mCon (.str "input")) (aCons (mVar 16) (aCons (mCon (.bl true)) (aCons (mCon (.bl true)) aNil))))))) (cSeq (cRet (mCon (.bl false))) cNil) cNil) cNil)
def b_17 : C := (cFor (iAny (mTwo addD (mLst (aCons (mCon .non) (aCons (mCon (.str "")) (aCons (mCon (.str "A")) (aCons (mCon (.int 1)) (aCons (mCon (.str "abcdefghi")) aNil)))))) (mSl (mSl (mVar 5) pNone (pSome (mVar 16))) pNone (pSome (mCon (.int 1)))))) (gN 17) bb_17)
def bb_18 : C := (cSeq (cIf (bCmp (mTwo neD (mCall "_law_told" (aCons (mVar 17) (aCons (mVar 10) aNil))) (mLst (aCons (mCon (.str "block")) (aCons (mCon .non) (aCons (mCon (.bl true)) (aCons (mCon (.bl true)) aNil))))))) (cSeq (cRet (mCon (.bl false))) cNil) cNil) (cSeq (cIf (bCmp (mTwo neD (mCall "_law_told" (aCons (mVar 4) (aCons (mVar 17) aNil))) (mLst (aCons (mCon (.str "input")) (aCons (mCon .non) (aCons (mCon (.bl true)) (aCons (mCon (.bl true)) aNil))))))) (cSeq (cRet (mCon (.bl false))) cNil) cNil) cNil))
def b_18 : C := (cFor (iAny (mLst (aCons (mCon .non) (aCons (mCon (.int 5)) (aCons (mCon (.str "ab")) (aCons mDic0 aNil)))))) (gN 17) bb_18)
def m_body : C := (cSeq b_0 (cSeq b_1 (cSeq b_2 (cSeq b_3 (cSeq b_4 (cSeq b_5 (cSeq b_6 (cSeq b_7 (cSeq b_8 (cSeq b_9 (cSeq b_10 (cSeq b_11 (cSeq b_12 (cSeq b_13 (cSeq b_14 (cSeq b_15 (cSeq b_16 (cSeq b_17 (cSeq b_18 cNil)))))))))))))))))))
/-! ### what is told, by kinds -/
section
variable {b i : D} {ci : Ck} {d : D}
theorem told_blk (k : Nat) (hb : ArgB b (.exc "BadBlock" d)) (hi : ArgI i ci) (h1 : cleanD d = true) (h2 : nl d = true) (h : List O) : ∃ o, callN tab (k + 7) "_law_told" [b, i] h = .ok (.lst [.str "block", d, .bl true, .bl true]) (h ++ [o]) :=
  told_ok k hb hi (.exc (.inl rfl) h1 h2) h
theorem told_unk (k : Nat) (hb : ArgB b (.exc "UnknownBlock" d)) (hi : ArgI i ci) (h1 : cleanD d = true) (h2 : nl d = true) (h : List O) : ∃ o, callN tab (k + 7) "_law_told" [b, i] h = .ok (.lst [.str "unknown", d, .bl false, .bl true]) (h ++ [o]) := by
  have := told_ok k hb hi (.exc (.inr (.inr (.inr rfl))) h1 h2) h
  have n4 : ("UnknownBlock" : Str) ≠ "BadBlock" := by decide +kernel
  have n5 : ("UnknownBlock" : Str) ≠ "BadInput" := by decide +kernel
  have n6 : ("UnknownBlock" : Str) ≠ "TooMany" := by decide +kernel
  simpa only [both, toldL, n4, n5, n6, if_false] using this
theorem told_mnyB (k : Nat) (hb : ArgB b (.exc "TooMany" d)) (hi : ArgI i ci) (h1 : cleanD d = true) (h2 : nl d = true) (h : List O) : ∃ o, callN tab (k + 7) "_law_told" [b, i] h = .ok (.lst [.str "many", d, .bl false, .bl true]) (h ++ [o]) := by
  have := told_ok k hb hi (.exc (.inr (.inr (.inl rfl))) h1 h2) h
  have n2 : ("TooMany" : Str) ≠ "BadBlock" := by decide +kernel
  have n3 : ("TooMany" : Str) ≠ "BadInput" := by decide +kernel
  simpa only [both, toldL, n2, n3, if_false, if_true] using this
theorem told_mnyI (k : Nat) (hb : ArgB b .ok) (hi : ArgI i (.exc "TooMany" d)) (h1 : cleanD d = true) (h2 : nl d = true) (h : List O) : ∃ o, callN tab (k + 7) "_law_told" [b, i] h = .ok (.lst [.str "many", d, .bl false, .bl true]) (h ++ [o]) := by
  have := told_ok k hb hi (.exc (.inr (.inr (.inl rfl))) h1 h2) h
  have n2 : ("TooMany" : Str) ≠ "BadBlock" := by decide +kernel
  have n3 : ("TooMany" : Str) ≠ "BadInput" := by decide +kernel
  simpa only [both, toldL, n2, n3, if_false, if_true] using this
theorem told_inp (k : Nat) (hb : ArgB b .ok) (hi : ArgI i (.exc "BadInput" d)) (h1 : cleanD d = true) (h2 : nl d = true) (h : List O) : ∃ o, callN tab (k + 7) "_law_told" [b, i] h = .ok (.lst [.str "input", d, .bl true, .bl true]) (h ++ [o]) := by
  have := told_ok k hb hi (.exc (.inr (.inl rfl)) h1 h2) h
  have n1 : ("BadInput" : Str) ≠ "BadBlock" := by decide +kernel
  simpa only [both, toldL, n1, if_false, if_true] using this
theorem told_nil (k : Nat) (hb : ArgB b .ok) (hi : ArgI i .ok) (h : List O) : ∃ o, callN tab (k + 7) "_law_told" [b, i] h = .ok (.lst []) (h ++ [o]) := told_ok k hb hi .ok h
end
theorem ne0 : neD (.lst []) (.lst []) = some (.fz (.bl false)) := by kernel_rfl
theorem ne4 {s : Str} {d : D} {p : PyData} {x y : Bool} (hs : PyData.strOk s = true) (hp : toP d = some p) (hc : PyData.canLay0 p = true) (hd : PyData.depth p ≤ 5) (he : PyData.eqv p p = true) : neD (.lst [.str s, d, .bl x, .bl y]) (.lst [.str s, d, .bl x, .bl y]) = some (.fz (.bl false)) := by
  have h1 : SeqAt.shaped (.list [.str s, p, .bool x, .bool y]) = true := by
    simp only [SeqAt.shaped, PyData.canLay0, PyData.canLayAll0, hs, hc, Bool.and_self, Bool.true_and, decide_eq_true_eq]
    have : PyData.depth (.list [.str s, p, .bool x, .bool y]) ≤ 20 := by
      simp [PyData.depth, PyData.depthAll]
      omega
    omega
  simp only [neD, eqB, toP, toPs, hp, Option.map_some, Option.bind_some, h1, Bool.and_self, if_true, PyData.eqv, PyData.eqvAll, he, beq_self_eq_true, Bool.not_true]
theorem ne4i {s : Str} {i : Int} {x y : Bool} (hs : PyData.strOk s = true) : neD (.lst [.str s, .int i, .bl x, .bl y]) (.lst [.str s, .int i, .bl x, .bl y]) = some (.fz (.bl false)) := ne4 (p := .int i) hs rfl rfl (by simp [PyData.depth]) (by simp [PyData.eqv])
theorem ne4n {s : Str} {x y : Bool} (hs : PyData.strOk s = true) : neD (.lst [.str s, .non, .bl x, .bl y]) (.lst [.str s, .non, .bl x, .bl y]) = some (.fz (.bl false)) := ne4 (p := .none) hs rfl rfl (by simp [PyData.depth]) (by simp [PyData.eqv])
theorem ne4s {s z : Str} {x y : Bool} (hs : PyData.strOk s = true) (hz : PyData.strOk z = true) : neD (.lst [.str s, .str z, .bl x, .bl y]) (.lst [.str s, .str z, .bl x, .bl y]) = some (.fz (.bl false)) := ne4 (p := .str z) hs rfl (by simp only [PyData.canLay0, hz]) (by simp [PyData.depth]) (by simp [PyData.eqv])
theorem kBlock : PyData.strOk "block" = true := by decide +kernel
theorem kInput : PyData.strOk "input" = true := by decide +kernel
theorem kMany : PyData.strOk "many" = true := by decide +kernel
theorem kUnk : PyData.strOk "unknown" = true := by decide +kernel
theorem kZ : PyData.strOk "zzzzz" = true := by decide +kernel
theorem PoolAt.app {h : List O} {n : Nat} {o : O} (p : PoolAt h n) : PoolAt (h ++ [o]) n := by
  obtain ⟨a, b, e, r⟩ := p
  refine ⟨a, b, ?_, r⟩
  have hl : n < h.length := by
    rcases Nat.lt_or_ge n h.length with z | z
    · exact z
    · rw [List.getElem?_eq_none z] at e; cases e
  rw [List.getElem?_append_left hl]; exact e
/-! ### fixed lists -/
def many9 : List D := (["ba", "bb", "bc", "bd", "be", "bf", "bg", "bh", "bi"] : List Str).map fun x : Str => .tup [.str x, .tup [], goZ]
def seven7 : List Str := ["ia", "ib", "ic", "id", "ie", "if", "ig"]
theorem many_ck : ckBlocks many9 = .exc "TooMany" (.int 8) ∧ ∀ b ∈ many9, okB b = true := by
  have h1 : firstBad [] many9 = none := by decide +kernel
  have h2 : many9.all okB = true := by decide +kernel
  refine ⟨?_, List.all_eq_true.mp h2⟩
  simp only [ckBlocks, h1]
  rw [if_pos (by decide)]
theorem empty_ck : ckBlocks [] = .exc "BadBlock" .non := rfl
theorem seven_ck : ckInputs (seven7.map D.str) = .exc "TooMany" (.int 6) ∧ ckInputs ((seven7.take 6).map D.str) = .ok ∧ (∀ d ∈ seven7.map D.str, okD d = true) := by
  have h1 : firstBadI [] (seven7.map D.str) = none := by decide +kernel
  have h2 : firstBadI [] ((seven7.take 6).map D.str) = none := by decide +kernel
  have h3 : (seven7.map D.str).all okD = true := by decide +kernel
  refine ⟨?_, ?_, List.all_eq_true.mp h3⟩
  · simp only [ckInputs, h1]; rw [if_pos (by decide)]
  · simp only [ckInputs, h2]; rw [if_neg (by decide)]
end K03

set_option Elab.async false
set_option linter.all false
set_option maxRecDepth 100000
set_option maxHeartbeats 8000000
/-! k03: the statements of the law's turn -/
namespace K03
open PySem PySem.Spec PyProof.Rows L2 Mi Vs
/-- what is drawn in a turn -/
structure Cx3 (bs ws ops : List Str) (rows ins A B : List D) (b : Str) (rs : List D) (e : D) : Prop where
  S : Src 6 bs ws ops rows
  hs : rows = A ++ .tup [.str b, .tup rs, e] :: B
  hi : ∃ us : List Str, ins = us.map D.str ∧ us.Nodup ∧ (∀ w ∈ us, Word w) ∧ us.length ≤ 3
section
variable {bs ws ops : List Str} {rows ins A B : List D} {b : Str} {rs : List D} {e : D}
theorem Cx3.len (c : Cx3 bs ws ops rows ins A B b rs e) : rows.length ≤ 6 ∧ 0 < rows.length ∧ ins.length ≤ 3 ∧ A.length + B.length < 6 := by
  have h := src_blocks c.S
  have b0 := c.S.b0
  have b1 := c.S.b1
  have h5 := h.2.2.2.2
  obtain ⟨us, h1, _, _, h2⟩ := c.hi
  have hl := congrArg List.length c.hs
  simp only [List.length_append, List.length_cons] at hl
  refine ⟨by omega, by omega, by rw [h1, List.length_map]; exact h2, by omega⟩
theorem Cx3.blk (c : Cx3 bs ws ops rows ins A B b rs e) : b ∈ bs ∧ Word b ∧ Blk bs ws ops b rs e ∧ okRs (.tup rs) = true ∧ okU e = true := by
  obtain ⟨b', rs', e', e1, hb, hB⟩ := c.S.rows.all.1 (.tup [.str b, .tup rs, e]) (by rw [c.hs]; simp)
  cases e1
  have hI := hB.is c.S.bw c.S.ww c.S.ow hb
  exact ⟨hb, c.S.bw _ hb, hB, hI.2.2.1, hI.2.2.2.1⟩
theorem Cx3.okB (c : Cx3 bs ws ops rows ins A B b rs e) : ∀ d ∈ rows, Vs.okB d = true := (src_blocks c.S).2.1
theorem Cx3.nlE (c : Cx3 bs ws ops rows ins A B b rs e) : nl e = true := by
  have := c.blk.2.2.1.fin
  cases this <;> rfl
theorem Cx3.argB (c : Cx3 bs ws ops rows ins A B b rs e) : ArgB (.lst rows) .ok ∧ ArgB (.tup rows) .ok := by
  have h := c.len
  exact ⟨.inl ⟨rows, rfl, rfl, c.okB, by omega, (ck_ok c.S (by omega)).symm⟩, .inl ⟨rows, rfl, rfl, c.okB, by omega, (ck_ok c.S (by omega)).symm⟩⟩
theorem Cx3.insD (c : Cx3 bs ws ops rows ins A B b rs e) : ∀ d ∈ ins, okD d = true := by
  obtain ⟨us, rfl, h1, h2, h3⟩ := c.hi
  intro d hd
  obtain ⟨w, hw, rfl⟩ := List.mem_map.mp hd
  exact (h2 w hw).is.2.1
theorem Cx3.argI (c : Cx3 bs ws ops rows ins A B b rs e) : ArgI (.lst ins) .ok ∧ ArgI (.tup ins) .ok := by
  have hD := c.insD
  obtain ⟨us, rfl, h1, h2, h3⟩ := c.hi
  have := ckI_ok (fun w hw => (h2 w hw).is.1) h1 (by omega)
  exact ⟨.inl ⟨false, _, rfl, hD, this.symm⟩, .inl ⟨true, _, rfl, hD, this.symm⟩⟩
theorem Cx3.argO (c : Cx3 bs ws ops rows ins A B b rs e) : ArgI (.lst (ins ++ [.non])) (ckInputs (ins ++ [.non])) :=
  .inl ⟨false, _, rfl, fun d hd => by
    rcases List.mem_append.mp hd with z | z
    · exact c.insD d z
    · simp only [List.mem_singleton] at z; subst z; rfl, rfl⟩
abbrev T18 : Call := callN tab 18
variable {c0 c1 c2 x3 x4 x5 x6 x7 x8 x9 x10 x11 x12 x13 x14 x15 x16 x17 x18 : Option O} {h : List O} {n : Nat}
theorem s5 (c : Cx3 bs ws ops rows ins A B b rs e) : b_5 T18 ⟨[c0, c1, c2, x3, x4, some (.lst ins), x6, x7, x8, x9, x10, x11, x12, x13, x14, x15, x16, x17, x18], h⟩ = .nx ⟨[c0, c1, c2, x3, x4, some (.lst ins), x6, x7, x8, x9, some (.lst (ins ++ [.non])), x11, x12, x13, x14, x15, x16, x17, x18], h⟩ := by
  have ad := addLL (a := ins) (b := [.non]) (by have := c.len; simp; omega)
  simp_arith [b_5, ad]
theorem s6 (c : Cx3 bs ws ops rows ins A B b rs e) : ∃ o o', b_6 T18 ⟨[c0, c1, c2, x3, some (.fz (.lst rows)), some (.lst ins), x6, x7, x8, x9, x10, x11, x12, x13, x14, x15, x16, x17, x18], h⟩ = .nx ⟨[c0, c1, c2, x3, some (.fz (.lst rows)), some (.fz (.lst ins)), x6, x7, x8, x9, x10, x11, x12, x13, x14, x15, x16, x17, x18], h ++ [o] ++ [o']⟩ := by
  obtain ⟨o, t1⟩ := told_nil 11 c.argB.1 c.argI.1 h
  obtain ⟨o', t2⟩ := told_nil 11 c.argB.2 c.argI.2 (h ++ [o])
  have t1' : callN tab 18 "_law_told" [.lst rows, .lst ins] h = _ := t1
  have t2' : callN tab 18 "_law_told" [.tup rows, .tup ins] (h ++ [o]) = _ := t2
  refine ⟨o, o', ?_⟩
  simp_arith [b_6, T18, t1', t2', ne0]
theorem s7 (c : Cx3 bs ws ops rows ins A B b rs e) (hp : PoolAt h n) : ∃ d h', b_7 T18 ⟨[c0, c1, some (.fz (.loc n)), x3, some (.fz (.lst rows)), x5, some (.fz (.int A.length)), x7, x8, x9, x10, x11, x12, x13, x14, x15, x16, x17, x18], h⟩ = .nx ⟨[c0, c1, some (.fz (.loc n)), x3, some (.fz (.lst rows)), x5, some (.fz (.int A.length)), x7, x8, x9, x10, some (.lst (A ++ d :: B)), x12, x13, x14, x15, x16, x17, x18], h'⟩ ∧ PoolAt h' n ∧ Vs.okB d = true ∧ isBlock d = false := by
  have l := c.len
  have k := c.blk
  obtain ⟨d, h', e1, hd, pt⟩ := pick_ok gens.toDraws 16 hp (.lst (bads b rs e)) _ rfl (by simp [bads]) (by simp [bads])
  have e1' : callN tab 18 "_law_pick" [.loc n, .lst (bads b rs e)] h = _ := e1
  have e2 : callN tab 18 "_law_bad" [.tup [.str b, .tup rs, e]] h = _ := bad_ok 17 b rs e c.nlE k.2.2.1.few h
  obtain ⟨o1, o2, o3⟩ := bads_ok k.2.1 k.2.2.2.1 k.2.2.1.few k.2.2.2.2 d hd
  have g1 : Mi.cutD rows none (some (A.length : Int)) = A := by rw [c.hs]; exact cut_pre
  have g2 : Mi.cutD rows (some ((A.length : Int) + 1)) none = B := by rw [c.hs]; exact cut_post
  have g3 : atI rows (A.length : Int) = some (.tup [.str b, .tup rs, e]) := by rw [c.hs]; exact at_mid
  have ad1 := addLL (a := A) (b := [d]) (by simp; omega)
  have ad2 := addLL (a := A ++ [d]) (b := B) (by simp; omega)
  rw [List.append_assoc, List.singleton_append] at ad2
  refine ⟨d, h', ?_, pt.at, o1, o2⟩
  simp_arith [b_7, T18, g1, g2, g3, e2, e1', ad1, ad2]
theorem s8 (c : Cx3 bs ws ops rows ins A B b rs e) {d : D} (hd : Vs.okB d = true) (hn : isBlock d = false) (hp : PoolAt h n) (h10 : Ls (ins ++ [.non]) x10) :
    ∃ y11 y12 y10 h', b_8 T18 ⟨[c0, c1, c2, x3, x4, x5, some (.fz (.int A.length)), x7, x8, x9, x10, some (.lst (A ++ d :: B)), x12, x13, x14, x15, x16, x17, x18], h⟩ = .nx ⟨[c0, c1, c2, x3, x4, x5, some (.fz (.int A.length)), x7, x8, x9, y10, y11, y12, x13, x14, x15, x16, x17, x18], h'⟩ ∧ PoolAt h' n ∧ Ls (ins ++ [.non]) y10 := by
  have l := c.len
  have ad := addLL (a := A ++ d :: B) (b := [.non, .non]) (by simp; omega)
  have hA : ∀ x ∈ A, Vs.okB x = true := fun x hx => c.okB x (by rw [c.hs]; simp [hx])
  have hB : ∀ x ∈ B, Vs.okB x = true := fun x hx => c.okB x (by rw [c.hs]; simp [hx])
  have arg : ∀ rest : List D, (∀ x ∈ rest, Vs.okB x = true) → rest.length ≤ 100 → ArgB (.lst (A ++ d :: rest)) (.exc "BadBlock" (.int A.length)) := fun rest hr hl => .inl ⟨_, rfl, rfl, fun x hx => by
    rcases List.mem_append.mp hx with z | z
    · exact hA x z
    · rcases List.mem_cons.mp z with rfl | z
      · exact hd
      · exact hr x z, by simp; omega, (ck_bad c.S c.hs hn rest).symm⟩
  have hB2 : ∀ x ∈ B ++ [.non, .non], Vs.okB x = true := fun x hx => by
    rcases List.mem_append.mp hx with z | z
    · exact hB x z
    · simp only [List.mem_cons, List.not_mem_nil, or_false, or_self] at z; subst z; rfl
  obtain ⟨s', es, ⟨y10, y12, hσ, h10', hp'⟩⟩ := forL_inv (call := T18) (g := gN 12) (body := bb_8) (fun s => ∃ y10 y12, s.σ = [c0, c1, c2, x3, x4, x5, some (.fz (.int A.length)), x7, x8, x9, y10, some (.fz (.lst (A ++ d :: B))), y12, x13, x14, x15, x16, x17, x18] ∧ Ls (ins ++ [.non]) y10 ∧ PoolAt s.h n)
    [.lst (A ++ d :: B), .lst (A ++ d :: B ++ [.non, .non])] ⟨[c0, c1, c2, x3, x4, x5, some (.fz (.int A.length)), x7, x8, x9, x10, some (.fz (.lst (A ++ d :: B))), x12, x13, x14, x15, x16, x17, x18], h⟩ ⟨_, _, rfl, h10, hp⟩ (fun q hq s hs => by
      obtain ⟨σ, hh⟩ := s
      obtain ⟨y10, y12, hσ, hy, hpp⟩ := hs
      simp only at hσ hpp
      subst hσ
      have hq' : ∃ rest, q = .lst (A ++ d :: rest) ∧ (∀ x ∈ rest, Vs.okB x = true) ∧ rest.length ≤ 100 := by
        simp only [List.mem_cons, List.not_mem_nil, or_false] at hq
        rcases hq with rfl | rfl
        · exact ⟨B, rfl, hB, by omega⟩
        · exact ⟨B ++ [.non, .non], by simp, hB2, by simp; omega⟩
      obtain ⟨rest, rfl, hr, hl⟩ := hq'
      obtain ⟨o, t⟩ := told_blk 11 (arg rest hr hl) c.argO (by simp only [cleanD]) rfl hh
      have t' : callN tab 18 "_law_told" [.lst (A ++ d :: rest), .lst (ins ++ [.non])] hh = _ := t
      refine ⟨_, rfl, ⟨[c0, c1, c2, x3, x4, x5, some (.fz (.int A.length)), x7, x8, x9, some (.fz (.lst (ins ++ [.non]))), some (.fz (.lst (A ++ d :: B))), some (.fz (.lst (A ++ d :: rest))), x13, x14, x15, x16, x17, x18], hh ++ [o]⟩, .inl ?_, _, _, rfl, .inr rfl, PoolAt.app hpp⟩
      rcases hy with rfl | rfl <;> simp_arith [bb_8, T18, t', ne4i kBlock])
  obtain ⟨σ', h'⟩ := s'
  simp only at hσ hp'
  subst hσ
  refine ⟨some (.fz (.lst (A ++ d :: B))), y12, y10, h', ?_, hp', h10'⟩
  simp_arith [b_8, ad]
  exact es
theorem s9 (c : Cx3 bs ws ops rows ins A B b rs e) (hp : PoolAt h n) (h10 : Ls (ins ++ [.non]) x10) :
    ∃ o, b_9 T18 ⟨[c0, c1, c2, x3, some (.fz (.lst rows)), x5, some (.fz (.int A.length)), x7, x8, x9, x10, x11, x12, x13, x14, x15, x16, x17, x18], h⟩ = .nx ⟨[c0, c1, c2, x3, some (.fz (.lst rows)), x5, some (.fz (.int A.length)), x7, x8, x9, some (.fz (.lst (ins ++ [.non]))), x11, x12, x13, x14, x15, x16, x17, x18], h ++ [o]⟩ := by
  have l := c.len
  have g3 : atI rows (A.length : Int) = some (.tup [.str b, .tup rs, e]) := by rw [c.hs]; exact at_mid
  have ad := addLL (a := rows) (b := [.tup [.str b, .tup rs, e]]) (by simp; omega)
  have arg : ArgB (.lst (rows ++ [.tup [.str b, .tup rs, e]])) (.exc "BadBlock" (.int rows.length)) := .inl ⟨_, rfl, rfl, fun x hx => by
    rcases List.mem_append.mp hx with z | z
    · exact c.okB x z
    · simp only [List.mem_singleton] at z; subst z; exact c.okB _ (by rw [c.hs]; simp), by simp; omega, (ck_twice c.S c.hs).symm⟩
  obtain ⟨o, t⟩ := told_blk 11 arg c.argO (by simp only [cleanD]) rfl h
  have t' : callN tab 18 "_law_told" [.lst (rows ++ [.tup [.str b, .tup rs, e]]), .lst (ins ++ [.non])] h = _ := t
  refine ⟨o, ?_⟩
  rcases h10 with rfl | rfl <;> simp_arith [b_9, T18, g3, ad, t', ne4i kBlock]
theorem s10 (c : Cx3 bs ws ops rows ins A B b rs e) : b_10 T18 ⟨[c0, c1, c2, x3, some (.fz (.lst rows)), x5, some (.fz (.int A.length)), some (.fz (.str b)), some (.fz (.tup rs)), x9, x10, x11, x12, x13, x14, x15, x16, x17, x18], h⟩ = .nx ⟨[c0, c1, c2, x3, some (.fz (.lst rows)), x5, some (.fz (.int A.length)), some (.fz (.str b)), some (.fz (.tup rs)), x9, x10, x11, x12, some (.lst (A ++ .tup [.str b, .tup rs, goZ] :: B)), x14, x15, x16, x17, x18], h⟩ := by
  have l := c.len
  have g1 : Mi.cutD rows none (some (A.length : Int)) = A := by rw [c.hs]; exact cut_pre
  have g2 : Mi.cutD rows (some ((A.length : Int) + 1)) none = B := by rw [c.hs]; exact cut_post
  have ad1 := addLL (a := A) (b := [.tup [.str b, .tup rs, goZ]]) (by simp; omega)
  have ad2 := addLL (a := A ++ [.tup [.str b, .tup rs, goZ]]) (b := B) (by simp; omega)
  rw [List.append_assoc, List.singleton_append] at ad2
  simp_arith [b_10, g1, g2, ad1, ad2]
theorem s11 (c : Cx3 bs ws ops rows ins A B b rs e) : ∃ o, b_11 T18 ⟨[c0, c1, c2, x3, x4, x5, x6, x7, x8, x9, some (.fz (.lst (ins ++ [.non]))), x11, x12, some (.lst (A ++ .tup [.str b, .tup rs, goZ] :: B)), x14, x15, x16, x17, x18], h⟩ = .nx ⟨[c0, c1, c2, x3, x4, x5, x6, x7, x8, x9, some (.fz (.lst (ins ++ [.non]))), x11, x12, some (.fz (.lst (A ++ .tup [.str b, .tup rs, goZ] :: B))), x14, x15, x16, x17, x18], h ++ [o]⟩ := by
  have l := c.len
  obtain ⟨ck, ok⟩ := ck_lost c.S c.hs
  have arg : ArgB (.lst (A ++ .tup [.str b, .tup rs, goZ] :: B)) (.exc "UnknownBlock" (.str "zzzzz")) := .inl ⟨_, rfl, rfl, fun x hx => by
    rcases List.mem_append.mp hx with z | z
    · exact c.okB x (by rw [c.hs]; simp [z])
    · rcases List.mem_cons.mp z with rfl | z
      · exact ok
      · exact c.okB x (by rw [c.hs]; simp [z]), by simp; omega, ck.symm⟩
  obtain ⟨o, t⟩ := told_unk 11 arg c.argO (by simp only [cleanD]) rfl h
  have t' : callN tab 18 "_law_told" [.lst (A ++ .tup [.str b, .tup rs, goZ] :: B), .lst (ins ++ [.non])] h = _ := t
  refine ⟨o, ?_⟩
  simp_arith [b_11, T18, t', ne4s kUnk kZ]
end
section
variable {c0 c1 c2 x3 x4 x5 x6 x7 x8 x9 x10 x11 x12 x13 x14 x15 x16 x17 : Option O} {h : List O} {n : Nat}
theorem s12 : b_12 T18 ⟨[c0, c1, c2, x3, x4, x5, x6, x7, x8, x9, x10, x11, x12, x13, x14, x15, x16, x17, none], h⟩ = .nx ⟨[c0, c1, c2, x3, x4, x5, x6, x7, x8, x9, x10, x11, x12, x13, some (.lst many9), x15, x16, x17, none], h⟩ := by
  simp_arith [b_12]
  rw [x_rgK (by decide) (by decide)]
  simp_arith [x_seq]
  rw [lcL_all (f := fun d => match d with | .int i => many9.getD i.toNat .non | _ => .non) _ (fun d hd => ?_) (by decide +kernel)]
  · rw [show (rangeD 0 (9 : Int).toNat).map (fun d => match d with | .int i => many9.getD i.toNat .non | _ => .non) = many9 from by kernel_rfl]
    simp_arith [x_seq]
  · have : ∃ i : Nat, i < 9 ∧ d = .int i := by
      rw [show (9 : Int).toNat = 9 from rfl, rangeD_eq] at hd
      obtain ⟨i, hi, rfl⟩ := List.mem_map.mp hd
      exact ⟨i, List.mem_range.mp hi, rfl⟩
    obtain ⟨i, hi, rfl⟩ := this
    refine ⟨_, rfl, ⟨.own (.fz (many9.getD i .non)), ?_, rfl⟩, rfl⟩
    have hc : ∀ i : Nat, i < 9 → ∃ y : Str, atD (.str "abcdefghi") (.int i) = some (.fz (.str y)) ∧ addD (.str "b") (.str y) = some (.fz (.str ("b" ++ y))) ∧ many9.getD i .non = .tup [.str ("b" ++ y), .tup [], goZ] := by
      intro i hi
      match i, hi with
      | 0, _ => exact ⟨"a", by kernel_rfl, by kernel_rfl, by kernel_rfl⟩
      | 1, _ => exact ⟨"b", by kernel_rfl, by kernel_rfl, by kernel_rfl⟩
      | 2, _ => exact ⟨"c", by kernel_rfl, by kernel_rfl, by kernel_rfl⟩
      | 3, _ => exact ⟨"d", by kernel_rfl, by kernel_rfl, by kernel_rfl⟩
      | 4, _ => exact ⟨"e", by kernel_rfl, by kernel_rfl, by kernel_rfl⟩
      | 5, _ => exact ⟨"f", by kernel_rfl, by kernel_rfl, by kernel_rfl⟩
      | 6, _ => exact ⟨"g", by kernel_rfl, by kernel_rfl, by kernel_rfl⟩
      | 7, _ => exact ⟨"h", by kernel_rfl, by kernel_rfl, by kernel_rfl⟩
      | 8, _ => exact ⟨"i", by kernel_rfl, by kernel_rfl, by kernel_rfl⟩
    obtain ⟨y, q1, q2, q3⟩ := hc i hi
    simp_arith [q1, q2, q3]
theorem s14 : b_14 T18 ⟨[c0, c1, c2, x3, x4, x5, x6, x7, x8, x9, x10, x11, x12, x13, x14, x15, x16, x17, none], h⟩ = .nx ⟨[c0, c1, c2, x3, x4, x5, x6, x7, x8, x9, x10, x11, x12, x13, x14, some (.lst (seven7.map D.str)), x16, x17, none], h⟩ := by
  simp_arith [b_14]
  rw [x_rgK (by decide) (by decide)]
  simp_arith [x_seq]
  rw [lcL_all (f := fun d => match d with | .int i => (seven7.map D.str).getD i.toNat .non | _ => .non) _ (fun d hd => ?_) (by decide +kernel)]
  · rw [show (rangeD 0 (7 : Int).toNat).map (fun d => match d with | .int i => (seven7.map D.str).getD i.toNat .non | _ => .non) = seven7.map D.str from by kernel_rfl]
    simp_arith [x_seq]
  · have : ∃ i : Nat, i < 7 ∧ d = .int i := by
      rw [show (7 : Int).toNat = 7 from rfl, rangeD_eq] at hd
      obtain ⟨i, hi, rfl⟩ := List.mem_map.mp hd
      exact ⟨i, List.mem_range.mp hi, rfl⟩
    obtain ⟨i, hi, rfl⟩ := this
    refine ⟨_, rfl, ⟨.own (.fz ((seven7.map D.str).getD i .non)), ?_, rfl⟩, rfl⟩
    have hc : ∀ i : Nat, i < 7 → ∃ y : Str, atD (.str "abcdefg") (.int i) = some (.fz (.str y)) ∧ addD (.str "i") (.str y) = some (.fz ((seven7.map D.str).getD i .non)) := by
      intro i hi
      match i, hi with
      | 0, _ => exact ⟨"a", by kernel_rfl, by kernel_rfl⟩
      | 1, _ => exact ⟨"b", by kernel_rfl, by kernel_rfl⟩
      | 2, _ => exact ⟨"c", by kernel_rfl, by kernel_rfl⟩
      | 3, _ => exact ⟨"d", by kernel_rfl, by kernel_rfl⟩
      | 4, _ => exact ⟨"e", by kernel_rfl, by kernel_rfl⟩
      | 5, _ => exact ⟨"f", by kernel_rfl, by kernel_rfl⟩
      | 6, _ => exact ⟨"g", by kernel_rfl, by kernel_rfl⟩
    obtain ⟨y, q1, q2⟩ := hc i hi
    simp_arith [q1, q2]
end
end K03

set_option Elab.async false
set_option linter.all false
set_option maxRecDepth 100000
set_option maxHeartbeats 8000000
/-! k03: the law's turn -/
namespace K03
open PySem PySem.Spec PyProof.Rows L2 Mi Vs
section
variable {bs ws ops : List Str} {rows ins A B : List D} {b : Str} {rs : List D} {e : D}
variable {c0 c1 c2 x3 x4 x5 x6 x7 x8 x9 x10 x11 x12 x13 x14 x15 x16 x17 x18 : Option O} {h : List O} {n : Nat}
theorem s13 (c : Cx3 bs ws ops rows ins A B b rs e) : ∃ o o', b_13 T18 ⟨[c0, c1, c2, x3, x4, x5, x6, x7, x8, x9, some (.fz (.lst (ins ++ [.non]))), x11, x12, x13, some (.lst many9), x15, x16, x17, x18], h⟩ = .nx ⟨[c0, c1, c2, x3, x4, x5, x6, x7, x8, x9, some (.fz (.lst (ins ++ [.non]))), x11, x12, x13, some (.fz (.lst many9)), x15, x16, x17, x18], h ++ [o] ++ [o']⟩ := by
  have arg1 : ArgB (.lst many9) (.exc "TooMany" (.int 8)) := .inl ⟨_, rfl, rfl, many_ck.2, by decide, many_ck.1.symm⟩
  have arg2 : ArgB (.lst []) (.exc "BadBlock" .non) := .inl ⟨_, rfl, rfl, fun x hx => (nomatch hx), by decide, rfl⟩
  obtain ⟨o, t1⟩ := told_mnyB 11 arg1 c.argO (by simp only [cleanD]) rfl h
  obtain ⟨o', t2⟩ := told_blk 11 arg2 c.argO (by simp only [cleanD]) rfl (h ++ [o])
  have t1' : callN tab 18 "_law_told" [.lst many9, .lst (ins ++ [.non])] h = _ := t1
  have t2' : callN tab 18 "_law_told" [.lst [], .lst (ins ++ [.non])] (h ++ [o]) = _ := t2
  refine ⟨o, o', ?_⟩
  simp_arith [b_13, T18, t1', t2', ne4i kMany, ne4n kBlock]
theorem s15 (c : Cx3 bs ws ops rows ins A B b rs e) : ∃ o o', b_15 T18 ⟨[c0, c1, c2, x3, some (.fz (.lst rows)), x5, x6, x7, x8, x9, x10, x11, x12, x13, x14, some (.lst (seven7.map D.str)), x16, x17, x18], h⟩ = .nx ⟨[c0, c1, c2, x3, some (.fz (.lst rows)), x5, x6, x7, x8, x9, x10, x11, x12, x13, x14, some (.fz (.lst (seven7.map D.str))), x16, x17, x18], h ++ [o] ++ [o']⟩ := by
  have arg1 : ArgI (.lst (seven7.map D.str)) (.exc "TooMany" (.int 6)) := .inl ⟨false, _, rfl, seven_ck.2.2, seven_ck.1.symm⟩
  have arg2 : ArgI (.lst ((seven7.take 6).map D.str)) .ok := .inl ⟨false, _, rfl, fun x hx => seven_ck.2.2 x (by
    obtain ⟨w, hw, rfl⟩ := List.mem_map.mp hx
    exact List.mem_map.mpr ⟨w, List.mem_of_mem_take hw, rfl⟩), seven_ck.2.1.symm⟩
  obtain ⟨o, t1⟩ := told_mnyI 11 c.argB.1 arg1 (by simp only [cleanD]) rfl h
  obtain ⟨o', t2⟩ := told_nil 11 c.argB.1 arg2 (h ++ [o])
  have t1' : callN tab 18 "_law_told" [.lst rows, .lst (seven7.map D.str)] h = _ := t1
  have t2' : callN tab 18 "_law_told" [.lst rows, .lst ((seven7.take 6).map D.str)] (h ++ [o]) = _ := t2
  have cu : Mi.cutD (seven7.map D.str) none (some 6) = (seven7.take 6).map D.str := by
    rw [cut_take (by decide), List.map_take]; rfl
  refine ⟨o, o', ?_⟩
  simp_arith [b_15, T18, t1', cu, t2', ne4i kMany, ne0]
theorem s16 (c : Cx3 bs ws ops rows ins A B b rs e) (hp : PoolAt h n) : ∃ (P Q : List D) (h' : List O), ins = P ++ Q ∧ PoolAt h' n ∧ b_16 T18 ⟨[c0, c1, some (.fz (.loc n)), x3, x4, some (.fz (.lst ins)), x6, x7, x8, x9, x10, x11, x12, x13, x14, x15, x16, x17, x18], h⟩ = .nx ⟨[c0, c1, some (.fz (.loc n)), x3, x4, some (.fz (.lst ins)), x6, x7, x8, x9, x10, x11, x12, x13, x14, x15, some (.fz (.int P.length)), x17, x18], h'⟩ := by
  have l := c.len
  obtain ⟨r, h', e1, a1, b1, p1⟩ := draw_ok gens.toDraws 17 hp (m := ins.length + 1) (by omega) (by omega)
  have e1' : callN tab 18 "_law_draw" [.loc n, .int (ins.length + 1)] h = _ := e1
  refine ⟨ins.take r.toNat, ins.drop r.toNat, h', (List.take_append_drop _ _).symm, p1.at, ?_⟩
  have hl : ((ins.take r.toNat).length : Int) = r := by rw [List.length_take]; omega
  simp_arith [b_16, T18, e1', hl]
def odd5 : List D := [.non, .str "", .str "A", .int 1, .str "abcdefghi"]
theorem odd5_ok : ∀ d ∈ odd5, isName d = false ∧ okD d = true ∧ nl d = true := by
  intro d hd
  simp only [odd5, List.mem_cons, List.not_mem_nil, or_false] at hd
  rcases hd with rfl | rfl | rfl | rfl | rfl <;> exact ⟨by decide +kernel, by decide +kernel, rfl⟩
theorem firstBadI_pre : ∀ {a b pre : List D}, firstBadI pre (a ++ b) = none → firstBadI pre a = none
  | [], b, pre, _ => rfl
  | x :: a, b, pre, h => by
    simp only [List.cons_append, firstBadI] at h ⊢
    split at h
    · rename_i hc
      rw [if_pos hc]
      exact firstBadI_pre h
    · cases h
theorem s17 (c : Cx3 bs ws ops rows ins A B b rs e) {P Q : List D} (hi : ins = P ++ Q) (hp : PoolAt h n) : ∃ y17 h', PoolAt h' n ∧ b_17 T18 ⟨[c0, c1, c2, x3, some (.fz (.lst rows)), some (.fz (.lst ins)), x6, x7, x8, x9, x10, x11, x12, x13, x14, x15, some (.fz (.int P.length)), x17, x18], h⟩ = .nx ⟨[c0, c1, c2, x3, some (.fz (.lst rows)), some (.fz (.lst ins)), x6, x7, x8, x9, x10, x11, x12, x13, x14, x15, some (.fz (.int P.length)), y17, x18], h'⟩ := by
  have l := c.len
  have hl : P.length + Q.length ≤ 3 := by have := congrArg List.length hi; simp at this; omega
  have g1 : Mi.cutD ins none (some (P.length : Int)) = P := by rw [hi]; exact cut_pre
  have g2 : Mi.cutD ins (some (P.length : Int)) none = Q := by rw [hi]; exact cut_drop
  have g3 : Mi.cutD P none (some 1) = P.take 1 := cut_take (by decide)
  have ad0 : addD (.lst odd5) (.lst (P.take 1)) = some (.lst (odd5 ++ P.take 1)) := addLL (by simp [odd5]; omega)
  have hbad : firstBadI [] ins = none ∧ ∀ d ∈ ins, ∃ w, d = .str w ∧ okD d = true := by
    obtain ⟨us, rfl, h1, h2, h3⟩ := c.hi
    have := firstBadI_none (ws := us) (pre := []) (fun w hw => (h2 w hw).is.1) (by simpa using h1)
    refine ⟨this, fun d hd => ?_⟩
    obtain ⟨w, hw, rfl⟩ := List.mem_map.mp hd
    exact ⟨w, rfl, (h2 w hw).is.2.1⟩
  have hP : firstBadI [] P = none := firstBadI_pre (b := Q) (by rw [← hi]; exact hbad.1)
  have arg : ∀ d, d ∈ odd5 ++ P.take 1 → nl d = true ∧ ArgI (.lst (P ++ d :: (Q ++ [.non]))) (.exc "BadInput" (.int P.length)) := fun d hd => by
    have hd2 : okD d = true ∧ nl d = true ∧ (isName d && !hadS P d) = false := by
      rcases List.mem_append.mp hd with z | z
      · have := odd5_ok d z
        exact ⟨this.2.1, this.2.2, by rw [this.1]; rfl⟩
      · have hm := List.mem_of_mem_take z
        obtain ⟨w, rfl, ho⟩ := hbad.2 d (by rw [hi]; simp [hm])
        refine ⟨ho, rfl, ?_⟩
        have : hadS P (.str w) = true := by
          obtain ⟨us, hu, _⟩ := c.hi
          obtain ⟨l', hl', _⟩ := strs_of (ws := us) (l := P) (fun d hd => by
            have : d ∈ us.map D.str := by rw [← hu, hi]; simp [hd]
            exact mem_str this)
          rw [hl'] at hm ⊢
          obtain ⟨v, hv, e⟩ := List.mem_map.mp hm
          cases e
          exact hadS_mem.mpr hv
        rw [this]; simp
    refine ⟨hd2.2.1, .inl ⟨false, _, rfl, fun x hx => ?_, ?_⟩⟩
    · have hin : ∀ x ∈ ins, okD x = true := c.insD
      rw [hi] at hin
      rcases List.mem_append.mp hx with z | z
      · exact hin x (by simp [z])
      · rcases List.mem_cons.mp z with rfl | z
        · exact hd2.1
        · rcases List.mem_append.mp z with z | z
          · exact hin x (by simp [z])
          · simp only [List.mem_singleton] at z; subst z; rfl
    · have := firstBadI_at (rest := Q ++ [.non]) hP (bad := d) (by rw [List.nil_append]; exact hd2.2.2)
      simp only [ckInputs, this, List.length_nil, Nat.zero_add]
  obtain ⟨s', es, ⟨y17, hσ, hp'⟩⟩ := forL_inv (call := T18) (g := gN 17) (body := bb_17) (fun s => ∃ y17, s.σ = [c0, c1, c2, x3, some (.fz (.lst rows)), some (.fz (.lst ins)), x6, x7, x8, x9, x10, x11, x12, x13, x14, x15, some (.fz (.int P.length)), y17, x18] ∧ PoolAt s.h n)
    (odd5 ++ P.take 1) ⟨[c0, c1, c2, x3, some (.fz (.lst rows)), some (.fz (.lst ins)), x6, x7, x8, x9, x10, x11, x12, x13, x14, x15, some (.fz (.int P.length)), x17, x18], h⟩ ⟨_, rfl, hp⟩ (fun q hq s hs => by
      obtain ⟨σ, hh⟩ := s
      obtain ⟨y17, hσ, hpp⟩ := hs
      simp only at hσ hpp
      subst hσ
      obtain ⟨hn, ha⟩ := arg q hq
      obtain ⟨o, t⟩ := told_inp 11 c.argB.1 ha (by simp only [cleanD]) rfl hh
      have t' : callN tab 18 "_law_told" [.lst rows, .lst (P ++ q :: (Q ++ [.non]))] hh = _ := t
      have ad1 := addLL (a := P) (b := [q]) (by simp; omega)
      have ad2 := addLL (a := P ++ [q]) (b := Q) (by simp; omega)
      have ad3 := addLL (a := P ++ [q] ++ Q) (b := [.non]) (by simp; omega)
      rw [show P ++ [q] ++ Q ++ [.non] = P ++ q :: (Q ++ [.non]) by simp] at ad3
      refine ⟨_, rfl, ⟨[c0, c1, c2, x3, some (.fz (.lst rows)), some (.fz (.lst ins)), x6, x7, x8, x9, x10, x11, x12, x13, x14, x15, some (.fz (.int P.length)), some (.fz q), x18], hh ++ [o]⟩, .inl ?_, _, rfl, PoolAt.app hpp⟩
      simp_arith [bb_17, T18, g1, g2, ad1, ad2, ad3, t', ne4i kInput])
  obtain ⟨σ', h'⟩ := s'
  simp only at hσ hp'
  subst hσ
  refine ⟨y17, h', hp', ?_⟩
  simp only [odd5] at ad0 es
  simp_arith [b_17, g1, g3, ad0]
  exact es
def odd4 : List D := [.non, .int 5, .str "ab", .dic [] []]
theorem odd4_ok : ∀ d ∈ odd4, isiT ["list", "tuple"] d = some (.fz (.bl false)) ∧ nl d = true := by
  intro d hd
  simp only [odd4, List.mem_cons, List.not_mem_nil, or_false] at hd
  rcases hd with rfl | rfl | rfl | rfl
  · exact ⟨x_iT_non, rfl⟩
  · exact ⟨x_iT_int, rfl⟩
  · exact ⟨x_iT_str, rfl⟩
  · exact ⟨x_iT_dic, rfl⟩
theorem s18 (c : Cx3 bs ws ops rows ins A B b rs e) (hp : PoolAt h n) : ∃ y17 h', PoolAt h' n ∧ b_18 T18 ⟨[c0, c1, c2, x3, some (.fz (.lst rows)), x5, x6, x7, x8, x9, some (.fz (.lst (ins ++ [.non]))), x11, x12, x13, x14, x15, x16, x17, x18], h⟩ = .nx ⟨[c0, c1, c2, x3, some (.fz (.lst rows)), x5, x6, x7, x8, x9, some (.fz (.lst (ins ++ [.non]))), x11, x12, x13, x14, x15, x16, y17, x18], h'⟩ := by
  obtain ⟨s', es, ⟨y17, hσ, hp'⟩⟩ := forL_inv (call := T18) (g := gN 17) (body := bb_18) (fun s => ∃ y17, s.σ = [c0, c1, c2, x3, some (.fz (.lst rows)), x5, x6, x7, x8, x9, some (.fz (.lst (ins ++ [.non]))), x11, x12, x13, x14, x15, x16, y17, x18] ∧ PoolAt s.h n)
    odd4 ⟨[c0, c1, c2, x3, some (.fz (.lst rows)), x5, x6, x7, x8, x9, some (.fz (.lst (ins ++ [.non]))), x11, x12, x13, x14, x15, x16, x17, x18], h⟩ ⟨_, rfl, hp⟩ (fun q hq s hs => by
      obtain ⟨σ, hh⟩ := s
      obtain ⟨y17, hσ, hpp⟩ := hs
      simp only at hσ hpp
      subst hσ
      obtain ⟨hq1, hq2⟩ := odd4_ok q hq
      obtain ⟨o, t⟩ := told_blk 11 (.inr ⟨hq1, hq2, rfl⟩) c.argO (by simp only [cleanD]) rfl hh
      obtain ⟨o', t2⟩ := told_inp 11 c.argB.1 (.inr ⟨hq1, hq2, rfl⟩) (by simp only [cleanD]) rfl (hh ++ [o])
      have t' : callN tab 18 "_law_told" [q, .lst (ins ++ [.non])] hh = _ := t
      have t2' : callN tab 18 "_law_told" [.lst rows, q] (hh ++ [o]) = _ := t2
      refine ⟨_, rfl, ⟨[c0, c1, c2, x3, some (.fz (.lst rows)), x5, x6, x7, x8, x9, some (.fz (.lst (ins ++ [.non]))), x11, x12, x13, x14, x15, x16, some (.fz q), x18], hh ++ [o] ++ [o']⟩, .inl ?_, _, rfl, PoolAt.app (PoolAt.app hpp)⟩
      simp_arith [bb_18, T18, t', t2', ne4n kBlock, ne4n kInput])
  obtain ⟨σ', h'⟩ := s'
  simp only at hσ hp'
  subst hσ
  refine ⟨y17, h', hp', ?_⟩
  simp only [odd4] at es
  simp_arith [b_18]
  exact es
end
end K03

set_option Elab.async false
set_option linter.all false
set_option maxRecDepth 100000
set_option maxHeartbeats 8000000
/-! k03: the law -/
namespace K03
open PySem PySem.Spec PyProof.Rows L2 Mi Vs
def Sl0 (ns : List Int) (s : S) : Prop := ∃ x1 x2 x3 x4 x5 x6 x7 x8 x9 x10 x11 x12 x13 x14 x15 x16 x17, s.σ = [some (.fz (.scr ns)), x1, x2, x3, x4, x5, x6, x7, x8, x9, x10, x11, x12, x13, x14, x15, x16, x17, none]
section
variable {c0 c1 c2 x2 x3 x4 x5 x6 x7 x8 x9 x10 x11 x12 x13 x14 x15 x16 x17 x18 : Option O} {h : List O} {n : Nat}
theorem s0 (ns : List Int) (i : Nat) (hi : i < 6) : ∃ h', PoolAt h' h.length ∧ b_0 T18 ⟨[some (.fz (.scr ns)), some (.fz (.int i)), x2, x3, x4, x5, x6, x7, x8, x9, x10, x11, x12, x13, x14, x15, x16, x17, x18], h⟩ = .nx ⟨[some (.fz (.scr ns)), some (.fz (.int i)), some (.fz (.loc h.length)), x3, x4, x5, x6, x7, x8, x9, x10, x11, x12, x13, x14, x15, x16, x17, x18], h'⟩ := by
  obtain ⟨a, b, e, a0, b0, b1⟩ := pool_ok gens.toDraws 17 ns (i := i) (by omega) (by omega) h
  have e' : callN tab 18 "_law_pool" [.scr ns, .int i] h = _ := e
  refine ⟨h ++ [.lst [.int a, .int b]], ⟨a, b, by simp, a0, b0, b1⟩, ?_⟩
  simp_arith [b_0, T18, e']
theorem s1 (hp : PoolAt h n) : ∃ (bs ws ops : List Str) (rows : List D) (m : Nat) (h' : List O), PoolAt h' n ∧ Src 6 bs ws ops rows ∧ b_1 T18 ⟨[c0, c1, some (.fz (.loc n)), x3, x4, x5, x6, x7, x8, x9, x10, x11, x12, x13, x14, x15, x16, x17, x18], h⟩ = .nx ⟨[c0, c1, some (.fz (.loc n)), some (.dic srcK [.lst rows, .lst ((ws.take m).map D.str), .lst (ws.map D.str), .lst (ops.map D.str)]), x4, x5, x6, x7, x8, x9, x10, x11, x12, x13, x14, x15, x16, x17, x18], h'⟩ := by
  obtain ⟨bs, ws, ops, rows, m, h', e, pt, S⟩ := source_ok gens 14 hp 6 (by omega) (by omega)
  have e' : callN tab 18 "_law_source" [.loc n, .int 6] h = _ := e
  refine ⟨bs, ws, ops, rows, m, h', pt.at, S, ?_⟩
  simp_arith [b_1, T18, e']
theorem s2 {a b c d : List D} : b_2 T18 ⟨[c0, c1, c2, some (.dic srcK [.lst a, .lst b, .lst c, .lst d]), x4, x5, x6, x7, x8, x9, x10, x11, x12, x13, x14, x15, x16, x17, x18], h⟩ = .nx ⟨[c0, c1, c2, some (.dic srcK [.lst a, .lst b, .lst c, .lst d]), some (.fz (.lst a)), some (.lst b), x6, x7, x8, x9, x10, x11, x12, x13, x14, x15, x16, x17, x18], h⟩ := by
  have h1 := (src_at (a := .lst a) (b := .lst b) (c := .lst c) (d := .lst d)).1
  have h2 := (src_at (a := .lst a) (b := .lst b) (c := .lst c) (d := .lst d)).2.1
  simp_arith [b_2, h1, h2]
theorem s3 {rows : List D} (hp : PoolAt h n) (h0 : 0 < rows.length) (h1 : rows.length ≤ 6) : ∃ A x B h', rows = A ++ x :: B ∧ PoolAt h' n ∧ b_3 T18 ⟨[c0, c1, some (.fz (.loc n)), x3, some (.fz (.lst rows)), x5, x6, x7, x8, x9, x10, x11, x12, x13, x14, x15, x16, x17, x18], h⟩ = .nx ⟨[c0, c1, some (.fz (.loc n)), x3, some (.fz (.lst rows)), x5, some (.fz (.int A.length)), x7, x8, x9, x10, x11, x12, x13, x14, x15, x16, x17, x18], h'⟩ := by
  obtain ⟨r, h', e1, a1, b1, p1⟩ := draw_ok gens.toDraws 17 hp (m := rows.length) (by omega) (by omega)
  have e1' : callN tab 18 "_law_draw" [.loc n, .int rows.length] h = _ := e1
  obtain ⟨A, x, B, hs, rfl⟩ := split_at a1 b1
  refine ⟨A, x, B, h', hs, p1.at, ?_⟩
  simp_arith [b_3, T18, e1']
theorem s4 {A B rs : List D} {b : Str} {e : D} {rows : List D} (hs : rows = A ++ .tup [.str b, .tup rs, e] :: B) : b_4 T18 ⟨[c0, c1, c2, x3, some (.fz (.lst rows)), x5, some (.fz (.int A.length)), x7, x8, x9, x10, x11, x12, x13, x14, x15, x16, x17, x18], h⟩ = .nx ⟨[c0, c1, c2, x3, some (.fz (.lst rows)), x5, some (.fz (.int A.length)), some (.fz (.str b)), some (.fz (.tup rs)), some (.fz e), x10, x11, x12, x13, x14, x15, x16, x17, x18], h⟩ := by
  have g3 : atI rows (A.length : Int) = some (.tup [.str b, .tup rs, e]) := by rw [hs]; exact at_mid
  simp_arith [b_4, g3]
end
theorem body_ok {ns : List Int} {s : S} (hs : Sl0 ns s) (i : Nat) (hi : i < 6) : ∃ s1, gN 1 (.fz (.int i)) s = some s1 ∧ ∃ s2, (m_body T18 s1 = .nx s2 ∨ m_body T18 s1 = .ct s2) ∧ Sl0 ns s2 := by
  obtain ⟨σ, h⟩ := s
  obtain ⟨x1, x2, x3, x4, x5, x6, x7, x8, x9, x10, x11, x12, x13, x14, x15, x16, x17, hσ⟩ := hs
  simp only at hσ
  subst hσ
  refine ⟨⟨[some (.fz (.scr ns)), some (.fz (.int i)), x2, x3, x4, x5, x6, x7, x8, x9, x10, x11, x12, x13, x14, x15, x16, x17, none], h⟩, rfl, ?_⟩
  obtain ⟨h0, p0, e0⟩ := s0 (x2 := x2) (x3 := x3) (x4 := x4) (x5 := x5) (x6 := x6) (x7 := x7) (x8 := x8) (x9 := x9) (x10 := x10) (x11 := x11) (x12 := x12) (x13 := x13) (x14 := x14) (x15 := x15) (x16 := x16) (x17 := x17) (x18 := none) (h := h) ns i hi
  generalize h.length = n at p0 e0
  generalize hc0 : some (O.fz (D.scr ns)) = c0 at *
  generalize hc1 : some (O.fz (D.int (i : Int))) = c1 at *
  obtain ⟨bs, ws, ops, rows, m, h1, p1, S, e1⟩ := s1 (c0 := c0) (c1 := c1) (x3 := x3) (x4 := x4) (x5 := x5) (x6 := x6) (x7 := x7) (x8 := x8) (x9 := x9) (x10 := x10) (x11 := x11) (x12 := x12) (x13 := x13) (x14 := x14) (x15 := x15) (x16 := x16) (x17 := x17) (x18 := none) p0
  have e2 := s2 (c0 := c0) (c1 := c1) (c2 := some (.fz (.loc n))) (x4 := x4) (x5 := x5) (x6 := x6) (x7 := x7) (x8 := x8) (x9 := x9) (x10 := x10) (x11 := x11) (x12 := x12) (x13 := x13) (x14 := x14) (x15 := x15) (x16 := x16) (x17 := x17) (x18 := none) (h := h1) (a := rows) (b := (ws.take m).map D.str) (c := ws.map D.str) (d := ops.map D.str)
  generalize hy3 : some (O.dic srcK [D.lst rows, .lst ((ws.take m).map D.str), .lst (ws.map D.str), .lst (ops.map D.str)]) = y3 at *
  have hb := src_blocks S
  have b0 := S.b0
  have b1 := S.b1
  obtain ⟨A, x, B, h3, hs3, p3, e3⟩ := s3 (c0 := c0) (c1 := c1) (x3 := y3) (x5 := some (.lst ((ws.take m).map D.str))) (x6 := x6) (x7 := x7) (x8 := x8) (x9 := x9) (x10 := x10) (x11 := x11) (x12 := x12) (x13 := x13) (x14 := x14) (x15 := x15) (x16 := x16) (x17 := x17) (x18 := none) (rows := rows) p1 (by omega) (by omega)
  obtain ⟨b, rs, e, rfl, _, _⟩ := S.rows.all.1 x (by rw [hs3]; simp)
  have c : Cx3 bs ws ops rows ((ws.take m).map D.str) A B b rs e := ⟨S, hs3, ws.take m, rfl, List.Sublist.nodup (List.take_sublist _ _) S.wd, fun w hw => S.ww w (List.mem_of_mem_take hw), by have := S.w1; rw [List.length_take]; omega⟩
  generalize (ws.take m).map D.str = ins at *
  have e4 := s4 (c0 := c0) (c1 := c1) (c2 := some (.fz (.loc n))) (x3 := y3) (x5 := some (.lst ins)) (x7 := x7) (x8 := x8) (x9 := x9) (x10 := x10) (x11 := x11) (x12 := x12) (x13 := x13) (x14 := x14) (x15 := x15) (x16 := x16) (x17 := x17) (x18 := none) (h := h3) hs3
  have e5 := s5 c (c0 := c0) (c1 := c1) (c2 := some (.fz (.loc n))) (x3 := y3) (x4 := some (.fz (.lst rows))) (x6 := some (.fz (.int A.length))) (x7 := some (.fz (.str b))) (x8 := some (.fz (.tup rs))) (x9 := some (.fz e)) (x10 := x10) (x11 := x11) (x12 := x12) (x13 := x13) (x14 := x14) (x15 := x15) (x16 := x16) (x17 := x17) (x18 := none) (h := h3)
  obtain ⟨o6, o6', e6⟩ := s6 c (c0 := c0) (c1 := c1) (c2 := some (.fz (.loc n))) (x3 := y3) (x6 := some (.fz (.int A.length))) (x7 := some (.fz (.str b))) (x8 := some (.fz (.tup rs))) (x9 := some (.fz e)) (x10 := some (.lst (ins ++ [.non]))) (x11 := x11) (x12 := x12) (x13 := x13) (x14 := x14) (x15 := x15) (x16 := x16) (x17 := x17) (x18 := none) (h := h3)
  obtain ⟨d7, h7, e7, p7, k7, n7⟩ := s7 c (c0 := c0) (c1 := c1) (x3 := y3) (x5 := some (.fz (.lst ins))) (x7 := some (.fz (.str b))) (x8 := some (.fz (.tup rs))) (x9 := some (.fz e)) (x10 := some (.lst (ins ++ [.non]))) (x11 := x11) (x12 := x12) (x13 := x13) (x14 := x14) (x15 := x15) (x16 := x16) (x17 := x17) (x18 := none) (PoolAt.app (o := o6') (PoolAt.app (o := o6) p3))
  obtain ⟨y11, y12, y10, h8, e8, p8, l10⟩ := s8 c (c0 := c0) (c1 := c1) (c2 := some (.fz (.loc n))) (x3 := y3) (x4 := some (.fz (.lst rows))) (x5 := some (.fz (.lst ins))) (x7 := some (.fz (.str b))) (x8 := some (.fz (.tup rs))) (x9 := some (.fz e)) (x10 := some (.lst (ins ++ [.non]))) (x12 := x12) (x13 := x13) (x14 := x14) (x15 := x15) (x16 := x16) (x17 := x17) (x18 := none) k7 n7 p7 (.inl rfl)
  obtain ⟨o9, e9⟩ := s9 c (c0 := c0) (c1 := c1) (c2 := some (.fz (.loc n))) (x3 := y3) (x5 := some (.fz (.lst ins))) (x7 := some (.fz (.str b))) (x8 := some (.fz (.tup rs))) (x9 := some (.fz e)) (x11 := y11) (x12 := y12) (x13 := x13) (x14 := x14) (x15 := x15) (x16 := x16) (x17 := x17) (x18 := none) p8 l10
  have e10 := s10 c (c0 := c0) (c1 := c1) (c2 := some (.fz (.loc n))) (x3 := y3) (x5 := some (.fz (.lst ins))) (x9 := some (.fz e)) (x10 := some (.fz (.lst (ins ++ [.non])))) (x11 := y11) (x12 := y12) (x13 := x13) (x14 := x14) (x15 := x15) (x16 := x16) (x17 := x17) (x18 := none) (h := h8 ++ [o9])
  obtain ⟨o11, e11⟩ := s11 c (c0 := c0) (c1 := c1) (c2 := some (.fz (.loc n))) (x3 := y3) (x4 := some (.fz (.lst rows))) (x5 := some (.fz (.lst ins))) (x6 := some (.fz (.int A.length))) (x7 := some (.fz (.str b))) (x8 := some (.fz (.tup rs))) (x9 := some (.fz e)) (x11 := y11) (x12 := y12) (x14 := x14) (x15 := x15) (x16 := x16) (x17 := x17) (x18 := none) (h := h8 ++ [o9])
  generalize hy13 : some (O.fz (D.lst (A ++ .tup [.str b, .tup rs, goZ] :: B))) = y13 at *
  have e12 := s12 (c0 := c0) (c1 := c1) (c2 := some (.fz (.loc n))) (x3 := y3) (x4 := some (.fz (.lst rows))) (x5 := some (.fz (.lst ins))) (x6 := some (.fz (.int A.length))) (x7 := some (.fz (.str b))) (x8 := some (.fz (.tup rs))) (x9 := some (.fz e)) (x10 := some (.fz (.lst (ins ++ [.non])))) (x11 := y11) (x12 := y12) (x13 := y13) (x14 := x14) (x15 := x15) (x16 := x16) (x17 := x17) (h := h8 ++ [o9] ++ [o11])
  obtain ⟨o13, o13', e13⟩ := s13 c (c0 := c0) (c1 := c1) (c2 := some (.fz (.loc n))) (x3 := y3) (x4 := some (.fz (.lst rows))) (x5 := some (.fz (.lst ins))) (x6 := some (.fz (.int A.length))) (x7 := some (.fz (.str b))) (x8 := some (.fz (.tup rs))) (x9 := some (.fz e)) (x11 := y11) (x12 := y12) (x13 := y13) (x15 := x15) (x16 := x16) (x17 := x17) (x18 := none) (h := h8 ++ [o9] ++ [o11])
  have e14 := s14 (c0 := c0) (c1 := c1) (c2 := some (.fz (.loc n))) (x3 := y3) (x4 := some (.fz (.lst rows))) (x5 := some (.fz (.lst ins))) (x6 := some (.fz (.int A.length))) (x7 := some (.fz (.str b))) (x8 := some (.fz (.tup rs))) (x9 := some (.fz e)) (x10 := some (.fz (.lst (ins ++ [.non])))) (x11 := y11) (x12 := y12) (x13 := y13) (x14 := some (.fz (.lst many9))) (x15 := x15) (x16 := x16) (x17 := x17) (h := h8 ++ [o9] ++ [o11] ++ [o13] ++ [o13'])
  obtain ⟨o15, o15', e15⟩ := s15 c (c0 := c0) (c1 := c1) (c2 := some (.fz (.loc n))) (x3 := y3) (x5 := some (.fz (.lst ins))) (x6 := some (.fz (.int A.length))) (x7 := some (.fz (.str b))) (x8 := some (.fz (.tup rs))) (x9 := some (.fz e)) (x10 := some (.fz (.lst (ins ++ [.non])))) (x11 := y11) (x12 := y12) (x13 := y13) (x14 := some (.fz (.lst many9))) (x16 := x16) (x17 := x17) (x18 := none) (h := h8 ++ [o9] ++ [o11] ++ [o13] ++ [o13'])
  have p15 : PoolAt (h8 ++ [o9] ++ [o11] ++ [o13] ++ [o13'] ++ [o15] ++ [o15']) n := PoolAt.app (PoolAt.app (PoolAt.app (PoolAt.app (PoolAt.app (PoolAt.app p8)))))
  generalize hy14 : some (O.fz (D.lst many9)) = y14 at *
  generalize hy15 : some (O.fz (D.lst (seven7.map D.str))) = y15 at *
  obtain ⟨P, Q, h16, hPQ, p16, e16⟩ := s16 c (c0 := c0) (c1 := c1) (x3 := y3) (x4 := some (.fz (.lst rows))) (x6 := some (.fz (.int A.length))) (x7 := some (.fz (.str b))) (x8 := some (.fz (.tup rs))) (x9 := some (.fz e)) (x10 := some (.fz (.lst (ins ++ [.non])))) (x11 := y11) (x12 := y12) (x13 := y13) (x14 := y14) (x15 := y15) (x16 := x16) (x17 := x17) (x18 := none) p15
  obtain ⟨y17, h17, p17, e17⟩ := s17 c (c0 := c0) (c1 := c1) (c2 := some (.fz (.loc n))) (x3 := y3) (x6 := some (.fz (.int A.length))) (x7 := some (.fz (.str b))) (x8 := some (.fz (.tup rs))) (x9 := some (.fz e)) (x10 := some (.fz (.lst (ins ++ [.non])))) (x11 := y11) (x12 := y12) (x13 := y13) (x14 := y14) (x15 := y15) (x17 := x17) (x18 := none) hPQ p16
  obtain ⟨z17, h18, p18, e18⟩ := s18 c (c0 := c0) (c1 := c1) (c2 := some (.fz (.loc n))) (x3 := y3) (x5 := some (.fz (.lst ins))) (x6 := some (.fz (.int A.length))) (x7 := some (.fz (.str b))) (x8 := some (.fz (.tup rs))) (x9 := some (.fz e)) (x11 := y11) (x12 := y12) (x13 := y13) (x14 := y14) (x15 := y15) (x16 := some (.fz (.int P.length))) (x17 := y17) (x18 := none) p17
  subst hc0
  refine ⟨⟨[some (.fz (.scr ns)), c1, some (.fz (.loc n)), y3, some (.fz (.lst rows)), some (.fz (.lst ins)), some (.fz (.int A.length)), some (.fz (.str b)), some (.fz (.tup rs)), some (.fz e), some (.fz (.lst (ins ++ [.non]))), y11, y12, y13, y14, y15, some (.fz (.int P.length)), z17, none], h18⟩, .inl ?_, _, _, _, _, _, _, _, _, _, _, _, _, _, _, _, _, _, rfl⟩
  · simp only [m_body, x_seq, e0, e1, e2, e3, e4, e5, e6, e7, e8, e9, e10, e11, e12, e13, e14, e15, e16, e17, e18, xT_nx, x_nil]
theorem law_true (ns : List Int) (hl : ns.length ≤ 63) : ∃ h', callN tab 19 "law" [.scr ns] [] = .ok (.fz (.bl true)) h' := by
  rw [call_at u_law [some (.fz (.scr ns)), none, none, none, none, none, none, none, none, none, none, none, none, none, none, none, none, none, none] rfl rfl]
  show ∃ h', fin ((cSeq (cFor (iRg1 _) (gN 1) m_body) (cSeq (cRet (mCon (.bl true))) cNil)) (callN tab 18) _) = _
  simp_arith [List.length_map]
  generalize hm : (if (1 : Int) < (if (6 : Int) < (ns.length : Int) then 6 else (ns.length : Int)) then (if (6 : Int) < (ns.length : Int) then 6 else (ns.length : Int)) else 1) = m
  have m0 : 0 ≤ m := by rw [← hm]; split <;> (try split) <;> omega
  have m1 : m ≤ 6 := by rw [← hm]; split <;> (try split) <;> omega
  rw [x_rgK m0 (show m < 100000 by omega)]
  obtain ⟨s', es, is⟩ := forL_inv (call := callN tab 18) (g := gN 1) (body := m_body) (Sl0 ns) (rangeD 0 m.toNat) ⟨[some (.fz (.scr ns)), none, none, none, none, none, none, none, none, none, none, none, none, none, none, none, none, none, none], []⟩ ⟨_, _, _, _, _, _, _, _, _, _, _, _, _, _, _, _, _, rfl⟩ (fun d hd s hs => by
    rw [rangeD_eq] at hd
    obtain ⟨i, hi, rfl⟩ := List.mem_map.mp hd
    have := List.mem_range.mp hi
    exact body_ok hs i (by omega))
  simp_arith [x_seq]
  rw [es]
  obtain ⟨σ, h3⟩ := s'
  simp_arith [x_seq]
  exact ⟨_, rfl⟩
end K03

set_option Elab.async false
set_option linter.all false
set_option maxRecDepth 100000
set_option maxHeartbeats 4000000
namespace K03
open PySem PySem.Spec PyProof.Rows L2 Mi
set_option maxHeartbeats 0 in
theorem all_mk {l : PySem.W.OpenLaw} {w : World} {K : PySem.W.Frag} {h : Heap} {mg : Str → Option Value} {fa fa0 : Addr} (X : K.In h) (G : h.Ns mainGlobals mg) (hfa : mg "law" = some (.ref fa0))
    {C_Source : Addr} (gC_Source : PySem.W.nsIn K mainGlobals "Source" = some (some (.ref C_Source)))
    {a0 : Addr} {od0 an0 : Option Addr} {sl0 : Array (Option Value)} {oc0 kV0 dc0 pm0 cd0 ct0 : Value}
    (q0 : PySem.W.nsIn K mainGlobals "is_name" = some (some (.ref a0)))
    (l0 : K.lookup a0 = some ⟨oc0, od0, .func (PySem.W.fnOf "is_name" "is_name" (defArgs (topS 11)) (defBody (topS 11)) (defScope (topS 11)) .none kV0 dc0 pm0 an0 cd0 ct0), sl0⟩) (c0 : PySem.W.codeIn K cd0 "is_name" = true) (k0 : PySem.W.keepIn K (.ref a0) = true)
    {a1 : Addr} {od1 an1 : Option Addr} {sl1 : Array (Option Value)} {oc1 kV1 dc1 pm1 cd1 ct1 : Value}
    (q1 : PySem.W.nsIn K mainGlobals "are_names" = some (some (.ref a1)))
    (l1 : K.lookup a1 = some ⟨oc1, od1, .func (PySem.W.fnOf "are_names" "are_names" (defArgs (topS 12)) (defBody (topS 12)) (defScope (topS 12)) .none kV1 dc1 pm1 an1 cd1 ct1), sl1⟩) (c1 : PySem.W.codeIn K cd1 "are_names" = true) (k1 : PySem.W.keepIn K (.ref a1) = true)
    {a2 : Addr} {od2 an2 : Option Addr} {sl2 : Array (Option Value)} {oc2 kV2 dc2 pm2 cd2 ct2 : Value}
    (q2 : PySem.W.nsIn K mainGlobals "has_kind" = some (some (.ref a2)))
    (l2 : K.lookup a2 = some ⟨oc2, od2, .func (PySem.W.fnOf "has_kind" "has_kind" (defArgs (topS 13)) (defBody (topS 13)) (defScope (topS 13)) .none kV2 dc2 pm2 an2 cd2 ct2), sl2⟩) (c2 : PySem.W.codeIn K cd2 "has_kind" = true) (k2 : PySem.W.keepIn K (.ref a2) = true)
    {a3 : Addr} {od3 an3 : Option Addr} {sl3 : Array (Option Value)} {oc3 kV3 dc3 pm3 cd3 ct3 : Value}
    (q3 : PySem.W.nsIn K mainGlobals "is_row" = some (some (.ref a3)))
    (l3 : K.lookup a3 = some ⟨oc3, od3, .func (PySem.W.fnOf "is_row" "is_row" (defArgs (topS 14)) (defBody (topS 14)) (defScope (topS 14)) .none kV3 dc3 pm3 an3 cd3 ct3), sl3⟩) (c3 : PySem.W.codeIn K cd3 "is_row" = true) (k3 : PySem.W.keepIn K (.ref a3) = true)
    {a4 : Addr} {od4 an4 : Option Addr} {sl4 : Array (Option Value)} {oc4 kV4 dc4 pm4 cd4 ct4 : Value}
    (q4 : PySem.W.nsIn K mainGlobals "is_end" = some (some (.ref a4)))
    (l4 : K.lookup a4 = some ⟨oc4, od4, .func (PySem.W.fnOf "is_end" "is_end" (defArgs (topS 15)) (defBody (topS 15)) (defScope (topS 15)) .none kV4 dc4 pm4 an4 cd4 ct4), sl4⟩) (c4 : PySem.W.codeIn K cd4 "is_end" = true) (k4 : PySem.W.keepIn K (.ref a4) = true)
    {a5 : Addr} {od5 an5 : Option Addr} {sl5 : Array (Option Value)} {oc5 kV5 dc5 pm5 cd5 ct5 : Value}
    (q5 : PySem.W.nsIn K mainGlobals "is_block" = some (some (.ref a5)))
    (l5 : K.lookup a5 = some ⟨oc5, od5, .func (PySem.W.fnOf "is_block" "is_block" (defArgs (topS 22)) (defBody (topS 22)) (defScope (topS 22)) .none kV5 dc5 pm5 an5 cd5 ct5), sl5⟩) (c5 : PySem.W.codeIn K cd5 "is_block" = true) (k5 : PySem.W.keepIn K (.ref a5) = true)
    {a6 : Addr} {od6 an6 : Option Addr} {sl6 : Array (Option Value)} {oc6 kV6 dc6 pm6 cd6 ct6 : Value}
    (q6 : PySem.W.nsIn K mainGlobals "next_blocks" = some (some (.ref a6)))
    (l6 : K.lookup a6 = some ⟨oc6, od6, .func (PySem.W.fnOf "next_blocks" "next_blocks" (defArgs (topS 23)) (defBody (topS 23)) (defScope (topS 23)) .none kV6 dc6 pm6 an6 cd6 ct6), sl6⟩) (c6 : PySem.W.codeIn K cd6 "next_blocks" = true) (k6 : PySem.W.keepIn K (.ref a6) = true)
    {a7 : Addr} {od7 an7 : Option Addr} {sl7 : Array (Option Value)} {oc7 kV7 dc7 pm7 cd7 ct7 : Value}
    (q7 : PySem.W.nsIn K mainGlobals "checked_blocks" = some (some (.ref a7)))
    (l7 : K.lookup a7 = some ⟨oc7, od7, .func (PySem.W.fnOf "checked_blocks" "checked_blocks" (defArgs (topS 24)) (defBody (topS 24)) (defScope (topS 24)) .none kV7 dc7 pm7 an7 cd7 ct7), sl7⟩) (c7 : PySem.W.codeIn K cd7 "checked_blocks" = true) (k7 : PySem.W.keepIn K (.ref a7) = true)
    {a8 : Addr} {od8 an8 : Option Addr} {sl8 : Array (Option Value)} {oc8 kV8 dc8 pm8 cd8 ct8 : Value}
    (q8 : PySem.W.nsIn K mainGlobals "checked_inputs" = some (some (.ref a8)))
    (l8 : K.lookup a8 = some ⟨oc8, od8, .func (PySem.W.fnOf "checked_inputs" "checked_inputs" (defArgs (topS 25)) (defBody (topS 25)) (defScope (topS 25)) .none kV8 dc8 pm8 an8 cd8 ct8), sl8⟩) (c8 : PySem.W.codeIn K cd8 "checked_inputs" = true) (k8 : PySem.W.keepIn K (.ref a8) = true)
    {a9 : Addr} {od9 an9 : Option Addr} {sl9 : Array (Option Value)} {oc9 kV9 dc9 pm9 cd9 ct9 : Value}
    (q9 : PySem.W.nsIn K mainGlobals "_law_pool" = some (some (.ref a9)))
    (l9 : K.lookup a9 = some ⟨oc9, od9, .func (PySem.W.fnOf "_law_pool" "_law_pool" (defArgs (topS 28)) (defBody (topS 28)) (defScope (topS 28)) .none kV9 dc9 pm9 an9 cd9 ct9), sl9⟩) (c9 : PySem.W.codeIn K cd9 "_law_pool" = true) (k9 : PySem.W.keepIn K (.ref a9) = true)
    {a10 : Addr} {od10 an10 : Option Addr} {sl10 : Array (Option Value)} {oc10 kV10 dc10 pm10 cd10 ct10 : Value}
    (q10 : PySem.W.nsIn K mainGlobals "_law_draw" = some (some (.ref a10)))
    (l10 : K.lookup a10 = some ⟨oc10, od10, .func (PySem.W.fnOf "_law_draw" "_law_draw" (defArgs (topS 29)) (defBody (topS 29)) (defScope (topS 29)) .none kV10 dc10 pm10 an10 cd10 ct10), sl10⟩) (c10 : PySem.W.codeIn K cd10 "_law_draw" = true) (k10 : PySem.W.keepIn K (.ref a10) = true)
    {a11 : Addr} {od11 an11 : Option Addr} {sl11 : Array (Option Value)} {oc11 kV11 dc11 pm11 cd11 ct11 : Value}
    (q11 : PySem.W.nsIn K mainGlobals "_law_pick" = some (some (.ref a11)))
    (l11 : K.lookup a11 = some ⟨oc11, od11, .func (PySem.W.fnOf "_law_pick" "_law_pick" (defArgs (topS 30)) (defBody (topS 30)) (defScope (topS 30)) .none kV11 dc11 pm11 an11 cd11 ct11), sl11⟩) (c11 : PySem.W.codeIn K cd11 "_law_pick" = true) (k11 : PySem.W.keepIn K (.ref a11) = true)
    {a12 : Addr} {od12 an12 : Option Addr} {sl12 : Array (Option Value)} {oc12 kV12 dc12 pm12 cd12 ct12 : Value}
    (q12 : PySem.W.nsIn K mainGlobals "_law_names" = some (some (.ref a12)))
    (l12 : K.lookup a12 = some ⟨oc12, od12, .func (PySem.W.fnOf "_law_names" "_law_names" (defArgs (topS 31)) (defBody (topS 31)) (defScope (topS 31)) .none kV12 dc12 pm12 an12 cd12 ct12), sl12⟩) (c12 : PySem.W.codeIn K cd12 "_law_names" = true) (k12 : PySem.W.keepIn K (.ref a12) = true)
    {a13 : Addr} {od13 an13 : Option Addr} {sl13 : Array (Option Value)} {oc13 kV13 dc13 pm13 cd13 ct13 : Value}
    (q13 : PySem.W.nsIn K mainGlobals "_law_row" = some (some (.ref a13)))
    (l13 : K.lookup a13 = some ⟨oc13, od13, .func (PySem.W.fnOf "_law_row" "_law_row" (defArgs (topS 32)) (defBody (topS 32)) (defScope (topS 32)) .none kV13 dc13 pm13 an13 cd13 ct13), sl13⟩) (c13 : PySem.W.codeIn K cd13 "_law_row" = true) (k13 : PySem.W.keepIn K (.ref a13) = true)
    {a14 : Addr} {od14 an14 : Option Addr} {sl14 : Array (Option Value)} {oc14 kV14 dc14 pm14 cd14 ct14 : Value}
    (q14 : PySem.W.nsIn K mainGlobals "_law_end" = some (some (.ref a14)))
    (l14 : K.lookup a14 = some ⟨oc14, od14, .func (PySem.W.fnOf "_law_end" "_law_end" (defArgs (topS 33)) (defBody (topS 33)) (defScope (topS 33)) .none kV14 dc14 pm14 an14 cd14 ct14), sl14⟩) (c14 : PySem.W.codeIn K cd14 "_law_end" = true) (k14 : PySem.W.keepIn K (.ref a14) = true)
    {a15 : Addr} {od15 an15 : Option Addr} {sl15 : Array (Option Value)} {oc15 kV15 dc15 pm15 cd15 ct15 : Value}
    (q15 : PySem.W.nsIn K mainGlobals "_law_source" = some (some (.ref a15)))
    (l15 : K.lookup a15 = some ⟨oc15, od15, .func (PySem.W.fnOf "_law_source" "_law_source" (defArgs (topS 34)) (defBody (topS 34)) (defScope (topS 34)) .none kV15 dc15 pm15 an15 cd15 ct15), sl15⟩) (c15 : PySem.W.codeIn K cd15 "_law_source" = true) (k15 : PySem.W.keepIn K (.ref a15) = true)
    {a16 : Addr} {od16 an16 : Option Addr} {sl16 : Array (Option Value)} {oc16 kV16 dc16 pm16 cd16 ct16 : Value}
    (q16 : PySem.W.nsIn K mainGlobals "_law_told" = some (some (.ref a16)))
    (l16 : K.lookup a16 = some ⟨oc16, od16, .func (PySem.W.fnOf "_law_told" "_law_told" (defArgs (topS 35)) (defBody (topS 35)) (defScope (topS 35)) .none kV16 dc16 pm16 an16 cd16 ct16), sl16⟩) (c16 : PySem.W.codeIn K cd16 "_law_told" = true) (k16 : PySem.W.keepIn K (.ref a16) = true)
    {a17 : Addr} {od17 an17 : Option Addr} {sl17 : Array (Option Value)} {oc17 kV17 dc17 pm17 cd17 ct17 : Value}
    (q17 : PySem.W.nsIn K mainGlobals "_law_bad" = some (some (.ref a17)))
    (l17 : K.lookup a17 = some ⟨oc17, od17, .func (PySem.W.fnOf "_law_bad" "_law_bad" (defArgs (topS 36)) (defBody (topS 36)) (defScope (topS 36)) .none kV17 dc17 pm17 an17 cd17 ct17), sl17⟩) (c17 : PySem.W.codeIn K cd17 "_law_bad" = true) (k17 : PySem.W.keepIn K (.ref a17) = true)
    {od18 an18 : Option Addr} {sl18 : Array (Option Value)} {oc18 kV18 dc18 pm18 cd18 ct18 : Value}
    (q18 : PySem.W.nsIn K mainGlobals "law" = some (some (.ref fa)))
    (l18 : K.lookup fa = some ⟨oc18, od18, .func (PySem.W.fnOf "law" "law" (defArgs (topS 37)) (defBody (topS 37)) (defScope (topS 37)) .none kV18 dc18 pm18 an18 cd18 ct18), sl18⟩) (c18 : PySem.W.codeIn K cd18 "law" = true) (k18 : PySem.W.keepIn K (.ref fa) = true)
    {a19 : Addr} {od19 an19 : Option Addr} {sl19 : Array (Option Value)} {oc19 kV19 dc19 pm19 cd19 ct19 : Value} {T19 n19 : Nat} {to19 : Value} {td19 : Option Addr} {ts19 : Array (Option Value)} {ti19_0 : Value}
    (q19 : PySem.W.findIn K (.ref C_Source) "__init__" = some (some (.ref a19))) (w19 : PySem.W.isFn K (.ref a19) = true)
    (l19 : K.lookup a19 = some ⟨oc19, od19, .func (PySem.W.fnOf "__init__" "Source.__init__" (defArgs (inS 26 0)) (defBody (inS 26 0)) (defScope (inS 26 0)) (.ref T19) kV19 dc19 pm19 an19 cd19 ct19), sl19⟩) (c19 : PySem.W.codeIn K cd19 "Source.__init__" = true) (k19 : PySem.W.keepIn K (.ref a19) = true)
    (d19 : K.lookup T19 = some ⟨to19, td19, .seq (List.toArray [ti19_0]) n19, ts19⟩)
    (pg_Source : PySem.W.plainGet K C_Source Str.empty = true) (hd_Source : PySem.W.hasDictIn K C_Source = true) (po_Source : PySem.W.plainOver K C_Source = true) (sa_Source : PySem.W.findIn K (.ref C_Source) "__setattr__" = some (some (.builtin "object.__setattr__"))) (mk_Source : PySem.W.makesIn K C_Source = true) (kp_Source : PySem.W.keepIn K (.ref C_Source) = true)
    (nf0 : PySem.W.findIn K (.ref C_Source) "own_blocks" = some none)
    (nf1 : PySem.W.findIn K (.ref C_Source) "inputs" = some none)
    {X_BadBlock xI_BadBlock xN_BadBlock : Addr} {xn_BadBlock xq_BadBlock : Str} {xb_BadBlock xm_BadBlock xu_BadBlock : List Value} {xs_BadBlock : List Str} {xa_BadBlock : Bool} {xl_BadBlock : Option Bool} {xd_BadBlock xo_BadBlock xp_BadBlock : Option Addr} {y0_BadBlock y1_BadBlock y2_BadBlock y3_BadBlock y5_BadBlock : Option Value} {zc_BadBlock zk_BadBlock zd_BadBlock zp_BadBlock zv_BadBlock zt_BadBlock : Value} {zl_BadBlock : Array (Option Value)}
    (xg_BadBlock : PySem.W.nsIn K mainGlobals "BadBlock" = some (some (.ref X_BadBlock))) (xc_BadBlock : K.lookup X_BadBlock = some (excClassObj xn_BadBlock xq_BadBlock X_BadBlock xN_BadBlock xb_BadBlock xm_BadBlock true xs_BadBlock xu_BadBlock xa_BadBlock xl_BadBlock xd_BadBlock y0_BadBlock y1_BadBlock y2_BadBlock y3_BadBlock y5_BadBlock "ValueError.__new__")) (xr_BadBlock : refsT tlV xm_BadBlock = true)
    (xsa_BadBlock : PySem.W.findIn K (.ref X_BadBlock) "__setattr__" = some (some (.builtin "object.__setattr__"))) (xex_BadBlock : PySem.W.subIn K (.ref X_BadBlock) (.type "BaseException") = some true) (xty_BadBlock : PySem.W.typeIn K (.ref X_BadBlock) = some (.type "type")) (xkc_BadBlock : PySem.W.keepIn K (.ref X_BadBlock) = true) (xga_BadBlock : PySem.W.findIn K (.ref X_BadBlock) "__getattribute__" = some (some (.builtin "BaseException.__getattribute__"))) (xgg_BadBlock : PySem.W.findIn K (.ref X_BadBlock) "__getattr__" = some none) (xhd_BadBlock : PySem.W.hasDictIn K X_BadBlock = true) (xha_BadBlock : PySem.W.findIn K (.ref X_BadBlock) "__class__" = some (some (.builtin "object.__class__"))) (xhn_BadBlock : PySem.W.specialIn K (.builtin "object.__class__") "__get__" = some (some (.builtin "getset_descriptor.__get__"))) (xht_BadBlock : PySem.W.takesIn K (.builtin "object.__class__") = some true) (xhm_BadBlock : PySem.W.mroIn K X_BadBlock (.type "object") = some true)
    (xf_BadBlock : PySem.W.findIn K (.ref X_BadBlock) "index" = some none) (xi_BadBlock : PySem.W.findIn K (.ref X_BadBlock) "__init__" = some (some (.ref xI_BadBlock))) (xt_BadBlock : PySem.W.typeIn K (.ref xI_BadBlock) = some (.type "function"))
    (xL_BadBlock : K.lookup xI_BadBlock = some ⟨zc_BadBlock, xo_BadBlock, .func (PySem.W.fnOf "__init__" "BadBlock.__init__" (defArgs (inS 3 0)) (defBody (inS 3 0)) (defScope (inS 3 0)) .none zk_BadBlock zd_BadBlock zp_BadBlock xp_BadBlock zv_BadBlock zt_BadBlock), zl_BadBlock⟩) (xC_BadBlock : PySem.W.codeIn K zv_BadBlock "BadBlock.__init__" = true) (xK_BadBlock : PySem.W.keepIn K (.ref xI_BadBlock) = true)
    {S_BadBlock : Addr} (bq_BadBlock : PySem.W.nsIn K mainGlobals "ShownError" = some (some (.ref S_BadBlock))) (bs_BadBlock : PySem.W.specialIn K (.ref S_BadBlock) "__getattribute__" = some (some (.builtin "type.__getattribute__"))) (br_BadBlock : PySem.W.readsIn K S_BadBlock (.type "type") = true) (bf_BadBlock : PySem.W.findCls K (.ref S_BadBlock) (.type "type") "__init__" = some (.val (.builtin "ValueError.__init__")))
    {X_BadInput xI_BadInput xN_BadInput : Addr} {xn_BadInput xq_BadInput : Str} {xb_BadInput xm_BadInput xu_BadInput : List Value} {xs_BadInput : List Str} {xa_BadInput : Bool} {xl_BadInput : Option Bool} {xd_BadInput xo_BadInput xp_BadInput : Option Addr} {y0_BadInput y1_BadInput y2_BadInput y3_BadInput y5_BadInput : Option Value} {zc_BadInput zk_BadInput zd_BadInput zp_BadInput zv_BadInput zt_BadInput : Value} {zl_BadInput : Array (Option Value)}
    (xg_BadInput : PySem.W.nsIn K mainGlobals "BadInput" = some (some (.ref X_BadInput))) (xc_BadInput : K.lookup X_BadInput = some (excClassObj xn_BadInput xq_BadInput X_BadInput xN_BadInput xb_BadInput xm_BadInput true xs_BadInput xu_BadInput xa_BadInput xl_BadInput xd_BadInput y0_BadInput y1_BadInput y2_BadInput y3_BadInput y5_BadInput "ValueError.__new__")) (xr_BadInput : refsT tlV xm_BadInput = true)
    (xsa_BadInput : PySem.W.findIn K (.ref X_BadInput) "__setattr__" = some (some (.builtin "object.__setattr__"))) (xex_BadInput : PySem.W.subIn K (.ref X_BadInput) (.type "BaseException") = some true) (xty_BadInput : PySem.W.typeIn K (.ref X_BadInput) = some (.type "type")) (xkc_BadInput : PySem.W.keepIn K (.ref X_BadInput) = true) (xga_BadInput : PySem.W.findIn K (.ref X_BadInput) "__getattribute__" = some (some (.builtin "BaseException.__getattribute__"))) (xgg_BadInput : PySem.W.findIn K (.ref X_BadInput) "__getattr__" = some none) (xhd_BadInput : PySem.W.hasDictIn K X_BadInput = true) (xha_BadInput : PySem.W.findIn K (.ref X_BadInput) "__class__" = some (some (.builtin "object.__class__"))) (xhn_BadInput : PySem.W.specialIn K (.builtin "object.__class__") "__get__" = some (some (.builtin "getset_descriptor.__get__"))) (xht_BadInput : PySem.W.takesIn K (.builtin "object.__class__") = some true) (xhm_BadInput : PySem.W.mroIn K X_BadInput (.type "object") = some true)
    (xf_BadInput : PySem.W.findIn K (.ref X_BadInput) "index" = some none) (xi_BadInput : PySem.W.findIn K (.ref X_BadInput) "__init__" = some (some (.ref xI_BadInput))) (xt_BadInput : PySem.W.typeIn K (.ref xI_BadInput) = some (.type "function"))
    (xL_BadInput : K.lookup xI_BadInput = some ⟨zc_BadInput, xo_BadInput, .func (PySem.W.fnOf "__init__" "BadInput.__init__" (defArgs (inS 4 0)) (defBody (inS 4 0)) (defScope (inS 4 0)) .none zk_BadInput zd_BadInput zp_BadInput xp_BadInput zv_BadInput zt_BadInput), zl_BadInput⟩) (xC_BadInput : PySem.W.codeIn K zv_BadInput "BadInput.__init__" = true) (xK_BadInput : PySem.W.keepIn K (.ref xI_BadInput) = true)
    {S_BadInput : Addr} (bq_BadInput : PySem.W.nsIn K mainGlobals "ShownError" = some (some (.ref S_BadInput))) (bs_BadInput : PySem.W.specialIn K (.ref S_BadInput) "__getattribute__" = some (some (.builtin "type.__getattribute__"))) (br_BadInput : PySem.W.readsIn K S_BadInput (.type "type") = true) (bf_BadInput : PySem.W.findCls K (.ref S_BadInput) (.type "type") "__init__" = some (.val (.builtin "ValueError.__init__")))
    {X_UnknownBlock xI_UnknownBlock xN_UnknownBlock : Addr} {xn_UnknownBlock xq_UnknownBlock : Str} {xb_UnknownBlock xm_UnknownBlock xu_UnknownBlock : List Value} {xs_UnknownBlock : List Str} {xa_UnknownBlock : Bool} {xl_UnknownBlock : Option Bool} {xd_UnknownBlock xo_UnknownBlock xp_UnknownBlock : Option Addr} {y0_UnknownBlock y1_UnknownBlock y2_UnknownBlock y3_UnknownBlock y5_UnknownBlock : Option Value} {zc_UnknownBlock zk_UnknownBlock zd_UnknownBlock zp_UnknownBlock zv_UnknownBlock zt_UnknownBlock : Value} {zl_UnknownBlock : Array (Option Value)}
    (xg_UnknownBlock : PySem.W.nsIn K mainGlobals "UnknownBlock" = some (some (.ref X_UnknownBlock))) (xc_UnknownBlock : K.lookup X_UnknownBlock = some (excClassObj xn_UnknownBlock xq_UnknownBlock X_UnknownBlock xN_UnknownBlock xb_UnknownBlock xm_UnknownBlock true xs_UnknownBlock xu_UnknownBlock xa_UnknownBlock xl_UnknownBlock xd_UnknownBlock y0_UnknownBlock y1_UnknownBlock y2_UnknownBlock y3_UnknownBlock y5_UnknownBlock "LookupError.__new__")) (xr_UnknownBlock : refsT tlK xm_UnknownBlock = true)
    (xsa_UnknownBlock : PySem.W.findIn K (.ref X_UnknownBlock) "__setattr__" = some (some (.builtin "object.__setattr__"))) (xex_UnknownBlock : PySem.W.subIn K (.ref X_UnknownBlock) (.type "BaseException") = some true) (xty_UnknownBlock : PySem.W.typeIn K (.ref X_UnknownBlock) = some (.type "type")) (xkc_UnknownBlock : PySem.W.keepIn K (.ref X_UnknownBlock) = true) (xga_UnknownBlock : PySem.W.findIn K (.ref X_UnknownBlock) "__getattribute__" = some (some (.builtin "BaseException.__getattribute__"))) (xgg_UnknownBlock : PySem.W.findIn K (.ref X_UnknownBlock) "__getattr__" = some none) (xhd_UnknownBlock : PySem.W.hasDictIn K X_UnknownBlock = true) (xha_UnknownBlock : PySem.W.findIn K (.ref X_UnknownBlock) "__class__" = some (some (.builtin "object.__class__"))) (xhn_UnknownBlock : PySem.W.specialIn K (.builtin "object.__class__") "__get__" = some (some (.builtin "getset_descriptor.__get__"))) (xht_UnknownBlock : PySem.W.takesIn K (.builtin "object.__class__") = some true) (xhm_UnknownBlock : PySem.W.mroIn K X_UnknownBlock (.type "object") = some true)
    (xf_UnknownBlock : PySem.W.findIn K (.ref X_UnknownBlock) "block" = some none) (xi_UnknownBlock : PySem.W.findIn K (.ref X_UnknownBlock) "__init__" = some (some (.ref xI_UnknownBlock))) (xt_UnknownBlock : PySem.W.typeIn K (.ref xI_UnknownBlock) = some (.type "function"))
    (xL_UnknownBlock : K.lookup xI_UnknownBlock = some ⟨zc_UnknownBlock, xo_UnknownBlock, .func (PySem.W.fnOf "__init__" "UnknownBlock.__init__" (defArgs (inS 5 0)) (defBody (inS 5 0)) (defScope (inS 5 0)) .none zk_UnknownBlock zd_UnknownBlock zp_UnknownBlock xp_UnknownBlock zv_UnknownBlock zt_UnknownBlock), zl_UnknownBlock⟩) (xC_UnknownBlock : PySem.W.codeIn K zv_UnknownBlock "UnknownBlock.__init__" = true) (xK_UnknownBlock : PySem.W.keepIn K (.ref xI_UnknownBlock) = true)
    (bq_UnknownBlock : PySem.W.nsIn K mainGlobals "KeyError" = some none) (bf_UnknownBlock : PySem.W.findCls K (.type "KeyError") (.type "type") "__init__" = some (.val (.builtin "KeyError.__init__")))
    {X_TooMany xI_TooMany xN_TooMany : Addr} {xn_TooMany xq_TooMany : Str} {xb_TooMany xm_TooMany xu_TooMany : List Value} {xs_TooMany : List Str} {xa_TooMany : Bool} {xl_TooMany : Option Bool} {xd_TooMany xo_TooMany xp_TooMany : Option Addr} {y0_TooMany y1_TooMany y2_TooMany y3_TooMany y5_TooMany : Option Value} {zc_TooMany zk_TooMany zd_TooMany zp_TooMany zv_TooMany zt_TooMany : Value} {zl_TooMany : Array (Option Value)}
    (xg_TooMany : PySem.W.nsIn K mainGlobals "TooMany" = some (some (.ref X_TooMany))) (xc_TooMany : K.lookup X_TooMany = some (excClassObj xn_TooMany xq_TooMany X_TooMany xN_TooMany xb_TooMany xm_TooMany true xs_TooMany xu_TooMany xa_TooMany xl_TooMany xd_TooMany y0_TooMany y1_TooMany y2_TooMany y3_TooMany y5_TooMany "OverflowError.__new__")) (xr_TooMany : refsT tlO xm_TooMany = true)
    (xsa_TooMany : PySem.W.findIn K (.ref X_TooMany) "__setattr__" = some (some (.builtin "object.__setattr__"))) (xex_TooMany : PySem.W.subIn K (.ref X_TooMany) (.type "BaseException") = some true) (xty_TooMany : PySem.W.typeIn K (.ref X_TooMany) = some (.type "type")) (xkc_TooMany : PySem.W.keepIn K (.ref X_TooMany) = true) (xga_TooMany : PySem.W.findIn K (.ref X_TooMany) "__getattribute__" = some (some (.builtin "BaseException.__getattribute__"))) (xgg_TooMany : PySem.W.findIn K (.ref X_TooMany) "__getattr__" = some none) (xhd_TooMany : PySem.W.hasDictIn K X_TooMany = true) (xha_TooMany : PySem.W.findIn K (.ref X_TooMany) "__class__" = some (some (.builtin "object.__class__"))) (xhn_TooMany : PySem.W.specialIn K (.builtin "object.__class__") "__get__" = some (some (.builtin "getset_descriptor.__get__"))) (xht_TooMany : PySem.W.takesIn K (.builtin "object.__class__") = some true) (xhm_TooMany : PySem.W.mroIn K X_TooMany (.type "object") = some true)
    (xf_TooMany : PySem.W.findIn K (.ref X_TooMany) "limit" = some none) (xi_TooMany : PySem.W.findIn K (.ref X_TooMany) "__init__" = some (some (.ref xI_TooMany))) (xt_TooMany : PySem.W.typeIn K (.ref xI_TooMany) = some (.type "function"))
    (xL_TooMany : K.lookup xI_TooMany = some ⟨zc_TooMany, xo_TooMany, .func (PySem.W.fnOf "__init__" "TooMany.__init__" (defArgs (inS 6 0)) (defBody (inS 6 0)) (defScope (inS 6 0)) .none zk_TooMany zd_TooMany zp_TooMany xp_TooMany zv_TooMany zt_TooMany), zl_TooMany⟩) (xC_TooMany : PySem.W.codeIn K zv_TooMany "TooMany.__init__" = true) (xK_TooMany : PySem.W.keepIn K (.ref xI_TooMany) = true)
    (bq_TooMany : PySem.W.nsIn K mainGlobals "OverflowError" = some none) (bf_TooMany : PySem.W.findCls K (.type "OverflowError") (.type "type") "__init__" = some (.val (.builtin "OverflowError.__init__")))
    (s_BadBlock_BadBlock : PySem.W.subIn K (.ref X_BadBlock) (.ref X_BadBlock) = some true)
    (s_BadBlock_BadInput : PySem.W.subIn K (.ref X_BadBlock) (.ref X_BadInput) = some false)
    (s_BadBlock_UnknownBlock : PySem.W.subIn K (.ref X_BadBlock) (.ref X_UnknownBlock) = some false)
    (s_BadBlock_TooMany : PySem.W.subIn K (.ref X_BadBlock) (.ref X_TooMany) = some false)
    (s_BadInput_BadBlock : PySem.W.subIn K (.ref X_BadInput) (.ref X_BadBlock) = some false)
    (s_BadInput_BadInput : PySem.W.subIn K (.ref X_BadInput) (.ref X_BadInput) = some true)
    (s_BadInput_UnknownBlock : PySem.W.subIn K (.ref X_BadInput) (.ref X_UnknownBlock) = some false)
    (s_BadInput_TooMany : PySem.W.subIn K (.ref X_BadInput) (.ref X_TooMany) = some false)
    (s_UnknownBlock_BadBlock : PySem.W.subIn K (.ref X_UnknownBlock) (.ref X_BadBlock) = some false)
    (s_UnknownBlock_BadInput : PySem.W.subIn K (.ref X_UnknownBlock) (.ref X_BadInput) = some false)
    (s_UnknownBlock_UnknownBlock : PySem.W.subIn K (.ref X_UnknownBlock) (.ref X_UnknownBlock) = some true)
    (s_UnknownBlock_TooMany : PySem.W.subIn K (.ref X_UnknownBlock) (.ref X_TooMany) = some false)
    (s_TooMany_BadBlock : PySem.W.subIn K (.ref X_TooMany) (.ref X_BadBlock) = some false)
    (s_TooMany_BadInput : PySem.W.subIn K (.ref X_TooMany) (.ref X_BadInput) = some false)
    (s_TooMany_UnknownBlock : PySem.W.subIn K (.ref X_TooMany) (.ref X_UnknownBlock) = some false)
    (s_TooMany_TooMany : PySem.W.subIn K (.ref X_TooMany) (.ref X_TooMany) = some true)
    {I0 : Addr} (ia0 : PySem.W.nsIn K mainGlobals "ShownError" = some (some (.ref I0))) (ib0 : PySem.W.hasDictIn K I0 = true) (ic0 : PySem.W.typeIn K (.ref I0) = some (.type "type")) (id0 : PySem.W.subIn K (.ref X_BadBlock) (.ref I0) = some true) (ie0 : (Value.ref X_BadBlock == Value.ref I0) = false)
    (ia1 : PySem.W.nsIn K mainGlobals "ValueError" = some none) (id1 : PySem.W.subIn K (.ref X_BadBlock) (.type "ValueError") = some true)
    {I2 : Addr} (ia2 : PySem.W.nsIn K mainGlobals "ShownError" = some (some (.ref I2))) (ib2 : PySem.W.hasDictIn K I2 = true) (ic2 : PySem.W.typeIn K (.ref I2) = some (.type "type")) (id2 : PySem.W.subIn K (.ref X_BadInput) (.ref I2) = some true) (ie2 : (Value.ref X_BadInput == Value.ref I2) = false)
    (ia3 : PySem.W.nsIn K mainGlobals "ValueError" = some none) (id3 : PySem.W.subIn K (.ref X_BadInput) (.type "ValueError") = some true)
    {I4 : Addr} (ia4 : PySem.W.nsIn K mainGlobals "ShownError" = some (some (.ref I4))) (ib4 : PySem.W.hasDictIn K I4 = true) (ic4 : PySem.W.typeIn K (.ref I4) = some (.type "type")) (id4 : PySem.W.subIn K (.ref X_TooMany) (.ref I4) = some false) (ie4 : (Value.ref X_TooMany == Value.ref I4) = false)
    (ia5 : PySem.W.nsIn K mainGlobals "OverflowError" = some none) (id5 : PySem.W.subIn K (.ref X_TooMany) (.type "OverflowError") = some true)
    {I6 : Addr} (ia6 : PySem.W.nsIn K mainGlobals "ShownError" = some (some (.ref I6))) (ib6 : PySem.W.hasDictIn K I6 = true) (ic6 : PySem.W.typeIn K (.ref I6) = some (.type "type")) (id6 : PySem.W.subIn K (.ref X_UnknownBlock) (.ref I6) = some false) (ie6 : (Value.ref X_UnknownBlock == Value.ref I6) = false)
    (ia7 : PySem.W.nsIn K mainGlobals "KeyError" = some none) (id7 : PySem.W.subIn K (.ref X_UnknownBlock) (.type "KeyError") = some true)
    {t0 : Tok} (v0 : PySem.W.nsIn K mainGlobals "LETTERS" = some (some (.str "abcdefghijklmnopqrstuvwxyz" t0)))
    {t1 : Tok} (v1 : PySem.W.nsIn K mainGlobals "MOST_LETTERS" = some (some (.int 8 t1)))
    {t2 : Tok} (v2 : PySem.W.nsIn K mainGlobals "MOST_OPERANDS" = some (some (.int 2 t2)))
    {t3 : Tok} (v3 : PySem.W.nsIn K mainGlobals "MOST_BLOCKS" = some (some (.int 8 t3)))
    {t4 : Tok} (v4 : PySem.W.nsIn K mainGlobals "MOST_ROWS" = some (some (.int 6 t4)))
    {t5 : Tok} (v5 : PySem.W.nsIn K mainGlobals "MOST_INPUTS" = some (some (.int 6 t5)))
    (z0 : PySem.W.nsIn K mainGlobals "len" = some none)
    (z1 : PySem.W.nsIn K mainGlobals "isinstance" = some none)
    (z2 : PySem.W.nsIn K mainGlobals "all" = some none)
    (z3 : PySem.W.nsIn K mainGlobals "any" = some none)
    (z4 : PySem.W.nsIn K mainGlobals "enumerate" = some none)
    (z5 : PySem.W.nsIn K mainGlobals "range" = some none)
    (z6 : PySem.W.nsIn K mainGlobals "max" = some none)
    (z7 : PySem.W.nsIn K mainGlobals "min" = some none)
    (z8 : PySem.W.nsIn K mainGlobals "sum" = some none)
    (z9 : PySem.W.nsIn K mainGlobals "abs" = some none)
    (z10 : PySem.W.nsIn K mainGlobals "int" = some none)
    (z11 : PySem.W.nsIn K mainGlobals "str" = some none)
    (z12 : PySem.W.nsIn K mainGlobals "tuple" = some none)
    (z13 : PySem.W.nsIn K mainGlobals "list" = some none)
    (z14 : PySem.W.nsIn K mainGlobals "dict" = some none)
    (z15 : PySem.W.nsIn K mainGlobals "sorted" = some none)
    (z16 : PySem.W.nsIn K mainGlobals "repr" = some none)
    (z17 : PySem.W.nsIn K mainGlobals "zip" = some none)
    (z18 : PySem.W.nsIn K mainGlobals "set" = some none)
    (z19 : PySem.W.nsIn K mainGlobals "bool" = some none)
    (z20 : PySem.W.nsIn K mainGlobals "ValueError" = some none)
    (z21 : PySem.W.nsIn K mainGlobals "KeyError" = some none)
    (z22 : PySem.W.nsIn K mainGlobals "RuntimeError" = some none)
    (z23 : PySem.W.nsIn K mainGlobals "OverflowError" = some none)
    (z24 : PySem.W.nsIn K mainGlobals "TypeError" = some none)
    (z25 : PySem.W.nsIn K mainGlobals "iter" = some none)
    (z26 : PySem.W.nsIn K mainGlobals "reversed" = some none)
    : ∃ fd : FuncData, (∀ (s : Shared) (v : Value), BindsTo s fd ⟨[v], []⟩ [("_law_script", v)]) ∧ ∀ base : Heap, K.In base → base.Ns mainGlobals mg → FnOk l.prog w K mg base (L2.CX l.prog w) 40 fa0 fd ["_law_script"] (spL K false (callN tab 19)) := by
  have e0 := hfa.symm.trans (PySem.W.mg_of X G q18)
  cases e0
  have hL_BadBlock : XLook K X_BadBlock := ⟨xsa_BadBlock, xex_BadBlock, xty_BadBlock, xkc_BadBlock, xga_BadBlock, xgg_BadBlock, xhd_BadBlock, xha_BadBlock, xhn_BadBlock, xht_BadBlock, xhm_BadBlock⟩
  have hX_BadBlock : XRow K mg "BadBlock" X_BadBlock "index" := xrow_mk X G (st := (inS 3 0)) xbV xg_BadBlock (by decide +kernel) xc_BadBlock xr_BadBlock hL_BadBlock xf_BadBlock (binit_own X G (by decide +kernel) (by decide +kernel) bq_BadBlock bs_BadBlock br_BadBlock bf_BadBlock) xi_BadBlock xt_BadBlock xL_BadBlock xC_BadBlock xK_BadBlock (initB_ok (by decide +kernel)) fun _ _ _ _ _ _ us hl => match us, hl with | [_, _], _ => rfl
  have hL_BadInput : XLook K X_BadInput := ⟨xsa_BadInput, xex_BadInput, xty_BadInput, xkc_BadInput, xga_BadInput, xgg_BadInput, xhd_BadInput, xha_BadInput, xhn_BadInput, xht_BadInput, xhm_BadInput⟩
  have hX_BadInput : XRow K mg "BadInput" X_BadInput "index" := xrow_mk X G (st := (inS 4 0)) xbV xg_BadInput (by decide +kernel) xc_BadInput xr_BadInput hL_BadInput xf_BadInput (binit_own X G (by decide +kernel) (by decide +kernel) bq_BadInput bs_BadInput br_BadInput bf_BadInput) xi_BadInput xt_BadInput xL_BadInput xC_BadInput xK_BadInput (initB_ok (by decide +kernel)) fun _ _ _ _ _ _ us hl => match us, hl with | [_, _], _ => rfl
  have hL_UnknownBlock : XLook K X_UnknownBlock := ⟨xsa_UnknownBlock, xex_UnknownBlock, xty_UnknownBlock, xkc_UnknownBlock, xga_UnknownBlock, xgg_UnknownBlock, xhd_UnknownBlock, xha_UnknownBlock, xhn_UnknownBlock, xht_UnknownBlock, xhm_UnknownBlock⟩
  have hX_UnknownBlock : XRow K mg "UnknownBlock" X_UnknownBlock "block" := xrow_mk X G (st := (inS 5 0)) xbK xg_UnknownBlock (by decide +kernel) xc_UnknownBlock xr_UnknownBlock hL_UnknownBlock xf_UnknownBlock (binit_blt X G (by decide +kernel) (by decide +kernel) bq_UnknownBlock (by decide +kernel) (by decide +kernel) (by decide +kernel) (by decide +kernel) bf_UnknownBlock) xi_UnknownBlock xt_UnknownBlock xL_UnknownBlock xC_UnknownBlock xK_UnknownBlock (initB_ok (by decide +kernel)) fun _ _ _ _ _ _ us hl => match us, hl with | [_, _], _ => rfl
  have hL_TooMany : XLook K X_TooMany := ⟨xsa_TooMany, xex_TooMany, xty_TooMany, xkc_TooMany, xga_TooMany, xgg_TooMany, xhd_TooMany, xha_TooMany, xhn_TooMany, xht_TooMany, xhm_TooMany⟩
  have hX_TooMany : XRow K mg "TooMany" X_TooMany "limit" := xrow_mk X G (st := (inS 6 0)) xbO xg_TooMany (by decide +kernel) xc_TooMany xr_TooMany hL_TooMany xf_TooMany (binit_blt X G (by decide +kernel) (by decide +kernel) bq_TooMany (by decide +kernel) (by decide +kernel) (by decide +kernel) (by decide +kernel) bf_TooMany) xi_TooMany xt_TooMany xL_TooMany xC_TooMany xK_TooMany (initB_ok (by decide +kernel)) fun _ _ _ _ _ _ us hl => match us, hl with | [_, _], _ => rfl
  let clsT : List (Str × Addr) := [("Source", C_Source)]
  let fnsT : List (Str × Addr) := [("is_name", a0), ("are_names", a1), ("has_kind", a2), ("is_row", a3), ("is_end", a4), ("is_block", a5), ("next_blocks", a6), ("checked_blocks", a7), ("checked_inputs", a8), ("_law_pool", a9), ("_law_draw", a10), ("_law_pick", a11), ("_law_names", a12), ("_law_row", a13), ("_law_end", a14), ("_law_source", a15), ("_law_told", a16), ("_law_bad", a17), ("law", fa)]
  let exT : List (Str × Addr × Str) := [("BadBlock", X_BadBlock, "index"), ("BadInput", X_BadInput, "index"), ("UnknownBlock", X_UnknownBlock, "block"), ("TooMany", X_TooMany, "limit")]
  have hb : ∀ x ∈ blts, mg x = none := List.forall_mem_cons.mpr ⟨PySem.W.mg_none_of X G z0, List.forall_mem_cons.mpr ⟨PySem.W.mg_none_of X G z1, List.forall_mem_cons.mpr ⟨PySem.W.mg_none_of X G z2, List.forall_mem_cons.mpr ⟨PySem.W.mg_none_of X G z3, List.forall_mem_cons.mpr ⟨PySem.W.mg_none_of X G z4, List.forall_mem_cons.mpr ⟨PySem.W.mg_none_of X G z5, List.forall_mem_cons.mpr ⟨PySem.W.mg_none_of X G z6, List.forall_mem_cons.mpr ⟨PySem.W.mg_none_of X G z7, List.forall_mem_cons.mpr ⟨PySem.W.mg_none_of X G z8, List.forall_mem_cons.mpr ⟨PySem.W.mg_none_of X G z9, List.forall_mem_cons.mpr ⟨PySem.W.mg_none_of X G z10, List.forall_mem_cons.mpr ⟨PySem.W.mg_none_of X G z11, List.forall_mem_cons.mpr ⟨PySem.W.mg_none_of X G z12, List.forall_mem_cons.mpr ⟨PySem.W.mg_none_of X G z13, List.forall_mem_cons.mpr ⟨PySem.W.mg_none_of X G z14, List.forall_mem_cons.mpr ⟨PySem.W.mg_none_of X G z15, List.forall_mem_cons.mpr ⟨PySem.W.mg_none_of X G z16, List.forall_mem_cons.mpr ⟨PySem.W.mg_none_of X G z17, List.forall_mem_cons.mpr ⟨PySem.W.mg_none_of X G z18, List.forall_mem_cons.mpr ⟨PySem.W.mg_none_of X G z19, List.forall_mem_cons.mpr ⟨PySem.W.mg_none_of X G z20, List.forall_mem_cons.mpr ⟨PySem.W.mg_none_of X G z21, List.forall_mem_cons.mpr ⟨PySem.W.mg_none_of X G z22, List.forall_mem_cons.mpr ⟨PySem.W.mg_none_of X G z23, List.forall_mem_cons.mpr ⟨PySem.W.mg_none_of X G z24, List.forall_mem_cons.mpr ⟨PySem.W.mg_none_of X G z25, List.forall_mem_cons.mpr ⟨PySem.W.mg_none_of X G z26, fun _ h => nomatch h⟩⟩⟩⟩⟩⟩⟩⟩⟩⟩⟩⟩⟩⟩⟩⟩⟩⟩⟩⟩⟩⟩⟩⟩⟩⟩⟩
  have hc : ∀ p ∈ cons, MgCon mg p.1 p.2 := List.forall_mem_cons.mpr ⟨fun v hv => by cases hv; exact ⟨_, PySem.W.mg_of X G v0, _, rfl⟩, List.forall_mem_cons.mpr ⟨fun v hv => by cases hv; exact ⟨_, PySem.W.mg_of X G v1, _, rfl⟩, List.forall_mem_cons.mpr ⟨fun v hv => by cases hv; exact ⟨_, PySem.W.mg_of X G v2, _, rfl⟩, List.forall_mem_cons.mpr ⟨fun v hv => by cases hv; exact ⟨_, PySem.W.mg_of X G v3, _, rfl⟩, List.forall_mem_cons.mpr ⟨fun v hv => by cases hv; exact ⟨_, PySem.W.mg_of X G v4, _, rfl⟩, List.forall_mem_cons.mpr ⟨fun v hv => by cases hv; exact ⟨_, PySem.W.mg_of X G v5, _, rfl⟩, fun _ h => nomatch h⟩⟩⟩⟩⟩⟩
  have gl : Glob (geOf K clsT fnsT exT false) mg pd := glob_mk (h := h) hb (con_all hc)
    (List.forall_mem_cons.mpr ⟨⟨X_BadBlock, by kernel_rfl⟩, List.forall_mem_cons.mpr ⟨⟨X_BadInput, by kernel_rfl⟩, List.forall_mem_cons.mpr ⟨⟨X_UnknownBlock, by kernel_rfl⟩, List.forall_mem_cons.mpr ⟨⟨X_TooMany, by kernel_rfl⟩, fun _ h => nomatch h⟩⟩⟩⟩)
    (List.forall_mem_cons.mpr ⟨hX_BadBlock, List.forall_mem_cons.mpr ⟨hX_BadInput, List.forall_mem_cons.mpr ⟨hX_UnknownBlock, List.forall_mem_cons.mpr ⟨hX_TooMany, fun _ h => nomatch h⟩⟩⟩⟩)
    (List.forall_mem_cons.mpr ⟨(List.forall_mem_cons.mpr ⟨exm_mk hL_BadBlock s_BadBlock_BadBlock (show decide (("BadBlock" : Str) = "BadBlock") = true by decide +kernel), List.forall_mem_cons.mpr ⟨exm_mk hL_BadInput s_BadBlock_BadInput (show decide (("BadBlock" : Str) = "BadInput") = false by decide +kernel), List.forall_mem_cons.mpr ⟨exm_mk hL_UnknownBlock s_BadBlock_UnknownBlock (show decide (("BadBlock" : Str) = "UnknownBlock") = false by decide +kernel), List.forall_mem_cons.mpr ⟨exm_mk hL_TooMany s_BadBlock_TooMany (show decide (("BadBlock" : Str) = "TooMany") = false by decide +kernel), fun _ h => nomatch h⟩⟩⟩⟩), List.forall_mem_cons.mpr ⟨(List.forall_mem_cons.mpr ⟨exm_mk hL_BadBlock s_BadInput_BadBlock (show decide (("BadInput" : Str) = "BadBlock") = false by decide +kernel), List.forall_mem_cons.mpr ⟨exm_mk hL_BadInput s_BadInput_BadInput (show decide (("BadInput" : Str) = "BadInput") = true by decide +kernel), List.forall_mem_cons.mpr ⟨exm_mk hL_UnknownBlock s_BadInput_UnknownBlock (show decide (("BadInput" : Str) = "UnknownBlock") = false by decide +kernel), List.forall_mem_cons.mpr ⟨exm_mk hL_TooMany s_BadInput_TooMany (show decide (("BadInput" : Str) = "TooMany") = false by decide +kernel), fun _ h => nomatch h⟩⟩⟩⟩), List.forall_mem_cons.mpr ⟨(List.forall_mem_cons.mpr ⟨exm_mk hL_BadBlock s_UnknownBlock_BadBlock (show decide (("UnknownBlock" : Str) = "BadBlock") = false by decide +kernel), List.forall_mem_cons.mpr ⟨exm_mk hL_BadInput s_UnknownBlock_BadInput (show decide (("UnknownBlock" : Str) = "BadInput") = false by decide +kernel), List.forall_mem_cons.mpr ⟨exm_mk hL_UnknownBlock s_UnknownBlock_UnknownBlock (show decide (("UnknownBlock" : Str) = "UnknownBlock") = true by decide +kernel), List.forall_mem_cons.mpr ⟨exm_mk hL_TooMany s_UnknownBlock_TooMany (show decide (("UnknownBlock" : Str) = "TooMany") = false by decide +kernel), fun _ h => nomatch h⟩⟩⟩⟩), List.forall_mem_cons.mpr ⟨(List.forall_mem_cons.mpr ⟨exm_mk hL_BadBlock s_TooMany_BadBlock (show decide (("TooMany" : Str) = "BadBlock") = false by decide +kernel), List.forall_mem_cons.mpr ⟨exm_mk hL_BadInput s_TooMany_BadInput (show decide (("TooMany" : Str) = "BadInput") = false by decide +kernel), List.forall_mem_cons.mpr ⟨exm_mk hL_UnknownBlock s_TooMany_UnknownBlock (show decide (("TooMany" : Str) = "UnknownBlock") = false by decide +kernel), List.forall_mem_cons.mpr ⟨exm_mk hL_TooMany s_TooMany_TooMany (show decide (("TooMany" : Str) = "TooMany") = true by decide +kernel), fun _ h => nomatch h⟩⟩⟩⟩), fun _ h => nomatch h⟩⟩⟩⟩)
    (List.forall_mem_cons.mpr ⟨⟨⟨pg_Source, hd_Source, po_Source, sa_Source⟩, PySem.W.mg_of X G gC_Source⟩, fun _ h => nomatch h⟩)
    (List.forall_mem_cons.mpr ⟨fun C ec => by cases ec.symm.trans (show lookA clsT "Source" = some C_Source by kernel_rfl); exact nf0, List.forall_mem_cons.mpr ⟨fun C ec => by cases ec.symm.trans (show lookA clsT "Source" = some C_Source by kernel_rfl); exact nf1, fun _ h => nomatch h⟩⟩)
    (List.forall_mem_cons.mpr ⟨fun C f ec => by cases ec.symm.trans (show lookA exT "BadBlock" = some (X_BadBlock, ("index" : Str)) by kernel_rfl); exact ⟨hL_BadBlock.exc, (isx_own X G ia0 ib0 ic0 id0 ie0)⟩, List.forall_mem_cons.mpr ⟨fun C f ec => by cases ec.symm.trans (show lookA exT "BadBlock" = some (X_BadBlock, ("index" : Str)) by kernel_rfl); exact ⟨hL_BadBlock.exc, (isx_blt (T := "ValueError") X G ia1 (by decide +kernel) (by decide +kernel) (by decide +kernel) id1)⟩, List.forall_mem_cons.mpr ⟨fun C f ec => by cases ec.symm.trans (show lookA exT "BadInput" = some (X_BadInput, ("index" : Str)) by kernel_rfl); exact ⟨hL_BadInput.exc, (isx_own X G ia2 ib2 ic2 id2 ie2)⟩, List.forall_mem_cons.mpr ⟨fun C f ec => by cases ec.symm.trans (show lookA exT "BadInput" = some (X_BadInput, ("index" : Str)) by kernel_rfl); exact ⟨hL_BadInput.exc, (isx_blt (T := "ValueError") X G ia3 (by decide +kernel) (by decide +kernel) (by decide +kernel) id3)⟩, List.forall_mem_cons.mpr ⟨fun C f ec => by cases ec.symm.trans (show lookA exT "TooMany" = some (X_TooMany, ("limit" : Str)) by kernel_rfl); exact ⟨hL_TooMany.exc, (isx_own X G ia4 ib4 ic4 id4 ie4)⟩, List.forall_mem_cons.mpr ⟨fun C f ec => by cases ec.symm.trans (show lookA exT "TooMany" = some (X_TooMany, ("limit" : Str)) by kernel_rfl); exact ⟨hL_TooMany.exc, (isx_blt (T := "OverflowError") X G ia5 (by decide +kernel) (by decide +kernel) (by decide +kernel) id5)⟩, List.forall_mem_cons.mpr ⟨fun C f ec => by cases ec.symm.trans (show lookA exT "UnknownBlock" = some (X_UnknownBlock, ("block" : Str)) by kernel_rfl); exact ⟨hL_UnknownBlock.exc, (isx_own X G ia6 ib6 ic6 id6 ie6)⟩, List.forall_mem_cons.mpr ⟨fun C f ec => by cases ec.symm.trans (show lookA exT "UnknownBlock" = some (X_UnknownBlock, ("block" : Str)) by kernel_rfl); exact ⟨hL_UnknownBlock.exc, (isx_blt (T := "KeyError") X G ia7 (by decide +kernel) (by decide +kernel) (by decide +kernel) id7)⟩, fun _ h => nomatch h⟩⟩⟩⟩⟩⟩⟩⟩)
  have b0 := (fun_mk (st := (topS 11)) l0 c0 k0).binds (ps := mkP (topS 11)) fun _ _ _ _ _ _ us hl => match us, hl with | [_], _ => rfl
  have D0 := def_mk (G := geOf K clsT fnsT exT false) (pd := pd) (tab := tab) (f := "is_name") (funA_mk (st := (topS 11)) l0 c0) (by decide +kernel) b0 (by rw [u_is_name, n_is_name]; rfl) (by kernel_rfl) t_is_name
  have b1 := (fun_mk (st := (topS 12)) l1 c1 k1).binds (ps := mkP (topS 12)) fun _ _ _ _ _ _ us hl => match us, hl with | [_], _ => rfl
  have D1 := def_mk (G := geOf K clsT fnsT exT false) (pd := pd) (tab := tab) (f := "are_names") (funA_mk (st := (topS 12)) l1 c1) (by decide +kernel) b1 (by rw [u_are_names, n_are_names]; rfl) (by kernel_rfl) t_are_names
  have b2 := (fun_mk (st := (topS 13)) l2 c2 k2).binds (ps := mkP (topS 13)) fun _ _ _ _ _ _ us hl => match us, hl with | [_, _, _], _ => rfl
  have D2 := def_mk (G := geOf K clsT fnsT exT false) (pd := pd) (tab := tab) (f := "has_kind") (funA_mk (st := (topS 13)) l2 c2) (by decide +kernel) b2 (by rw [u_has_kind, n_has_kind]; rfl) (by kernel_rfl) t_has_kind
  have b3 := (fun_mk (st := (topS 14)) l3 c3 k3).binds (ps := mkP (topS 14)) fun _ _ _ _ _ _ us hl => match us, hl with | [_], _ => rfl
  have D3 := def_mk (G := geOf K clsT fnsT exT false) (pd := pd) (tab := tab) (f := "is_row") (funA_mk (st := (topS 14)) l3 c3) (by decide +kernel) b3 (by rw [u_is_row, n_is_row]; rfl) (by kernel_rfl) t_is_row
  have b4 := (fun_mk (st := (topS 15)) l4 c4 k4).binds (ps := mkP (topS 15)) fun _ _ _ _ _ _ us hl => match us, hl with | [_], _ => rfl
  have D4 := def_mk (G := geOf K clsT fnsT exT false) (pd := pd) (tab := tab) (f := "is_end") (funA_mk (st := (topS 15)) l4 c4) (by decide +kernel) b4 (by rw [u_is_end, n_is_end]; rfl) (by kernel_rfl) t_is_end
  have b5 := (fun_mk (st := (topS 22)) l5 c5 k5).binds (ps := mkP (topS 22)) fun _ _ _ _ _ _ us hl => match us, hl with | [_], _ => rfl
  have D5 := def_mk (G := geOf K clsT fnsT exT false) (pd := pd) (tab := tab) (f := "is_block") (funA_mk (st := (topS 22)) l5 c5) (by decide +kernel) b5 (by rw [u_is_block, n_is_block]; rfl) (by kernel_rfl) t_is_block
  have b6 := (fun_mk (st := (topS 23)) l6 c6 k6).binds (ps := mkP (topS 23)) fun _ _ _ _ _ _ us hl => match us, hl with | [_], _ => rfl
  have D6 := def_mk (G := geOf K clsT fnsT exT false) (pd := pd) (tab := tab) (f := "next_blocks") (funA_mk (st := (topS 23)) l6 c6) (by decide +kernel) b6 (by rw [u_next_blocks, n_next_blocks]; rfl) (by kernel_rfl) t_next_blocks
  have b7 := (fun_mk (st := (topS 24)) l7 c7 k7).binds (ps := mkP (topS 24)) fun _ _ _ _ _ _ us hl => match us, hl with | [_], _ => rfl
  have D7 := def_mk (G := geOf K clsT fnsT exT false) (pd := pd) (tab := tab) (f := "checked_blocks") (funA_mk (st := (topS 24)) l7 c7) (by decide +kernel) b7 (by rw [u_checked_blocks, n_checked_blocks]; rfl) (by kernel_rfl) t_checked_blocks
  have b8 := (fun_mk (st := (topS 25)) l8 c8 k8).binds (ps := mkP (topS 25)) fun _ _ _ _ _ _ us hl => match us, hl with | [_], _ => rfl
  have D8 := def_mk (G := geOf K clsT fnsT exT false) (pd := pd) (tab := tab) (f := "checked_inputs") (funA_mk (st := (topS 25)) l8 c8) (by decide +kernel) b8 (by rw [u_checked_inputs, n_checked_inputs]; rfl) (by kernel_rfl) t_checked_inputs
  have b9 := (fun_mk (st := (topS 28)) l9 c9 k9).binds (ps := mkP (topS 28)) fun _ _ _ _ _ _ us hl => match us, hl with | [_, _], _ => rfl
  have D9 := def_mk (G := geOf K clsT fnsT exT false) (pd := pd) (tab := tab) (f := "_law_pool") (funA_mk (st := (topS 28)) l9 c9) (by decide +kernel) b9 (by rw [u_law_pool, n_law_pool]; rfl) (by kernel_rfl) t_law_pool
  have b10 := (fun_mk (st := (topS 29)) l10 c10 k10).binds (ps := mkP (topS 29)) fun _ _ _ _ _ _ us hl => match us, hl with | [_, _], _ => rfl
  have D10 := def_mk (G := geOf K clsT fnsT exT false) (pd := pd) (tab := tab) (f := "_law_draw") (funA_mk (st := (topS 29)) l10 c10) (by decide +kernel) b10 (by rw [u_law_draw, n_law_draw]; rfl) (by kernel_rfl) t_law_draw
  have b11 := (fun_mk (st := (topS 30)) l11 c11 k11).binds (ps := mkP (topS 30)) fun _ _ _ _ _ _ us hl => match us, hl with | [_, _], _ => rfl
  have D11 := def_mk (G := geOf K clsT fnsT exT false) (pd := pd) (tab := tab) (f := "_law_pick") (funA_mk (st := (topS 30)) l11 c11) (by decide +kernel) b11 (by rw [u_law_pick, n_law_pick]; rfl) (by kernel_rfl) t_law_pick
  have b12 := (fun_mk (st := (topS 31)) l12 c12 k12).binds (ps := mkP (topS 31)) fun _ _ _ _ _ _ us hl => match us, hl with | [_, _], _ => rfl
  have D12 := def_mk (G := geOf K clsT fnsT exT false) (pd := pd) (tab := tab) (f := "_law_names") (funA_mk (st := (topS 31)) l12 c12) (by decide +kernel) b12 (by rw [u_law_names, n_law_names]; rfl) (by kernel_rfl) t_law_names
  have b13 := (fun_mk (st := (topS 32)) l13 c13 k13).binds (ps := mkP (topS 32)) fun _ _ _ _ _ _ us hl => match us, hl with | [_, _, _], _ => rfl
  have D13 := def_mk (G := geOf K clsT fnsT exT false) (pd := pd) (tab := tab) (f := "_law_row") (funA_mk (st := (topS 32)) l13 c13) (by decide +kernel) b13 (by rw [u_law_row, n_law_row]; rfl) (by kernel_rfl) t_law_row
  have b14 := (fun_mk (st := (topS 33)) l14 c14 k14).binds (ps := mkP (topS 33)) fun _ _ _ _ _ _ us hl => match us, hl with | [_, _, _], _ => rfl
  have D14 := def_mk (G := geOf K clsT fnsT exT false) (pd := pd) (tab := tab) (f := "_law_end") (funA_mk (st := (topS 33)) l14 c14) (by decide +kernel) b14 (by rw [u_law_end, n_law_end]; rfl) (by kernel_rfl) t_law_end
  have b15 := (fun_mk (st := (topS 34)) l15 c15 k15).binds (ps := mkP (topS 34)) fun _ _ _ _ _ _ us hl => match us, hl with | [_, _], _ => rfl
  have D15 := def_mk (G := geOf K clsT fnsT exT false) (pd := pd) (tab := tab) (f := "_law_source") (funA_mk (st := (topS 34)) l15 c15) (by decide +kernel) b15 (by rw [u_law_source, n_law_source]; rfl) (by kernel_rfl) t_law_source
  have b16 := (fun_mk (st := (topS 35)) l16 c16 k16).binds (ps := mkP (topS 35)) fun _ _ _ _ _ _ us hl => match us, hl with | [_, _], _ => rfl
  have D16 := def_mk (G := geOf K clsT fnsT exT false) (pd := pd) (tab := tab) (f := "_law_told") (funA_mk (st := (topS 35)) l16 c16) (by decide +kernel) b16 (by rw [u_law_told, n_law_told]; rfl) (by kernel_rfl) t_law_told
  have b17 := (fun_mk (st := (topS 36)) l17 c17 k17).binds (ps := mkP (topS 36)) fun _ _ _ _ _ _ us hl => match us, hl with | [_], _ => rfl
  have D17 := def_mk (G := geOf K clsT fnsT exT false) (pd := pd) (tab := tab) (f := "_law_bad") (funA_mk (st := (topS 36)) l17 c17) (by decide +kernel) b17 (by rw [u_law_bad, n_law_bad]; rfl) (by kernel_rfl) t_law_bad
  have b18 := (fun_mk (st := (topS 37)) l18 c18 k18).binds (ps := mkP (topS 37)) fun _ _ _ _ _ _ us hl => match us, hl with | [_], _ => rfl
  have D18 := def_mk (G := geOf K clsT fnsT exT false) (pd := pd) (tab := tab) (f := "law") (funA_mk (st := (topS 37)) l18 c18) (by decide +kernel) b18 (by rw [u_law, n_law]; rfl) (by kernel_rfl) t_law
  have b19 := binds_d (x := "__init__") (qual := "Source.__init__") (st := (inS 26 0)) (kV := kV19) (doc := dc19) (pm := pm19) (an := an19) (cdv := cd19) (ct := ct19) (ps := mkP (inS 26 0)) d19 fun us hl => match us, hl with | [_, _, _], _ => ⟨_, rfl, rfl⟩
  have D19 := def_mk (G := geOf K clsT fnsT exT false) (pd := pd) (tab := tab) (f := "Source.__init__") (funA_mk (st := (inS 26 0)) l19 c19) (by decide +kernel) b19 (by rw [u_Source_init, n_Source_init]; rfl) (by kernel_rfl) t_Source_init
  have rows : Rows (geOf K clsT fnsT exT false) mg pd tab := {
    fns := List.forall_mem_cons.mpr ⟨⟨a0, _, _, by kernel_rfl, PySem.W.mg_of X G q0, k0, D0⟩, List.forall_mem_cons.mpr ⟨⟨a1, _, _, by kernel_rfl, PySem.W.mg_of X G q1, k1, D1⟩, List.forall_mem_cons.mpr ⟨⟨a2, _, _, by kernel_rfl, PySem.W.mg_of X G q2, k2, D2⟩, List.forall_mem_cons.mpr ⟨⟨a3, _, _, by kernel_rfl, PySem.W.mg_of X G q3, k3, D3⟩, List.forall_mem_cons.mpr ⟨⟨a4, _, _, by kernel_rfl, PySem.W.mg_of X G q4, k4, D4⟩, List.forall_mem_cons.mpr ⟨⟨a5, _, _, by kernel_rfl, PySem.W.mg_of X G q5, k5, D5⟩, List.forall_mem_cons.mpr ⟨⟨a6, _, _, by kernel_rfl, PySem.W.mg_of X G q6, k6, D6⟩, List.forall_mem_cons.mpr ⟨⟨a7, _, _, by kernel_rfl, PySem.W.mg_of X G q7, k7, D7⟩, List.forall_mem_cons.mpr ⟨⟨a8, _, _, by kernel_rfl, PySem.W.mg_of X G q8, k8, D8⟩, List.forall_mem_cons.mpr ⟨⟨a9, _, _, by kernel_rfl, PySem.W.mg_of X G q9, k9, D9⟩, List.forall_mem_cons.mpr ⟨⟨a10, _, _, by kernel_rfl, PySem.W.mg_of X G q10, k10, D10⟩, List.forall_mem_cons.mpr ⟨⟨a11, _, _, by kernel_rfl, PySem.W.mg_of X G q11, k11, D11⟩, List.forall_mem_cons.mpr ⟨⟨a12, _, _, by kernel_rfl, PySem.W.mg_of X G q12, k12, D12⟩, List.forall_mem_cons.mpr ⟨⟨a13, _, _, by kernel_rfl, PySem.W.mg_of X G q13, k13, D13⟩, List.forall_mem_cons.mpr ⟨⟨a14, _, _, by kernel_rfl, PySem.W.mg_of X G q14, k14, D14⟩, List.forall_mem_cons.mpr ⟨⟨a15, _, _, by kernel_rfl, PySem.W.mg_of X G q15, k15, D15⟩, List.forall_mem_cons.mpr ⟨⟨a16, _, _, by kernel_rfl, PySem.W.mg_of X G q16, k16, D16⟩, List.forall_mem_cons.mpr ⟨⟨a17, _, _, by kernel_rfl, PySem.W.mg_of X G q17, k17, D17⟩, List.forall_mem_cons.mpr ⟨⟨fa, _, _, by kernel_rfl, PySem.W.mg_of X G q18, k18, D18⟩, fun _ h => nomatch h⟩⟩⟩⟩⟩⟩⟩⟩⟩⟩⟩⟩⟩⟩⟩⟩⟩⟩⟩
    news := List.forall_mem_cons.mpr ⟨⟨C_Source, a19, _, _, by kernel_rfl, ⟨mk_Source, q19, w19, kp_Source⟩, D19⟩, fun _ h => nomatch h⟩
    mths := fun c m hm => nomatch hm }
  refine ⟨_, fun s v => .of_eq rfl, fun base _ _ => fn_law (G := geOf K clsT fnsT exT false) rfl (all_ok (P := l.prog) (w := w) (base := base) gl rows 19 "law" fa _ _ D18).1⟩
end K03
open PySem PySem.W PyProof.Rows
set_option maxHeartbeats 0 in
theorem PySem.Challenge.cw_valueshown_k03_sources_refused_holds : PySem.Challenge.rw_valueshown_k03_sources_refused.Holds := by
  w_on; o_law; k_head; (case hw => w_witness2)
  k_fill
  refine L2.walk_of (l := PySem.Challenge.rw_valueshown_k03_sources_refused) (n := 63) (k := 40) (x := "_law_script") (CX := fun w => L2.CX PySem.Challenge.rw_valueshown_k03_sources_refused.prog w) (sp := fun w => Mi.spL _ false (Mi.callN K03.tab 19)) rfl (by decide) rfl ⟨rfl, by decide, by decide⟩ (fun w h Y => PySem.W.kIn_of Y) ?F (fun _ _ a ns hl _ hS => (K03.law_true ns hl).elim fun _ e => Mi.spL_of hS e) (fun _ _ _ _ _ h => Mi.cx_no h)
  case F =>
    intro w mg fa h KX G hmg
    refine' K03.all_mk KX G hmg ?gC_Source ?q0 ?l0 ?c0 ?k0 ?q1 ?l1 ?c1 ?k1 ?q2 ?l2 ?c2 ?k2 ?q3 ?l3 ?c3 ?k3 ?q4 ?l4 ?c4 ?k4 ?q5 ?l5 ?c5 ?k5 ?q6 ?l6 ?c6 ?k6 ?q7 ?l7 ?c7 ?k7 ?q8 ?l8 ?c8 ?k8 ?q9 ?l9 ?c9 ?k9 ?q10 ?l10 ?c10 ?k10 ?q11 ?l11 ?c11 ?k11 ?q12 ?l12 ?c12 ?k12 ?q13 ?l13 ?c13 ?k13 ?q14 ?l14 ?c14 ?k14 ?q15 ?l15 ?c15 ?k15 ?q16 ?l16 ?c16 ?k16 ?q17 ?l17 ?c17 ?k17 ?q18 ?l18 ?c18 ?k18 ?q19 ?w19 ?l19 ?c19 ?k19 ?d19 ?pg_Source ?hd_Source ?po_Source ?sa_Source ?mk_Source ?kp_Source ?nf0 ?nf1 ?xg_BadBlock ?xc_BadBlock ?xr_BadBlock ?xsa_BadBlock ?xex_BadBlock ?xty_BadBlock ?xkc_BadBlock ?xga_BadBlock ?xgg_BadBlock ?xhd_BadBlock ?xha_BadBlock ?xhn_BadBlock ?xht_BadBlock ?xhm_BadBlock ?xf_BadBlock ?xi_BadBlock ?xt_BadBlock ?xL_BadBlock ?xC_BadBlock ?xK_BadBlock ?bq_BadBlock ?bs_BadBlock ?br_BadBlock ?bf_BadBlock ?xg_BadInput ?xc_BadInput ?xr_BadInput ?xsa_BadInput ?xex_BadInput ?xty_BadInput ?xkc_BadInput ?xga_BadInput ?xgg_BadInput ?xhd_BadInput ?xha_BadInput ?xhn_BadInput ?xht_BadInput ?xhm_BadInput ?xf_BadInput ?xi_BadInput ?xt_BadInput ?xL_BadInput ?xC_BadInput ?xK_BadInput ?bq_BadInput ?bs_BadInput ?br_BadInput ?bf_BadInput ?xg_UnknownBlock ?xc_UnknownBlock ?xr_UnknownBlock ?xsa_UnknownBlock ?xex_UnknownBlock ?xty_UnknownBlock ?xkc_UnknownBlock ?xga_UnknownBlock ?xgg_UnknownBlock ?xhd_UnknownBlock ?xha_UnknownBlock ?xhn_UnknownBlock ?xht_UnknownBlock ?xhm_UnknownBlock ?xf_UnknownBlock ?xi_UnknownBlock ?xt_UnknownBlock ?xL_UnknownBlock ?xC_UnknownBlock ?xK_UnknownBlock ?bq_UnknownBlock ?bf_UnknownBlock ?xg_TooMany ?xc_TooMany ?xr_TooMany ?xsa_TooMany ?xex_TooMany ?xty_TooMany ?xkc_TooMany ?xga_TooMany ?xgg_TooMany ?xhd_TooMany ?xha_TooMany ?xhn_TooMany ?xht_TooMany ?xhm_TooMany ?xf_TooMany ?xi_TooMany ?xt_TooMany ?xL_TooMany ?xC_TooMany ?xK_TooMany ?bq_TooMany ?bf_TooMany ?s_BadBlock_BadBlock ?s_BadBlock_BadInput ?s_BadBlock_UnknownBlock ?s_BadBlock_TooMany ?s_BadInput_BadBlock ?s_BadInput_BadInput ?s_BadInput_UnknownBlock ?s_BadInput_TooMany ?s_UnknownBlock_BadBlock ?s_UnknownBlock_BadInput ?s_UnknownBlock_UnknownBlock ?s_UnknownBlock_TooMany ?s_TooMany_BadBlock ?s_TooMany_BadInput ?s_TooMany_UnknownBlock ?s_TooMany_TooMany ?ia0 ?ib0 ?ic0 ?id0 ?ie0 ?ia1 ?id1 ?ia2 ?ib2 ?ic2 ?id2 ?ie2 ?ia3 ?id3 ?ia4 ?ib4 ?ic4 ?id4 ?ie4 ?ia5 ?id5 ?ia6 ?ib6 ?ic6 ?id6 ?ie6 ?ia7 ?id7 ?v0 ?v1 ?v2 ?v3 ?v4 ?v5 ?z0 ?z1 ?z2 ?z3 ?z4 ?z5 ?z6 ?z7 ?z8 ?z9 ?z10 ?z11 ?z12 ?z13 ?z14 ?z15 ?z16 ?z17 ?z18 ?z19 ?z20 ?z21 ?z22 ?z23 ?z24 ?z25 ?z26
    (case gC_Source => k_is)
    (case q0 => k_is)
    (case l0 => k_is)
    (case c0 => k_is)
    (case k0 => k_is)
    (case q1 => k_is)
    (case l1 => k_is)
    (case c1 => k_is)
    (case k1 => k_is)
    (case q2 => k_is)
    (case l2 => k_is)
    (case c2 => k_is)
    (case k2 => k_is)
    (case q3 => k_is)
    (case l3 => k_is)
    (case c3 => k_is)
    (case k3 => k_is)
    (case q4 => k_is)
    (case l4 => k_is)
    (case c4 => k_is)
    (case k4 => k_is)
    (case q5 => k_is)
    (case l5 => k_is)
    (case c5 => k_is)
    (case k5 => k_is)
    (case q6 => k_is)
    (case l6 => k_is)
    (case c6 => k_is)
    (case k6 => k_is)
    (case q7 => k_is)
    (case l7 => k_is)
    (case c7 => k_is)
    (case k7 => k_is)
    (case q8 => k_is)
    (case l8 => k_is)
    (case c8 => k_is)
    (case k8 => k_is)
    (case q9 => k_is)
    (case l9 => k_is)
    (case c9 => k_is)
    (case k9 => k_is)
    (case q10 => k_is)
    (case l10 => k_is)
    (case c10 => k_is)
    (case k10 => k_is)
    (case q11 => k_is)
    (case l11 => k_is)
    (case c11 => k_is)
    (case k11 => k_is)
    (case q12 => k_is)
    (case l12 => k_is)
    (case c12 => k_is)
    (case k12 => k_is)
    (case q13 => k_is)
    (case l13 => k_is)
    (case c13 => k_is)
    (case k13 => k_is)
    (case q14 => k_is)
    (case l14 => k_is)
    (case c14 => k_is)
    (case k14 => k_is)
    (case q15 => k_is)
    (case l15 => k_is)
    (case c15 => k_is)
    (case k15 => k_is)
    (case q16 => k_is)
    (case l16 => k_is)
    (case c16 => k_is)
    (case k16 => k_is)
    (case q17 => k_is)
    (case l17 => k_is)
    (case c17 => k_is)
    (case k17 => k_is)
    (case q18 => k_is)
    (case l18 => k_is)
    (case c18 => k_is)
    (case k18 => k_is)
    (case q19 => k_is)
    (case w19 => k_is)
    (case l19 => k_is)
    (case c19 => k_is)
    (case k19 => k_is)
    (case d19 => k_is)
    (case pg_Source => k_is)
    (case hd_Source => k_is)
    (case po_Source => k_is)
    (case sa_Source => k_is)
    (case mk_Source => k_is)
    (case kp_Source => k_is)
    (case nf0 => k_is)
    (case nf1 => k_is)
    (case xg_BadBlock => k_is)
    (case xc_BadBlock => k_is)
    (case xr_BadBlock => decide +kernel)
    (case xsa_BadBlock => k_is)
    (case xex_BadBlock => k_is)
    (case xty_BadBlock => k_is)
    (case xkc_BadBlock => k_is)
    (case xga_BadBlock => k_is)
    (case xgg_BadBlock => k_is)
    (case xhd_BadBlock => k_is)
    (case xha_BadBlock => k_is)
    (case xhn_BadBlock => k_is)
    (case xht_BadBlock => k_is)
    (case xhm_BadBlock => k_is)
    (case xf_BadBlock => k_is)
    (case xi_BadBlock => k_is)
    (case xt_BadBlock => k_is)
    (case xL_BadBlock => k_is)
    (case xC_BadBlock => k_is)
    (case xK_BadBlock => k_is)
    (case bq_BadBlock => k_is)
    (case bs_BadBlock => k_is)
    (case br_BadBlock => k_is)
    (case bf_BadBlock => k_is)
    (case xg_BadInput => k_is)
    (case xc_BadInput => k_is)
    (case xr_BadInput => decide +kernel)
    (case xsa_BadInput => k_is)
    (case xex_BadInput => k_is)
    (case xty_BadInput => k_is)
    (case xkc_BadInput => k_is)
    (case xga_BadInput => k_is)
    (case xgg_BadInput => k_is)
    (case xhd_BadInput => k_is)
    (case xha_BadInput => k_is)
    (case xhn_BadInput => k_is)
    (case xht_BadInput => k_is)
    (case xhm_BadInput => k_is)
    (case xf_BadInput => k_is)
    (case xi_BadInput => k_is)
    (case xt_BadInput => k_is)
    (case xL_BadInput => k_is)
    (case xC_BadInput => k_is)
    (case xK_BadInput => k_is)
    (case bq_BadInput => k_is)
    (case bs_BadInput => k_is)
    (case br_BadInput => k_is)
    (case bf_BadInput => k_is)
    (case xg_UnknownBlock => k_is)
    (case xc_UnknownBlock => k_is)
    (case xr_UnknownBlock => decide +kernel)
    (case xsa_UnknownBlock => k_is)
    (case xex_UnknownBlock => k_is)
    (case xty_UnknownBlock => k_is)
    (case xkc_UnknownBlock => k_is)
    (case xga_UnknownBlock => k_is)
    (case xgg_UnknownBlock => k_is)
    (case xhd_UnknownBlock => k_is)
    (case xha_UnknownBlock => k_is)
    (case xhn_UnknownBlock => k_is)
    (case xht_UnknownBlock => k_is)
    (case xhm_UnknownBlock => k_is)
    (case xf_UnknownBlock => k_is)
    (case xi_UnknownBlock => k_is)
    (case xt_UnknownBlock => k_is)
    (case xL_UnknownBlock => k_is)
    (case xC_UnknownBlock => k_is)
    (case xK_UnknownBlock => k_is)
    (case bq_UnknownBlock => k_is)
    (case bf_UnknownBlock => k_is)
    (case xg_TooMany => k_is)
    (case xc_TooMany => k_is)
    (case xr_TooMany => decide +kernel)
    (case xsa_TooMany => k_is)
    (case xex_TooMany => k_is)
    (case xty_TooMany => k_is)
    (case xkc_TooMany => k_is)
    (case xga_TooMany => k_is)
    (case xgg_TooMany => k_is)
    (case xhd_TooMany => k_is)
    (case xha_TooMany => k_is)
    (case xhn_TooMany => k_is)
    (case xht_TooMany => k_is)
    (case xhm_TooMany => k_is)
    (case xf_TooMany => k_is)
    (case xi_TooMany => k_is)
    (case xt_TooMany => k_is)
    (case xL_TooMany => k_is)
    (case xC_TooMany => k_is)
    (case xK_TooMany => k_is)
    (case bq_TooMany => k_is)
    (case bf_TooMany => k_is)
    (case s_BadBlock_BadBlock => k_is)
    (case s_BadBlock_BadInput => k_is)
    (case s_BadBlock_UnknownBlock => k_is)
    (case s_BadBlock_TooMany => k_is)
    (case s_BadInput_BadBlock => k_is)
    (case s_BadInput_BadInput => k_is)
    (case s_BadInput_UnknownBlock => k_is)
    (case s_BadInput_TooMany => k_is)
    (case s_UnknownBlock_BadBlock => k_is)
    (case s_UnknownBlock_BadInput => k_is)
    (case s_UnknownBlock_UnknownBlock => k_is)
    (case s_UnknownBlock_TooMany => k_is)
    (case s_TooMany_BadBlock => k_is)
    (case s_TooMany_BadInput => k_is)
    (case s_TooMany_UnknownBlock => k_is)
    (case s_TooMany_TooMany => k_is)
    (case ia0 => k_is)
    (case ib0 => k_is)
    (case ic0 => k_is)
    (case id0 => k_is)
    (case ie0 => decide +kernel)
    (case ia1 => k_is)
    (case id1 => k_is)
    (case ia2 => k_is)
    (case ib2 => k_is)
    (case ic2 => k_is)
    (case id2 => k_is)
    (case ie2 => decide +kernel)
    (case ia3 => k_is)
    (case id3 => k_is)
    (case ia4 => k_is)
    (case ib4 => k_is)
    (case ic4 => k_is)
    (case id4 => k_is)
    (case ie4 => decide +kernel)
    (case ia5 => k_is)
    (case id5 => k_is)
    (case ia6 => k_is)
    (case ib6 => k_is)
    (case ic6 => k_is)
    (case id6 => k_is)
    (case ie6 => decide +kernel)
    (case ia7 => k_is)
    (case id7 => k_is)
    (case v0 => k_is)
    (case v1 => k_is)
    (case v2 => k_is)
    (case v3 => k_is)
    (case v4 => k_is)
    (case v5 => k_is)
    (case z0 => k_is)
    (case z1 => k_is)
    (case z2 => k_is)
    (case z3 => k_is)
    (case z4 => k_is)
    (case z5 => k_is)
    (case z6 => k_is)
    (case z7 => k_is)
    (case z8 => k_is)
    (case z9 => k_is)
    (case z10 => k_is)
    (case z11 => k_is)
    (case z12 => k_is)
    (case z13 => k_is)
    (case z14 => k_is)
    (case z15 => k_is)
    (case z16 => k_is)
    (case z17 => k_is)
    (case z18 => k_is)
    (case z19 => k_is)
    (case z20 => k_is)
    (case z21 => k_is)
    (case z22 => k_is)
    (case z23 => k_is)
    (case z24 => k_is)
    (case z25 => k_is)
    (case z26 => k_is)

