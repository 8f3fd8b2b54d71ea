import PyProof.Rows.All
import Wide.All
import OpenK.AllK
import Wide.FinOn
import PySem.Challenge.RW_valueshown_k01_names_and_rows
import HandS.ForMost
import HandS.Flow
import HandS.ForExc
import HandS.CallSlots
import HandS.IsInst
import HandS.Deep
import HandS.TupAny
import HandS.Style
import KE.GoesEnum
import KE.DataFind
set_option Elab.async false
set_option linter.all false
set_option maxRecDepth 100000
set_option maxHeartbeats 4000000
/-! Mi, part A: small values D (tuples, lists, dicts, instances by value), owned values O, and how they stand in the abstract heap of HandS. -/
namespace Mi
open PySem PySem.Spec PyProof.Rows L2

/-- data: what is frozen (never changed again), by value; loc n is the n-th cell -/
inductive D where
  | non | bl (b : Bool) | int (i : Int) | str (x : Str)
  | tup (xs : List D) | lst (xs : List D) | dic (ks : List Key) (xs : List D) | ins (c : Str) (fs : List Str) (xs : List D)
  | loc (n : Nat) | fn (f : Str)
  /-- the script: a list of ints that is only read -/
  | scr (ns : List Int)
  /-- a built-in type, a class of the program -/
  | ty (n : String) | cls (c : Str)

/-- owned: a frozen datum, or a container that nobody else knows -/
inductive O where
  | fz (d : D) | lst (xs : List D) | dic (ks : List Key) (xs : List D) | ins (c : Str) (fs : List Str) (xs : List D)

def frz : O → D
  | .fz d => d
  | .lst xs => .lst xs
  | .dic ks xs => .dic ks xs
  | .ins c fs xs => .ins c fs xs

/-- what is fixed for a program: the written part, its classes and its defs by name -/
structure GE where
  K : PySem.W.Frag
  cls : Str → Option Addr
  fns : Str → Option Addr
  exc : Str → Option (Addr × Str)
  /-- whether all tuples are known to bear no dict -/
  bare : Bool

/-- a tuple that is read -/
def isTupO (G : GE) (vs : List V) : HO → Prop
  | .tup us => G.bare = false ∧ us = vs
  | .frz o (.tup us) => us = vs ∧ (G.bare = true → o.dict = none)
  | _ => False
def Tr (G : GE) (H : Hp) (M : List Addr) (a : Addr) (vs : List V) : Prop :=
  (∃ ho, H a = some ho ∧ isTupO G vs ho ∧ a ∉ M) ∨ ∃ o its n, List.lookup a G.K = some o ∧ o.cls = Value.type "tuple" ∧ o.data = Data.seq its n ∧ its.size ≤ sizeLine ∧ Vals vs its.toList ∧ (G.bare = true → o.dict = none)
theorem isTupO.rd {G : GE} {H : Hp} {a : Addr} {vs : List V} {ho : HO} (h : H a = some ho) (t : isTupO G vs ho) : Rd H a (.tup vs) := by
  unfold isTupO at t
  split at t
  · obtain ⟨_, e⟩ := t; subst e; exact .inl h
  · obtain ⟨e, _⟩ := t; subst e; exact .inr ⟨_, h⟩
  · exact t.elim
theorem isTupO.nmut {G : GE} {vs : List V} {ho : HO} (t : isTupO G vs ho) : ¬ Mut (some ho) := by
  unfold isTupO at t
  split at t
  · exact fun z => z
  · exact fun z => z
  · exact t.elim

/-- a list of the written part or a locked one, that is read -/
def Lr (G : GE) (H : Hp) (M : List Addr) (a : Addr) (vs : List V) : Prop :=
  (Rd H a (.lst vs) ∧ a ∉ M) ∨ ∃ o its n, List.lookup a G.K = some o ∧ o.cls = Value.type "list" ∧ o.dict = none ∧ o.data = Data.seq its n ∧ its.size ≤ sizeLine ∧ Vals vs its.toList

mutual
def RepD (G : GE) (ρ : List Addr) (H : Hp) (M : List Addr) : D → V → Prop
  | .non, v => v = .non
  | .bl b, v => v = .bl b
  | .int i, v => v = .int i
  | .str x, v => v = .str x
  | .tup ds, v => ∃ a vs, v = .ref a ∧ Tr G H M a vs ∧ RepDs G ρ H M ds vs
  | .lst ds, v => ∃ a vs, v = .ref a ∧ H a = some (.lst vs) ∧ a ∉ M ∧ RepDs G ρ H M ds vs
  | .dic ks ds, v => ∃ a vs, v = .ref a ∧ Rd H a (.dK (ks.zip vs)) ∧ ks.length = vs.length ∧ a ∉ M ∧ RepDs G ρ H M ds vs
  | .ins c fs ds, v => ∃ a C dx vs, v = .ref a ∧ G.cls c = some C ∧ H a = some (.ins C dx (fs.zip vs)) ∧ fs.length = vs.length ∧ a ∉ M ∧ RepDs G ρ H M ds vs
  | .loc n, v => ∃ a, v = .ref a ∧ ρ[n]? = some a
  | .fn f, v => ∃ a, v = .ref a ∧ G.fns f = some a
  | .scr ns, v => ∃ a, v = .ref a ∧ Lr G H M a (ns.map V.int)
  | .ty n, v => v = .ty n
  | .cls c, v => ∃ C, v = .ref C ∧ G.cls c = some C
def RepDs (G : GE) (ρ : List Addr) (H : Hp) (M : List Addr) : List D → List V → Prop
  | [], vs => vs = []
  | d :: ds, vs => ∃ v r, vs = v :: r ∧ RepD G ρ H M d v ∧ RepDs G ρ H M ds r
end

/-- owned: the value, its own address -/
def Own (G : GE) (ρ : List Addr) (H : Hp) (M : List Addr) : O → V → List Addr → Prop
  | .fz d, v, F => RepD G ρ H M d v ∧ F = []
  | .lst ds, v, F => ∃ a vs, v = .ref a ∧ H a = some (.lst vs) ∧ RepDs G ρ H M ds vs ∧ F = [a]
  | .dic ks ds, v, F => ∃ a vs, v = .ref a ∧ H a = some (.dK (ks.zip vs)) ∧ ks.length = vs.length ∧ RepDs G ρ H M ds vs ∧ F = [a]
  | .ins c fs ds, v, F => ∃ a C dx vs, v = .ref a ∧ G.cls c = some C ∧ H a = some (.ins C dx (fs.zip vs)) ∧ fs.length = vs.length ∧ RepDs G ρ H M ds vs ∧ F = [a]
def Owns (G : GE) (ρ : List Addr) (H : Hp) (M : List Addr) : List (O × V) → List Addr → Prop
  | [], F => F = []
  | p :: ps, F => ∃ A B, F = A ++ B ∧ Own G ρ H M p.1 p.2 A ∧ Owns G ρ H M ps B

/-- the configuration: the cells h, and all values that are at hand -/
def Cf (G : GE) (H : Hp) (h : List O) (L : List (O × V)) : Prop :=
  ∃ ρ M, ρ.length = h.length ∧ Owns G ρ H M (h.zip (ρ.map V.ref) ++ L) M ∧ M.Nodup

/-! ### how it stays -/
section
variable {G : GE} {ρ ρ' : List Addr} {H H' : Hp} {M M' : List Addr}

theorem Tr.stay {a : Addr} {vs : List V} (t : Tr G H M a vs) (hk : ∀ b o, H b = some o → b ∉ M → H' b = some o) (hm : ∀ b ∈ M', b ∈ M ∨ H b = none) : Tr G H' M' a vs := by
  rcases t with ⟨ho, r, i, n⟩ | t
  · refine .inl ⟨ho, hk _ _ r n, i, fun z => ?_⟩
    rcases hm a z with z | z
    · exact n z
    · rw [r] at z; cases z
  · exact .inr t

theorem Rd.stay {a : Addr} {u : HO} (r : Rd H a u) (n : a ∉ M) (hk : ∀ b o, H b = some o → b ∉ M → H' b = some o) (hm : ∀ b ∈ M', b ∈ M ∨ H b = none) : Rd H' a u ∧ a ∉ M' := by
  refine ⟨?_, fun z => ?_⟩
  · rcases r with r | ⟨o, r⟩
    · exact .inl (hk _ _ r n)
    · exact .inr ⟨o, hk _ _ r n⟩
  · rcases hm a z with z | z
    · exact n z
    · rcases r with r | ⟨o, r⟩ <;> (rw [r] at z; cases z)

variable (hρ : ∀ (n : Nat) a, ρ[n]? = some a → ρ'[n]? = some a) (hk : ∀ b o, H b = some o → b ∉ M → H' b = some o) (hm : ∀ b ∈ M', b ∈ M ∨ H b = none)
include hρ hk hm
mutual
theorem RepD.stay : ∀ (d : D) (v : V), RepD G ρ H M d v → RepD G ρ' H' M' d v
  | .non, v, h => h
  | .bl b, v, h => h
  | .int i, v, h => h
  | .str x, v, h => h
  | .tup ds, v, h => by
    obtain ⟨a, vs, e, t, r⟩ := h
    exact ⟨a, vs, e, t.stay hk hm, RepDs.stay ds vs r⟩
  | .lst ds, v, h => by
    obtain ⟨a, vs, e, t, n, r⟩ := h
    exact ⟨a, vs, e, hk _ _ t n, (Rd.stay (.inl t) n hk hm).2, RepDs.stay ds vs r⟩
  | .dic ks ds, v, h => by
    obtain ⟨a, vs, e, t, l, n, r⟩ := h
    exact ⟨a, vs, e, (Rd.stay t n hk hm).1, l, (Rd.stay t n hk hm).2, RepDs.stay ds vs r⟩
  | .ins c fs ds, v, h => by
    obtain ⟨a, C, dx, vs, e, g, t, l, n, r⟩ := h
    exact ⟨a, C, dx, vs, e, g, hk _ _ t n, l, (Rd.stay (.inl t) n hk hm).2, RepDs.stay ds vs r⟩
  | .loc n, v, h => by
    obtain ⟨a, e, r⟩ := h
    exact ⟨a, e, hρ _ _ r⟩
  | .fn f, v, h => h
  | .scr ns, v, h => by
    obtain ⟨a, e, t | t⟩ := h
    · exact ⟨a, e, .inl ⟨(Rd.stay t.1 t.2 hk hm).1, (Rd.stay t.1 t.2 hk hm).2⟩⟩
    · exact ⟨a, e, .inr t⟩
  | .ty n, v, h => h
  | .cls c, v, h => h
theorem RepDs.stay : ∀ (ds : List D) (vs : List V), RepDs G ρ H M ds vs → RepDs G ρ' H' M' ds vs
  | [], vs, h => h
  | d :: ds, vs, h => by
    obtain ⟨v, r, e, h1, h2⟩ := h
    exact ⟨v, r, e, RepD.stay d v h1, RepDs.stay ds r h2⟩
end

/-- owned things stay whose own address is not touched -/
theorem Own.stay {o : O} {v : V} {F : List Addr} (h : Own G ρ H M o v F) (hF : ∀ b ∈ F, ∀ x, H b = some x → H' b = some x) : Own G ρ' H' M' o v F := by
  cases o with
  | fz d => exact ⟨RepD.stay hρ hk hm d v h.1, h.2⟩
  | lst ds =>
    obtain ⟨a, vs, e, t, r, f⟩ := h
    exact ⟨a, vs, e, hF a (by rw [f]; simp) _ t, RepDs.stay hρ hk hm ds vs r, f⟩
  | dic ks ds =>
    obtain ⟨a, vs, e, t, l, r, f⟩ := h
    exact ⟨a, vs, e, hF a (by rw [f]; simp) _ t, l, RepDs.stay hρ hk hm ds vs r, f⟩
  | ins c fs ds =>
    obtain ⟨a, C, dx, vs, e, g, t, l, r, f⟩ := h
    exact ⟨a, C, dx, vs, e, g, hF a (by rw [f]; simp) _ t, l, RepDs.stay hρ hk hm ds vs r, f⟩
theorem Owns.stay : ∀ {L : List (O × V)} {F : List Addr}, Owns G ρ H M L F → (∀ b ∈ F, ∀ x, H b = some x → H' b = some x) → Owns G ρ' H' M' L F
  | [], F, h, _ => h
  | p :: ps, F, h, hF => by
    obtain ⟨A, B, e, h1, h2⟩ := h
    subst e
    exact ⟨A, B, rfl, h1.stay hρ hk hm fun b hb => hF b (List.mem_append_left _ hb), Owns.stay h2 fun b hb => hF b (List.mem_append_right _ hb)⟩
end

section
variable {G : GE} {ρ : List Addr} {H : Hp} {M : List Addr}
theorem RepDs.length : ∀ {ds : List D} {vs : List V}, RepDs G ρ H M ds vs → ds.length = vs.length
  | [], vs, h => by rw [show vs = [] from h]; rfl
  | d :: ds, vs, h => by
    obtain ⟨v, r, e, h1, h2⟩ := h
    rw [e, List.length_cons, List.length_cons, RepDs.length h2]
theorem RepDs.get : ∀ {ds : List D} {vs : List V} {i : Nat} {d : D}, RepDs G ρ H M ds vs → ds[i]? = some d → ∃ v, vs[i]? = some v ∧ RepD G ρ H M d v
  | [], vs, i, d, h, e => by simp at e
  | d :: ds, vs, 0, d', h, e => by
    obtain ⟨v, r, e1, h1, h2⟩ := h
    simp at e; subst e; subst e1
    exact ⟨v, rfl, h1⟩
  | d :: ds, vs, i + 1, d', h, e => by
    obtain ⟨v, r, e1, h1, h2⟩ := h
    subst e1
    obtain ⟨w, hw, q⟩ := RepDs.get (i := i) h2 (by simpa using e)
    exact ⟨w, by simpa using hw, q⟩
theorem RepDs.append : ∀ {ds es : List D} {vs us : List V}, RepDs G ρ H M ds vs → RepDs G ρ H M es us → RepDs G ρ H M (ds ++ es) (vs ++ us)
  | [], es, vs, us, h, q => by rw [show vs = [] from h]; exact q
  | d :: ds, es, vs, us, h, q => by
    obtain ⟨v, r, e, h1, h2⟩ := h
    subst e
    exact ⟨v, r ++ us, rfl, h1, RepDs.append h2 q⟩
theorem RepDs.take : ∀ {ds : List D} {vs : List V} (n : Nat), RepDs G ρ H M ds vs → RepDs G ρ H M (ds.take n) (vs.take n)
  | _, _, 0, _ => by rw [List.take_zero, List.take_zero]; rfl
  | [], vs, n + 1, h => by rw [show vs = [] from h]; rfl
  | d :: ds, vs, n + 1, h => by
    obtain ⟨v, r, e, h1, h2⟩ := h
    subst e
    exact ⟨v, r.take n, rfl, h1, RepDs.take n h2⟩
theorem RepDs.drop : ∀ {ds : List D} {vs : List V} (n : Nat), RepDs G ρ H M ds vs → RepDs G ρ H M (ds.drop n) (vs.drop n)
  | _, _, 0, h => h
  | [], vs, n + 1, h => by rw [show vs = [] from h]; rfl
  | d :: ds, vs, n + 1, h => by
    obtain ⟨v, r, e, h1, h2⟩ := h
    subst e
    exact RepDs.drop n h2
theorem RepDs.one {d : D} {v : V} (h : RepD G ρ H M d v) : RepDs G ρ H M [d] [v] := ⟨v, [], rfl, h, rfl⟩
theorem RepDs.set : ∀ {ds : List D} {vs : List V} {d : D} {v : V} (i : Nat), RepDs G ρ H M ds vs → RepD G ρ H M d v → RepDs G ρ H M (ds.set i d) (vs.set i v)
  | [], vs, d, v, i, h, q => by rw [show vs = [] from h]; rfl
  | d0 :: ds, vs, d, v, 0, h, q => by
    obtain ⟨w, r, e, h1, h2⟩ := h
    subst e
    exact ⟨v, r, rfl, q, h2⟩
  | d0 :: ds, vs, d, v, i + 1, h, q => by
    obtain ⟨w, r, e, h1, h2⟩ := h
    subst e
    exact ⟨w, r.set i v, rfl, h1, RepDs.set i h2 q⟩
theorem RepDs.reverse : ∀ {ds : List D} {vs : List V}, RepDs G ρ H M ds vs → RepDs G ρ H M ds.reverse vs.reverse
  | [], vs, h => by rw [show vs = [] from h]; rfl
  | d :: ds, vs, h => by
    obtain ⟨v, r, e, h1, h2⟩ := h
    subst e
    rw [List.reverse_cons, List.reverse_cons]
    exact (RepDs.reverse h2).append (.one h1)
theorem RepDs.of : ∀ {ds : List D} {vs : List V}, ds.length = vs.length → (∀ (i : Nat) d v, ds[i]? = some d → vs[i]? = some v → RepD G ρ H M d v) → RepDs G ρ H M ds vs
  | [], [], _, _ => rfl
  | d :: ds, v :: vs, l, h => ⟨v, vs, rfl, h 0 d v rfl rfl, RepDs.of (by simpa using l) fun i d' v' h1 h2 => h (i + 1) d' v' (by simpa using h1) (by simpa using h2)⟩
  | [], _ :: _, l, _ => by simp at l
  | _ :: _, [], l, _ => by simp at l
theorem RepDs.flatten_rep : ∀ {ds : List D} {vs : List V} (n : Nat), RepDs G ρ H M ds vs → RepDs G ρ H M (List.replicate n ds).flatten (List.replicate n vs).flatten
  | _, _, 0, _ => rfl
  | ds, vs, n + 1, h => by
    rw [List.replicate_succ, List.replicate_succ, List.flatten_cons, List.flatten_cons]
    exact h.append (RepDs.flatten_rep n h)

theorem Owns.append : ∀ {L L' : List (O × V)} {F F' : List Addr}, Owns G ρ H M L F → Owns G ρ H M L' F' → Owns G ρ H M (L ++ L') (F ++ F')
  | [], L', F, F', h, q => by rw [show F = [] from h]; exact q
  | p :: ps, L', F, F', h, q => by
    obtain ⟨A, B, e, h1, h2⟩ := h
    subst e
    exact ⟨A, B ++ F', by rw [List.append_assoc], h1, Owns.append h2 q⟩
theorem Owns.split : ∀ {L L' : List (O × V)} {F : List Addr}, Owns G ρ H M (L ++ L') F → ∃ A B, F = A ++ B ∧ Owns G ρ H M L A ∧ Owns G ρ H M L' B
  | [], L', F, h => ⟨[], F, rfl, rfl, h⟩
  | p :: ps, L', F, h => by
    obtain ⟨A, B, e, h1, h2⟩ := h
    obtain ⟨A', B', e', h3, h4⟩ := Owns.split h2
    subst e; subst e'
    exact ⟨A ++ A', B', by rw [List.append_assoc], ⟨A, A', rfl, h1, h3⟩, h4⟩
/-- every owned address is tracked -/
theorem Own.live {o : O} {v : V} {F : List Addr} (h : Own G ρ H M o v F) : ∀ b ∈ F, ∃ x, H b = some x := by
  cases o with
  | fz d => rw [h.2]; intro b hb; simp at hb
  | lst ds => obtain ⟨a, vs, e, t, r, f⟩ := h; rw [f]; intro b hb; simp at hb; subst hb; exact ⟨_, t⟩
  | dic ks ds => obtain ⟨a, vs, e, t, l, r, f⟩ := h; rw [f]; intro b hb; simp at hb; subst hb; exact ⟨_, t⟩
  | ins c fs ds => obtain ⟨a, C, dx, vs, e, g, t, l, r, f⟩ := h; rw [f]; intro b hb; simp at hb; subst hb; exact ⟨_, t⟩
theorem Owns.live : ∀ {L : List (O × V)} {F : List Addr}, Owns G ρ H M L F → ∀ b ∈ F, ∃ x, H b = some x
  | [], F, h, b, hb => by rw [show F = [] from h] at hb; simp at hb
  | p :: ps, F, h, b, hb => by
    obtain ⟨A, B, e, h1, h2⟩ := h
    subst e
    rcases List.mem_append.mp hb with hb | hb
    · exact h1.live b hb
    · exact Owns.live h2 b hb
/-- the avoided set may shrink to what is owned still -/
theorem Owns.perm : ∀ {L L' : List (O × V)} {F : List Addr}, L.Perm L' → Owns G ρ H M L F → ∃ F', F.Perm F' ∧ Owns G ρ H M L' F' := by
  intro L L' F p
  induction p generalizing F with
  | nil => intro h; exact ⟨F, .refl _, h⟩
  | cons x _ ih =>
    intro h
    obtain ⟨A, B, e, h1, h2⟩ := h
    obtain ⟨B', p', h3⟩ := ih h2
    subst e
    exact ⟨A ++ B', p'.append_left A, A, B', rfl, h1, h3⟩
  | swap x y l =>
    intro h
    obtain ⟨A, B, e, h1, A', B', e', h2, h3⟩ := h
    subst e; subst e'
    refine ⟨A' ++ (A ++ B'), ?_, A', A ++ B', rfl, h2, A, B', rfl, h1, h3⟩
    rw [← List.append_assoc, ← List.append_assoc]
    exact (List.perm_append_comm).append_right B'
  | trans _ _ ih1 ih2 =>
    intro h
    obtain ⟨F1, p1, h1⟩ := ih1 h
    obtain ⟨F2, p2, h2⟩ := ih2 h1
    exact ⟨F2, p1.trans p2, h2⟩
end

/-! ### the configuration -/
/-- frozen values at hand -/
def Fz (ds : List D) (vs : List V) : List (O × V) := List.zipWith (fun d v => (O.fz d, v)) ds vs
section
variable {G : GE} {H : Hp} {h : List O} {L L' : List (O × V)}

theorem Owns.fz {ρ : List Addr} {M : List Addr} : ∀ {ds : List D} {vs : List V} {L : List (O × V)} {F : List Addr}, ds.length = vs.length → (Owns G ρ H M (Fz ds vs ++ L) F ↔ RepDs G ρ H M ds vs ∧ Owns G ρ H M L F)
  | [], [], L, F, _ => ⟨fun q => ⟨rfl, q⟩, fun q => q.2⟩
  | d :: ds, v :: vs, L, F, l => by
    have ih := Owns.fz (ρ := ρ) (M := M) (ds := ds) (vs := vs) (L := L) (F := F) (by simpa using l)
    constructor
    · rintro ⟨A, B, e, ⟨h1, eA⟩, h2⟩
      subst eA; subst e
      obtain ⟨r, q⟩ := Owns.fz (by simpa using l) |>.mp h2
      exact ⟨⟨v, vs, rfl, h1, r⟩, q⟩
    · rintro ⟨⟨v', r', e, h1, h2⟩, q⟩
      injection e with e1 e2
      subst e1; subst e2
      exact ⟨[], F, rfl, ⟨h1, rfl⟩, ih.mpr ⟨h2, q⟩⟩
  | [], _ :: _, _, _, l => by simp at l
  | _ :: _, [], _, _, l => by simp at l

/-- the parts of a configuration -/
def Cp (G : GE) (ρ : List Addr) (H : Hp) (M : List Addr) (h : List O) (L : List (O × V)) : Prop :=
  ρ.length = h.length ∧ Owns G ρ H M (h.zip (ρ.map V.ref) ++ L) M ∧ M.Nodup
theorem cells_lt {ρ : List Addr} {H : Hp} {M : List Addr} {h : List O} {L : List (O × V)} (c : Cp G ρ H M h L) : ρ.length = h.length := c.1

theorem Cf.perm (p : L.Perm L') (c : Cf G H h L) : Cf G H h L' := by
  obtain ⟨ρ, M, l, o, n⟩ := c
  obtain ⟨M', pm, o'⟩ := Owns.perm (List.Perm.append_left _ p) o
  refine ⟨ρ, M', l, o'.stay (fun _ _ q => q) (fun _ _ q _ => q) (fun b hb => .inl (pm.mem_iff.mpr hb)) (fun _ _ _ q => q), pm.nodup_iff.mp n⟩
theorem Cf.sub {ρ : List Addr} {M F : List Addr} {h : List O} (l : ρ.length = h.length) (o : Owns G ρ H M (h.zip (ρ.map V.ref) ++ L) F) (s : ∀ b ∈ F, b ∈ M) (n : F.Nodup) : Cf G H h L :=
  ⟨ρ, F, l, o.stay (fun _ _ q => q) (fun _ _ q _ => q) (fun b hb => .inl (s b hb)) (fun _ _ _ q => q), n⟩
/-- L as cells, then the rest: put p ahead -/
theorem Owns.ahead {ρ : List Addr} {M F : List Addr} {p : O × V} (o : Owns G ρ H M (h.zip (ρ.map V.ref) ++ p :: L) F) : ∃ A B, Own G ρ H M p.1 p.2 A ∧ Owns G ρ H M (h.zip (ρ.map V.ref) ++ L) B ∧ F.Perm (A ++ B) := by
  obtain ⟨A, B, e, h1, A', B', e', h2, h3⟩ := Owns.split o
  subst e; subst e'
  refine ⟨A', A ++ B', h2, h1.append h3, ?_⟩
  rw [← List.append_assoc, ← List.append_assoc]
  exact (List.perm_append_comm).append_right B'
theorem Owns.behind {ρ : List Addr} {M A B : List Addr} {p : O × V} (o1 : Own G ρ H M p.1 p.2 A) (o2 : Owns G ρ H M (h.zip (ρ.map V.ref) ++ L) B) : ∃ F, Owns G ρ H M (h.zip (ρ.map V.ref) ++ p :: L) F ∧ F.Perm (A ++ B) := by
  obtain ⟨X, Y, e, h1, h2⟩ := Owns.split o2
  subst e
  refine ⟨X ++ (A ++ Y), h1.append ⟨A, Y, rfl, o1, h2⟩, ?_⟩
  rw [← List.append_assoc, ← List.append_assoc]
  exact (List.perm_append_comm).append_right Y
theorem Cf.drop {p : O × V} (c : Cf G H h (p :: L)) : Cf G H h L := by
  obtain ⟨ρ, M, l, o, n⟩ := c
  obtain ⟨A, B, o1, o2, pm⟩ := o.ahead
  exact Cf.sub l o2 (fun b hb => pm.mem_iff.mpr (List.mem_append_right _ hb)) ((pm.nodup_iff.mp n).sublist (List.sublist_append_right _ _))
theorem Cf.dropN : ∀ {K L : List (O × V)}, Cf G H h (K ++ L) → Cf G H h L
  | [], _, c => c
  | _ :: K, _, c => Cf.dropN (K := K) c.drop
/-- frozen values at hand, opened and closed -/
theorem Cf.fz {ds : List D} {vs : List V} (l : ds.length = vs.length) : Cf G H h (Fz ds vs ++ L) ↔ ∃ ρ M, Cp G ρ H M h L ∧ RepDs G ρ H M ds vs := by
  constructor
  · intro c
    obtain ⟨ρ, M, lr, o, n⟩ := Cf.perm (L' := L ++ Fz ds vs) List.perm_append_comm c
    obtain ⟨M1, pm, o1⟩ := Owns.perm (L' := Fz ds vs ++ (h.zip (ρ.map V.ref) ++ L)) (by rw [← List.append_assoc]; exact List.perm_append_comm) o
    obtain ⟨r, o2⟩ := (Owns.fz l).mp o1
    refine ⟨ρ, M1, ⟨lr, o2.stay (fun _ _ q => q) (fun _ _ q _ => q) (fun b hb => .inl (pm.mem_iff.mpr hb)) (fun _ _ _ q => q), pm.nodup_iff.mp n⟩, RepDs.stay (fun _ _ q => q) (fun _ _ q _ => q) (fun b hb => .inl (pm.mem_iff.mpr hb)) _ _ r⟩
  · rintro ⟨ρ, M, ⟨lr, o, n⟩, r⟩
    have o1 := (Owns.fz l).mpr ⟨r, o⟩
    obtain ⟨M1, pm, o2⟩ := Owns.perm (L' := h.zip (ρ.map V.ref) ++ (Fz ds vs ++ L)) (by rw [← List.append_assoc, ← List.append_assoc]; exact List.perm_append_comm.append_right L) o1
    exact Cf.sub lr o2 (fun b hb => pm.mem_iff.mpr hb) (pm.nodup_iff.mp n)
theorem Cf.fz1 {d : D} {v : V} : Cf G H h ((.fz d, v) :: L) ↔ ∃ ρ M, Cp G ρ H M h L ∧ RepD G ρ H M d v := by
  have := Cf.fz (G := G) (H := H) (h := h) (L := L) (ds := [d]) (vs := [v]) rfl
  constructor
  · intro c
    obtain ⟨ρ, M, cp, r⟩ := this.mp c
    obtain ⟨v', r', e, h1, h2⟩ := r
    injection e with e1 e2
    subst e1
    exact ⟨ρ, M, cp, h1⟩
  · rintro ⟨ρ, M, cp, r⟩
    exact this.mpr ⟨ρ, M, cp, .one r⟩
theorem Cp.cf {ρ M : List Addr} (c : Cp G ρ H M h L) : Cf G H h L := ⟨ρ, M, c⟩
/-- frozen values turned into others -/
theorem Cf.turn {ds ds' : List D} {vs vs' : List V} (l : ds.length = vs.length) (f : ∀ ρ M, RepDs G ρ H M ds vs → RepDs G ρ H M ds' vs') (c : Cf G H h (Fz ds vs ++ L)) : Cf G H h (Fz ds' vs' ++ L) := by
  obtain ⟨ρ, M, cp, r⟩ := (Cf.fz l).mp c
  exact (Cf.fz (f ρ M r).length).mpr ⟨ρ, M, cp, f ρ M r⟩
/-- what is owned is frozen -/
theorem Own.frz {ρ M B A : List Addr} {o : O} {v : V} (ow : Own G ρ H M o v A) (hs : ∀ b ∈ B, b ∈ M) (hd : ∀ b ∈ A, b ∉ B) : RepD G ρ H B (frz o) v := by
  have st : ∀ ds vs, RepDs G ρ H M ds vs → RepDs G ρ H B ds vs := fun ds vs r => RepDs.stay (fun _ _ q => q) (fun _ _ q _ => q) (fun b hb => .inl (hs b hb)) _ _ r
  cases o with
  | fz d => exact RepD.stay (fun _ _ q => q) (fun _ _ q _ => q) (fun b hb => .inl (hs b hb)) _ _ ow.1
  | lst ds => obtain ⟨a, vs, e, t, r, f⟩ := ow; exact ⟨a, vs, e, t, hd a (by rw [f]; simp), st _ _ r⟩
  | dic ks ds => obtain ⟨a, vs, e, t, l, r, f⟩ := ow; exact ⟨a, vs, e, .inl t, l, hd a (by rw [f]; simp), st _ _ r⟩
  | ins c fs ds => obtain ⟨a, C, dx, vs, e, g, t, l, r, f⟩ := ow; exact ⟨a, C, dx, vs, e, g, t, l, hd a (by rw [f]; simp), st _ _ r⟩
theorem Cf.frz {o : O} {v : V} (c : Cf G H h ((o, v) :: L)) : Cf G H h ((.fz (frz o), v) :: L) := by
  obtain ⟨ρ, M, l, ow, n⟩ := c
  obtain ⟨A, B, o1, o2, pm⟩ := ow.ahead
  have n2 := pm.nodup_iff.mp n
  have hs : ∀ b ∈ B, b ∈ M := fun b hb => pm.mem_iff.mpr (List.mem_append_right _ hb)
  refine Cf.fz1.mpr ⟨ρ, B, ⟨l, o2.stay (fun _ _ q => q) (fun _ _ q _ => q) (fun b hb => .inl (hs b hb)) (fun _ _ _ q => q), (n2.sublist (List.sublist_append_right _ _))⟩, ?_⟩
  exact o1.frz hs fun b hb hb' => (List.nodup_append.mp n2).2.2 b hb b hb' rfl
theorem Cf.dup {d : D} {v : V} (c : Cf G H h ((.fz d, v) :: L)) : Cf G H h ((.fz d, v) :: (.fz d, v) :: L) := by
  obtain ⟨ρ, M, cp, r⟩ := Cf.fz1.mp c
  exact (Cf.fz (ds := [d, d]) (vs := [v, v]) rfl).mpr ⟨ρ, M, cp, ⟨_, _, rfl, r, .one r⟩⟩

/-! ### something new at p, or something owned is changed at p -/
theorem Cp.alloc {ρ M : List Addr} {p : Addr} {o : HO} (c : Cp G ρ H M h L) (hp : H p = none) : Cp G ρ (upd H p o) M h L ∧ (∀ ds vs, RepDs G ρ H M ds vs → RepDs G ρ (upd H p o) (p :: M) ds vs) ∧ (∀ ds vs, RepDs G ρ H M ds vs → RepDs G ρ (upd H p o) M ds vs) ∧ p ∉ M := by
  obtain ⟨l, ow, n⟩ := c
  have hk : ∀ b x, H b = some x → b ∉ M → (upd H p o) b = some x := fun b x e _ => by rw [upd_ne (ne_of_none e hp)]; exact e
  refine ⟨⟨l, ow.stay (fun _ _ q => q) hk (fun b hb => .inl hb) (fun b _ x e => by rw [upd_ne (ne_of_none e hp)]; exact e), n⟩, fun ds vs r => RepDs.stay (fun _ _ q => q) hk (fun b hb => ?_) _ _ r, fun ds vs r => RepDs.stay (fun _ _ q => q) hk (fun b hb => .inl hb) _ _ r, fun hb => ?_⟩
  · rcases List.mem_cons.mp hb with e | hb
    · rw [e]; exact .inr hp
    · exact .inl hb
  · obtain ⟨x, e⟩ := ow.live p hb
    rw [hp] at e; cases e
theorem Cf.newTup {ds : List D} {vs : List V} {p : Addr} {ho : HO} (l : ds.length = vs.length) (c : Cf G H h (Fz ds vs ++ L)) (hp : H p = none) (ht : isTupO G vs ho) : Cf G (upd H p ho) h ((.fz (.tup ds), .ref p) :: L) := by
  obtain ⟨ρ, M, cp, r⟩ := (Cf.fz l).mp c
  obtain ⟨cp', _, r2, np⟩ := cp.alloc (o := ho) hp
  exact Cf.fz1.mpr ⟨ρ, M, cp', p, vs, rfl, .inl ⟨ho, upd_same, ht, np⟩, r2 _ _ r⟩
theorem Cf.newOwn {p : Addr} {ho : HO} {o : O} {ds : List D} {vs : List V} (l : ds.length = vs.length) (c : Cf G H h (Fz ds vs ++ L)) (hp : H p = none)
    (own : ∀ ρ M H', H' p = some ho → RepDs G ρ H' M ds vs → Own G ρ H' M o (.ref p) [p]) : Cf G (upd H p ho) h ((o, .ref p) :: L) := by
  obtain ⟨ρ, M, cp, r⟩ := (Cf.fz l).mp c
  obtain ⟨cp', r1, r2, np⟩ := cp.alloc (o := ho) hp
  have o1 : Own G ρ (upd H p ho) (p :: M) o (.ref p) [p] := own ρ _ _ upd_same (r1 _ _ r)
  have o2 : Owns G ρ (upd H p ho) (p :: M) (h.zip (ρ.map V.ref) ++ L) M := cp.2.1.stay (fun _ _ q => q) (fun b x e _ => by rw [upd_ne (ne_of_none e hp)]; exact e) (fun b hb => by
    rcases List.mem_cons.mp hb with e | hb
    · rw [e]; exact .inr hp
    · exact .inl hb) (fun b _ x e => by rw [upd_ne (ne_of_none e hp)]; exact e)
  obtain ⟨F, o3, pm⟩ := Owns.behind (p := (o, .ref p)) o1 o2
  exact Cf.sub cp.1 o3 (fun b hb => pm.mem_iff.mp hb) (pm.nodup_iff.mpr (List.nodup_cons.mpr ⟨np, cp.2.2⟩))
theorem Cf.newLst {ds : List D} {vs : List V} {p : Addr} (l : ds.length = vs.length) (c : Cf G H h (Fz ds vs ++ L)) (hp : H p = none) : Cf G (upd H p (.lst vs)) h ((.lst ds, .ref p) :: L) :=
  c.newOwn l hp fun ρ M H' e r => ⟨p, vs, rfl, e, r, rfl⟩
theorem Cf.newDic {ks : List Key} {ds : List D} {vs : List V} {p : Addr} (l : ds.length = vs.length) (lk : ks.length = vs.length) (c : Cf G H h (Fz ds vs ++ L)) (hp : H p = none) : Cf G (upd H p (.dK (ks.zip vs))) h ((.dic ks ds, .ref p) :: L) :=
  c.newOwn l hp fun ρ M H' e r => ⟨p, vs, rfl, e, lk, r, rfl⟩

/-- what is owned at p is changed -/
theorem Cf.change {p : Addr} {ho : HO} {o o' : O} {ds : List D} {vs : List V} (l : ds.length = vs.length) (c : Cf G H h ((o, .ref p) :: (Fz ds vs ++ L))) (hn : ∀ d, o ≠ .fz d)
    (own : ∀ ρ M H', H' p = some ho → RepDs G ρ H' M ds vs → Own G ρ H' M o' (.ref p) [p]) : Cf G (upd H p ho) h ((o', .ref p) :: L) := by
  have c2 : Cf G H h (Fz ds vs ++ (o, .ref p) :: L) := c.perm (by
    have : (o, V.ref p) :: (Fz ds vs ++ L) = [(o, V.ref p)] ++ (Fz ds vs ++ L) := rfl
    rw [this, ← List.append_assoc]
    have e2 : Fz ds vs ++ (o, V.ref p) :: L = (Fz ds vs ++ [(o, V.ref p)]) ++ L := by simp
    rw [e2]
    exact List.perm_append_comm.append_right L)
  obtain ⟨ρ, M, ⟨lr, ow, n⟩, r⟩ := (Cf.fz l).mp c2
  obtain ⟨A, B, o1, o2, pm⟩ := ow.ahead
  have hA : A = [p] := by
    cases o with
    | fz d => exact absurd rfl (hn d)
    | lst ds => obtain ⟨a, vs, e, t, r, f⟩ := o1; cases e; exact f
    | dic ks ds => obtain ⟨a, vs, e, t, l, r, f⟩ := o1; cases e; exact f
    | ins c fs ds => obtain ⟨a, C, dx, vs, e, g, t, l, r, f⟩ := o1; cases e; exact f
  subst hA
  have n2 := pm.nodup_iff.mp n
  have np : p ∉ B := (List.nodup_cons.mp n2).1
  have hpM : p ∈ M := pm.mem_iff.mpr (by simp)
  have hk : ∀ b x, H b = some x → b ∉ M → (upd H p ho) b = some x := fun b x e nb => by rw [upd_ne (fun z : b = p => nb (by rw [z]; exact hpM))]; exact e
  have hm : ∀ b ∈ p :: B, b ∈ M ∨ H b = none := fun b hb => .inl (pm.mem_iff.mpr (by simpa using hb))
  have q1 : Own G ρ (upd H p ho) (p :: B) o' (.ref p) [p] := own ρ _ _ upd_same (RepDs.stay (fun _ _ q => q) hk hm _ _ r)
  have q2 : Owns G ρ (upd H p ho) (p :: B) (h.zip (ρ.map V.ref) ++ L) B := o2.stay (fun _ _ q => q) hk hm (fun b hb x e => by rw [upd_ne (fun z : b = p => np (by rw [← z]; exact hb))]; exact e)
  obtain ⟨F, q3, pm3⟩ := Owns.behind (p := (o', .ref p)) q1 q2
  exact Cf.sub lr q3 (fun b hb => by simpa using pm3.mem_iff.mp hb) (pm3.nodup_iff.mpr n2)
end
end Mi

set_option Elab.async false
set_option linter.all false
set_option maxRecDepth 100000
set_option maxHeartbeats 4000000
/-! Mi, part B: cells, and what stands in what. -/
namespace Mi
open PySem PySem.Spec PyProof.Rows L2
section
variable {G : GE} {H : Hp} {h : List O} {L L' : List (O × V)}

theorem zip_at : ∀ {h : List O} {ρ : List Addr} {n : Nat} {o : O} {a : Addr}, h[n]? = some o → ρ[n]? = some a →
    ∃ X Y, h.zip (ρ.map V.ref) = X ++ (o, .ref a) :: Y ∧ ∀ o', (h.set n o').zip (ρ.map V.ref) = X ++ (o', .ref a) :: Y
  | [], _, _, _, _, e, _ => by simp at e
  | _ :: _, [], _, _, _, _, e => by simp at e
  | o0 :: h, a0 :: ρ, 0, o, a, e1, e2 => by
    simp at e1 e2
    subst e1; subst e2
    exact ⟨[], h.zip (ρ.map V.ref), rfl, fun o' => rfl⟩
  | o0 :: h, a0 :: ρ, n + 1, o, a, e1, e2 => by
    obtain ⟨X, Y, q1, q2⟩ := zip_at (h := h) (ρ := ρ) (n := n) (o := o) (a := a) (by simpa using e1) (by simpa using e2)
    refine ⟨(o0, .ref a0) :: X, Y, ?_, fun o' => ?_⟩
    · simp [q1]
    · simp [q2]
/-- the n-th cell is at hand -/
theorem Cf.cell {n : Nat} {v : V} {o : O} (c : Cf G H h ((.fz (.loc n), v) :: L)) (hn : h[n]? = some o) : ∃ a, v = .ref a ∧ ∃ ρ M A, ρ[n]? = some a ∧ Cp G ρ H M h L ∧ Own G ρ H M o (.ref a) A := by
  obtain ⟨ρ, M, cp, a, e, hr⟩ := Cf.fz1.mp c
  refine ⟨a, e, ρ, M, ?_⟩
  obtain ⟨X, Y, q1, q2⟩ := zip_at hn hr
  have ow := cp.2.1
  rw [q1, List.append_assoc] at ow
  obtain ⟨A, B, _, _, A', B', _, h3, _⟩ := Owns.split ow
  exact ⟨A', hr, cp, h3⟩
theorem Cf.cellLst {n : Nat} {v : V} {ds : List D} (c : Cf G H h ((.fz (.loc n), v) :: L)) (hn : h[n]? = some (.lst ds)) : ∃ a vs, v = .ref a ∧ H a = some (.lst vs) ∧ ds.length = vs.length ∧ Cf G H h (Fz ds vs ++ (.fz (.loc n), v) :: L) := by
  obtain ⟨a, e, ρ, M, A, hr, cp, a', vs, e', t, r, f⟩ := c.cell hn
  cases e'
  refine ⟨a, vs, e, t, r.length, ?_⟩
  have := (Cf.fz (L := L) (ds := ds ++ [.loc n]) (vs := vs ++ [v]) (by simp [r.length])).mpr ⟨ρ, M, cp, r.append (.one (d := .loc n) ⟨a, e, hr⟩)⟩
  rw [Fz, List.zipWith_append r.length, List.append_assoc] at this
  exact this
/-- the n-th cell is changed -/
theorem Cf.putCell {n : Nat} {p : Addr} {ho : HO} {o o' : O} {ds : List D} {vs : List V} (l : ds.length = vs.length) (c : Cf G H h (Fz ds vs ++ (.fz (.loc n), .ref p) :: L)) (hn : h[n]? = some o) (hf : ∀ d, o ≠ .fz d)
    (own : ∀ ρ M H', H' p = some ho → RepDs G ρ H' M ds vs → Own G ρ H' M o' (.ref p) [p]) : Cf G (upd H p ho) (h.set n o') ((.fz (.loc n), .ref p) :: L) := by
  have c1 : Cf G H h (Fz (ds ++ [.loc n]) (vs ++ [.ref p]) ++ L) := by
    rw [Fz, List.zipWith_append l, List.append_assoc]
    exact c
  obtain ⟨ρ, M, cp, r⟩ := (Cf.fz (by simp [l])).mp c1
  obtain ⟨lr, ow, n0⟩ := cp
  have r1 : RepDs G ρ H M ds vs := by
    have := RepDs.take ds.length r
    rw [List.take_left, l, List.take_left] at this
    exact this
  obtain ⟨v', hv', a, e, hr⟩ := RepDs.get (i := ds.length) (d := .loc n) r (by simp)
  rw [l, List.getElem?_append_right (Nat.le_refl _)] at hv'
  simp at hv'
  subst hv'
  cases e
  obtain ⟨X, Y, q1, q2⟩ := zip_at hn hr
  rw [q1, List.append_assoc] at ow
  obtain ⟨A, B, eM, s1, A', B', eB, s2, s3⟩ := Owns.split ow
  have hA : A' = [p] := by
    cases o with
    | fz d => exact absurd rfl (hf d)
    | lst ds => obtain ⟨a, vs, e, t, r, f⟩ := s2; cases e; exact f
    | dic ks ds => obtain ⟨a, vs, e, t, l, r, f⟩ := s2; cases e; exact f
    | ins c fs ds => obtain ⟨a, C, dx, vs, e, g, t, l, r, f⟩ := s2; cases e; exact f
  subst hA; subst eB
  have hpM : p ∈ M := by rw [eM]; simp
  have n1 : (A ++ ([p] ++ B')).Nodup := by rw [← eM]; exact n0
  have hpA : p ∉ A := fun z => (List.nodup_append.mp n1).2.2 p z p (by simp) rfl
  have hpB : p ∉ B' := (List.nodup_cons.mp (List.nodup_append.mp n1).2.1).1
  have hk : ∀ b x, H b = some x → b ∉ M → (upd H p ho) b = some x := fun b x e nb => by rw [upd_ne (fun z : b = p => nb (by rw [z]; exact hpM))]; exact e
  have hm : ∀ b ∈ M, b ∈ M ∨ H b = none := fun b hb => .inl hb
  have t1 := s1.stay (H' := upd H p ho) (M' := M) (ρ' := ρ) (fun _ _ q => q) hk hm (fun b hb x e => by rw [upd_ne (fun z : b = p => hpA (by rw [← z]; exact hb))]; exact e)
  have t3 := s3.stay (H' := upd H p ho) (M' := M) (ρ' := ρ) (fun _ _ q => q) hk hm (fun b hb x e => by rw [upd_ne (fun z : b = p => hpB (by rw [← z]; exact hb))]; exact e)
  have t2 : Own G ρ (upd H p ho) M o' (.ref p) [p] := own ρ M _ upd_same (RepDs.stay (fun _ _ q => q) hk hm _ _ r1)
  refine Cf.fz1.mpr ⟨ρ, M, ⟨by rw [List.length_set]; exact lr, ?_, n0⟩, p, rfl, hr⟩
  rw [q2, List.append_assoc]
  have := t1.append (L' := (o', .ref p) :: (Y ++ L)) (F' := [p] ++ B') ⟨[p], B', rfl, t2, t3⟩
  rw [← eM] at this
  exact this
/-- an owned container becomes a new cell -/
theorem Cf.newCell {o : O} {v : V} (c : Cf G H h ((o, v) :: L)) (hf : ∀ d, o ≠ .fz d) : Cf G H (h ++ [o]) ((.fz (.loc h.length), v) :: L) := by
  obtain ⟨ρ, M, l, ow, n⟩ := c
  obtain ⟨A, B, e, s1, A', B', e', s2, s3⟩ := Owns.split ow
  have hA : ∃ p, v = .ref p := by
    cases o with
    | fz d => exact absurd rfl (hf d)
    | lst ds => obtain ⟨a, vs, e, t, r, f⟩ := s2; exact ⟨a, e⟩
    | dic ks ds => obtain ⟨a, vs, e, t, l, r, f⟩ := s2; exact ⟨a, e⟩
    | ins c fs ds => obtain ⟨a, C, dx, vs, e, g, t, l, r, f⟩ := s2; exact ⟨a, e⟩
  obtain ⟨p, ep⟩ := hA
  subst ep
  have hρ : ∀ (n : Nat) a, ρ[n]? = some a → (ρ ++ [p])[n]? = some a := fun n a q => by
    rw [List.getElem?_append_left (by
      rcases Nat.lt_or_ge n ρ.length with z | z
      · exact z
      · rw [List.getElem?_eq_none z] at q; cases q)]
    exact q
  have hk : ∀ b x, H b = some x → b ∉ M → H b = some x := fun _ _ q _ => q
  refine Cf.fz1.mpr ⟨ρ ++ [p], M, ⟨by simp [l], ?_, n⟩, p, rfl, by rw [← l]; simp⟩
  rw [List.map_append, List.zip_append (by simp [l]), List.append_assoc, e, e']
  have t1 := s1.stay (ρ' := ρ ++ [p]) (M' := M) hρ hk (fun b hb => .inl hb) (fun _ _ _ q => q)
  have t2 := s2.stay (ρ' := ρ ++ [p]) (M' := M) hρ hk (fun b hb => .inl hb) (fun _ _ _ q => q)
  have t3 := s3.stay (ρ' := ρ ++ [p]) (M' := M) hρ hk (fun b hb => .inl hb) (fun _ _ _ q => q)
  rw [e, e'] at t1 t2 t3
  exact t1.append ⟨A', B', rfl, t2, t3⟩

/-! ### what stands in what -/
theorem Fz_append {ds es : List D} {vs us : List V} (l : ds.length = vs.length) : Fz (ds ++ es) (vs ++ us) = Fz ds vs ++ Fz es us := by
  rw [Fz, List.zipWith_append l]; rfl
/-- a frozen value is known once more -/
theorem Cf.also {ds ds' : List D} {vs vs' : List V} (l : ds.length = vs.length) (f : ∀ ρ M, RepDs G ρ H M ds vs → RepDs G ρ H M ds' vs') (c : Cf G H h (Fz ds vs ++ L)) : ds'.length = vs'.length ∧ Cf G H h (Fz ds' vs' ++ (Fz ds vs ++ L)) := by
  have c2 := c
  obtain ⟨ρ, M, cp, r⟩ := (Cf.fz l).mp c2
  have l' := (f ρ M r).length
  refine ⟨l', ?_⟩
  rw [← List.append_assoc, ← Fz_append l']
  exact (Cf.fz (by simp [l, l'])).mpr ⟨ρ, M, cp, (f ρ M r).append r⟩
theorem Cf.lst {ds : List D} {v : V} (c : Cf G H h ((.lst ds, v) :: L)) : ∃ a vs, v = .ref a ∧ H a = some (.lst vs) ∧ ds.length = vs.length ∧ Cf G H h ((.lst ds, v) :: (Fz ds vs ++ L)) := by
  obtain ⟨ρ, M, l, ow, n⟩ := c
  obtain ⟨A, B, o1, o2, pm⟩ := ow.ahead
  obtain ⟨a, vs, e, t, r, f⟩ := o1
  refine ⟨a, vs, e, t, r.length, ?_⟩
  have c2 : Cf G H h (Fz ds vs ++ (.lst ds, v) :: L) := (Cf.fz r.length).mpr ⟨ρ, M, ⟨l, ow, n⟩, r⟩
  refine c2.perm ?_
  have e2 : Fz ds vs ++ (O.lst ds, v) :: L = (Fz ds vs ++ [(O.lst ds, v)]) ++ L := by simp
  rw [e2]
  exact List.perm_append_comm.append_right L
theorem Cf.lstF {ds : List D} {v : V} (c : Cf G H h ((.fz (.lst ds), v) :: L)) : ∃ a vs, v = .ref a ∧ H a = some (.lst vs) ∧ ds.length = vs.length ∧ Cf G H h (Fz ds vs ++ (.fz (.lst ds), v) :: L) := by
  obtain ⟨ρ, M, cp, a, vs, e, t, nm, r⟩ := Cf.fz1.mp c
  refine ⟨a, vs, e, t, r.length, ?_⟩
  have := (Cf.fz (L := L) (ds := ds ++ [.lst ds]) (vs := vs ++ [v]) (by simp [r.length])).mpr ⟨ρ, M, cp, r.append (.one (d := .lst ds) ⟨a, vs, e, t, nm, r⟩)⟩
  rw [Fz_append r.length, List.append_assoc] at this
  exact this
theorem Tr.sq {M : List Addr} {a : Addr} {vs : List V} (t : Tr G H M a vs) : SqT G.K H a vs := by
  rcases t with ⟨ho, t, i, n⟩ | ⟨o, its, n, t1, t2, t3, t4, t5, _⟩
  · exact .inl (isTupO.rd t i)
  · exact .inr ⟨o, its, n, t1, t2, t3, t4, t5⟩
theorem Cf.tupF {ds : List D} {v : V} (c : Cf G H h ((.fz (.tup ds), v) :: L)) : ∃ a vs, v = .ref a ∧ SqT G.K H a vs ∧ ds.length = vs.length ∧ Cf G H h (Fz ds vs ++ (.fz (.tup ds), v) :: L) := by
  obtain ⟨ρ, M, cp, a, vs, e, t, r⟩ := Cf.fz1.mp c
  refine ⟨a, vs, e, t.sq, r.length, ?_⟩
  have := (Cf.fz (L := L) (ds := ds ++ [.tup ds]) (vs := vs ++ [v]) (by simp [r.length])).mpr ⟨ρ, M, cp, r.append (.one (d := .tup ds) ⟨a, vs, e, t, r⟩)⟩
  rw [Fz_append r.length, List.append_assoc] at this
  exact this
/-- one of them -/
theorem Cf.get {ds : List D} {vs : List V} {i : Nat} {d : D} (l : ds.length = vs.length) (c : Cf G H h (Fz ds vs ++ L)) (e : ds[i]? = some d) : ∃ v, vs[i]? = some v ∧ Cf G H h ((.fz d, v) :: L) := by
  obtain ⟨ρ, M, cp, r⟩ := (Cf.fz l).mp c
  obtain ⟨v, hv, q⟩ := r.get e
  exact ⟨v, hv, Cf.fz1.mpr ⟨ρ, M, cp, q⟩⟩
theorem Cf.getK {ds : List D} {vs : List V} {i : Nat} {d : D} (l : ds.length = vs.length) (c : Cf G H h (Fz ds vs ++ L)) (e : ds[i]? = some d) : ∃ v, vs[i]? = some v ∧ Cf G H h ((.fz d, v) :: (Fz ds vs ++ L)) := by
  obtain ⟨ρ, M, cp, r⟩ := (Cf.fz l).mp c
  obtain ⟨v, hv, q⟩ := r.get e
  refine ⟨v, hv, (Cf.fz (L := L) (ds := d :: ds) (vs := v :: vs) (by simp [l])).mpr ⟨ρ, M, cp, ⟨v, vs, rfl, q, r⟩⟩⟩
theorem Cf.swap {p q : O × V} (c : Cf G H h (p :: q :: L)) : Cf G H h (q :: p :: L) := c.perm (.swap _ _ _)
theorem Cf.rot {K : List (O × V)} {p : O × V} (c : Cf G H h (p :: (K ++ L))) : Cf G H h (K ++ p :: L) := c.perm (by
  have e2 : K ++ p :: L = (K ++ [p]) ++ L := by simp
  rw [e2]
  exact (List.perm_append_comm (l₁ := [p]) (l₂ := K)).append_right L)
theorem Cf.unrot {K : List (O × V)} {p : O × V} (c : Cf G H h (K ++ p :: L)) : Cf G H h (p :: (K ++ L)) := c.perm (by
  have e2 : K ++ p :: L = (K ++ [p]) ++ L := by simp
  rw [e2]
  exact (List.perm_append_comm (l₁ := K) (l₂ := [p])).append_right L)
/-- simple values are known by what they are -/
theorem Cf.int {i : Int} {v : V} (c : Cf G H h ((.fz (.int i), v) :: L)) : v = .int i := by obtain ⟨ρ, M, cp, e⟩ := Cf.fz1.mp c; exact e
theorem Cf.bl {i : Bool} {v : V} (c : Cf G H h ((.fz (.bl i), v) :: L)) : v = .bl i := by obtain ⟨ρ, M, cp, e⟩ := Cf.fz1.mp c; exact e
theorem Cf.str {i : Str} {v : V} (c : Cf G H h ((.fz (.str i), v) :: L)) : v = .str i := by obtain ⟨ρ, M, cp, e⟩ := Cf.fz1.mp c; exact e
theorem Cf.non {v : V} (c : Cf G H h ((.fz .non, v) :: L)) : v = .non := by obtain ⟨ρ, M, cp, e⟩ := Cf.fz1.mp c; exact e
/-- a simple value may be put at hand -/
def simple : D → Option V
  | .non => some .non | .bl b => some (.bl b) | .int i => some (.int i) | .str x => some (.str x) | .ty n => some (.ty n) | _ => none
theorem Cf.simple {d : D} {v : V} (c : Cf G H h L) (e : simple d = some v) : Cf G H h ((.fz d, v) :: L) := by
  obtain ⟨ρ, M, cp⟩ := c
  refine Cf.fz1.mpr ⟨ρ, M, cp, ?_⟩
  cases d <;> simp [Mi.simple] at e <;> subst e <;> rfl
end
end Mi

set_option Elab.async false
set_option linter.all false
set_option maxRecDepth 100000
set_option maxHeartbeats 4000000
/-! Mi, part C: the state, what an expression and a block make of it, and how this is told in the layer. -/
namespace Mi
open PySem PySem.Spec PyProof.Rows L2

abbrev Sr := L2.St
structure S where
  σ : List (Option O)
  h : List O

inductive Out (α : Type) where
  | ok (a : α) (s : S)
  | exc (c : Str) (d : D) (s : S)
  | bad
inductive Res where
  | ok (o : O) (h : List O)
  | exc (c : Str) (d : D) (h : List O)
  | bad
inductive Fl where
  | nx (s : S) | rt (o : O) (s : S) | bk (s : S) | ct (s : S) | exc (c : Str) (d : D) (s : S) | bad
abbrev Call := Str → List D → List O → Res
/-- what an expression gives: a value, or the name in slot i as it stands there -/
inductive R where
  | own (o : O) | bor (i : Nat)
abbrev E := Call → S → Out R
abbrev B := Call → S → Out Bool
abbrev As := Call → S → Out (List D)
abbrev C := Call → S → Fl

def Out.bind {α β : Type} (x : Out α) (f : α → S → Out β) : Out β := match x with
  | .ok a s => f a s
  | .exc c d s => .exc c d s
  | .bad => .bad
def Out.flow {α : Type} (x : Out α) (f : α → S → Fl) : Fl := match x with
  | .ok a s => f a s
  | .exc c d s => .exc c d s
  | .bad => .bad
@[simp] theorem Out.bind_ok {α β : Type} (a : α) (s : S) (f : α → S → Out β) : (Out.ok a s).bind f = f a s := rfl
@[simp] theorem Out.bind_exc {α β : Type} (c : Str) (d : D) (s : S) (f : α → S → Out β) : (Out.exc c d s : Out α).bind f = .exc c d s := rfl
@[simp] theorem Out.bind_bad {α β : Type} (f : α → S → Out β) : (Out.bad : Out α).bind f = .bad := rfl
@[simp] theorem Out.flow_ok {α : Type} (a : α) (s : S) (f : α → S → Fl) : (Out.ok a s).flow f = f a s := rfl
@[simp] theorem Out.flow_exc {α : Type} (c : Str) (d : D) (s : S) (f : α → S → Fl) : (Out.exc c d s : Out α).flow f = .exc c d s := rfl
@[simp] theorem Out.flow_bad {α : Type} (f : α → S → Fl) : (Out.bad : Out α).flow f = .bad := rfl
def lift {α : Type} (s : S) : Option α → Out α
  | some a => .ok a s
  | none => .bad
@[simp] theorem lift_some {α : Type} (s : S) (a : α) : lift s (some a) = .ok a s := rfl
@[simp] theorem lift_none {α : Type} (s : S) : lift s (none : Option α) = .bad := rfl

/-! ### the slots -/
def slp : List (Option O) → Sr → List (O × V)
  | some o :: os, some v :: vs => (o, v) :: slp os vs
  | _ :: os, _ :: vs => slp os vs
  | _, _ => []
structure SlOk (σ : List (Option O)) (σr : Sr) : Prop where
  len : σ.length = σr.length
  at_ : ∀ (i : Nat) o, σ[i]? = some (some o) → ∃ v, σr[i]? = some (some v)
/-- the values among what is at hand -/
def ow : List (R × V) → List (O × V)
  | (.own o, v) :: r => (o, v) :: ow r
  | (.bor _, _) :: r => ow r
  | [] => []
/-- what is at hand in a frame -/
structure CfS (G : GE) (σr : Sr) (H : Hp) (s : S) (Φ : List (R × V)) : Prop where
  sl : SlOk s.σ σr
  bo : ∀ i v, (R.bor i, v) ∈ Φ → σr[i]? = some (some v)
  cf : Cf G H s.h (slp s.σ σr ++ ow Φ)

theorem slp_at : ∀ {σ : List (Option O)} {σr : Sr} {i : Nat} {o : O} {v : V}, σ[i]? = some (some o) → σr[i]? = some (some v) →
    ∃ X Y, slp σ σr = X ++ (o, v) :: Y ∧ (∀ o', slp (σ.set i (some o')) σr = X ++ (o', v) :: Y)
  | [], _, _, _, _, e, _ => by simp at e
  | _ :: _, [], _, _, _, _, e => by simp at e
  | a :: σ, b :: σr, 0, o, v, e1, e2 => by
    simp at e1 e2
    subst e1; subst e2
    exact ⟨[], slp σ σr, rfl, fun o' => rfl⟩
  | a :: σ, b :: σr, i + 1, o, v, e1, e2 => by
    obtain ⟨X, Y, q1, q2⟩ := slp_at (σ := σ) (σr := σr) (i := i) (o := o) (v := v) (by simpa using e1) (by simpa using e2)
    cases a with
    | none => exact ⟨X, Y, q1, fun o' => q2 o'⟩
    | some a =>
      cases b with
      | none => exact ⟨X, Y, q1, fun o' => q2 o'⟩
      | some b => exact ⟨(a, b) :: X, Y, by simp [slp, q1], fun o' => by simp [slp, q2]⟩
/-- a slot is written: what stood there is forgotten -/
theorem slp_set : ∀ {σ : List (Option O)} {σr : Sr} {i : Nat} {o : O} {v : V}, i < σ.length → i < σr.length →
    ∃ X Z Y, slp σ σr = X ++ (Z ++ Y) ∧ slp (σ.set i (some o)) (σr.set i (some v)) = X ++ (o, v) :: Y ∧ slp (σ.set i none) (σr.set i none) = X ++ Y
  | [], _, _, _, _, e, _ => by simp at e
  | _ :: _, [], _, _, _, _, e => by simp at e
  | a :: σ, b :: σr, 0, o, v, _, _ => by
    cases a with
    | none => exact ⟨[], [], slp σ σr, rfl, rfl, rfl⟩
    | some a =>
      cases b with
      | none => exact ⟨[], [], slp σ σr, rfl, rfl, rfl⟩
      | some b => exact ⟨[], [(a, b)], slp σ σr, rfl, rfl, rfl⟩
  | a :: σ, b :: σr, i + 1, o, v, e1, e2 => by
    obtain ⟨X, Z, Y, q1, q2, q3⟩ := slp_set (σ := σ) (σr := σr) (i := i) (o := o) (v := v) (by simpa using e1) (by simpa using e2)
    cases a with
    | none => exact ⟨X, Z, Y, q1, q2, q3⟩
    | some a =>
      cases b with
      | none => exact ⟨X, Z, Y, q1, q2, q3⟩
      | some b => exact ⟨(a, b) :: X, Z, Y, by simp [slp, q1], by simp [slp, q2], by simp [slp, q3]⟩

theorem ow_append : ∀ (Φ Ψ : List (R × V)), ow (Φ ++ Ψ) = ow Φ ++ ow Ψ
  | [], _ => rfl
  | (.own o, v) :: r, Ψ => by simp [ow, ow_append r Ψ]
  | (.bor i, v) :: r, Ψ => by simp [ow, ow_append r Ψ]
theorem ow_perm {Φ Ψ : List (R × V)} (p : Φ.Perm Ψ) : (ow Φ).Perm (ow Ψ) := by
  induction p with
  | nil => exact .refl _
  | cons x _ ih => cases x with | mk r v => cases r <;> simp [ow, ih]
  | swap x y l =>
    cases x with | mk r v => cases y with | mk r' v' => cases r <;> cases r' <;> simp [ow] ; exact .swap _ _ _
  | trans _ _ a b => exact a.trans b
/-- what a reader sees of a datum: a cell's contents -/
def deref (h : List O) : D → Option D
  | .loc n => (h[n]?).map frz
  | d => some d
def peek (s : S) : R → Option D
  | .own o => deref s.h (frz o)
  | .bor i => match s.σ[i]? with
    | some (some o) => deref s.h (frz o)
    | _ => none
/-- what is taken to be kept: frozen -/
def take (s : S) : R → Option (D × S)
  | .own o => some (frz o, s)
  | .bor i => match s.σ[i]? with
    | some (some o) => some (frz o, ⟨s.σ.set i (some (.fz (frz o))), s.h⟩)
    | _ => none
section
variable {G : GE} {σr : Sr} {H : Hp} {s : S} {Φ : List (R × V)}
/-- a rule about what is at hand, whatever else there is -/
theorem CfS.by_ {Φ' : List (R × V)} {H' : Hp} {h' : List O} (c : CfS G σr H s Φ) (hb : ∀ i v, (R.bor i, v) ∈ Φ' → (R.bor i, v) ∈ Φ) (f : ∀ L, Cf G H s.h (ow Φ ++ L) → Cf G H' h' (ow Φ' ++ L)) : CfS G σr H' ⟨s.σ, h'⟩ Φ' :=
  ⟨c.sl, fun i v q => c.bo i v (hb i v q), (f _ (c.cf.perm List.perm_append_comm)).perm List.perm_append_comm⟩
theorem CfS.perm {Φ' : List (R × V)} (p : Φ.Perm Φ') (c : CfS G σr H s Φ) : CfS G σr H s Φ' := ⟨c.sl, fun i v q => c.bo i v (p.mem_iff.mpr q), c.cf.perm ((ow_perm p).append_left _)⟩
theorem CfS.drop {p : R × V} (c : CfS G σr H s (p :: Φ)) : CfS G σr H s Φ := c.by_ (fun _ _ q => List.mem_cons_of_mem _ q) fun L q => by
  cases p with | mk r v => cases r with
    | own o => exact Cf.drop (p := (o, v)) q
    | bor i => exact q
theorem CfS.dropN : ∀ {K : List (R × V)}, CfS G σr H s (K ++ Φ) → CfS G σr H s Φ
  | [], c => c
  | _ :: K, c => CfS.dropN (K := K) c.drop
theorem CfS.swap {p q : R × V} (c : CfS G σr H s (p :: q :: Φ)) : CfS G σr H s (q :: p :: Φ) := c.perm (.swap _ _ _)
theorem CfS.frz {o : O} {v : V} (c : CfS G σr H s ((.own o, v) :: Φ)) : CfS G σr H s ((.own (.fz (frz o)), v) :: Φ) := c.by_ (fun _ _ q => by simpa using q) fun L q => Cf.frz q
/-- a name is read -/
theorem CfS.name {i : Nat} {o : O} (c : CfS G σr H s Φ) (e : s.σ[i]? = some (some o)) : ∃ v, σr[i]? = some (some v) ∧ CfS G σr H s ((.bor i, v) :: Φ) := by
  obtain ⟨v, ev⟩ := c.sl.at_ i o e
  refine ⟨v, ev, c.sl, fun j w q => ?_, c.cf⟩
  rcases List.mem_cons.mp q with q | q
  · injection q with q1 q2; injection q1 with q1; subst q1; subst q2; exact ev
  · exact c.bo j w q
/-- what is kept is frozen -/
theorem CfS.take {r : R} {v : V} {d : D} {s' : S} (c : CfS G σr H s ((r, v) :: Φ)) (e : take s r = some (d, s')) : CfS G σr H s' ((.own (.fz d), v) :: Φ) := by
  cases r with
  | own o =>
    simp only [Mi.take, Option.some.injEq, Prod.mk.injEq] at e
    obtain ⟨e1, e2⟩ := e
    subst e1; subst e2
    exact c.frz
  | bor i =>
    simp only [Mi.take] at e
    have ev : σr[i]? = some (some v) := c.bo i v (by simp)
    have cb := fun j w q => c.bo j w (List.mem_cons_of_mem _ q)
    have ok := c.sl
    have cf : Cf G H s.h (slp s.σ σr ++ ow Φ) := c.cf
    split at e
    · rename_i o eo
      simp only [Option.some.injEq, Prod.mk.injEq] at e
      obtain ⟨e1, e2⟩ := e
      subst e1; subst e2
      refine ⟨⟨by simp [ok.len], fun j o' q => ?_⟩, fun j w q => ?_, ?_⟩
      · by_cases hj : i = j
        · subst hj; exact ⟨v, ev⟩
        · exact ok.at_ j o' (by simpa [List.getElem?_set, hj] using q)
      · rcases List.mem_cons.mp q with q | q
        · cases q
        · exact cb j w q
      · obtain ⟨X, Y, q1, q2⟩ := slp_at eo ev
        show Cf G H s.h (slp (s.σ.set i _) σr ++ (O.fz (Mi.frz o), v) :: ow Φ)
        rw [q2]
        rw [q1] at cf
        have c1 : Cf G H s.h ((o, v) :: (X ++ Y ++ ow Φ)) := cf.perm (by simp)
        refine c1.frz.dup.perm ?_
        simp only [List.append_assoc, List.cons_append]
        refine List.Perm.trans (List.Perm.cons _ ?_) List.perm_middle.symm
        rw [← List.append_assoc, ← List.append_assoc]
        exact List.perm_middle.symm
    · cases e
end
end Mi

set_option Elab.async false
set_option linter.all false
set_option maxRecDepth 100000
set_option maxHeartbeats 4000000
/-! Mi, part D: readings. -/
namespace Mi
open PySem PySem.Spec PyProof.Rows L2

/-! ### what is read of a value -/
def RepT (G : GE) (ρ : List Addr) (H : Hp) (M : List Addr) : D → V → Prop
  | .lst ds, v => ∃ a vs, v = .ref a ∧ H a = some (.lst vs) ∧ RepDs G ρ H M ds vs
  | .dic ks ds, v => ∃ a vs, v = .ref a ∧ Rd H a (.dK (ks.zip vs)) ∧ ks.length = vs.length ∧ RepDs G ρ H M ds vs
  | .ins c fs ds, v => ∃ a C dx vs, v = .ref a ∧ G.cls c = some C ∧ H a = some (.ins C dx (fs.zip vs)) ∧ fs.length = vs.length ∧ RepDs G ρ H M ds vs
  | .scr ns, v => ∃ a, v = .ref a ∧ SqL G.K H a (ns.map V.int)
  | d, v => RepD G ρ H M d v
section
variable {G : GE} {ρ : List Addr} {H : Hp} {M : List Addr} {h : List O} {L : List (O × V)}
theorem RepD.view : ∀ {d : D} {v : V}, RepD G ρ H M d v → RepT G ρ H M d v
  | .non, v, h => h
  | .bl b, v, h => h
  | .int i, v, h => h
  | .str x, v, h => h
  | .tup ds, v, h => h
  | .lst ds, v, h => by obtain ⟨a, vs, e, t, n, r⟩ := h; exact ⟨a, vs, e, t, r⟩
  | .dic ks ds, v, h => by obtain ⟨a, vs, e, t, l, n, r⟩ := h; exact ⟨a, vs, e, t, l, r⟩
  | .ins c fs ds, v, h => by obtain ⟨a, C, dx, vs, e, g, t, l, n, r⟩ := h; exact ⟨a, C, dx, vs, e, g, t, l, r⟩
  | .loc n, v, h => h
  | .fn f, v, h => h
  | .scr ns, v, h => by
    obtain ⟨a, e, t | t⟩ := h
    · exact ⟨a, e, .inl t.1⟩
    · exact ⟨a, e, .inr t⟩
  | .ty n, v, h => h
  | .cls c, v, h => h
theorem Own.view {o : O} {v : V} {A : List Addr} (w : Own G ρ H M o v A) : RepT G ρ H M (Mi.frz o) v := by
  cases o with
  | fz d => exact w.1.view
  | lst ds => obtain ⟨a, vs, e, t, r, f⟩ := w; exact ⟨a, vs, e, t, r⟩
  | dic ks ds => obtain ⟨a, vs, e, t, l, r, f⟩ := w; exact ⟨a, vs, e, .inl t, l, r⟩
  | ins c fs ds => obtain ⟨a, C, dx, vs, e, g, t, l, r, f⟩ := w; exact ⟨a, C, dx, vs, e, g, t, l, r⟩
theorem Owns.mem : ∀ {L : List (O × V)} {F : List Addr} {p : O × V}, Owns G ρ H M L F → p ∈ L → ∃ A, Own G ρ H M p.1 p.2 A
  | [], _, _, _, hp => by simp at hp
  | q :: L, F, p, w, hp => by
    obtain ⟨A, B, e, h1, h2⟩ := w
    rcases List.mem_cons.mp hp with z | z
    · subst z; exact ⟨A, h1⟩
    · exact Owns.mem h2 z
theorem Cp.view {o : O} {v : V} {d : D} (c : Cp G ρ H M h L) (hp : (o, v) ∈ L) (e : deref h (frz o) = some d) : RepT G ρ H M d v := by
  obtain ⟨A, w⟩ := Owns.mem c.2.1 (List.mem_append_right _ hp)
  have q := w.view
  have gen : ∀ d0, deref h d0 = some d → RepT G ρ H M d0 v → RepT G ρ H M d v := by
    intro d0 e0 q0
    cases d0 with
    | loc n =>
      simp only [deref, Option.map_eq_some_iff] at e0
      obtain ⟨o', ho, eo⟩ := e0
      obtain ⟨a, ev, er⟩ := q0
      obtain ⟨X, Y, q1, q2⟩ := zip_at ho er
      obtain ⟨A', w'⟩ := Owns.mem (p := (o', .ref a)) c.2.1 (List.mem_append_left _ (by rw [q1]; simp))
      rw [ev, ← eo]
      exact w'.view
    | _ => all_goals (simp only [deref, Option.some.injEq] at e0; subst e0; exact q0)
  exact gen _ e q
/-- what is owned is a list, a dict or an instance -/
theorem Own.kind {o : O} {v : V} {F : List Addr} (w : Own G ρ H M o v F) : ∀ b ∈ F, ∃ x, H b = some x ∧ Mut (some x) := by
  cases o with
  | fz d => rw [w.2]; intro b hb; simp at hb
  | lst ds => obtain ⟨a, vs, e, t, r, f⟩ := w; rw [f]; intro b hb; simp at hb; subst hb; exact ⟨_, t, trivial⟩
  | dic ks ds => obtain ⟨a, vs, e, t, l, r, f⟩ := w; rw [f]; intro b hb; simp at hb; subst hb; exact ⟨_, t, trivial⟩
  | ins c fs ds => obtain ⟨a, C, dx, vs, e, g, t, l, r, f⟩ := w; rw [f]; intro b hb; simp at hb; subst hb; exact ⟨_, t, trivial⟩
theorem Owns.kind : ∀ {L : List (O × V)} {F : List Addr}, Owns G ρ H M L F → ∀ b ∈ F, ∃ x, H b = some x ∧ Mut (some x)
  | [], F, w, b, hb => by rw [show F = [] from w] at hb; simp at hb
  | p :: ps, F, w, b, hb => by
    obtain ⟨A, B, e, h1, h2⟩ := w
    subst e
    rcases List.mem_append.mp hb with hb | hb
    · exact h1.kind b hb
    · exact Owns.kind h2 b hb
theorem Cp.tupF {a : Addr} {vs : List V} {ds : List D} (c : Cp G ρ H M h L) (t : Tr G H M a vs) (r : RepDs G ρ H M ds vs) : Cf G H h ((.fz (.tup ds), .ref a) :: L) :=
  Cf.fz1.mpr ⟨ρ, M, c, a, vs, rfl, t, r⟩
theorem mem_ow {o : O} {v : V} : ∀ {Φ : List (R × V)}, (R.own o, v) ∈ Φ → (o, v) ∈ ow Φ
  | (.own o', v') :: r, hp => by
    rcases List.mem_cons.mp hp with z | z
    · injection z with z1 z2; injection z1 with z1; subst z1; subst z2; simp [ow]
    · exact List.mem_cons_of_mem _ (mem_ow z)
  | (.bor _, _) :: r, hp => by
    rcases List.mem_cons.mp hp with z | z
    · cases z
    · exact mem_ow (Φ := r) z
/-- what is peeked at is read -/
theorem CfS.peek {σr : Sr} {s : S} {Φ : List (R × V)} {r : R} {v : V} {d : D} (c : CfS G σr H s Φ) (hp : (r, v) ∈ Φ) (e : peek s r = some d) (cp : Cp G ρ H M s.h (slp s.σ σr ++ ow Φ)) : RepT G ρ H M d v := by
  cases r with
  | own o => exact cp.view (List.mem_append_right _ (mem_ow hp)) e
  | bor i =>
    simp only [Mi.peek] at e
    split at e
    · rename_i o eo
      obtain ⟨X, Y, q1, q2⟩ := slp_at eo (c.bo i v hp)
      exact cp.view (List.mem_append_left _ (by rw [q1]; simp)) e
    · cases e
theorem CfS.parts {σr : Sr} {s : S} {Φ : List (R × V)} (c : CfS G σr H s Φ) : ∃ ρ M, Cp G ρ H M s.h (slp s.σ σr ++ ow Φ) := c.cf
/-- something new beside what is at hand -/
theorem CfS.more {σr : Sr} {s : S} {K Φ : List (R × V)} {H' : Hp} {o : O} {v : V} (c : CfS G σr H s (K ++ Φ)) (q : Cf G H' s.h ((o, v) :: (slp s.σ σr ++ ow (K ++ Φ)))) : CfS G σr H' s ((.own o, v) :: Φ) := by
  refine ⟨c.sl, fun i w z => ?_, ?_⟩
  · rcases List.mem_cons.mp z with z | z
    · cases z
    · exact c.bo i w (List.mem_append_right _ z)
  · show Cf G H' s.h (slp s.σ σr ++ (o, v) :: ow Φ)
    rw [ow_append] at q
    have q2 : Cf G H' s.h (ow K ++ ((o, v) :: (slp s.σ σr ++ ow Φ))) := q.perm (by
      rw [← List.append_assoc]
      refine List.Perm.trans (List.Perm.cons _ (List.perm_append_comm.append_right _)) ?_
      rw [List.append_assoc]
      exact List.perm_middle.symm)
    exact (Cf.dropN q2).perm List.perm_middle.symm
theorem CfS.cpMore {σr : Sr} {s : S} {K Φ : List (R × V)} {d : D} {v : V} (c : CfS G σr H s (K ++ Φ)) (cp : Cp G ρ H M s.h (slp s.σ σr ++ ow (K ++ Φ))) (r : RepD G ρ H M d v) : CfS G σr H s ((.own (.fz d), v) :: Φ) :=
  c.more (Cf.fz1.mpr ⟨ρ, M, cp, r⟩)
end

/-! ### readings -/
/-- an exception on its way -/
def ExR (G : GE) (σr : Sr) (H : Hp) (s : S) (Φ : List (R × V)) (c : Str) (d : D) (cls : Value) (dx : Option Addr) : Prop :=
  ∃ C f a v, cls = .ref C ∧ G.exc c = some (C, f) ∧ dx = some a ∧ H a = some (.xd [(f, v)]) ∧ CfS G σr H s ((.own (.fz d), v) :: Φ)
def Aft (G : GE) (W : WX) (σr : Sr) (Φ : List (R × V)) {α : Type} (P : α → S → Prop) : Out α → Prop
  | .ok a s => P a s
  | .exc c d s => ∀ cls dx H, ExR G σr H s Φ c d cls dx → W cls dx σr H
  | .bad => False
section
variable {G : GE} {W : WX} {σr : Sr} {Φ K : List (R × V)} {α β : Type} {P P' : α → S → Prop}
theorem Aft.mono {x : Out α} (a : Aft G W σr Φ P x) (f : ∀ y s, P y s → P' y s) : Aft G W σr Φ P' x := by
  cases x with
  | ok y s => exact f _ _ a
  | exc c d s => exact a
  | bad => exact a
theorem Aft.bind {Pb : β → S → Prop} {x : Out α} {k : α → S → Out β} (a : Aft G W σr Φ Pb (x.bind k)) : Aft G W σr Φ (fun y s => Aft G W σr Φ Pb (k y s)) x := by
  cases x with
  | ok y s => exact a
  | exc c d s => exact a
  | bad => exact a
theorem Aft.frame {x : Out α} (a : Aft G W σr Φ P x) : Aft G W σr (K ++ Φ) P x := by
  cases x with
  | ok y s => exact a
  | exc c d s =>
    rintro cls dx H ⟨C, f, b, v, e1, e2, e3, e4, c5⟩
    refine a cls dx H ⟨C, f, b, v, e1, e2, e3, e4, ?_⟩
    have c6 : CfS G σr H s (K ++ (.own (.fz d), v) :: Φ) := c5.perm (List.perm_middle.symm)
    exact c6.dropN
  | bad => exact a
theorem Aft.frame1 {p : R × V} {x : Out α} (a : Aft G W σr Φ P x) : Aft G W σr (p :: Φ) P x := Aft.frame (K := [p]) a
theorem Aft.lift {s : S} {x : Option α} (a : Aft G W σr Φ P (lift s x)) : ∃ y, x = some y ∧ P y s := by
  cases x with
  | none => exact a.elim
  | some y => exact ⟨y, rfl, a⟩
end
/-- what is wanted of an expression's value -/
abbrev PV (G : GE) (σr : Sr) (Φ : List (R × V)) (Q : VK) : R → S → Prop := fun r s => ∀ v H, CfS G σr H s ((r, v) :: Φ) → Q v H
def tE (G : GE) (W : WX) (call : Call) (m : E) : TE := fun σr H Q => ∃ s Φ, CfS G σr H s Φ ∧ Aft G W σr Φ (PV G σr Φ Q) (m call s)
abbrev PB (G : GE) (σr : Sr) (Φ : List (R × V)) (Q : Bool → Hp → Prop) : Bool → S → Prop := fun b s => ∀ H, CfS G σr H s Φ → Q b H
def tB_ (G : GE) (W : WX) (call : Call) (m : B) : TT := fun σr H Q => ∃ s Φ, CfS G σr H s Φ ∧ Aft G W σr Φ (PB G σr Φ Q) (m call s)
/-- frozen values at hand -/
def FzR (ds : List D) (vs : List V) : List (R × V) := List.zipWith (fun d v => (R.own (.fz d), v)) ds vs
abbrev PL (G : GE) (σr : Sr) (Φ : List (R × V)) (Q : List V → Hp → Prop) : List D → S → Prop := fun ds s => ∀ vs H, ds.length = vs.length → CfS G σr H s (FzR ds vs ++ Φ) → Q vs H
def tL (G : GE) (W : WX) (call : Call) (m : As) : TA := fun σr H Q => ∃ s Φ, CfS G σr H s Φ ∧ Aft G W σr Φ (PL G σr Φ Q) (m call s)

theorem _root_.L2.PE.of {X : Cx} {e : Expr} {t t' : TE} (h : PE X e t') (i : ∀ σ H Q, t σ H Q → t' σ H Q) : PE X e t := ⟨fun pins s σ H Q I q => h.run pins s σ H Q I (i σ H Q q)⟩
theorem _root_.L2.PT.of {X : Cx} {e : Expr} {t t' : TT} (h : PT X e t') (i : ∀ σ H Q, t σ H Q → t' σ H Q) : PT X e t := ⟨fun pins s σ H Q I q => h.run pins s σ H Q I (i σ H Q q)⟩
theorem _root_.L2.PA.of {X : Cx} {e : List Expr} {t t' : TA} (h : PA X e t') (i : ∀ σ H Q, t σ H Q → t' σ H Q) : PA X e t := ⟨fun pos pins s σ H Q I q => h.run pos pins s σ H Q I (i σ H Q q)⟩

/-! ### operations by what they read -/
def r1 (G : GE) (f : D → Option O) : V → Hp → VK → Prop := fun x H Q => ∃ ρ M h L d o, Cp G ρ H M h L ∧ RepT G ρ H M d x ∧ f d = some o ∧ ∀ v H', Cf G H' h ((o, v) :: L) → Q v H'
def r2 (G : GE) (f : D → D → Option O) : R2 := fun x y H Q => ∃ ρ M h L d1 d2 o, Cp G ρ H M h L ∧ RepT G ρ H M d1 x ∧ RepT G ρ H M d2 y ∧ f d1 d2 = some o ∧ ∀ v H', Cf G H' h ((o, v) :: L) → Q v H'
/-- two values read, a value made -/
def mTwo (f : D → D → Option O) (a b : E) : E := fun call s => (a call s).bind fun x s1 => (b call s1).bind fun y s2 => lift s2 ((peek s2 x).bind fun d1 => (peek s2 y).bind fun d2 => (f d1 d2).map R.own)
def mOne (f : D → Option O) (a : E) : E := fun call s => (a call s).bind fun x s1 => lift s1 ((peek s1 x).bind fun d1 => (f d1).map R.own)
section
variable {G : GE} {W : WX} {call : Call}
theorem tOne {f : D → Option O} {a : E} {σr : Sr} {H : Hp} {Q : VK} (h : tE G W call (mOne f a) σr H Q) : tE G W call a σr H fun x H1 => r1 G f x H1 Q := by
  obtain ⟨s, Φ, c, h⟩ := h
  refine ⟨s, Φ, c, (Aft.bind h).mono fun x s1 h1 => fun v H1 c1 => ?_⟩
  obtain ⟨y, e, q⟩ := Aft.lift h1
  simp only [Option.bind_eq_some_iff, Option.map_eq_some_iff] at e
  obtain ⟨d1, e1, o, eo, ey⟩ := e
  subst ey
  obtain ⟨ρ, M, cp⟩ := c1.parts
  exact ⟨ρ, M, _, _, d1, o, cp, c1.peek (by simp) e1 cp, eo, fun w H2 c2 => q w H2 (CfS.more (K := [(x, v)]) c1 c2)⟩
theorem tTwo {f : D → D → Option O} {a b : E} {σr : Sr} {H : Hp} {Q : VK} (h : tE G W call (mTwo f a b) σr H Q) : tE G W call a σr H fun x H1 => tE G W call b σr H1 fun y H2 => r2 G f x y H2 Q := by
  obtain ⟨s, Φ, c, h⟩ := h
  refine ⟨s, Φ, c, (Aft.bind h).mono fun x s1 h1 => fun v1 H1 c1 => ⟨s1, _, c1, ((Aft.bind h1).frame1).mono fun y s2 h2 => fun v2 H2 c2 => ?_⟩⟩
  obtain ⟨z, e, q⟩ := Aft.lift h2
  simp only [Option.bind_eq_some_iff, Option.map_eq_some_iff] at e
  obtain ⟨d1, e1, d2, e2, o, eo, ey⟩ := e
  subst ey
  obtain ⟨ρ, M, cp⟩ := c2.parts
  exact ⟨ρ, M, _, _, d1, d2, o, cp, c2.peek (by simp) e1 cp, c2.peek (by simp) e2 cp, eo, fun w H3 c3 => q w H3 (CfS.more (K := [(y, v2), (x, v1)]) c2 c3)⟩
variable {X : Cx}
theorem pe_bin {f : D → D → Option O} {op : Operator} {a b : Expr} {ma mb : E} {pos : Pos} (ho : OpR X (binaryOp op) (r2 G f)) (ha : PE X a (tE G W call ma)) (hb : PE X b (tE G W call mb)) : PE X (.BinOp a op b pos) (tE G W call (mTwo f ma mb)) :=
  (pe_op ho ha hb).of fun σ H Q h => tTwo h
theorem pe_una {f : D → Option O} {op : UnaryOp} {a : Expr} {ma : E} {pos : Pos} (ho : UnR X (unaryOp op) (r1 G f)) (ha : PE X a (tE G W call ma)) : PE X (.UnaryOp op a pos) (tE G W call (mOne f ma)) :=
  (pe_un ho ha).of fun σ H Q h => tOne h
theorem pe_cmp1 {f : D → D → Option O} {op : CmpOp} {a b : Expr} {ma mb : E} {pos : Pos} (ho : OpR X (compareOp op) (r2 G f)) (ha : PE X a (tE G W call ma)) (hb : PE X b (tE G W call mb)) (hm : behindInMarks op b = false) : PE X (.Compare a [op] [b] pos) (tE G W call (mTwo f ma mb)) :=
  (pe_cmpR ho ha hb hm).of fun σ H Q h => tTwo h
theorem pe_sub1 {f : D → D → Option O} {a b : Expr} {ma mb : E} {pos : Pos} (ho : IxR X (r2 G f)) (ha : PE X a (tE G W call ma)) (hb : PE X b (tE G W call mb)) (hs : PlainIx b) : PE X (.Subscript a b pos) (tE G W call (mTwo f ma mb)) :=
  (pe_ix ho ha hb hs).of fun σ H Q h => tTwo h
end
end Mi

set_option Elab.async false
set_option linter.all false
set_option maxRecDepth 100000
set_option maxHeartbeats 4000000
/-! Mi, part E: names, constants, displays, tests, calls. -/
namespace Mi
open PySem PySem.Spec PyProof.Rows L2

/-! ### what a def promises -/
def AftR (G : GE) (Φ : List (O × V)) (Q : VK) (E : XK) : Res → Prop
  | .ok o h => ∀ v H, Cf G H h ((o, v) :: Φ) → Q v H
  | .exc c d h => ∀ C f a v H, G.exc c = some (C, f) → H a = some (.xd [(f, v)]) → Cf G H h ((.fz d, v) :: Φ) → E (.ref C) (some a) H
  | .bad => False
def spC (G : GE) (call : Call) (f : Str) (n : Nat) : Sp := fun vs H Q E => vs.length = n ∧ ∃ h Φ ds, ds.length = vs.length ∧ Cf G H h (Fz ds vs ++ Φ) ∧ AftR G Φ Q E (call f ds h)

/-- the built-in names that are taken as such -/
def blts : List Str := ["len", "isinstance", "all", "any", "enumerate", "range", "max", "min", "sum", "abs", "int", "str", "tuple", "list", "dict", "sorted", "repr", "zip", "set", "bool", "ValueError", "KeyError", "RuntimeError", "OverflowError", "TypeError", "iter", "reversed"]
/-- what is known when a def is turned: its names by slots, its scope, the module's simple constants -/
structure CC where
  N : List Str
  sc : Scope
  con : Str → Option D
  fns : List Str
  top : Bool
  bare : Bool
  /-- the defs whose new container is put into a cell -/
  cells : List Str
structure Good (G : GE) (k : Nat) (call : Call) (cc : CC) (W : WX) (X : Cx) : Prop where
  N : X.N = cc.N
  bare : G.bare = cc.bare
  nd : cc.N.Nodup
  sc : X.env.scope = cc.sc
  calm : X.calm = true
  K : X.K = G.K
  tk : Takes X W
  room : Room k X.A
  fn : cc.top = true → ∀ x, X.fn x = true
  po : PassesOwn (model X.prog X.w) X.A X.env X.xe
  blt : ∀ x ∈ blts, X.mg x = none
  con : ∀ x d v, cc.con x = some d → simple d = some v → ∃ u, X.mg x = some u ∧ RelV v u
  fns : ∀ f ∈ cc.fns, ∃ a fd ps, G.fns f = some a ∧ X.mg f = some (.ref a) ∧ PySem.W.keepIn X.K (.ref a) = true ∧ Binds X.K fd ps [] ∧ FnOk X.prog X.w X.K X.mg X.base (L2.CX X.prog X.w) k a fd ps (spC G call f ps.length) ∧
    ∀ ds h, ds.length ≠ ps.length → call f ds h = .bad

section
variable {G : GE} {k : Nat} {call : Call} {cc : CC} {W : WX} {X : Cx}

/-! ### names and constants -/
def mVar (i : Nat) : E := fun _ s => match s.σ[i]? with
  | some (some _) => .ok (.bor i) s
  | _ => .bad
theorem e_var (g : Good G k call cc W X) {i : Nat} {x : Str} {pos : Pos} (hi : cc.N[i]? = some x) (hv : Vis cc.sc x) (hd : (x == ("__debug__" : Str)) = false) (hcd : (x == ("__classdict__" : Str)) = false) : PE X (.Name x pos) (tE G W call (mVar i)) := by
  refine (pe_var (i := i) (by rw [g.N]; exact hi) (by rw [g.sc]; exact hv) hd hcd).of fun σ H Q h => ?_
  obtain ⟨s, Φ, c, a⟩ := h
  unfold mVar at a
  split at a
  · rename_i o e
    obtain ⟨v, ev, c'⟩ := c.name e
    exact ⟨v, ev, a v H c'⟩
  · exact a.elim
def mCon (d : D) : E := fun _ s => .ok (.own (.fz d)) s
theorem CfS.simple {σr : Sr} {H : Hp} {s : S} {Φ : List (R × V)} {d : D} {v : V} (c : CfS G σr H s Φ) (e : simple d = some v) : CfS G σr H s ((.own (.fz d), v) :: Φ) :=
  CfS.more (K := []) c (c.cf.simple e)
theorem tCon {d : D} {v : V} (e : simple d = some v) {σr : Sr} {H : Hp} {Q : VK} (h : tE G W call (mCon d) σr H Q) : tC v σr H Q := by
  obtain ⟨s, Φ, c, a⟩ := h
  exact a v H (c.simple e)
theorem e_int {i : Int} {j : Nat} {pos : Pos} : PE X (.Constant (.int i) j pos) (tE G W call (mCon (.int i))) := pe_int.of fun σ H Q h => tCon rfl h
theorem e_bl {i : Bool} {j : Nat} {pos : Pos} : PE X (.Constant (.bool i) j pos) (tE G W call (mCon (.bl i))) := pe_bl.of fun σ H Q h => tCon rfl h
theorem e_str {i : Str} {j : Nat} {pos : Pos} : PE X (.Constant (.str i) j pos) (tE G W call (mCon (.str i))) := pe_str.of fun σ H Q h => tCon rfl h
theorem e_non {j : Nat} {pos : Pos} : PE X (.Constant .none j pos) (tE G W call (mCon .non)) := pe_non.of fun σ H Q h => tCon rfl h
theorem e_glo (g : Good G k call cc W X) {x : Str} {d : D} {v : V} {pos : Pos} (hg : cc.sc.names.lookup x = some .globalImplicit) (hc : cc.con x = some d) (hs : simple d = some v) (hd : (x == ("__debug__" : Str)) = false) : PE X (.Name x pos) (tE G W call (mCon d)) := by
  obtain ⟨u, hu, r⟩ := g.con x d v hc hs
  exact (pe_glob (by show X.env.scope.names.lookup x = _; rw [g.sc]; exact hg) hu r hd).of fun σ H Q h => tCon hs h
theorem Good.gl (g : Good G k call cc W X) {x : Str} (hg : cc.sc.names.lookup x = some .globalImplicit) : Gl X x := by
  show X.env.scope.names.lookup x = _; rw [g.sc]; exact hg

/-! ### argument lists -/
def notStar : Expr → Bool
  | .Starred _ _ => false
  | _ => true
theorem star_cons {e : Expr} {es : List Expr} {env : Env} (h : notStar e = true) : starEach (e :: es) env = (false, eval e env) :: starEach es env := by
  cases e <;> first | rfl | cases h
theorem star_any {pos : Pos} {env : Env} : ∀ {es : List Expr}, es.all notStar = true → (backTo pos (starEach es env)).any (·.1) = false
  | [], _ => rfl
  | e :: es, h => by
    simp only [List.all_cons, Bool.and_eq_true] at h
    rw [star_cons h.1]
    show ((false : Bool) || (backTo pos (starEach es env)).any (·.1)) = false
    rw [star_any h.2]; rfl
def aNil : As := fun _ s => .ok [] s
def aCons (a : E) (r : As) : As := fun call s => (a call s).bind fun x s1 => match take s1 x with
  | some (d, s2) => (r call s2).bind fun ds s3 => .ok (d :: ds) s3
  | none => .bad
theorem a_nil : PA X [] (tL G W call aNil) := pa_nil.of fun σ H Q h => by
  obtain ⟨s, Φ, c, a⟩ := h
  exact a [] H rfl c
theorem a_cons {e : Expr} {es : List Expr} {m : E} {r : As} (he : PE X e (tE G W call m)) (hr : PA X es (tL G W call r)) (hn : notStar e = true) : PA X (e :: es) (tL G W call (aCons m r)) := by
  refine (pa_cons he hr (star_cons hn)).of fun σ H Q h => ?_
  obtain ⟨s, Φ, c, a⟩ := h
  refine ⟨s, Φ, c, (Aft.bind a).mono fun x s1 a1 => fun v H1 c1 => ?_⟩
  split at a1
  · rename_i d s2 et
    have c2 := c1.take et
    refine ⟨s2, _, c2, ((Aft.bind a1).frame1).mono fun ds s3 a3 => fun vs H3 l c3 => ?_⟩
    refine a3 (v :: vs) H3 (by simp [l]) ?_
    exact c3.perm (List.perm_middle)
  · exact a1.elim

/-! ### displays -/
theorem ow_fz : ∀ {ds : List D} {vs : List V}, ow (FzR ds vs) = Fz ds vs
  | [], _ => by simp [FzR, Fz, ow]
  | _ :: _, [] => by simp [FzR, Fz, ow]
  | d :: ds, v :: vs => by
    show (O.fz d, v) :: ow (FzR ds vs) = (O.fz d, v) :: Fz ds vs
    rw [ow_fz]
theorem nob_fz : ∀ {ds : List D} {vs : List V} {i : Nat} {v : V}, (R.bor i, v) ∉ FzR ds vs
  | [], _, _, _ => by simp [FzR]
  | _ :: _, [], _, _ => by simp [FzR]
  | d :: ds, v :: vs, i, w => by
    show (R.bor i, w) ∉ (R.own (.fz d), v) :: FzR ds vs
    intro h
    rcases List.mem_cons.mp h with h | h
    · cases h
    · exact nob_fz h
/-- frozen values at hand become one -/
theorem CfS.pack {σr : Sr} {H H' : Hp} {s : S} {Φ : List (R × V)} {ds : List D} {vs : List V} {o : O} {v : V} (c : CfS G σr H s (FzR ds vs ++ Φ)) (f : ∀ L, Cf G H s.h (Fz ds vs ++ L) → Cf G H' s.h ((o, v) :: L)) : CfS G σr H' s ((.own o, v) :: Φ) :=
  c.by_ (fun i w q => by
    rcases List.mem_cons.mp q with q | q
    · cases q
    · exact List.mem_append_right _ q) fun L q => by
    rw [ow_append, ow_fz, List.append_assoc] at q
    exact f _ q
def fitsB (n : Nat) : Bool := decide (n ≤ 100000)
theorem fits {n : Nat} (h : fitsB n = true) : n ≤ sizeLine := Nat.le_trans (of_decide_eq_true h) (by decide)
def mTup (r : As) : E := fun call s => (r call s).bind fun ds s1 => if fitsB ds.length then .ok (.own (.fz (.tup ds))) s1 else .bad
def mLst (r : As) : E := fun call s => (r call s).bind fun ds s1 => if fitsB ds.length then .ok (.own (.lst ds)) s1 else .bad
/-- a tuple that bears no dict, told so -/
theorem pe_tupB {es : List Expr} {t : TA} {n : Nat} {pos : Pos} (h : PA X es t) : PE X (.Tuple es n pos) (fun σ H Q => t σ H fun xs H1 => xs.length ≤ sizeLine ∧ ∀ p ob, ob.dict = none → H1 p = none → Q (.ref p) (upd H1 p (.frz ob (.tup xs)))) := by
  refine ⟨fun pins s σ H Q I hq => ?_⟩
  refine wpAny_Tuple_spliced (thn (h.run pos pins s σ H _ I hq) fun us s1 ⟨xs, H1, I1, r, z, q⟩ => ⟨by rw [← r.length]; exact z, ?_⟩)
  have hf : H1 s1.heap.objs.size = none := I1.hok.fresh (Nat.le_refl _)
  refine ⟨.ref s1.heap.objs.size, upd H1 s1.heap.objs.size (.frz { cls := .type "tuple", data := .seq us.toArray } (.tup xs)), I1.laid (t' := s1.toks) (fun b u e => Heap.get?_push_of_some _ e) (Nat.le_refl _) ?_, rfl, q _ _ rfl hf⟩
  exact ⟨Heap.get?_push_size _ rfl, z, us, r, ⟨_, Heap.get?_push_size _ rfl, rfl, _, rfl⟩⟩
theorem e_tup {es : List Expr} {r : As} {n : Nat} {pos : Pos} (h : PA X es (tL G W call r)) : PE X (.Tuple es n pos) (tE G W call (mTup r)) := by
  cases hb : G.bare with
  | false =>
    refine (pe_tup h).of fun σ H Q q => ?_
    obtain ⟨s, Φ, c, a⟩ := q
    refine ⟨s, Φ, c, (Aft.bind a).mono fun ds s1 a1 => fun vs H1 l c1 => ?_⟩
    split at a1
    · rename_i hf
      exact ⟨by rw [← l]; exact fits hf, fun p hp => a1 _ _ (c1.pack fun L q => Cf.newTup l q hp ⟨hb, rfl⟩)⟩
    · exact a1.elim
  | true =>
    refine (pe_tupB h).of fun σ H Q q => ?_
    obtain ⟨s, Φ, c, a⟩ := q
    refine ⟨s, Φ, c, (Aft.bind a).mono fun ds s1 a1 => fun vs H1 l c1 => ?_⟩
    split at a1
    · rename_i hf
      exact ⟨by rw [← l]; exact fits hf, fun p ob ho hp => a1 _ _ (c1.pack fun L q => Cf.newTup l q hp ⟨rfl, fun _ => ho⟩)⟩
    · exact a1.elim
theorem e_lst {es : List Expr} {r : As} {pos : Pos} (h : PA X es (tL G W call r)) : PE X (.List es pos) (tE G W call (mLst r)) := by
  refine (pe_lst h).of fun σ H Q q => ?_
  obtain ⟨s, Φ, c, a⟩ := q
  refine ⟨s, Φ, c, (Aft.bind a).mono fun ds s1 a1 => fun vs H1 l c1 => ?_⟩
  split at a1
  · rename_i hf
    exact ⟨by rw [← l]; exact fits hf, fun p hp => a1 _ _ (c1.pack fun L q => Cf.newLst l q hp)⟩
  · exact a1.elim

/-! ### truth -/
def truD : D → Option Bool
  | .non => some false
  | .bl b => some b
  | .int i => some (i != 0)
  | .str x => if fitsB x.length then some ((x.length : Int) != 0) else none
  | .tup ds => some (!ds.isEmpty)
  | .lst ds => some (!ds.isEmpty)
  | .dic ks ds => none
  | _ => none
theorem RepDs.isEmpty {ρ : List Addr} {H : Hp} {M : List Addr} {ds : List D} {vs : List V} (r : RepDs G ρ H M ds vs) : ds.isEmpty = vs.isEmpty := by
  have := r.length
  cases ds <;> cases vs <;> simp at this <;> rfl
theorem tru_of {ρ : List Addr} {H : Hp} {M : List Addr} {d : D} {v : V} {b : Bool} (hK : X.K = G.K) (r : RepT G ρ H M d v) (e : truD d = some b) : TruV X.K v H b := by
  rw [hK]
  cases d with
  | non => simp only [truD, Option.some.injEq] at e; subst e; obtain rfl := (show v = _ from r); rfl
  | bl b => simp only [truD, Option.some.injEq] at e; subst e; obtain rfl := (show v = _ from r); rfl
  | int b => simp only [truD, Option.some.injEq] at e; subst e; obtain rfl := (show v = _ from r); rfl
  | str x =>
    simp only [truD] at e
    split at e
    · rename_i hf
      simp only [Option.some.injEq] at e; subst e; obtain rfl := (show v = _ from r); exact ⟨fits hf, rfl⟩
    · cases e
  | tup ds =>
    simp only [truD, Option.some.injEq] at e; subst e
    obtain ⟨a, vs, rfl, t, r⟩ := r
    exact .inr (.inl ⟨vs, t.sq, by rw [r.isEmpty]⟩)
  | lst ds =>
    simp only [truD, Option.some.injEq] at e; subst e
    obtain ⟨a, vs, rfl, t, r⟩ := r
    exact .inl ⟨vs, .inl (.inl t), by rw [r.isEmpty]⟩
  | dic ks ds => simp [truD] at e
  | ins c fs ds => simp [truD] at e
  | loc n => simp [truD] at e
  | fn f => simp [truD] at e
  | scr ns => simp [truD] at e
  | ty n => simp [truD] at e
  | cls c => simp [truD] at e
/-- a value's truth: the value is let go -/
def truR (s : S) (x : R) : Option Bool := (peek s x).bind truD
def bVal (m : E) : B := fun call s => (m call s).bind fun x s1 => lift s1 (truR s1 x)
theorem t_val (g : Good G k call cc W X) {e : Expr} {m : E} (h : PE X e (tE G W call m)) (he : ∀ env whole, isTrue e env whole = (do let v ← whole; standAt e.pos; holding [v] (truthy v))) : PT X e (tB_ G W call (bVal m)) := by
  refine (pt_truth h (he _)).of fun σ H Q q => ?_
  obtain ⟨s, Φ, c, a⟩ := q
  refine ⟨s, Φ, c, (Aft.bind a).mono fun x s1 a1 => fun v H1 c1 => ?_⟩
  obtain ⟨b, e1, q⟩ := Aft.lift a1
  simp only [truR, Option.bind_eq_some_iff] at e1
  obtain ⟨d, e2, e3⟩ := e1
  obtain ⟨ρ, M, cp⟩ := c1.parts
  exact ⟨b, tru_of g.K (c1.peek (by simp) e2 cp) e3, q H1 c1.drop⟩
/-- a comparison as a test -/
def isB (s : S) (x : R) : Option Bool := (peek s x).bind fun d => match d with | .bl b => some b | _ => none
def bCmp (m : E) : B := fun call s => (m call s).bind fun x s1 => lift s1 (isB s1 x)
theorem t_cmp1 {f : D → D → Option O} {op : CmpOp} {a b : Expr} {ma mb : E} {pos : Pos} (ho : OpR X (compareOp op) (r2 G f)) (ha : PE X a (tE G W call ma)) (hb : PE X b (tE G W call mb)) (hm : behindInMarks op b = false) : PT X (.Compare a [op] [b] pos) (tB_ G W call (bCmp (mTwo f ma mb))) := by
  refine (pt_cmpR ho ha hb hm).of fun σ H Q q => ?_
  obtain ⟨s, Φ, c, a⟩ := q
  refine tTwo ⟨s, Φ, c, (Aft.bind a).mono fun x s1 a1 => fun v H1 c1 => ?_⟩
  obtain ⟨b, e1, q⟩ := Aft.lift a1
  simp only [isB, Option.bind_eq_some_iff] at e1
  obtain ⟨d, e2, e3⟩ := e1
  obtain ⟨ρ, M, cp⟩ := c1.parts
  have r := c1.peek (v := v) (by simp) e2 cp
  split at e3
  · rename_i b'
    simp only [Option.some.injEq] at e3
    subst e3
    exact ⟨b', r, q H1 c1.drop⟩
  · cases e3
def bNot (m : B) : B := fun call s => (m call s).bind fun b s1 => .ok (!b) s1
theorem t_not {a : Expr} {m : B} {pos : Pos} (h : PT X a (tB_ G W call m)) : PT X (.UnaryOp .Not a pos) (tB_ G W call (bNot m)) := by
  refine (pt_not h).of fun σ H Q q => ?_
  obtain ⟨s, Φ, c, a⟩ := q
  exact ⟨s, Φ, c, (Aft.bind a).mono fun b s1 a1 => fun H1 c1 => a1 H1 c1⟩
def bAnd (a b : B) : B := fun call s => (a call s).bind fun x s1 => if x then b call s1 else .ok false s1
def bOr (a b : B) : B := fun call s => (a call s).bind fun x s1 => if x then .ok true s1 else b call s1
theorem w_and1 {a : Expr} {m : B} {pos : Pos} (h : PT X a (tB_ G W call m)) : PW X (.BoolOp .And [a] pos) (tB_ G W call m) := pw_and1 h
theorem w_or1 {a : Expr} {m : B} {pos : Pos} (h : PT X a (tB_ G W call m)) : PW X (.BoolOp .Or [a] pos) (tB_ G W call m) := pw_or1 h
theorem _root_.L2.PW.of {X : Cx} {e : Expr} {t t' : TT} (h : PW X e t') (i : ∀ σ H Q, t σ H Q → t' σ H Q) : PW X e t := ⟨fun w pins s σ H Q I q => h.run w pins s σ H Q I (i σ H Q q)⟩
theorem w_and {a b : Expr} {rest : List Expr} {m n : B} {pos : Pos} (h : PT X a (tB_ G W call m)) (h2 : PW X (.BoolOp .And (b :: rest) pos) (tB_ G W call n)) : PW X (.BoolOp .And (a :: b :: rest) pos) (tB_ G W call (bAnd m n)) := by
  refine (pw_and h h2).of fun σ H Q q => ?_
  obtain ⟨s, Φ, c, a⟩ := q
  refine ⟨s, Φ, c, (Aft.bind a).mono fun b s1 a1 => fun H1 c1 => ?_⟩
  cases b with
  | true => exact ⟨s1, Φ, c1, a1⟩
  | false => exact a1 H1 c1
theorem w_or {a b : Expr} {rest : List Expr} {m n : B} {pos : Pos} (h : PT X a (tB_ G W call m)) (h2 : PW X (.BoolOp .Or (b :: rest) pos) (tB_ G W call n)) : PW X (.BoolOp .Or (a :: b :: rest) pos) (tB_ G W call (bOr m n)) := by
  refine (pw_or h h2).of fun σ H Q q => ?_
  obtain ⟨s, Φ, c, a⟩ := q
  refine ⟨s, Φ, c, (Aft.bind a).mono fun b s1 a1 => fun H1 c1 => ?_⟩
  cases b with
  | true => exact a1 H1 c1
  | false => exact ⟨s1, Φ, c1, a1⟩

/-! ### and, or, not, if as values -/
def mAnd (a b : E) : E := fun call s => (a call s).bind fun x s1 => match truR s1 x with
  | some true => b call s1
  | some false => .ok x s1
  | none => .bad
def mOr (a b : E) : E := fun call s => (a call s).bind fun x s1 => match truR s1 x with
  | some true => .ok x s1
  | some false => b call s1
  | none => .bad
def mNot (a : E) : E := fun call s => (a call s).bind fun x s1 => match truR s1 x with
  | some b => .ok (.own (.fz (.bl (!b)))) s1
  | none => .bad
theorem tru_R {σr : Sr} {H : Hp} {s : S} {Φ : List (R × V)} {x : R} {v : V} {b : Bool} (hK : X.K = G.K) (c : CfS G σr H s ((x, v) :: Φ)) (e : truR s x = some b) : TruV X.K v H b := by
  simp only [truR, Option.bind_eq_some_iff] at e
  obtain ⟨d, e2, e3⟩ := e
  obtain ⟨ρ, M, cp⟩ := c.parts
  exact tru_of hK (c.peek (by simp) e2 cp) e3
theorem e_and (g : Good G k call cc W X) {a b : Expr} {rest : List Expr} {m n : E} {pos : Pos} (h : PE X a (tE G W call m)) (h2 : PE X (.BoolOp .And (b :: rest) pos) (tE G W call n)) : PE X (.BoolOp .And (a :: b :: rest) pos) (tE G W call (mAnd m n)) := by
  refine (pe_andT h h2).of fun σ H Q q => ?_
  obtain ⟨s, Φ, c, a⟩ := q
  refine ⟨s, Φ, c, (Aft.bind a).mono fun x s1 a1 => fun v H1 c1 => ?_⟩
  split at a1
  · rename_i e
    exact ⟨true, tru_R g.K c1 e, iteT ⟨s1, Φ, c1.drop, a1⟩⟩
  · rename_i e
    exact ⟨false, tru_R g.K c1 e, iteF (a1 v H1 c1)⟩
  · exact a1.elim
theorem e_or (g : Good G k call cc W X) {a b : Expr} {rest : List Expr} {m n : E} {pos : Pos} (h : PE X a (tE G W call m)) (h2 : PE X (.BoolOp .Or (b :: rest) pos) (tE G W call n)) : PE X (.BoolOp .Or (a :: b :: rest) pos) (tE G W call (mOr m n)) := by
  refine (pe_orT h h2).of fun σ H Q q => ?_
  obtain ⟨s, Φ, c, a⟩ := q
  refine ⟨s, Φ, c, (Aft.bind a).mono fun x s1 a1 => fun v H1 c1 => ?_⟩
  split at a1
  · rename_i e
    exact ⟨true, tru_R g.K c1 e, iteT (a1 v H1 c1)⟩
  · rename_i e
    exact ⟨false, tru_R g.K c1 e, iteF ⟨s1, Φ, c1.drop, a1⟩⟩
  · exact a1.elim
theorem e_not (g : Good G k call cc W X) {a : Expr} {m : E} {pos : Pos} (h : PE X a (tE G W call m)) : PE X (.UnaryOp .Not a pos) (tE G W call (mNot m)) := by
  refine (pe_notT h).of fun σ H Q q => ?_
  obtain ⟨s, Φ, c, a⟩ := q
  refine ⟨s, Φ, c, (Aft.bind a).mono fun x s1 a1 => fun v H1 c1 => ?_⟩
  split at a1
  · rename_i b e
    exact ⟨b, tru_R g.K c1 e, a1 _ H1 (c1.drop.simple rfl)⟩
  · exact a1.elim
def mIf (c : B) (a b : E) : E := fun call s => (c call s).bind fun x s1 => if x then a call s1 else b call s1
theorem e_if {c a b : Expr} {mc : B} {ma mb : E} {pos : Pos} (hc : PT X c (tB_ G W call mc)) (ha : PE X a (tE G W call ma)) (hb : PE X b (tE G W call mb)) : PE X (.IfExp c a b pos) (tE G W call (mIf mc ma mb)) := by
  refine (pe_ifExp hc ha hb).of fun σ H Q q => ?_
  obtain ⟨s, Φ, c, a⟩ := q
  refine ⟨s, Φ, c, (Aft.bind a).mono fun x s1 a1 => fun H1 c1 => ?_⟩
  cases x with
  | true => exact iteT ⟨s1, Φ, c1, a1⟩
  | false => exact iteF ⟨s1, Φ, c1, a1⟩

/-! ### calls of the program's own defs -/
def mCall (f : Str) (r : As) : E := fun call s => (r call s).bind fun ds s1 => match call f ds s1.h with
  | .ok o h => .ok (.own o) ⟨s1.σ, h⟩
  | .exc c d h => .exc c d ⟨s1.σ, h⟩
  | .bad => .bad
theorem call_of {f : Str} {n : Nat} {σr : Sr} {H1 : Hp} {s1 : S} {Φ : List (R × V)} {ds : List D} {vs : List V} {Q : VK} (hn : vs.length = n) (l : ds.length = vs.length) (c1 : CfS G σr H1 s1 (FzR ds vs ++ Φ))
    (a1 : Aft G W σr Φ (PV G σr Φ Q) (match call f ds s1.h with
      | .ok o h => Out.ok (.own o) ⟨s1.σ, h⟩
      | .exc c d h => .exc c d ⟨s1.σ, h⟩
      | .bad => .bad)) : spC G call f n vs H1 Q (WE W σr) := by
  refine ⟨hn, s1.h, slp s1.σ σr ++ ow Φ, ds, l, ?_, ?_⟩
  · have q := c1.cf
    rw [ow_append, ow_fz] at q
    refine q.perm ?_
    rw [← List.append_assoc, ← List.append_assoc]
    exact List.perm_append_comm.append_right _
  · cases e : call f ds s1.h with
    | ok o h =>
      rw [e] at a1
      intro v H' q
      refine a1 v H' ⟨c1.sl, fun i w z => ?_, q.perm ?_⟩
      · rcases List.mem_cons.mp z with z | z
        · cases z
        · exact c1.bo i w (List.mem_append_right _ z)
      · exact List.perm_middle.symm
    | exc cn d h =>
      rw [e] at a1
      intro C fl a v H' e1 e2 q
      refine a1 _ _ H' ⟨C, fl, a, v, rfl, e1, rfl, e2, c1.sl, fun i w z => ?_, q.perm ?_⟩
      · rcases List.mem_cons.mp z with z | z
        · cases z
        · exact c1.bo i w (List.mem_append_right _ z)
      · exact List.perm_middle.symm
    | bad => rw [e] at a1; exact a1.elim
theorem e_call (g : Good G k call cc W X) {f : Str} {e : Expr} {es : List Expr} {r : As} {p pos : Pos} (hf : f ∈ cc.fns) (hg : cc.sc.names.lookup f = some .globalImplicit) (h : PA X (e :: es) (tL G W call r)) (hn : (e :: es).all notStar = true) (hd : (f == ("__debug__" : Str)) = false) :
    PE X (.Call (.Name f p) (e :: es) [] pos) (tE G W call (mCall f r)) := by
  obtain ⟨a, fd, ps, ga, hm, hk, hb, F, hbad⟩ := g.fns f hf
  simp only [List.all_cons, Bool.and_eq_true] at hn
  refine (pe_callS F g.room (g.gl hg) hm hk hb (fun σ => passAt g.tk σ) h hd (star_cons hn.1) (star_any hn.2)).of fun σ H Q q => ?_
  obtain ⟨s, Φ, c, a⟩ := q
  refine ⟨s, Φ, c, (Aft.bind a).mono fun ds s1 a1 => fun vs H1 l c1 => ?_⟩
  by_cases hl : ds.length = ps.length
  · exact call_of (l ▸ hl) l c1 a1
  · rw [hbad ds s1.h hl] at a1
    exact a1.elim

/-! ### arguments that are only looked at -/
abbrev AsR := Call → S → Out (List R)
abbrev PR (G : GE) (σr : Sr) (Φ : List (R × V)) (Q : List V → Hp → Prop) : List R → S → Prop := fun rs s => ∀ vs H, rs.length = vs.length → CfS G σr H s (rs.zip vs ++ Φ) → Q vs H
def tR (G : GE) (W : WX) (call : Call) (m : AsR) : TA := fun σr H Q => ∃ s Φ, CfS G σr H s Φ ∧ Aft G W σr Φ (PR G σr Φ Q) (m call s)
def rNil : AsR := fun _ s => .ok [] s
def rCons (a : E) (r : AsR) : AsR := fun call s => (a call s).bind fun x s1 => (r call s1).bind fun rs s2 => .ok (x :: rs) s2
theorem r_nil : PA X [] (tR G W call rNil) := pa_nil.of fun σ H Q h => by
  obtain ⟨s, Φ, c, a⟩ := h
  exact a [] H rfl c
theorem r_cons {e : Expr} {es : List Expr} {m : E} {r : AsR} (he : PE X e (tE G W call m)) (hr : PA X es (tR G W call r)) (hn : notStar e = true) : PA X (e :: es) (tR G W call (rCons m r)) := by
  refine (pa_cons he hr (star_cons hn)).of fun σ H Q h => ?_
  obtain ⟨s, Φ, c, a⟩ := h
  refine ⟨s, Φ, c, (Aft.bind a).mono fun x s1 a1 => fun v H1 c1 => ?_⟩
  refine ⟨s1, _, c1, ((Aft.bind a1).frame1).mono fun rs s3 a3 => fun vs H3 l c3 => ?_⟩
  refine a3 (v :: vs) H3 (by simp [l]) ?_
  exact c3.perm (List.perm_middle)
def peeks (s : S) : List R → Option (List D)
  | [] => some []
  | r :: rs => (peek s r).bind fun d => (peeks s rs).bind fun ds => some (d :: ds)
def RepTs (G : GE) (ρ : List Addr) (H : Hp) (M : List Addr) : List D → List V → Prop
  | [], vs => vs = []
  | d :: ds, vs => ∃ v r, vs = v :: r ∧ RepT G ρ H M d v ∧ RepTs G ρ H M ds r
/-- a call that only looks at its arguments -/
def rN (G : GE) (f : List D → Option O) : List V → Hp → VK → Prop := fun vs H Q => ∃ ρ M h L ds o, Cp G ρ H M h L ∧ RepTs G ρ H M ds vs ∧ f ds = some o ∧ ∀ v H', Cf G H' h ((o, v) :: L) → Q v H'
def mBlt (f : List D → Option O) (r : AsR) : E := fun call s => (r call s).bind fun rs s1 => lift s1 ((peeks s1 rs).bind fun ds => (f ds).map R.own)
theorem peeks_of {ρ : List Addr} {H : Hp} {M : List Addr} {σr : Sr} {s : S} {Φ : List (R × V)} (c : CfS G σr H s Φ) (cp : Cp G ρ H M s.h (slp s.σ σr ++ ow Φ)) : ∀ {rs : List R} {vs : List V} {ds : List D}, rs.length = vs.length → (∀ p ∈ rs.zip vs, p ∈ Φ) → peeks s rs = some ds → RepTs G ρ H M ds vs
  | [], [], ds, _, _, e => by
    simp only [peeks, Option.some.injEq] at e; subst e; rfl
  | r :: rs, v :: vs, ds, l, hm, e => by
    simp only [peeks, Option.bind_eq_some_iff] at e
    obtain ⟨d, e1, ds', e2, e3⟩ := e
    simp only [Option.some.injEq] at e3
    subst e3
    exact ⟨v, vs, rfl, c.peek (hm (r, v) (by simp)) e1 cp, peeks_of c cp (by simpa using l) (fun p hp => hm p (by simp [hp])) e2⟩
  | [], _ :: _, _, l, _, _ => by simp at l
  | _ :: _, [], _, l, _, _ => by simp at l
theorem tBlt {f : List D → Option O} {r : AsR} {σr : Sr} {H : Hp} {Q : VK} (h : tE G W call (mBlt f r) σr H Q) : tR G W call r σr H fun vs H1 => rN G f vs H1 Q := by
  obtain ⟨s, Φ, c, a⟩ := h
  refine ⟨s, Φ, c, (Aft.bind a).mono fun rs s1 a1 => fun vs H1 l c1 => ?_⟩
  obtain ⟨y, e, q⟩ := Aft.lift a1
  simp only [Option.bind_eq_some_iff, Option.map_eq_some_iff] at e
  obtain ⟨ds, e1, o, eo, ey⟩ := e
  subst ey
  obtain ⟨ρ, M, cp⟩ := c1.parts
  exact ⟨ρ, M, _, _, ds, o, cp, peeks_of c1 cp l (fun p hp => List.mem_append_left _ hp) e1, eo, fun w H2 c2 => q w H2 (CfS.more (K := rs.zip vs) c1 c2)⟩
theorem e_blt (g : Good G k call cc W X) {f : List D → Option O} {id : String} {x : Str} {e : Expr} {es : List Expr} {r : AsR} {p pos : Pos} (hc : CallR X (.builtin id) (rN G f)) (hb : x ∈ blts) (hg : cc.sc.names.lookup x = some .globalImplicit) (hv : bootBuiltins x = some (.builtin id))
    (h : PA X (e :: es) (tR G W call r)) (hn : (e :: es).all notStar = true) (h1 : x ≠ "__name__") (h2 : (x == ("__debug__" : Str)) = false) : PE X (.Call (.Name x p) (e :: es) [] pos) (tE G W call (mBlt f r)) := by
  simp only [List.all_cons, Bool.and_eq_true] at hn
  exact (pe_callB hc (g.gl hg) (g.blt x hb) hv h h1 h2 (star_cons hn.1) (star_any hn.2)).of fun σ H Q q => tBlt q
theorem e_ty (g : Good G k call cc W X) {f : List D → Option O} {id : String} {x : Str} {e : Expr} {es : List Expr} {r : AsR} {p pos : Pos} (hc : CallR X (.type id) (rN G f)) (hb : x ∈ blts) (hg : cc.sc.names.lookup x = some .globalImplicit) (hv : bootBuiltins x = some (.type id))
    (h : PA X (e :: es) (tR G W call r)) (hn : (e :: es).all notStar = true) (h1 : x ≠ "__name__") (h2 : (x == ("__debug__" : Str)) = false) : PE X (.Call (.Name x p) (e :: es) [] pos) (tE G W call (mBlt f r)) := by
  simp only [List.all_cons, Bool.and_eq_true] at hn
  exact (pe_callTy hc (g.gl hg) (g.blt x hb) hv h h1 h2 (star_cons hn.1) (star_any hn.2)).of fun σ H Q q => tBlt q
/-- a built-in type's name as a value -/
theorem e_tyName (g : Good G k call cc W X) {x : Str} {n : String} {pos : Pos} (hb : x ∈ blts) (hg : cc.sc.names.lookup x = some .globalImplicit) (hv : bootBuiltins x = some (.type n)) (h1 : x ≠ "__name__") (h2 : (x == ("__debug__" : Str)) = false) : PE X (.Name x pos) (tE G W call (mCon (.ty n))) :=
  (pe_bltn (v := .ty n) (g.gl hg) (g.blt x hb) hv rfl h1 h2).of fun σ H Q h => tCon rfl h
end
end Mi

set_option Elab.async false
set_option linter.all false
set_option maxRecDepth 100000
set_option maxHeartbeats 4000000
/-! Mi, part F: the operations on data, and that the layer's rules serve them. -/
namespace Mi
open PySem PySem.Spec PyProof.Rows L2

theorem _root_.L2.OpR.imp {X : Cx} {f : Value → Value → Sem Value} {r r' : R2} (h : OpR X f r') (i : ∀ x y H Q, r x y H Q → r' x y H Q) : OpR X f r := fun pins s σ H x y v u Q I rx ry q => h pins s σ H x y v u Q I rx ry (i x y H Q q)
theorem _root_.L2.IxR.imp {X : Cx} {r r' : R2} (h : IxR X r') (i : ∀ x y H Q, r x y H Q → r' x y H Q) : IxR X r := fun a b pins s σ H x y v u Q I rx ry q => h a b pins s σ H x y v u Q I rx ry (i x y H Q q)
theorem _root_.L2.CallR.imp {X : Cx} {f : Value} {r r' : List V → Hp → VK → Prop} (h : CallR X f r') (i : ∀ x H Q, r x H Q → r' x H Q) : CallR X f r := fun pins s σ H xs us Q I rx q => h pins s σ H xs us Q I rx (i xs H Q q)

/-! ### data as the library's data -/
mutual
def toP : D → Option PyData
  | .non => some .none
  | .bl b => some (.bool b)
  | .int i => some (.int i)
  | .str x => some (.str x)
  | .tup ds => (toPs ds).map .tuple
  | .lst ds => (toPs ds).map .list
  | .scr ns => some (.list (ns.map .int))
  | _ => none
def toPs : List D → Option (List PyData)
  | [] => some []
  | d :: ds => (toP d).bind fun p => (toPs ds).bind fun ps => some (p :: ps)
end
section
variable {G : GE} {ρ : List Addr} {H : Hp} {M : List Addr}
theorem dp_ints {K : PySem.W.Frag} : ∀ ns : List Int, DpAll K H (ns.map V.int) (ns.map PyData.int)
  | [] => .nil
  | n :: ns => .cons (.int n) (dp_ints ns)
mutual
theorem RepD.dp : ∀ (d : D) (v : V) (p : PyData), RepD G ρ H M d v → toP d = some p → Dp G.K H v p
  | .non, v, p, r, e => by simp only [toP, Option.some.injEq] at e; subst e; obtain rfl := (show v = _ from r); exact .non
  | .bl b, v, p, r, e => by simp only [toP, Option.some.injEq] at e; subst e; obtain rfl := (show v = _ from r); exact .bl b
  | .int b, v, p, r, e => by simp only [toP, Option.some.injEq] at e; subst e; obtain rfl := (show v = _ from r); exact .int b
  | .str b, v, p, r, e => by simp only [toP, Option.some.injEq] at e; subst e; obtain rfl := (show v = _ from r); exact .str b
  | .tup ds, v, p, r, e => by
    simp only [toP, Option.map_eq_some_iff] at e
    obtain ⟨ps, e1, e2⟩ := e
    subst e2
    obtain ⟨a, vs, rfl, t, q⟩ := r
    exact .tup t.sq (RepDs.dp ds vs ps q e1)
  | .lst ds, v, p, r, e => by
    simp only [toP, Option.map_eq_some_iff] at e
    obtain ⟨ps, e1, e2⟩ := e
    subst e2
    obtain ⟨a, vs, rfl, t, n, q⟩ := r
    exact .lst (.inl (.inl t)) (RepDs.dp ds vs ps q e1)
  | .scr ns, v, p, r, e => by
    simp only [toP, Option.some.injEq] at e
    subst e
    obtain ⟨a, rfl, t | t⟩ := r
    · exact .lst (.inl t.1) (dp_ints ns)
    · exact .lst (.inr t) (dp_ints ns)
  | .dic _ _, _, _, _, e => by simp [toP] at e
  | .ins _ _ _, _, _, _, e => by simp [toP] at e
  | .loc _, _, _, _, e => by simp [toP] at e
  | .fn _, _, _, _, e => by simp [toP] at e
  | .ty _, _, _, _, e => by simp [toP] at e
  | .cls _, _, _, _, e => by simp [toP] at e
theorem RepDs.dp : ∀ (ds : List D) (vs : List V) (ps : List PyData), RepDs G ρ H M ds vs → toPs ds = some ps → DpAll G.K H vs ps
  | [], vs, ps, r, e => by simp only [toPs, Option.some.injEq] at e; subst e; rw [show vs = [] from r]; exact .nil
  | d :: ds, vs, ps, r, e => by
    simp only [toPs, Option.bind_eq_some_iff] at e
    obtain ⟨p, e1, ps', e2, e3⟩ := e
    simp only [Option.some.injEq] at e3
    subst e3
    obtain ⟨v, r', e4, r1, r2⟩ := r
    subst e4
    exact .cons (RepD.dp d v p r1 e1) (RepDs.dp ds r' ps' r2 e2)
end
theorem RepT.dp {d : D} {v : V} {p : PyData} (r : RepT G ρ H M d v) (e : toP d = some p) : Dp G.K H v p := by
  cases d with
  | tup ds =>
    simp only [toP, Option.map_eq_some_iff] at e
    obtain ⟨ps, e1, e2⟩ := e
    subst e2
    obtain ⟨a, vs, rfl, t, q⟩ := r
    exact .tup t.sq (RepDs.dp ds vs ps q e1)
  | lst ds =>
    simp only [toP, Option.map_eq_some_iff] at e
    obtain ⟨ps, e1, e2⟩ := e
    subst e2
    obtain ⟨a, vs, rfl, t, q⟩ := r
    exact .lst (.inl (.inl t)) (RepDs.dp ds vs ps q e1)
  | scr ns =>
    simp only [toP, Option.some.injEq] at e
    subst e
    obtain ⟨a, rfl, t⟩ := r
    exact .lst t (dp_ints ns)
  | non => exact RepD.dp (G := G) (ρ := ρ) (M := M) .non v p r e
  | bl b => exact RepD.dp (G := G) (ρ := ρ) (M := M) (.bl b) v p r e
  | int b => exact RepD.dp (G := G) (ρ := ρ) (M := M) (.int b) v p r e
  | str b => exact RepD.dp (G := G) (ρ := ρ) (M := M) (.str b) v p r e
  | dic _ _ => simp [toP] at e
  | ins _ _ _ => simp [toP] at e
  | loc _ => simp [toP] at e
  | fn _ => simp [toP] at e
  | ty _ => simp [toP] at e
  | cls _ => simp [toP] at e
end

/-! ### the operations -/
def fI (i : Int) : Option O := some (.fz (.int i))
def fB (b : Bool) : Option O := some (.fz (.bl b))
def addD : D → D → Option O
  | .int i, .int j => fI (i + j)
  | .str x, .str y => if fitsB (x.length + y.length) then some (.fz (.str (x ++ y))) else none
  | .lst a, .lst b => if fitsB (a.length + b.length) then some (.lst (a ++ b)) else none
  | .tup a, .tup b => if fitsB (a.length + b.length) then some (.fz (.tup (a ++ b))) else none
  | _, _ => none
def subD : D → D → Option O
  | .int i, .int j => fI (i - j)
  | _, _ => none
def smallI (i : Int) : Bool := decide (-(2 ^ 64) < i) && decide (i < 2 ^ 64)
def mulD : D → D → Option O
  | .int i, .int j => if smallI i || smallI j then fI (i * j) else none
  | .lst a, .int k => if decide (-(2 ^ 63) ≤ k) && decide (k < 2 ^ 63) && fitsB (a.length * k.toNat) then some (.lst (List.replicate k.toNat a).flatten) else none
  | _, _ => none
def modD : D → D → Option O
  | .int i, .int j => if 0 < j then fI (i % j) else none
  | _, _ => none
def fdivD : D → D → Option O
  | .int i, .int j => if 0 < j ∧ j < 1073741824 then fI (i / j) else none
  | _, _ => none
def powD : D → D → Option O
  | .int i, .int j => if 0 ≤ j ∧ j ≤ 1000000 ∧ i.natAbs < 2 ^ 64 then fI (i ^ j.toNat) else none
  | _, _ => none
def negD : D → Option O
  | .int i => fI (-i)
  | _ => none
section
variable {G : GE} {X : Cx}
theorem Cp.int {ρ M : List Addr} {H : Hp} {h : List O} {L : List (O × V)} (c : Cp G ρ H M h L) (i : Int) : Cf G H h ((.fz (.int i), .int i) :: L) := c.cf.simple rfl
theorem Cp.bl {ρ M : List Addr} {H : Hp} {h : List O} {L : List (O × V)} (c : Cp G ρ H M h L) (i : Bool) : Cf G H h ((.fz (.bl i), .bl i) :: L) := c.cf.simple rfl
theorem Cp.lstNew {ρ M : List Addr} {H : Hp} {h : List O} {L : List (O × V)} {ds : List D} {vs : List V} {p : Addr} (c : Cp G ρ H M h L) (r : RepDs G ρ H M ds vs) (hp : H p = none) : Cf G (upd H p (.lst vs)) h ((.lst ds, .ref p) :: L) :=
  Cf.newLst r.length ((Cf.fz r.length).mpr ⟨ρ, M, c, r⟩) hp
theorem Cp.tupNew {ρ M : List Addr} {H : Hp} {h : List O} {L : List (O × V)} {ds : List D} {vs : List V} {p : Addr} {ho : HO} (c : Cp G ρ H M h L) (r : RepDs G ρ H M ds vs) (hp : H p = none) (ht : isTupO G vs ho) : Cf G (upd H p ho) h ((.fz (.tup ds), .ref p) :: L) :=
  Cf.newTup r.length ((Cf.fz r.length).mpr ⟨ρ, M, c, r⟩) hp ht

theorem o_add (hK : X.K = G.K) (hb : G.bare = false) : OpR X (binaryOp .Add) (r2 G addD) := (((op_add.or op_add_str).or op_cat).or op_catA).imp fun x y H Q ⟨ρ, M, h, L, d1, d2, o, cp, t1, t2, e, q⟩ => by
  unfold addD at e
  split at e
  · rename_i i j
    cases e
    exact .inl (.inl (.inl ⟨i, j, t1, t2, q _ _ (cp.int _)⟩))
  · rename_i a b
    split at e
    · rename_i hf
      cases e
      exact .inl (.inl (.inr ⟨a, b, t1, t2, fits hf, q _ _ (cp.cf.simple rfl)⟩))
    · cases e
  · rename_i a b
    split at e
    · rename_i hf
      cases e
      obtain ⟨l1, v1, rfl, k1, q1⟩ := t1
      obtain ⟨l2, v2, rfl, k2, q2⟩ := t2
      exact .inl (.inr ⟨l1, l2, v1, v2, rfl, rfl, k1, k2, by rw [← q1.length, ← q2.length]; exact fits hf, fun p hp => q _ _ (cp.lstNew (q1.append q2) hp)⟩)
    · cases e
  · rename_i a b
    split at e
    · rename_i hf
      cases e
      obtain ⟨l1, v1, rfl, k1, q1⟩ := t1
      obtain ⟨l2, v2, rfl, k2, q2⟩ := t2
      refine .inr ⟨l1, l2, v1, v2, rfl, rfl, by rw [hK]; exact k1.sq, by rw [hK]; exact k2.sq, by rw [← q1.length, ← q2.length]; exact fits hf, fun z => ?_, fun _ z => ?_, fun _ _ p hp => q _ _ (cp.tupNew (q1.append q2) hp ⟨hb, rfl⟩)⟩
      · subst z
        have e0 : a = [] := List.length_eq_zero_iff.mp q1.length
        subst e0
        exact q _ _ (cp.tupF k2 q2)
      · subst z
        have e0 : b = [] := List.length_eq_zero_iff.mp q2.length
        subst e0
        rw [List.append_nil] at q
        exact q _ _ (cp.tupF k1 q1)
    · cases e
  · cases e
/-- the same without tuples -/
def addB : D → D → Option O
  | .tup _, .tup _ => none
  | d, e => addD d e
theorem o_addB : OpR X (binaryOp .Add) (r2 G addB) := ((op_add.or op_add_str).or op_cat).imp fun x y H Q ⟨ρ, M, h, L, d1, d2, o, cp, t1, t2, e, q⟩ => by
  unfold addB at e
  split at e
  · cases e
  · rename_i hnt
    unfold addD at e
    split at e
    · rename_i i j
      cases e
      exact .inl (.inl ⟨i, j, t1, t2, q _ _ (cp.int _)⟩)
    · rename_i a b
      split at e
      · rename_i hf
        cases e
        exact .inl (.inr ⟨a, b, t1, t2, fits hf, q _ _ (cp.cf.simple rfl)⟩)
      · cases e
    · rename_i a b
      split at e
      · rename_i hf
        cases e
        obtain ⟨l1, v1, rfl, k1, q1⟩ := t1
        obtain ⟨l2, v2, rfl, k2, q2⟩ := t2
        exact .inr ⟨l1, l2, v1, v2, rfl, rfl, k1, k2, by rw [← q1.length, ← q2.length]; exact fits hf, fun p hp => q _ _ (cp.lstNew (q1.append q2) hp)⟩
      · cases e
    · exact (hnt _ _ rfl rfl).elim
    · cases e
theorem o_sub : OpR X (binaryOp .Sub) (r2 G subD) := op_sub.imp fun x y H Q ⟨ρ, M, h, L, d1, d2, o, cp, t1, t2, e, q⟩ => by
  unfold subD at e
  split at e
  · rename_i i j
    cases e
    exact ⟨i, j, t1, t2, q _ _ (cp.int _)⟩
  · cases e
theorem o_mul : OpR X (binaryOp .Mult) (r2 G mulD) := (op_mul.or op_rep).imp fun x y H Q ⟨ρ, M, h, L, d1, d2, o, cp, t1, t2, e, q⟩ => by
  unfold mulD at e
  split at e
  · rename_i i j
    split at e
    · rename_i hs
      cases e
      refine .inl ⟨i, j, t1, t2, ?_, q _ _ (cp.int _)⟩
      simp only [smallI, Bool.or_eq_true, Bool.and_eq_true, decide_eq_true_eq] at hs
      exact hs
    · cases e
  · rename_i a k
    split at e
    · rename_i hs
      simp only [Bool.and_eq_true, decide_eq_true_eq] at hs
      cases e
      obtain ⟨l1, v1, rfl, k1, q1⟩ := t1
      refine .inr ⟨l1, k, v1, rfl, t2, k1, hs.1.1, hs.1.2, by rw [← q1.length]; exact fits hs.2, fun p hp => q _ _ ?_⟩
      have := cp.lstNew (q1.flatten_rep k.toNat) hp
      exact this
    · cases e
  · cases e
theorem o_mod : OpR X (binaryOp .Mod) (r2 G modD) := op_mod.imp fun x y H Q ⟨ρ, M, h, L, d1, d2, o, cp, t1, t2, e, q⟩ => by
  unfold modD at e
  split at e
  · rename_i i j
    split at e
    · rename_i hs
      cases e
      exact ⟨i, j, t1, t2, hs, q _ _ (cp.int _)⟩
    · cases e
  · cases e
theorem o_fdiv : OpR X (binaryOp .FloorDiv) (r2 G fdivD) := op_fdiv.imp fun x y H Q ⟨ρ, M, h, L, d1, d2, o, cp, t1, t2, e, q⟩ => by
  unfold fdivD at e
  split at e
  · rename_i i j
    split at e
    · rename_i hs
      cases e
      exact ⟨i, j, t1, t2, hs, q _ _ (cp.int _)⟩
    · cases e
  · cases e
theorem o_pow : OpR X (binaryOp .Pow) (r2 G powD) := op_pow.imp fun x y H Q ⟨ρ, M, h, L, d1, d2, o, cp, t1, t2, e, q⟩ => by
  unfold powD at e
  split at e
  · rename_i i j
    split at e
    · rename_i hs
      cases e
      exact ⟨i, j, t1, t2, hs, q _ _ (cp.int _)⟩
    · cases e
  · cases e
theorem o_neg : UnR X (unaryOp .USub) (r1 G negD) := fun pins s σ H x v Q I rx ⟨ρ, M, h, L, d, o, cp, t, e, q⟩ => by
  unfold negD at e
  split at e
  · rename_i i
    cases e
    exact un_neg pins s σ H x v Q I rx ⟨i, t, q _ _ (cp.int _)⟩
  · cases e
/-! ### comparisons -/
def ltD : D → D → Option O | .int i, .int j => fB (decide (i < j)) | _, _ => none
def leD : D → D → Option O | .int i, .int j => fB (decide (i ≤ j)) | _, _ => none
def gtD : D → D → Option O | .int i, .int j => fB (decide (j < i)) | _, _ => none
def geD : D → D → Option O | .int i, .int j => fB (decide (j ≤ i)) | _, _ => none
theorem o_lt : OpR X (compareOp .Lt) (r2 G ltD) := op_lt.imp fun x y H Q ⟨ρ, M, h, L, d1, d2, o, cp, t1, t2, e, q⟩ => by
  unfold ltD at e
  split at e
  · rename_i i j; cases e; exact ⟨i, j, t1, t2, q _ _ (cp.bl _)⟩
  · cases e
theorem o_le : OpR X (compareOp .LtE) (r2 G leD) := op_le.imp fun x y H Q ⟨ρ, M, h, L, d1, d2, o, cp, t1, t2, e, q⟩ => by
  unfold leD at e
  split at e
  · rename_i i j; cases e; exact ⟨i, j, t1, t2, q _ _ (cp.bl _)⟩
  · cases e
theorem o_gt : OpR X (compareOp .Gt) (r2 G gtD) := op_gt.imp fun x y H Q ⟨ρ, M, h, L, d1, d2, o, cp, t1, t2, e, q⟩ => by
  unfold gtD at e
  split at e
  · rename_i i j; cases e; exact ⟨i, j, t1, t2, q _ _ (cp.bl _)⟩
  · cases e
theorem o_ge : OpR X (compareOp .GtE) (r2 G geD) := op_ge.imp fun x y H Q ⟨ρ, M, h, L, d1, d2, o, cp, t1, t2, e, q⟩ => by
  unfold geD at e
  split at e
  · rename_i i j; cases e; exact ⟨i, j, t1, t2, q _ _ (cp.bl _)⟩
  · cases e
/-- == of data -/
def eqB (d e : D) : Option Bool := match d, e with
  | .str x, .str y => some (decide (x = y))
  | .int x, .int y => some (decide (x = y))
  | .non, .non => some true
  | .non, .int _ => some false | .int _, .non => some false | .non, .str _ => some false | .str _, .non => some false
  | .int _, .str _ => some false | .str _, .int _ => some false
  | _, _ => (toP d).bind fun p => (toP e).bind fun q => if SeqAt.shaped p && SeqAt.shaped q then some (PyData.eqv p q) else none
def eqD (d e : D) : Option O := (eqB d e).map fun b => .fz (.bl b)
def neD (d e : D) : Option O := (eqB d e).map fun b => .fz (.bl (!b))
theorem eq_of {K : PySem.W.Frag} (hK : K = G.K) {ρ M : List Addr} {H : Hp} {d e : D} {x y : V} {b : Bool} (t1 : RepT G ρ H M d x) (t2 : RepT G ρ H M e y) (q : eqB d e = some b) :
    (scal x y = true ∧ decide (x = y) = b) ∨ (∃ p q, Dp K H x p ∧ Dp K H y q ∧ SeqAt.shaped p = true ∧ SeqAt.shaped q = true ∧ PyData.eqv p q = b) := by
  subst hK
  unfold eqB at q
  split at q
  · rename_i i j
    cases q; obtain rfl := (show x = _ from t1); obtain rfl := (show y = _ from t2)
    exact .inl ⟨rfl, by simp⟩
  · rename_i i j
    cases q; obtain rfl := (show x = _ from t1); obtain rfl := (show y = _ from t2)
    exact .inl ⟨rfl, by simp⟩
  · cases q; obtain rfl := (show x = _ from t1); obtain rfl := (show y = _ from t2)
    exact .inl ⟨rfl, by simp⟩
  · cases q; obtain rfl := (show x = _ from t1); obtain rfl := (show y = _ from t2)
    exact .inl ⟨rfl, by simp⟩
  · cases q; obtain rfl := (show x = _ from t1); obtain rfl := (show y = _ from t2)
    exact .inl ⟨rfl, by simp⟩
  · cases q; obtain rfl := (show x = _ from t1); obtain rfl := (show y = _ from t2)
    exact .inl ⟨rfl, by simp⟩
  · cases q; obtain rfl := (show x = _ from t1); obtain rfl := (show y = _ from t2)
    exact .inl ⟨rfl, by simp⟩
  · cases q; obtain rfl := (show x = _ from t1); obtain rfl := (show y = _ from t2)
    exact .inl ⟨rfl, by simp⟩
  · cases q; obtain rfl := (show x = _ from t1); obtain rfl := (show y = _ from t2)
    exact .inl ⟨rfl, by simp⟩
  · simp only [Option.bind_eq_some_iff] at q
    obtain ⟨p1, e1, p2, e2, e3⟩ := q
    split at e3
    · rename_i hs
      simp only [Bool.and_eq_true] at hs
      cases e3
      exact .inr ⟨p1, p2, t1.dp e1, t2.dp e2, hs.1, hs.2, rfl⟩
    · cases e3
theorem o_eq (hK : X.K = G.K) (hu : X.A.units + 64 < cLine) : OpR X (compareOp .Eq) (r2 G eqD) := (op_eq.or (op_eqD hu)).imp fun x y H Q ⟨ρ, M, h, L, d1, d2, o, cp, t1, t2, e, q⟩ => by
  simp only [eqD, Option.map_eq_some_iff] at e
  obtain ⟨b, e1, e2⟩ := e
  subst e2
  rcases eq_of hK t1 t2 e1 with ⟨s1, s2⟩ | ⟨p, p', s1, s2, s3, s4, s5⟩
  · exact .inl ⟨s1, by rw [s2]; exact q _ _ (cp.bl _)⟩
  · exact .inr ⟨p, p', s1, s2, s3, s4, by rw [s5]; exact q _ _ (cp.bl _)⟩
theorem o_ne (hK : X.K = G.K) (hu : X.A.units + 64 < cLine) : OpR X (compareOp .NotEq) (r2 G neD) := (op_ne.or (op_neD hu)).imp fun x y H Q ⟨ρ, M, h, L, d1, d2, o, cp, t1, t2, e, q⟩ => by
  simp only [neD, Option.map_eq_some_iff] at e
  obtain ⟨b, e1, e2⟩ := e
  subst e2
  rcases eq_of hK t1 t2 e1 with ⟨s1, s2⟩ | ⟨p, p', s1, s2, s3, s4, s5⟩
  · exact .inl ⟨s1, by rw [s2]; exact q _ _ (cp.bl _)⟩
  · exact .inr ⟨p, p', s1, s2, s3, s4, by rw [s5]; exact q _ _ (cp.bl _)⟩
end
end Mi

set_option Elab.async false
set_option linter.all false
set_option maxRecDepth 100000
set_option maxHeartbeats 4000000
/-! Mi, part G: in, items, slices, the built-ins by name. -/
namespace Mi
open PySem PySem.Spec PyProof.Rows L2

section
variable {G : GE} {X : Cx}
/-- what is walked or measured: the items of a tuple, of a list -/
def itemsD : D → Option (List D)
  | .tup ds => some ds
  | .lst ds => some ds
  | .scr ns => some (ns.map .int)
  | _ => none
theorem rep_ints {ρ M : List Addr} {H : Hp} : ∀ ns : List Int, RepDs G ρ H M (ns.map D.int) (ns.map V.int)
  | [] => rfl
  | n :: ns => ⟨_, _, rfl, rfl, rep_ints ns⟩
/-- a list (or the script) -/
def listD : D → Option (List D)
  | .lst ds => some ds
  | .scr ns => some (ns.map .int)
  | _ => none
theorem listD_of {ρ M : List Addr} {H : Hp} {d : D} {v : V} {ds : List D} (r : RepT G ρ H M d v) (e : listD d = some ds) : ∃ a vs, v = .ref a ∧ SqL G.K H a vs ∧ RepDs G ρ H M ds vs := by
  cases d with
  | lst ds' => cases e; obtain ⟨a, vs, rfl, t, q⟩ := r; exact ⟨a, vs, rfl, .inl (.inl t), q⟩
  | scr ns => cases e; obtain ⟨a, rfl, t⟩ := r; exact ⟨a, _, rfl, t, rep_ints ns⟩
  | _ => cases e
theorem itemsD_of {ρ M : List Addr} {H : Hp} {d : D} {v : V} {ds : List D} (r : RepT G ρ H M d v) (e : itemsD d = some ds) : ∃ a vs, v = .ref a ∧ (SqL G.K H a vs ∨ SqT G.K H a vs) ∧ RepDs G ρ H M ds vs := by
  cases d with
  | tup ds' => cases e; obtain ⟨a, vs, rfl, t, q⟩ := r; exact ⟨a, vs, rfl, .inr t.sq, q⟩
  | lst ds' => cases e; obtain ⟨a, vs, rfl, t, q⟩ := r; exact ⟨a, vs, rfl, .inl (.inl (.inl t)), q⟩
  | scr ns => cases e; obtain ⟨a, rfl, t⟩ := r; exact ⟨a, _, rfl, .inl t, rep_ints ns⟩
  | _ => cases e
/-! ### in -/
def flatD : D → Option V
  | .non => some .non | .bl b => some (.bl b) | .int i => some (.int i) | .str x => some (.str x) | _ => none
def flatsD : List D → Option (List V)
  | [] => some []
  | d :: ds => (flatD d).bind fun v => (flatsD ds).bind fun vs => some (v :: vs)
theorem flatD_of {ρ M : List Addr} {H : Hp} {d : D} {v u : V} (r : RepD G ρ H M d v) (e : flatD d = some u) : v = u ∧ flatV u = true := by
  cases d <;> simp only [flatD, Option.some.injEq, reduceCtorEq] at e <;> subst e <;> exact ⟨r, rfl⟩
theorem flatsD_of {ρ M : List Addr} {H : Hp} : ∀ {ds : List D} {vs us : List V}, RepDs G ρ H M ds vs → flatsD ds = some us → vs = us ∧ us.all flatV = true
  | [], vs, us, r, e => by simp only [flatsD, Option.some.injEq] at e; subst e; exact ⟨r, rfl⟩
  | d :: ds, vs, us, r, e => by
    simp only [flatsD, Option.bind_eq_some_iff, Option.some.injEq] at e
    obtain ⟨v, e1, us', e2, e3⟩ := e
    subst e3
    obtain ⟨w, r', e4, h1, h2⟩ := r
    subst e4
    obtain ⟨a1, a2⟩ := flatD_of h1 e1
    obtain ⟨b1, b2⟩ := flatsD_of h2 e2
    subst a1; subst b1
    exact ⟨rfl, by simp [a2, b2]⟩
/-- x in y: signs of a text; flat items of a list or a tuple -/
def inB : D → D → Option Bool
  | .str x, .str y => some (!(Builtin.Str.occurrences y x 0 y.length 1).isEmpty)
  | d, e => (flatD d).bind fun v => (itemsD e).bind fun ds => (flatsD ds).bind fun vs => some (inV v vs)
def inD (d e : D) : Option O := (inB d e).map fun b => .fz (.bl b)
def notInD (d e : D) : Option O := (inB d e).map fun b => .fz (.bl (!b))
theorem RepT.flat {ρ M : List Addr} {H : Hp} {d : D} {v u : V} (r : RepT G ρ H M d v) (e : flatD d = some u) : v = u ∧ flatV u = true := by
  cases d <;> simp only [flatD, Option.some.injEq, reduceCtorEq] at e <;> subst e <;> exact ⟨r, rfl⟩
theorem o_in (hK : X.K = G.K) : OpR X (compareOp .In) (r2 G inD) := (op_in_str.or op_in_seq).imp fun x y H Q ⟨ρ, M, h, L, d1, d2, o, cp, t1, t2, e, q⟩ => by
  simp only [inD, Option.map_eq_some_iff] at e
  obtain ⟨b, e1, e2⟩ := e
  subst e2
  unfold inB at e1
  split at e1
  · cases e1
    obtain rfl := (show x = _ from t1); obtain rfl := (show y = _ from t2)
    exact .inl ⟨_, _, rfl, rfl, q _ _ (cp.bl _)⟩
  · simp only [Option.bind_eq_some_iff, Option.some.injEq] at e1
    obtain ⟨v, f1, ds, f2, vs, f3, f4⟩ := e1
    obtain ⟨rfl, fl⟩ := t1.flat f1
    obtain ⟨a, us, rfl, t, r⟩ := itemsD_of t2 f2
    obtain ⟨rfl, fv⟩ := flatsD_of r f3
    refine .inr ⟨a, us, rfl, by rw [hK]; exact t, fl, fv, ?_⟩
    have : (if false then !inV x us else inV x us) = b := by simpa using f4
    rw [this]
    exact q _ _ (cp.bl _)
theorem o_notIn (hK : X.K = G.K) : OpR X (compareOp .NotIn) (r2 G notInD) := (op_notin_str.or op_notIn_seq).imp fun x y H Q ⟨ρ, M, h, L, d1, d2, o, cp, t1, t2, e, q⟩ => by
  simp only [notInD, Option.map_eq_some_iff] at e
  obtain ⟨b, e1, e2⟩ := e
  subst e2
  unfold inB at e1
  split at e1
  · cases e1
    obtain rfl := (show x = _ from t1); obtain rfl := (show y = _ from t2)
    exact .inl ⟨_, _, rfl, rfl, q _ _ (cp.bl _)⟩
  · simp only [Option.bind_eq_some_iff, Option.some.injEq] at e1
    obtain ⟨v, f1, ds, f2, vs, f3, f4⟩ := e1
    obtain ⟨rfl, fl⟩ := t1.flat f1
    obtain ⟨a, us, rfl, t, r⟩ := itemsD_of t2 f2
    obtain ⟨rfl, fv⟩ := flatsD_of r f3
    refine .inr ⟨a, us, rfl, by rw [hK]; exact t, fl, fv, ?_⟩
    have : (if true then !inV x us else inV x us) = !b := by simpa using f4
    rw [this]
    exact q _ _ (cp.bl _)
/-! ### is None -/
def isNon : D → Bool
  | .non => true
  | _ => false
def isNoneD (d e : D) : Option O := match e with
  | .non => fB (isNon d)
  | _ => none
def isNotNoneD (d e : D) : Option O := match e with
  | .non => fB (!isNon d)
  | _ => none
theorem non_iff {ρ M : List Addr} {H : Hp} {d : D} {v : V} (r : RepT G ρ H M d v) : decide (v = .non) = isNon d := by
  cases d with
  | non => obtain rfl := (show v = _ from r); rfl
  | bl b => obtain rfl := (show v = _ from r); rfl
  | int b => obtain rfl := (show v = _ from r); rfl
  | str b => obtain rfl := (show v = _ from r); rfl
  | ty b => obtain rfl := (show v = _ from r); rfl
  | tup ds => obtain ⟨a, vs, rfl, _⟩ := r; rfl
  | lst ds => obtain ⟨a, vs, rfl, _⟩ := r; rfl
  | dic ks ds => obtain ⟨a, vs, rfl, _⟩ := r; rfl
  | ins c fs ds => obtain ⟨a, C, dx, vs, rfl, _⟩ := r; rfl
  | loc n => obtain ⟨a, rfl, _⟩ := r; rfl
  | fn f => obtain ⟨a, rfl, _⟩ := r; rfl
  | scr ns => obtain ⟨a, rfl, _⟩ := r; rfl
  | cls c => obtain ⟨a, rfl, _⟩ := r; rfl
theorem o_isN : OpR X (compareOp .Is) (r2 G isNoneD) := op_isN.imp fun x y H Q ⟨ρ, M, h, L, d1, d2, o, cp, t1, t2, e, q⟩ => by
  unfold isNoneD at e
  split at e
  · cases e
    refine ⟨t2, ?_⟩
    rw [non_iff t1]
    exact q _ _ (cp.bl _)
  · cases e
theorem o_isNotN : OpR X (compareOp .IsNot) (r2 G isNotNoneD) := op_notN.imp fun x y H Q ⟨ρ, M, h, L, d1, d2, o, cp, t1, t2, e, q⟩ => by
  unfold isNotNoneD at e
  split at e
  · cases e
    refine ⟨t2, ?_⟩
    rw [non_iff t1]
    exact q _ _ (cp.bl _)
  · cases e
/-! ### items -/
def atD (d i : D) : Option O := match i with
  | .int i => match d with
    | .str z => if fitsB z.length then (atI z.cps.toList i).map fun c => .fz (.str ⟨#[c]⟩) else none
    | _ => (itemsD d).bind fun ds => (atI ds i).map .fz
  | _ => none
theorem atI_len {α β : Type} {xs : List α} {ys : List β} {i : Int} {x : α} (l : xs.length = ys.length) (e : atI xs i = some x) : ∃ j y, ixN ys.length i = some j ∧ xs[j]? = some x ∧ ys[j]? = some y ∧ atI ys i = some y := by
  simp only [atI, Option.bind_eq_some_iff] at e
  obtain ⟨j, e1, e2⟩ := e
  have hj : j < ys.length := by
    rw [← l]
    rcases Nat.lt_or_ge j xs.length with z | z
    · exact z
    · rw [List.getElem?_eq_none z] at e2; cases e2
  refine ⟨j, ys[j], by rw [← l]; exact e1, e2, by simp [hj], ?_⟩
  simp only [atI, ← l, e1, Option.bind_some]
  simp [hj]
theorem o_at (hK : X.K = G.K) : IxR X (r2 G atD) := ix_seq.imp fun x y H Q ⟨ρ, M, h, L, d1, d2, o, cp, t1, t2, e, q⟩ => by
  unfold atD at e
  split at e
  · rename_i i
    obtain rfl := (show y = _ from t2)
    split at e
    · rename_i z
      split at e
      · rename_i hf
        simp only [Option.map_eq_some_iff] at e
        obtain ⟨c, e1, e2⟩ := e
        subst e2
        obtain rfl := (show x = _ from t1)
        exact .inr (.inr ⟨z, i, c, rfl, rfl, fits hf, e1, q _ _ (cp.cf.simple rfl)⟩)
      · cases e
    · simp only [Option.bind_eq_some_iff, Option.map_eq_some_iff] at e
      obtain ⟨ds, e1, d, e2, e3⟩ := e
      subst e3
      obtain ⟨a, vs, rfl, t, r⟩ := itemsD_of t1 e1
      obtain ⟨j, v, _, g1, g2, g3⟩ := atI_len r.length e2
      obtain ⟨v', g4, rd⟩ := r.get g1
      rw [g2] at g4
      cases g4
      have fin := q v H (Cf.fz1.mpr ⟨ρ, M, cp, rd⟩)
      rcases t with t | t
      · exact .inl ⟨a, vs, i, v, rfl, rfl, by rw [hK]; exact t, g3, fin⟩
      · exact .inr (.inl ⟨a, vs, i, v, rfl, rfl, by rw [hK]; exact t, g3, fin⟩)
  · cases e
end
end Mi

set_option Elab.async false
set_option linter.all false
set_option maxRecDepth 100000
set_option maxHeartbeats 4000000
/-! Mi, part H: slices, the built-ins by name. -/
namespace Mi
open PySem PySem.Spec PyProof.Rows L2
section
variable {G : GE} {W : WX} {call : Call} {X : Cx}
/-! ### slices -/
abbrev PP (G : GE) (σr : Sr) (Φ : List (R × V)) (Q : Option Int → Hp → Prop) : Option Int → S → Prop := fun i s => ∀ H, CfS G σr H s Φ → Q i H
abbrev Pt := Call → S → Out (Option Int)
def tP (G : GE) (W : WX) (call : Call) (m : Pt) : TO := fun σr H Q => ∃ s Φ, CfS G σr H s Φ ∧ Aft G W σr Φ (PP G σr Φ Q) (m call s)
def pNone : Pt := fun _ s => .ok none s
def pSome (m : E) : Pt := fun call s => (m call s).bind fun x s1 => match peek s1 x with
  | some (.int i) => .ok (some i) s1
  | _ => .bad
theorem _root_.L2.PO.of {X : Cx} {e : Option Expr} {t t' : TO} (h : PO X e t') (i : ∀ σ H Q, t σ H Q → t' σ H Q) : PO X e t := ⟨fun pins s σ H Q I q => h.run pins s σ H Q I (i σ H Q q)⟩
theorem p_none : PO X none (tP G W call pNone) := po_none.of fun σ H Q h => by
  obtain ⟨s, Φ, c, a⟩ := h
  exact a H c
theorem p_some {e : Expr} {m : E} (h : PE X e (tE G W call m)) : PO X (some e) (tP G W call (pSome m)) := (po_some h).of fun σ H Q h => by
  obtain ⟨s, Φ, c, a⟩ := h
  refine ⟨s, Φ, c, (Aft.bind a).mono fun x s1 a1 => fun v H1 c1 => ?_⟩
  split at a1
  · rename_i i e
    obtain ⟨ρ, M, cp⟩ := c1.parts
    exact ⟨i, c1.peek (by simp) e cp, a1 H1 c1.drop⟩
  · exact a1.elim
/-- a slice read -/
def cutD {α : Type} (xs : List α) (lo hi : Option Int) : List α := (xs.drop (HT.sIx xs.length 0 lo)).take (HT.sIx xs.length xs.length hi - HT.sIx xs.length 0 lo)
theorem RepDs.cut {ρ M : List Addr} {H : Hp} {ds : List D} {vs : List V} (r : RepDs G ρ H M ds vs) (lo hi : Option Int) : RepDs G ρ H M (cutD ds lo hi) (cutV vs lo hi) := by
  unfold cutD cutV
  rw [r.length]
  exact (r.drop _).take _
def slD (d : D) (lo hi : Option Int) : Option O := match d with
  | .tup ds => some (.fz (.tup (cutD ds lo hi)))
  | _ => (listD d).map fun ds => .lst (cutD ds lo hi)
def mSl (m : E) (lo hi : Pt) : E := fun call s => (m call s).bind fun x s1 => (lo call s1).bind fun l s2 => (hi call s2).bind fun u s3 => lift s3 ((peek s3 x).bind fun d => (slD d l u).map R.own)
/-- what a slice asks -/
def rS (G : GE) : V → Option Int → Option Int → Hp → VK → Prop := fun x lo hi H Q => ∃ ρ M h L d o, Cp G ρ H M h L ∧ RepT G ρ H M d x ∧ slD d lo hi = some o ∧ ∀ v H', Cf G H' h ((o, v) :: L) → Q v H'
theorem e_sl {e : Expr} {lo hi : Option Expr} {m : E} {ml mh : Pt} {p2 pos : Pos} (ho : SlR X (rS G)) (he : PE X e (tE G W call m)) (hl : PO X lo (tP G W call ml)) (hh : PO X hi (tP G W call mh)) : PE X (.Subscript e (.Slice lo hi none p2) pos) (tE G W call (mSl m ml mh)) := by
  refine (pe_slice ho he hl hh).of fun σ H Q h => ?_
  obtain ⟨s, Φ, c, h⟩ := h
  refine ⟨s, Φ, c, (Aft.bind h).mono fun x s1 h1 => fun v1 H1 c1 => ⟨s1, _, c1, ((Aft.bind h1).frame1).mono fun l s2 h2 => fun H2 c2 => ⟨s2, _, c2, ((Aft.bind h2).frame1).mono fun u s3 h3 => fun H3 c3 => ?_⟩⟩⟩
  obtain ⟨z, e, q⟩ := Aft.lift h3
  simp only [Option.bind_eq_some_iff, Option.map_eq_some_iff] at e
  obtain ⟨d, e1, o, eo, ey⟩ := e
  subst ey
  obtain ⟨ρ, M, cp⟩ := c3.parts
  exact ⟨ρ, M, _, _, d, o, cp, c3.peek (by simp) e1 cp, eo, fun w H4 c4 => q w H4 (CfS.more (K := [(x, v1)]) c3 c4)⟩
theorem sl_tupB : SlR X (fun x lo hi H Q => ∃ a xs, x = .ref a ∧ SqT X.K H a xs ∧ (HT.sIx xs.length 0 lo = 0 ∧ HT.sIx xs.length xs.length hi = xs.length → Q (.ref a) H) ∧
    (¬ (HT.sIx xs.length 0 lo = 0 ∧ HT.sIx xs.length xs.length hi = xs.length) → ∀ p ob, ob.dict = none → H p = none → Q (.ref p) (upd H p (.frz ob (.tup (cutV xs lo hi)))))) := by
  intro pins s σ H x v vl vu lo hi sl Q I rx hs pl pu h
  obtain ⟨a, xs, rfl, hx, q1, q2⟩ := h
  cases rx
  obtain ⟨its, r, ht, hz⟩ := I.tuple hx
  have hlen : its.toArray.size = xs.length := by rw [List.size_toArray]; exact r.length.symm
  refine ⟨"tuple", _, PyProof.Rows.slot_tuple_getitem.lookup, ht.typeIs, ?_⟩
  by_cases hw : HT.sIx xs.length 0 lo = 0 ∧ HT.sIx xs.length xs.length hi = xs.length
  · exact getItem_tuple_whole ht hs pl pu (by rw [hlen]; exact hw) ⟨.ref a, H, I, rfl, q1 hw⟩
  · refine HT.getItem_tuple_cut ht hs pl pu (by rw [hlen]; exact hw) ?_ (by rw [hlen]; exact hz)
    rw [hlen]
    refine ⟨.ref s.heap.objs.size, _, I.laid (t' := s.toks) (o := .frz { cls := .type "tuple", data := .seq (List.take (HT.sIx xs.length xs.length hi - HT.sIx xs.length 0 lo) (List.drop (HT.sIx xs.length 0 lo) its.toArray.toList)).toArray } (.tup (cutV xs lo hi))) (fun b ob q => Heap.get?_push_of_some _ q) (Nat.le_refl _) ?_, rfl, q2 hw _ _ rfl (I.hok.fresh (Nat.le_refl _))⟩
    exact ⟨Heap.get?_push_size _ rfl, Nat.le_trans (cutV_length xs lo hi) hz, _, (r.drop (HT.sIx xs.length 0 lo)).take (HT.sIx xs.length xs.length hi - HT.sIx xs.length 0 lo), IsTup.new _ _⟩
theorem o_sl (hK : X.K = G.K) : SlR X (rS G) := fun pins s σ H x v vl vu lo hi sl Q I rx hs pl pu ⟨ρ, M, h, L, d, o, cp, t, e, q⟩ => by
  unfold slD at e
  split at e
  · rename_i ds
    cases e
    obtain ⟨a, vs, rfl, t, r⟩ := t
    have whole : HT.sIx vs.length 0 lo = 0 ∧ HT.sIx vs.length vs.length hi = vs.length → Q (.ref a) H := fun z => by
      have e0 : cutD ds lo hi = ds := by
        unfold cutD
        rw [r.length, z.1, z.2, Nat.sub_zero, List.drop_zero, ← r.length, List.take_length]
      rw [e0] at q
      exact q _ _ (cp.tupF t r)
    cases hb : G.bare with
    | false => exact sl_tupA pins s σ H _ v vl vu lo hi sl Q I rx hs pl pu ⟨a, vs, rfl, by rw [hK]; exact t.sq, whole, fun _ p hp => q _ _ (cp.tupNew (r.cut lo hi) hp ⟨hb, rfl⟩)⟩
    | true => exact sl_tupB pins s σ H _ v vl vu lo hi sl Q I rx hs pl pu ⟨a, vs, rfl, by rw [hK]; exact t.sq, whole, fun _ p ob ho hp => q _ _ (cp.tupNew (r.cut lo hi) hp ⟨rfl, fun _ => ho⟩)⟩
  · simp only [Option.map_eq_some_iff] at e
    obtain ⟨ds, e1, e2⟩ := e
    subst e2
    obtain ⟨a, vs, rfl, t, r⟩ := listD_of t e1
    exact sl_list pins s σ H _ v vl vu lo hi sl Q I rx hs pl pu ⟨a, vs, rfl, by rw [hK]; exact t, fun p hp => q _ _ (cp.lstNew (r.cut lo hi) hp)⟩

/-! ### the built-ins by name -/
def lenD : List D → Option O
  | [.str x] => if fitsB x.length then fI x.length else none
  | [d] => (itemsD d).bind fun ds => fI ds.length
  | _ => none
theorem RepTs.one {ρ M : List Addr} {H : Hp} {d : D} {vs : List V} (r : RepTs G ρ H M [d] vs) : ∃ v, vs = [v] ∧ RepT G ρ H M d v := by
  obtain ⟨v, r', e, h1, h2⟩ := r
  exact ⟨v, by rw [e, show r' = [] from h2], h1⟩
theorem RepTs.two {ρ M : List Addr} {H : Hp} {d d' : D} {vs : List V} (r : RepTs G ρ H M [d, d'] vs) : ∃ v v', vs = [v, v'] ∧ RepT G ρ H M d v ∧ RepT G ρ H M d' v' := by
  obtain ⟨v, r', e, h1, h2⟩ := r
  obtain ⟨v', e2, h3⟩ := RepTs.one h2
  exact ⟨v, v', by rw [e, e2], h1, h3⟩
theorem b_len (hK : X.K = G.K) : CallR X (.builtin "len") (rN G lenD) := call_len.imp fun vs H Q ⟨ρ, M, h, L, ds, o, cp, t, e, q⟩ => by
  unfold lenD at e
  split at e
  · rename_i x
    split at e
    · rename_i hf
      cases e
      obtain ⟨v, rfl, r⟩ := t.one
      obtain rfl := (show v = _ from r)
      exact ⟨_, x.length, rfl, ⟨fits hf, rfl⟩, q _ _ (cp.int _)⟩
    · cases e
  · rename_i d _
    simp only [Option.bind_eq_some_iff] at e
    obtain ⟨ds, e1, e2⟩ := e
    cases e2
    obtain ⟨v, rfl, r⟩ := t.one
    obtain ⟨a, us, rfl, t, r⟩ := itemsD_of r e1
    refine ⟨_, us.length, rfl, ?_, by rw [← r.length]; exact q _ _ (cp.int _)⟩
    rw [hK]
    rcases t with t | t
    · exact .inl ⟨us, t, rfl⟩
    · exact .inr ⟨us, t, rfl⟩
  · cases e
def absD : List D → Option O
  | [.int i] => fI (if i < 0 then -i else i)
  | _ => none
theorem b_abs : CallR X (.builtin "abs") (rN G absD) := call_abs.imp fun vs H Q ⟨ρ, M, h, L, ds, o, cp, t, e, q⟩ => by
  unfold absD at e
  split at e
  · rename_i i
    cases e
    obtain ⟨v, rfl, r⟩ := t.one
    obtain rfl := (show v = _ from r)
    exact ⟨i, rfl, q _ _ (cp.int _)⟩
  · cases e
def maxD : List D → Option O
  | [.int i, .int j] => fI (if j > i then j else i)
  | _ => none
def minD : List D → Option O
  | [.int i, .int j] => fI (if j < i then j else i)
  | _ => none
theorem b_max (hc : X.calm = true) : CallR X (.builtin "max") (rN G maxD) := (call_max2 hc).imp fun vs H Q ⟨ρ, M, h, L, ds, o, cp, t, e, q⟩ => by
  unfold maxD at e
  split at e
  · rename_i i j
    cases e
    obtain ⟨v, v', rfl, r, r'⟩ := t.two
    obtain rfl := (show v = _ from r); obtain rfl := (show v' = _ from r')
    exact ⟨i, j, rfl, q _ _ (cp.int _)⟩
  · cases e
theorem b_min (hc : X.calm = true) : CallR X (.builtin "min") (rN G minD) := (call_min2 hc).imp fun vs H Q ⟨ρ, M, h, L, ds, o, cp, t, e, q⟩ => by
  unfold minD at e
  split at e
  · rename_i i j
    cases e
    obtain ⟨v, v', rfl, r, r'⟩ := t.two
    obtain rfl := (show v = _ from r); obtain rfl := (show v' = _ from r')
    exact ⟨i, j, rfl, q _ _ (cp.int _)⟩
  · cases e
def intsD : List D → Option (List Int)
  | [] => some []
  | .int i :: ds => (intsD ds).map (i :: ·)
  | _ => none
theorem intsD_of {ρ M : List Addr} {H : Hp} : ∀ {ds : List D} {vs : List V} {ns : List Int}, RepDs G ρ H M ds vs → intsD ds = some ns → vs = ns.map V.int
  | [], vs, ns, r, e => by simp only [intsD, Option.some.injEq] at e; subst e; exact r
  | d :: ds, vs, ns, r, e => by
    cases d with
    | int i =>
      simp only [intsD, Option.map_eq_some_iff] at e
      obtain ⟨ns', e1, e2⟩ := e
      subst e2
      obtain ⟨w, r', e4, h1, h2⟩ := r
      subst e4
      rw [intsD_of h2 e1, show w = _ from h1]; rfl
    | _ => simp [intsD] at e
def sumD : List D → Option O
  | [d] => (listD d).bind fun ds => (intsD ds).bind fun ns => fI ns.sum
  | _ => none
theorem b_sum (hK : X.K = G.K) (hc : X.calm = true) : CallR X (.builtin "sum") (rN G sumD) := (cr_sum hc).imp fun vs H Q ⟨ρ, M, h, L, ds, o, cp, t, e, q⟩ => by
  unfold sumD at e
  split at e
  · rename_i d
    simp only [Option.bind_eq_some_iff] at e
    obtain ⟨ds, e1, ns, e2, e3⟩ := e
    cases e3
    obtain ⟨v, rfl, r⟩ := t.one
    obtain ⟨a, us, rfl, t, r⟩ := listD_of r e1
    have := intsD_of r e2
    subst this
    exact ⟨a, ns, rfl, by rw [hK]; exact t, q _ _ (cp.int _)⟩
  · cases e
def boolsD : List D → Option (List Bool)
  | [] => some []
  | .bl i :: ds => (boolsD ds).map (i :: ·)
  | _ => none
theorem boolsD_of {ρ M : List Addr} {H : Hp} : ∀ {ds : List D} {vs : List V} {ns : List Bool}, RepDs G ρ H M ds vs → boolsD ds = some ns → vs = ns.map V.bl
  | [], vs, ns, r, e => by simp only [boolsD, Option.some.injEq] at e; subst e; exact r
  | d :: ds, vs, ns, r, e => by
    cases d with
    | bl i =>
      simp only [boolsD, Option.map_eq_some_iff] at e
      obtain ⟨ns', e1, e2⟩ := e
      subst e2
      obtain ⟨w, r', e4, h1, h2⟩ := r
      subst e4
      rw [boolsD_of h2 e1, show w = _ from h1]; rfl
    | _ => simp [boolsD] at e
def allD : List D → Option O
  | [d] => (listD d).bind fun ds => (boolsD ds).bind fun ns => fB (ns.all id)
  | _ => none
theorem b_all (hK : X.K = G.K) (hc : X.calm = true) : CallR X (.builtin "all") (rN G allD) := (cr_all hc).imp fun vs H Q ⟨ρ, M, h, L, ds, o, cp, t, e, q⟩ => by
  unfold allD at e
  split at e
  · rename_i d
    simp only [Option.bind_eq_some_iff] at e
    obtain ⟨ds, e1, ns, e2, e3⟩ := e
    cases e3
    obtain ⟨v, rfl, r⟩ := t.one
    obtain ⟨a, us, rfl, t, r⟩ := listD_of r e1
    have := boolsD_of r e2
    subst this
    exact ⟨a, ns, rfl, by rw [hK]; exact t, q _ _ (cp.bl _)⟩
  · cases e
def intD : List D → Option O
  | [.int i] => fI i
  | [.bl k] => fI (if k then 1 else 0)
  | _ => none
theorem b_int : CallR X (.type "int") (rN G intD) := call_int1.imp fun vs H Q ⟨ρ, M, h, L, ds, o, cp, t, e, q⟩ => by
  unfold intD at e
  split at e
  · rename_i i
    cases e
    obtain ⟨v, rfl, r⟩ := t.one
    obtain rfl := (show v = _ from r)
    exact .inl ⟨i, rfl, q _ _ (cp.int _)⟩
  · rename_i i
    cases e
    obtain ⟨v, rfl, r⟩ := t.one
    obtain rfl := (show v = _ from r)
    exact .inr ⟨i, rfl, q _ _ (cp.int _)⟩
  · cases e
def listOfD : List D → Option O
  | [d] => (itemsD d).map .lst
  | _ => none
theorem b_list (hK : X.K = G.K) : CallR X (.type "list") (rN G listOfD) := call_list_of.imp fun vs H Q ⟨ρ, M, h, L, ds, o, cp, t, e, q⟩ => by
  unfold listOfD at e
  split at e
  · rename_i d
    simp only [Option.map_eq_some_iff] at e
    obtain ⟨ds, e1, e2⟩ := e
    subst e2
    obtain ⟨v, rfl, r⟩ := t.one
    obtain ⟨a, us, rfl, t, r⟩ := itemsD_of r e1
    exact ⟨a, us, rfl, by rw [hK]; exact t, fun p hp => q _ _ (cp.lstNew r hp)⟩
  · cases e
def tupleOfD : List D → Option O
  | [d] => (itemsD d).map fun ds => .fz (.tup ds)
  | _ => none
theorem call_tuple_B : CallR X (.type "tuple") (fun xs H Q => ∃ p ys, xs = [.ref p] ∧ SqL X.K H p ys ∧ ∀ l ob, ob.dict = none → H l = none → Q (.ref l) (upd H l (.frz ob (.tup ys)))) := by
  intro pins s σ H xs us Q I r h
  obtain ⟨p, ys, rfl, hq, q⟩ := h
  obtain ⟨u, rfl, rx⟩ := r.one
  cases rx
  obtain ⟨its, r', pl, hz⟩ := I.list hq
  have hlen := r'.length
  refine call_tuple_list pl.isList (fun h' kp => ?_) (by simp only [List.size_toArray] <;> omega)
  have I1 : Inv X pins σ H { s with heap := h' } := I.kept (t' := s.toks) kp
  have I2 : Inv X pins σ (upd H h'.objs.size (.frz { cls := .type "tuple", data := .seq its.toArray } (.tup ys))) { s with heap := h'.push { cls := .type "tuple", data := .seq its.toArray } } :=
    I1.laid (t' := s.toks) (fun b o e => Heap.get?_push_of_some _ e) (Nat.le_refl _) ⟨Heap.get?_push_size _ rfl, hz, its, r', IsTup.new _ _⟩
  exact ⟨.ref h'.objs.size, _, I2, rfl, q _ _ rfl (I1.hok.fresh (Nat.le_refl _))⟩
theorem b_tuple (hK : X.K = G.K) : CallR X (.type "tuple") (rN G tupleOfD) := (call_tuple_of.or call_tuple_B).imp fun vs H Q ⟨ρ, M, h, L, ds, o, cp, t, e, q⟩ => by
  unfold tupleOfD at e
  split at e
  · rename_i d
    simp only [Option.map_eq_some_iff] at e
    obtain ⟨ds, e1, e2⟩ := e
    subst e2
    obtain ⟨v, rfl, r⟩ := t.one
    cases d with
    | tup ds' => cases e1; obtain ⟨a, us, rfl, t, r⟩ := r; exact .inl ⟨a, us, rfl, .inr ⟨by rw [hK]; exact t.sq, q _ _ (cp.tupF t r)⟩⟩
    | lst ds' =>
      have e2 : listD (.lst ds') = some ds := e1
      obtain ⟨a, us, rfl, t, r⟩ := listD_of r e2
      cases hb : G.bare with
      | false => exact .inl ⟨a, us, rfl, .inl ⟨by rw [hK]; exact t, fun p hp => q _ _ (cp.tupNew r hp ⟨hb, rfl⟩)⟩⟩
      | true => exact .inr ⟨a, us, rfl, by rw [hK]; exact t, fun p ob ho hp => q _ _ (cp.tupNew r hp ⟨rfl, fun _ => ho⟩)⟩
    | scr ns =>
      have e2 : listD (.scr ns) = some ds := e1
      obtain ⟨a, us, rfl, t, r⟩ := listD_of r e2
      cases hb : G.bare with
      | false => exact .inl ⟨a, us, rfl, .inl ⟨by rw [hK]; exact t, fun p hp => q _ _ (cp.tupNew r hp ⟨hb, rfl⟩)⟩⟩
      | true => exact .inr ⟨a, us, rfl, by rw [hK]; exact t, fun p ob ho hp => q _ _ (cp.tupNew r hp ⟨rfl, fun _ => ho⟩)⟩
    | _ => cases e1
  · cases e
/-! ### isinstance of built-in types -/
def tyD : D → Option String
  | .non => some "NoneType" | .bl _ => some "bool" | .int _ => some "int" | .str _ => some "str"
  | .tup _ => some "tuple" | .lst _ => some "list" | .scr _ => some "list" | .dic _ _ => some "dict"
  | _ => none
theorem tyD_of {ρ M : List Addr} {H : Hp} {d : D} {v : V} {n : String} (r : RepT G ρ H M d v) (e : tyD d = some n) : TyX G.K H v (.type n) := by
  cases d with
  | non => cases e; obtain rfl := (show v = _ from r); exact .base .non
  | bl b => cases e; obtain rfl := (show v = _ from r); exact .base (.bl b)
  | int b => cases e; obtain rfl := (show v = _ from r); exact .base (.int b)
  | str b => cases e; obtain rfl := (show v = _ from r); exact .base (.str b)
  | tup ds =>
    cases e
    obtain ⟨a, vs, rfl, t, _⟩ := r
    rcases t.sq with (t | ⟨o, t⟩) | ⟨o, its, n, l, c, _⟩
    · exact .base (.tup t)
    · exact .fTuple t
    · exact .kTuple l c
  | lst ds => cases e; obtain ⟨a, vs, rfl, t, _⟩ := r; exact .base (.lst t)
  | scr ns =>
    cases e
    obtain ⟨a, rfl, t⟩ := r
    rcases t with (t | ⟨o, t⟩) | ⟨o, its, n, l, c, _⟩
    · exact .base (.lst t)
    · exact .base (.frz t)
    · exact .kList l c
  | dic ks ds =>
    cases e
    obtain ⟨a, vs, rfl, t, _⟩ := r
    rcases t with t | ⟨o, t⟩
    · exact .base (.dK t)
    · exact .fDict t
  | _ => cases e
def isiB (d c : D) : Option Bool := match c with
  | .ty n => (tyD d).bind fun m => kitB m n
  | _ => none
def isiD : List D → Option O
  | [d, c] => (isiB d c).map fun b => .fz (.bl b)
  | _ => none
theorem b_isi (hK : X.K = G.K) : CallR X (.builtin "isinstance") (rN G isiD) := call_isi.imp fun vs H Q ⟨ρ, M, h, L, ds, o, cp, t, e, q⟩ => by
  unfold isiD at e
  split at e
  · rename_i d c
    simp only [Option.map_eq_some_iff] at e
    obtain ⟨b, e1, e2⟩ := e
    subst e2
    unfold isiB at e1
    split at e1
    · rename_i n
      simp only [Option.bind_eq_some_iff] at e1
      obtain ⟨m, e2, e3⟩ := e1
      obtain ⟨v, v', rfl, r, r'⟩ := t.two
      obtain rfl := (show v' = _ from r')
      exact ⟨v, _, _, _, b, rfl, .ty n, by rw [hK]; exact tyD_of r e2, kit_ty e3, q _ _ (cp.bl _)⟩
    · cases e1
  · cases e
end
end Mi

set_option Elab.async false
set_option linter.all false
set_option maxRecDepth 100000
set_option maxHeartbeats 4000000
/-! Mi, part I: slots as a whole; statements without loops. -/
namespace Mi
open PySem PySem.Spec PyProof.Rows L2

/-! ### the slots by places -/
def pr (σ : List (Option O)) (σr : Sr) (i : Nat) : List (O × V) := match σ[i]?, σr[i]? with
  | some (some o), some (some v) => [(o, v)]
  | _, _ => []
theorem slp_eq : ∀ {σ : List (Option O)} {σr : Sr}, σ.length = σr.length → slp σ σr = (List.range σ.length).flatMap (pr σ σr)
  | [], [], _ => rfl
  | a :: σ, b :: σr, l => by
    have ih := slp_eq (σ := σ) (σr := σr) (by simpa using l)
    rw [List.length_cons, List.range_succ_eq_map, List.flatMap_cons, List.flatMap_map]
    have e : (fun i => pr (a :: σ) (b :: σr) (Nat.succ i)) = pr σ σr := by funext i; simp [pr]
    rw [e, ← ih]
    cases a <;> cases b <;> simp [slp, pr]
  | [], _ :: _, l => by simp at l
  | _ :: _, [], l => by simp at l
theorem perm_part {α : Type} (p : Nat → Bool) (f : Nat → List α) : ∀ l : List Nat, (l.flatMap f).Perm ((l.filter fun i => !p i).flatMap f ++ (l.filter p).flatMap f)
  | [] => .refl _
  | x :: l => by
    have ih := perm_part p f l
    cases hx : p x with
    | false =>
      simp only [List.flatMap_cons, List.filter_cons, hx, Bool.not_false, if_true, Bool.false_eq_true, if_false, List.append_assoc]
      exact ih.append_left _
    | true =>
      simp only [List.flatMap_cons, List.filter_cons, hx, Bool.not_true, if_true, Bool.false_eq_true, if_false]
      refine (ih.append_left (f x)).trans ?_
      rw [← List.append_assoc, ← List.append_assoc]
      exact List.perm_append_comm.append_right _
theorem flatMap_nil {α : Type} {f : Nat → List α} : ∀ {l : List Nat}, (∀ i ∈ l, f i = []) → l.flatMap f = []
  | [], _ => rfl
  | x :: l, h => by rw [List.flatMap_cons, h x (by simp), flatMap_nil fun i hi => h i (by simp [hi])]; rfl
theorem flatMap_congr' {α : Type} {f g : Nat → List α} : ∀ {l : List Nat}, (∀ i ∈ l, f i = g i) → l.flatMap f = l.flatMap g
  | [], _ => rfl
  | x :: l, h => by rw [List.flatMap_cons, List.flatMap_cons, h x (by simp), flatMap_congr' fun i hi => h i (by simp [hi])]
def wipeO (σ : List (Option O)) : List Nat → List (Option O)
  | [] => σ
  | v :: vs => (wipeO σ vs).set v none
def rst (τ σ : List (Option O)) : List Nat → List (Option O)
  | [] => τ
  | v :: vs => (rst τ σ vs).set v ((σ[v]?).getD none)
theorem wipeO_len (σ : List (Option O)) : ∀ vs, (wipeO σ vs).length = σ.length
  | [] => rfl
  | v :: vs => by rw [wipeO, List.length_set, wipeO_len σ vs]
theorem rst_len (τ σ : List (Option O)) : ∀ vs, (rst τ σ vs).length = τ.length
  | [] => rfl
  | v :: vs => by rw [rst, List.length_set, rst_len τ σ vs]
theorem wipeO_in {σ : List (Option O)} {i : Nat} : ∀ {vs : List Nat}, i ∈ vs → ∀ o, (wipeO σ vs)[i]? ≠ some (some o)
  | v :: vs, h, o => by
    rw [wipeO]
    by_cases e : v = i
    · subst e
      rw [List.getElem?_set]
      split
      · split <;> simp
      · intro h2; contradiction
    · rw [List.getElem?_set_ne e]
      exact wipeO_in (by rcases List.mem_cons.mp h with z | z; exact absurd z.symm e; exact z) o
theorem wipeO_out {σ : List (Option O)} {i : Nat} : ∀ {vs : List Nat}, i ∉ vs → (wipeO σ vs)[i]? = σ[i]?
  | [], _ => rfl
  | v :: vs, h => by
    rw [wipeO, List.getElem?_set_ne (fun z => h (by simp [z]))]
    exact wipeO_out fun z => h (by simp [z])
theorem wipe_out {σ : Sr} {i : Nat} : ∀ {vs : List Nat}, i ∉ vs → (wipe σ vs)[i]? = σ[i]?
  | [], _ => rfl
  | v :: vs, h => by
    rw [wipe, List.getElem?_set_ne (fun z => h (by simp [z]))]
    exact wipe_out fun z => h (by simp [z])
theorem wipe_in {σ : Sr} {i : Nat} {vs : List Nat} (h : i ∈ vs) (v : V) : (wipe σ vs)[i]? ≠ some (some v) := fun z => (wipe_some z).2 h
theorem rst_out {τ σ : List (Option O)} {i : Nat} : ∀ {vs : List Nat}, i ∉ vs → (rst τ σ vs)[i]? = τ[i]?
  | [], _ => rfl
  | v :: vs, h => by
    rw [rst, List.getElem?_set_ne (fun z => h (by simp [z]))]
    exact rst_out fun z => h (by simp [z])
theorem rst_in {τ σ : List (Option O)} (l : τ.length = σ.length) {i : Nat} : ∀ {vs : List Nat}, i ∈ vs → (rst τ σ vs)[i]? = σ[i]?
  | v :: vs, h => by
    rw [rst]
    by_cases e : v = i
    · subst e
      rw [List.getElem?_set]
      simp only [if_true, rst_len, l]
      by_cases hv : v < σ.length
      · rw [if_pos hv]; simp [hv]
      · rw [if_neg hv, List.getElem?_eq_none (by omega)]
    · rw [List.getElem?_set_ne e]
      exact rst_in l (by rcases List.mem_cons.mp h with z | z; exact absurd z.symm e; exact z)
/-- the slots at vs are put aside, and put back -/
theorem slp_wipe {σ : List (Option O)} {σr : Sr} (ok : SlOk σ σr) (vs : List Nat) : ∃ Z, (slp σ σr).Perm (slp (wipeO σ vs) (wipe σr vs) ++ Z) ∧ SlOk (wipeO σ vs) (wipe σr vs) ∧
    ∀ τ, SlOk τ (wipe σr vs) → (slp (rst τ σ vs) σr).Perm (slp τ (wipe σr vs) ++ Z) ∧ SlOk (rst τ σ vs) σr := by
  refine ⟨((List.range σ.length).filter fun i => decide (i ∈ vs)).flatMap (pr σ σr), ?_, ⟨by rw [wipeO_len, wipe_length, ok.len], fun i o q => ?_⟩, fun τ okt => ?_⟩
  · rw [slp_eq ok.len, slp_eq (by rw [wipeO_len, wipe_length, ok.len]), wipeO_len]
    refine (perm_part (fun i => decide (i ∈ vs)) (pr σ σr) _).trans ?_
    refine List.Perm.append_right _ ?_
    refine List.Perm.trans ?_ (perm_part (fun i => decide (i ∈ vs)) (pr (wipeO σ vs) (wipe σr vs)) _).symm
    rw [flatMap_nil (l := (List.range σ.length).filter fun i => decide (i ∈ vs)) fun i hi => ?_, List.append_nil]
    · rw [flatMap_congr' fun i hi => ?_]
      have hi' : i ∉ vs := by simpa using (List.mem_filter.mp hi).2
      simp only [pr]
      rw [wipeO_out hi', wipe_out hi']
    · have hi' : i ∈ vs := by simpa using (List.mem_filter.mp hi).2
      simp only [pr]
      split
      · rename_i o v e1 e2
        exact absurd e1 (wipeO_in hi' o)
      · rfl
  · by_cases hi : i ∈ vs
    · exact absurd q (wipeO_in hi o)
    · rw [wipeO_out hi] at q
      rw [wipe_out hi]
      exact ok.at_ i o q
  · have lt : τ.length = σ.length := by rw [okt.len, wipe_length, ok.len]
    have okr : SlOk (rst τ σ vs) σr := ⟨by rw [rst_len, lt, ok.len], fun i o q => by
      by_cases hi : i ∈ vs
      · rw [rst_in lt hi] at q
        exact ok.at_ i o q
      · rw [rst_out hi] at q
        have := okt.at_ i o q
        rw [wipe_out hi] at this
        exact this⟩
    refine ⟨?_, okr⟩
    rw [slp_eq okr.len, slp_eq okt.len, rst_len, lt]
    refine (perm_part (fun i => decide (i ∈ vs)) (pr (rst τ σ vs) σr) _).trans ?_
    refine (List.Perm.append_right _ ?_).trans (List.Perm.append_left _ ?_)
    · refine List.Perm.trans ?_ (perm_part (fun i => decide (i ∈ vs)) (pr τ (wipe σr vs)) _).symm
      rw [flatMap_nil (l := (List.range σ.length).filter fun i => decide (i ∈ vs)) (f := pr τ (wipe σr vs)) fun i hi => ?_, List.append_nil]
      · rw [flatMap_congr' fun i hi => ?_]
        have hi' : i ∉ vs := by simpa using (List.mem_filter.mp hi).2
        simp only [pr]
        rw [rst_out hi', wipe_out hi']
      · have hi' : i ∈ vs := by simpa using (List.mem_filter.mp hi).2
        simp only [pr]
        split
        · rename_i o v e1 e2
          exact absurd e2 (wipe_in hi' v)
        · rfl
    · rw [flatMap_congr' fun i hi => ?_]
      have hi' : i ∈ vs := by simpa using (List.mem_filter.mp hi).2
      simp only [pr]
      rw [rst_in lt hi']

/-! ### statements -/
def NoB (Φ : List (R × V)) : Prop := ∀ i v, (R.bor i, v) ∉ Φ
def AftS (G : GE) (W : WX) (Φ : List (R × V)) (D : Ends) : Fl → Prop
  | .nx s => ∀ σr H, CfS G σr H s Φ → D.nx σr H
  | .rt o s => ∀ σr v H, CfS G σr H s ((.own o, v) :: Φ) → D.rt v H
  | .bk s => ∀ σr H, CfS G σr H s Φ → D.bk σr H
  | .ct s => ∀ σr H, CfS G σr H s Φ → D.ct σr H
  | .exc c d s => ∀ σr cls dx H, ExR G σr H s Φ c d cls dx → W cls dx σr H
  | .bad => False
def tS (G : GE) (W : WX) (call : Call) (m : C) : TS := fun D σr H => ∃ s Φ, NoB Φ ∧ CfS G σr H s Φ ∧ AftS G W Φ D (m call s)
theorem _root_.L2.PS.of {X : Cx} {st : Stmt} {t t' : TS} (h : PS X st t') (i : ∀ D σ H, t D σ H → t' D σ H) : PS X st t := ⟨fun pins s σ H D I q => h.run pins s σ H D I (i D σ H q)⟩
theorem _root_.L2.PSs.of {X : Cx} {st : List Stmt} {t t' : TS} (h : PSs X st t') (i : ∀ D σ H, t D σ H → t' D σ H) : PSs X st t := ⟨fun pins s σ H D I q => h.run pins s σ H D I (i D σ H q)⟩
section
variable {G : GE} {k : Nat} {call : Call} {cc : CC} {W : WX} {X : Cx}
theorem AftS.flow {α : Type} {Φ : List (R × V)} {D : Ends} {σr : Sr} {x : Out α} {f : α → S → Fl} (a : AftS G W Φ D (x.flow f)) : Aft G W σr Φ (fun y s => AftS G W Φ D (f y s)) x := by
  cases x with
  | ok y s => exact a
  | exc c d s => exact fun cls dx H q => a σr cls dx H q
  | bad => exact a
/-- a statement behind another -/
def Fl.then (x : Fl) (f : S → Fl) : Fl := match x with
  | .nx s => f s
  | y => y
def cNil : C := fun _ s => .nx s
def cSeq (a b : C) : C := fun call s => (a call s).then fun s1 => b call s1
theorem s_nil : PSs X [] (tS G W call cNil) := pss_nil.of fun D σ H q => by
  obtain ⟨s, Φ, nb, c, a⟩ := q
  exact a σ H c
theorem s_cons {st : Stmt} {r : List Stmt} {a b : C} (h1 : PS X st (tS G W call a)) (h2 : PSs X r (tS G W call b)) : PSs X (st :: r) (tS G W call (cSeq a b)) := by
  refine (pss_cons h1 h2).of fun D σ H q => ?_
  obtain ⟨s, Φ, nb, c, q⟩ := q
  refine ⟨s, Φ, nb, c, ?_⟩
  unfold cSeq at q
  cases e : a call s with
  | nx s1 => rw [e] at q; exact fun σ1 H1 c1 => ⟨s1, Φ, nb, c1, q⟩
  | rt o s1 => rw [e] at q; exact q
  | bk s1 => rw [e] at q; exact q
  | ct s1 => rw [e] at q; exact q
  | exc cn d s1 => rw [e] at q; exact q
  | bad => rw [e] at q; exact q
def cIf (c : B) (a b : C) : C := fun call s => (c call s).flow fun x s1 => if x then a call s1 else b call s1
theorem s_if {c : Expr} {a b : List Stmt} {mc : B} {ma mb : C} {pos : Pos} (hc : PT X c (tB_ G W call mc)) (ha : PSs X a (tS G W call ma)) (hb : PSs X b (tS G W call mb)) : PS X (.If c a b pos) (tS G W call (cIf mc ma mb)) := by
  refine (ps_if hc ha hb).of fun D σ H q => ?_
  obtain ⟨s, Φ, nb, c, q⟩ := q
  refine ⟨s, Φ, c, (AftS.flow q).mono fun x s1 a1 => fun H1 c1 => ?_⟩
  cases x with
  | true => exact iteT ⟨s1, Φ, nb, c1, a1⟩
  | false => exact iteF ⟨s1, Φ, nb, c1, a1⟩
/-- what is handed out of a frame: a name's value moves -/
def give (s : S) : R → Option (O × S)
  | .own o => some (o, s)
  | .bor i => match s.σ[i]? with
    | some (some o) => some (o, ⟨s.σ.set i none, s.h⟩)
    | _ => none
theorem slp_out : ∀ {σ : List (Option O)} {σr : Sr} {i : Nat} {o : O} {v : V}, σ[i]? = some (some o) → σr[i]? = some (some v) → (slp σ σr).Perm ((o, v) :: slp (σ.set i none) σr)
  | [], _, _, _, _, e, _ => by simp at e
  | _ :: _, [], _, _, _, _, e => by simp at e
  | a :: σ, b :: σr, 0, o, v, e1, e2 => by
    simp at e1 e2
    subst e1; subst e2
    exact .refl _
  | a :: σ, b :: σr, i + 1, o, v, e1, e2 => by
    have ih := slp_out (σ := σ) (σr := σr) (i := i) (o := o) (v := v) (by simpa using e1) (by simpa using e2)
    cases a with
    | none => exact ih
    | some a =>
      cases b with
      | none => exact ih
      | some b => exact (ih.cons (a, b)).trans (.swap _ _ _)
theorem CfS.give {σr : Sr} {H : Hp} {s s' : S} {Φ : List (R × V)} {r : R} {v : V} {o : O} (c : CfS G σr H s ((r, v) :: Φ)) (e : give s r = some (o, s')) : CfS G σr H s' ((.own o, v) :: Φ) := by
  cases r with
  | own o' =>
    simp only [Mi.give, Option.some.injEq, Prod.mk.injEq] at e
    obtain ⟨e1, e2⟩ := e
    subst e1; subst e2
    exact c
  | bor i =>
    simp only [Mi.give] at e
    have ev : σr[i]? = some (some v) := c.bo i v (by simp)
    split at e
    · rename_i o' eo
      simp only [Option.some.injEq, Prod.mk.injEq] at e
      obtain ⟨e1, e2⟩ := e
      subst e1; subst e2
      refine ⟨⟨by simp [c.sl.len], fun j o2 q => ?_⟩, fun j w q => ?_, ?_⟩
      · by_cases hj : i = j
        · subst hj
          rw [List.getElem?_set] at q
          simp at q
        · exact c.sl.at_ j o2 (by simpa [List.getElem?_set, hj] using q)
      · rcases List.mem_cons.mp q with q | q
        · cases q
        · exact c.bo j w (List.mem_cons_of_mem _ q)
      · have cf : Cf G H s.h (slp s.σ σr ++ ow Φ) := c.cf
        refine cf.perm ?_
        refine ((slp_out eo ev).append_right _).trans ?_
        exact List.perm_middle.symm
    · cases e
def cRet (m : E) : C := fun call s => (m call s).flow fun x s1 => match Mi.give s1 x with
  | some (o, s2) => .rt o s2
  | none => .bad
theorem s_ret {e : Expr} {m : E} {pos : Pos} (h : PE X e (tE G W call m)) : PS X (.Return (some e) pos) (tS G W call (cRet m)) := by
  refine (ps_ret h).of fun D σ H q => ?_
  obtain ⟨s, Φ, nb, c, q⟩ := q
  refine ⟨s, Φ, c, (AftS.flow q).mono fun x s1 a1 => fun v H1 c1 => ?_⟩
  split at a1
  · rename_i o s2 e2
    exact a1 σ v H1 (c1.give e2)
  · exact a1.elim
def cRetN : C := fun _ s => .rt (.fz .non) s
theorem s_retN {pos : Pos} : PS X (.Return none pos) (tS G W call cRetN) := ps_retN.of fun D σ H q => by
  obtain ⟨s, Φ, nb, c, q⟩ := q
  exact q σ .non H (c.simple rfl)
def cPass : C := fun _ s => .nx s
theorem s_pass {pos : Pos} : PS X (.Pass pos) (tS G W call cPass) := ps_pass.of fun D σ H q => by
  obtain ⟨s, Φ, nb, c, q⟩ := q
  exact q σ H c
def cBrk : C := fun _ s => .bk s
theorem s_brk {pos : Pos} : PS X (.Break pos) (tS G W call cBrk) := ps_break.of fun D σ H q => by
  obtain ⟨s, Φ, nb, c, q⟩ := q
  exact q σ H c
def cCnt : C := fun _ s => .ct s
theorem s_cnt {pos : Pos} : PS X (.Continue pos) (tS G W call cCnt) := ps_continue.of fun D σ H q => by
  obtain ⟨s, Φ, nb, c, q⟩ := q
  exact q σ H c
def noComp : Expr → Bool
  | .ListComp .. => false | .SetComp .. => false | .DictComp .. => false | _ => true
theorem noComp_sw {e : Expr} {t : Option Expr} {l : Nat} {env : Env} (h : noComp e = true) : swapsWith e t l env = pure false := by
  cases e <;> first | rfl | cases h
def cExpr (m : E) : C := fun call s => (m call s).flow fun _ s1 => .nx s1
theorem s_expr {e : Expr} {m : E} {pos : Pos} (h : PE X e (tE G W call m)) (hn : noComp e = true) : PS X (.Expr e pos) (tS G W call (cExpr m)) := by
  refine (ps_expr h (noComp_sw hn)).of fun D σ H q => ?_
  obtain ⟨s, Φ, nb, c, q⟩ := q
  exact ⟨s, Φ, c, (AftS.flow q).mono fun x s1 a1 => fun v H1 c1 => a1 σ H1 c1.drop⟩
end
end Mi

set_option Elab.async false
set_option linter.all false
set_option maxRecDepth 100000
set_option maxHeartbeats 4000000
/-! Mi, part J: targets, assignments, loops. -/
namespace Mi
open PySem PySem.Spec PyProof.Rows L2

abbrev Tg := O → S → Option S
abbrev Tgs := List D → S → Option S
def tG (G : GE) (g : Tg) : TG := fun v σr H Q => ∃ s Φ o s', NoB Φ ∧ CfS G σr H s ((.own o, v) :: Φ) ∧ g o s = some s' ∧ ∀ σr', CfS G σr' H s' Φ → σr'.length = σr.length → Q σr' H
def tGs (G : GE) (g : Tgs) : TGs := fun vs σr H Q => ∃ s Φ ds s', NoB Φ ∧ ds.length = vs.length ∧ CfS G σr H s (FzR ds vs ++ Φ) ∧ g ds s = some s' ∧ ∀ σr', CfS G σr' H s' Φ → σr'.length = σr.length → Q σr' H
theorem _root_.L2.PG.of {X : Cx} {e : Expr} {t t' : TG} (h : PG X e t') (i : ∀ v σ H Q, t v σ H Q → t' v σ H Q) : PG X e t := ⟨fun pins s σ H v u Q I r q => h.run pins s σ H v u Q I r (i v σ H Q q)⟩
theorem _root_.L2.PGs.of {X : Cx} {e : List Expr} {t t' : TGs} (h : PGs X e t') (i : ∀ v σ H Q, t v σ H Q → t' v σ H Q) : PGs X e t := ⟨fun pins s σ H v u Q I r q => h.run pins s σ H v u Q I r (i v σ H Q q)⟩

def gN (i : Nat) : Tg := fun o s => if i < s.σ.length then some ⟨s.σ.set i (some o), s.h⟩ else none
def gsNil : Tgs := fun ds s => match ds with
  | [] => some s
  | _ => none
def gsCons (g : Tg) (r : Tgs) : Tgs := fun ds s => match ds with
  | d :: ds => (g (.fz d) s).bind fun s1 => r ds s1
  | [] => none
/-- (a, b, ..) = a tuple or a list -/
def gT (n : Nat) (r : Tgs) : Tg := fun o s => match o with
  | .fz (.tup ds) => if ds.length = n then r ds s else none
  | .fz (.lst ds) => if ds.length = n then r ds s else none
  | .lst ds => if ds.length = n then r ds s else none
  | _ => none
theorem noB_fz {ds : List D} {vs : List V} {Φ : List (R × V)} (h : NoB Φ) : NoB (FzR ds vs ++ Φ) := fun i v q => by
  rcases List.mem_append.mp q with q | q
  · exact nob_fz q
  · exact h i v q
theorem noB_cons {o : O} {v : V} {Φ : List (R × V)} (h : NoB Φ) : NoB ((.own o, v) :: Φ) := fun i w q => by
  rcases List.mem_cons.mp q with q | q
  · cases q
  · exact h i w q
section
variable {G : GE} {k : Nat} {call : Call} {cc : CC} {W : WX} {X : Cx}
/-- a slot is written -/
theorem CfS.put {σr : Sr} {H : Hp} {s : S} {Φ : List (R × V)} {i : Nat} {o : O} {v : V} (nb : NoB Φ) (c : CfS G σr H s ((.own o, v) :: Φ)) (hi : i < s.σ.length) : CfS G (σr.set i (some v)) H ⟨s.σ.set i (some o), s.h⟩ Φ := by
  refine ⟨⟨by simp [c.sl.len], fun j o' q => ?_⟩, fun j w q => absurd q (nb j w), ?_⟩
  · by_cases hj : i = j
    · subst hj
      exact ⟨v, by rw [List.getElem?_set]; simp [← c.sl.len, hi]⟩
    · rw [List.getElem?_set_ne hj]
      exact c.sl.at_ j o' (by simpa [List.getElem?_set, hj] using q)
  · obtain ⟨X, Z, Y, q1, q2, q3⟩ := slp_set (o := o) (v := v) hi (by rw [← c.sl.len]; exact hi)
    show Cf G H s.h (slp (s.σ.set i (some o)) (σr.set i (some v)) ++ ow Φ)
    rw [q2]
    have cf : Cf G H s.h (slp s.σ σr ++ (o, v) :: ow Φ) := c.cf
    rw [q1] at cf
    have c2 : Cf G H s.h (Z ++ ((o, v) :: (X ++ (Y ++ ow Φ)))) := cf.perm (by
      have e1 : X ++ (Z ++ Y) ++ (o, v) :: ow Φ = (X ++ Z ++ Y) ++ (o, v) :: ow Φ := by simp
      rw [e1]
      refine List.perm_middle.trans (List.Perm.trans (List.Perm.cons _ ?_) List.perm_middle.symm)
      rw [List.append_assoc, List.append_assoc]
      exact List.perm_append_comm_assoc X Z _)
    exact (Cf.dropN c2).perm (by
      simp only [List.append_assoc, List.cons_append]
      exact List.perm_middle.symm)
theorem g_name (g : Good G k call cc W X) {i : Nat} {x : Str} {pos : Pos} (hi : cc.N[i]? = some x) (hx : cc.sc.names.lookup x = some .local ∨ (cc.top = true ∧ cc.sc.names.lookup x = some .cell)) : PG X (.Name x pos) (tG G (gN i)) := by
  have hl : Loc X.env.scope x := by
    rw [g.sc]
    rcases hx with h | ⟨_, h⟩
    · exact .inl h
    · exact .inr h
  have hf : X.fn x = true ∨ X.env.scope.names.lookup x = some .local := by
    rw [g.sc]
    rcases hx with h | ⟨h, _⟩
    · exact .inr h
    · exact .inl (g.fn h x)
  refine (pg_name (by rw [g.N]; exact g.nd) (by rw [g.N]; exact hi) hl hf).of fun v σ H Q q => ?_
  obtain ⟨s, Φ, o, s', nb, c, e, q⟩ := q
  simp only [gN] at e
  split at e
  · rename_i hl
    cases e
    exact q _ (c.put nb hl) (by simp)
  · cases e
theorem gs_nil : PGs X [] (tGs G gsNil) := pgs_nil.of fun vs σ H Q q => by
  obtain ⟨s, Φ, ds, s', nb, l, c, e, q⟩ := q
  cases ds with
  | nil =>
    cases e
    have : vs = [] := List.length_eq_zero_iff.mp l.symm
    subst this
    exact ⟨rfl, q σ c rfl⟩
  | cons d ds => cases e
def plainT : Expr → Bool
  | .Starred _ _ => false
  | _ => true
theorem asg_cons {e : Expr} {es : List Expr} {env : Env} (h : plainT e = true) : assignEach (e :: es) env = (false, assign e env) :: assignEach es env := by
  cases e <;> first | rfl | cases h
theorem gs_cons {e : Expr} {es : List Expr} {g : Tg} {r : Tgs} (h1 : PG X e (tG G g)) (h2 : PGs X es (tGs G r)) (hp : plainT e = true) : PGs X (e :: es) (tGs G (gsCons g r)) := by
  refine (pgs_cons h1 h2 (by rw [asg_cons hp]; rfl)).of fun vs σ H Q q => ?_
  obtain ⟨s, Φ, ds, s', nb, l, c, e, q⟩ := q
  cases ds with
  | nil => cases e
  | cons d ds =>
    cases vs with
    | nil => simp at l
    | cons v vs =>
      simp only [gsCons, Option.bind_eq_some_iff] at e
      obtain ⟨s1, e1, e2⟩ := e
      refine ⟨v, vs, rfl, s, FzR ds vs ++ Φ, .fz d, s1, noB_fz nb, c, e1, fun σ1 c1 l1 => ?_⟩
      exact ⟨s1, Φ, ds, s', nb, by simpa using l, c1, e2, fun σ2 c2 l2 => q σ2 c2 (l2.trans l1)⟩
theorem asg_len {env : Env} : ∀ {es : List Expr}, es.all plainT = true → (assignEach es env).length = es.length ∧ (assignEach es env).findIdx? (·.1) = none
  | [], _ => ⟨rfl, rfl⟩
  | e :: es, h => by
    simp only [List.all_cons, Bool.and_eq_true] at h
    obtain ⟨h1, h2⟩ := asg_len (env := env) h.2
    rw [asg_cons h.1]
    refine ⟨by simp [h1], ?_⟩
    rw [List.findIdx?_cons]
    simp [h2]
theorem _root_.L2.PG.or {e : Expr} {t t' : TG} (h : PG X e t) (h' : PG X e t') : PG X e (fun v σ H Q => t v σ H Q ∨ t' v σ H Q) := ⟨fun pins s σ H v u Q I r q => by
  rcases q with q | q
  · exact h.run pins s σ H v u Q I r q
  · exact h'.run pins s σ H v u Q I r q⟩
theorem CfS.spread {σr : Sr} {H : Hp} {s : S} {Φ : List (R × V)} {ds : List D} {vs : List V} {p : O × V} (c : CfS G σr H s Φ) (nb : NoB Φ) (z : Cf G H s.h (Fz ds vs ++ p :: (slp s.σ σr ++ ow Φ))) : CfS G σr H s (FzR ds vs ++ Φ) := by
  refine ⟨c.sl, fun i v q => ?_, ?_⟩
  · rcases List.mem_append.mp q with q | q
    · exact absurd q nob_fz
    · exact c.bo i v q
  · rw [ow_append, ow_fz]
    have z1 : Cf G H s.h (Fz ds vs ++ (slp s.σ σr ++ ow Φ)) := (Cf.unrot z).drop
    exact z1.perm (List.perm_append_comm_assoc _ _ _)
theorem g_tup (g : Good G k call cc W X) {es : List Expr} {r : Tgs} {n : Nat} {pos : Pos} (h : PGs X es (tGs G r)) (hp : es.all plainT = true) : PG X (.Tuple es n pos) (tG G (gT es.length r)) := by
  refine ((pg_tup g.calm h (asg_len hp).1 (asg_len hp).2).or (pg_lst g.calm h (asg_len hp).1 (asg_len hp).2)).of fun v σ H Q q => ?_
  obtain ⟨s, Φ, o, s', nb, c, e, q⟩ := q
  have cf : Cf G H s.h ((o, v) :: (slp s.σ σ ++ ow Φ)) := c.cf.perm List.perm_middle
  unfold gT at e
  split at e
  · rename_i ds
    split at e
    · rename_i hl
      obtain ⟨a, vs, rfl, t, l, z⟩ := Cf.tupF cf
      exact .inl ⟨a, vs, rfl, by rw [g.K]; exact t, by rw [← l, hl], s, Φ, ds, s', nb, l, CfS.spread c.drop nb z, e, q⟩
    · cases e
  · rename_i ds
    split at e
    · rename_i hl
      obtain ⟨a, vs, rfl, t, l, z⟩ := Cf.lstF cf
      exact .inr ⟨a, vs, rfl, .inl (.inl t), by rw [← l, hl], s, Φ, ds, s', nb, l, CfS.spread c.drop nb z, e, q⟩
    · cases e
  · rename_i ds
    split at e
    · rename_i hl
      obtain ⟨a, vs, rfl, t, l, z⟩ := Cf.lst cf
      exact .inr ⟨a, vs, rfl, .inl (.inl t), by rw [← l, hl], s, Φ, ds, s', nb, l, CfS.spread c.drop nb (Cf.rot z), e, q⟩
    · cases e
  · cases e

/-! ### assignments -/
/-- a value that is kept by a name: it moves, or (another name's) it is frozen -/
def keep (s : S) : R → Option (O × S)
  | .own o => some (o, s)
  | .bor i => (take s (.bor i)).map fun p => (.fz p.1, p.2)
theorem CfS.keep {σr : Sr} {H : Hp} {s s' : S} {Φ : List (R × V)} {r : R} {v : V} {o : O} (c : CfS G σr H s ((r, v) :: Φ)) (e : keep s r = some (o, s')) : CfS G σr H s' ((.own o, v) :: Φ) := by
  cases r with
  | own o' =>
    simp only [Mi.keep, Option.some.injEq, Prod.mk.injEq] at e
    obtain ⟨e1, e2⟩ := e
    subst e1; subst e2
    exact c
  | bor i =>
    simp only [Mi.keep, Option.map_eq_some_iff] at e
    obtain ⟨⟨d, s2⟩, e1, e2⟩ := e
    cases e2
    exact c.take e1
def cAsg (m : E) (g : Tg) : C := fun call s => (m call s).flow fun x s1 => match (keep s1 x).bind fun p => g p.1 p.2 with
  | some s2 => .nx s2
  | none => .bad
theorem tAsg_of {m : E} {g : Tg} {D : Ends} {σ : Sr} {H : Hp} (q : tS G W call (cAsg m g) D σ H) : tAsg (tE G W call m) (tG G g) D σ H := by
  obtain ⟨s, Φ, nb, c, q⟩ := q
  refine ⟨s, Φ, c, (AftS.flow q).mono fun x s1 a1 => fun v H1 c1 => ?_⟩
  split at a1
  · rename_i s2 e2
    simp only [Option.bind_eq_some_iff] at e2
    obtain ⟨⟨o, s3⟩, e3, e4⟩ := e2
    exact ⟨s3, Φ, o, s2, nb, c1.keep e3, e4, fun σ' c' _ => a1 σ' H1 c'⟩
  · exact a1.elim
theorem s_asg {tg e : Expr} {m : E} {g : Tg} {pos : Pos} (he : PE X e (tE G W call m)) (hg : PG X tg (tG G g)) (hn : noComp e = true) (hw : swappedStores [tg] e X.env = pure none) (hp : plainT tg = true) : PS X (.Assign [tg] e pos) (tS G W call (cAsg m g)) :=
  (ps_asg he hg (noComp_sw hn) hw (by rw [asg_cons hp]; rfl)).of fun D σ H q => tAsg_of q

/-! ### several targets at once -/
def keepAll (s : S) : List R → Option (List O × S)
  | [] => some ([], s)
  | r :: rs => (keep s r).bind fun p => (keepAll p.2 rs).bind fun q => some (p.1 :: q.1, q.2)
def asgAll : List Tg → List O → S → Option S
  | [], [], s => some s
  | g :: gs, o :: os, s => (g o s).bind fun s1 => asgAll gs os s1
  | _, _, _ => none
def OwR (os : List O) (vs : List V) : List (R × V) := List.zipWith (fun o v => (R.own o, v)) os vs
theorem nob_ow : ∀ {os : List O} {vs : List V} {i : Nat} {v : V}, (R.bor i, v) ∉ OwR os vs
  | [], _, _, _ => by simp [OwR]
  | _ :: _, [], _, _ => by simp [OwR]
  | o :: os, v :: vs, i, w => by
    show (R.bor i, w) ∉ (R.own o, v) :: OwR os vs
    intro h
    rcases List.mem_cons.mp h with h | h
    · cases h
    · exact nob_ow h
theorem CfS.keepAll {σr : Sr} {H : Hp} : ∀ {rs : List R} {vs : List V} {s s' : S} {os : List O} {Φ : List (R × V)}, rs.length = vs.length → CfS G σr H s (rs.zip vs ++ Φ) → keepAll s rs = some (os, s') → os.length = vs.length ∧ CfS G σr H s' (OwR os vs ++ Φ)
  | [], [], s, s', os, Φ, _, c, e => by cases e; exact ⟨rfl, c⟩
  | r :: rs, v :: vs, s, s', os, Φ, l, c, e => by
    simp only [Mi.keepAll, Option.bind_eq_some_iff] at e
    obtain ⟨⟨o, s1⟩, e1, ⟨os', s2⟩, e2, e3⟩ := e
    cases e3
    have c1 : CfS G σr H s1 ((.own o, v) :: (rs.zip vs ++ Φ)) := CfS.keep c e1
    have c2 : CfS G σr H s1 (rs.zip vs ++ (.own o, v) :: Φ) := c1.perm List.perm_middle.symm
    obtain ⟨l3, c3⟩ := CfS.keepAll (by simpa using l) c2 e2
    exact ⟨by simp [l3], c3.perm List.perm_middle⟩
  | [], _ :: _, _, _, _, _, l, _, _ => by simp at l
  | _ :: _, [], _, _, _, _, l, _, _ => by simp at l
def tGsO (G : GE) (gs : List Tg) : TGs := fun vs σr H Q => ∃ s Φ os s', NoB Φ ∧ os.length = vs.length ∧ CfS G σr H s (OwR os vs ++ Φ) ∧ asgAll gs os s = some s' ∧ ∀ σr', CfS G σr' H s' Φ → Q σr' H
theorem gso_nil : PGs X [] (tGsO G []) := pgs_nil.of fun vs σ H Q q => by
  obtain ⟨s, Φ, os, s', nb, l, c, e, q⟩ := q
  cases os with
  | nil =>
    cases e
    have : vs = [] := List.length_eq_zero_iff.mp l.symm
    subst this
    exact ⟨rfl, q σ c⟩
  | cons d ds => cases e
theorem gso_cons {e : Expr} {es : List Expr} {g : Tg} {gs : List Tg} (h1 : PG X e (tG G g)) (h2 : PGs X es (tGsO G gs)) (hp : plainT e = true) : PGs X (e :: es) (tGsO G (g :: gs)) := by
  refine (pgs_cons h1 h2 (by rw [asg_cons hp]; rfl)).of fun vs σ H Q q => ?_
  obtain ⟨s, Φ, os, s', nb, l, c, e, q⟩ := q
  cases os with
  | nil => cases e
  | cons o os =>
    cases vs with
    | nil => simp at l
    | cons v vs =>
      simp only [asgAll, Option.bind_eq_some_iff] at e
      obtain ⟨s1, e1, e2⟩ := e
      have nb2 : NoB (OwR os vs ++ Φ) := fun i w q => by
        rcases List.mem_append.mp q with q | q
        · exact nob_ow q
        · exact nb i w q
      refine ⟨v, vs, rfl, s, OwR os vs ++ Φ, o, s1, nb2, c, e1, fun σ1 c1 _ => ?_⟩
      exact ⟨s1, Φ, os, s', nb, by simpa using l, c1, e2, q⟩
def cMul (r : AsR) (gs : List Tg) : C := fun call s => (r call s).flow fun rs s1 => if fitsB rs.length then (match (keepAll s1 rs).bind fun p => asgAll gs p.1 p.2 with
  | some s2 => .nx s2
  | none => .bad) else .bad
theorem asgAll_len : ∀ {gs : List Tg} {os : List O} {s s' : S}, asgAll gs os s = some s' → gs.length = os.length
  | [], [], _, _, _ => rfl
  | _ :: gs, _ :: os, s, s', e => by
    simp only [asgAll, Option.bind_eq_some_iff] at e
    obtain ⟨s1, e1, e2⟩ := e
    simp [asgAll_len e2]
  | [], _ :: _, _, _, e => by cases e
  | _ :: _, [], _, _, e => by cases e
/-- a tuple written, and taken apart at once -/
theorem s_mul (g : Good G k call cc W X) {ts vs : List Expr} {r : AsR} {gs : List Tg} {k1 k2 : Nat} {p1 p2 pos : Pos} (hv : PA X vs (tR G W call r)) (ht : PGs X ts (tGsO G gs)) (hp : ts.all plainT = true) (hl : ts.length = gs.length) (hw : swappedStores [.Tuple ts k1 p1] (.Tuple vs k2 p2) X.env = pure none) :
    PS X (.Assign [.Tuple ts k1 p1] (.Tuple vs k2 p2) pos) (tS G W call (cMul r gs)) := by
  refine (ps_asg (pe_tup hv) (pg_tup g.calm ht (asg_len hp).1 (asg_len hp).2) rfl hw rfl).of fun D σ H q => ?_
  obtain ⟨s, Φ, nb, c, q⟩ := q
  refine ⟨s, Φ, c, (AftS.flow q).mono fun rs s1 a1 => fun us H1 l c1 => ?_⟩
  split at a1
  · rename_i hf
    split at a1
    · rename_i s2 e2
      simp only [Option.bind_eq_some_iff] at e2
      obtain ⟨⟨os, s3⟩, e3, e4⟩ := e2
      refine ⟨by rw [← l]; exact fits hf, fun p hp => ?_⟩
      obtain ⟨lo, c3⟩ := c1.keepAll l e3
      have lg := asgAll_len e4
      refine ⟨p, us, rfl, .inl (.inl upd_same), by rw [← lo, ← lg, hl], s3, Φ, os, s2, nb, lo, ?_, e4, fun σ' c' => a1 σ' _ c'⟩
      refine ⟨c3.sl, c3.bo, ?_⟩
      obtain ⟨ρ, M, cp⟩ := c3.parts
      exact (cp.alloc hp).1.cf
    · exact a1.elim
  · exact a1.elim
/-- the compiler's own way with two names, three names -/
theorem s_par2 (g : Good G k call cc W X) {i j : Nat} {x y : Str} {a b : Expr} {r : AsR} {px py pt pt2 pos : Pos} {kt k2 : Nat} (hi : cc.N[i]? = some x) (hj : cc.N[j]? = some y) (hij : i ≠ j) (hx : cc.sc.names.lookup x = some .local) (hy : cc.sc.names.lookup y = some .local)
    (hv : PA X [a, b] (tR G W call r)) (hw : swappedStores [.Tuple [.Name x px, .Name y py] kt pt] (.Tuple [a, b] k2 pt2) X.env = pure (some [x, y])) :
    PS X (.Assign [.Tuple [.Name x px, .Name y py] kt pt] (.Tuple [a, b] k2 pt2) pos) (tS G W call (cMul r [gN i, gN j])) := by
  refine (ps_par g.calm (by rw [g.N]; exact g.nd) (by rw [g.N]; exact hi) (by rw [g.N]; exact hj) hij (by rw [g.sc]; exact hx) (by rw [g.sc]; exact hy) hv hw).of fun D σ H q => ?_
  obtain ⟨s, Φ, nb, c, q⟩ := q
  refine ⟨s, Φ, c, (AftS.flow q).mono fun rs s1 a1 => fun us H1 l c1 => ?_⟩
  split at a1
  · rename_i hf
    split at a1
    · rename_i s2 e2
      simp only [Option.bind_eq_some_iff] at e2
      obtain ⟨⟨os, s3⟩, e3, e4⟩ := e2
      obtain ⟨lo, c3⟩ := c1.keepAll l e3
      match os, us, lo with
      | [o1, o2], [u1, u2], _ =>
        refine ⟨u1, u2, rfl, ?_⟩
        simp only [asgAll, Option.bind_eq_some_iff, gN] at e4
        obtain ⟨s4, e5, s5, e6, e7⟩ := e4
        split at e5
        · rename_i h1
          cases e5
          split at e6
          · rename_i h2
            cases e6; cases e7
            have c4 : CfS G (σ.set i (some u1)) H1 ⟨s3.σ.set i (some o1), s3.h⟩ ((.own o2, u2) :: Φ) := CfS.put (noB_cons nb) c3 h1
            exact a1 _ H1 (CfS.put nb c4 h2)
          · cases e6
        · cases e5
      | [], _, z => have := asgAll_len e4; simp at this
      | [_], _, z => have := asgAll_len e4; simp at this
      | _ :: _ :: _ :: _, _, z => have := asgAll_len e4; simp at this
      | [_, _], [], z => simp at z
      | [_, _], [_], z => simp at z
      | [_, _], _ :: _ :: _ :: _, z => simp at z
    · exact a1.elim
  · exact a1.elim
theorem s_par3 (g : Good G k call cc W X) {i j n : Nat} {x y z : Str} {a b c : Expr} {r : AsR} {px py pz pt pt2 pos : Pos} {kt k2 : Nat} (hi : cc.N[i]? = some x) (hj : cc.N[j]? = some y) (hn : cc.N[n]? = some z) (hij : i ≠ j) (hin : i ≠ n) (hjn : j ≠ n) (hx : cc.sc.names.lookup x = some .local) (hy : cc.sc.names.lookup y = some .local) (hz : cc.sc.names.lookup z = some .local)
    (hv : PA X [a, b, c] (tR G W call r)) (hw : swappedStores [.Tuple [.Name x px, .Name y py, .Name z pz] kt pt] (.Tuple [a, b, c] k2 pt2) X.env = pure (some [x, y, z])) :
    PS X (.Assign [.Tuple [.Name x px, .Name y py, .Name z pz] kt pt] (.Tuple [a, b, c] k2 pt2) pos) (tS G W call (cMul r [gN i, gN j, gN n])) := by
  refine (ps_par3 g.calm (by rw [g.N]; exact g.nd) (by rw [g.N]; exact hi) (by rw [g.N]; exact hj) (by rw [g.N]; exact hn) hij hin hjn (by rw [g.sc]; exact hx) (by rw [g.sc]; exact hy) (by rw [g.sc]; exact hz) hv hw).of fun D σ H q => ?_
  obtain ⟨s, Φ, nb, c, q⟩ := q
  refine ⟨s, Φ, c, (AftS.flow q).mono fun rs s1 a1 => fun us H1 l c1 => ?_⟩
  split at a1
  · rename_i hf
    split at a1
    · rename_i s2 e2
      simp only [Option.bind_eq_some_iff] at e2
      obtain ⟨⟨os, s3⟩, e3, e4⟩ := e2
      obtain ⟨lo, c3⟩ := c1.keepAll l e3
      match os, us, lo with
      | [o1, o2, o3], [u1, u2, u3], _ =>
        refine ⟨u1, u2, u3, rfl, ?_⟩
        simp only [asgAll, Option.bind_eq_some_iff, gN] at e4
        obtain ⟨s4, e5, s5, e6, s6, e7, e8⟩ := e4
        split at e5
        · rename_i h1
          cases e5
          split at e6
          · rename_i h2
            cases e6
            split at e7
            · rename_i h3
              cases e7; cases e8
              have c4 : CfS G (σ.set i (some u1)) H1 ⟨s3.σ.set i (some o1), s3.h⟩ ((.own o2, u2) :: (.own o3, u3) :: Φ) := CfS.put (noB_cons (noB_cons nb)) c3 h1
              exact a1 _ H1 (CfS.put nb (CfS.put (noB_cons nb) c4 h2) h3)
            · cases e7
          · cases e6
        · cases e5
      | [], _, z => have := asgAll_len e4; simp at this
      | [_], _, z => have := asgAll_len e4; simp at this
      | [_, _], _, z => have := asgAll_len e4; simp at this
      | _ :: _ :: _ :: _ :: _, _, z => have := asgAll_len e4; simp at this
      | [_, _, _], [], z => simp at z
      | [_, _, _], [_], z => simp at z
      | [_, _, _], [_, _], z => simp at z
      | [_, _, _], _ :: _ :: _ :: _ :: _, z => simp at z
    · exact a1.elim
  · exact a1.elim
end
end Mi

set_option Elab.async false
set_option linter.all false
set_option maxRecDepth 100000
set_option maxHeartbeats 4000000
/-! Mi, part K: what is walked, for, while. -/
namespace Mi
open PySem PySem.Spec PyProof.Rows L2

/-- the iterator J walks ds, while K is at hand -/
def Walks (G : GE) (J : It) (K : List (R × V)) (ds : List D) : Prop := ∀ (σr : Sr) (H : Hp) (s : S) (Φ : List (R × V)), CfS G σr H s (K ++ Φ) →
  (∀ i, i < ds.length → J.go i H) ∧ (∀ i d x H', ds[i]? = some d → J.yld i H x H' → CfS G σr H' s ((.own (.fz d), x) :: (K ++ Φ))) ∧ J.stop ds.length H
abbrev Iv := Call → S → Out (List D)
def tI (G : GE) (W : WX) (call : Call) (m : Iv) : TI := fun σr H Rr => ∃ s Φ, CfS G σr H s Φ ∧ Aft G W σr Φ (fun ds s1 => ∀ K J H1, NoB K → CfS G σr H1 s1 (K ++ Φ) → Walks G J K ds → Rr J H1) (m call s)
theorem _root_.L2.PI.of {X : Cx} {tg e : Expr} {t t' : TI} (h : PI X tg e t') (i : ∀ σ H Q, t σ H Q → t' σ H Q) : PI X tg e t := ⟨fun pins s σ H Q I q => h.run pins s σ H Q I (i σ H Q q)⟩
theorem _root_.L2.PI.or {X : Cx} {tg e : Expr} {t t' : TI} (h : PI X tg e t) (h' : PI X tg e t') : PI X tg e (fun σ H R => t σ H R ∨ t' σ H R) := ⟨fun pins s σ H Q I q => by
  rcases q with q | q
  · exact h.run pins s σ H Q I q
  · exact h'.run pins s σ H Q I q⟩

/-! ### a list, a tuple, a text -/
def signs (x : Str) : List D := x.cps.toList.map fun c => .str ⟨#[c]⟩
def iterD : D → Option (List D)
  | .str x => some (signs x)
  | d => itemsD d
def iVal (m : E) : Iv := fun call s => (m call s).bind fun x s1 => match take s1 x with
  | some (d, s2) => lift s2 (iterD d)
  | none => .bad
section
variable {G : GE} {k : Nat} {call : Call} {cc : CC} {W : WX} {X : Cx}
theorem walks_list {d : D} {ds : List D} {v : V} {a : Addr} (e : listD d = some ds) (hv : v = .ref a) : Walks G (Itl G.K a) [(.own (.fz d), v)] ds := by
  intro σr H s Φ c
  subst hv
  obtain ⟨ρ, M, cp⟩ := c.parts
  have r := c.peek (r := .own (.fz d)) (v := .ref a) (d := d) (by simp) (by cases d <;> first | rfl | cases e) cp
  obtain ⟨a', vs, ea, t, rd⟩ := listD_of r e
  cases ea
  exact ⟨fun i hi => ⟨vs, vs[i]'(by rw [← rd.length]; exact hi), t, by simp⟩, fun i d' x H' ei ⟨eH, y⟩ => by
    subst eH
    have ex := y vs t
    obtain ⟨w, hw, q⟩ := rd.get ei
    rw [ex] at hw
    cases hw
    exact CfS.cpMore (K := []) c cp q, ⟨vs, t, by rw [rd.length]; exact Nat.le_refl _⟩⟩
theorem walks_tup {ds : List D} {v : V} {a : Addr} (hv : v = .ref a) : Walks G (Itt G.K a) [(.own (.fz (.tup ds)), v)] ds := by
  intro σr H s Φ c
  subst hv
  obtain ⟨ρ, M, cp⟩ := c.parts
  have r := c.peek (r := .own (.fz (.tup ds))) (v := .ref a) (d := .tup ds) (by simp) rfl cp
  obtain ⟨a', vs, ea, t0, rd⟩ := r
  have t := t0.sq
  cases ea
  exact ⟨fun i hi => ⟨vs, vs[i]'(by rw [← rd.length]; exact hi), t, by simp⟩, fun i d' x H' ei ⟨eH, y⟩ => by
    subst eH
    have ex := y vs t
    obtain ⟨w, hw, q⟩ := rd.get ei
    rw [ex] at hw
    cases hw
    exact CfS.cpMore (K := []) c cp q, ⟨vs, t, by rw [rd.length]; exact Nat.le_refl _⟩⟩
theorem walks_str {x : Str} : Walks G (Its x) [] (signs x) := by
  intro σr H s Φ c
  refine ⟨fun i hi => by simpa [signs, Its] using hi, fun i d' y H' ei ⟨eH, cp, ec, ey⟩ => ?_, by simp [signs, Its]⟩
  subst eH; subst ey
  have : d' = .str ⟨#[cp]⟩ := by
    simp only [signs, List.getElem?_map, Option.map_eq_some_iff] at ei
    obtain ⟨z, e1, e2⟩ := ei
    rw [Array.getElem?_toList, ec] at e1
    cases e1
    exact e2.symm
  subst this
  exact c.simple rfl
theorem i_val (g : Good G k call cc W X) {tg e : Expr} {m : E} (h : PE X e (tE G W call m)) : PI X tg e (tI G W call (iVal m)) := by
  refine (((pi_list h).or (pi_tup h)).or (pi_str h)).of fun σ H Q q => ?_
  obtain ⟨s, Φ, c, q⟩ := q
  have q1 := Aft.bind q
  cases em : m call s with
  | bad => rw [em] at q1; exact q1.elim
  | exc cn d s1 => exact .inl (.inl ⟨s, Φ, c, by rw [em] at q1 ⊢; exact q1⟩)
  | ok x s1 =>
    rw [em] at q1
    have q2 : Aft G W σ Φ _ (match take s1 x with
      | some (d, s2) => lift s2 (iterD d)
      | none => .bad) := q1
    split at q2
    · rename_i d s2 et
      obtain ⟨ds, ed, q3⟩ := Aft.lift q2
      cases d with
      | str z =>
        cases ed
        refine .inr ⟨s, Φ, c, ?_⟩
        rw [em]
        intro v H1 c1
        have c2 := c1.take et
        have ev : v = .str z := by obtain ⟨ρ, M, cp⟩ := c2.parts; exact c2.peek (r := .own (.fz (.str z))) (d := .str z) (by simp) rfl cp
        exact ⟨z, ev, q3 [] _ H1 (fun _ _ z => by simp at z) c2.drop walks_str⟩
      | tup ds' =>
        cases ed
        refine .inl (.inr ⟨s, Φ, c, ?_⟩)
        rw [em]
        intro v H1 c1
        have c2 := c1.take et
        obtain ⟨ρ, M, cp⟩ := c2.parts
        obtain ⟨a, vs, ea, t, rd⟩ := c2.peek (r := .own (.fz (.tup ds))) (d := .tup ds) (v := v) (by simp) rfl cp
        exact ⟨a, ea, ⟨vs, by rw [g.K]; exact t.sq⟩, by rw [g.K]; exact q3 [(.own (.fz (.tup ds)), v)] _ H1 (noB_cons fun _ _ z => by simp at z) c2 (walks_tup ea)⟩
      | lst ds' =>
        have e2 : listD (.lst ds') = some ds := ed
        refine .inl (.inl ⟨s, Φ, c, ?_⟩)
        rw [em]
        intro v H1 c1
        have c2 := c1.take et
        obtain ⟨ρ, M, cp⟩ := c2.parts
        obtain ⟨a, vs, ea, t, rd⟩ := listD_of (c2.peek (r := .own (.fz (.lst ds'))) (d := .lst ds') (v := v) (by simp) rfl cp) e2
        exact ⟨a, ea, ⟨vs, by rw [g.K]; exact t⟩, by rw [g.K]; exact q3 [(.own (.fz (.lst ds')), v)] _ H1 (noB_cons fun _ _ z => by simp at z) c2 (walks_list e2 ea)⟩
      | scr ns =>
        have e2 : listD (.scr ns) = some ds := ed
        refine .inl (.inl ⟨s, Φ, c, ?_⟩)
        rw [em]
        intro v H1 c1
        have c2 := c1.take et
        obtain ⟨ρ, M, cp⟩ := c2.parts
        obtain ⟨a, vs, ea, t, rd⟩ := listD_of (c2.peek (r := .own (.fz (.scr ns))) (d := .scr ns) (v := v) (by simp) rfl cp) e2
        exact ⟨a, ea, ⟨vs, by rw [g.K]; exact t⟩, by rw [g.K]; exact q3 [(.own (.fz (.scr ns)), v)] _ H1 (noB_cons fun _ _ z => by simp at z) c2 (walks_list e2 ea)⟩
      | non => cases ed
      | bl _ => cases ed
      | int _ => cases ed
      | dic _ _ => cases ed
      | ins _ _ _ => cases ed
      | loc _ => cases ed
      | fn _ => cases ed
      | ty _ => cases ed
      | cls _ => cases ed
    · exact q2.elim

/-! ### range -/
def rangeD (lo : Int) (n : Nat) : List D := (List.range n).map fun i => .int (lo + (i : Nat))
def smallR (i : Int) : Bool := decide (-(2 ^ 62) ≤ i) && decide (i < 2 ^ 62)
def iRg1 (r : AsR) : Iv := fun call s => (r call s).bind fun rs s1 => match peeks s1 rs with
  | some [.int j] => if smallR j then .ok (rangeD 0 j.toNat) s1 else .bad
  | _ => .bad
def iRg2 (r : AsR) : Iv := fun call s => (r call s).bind fun rs s1 => match peeks s1 rs with
  | some [.int i, .int j] => if smallR i && smallR j then .ok (rangeD i (j - i).toNat) s1 else .bad
  | _ => .bad
theorem walks_range {lo : Int} {n : Nat} : Walks G (Itr lo n) [] (rangeD lo n) := by
  intro σr H s Φ c
  refine ⟨fun i hi => by simpa [rangeD, Itr] using hi, fun i d' y H' ei ⟨eH, ey⟩ => ?_, by simp [rangeD, Itr]⟩
  subst eH; subst ey
  simp only [rangeD, List.getElem?_map, Option.map_eq_some_iff] at ei
  obtain ⟨z, e1, e2⟩ := ei
  have hz : z = i := by
    by_cases hi : i < n
    · rw [List.getElem?_range hi] at e1; cases e1; rfl
    · rw [List.getElem?_eq_none (by simpa using hi)] at e1; cases e1
  subst hz; subst e2
  exact c.simple rfl
theorem i_range1 (g : Good G k call cc W X) {tg a : Expr} {r : AsR} {p pos : Pos} (hg : cc.sc.names.lookup ("range" : Str) = some .globalImplicit) (h : PA X [a] (tR G W call r)) (hn : notStar a = true) : PI X tg (.Call (.Name "range" p) [a] [] pos) (tI G W call (iRg1 r)) := by
  refine (pi_range1 (g.gl hg) (g.blt _ (by decide)) h (star_cons hn)).of fun σ H Q q => ?_
  obtain ⟨s, Φ, c, q⟩ := q
  refine ⟨s, Φ, c, (Aft.bind q).mono fun rs s1 a1 => fun vs H1 l c1 => ?_⟩
  split at a1
  · rename_i j e
    split at a1
    · rename_i hs
      simp only [smallR, Bool.and_eq_true, decide_eq_true_eq] at hs
      obtain ⟨ρ, M, cp⟩ := c1.parts
      obtain ⟨v, rfl, r⟩ := (peeks_of c1 cp l (fun p hp => List.mem_append_left _ hp) e).one
      obtain rfl := (show v = _ from r)
      exact ⟨j, rfl, hs.1, hs.2, a1 [] _ H1 (fun _ _ z => by simp at z) c1.dropN walks_range⟩
    · exact a1.elim
  · exact a1.elim
theorem i_range2 (g : Good G k call cc W X) {tg a b : Expr} {r : AsR} {p pos : Pos} (hg : cc.sc.names.lookup ("range" : Str) = some .globalImplicit) (h : PA X [a, b] (tR G W call r)) (hn : notStar a = true) (hm : notStar b = true) : PI X tg (.Call (.Name "range" p) [a, b] [] pos) (tI G W call (iRg2 r)) := by
  refine (pi_range2 (g.gl hg) (g.blt _ (by decide)) h (by rw [star_cons hn, star_cons hm]; rfl) (star_cons hm)).of fun σ H Q q => ?_
  obtain ⟨s, Φ, c, q⟩ := q
  refine ⟨s, Φ, c, (Aft.bind q).mono fun rs s1 a1 => fun vs H1 l c1 => ?_⟩
  split at a1
  · rename_i i j e
    split at a1
    · rename_i hs
      simp only [smallR, Bool.and_eq_true, decide_eq_true_eq] at hs
      obtain ⟨ρ, M, cp⟩ := c1.parts
      obtain ⟨v, v', rfl, r, r'⟩ := (peeks_of c1 cp l (fun p hp => List.mem_append_left _ hp) e).two
      obtain rfl := (show v = _ from r); obtain rfl := (show v' = _ from r')
      exact ⟨i, j, rfl, ⟨hs.1.1, hs.1.2, hs.2.1, hs.2.2⟩, a1 [] _ H1 (fun _ _ z => by simp at z) c1.dropN walks_range⟩
    · exact a1.elim
  · exact a1.elim

/-! ### for -/
def forL (call : Call) (g : Tg) (body : C) : List D → S → Fl
  | [], s => .nx s
  | d :: ds, s => match g (.fz d) s with
    | none => .bad
    | some s1 => match body call s1 with
      | .nx s2 => forL call g body ds s2
      | .ct s2 => forL call g body ds s2
      | .bk s2 => .nx s2
      | .rt o s2 => .rt o s2
      | .exc c d s2 => .exc c d s2
      | .bad => .bad
def cFor (m : Iv) (g : Tg) (body : C) : C := fun call s => (m call s).flow fun ds s1 => forL call g body ds s1
theorem AftS.imp {Φ : List (R × V)} {D : Ends} {x : Fl} (a : AftS G W Φ D x) {K : List (R × V)} {D' : Ends} (h1 : ∀ s, x = .nx s → ∀ σ H, CfS G σ H s (K ++ Φ) → D'.nx σ H) (h2 : ∀ s, x = .bk s → ∀ σ H, CfS G σ H s (K ++ Φ) → D'.bk σ H) (h3 : ∀ s, x = .ct s → ∀ σ H, CfS G σ H s (K ++ Φ) → D'.ct σ H) (h4 : ∀ v H, D.rt v H → D'.rt v H) : AftS G W (K ++ Φ) D' x := by
  cases x with
  | nx s => exact h1 s rfl
  | bk s => exact h2 s rfl
  | ct s => exact h3 s rfl
  | rt o s => exact fun σ v H c => h4 v H (a σ v H (CfS.dropN (K := K) (c.perm List.perm_middle.symm)))
  | exc cn d s =>
    rintro σ cls dx H ⟨C, f, b, v, e1, e2, e3, e4, c5⟩
    exact a σ cls dx H ⟨C, f, b, v, e1, e2, e3, e4, CfS.dropN (K := K) (c5.perm List.perm_middle.symm)⟩
  | bad => exact a
theorem for_walk {J : It} {K Φ : List (R × V)} {ds : List D} {g : Tg} {body : C} {D : Ends} {σ : Sr} {H : Hp} {s : S} (nk : NoB K) (nb : NoB Φ) (w : Walks G J K ds) (c : CfS G σ H s (K ++ Φ)) (a : AftS G W Φ D (forL call g body ds s)) :
    ∃ Wr : Nat → Nat → Sr → Hp → Prop, (∃ m, Wr 0 m σ H) ∧ ∀ i m σ H, Wr i m σ H →
      (J.stop i H ∧ D.nx σ H) ∨ (J.go i H ∧ ∃ N : Sr → Hp → Prop, (∀ σ' H', N σ' H' → ∃ m', m' < m ∧ Wr (i + 1) m' σ' H') ∧ ∀ x H', J.yld i H x H' → tG G g x σ H' fun σ2 H2 => tS G W call body { D with nx := N, ct := N, bk := D.nx } σ2 H2) := by
  have nkb : NoB (K ++ Φ) := fun i v z => by
    rcases List.mem_append.mp z with z | z
    · exact nk i v z
    · exact nb i v z
  refine ⟨fun i m σ H => m = ds.length - i ∧ i ≤ ds.length ∧ ∃ s, CfS G σ H s (K ++ Φ) ∧ AftS G W Φ D (forL call g body (ds.drop i) s), ⟨ds.length, by simp, Nat.zero_le _, s, c, a⟩, ?_⟩
  rintro i m σ H ⟨rfl, hi, s, c, a⟩
  obtain ⟨w1, w2, w3⟩ := w σ H s Φ c
  by_cases hlt : i < ds.length
  · refine .inr ⟨w1 i hlt, fun σ' H' => ∃ s, CfS G σ' H' s (K ++ Φ) ∧ AftS G W Φ D (forL call g body (ds.drop (i + 1)) s), fun σ' H' p' => ⟨ds.length - (i + 1), by omega, rfl, hlt, p'⟩, fun x H' y => ?_⟩
    have e : ds.drop i = ds[i] :: ds.drop (i + 1) := List.drop_eq_getElem_cons hlt
    rw [e] at a
    have c1 := w2 i ds[i] x H' (by simp [hlt]) y
    simp only [forL] at a
    split at a
    · exact a.elim
    · rename_i s1 eg
      refine ⟨s, K ++ Φ, .fz ds[i], s1, nkb, c1, eg, fun σ2 c2 _ => ⟨s1, K ++ Φ, nkb, c2, ?_⟩⟩
      cases eb : body call s1 with
      | nx s2 => rw [eb] at a; exact fun σ3 H3 c3 => ⟨s2, c3, a⟩
      | ct s2 => rw [eb] at a; exact fun σ3 H3 c3 => ⟨s2, c3, a⟩
      | bk s2 => rw [eb] at a; exact fun σ3 H3 c3 => a σ3 H3 (CfS.dropN c3)
      | rt o s2 => rw [eb] at a; exact fun σ3 v H3 c3 => a σ3 v H3 (CfS.dropN (K := K) (c3.perm List.perm_middle.symm))
      | exc cn d s2 =>
        rw [eb] at a
        rintro σ3 cls dx H3 ⟨C, f, b, v, e1, e2, e3, e4, c5⟩
        exact a σ3 cls dx H3 ⟨C, f, b, v, e1, e2, e3, e4, CfS.dropN (K := K) (c5.perm List.perm_middle.symm)⟩
      | bad => rw [eb] at a; exact a
  · have e : i = ds.length := by omega
    subst e
    rw [List.drop_length] at a
    exact .inl ⟨w3, a σ H (CfS.dropN c)⟩
theorem s_for (g : Good G k call cc W X) {tg it : Expr} {b : List Stmt} {m : Iv} {t : Tg} {mb : C} {pos : Pos} (hi : PI X tg it (tI G W call m)) (hg : PG X tg (tG G t)) (hb : PSs X b (tS G W call mb)) (hs : ∀ x, foldedSetIterable it X.env x = pure x) : PS X (.For tg it b [] pos) (tS G W call (cFor m t mb)) := by
  refine (ps_for g.po g.calm hi hg hb hs).of fun D σ H q => ?_
  obtain ⟨s, Φ, nb, c, q⟩ := q
  exact ⟨s, Φ, c, (AftS.flow q).mono fun ds s1 a1 => fun K J H1 nk c1 w => for_walk nk nb w c1 a1⟩

/-! ### while: with a number of turns -/
def whL (call : Call) (c : B) (body : C) : Nat → S → Fl
  | 0, _ => .bad
  | n + 1, s => match c call s with
    | .ok false s1 => .nx s1
    | .ok true s1 => (match body call s1 with
      | .nx s2 => whL call c body n s2
      | .ct s2 => whL call c body n s2
      | .bk s2 => .nx s2
      | .rt o s2 => .rt o s2
      | .exc c d s2 => .exc c d s2
      | .bad => .bad)
    | .exc c d s1 => .exc c d s1
    | .bad => .bad
def cWhile (c : B) (body : C) : C := fun call s => whL call c body 100000 s
theorem s_while (g : Good G k call cc W X) {e : Expr} {b : List Stmt} {mc : B} {mb : C} {pos : Pos} (hc : PT X e (tB_ G W call mc)) (hb : PSs X b (tS G W call mb)) : PS X (.While e b [] pos) (tS G W call (cWhile mc mb)) := by
  refine (ps_while g.po hc hb).of fun D σ H q => ?_
  obtain ⟨s, Φ, nb, c, q⟩ := q
  refine ⟨fun m σ H => ∃ s, CfS G σ H s Φ ∧ AftS G W Φ D (whL call mc mb m s), ⟨100000, s, c, q⟩, ?_⟩
  rintro m σ H ⟨s, c, a⟩
  cases m with
  | zero => exact a.elim
  | succ m =>
    simp only [whL] at a
    refine ⟨s, Φ, c, ?_⟩
    split at a
    · rename_i s1 e1
      rw [e1]
      exact fun H1 c1 => iteF (a σ H1 c1)
    · rename_i s1 e1
      rw [e1]
      refine fun H1 c1 => iteT ⟨fun σ' H' => ∃ s, CfS G σ' H' s Φ ∧ AftS G W Φ D (whL call mc mb m s), fun σ' H' p' => ⟨m, Nat.lt_succ_self _, p'⟩, s1, Φ, nb, c1, ?_⟩
      cases eb : mb call s1 with
      | nx s2 => rw [eb] at a; exact fun σ3 H3 c3 => ⟨s2, c3, a⟩
      | ct s2 => rw [eb] at a; exact fun σ3 H3 c3 => ⟨s2, c3, a⟩
      | bk s2 => rw [eb] at a; exact fun σ3 H3 c3 => a σ3 H3 c3
      | rt o s2 => rw [eb] at a; exact fun σ3 v H3 c3 => a σ3 v H3 c3
      | exc cn d s2 => rw [eb] at a; exact fun σ3 cls dx H3 q => a σ3 cls dx H3 q
      | bad => rw [eb] at a; exact a
    · rename_i cn d s1 e1
      rw [e1]
      exact fun cls dx H1 q => a σ cls dx H1 q
    · exact a.elim
end
end Mi

set_option Elab.async false
set_option linter.all false
set_option maxRecDepth 100000
set_option maxHeartbeats 4000000
/-! Mi, part L: list comprehensions. -/
namespace Mi
open PySem PySem.Spec PyProof.Rows L2

/-- the slots outside vs are the same -/
def Agree (vs : List Nat) (σ σ' : Sr) : Prop := σ'.length = σ.length ∧ ∀ (i : Nat), i ∉ vs → σ'[i]? = σ[i]?
theorem wipe_at {σ : Sr} {i : Nat} : ∀ {vs : List Nat}, i ∈ vs → i < σ.length → (wipe σ vs)[i]? = some none
  | v :: vs, h, hl => by
    rw [wipe]
    by_cases e : v = i
    · subst e
      rw [List.getElem?_set]
      simp [wipe_length, hl]
    · rw [List.getElem?_set_ne e]
      exact wipe_at (by rcases List.mem_cons.mp h with z | z; exact absurd z.symm e; exact z) hl
theorem Agree.wipe {vs : List Nat} {σ σ' : Sr} (a : Agree vs σ σ') : L2.wipe σ' vs = L2.wipe σ vs := by
  refine List.ext_getElem? fun i => ?_
  by_cases hi : i ∈ vs
  · by_cases hl : i < σ.length
    · rw [wipe_at hi hl, wipe_at hi (by rw [a.1]; exact hl)]
    · rw [List.getElem?_eq_none (by rw [wipe_length, a.1]; omega), List.getElem?_eq_none (by rw [wipe_length]; omega)]
  · rw [wipe_out hi, wipe_out hi, a.2 i hi]
theorem Agree.refl (vs : List Nat) (σ : Sr) : Agree vs σ σ := ⟨rfl, fun _ _ => rfl⟩
theorem Agree.trans {vs : List Nat} {σ σ' σ'' : Sr} (a : Agree vs σ σ') (b : Agree vs σ' σ'') : Agree vs σ σ'' := ⟨b.1.trans a.1, fun i hi => (b.2 i hi).trans (a.2 i hi)⟩
theorem Agree.set {vs : List Nat} {σ : Sr} {i : Nat} {v : Option V} (h : i ∈ vs) : Agree vs σ (σ.set i v) := ⟨by simp, fun j hj => by rw [List.getElem?_set_ne fun z : i = j => hj (by rw [← z]; exact h)]⟩
theorem wipe_wipe {σ : Sr} {vs : List Nat} : L2.wipe (L2.wipe σ vs) vs = L2.wipe σ vs := Agree.wipe (σ := σ) ⟨wipe_length σ vs, fun i hi => wipe_out hi⟩

def tGA (G : GE) (vs : List Nat) (g : Tg) : TG := fun v σr H Q => ∃ s Φ o s', NoB Φ ∧ CfS G σr H s ((.own o, v) :: Φ) ∧ g o s = some s' ∧ ∀ σr', CfS G σr' H s' Φ → Agree vs σr σr' → Q σr' H
def tGAs (G : GE) (vs : List Nat) (g : Tgs) : TGs := fun us σr H Q => ∃ s Φ ds s', NoB Φ ∧ ds.length = us.length ∧ CfS G σr H s (FzR ds us ++ Φ) ∧ g ds s = some s' ∧ ∀ σr', CfS G σr' H s' Φ → Agree vs σr σr' → Q σr' H
abbrev noW : WX := fun _ _ _ _ => False
section
variable {G : GE} {k : Nat} {call : Call} {cc : CC} {W : WX} {X : Cx} {vs : List Nat}
theorem ga_name (g : Good G k call cc W X) {i : Nat} {x : Str} {pos : Pos} (hi : cc.N[i]? = some x) (hx : cc.sc.names.lookup x = some .local) (hv : i ∈ vs) : PG X (.Name x pos) (tGA G vs (gN i)) := by
  refine (pg_name (by rw [g.N]; exact g.nd) (by rw [g.N]; exact hi) (by rw [g.sc]; exact .inl hx) (.inr (by rw [g.sc]; exact hx))).of fun v σ H Q q => ?_
  obtain ⟨s, Φ, o, s', nb, c, e, q⟩ := q
  simp only [gN] at e
  split at e
  · rename_i hl
    cases e
    exact q _ (c.put nb hl) (Agree.set hv)
  · cases e
theorem gas_nil : PGs X [] (tGAs G vs gsNil) := pgs_nil.of fun us σ H Q q => by
  obtain ⟨s, Φ, ds, s', nb, l, c, e, q⟩ := q
  cases ds with
  | nil =>
    cases e
    have : us = [] := List.length_eq_zero_iff.mp l.symm
    subst this
    exact ⟨rfl, q σ c (Agree.refl _ _)⟩
  | cons d ds => cases e
theorem gas_cons {e : Expr} {es : List Expr} {g : Tg} {r : Tgs} (h1 : PG X e (tGA G vs g)) (h2 : PGs X es (tGAs G vs r)) (hp : plainT e = true) : PGs X (e :: es) (tGAs G vs (gsCons g r)) := by
  refine (pgs_cons h1 h2 (by rw [asg_cons hp]; rfl)).of fun us σ H Q q => ?_
  obtain ⟨s, Φ, ds, s', nb, l, c, e, q⟩ := q
  cases ds with
  | nil => cases e
  | cons d ds =>
    cases us with
    | nil => simp at l
    | cons v us =>
      simp only [gsCons, Option.bind_eq_some_iff] at e
      obtain ⟨s1, e1, e2⟩ := e
      refine ⟨v, us, rfl, s, FzR ds us ++ Φ, .fz d, s1, noB_fz nb, c, e1, fun σ1 c1 l1 => ?_⟩
      exact ⟨s1, Φ, ds, s', nb, by simpa using l, c1, e2, fun σ2 c2 l2 => q σ2 c2 (l1.trans l2)⟩
theorem ga_tup (g : Good G k call cc W X) {es : List Expr} {r : Tgs} {n : Nat} {pos : Pos} (h : PGs X es (tGAs G vs r)) (hp : es.all plainT = true) : PG X (.Tuple es n pos) (tGA G vs (gT es.length r)) := by
  refine ((pg_tup g.calm h (asg_len hp).1 (asg_len hp).2).or (pg_lst g.calm h (asg_len hp).1 (asg_len hp).2)).of fun v σ H Q q => ?_
  obtain ⟨s, Φ, o, s', nb, c, e, q⟩ := q
  have cf : Cf G H s.h ((o, v) :: (slp s.σ σ ++ ow Φ)) := c.cf.perm List.perm_middle
  unfold gT at e
  split at e
  · rename_i ds
    split at e
    · rename_i hl
      obtain ⟨a, us, rfl, t, l, z⟩ := Cf.tupF cf
      exact .inl ⟨a, us, rfl, by rw [g.K]; exact t, by rw [← l, hl], s, Φ, ds, s', nb, l, CfS.spread c.drop nb z, e, q⟩
    · cases e
  · rename_i ds
    split at e
    · rename_i hl
      obtain ⟨a, us, rfl, t, l, z⟩ := Cf.lstF cf
      exact .inr ⟨a, us, rfl, .inl (.inl t), by rw [← l, hl], s, Φ, ds, s', nb, l, CfS.spread c.drop nb z, e, q⟩
    · cases e
  · rename_i ds
    split at e
    · rename_i hl
      obtain ⟨a, us, rfl, t, l, z⟩ := Cf.lst cf
      exact .inr ⟨a, us, rfl, .inl (.inl t), by rw [← l, hl], s, Φ, ds, s', nb, l, CfS.spread c.drop nb (Cf.rot z), e, q⟩
    · cases e
  · cases e

/-! ### the loop -/
def lcL (call : Call) (g : Tg) (tt : B) (te : E) (vs : List Nat) : List D → List D → S → Out (List D)
  | [], acc, s => .ok acc s
  | d :: ds, acc, s => match g (.fz d) s with
    | none => .bad
    | some s1 => match tt call s1 with
      | .ok true s2 => (match te call s2 with
        | .ok x s3 => (match take s3 x with
          | some (y, s4) => if fitsB (acc.length + 1) then lcL call g tt te vs ds (acc ++ [y]) ⟨wipeO s4.σ vs, s4.h⟩ else .bad
          | none => .bad)
        | _ => .bad)
      | .ok false s2 => lcL call g tt te vs ds acc ⟨wipeO s2.σ vs, s2.h⟩
      | _ => .bad
def mLc (m : Iv) (g : Tg) (tt : B) (te : E) (vs : List Nat) : E := fun call s => (m call s).bind fun ds s1 => match lcL call g tt te vs ds [] ⟨wipeO s1.σ vs, s1.h⟩ with
  | .ok acc s2 => .ok (.own (.lst acc)) ⟨rst s2.σ s1.σ vs, s2.h⟩
  | _ => .bad
def ownR (Z : List (O × V)) : List (R × V) := Z.map fun p => (R.own p.1, p.2)
theorem ow_ownR : ∀ Z, ow (ownR Z) = Z
  | [] => rfl
  | (o, v) :: Z => by show (o, v) :: ow (ownR Z) = _; rw [ow_ownR Z]
theorem nob_ownR {Z : List (O × V)} : NoB (ownR Z) := fun i v h => by
  simp only [ownR, List.mem_map] at h
  obtain ⟨p, _, e⟩ := h
  cases e
theorem noB_app {Φ Ψ : List (R × V)} (a : NoB Φ) (b : NoB Ψ) : NoB (Φ ++ Ψ) := fun i v z => by
  rcases List.mem_append.mp z with z | z
  · exact a i v z
  · exact b i v z
/-- the slots at vs are forgotten -/
theorem CfS.wipe {σr : Sr} {H : Hp} {s : S} {Φ : List (R × V)} (nb : NoB Φ) (c : CfS G σr H s Φ) (vs : List Nat) : CfS G (L2.wipe σr vs) H ⟨wipeO s.σ vs, s.h⟩ Φ := by
  obtain ⟨Z, p1, ok, _⟩ := slp_wipe c.sl vs
  refine ⟨ok, fun i v z => absurd z (nb i v), ?_⟩
  have cf := c.cf.perm (p1.append_right (ow Φ))
  have c2 : Cf G H s.h (Z ++ (slp (wipeO s.σ vs) (L2.wipe σr vs) ++ ow Φ)) := cf.perm (by
    rw [List.append_assoc]
    exact List.perm_append_comm_assoc _ _ _)
  exact Cf.dropN c2
theorem CfS.append {σr : Sr} {H : Hp} {s : S} {Φ : List (R × V)} {acc : List D} {d : D} {p : Addr} {y : V} (c : CfS G σr H s ((.own (.fz d), y) :: (.own (.lst acc), .ref p) :: Φ)) :
    ∃ us, H p = some (.lst us) ∧ us.length = acc.length ∧ CfS G σr (upd H p (.lst (us ++ [y]))) s ((.own (.lst (acc ++ [d])), .ref p) :: Φ) := by
  have cf : Cf G H s.h ((.lst acc, .ref p) :: (.fz d, y) :: (slp s.σ σr ++ ow Φ)) := c.cf.perm (by
    refine (List.perm_middle).trans ?_
    refine (List.Perm.cons _ List.perm_middle).trans (.swap _ _ _))
  obtain ⟨a, us, ea, t, l, z⟩ := Cf.lst cf
  cases ea
  refine ⟨us, t, l.symm, c.sl, fun i v q => ?_, ?_⟩
  · rcases List.mem_cons.mp q with q | q
    · cases q
    · exact c.bo i v (by simp [q])
  · have z2 : Cf G H s.h ((.lst acc, .ref p) :: (Fz (acc ++ [d]) (us ++ [y]) ++ (slp s.σ σr ++ ow Φ))) := by
      rw [Fz_append l, List.append_assoc]
      exact z
    exact (z2.change (ho := .lst (us ++ [y])) (o' := .lst (acc ++ [d])) (by simp [l]) (fun _ h => by cases h) fun ρ M H' e r => ⟨p, _, rfl, e, r, rfl⟩).perm List.perm_middle.symm
theorem lc_walk {J : It} {K Φ : List (R × V)} {ds : List D} {g : Tg} {tt : B} {te : E} {σ : Sr} {H1 : Hp} {s1 : S} {Q : VK} {Dd : Addr} (nk : NoB K) (bo : ∀ i v, (R.bor i, v) ∈ Φ → σ[i]? = some (some v)) (w : Walks G J K ds) (c : CfS G σ H1 s1 (K ++ Φ)) (hD : H1 Dd = none)
    (a : Aft G W σ Φ (PV G σ Φ Q) (match lcL call g tt te vs ds [] ⟨wipeO s1.σ vs, s1.h⟩ with
      | .ok acc s2 => .ok (.own (.lst acc)) ⟨rst s2.σ s1.σ vs, s2.h⟩
      | _ => .bad)) :
    ∃ Wr : Nat → Nat → Hp → Prop, (∃ m, Wr 0 m (upd H1 Dd (.lst []))) ∧ ∀ i m H, Wr i m H →
      (J.stop i H ∧ Q (.ref Dd) H) ∨ (J.go i H ∧ ∃ Nx : Hp → Prop, (∀ H', Nx H' → ∃ m', m' < m ∧ Wr (i + 1) m' H') ∧ ∀ x H', J.yld i H x H' → tGA G vs g x (L2.wipe σ vs) H' fun σ2 H2 => L2.wipe σ2 vs = L2.wipe σ vs ∧ tB_ G noW call tt σ2 H2 fun b H3 =>
        if b = true then tE G noW call te σ2 H3 fun y H4 => ∃ acc, H4 Dd = some (.lst acc) ∧ acc.length < sizeLine ∧ Nx (upd H4 Dd (.lst (acc ++ [y]))) else Nx H3) := by
  obtain ⟨Z, p1, ok, back⟩ := slp_wipe c.sl vs
  -- what is at hand in the block
  let Ψ := K ++ (ownR Z ++ ownR (ow Φ))
  have nΨ : NoB Ψ := noB_app nk (noB_app nob_ownR nob_ownR)
  let St : List D → S → Hp → Prop := fun acc s H => CfS G (L2.wipe σ vs) H s ((.own (.lst acc), .ref Dd) :: Ψ)
  let Fin : List D → List D → S → Prop := fun rest acc s => Aft G W σ Φ (PV G σ Φ Q) (match lcL call g tt te vs rest acc s with
      | .ok acc s2 => .ok (.own (.lst acc)) ⟨rst s2.σ s1.σ vs, s2.h⟩
      | _ => .bad)
  have st0 : St [] ⟨wipeO s1.σ vs, s1.h⟩ (upd H1 Dd (.lst [])) := by
    refine ⟨ok, fun i v z => absurd z (noB_cons nΨ i v), ?_⟩
    have cf := c.cf.perm (p1.append_right (ow (K ++ Φ)))
    have cf2 : Cf G H1 s1.h (Fz [] [] ++ (slp (wipeO s1.σ vs) (L2.wipe σ vs) ++ ow Ψ)) := cf.perm (by
      show List.Perm _ (slp (wipeO s1.σ vs) (L2.wipe σ vs) ++ ow Ψ)
      simp only [Ψ, ow_append, ow_ownR, List.append_assoc]
      exact List.Perm.append_left _ (List.perm_append_comm_assoc _ _ _))
    exact (Cf.newLst rfl cf2 hD).perm List.perm_middle.symm
  refine ⟨fun i m H => m = ds.length - i ∧ i ≤ ds.length ∧ ∃ acc s, St acc s H ∧ Fin (ds.drop i) acc s, ⟨ds.length, by simp, Nat.zero_le _, [], _, st0, a⟩, ?_⟩
  rintro i m H ⟨rfl, hi, acc, s, c, a⟩
  have cK : CfS G (L2.wipe σ vs) H s (K ++ ((.own (.lst acc), .ref Dd) :: (ownR Z ++ ownR (ow Φ)))) := c.perm List.perm_middle.symm
  obtain ⟨w1, w2, w3⟩ := w _ H s _ cK
  by_cases hlt : i < ds.length
  · refine .inr ⟨w1 i hlt, fun H' => ∃ acc s, St acc s H' ∧ Fin (ds.drop (i + 1)) acc s, fun H' p' => ⟨ds.length - (i + 1), by omega, rfl, hlt, p'⟩, fun x H' y => ?_⟩
    have e : ds.drop i = ds[i] :: ds.drop (i + 1) := List.drop_eq_getElem_cons hlt
    have a' : Fin (ds[i] :: ds.drop (i + 1)) acc s := by rw [← e]; exact a
    have c1 := w2 i ds[i] x H' (by simp [hlt]) y
    have c1' : CfS G (L2.wipe σ vs) H' s ((.own (.fz ds[i]), x) :: ((.own (.lst acc), .ref Dd) :: Ψ)) := c1.perm (List.Perm.cons _ List.perm_middle)
    simp only [Fin, lcL] at a'
    cases eg : g (.fz ds[i]) s with
    | none => simp only [eg] at a'; exact a'.elim
    | some s2 =>
      simp only [eg] at a'
      refine ⟨s, _, .fz ds[i], s2, noB_cons nΨ, c1', eg, fun σ2 c2 ag => ?_⟩
      have ew : L2.wipe σ2 vs = L2.wipe σ vs := by rw [ag.wipe, wipe_wipe]
      refine ⟨ew, s2, _, c2, ?_⟩
      cases et : tt call s2 with
      | bad => simp only [et] at a'; exact a'.elim
      | exc cn d s3 => simp only [et] at a'; exact a'.elim
      | ok b s3 =>
        cases b with
        | false =>
          simp only [et] at a'
          exact fun H3 c3 => iteF ⟨acc, _, by have := c3.wipe (noB_cons nΨ) vs; rw [ew] at this; exact this, a'⟩
        | true =>
          simp only [et] at a'
          intro H3 c3
          refine iteT ⟨s3, _, c3, ?_⟩
          cases ee : te call s3 with
          | bad => simp only [ee] at a'; exact a'.elim
          | exc cn d s4 => simp only [ee] at a'; exact a'.elim
          | ok r s4 =>
            simp only [ee] at a'
            intro yv H4 c4
            cases ek : take s4 r with
            | none => simp only [ek] at a'; exact a'.elim
            | some q =>
              obtain ⟨d, s5⟩ := q
              simp only [ek] at a'
              by_cases hf : fitsB (acc.length + 1) = true
              · rw [if_pos hf] at a'
                have c5 := c4.take ek
                obtain ⟨us, t, l, c6⟩ := c5.append
                refine ⟨us, t, ?_, acc ++ [d], ⟨wipeO s5.σ vs, s5.h⟩, ?_, a'⟩
                · rw [l]
                  exact Nat.lt_of_succ_le (fits hf)
                · have := c6.wipe (noB_cons nΨ) vs
                  rw [ew] at this
                  exact this
              · rw [if_neg hf] at a'
                exact a'.elim
  · have e : i = ds.length := by omega
    subst e
    have a' : Fin [] acc s := by have := a; rw [List.drop_length] at this; exact this
    refine .inl ⟨w3, a' (.ref Dd) H ?_⟩
    obtain ⟨p2, ok2⟩ := back s.σ c.sl
    refine ⟨ok2, fun j v z => ?_, ?_⟩
    · rcases List.mem_cons.mp z with z | z
      · cases z
      · exact bo j v z
    · have cf : Cf G H s.h (slp s.σ (L2.wipe σ vs) ++ (.lst acc, .ref Dd) :: ow Ψ) := c.cf
      have cf2 : Cf G H s.h (ow K ++ (slp (rst s.σ s1.σ vs) σ ++ (.lst acc, .ref Dd) :: ow Φ)) := cf.perm (by
        simp only [Ψ, ow_append, ow_ownR]
        refine List.perm_middle.trans ?_
        refine List.Perm.trans (List.Perm.cons _ ?_) (((List.perm_middle).append_left (ow K)).trans List.perm_middle).symm
        refine (List.perm_append_comm_assoc _ _ _).trans (List.Perm.append_left _ ?_)
        rw [← List.append_assoc]
        exact p2.symm.append_right _)
      exact Cf.dropN cf2
/-- [elt for tg in it if c] -/
theorem e_lc (g : Good G k call cc W X) {elt tg it : Expr} {ifs : List Expr} {scope : Scope} {own : List (Str × Nat)} {pos : Pos} {m : Iv} {t : Tg} {mt : B} {me : E} (hi : PI X tg it (tI G W call m)) (ok : BlkOk cc.N cc.sc scope own)
    (hg : ∀ (s : Shared) (H : Hp) (C : Addr) (cl : List (Str × Addr)) (fp : List Addr), PG (X.blk s H scope (compEnvC scope cl C X.env) fp) tg (tGA G (own.map (·.2)) t))
    (ht : ∀ (s : Shared) (H : Hp) (C : Addr) (cl : List (Str × Addr)) (fp : List Addr), PTs (X.blk s H scope (compEnvC scope cl C X.env) fp) ifs (tB_ G noW call mt))
    (he : ∀ (s : Shared) (H : Hp) (C : Addr) (cl : List (Str × Addr)) (fp : List Addr), PE (X.blk s H scope (compEnvC scope cl C X.env) fp) elt (tE G noW call me)) (hs : ∀ x, foldedSetIterable it X.env x = pure x) :
    PE X (.ListComp elt [⟨tg, it, ifs, 0⟩] scope pos) (tE G W call (mLc m t mt me (own.map (·.2)))) := by
  refine (pe_lc g.calm (by rw [g.N]; exact g.nd) hi (by rw [g.N, g.sc]; exact ok) hg ht he hs).of fun σ H Q q => ?_
  obtain ⟨s, Φ, c, q⟩ := q
  exact ⟨s, Φ, c, (Aft.bind q).mono fun ds s1 a1 => fun K J H1 nk c1 w => fun Dd hD => lc_walk nk c.bo w c1 hD a1⟩
/-- y = [elt for tg in it if c] in the compiler's own way -/
theorem s_setLc (g : Good G k call cc W X) {i : Nat} {y : Str} {py : Pos} {elt tg it : Expr} {ifs : List Expr} {scope : Scope} {own : List (Str × Nat)} {pos spos : Pos} {m : Iv} {t : Tg} {mt : B} {me : E} (hy : cc.N[i]? = some y) (hyl : cc.sc.names.lookup y = some .local) (hk : cc.sc.kind = .function)
    (hl : (py.line == pos.line) = true) (ha : (scope.names.any fun (n, k) => n == y && (k == .local || k == .cell)) = false) (hi : PI X tg it (tI G W call m)) (ok : BlkOk cc.N cc.sc scope own)
    (hg : ∀ (s : Shared) (H : Hp) (C : Addr) (cl : List (Str × Addr)) (fp : List Addr), PG (X.blk s H scope (compEnvC scope cl C X.env) fp) tg (tGA G (own.map (·.2)) t))
    (ht : ∀ (s : Shared) (H : Hp) (C : Addr) (cl : List (Str × Addr)) (fp : List Addr), PTs (X.blk s H scope (compEnvC scope cl C X.env) fp) ifs (tB_ G noW call mt))
    (he : ∀ (s : Shared) (H : Hp) (C : Addr) (cl : List (Str × Addr)) (fp : List Addr), PE (X.blk s H scope (compEnvC scope cl C X.env) fp) elt (tE G noW call me)) (hs : ∀ x, foldedSetIterable it X.env x = pure x) :
    PS X (.Assign [.Name y py] (.ListComp elt [⟨tg, it, ifs, 0⟩] scope pos) spos) (tS G W call (cAsg (mLc m t mt me (own.map (·.2))) (gN i))) := by
  refine (ps_setLc (i := i) g.calm (by rw [g.N]; exact g.nd) (by rw [g.N]; exact hy) (by rw [g.sc]; exact hyl) (sw_true (by rw [g.sc]; exact hk) (by rw [g.sc]; exact hyl) hl ha) hi (by rw [g.N, g.sc]; exact ok) hg ht he hs).of fun D σ H q => ?_
  have q2 := tAsg_of q
  obtain ⟨s, Φ, c, q3⟩ := q2
  refine ⟨s, Φ, c, (Aft.bind q3).mono fun ds s1 a1 => fun K J H1 nk c1 w => fun Dd hD => lc_walk (Q := fun x H1 => gName i x σ H1 D.nx) nk c.bo w c1 hD (a1.mono fun r s2 p => fun v H2 c2 => ?_)⟩
  have q4 := p v H2 c2
  obtain ⟨s5, Φ5, o5, s6, nb5, c5, e5, q5⟩ := q4
  simp only [gN] at e5
  split at e5
  · rename_i hl5
    cases e5
    exact q5 _ (c5.put nb5 hl5) (by simp)
  · cases e5
end
end Mi

set_option Elab.async false
set_option linter.all false
set_option maxRecDepth 100000
set_option maxHeartbeats 4000000
/-! Mi, part M: lists that are changed. -/
namespace Mi
open PySem PySem.Spec PyProof.Rows L2

/-- the list in a slot or in a cell -/
def mutD (h : List O) (f : List D → Option (List D)) : D → Option (List O)
  | .loc n => match h[n]? with
    | some (.lst ds) => (f ds).map fun ds' => h.set n (.lst ds')
    | _ => none
  | _ => none
def mutL (s : S) (f : List D → Option (List D)) : R → Option S
  | .own (.fz d) => (mutD s.h f d).map fun h => ⟨s.σ, h⟩
  | .own _ => none
  | .bor i => match s.σ[i]? with
    | some (some (.lst ds)) => (f ds).map fun ds' => ⟨s.σ.set i (some (.lst ds')), s.h⟩
    | some (some (.fz d)) => (mutD s.h f d).map fun h => ⟨s.σ, h⟩
    | _ => none
/-- its contents, as a reader sees them -/
def seeL (s : S) (r : R) : Option (List D) := match peek s r with
  | some (.lst ds) => some ds
  | _ => none
section
variable {G : GE} {k : Nat} {call : Call} {cc : CC} {W : WX} {X : Cx}
/-- a cell is changed -/
theorem Cf.mutCell {H : Hp} {h h' : List O} {L : List (O × V)} {f : List D → Option (List D)} {d : D} {v : V} (c : Cf G H h L) (hm : (O.fz d, v) ∈ L) (e : mutD h f d = some h') : ∃ p us ds ds', v = .ref p ∧ H p = some (.lst us) ∧ f ds = some ds' ∧ deref h d = some (.lst ds) ∧ ds.length = us.length ∧
    ∀ us' es ys K, es.length = ys.length → L.Perm (Fz es ys ++ K) → (∀ ρ H' M, RepDs G ρ H' M ds us → RepDs G ρ H' M es ys → RepDs G ρ H' M ds' us') → Cf G (upd H p (.lst us')) h' K := by
  unfold mutD at e
  split at e
  · rename_i n
    split at e
    · rename_i ds hn
      simp only [Option.map_eq_some_iff] at e
      obtain ⟨ds', ef, eh⟩ := e
      subst eh
      obtain ⟨X, Y, eL⟩ := List.append_of_mem hm
      have c1 : Cf G H h ((.fz (.loc n), v) :: L) := by
        have : Cf G H h ((.fz (.loc n), v) :: (X ++ Y)) := c.perm (by rw [eL]; exact List.perm_middle)
        exact this.dup.perm (List.Perm.cons _ (by rw [eL]; exact List.perm_middle.symm))
      obtain ⟨p, us, ev, t, l, c2⟩ := Cf.cellLst c1 hn
      subst ev
      refine ⟨p, us, ds, ds', rfl, t, ef, by simp [deref, hn, Mi.frz], l, fun us' es ys K le pm rep => ?_⟩
      have c3 : Cf G H h (Fz ds us ++ (.fz (.loc n), .ref p) :: (Fz es ys ++ K)) := c2.perm (List.Perm.append_left _ (List.Perm.cons _ pm))
      have c4 : Cf G H h (Fz (ds ++ es) (us ++ ys) ++ (.fz (.loc n), .ref p) :: K) := by
        rw [Fz_append l, List.append_assoc]
        exact c3.perm (List.Perm.append_left _ List.perm_middle.symm)
      have hlen : (ds ++ es).length = (us ++ ys).length := by simp [l, le]
      exact (Cf.putCell (o' := .lst ds') (ho := .lst us') hlen c4 hn (fun _ z => by cases z) fun ρ M H' e r => by
        have r1 : RepDs G ρ H' M ds us := by have := RepDs.take ds.length r; rw [List.take_left, l, List.take_left] at this; exact this
        have r2 : RepDs G ρ H' M es ys := by have := RepDs.drop ds.length r; rw [List.drop_left, l, List.drop_left] at this; exact this
        exact ⟨p, us', rfl, e, rep ρ H' M r1 r2, rfl⟩).drop
    · cases e
  · cases e
theorem CfS.mutate {σr : Sr} {H : Hp} {s s' : S} {Φ : List (R × V)} {f : List D → Option (List D)} {r : R} {v : V} {es : List D} {ys : List V} (le : es.length = ys.length) (c : CfS G σr H s (FzR es ys ++ ((r, v) :: Φ))) (e : mutL s f r = some s') :
    ∃ p us ds ds', v = .ref p ∧ H p = some (.lst us) ∧ f ds = some ds' ∧ seeL s r = some ds ∧ ds.length = us.length ∧
      ∀ us', (∀ ρ H' M, RepDs G ρ H' M ds us → RepDs G ρ H' M es ys → RepDs G ρ H' M ds' us') → CfS G σr (upd H p (.lst us')) s' Φ := by
  have bo : ∀ i w, (R.bor i, w) ∈ Φ → σr[i]? = some (some w) := fun i w q => c.bo i w (List.mem_append_right _ (List.mem_cons_of_mem _ q))
  have cell : ∀ (d : D) (h' : List O), (O.fz d, v) ∈ slp s.σ σr ++ ow (FzR es ys ++ ((r, v) :: Φ)) → mutD s.h f d = some h' → s' = ⟨s.σ, h'⟩ → (∃ x, ow ((r, v) :: Φ) = x ++ ow Φ) → (∀ ds, deref s.h d = some (.lst ds) → seeL s r = some ds) →
      ∃ p us ds ds', v = .ref p ∧ H p = some (.lst us) ∧ f ds = some ds' ∧ seeL s r = some ds ∧ ds.length = us.length ∧
      ∀ us', (∀ ρ H' M, RepDs G ρ H' M ds us → RepDs G ρ H' M es ys → RepDs G ρ H' M ds' us') → CfS G σr (upd H p (.lst us')) s' Φ := by
    intro d h' hm em es' ⟨x, hx⟩ hsee
    obtain ⟨p, us, ds, ds', ev, t, ef, ed, l, q⟩ := Cf.mutCell c.cf hm em
    refine ⟨p, us, ds, ds', ev, t, ef, hsee ds ed, l, fun us' rep => ?_⟩
    subst es'
    have := q us' es ys (slp s.σ σr ++ ow ((r, v) :: Φ)) le (by
      rw [ow_append, ow_fz]
      exact List.perm_append_comm_assoc _ _ _) rep
    refine ⟨c.sl, bo, ?_⟩
    rw [hx] at this
    exact Cf.dropN (K := x) (this.perm (List.perm_append_comm_assoc _ _ _))
  cases r with
  | own o =>
    cases o with
    | fz d =>
      simp only [mutL, Option.map_eq_some_iff] at e
      obtain ⟨h', em, eh⟩ := e
      refine cell d h' (List.mem_append_right _ ?_) em eh.symm ⟨[(.fz d, v)], rfl⟩ (fun ds q => by simp [Mi.seeL, Mi.peek, Mi.frz, q])
      rw [ow_append]
      exact List.mem_append_right _ (by simp [ow])
    | lst ds => cases e
    | dic ks ds => cases e
    | ins cn fs ds => cases e
  | bor i =>
    have ev : σr[i]? = some (some v) := c.bo i v (by simp)
    simp only [mutL] at e
    split at e
    · rename_i ds es1
      simp only [Option.map_eq_some_iff] at e
      obtain ⟨ds', ef, eh⟩ := e
      subst eh
      obtain ⟨X, Y, q1, q2⟩ := slp_at es1 ev
      have cf : Cf G H s.h (slp s.σ σr ++ ow (FzR es ys ++ Φ)) := by
        have := c.cf
        rw [ow_append] at this ⊢
        exact this
      rw [q1, ow_append, ow_fz] at cf
      have c1 : Cf G H s.h ((.lst ds, v) :: (Fz es ys ++ (X ++ Y ++ ow Φ))) := cf.perm (by
        have e1 : X ++ (O.lst ds, v) :: Y ++ (Fz es ys ++ ow Φ) = X ++ (O.lst ds, v) :: (Y ++ (Fz es ys ++ ow Φ)) := by simp
        rw [e1]
        refine List.perm_middle.trans (List.Perm.cons _ ?_)
        rw [← List.append_assoc]
        exact List.perm_append_comm_assoc _ _ _)
      obtain ⟨p, us, epv, t, l, z⟩ := Cf.lst c1
      subst epv
      refine ⟨p, us, ds, ds', rfl, t, ef, by simp [Mi.seeL, Mi.peek, es1, Mi.frz, deref], l, fun us' rep => ?_⟩
      have z2 : Cf G H s.h ((.lst ds, .ref p) :: (Fz (ds ++ es) (us ++ ys) ++ (X ++ Y ++ ow Φ))) := by
        rw [Fz_append l, List.append_assoc]
        exact z
      have z3 := z2.change (ho := .lst us') (o' := .lst ds') (by simp [l, le]) (fun _ h => by cases h) fun ρ M H' e r => by
        have r1 : RepDs G ρ H' M ds us := by have := RepDs.take ds.length r; rw [List.take_left, l, List.take_left] at this; exact this
        have r2 : RepDs G ρ H' M es ys := by have := RepDs.drop ds.length r; rw [List.drop_left, l, List.drop_left] at this; exact this
        exact ⟨p, us', rfl, e, rep ρ H' M r1 r2, rfl⟩
      refine ⟨⟨by simp [c.sl.len], fun j o' q => ?_⟩, bo, ?_⟩
      · by_cases hj : i = j
        · subst hj; exact ⟨_, ev⟩
        · exact c.sl.at_ j o' (by simpa [List.getElem?_set, hj] using q)
      · show Cf G _ s.h (slp (s.σ.set i (some (.lst ds'))) σr ++ ow Φ)
        rw [q2]
        refine z3.perm ?_
        rw [List.append_assoc, List.append_assoc]
        exact List.perm_middle.symm
    · rename_i d es1
      simp only [Option.map_eq_some_iff] at e
      obtain ⟨h', em, eh⟩ := e
      obtain ⟨X, Y, q1, q2⟩ := slp_at es1 ev
      exact cell d h' (List.mem_append_left _ (by rw [q1]; simp)) em eh.symm ⟨[], rfl⟩ (fun ds q => by simp [Mi.seeL, Mi.peek, es1, Mi.frz, q])
    · cases e
theorem CfS.seeL {σr : Sr} {H : Hp} {s : S} {Φ : List (R × V)} {r : R} {v : V} {ds : List D} (c : CfS G σr H s Φ) (hm : (r, v) ∈ Φ) (e : seeL s r = some ds) : ∃ p us, v = .ref p ∧ H p = some (.lst us) ∧ us.length = ds.length := by
  simp only [Mi.seeL] at e
  split at e
  · rename_i ds' ep
    cases e
    obtain ⟨ρ, M, cp⟩ := c.parts
    obtain ⟨a, us, ea, t, rd⟩ := c.peek hm ep cp
    exact ⟨a, us, ea, t, rd.length.symm⟩
  · cases e
/-! ### attributes of what is no super() -/
def plainO : Expr → Bool
  | .Call (.Name _ _) [] [] _ => false
  | _ => true
theorem base_ok {o : Expr} {a : Str} {env : Env} (h : plainO o = true) : attributeBase o a env (eval o env) = eval o env := by
  unfold attributeBase
  split
  · cases h
  · rfl
def fewB (n : Nat) : Bool := decide (n < 29)
theorem few_ok {cpos : Pos} {es : List Expr} {env : Env} (h : es.all notStar = true) (hn : fewB es.length = true) : ((backTo cpos (starEach es env)).all (fun x => !x.1) && (backToKw cpos (keywordEach [] env)).all (fun x => x.1.isSome)
      && decide (es.length + ([] : List Keyword).length + (if ([] : List Keyword).isEmpty then 0 else 1) < 30)) = true := by
  have h1 : (backTo cpos (starEach es env)).all (fun x => !x.1) = true := by
    have := star_any (pos := cpos) (env := env) h
    rw [List.any_eq_false] at this
    rw [List.all_eq_true]
    intro x hx
    have := this x hx
    simpa using this
  have h2 : es.length < 29 := of_decide_eq_true hn
  rw [h1]
  show (true && true && decide (es.length + 0 + 0 < 30)) = true
  simp; omega
/-! ### xs.append(e), as a statement -/
def cApp (mx me : E) : C := fun call s => (mx call s).flow fun x s1 => match Mi.seeL s1 x with
  | none => .bad
  | some _ => (me call s1).flow fun y s2 => match take s2 y with
    | some (d, s3) => (match mutL s3 (fun ds => if fitsB (ds.length + 1) then some (ds ++ [d]) else none) x with
      | some s4 => .nx s4
      | none => .bad)
    | none => .bad
theorem s_app (g : Good G k call cc W X) {x e : Expr} {mx me : E} {p pos spos : Pos} (hx : PE X x (tE G W call mx)) (he : PE X e (tE G W call me)) (hn : notStar e = true) (hp : plainO x = true) (hl : (p.endLine == pos.line) = true) :
    PS X (.Expr (.Call (.Attribute x "append" p) [e] [] pos) spos) (tS G W call (cApp mx me)) := by
  have hall : [e].all notStar = true := by simp [hn]
  refine (ps_expr (pe_bm PySem.F.plainAttrs_list PySem.F.slot_list_append PySem.F.type_list_append mt_append hx (pa_cons he pa_nil (star_cons hn)) (base_ok hp) (few_ok hall rfl) hl (star_cons hn) rfl) rfl).of fun D σ H q => ?_
  obtain ⟨s, Φ, nb, c, q⟩ := q
  refine ⟨s, Φ, c, (AftS.flow q).mono fun x s1 a1 => fun v H1 c1 => ?_⟩
  split at a1
  · exact a1.elim
  · rename_i ds es
    obtain ⟨pp, us, ev, t, _⟩ := c1.seeL (v := v) (by simp) es
    subst ev
    refine ⟨.inl ⟨rfl, us, .inl (.inl t)⟩, s1, _, c1, ((AftS.flow a1).frame1).mono fun y s2 a2 => fun yv H2 c2 => ?_⟩
    split at a2
    · rename_i d s3 et
      split at a2
      · rename_i s4 em
        have c3 : CfS G σ H2 s3 (FzR [d] [yv] ++ ((x, .ref pp) :: Φ)) := c2.take et
        obtain ⟨p', us', ds1, ds2, ep, t', ef, _, l, fin⟩ := CfS.mutate rfl c3 em
        cases ep
        split at ef
        · rename_i hf
          cases ef
          refine ⟨pp, us', yv, rfl, rfl, t', ?_, ?_⟩
          · rw [← l]; exact Nat.lt_of_succ_le (fits hf)
          · exact a2 σ _ (fin (us' ++ [yv]) fun ρ H' M r1 r2 => r1.append r2)
        · cases ef
      · exact a2.elim
    · exact a2.elim
/-! ### xs.pop(), as a statement -/
def cPop (mx : E) : C := fun call s => (mx call s).flow fun x s1 => match mutL s1 (fun ds => if ds.length = 0 then none else some ds.dropLast) x with
  | some s4 => .nx s4
  | none => .bad
theorem RepDs.dropLast {ρ : List Addr} {H : Hp} {M : List Addr} {ds : List D} {us : List V} (r : RepDs G ρ H M ds us) : RepDs G ρ H M ds.dropLast us.dropLast := by
  rw [List.dropLast_eq_take, List.dropLast_eq_take, r.length]
  exact r.take _
theorem s_pop (g : Good G k call cc W X) {x : Expr} {mx : E} {p pos spos : Pos} (hx : PE X x (tE G W call mx)) (hp : plainO x = true) (hl : (p.endLine == pos.line) = true) :
    PS X (.Expr (.Call (.Attribute x "pop" p) [] [] pos) spos) (tS G W call (cPop mx)) := by
  refine (ps_expr (pe_bm0 PySem.F.plainAttrs_list PySem.F.slot_list_pop PySem.F.type_list_pop mt_pop hx (base_ok hp) hl) rfl).of fun D σ H q => ?_
  obtain ⟨s, Φ, nb, c, q⟩ := q
  refine ⟨s, Φ, c, (AftS.flow q).mono fun x s1 a1 => fun v H1 c1 => ?_⟩
  split at a1
  · rename_i s4 em
    obtain ⟨pp, us, ds1, ds2, ev, t, ef, _, l, fin⟩ := CfS.mutate (es := []) (ys := []) rfl c1 em
    subst ev
    split at ef
    · cases ef
    · rename_i h0
      cases ef
      have hlt : us.length - 1 < us.length := by rw [← l]; omega
      exact ⟨.inl ⟨rfl, us, .inl (.inl t)⟩, pp, us, us[us.length - 1], rfl, rfl, t, by simp [hlt], a1 σ _ (fin us.dropLast fun ρ H' M r1 _ => r1.dropLast)⟩
  · exact a1.elim
/-! ### xs[i] = e -/
def cSetL (me mx mi : E) : C := fun call s => (me call s).flow fun y s1 => match take s1 y with
  | none => .bad
  | some (d, s2) => (mx call s2).flow fun x s3 => (mi call s3).flow fun i s4 => match peek s4 i with
    | some (.int i) => (match mutL s4 (fun ds => (ixN ds.length i).map fun j => ds.set j d) x with
      | some s5 => .nx s5
      | none => .bad)
    | _ => .bad
def noSw : Expr → Bool
  | .Tuple .. => false
  | .List .. => false
  | .Starred .. => false
  | _ => true
theorem sw_none {tg e : Expr} {env : Env} (h : noSw tg = true) : swappedStores [tg] e env = pure none := by
  cases tg <;> first | rfl | cases h
def notSlice : Expr → Bool
  | .Slice .. => false
  | _ => true
theorem asg_sub {x i : Expr} {p : Pos} {env : Env} (h : notSlice i = true) (v : Value) : assign (.Subscript x i p) env v = (do
    let ov ← holding [v] (eval x env)
    let iv ← holding [v, ov] (eval i env)
    standAt p
    holding [v, ov, iv] (setItem ov iv v)
    release [v, ov, iv] []) := by
  cases i <;> first | rfl | cases h
theorem plain_ix {i : Expr} (h : notSlice i = true) : PlainIx i := fun o j => by
  cases i <;> first | rfl | cases h
theorem s_setL (g : Good G k call cc W X) {e x i : Expr} {me mx mi : E} {p pos : Pos} (he : PE X e (tE G W call me)) (hx : PE X x (tE G W call mx)) (hi : PE X i (tE G W call mi)) (hn : noComp e = true) (hs : notSlice i = true) :
    PS X (.Assign [.Subscript x i p] e pos) (tS G W call (cSetL me mx mi)) := by
  have hsw : swapsWithSole [.Subscript x i p] e pos.line X.env = pure false := by
    show swapsWith e (some (.Subscript x i p)) pos.line X.env = pure false
    exact noComp_sw hn
  refine (ps_asg he (pg_sub hx hi set_list (asg_sub hs)) hsw rfl rfl).of fun D σ H q => ?_
  obtain ⟨s, Φ, nb, c, q⟩ := q
  refine ⟨s, Φ, c, (AftS.flow q).mono fun y s1 a1 => fun yv H1 c1 => ?_⟩
  split at a1
  · exact a1.elim
  · rename_i d s2 et
    have c2 := c1.take et
    refine ⟨s2, _, c2, ((AftS.flow a1).frame1).mono fun x s3 a3 => fun xv H3 c3 => ⟨s3, _, c3, ((AftS.flow a3).frame (K := [(x, xv), (.own (.fz d), yv)])).mono fun i s4 a4 => fun iv H4 c4 => ?_⟩⟩
    split at a4
    · rename_i n ei
      split at a4
      · rename_i s5 em
        obtain ⟨ρ, M, cp⟩ := c4.parts
        have ev : iv = .int n := c4.peek (by simp) ei cp
        subst ev
        have c5 : CfS G σ H4 s4 (FzR [d] [yv] ++ ((x, xv) :: Φ)) := c4.drop.swap
        obtain ⟨pp, us, ds1, ds2, ex, t, ef, _, l, fin⟩ := CfS.mutate rfl c5 em
        subst ex
        simp only [Option.map_eq_some_iff] at ef
        obtain ⟨j, e1, e2⟩ := ef
        subst e2
        refine ⟨pp, us, n, j, rfl, rfl, t, by rw [← l]; exact e1, ?_⟩
        exact a4 σ _ (fin (us.set j yv) fun ρ H' M r1 r2 => by
          obtain ⟨w, r', ew, q1, q2⟩ := r2
          cases ew
          exact r1.set j q1)
      · exact a4.elim
    · exact a4.elim
end
end Mi

set_option Elab.async false
set_option linter.all false
set_option maxRecDepth 100000
set_option maxHeartbeats 4000000
/-! Mi, part N: enumerate of a list or a tuple; two comparisons in a row; count. -/
namespace Mi
open PySem PySem.Spec PyProof.Rows L2

set_option maxHeartbeats 1000000 in
theorem enum_new1 {v : Value} {o : Obj} {H : Heap → Prop} (bg : Begins v o H) :
    Meets (Builtin.«enumerate.__new__» ⟨[.type "enumerate", v], []⟩) (fun _ R s => H s.heap ∧
      R (.ok (.ret (.ref (s.heap.push o).objs.size))) { s with heap := (s.heap.push o).push { cls := .type "enumerate", data := .fields #[.none, .bool false, .ref s.heap.objs.size, rawInt 0, .none, .none] } }) :=
  .of_wp fun prog w A R s z => by
    obtain ⟨hp, g, d, tk, os⟩ := s; obtain ⟨z1, z⟩ := z
    have hsub := sub_enumerate
    have q0 : ∀ {A' : Around} {E : Value → Shared → Prop} {Q : Value → Shared → Prop}, Q (.ref hp.objs.size) ⟨hp.push o, g, d, tk, os⟩ → wpAny (model prog w) A' (pyIter v) Q E ⟨hp, g, d, tk, os⟩ :=
      fun q => bg.iter prog w _ _ ⟨hp, g, d, tk, os⟩ _ z1 q
    wp_walk using q0
    refine wpAny_stack_any fun st => wpAny_pure ?_
    split
    · rename_i cl _ _ _ _ _
      cases (cl == Value.type "enumerate")
      · wp_walk using q0
        exact ⟨_, rfl, z⟩
      · wp_walk using q0
        exact ⟨_, rfl, z⟩
    · wp_walk using q0
      exact ⟨_, rfl, z⟩
theorem enum_begin1 {prog : Program} {w : World} {A : Around} {E : Value → Shared → Prop} {s : Shared} {v : Value} {o : Obj} {H : Heap → Prop} {Q : Value → Shared → Prop} (bg : Begins v o H) (z1 : H s.heap)
    (z : ∀ h', IsEnum h' (s.heap.objs.size + 1) s.heap.objs.size 0 .none → h'.get? s.heap.objs.size = some o → (∀ b u, s.heap.get? b = some u → h'.get? b = some u) → Q (.ref (s.heap.objs.size + 1)) { s with heap := h' }) :
    wpAny (model prog w) A (call (.type "enumerate") [v]) Q E s := by
  refine callType_new F.called_enumerate (by decide) (F.typeCall_enumerate_1 _) (F.newCall_enumerate_1 _) (fun obj => F.args_object_init_2 obj _) F.entry_enumerate_new (enum_new1 bg) ⟨z1, ?_⟩
  have hz : (s.heap.push o).objs.size = s.heap.objs.size + 1 := Heap.size_push ..
  show _ ∧ _
  rw [hz]
  have he : IsEnum ((s.heap.push o).push { cls := .type "enumerate", data := .fields #[.none, .bool false, .ref s.heap.objs.size, rawInt 0, .none, .none] }) (s.heap.objs.size + 1) s.heap.objs.size 0 .none := by
    have q := Heap.get?_push_size (s.heap.push o) (o := { cls := .type "enumerate", data := .fields #[.none, .bool false, .ref s.heap.objs.size, rawInt 0, .none, .none] }) rfl
    rw [hz] at q
    exact q
  exact ⟨⟨_, he, rfl⟩, z _ he (Heap.get?_push_of_some _ (Heap.get?_push_size _ bg.free)) fun b u x => Heap.get?_push_of_some _ (Heap.get?_push_of_some _ x)⟩

/-- the tuple at a, each item in a new pair -/
def pairO (b : Bool) (i : Nat) (x : V) (ho : HO) : Prop := if b = true then ∃ ob, ho = .frz ob (.tup [.int (i : Nat), x]) ∧ ob.dict = none else ho = .tup [.int (i : Nat), x]
def IteT (K : PySem.W.Frag) (a : Addr) (b : Bool) : It :=
  ⟨fun i H => ∃ (xs : List V) (x : V), SqT K H a xs ∧ xs[i]? = some x, fun i H v H' => ∃ T x ho, v = .ref T ∧ H T = none ∧ H' = upd H T ho ∧ pairO b i x ho ∧ ∀ xs, SqT K H a xs → xs[i]? = some x, fun i H => ∃ xs : List V, SqT K H a xs ∧ xs.length = i⟩
theorem turn_enumT {P : Program} {w : World} {K : PySem.W.Frag} {elts : List Expr} {kk : Nat} {tpos : Pos} (bb : Bool) (a e it : Addr) (hat : a ≠ it) (hae : a ≠ e) :
    Turn P w K (.Tuple elts kk tpos) (IteT K a bb) [e, it] e (fun i h => (∃ old, IsEnum h e it ((i : Nat) : Int) old) ∧ h.IsTupleIter it a i ∧ e ≠ it) where
  mem := by simp
  obj := fun i h st b hb => by
    obtain ⟨⟨old, he⟩, ⟨o, ho, hc, hd⟩, _⟩ := st
    rcases (show b = e ∨ b = it by simpa using hb) with z | z
    · subst z; exact ⟨_, he, fun v q => nomatch q⟩
    · subst z; exact ⟨o, ho, fun v q => by rw [hd] at q; cases q⟩
  keep := fun i h h' st kp => by
    obtain ⟨⟨old, he⟩, hi, hne⟩ := st
    exact ⟨⟨old, kp e (by simp) _ he⟩, hi.at fun o q => kp it (by simp) o q, hne⟩
  item := by
    intro X hP hw hK hc i pins s σ H E I hf st hg
    subst hP hw hK
    obtain ⟨⟨old, he⟩, hit, hne⟩ := st
    obtain ⟨xs, x, hq, hx⟩ := hg
    obtain ⟨its, rv, p, hz⟩ := I.tuple hq
    obtain ⟨u, hu, ru⟩ := rv.get hx
    have hel := Heap.lt_size he
    have hil : it < s.heap.objs.size := by obtain ⟨_, q, _⟩ := hit; exact Heap.lt_size q
    have hlt : i < its.toArray.size := by
      rcases Nat.lt_or_ge i its.length with z | z
      · simpa using z
      · rw [List.getElem?_eq_none z] at hu; cases hu
    have Dr : Draws X.prog X.w X.A.in1 it [it, a] its.toArray.size (fun i v => its.toArray[i]? = some v) (fun i h => h.IsTupleIter it a i ∧ h.IsTuple a its.toArray) := Draws.tuple (show X.A.in1.handled = none from I.ok.hd hc) it a hat _
    refine wpAny_pyNext_enum_itemD Dr he ⟨hit, p⟩ hlt hne (by simp [hne, Ne.symm hae]) fun y h' tk hy ho hst hT hsz hk => ?_
    have ey : y = u := by
      have : its.toArray[i]? = some u := by simpa using hu
      rw [this] at hy
      exact (Option.some.inj hy).symm
    subst ey
    refine ⟨_, rfl, wpAny_letOwnedTupleGo_enum (s := { s with heap := h', toks := tk + 1 }) ho fun h2 he2 sb => ?_⟩
    have hT2 : h2.get? s.heap.objs.size = some { cls := .type "tuple", data := .seq #[.int i tk, y] } := (sb.2 _ (Nat.ne_of_gt hel)).trans hT
    obtain ⟨ho2, hpo, new⟩ : ∃ ho2, pairO bb i x ho2 ∧ ObjOk X.prog X.w (upd H s.heap.objs.size ho2) h2 s.heap.objs.size ho2 := by
      cases bb with
      | false => exact ⟨.tup [.int (i : Nat), x], rfl, by show 2 ≤ sizeLine; decide, [.int i tk, y], .cons ⟨_, rfl⟩ (.cons ru .nil), ⟨_, hT2, rfl, _, rfl⟩⟩
      | true => exact ⟨.frz _ (.tup [.int (i : Nat), x]), ⟨_, rfl, rfl⟩, hT2, by show 2 ≤ sizeLine; decide, [.int i tk, y], .cons ⟨_, rfl⟩ (.cons ru .nil), ⟨_, hT2, rfl, _, rfl⟩⟩
    have I1 : Inv X pins σ (upd H s.heap.objs.size ho2) { s with heap := h2, toks := tk + 1 } :=
      I.turnedNew (ch := [e, it]) (fun b ob hb q => (sb.2 b (fun z => hb (by simp [z]))).trans (hk b ob (fun z => hb (by simp [z])) (fun z => hb (by simp [z])) q)) hf (Nat.le_refl _) new
    refine ⟨.ref s.heap.objs.size, _, I1, rfl, ⟨_, x, ho2, rfl, I.hok.fresh (Nat.le_refl _), rfl, hpo, fun ys hys => ?_⟩, ⟨⟨y, ?_⟩, hst.1.at fun o q => (sb.2 it (Ne.symm hne)).trans q, hne⟩, fun b hb => ?_⟩
    · rw [I.tuple_inj hys hq]; exact hx
    · have e1 : ((i + 1 : Nat) : Int) = (i : Int) + 1 := by omega
      rw [e1]; exact he2
    · have hb' : b < s.heap.objs.size := by
        rcases (show b = e ∨ b = it by simpa using hb) with z | z
        · rw [z]; exact hel
        · rw [z]; exact hil
      rw [upd_ne (Nat.ne_of_lt hb')]
      exact (hf b hb).1
  done := by
    intro X hP hw hK hc i pins s σ H E I hf st hg
    subst hP hw hK
    obtain ⟨⟨old, he⟩, hit, hne⟩ := st
    obtain ⟨xs, hq, hx⟩ := hg
    obtain ⟨its, rv, p, hz⟩ := I.tuple hq
    obtain ⟨f0, f1, f2, f3, f4, f5⟩ := hf it (by simp)
    have Dr : Draws X.prog X.w X.A.in1 it [it, a] its.toArray.size (fun i v => its.toArray[i]? = some v) (fun i h => h.IsTupleIter it a i ∧ h.IsTuple a its.toArray) := Draws.tuple (show X.A.in1.handled = none from I.ok.hd hc) it a hat _
    have en : its.toArray.size = i := by rw [← hx, rv.length]; simp
    exact wpAny_pyNext_enum_endD Dr he (by rw [en]; exact ⟨hit, p⟩) fun h' eb => ⟨rfl, I.turned (t' := s.toks) (fun b o hb q => eb b o hb q) f0 f1 f3 f4 f5⟩
  self := fun A i s Q E st h => by
    obtain ⟨⟨_, he⟩, _⟩ := st
    exact wpAny_pyIter_enum he h
def iEnumT (K : PySem.W.Frag) (b : Bool) (ta : TA) : TI := fun σ H R => ta σ H fun vs H1 => ∃ a xs, vs = [.ref a] ∧ SqT K H1 a xs ∧ R (IteT K a b) H1
theorem pi_enumT {X : Cx} {bb : Bool} {e : Expr} {ta : TA} {p pos tpos : Pos} {elts : List Expr} {kk : Nat} (hg : Gl X "enumerate") (hm : X.mg "enumerate" = none) (ha : PA X [e] ta) (hs : starEach [e] X.env = [(false, eval e X.env)]) :
    PI X (.Tuple elts kk tpos) (.Call (.Name "enumerate" p) [e] [] pos) (iEnumT X.K bb ta) := by
  refine ⟨fun pins s σ H R I h => ?_⟩
  refine Call_ (ld_blt I hg hm boot_enumerate (PyProof.Rows.callWith_type1 (thn (ha.run pos pins s σ H _ I h) fun us s1 ⟨vs, H1, I1, r1, q1⟩ => ?_) hs rfl))
  obtain ⟨a, xs, ex, hq, q⟩ := q1
  subst ex
  cases r1 with
  | cons r rr =>
    cases rr
    cases r
    obtain ⟨its, rv, p', hz⟩ := I1.tuple hq
    have hal : a < s1.heap.objs.size := by obtain ⟨_, z, _⟩ := p'; exact Heap.lt_size z
    refine enum_begin1 (begins_tuple a its.toArray) p' fun h' he hit hk => wpAny_pyIter_enum he ?_
    have I2 : Inv X pins σ H1 { s1 with heap := h' } := I1.kept (t' := s1.toks) hk
    refine ⟨s1.heap.objs.size + 1, [s1.heap.objs.size + 1, s1.heap.objs.size], _, _, H1, rfl, I2, turn_enumT bb a (s1.heap.objs.size + 1) s1.heap.objs.size (Nat.ne_of_lt hal) (Nat.ne_of_lt (Nat.lt_succ_of_lt hal)), ⟨⟨.none, he⟩, ⟨_, hit, rfl, rfl⟩, Nat.succ_ne_self _⟩, fun b hb => ?_, q⟩
    have hle : s1.heap.objs.size ≤ b := by
      rcases (show b = s1.heap.objs.size + 1 ∨ b = s1.heap.objs.size by simpa using hb) with z | z
      · rw [z]; exact Nat.le_succ _
      · rw [z]; exact Nat.le_refl _
    exact I1.fpOk hle (I1.hok.fresh hle)

section
variable {G : GE} {k : Nat} {call : Call} {cc : CC} {W : WX} {X : Cx}
def enumD (ds : List D) : List D := ds.mapIdx fun i d => .tup [.int (i : Nat), d]
def iEnB (m : As) : Iv := fun call s => (m call s).bind fun ds s1 => match ds with
  | [.tup ds] => .ok (enumD ds) s1
  | _ => .bad
def iEn (m : As) : Iv := fun call s => (m call s).bind fun ds s1 => match ds with
  | [d] => lift s1 ((itemsD d).map enumD)
  | _ => .bad
theorem CfS.pair {σr : Sr} {H : Hp} {s : S} {Φ : List (R × V)} {d : D} {v : V} {i : Int} {T : Addr} (c : CfS G σr H s ((.own (.fz d), v) :: Φ)) (hT : H T = none) {ho : HO} (ht : isTupO G [.int i, v] ho) : CfS G σr (upd H T ho) s ((.own (.fz (.tup [.int i, d])), .ref T) :: Φ) := by
  have c2 : CfS G σr H s (FzR [.int i, d] [.int i, v] ++ Φ) := c.simple (d := .int i) rfl
  exact c2.pack fun L q => Cf.newTup rfl q hT ht
theorem walks_enum {d : D} {ds : List D} {v : V} {a : Addr} (hb : G.bare = false) (e : listD d = some ds) (hv : v = .ref a) : Walks G (Ite G.K a) [(.own (.fz d), v)] (enumD ds) := by
  intro σr H s Φ c
  subst hv
  obtain ⟨ρ, M, cp⟩ := c.parts
  have r := c.peek (r := .own (.fz d)) (v := .ref a) (d := d) (by simp) (by cases d <;> first | rfl | cases e) cp
  obtain ⟨a', vs, ea, t, rd⟩ := listD_of r e
  cases ea
  refine ⟨fun i hi => ⟨vs, vs[i]'(by rw [← rd.length]; simpa [enumD] using hi), t, by simp⟩, fun i d' x H' ei ⟨T, y, ex, hT, eH, hy⟩ => ?_, ⟨vs, t, by rw [← rd.length]; simp [enumD]⟩⟩
  subst eH; subst ex
  have ey := hy vs t
  simp only [enumD, List.getElem?_mapIdx, Option.map_eq_some_iff] at ei
  obtain ⟨d0, e0, e1⟩ := ei
  subst e1
  obtain ⟨w, hw, q⟩ := rd.get e0
  rw [ey] at hw
  cases hw
  exact CfS.pair (CfS.cpMore (K := []) c cp q) hT ⟨hb, rfl⟩
theorem pairO_of {i : Nat} {x : V} {ho : HO} (h : pairO G.bare i x ho) : isTupO G [.int (i : Nat), x] ho := by
  unfold pairO at h
  split at h
  · obtain ⟨ob, e, d⟩ := h; subst e; exact ⟨rfl, fun _ => d⟩
  · rename_i hb
    subst h
    exact ⟨by simpa using hb, rfl⟩
theorem walks_enumT {ds : List D} {v : V} {a : Addr} (hv : v = .ref a) : Walks G (IteT G.K a G.bare) [(.own (.fz (.tup ds)), v)] (enumD ds) := by
  intro σr H s Φ c
  subst hv
  obtain ⟨ρ, M, cp⟩ := c.parts
  have r := c.peek (r := .own (.fz (.tup ds))) (v := .ref a) (d := .tup ds) (by simp) rfl cp
  obtain ⟨a', vs, ea, t0, rd⟩ := r
  have t := t0.sq
  cases ea
  refine ⟨fun i hi => ⟨vs, vs[i]'(by rw [← rd.length]; simpa [enumD] using hi), t, by simp⟩, fun i d' x H' ei ⟨T, y, ho, ex, hT, eH, hpo, hy⟩ => ?_, ⟨vs, t, by rw [← rd.length]; simp [enumD]⟩⟩
  subst eH; subst ex
  have ey := hy vs t
  simp only [enumD, List.getElem?_mapIdx, Option.map_eq_some_iff] at ei
  obtain ⟨d0, e0, e1⟩ := ei
  subst e1
  obtain ⟨w, hw, q⟩ := rd.get e0
  rw [ey] at hw
  cases hw
  exact CfS.pair (CfS.cpMore (K := []) c cp q) hT (pairO_of hpo)
theorem i_enum (g : Good G k call cc W X) (hb : G.bare = false) {e : Expr} {elts : List Expr} {kk : Nat} {m : As} {p pos tpos : Pos} (hg : cc.sc.names.lookup ("enumerate" : Str) = some .globalImplicit) (h : PA X [e] (tL G W call m)) (hn : notStar e = true) : PI X (.Tuple elts kk tpos) (.Call (.Name "enumerate" p) [e] [] pos) (tI G W call (iEn m)) := by
  refine ((pi_enum (g.gl hg) (g.blt _ (by decide)) h (star_cons hn)).or (pi_enumT (bb := G.bare) (g.gl hg) (g.blt _ (by decide)) h (star_cons hn))).of fun σ H Q q => ?_
  obtain ⟨s, Φ, c, q⟩ := q
  have q1 := Aft.bind q
  cases em : m call s with
  | bad => rw [em] at q1; exact q1.elim
  | exc cn d s1 => exact .inl ⟨s, Φ, c, by rw [em] at q1 ⊢; exact q1⟩
  | ok ds s1 =>
    rw [em] at q1
    match ds, em, q1 with
    | [], em, q1 => exact q1.elim
    | _ :: _ :: _, em, q1 => exact q1.elim
    | [d], em, q1 =>
      obtain ⟨es, ed, q3⟩ := Aft.lift (x := (itemsD d).map enumD) q1
      simp only [Option.map_eq_some_iff] at ed
      obtain ⟨is, ei, ee⟩ := ed
      subst ee
      have two : ∀ vs : List V, [d].length = vs.length → ∃ v, vs = [v] := fun vs l => by
        match vs, l with
        | [v], _ => exact ⟨v, rfl⟩
      cases d with
      | tup ds' =>
        cases ei
        refine .inr ⟨s, Φ, c, ?_⟩
        rw [em]
        intro vs H1 l c1
        obtain ⟨v, rfl⟩ := two vs l
        obtain ⟨ρ, M, cp⟩ := c1.parts
        obtain ⟨a, us, ea, t, rd⟩ := c1.peek (r := .own (.fz (.tup is))) (d := .tup is) (v := v) (by simp [FzR]) rfl cp
        subst ea
        exact ⟨a, us, rfl, by rw [g.K]; exact t.sq, by rw [g.K]; exact q3 [(.own (.fz (.tup is)), .ref a)] _ H1 (noB_cons fun _ _ z => by simp at z) c1 (walks_enumT rfl)⟩
      | lst ds' =>
        have e2 : listD (.lst ds') = some is := ei
        refine .inl ⟨s, Φ, c, ?_⟩
        rw [em]
        intro vs H1 l c1
        obtain ⟨v, rfl⟩ := two vs l
        obtain ⟨ρ, M, cp⟩ := c1.parts
        obtain ⟨a, us, ea, t, rd⟩ := listD_of (c1.peek (r := .own (.fz (.lst ds'))) (d := .lst ds') (v := v) (by simp [FzR]) rfl cp) e2
        subst ea
        exact ⟨a, us, rfl, by rw [g.K]; exact t, by rw [g.K]; exact q3 [(.own (.fz (.lst ds')), .ref a)] _ H1 (noB_cons fun _ _ z => by simp at z) c1 (walks_enum hb e2 rfl)⟩
      | scr ns =>
        have e2 : listD (.scr ns) = some is := ei
        refine .inl ⟨s, Φ, c, ?_⟩
        rw [em]
        intro vs H1 l c1
        obtain ⟨v, rfl⟩ := two vs l
        obtain ⟨ρ, M, cp⟩ := c1.parts
        obtain ⟨a, us, ea, t, rd⟩ := listD_of (c1.peek (r := .own (.fz (.scr ns))) (d := .scr ns) (v := v) (by simp [FzR]) rfl cp) e2
        subst ea
        exact ⟨a, us, rfl, by rw [g.K]; exact t, by rw [g.K]; exact q3 [(.own (.fz (.scr ns)), .ref a)] _ H1 (noB_cons fun _ _ z => by simp at z) c1 (walks_enum hb e2 rfl)⟩
      | _ => cases ei

theorem i_enumB (g : Good G k call cc W X) {e : Expr} {elts : List Expr} {kk : Nat} {m : As} {p pos tpos : Pos} (hg : cc.sc.names.lookup ("enumerate" : Str) = some .globalImplicit) (h : PA X [e] (tL G W call m)) (hn : notStar e = true) : PI X (.Tuple elts kk tpos) (.Call (.Name "enumerate" p) [e] [] pos) (tI G W call (iEnB m)) := by
  refine (pi_enumT (bb := G.bare) (g.gl hg) (g.blt _ (by decide)) h (star_cons hn)).of fun σ H Q q => ?_
  obtain ⟨s, Φ, c, q⟩ := q
  refine ⟨s, Φ, c, (Aft.bind q).mono fun ds s1 a1 => fun vs H1 l c1 => ?_⟩
  split at a1
  · rename_i is
    obtain ⟨v, rfl⟩ : ∃ v, vs = [v] := by
      match vs, l with
      | [v], _ => exact ⟨v, rfl⟩
    obtain ⟨ρ, M, cp⟩ := c1.parts
    obtain ⟨a, us, ea, t, rd⟩ := c1.peek (r := .own (.fz (.tup is))) (d := .tup is) (v := v) (by simp [FzR]) rfl cp
    subst ea
    exact ⟨a, us, rfl, by rw [g.K]; exact t.sq, by rw [g.K]; exact a1 [(.own (.fz (.tup is)), .ref a)] _ H1 (noB_cons fun _ _ z => by simp at z) c1 (walks_enumT rfl)⟩
  · exact a1.elim
/-! ### a op b op' c -/
def mChain (f f' : D → D → Option O) (a b c : E) : E := fun call s => (a call s).bind fun x s1 => (b call s1).bind fun y s2 => match (peek s2 x).bind fun d1 => (peek s2 y).bind fun d2 => f d1 d2 with
  | some (.fz (.bl true)) => (c call s2).bind fun z s3 => lift s3 ((peek s3 y).bind fun d2 => (peek s3 z).bind fun d3 => (f' d2 d3).map R.own)
  | some (.fz (.bl false)) => .ok (.own (.fz (.bl false))) s2
  | _ => .bad
theorem lm_two {op op' : CmpOp} {b c : Expr} (h : behindInMarks op' c = false) : lastMarks [op, op'] [b, c] = false := h
theorem e_chain {f f' : D → D → Option O} {op op' : CmpOp} {a b c : Expr} {ma mb mc : E} {pos : Pos} (ho : OpR X (compareOp op) (r2 G f)) (ho' : OpR X (compareOp op') (r2 G f')) (ha : PE X a (tE G W call ma)) (hb : PE X b (tE G W call mb)) (hc : PE X c (tE G W call mc)) (hm : behindInMarks op' c = false) : PE X (.Compare a [op, op'] [b, c] pos) (tE G W call (mChain f f' ma mb mc)) := by
  refine (pe_chain ho ho' ha hb hc (lm_two hm)).of fun σ H Q q => ?_
  obtain ⟨s, Φ, c, h⟩ := q
  refine ⟨s, Φ, c, (Aft.bind h).mono fun x s1 h1 => fun v1 H1 c1 => ⟨s1, _, c1, ((Aft.bind h1).frame1).mono fun y s2 h2 => fun v2 H2 c2 => ?_⟩⟩
  obtain ⟨ρ, M, cp⟩ := c2.parts
  split at h2
  · rename_i e
    simp only [Option.bind_eq_some_iff] at e
    obtain ⟨d1, e1, d2, e2, eo⟩ := e
    refine ⟨ρ, M, _, _, d1, d2, _, cp, c2.peek (by simp) e1 cp, c2.peek (by simp) e2 cp, eo, fun w H3 c3 => ?_⟩
    have cK := CfS.more (K := []) c2 c3
    have ew : w = .bl true := by obtain ⟨ρ, M, cp⟩ := cK.parts; exact cK.peek (r := .own (.fz (.bl true))) (d := .bl true) (by simp) rfl cp
    refine ⟨true, ew, iteT ⟨s2, _, cK.drop, ((Aft.bind h2).frame (K := [(y, v2), (x, v1)])).mono fun z s3 h3 => fun v3 H4 c4 => ?_⟩⟩
    obtain ⟨zz, e5, q⟩ := Aft.lift h3
    simp only [Option.bind_eq_some_iff, Option.map_eq_some_iff] at e5
    obtain ⟨d2', e6, d3, e7, o, eo', ey⟩ := e5
    subst ey
    obtain ⟨ρ', M', cp'⟩ := c4.parts
    exact ⟨ρ', M', _, _, d2', d3, o, cp', c4.peek (by simp) e6 cp', c4.peek (by simp) e7 cp', eo', fun w H5 c5 => q w H5 (CfS.more (K := [(z, v3), (y, v2), (x, v1)]) c4 c5)⟩
  · rename_i e
    simp only [Option.bind_eq_some_iff] at e
    obtain ⟨d1, e1, d2, e2, eo⟩ := e
    refine ⟨ρ, M, _, _, d1, d2, _, cp, c2.peek (by simp) e1 cp, c2.peek (by simp) e2 cp, eo, fun w H3 c3 => ?_⟩
    have cK := CfS.more (K := [(y, v2), (x, v1)]) c2 c3
    have ew : w = .bl false := by obtain ⟨ρ, M, cp⟩ := cK.parts; exact cK.peek (r := .own (.fz (.bl false))) (d := .bl false) (by simp) rfl cp
    refine ⟨false, ew, iteF ?_⟩
    subst ew
    exact h2 _ H3 cK
  · exact h2.elim
/-! ### t.count(x) of a tuple that bears no dict -/
def countD (d e : D) : Option O := match d with
  | .tup ds => (toPs ds).bind fun ps => (toP e).bind fun p => if PyData.plainAll ps && p.plain && decide (p.depth ≤ 60) then fI ((ps.countP fun y => PyData.eqv y p : Nat) : Int) else none
  | _ => none
def mCnt (mx me : E) : E := fun call s => (mx call s).bind fun x s1 => match peek s1 x with
  | some (.tup _) => (me call s1).bind fun y s2 => lift s2 ((peek s2 x).bind fun d1 => (peek s2 y).bind fun d2 => (countD d1 d2).map R.own)
  | _ => .bad
theorem tr_bare {pins : List (Addr × Obj)} {σ : Sr} {H : Hp} {s : Shared} {M : List Addr} {a : Addr} {vs : List V} (hK : X.K = G.K) (hb : G.bare = true) (I : Inv X pins σ H s) (t : Tr G H M a vs) : s.TypeIs (.ref a) "tuple" ∧ ∃ ob, s.heap.get? a = some ob ∧ ob.dict = none := by
  rcases t with ⟨ho, e, i, n⟩ | ⟨o, its, n, t1, t2, t3, t4, t5, t6⟩
  · unfold isTupO at i
    split at i
    · rw [hb] at i; cases i.1
    · rename_i o us
      obtain ⟨z1, z2⟩ : ObjOk X.prog X.w H s.heap a (.frz o (.tup us)) := I.hok a _ e
      obtain ⟨_, its, _, ⟨o', e1, c, _⟩⟩ := z2
      rw [z1] at e1
      cases e1
      exact ⟨⟨o, z1, c⟩, o, z1, i.2 hb⟩
    · exact i.elim
  · have q := I.kIn a o (by rw [hK]; exact t1)
    exact ⟨⟨o, q, t2⟩, o, q, t6 hb⟩
theorem e_count (g : Good G k call cc W X) (hb : G.bare = true) {x e : Expr} {mx me : E} {p pos : Pos} (hx : PE X x (tE G W call mx)) (he : PE X e (tE G W call me)) (hn : notStar e = true) (hp : plainO x = true) (hl : (p.endLine == pos.line) = true) :
    PE X (.Call (.Attribute x "count" p) [e] [] pos) (tE G W call (mCnt mx me)) := by
  have hall : [e].all notStar = true := by simp [hn]
  refine ⟨fun pins s σ H Q I h => ?_⟩
  obtain ⟨ms, Φ, c, a⟩ := h
  refine wpAny_Call_method_late (base_ok hp) (few_ok hall rfl) hl rfl (thn (hx.run pins s σ H (fun v H1 => ∃ xr s1, CfS G σ H1 s1 ((xr, v) :: Φ) ∧ Aft G W σ Φ (PV G σ Φ Q) (match peek s1 xr with
    | some (.tup _) => (me call s1).bind fun y s2 => lift s2 ((peek s2 xr).bind fun d1 => (peek s2 y).bind fun d2 => (countD d1 d2).map R.own)
    | _ => .bad)) I ⟨ms, Φ, c, (Aft.bind a).mono fun xr s1 a1 => fun v H1 c1 => ⟨xr, s1, c1, a1⟩⟩) fun v s1 ⟨xv, H1, I1, r1, xr, ms1, c1, a1⟩ => ?_)
  split at a1
  · rename_i ds0 e0
    obtain ⟨ρ, M, cp⟩ := c1.parts
    obtain ⟨t, us, ex, tr, rd⟩ := c1.peek (v := xv) (by simp) e0 cp
    subst ex
    obtain rfl := (show v = Value.ref t from r1)
    obtain ⟨h1, h2⟩ := tr_bare g.K hb I1 tr
    refine ⟨"tuple", "tuple.count", PySem.F.plainAttrs_tuple, PySem.F.slot_tuple_count, PySem.F.type_tuple_count, h1, fun b eb => by cases eb; exact h2, ?_⟩
    have hA := (pa_cons he pa_nil (star_cons hn)).run pos pins s1 σ H1 (fun vs H2 => ∃ yv yr s2, vs = [yv] ∧ CfS G σ H2 s2 ((yr, yv) :: (xr, .ref t) :: Φ) ∧ Aft G W σ Φ (PV G σ Φ Q) (lift s2 ((peek s2 xr).bind fun d1 => (peek s2 yr).bind fun d2 => (countD d1 d2).map R.own))) I1
      ⟨ms1, _, c1, ((Aft.bind a1).frame1).mono fun y s2 a2 => fun yv H2 c2 => ⟨yv, y, s2, rfl, c2, a2⟩⟩
    rw [star_cons hn] at hA ⊢
    refine Calls.callWith_builtin rfl (Calls.evalArgs_plain ?_)
    refine thn hA fun ws s2 ⟨vs, H2, I2, r2, yv, yr, ms2, ev, c2, a2⟩ => ?_
    subst ev
    obtain ⟨u, rfl, ru⟩ := r2.one
    obtain ⟨z, ez, q⟩ := Aft.lift a2
    simp only [Option.bind_eq_some_iff, Option.map_eq_some_iff] at ez
    obtain ⟨d1, e1, d2, e2, o, eo, ey⟩ := ez
    subst ey
    obtain ⟨ρ2, M2, cp2⟩ := c2.parts
    have t1 := c2.peek (v := .ref t) (by simp) e1 cp2
    have t2 := c2.peek (v := yv) (by simp) e2 cp2
    unfold countD at eo
    split at eo
    · rename_i ds
      simp only [Option.bind_eq_some_iff] at eo
      obtain ⟨ps, f1, pp, f2, f3⟩ := eo
      split at f3
      · rename_i hc
        simp only [Bool.and_eq_true, decide_eq_true_eq] at hc
        cases f3
        obtain ⟨t', us', et, tr', rd'⟩ := t1
        cases et
        obtain ⟨its, rv, pl, hz⟩ := I2.tuple (by rw [g.K]; exact tr'.sq)
        have dp : DpAll X.K H2 us' ps := by rw [g.K]; exact RepDs.dp ds us' ps rd' f1
        obtain ⟨as, rs⟩ := Dp.readsAll I2 ps us' its dp rv
        obtain ⟨bs, rx⟩ := Dp.reads I2 pp yv u (by rw [g.K]; exact t2.dp f2) ru
        refine PySem.SeqAt.count_tuple_data (vs := its.toArray) pl (by simpa using rs) rx hc.1.1 hc.1.2 ?_ ?_
        · have h4 := g.room.units
          have h5 : min (PyData.depthAll ps) pp.depth ≤ pp.depth := Nat.min_le_right _ _
          have h6 := hc.2
          omega
        · exact ⟨.int _, H2, I2.tok _, ⟨_, rfl⟩, q _ H2 (CfS.more (K := [(yr, yv), (xr, .ref t)]) c2 (cp2.int _))⟩
      · cases f3
    · cases eo
  · exact a1.elim
/-! ### {} -/
def mDic0 : E := fun _ s => .ok (.own (.dic [] [])) s
theorem e_dic0 {pos : Pos} : PE X (.Dict [] [] pos) (tE G W call mDic0) := pe_dnewK.of fun σ H Q h => by
  obtain ⟨s, Φ, c, a⟩ := h
  intro d hd
  exact a _ _ (CfS.more (K := []) c (Cf.newDic (ks := []) (ds := []) (vs := []) rfl rfl c.cf hd))
/-! ### a new container is put into a cell -/
def isCont : O → Bool
  | .fz _ => false
  | _ => true
def mCell (m : E) : E := fun call s => (m call s).bind fun x s1 => match x with
  | .own o => if isCont o then .ok (.own (.fz (.loc s1.h.length))) ⟨s1.σ, s1.h ++ [o]⟩ else .bad
  | _ => .bad
theorem e_cell {e : Expr} {m : E} (h : PE X e (tE G W call m)) : PE X e (tE G W call (mCell m)) := h.of fun σ H Q q => by
  obtain ⟨s, Φ, c, a⟩ := q
  refine ⟨s, Φ, c, (Aft.bind a).mono fun x s1 a1 => fun v H1 c1 => ?_⟩
  split at a1
  · rename_i o
    split at a1
    · rename_i hc
      refine a1 v H1 ⟨c1.sl, fun i w z => ?_, ?_⟩
      · rcases List.mem_cons.mp z with z | z
        · cases z
        · exact c1.bo i w (List.mem_cons_of_mem _ z)
      · have c2 : Cf G H1 s1.h ((o, v) :: (slp s1.σ σ ++ ow Φ)) := c1.cf.perm List.perm_middle
        exact (c2.newCell fun d z => by subst z; cases hc).perm List.perm_middle.symm
    · exact a1.elim
  · exact a1.elim
end
end Mi

set_option Elab.async false
set_option linter.all false
set_option maxRecDepth 100000
set_option maxHeartbeats 4000000
/-! Mi, part O: the turner: from a tree of the program to what it does, with the proof that it does it. -/
namespace Mi
open PySem PySem.Spec PyProof.Rows L2

structure CE (cc : CC) (e : Expr) where
  m : E
  ok : ∀ G k call W X, Good G k call cc W X → PE X e (tE G W call m)
structure CB (cc : CC) (e : Expr) where
  m : B
  ok : ∀ G k call W X, Good G k call cc W X → PT X e (tB_ G W call m)
structure CA (cc : CC) (es : List Expr) where
  m : As
  ns : es.all notStar = true
  ok : ∀ G k call W X, Good G k call cc W X → PA X es (tL G W call m)
structure CR (cc : CC) (es : List Expr) where
  m : AsR
  ns : es.all notStar = true
  ok : ∀ G k call W X, Good G k call cc W X → PA X es (tR G W call m)
structure CP (cc : CC) (e : Option Expr) where
  m : Pt
  ok : ∀ G k call W X, Good G k call cc W X → PO X e (tP G W call m)
structure CTg (cc : CC) (e : Expr) where
  m : Tg
  pl : plainT e = true
  ok : ∀ G k call W X, Good G k call cc W X → PG X e (tG G m)
structure CTs (cc : CC) (es : List Expr) where
  m : Tgs
  ms : List Tg
  pl : es.all plainT = true
  ln : es.length = ms.length
  ok : ∀ G k call W X, Good G k call cc W X → PGs X es (tGs G m)
  oks : ∀ G k call W X, Good G k call cc W X → PGs X es (tGsO G ms)
structure CGA (cc : CC) (vs : List Nat) (e : Expr) where
  m : Tg
  pl : plainT e = true
  ok : ∀ G k call W X, Good G k call cc W X → PG X e (tGA G vs m)
structure CGAs (cc : CC) (vs : List Nat) (es : List Expr) where
  m : Tgs
  pl : es.all plainT = true
  ok : ∀ G k call W X, Good G k call cc W X → PGs X es (tGAs G vs m)
structure CIv (cc : CC) (tg it : Expr) where
  m : Iv
  fs : ∀ env x, foldedSetIterable it env x = pure x
  ok : ∀ G k call W X, Good G k call cc W X → PI X tg it (tI G W call m)
structure CS (cc : CC) (st : Stmt) where
  m : C
  ok : ∀ G k call W X, Good G k call cc W X → PS X st (tS G W call m)
structure CSs (cc : CC) (st : List Stmt) where
  m : C
  ok : ∀ G k call W X, Good G k call cc W X → PSs X st (tS G W call m)
/-- the turners of one depth -/
structure Tn where
  e : ∀ cc e, Option (CE cc e)
  b : ∀ cc e, Option (CB cc e)
  s : ∀ cc st, Option (CS cc st)

/-! ### names -/
def idx (N : List Str) (x : Str) : Nat := N.findIdx (fun y => decide (y = x))
def okName (x : Str) : Bool := !(x == ("__debug__" : Str)) && !(x == ("__classdict__" : Str))
def visB (sc : Scope) (x : Str) : Bool := match sc.names.lookup x with
  | some .local => true
  | some .cell => true
  | some .free => true
  | _ => false
theorem vis_of {sc : Scope} {x : Str} (h : visB sc x = true) : Vis sc x := by
  unfold visB at h
  split at h
  · exact .inl (by assumption)
  · exact .inr (.inl (by assumption))
  · exact .inr (.inr (by assumption))
  · cases h
def glB (sc : Scope) (x : Str) : Bool := match sc.names.lookup x with
  | some .globalImplicit => true
  | _ => false
theorem gl_of {sc : Scope} {x : Str} (h : glB sc x = true) : sc.names.lookup x = some .globalImplicit := by
  unfold glB at h
  split at h
  · assumption
  · cases h
def locB (sc : Scope) (x : Str) : Bool := match sc.names.lookup x with
  | some .local => true
  | _ => false
theorem loc_of {sc : Scope} {x : Str} (h : locB sc x = true) : sc.names.lookup x = some .local := by
  unfold locB at h
  split at h
  · assumption
  · cases h
def celB (sc : Scope) (x : Str) : Bool := match sc.names.lookup x with
  | some .cell => true
  | _ => false
theorem cel_of {sc : Scope} {x : Str} (h : celB sc x = true) : sc.names.lookup x = some .cell := by
  unfold celB at h
  split at h
  · assumption
  · cases h
theorem ok1 {x : Str} (h : okName x = true) : (x == ("__debug__" : Str)) = false := by
  simp only [okName, Bool.and_eq_true, Bool.not_eq_true'] at h; exact h.1
theorem ok2 {x : Str} (h : okName x = true) : (x == ("__classdict__" : Str)) = false := by
  simp only [okName, Bool.and_eq_true, Bool.not_eq_true'] at h; exact h.2
def tName (cc : CC) (x : Str) (pos : Pos) : Option (CE cc (.Name x pos)) :=
  if ho : okName x = true then
    if h : visB cc.sc x = true then
      (if h1 : cc.N[idx cc.N x]? = some x then some ⟨mVar (idx cc.N x), fun G k call W X g => e_var g h1 (vis_of h) (ok1 ho) (ok2 ho)⟩ else none)
    else if hg : glB cc.sc x = true then
      (match hc : cc.con x with
      | some d => (match hs : simple d with
        | some v => some ⟨mCon d, fun G k call W X g => e_glo g (gl_of hg) hc hs (ok1 ho)⟩
        | none => none)
      | none =>
        if h : x = "str" then some ⟨mCon (.ty "str"), fun G k call W X g => e_tyName g (by subst h; decide) (gl_of hg) (by subst h; decide +kernel) (by subst h; decide) (ok1 ho)⟩
        else if h : x = "tuple" then some ⟨mCon (.ty "tuple"), fun G k call W X g => e_tyName g (by subst h; decide) (gl_of hg) (by subst h; decide +kernel) (by subst h; decide) (ok1 ho)⟩
        else if h : x = "list" then some ⟨mCon (.ty "list"), fun G k call W X g => e_tyName g (by subst h; decide) (gl_of hg) (by subst h; decide +kernel) (by subst h; decide) (ok1 ho)⟩
        else if h : x = "int" then some ⟨mCon (.ty "int"), fun G k call W X g => e_tyName g (by subst h; decide) (gl_of hg) (by subst h; decide +kernel) (by subst h; decide) (ok1 ho)⟩
        else if h : x = "bool" then some ⟨mCon (.ty "bool"), fun G k call W X g => e_tyName g (by subst h; decide) (gl_of hg) (by subst h; decide +kernel) (by subst h; decide) (ok1 ho)⟩
        else if h : x = "dict" then some ⟨mCon (.ty "dict"), fun G k call W X g => e_tyName g (by subst h; decide) (gl_of hg) (by subst h; decide +kernel) (by subst h; decide) (ok1 ho)⟩
        else none)
    else none
  else none

/-! ### argument lists -/
def tA (T : Tn) (cc : CC) : (es : List Expr) → Option (CA cc es)
  | [] => some ⟨aNil, rfl, fun _ _ _ _ _ _ => a_nil⟩
  | e :: es => if hn : notStar e = true then
      (T.e cc e).bind fun a => (tA T cc es).map fun r => ⟨aCons a.m r.m, by simp [hn, r.ns], fun G k call W X g => a_cons (a.ok G k call W X g) (r.ok G k call W X g) hn⟩
    else none
def tR_ (T : Tn) (cc : CC) : (es : List Expr) → Option (CR cc es)
  | [] => some ⟨rNil, rfl, fun _ _ _ _ _ _ => r_nil⟩
  | e :: es => if hn : notStar e = true then
      (T.e cc e).bind fun a => (tR_ T cc es).map fun r => ⟨rCons a.m r.m, by simp [hn, r.ns], fun G k call W X g => r_cons (a.ok G k call W X g) (r.ok G k call W X g) hn⟩
    else none

/-! ### and, or -/
def tAndE (T : Tn) (cc : CC) (pos : Pos) : (es : List Expr) → Option (CE cc (.BoolOp .And es pos))
  | [] => none
  | [a] => (T.e cc a).map fun c => ⟨c.m, fun G k call W X g => pe_one (c.ok G k call W X g)⟩
  | a :: b :: r => (T.e cc a).bind fun c => (tAndE T cc pos (b :: r)).map fun d => ⟨mAnd c.m d.m, fun G k call W X g => e_and g (c.ok G k call W X g) (d.ok G k call W X g)⟩
def tOrE (T : Tn) (cc : CC) (pos : Pos) : (es : List Expr) → Option (CE cc (.BoolOp .Or es pos))
  | [] => none
  | [a] => (T.e cc a).map fun c => ⟨c.m, fun G k call W X g => pe_one (c.ok G k call W X g)⟩
  | a :: b :: r => (T.e cc a).bind fun c => (tOrE T cc pos (b :: r)).map fun d => ⟨mOr c.m d.m, fun G k call W X g => e_or g (c.ok G k call W X g) (d.ok G k call W X g)⟩
structure CW (cc : CC) (e : Expr) where
  m : B
  ok : ∀ G k call W X, Good G k call cc W X → PW X e (tB_ G W call m)
def tAndB (T : Tn) (cc : CC) (pos : Pos) : (es : List Expr) → Option (CW cc (.BoolOp .And es pos))
  | [] => none
  | [a] => (T.b cc a).map fun c => ⟨c.m, fun G k call W X g => w_and1 (c.ok G k call W X g)⟩
  | a :: b :: r => (T.b cc a).bind fun c => (tAndB T cc pos (b :: r)).map fun d => ⟨bAnd c.m d.m, fun G k call W X g => w_and (c.ok G k call W X g) (d.ok G k call W X g)⟩
def tOrB (T : Tn) (cc : CC) (pos : Pos) : (es : List Expr) → Option (CW cc (.BoolOp .Or es pos))
  | [] => none
  | [a] => (T.b cc a).map fun c => ⟨c.m, fun G k call W X g => w_or1 (c.ok G k call W X g)⟩
  | a :: b :: r => (T.b cc a).bind fun c => (tOrB T cc pos (b :: r)).map fun d => ⟨bOr c.m d.m, fun G k call W X g => w_or (c.ok G k call W X g) (d.ok G k call W X g)⟩

/-! ### operators -/
structure OB (b : Bool) (op : Operator) where
  f : D → D → Option O
  ok : ∀ (G : GE) (X : Cx), X.K = G.K → G.bare = b → OpR X (binaryOp op) (r2 G f)
def tOp2 : (b : Bool) → (op : Operator) → Option (OB b op)
  | false, .Add => some ⟨addD, fun _ _ h hb => o_add h hb⟩
  | true, .Add => some ⟨addB, fun _ _ _ _ => o_addB⟩
  | _, .Sub => some ⟨subD, fun _ _ _ _ => o_sub⟩
  | _, .Mult => some ⟨mulD, fun _ _ _ _ => o_mul⟩
  | _, .Mod => some ⟨modD, fun _ _ _ _ => o_mod⟩
  | _, .FloorDiv => some ⟨fdivD, fun _ _ _ _ => o_fdiv⟩
  | _, .Pow => some ⟨powD, fun _ _ _ _ => o_pow⟩
  | _, _ => none
structure OC (op : CmpOp) where
  f : D → D → Option O
  ok : ∀ (G : GE) (X : Cx), X.K = G.K → X.A.units + 64 < cLine → OpR X (compareOp op) (r2 G f)
def tCmp2 : (op : CmpOp) → Option (OC op)
  | .Lt => some ⟨ltD, fun _ _ _ _ => o_lt⟩
  | .LtE => some ⟨leD, fun _ _ _ _ => o_le⟩
  | .Gt => some ⟨gtD, fun _ _ _ _ => o_gt⟩
  | .GtE => some ⟨geD, fun _ _ _ _ => o_ge⟩
  | .Eq => some ⟨eqD, fun _ _ h u => o_eq h u⟩
  | .NotEq => some ⟨neD, fun _ _ h u => o_ne h u⟩
  | .In => some ⟨inD, fun _ _ h _ => o_in h⟩
  | .NotIn => some ⟨notInD, fun _ _ h _ => o_notIn h⟩
  | .Is => some ⟨isNoneD, fun _ _ _ _ => o_isN⟩
  | .IsNot => some ⟨isNotNoneD, fun _ _ _ _ => o_isNotN⟩

/-! ### the built-ins -/
structure BF (x : Str) where
  f : List D → Option O
  ok : ∀ G k call cc W X, Good G k call cc W X → cc.sc.names.lookup x = some .globalImplicit → ∀ e es r p pos, PA X (e :: es) (tR G W call r) → (e :: es).all notStar = true → PE X (.Call (.Name x p) (e :: es) [] pos) (tE G W call (mBlt f r))
def bfOf (x : Str) : Option (BF x) :=
  if h : x = "len" then some ⟨lenD, fun G k call cc W X g hl e es r p pos ha hn => by subst h; exact e_blt g (b_len g.K) (by decide) hl PySem.boot_len ha hn (by decide) (by decide)⟩
  else if h : x = "abs" then some ⟨absD, fun G k call cc W X g hl e es r p pos ha hn => by subst h; exact e_blt g b_abs (by decide) hl (by decide +kernel) ha hn (by decide) (by decide)⟩
  else if h : x = "max" then some ⟨maxD, fun G k call cc W X g hl e es r p pos ha hn => by subst h; exact e_blt g (b_max g.calm) (by decide) hl (by decide +kernel) ha hn (by decide) (by decide)⟩
  else if h : x = "min" then some ⟨minD, fun G k call cc W X g hl e es r p pos ha hn => by subst h; exact e_blt g (b_min g.calm) (by decide) hl (by decide +kernel) ha hn (by decide) (by decide)⟩
  else if h : x = "sum" then some ⟨sumD, fun G k call cc W X g hl e es r p pos ha hn => by subst h; exact e_blt g (b_sum g.K g.calm) (by decide) hl (by decide +kernel) ha hn (by decide) (by decide)⟩
  else if h : x = "all" then some ⟨allD, fun G k call cc W X g hl e es r p pos ha hn => by subst h; exact e_blt g (b_all g.K g.calm) (by decide) hl (by decide +kernel) ha hn (by decide) (by decide)⟩
  else if h : x = "isinstance" then some ⟨isiD, fun G k call cc W X g hl e es r p pos ha hn => by subst h; exact e_blt g (b_isi g.K) (by decide) hl (by decide +kernel) ha hn (by decide) (by decide)⟩
  else if h : x = "int" then some ⟨intD, fun G k call cc W X g hl e es r p pos ha hn => by subst h; exact e_ty g b_int (by decide) hl (by decide +kernel) ha hn (by decide) (by decide)⟩
  else if h : x = "list" then some ⟨listOfD, fun G k call cc W X g hl e es r p pos ha hn => by subst h; exact e_ty g (b_list g.K) (by decide) hl (by decide +kernel) ha hn (by decide) (by decide)⟩
  else if h : x = "tuple" then some ⟨tupleOfD, fun G k call cc W X g hl e es r p pos ha hn => by subst h; exact e_ty g (b_tuple g.K) (by decide) hl (by decide +kernel) ha hn (by decide) (by decide)⟩
  else none
def tCall (T : Tn) (cc : CC) (f : Str) (p : Pos) (pos : Pos) : (es : List Expr) → Option (CE cc (.Call (.Name f p) es [] pos))
  | [] => none
  | e :: es => if hg : glB cc.sc f = true then
      (if hf : f ∈ cc.fns then
        (if ho : okName f = true then (tA T cc (e :: es)).map fun r => if f ∈ cc.cells then ⟨mCell (mCall f r.m), fun G k call W X g => e_cell (e_call g hf (gl_of hg) (r.ok G k call W X g) r.ns (ok1 ho))⟩ else ⟨mCall f r.m, fun G k call W X g => e_call g hf (gl_of hg) (r.ok G k call W X g) r.ns (ok1 ho)⟩ else none)
      else (bfOf f).bind fun b => (tR_ T cc (e :: es)).map fun r => ⟨mBlt b.f r.m, fun G k call W X g => b.ok G k call cc W X g (gl_of hg) e es r.m p pos (r.ok G k call W X g) r.ns⟩)
    else none

/-! ### targets -/
def tTgN (cc : CC) (x : Str) (pos : Pos) : Option (CTg cc (.Name x pos)) :=
  if h1 : cc.N[idx cc.N x]? = some x then
    (if hl : locB cc.sc x = true then some ⟨gN (idx cc.N x), rfl, fun G k call W X g => g_name g h1 (.inl (loc_of hl))⟩
    else if hc : (celB cc.sc x && cc.top) = true then some ⟨gN (idx cc.N x), rfl, fun G k call W X g => g_name g h1 (.inr ⟨(Bool.and_eq_true_iff.mp hc).2, cel_of (Bool.and_eq_true_iff.mp hc).1⟩)⟩
    else none)
  else none
def tTgs (cc : CC) : (es : List Expr) → Option (CTs cc es)
  | [] => some ⟨gsNil, [], rfl, rfl, fun _ _ _ _ _ _ => gs_nil, fun _ _ _ _ _ _ => gso_nil⟩
  | .Name x pos :: es => (tTgN cc x pos).bind fun a => (tTgs cc es).map fun r => ⟨gsCons a.m r.m, a.m :: r.ms, by simp [a.pl, r.pl], by simp [r.ln], fun G k call W X g => gs_cons (a.ok G k call W X g) (r.ok G k call W X g) a.pl, fun G k call W X g => gso_cons (a.ok G k call W X g) (r.oks G k call W X g) a.pl⟩
  | _ => none
def tTg (cc : CC) : (e : Expr) → Option (CTg cc e)
  | .Name x pos => tTgN cc x pos
  | .Tuple es n pos => (tTgs cc es).map fun r => ⟨gT es.length r.m, rfl, fun G k call W X g => g_tup g (r.ok G k call W X g) r.pl⟩
  | _ => none
def tGaN (cc : CC) (vs : List Nat) (x : Str) (pos : Pos) : Option (CGA cc vs (.Name x pos)) :=
  if h1 : cc.N[idx cc.N x]? = some x then
    (if hl : locB cc.sc x = true then (if hv : idx cc.N x ∈ vs then some ⟨gN (idx cc.N x), rfl, fun G k call W X g => ga_name g h1 (loc_of hl) hv⟩ else none) else none)
  else none
def tGas (cc : CC) (vs : List Nat) : (es : List Expr) → Option (CGAs cc vs es)
  | [] => some ⟨gsNil, rfl, fun _ _ _ _ _ _ => gas_nil⟩
  | .Name x pos :: es => (tGaN cc vs x pos).bind fun a => (tGas cc vs es).map fun r => ⟨gsCons a.m r.m, by simp [a.pl, r.pl], fun G k call W X g => gas_cons (a.ok G k call W X g) (r.ok G k call W X g) a.pl⟩
  | _ => none
def tGa (cc : CC) (vs : List Nat) : (e : Expr) → Option (CGA cc vs e)
  | .Name x pos => tGaN cc vs x pos
  | .Tuple es n pos => (tGas cc vs es).map fun r => ⟨gT es.length r.m, rfl, fun G k call W X g => ga_tup g (r.ok G k call W X g) r.pl⟩
  | _ => none
def namesOf : Expr → List Str
  | .Name x _ => [x]
  | .Tuple es _ _ => es.filterMap fun e => match e with | .Name x _ => some x | _ => none
  | _ => []

/-! ### what is walked -/
def noSet : Expr → Bool
  | .Set .. => false
  | _ => true
theorem fs_ok {it : Expr} (h : noSet it = true) (env : Env) (x : Value) : foldedSetIterable it env x = pure x := by
  unfold foldedSetIterable
  split
  · cases h
  · rfl
def tIv (T : Tn) (cc : CC) (tg : Expr) : (it : Expr) → Option (CIv cc tg it)
  | .Call (.Name f p) args [] pos =>
    if h : f = "range" ∧ glB cc.sc "range" = true then
      (match args with
      | [a] => (tR_ T cc [a]).map fun r => ⟨iRg1 r.m, fun env x => rfl, fun G k call W X g => by rw [h.1]; exact i_range1 g (gl_of h.2) (r.ok G k call W X g) (by simpa using r.ns)⟩
      | [a, b] => (tR_ T cc [a, b]).map fun r => ⟨iRg2 r.m, fun env x => rfl, fun G k call W X g => by rw [h.1]; exact i_range2 g (gl_of h.2) (r.ok G k call W X g) (by have := r.ns; simp at this; exact this.1) (by have := r.ns; simp at this; exact this.2)⟩
      | _ => none)
    else if h : f = "enumerate" ∧ glB cc.sc "enumerate" = true then
      (match args, tg with
      | [a], .Tuple elts kk tpos => (tA T cc [a]).map fun r => if hb : cc.bare = false then ⟨iEn r.m, fun env x => rfl, fun G k call W X g => by rw [h.1]; exact i_enum g (g.bare.trans hb) (gl_of h.2) (r.ok G k call W X g) (by simpa using r.ns)⟩
        else ⟨iEnB r.m, fun env x => rfl, fun G k call W X g => by rw [h.1]; exact i_enumB g (gl_of h.2) (r.ok G k call W X g) (by simpa using r.ns)⟩
      | _, _ => none)
    else (T.e cc (.Call (.Name f p) args [] pos)).map fun a => ⟨iVal a.m, fun env x => rfl, fun G k call W X g => i_val g (a.ok G k call W X g)⟩
  | it => if hs : noSet it = true then (T.e cc it).map fun a => ⟨iVal a.m, fs_ok hs, fun G k call W X g => i_val g (a.ok G k call W X g)⟩ else none

/-! ### comprehensions -/
theorem scope_comp {scope : Scope} {cl : List (Str × Addr)} {C : Addr} {env : Env} : (compEnvC scope cl C env).scope = relS scope env.scope := rfl
def CC.blk (cc : CC) (scope : Scope) : CC := { cc with sc := relS scope cc.sc, top := false }
theorem good_blk {G : GE} {k : Nat} {call : Call} {cc : CC} {W : WX} {X : Cx} (g : Good G k call cc W X) (scope : Scope) (s : Shared) (H : Hp) (C : Addr) (cl : List (Str × Addr)) (fp : List Addr) :
    Good G k call (cc.blk scope) noW (X.blk s H scope (compEnvC scope cl C X.env) fp) where
  N := g.N
  bare := g.bare
  nd := g.nd
  sc := by show relS scope X.env.scope = relS scope cc.sc; rw [g.sc]
  calm := g.calm
  K := g.K
  tk := takes0
  room := g.room
  fn := fun h => nomatch h
  po := PassesOwn.never
  blt := g.blt
  con := g.con
  fns := g.fns
structure CTt (cc : CC) (es : List Expr) where
  m : B
  ok : ∀ G k call W X, Good G k call cc W X → PTs X es (tB_ G W call m)
def bYes : B := fun _ s => .ok true s
theorem b_yes {G : GE} {W : WX} {call : Call} {X : Cx} : PTs X [] (tB_ G W call bYes) := ⟨fun pins s σ H Q I q => pts_nil.run pins s σ H Q I (by obtain ⟨s, Φ, c, a⟩ := q; exact a H c)⟩
def tTt (T : Tn) (cc : CC) : (es : List Expr) → Option (CTt cc es)
  | [] => some ⟨bYes, fun _ _ _ _ _ _ => b_yes⟩
  | [e] => (T.b cc e).map fun c => ⟨c.m, fun G k call W X g => pts_one (c.ok G k call W X g)⟩
  | _ => none
def tLc (T : Tn) (cc : CC) (elt tg it : Expr) (ifs : List Expr) (scope : Scope) (pos : Pos) : Option (CE cc (.ListComp elt [⟨tg, it, ifs, 0⟩] scope pos)) :=
  let own : List (Str × Nat) := (namesOf tg).map fun x => (x, idx cc.N x)
  if hb : blkC cc.N cc.sc scope own = true then
    (tIv T cc tg it).bind fun i => (tGa (cc.blk scope) (own.map (·.2)) tg).bind fun t => (tTt T (cc.blk scope) ifs).bind fun c => (T.e (cc.blk scope) elt).map fun e =>
      ⟨mLc i.m t.m c.m e.m (own.map (·.2)), fun G k call W X g => e_lc g (i.ok G k call W X g) (blkOk_by hb) (fun s H C cl fp => t.ok _ _ _ _ _ (good_blk g scope s H C cl fp)) (fun s H C cl fp => c.ok _ _ _ _ _ (good_blk g scope s H C cl fp)) (fun s H C cl fp => e.ok _ _ _ _ _ (good_blk g scope s H C cl fp)) (i.fs _)⟩
  else none

/-! ### expressions -/
def tPart (T : Tn) (cc : CC) : (e : Option Expr) → Option (CP cc e)
  | none => some ⟨pNone, fun _ _ _ _ _ _ => p_none⟩
  | some e => (T.e cc e).map fun c => ⟨pSome c.m, fun G k call W X g => p_some (c.ok G k call W X g)⟩
def tCount (T : Tn) (cc : CC) (x : Expr) (name : Str) (p : Pos) (e : Expr) (pos : Pos) : Option (CE cc (.Call (.Attribute x name p) [e] [] pos)) :=
  if h : name = "count" ∧ cc.bare = true then
    (if hc : (notStar e && plainO x && (p.endLine == pos.line)) = true then
      (T.e cc x).bind fun a => (T.e cc e).map fun b => ⟨mCnt a.m b.m, fun G k call W X g => by
        simp only [Bool.and_eq_true] at hc
        obtain ⟨h1, h2⟩ := h
        subst h1
        exact e_count g (g.bare.trans h2) (a.ok G k call W X g) (b.ok G k call W X g) hc.1.1 hc.1.2 hc.2⟩
    else none)
  else none
def turnE (T : Tn) (cc : CC) : (e : Expr) → Option (CE cc e)
  | .Constant (.int i) j pos => some ⟨mCon (.int i), fun _ _ _ _ _ _ => e_int⟩
  | .Constant (.bool i) j pos => some ⟨mCon (.bl i), fun _ _ _ _ _ _ => e_bl⟩
  | .Constant (.str i) j pos => some ⟨mCon (.str i), fun _ _ _ _ _ _ => e_str⟩
  | .Constant .none j pos => some ⟨mCon .non, fun _ _ _ _ _ _ => e_non⟩
  | .Name x pos => tName cc x pos
  | .BoolOp .And es pos => tAndE T cc pos es
  | .BoolOp .Or es pos => tOrE T cc pos es
  | .UnaryOp .Not a pos => (T.e cc a).map fun c => ⟨mNot c.m, fun G k call W X g => e_not g (c.ok G k call W X g)⟩
  | .UnaryOp .USub a pos => (T.e cc a).map fun c => ⟨mOne negD c.m, fun G k call W X g => pe_una o_neg (c.ok G k call W X g)⟩
  | .BinOp a op b pos => (tOp2 cc.bare op).bind fun o => (T.e cc a).bind fun x => (T.e cc b).map fun y => ⟨mTwo o.f x.m y.m, fun G k call W X g => pe_bin (o.ok G X g.K g.bare) (x.ok G k call W X g) (y.ok G k call W X g)⟩
  | .Compare a [op] [b] pos => if hm : behindInMarks op b = false then
      (tCmp2 op).bind fun o => (T.e cc a).bind fun x => (T.e cc b).map fun y => ⟨mTwo o.f x.m y.m, fun G k call W X g => pe_cmp1 (o.ok G X g.K g.room.units) (x.ok G k call W X g) (y.ok G k call W X g) hm⟩
    else none
  | .Compare a [op, op'] [b, c] pos => if hm : behindInMarks op' c = false then
      (tCmp2 op).bind fun o => (tCmp2 op').bind fun o' => (T.e cc a).bind fun x => (T.e cc b).bind fun y => (T.e cc c).map fun z => ⟨mChain o.f o'.f x.m y.m z.m, fun G k call W X g => e_chain (o.ok G X g.K g.room.units) (o'.ok G X g.K g.room.units) (x.ok G k call W X g) (y.ok G k call W X g) (z.ok G k call W X g) hm⟩
    else none
  | .IfExp c a b pos => (T.b cc c).bind fun t => (T.e cc a).bind fun x => (T.e cc b).map fun y => ⟨mIf t.m x.m y.m, fun G k call W X g => e_if (t.ok G k call W X g) (x.ok G k call W X g) (y.ok G k call W X g)⟩
  | .Tuple es n pos => (tA T cc es).map fun r => ⟨mTup r.m, fun G k call W X g => e_tup (r.ok G k call W X g)⟩
  | .List es pos => (tA T cc es).map fun r => ⟨mLst r.m, fun G k call W X g => e_lst (r.ok G k call W X g)⟩
  | .Subscript a (.Slice lo hi none p2) pos => (T.e cc a).bind fun x => (tPart T cc lo).bind fun l => (tPart T cc hi).map fun h => ⟨mSl x.m l.m h.m, fun G k call W X g => e_sl (o_sl g.K) (x.ok G k call W X g) (l.ok G k call W X g) (h.ok G k call W X g)⟩
  | .Subscript a i pos => if hs : notSlice i = true then
      (T.e cc a).bind fun x => (T.e cc i).map fun y => ⟨mTwo atD x.m y.m, fun G k call W X g => pe_sub1 (o_at g.K) (x.ok G k call W X g) (y.ok G k call W X g) (plain_ix hs)⟩
    else none
  | .Dict [] [] pos => some ⟨mDic0, fun _ _ _ _ _ _ => e_dic0⟩
  | .Call (.Name f p) es [] pos => tCall T cc f p pos es
  | .Call (.Attribute x name p) [e] [] pos => tCount T cc x name p e pos
  | .ListComp elt [⟨tg, it, ifs, 0⟩] scope pos => tLc T cc elt tg it ifs scope pos
  | _ => none
def plainB : Expr → Bool
  | .UnaryOp .Not _ _ => false
  | .BoolOp .. => false
  | .IfExp .. => false
  | .Compare .. => false
  | _ => true
theorem plainB_ok {e : Expr} (h : plainB e = true) (env : Env) (whole : Sem Value) : isTrue e env whole = (do let v ← whole; standAt e.pos; holding [v] (truthy v)) := by
  cases e with
  | UnaryOp op a p => cases op <;> first | rfl | cases h
  | BoolOp => cases h
  | IfExp => cases h
  | Compare => cases h
  | _ => rfl
def turnB (T : Tn) (cc : CC) : (e : Expr) → Option (CB cc e)
  | .UnaryOp .Not a pos => (T.b cc a).map fun c => ⟨bNot c.m, fun G k call W X g => t_not (c.ok G k call W X g)⟩
  | .BoolOp .And es pos => (tAndB T cc pos es).map fun c => ⟨c.m, fun G k call W X g => (c.ok G k call W X g).pt⟩
  | .BoolOp .Or es pos => (tOrB T cc pos es).map fun c => ⟨c.m, fun G k call W X g => (c.ok G k call W X g).pt⟩
  | .Compare a [op] [b] pos => if hm : behindInMarks op b = false then
      (tCmp2 op).bind fun o => (T.e cc a).bind fun x => (T.e cc b).map fun y => ⟨bCmp (mTwo o.f x.m y.m), fun G k call W X g => t_cmp1 (o.ok G X g.K g.room.units) (x.ok G k call W X g) (y.ok G k call W X g) hm⟩
    else none
  | e => if hp : plainB e = true then (T.e cc e).map fun c => ⟨bVal c.m, fun G k call W X g => t_val g (c.ok G k call W X g) (plainB_ok hp)⟩ else none
end Mi

set_option Elab.async false
set_option linter.all false
set_option maxRecDepth 100000
set_option maxHeartbeats 4000000
/-! Mi, part P: the turner for statements and defs. -/
namespace Mi
open PySem PySem.Spec PyProof.Rows L2

def isStar : Expr → Bool
  | .Starred .. => true
  | _ => false
def swNames (sc : Scope) (ts : List Expr) : List Str := ts.filterMap fun
      | .Name id pos => if (sc.names.lookup id == some .local && pos.line == (ts.head?.map (·.pos.line)).getD 0) = true then some id else none
      | _ => none
def swN (sc : Scope) (ts vs : List Expr) : Option (Option (List Str)) :=
  if (!(ts.length == 2 || ts.length == 3) || vs.length != ts.length) = true then some none
  else if (vs.any fun | .Starred .. => true | _ => false) = true then some none
  else if ((swNames sc ts).length != ts.length || (swNames sc ts).eraseDups.length != (swNames sc ts).length) = true then some none
  else if vs.all (foldedForSure 8) = true then some none
  else if vs.all (constantsAlone 8) = true then none
  else some (some (swNames sc ts))
theorem sw_eq {ts vs : List Expr} {env : Env} {r : Option (List Str)} {k k2 : Nat} {p p2 : Pos} (hk : env.scope.kind = .function) (h : swN env.scope ts vs = some r) : swappedStores [.Tuple ts k p] (.Tuple vs k2 p2) env = pure r := by
  have hb : (env.blockKind != .function) = false := by unfold Env.blockKind; rw [hk]; rfl
  unfold swN at h
  unfold swappedStores
  show (if (!(ts.length == 2 || ts.length == 3) || vs.length != ts.length || env.blockKind != .function) = true then _ else _) = _
  rw [hb, Bool.or_false]
  by_cases h1 : (!(ts.length == 2 || ts.length == 3) || vs.length != ts.length) = true
  · rw [if_pos h1] at h ⊢; cases h; rfl
  · rw [if_neg h1] at h ⊢
    by_cases h2 : (vs.any fun | .Starred .. => true | _ => false) = true
    · rw [if_pos h2] at h; cases h; exact if_pos h2
    · rw [if_neg h2] at h
      refine (if_neg h2).trans ?_
      by_cases h3 : ((swNames env.scope ts).length != ts.length || (swNames env.scope ts).eraseDups.length != (swNames env.scope ts).length) = true
      · rw [if_pos h3] at h; cases h; exact if_pos h3
      · rw [if_neg h3] at h
        refine (if_neg h3).trans ?_
        by_cases h4 : vs.all (foldedForSure 8) = true
        · rw [if_pos h4] at h; cases h; exact if_pos h4
        · rw [if_neg h4] at h
          refine (if_neg h4).trans ?_
          by_cases h5 : vs.all (constantsAlone 8) = true
          · rw [if_pos h5] at h; cases h
          · rw [if_neg h5] at h; cases h
            exact if_neg h5
def noTup : Expr → Bool
  | .Tuple .. => false
  | _ => true
theorem sw_noTup {tg e : Expr} {env : Env} (h : noTup e = true) : swappedStores [tg] e env = pure none := by
  cases e <;> first | (cases tg <;> rfl) | cases h

/-! ### x op= e of ints -/
section
variable {G : GE} {k : Nat} {call : Call} {cc : CC} {W : WX} {X : Cx}
def cAug (i : Nat) (f : Int → Int → Int) (m : E) : C := fun call s => match s.σ[i]? with
  | some (some (.fz (.int a))) => (m call s).flow fun y s1 => (match peek s1 y with
    | some (.int b) => .nx ⟨s1.σ.set i (some (.fz (.int (f a b)))), s1.h⟩
    | _ => .bad)
  | _ => .bad
theorem s_aug (g : Good G k call cc W X) {op : Operator} {f : Int → Int → Int} {i : Nat} {x : Str} {e : Expr} {m : E} {p pos : Pos} (hi : cc.N[i]? = some x) (hx : cc.sc.names.lookup x = some .local ∨ (cc.top = true ∧ cc.sc.names.lookup x = some .cell)) (he : PE X e (tE G W call m)) (hp : PIp X op (ipI f)) :
    PS X (.AugAssign (.Name x p) op e pos) (tS G W call (cAug i f m)) := by
  have hl : Loc X.env.scope x := by
    rw [g.sc]
    rcases hx with h | ⟨_, h⟩
    · exact .inl h
    · exact .inr h
  have hf : X.fn x = true ∨ X.env.scope.names.lookup x = some .local := by
    rw [g.sc]
    rcases hx with h | ⟨h, _⟩
    · exact .inr h
    · exact .inl (g.fn h x)
  refine (ps_aug (i := i) (by rw [g.N]; exact g.nd) (by rw [g.N]; exact hi) hl he hp hf).of fun D σ H q => ?_
  obtain ⟨s, Φ, nb, c, q⟩ := q
  unfold cAug at q
  split at q
  · rename_i a ea
    obtain ⟨v, ev, c0⟩ := c.name ea
    have evi : v = .int a := by
      obtain ⟨ρ, M, cp⟩ := c0.parts
      exact c0.peek (r := .bor i) (d := .int a) (by simp) (by simp [Mi.peek, ea, Mi.frz, deref]) cp
    subst evi
    refine ⟨.int a, ev, s, Φ, c, (AftS.flow q).mono fun y s1 a1 => fun yv H1 c1 => ?_⟩
    split at a1
    · rename_i b eb
      obtain ⟨ρ, M, cp⟩ := c1.parts
      have eyv : yv = .int b := c1.peek (by simp) eb cp
      refine ⟨a, b, rfl, eyv, a1 _ H1 ?_⟩
      have hlen : i < s1.σ.length := by
        rw [c1.sl.len, ← c.sl.len]
        rcases Nat.lt_or_ge i s.σ.length with z | z
        · exact z
        · rw [List.getElem?_eq_none z] at ea; cases ea
      exact (c1.drop.simple (d := .int (f a b)) rfl).put nb hlen
    · exact a1.elim
  · exact q.elim
end

/-! ### statements -/
def tSs (T : Tn) (cc : CC) : (sts : List Stmt) → Option (CSs cc sts)
  | [] => some ⟨cNil, fun _ _ _ _ _ _ => s_nil⟩
  | st :: r => (T.s cc st).bind fun a => (tSs T cc r).map fun b => ⟨cSeq a.m b.m, fun G k call W X g => s_cons (a.ok G k call W X g) (b.ok G k call W X g)⟩
def tMeth1 (T : Tn) (cc : CC) (x : Expr) (name : Str) (p : Pos) (e : Expr) (pos spos : Pos) : Option (CS cc (.Expr (.Call (.Attribute x name p) [e] [] pos) spos)) :=
  if h : name = "append" then
    (if hc : (notStar e && plainO x && (p.endLine == pos.line)) = true then
      (T.e cc x).bind fun a => (T.e cc e).map fun b => ⟨cApp a.m b.m, fun G k call W X g => by
        simp only [Bool.and_eq_true] at hc
        subst h
        exact s_app g (a.ok G k call W X g) (b.ok G k call W X g) hc.1.1 hc.1.2 hc.2⟩
    else none)
  else none
def tMeth0 (T : Tn) (cc : CC) (x : Expr) (name : Str) (p : Pos) (pos spos : Pos) : Option (CS cc (.Expr (.Call (.Attribute x name p) [] [] pos) spos)) :=
  if h : name = "pop" then
    (if hc : (plainO x && (p.endLine == pos.line)) = true then
      (T.e cc x).map fun a => ⟨cPop a.m, fun G k call W X g => by
        simp only [Bool.and_eq_true] at hc
        subst h
        exact s_pop g (a.ok G k call W X g) hc.1 hc.2⟩
    else none)
  else none
def funK (sc : Scope) : Bool := match sc.kind with
  | .function => true
  | _ => false
theorem funK_of {sc : Scope} (h : funK sc = true) : sc.kind = .function := by
  unfold funK at h
  split at h
  · assumption
  · cases h
def tPar (T : Tn) (cc : CC) (ts vs : List Expr) (k1 : Nat) (p1 : Pos) (k2 : Nat) (p2 pos : Pos) : Option (CS cc (.Assign [.Tuple ts k1 p1] (.Tuple vs k2 p2) pos)) :=
  if hk : funK cc.sc = true then
    (match hs : swN cc.sc ts vs with
    | some none => (tR_ T cc vs).bind fun r => (tTgs cc ts).map fun t => ⟨cMul r.m t.ms, fun G k call W X g => s_mul g (r.ok G k call W X g) (t.oks G k call W X g) t.pl t.ln (sw_eq (by rw [g.sc]; exact funK_of hk) (by rw [g.sc]; exact hs))⟩
    | some (some names) => (match ts, vs, names, hs with
      | [.Name x px, .Name y py], [a, b], [x', y'], hs =>
        if hc : (x = x' ∧ y = y' ∧ cc.N[idx cc.N x]? = some x ∧ cc.N[idx cc.N y]? = some y ∧ idx cc.N x ≠ idx cc.N y ∧ locB cc.sc x = true ∧ locB cc.sc y = true) then
          (tR_ T cc [a, b]).map fun r => ⟨cMul r.m [gN (idx cc.N x), gN (idx cc.N y)], fun G k call W X g => by
            obtain ⟨rfl, rfl, h1, h2, h3, h4, h5⟩ := hc
            exact s_par2 g h1 h2 h3 (loc_of h4) (loc_of h5) (r.ok G k call W X g) (sw_eq (by rw [g.sc]; exact funK_of hk) (by rw [g.sc]; exact hs))⟩
        else none
      | [.Name x px, .Name y py, .Name z pz], [a, b, c], [x', y', z'], hs =>
        if hc : (x = x' ∧ y = y' ∧ z = z' ∧ cc.N[idx cc.N x]? = some x ∧ cc.N[idx cc.N y]? = some y ∧ cc.N[idx cc.N z]? = some z ∧ idx cc.N x ≠ idx cc.N y ∧ idx cc.N x ≠ idx cc.N z ∧ idx cc.N y ≠ idx cc.N z ∧ locB cc.sc x = true ∧ locB cc.sc y = true ∧ locB cc.sc z = true) then
          (tR_ T cc [a, b, c]).map fun r => ⟨cMul r.m [gN (idx cc.N x), gN (idx cc.N y), gN (idx cc.N z)], fun G k call W X g => by
            obtain ⟨rfl, rfl, rfl, h1, h2, h3, h4, h5, h6, h7, h8, h9⟩ := hc
            exact s_par3 g h1 h2 h3 h4 h5 h6 (loc_of h7) (loc_of h8) (loc_of h9) (r.ok G k call W X g) (sw_eq (by rw [g.sc]; exact funK_of hk) (by rw [g.sc]; exact hs))⟩
        else none
      | _, _, _, _ => none)
    | none => none)
  else none
def tSetLc (T : Tn) (cc : CC) (y : Str) (py : Pos) (elt tg it : Expr) (ifs : List Expr) (scope : Scope) (pos spos : Pos) : Option (CS cc (.Assign [.Name y py] (.ListComp elt [⟨tg, it, ifs, 0⟩] scope pos) spos)) :=
  let own : List (Str × Nat) := (namesOf tg).map fun x => (x, idx cc.N x)
  if hb : blkC cc.N cc.sc scope own = true then
    (if hc : (cc.N[idx cc.N y]? = some y ∧ locB cc.sc y = true ∧ funK cc.sc = true ∧ (py.line == pos.line) = true ∧ (scope.names.any fun (n, k) => n == y && (k == .local || k == .cell)) = false) then
      (tIv T cc tg it).bind fun i => (tGa (cc.blk scope) (own.map (·.2)) tg).bind fun t => (tTt T (cc.blk scope) ifs).bind fun c => (T.e (cc.blk scope) elt).map fun e =>
        ⟨cAsg (mLc i.m t.m c.m e.m (own.map (·.2))) (gN (idx cc.N y)), fun G k call W X g => s_setLc g hc.1 (loc_of hc.2.1) (funK_of hc.2.2.1) hc.2.2.2.1 hc.2.2.2.2 (i.ok G k call W X g) (blkOk_by hb) (fun s H C cl fp => t.ok _ _ _ _ _ (good_blk g scope s H C cl fp)) (fun s H C cl fp => c.ok _ _ _ _ _ (good_blk g scope s H C cl fp)) (fun s H C cl fp => e.ok _ _ _ _ _ (good_blk g scope s H C cl fp)) (i.fs _)⟩
    else none)
  else none
theorem sw_cell {y : Str} {py : Pos} {elt : Expr} {gs : List Comprehension} {scope : Scope} {pos : Pos} {l : Nat} {env : Env} (h : env.scope.names.lookup y = some .cell) : swapsWith (.ListComp elt gs scope pos) (some (.Name y py)) l env = pure false := by
  unfold swapsWith
  have hk : env.kindOf y = some .cell := h
  simp only [hk]
  have h2 : ((some NameKind.cell == some NameKind.local) : Bool) = false := by decide
  simp [h2]
def tSetLcC (T : Tn) (cc : CC) (y : Str) (py : Pos) (elt tg it : Expr) (ifs : List Expr) (scope : Scope) (pos spos : Pos) : Option (CS cc (.Assign [.Name y py] (.ListComp elt [⟨tg, it, ifs, 0⟩] scope pos) spos)) :=
  if hc : (celB cc.sc y && cc.top) = true then
    (if h1 : cc.N[idx cc.N y]? = some y then
      (tLc T cc elt tg it ifs scope pos).map fun a => ⟨cAsg a.m (gN (idx cc.N y)), fun G k call W X g =>
        have hg : PG X (.Name y py) (tG G (gN (idx cc.N y))) := g_name g h1 (.inr ⟨(Bool.and_eq_true_iff.mp hc).2, cel_of (Bool.and_eq_true_iff.mp hc).1⟩)
        have hsw : swapsWithSole [.Name y py] (.ListComp elt [⟨tg, it, ifs, 0⟩] scope pos) spos.line X.env = pure false := by
          show swapsWith (.ListComp elt [⟨tg, it, ifs, 0⟩] scope pos) (some (.Name y py)) spos.line X.env = pure false
          exact sw_cell (by rw [g.sc]; exact cel_of (Bool.and_eq_true_iff.mp hc).1)
        (ps_asg (a.ok G k call W X g) hg hsw rfl rfl).of fun D σ H q => tAsg_of q⟩
    else none)
  else none
def turnS (T : Tn) (cc : CC) : (st : Stmt) → Option (CS cc st)
  | .Return (some e) pos => (T.e cc e).map fun a => ⟨cRet a.m, fun G k call W X g => s_ret (a.ok G k call W X g)⟩
  | .Return none pos => some ⟨cRetN, fun _ _ _ _ _ _ => s_retN⟩
  | .Pass pos => some ⟨cPass, fun _ _ _ _ _ _ => s_pass⟩
  | .Break pos => some ⟨cBrk, fun _ _ _ _ _ _ => s_brk⟩
  | .Continue pos => some ⟨cCnt, fun _ _ _ _ _ _ => s_cnt⟩
  | .If c a b pos => (T.b cc c).bind fun x => (tSs T cc a).bind fun y => (tSs T cc b).map fun z => ⟨cIf x.m y.m z.m, fun G k call W X g => s_if (x.ok G k call W X g) (y.ok G k call W X g) (z.ok G k call W X g)⟩
  | .For tg it b [] pos => (tIv T cc tg it).bind fun i => (tTg cc tg).bind fun t => (tSs T cc b).map fun y => ⟨cFor i.m t.m y.m, fun G k call W X g => s_for g (i.ok G k call W X g) (t.ok G k call W X g) (y.ok G k call W X g) (i.fs _)⟩
  | .While c b [] pos => (T.b cc c).bind fun x => (tSs T cc b).map fun y => ⟨cWhile x.m y.m, fun G k call W X g => s_while g (x.ok G k call W X g) (y.ok G k call W X g)⟩
  | .Expr (.Call (.Attribute x name p) [e] [] pos) spos => tMeth1 T cc x name p e pos spos
  | .Expr (.Call (.Attribute x name p) [] [] pos) spos => tMeth0 T cc x name p pos spos
  | .Expr e pos => if hn : noComp e = true then (T.e cc e).map fun a => ⟨cExpr a.m, fun G k call W X g => s_expr (a.ok G k call W X g) hn⟩ else none
  | .AugAssign (.Name x p) .Add e pos => if h1 : cc.N[idx cc.N x]? = some x then (if hl : locB cc.sc x = true then (T.e cc e).map fun a => ⟨cAug (idx cc.N x) (· + ·) a.m, fun G k call W X g => s_aug g h1 (.inl (loc_of hl)) (a.ok G k call W X g) ip_add⟩ else none) else none
  | .Assign [.Tuple ts k1 p1] (.Tuple vs k2 p2) pos => tPar T cc ts vs k1 p1 k2 p2 pos
  | .Assign [.Name y py] (.ListComp elt [⟨tg, it, ifs, 0⟩] scope pos) spos => (tSetLc T cc y py elt tg it ifs scope pos spos).orElse fun _ => tSetLcC T cc y py elt tg it ifs scope pos spos
  | .Assign [.Subscript x i p] e pos => if hn : noComp e = true then
      (if hs : notSlice i = true then (T.e cc e).bind fun a => (T.e cc x).bind fun b => (T.e cc i).map fun c => ⟨cSetL a.m b.m c.m, fun G k call W X g => s_setL g (a.ok G k call W X g) (b.ok G k call W X g) (c.ok G k call W X g) hn hs⟩ else none)
    else none
  | .Assign [tg] e pos => if hn : noComp e = true then
      (if hw : (noTup e || noSw tg) = true then (T.e cc e).bind fun a => (tTg cc tg).map fun t => ⟨cAsg a.m t.m, fun G k call W X g => s_asg (a.ok G k call W X g) (t.ok G k call W X g) hn (by
          rcases Bool.or_eq_true_iff.mp hw with h | h
          · exact sw_noTup h
          · exact sw_none h) t.pl⟩
      else none)
    else none
  | _ => none
def Tn.at : Nat → Tn
  | 0 => ⟨fun _ _ => none, fun _ _ => none, fun _ _ => none⟩
  | n + 1 => ⟨turnE (Tn.at n), turnB (Tn.at n), turnS (Tn.at n)⟩
def turn (cc : CC) (sts : List Stmt) : Option (CSs cc sts) := tSs (Tn.at 40) cc sts

/-! ### defs -/
structure MFn where
  N : List Str
  np : Nat
  body : C
def start0 (N : List Str) (ds : List D) : List (Option O) := ds.map (fun d => some (.fz d)) ++ List.replicate (N.length - ds.length) none
def runFn (mf : MFn) (call : Call) (ds : List D) (h : List O) : Res := if ds.length = mf.np then (match mf.body call ⟨start0 mf.N ds, h⟩ with
  | .rt o s => .ok o s.h
  | .nx s => .ok (.fz .non) s.h
  | .exc c d s => .exc c d s.h
  | _ => .bad) else .bad
def callN (tab : Str → Option MFn) : Nat → Call
  | 0 => fun _ _ _ => .bad
  | k + 1 => fun f ds h => match tab f with
    | some mf => runFn mf (callN tab k) ds h
    | none => .bad
section
variable {P : Program} {w : World} {mg : Str → Option Value} {base : Heap} {G : GE}
theorem slp_start : ∀ {ds : List D} {vs : List V} (n : Nat), ds.length = vs.length → slp (ds.map (fun d => some (.fz d)) ++ List.replicate n none) (vs.map some ++ List.replicate n none) = Fz ds vs
  | [], [], n, _ => by
    show slp (List.replicate n none) (List.replicate n none) = []
    induction n with
    | zero => rfl
    | succ n ih => rw [List.replicate_succ, List.replicate_succ]; exact ih
  | d :: ds, v :: vs, n, l => by
    show (O.fz d, v) :: slp (ds.map (fun d => some (.fz d)) ++ List.replicate n none) (vs.map some ++ List.replicate n none) = (O.fz d, v) :: Fz ds vs
    rw [slp_start n (by simpa using l)]
  | [], _ :: _, _, l => by simp at l
  | _ :: _, [], _, l => by simp at l
theorem slok_start {ds : List D} {vs : List V} (n : Nat) (l : ds.length = vs.length) : SlOk (ds.map (fun d => some (O.fz d)) ++ List.replicate n none) (vs.map some ++ List.replicate n none) := by
  refine ⟨by simp [l], fun i o q => ?_⟩
  by_cases hi : i < ds.length
  · have hv : i < vs.length := by omega
    exact ⟨vs[i], by rw [List.getElem?_append_left (by simpa using hv)]; simp [hv]⟩
  · rw [List.getElem?_append_right (by simpa using hi)] at q
    simp only [List.getElem?_replicate] at q
    split at q <;> cases q
/-- a def keeps its promise, if those that it calls keep theirs -/
theorem fn_ok {x qual : Str} {st : Stmt} {a : Addr} {fd : FuncData} {N ps : List Str} {k : Nat} {call : Call} {con : Str → Option D} {names cells : List Str} {f : Str} {call' : Call}
    (F : Fun G.K x qual st a fd) (S : FnScope N ps (defScope st)) (c : CSs ⟨N, defScope st, con, names, true, G.bare, cells⟩ (defBody st))
    (hblt : ∀ x ∈ blts, mg x = none) (hcon : ∀ x d v, con x = some d → simple d = some v → ∃ u, mg x = some u ∧ RelV v u)
    (hfns : ∀ f ∈ names, ∃ a fd ps, G.fns f = some a ∧ mg f = some (.ref a) ∧ PySem.W.keepIn G.K (.ref a) = true ∧ Binds G.K fd ps [] ∧ FnOk P w G.K mg base (L2.CX P w) k a fd ps (spC G call f ps.length) ∧ ∀ ds h, ds.length ≠ ps.length → call f ds h = .bad)
    (hcall : ∀ ds h, call' f ds h = runFn ⟨N, ps.length, c.m⟩ call ds h) : FnOk P w G.K mg base (L2.CX P w) (k + 1) a fd ps (spC G call' f ps.length) := by
  refine F.okX S (fun vs H Q E h => h.1) fun cdv A outer s H vs Q E hr h => ?_
  obtain ⟨hl, h0, Φ, ds, ld, cf, aft⟩ := h
  have hpl : ps.length ≤ N.length := by have := congrArg List.length S.pre; rw [List.length_take] at this; omega
  have g : Good G k call ⟨N, defScope st, con, names, true, G.bare, cells⟩ (fun cls d _ H => E cls d H) (cxOf (L2.CX P w) P w G.K mg base N qual (defScope st) a cdv A outer s H E) :=
    ⟨rfl, rfl, S.nd, rfl, rfl, rfl, takes_of rfl rfl rfl rfl, hr, fun _ _ => rfl, passes_of rfl, hblt, hcon, hfns⟩
  refine ⟨_, c.ok G k call _ _ g, ⟨start0 N ds, h0⟩, ownR Φ, nob_ownR, ⟨?_, fun i v z => absurd z (nob_ownR i v), ?_⟩, ?_⟩
  · show SlOk (start0 N ds) (L2.start N vs)
    unfold start0 L2.start
    rw [ld]
    exact slok_start _ ld
  · show Cf G H h0 (slp (start0 N ds) (L2.start N vs) ++ ow (ownR Φ))
    unfold start0 L2.start
    rw [ld, slp_start _ ld, ow_ownR]
    exact cf
  · rw [hcall] at aft
    simp only [runFn, ld.trans hl, if_true] at aft
    cases e : c.m call ⟨start0 N ds, h0⟩ with
    | nx s1 =>
      simp only [e] at aft
      intro σ1 H1 c1
      refine aft .non H1 ?_
      have c2 := (c1.simple (d := .non) rfl).cf
      rw [show ow ((R.own (.fz .non), V.non) :: ownR Φ) = (.fz .non, .non) :: Φ by show _ :: ow (ownR Φ) = _; rw [ow_ownR]] at c2
      exact Cf.dropN c2
    | rt o s1 =>
      simp only [e] at aft
      intro σ1 v H1 c1
      refine aft v H1 ?_
      have c2 := c1.cf
      rw [show ow ((R.own o, v) :: ownR Φ) = (o, v) :: Φ by show _ :: ow (ownR Φ) = _; rw [ow_ownR]] at c2
      exact Cf.dropN c2
    | exc cn d s1 =>
      simp only [e] at aft
      rintro σ1 cls dx H1 ⟨C, fl, b, v, e1, e2, e3, e4, c5⟩
      subst e1; subst e3
      refine aft C fl b v H1 e2 e4 ?_
      have c2 := c5.cf
      rw [show ow ((R.own (.fz d), v) :: ownR Φ) = (.fz d, v) :: Φ by show _ :: ow (ownR Φ) = _; rw [ow_ownR]] at c2
      exact Cf.dropN c2
    | bk s1 => simp only [e] at aft; exact aft.elim
    | ct s1 => simp only [e] at aft; exact aft.elim
    | bad => simp only [e] at aft; exact aft.elim
/-- what stands behind the name of a def -/
structure Row (G : GE) (mg : Str → Option Value) (tab : Str → Option MFn) (con : Str → Option D) (names cells : List Str) (f : Str) : Prop where
  ex : ∃ (x qual : Str) (st : Stmt) (a : Addr) (fd : FuncData) (N ps : List Str) (c : CSs ⟨N, defScope st, con, names, true, G.bare, cells⟩ (defBody st)),
    Fun G.K x qual st a fd ∧ FnScope N ps (defScope st) ∧ Binds G.K fd ps [] ∧ G.fns f = some a ∧ mg f = some (.ref a) ∧ tab f = some ⟨N, ps.length, c.m⟩
theorem all_ok {tab : Str → Option MFn} {con : Str → Option D} {names cells : List Str} (rows : ∀ f ∈ names, Row G mg tab con names cells f)
    (hblt : ∀ x ∈ blts, mg x = none) (hcon : ∀ x d v, con x = some d → simple d = some v → ∃ u, mg x = some u ∧ RelV v u) (k : Nat) :
    ∀ f ∈ names, ∃ a fd ps, G.fns f = some a ∧ mg f = some (.ref a) ∧ PySem.W.keepIn G.K (.ref a) = true ∧ Binds G.K fd ps [] ∧ FnOk P w G.K mg base (L2.CX P w) k a fd ps (spC G (callN tab k) f ps.length) ∧ ∀ ds h, ds.length ≠ ps.length → callN tab k f ds h = .bad := by
  induction k with
  | zero =>
    intro f hf
    obtain ⟨x, qual, st, a, fd, N, ps, c, F, S, b, g1, g2, t⟩ := (rows f hf).ex
    refine ⟨a, fd, ps, g1, g2, F.kp, b, ⟨fun vs H Q E h => h.1, fun A outer s H args us vs Q E hr he hb hv h => ?_⟩, fun ds h _ => rfl⟩
    obtain ⟨_, h0, Φ, ds, ld, cf, aft⟩ := h
    exact aft.elim
  | succ k ih =>
    intro f hf
    obtain ⟨x, qual, st, a, fd, N, ps, c, F, S, b, g1, g2, t⟩ := (rows f hf).ex
    refine ⟨a, fd, ps, g1, g2, F.kp, b, fn_ok F S c hblt hcon ih fun ds h => by simp only [callN, t], fun ds h hl => ?_⟩
    simp only [callN, t, runFn, if_neg hl]
end
end Mi

set_option Elab.async false
set_option linter.all false
set_option maxRecDepth 100000
set_option maxHeartbeats 4000000
/-! Mi, part Q: a law's end. -/
namespace Mi
open PySem PySem.Spec PyProof.Rows L2

def dedup : List Str → List Str → List Str
  | [], acc => acc.reverse
  | x :: r, acc => if acc.contains x then dedup r acc else dedup r (x :: acc)
/-- the names of a def by slots -/
def mkN (st : Stmt) : List Str :=
  dedup ((defArgs st).args.map (·.arg) ++ ((defScope st).names.filterMap fun (n, k) => match k with | .local => some n | .cell => some n | _ => none) ++ ((defScope st).more.filterMap fun (n, c) => match c with | .str x => if n == ("fast" : Str) then some x else none | _ => none)) []
def mkP (st : Stmt) : List Str := (defArgs st).args.map (·.arg)
def conOf (l : List (Str × D)) (x : Str) : Option D := match l with
  | [] => none
  | (y, d) :: r => if x = y then some d else conOf r x
def ccOf (con : Str → Option D) (names cells : List Str) (bare : Bool) (st : Stmt) : CC := ⟨mkN st, defScope st, con, names, true, bare, cells⟩
def funScB (N ps : List Str) (sc : Scope) : Bool :=
  funK sc && !sc.isCoroutine && !sc.isGenerator && decide N.Nodup && decide (N.take ps.length = ps) && ps.all (fun x => locB sc x || celB sc x) && sc.names.all (fun y => match y.2 with | .free => false | _ => true)
theorem funSc_of {N ps : List Str} {sc : Scope} (h : funScB N ps sc = true) : FnScope N ps sc := by
  simp only [funScB, Bool.and_eq_true, Bool.not_eq_true', decide_eq_true_eq, List.all_eq_true] at h
  obtain ⟨⟨⟨⟨⟨⟨h1, h2⟩, h3⟩, h4⟩, h5⟩, h6⟩, h7⟩ := h
  refine ⟨funK_of h1, h2, h3, h4, h5, fun x hx => ?_, fun y hy e => ?_⟩
  · have := h6 x hx
    simp only [Bool.or_eq_true] at this
    rcases this with z | z
    · exact .inl (loc_of z)
    · exact .inr (cel_of z)
  · have := h7 y hy
    rw [e] at this
    cases this
/-- a def of the text: its tree is turned into m -/
theorem row_mk {G : GE} {mg : Str → Option Value} {tab : Str → Option MFn} {con : Str → Option D} {names cells : List Str} {f x qual : Str} {st : Stmt} {a : Addr} {fd : FuncData} {m : C} {np : Nat}
    (F : Fun G.K x qual st a fd) (hS : funScB (mkN st) (mkP st) (defScope st) = true) (b : Binds G.K fd (mkP st) []) (g1 : G.fns f = some a) (g2 : mg f = some (.ref a)) (ht : tab f = some ⟨mkN st, np, m⟩) (hn : (mkP st).length = np)
    (hm : (turn (ccOf con names cells G.bare st) (defBody st)).map (·.m) = some m) : Row G mg tab con names cells f := by
  simp only [Option.map_eq_some_iff] at hm
  obtain ⟨c, _, e⟩ := hm
  exact ⟨x, qual, st, a, fd, mkN st, mkP st, c, F, funSc_of hS, b, g1, g2, by rw [ht, e, hn]⟩
/-- what is asked of a law's call -/
def spL (K : PySem.W.Frag) (bare : Bool) (call : Call) : Sp := fun vs H Q E => vs.length = 1 ∧ ∀ G : GE, G.K = K → G.bare = bare → spC G call "law" 1 vs H Q E
theorem spL_of {K : PySem.W.Frag} {bare : Bool} {call : Call} {H : Hp} {a : Addr} {ns : List Int} {h' : List O} (hS : SqL K H a (ns.map V.int)) (e : call "law" [.scr ns] [] = .ok (.fz (.bl true)) h') : spL K bare call [.ref a] H (fun v _ => v = .bl true) (fun _ _ _ => False) := by
  refine ⟨rfl, fun G hK _ => ⟨rfl, [], [], [.scr ns], rfl, ?_, ?_⟩⟩
  · refine Cf.fz1.mpr ⟨[], [], ⟨rfl, rfl, List.nodup_nil⟩, a, rfl, ?_⟩
    subst hK
    rcases hS with z | z
    · exact .inl ⟨z, by simp⟩
    · exact .inr z
  · rw [e]
    exact fun v H' c => c.bl
theorem fn_law {P : Program} {w : World} {mg : Str → Option Value} {base : Heap} {G : GE} {a : Addr} {fd : FuncData} {ps : List Str} {k : Nat} {call : Call} (hl : ps.length = 1) (F : FnOk P w G.K mg base (L2.CX P w) k a fd ps (spC G call "law" ps.length)) : FnOk P w G.K mg base (L2.CX P w) k a fd ps (spL G.K G.bare call) :=
  F.imp fun vs H Q E h => by rw [hl]; exact h.2 G rfl rfl
theorem cx_no {P : Program} {w : World} {H : Hp} {s : Shared} {e : Value} {s' : Shared} (h : L2.CX P w [] H s (fun _ _ _ => False) e s') : False := by
  obtain ⟨_, _, _, _, _, _, _, _, _, _, _, _, z⟩ := h
  exact z
/-- a simple constant of the module -/
def MgCon (mg : Str → Option Value) (x : Str) (d : D) : Prop := ∀ v, simple d = some v → ∃ u, mg x = some u ∧ RelV v u
theorem con_all {mg : Str → Option Value} : ∀ {l : List (Str × D)}, (∀ p ∈ l, MgCon mg p.1 p.2) → ∀ x d v, conOf l x = some d → simple d = some v → ∃ u, mg x = some u ∧ RelV v u
  | [], _, x, d, v, e, _ => by cases e
  | (y, d0) :: r, h, x, d, v, e, es => by
    unfold conOf at e
    split at e
    · rename_i hx
      cases e
      subst hx
      exact h (x, d0) (by simp) v es
    · exact con_all (fun p hp => h p (by simp [hp])) x d v e es
end Mi

set_option Elab.async false
set_option linter.all false
set_option maxRecDepth 100000
set_option maxHeartbeats 4000000
/-! Mi, part S: reckoning with what is turned: loops, plain lemmas. -/
namespace Mi
open PySem PySem.Spec PyProof.Rows L2

/-- a comprehension whose turns change nothing: filter and map -/
theorem lcL_map {call : Call} {g : Tg} {tt : B} {te : E} {vs : List Nat} {f : D → D} {p : D → Bool} {s : S} : ∀ (ds acc : List D),
    (∀ d ∈ ds, ∃ s1, g (.fz d) s = some s1 ∧ tt call s1 = .ok (p d) s1 ∧ (p d = true → ∃ r, te call s1 = .ok r s1 ∧ take s1 r = some (f d, s1)) ∧ (⟨wipeO s1.σ vs, s1.h⟩ : S) = s) →
    fitsB (acc.length + ds.length) = true → lcL call g tt te vs ds acc s = .ok (acc ++ (ds.filter p).map f) s
  | [], acc, _, _ => by simp [lcL]
  | d :: ds, acc, h, hf => by
    obtain ⟨s1, e1, e2, e3, e4⟩ := h d (by simp)
    have hf' : fitsB (acc.length + 1) = true := by
      simp only [fitsB, decide_eq_true_eq, List.length_cons] at hf ⊢; omega
    simp only [lcL, e1, e2]
    cases hp : p d with
    | false =>
      simp only []
      rw [e4, lcL_map ds acc (fun x hx => h x (by simp [hx])) (by simp only [fitsB, decide_eq_true_eq, List.length_cons] at hf ⊢; omega)]
      simp [hp]
    | true =>
      obtain ⟨r, e5, e6⟩ := e3 hp
      simp only [e5, e6, hf', if_true]
      rw [e4, lcL_map ds (acc ++ [f d]) (fun x hx => h x (by simp [hx])) (by simp only [fitsB, decide_eq_true_eq, List.length_cons, List.length_append, List.length_nil] at hf ⊢; omega)]
      simp [hp]
/-- a comprehension whose turns draw: what holds of the state goes on, each item is as P says -/
theorem lcL_draw {call : Call} {g : Tg} {te : E} {vs : List Nat} (I : S → Prop) (P : D → Prop) : ∀ (ds acc : List D) (s : S), I s → (∀ x ∈ acc, P x) →
    (∀ d ∈ ds, ∀ s, I s → ∃ s1, g (.fz d) s = some s1 ∧ ∃ r s2, te call s1 = .ok r s2 ∧ ∃ y s3, take s2 r = some (y, s3) ∧ P y ∧ I ⟨wipeO s3.σ vs, s3.h⟩) →
    fitsB (acc.length + ds.length) = true → ∃ out s', lcL call g bYes te vs ds acc s = .ok out s' ∧ out.length = acc.length + ds.length ∧ (∀ x ∈ out, P x) ∧ I s'
  | [], acc, s, hi, ha, _, _ => ⟨acc, s, rfl, by simp, ha, hi⟩
  | d :: ds, acc, s, hi, ha, h, hf => by
    obtain ⟨s1, e1, r, s2, e2, y, s3, e3, py, i3⟩ := h d (by simp) s hi
    have hf' : fitsB (acc.length + 1) = true := by
      simp only [fitsB, decide_eq_true_eq, List.length_cons] at hf ⊢; omega
    obtain ⟨out, s', e, l, pa, i'⟩ := lcL_draw I P ds (acc ++ [y]) _ i3 (fun x hx => by
      rcases List.mem_append.mp hx with z | z
      · exact ha x z
      · simp at z; subst z; exact py) (fun x hx => h x (by simp [hx])) (by simp only [fitsB, decide_eq_true_eq, List.length_cons, List.length_append, List.length_nil] at hf ⊢; omega)
    refine ⟨out, s', ?_, by simp at l ⊢; omega, pa, i'⟩
    simp only [lcL, e1, bYes, e2, e3, hf', if_true, e]
/-- a loop: what holds ahead of each turn -/
theorem forL_inv {call : Call} {g : Tg} {body : C} (I : S → Prop) : ∀ (ds : List D) (s : S), I s →
    (∀ d ∈ ds, ∀ s, I s → ∃ s1, g (.fz d) s = some s1 ∧ ∃ s2, (body call s1 = .nx s2 ∨ body call s1 = .ct s2) ∧ I s2) → ∃ s', forL call g body ds s = .nx s' ∧ I s'
  | [], s, hi, _ => ⟨s, rfl, hi⟩
  | d :: ds, s, hi, h => by
    obtain ⟨s1, e1, s2, e2, i2⟩ := h d (by simp) s hi
    obtain ⟨s', e, i'⟩ := forL_inv I ds s2 i2 fun x hx => h x (by simp [hx])
    refine ⟨s', ?_, i'⟩
    rcases e2 with e2 | e2 <;> simp only [forL, e1, e2, e]
theorem filt_true {α : Type} : ∀ l : List α, l.filter (fun _ => true) = l
  | [] => rfl
  | a :: l => by rw [List.filter_cons, if_pos rfl, filt_true l]
/-- the same without a test -/
theorem lcL_all {call : Call} {g : Tg} {te : E} {vs : List Nat} {f : D → D} {s : S} (ds : List D)
    (h : ∀ d ∈ ds, ∃ s1, g (.fz d) s = some s1 ∧ (∃ r, te call s1 = .ok r s1 ∧ take s1 r = some (f d, s1)) ∧ (⟨wipeO s1.σ vs, s1.h⟩ : S) = s) (hf : fitsB ds.length = true) : lcL call g bYes te vs ds [] s = .ok (ds.map f) s := by
  rw [lcL_map (p := fun _ => true) (f := f) ds [] (fun d hd => by
    obtain ⟨s1, e1, e2, e3⟩ := h d hd
    exact ⟨s1, e1, rfl, fun _ => e2, e3⟩) (by simpa using hf), filt_true, List.nil_append]
def fin : Fl → Res
  | .rt o s => .ok o s.h
  | .nx s => .ok (.fz .non) s.h
  | .exc c d s => .exc c d s.h
  | _ => .bad
theorem call_at {tab : Str → Option MFn} {f : Str} {mf : MFn} (h : tab f = some mf) {k : Nat} {ds : List D} {hp : List O} (σ : List (Option O)) (hn : ds.length = mf.np) (hs : start0 mf.N ds = σ) : callN tab (k + 1) f ds hp = fin (mf.body (callN tab k) ⟨σ, hp⟩) := by
  simp only [callN, h, runFn, hn, if_true, hs, fin]
  all_goals (cases mf.body (callN tab k) ⟨σ, hp⟩ <;> rfl)
theorem at0 {a : D} {r : List D} : atI (a :: r) 0 = some a := atI_nat (j := 0) rfl
theorem at1 {a b : D} {r : List D} : atI (a :: b :: r) 1 = some b := atI_nat (j := 1) rfl
theorem at2 {a b c : D} {r : List D} : atI (a :: b :: c :: r) 2 = some c := atI_nat (j := 2) rfl
theorem at3 {a b c d : D} {r : List D} : atI (a :: b :: c :: d :: r) 3 = some d := atI_nat (j := 3) rfl
theorem at4 {a b c d e : D} {r : List D} : atI (a :: b :: c :: d :: e :: r) 4 = some e := atI_nat (j := 4) rfl
theorem at5 {a b c d e f : D} {r : List D} : atI (a :: b :: c :: d :: e :: f :: r) 5 = some f := atI_nat (j := 5) rfl
theorem k_str : kitB "str" "str" = some true := by decide +kernel
theorem k_non : kitB "NoneType" "str" = some false := by decide +kernel
theorem k_int : kitB "int" "str" = some false := by decide +kernel
theorem k_bool : kitB "bool" "str" = some false := by decide +kernel
theorem k_tup : kitB "tuple" "str" = some false := by decide +kernel
theorem k_lst : kitB "list" "str" = some false := by decide +kernel
theorem k_dic : kitB "dict" "str" = some false := by decide +kernel
theorem t_str : kitB "str" "tuple" = some false := by decide +kernel
theorem t_non : kitB "NoneType" "tuple" = some false := by decide +kernel
theorem t_int : kitB "int" "tuple" = some false := by decide +kernel
theorem t_bool : kitB "bool" "tuple" = some false := by decide +kernel
theorem t_tup : kitB "tuple" "tuple" = some true := by decide +kernel
theorem t_lst : kitB "list" "tuple" = some false := by decide +kernel
theorem t_dic : kitB "dict" "tuple" = some false := by decide +kernel
theorem bools_map {α : Type} (f : α → Bool) : ∀ l : List α, boolsD (l.map fun c => .bl (f c)) = some (l.map f)
  | [] => rfl
  | a :: l => by simp only [List.map_cons, boolsD, bools_map f l, Option.map_some]
theorem le2 {n : Nat} : decide ((n : Int) ≤ 2) = decide (n ≤ 2) := by
  by_cases h : n ≤ 2
  · rw [decide_eq_true h, decide_eq_true (by omega)]
  · rw [decide_eq_false h, decide_eq_false (by omega)]
end Mi

set_option Elab.async false
set_option linter.all false
set_option maxRecDepth 100000
set_option maxHeartbeats 4000000
/-! Mi, part U: evaluation from the head on: each rule fires only where what is looked at is known (printed by mku.py). -/
namespace Mi
open PySem PySem.Spec PyProof.Rows L2
variable {call : Call} {s : S} {σ : List (Option O)} {h : List O} {α β : Type}
def ofS (b : Bool) (x y : α) : α := match b with | true => x | false => y
theorem xT_nx {f : S → Fl} : (Fl.nx s).then f = f s := rfl
theorem xT_rt {o : O} {f : S → Fl} : (Fl.rt o s).then f = .rt o s := rfl
theorem xT_bk {f : S → Fl} : (Fl.bk s).then f = .bk s := rfl
theorem xT_ct {f : S → Fl} : (Fl.ct s).then f = .ct s := rfl
theorem xT_exc {c : Str} {e : D} {f : S → Fl} : (Fl.exc c e s).then f = .exc c e s := rfl
theorem xT_bad {f : S → Fl} : (Fl.bad).then f = .bad := rfl
theorem x_seq {a b : C} : cSeq a b call s = (a call s).then (b call) := rfl
theorem x_nil : cNil call s = .nx s := rfl
theorem x_pass : cPass call s = .nx s := rfl
theorem x_brk : cBrk call s = .bk s := rfl
theorem x_cnt : cCnt call s = .ct s := rfl
theorem x_retN : cRetN call s = .rt (.fz .non) s := rfl
def kIf (a b : C) (call : Call) (x : Bool) (s : S) : Fl := if x then a call s else b call s
theorem x_if {c : B} {a b : C} : cIf c a b call s = (c call s).flow (kIf a b call) := rfl
theorem x_ifT {a b : C} : kIf a b call true s = a call s := rfl
theorem x_ifF {a b : C} : kIf a b call false s = b call s := rfl
def kGv (σ : List (Option O)) (h : List O) (i : Nat) : Option (Option O) → Option (O × S)
  | some (some o) => some (o, ⟨σ.set i none, h⟩)
  | _ => none
def kRet2 : Option (O × S) → Fl
  | some (o, s2) => .rt o s2
  | none => .bad
def kRet (x : R) (s : S) : Fl := kRet2 (give s x)
theorem x_ret {m : E} : cRet m call s = (m call s).flow kRet := rfl
theorem x_ret1 {x : R} : kRet x s = kRet2 (give s x) := rfl
theorem x_ret2 {o : O} : kRet2 (some (o, s)) = .rt o s := rfl
theorem x_gvO {o : O} : give s (.own o) = some (o, s) := rfl
theorem x_gvB {i : Nat} : give ⟨σ, h⟩ (.bor i) = kGv σ h i (σ[i]?) := by
  show (match σ[i]? with | some (some o) => _ | _ => _) = _; cases σ[i]? with
  | none => rfl
  | some z => cases z <;> rfl
theorem x_gv {o : O} {i : Nat} : kGv σ h i (some (some o)) = some (o, ⟨σ.set i none, h⟩) := rfl
theorem x_frz1 {d : D} : frz (.fz d) = d := rfl
theorem x_frz2 {l : List D} : frz (.lst l) = .lst l := rfl
theorem x_frz3 {ks : List Key} {l : List D} : frz (.dic ks l) = .dic ks l := rfl
theorem x_frz4 {c : Str} {fs : List Str} {l : List D} : frz (.ins c fs l) = .ins c fs l := rfl
def kPk (h : List O) : Option (Option O) → Option D
  | some (some o) => deref h (frz o)
  | _ => none
def kTk (σ : List (Option O)) (h : List O) (i : Nat) : Option (Option O) → Option (D × S)
  | some (some o) => some (frz o, ⟨σ.set i (some (.fz (frz o))), h⟩)
  | _ => none
def kKp (σ : List (Option O)) (h : List O) (i : Nat) : Option (Option O) → Option (O × S)
  | some (some o) => some (.fz (frz o), ⟨σ.set i (some (.fz (frz o))), h⟩)
  | _ => none
theorem x_pkO {o : O} : peek ⟨σ, h⟩ (.own o) = deref h (frz o) := rfl
theorem x_pkB {i : Nat} : peek ⟨σ, h⟩ (.bor i) = kPk h (σ[i]?) := by
  show (match σ[i]? with | some (some o) => _ | _ => _) = _; cases σ[i]? with
  | none => rfl
  | some z => cases z <;> rfl
theorem x_pk {o : O} : kPk h (some (some o)) = deref h (frz o) := rfl
theorem x_tkO {o : O} : take s (.own o) = some (frz o, s) := rfl
theorem x_tkB {i : Nat} : take ⟨σ, h⟩ (.bor i) = kTk σ h i (σ[i]?) := by
  show (match σ[i]? with | some (some o) => _ | _ => _) = _; cases σ[i]? with
  | none => rfl
  | some z => cases z <;> rfl
theorem x_tk {o : O} {i : Nat} : kTk σ h i (some (some o)) = some (frz o, ⟨σ.set i (some (.fz (frz o))), h⟩) := rfl
theorem x_kpO {o : O} : keep s (.own o) = some (o, s) := rfl
theorem x_kpB {i : Nat} : keep ⟨σ, h⟩ (.bor i) = kKp σ h i (σ[i]?) := by
  show (match σ[i]? with | some (some o) => _ | _ => _ : Option (D × S)).map _ = _; cases σ[i]? with
  | none => rfl
  | some z => cases z <;> rfl
theorem x_kp {o : O} {i : Nat} : kKp σ h i (some (some o)) = some (.fz (frz o), ⟨σ.set i (some (.fz (frz o))), h⟩) := rfl
/-- not a cell -/
def nl : D → Bool
  | .loc _ => false
  | _ => true
theorem x_dl {n : Nat} : deref h (.loc n) = (h[n]?).map frz := rfl
theorem x_d_non  : deref h (.non) = some (.non) := rfl
theorem x_d_bl {b : Bool} : deref h (.bl b) = some (.bl b) := rfl
theorem x_d_int {b : Int} : deref h (.int b) = some (.int b) := rfl
theorem x_d_str {b : Str} : deref h (.str b) = some (.str b) := rfl
theorem x_d_tup {b : List D} : deref h (.tup b) = some (.tup b) := rfl
theorem x_d_lst {b : List D} : deref h (.lst b) = some (.lst b) := rfl
theorem x_d_scr {b : List Int} : deref h (.scr b) = some (.scr b) := rfl
theorem x_d_ty {b : String} : deref h (.ty b) = some (.ty b) := rfl
theorem x_d_fn {b : Str} : deref h (.fn b) = some (.fn b) := rfl
theorem x_d_cls {b : Str} : deref h (.cls b) = some (.cls b) := rfl
theorem x_d_dic {ks : List Key} {l : List D} : deref h (.dic ks l) = some (.dic ks l) := rfl
theorem x_d_ins {c : Str} {fs : List Str} {l : List D} : deref h (.ins c fs l) = some (.ins c fs l) := rfl
theorem x_d_nl {d : D} (hd : nl d = true) : deref h d = some d := by cases d <;> first | rfl | cases hd
def kVar (i : Nat) (s : S) : Option (Option O) → Out R
  | some (some _) => .ok (.bor i) s
  | _ => .bad
theorem x_var {i : Nat} : mVar i call ⟨σ, h⟩ = kVar i ⟨σ, h⟩ (σ[i]?) := by
  show (match σ[i]? with | some (some o) => _ | _ => _) = _; cases σ[i]? with
  | none => rfl
  | some z => cases z <;> rfl
theorem x_var1 {i : Nat} {o : O} : kVar i s (some (some o)) = .ok (.bor i) s := rfl
theorem x_con {d : D} : mCon d call s = .ok (.own (.fz d)) s := rfl
theorem x_dic0 : mDic0 call s = .ok (.own (.dic [] [])) s := rfl
def kA3 (d : D) (ds : List D) (s : S) : Out (List D) := .ok (d :: ds) s
def kA2 (r : As) (call : Call) : Option (D × S) → Out (List D)
  | some (d, s2) => (r call s2).bind (kA3 d)
  | none => .bad
def kA1 (r : As) (call : Call) (x : R) (s : S) : Out (List D) := kA2 r call (take s x)
def kR2 (x : R) (rs : List R) (s : S) : Out (List R) := .ok (x :: rs) s
def kR1 (r : AsR) (call : Call) (x : R) (s : S) : Out (List R) := (r call s).bind (kR2 x)
theorem x_aNil : aNil call s = .ok [] s := rfl
theorem x_aCons {a : E} {r : As} : aCons a r call s = (a call s).bind (kA1 r call) := rfl
theorem x_a1 {r : As} {x : R} : kA1 r call x s = kA2 r call (take s x) := rfl
theorem x_a2 {r : As} {e : D} : kA2 r call (some (e, s)) = (r call s).bind (kA3 e) := rfl
theorem x_a3 {e : D} {ds : List D} : kA3 e ds s = .ok (e :: ds) s := rfl
theorem x_rNil : rNil call s = .ok [] s := rfl
theorem x_rCons {a : E} {r : AsR} : rCons a r call s = (a call s).bind (kR1 r call) := rfl
theorem x_r1 {r : AsR} {x : R} : kR1 r call x s = (r call s).bind (kR2 x) := rfl
theorem x_r2 {x : R} {rs : List R} : kR2 x rs s = .ok (x :: rs) s := rfl
def kT3 (f : D → D → Option O) (d1 d2 : D) : Option R := (f d1 d2).map R.own
def kT2 (f : D → D → Option O) (p2 : Option D) (d1 : D) : Option R := p2.bind (kT3 f d1)
def kTb (f : D → D → Option O) (x y : R) (s : S) : Out R := lift s ((peek s x).bind (kT2 f (peek s y)))
def kTa (f : D → D → Option O) (b : E) (call : Call) (x : R) (s : S) : Out R := (b call s).bind (kTb f x)
def kO2 (f : D → Option O) (d1 : D) : Option R := (f d1).map R.own
def kO (f : D → Option O) (x : R) (s : S) : Out R := lift s ((peek s x).bind (kO2 f))
theorem x_two {f : D → D → Option O} {a b : E} : mTwo f a b call s = (a call s).bind (kTa f b call) := rfl
theorem x_ta {f : D → D → Option O} {b : E} {x : R} : kTa f b call x s = (b call s).bind (kTb f x) := rfl
theorem x_tb {f : D → D → Option O} {x y : R} : kTb f x y s = lift s ((peek s x).bind (kT2 f (peek s y))) := rfl
theorem x_t2 {f : D → D → Option O} {p : D} {e : D} : kT2 f (some p) e = kT3 f e p := rfl
theorem x_t3 {f : D → D → Option O} {d e : D} : kT3 f d e = (f d e).map R.own := rfl
theorem x_one {f : D → Option O} {a : E} : mOne f a call s = (a call s).bind (kO f) := rfl
theorem x_o {f : D → Option O} {x : R} : kO f x s = lift s ((peek s x).bind (kO2 f)) := rfl
theorem x_o2 {f : D → Option O} {e : D} : kO2 f e = (f e).map R.own := rfl
def kTup (ds : List D) (s : S) : Out R := if fitsB ds.length then .ok (.own (.fz (.tup ds))) s else .bad
def kLst (ds : List D) (s : S) : Out R := if fitsB ds.length then .ok (.own (.lst ds)) s else .bad
theorem x_tup {r : As} : mTup r call s = (r call s).bind kTup := rfl
theorem x_lst {r : As} : mLst r call s = (r call s).bind kLst := rfl
theorem x_tupK {ds : List D} (hf : ds.length ≤ 100000) : kTup ds s = .ok (.own (.fz (.tup ds))) s := by simp [kTup, fitsB, hf]
theorem x_lstK {ds : List D} (hf : ds.length ≤ 100000) : kLst ds s = .ok (.own (.lst ds)) s := by simp [kLst, fitsB, hf]
theorem x_tupK0 : kTup [] s = .ok (.own (.fz (.tup []))) s := rfl
theorem x_lstK0 : kLst [] s = .ok (.own (.lst [])) s := rfl
theorem x_tupK1 {a : D} : kTup [a] s = .ok (.own (.fz (.tup [a]))) s := rfl
theorem x_lstK1 {a : D} : kLst [a] s = .ok (.own (.lst [a])) s := rfl
theorem x_tupK2 {a b : D} : kTup [a, b] s = .ok (.own (.fz (.tup [a, b]))) s := rfl
theorem x_lstK2 {a b : D} : kLst [a, b] s = .ok (.own (.lst [a, b])) s := rfl
theorem x_tupK3 {a b c : D} : kTup [a, b, c] s = .ok (.own (.fz (.tup [a, b, c]))) s := rfl
theorem x_lstK3 {a b c : D} : kLst [a, b, c] s = .ok (.own (.lst [a, b, c])) s := rfl
theorem x_tupK4 {a b c d : D} : kTup [a, b, c, d] s = .ok (.own (.fz (.tup [a, b, c, d]))) s := rfl
theorem x_lstK4 {a b c d : D} : kLst [a, b, c, d] s = .ok (.own (.lst [a, b, c, d])) s := rfl
theorem x_tupK5 {a b c d e : D} : kTup [a, b, c, d, e] s = .ok (.own (.fz (.tup [a, b, c, d, e]))) s := rfl
theorem x_lstK5 {a b c d e : D} : kLst [a, b, c, d, e] s = .ok (.own (.lst [a, b, c, d, e])) s := rfl
theorem x_tupK6 {a b c d e f : D} : kTup [a, b, c, d, e, f] s = .ok (.own (.fz (.tup [a, b, c, d, e, f]))) s := rfl
theorem x_lstK6 {a b c d e f : D} : kLst [a, b, c, d, e, f] s = .ok (.own (.lst [a, b, c, d, e, f])) s := rfl
theorem x_tupK7 {a b c d e f g : D} : kTup [a, b, c, d, e, f, g] s = .ok (.own (.fz (.tup [a, b, c, d, e, f, g]))) s := rfl
theorem x_lstK7 {a b c d e f g : D} : kLst [a, b, c, d, e, f, g] s = .ok (.own (.lst [a, b, c, d, e, f, g])) s := rfl
theorem x_tupK8 {a b c d e f g h : D} : kTup [a, b, c, d, e, f, g, h] s = .ok (.own (.fz (.tup [a, b, c, d, e, f, g, h]))) s := rfl
theorem x_lstK8 {a b c d e f g h : D} : kLst [a, b, c, d, e, f, g, h] s = .ok (.own (.lst [a, b, c, d, e, f, g, h])) s := rfl
theorem x_tupK9 {a b c d e f g h i : D} : kTup [a, b, c, d, e, f, g, h, i] s = .ok (.own (.fz (.tup [a, b, c, d, e, f, g, h, i]))) s := rfl
theorem x_lstK9 {a b c d e f g h i : D} : kLst [a, b, c, d, e, f, g, h, i] s = .ok (.own (.lst [a, b, c, d, e, f, g, h, i])) s := rfl
theorem x_tupK10 {a b c d e f g h i j : D} : kTup [a, b, c, d, e, f, g, h, i, j] s = .ok (.own (.fz (.tup [a, b, c, d, e, f, g, h, i, j]))) s := rfl
theorem x_lstK10 {a b c d e f g h i j : D} : kLst [a, b, c, d, e, f, g, h, i, j] s = .ok (.own (.lst [a, b, c, d, e, f, g, h, i, j])) s := rfl
theorem x_tupK11 {a b c d e f g h i j k : D} : kTup [a, b, c, d, e, f, g, h, i, j, k] s = .ok (.own (.fz (.tup [a, b, c, d, e, f, g, h, i, j, k]))) s := rfl
theorem x_lstK11 {a b c d e f g h i j k : D} : kLst [a, b, c, d, e, f, g, h, i, j, k] s = .ok (.own (.lst [a, b, c, d, e, f, g, h, i, j, k])) s := rfl
theorem x_tupK12 {a b c d e f g h i j k l : D} : kTup [a, b, c, d, e, f, g, h, i, j, k, l] s = .ok (.own (.fz (.tup [a, b, c, d, e, f, g, h, i, j, k, l]))) s := rfl
theorem x_lstK12 {a b c d e f g h i j k l : D} : kLst [a, b, c, d, e, f, g, h, i, j, k, l] s = .ok (.own (.lst [a, b, c, d, e, f, g, h, i, j, k, l])) s := rfl
theorem x_tupK13 {a b c d e f g h i j k l m : D} : kTup [a, b, c, d, e, f, g, h, i, j, k, l, m] s = .ok (.own (.fz (.tup [a, b, c, d, e, f, g, h, i, j, k, l, m]))) s := rfl
theorem x_lstK13 {a b c d e f g h i j k l m : D} : kLst [a, b, c, d, e, f, g, h, i, j, k, l, m] s = .ok (.own (.lst [a, b, c, d, e, f, g, h, i, j, k, l, m])) s := rfl
theorem x_tupK14 {a b c d e f g h i j k l m n : D} : kTup [a, b, c, d, e, f, g, h, i, j, k, l, m, n] s = .ok (.own (.fz (.tup [a, b, c, d, e, f, g, h, i, j, k, l, m, n]))) s := rfl
theorem x_lstK14 {a b c d e f g h i j k l m n : D} : kLst [a, b, c, d, e, f, g, h, i, j, k, l, m, n] s = .ok (.own (.lst [a, b, c, d, e, f, g, h, i, j, k, l, m, n])) s := rfl
def kVal (x : R) (s : S) : Out Bool := lift s ((peek s x).bind truD)
def isBl : D → Option Bool
  | .bl b => some b
  | _ => none
def kCmp (x : R) (s : S) : Out Bool := lift s ((peek s x).bind isBl)
def kNotB (b : Bool) (s : S) : Out Bool := .ok (!b) s
def kAndB (b : B) (call : Call) (x : Bool) (s : S) : Out Bool := if x then b call s else .ok false s
def kOrB (b : B) (call : Call) (x : Bool) (s : S) : Out Bool := if x then .ok true s else b call s
def kAnd2 (b : E) (call : Call) (x : R) (s : S) : Option Bool → Out R
  | some true => b call s
  | some false => .ok x s
  | none => .bad
def kAnd (b : E) (call : Call) (x : R) (s : S) : Out R := kAnd2 b call x s ((peek s x).bind truD)
def kOr2 (b : E) (call : Call) (x : R) (s : S) : Option Bool → Out R
  | some true => .ok x s
  | some false => b call s
  | none => .bad
def kOr (b : E) (call : Call) (x : R) (s : S) : Out R := kOr2 b call x s ((peek s x).bind truD)
def kNot2 (s : S) : Option Bool → Out R
  | some b => .ok (.own (.fz (.bl (!b)))) s
  | none => .bad
def kNot (x : R) (s : S) : Out R := kNot2 s ((peek s x).bind truD)
def kIfE (a b : E) (call : Call) (x : Bool) (s : S) : Out R := if x then a call s else b call s
theorem x_bval {m : E} : bVal m call s = (m call s).bind kVal := rfl
theorem x_val {x : R} : kVal x s = lift s ((peek s x).bind truD) := rfl
theorem x_bcmp {m : E} : bCmp m call s = (m call s).bind kCmp := rfl
theorem x_cmp {x : R} : kCmp x s = lift s ((peek s x).bind isBl) := rfl
theorem x_isbl {b : Bool} : isBl (.bl b) = some b := rfl
theorem x_bnot {m : B} : bNot m call s = (m call s).bind kNotB := rfl
theorem x_notB {b : Bool} : kNotB b s = .ok (!b) s := rfl
theorem x_band {a b : B} : bAnd a b call s = (a call s).bind (kAndB b call) := rfl
theorem x_andT {b : B} : kAndB b call true s = b call s := rfl
theorem x_andF {b : B} : kAndB b call false s = .ok false s := rfl
theorem x_bor {a b : B} : bOr a b call s = (a call s).bind (kOrB b call) := rfl
theorem x_orT {b : B} : kOrB b call true s = .ok true s := rfl
theorem x_orF {b : B} : kOrB b call false s = b call s := rfl
theorem x_byes : bYes call s = .ok true s := rfl
theorem x_and {a b : E} : mAnd a b call s = (a call s).bind (kAnd b call) := rfl
theorem x_and1 {b : E} {x : R} : kAnd b call x s = kAnd2 b call x s ((peek s x).bind truD) := rfl
theorem x_and2T {b : E} {x : R} : kAnd2 b call x s (some true) = b call s := rfl
theorem x_and2F {b : E} {x : R} : kAnd2 b call x s (some false) = .ok x s := rfl
theorem x_or {a b : E} : mOr a b call s = (a call s).bind (kOr b call) := rfl
theorem x_or1 {b : E} {x : R} : kOr b call x s = kOr2 b call x s ((peek s x).bind truD) := rfl
theorem x_or2T {b : E} {x : R} : kOr2 b call x s (some true) = .ok x s := rfl
theorem x_or2F {b : E} {x : R} : kOr2 b call x s (some false) = b call s := rfl
theorem x_not {a : E} : mNot a call s = (a call s).bind kNot := rfl
theorem x_not1 {x : R} : kNot x s = kNot2 s ((peek s x).bind truD) := rfl
theorem x_not2 {b : Bool} : kNot2 s (some b) = .ok (.own (.fz (.bl (!b)))) s := rfl
theorem x_ife {c : B} {a b : E} : mIf c a b call s = (c call s).bind (kIfE a b call) := rfl
theorem x_ifeT {a b : E} : kIfE a b call true s = a call s := rfl
theorem x_ifeF {a b : E} : kIfE a b call false s = b call s := rfl
theorem x_tr_n : truD .non = some false := rfl
theorem x_tr_b {b : Bool} : truD (.bl b) = some b := rfl
theorem x_tr_i {b : Int} : truD (.int b) = some (b != 0) := rfl
theorem x_tr_t {b : List D} : truD (.tup b) = some (!b.isEmpty) := rfl
theorem x_tr_l {b : List D} : truD (.lst b) = some (!b.isEmpty) := rfl
def kRes (σ : List (Option O)) : Res → Out R
  | .ok o h => .ok (.own o) ⟨σ, h⟩
  | .exc c d h => .exc c d ⟨σ, h⟩
  | .bad => .bad
def kCall (f : Str) (call : Call) (ds : List D) (s : S) : Out R := kRes s.σ (call f ds s.h)
theorem x_call {f : Str} {r : As} : mCall f r call s = (r call s).bind (kCall f call) := rfl
theorem x_kcall {f : Str} {ds : List D} : kCall f call ds ⟨σ, h⟩ = kRes σ (call f ds h) := rfl
theorem x_res1 {o : O} : kRes σ (.ok o h) = .ok (.own o) ⟨σ, h⟩ := rfl
theorem x_res2 {c : Str} {e : D} : kRes σ (.exc c e h) = .exc c e ⟨σ, h⟩ := rfl
def kBlt2 (f : List D → Option O) (ds : List D) : Option R := (f ds).map R.own
def kBlt (f : List D → Option O) (rs : List R) (s : S) : Out R := lift s ((peeks s rs).bind (kBlt2 f))
def kPs2 (d : D) (ds : List D) : Option (List D) := some (d :: ds)
def kPs (ps : Option (List D)) (d : D) : Option (List D) := ps.bind (kPs2 d)
theorem x_blt {f : List D → Option O} {r : AsR} : mBlt f r call s = (r call s).bind (kBlt f) := rfl
theorem x_kblt {f : List D → Option O} {rs : List R} : kBlt f rs s = lift s ((peeks s rs).bind (kBlt2 f)) := rfl
theorem x_kblt2 {f : List D → Option O} {ds : List D} : kBlt2 f ds = (f ds).map R.own := rfl
theorem x_ps0 : peeks s [] = some [] := rfl
theorem x_ps {r : R} {rs : List R} : peeks s (r :: rs) = (peek s r).bind (kPs (peeks s rs)) := rfl
theorem x_ps1 {ps : List D} {e : D} : kPs (some ps) e = some (e :: ps) := rfl
def kCell (x : R) (s : S) : Out R := match x with
  | .own o => if isCont o then .ok (.own (.fz (.loc s.h.length))) ⟨s.σ, s.h ++ [o]⟩ else .bad
  | _ => .bad
theorem x_cell {m : E} : mCell m call s = (m call s).bind kCell := rfl
theorem x_cellL {l : List D} : kCell (.own (.lst l)) ⟨σ, h⟩ = .ok (.own (.fz (.loc h.length))) ⟨σ, h ++ [.lst l]⟩ := rfl
def kAsg2 : Option S → Fl
  | some s2 => .nx s2
  | none => .bad
def kAsg1 (g : Tg) (p : O × S) : Option S := g p.1 p.2
def kAsg (g : Tg) (x : R) (s : S) : Fl := kAsg2 ((keep s x).bind (kAsg1 g))
def kMul1 (gs : List Tg) (p : List O × S) : Option S := asgAll gs p.1 p.2
def kMul (gs : List Tg) (rs : List R) (s : S) : Fl := if fitsB rs.length then kAsg2 ((keepAll s rs).bind (kMul1 gs)) else .bad
def kKa2 (o : O) (q : List O × S) : Option (List O × S) := some (o :: q.1, q.2)
def kKa (rs : List R) (p : O × S) : Option (List O × S) := (keepAll p.2 rs).bind (kKa2 p.1)
def kAs (gs : List Tg) (os : List O) (s : S) : Option S := asgAll gs os s
def kEx (_ : R) (s : S) : Fl := .nx s
theorem x_asg {m : E} {g : Tg} : cAsg m g call s = (m call s).flow (kAsg g) := rfl
theorem x_asg1 {g : Tg} {x : R} : kAsg g x s = kAsg2 ((keep s x).bind (kAsg1 g)) := rfl
theorem x_asg2 {g : Tg} {o : O} : kAsg1 g (o, s) = g o s := rfl
theorem x_asg3 : kAsg2 (some s) = .nx s := rfl
theorem x_mul {r : AsR} {gs : List Tg} : cMul r gs call s = (r call s).flow (kMul gs) := rfl
theorem x_mul2 {gs : List Tg} {a b : R} : kMul gs [a, b] s = kAsg2 ((keepAll s [a, b]).bind (kMul1 gs)) := rfl
theorem x_mul3 {gs : List Tg} {a b c : R} : kMul gs [a, b, c] s = kAsg2 ((keepAll s [a, b, c]).bind (kMul1 gs)) := rfl
theorem x_mul4 {gs : List Tg} {a b c e : R} : kMul gs [a, b, c, e] s = kAsg2 ((keepAll s [a, b, c, e]).bind (kMul1 gs)) := rfl
theorem x_mulA {gs : List Tg} {os : List O} : kMul1 gs (os, s) = asgAll gs os s := rfl
theorem x_ka0 : keepAll s [] = some ([], s) := rfl
theorem x_ka {r : R} {rs : List R} : keepAll s (r :: rs) = (keep s r).bind (kKa rs) := rfl
theorem x_ka1 {rs : List R} {o : O} : kKa rs (o, s) = (keepAll s rs).bind (kKa2 o) := rfl
theorem x_ka2 {o : O} {os : List O} : kKa2 o (os, s) = some (o :: os, s) := rfl
theorem x_as0 : asgAll [] [] s = some s := rfl
theorem x_as {g : Tg} {gs : List Tg} {o : O} {os : List O} : asgAll (g :: gs) (o :: os) s = (g o s).bind (kAs gs os) := rfl
theorem x_as1 {gs : List Tg} {os : List O} : kAs gs os s = asgAll gs os s := rfl
theorem x_ex {m : E} : cExpr m call s = (m call s).flow kEx := rfl
theorem x_ex1 {x : R} : kEx x s = .nx s := rfl
def gUp (a : Option O) (s : S) : S := ⟨a :: s.σ, s.h⟩
theorem x_g0 {a : Option O} {o : O} : gN 0 o ⟨a :: σ, h⟩ = some ⟨some o :: σ, h⟩ := by simp [gN]
theorem x_gS {a : Option O} {o : O} {i : Nat} : gN (i + 1) o ⟨a :: σ, h⟩ = (gN i o ⟨σ, h⟩).map (gUp a) := by
  simp only [gN, List.length_cons, Nat.add_lt_add_iff_right]; split <;> rfl
theorem x_gU {a : Option O} : gUp a ⟨σ, h⟩ = ⟨a :: σ, h⟩ := rfl
def kGs (r : Tgs) (ds : List D) (s : S) : Option S := r ds s
theorem x_gsN : gsNil [] s = some s := rfl
theorem x_gsC {g : Tg} {r : Tgs} {e : D} {ds : List D} : gsCons g r (e :: ds) s = (g (.fz e) s).bind (kGs r ds) := rfl
theorem x_gs {r : Tgs} {ds : List D} : kGs r ds s = r ds s := rfl
theorem x_gTt1 {r : Tgs} {a : D} : gT 1 r (.fz (.tup [a])) s = r [a] s := rfl
theorem x_gTl1 {r : Tgs} {a : D} : gT 1 r (.fz (.lst [a])) s = r [a] s := rfl
theorem x_gTo1 {r : Tgs} {a : D} : gT 1 r (.lst [a]) s = r [a] s := rfl
theorem x_gTt2 {r : Tgs} {a b : D} : gT 2 r (.fz (.tup [a, b])) s = r [a, b] s := rfl
theorem x_gTl2 {r : Tgs} {a b : D} : gT 2 r (.fz (.lst [a, b])) s = r [a, b] s := rfl
theorem x_gTo2 {r : Tgs} {a b : D} : gT 2 r (.lst [a, b]) s = r [a, b] s := rfl
theorem x_gTt3 {r : Tgs} {a b c : D} : gT 3 r (.fz (.tup [a, b, c])) s = r [a, b, c] s := rfl
theorem x_gTl3 {r : Tgs} {a b c : D} : gT 3 r (.fz (.lst [a, b, c])) s = r [a, b, c] s := rfl
theorem x_gTo3 {r : Tgs} {a b c : D} : gT 3 r (.lst [a, b, c]) s = r [a, b, c] s := rfl
theorem x_gTt4 {r : Tgs} {a b c d : D} : gT 4 r (.fz (.tup [a, b, c, d])) s = r [a, b, c, d] s := rfl
theorem x_gTl4 {r : Tgs} {a b c d : D} : gT 4 r (.fz (.lst [a, b, c, d])) s = r [a, b, c, d] s := rfl
theorem x_gTo4 {r : Tgs} {a b c d : D} : gT 4 r (.lst [a, b, c, d]) s = r [a, b, c, d] s := rfl
theorem x_gTt5 {r : Tgs} {a b c d e : D} : gT 5 r (.fz (.tup [a, b, c, d, e])) s = r [a, b, c, d, e] s := rfl
theorem x_gTl5 {r : Tgs} {a b c d e : D} : gT 5 r (.fz (.lst [a, b, c, d, e])) s = r [a, b, c, d, e] s := rfl
theorem x_gTo5 {r : Tgs} {a b c d e : D} : gT 5 r (.lst [a, b, c, d, e]) s = r [a, b, c, d, e] s := rfl
def seeD : D → Option (List D)
  | .lst ds => some ds
  | _ => none
def kApp4 (x : R) (d : D) (s : S) : Fl := kAsg2 (mutL s (fun ds => if fitsB (ds.length + 1) then some (ds ++ [d]) else none) x)
def kApp3 (x : R) : Option (D × S) → Fl
  | some (d, s3) => kApp4 x d s3
  | none => .bad
def kApp2 (x y : R) (s : S) : Fl := kApp3 x (take s y)
def kApp1 (me : E) (call : Call) (x : R) (s : S) : Option (List D) → Fl
  | none => .bad
  | some _ => (me call s).flow (kApp2 x)
def kApp (me : E) (call : Call) (x : R) (s : S) : Fl := kApp1 me call x s ((peek s x).bind seeD)
theorem x_app {mx me : E} : cApp mx me call s = (mx call s).flow (kApp me call) := by
  show Out.flow _ _ = _; congr 1; funext x s1
  have hz : seeL s1 x = (peek s1 x).bind seeD := by
    unfold seeL
    cases peek s1 x with
    | none => rfl
    | some e => cases e <;> rfl
  show _ = kApp1 me call x s1 ((peek s1 x).bind seeD)
  rw [← hz]
  cases seeL s1 x with
  | none => rfl
  | some e => rfl
theorem x_app0 {me : E} {x : R} : kApp me call x s = kApp1 me call x s ((peek s x).bind seeD) := rfl
theorem x_see {l : List D} : seeD (.lst l) = some l := rfl
theorem x_app1 {me : E} {x : R} {l : List D} : kApp1 me call x s (some l) = (me call s).flow (kApp2 x) := rfl
theorem x_app2 {x y : R} : kApp2 x y s = kApp3 x (take s y) := rfl
theorem x_app3 {x : R} {e : D} : kApp3 x (some (e, s)) = kApp4 x e s := rfl
def kMut (σ : List (Option O)) (h : List O) (f : List D → Option (List D)) (i : Nat) : Option (Option O) → Option S
  | some (some (.lst ds)) => (f ds).map fun ds' => ⟨σ.set i (some (.lst ds')), h⟩
  | some (some (.fz d)) => (mutD h f d).map fun h => ⟨σ, h⟩
  | _ => none
theorem x_mutB {f : List D → Option (List D)} {i : Nat} : mutL ⟨σ, h⟩ f (.bor i) = kMut σ h f i (σ[i]?) := by
  show (match σ[i]? with | some (some (.lst ds)) => _ | some (some (.fz d)) => _ | _ => _) = _
  cases σ[i]? with
  | none => rfl
  | some z => cases z with
    | none => rfl
    | some o => cases o <;> rfl
/-- a list in a slot is appended to, loses its last item, is stored into -/
def kAppS (σ : List (Option O)) (h : List O) (i : Nat) (e : D) : Option (Option O) → Fl
  | some (some (.lst ds)) => if fitsB (ds.length + 1) then .nx ⟨σ.set i (some (.lst (ds ++ [e]))), h⟩ else .bad
  | z => kAsg2 (kMut σ h (fun ds => if fitsB (ds.length + 1) then some (ds ++ [e]) else none) i z)
theorem x_app4 {i : Nat} {e : D} : kApp4 (.bor i) e ⟨σ, h⟩ = kAppS σ h i e (σ[i]?) := by
  show kAsg2 (mutL _ _ _) = _
  rw [x_mutB]
  cases σ[i]? with
  | none => rfl
  | some z => cases z with
    | none => rfl
    | some o =>
      cases o with
      | lst ds => show kAsg2 (Option.map _ (if _ then _ else _)) = (if _ then _ else _); split <;> rfl
      | _ => all_goals rfl
theorem x_appS {i : Nat} {e : D} {ds : List D} (hf : ds.length < 100000) : kAppS σ h i e (some (some (.lst ds))) = .nx ⟨σ.set i (some (.lst (ds ++ [e]))), h⟩ := by
  have : fitsB (ds.length + 1) = true := by simp only [fitsB, decide_eq_true_eq]; omega
  simp only [kAppS, this, if_true]
theorem x_appS0 {i : Nat} {z : D}  : kAppS σ h i z (some (some (.lst []))) = .nx ⟨σ.set i (some (.lst [z])), h⟩ := rfl
theorem x_appS1 {i : Nat} {z : D} {a : D} : kAppS σ h i z (some (some (.lst [a]))) = .nx ⟨σ.set i (some (.lst [a, z])), h⟩ := rfl
theorem x_appS2 {i : Nat} {z : D} {a b : D} : kAppS σ h i z (some (some (.lst [a, b]))) = .nx ⟨σ.set i (some (.lst [a, b, z])), h⟩ := rfl
theorem x_appS3 {i : Nat} {z : D} {a b c : D} : kAppS σ h i z (some (some (.lst [a, b, c]))) = .nx ⟨σ.set i (some (.lst [a, b, c, z])), h⟩ := rfl
theorem x_appS4 {i : Nat} {z : D} {a b c d : D} : kAppS σ h i z (some (some (.lst [a, b, c, d]))) = .nx ⟨σ.set i (some (.lst [a, b, c, d, z])), h⟩ := rfl
theorem x_appS5 {i : Nat} {z : D} {a b c d e : D} : kAppS σ h i z (some (some (.lst [a, b, c, d, e]))) = .nx ⟨σ.set i (some (.lst [a, b, c, d, e, z])), h⟩ := rfl
theorem x_appS6 {i : Nat} {z : D} {a b c d e f : D} : kAppS σ h i z (some (some (.lst [a, b, c, d, e, f]))) = .nx ⟨σ.set i (some (.lst [a, b, c, d, e, f, z])), h⟩ := rfl
def kPopS (σ : List (Option O)) (h : List O) (i : Nat) (z : Option (Option O)) : Fl := kAsg2 (kMut σ h (fun ds => if ds.length = 0 then none else some ds.dropLast) i z)
def kPop (x : R) (s : S) : Fl := kAsg2 (mutL s (fun ds => if ds.length = 0 then none else some ds.dropLast) x)
theorem x_pop {mx : E} : cPop mx call s = (mx call s).flow kPop := rfl
theorem x_pop1 {i : Nat} : kPop (.bor i) ⟨σ, h⟩ = kPopS σ h i (σ[i]?) := by show kAsg2 (mutL _ _ _) = _; rw [x_mutB]; rfl
theorem x_popS {i : Nat} {e : D} {l : List D} : kPopS σ h i (some (some (.lst (e :: l)))) = .nx ⟨σ.set i (some (.lst (e :: l).dropLast)), h⟩ := rfl
def stL (i : Int) (e : D) (ds : List D) : Option (List D) := (ixN ds.length i).map fun j => ds.set j e
def kSet4 (e : D) (x : R) (s : S) : Option D → Fl
  | some (.int i) => kAsg2 (mutL s (stL i e) x)
  | _ => .bad
def kSet3 (e : D) (x i : R) (s : S) : Fl := kSet4 e x s (peek s i)
def kSet2 (mi : E) (call : Call) (e : D) (x : R) (s : S) : Fl := (mi call s).flow (kSet3 e x)
def kSet1 (mx mi : E) (call : Call) : Option (D × S) → Fl
  | some (e, s2) => (mx call s2).flow (kSet2 mi call e)
  | none => .bad
def kSet (mx mi : E) (call : Call) (y : R) (s : S) : Fl := kSet1 mx mi call (take s y)
theorem x_set {me mx mi : E} : cSetL me mx mi call s = (me call s).flow (kSet mx mi call) := by
  show Out.flow _ _ = _; congr 1; funext y s1; show _ = kSet1 mx mi call (take s1 y); cases take s1 y with
  | none => rfl
  | some p =>
    obtain ⟨e, s2⟩ := p
    rfl
theorem x_set1 {mx mi : E} {y : R} : kSet mx mi call y s = kSet1 mx mi call (take s y) := rfl
theorem x_set2 {mx mi : E} {e : D} : kSet1 mx mi call (some (e, s)) = (mx call s).flow (kSet2 mi call e) := rfl
theorem x_set3 {mi : E} {e : D} {x : R} : kSet2 mi call e x s = (mi call s).flow (kSet3 e x) := rfl
theorem x_set4 {e : D} {x i : R} : kSet3 e x i s = kSet4 e x s (peek s i) := rfl
theorem x_set5 {e : D} {x : R} {i : Int} : kSet4 e x s (some (.int i)) = kAsg2 (mutL s (stL i e) x) := rfl
def kMuL (σ : List (Option O)) (h : List O) (i : Nat) : Option (List D) → Option S
  | some ds => some ⟨σ.set i (some (.lst ds)), h⟩
  | none => none
def kMuC (σ : List (Option O)) : Option (List O) → Option S
  | some h => some ⟨σ, h⟩
  | none => none
def kMc2 (h : List O) (n : Nat) : Option (List D) → Option (List O)
  | some ds => some (h.set n (.lst ds))
  | none => none
def kMc (h : List O) (f : List D → Option (List D)) (n : Nat) : Option O → Option (List O)
  | some (.lst ds) => kMc2 h n (f ds)
  | _ => none
theorem x_mutS {f : List D → Option (List D)} {i : Nat} {ds : List D} : kMut σ h f i (some (some (.lst ds))) = kMuL σ h i (f ds) := by show Option.map _ (f ds) = _; cases f ds <;> rfl
theorem x_mutF {f : List D → Option (List D)} {i : Nat} {e : D} : kMut σ h f i (some (some (.fz e))) = kMuC σ (mutD h f e) := by show Option.map _ (mutD h f e) = _; cases mutD h f e <;> rfl
theorem x_muL {i : Nat} {ds : List D} : kMuL σ h i (some ds) = some ⟨σ.set i (some (.lst ds)), h⟩ := rfl
theorem x_muC : kMuC σ (some h) = some ⟨σ, h⟩ := rfl
theorem x_mc {f : List D → Option (List D)} {n : Nat} : mutD h f (.loc n) = kMc h f n (h[n]?) := by
  show (match h[n]? with | some (.lst ds) => _ | _ => _) = _; cases h[n]? with
  | none => rfl
  | some o => cases o with
    | lst ds => show Option.map _ (f ds) = kMc2 h n (f ds); cases f ds <;> rfl
    | _ => all_goals rfl
theorem x_mc1 {f : List D → Option (List D)} {n : Nat} {ds : List D} : kMc h f n (some (.lst ds)) = kMc2 h n (f ds) := rfl
theorem x_mc2 {n : Nat} {ds : List D} : kMc2 h n (some ds) = some (h.set n (.lst ds)) := rfl
def kFor (g : Tg) (body : C) (call : Call) (ds : List D) (s : S) : Fl := forL call g body ds s
def kLc2 (σ : List (Option O)) (vs : List Nat) : Out (List D) → Out R
  | .ok acc s2 => .ok (.own (.lst acc)) ⟨rst s2.σ σ vs, s2.h⟩
  | _ => .bad
def kLc (g : Tg) (tt : B) (te : E) (vs : List Nat) (call : Call) (ds : List D) (s : S) : Out R := kLc2 s.σ vs (lcL call g tt te vs ds [] ⟨wipeO s.σ vs, s.h⟩)
def kIv2 : Option (D × S) → Out (List D)
  | some (d, s2) => lift s2 (iterD d)
  | none => .bad
def kIv (x : R) (s : S) : Out (List D) := kIv2 (take s x)
def kRg2 (s : S) : Option (List D) → Out (List D)
  | some [.int j] => if smallR j then .ok (rangeD 0 j.toNat) s else .bad
  | _ => .bad
def kRg (rs : List R) (s : S) : Out (List D) := kRg2 s (peeks s rs)
def kRg22 (s : S) : Option (List D) → Out (List D)
  | some [.int i, .int j] => if smallR i && smallR j then .ok (rangeD i (j - i).toNat) s else .bad
  | _ => .bad
def kRgB (rs : List R) (s : S) : Out (List D) := kRg22 s (peeks s rs)
theorem x_for {m : Iv} {g : Tg} {b : C} : cFor m g b call s = (m call s).flow (kFor g b call) := rfl
theorem x_forL {g : Tg} {b : C} {ds : List D} : kFor g b call ds s = forL call g b ds s := rfl
theorem x_lc {m : Iv} {g : Tg} {tt : B} {te : E} {vs : List Nat} : mLc m g tt te vs call s = (m call s).bind (kLc g tt te vs call) := rfl
theorem x_lc1 {g : Tg} {tt : B} {te : E} {vs : List Nat} {ds : List D} : kLc g tt te vs call ds ⟨σ, h⟩ = kLc2 σ vs (lcL call g tt te vs ds [] ⟨wipeO σ vs, h⟩) := rfl
theorem x_lc2 {τ : List (Option O)} {vs : List Nat} {l : List D} : kLc2 σ vs (.ok l ⟨τ, h⟩) = .ok (.own (.lst l)) ⟨rst τ σ vs, h⟩ := rfl
theorem x_wp0 : wipeO σ [] = σ := rfl
theorem x_wp {v : Nat} {vs : List Nat} : wipeO σ (v :: vs) = (wipeO σ vs).set v none := rfl
theorem x_rs0 {τ : List (Option O)} : rst τ σ [] = τ := rfl
theorem x_rs {τ : List (Option O)} {v : Nat} {vs : List Nat} : rst τ σ (v :: vs) = (rst τ σ vs).set v ((σ[v]?).getD none) := rfl
theorem x_iv {m : E} : iVal m call s = (m call s).bind kIv := rfl
theorem x_iv1 {x : R} : kIv x s = kIv2 (take s x) := rfl
theorem x_iv2 {e : D} : kIv2 (some (e, s)) = lift s (iterD e) := rfl
theorem x_itT {l : List D} : iterD (.tup l) = some l := rfl
theorem x_itL {l : List D} : iterD (.lst l) = some l := rfl
theorem x_itS {x : Str} : iterD (.str x) = some (signs x) := rfl
theorem x_itC {l : List Int} : iterD (.scr l) = some (l.map .int) := rfl
theorem x_rg {r : AsR} : iRg1 r call s = (r call s).bind kRg := rfl
theorem x_rg1 {rs : List R} : kRg rs s = kRg2 s (peeks s rs) := rfl
theorem x_rg2 {j : Int} : kRg2 s (some [.int j]) = if smallR j then .ok (rangeD 0 j.toNat) s else .bad := rfl
theorem x_rgK {j : Int} (h1 : 0 ≤ j) (h2 : j < 100000) : kRg2 s (some [.int j]) = .ok (rangeD 0 j.toNat) s := by
  have : smallR j = true := by simp only [smallR, Bool.and_eq_true, decide_eq_true_eq]; exact ⟨by omega, by omega⟩
  simp only [kRg2, this, if_true]
theorem x_en {m : As} : iEnB m call s = (m call s).bind (fun ds s1 => match ds with | [.tup ds] => .ok (enumD ds) s1 | _ => .bad) := rfl
def isInt (s : S) : Option D → Out (Option Int)
  | some (.int i) => .ok (some i) s
  | _ => .bad
def kPS (x : R) (s : S) : Out (Option Int) := isInt s (peek s x)
def kSl3 (l u : Option Int) (d : D) : Option R := (slD d l u).map R.own
def kSl2 (x : R) (l u : Option Int) (s : S) : Out R := lift s ((peek s x).bind (kSl3 l u))
def kSl1 (hi : Pt) (call : Call) (x : R) (l : Option Int) (s : S) : Out R := (hi call s).bind (kSl2 x l)
def kSl (lo hi : Pt) (call : Call) (x : R) (s : S) : Out R := (lo call s).bind (kSl1 hi call x)
theorem x_pn : pNone call s = .ok none s := rfl
theorem x_psm {m : E} : pSome m call s = (m call s).bind kPS := rfl
theorem x_psm1 {x : R} : kPS x s = isInt s (peek s x) := rfl
theorem x_psm2 {i : Int} : isInt s (some (.int i)) = .ok (some i) s := rfl
theorem x_sl {m : E} {lo hi : Pt} : mSl m lo hi call s = (m call s).bind (kSl lo hi call) := rfl
theorem x_sl0 {lo hi : Pt} {x : R} : kSl lo hi call x s = (lo call s).bind (kSl1 hi call x) := rfl
theorem x_sl1 {hi : Pt} {x : R} {l : Option Int} : kSl1 hi call x l s = (hi call s).bind (kSl2 x l) := rfl
theorem x_sl2 {x : R} {l u : Option Int} : kSl2 x l u s = lift s ((peek s x).bind (kSl3 l u)) := rfl
theorem x_sl3 {l u : Option Int} {e : D} : kSl3 l u e = (slD e l u).map R.own := rfl
theorem x_slT {l u : Option Int} {ds : List D} : slD (.tup ds) l u = some (.fz (.tup (cutD ds l u))) := rfl
theorem x_slC {l u : Option Int} {ds : List Int} : slD (.scr ds) l u = some (.lst (cutD (ds.map D.int) l u)) := rfl
theorem x_slL {l u : Option Int} {ds : List D} : slD (.lst ds) l u = some (.lst (cutD ds l u)) := rfl
def kCh4 (f' : D → D → Option O) (y z : R) (s : S) : Out R := lift s ((peek s y).bind (kT2 f' (peek s z)))
def kCh3 (f' : D → D → Option O) (c : E) (call : Call) (y : R) (s : S) : Option O → Out R
  | some (.fz (.bl true)) => (c call s).bind (kCh4 f' y)
  | some (.fz (.bl false)) => .ok (.own (.fz (.bl false))) s
  | _ => .bad
def kCh5 (f : D → D → Option O) (p2 : Option D) (d1 : D) : Option O := p2.bind (f d1)
def kCh2 (f f' : D → D → Option O) (c : E) (call : Call) (x y : R) (s : S) : Out R := kCh3 f' c call y s ((peek s x).bind (kCh5 f (peek s y)))
def kCh1 (f f' : D → D → Option O) (b c : E) (call : Call) (x : R) (s : S) : Out R := (b call s).bind (kCh2 f f' c call x)
theorem x_ch {f f' : D → D → Option O} {a b c : E} : mChain f f' a b c call s = (a call s).bind (kCh1 f f' b c call) := rfl
theorem x_ch1 {f f' : D → D → Option O} {b c : E} {x : R} : kCh1 f f' b c call x s = (b call s).bind (kCh2 f f' c call x) := rfl
theorem x_ch2 {f f' : D → D → Option O} {c : E} {x y : R} : kCh2 f f' c call x y s = kCh3 f' c call y s ((peek s x).bind (kCh5 f (peek s y))) := rfl
theorem x_ch3T {f' : D → D → Option O} {c : E} {y : R} : kCh3 f' c call y s (some (.fz (.bl true))) = (c call s).bind (kCh4 f' y) := rfl
theorem x_ch3F {f' : D → D → Option O} {c : E} {y : R} : kCh3 f' c call y s (some (.fz (.bl false))) = .ok (.own (.fz (.bl false))) s := rfl
theorem x_ch4 {f' : D → D → Option O} {y z : R} : kCh4 f' y z s = lift s ((peek s y).bind (kT2 f' (peek s z))) := rfl
theorem x_ch5 {f : D → D → Option O} {p e : D} : kCh5 f (some p) e = f e p := rfl
def kCn2 (me : E) (call : Call) (x : R) (s : S) : Option D → Out R
  | some (.tup _) => (me call s).bind (kTb countD x)
  | _ => .bad
def kCn (me : E) (call : Call) (x : R) (s : S) : Out R := kCn2 me call x s (peek s x)
theorem x_cn {mx me : E} : mCnt mx me call s = (mx call s).bind (kCn me call) := rfl
theorem x_cn1 {me : E} {x : R} : kCn me call x s = kCn2 me call x s (peek s x) := rfl
theorem x_cn2 {me : E} {x : R} {l : List D} : kCn2 me call x s (some (.tup l)) = (me call s).bind (kTb countD x) := rfl
theorem x_ltII {i j : Int} : ltD (.int i) (.int j) = some (.fz (.bl (decide (i < j)))) := rfl
theorem x_leII {i j : Int} : leD (.int i) (.int j) = some (.fz (.bl (decide (i ≤ j)))) := rfl
theorem x_gtII {i j : Int} : gtD (.int i) (.int j) = some (.fz (.bl (decide (j < i)))) := rfl
theorem x_geII {i j : Int} : geD (.int i) (.int j) = some (.fz (.bl (decide (j ≤ i)))) := rfl
theorem x_eqSS {x : Str} {y : Str} : eqD (.str x) (.str y) = some (.fz (.bl (decide (x = y)))) := rfl
theorem x_neSS {x : Str} {y : Str} : neD (.str x) (.str y) = some (.fz (.bl (!(decide (x = y))))) := rfl
theorem x_eqSI {x : Str} {y : Int} : eqD (.str x) (.int y) = some (.fz (.bl (false))) := rfl
theorem x_neSI {x : Str} {y : Int} : neD (.str x) (.int y) = some (.fz (.bl (!(false)))) := rfl
theorem x_eqSN {x : Str}  : eqD (.str x) .non = some (.fz (.bl (false))) := rfl
theorem x_neSN {x : Str}  : neD (.str x) .non = some (.fz (.bl (!(false)))) := rfl
theorem x_eqIS {x : Int} {y : Str} : eqD (.int x) (.str y) = some (.fz (.bl (false))) := rfl
theorem x_neIS {x : Int} {y : Str} : neD (.int x) (.str y) = some (.fz (.bl (!(false)))) := rfl
theorem x_eqII {x : Int} {y : Int} : eqD (.int x) (.int y) = some (.fz (.bl (decide (x = y)))) := rfl
theorem x_neII {x : Int} {y : Int} : neD (.int x) (.int y) = some (.fz (.bl (!(decide (x = y))))) := rfl
theorem x_eqIN {x : Int}  : eqD (.int x) .non = some (.fz (.bl (false))) := rfl
theorem x_neIN {x : Int}  : neD (.int x) .non = some (.fz (.bl (!(false)))) := rfl
theorem x_eqNS  {y : Str} : eqD .non (.str y) = some (.fz (.bl (false))) := rfl
theorem x_neNS  {y : Str} : neD .non (.str y) = some (.fz (.bl (!(false)))) := rfl
theorem x_eqNI  {y : Int} : eqD .non (.int y) = some (.fz (.bl (false))) := rfl
theorem x_neNI  {y : Int} : neD .non (.int y) = some (.fz (.bl (!(false)))) := rfl
theorem x_eqNN   : eqD .non .non = some (.fz (.bl (true))) := rfl
theorem x_neNN   : neD .non .non = some (.fz (.bl (!(true)))) := rfl
theorem x_addII {i j : Int} : addD (.int i) (.int j) = some (.fz (.int (i + j))) := rfl
theorem x_addBII {i j : Int} : addB (.int i) (.int j) = some (.fz (.int (i + j))) := rfl
theorem x_subII {i j : Int} : subD (.int i) (.int j) = some (.fz (.int (i - j))) := rfl
theorem x_negI {i : Int} : negD (.int i) = some (.fz (.int (-i))) := rfl
theorem x_isN : isNoneD .non .non = some (.fz (.bl true)) := rfl
theorem x_isN2 {e : D} : isNoneD e .non = some (.fz (.bl (isNon e))) := rfl
theorem x_isNN {e : D} : isNotNoneD e .non = some (.fz (.bl (!isNon e))) := rfl
theorem x_isn_non  : isNon (.non) = true := rfl
theorem x_isn_bl {b : Bool} : isNon (.bl b) = false := rfl
theorem x_isn_int {b : Int} : isNon (.int b) = false := rfl
theorem x_isn_str {b : Str} : isNon (.str b) = false := rfl
theorem x_isn_tup {b : List D} : isNon (.tup b) = false := rfl
theorem x_isn_lst {b : List D} : isNon (.lst b) = false := rfl
theorem x_isn_loc {b : Nat} : isNon (.loc b) = false := rfl
theorem x_isn_fn {b : Str} : isNon (.fn b) = false := rfl
theorem x_lenT {l : List D} : lenD [.tup l] = some (.fz (.int l.length)) := rfl
theorem x_lenL {l : List D} : lenD [.lst l] = some (.fz (.int l.length)) := rfl
theorem x_lenC {l : List Int} : lenD [.scr l] = some (.fz (.int (l.map D.int).length)) := rfl
theorem x_atT {l : List D} {i : Int} : atD (.tup l) (.int i) = (atI l i).map .fz := rfl
theorem x_atL {l : List D} {i : Int} : atD (.lst l) (.int i) = (atI l i).map .fz := rfl
theorem x_atC {l : List Int} {i : Int} : atD (.scr l) (.int i) = (atI (l.map D.int) i).map .fz := rfl
theorem x_max {i j : Int} : maxD [.int i, .int j] = some (.fz (.int (if j > i then j else i))) := rfl
theorem x_min {i j : Int} : minD [.int i, .int j] = some (.fz (.int (if j < i then j else i))) := rfl
theorem x_intI {i : Int} : intD [.int i] = some (.fz (.int i)) := rfl
theorem x_intB {i : Bool} : intD [.bl i] = some (.fz (.int (if i then 1 else 0))) := rfl
theorem x_loT {l : List D} : listOfD [.tup l] = some (.lst l) := rfl
theorem x_loL {l : List D} : listOfD [.lst l] = some (.lst l) := rfl
theorem x_toL {l : List D} : tupleOfD [.lst l] = some (.fz (.tup l)) := rfl
theorem x_toT {l : List D} : tupleOfD [.tup l] = some (.fz (.tup l)) := rfl
theorem x_ii_non_str  : isiD [.non, .ty "str"] = some (.fz (.bl false)) := by simp only [isiD, isiB, tyD, Option.bind_some, show kitB "NoneType" "str" = some false by decide +kernel, Option.map_some]
theorem x_ii_non_tuple  : isiD [.non, .ty "tuple"] = some (.fz (.bl false)) := by simp only [isiD, isiB, tyD, Option.bind_some, show kitB "NoneType" "tuple" = some false by decide +kernel, Option.map_some]
theorem x_ii_non_list  : isiD [.non, .ty "list"] = some (.fz (.bl false)) := by simp only [isiD, isiB, tyD, Option.bind_some, show kitB "NoneType" "list" = some false by decide +kernel, Option.map_some]
theorem x_ii_non_int  : isiD [.non, .ty "int"] = some (.fz (.bl false)) := by simp only [isiD, isiB, tyD, Option.bind_some, show kitB "NoneType" "int" = some false by decide +kernel, Option.map_some]
theorem x_ii_non_bool  : isiD [.non, .ty "bool"] = some (.fz (.bl false)) := by simp only [isiD, isiB, tyD, Option.bind_some, show kitB "NoneType" "bool" = some false by decide +kernel, Option.map_some]
theorem x_ii_non_dict  : isiD [.non, .ty "dict"] = some (.fz (.bl false)) := by simp only [isiD, isiB, tyD, Option.bind_some, show kitB "NoneType" "dict" = some false by decide +kernel, Option.map_some]
theorem x_ii_bl_str {b : Bool} : isiD [.bl b, .ty "str"] = some (.fz (.bl false)) := by simp only [isiD, isiB, tyD, Option.bind_some, show kitB "bool" "str" = some false by decide +kernel, Option.map_some]
theorem x_ii_bl_tuple {b : Bool} : isiD [.bl b, .ty "tuple"] = some (.fz (.bl false)) := by simp only [isiD, isiB, tyD, Option.bind_some, show kitB "bool" "tuple" = some false by decide +kernel, Option.map_some]
theorem x_ii_bl_list {b : Bool} : isiD [.bl b, .ty "list"] = some (.fz (.bl false)) := by simp only [isiD, isiB, tyD, Option.bind_some, show kitB "bool" "list" = some false by decide +kernel, Option.map_some]
theorem x_ii_bl_int {b : Bool} : isiD [.bl b, .ty "int"] = some (.fz (.bl true)) := by simp only [isiD, isiB, tyD, Option.bind_some, show kitB "bool" "int" = some true by decide +kernel, Option.map_some]
theorem x_ii_bl_bool {b : Bool} : isiD [.bl b, .ty "bool"] = some (.fz (.bl true)) := by simp only [isiD, isiB, tyD, Option.bind_some, show kitB "bool" "bool" = some true by decide +kernel, Option.map_some]
theorem x_ii_bl_dict {b : Bool} : isiD [.bl b, .ty "dict"] = some (.fz (.bl false)) := by simp only [isiD, isiB, tyD, Option.bind_some, show kitB "bool" "dict" = some false by decide +kernel, Option.map_some]
theorem x_ii_int_str {b : Int} : isiD [.int b, .ty "str"] = some (.fz (.bl false)) := by simp only [isiD, isiB, tyD, Option.bind_some, show kitB "int" "str" = some false by decide +kernel, Option.map_some]
theorem x_ii_int_tuple {b : Int} : isiD [.int b, .ty "tuple"] = some (.fz (.bl false)) := by simp only [isiD, isiB, tyD, Option.bind_some, show kitB "int" "tuple" = some false by decide +kernel, Option.map_some]
theorem x_ii_int_list {b : Int} : isiD [.int b, .ty "list"] = some (.fz (.bl false)) := by simp only [isiD, isiB, tyD, Option.bind_some, show kitB "int" "list" = some false by decide +kernel, Option.map_some]
theorem x_ii_int_int {b : Int} : isiD [.int b, .ty "int"] = some (.fz (.bl true)) := by simp only [isiD, isiB, tyD, Option.bind_some, show kitB "int" "int" = some true by decide +kernel, Option.map_some]
theorem x_ii_int_bool {b : Int} : isiD [.int b, .ty "bool"] = some (.fz (.bl false)) := by simp only [isiD, isiB, tyD, Option.bind_some, show kitB "int" "bool" = some false by decide +kernel, Option.map_some]
theorem x_ii_int_dict {b : Int} : isiD [.int b, .ty "dict"] = some (.fz (.bl false)) := by simp only [isiD, isiB, tyD, Option.bind_some, show kitB "int" "dict" = some false by decide +kernel, Option.map_some]
theorem x_ii_str_str {b : Str} : isiD [.str b, .ty "str"] = some (.fz (.bl true)) := by simp only [isiD, isiB, tyD, Option.bind_some, show kitB "str" "str" = some true by decide +kernel, Option.map_some]
theorem x_ii_str_tuple {b : Str} : isiD [.str b, .ty "tuple"] = some (.fz (.bl false)) := by simp only [isiD, isiB, tyD, Option.bind_some, show kitB "str" "tuple" = some false by decide +kernel, Option.map_some]
theorem x_ii_str_list {b : Str} : isiD [.str b, .ty "list"] = some (.fz (.bl false)) := by simp only [isiD, isiB, tyD, Option.bind_some, show kitB "str" "list" = some false by decide +kernel, Option.map_some]
theorem x_ii_str_int {b : Str} : isiD [.str b, .ty "int"] = some (.fz (.bl false)) := by simp only [isiD, isiB, tyD, Option.bind_some, show kitB "str" "int" = some false by decide +kernel, Option.map_some]
theorem x_ii_str_bool {b : Str} : isiD [.str b, .ty "bool"] = some (.fz (.bl false)) := by simp only [isiD, isiB, tyD, Option.bind_some, show kitB "str" "bool" = some false by decide +kernel, Option.map_some]
theorem x_ii_str_dict {b : Str} : isiD [.str b, .ty "dict"] = some (.fz (.bl false)) := by simp only [isiD, isiB, tyD, Option.bind_some, show kitB "str" "dict" = some false by decide +kernel, Option.map_some]
theorem x_ii_tup_str {b : List D} : isiD [.tup b, .ty "str"] = some (.fz (.bl false)) := by simp only [isiD, isiB, tyD, Option.bind_some, show kitB "tuple" "str" = some false by decide +kernel, Option.map_some]
theorem x_ii_tup_tuple {b : List D} : isiD [.tup b, .ty "tuple"] = some (.fz (.bl true)) := by simp only [isiD, isiB, tyD, Option.bind_some, show kitB "tuple" "tuple" = some true by decide +kernel, Option.map_some]
theorem x_ii_tup_list {b : List D} : isiD [.tup b, .ty "list"] = some (.fz (.bl false)) := by simp only [isiD, isiB, tyD, Option.bind_some, show kitB "tuple" "list" = some false by decide +kernel, Option.map_some]
theorem x_ii_tup_int {b : List D} : isiD [.tup b, .ty "int"] = some (.fz (.bl false)) := by simp only [isiD, isiB, tyD, Option.bind_some, show kitB "tuple" "int" = some false by decide +kernel, Option.map_some]
theorem x_ii_tup_bool {b : List D} : isiD [.tup b, .ty "bool"] = some (.fz (.bl false)) := by simp only [isiD, isiB, tyD, Option.bind_some, show kitB "tuple" "bool" = some false by decide +kernel, Option.map_some]
theorem x_ii_tup_dict {b : List D} : isiD [.tup b, .ty "dict"] = some (.fz (.bl false)) := by simp only [isiD, isiB, tyD, Option.bind_some, show kitB "tuple" "dict" = some false by decide +kernel, Option.map_some]
theorem x_ii_lst_str {b : List D} : isiD [.lst b, .ty "str"] = some (.fz (.bl false)) := by simp only [isiD, isiB, tyD, Option.bind_some, show kitB "list" "str" = some false by decide +kernel, Option.map_some]
theorem x_ii_lst_tuple {b : List D} : isiD [.lst b, .ty "tuple"] = some (.fz (.bl false)) := by simp only [isiD, isiB, tyD, Option.bind_some, show kitB "list" "tuple" = some false by decide +kernel, Option.map_some]
theorem x_ii_lst_list {b : List D} : isiD [.lst b, .ty "list"] = some (.fz (.bl true)) := by simp only [isiD, isiB, tyD, Option.bind_some, show kitB "list" "list" = some true by decide +kernel, Option.map_some]
theorem x_ii_lst_int {b : List D} : isiD [.lst b, .ty "int"] = some (.fz (.bl false)) := by simp only [isiD, isiB, tyD, Option.bind_some, show kitB "list" "int" = some false by decide +kernel, Option.map_some]
theorem x_ii_lst_bool {b : List D} : isiD [.lst b, .ty "bool"] = some (.fz (.bl false)) := by simp only [isiD, isiB, tyD, Option.bind_some, show kitB "list" "bool" = some false by decide +kernel, Option.map_some]
theorem x_ii_lst_dict {b : List D} : isiD [.lst b, .ty "dict"] = some (.fz (.bl false)) := by simp only [isiD, isiB, tyD, Option.bind_some, show kitB "list" "dict" = some false by decide +kernel, Option.map_some]
theorem x_ii_scr_str {b : List Int} : isiD [.scr b, .ty "str"] = some (.fz (.bl false)) := by simp only [isiD, isiB, tyD, Option.bind_some, show kitB "list" "str" = some false by decide +kernel, Option.map_some]
theorem x_ii_scr_tuple {b : List Int} : isiD [.scr b, .ty "tuple"] = some (.fz (.bl false)) := by simp only [isiD, isiB, tyD, Option.bind_some, show kitB "list" "tuple" = some false by decide +kernel, Option.map_some]
theorem x_ii_scr_list {b : List Int} : isiD [.scr b, .ty "list"] = some (.fz (.bl true)) := by simp only [isiD, isiB, tyD, Option.bind_some, show kitB "list" "list" = some true by decide +kernel, Option.map_some]
theorem x_ii_scr_int {b : List Int} : isiD [.scr b, .ty "int"] = some (.fz (.bl false)) := by simp only [isiD, isiB, tyD, Option.bind_some, show kitB "list" "int" = some false by decide +kernel, Option.map_some]
theorem x_ii_scr_bool {b : List Int} : isiD [.scr b, .ty "bool"] = some (.fz (.bl false)) := by simp only [isiD, isiB, tyD, Option.bind_some, show kitB "list" "bool" = some false by decide +kernel, Option.map_some]
theorem x_ii_scr_dict {b : List Int} : isiD [.scr b, .ty "dict"] = some (.fz (.bl false)) := by simp only [isiD, isiB, tyD, Option.bind_some, show kitB "list" "dict" = some false by decide +kernel, Option.map_some]
theorem x_ii_dic_str {ks : List Key} {b : List D} : isiD [.dic ks b, .ty "str"] = some (.fz (.bl false)) := by simp only [isiD, isiB, tyD, Option.bind_some, show kitB "dict" "str" = some false by decide +kernel, Option.map_some]
theorem x_ii_dic_tuple {ks : List Key} {b : List D} : isiD [.dic ks b, .ty "tuple"] = some (.fz (.bl false)) := by simp only [isiD, isiB, tyD, Option.bind_some, show kitB "dict" "tuple" = some false by decide +kernel, Option.map_some]
theorem x_ii_dic_list {ks : List Key} {b : List D} : isiD [.dic ks b, .ty "list"] = some (.fz (.bl false)) := by simp only [isiD, isiB, tyD, Option.bind_some, show kitB "dict" "list" = some false by decide +kernel, Option.map_some]
theorem x_ii_dic_int {ks : List Key} {b : List D} : isiD [.dic ks b, .ty "int"] = some (.fz (.bl false)) := by simp only [isiD, isiB, tyD, Option.bind_some, show kitB "dict" "int" = some false by decide +kernel, Option.map_some]
theorem x_ii_dic_bool {ks : List Key} {b : List D} : isiD [.dic ks b, .ty "bool"] = some (.fz (.bl false)) := by simp only [isiD, isiB, tyD, Option.bind_some, show kitB "dict" "bool" = some false by decide +kernel, Option.map_some]
theorem x_ii_dic_dict {ks : List Key} {b : List D} : isiD [.dic ks b, .ty "dict"] = some (.fz (.bl true)) := by simp only [isiD, isiB, tyD, Option.bind_some, show kitB "dict" "dict" = some true by decide +kernel, Option.map_some]
theorem x_finR {o : O} : fin (.rt o ⟨σ, h⟩) = .ok o h := rfl
theorem x_finN : fin (.nx ⟨σ, h⟩) = .ok (.fz .non) h := rfl
theorem x_finE {c : Str} {e : D} : fin (.exc c e ⟨σ, h⟩) = .exc c e h := rfl
theorem ofS_inj {a b : String} : (Str.ofString a = Str.ofString b) = (a = b) := by
  apply propext
  constructor
  · intro e
    rw [Str.ofString_eq_toList, Str.ofString_eq_toList] at e
    have e1 := congrArg (fun x : Str => x.cps.toList) e
    simp only at e1
    have e2 := List.map_inj_right (f := Char.toNat) (fun x y hxy => Char.toNat_inj.mp hxy) |>.mp e1
    exact String.toList_inj.mp e2
  · intro e; rw [e]
end Mi

set_option Elab.async false
set_option linter.all false
set_option maxRecDepth 100000
set_option maxHeartbeats 4000000
/-! Mi, part T: the laws' pools and draws. -/
local macro_rules
  | `(tactic| simp_arith [$xs,*]) => `(tactic| simp only [$xs,*, Mi.Out.bind_ok, Mi.Out.bind_exc, Mi.Out.bind_bad, Mi.Out.flow_ok, Mi.Out.flow_exc, Mi.Out.flow_bad, Mi.lift_some, Mi.lift_none, Mi.xT_nx, Mi.xT_rt, Mi.xT_bk, Mi.xT_ct, Mi.xT_exc, Mi.xT_bad, Mi.x_seq, Mi.x_nil, Mi.x_pass, Mi.x_brk, Mi.x_cnt, Mi.x_retN, Mi.x_if, Mi.x_ifT, Mi.x_ifF, Mi.x_ret, Mi.x_ret1, Mi.x_ret2, Mi.x_gvO, Mi.x_gvB, Mi.x_gv, Mi.x_frz1, Mi.x_frz2, Mi.x_frz3, Mi.x_frz4, Mi.x_pkO, Mi.x_pkB, Mi.x_pk, Mi.x_tkO, Mi.x_tkB, Mi.x_tk, Mi.x_kpO, Mi.x_kpB, Mi.x_kp, Mi.x_dl, Mi.x_d_non, Mi.x_d_bl, Mi.x_d_int, Mi.x_d_str, Mi.x_d_tup, Mi.x_d_lst, Mi.x_d_scr, Mi.x_d_ty, Mi.x_d_fn, Mi.x_d_cls, Mi.x_d_dic, Mi.x_d_ins, Mi.x_d_nl, Option.bind_some, Option.bind_none, Option.map_some, Option.map_none, Mi.x_var, Mi.x_var1, Mi.x_con, Mi.x_dic0, Mi.x_aNil, Mi.x_aCons, Mi.x_a1, Mi.x_a2, Mi.x_a3, Mi.x_rNil, Mi.x_rCons, Mi.x_r1, Mi.x_r2, Mi.x_two, Mi.x_ta, Mi.x_tb, Mi.x_t2, Mi.x_t3, Mi.x_one, Mi.x_o, Mi.x_o2, Mi.x_tup, Mi.x_lst, Mi.x_tupK0, Mi.x_lstK0, Mi.x_tupK1, Mi.x_lstK1, Mi.x_tupK2, Mi.x_lstK2, Mi.x_tupK3, Mi.x_lstK3, Mi.x_tupK4, Mi.x_lstK4, Mi.x_tupK5, Mi.x_lstK5, Mi.x_tupK6, Mi.x_lstK6, Mi.x_tupK7, Mi.x_lstK7, Mi.x_tupK8, Mi.x_lstK8, Mi.x_tupK9, Mi.x_lstK9, Mi.x_tupK10, Mi.x_lstK10, Mi.x_tupK11, Mi.x_lstK11, Mi.x_tupK12, Mi.x_lstK12, Mi.x_tupK13, Mi.x_lstK13, Mi.x_tupK14, Mi.x_lstK14, Mi.x_bval, Mi.x_val, Mi.x_bcmp, Mi.x_cmp, Mi.x_isbl, Mi.x_bnot, Mi.x_notB, Mi.x_band, Mi.x_andT, Mi.x_andF, Mi.x_bor, Mi.x_orT, Mi.x_orF, Mi.x_byes, Mi.x_and, Mi.x_and1, Mi.x_and2T, Mi.x_and2F, Mi.x_or, Mi.x_or1, Mi.x_or2T, Mi.x_or2F, Mi.x_not, Mi.x_not1, Mi.x_not2, Mi.x_ife, Mi.x_ifeT, Mi.x_ifeF, Mi.x_tr_n, Mi.x_tr_b, Mi.x_tr_i, Mi.x_tr_t, Mi.x_tr_l, Mi.x_call, Mi.x_kcall, Mi.x_res1, Mi.x_res2, Mi.x_blt, Mi.x_kblt, Mi.x_kblt2, Mi.x_ps0, Mi.x_ps, Mi.x_ps1, Mi.x_cell, Mi.x_cellL, Mi.x_asg, Mi.x_asg1, Mi.x_asg2, Mi.x_asg3, Mi.x_mul, Mi.x_mul2, Mi.x_mul3, Mi.x_mul4, Mi.x_mulA, Mi.x_ka0, Mi.x_ka, Mi.x_ka1, Mi.x_ka2, Mi.x_as0, Mi.x_as, Mi.x_as1, Mi.x_ex, Mi.x_ex1, Mi.x_g0, Mi.x_gS, Mi.x_gU, Mi.x_gsN, Mi.x_gsC, Mi.x_gs, Mi.x_gTt1, Mi.x_gTl1, Mi.x_gTo1, Mi.x_gTt2, Mi.x_gTl2, Mi.x_gTo2, Mi.x_gTt3, Mi.x_gTl3, Mi.x_gTo3, Mi.x_gTt4, Mi.x_gTl4, Mi.x_gTo4, Mi.x_gTt5, Mi.x_gTl5, Mi.x_gTo5, Mi.x_app, Mi.x_app0, Mi.x_see, Mi.x_app1, Mi.x_app2, Mi.x_app3, Mi.x_app4, Mi.x_appS0, Mi.x_appS1, Mi.x_appS2, Mi.x_appS3, Mi.x_appS4, Mi.x_appS5, Mi.x_appS6, Mi.x_pop, Mi.x_pop1, Mi.x_popS, Mi.x_set, Mi.x_set1, Mi.x_set2, Mi.x_set3, Mi.x_set4, Mi.x_set5, Mi.x_mutB, Mi.x_mutS, Mi.x_mutF, Mi.x_muL, Mi.x_muC, Mi.x_mc, Mi.x_mc1, Mi.x_mc2, Mi.x_for, Mi.x_forL, Mi.x_lc, Mi.x_lc1, Mi.x_lc2, Mi.x_wp0, Mi.x_wp, Mi.x_rs0, Mi.x_rs, Option.getD_some, Option.getD_none, Mi.x_iv, Mi.x_iv1, Mi.x_iv2, Mi.x_itT, Mi.x_itL, Mi.x_itS, Mi.x_itC, Mi.x_rg, Mi.x_rg1, Mi.x_pn, Mi.x_psm, Mi.x_psm1, Mi.x_psm2, Mi.x_sl, Mi.x_sl0, Mi.x_sl1, Mi.x_sl2, Mi.x_sl3, Mi.x_slT, Mi.x_slC, Mi.x_slL, Mi.x_ch, Mi.x_ch1, Mi.x_ch2, Mi.x_ch3T, Mi.x_ch3F, Mi.x_ch4, Mi.x_ch5, Mi.x_cn, Mi.x_cn1, Mi.x_cn2, Mi.x_ltII, Mi.x_leII, Mi.x_gtII, Mi.x_geII, Mi.x_eqSS, Mi.x_neSS, Mi.x_eqSI, Mi.x_neSI, Mi.x_eqSN, Mi.x_neSN, Mi.x_eqIS, Mi.x_neIS, Mi.x_eqII, Mi.x_neII, Mi.x_eqIN, Mi.x_neIN, Mi.x_eqNS, Mi.x_neNS, Mi.x_eqNI, Mi.x_neNI, Mi.x_eqNN, Mi.x_neNN, Mi.x_addII, Mi.x_addBII, Mi.x_subII, Mi.x_negI, Mi.x_isN, Mi.x_isN2, Mi.x_isNN, Mi.x_isn_non, Mi.x_isn_bl, Mi.x_isn_int, Mi.x_isn_str, Mi.x_isn_tup, Mi.x_isn_lst, Mi.x_isn_loc, Mi.x_isn_fn, Mi.x_lenT, Mi.x_lenL, Mi.x_lenC, Mi.x_atT, Mi.x_atL, Mi.x_atC, Mi.x_max, Mi.x_min, Mi.x_intI, Mi.x_intB, Mi.x_loT, Mi.x_loL, Mi.x_toL, Mi.x_toT, Mi.x_ii_non_str, Mi.x_ii_non_tuple, Mi.x_ii_non_list, Mi.x_ii_non_int, Mi.x_ii_non_bool, Mi.x_ii_non_dict, Mi.x_ii_bl_str, Mi.x_ii_bl_tuple, Mi.x_ii_bl_list, Mi.x_ii_bl_int, Mi.x_ii_bl_bool, Mi.x_ii_bl_dict, Mi.x_ii_int_str, Mi.x_ii_int_tuple, Mi.x_ii_int_list, Mi.x_ii_int_int, Mi.x_ii_int_bool, Mi.x_ii_int_dict, Mi.x_ii_str_str, Mi.x_ii_str_tuple, Mi.x_ii_str_list, Mi.x_ii_str_int, Mi.x_ii_str_bool, Mi.x_ii_str_dict, Mi.x_ii_tup_str, Mi.x_ii_tup_tuple, Mi.x_ii_tup_list, Mi.x_ii_tup_int, Mi.x_ii_tup_bool, Mi.x_ii_tup_dict, Mi.x_ii_lst_str, Mi.x_ii_lst_tuple, Mi.x_ii_lst_list, Mi.x_ii_lst_int, Mi.x_ii_lst_bool, Mi.x_ii_lst_dict, Mi.x_ii_scr_str, Mi.x_ii_scr_tuple, Mi.x_ii_scr_list, Mi.x_ii_scr_int, Mi.x_ii_scr_bool, Mi.x_ii_scr_dict, Mi.x_ii_dic_str, Mi.x_ii_dic_tuple, Mi.x_ii_dic_list, Mi.x_ii_dic_int, Mi.x_ii_dic_bool, Mi.x_ii_dic_dict, Mi.x_finR, Mi.x_finN, Mi.x_finE, Mi.ofS_inj, List.getElem?_cons_zero, List.getElem?_cons_succ, List.set_cons_zero, List.set_cons_succ, List.length_cons, List.length_nil, Bool.not_true, Bool.not_false, decide_true, decide_false, String.reduceEq, Nat.reduceAdd, Mi.fI, Mi.fB, Mi.at0, Mi.at1, Mi.at2, Mi.at3, Mi.at4, Mi.at5])
namespace Mi
open PySem PySem.Spec PyProof.Rows L2

def m_pool (add : D → D → Option O) : C := (cSeq (cAsg (mIf (bCmp (mTwo ltD (mVar 1) (mBlt lenD (rCons (mVar 0) rNil)))) (mTwo atD (mVar 0) (mVar 1)) (mTwo add (mTwo mulD (mCon (.int 7)) (mBlt sumD (rCons (mSl (mVar 0) pNone (pSome (mCon (.int 63)))) rNil))) (mVar 1))) (gN 2)) (cSeq (cAsg (mBlt absD (rCons (mVar 2) rNil)) (gN 3)) (cSeq (cAsg (mTwo add (mTwo add (mTwo add (mTwo modD (mBlt intD (rCons (mVar 3) rNil)) (mCon (.int 2147483629))) (mTwo mulD (mTwo mulD (mCon (.int 7919)) (mVar 1)) (mVar 1))) (mTwo mulD (mCon (.int 31)) (mVar 1))) (mCon (.int 17))) (gN 4)) (cSeq (cAsg (mTwo modD (mBlt intD (rCons (mTwo mulD (mVar 4) (mCon (.int 48271))) rNil)) (mCon (.int 2147483647))) (gN 4)) (cSeq (cRet (mLst (aCons (mTwo mulD (mVar 3) (mBlt intD (rCons (mTwo geD (mVar 3) (mTwo powD (mCon (.int 10)) (mCon (.int 18)))) rNil))) (aCons (mTwo modD (mBlt intD (rCons (mTwo mulD (mVar 4) (mVar 4)) rNil)) (mCon (.int 2147483629))) aNil)))) cNil)))))
def m_draw (add : D → D → Option O) : C := (cSeq (cIf (bCmp (mTwo gtD (mTwo atD (mVar 0) (mCon (.int 0))) (mCon (.int 0)))) (cSeq (cAsg (mTwo modD (mBlt intD (rCons (mTwo atD (mVar 0) (mCon (.int 0))) rNil)) (mVar 1)) (gN 2)) (cSeq (cSetL (mTwo fdivD (mTwo atD (mVar 0) (mCon (.int 0))) (mVar 1)) (mVar 0) (mCon (.int 0))) (cSeq (cRet (mVar 2)) cNil))) cNil) (cSeq (cSetL (mTwo modD (mBlt intD (rCons (mTwo add (mTwo mulD (mTwo atD (mVar 0) (mCon (.int 1))) (mCon (.int 48271))) (mCon (.int 11))) rNil)) (mCon (.int 2147483647))) (mVar 0) (mCon (.int 1))) (cSeq (cRet (mTwo modD (mBlt intD (rCons (mTwo fdivD (mTwo modD (mBlt intD (rCons (mTwo mulD (mTwo atD (mVar 0) (mCon (.int 1))) (mTwo atD (mVar 0) (mCon (.int 1)))) rNil)) (mCon (.int 2147483629))) (mCon (.int 16))) rNil)) (mVar 1))) cNil)))
def m_pick : C := (cSeq (cRet (mTwo atD (mVar 1) (mCall "_law_draw" (aCons (mVar 0) (aCons (mBlt lenD (rCons (mVar 1) rNil)) aNil))))) cNil)
/-- a pool stands in the n-th cell -/
def PoolAt (h : List O) (n : Nat) : Prop := ∃ a b : Int, h[n]? = some (.lst [.int a, .int b]) ∧ 0 ≤ a ∧ 0 ≤ b ∧ b < 2147483647
/-- addition of ints -/
def AddI (add : D → D → Option O) : Prop := ∀ i j : Int, add (.int i) (.int j) = fI (i + j)
theorem addI_D : AddI addD := fun _ _ => rfl
theorem addI_B : AddI addB := fun _ _ => rfl
theorem smallI_of {i : Int} (h1 : 0 ≤ i) (h2 : i < 2147483648) : smallI i = true := by
  simp only [smallI, Bool.and_eq_true, decide_eq_true_eq]
  exact ⟨by omega, by omega⟩
/-- the table has the laws' draws -/
structure Draws (tab : Str → Option MFn) (add : D → D → Option O) : Prop where
  addI : AddI add
  pool : ∃ N, N.length = 5 ∧ tab "_law_pool" = some ⟨N, 2, m_pool add⟩
  draw : ∃ N, N.length = 3 ∧ tab "_law_draw" = some ⟨N, 2, m_draw add⟩
  pick : ∃ N, N.length = 2 ∧ tab "_law_pick" = some ⟨N, 2, m_pick⟩
/-- a pool drawn from: just its cell has changed -/
def PoolTo (n : Nat) (h h' : List O) : Prop := h'.length = h.length ∧ (∀ i, i ≠ n → h'[i]? = h[i]?) ∧ PoolAt h' n
theorem PoolTo.refl {n : Nat} {h : List O} (p : PoolAt h n) : PoolTo n h h := ⟨rfl, fun _ _ => rfl, p⟩
theorem PoolTo.trans {n : Nat} {h h' h'' : List O} (a : PoolTo n h h') (b : PoolTo n h' h'') : PoolTo n h h'' := ⟨b.1.trans a.1, fun i hi => (b.2.1 i hi).trans (a.2.1 i hi), b.2.2⟩
theorem PoolTo.at {n : Nat} {h h' : List O} (a : PoolTo n h h') : PoolAt h' n := a.2.2
theorem PoolTo.set {n : Nat} {h : List O} {a b : Int} (p : PoolAt h n) (h1 : 0 ≤ a) (h2 : 0 ≤ b) (h3 : b < 2147483647) : PoolTo n h (h.set n (.lst [.int a, .int b])) := by
  obtain ⟨x, y, e, _⟩ := p
  have hl : n < h.length := by
    rcases Nat.lt_or_ge n h.length with z | z
    · exact z
    · rw [List.getElem?_eq_none z] at e; cases e
  refine ⟨by simp, fun i hi => by rw [List.getElem?_set_ne (fun z => hi z.symm)], a, b, ?_, h1, h2, h3⟩
  rw [List.getElem?_set_self hl]
theorem st0_2 {N : List Str} {a b : D} {m : Nat} (h : N.length = m + 2) : start0 N [a, b] = some (.fz a) :: some (.fz b) :: List.replicate m none := by
  simp only [start0, h, List.length_cons, List.length_nil, List.map_cons, List.map_nil]
  rfl
variable {tab : Str → Option MFn} {add : D → D → Option O}
theorem ix0 : ixN 2 0 = some 0 := rfl
theorem ix1 : ixN 2 1 = some 1 := rfl
theorem draw_ok (T : Draws tab add) (k : Nat) {h : List O} {n : Nat} (hp : PoolAt h n) {m : Int} (h1 : 0 < m) (h2 : m < 1073741824) :
    ∃ r h', callN tab (k + 1) "_law_draw" [.loc n, .int m] h = .ok (.fz (.int r)) h' ∧ 0 ≤ r ∧ r < m ∧ PoolTo n h h' := by
  obtain ⟨N, hN, e⟩ := T.draw
  have hadd := T.addI
  rw [call_at e _ rfl (st0_2 hN)]
  have hp0 := hp
  obtain ⟨a, b, eh, ha, hb, hb2⟩ := hp
  have hsm : smallI b = true := smallI_of hb (by omega)
  simp_arith [m_draw, eh, List.replicate]
  by_cases hz : 0 < a
  · have e0 : decide (0 < a) = true := decide_eq_true hz
    simp_arith [e0, modD, fdivD, h1, h2, if_true, and_self, eh, ix0, stL, fI]
    exact ⟨_, _, rfl, Int.emod_nonneg _ (by omega), Int.emod_lt_of_pos _ h1, PoolTo.set hp0 (Int.ediv_nonneg ha (by omega)) hb hb2⟩
  · have e0 : decide (0 < a) = false := decide_eq_false hz
    have hsm2 : smallI 48271 = true := rfl
    have hq : (0 : Int) < 2147483647 := by decide
    have hq2 : (0 : Int) < 2147483629 := by decide
    have hq3 : (0 : Int) < 16 ∧ (16 : Int) < 1073741824 := by decide
    have l1 : 0 ≤ (b * 48271 + 11) % 2147483647 := Int.emod_nonneg _ (by omega)
    have l2 : (b * 48271 + 11) % 2147483647 < 2147483647 := Int.emod_lt_of_pos _ (by omega)
    have hsm3 : smallI ((b * 48271 + 11) % 2147483647) = true := smallI_of l1 (by omega)
    have hl : n < h.length := by
      rcases Nat.lt_or_ge n h.length with z | z
      · exact z
      · rw [List.getElem?_eq_none z] at eh; cases eh
    have es : ∀ o : O, (h.set n o)[n]? = some o := fun o => List.getElem?_set_self hl
    simp_arith [e0, modD, fdivD, mulD, hadd _ _, h1, h2, if_true, and_self, eh, ix1, hsm, hsm2, Bool.or_true, hq, es, hsm3, hq2, hq3, stL, fI]
    exact ⟨_, _, rfl, Int.emod_nonneg _ (by omega), Int.emod_lt_of_pos _ h1, PoolTo.set hp0 ha l1 l2⟩
theorem atI_lt {l : List D} {r : Int} (h1 : 0 ≤ r) (h2 : r < l.length) : ∃ d, d ∈ l ∧ atI l r = some d ∧ l[r.toNat]? = some d := by
  have hl : r.toNat < l.length := by omega
  refine ⟨l[r.toNat], List.getElem_mem hl, ?_, by simp [hl]⟩
  have := atI_nat (xs := l) (j := r.toNat) (v := l[r.toNat]) (by simp [hl])
  rwa [Int.toNat_of_nonneg h1] at this
/-- what is picked is one of them -/
theorem pick_ok (T : Draws tab add) (k : Nat) {h : List O} {n : Nat} (hp : PoolAt h n) (d0 : D) (l : List D) (hl : itemsD d0 = some l) (h0 : 0 < l.length) (h1 : l.length < 1073741824) :
    ∃ d h', callN tab (k + 2) "_law_pick" [.loc n, d0] h = .ok (.fz d) h' ∧ d ∈ l ∧ PoolTo n h h' := by
  obtain ⟨N, hN, e⟩ := T.pick
  rw [call_at e _ rfl (st0_2 hN)]
  obtain ⟨r, h', ec, r0, r1, pt⟩ := draw_ok T k hp (m := l.length) (by omega) (by omega)
  obtain ⟨d, hd, ea, _⟩ := atI_lt (l := l) r0 r1
  refine ⟨d, h', ?_, hd, pt⟩
  cases d0 with
  | lst ds => cases hl; simp_arith [m_pick, List.replicate, ec, ea]
  | tup ds => cases hl; simp_arith [m_pick, List.replicate, ec, ea]
  | scr ds => cases hl; simp only [List.length_map] at ec; simp_arith [m_pick, List.replicate, List.length_map, ec, ea]
  | _ => all_goals cases hl
theorem ints_map (ns : List Int) : intsD (ns.map .int) = some ns := by
  induction ns with
  | nil => rfl
  | cons a l ih => simp only [List.map_cons, intsD, ih, Option.map_some]
def m_pool0 (add : D → D → Option O) : E := (mIf (bCmp (mTwo ltD (mVar 1) (mBlt lenD (rCons (mVar 0) rNil)))) (mTwo atD (mVar 0) (mVar 1)) (mTwo add (mTwo mulD (mCon (.int 7)) (mBlt sumD (rCons (mSl (mVar 0) pNone (pSome (mCon (.int 63)))) rNil))) (mVar 1)))
theorem pool0_ok {call : Call} (hadd : AddI add) (ns : List Int) {i : Int} (h1 : 0 ≤ i) (h2 : i < 64) (h : List O) :
    ∃ c : Int, m_pool0 add call ⟨[some (.fz (.scr ns)), some (.fz (.int i)), none, none, none], h⟩ = .ok (.own (.fz (.int c))) ⟨[some (.fz (.scr ns)), some (.fz (.int i)), none, none, none], h⟩ := by
  by_cases hlt : i < (ns.map D.int).length
  · have d1 : decide (i < ((ns.map D.int).length : Int)) = true := decide_eq_true hlt
    obtain ⟨d, hd, ea, _⟩ := atI_lt (l := ns.map D.int) h1 hlt
    obtain ⟨c, hc, rfl⟩ := List.mem_map.mp hd
    refine ⟨c, ?_⟩
    simp_arith [m_pool0, d1, ea]
  · have d1 : decide (i < ((ns.map D.int).length : Int)) = false := decide_eq_false hlt
    refine ⟨(7 * (cutD ns none (some 63)).sum + i), ?_⟩
    have s7 : smallI 7 = true := rfl
    have ec : cutD (ns.map D.int) none (some 63) = (cutD ns none (some 63)).map D.int := by
      simp only [cutD, List.length_map, List.map_drop, List.map_take]
    simp_arith [m_pool0, d1, ec, sumD, listD, ints_map, mulD, s7, Bool.true_or, if_true, hadd _ _]
theorem pool_ok (T : Draws tab add) (k : Nat) (ns : List Int) {i : Int} (h1 : 0 ≤ i) (h2 : i < 64) (h : List O) :
    ∃ a b : Int, callN tab (k + 1) "_law_pool" [.scr ns, .int i] h = .ok (.lst [.int a, .int b]) h ∧ 0 ≤ a ∧ 0 ≤ b ∧ b < 2147483647 := by
  obtain ⟨N, hN, e⟩ := T.pool
  have hadd := T.addI
  rw [call_at e _ rfl (st0_2 hN)]
  obtain ⟨c, ec⟩ := pool0_ok (call := callN tab k) hadd ns h1 h2 h
  have c0 : 0 ≤ (if c < 0 then -c else c) := by split <;> omega
  generalize hcc : (if c < 0 then -c else c) = z at c0
  have hq : (0 : Int) < 2147483647 := by decide
  have hq2 : (0 : Int) < 2147483629 := by decide
  have s1 : smallI 7919 = true := rfl
  have s2 : smallI 31 = true := rfl
  have s3 : smallI 48271 = true := rfl
  have si : smallI i = true := smallI_of h1 (by omega)
  have hpw : (0 : Int) ≤ 18 ∧ (18 : Int) ≤ 1000000 ∧ Int.natAbs 10 < 2 ^ 64 := by decide
  generalize hm : ((z % 2147483629 + 7919 * i * i + 31 * i + 17) * 48271) % 2147483647 = m
  have m0 : 0 ≤ m := by rw [← hm]; exact Int.emod_nonneg _ (by omega)
  have m1 : m < 2147483647 := by rw [← hm]; exact Int.emod_lt_of_pos _ (by omega)
  have sm : smallI m = true := smallI_of m0 (by omega)
  have sb : ∀ q : Bool, smallI (if q then 1 else 0) = true := by decide
  refine ⟨z * (if decide ((10 : Int) ^ Int.toNat 18 ≤ z) then 1 else 0), (m * m) % 2147483629, ?_, ?_, Int.emod_nonneg _ (by omega), ?_⟩
  · simp only [m_pool, x_seq, x_asg]
    show fin (((m_pool0 add (callN tab k) _).flow _).then _) = _
    simp only [List.replicate]
    rw [ec]
    simp_arith [absD, hcc, modD, mulD, hadd _ _, hq, hq2, s1, s2, s3, si, hpw, powD, Bool.or_true, Bool.true_or, and_self, hm, sm, sb, if_true]
  · split <;> omega
  · have := Int.emod_lt_of_pos (m * m) (show (0 : Int) < 2147483629 by decide)
    omega
end Mi

set_option Elab.async false
set_option linter.all false
set_option maxRecDepth 100000
set_option maxHeartbeats 4000000
/-! the law's defs, turned (printed by gen.py) -/
namespace K01
open PySem PySem.Spec PyProof.Rows L2 Mi
def tops : List Stmt := PySem.Challenge.pw_valueshown_k01_names_and_rows.main.body
def topS (i : Nat) : Stmt := tops.getD i (.Pass ⟨0, 0, 0, 0⟩)
def cons : List (Str × D) := [("LETTERS", (.str "abcdefghijklmnopqrstuvwxyz")), ("MOST_LETTERS", (.int 8)), ("MOST_OPERANDS", (.int 2))]
def con : Str → Option D := conOf cons
def names : List Str := ["is_name", "are_unlike", "are_names", "has_kind", "is_row", "is_made_row", "is_end", "reads", "sets", "_law_pool", "_law_draw", "_law_pick", "_law_is_name", "_law_word", "_law_words", "_law_parts", "_law_is_row", "_law_is_made", "_law_is_end", "law"]
def cells : List Str := ["_law_pool"]
def m_is_name : C := (cSeq (cRet (mAnd (mBlt isiD (rCons (mVar 0) (rCons (mCon (.ty "str")) rNil))) (mAnd (mChain leD leD (mCon (.int 1)) (mBlt lenD (rCons (mVar 0) rNil)) (mCon (.int 8))) (mBlt allD (rCons (mLc (iVal (mVar 0)) (gN 1) bYes (mTwo inD (mVar 1) (mCon (.str "abcdefghijklmnopqrstuvwxyz"))) [1]) rNil))))) cNil)
theorem t_is_name : (turn (ccOf con names cells true (topS 4)) (defBody (topS 4))).map (·.m) = some m_is_name := by kernel_rfl
def f_is_name : MFn := ⟨["value", "sign"], 1, m_is_name⟩
theorem n_is_name : mkN (topS 4) = (["value", "sign"] : List Str) := by decide +kernel
def m_are_unlike : C := (cSeq (cRet (mBlt allD (rCons (mLc (iEnB (aCons (mVar 0) aNil)) (gT 2 (gsCons (gN 1) (gsCons (gN 2) gsNil))) bYes (mTwo notInD (mVar 2) (mSl (mVar 0) pNone (pSome (mVar 1)))) [1, 2]) rNil))) cNil)
theorem t_are_unlike : (turn (ccOf con names cells true (topS 5)) (defBody (topS 5))).map (·.m) = some m_are_unlike := by kernel_rfl
def f_are_unlike : MFn := ⟨["values", "at", "value"], 1, m_are_unlike⟩
theorem n_are_unlike : mkN (topS 5) = (["values", "at", "value"] : List Str) := by decide +kernel
def m_are_names : C := (cSeq (cRet (mAnd (mBlt isiD (rCons (mVar 0) (rCons (mCon (.ty "tuple")) rNil))) (mBlt allD (rCons (mLc (iVal (mVar 0)) (gN 1) bYes (mCall "is_name" (aCons (mVar 1) aNil)) [1]) rNil)))) cNil)
theorem t_are_names : (turn (ccOf con names cells true (topS 6)) (defBody (topS 6))).map (·.m) = some m_are_names := by kernel_rfl
def f_are_names : MFn := ⟨["value", "item"], 1, m_are_names⟩
theorem n_are_names : mkN (topS 6) = (["value", "item"] : List Str) := by decide +kernel
def m_has_kind : C := (cSeq (cRet (mAnd (mBlt isiD (rCons (mVar 0) (rCons (mCon (.ty "tuple")) rNil))) (mAnd (mTwo eqD (mBlt lenD (rCons (mVar 0) rNil)) (mVar 2)) (mAnd (mBlt isiD (rCons (mTwo atD (mVar 0) (mCon (.int 0))) (rCons (mCon (.ty "str")) rNil))) (mTwo eqD (mTwo atD (mVar 0) (mCon (.int 0))) (mVar 1)))))) cNil)
theorem t_has_kind : (turn (ccOf con names cells true (topS 7)) (defBody (topS 7))).map (·.m) = some m_has_kind := by kernel_rfl
def f_has_kind : MFn := ⟨["value", "kind", "many"], 3, m_has_kind⟩
theorem n_has_kind : mkN (topS 7) = (["value", "kind", "many"] : List Str) := by decide +kernel
def m_is_row : C := (cSeq (cIf (bVal (mCall "has_kind" (aCons (mVar 0) (aCons (mCon (.str "copy")) (aCons (mCon (.int 3)) aNil))))) (cSeq (cRet (mAnd (mCall "is_name" (aCons (mTwo atD (mVar 0) (mCon (.int 1))) aNil)) (mCall "is_name" (aCons (mTwo atD (mVar 0) (mCon (.int 2))) aNil)))) cNil) cNil) (cSeq (cIf (bOr (bNot (bVal (mCall "has_kind" (aCons (mVar 0) (aCons (mCon (.str "set")) (aCons (mCon (.int 4)) aNil)))))) (bOr (bNot (bVal (mCall "is_name" (aCons (mTwo atD (mVar 0) (mCon (.int 1))) aNil)))) (bNot (bVal (mCall "is_name" (aCons (mTwo atD (mVar 0) (mCon (.int 2))) aNil)))))) (cSeq (cRet (mCon (.bl false))) cNil) cNil) (cSeq (cRet (mAnd (mCall "are_names" (aCons (mTwo atD (mVar 0) (mCon (.int 3))) aNil)) (mTwo leD (mBlt lenD (rCons (mTwo atD (mVar 0) (mCon (.int 3))) rNil)) (mCon (.int 2))))) cNil)))
theorem t_is_row : (turn (ccOf con names cells true (topS 8)) (defBody (topS 8))).map (·.m) = some m_is_row := by kernel_rfl
def f_is_row : MFn := ⟨["value"], 1, m_is_row⟩
theorem n_is_row : mkN (topS 8) = (["value"] : List Str) := by decide +kernel
def m_is_made_row : C := (cSeq (cIf (bNot (bVal (mCall "has_kind" (aCons (mVar 0) (aCons (mCon (.str "call")) (aCons (mCon (.int 5)) aNil)))))) (cSeq (cRet (mCall "is_row" (aCons (mVar 0) aNil))) cNil) cNil) (cSeq (cIf (bNot (bVal (mCall "is_row" (aCons (mTup (aCons (mCon (.str "set")) (aCons (mTwo atD (mVar 0) (mCon (.int 1))) (aCons (mTwo atD (mVar 0) (mCon (.int 2))) (aCons (mTwo atD (mVar 0) (mCon (.int 3))) aNil))))) aNil)))) (cSeq (cRet (mCon (.bl false))) cNil) cNil) (cSeq (cRet (mAnd (mCall "are_names" (aCons (mTwo atD (mVar 0) (mCon (.int 4))) aNil)) (mCall "are_unlike" (aCons (mTwo atD (mVar 0) (mCon (.int 4))) aNil)))) cNil)))
theorem t_is_made_row : (turn (ccOf con names cells true (topS 9)) (defBody (topS 9))).map (·.m) = some m_is_made_row := by kernel_rfl
def f_is_made_row : MFn := ⟨["value"], 1, m_is_made_row⟩
theorem n_is_made_row : mkN (topS 9) = (["value"] : List Str) := by decide +kernel
def m_is_end : C := (cSeq (cIf (bOr (bVal (mCall "has_kind" (aCons (mVar 0) (aCons (mCon (.str "go")) (aCons (mCon (.int 2)) aNil))))) (bVal (mCall "has_kind" (aCons (mVar 0) (aCons (mCon (.str "return")) (aCons (mCon (.int 2)) aNil)))))) (cSeq (cRet (mCall "is_name" (aCons (mTwo atD (mVar 0) (mCon (.int 1))) aNil))) cNil) cNil) (cSeq (cRet (mAnd (mCall "has_kind" (aCons (mVar 0) (aCons (mCon (.str "either")) (aCons (mCon (.int 3)) aNil)))) (mAnd (mCall "is_name" (aCons (mTwo atD (mVar 0) (mCon (.int 1))) aNil)) (mAnd (mCall "is_name" (aCons (mTwo atD (mVar 0) (mCon (.int 2))) aNil)) (mTwo neD (mTwo atD (mVar 0) (mCon (.int 1))) (mTwo atD (mVar 0) (mCon (.int 2)))))))) cNil))
theorem t_is_end : (turn (ccOf con names cells true (topS 10)) (defBody (topS 10))).map (·.m) = some m_is_end := by kernel_rfl
def f_is_end : MFn := ⟨["value"], 1, m_is_end⟩
theorem n_is_end : mkN (topS 10) = (["value"] : List Str) := by decide +kernel
def m_reads : C := (cSeq (cRet (mIf (bCmp (mTwo eqD (mTwo atD (mVar 0) (mCon (.int 0))) (mCon (.str "copy")))) (mTup (aCons (mTwo atD (mVar 0) (mCon (.int 2))) aNil)) (mTwo atD (mVar 0) (mCon (.int 3))))) cNil)
theorem t_reads : (turn (ccOf con names cells true (topS 11)) (defBody (topS 11))).map (·.m) = some m_reads := by kernel_rfl
def f_reads : MFn := ⟨["row"], 1, m_reads⟩
theorem n_reads : mkN (topS 11) = (["row"] : List Str) := by decide +kernel
def m_sets : C := (cSeq (cRet (mTwo atD (mVar 0) (mCon (.int 1)))) cNil)
theorem t_sets : (turn (ccOf con names cells true (topS 12)) (defBody (topS 12))).map (·.m) = some m_sets := by kernel_rfl
def f_sets : MFn := ⟨["row"], 1, m_sets⟩
theorem n_sets : mkN (topS 12) = (["row"] : List Str) := by decide +kernel
def m_law_pool : C := (cSeq (cAsg (mIf (bCmp (mTwo ltD (mVar 1) (mBlt lenD (rCons (mVar 0) rNil)))) (mTwo atD (mVar 0) (mVar 1)) (mTwo addB (mTwo mulD (mCon (.int 7)) (mBlt sumD (rCons (mSl (mVar 0) pNone (pSome (mCon (.int 63)))) rNil))) (mVar 1))) (gN 2)) (cSeq (cAsg (mBlt absD (rCons (mVar 2) rNil)) (gN 3)) (cSeq (cAsg (mTwo addB (mTwo addB (mTwo addB (mTwo modD (mBlt intD (rCons (mVar 3) rNil)) (mCon (.int 2147483629))) (mTwo mulD (mTwo mulD (mCon (.int 7919)) (mVar 1)) (mVar 1))) (mTwo mulD (mCon (.int 31)) (mVar 1))) (mCon (.int 17))) (gN 4)) (cSeq (cAsg (mTwo modD (mBlt intD (rCons (mTwo mulD (mVar 4) (mCon (.int 48271))) rNil)) (mCon (.int 2147483647))) (gN 4)) (cSeq (cRet (mLst (aCons (mTwo mulD (mVar 3) (mBlt intD (rCons (mTwo geD (mVar 3) (mTwo powD (mCon (.int 10)) (mCon (.int 18)))) rNil))) (aCons (mTwo modD (mBlt intD (rCons (mTwo mulD (mVar 4) (mVar 4)) rNil)) (mCon (.int 2147483629))) aNil)))) cNil)))))
theorem t_law_pool : (turn (ccOf con names cells true (topS 14)) (defBody (topS 14))).map (·.m) = some m_law_pool := by kernel_rfl
def f_law_pool : MFn := ⟨["_law_script", "_law_k", "_law_cell", "_law_size", "_law_mixed"], 2, m_law_pool⟩
theorem n_law_pool : mkN (topS 14) = (["_law_script", "_law_k", "_law_cell", "_law_size", "_law_mixed"] : List Str) := by decide +kernel
def m_law_draw : C := (cSeq (cIf (bCmp (mTwo gtD (mTwo atD (mVar 0) (mCon (.int 0))) (mCon (.int 0)))) (cSeq (cAsg (mTwo modD (mBlt intD (rCons (mTwo atD (mVar 0) (mCon (.int 0))) rNil)) (mVar 1)) (gN 2)) (cSeq (cSetL (mTwo fdivD (mTwo atD (mVar 0) (mCon (.int 0))) (mVar 1)) (mVar 0) (mCon (.int 0))) (cSeq (cRet (mVar 2)) cNil))) cNil) (cSeq (cSetL (mTwo modD (mBlt intD (rCons (mTwo addB (mTwo mulD (mTwo atD (mVar 0) (mCon (.int 1))) (mCon (.int 48271))) (mCon (.int 11))) rNil)) (mCon (.int 2147483647))) (mVar 0) (mCon (.int 1))) (cSeq (cRet (mTwo modD (mBlt intD (rCons (mTwo fdivD (mTwo modD (mBlt intD (rCons (mTwo mulD (mTwo atD (mVar 0) (mCon (.int 1))) (mTwo atD (mVar 0) (mCon (.int 1)))) rNil)) (mCon (.int 2147483629))) (mCon (.int 16))) rNil)) (mVar 1))) cNil)))
theorem t_law_draw : (turn (ccOf con names cells true (topS 15)) (defBody (topS 15))).map (·.m) = some m_law_draw := by kernel_rfl
def f_law_draw : MFn := ⟨["_law_pool_here", "_law_many", "_law_found"], 2, m_law_draw⟩
theorem n_law_draw : mkN (topS 15) = (["_law_pool_here", "_law_many", "_law_found"] : List Str) := by decide +kernel
def m_law_pick : C := (cSeq (cRet (mTwo atD (mVar 1) (mCall "_law_draw" (aCons (mVar 0) (aCons (mBlt lenD (rCons (mVar 1) rNil)) aNil))))) cNil)
theorem t_law_pick : (turn (ccOf con names cells true (topS 16)) (defBody (topS 16))).map (·.m) = some m_law_pick := by kernel_rfl
def f_law_pick : MFn := ⟨["_law_pool_here", "_law_row"], 2, m_law_pick⟩
theorem n_law_pick : mkN (topS 16) = (["_law_pool_here", "_law_row"] : List Str) := by decide +kernel
def m_law_is_name : C := (cSeq (cIf (bNot (bVal (mBlt isiD (rCons (mVar 0) (rCons (mCon (.ty "str")) rNil))))) (cSeq (cRet (mCon (.bl false))) cNil) cNil) (cSeq (cRet (mAnd (mChain leD leD (mCon (.int 1)) (mBlt lenD (rCons (mVar 0) rNil)) (mCon (.int 8))) (mTwo eqD (mLc (iVal (mVar 0)) (gN 1) (bCmp (mTwo notInD (mVar 1) (mCon (.str "abcdefghijklmnopqrstuvwxyz")))) (mVar 1) [1]) (mLst aNil)))) cNil))
theorem t_law_is_name : (turn (ccOf con names cells true (topS 17)) (defBody (topS 17))).map (·.m) = some m_law_is_name := by kernel_rfl
def f_law_is_name : MFn := ⟨["_law_word_here", "_law_sign"], 1, m_law_is_name⟩
theorem n_law_is_name : mkN (topS 17) = (["_law_word_here", "_law_sign"] : List Str) := by decide +kernel
def m_law_word : C := (cSeq (cAsg (mLst (aCons (mCon (.str "a")) (aCons (mCon (.str "r")) (aCons (mCon (.str "abcdefgh")) (aCons (mCon (.str "zz")) (aCons (mCon (.str "set")) (aCons (mCon (.str "op")) aNil))))))) (gN 1)) (cSeq (cRet (mCall "_law_pick" (aCons (mVar 0) (aCons (mTwo addB (mTwo mulD (mVar 1) (mCon (.int 6))) (mLst (aCons (mCon (.str "")) (aCons (mCon (.str "A")) (aCons (mCon (.str "abcdefghi")) (aCons (mCon (.str "a1")) (aCons (mCon .non) (aCons (mCon (.int 1)) (aCons (mTup (aCons (mCon (.str "a")) aNil)) (aCons (mCon (.str "a ")) aNil)))))))))) aNil)))) cNil))
theorem t_law_word : (turn (ccOf con names cells true (topS 18)) (defBody (topS 18))).map (·.m) = some m_law_word := by kernel_rfl
def f_law_word : MFn := ⟨["_law_pool_here", "_law_good"], 1, m_law_word⟩
theorem n_law_word : mkN (topS 18) = (["_law_pool_here", "_law_good"] : List Str) := by decide +kernel
def m_law_words : C := (cSeq (cRet (mBlt tupleOfD (rCons (mLc (iRg1 (rCons (mCall "_law_draw" (aCons (mVar 0) (aCons (mTwo addB (mVar 1) (mCon (.int 1))) aNil))) rNil)) (gN 2) bYes (mCall "_law_word" (aCons (mVar 0) aNil)) [2]) rNil))) cNil)
theorem t_law_words : (turn (ccOf con names cells true (topS 19)) (defBody (topS 19))).map (·.m) = some m_law_words := by kernel_rfl
def f_law_words : MFn := ⟨["_law_pool_here", "_law_most", "_law_turn"], 2, m_law_words⟩
theorem n_law_words : mkN (topS 19) = (["_law_pool_here", "_law_most", "_law_turn"] : List Str) := by decide +kernel
def m_law_parts : C := (cSeq (cAsg (mCall "_law_pick" (aCons (mVar 0) (aCons (mLst (aCons (mCon (.str "copy")) (aCons (mCon (.str "set")) (aCons (mCon (.str "call")) (aCons (mCon (.str "go")) (aCons (mCon (.str "either")) (aCons (mCon (.str "return")) (aCons (mCon (.str "Set")) (aCons (mCon (.str "sets")) (aCons (mCon .non) aNil)))))))))) aNil))) (gN 1)) (cSeq (cAsg (mLst (aCons (mVar 1) (aCons (mCall "_law_word" (aCons (mVar 0) aNil)) aNil))) (gN 2)) (cSeq (cIf (bCmp (mTwo inD (mVar 1) (mLst (aCons (mCon (.str "copy")) (aCons (mCon (.str "either")) aNil))))) (cSeq (cApp (mVar 2) (mCall "_law_word" (aCons (mVar 0) aNil))) cNil) (cSeq (cIf (bCmp (mTwo inD (mVar 1) (mLst (aCons (mCon (.str "set")) (aCons (mCon (.str "call")) (aCons (mCon (.str "Set")) (aCons (mCon (.str "sets")) aNil))))))) (cSeq (cAsg (mTwo addB (mVar 2) (mLst (aCons (mCall "_law_word" (aCons (mVar 0) aNil)) (aCons (mCall "_law_words" (aCons (mVar 0) (aCons (mCon (.int 3)) aNil))) aNil)))) (gN 2)) cNil) cNil) cNil)) (cSeq (cIf (bCmp (mTwo eqD (mVar 1) (mCon (.str "call")))) (cSeq (cApp (mVar 2) (mCall "_law_words" (aCons (mVar 0) (aCons (mCon (.int 3)) aNil)))) cNil) cNil) (cSeq (cAsg (mCall "_law_draw" (aCons (mVar 0) (aCons (mCon (.int 12)) aNil))) (gN 3)) (cSeq (cIf (bCmp (mTwo eqD (mVar 3) (mCon (.int 0)))) (cSeq (cApp (mVar 2) (mCon (.str "a"))) cNil) cNil) (cSeq (cIf (bCmp (mTwo eqD (mVar 3) (mCon (.int 1)))) (cSeq (cPop (mVar 2)) cNil) cNil) (cSeq (cIf (bAnd (bCmp (mTwo eqD (mVar 3) (mCon (.int 2)))) (bVal (mBlt isiD (rCons (mTwo atD (mVar 2) (mOne negD (mCon (.int 1)))) (rCons (mCon (.ty "tuple")) rNil))))) (cSeq (cSetL (mBlt listOfD (rCons (mTwo atD (mVar 2) (mOne negD (mCon (.int 1)))) rNil)) (mVar 2) (mOne negD (mCon (.int 1)))) cNil) cNil) (cSeq (cRet (mVar 2)) cNil)))))))))
theorem t_law_parts : (turn (ccOf con names cells true (topS 20)) (defBody (topS 20))).map (·.m) = some m_law_parts := by kernel_rfl
def f_law_parts : MFn := ⟨["_law_pool_here", "_law_kind", "_law_row", "_law_way"], 1, m_law_parts⟩
theorem n_law_parts : mkN (topS 20) = (["_law_pool_here", "_law_kind", "_law_row", "_law_way"] : List Str) := by decide +kernel
def m_law_is_row : C := (cSeq (cIf (bCmp (mTwo eqD (mTwo atD (mVar 0) (mCon (.int 0))) (mCon (.str "copy")))) (cSeq (cRet (mAnd (mTwo eqD (mBlt lenD (rCons (mVar 0) rNil)) (mCon (.int 3))) (mAnd (mCall "_law_is_name" (aCons (mTwo atD (mVar 0) (mCon (.int 1))) aNil)) (mCall "_law_is_name" (aCons (mTwo atD (mVar 0) (mCon (.int 2))) aNil))))) cNil) cNil) (cSeq (cIf (bOr (bCmp (mTwo neD (mTwo atD (mVar 0) (mCon (.int 0))) (mCon (.str "set")))) (bOr (bCmp (mTwo neD (mBlt lenD (rCons (mVar 0) rNil)) (mCon (.int 4)))) (bOr (bNot (bVal (mBlt isiD (rCons (mTwo atD (mVar 0) (mCon (.int 3))) (rCons (mCon (.ty "tuple")) rNil))))) (bCmp (mTwo gtD (mBlt lenD (rCons (mTwo atD (mVar 0) (mCon (.int 3))) rNil)) (mCon (.int 2))))))) (cSeq (cRet (mCon (.bl false))) cNil) cNil) (cSeq (cRet (mTwo eqD (mLc (iVal (mTwo addB (mSl (mVar 0) (pSome (mCon (.int 1))) (pSome (mCon (.int 3)))) (mBlt listOfD (rCons (mTwo atD (mVar 0) (mCon (.int 3))) rNil)))) (gN 1) (bNot (bVal (mCall "_law_is_name" (aCons (mVar 1) aNil)))) (mVar 1) [1]) (mLst aNil))) cNil)))
theorem t_law_is_row : (turn (ccOf con names cells true (topS 21)) (defBody (topS 21))).map (·.m) = some m_law_is_row := by kernel_rfl
def f_law_is_row : MFn := ⟨["_law_row", "_law_word_here"], 1, m_law_is_row⟩
theorem n_law_is_row : mkN (topS 21) = (["_law_row", "_law_word_here"] : List Str) := by decide +kernel
def m_law_is_made : C := (cSeq (cIf (bCmp (mTwo neD (mTwo atD (mVar 0) (mCon (.int 0))) (mCon (.str "call")))) (cSeq (cRet (mCall "_law_is_row" (aCons (mVar 0) aNil))) cNil) cNil) (cSeq (cIf (bOr (bCmp (mTwo neD (mBlt lenD (rCons (mVar 0) rNil)) (mCon (.int 5)))) (bOr (bNot (bVal (mCall "_law_is_row" (aCons (mTwo addB (mLst (aCons (mCon (.str "set")) aNil)) (mSl (mVar 0) (pSome (mCon (.int 1))) (pSome (mCon (.int 4))))) aNil)))) (bNot (bVal (mBlt isiD (rCons (mTwo atD (mVar 0) (mCon (.int 4))) (rCons (mCon (.ty "tuple")) rNil))))))) (cSeq (cRet (mCon (.bl false))) cNil) cNil) (cSeq (cAsg (mLc (iVal (mTwo atD (mVar 0) (mCon (.int 4)))) (gN 2) (bOr (bNot (bVal (mCall "_law_is_name" (aCons (mVar 2) aNil)))) (bCmp (mTwo gtD (mCnt (mTwo atD (mVar 0) (mCon (.int 4))) (mVar 2)) (mCon (.int 1))))) (mVar 2) [2]) (gN 1)) (cSeq (cRet (mTwo eqD (mVar 1) (mLst aNil))) cNil))))
theorem t_law_is_made : (turn (ccOf con names cells true (topS 22)) (defBody (topS 22))).map (·.m) = some m_law_is_made := by kernel_rfl
def f_law_is_made : MFn := ⟨["_law_row", "_law_odd", "_law_word_here"], 1, m_law_is_made⟩
theorem n_law_is_made : mkN (topS 22) = (["_law_row", "_law_odd", "_law_word_here"] : List Str) := by decide +kernel
def m_law_is_end : C := (cSeq (cIf (bCmp (mTwo inD (mTwo atD (mVar 0) (mCon (.int 0))) (mLst (aCons (mCon (.str "go")) (aCons (mCon (.str "return")) aNil))))) (cSeq (cRet (mAnd (mTwo eqD (mBlt lenD (rCons (mVar 0) rNil)) (mCon (.int 2))) (mCall "_law_is_name" (aCons (mTwo atD (mVar 0) (mCon (.int 1))) aNil)))) cNil) cNil) (cSeq (cIf (bOr (bCmp (mTwo neD (mTwo atD (mVar 0) (mCon (.int 0))) (mCon (.str "either")))) (bCmp (mTwo neD (mBlt lenD (rCons (mVar 0) rNil)) (mCon (.int 3))))) (cSeq (cRet (mCon (.bl false))) cNil) cNil) (cSeq (cRet (mAnd (mCall "_law_is_name" (aCons (mTwo atD (mVar 0) (mCon (.int 1))) aNil)) (mAnd (mCall "_law_is_name" (aCons (mTwo atD (mVar 0) (mCon (.int 2))) aNil)) (mTwo neD (mTwo atD (mVar 0) (mCon (.int 1))) (mTwo atD (mVar 0) (mCon (.int 2))))))) cNil)))
theorem t_law_is_end : (turn (ccOf con names cells true (topS 23)) (defBody (topS 23))).map (·.m) = some m_law_is_end := by kernel_rfl
def f_law_is_end : MFn := ⟨["_law_row"], 1, m_law_is_end⟩
theorem n_law_is_end : mkN (topS 23) = (["_law_row"] : List Str) := by decide +kernel
def m_law : C := (cSeq (cFor (iRg1 (rCons (mBlt maxD (rCons (mCon (.int 1)) (rCons (mBlt minD (rCons (mBlt lenD (rCons (mVar 0) rNil)) (rCons (mCon (.int 8)) rNil))) rNil))) rNil)) (gN 1) (cSeq (cAsg (mCell (mCall "_law_pool" (aCons (mVar 0) (aCons (mVar 1) aNil)))) (gN 2)) (cSeq (cFor (iRg1 (rCons (mCon (.int 10)) rNil)) (gN 3) (cSeq (cMul (rCons (mCall "_law_word" (aCons (mVar 2) aNil)) (rCons (mCall "_law_parts" (aCons (mVar 2) aNil)) rNil)) [(gN 4), (gN 5)]) (cSeq (cAsg (mLst (aCons (mCall "is_name" (aCons (mVar 4) aNil)) (aCons (mCall "is_row" (aCons (mBlt tupleOfD (rCons (mVar 5) rNil)) aNil)) (aCons (mCall "is_made_row" (aCons (mBlt tupleOfD (rCons (mVar 5) rNil)) aNil)) (aCons (mCall "is_end" (aCons (mBlt tupleOfD (rCons (mVar 5) rNil)) aNil)) aNil))))) (gN 6)) (cSeq (cIf (bCmp (mTwo neD (mVar 6) (mLst (aCons (mCall "_law_is_name" (aCons (mVar 4) aNil)) (aCons (mCall "_law_is_row" (aCons (mVar 5) aNil)) (aCons (mCall "_law_is_made" (aCons (mVar 5) aNil)) (aCons (mCall "_law_is_end" (aCons (mVar 5) aNil)) aNil))))))) (cSeq (cRet (mCon (.bl false))) cNil) cNil) (cSeq (cIf (bOr (bVal (mCall "is_row" (aCons (mVar 5) aNil))) (bOr (bVal (mCall "is_made_row" (aCons (mVar 5) aNil))) (bVal (mCall "is_end" (aCons (mVar 5) aNil))))) (cSeq (cRet (mCon (.bl false))) cNil) cNil) (cSeq (cIf (bVal (mCall "_law_is_made" (aCons (mVar 5) aNil))) (cSeq (cAsg (mIf (bCmp (mTwo eqD (mTwo atD (mVar 5) (mCon (.int 0))) (mCon (.str "copy")))) (mTup (aCons (mTwo atD (mVar 5) (mCon (.int 2))) aNil)) (mTwo atD (mVar 5) (mCon (.int 3)))) (gN 7)) (cSeq (cIf (bOr (bCmp (mTwo neD (mCall "reads" (aCons (mBlt tupleOfD (rCons (mVar 5) rNil)) aNil)) (mVar 7))) (bCmp (mTwo neD (mCall "sets" (aCons (mBlt tupleOfD (rCons (mVar 5) rNil)) aNil)) (mTwo atD (mVar 5) (mCon (.int 1)))))) (cSeq (cRet (mCon (.bl false))) cNil) cNil) cNil)) cNil) cNil)))))) (cSeq (cFor (iVal (mLst (aCons (mCon .non) (aCons (mCon (.int 1)) (aCons (mTup aNil) (aCons (mCon (.str "copy")) (aCons (mTup (aCons (mCon (.str "copy")) aNil)) (aCons mDic0 (aCons (mLst (aCons (mCon (.int 1)) aNil)) aNil))))))))) (gN 8) (cSeq (cIf (bOr (bVal (mCall "is_row" (aCons (mVar 8) aNil))) (bOr (bVal (mCall "is_made_row" (aCons (mVar 8) aNil))) (bVal (mCall "is_end" (aCons (mVar 8) aNil))))) (cSeq (cRet (mCon (.bl false))) cNil) cNil) cNil)) cNil)))) (cSeq (cRet (mCon (.bl true))) cNil))
theorem t_law : (turn (ccOf con names cells true (topS 24)) (defBody (topS 24))).map (·.m) = some m_law := by kernel_rfl
def f_law : MFn := ⟨["_law_script", "_law_k", "_law_pool_here", "_law_turn", "_law_word_here", "_law_row", "_law_told", "_law_due", "_law_odd"], 1, m_law⟩
theorem n_law : mkN (topS 24) = (["_law_script", "_law_k", "_law_pool_here", "_law_turn", "_law_word_here", "_law_row", "_law_told", "_law_due", "_law_odd"] : List Str) := by decide +kernel
def tabL : List (Str × MFn) := [("is_name", f_is_name), ("are_unlike", f_are_unlike), ("are_names", f_are_names), ("has_kind", f_has_kind), ("is_row", f_is_row), ("is_made_row", f_is_made_row), ("is_end", f_is_end), ("reads", f_reads), ("sets", f_sets), ("_law_pool", f_law_pool), ("_law_draw", f_law_draw), ("_law_pick", f_law_pick), ("_law_is_name", f_law_is_name), ("_law_word", f_law_word), ("_law_words", f_law_words), ("_law_parts", f_law_parts), ("_law_is_row", f_law_is_row), ("_law_is_made", f_law_is_made), ("_law_is_end", f_law_is_end), ("law", f_law)]
def tab (x : Str) : Option MFn := tabL.lookup x
theorem u_is_name : tab "is_name" = some f_is_name := by kernel_rfl
theorem u_are_unlike : tab "are_unlike" = some f_are_unlike := by kernel_rfl
theorem u_are_names : tab "are_names" = some f_are_names := by kernel_rfl
theorem u_has_kind : tab "has_kind" = some f_has_kind := by kernel_rfl
theorem u_is_row : tab "is_row" = some f_is_row := by kernel_rfl
theorem u_is_made_row : tab "is_made_row" = some f_is_made_row := by kernel_rfl
theorem u_is_end : tab "is_end" = some f_is_end := by kernel_rfl
theorem u_reads : tab "reads" = some f_reads := by kernel_rfl
theorem u_sets : tab "sets" = some f_sets := by kernel_rfl
theorem u_law_pool : tab "_law_pool" = some f_law_pool := by kernel_rfl
theorem u_law_draw : tab "_law_draw" = some f_law_draw := by kernel_rfl
theorem u_law_pick : tab "_law_pick" = some f_law_pick := by kernel_rfl
theorem u_law_is_name : tab "_law_is_name" = some f_law_is_name := by kernel_rfl
theorem u_law_word : tab "_law_word" = some f_law_word := by kernel_rfl
theorem u_law_words : tab "_law_words" = some f_law_words := by kernel_rfl
theorem u_law_parts : tab "_law_parts" = some f_law_parts := by kernel_rfl
theorem u_law_is_row : tab "_law_is_row" = some f_law_is_row := by kernel_rfl
theorem u_law_is_made : tab "_law_is_made" = some f_law_is_made := by kernel_rfl
theorem u_law_is_end : tab "_law_is_end" = some f_law_is_end := by kernel_rfl
theorem u_law : tab "law" = some f_law := by kernel_rfl
end K01

set_option Elab.async false
set_option linter.all false
set_option maxRecDepth 100000
set_option maxHeartbeats 4000000
namespace K01
open PySem PySem.Spec PyProof.Rows L2 Mi
theorem call_at {f : Str} {mf : MFn} (h : tab f = some mf) {k : Nat} {ds : List D} {hp : List O} (σ : List (Option O)) (hn : ds.length = mf.np) (hs : start0 mf.N ds = σ) : callN tab (k + 1) f ds hp = fin (mf.body (callN tab k) ⟨σ, hp⟩) := Mi.call_at h σ hn hs
abbrev abc : Str := "abcdefghijklmnopqrstuvwxyz"
def isL (c : Nat) : Bool := !(Builtin.Str.occurrences abc ⟨#[c]⟩ 0 abc.length 1).isEmpty
def isName : D → Bool
  | .str x => decide (1 ≤ x.length) && decide (x.length ≤ 8) && x.cps.toList.all isL
  | _ => false
/-- a value with a known type, of bearable length -/
def okD : D → Bool
  | .str x => fitsB x.length && fitsB x.cps.toList.length
  | d => (tyD d).isSome
theorem le1 {x : Str} : decide ((1 : Int) ≤ (x.length : Int)) = decide (1 ≤ x.length) := by
  by_cases h : 1 ≤ x.length
  · rw [decide_eq_true h, decide_eq_true (by omega)]
  · rw [decide_eq_false h, decide_eq_false (by omega)]
theorem le8 {x : Str} : decide ((x.length : Int) ≤ 8) = decide (x.length ≤ 8) := by
  by_cases h : x.length ≤ 8
  · rw [decide_eq_true h, decide_eq_true (by omega)]
  · rw [decide_eq_false h, decide_eq_false (by omega)]
set_option maxHeartbeats 8000000 in
theorem c_is_name (k : Nat) (d : D) (hp : List O) (hd : okD d = true) : callN tab (k + 1) "is_name" [d] hp = .ok (.fz (.bl (isName d))) hp := by
  rw [call_at u_is_name [some (.fz d), none] rfl rfl]
  simp only [f_is_name, m_is_name, cSeq, Fl.then, cNil, cIf, cRet, cRetN, cAsg, cApp, cPop, cSetL, cMul, cExpr, cPass, mAnd, mOr, mNot, mIf, mBlt, rCons, rNil, aCons, aNil, mVar, mCon, mTwo, mOne, mTup, mLst, mSl, pNone, pSome, mChain, mCall, mCnt, mDic0, bVal, bCmp, bNot, bAnd, bOr, bYes, isB, truR, truD, peeks, peek, take, give, keep, keepAll, asgAll, gN, gT, gsCons, gsNil, deref, frz, lift_some, lift_none, Out.bind_ok, Out.bind_exc, Out.bind_bad, Out.flow_ok, Out.flow_exc, Out.flow_bad, isiD, isiB, tyD, eqD, neD, eqB, ltD, leD, gtD, geD, fB, fI, atD, itemsD, listD, lenD, seeL, mutL, mutD, fin, List.length_cons, List.length_nil, List.map_cons, List.map_nil, List.cons_append, List.nil_append, List.getElem?_cons_zero, List.getElem?_cons_succ, List.set_cons_zero, List.set_cons_succ, Option.bind_some, Option.map_some, Option.bind_none, Option.map_none, if_true, Bool.false_eq_true, if_false, Bool.not_true, Bool.not_false, at0, at1, at2, at3, at4, at5, k_str, k_non, k_int, k_bool, k_tup, k_lst, k_dic, t_str, t_non, t_int, t_bool, t_tup, t_lst, t_dic]
  cases d with
  | str x =>
    simp only [okD, Bool.and_eq_true] at hd
    have hl : fitsB (Mi.signs x).length = true := by simpa [Mi.signs] using hd.2
    simp only [cSeq, Fl.then, cNil, cIf, cRet, cRetN, cAsg, cApp, cPop, cSetL, cMul, cExpr, cPass, mAnd, mOr, mNot, mIf, mBlt, rCons, rNil, aCons, aNil, mVar, mCon, mTwo, mOne, mTup, mLst, mSl, pNone, pSome, mChain, mCall, mCnt, mDic0, bVal, bCmp, bNot, bAnd, bOr, bYes, isB, truR, truD, peeks, peek, take, give, keep, keepAll, asgAll, gN, gT, gsCons, gsNil, deref, frz, lift_some, lift_none, Out.bind_ok, Out.bind_exc, Out.bind_bad, Out.flow_ok, Out.flow_exc, Out.flow_bad, isiD, isiB, tyD, eqD, neD, eqB, ltD, leD, gtD, geD, fB, fI, atD, itemsD, listD, lenD, seeL, mutL, mutD, fin, List.length_cons, List.length_nil, List.map_cons, List.map_nil, List.cons_append, List.nil_append, List.getElem?_cons_zero, List.getElem?_cons_succ, List.set_cons_zero, List.set_cons_succ, Option.bind_some, Option.map_some, Option.bind_none, Option.map_none, if_true, Bool.false_eq_true, if_false, Bool.not_true, Bool.not_false, at0, at1, at2, at3, at4, at5, k_str, k_non, k_int, k_bool, k_tup, k_lst, k_dic, t_str, t_non, t_int, t_bool, t_tup, t_lst, t_dic, k_str, hd.1, le1, le8]
    by_cases h1 : 1 ≤ x.length
    · by_cases h8 : x.length ≤ 8
      · simp only [decide_eq_true h1, decide_eq_true h8, cSeq, Fl.then, cNil, cIf, cRet, cRetN, cAsg, cApp, cPop, cSetL, cMul, cExpr, cPass, mAnd, mOr, mNot, mIf, mBlt, rCons, rNil, aCons, aNil, mVar, mCon, mTwo, mOne, mTup, mLst, mSl, pNone, pSome, mChain, mCall, mCnt, mDic0, bVal, bCmp, bNot, bAnd, bOr, bYes, isB, truR, truD, peeks, peek, take, give, keep, keepAll, asgAll, gN, gT, gsCons, gsNil, deref, frz, lift_some, lift_none, Out.bind_ok, Out.bind_exc, Out.bind_bad, Out.flow_ok, Out.flow_exc, Out.flow_bad, isiD, isiB, tyD, eqD, neD, eqB, ltD, leD, gtD, geD, fB, fI, atD, itemsD, listD, lenD, seeL, mutL, mutD, fin, List.length_cons, List.length_nil, List.map_cons, List.map_nil, List.cons_append, List.nil_append, List.getElem?_cons_zero, List.getElem?_cons_succ, List.set_cons_zero, List.set_cons_succ, Option.bind_some, Option.map_some, Option.bind_none, Option.map_none, if_true, Bool.false_eq_true, if_false, Bool.not_true, Bool.not_false, at0, at1, at2, at3, at4, at5, k_str, k_non, k_int, k_bool, k_tup, k_lst, k_dic, t_str, t_non, t_int, t_bool, t_tup, t_lst, t_dic]
        simp only [mLc, iVal, cSeq, Fl.then, cNil, cIf, cRet, cRetN, cAsg, cApp, cPop, cSetL, cMul, cExpr, cPass, mAnd, mOr, mNot, mIf, mBlt, rCons, rNil, aCons, aNil, mVar, mCon, mTwo, mOne, mTup, mLst, mSl, pNone, pSome, mChain, mCall, mCnt, mDic0, bVal, bCmp, bNot, bAnd, bOr, bYes, isB, truR, truD, peeks, peek, take, give, keep, keepAll, asgAll, gN, gT, gsCons, gsNil, deref, frz, lift_some, lift_none, Out.bind_ok, Out.bind_exc, Out.bind_bad, Out.flow_ok, Out.flow_exc, Out.flow_bad, isiD, isiB, tyD, eqD, neD, eqB, ltD, leD, gtD, geD, fB, fI, atD, itemsD, listD, lenD, seeL, mutL, mutD, fin, List.length_cons, List.length_nil, List.map_cons, List.map_nil, List.cons_append, List.nil_append, List.getElem?_cons_zero, List.getElem?_cons_succ, List.set_cons_zero, List.set_cons_succ, Option.bind_some, Option.map_some, Option.bind_none, Option.map_none, if_true, Bool.false_eq_true, if_false, Bool.not_true, Bool.not_false, at0, at1, at2, at3, at4, at5, k_str, k_non, k_int, k_bool, k_tup, k_lst, k_dic, t_str, t_non, t_int, t_bool, t_tup, t_lst, t_dic, iterD]
        rw [show (⟨wipeO [some (O.fz (D.str x)), none] [1], hp⟩ : S) = ⟨[some (O.fz (D.str x)), none], hp⟩ from rfl]
        rw [lcL_all (f := fun d => match d with | .str y => .bl (!(Builtin.Str.occurrences abc y 0 abc.length 1).isEmpty) | _ => .non) (Mi.signs x) (fun d hd => ?_) hl]
        · have e : (Mi.signs x).map (fun d => match d with | .str y => D.bl (!(Builtin.Str.occurrences abc y 0 abc.length 1).isEmpty) | _ => .non) = x.cps.toList.map fun c => D.bl (isL c) := by
            rw [Mi.signs, List.map_map]; rfl
          rw [e]
          simp only [cSeq, Fl.then, cNil, cIf, cRet, cRetN, cAsg, cApp, cPop, cSetL, cMul, cExpr, cPass, mAnd, mOr, mNot, mIf, mBlt, rCons, rNil, aCons, aNil, mVar, mCon, mTwo, mOne, mTup, mLst, mSl, pNone, pSome, mChain, mCall, mCnt, mDic0, bVal, bCmp, bNot, bAnd, bOr, bYes, isB, truR, truD, peeks, peek, take, give, keep, keepAll, asgAll, gN, gT, gsCons, gsNil, deref, frz, lift_some, lift_none, Out.bind_ok, Out.bind_exc, Out.bind_bad, Out.flow_ok, Out.flow_exc, Out.flow_bad, isiD, isiB, tyD, eqD, neD, eqB, ltD, leD, gtD, geD, fB, fI, atD, itemsD, listD, lenD, seeL, mutL, mutD, fin, List.length_cons, List.length_nil, List.map_cons, List.map_nil, List.cons_append, List.nil_append, List.getElem?_cons_zero, List.getElem?_cons_succ, List.set_cons_zero, List.set_cons_succ, Option.bind_some, Option.map_some, Option.bind_none, Option.map_none, if_true, Bool.false_eq_true, if_false, Bool.not_true, Bool.not_false, at0, at1, at2, at3, at4, at5, k_str, k_non, k_int, k_bool, k_tup, k_lst, k_dic, t_str, t_non, t_int, t_bool, t_tup, t_lst, t_dic, rst, allD, bools_map, isName, decide_eq_true h1, decide_eq_true h8, Bool.true_and, List.all_map]
          rfl
        · simp only [Mi.signs, List.mem_map] at hd
          obtain ⟨c, _, e⟩ := hd
          subst e
          refine ⟨⟨[some (.fz (.str x)), some (.fz (.str ⟨#[c]⟩))], hp⟩, rfl, ⟨_, rfl, rfl⟩, rfl⟩
      · simp only [decide_eq_true h1, decide_eq_false h8, cSeq, Fl.then, cNil, cIf, cRet, cRetN, cAsg, cApp, cPop, cSetL, cMul, cExpr, cPass, mAnd, mOr, mNot, mIf, mBlt, rCons, rNil, aCons, aNil, mVar, mCon, mTwo, mOne, mTup, mLst, mSl, pNone, pSome, mChain, mCall, mCnt, mDic0, bVal, bCmp, bNot, bAnd, bOr, bYes, isB, truR, truD, peeks, peek, take, give, keep, keepAll, asgAll, gN, gT, gsCons, gsNil, deref, frz, lift_some, lift_none, Out.bind_ok, Out.bind_exc, Out.bind_bad, Out.flow_ok, Out.flow_exc, Out.flow_bad, isiD, isiB, tyD, eqD, neD, eqB, ltD, leD, gtD, geD, fB, fI, atD, itemsD, listD, lenD, seeL, mutL, mutD, fin, List.length_cons, List.length_nil, List.map_cons, List.map_nil, List.cons_append, List.nil_append, List.getElem?_cons_zero, List.getElem?_cons_succ, List.set_cons_zero, List.set_cons_succ, Option.bind_some, Option.map_some, Option.bind_none, Option.map_none, if_true, Bool.false_eq_true, if_false, Bool.not_true, Bool.not_false, at0, at1, at2, at3, at4, at5, k_str, k_non, k_int, k_bool, k_tup, k_lst, k_dic, t_str, t_non, t_int, t_bool, t_tup, t_lst, t_dic, isName, Bool.and_false, Bool.false_and]
    · simp only [decide_eq_false h1, cSeq, Fl.then, cNil, cIf, cRet, cRetN, cAsg, cApp, cPop, cSetL, cMul, cExpr, cPass, mAnd, mOr, mNot, mIf, mBlt, rCons, rNil, aCons, aNil, mVar, mCon, mTwo, mOne, mTup, mLst, mSl, pNone, pSome, mChain, mCall, mCnt, mDic0, bVal, bCmp, bNot, bAnd, bOr, bYes, isB, truR, truD, peeks, peek, take, give, keep, keepAll, asgAll, gN, gT, gsCons, gsNil, deref, frz, lift_some, lift_none, Out.bind_ok, Out.bind_exc, Out.bind_bad, Out.flow_ok, Out.flow_exc, Out.flow_bad, isiD, isiB, tyD, eqD, neD, eqB, ltD, leD, gtD, geD, fB, fI, atD, itemsD, listD, lenD, seeL, mutL, mutD, fin, List.length_cons, List.length_nil, List.map_cons, List.map_nil, List.cons_append, List.nil_append, List.getElem?_cons_zero, List.getElem?_cons_succ, List.set_cons_zero, List.set_cons_succ, Option.bind_some, Option.map_some, Option.bind_none, Option.map_none, if_true, Bool.false_eq_true, if_false, Bool.not_true, Bool.not_false, at0, at1, at2, at3, at4, at5, k_str, k_non, k_int, k_bool, k_tup, k_lst, k_dic, t_str, t_non, t_int, t_bool, t_tup, t_lst, t_dic, isName, Bool.false_and]
  | non => simp only [cSeq, Fl.then, cNil, cIf, cRet, cRetN, cAsg, cApp, cPop, cSetL, cMul, cExpr, cPass, mAnd, mOr, mNot, mIf, mBlt, rCons, rNil, aCons, aNil, mVar, mCon, mTwo, mOne, mTup, mLst, mSl, pNone, pSome, mChain, mCall, mCnt, mDic0, bVal, bCmp, bNot, bAnd, bOr, bYes, isB, truR, truD, peeks, peek, take, give, keep, keepAll, asgAll, gN, gT, gsCons, gsNil, deref, frz, lift_some, lift_none, Out.bind_ok, Out.bind_exc, Out.bind_bad, Out.flow_ok, Out.flow_exc, Out.flow_bad, isiD, isiB, tyD, eqD, neD, eqB, ltD, leD, gtD, geD, fB, fI, atD, itemsD, listD, lenD, seeL, mutL, mutD, fin, List.length_cons, List.length_nil, List.map_cons, List.map_nil, List.cons_append, List.nil_append, List.getElem?_cons_zero, List.getElem?_cons_succ, List.set_cons_zero, List.set_cons_succ, Option.bind_some, Option.map_some, Option.bind_none, Option.map_none, if_true, Bool.false_eq_true, if_false, Bool.not_true, Bool.not_false, at0, at1, at2, at3, at4, at5, k_str, k_non, k_int, k_bool, k_tup, k_lst, k_dic, t_str, t_non, t_int, t_bool, t_tup, t_lst, t_dic, k_non, isName]
  | bl b => simp only [cSeq, Fl.then, cNil, cIf, cRet, cRetN, cAsg, cApp, cPop, cSetL, cMul, cExpr, cPass, mAnd, mOr, mNot, mIf, mBlt, rCons, rNil, aCons, aNil, mVar, mCon, mTwo, mOne, mTup, mLst, mSl, pNone, pSome, mChain, mCall, mCnt, mDic0, bVal, bCmp, bNot, bAnd, bOr, bYes, isB, truR, truD, peeks, peek, take, give, keep, keepAll, asgAll, gN, gT, gsCons, gsNil, deref, frz, lift_some, lift_none, Out.bind_ok, Out.bind_exc, Out.bind_bad, Out.flow_ok, Out.flow_exc, Out.flow_bad, isiD, isiB, tyD, eqD, neD, eqB, ltD, leD, gtD, geD, fB, fI, atD, itemsD, listD, lenD, seeL, mutL, mutD, fin, List.length_cons, List.length_nil, List.map_cons, List.map_nil, List.cons_append, List.nil_append, List.getElem?_cons_zero, List.getElem?_cons_succ, List.set_cons_zero, List.set_cons_succ, Option.bind_some, Option.map_some, Option.bind_none, Option.map_none, if_true, Bool.false_eq_true, if_false, Bool.not_true, Bool.not_false, at0, at1, at2, at3, at4, at5, k_str, k_non, k_int, k_bool, k_tup, k_lst, k_dic, t_str, t_non, t_int, t_bool, t_tup, t_lst, t_dic, k_bool, isName]
  | int b => simp only [cSeq, Fl.then, cNil, cIf, cRet, cRetN, cAsg, cApp, cPop, cSetL, cMul, cExpr, cPass, mAnd, mOr, mNot, mIf, mBlt, rCons, rNil, aCons, aNil, mVar, mCon, mTwo, mOne, mTup, mLst, mSl, pNone, pSome, mChain, mCall, mCnt, mDic0, bVal, bCmp, bNot, bAnd, bOr, bYes, isB, truR, truD, peeks, peek, take, give, keep, keepAll, asgAll, gN, gT, gsCons, gsNil, deref, frz, lift_some, lift_none, Out.bind_ok, Out.bind_exc, Out.bind_bad, Out.flow_ok, Out.flow_exc, Out.flow_bad, isiD, isiB, tyD, eqD, neD, eqB, ltD, leD, gtD, geD, fB, fI, atD, itemsD, listD, lenD, seeL, mutL, mutD, fin, List.length_cons, List.length_nil, List.map_cons, List.map_nil, List.cons_append, List.nil_append, List.getElem?_cons_zero, List.getElem?_cons_succ, List.set_cons_zero, List.set_cons_succ, Option.bind_some, Option.map_some, Option.bind_none, Option.map_none, if_true, Bool.false_eq_true, if_false, Bool.not_true, Bool.not_false, at0, at1, at2, at3, at4, at5, k_str, k_non, k_int, k_bool, k_tup, k_lst, k_dic, t_str, t_non, t_int, t_bool, t_tup, t_lst, t_dic, k_int, isName]
  | tup b => simp only [cSeq, Fl.then, cNil, cIf, cRet, cRetN, cAsg, cApp, cPop, cSetL, cMul, cExpr, cPass, mAnd, mOr, mNot, mIf, mBlt, rCons, rNil, aCons, aNil, mVar, mCon, mTwo, mOne, mTup, mLst, mSl, pNone, pSome, mChain, mCall, mCnt, mDic0, bVal, bCmp, bNot, bAnd, bOr, bYes, isB, truR, truD, peeks, peek, take, give, keep, keepAll, asgAll, gN, gT, gsCons, gsNil, deref, frz, lift_some, lift_none, Out.bind_ok, Out.bind_exc, Out.bind_bad, Out.flow_ok, Out.flow_exc, Out.flow_bad, isiD, isiB, tyD, eqD, neD, eqB, ltD, leD, gtD, geD, fB, fI, atD, itemsD, listD, lenD, seeL, mutL, mutD, fin, List.length_cons, List.length_nil, List.map_cons, List.map_nil, List.cons_append, List.nil_append, List.getElem?_cons_zero, List.getElem?_cons_succ, List.set_cons_zero, List.set_cons_succ, Option.bind_some, Option.map_some, Option.bind_none, Option.map_none, if_true, Bool.false_eq_true, if_false, Bool.not_true, Bool.not_false, at0, at1, at2, at3, at4, at5, k_str, k_non, k_int, k_bool, k_tup, k_lst, k_dic, t_str, t_non, t_int, t_bool, t_tup, t_lst, t_dic, k_tup, isName]
  | lst b => simp only [cSeq, Fl.then, cNil, cIf, cRet, cRetN, cAsg, cApp, cPop, cSetL, cMul, cExpr, cPass, mAnd, mOr, mNot, mIf, mBlt, rCons, rNil, aCons, aNil, mVar, mCon, mTwo, mOne, mTup, mLst, mSl, pNone, pSome, mChain, mCall, mCnt, mDic0, bVal, bCmp, bNot, bAnd, bOr, bYes, isB, truR, truD, peeks, peek, take, give, keep, keepAll, asgAll, gN, gT, gsCons, gsNil, deref, frz, lift_some, lift_none, Out.bind_ok, Out.bind_exc, Out.bind_bad, Out.flow_ok, Out.flow_exc, Out.flow_bad, isiD, isiB, tyD, eqD, neD, eqB, ltD, leD, gtD, geD, fB, fI, atD, itemsD, listD, lenD, seeL, mutL, mutD, fin, List.length_cons, List.length_nil, List.map_cons, List.map_nil, List.cons_append, List.nil_append, List.getElem?_cons_zero, List.getElem?_cons_succ, List.set_cons_zero, List.set_cons_succ, Option.bind_some, Option.map_some, Option.bind_none, Option.map_none, if_true, Bool.false_eq_true, if_false, Bool.not_true, Bool.not_false, at0, at1, at2, at3, at4, at5, k_str, k_non, k_int, k_bool, k_tup, k_lst, k_dic, t_str, t_non, t_int, t_bool, t_tup, t_lst, t_dic, k_lst, isName]
  | scr b => simp only [cSeq, Fl.then, cNil, cIf, cRet, cRetN, cAsg, cApp, cPop, cSetL, cMul, cExpr, cPass, mAnd, mOr, mNot, mIf, mBlt, rCons, rNil, aCons, aNil, mVar, mCon, mTwo, mOne, mTup, mLst, mSl, pNone, pSome, mChain, mCall, mCnt, mDic0, bVal, bCmp, bNot, bAnd, bOr, bYes, isB, truR, truD, peeks, peek, take, give, keep, keepAll, asgAll, gN, gT, gsCons, gsNil, deref, frz, lift_some, lift_none, Out.bind_ok, Out.bind_exc, Out.bind_bad, Out.flow_ok, Out.flow_exc, Out.flow_bad, isiD, isiB, tyD, eqD, neD, eqB, ltD, leD, gtD, geD, fB, fI, atD, itemsD, listD, lenD, seeL, mutL, mutD, fin, List.length_cons, List.length_nil, List.map_cons, List.map_nil, List.cons_append, List.nil_append, List.getElem?_cons_zero, List.getElem?_cons_succ, List.set_cons_zero, List.set_cons_succ, Option.bind_some, Option.map_some, Option.bind_none, Option.map_none, if_true, Bool.false_eq_true, if_false, Bool.not_true, Bool.not_false, at0, at1, at2, at3, at4, at5, k_str, k_non, k_int, k_bool, k_tup, k_lst, k_dic, t_str, t_non, t_int, t_bool, t_tup, t_lst, t_dic, k_lst, isName]
  | dic ks b => simp only [cSeq, Fl.then, cNil, cIf, cRet, cRetN, cAsg, cApp, cPop, cSetL, cMul, cExpr, cPass, mAnd, mOr, mNot, mIf, mBlt, rCons, rNil, aCons, aNil, mVar, mCon, mTwo, mOne, mTup, mLst, mSl, pNone, pSome, mChain, mCall, mCnt, mDic0, bVal, bCmp, bNot, bAnd, bOr, bYes, isB, truR, truD, peeks, peek, take, give, keep, keepAll, asgAll, gN, gT, gsCons, gsNil, deref, frz, lift_some, lift_none, Out.bind_ok, Out.bind_exc, Out.bind_bad, Out.flow_ok, Out.flow_exc, Out.flow_bad, isiD, isiB, tyD, eqD, neD, eqB, ltD, leD, gtD, geD, fB, fI, atD, itemsD, listD, lenD, seeL, mutL, mutD, fin, List.length_cons, List.length_nil, List.map_cons, List.map_nil, List.cons_append, List.nil_append, List.getElem?_cons_zero, List.getElem?_cons_succ, List.set_cons_zero, List.set_cons_succ, Option.bind_some, Option.map_some, Option.bind_none, Option.map_none, if_true, Bool.false_eq_true, if_false, Bool.not_true, Bool.not_false, at0, at1, at2, at3, at4, at5, k_str, k_non, k_int, k_bool, k_tup, k_lst, k_dic, t_str, t_non, t_int, t_bool, t_tup, t_lst, t_dic, k_dic, isName]
  | ins _ _ _ => cases hd
  | loc _ => cases hd
  | fn _ => cases hd
  | ty _ => cases hd
  | cls _ => cases hd

/-- data of one layer more -/
def okT : D → Bool
  | .tup ds => fitsB ds.length && ds.all okD
  | d => okD d
theorem okD_of {d : D} (h : okT d = true) : okD d = true := by
  cases d with
  | tup ds => rfl
  | _ => all_goals exact h
def first : List D → Option Str
  | .str x :: _ => some x
  | _ => none
def hasKind (d : D) (kind : Str) (many : Int) : Bool := match d with
  | .tup r => decide ((r.length : Int) = many) && decide (first r = some kind)
  | _ => false
set_option maxHeartbeats 8000000 in
theorem c_has_kind (k : Nat) (d : D) (kind : Str) (many : Int) (hp : List O) (hd : okT d = true) (hm : 0 < many) : callN tab (k + 1) "has_kind" [d, .str kind, .int many] hp = .ok (.fz (.bl (hasKind d kind many))) hp := by
  rw [call_at u_has_kind [some (.fz d), some (.fz (.str kind)), some (.fz (.int many))] rfl rfl]
  simp only [f_has_kind, m_has_kind, cSeq, Fl.then, cNil, cIf, cRet, cRetN, cAsg, cApp, cPop, cSetL, cMul, cExpr, cPass, mAnd, mOr, mNot, mIf, mBlt, rCons, rNil, aCons, aNil, mVar, mCon, mTwo, mOne, mTup, mLst, mSl, pNone, pSome, mChain, mCall, mCnt, mDic0, bVal, bCmp, bNot, bAnd, bOr, bYes, isB, truR, truD, peeks, peek, take, give, keep, keepAll, asgAll, gN, gT, gsCons, gsNil, deref, frz, lift_some, lift_none, Out.bind_ok, Out.bind_exc, Out.bind_bad, Out.flow_ok, Out.flow_exc, Out.flow_bad, isiD, isiB, tyD, eqD, neD, eqB, ltD, leD, gtD, geD, fB, fI, atD, itemsD, listD, lenD, seeL, mutL, mutD, fin, List.length_cons, List.length_nil, List.map_cons, List.map_nil, List.cons_append, List.nil_append, List.getElem?_cons_zero, List.getElem?_cons_succ, List.set_cons_zero, List.set_cons_succ, Option.bind_some, Option.map_some, Option.bind_none, Option.map_none, if_true, Bool.false_eq_true, if_false, Bool.not_true, Bool.not_false, at0, at1, at2, at3, at4, at5, k_str, k_non, k_int, k_bool, k_tup, k_lst, k_dic, t_str, t_non, t_int, t_bool, t_tup, t_lst, t_dic]
  cases d with
  | tup r =>
    simp only [okT, Bool.and_eq_true, List.all_eq_true] at hd
    simp only [cSeq, Fl.then, cNil, cIf, cRet, cRetN, cAsg, cApp, cPop, cSetL, cMul, cExpr, cPass, mAnd, mOr, mNot, mIf, mBlt, rCons, rNil, aCons, aNil, mVar, mCon, mTwo, mOne, mTup, mLst, mSl, pNone, pSome, mChain, mCall, mCnt, mDic0, bVal, bCmp, bNot, bAnd, bOr, bYes, isB, truR, truD, peeks, peek, take, give, keep, keepAll, asgAll, gN, gT, gsCons, gsNil, deref, frz, lift_some, lift_none, Out.bind_ok, Out.bind_exc, Out.bind_bad, Out.flow_ok, Out.flow_exc, Out.flow_bad, isiD, isiB, tyD, eqD, neD, eqB, ltD, leD, gtD, geD, fB, fI, atD, itemsD, listD, lenD, seeL, mutL, mutD, fin, List.length_cons, List.length_nil, List.map_cons, List.map_nil, List.cons_append, List.nil_append, List.getElem?_cons_zero, List.getElem?_cons_succ, List.set_cons_zero, List.set_cons_succ, Option.bind_some, Option.map_some, Option.bind_none, Option.map_none, if_true, Bool.false_eq_true, if_false, Bool.not_true, Bool.not_false, at0, at1, at2, at3, at4, at5, k_str, k_non, k_int, k_bool, k_tup, k_lst, k_dic, t_str, t_non, t_int, t_bool, t_tup, t_lst, t_dic, t_tup]
    by_cases hl : (r.length : Int) = many
    · have e1 : decide ((r.length : Int) = many) = true := decide_eq_true hl
      simp only [e1, cSeq, Fl.then, cNil, cIf, cRet, cRetN, cAsg, cApp, cPop, cSetL, cMul, cExpr, cPass, mAnd, mOr, mNot, mIf, mBlt, rCons, rNil, aCons, aNil, mVar, mCon, mTwo, mOne, mTup, mLst, mSl, pNone, pSome, mChain, mCall, mCnt, mDic0, bVal, bCmp, bNot, bAnd, bOr, bYes, isB, truR, truD, peeks, peek, take, give, keep, keepAll, asgAll, gN, gT, gsCons, gsNil, deref, frz, lift_some, lift_none, Out.bind_ok, Out.bind_exc, Out.bind_bad, Out.flow_ok, Out.flow_exc, Out.flow_bad, isiD, isiB, tyD, eqD, neD, eqB, ltD, leD, gtD, geD, fB, fI, atD, itemsD, listD, lenD, seeL, mutL, mutD, fin, List.length_cons, List.length_nil, List.map_cons, List.map_nil, List.cons_append, List.nil_append, List.getElem?_cons_zero, List.getElem?_cons_succ, List.set_cons_zero, List.set_cons_succ, Option.bind_some, Option.map_some, Option.bind_none, Option.map_none, if_true, Bool.false_eq_true, if_false, Bool.not_true, Bool.not_false, at0, at1, at2, at3, at4, at5, k_str, k_non, k_int, k_bool, k_tup, k_lst, k_dic, t_str, t_non, t_int, t_bool, t_tup, t_lst, t_dic]
      cases r with
      | nil => simp at hl; omega
      | cons a r =>
        have ha := hd.2 a (by simp)
        simp only [cSeq, Fl.then, cNil, cIf, cRet, cRetN, cAsg, cApp, cPop, cSetL, cMul, cExpr, cPass, mAnd, mOr, mNot, mIf, mBlt, rCons, rNil, aCons, aNil, mVar, mCon, mTwo, mOne, mTup, mLst, mSl, pNone, pSome, mChain, mCall, mCnt, mDic0, bVal, bCmp, bNot, bAnd, bOr, bYes, isB, truR, truD, peeks, peek, take, give, keep, keepAll, asgAll, gN, gT, gsCons, gsNil, deref, frz, lift_some, lift_none, Out.bind_ok, Out.bind_exc, Out.bind_bad, Out.flow_ok, Out.flow_exc, Out.flow_bad, isiD, isiB, tyD, eqD, neD, eqB, ltD, leD, gtD, geD, fB, fI, atD, itemsD, listD, lenD, seeL, mutL, mutD, fin, List.length_cons, List.length_nil, List.map_cons, List.map_nil, List.cons_append, List.nil_append, List.getElem?_cons_zero, List.getElem?_cons_succ, List.set_cons_zero, List.set_cons_succ, Option.bind_some, Option.map_some, Option.bind_none, Option.map_none, if_true, Bool.false_eq_true, if_false, Bool.not_true, Bool.not_false, at0, at1, at2, at3, at4, at5, k_str, k_non, k_int, k_bool, k_tup, k_lst, k_dic, t_str, t_non, t_int, t_bool, t_tup, t_lst, t_dic, at0]
        cases a with
        | str x =>
          simp only [List.length_cons] at e1
          simp only [cSeq, Fl.then, cNil, cIf, cRet, cRetN, cAsg, cApp, cPop, cSetL, cMul, cExpr, cPass, mAnd, mOr, mNot, mIf, mBlt, rCons, rNil, aCons, aNil, mVar, mCon, mTwo, mOne, mTup, mLst, mSl, pNone, pSome, mChain, mCall, mCnt, mDic0, bVal, bCmp, bNot, bAnd, bOr, bYes, isB, truR, truD, peeks, peek, take, give, keep, keepAll, asgAll, gN, gT, gsCons, gsNil, deref, frz, lift_some, lift_none, Out.bind_ok, Out.bind_exc, Out.bind_bad, Out.flow_ok, Out.flow_exc, Out.flow_bad, isiD, isiB, tyD, eqD, neD, eqB, ltD, leD, gtD, geD, fB, fI, atD, itemsD, listD, lenD, seeL, mutL, mutD, fin, List.length_cons, List.length_nil, List.map_cons, List.map_nil, List.cons_append, List.nil_append, List.getElem?_cons_zero, List.getElem?_cons_succ, List.set_cons_zero, List.set_cons_succ, Option.bind_some, Option.map_some, Option.bind_none, Option.map_none, if_true, Bool.false_eq_true, if_false, Bool.not_true, Bool.not_false, at0, at1, at2, at3, at4, at5, k_str, k_non, k_int, k_bool, k_tup, k_lst, k_dic, t_str, t_non, t_int, t_bool, t_tup, t_lst, t_dic, k_str, at0, hasKind, e1, decide_true, Bool.true_and, first, Option.some.injEq]
        | non => simp only [cSeq, Fl.then, cNil, cIf, cRet, cRetN, cAsg, cApp, cPop, cSetL, cMul, cExpr, cPass, mAnd, mOr, mNot, mIf, mBlt, rCons, rNil, aCons, aNil, mVar, mCon, mTwo, mOne, mTup, mLst, mSl, pNone, pSome, mChain, mCall, mCnt, mDic0, bVal, bCmp, bNot, bAnd, bOr, bYes, isB, truR, truD, peeks, peek, take, give, keep, keepAll, asgAll, gN, gT, gsCons, gsNil, deref, frz, lift_some, lift_none, Out.bind_ok, Out.bind_exc, Out.bind_bad, Out.flow_ok, Out.flow_exc, Out.flow_bad, isiD, isiB, tyD, eqD, neD, eqB, ltD, leD, gtD, geD, fB, fI, atD, itemsD, listD, lenD, seeL, mutL, mutD, fin, List.length_cons, List.length_nil, List.map_cons, List.map_nil, List.cons_append, List.nil_append, List.getElem?_cons_zero, List.getElem?_cons_succ, List.set_cons_zero, List.set_cons_succ, Option.bind_some, Option.map_some, Option.bind_none, Option.map_none, if_true, Bool.false_eq_true, if_false, Bool.not_true, Bool.not_false, at0, at1, at2, at3, at4, at5, k_str, k_non, k_int, k_bool, k_tup, k_lst, k_dic, t_str, t_non, t_int, t_bool, t_tup, t_lst, t_dic, k_non, hasKind, first, Bool.and_false, decide_false, reduceCtorEq]
        | bl b => simp only [cSeq, Fl.then, cNil, cIf, cRet, cRetN, cAsg, cApp, cPop, cSetL, cMul, cExpr, cPass, mAnd, mOr, mNot, mIf, mBlt, rCons, rNil, aCons, aNil, mVar, mCon, mTwo, mOne, mTup, mLst, mSl, pNone, pSome, mChain, mCall, mCnt, mDic0, bVal, bCmp, bNot, bAnd, bOr, bYes, isB, truR, truD, peeks, peek, take, give, keep, keepAll, asgAll, gN, gT, gsCons, gsNil, deref, frz, lift_some, lift_none, Out.bind_ok, Out.bind_exc, Out.bind_bad, Out.flow_ok, Out.flow_exc, Out.flow_bad, isiD, isiB, tyD, eqD, neD, eqB, ltD, leD, gtD, geD, fB, fI, atD, itemsD, listD, lenD, seeL, mutL, mutD, fin, List.length_cons, List.length_nil, List.map_cons, List.map_nil, List.cons_append, List.nil_append, List.getElem?_cons_zero, List.getElem?_cons_succ, List.set_cons_zero, List.set_cons_succ, Option.bind_some, Option.map_some, Option.bind_none, Option.map_none, if_true, Bool.false_eq_true, if_false, Bool.not_true, Bool.not_false, at0, at1, at2, at3, at4, at5, k_str, k_non, k_int, k_bool, k_tup, k_lst, k_dic, t_str, t_non, t_int, t_bool, t_tup, t_lst, t_dic, k_bool, hasKind, first, Bool.and_false, decide_false, reduceCtorEq]
        | int b => simp only [cSeq, Fl.then, cNil, cIf, cRet, cRetN, cAsg, cApp, cPop, cSetL, cMul, cExpr, cPass, mAnd, mOr, mNot, mIf, mBlt, rCons, rNil, aCons, aNil, mVar, mCon, mTwo, mOne, mTup, mLst, mSl, pNone, pSome, mChain, mCall, mCnt, mDic0, bVal, bCmp, bNot, bAnd, bOr, bYes, isB, truR, truD, peeks, peek, take, give, keep, keepAll, asgAll, gN, gT, gsCons, gsNil, deref, frz, lift_some, lift_none, Out.bind_ok, Out.bind_exc, Out.bind_bad, Out.flow_ok, Out.flow_exc, Out.flow_bad, isiD, isiB, tyD, eqD, neD, eqB, ltD, leD, gtD, geD, fB, fI, atD, itemsD, listD, lenD, seeL, mutL, mutD, fin, List.length_cons, List.length_nil, List.map_cons, List.map_nil, List.cons_append, List.nil_append, List.getElem?_cons_zero, List.getElem?_cons_succ, List.set_cons_zero, List.set_cons_succ, Option.bind_some, Option.map_some, Option.bind_none, Option.map_none, if_true, Bool.false_eq_true, if_false, Bool.not_true, Bool.not_false, at0, at1, at2, at3, at4, at5, k_str, k_non, k_int, k_bool, k_tup, k_lst, k_dic, t_str, t_non, t_int, t_bool, t_tup, t_lst, t_dic, k_int, hasKind, first, Bool.and_false, decide_false, reduceCtorEq]
        | tup b => simp only [cSeq, Fl.then, cNil, cIf, cRet, cRetN, cAsg, cApp, cPop, cSetL, cMul, cExpr, cPass, mAnd, mOr, mNot, mIf, mBlt, rCons, rNil, aCons, aNil, mVar, mCon, mTwo, mOne, mTup, mLst, mSl, pNone, pSome, mChain, mCall, mCnt, mDic0, bVal, bCmp, bNot, bAnd, bOr, bYes, isB, truR, truD, peeks, peek, take, give, keep, keepAll, asgAll, gN, gT, gsCons, gsNil, deref, frz, lift_some, lift_none, Out.bind_ok, Out.bind_exc, Out.bind_bad, Out.flow_ok, Out.flow_exc, Out.flow_bad, isiD, isiB, tyD, eqD, neD, eqB, ltD, leD, gtD, geD, fB, fI, atD, itemsD, listD, lenD, seeL, mutL, mutD, fin, List.length_cons, List.length_nil, List.map_cons, List.map_nil, List.cons_append, List.nil_append, List.getElem?_cons_zero, List.getElem?_cons_succ, List.set_cons_zero, List.set_cons_succ, Option.bind_some, Option.map_some, Option.bind_none, Option.map_none, if_true, Bool.false_eq_true, if_false, Bool.not_true, Bool.not_false, at0, at1, at2, at3, at4, at5, k_str, k_non, k_int, k_bool, k_tup, k_lst, k_dic, t_str, t_non, t_int, t_bool, t_tup, t_lst, t_dic, k_tup, hasKind, first, Bool.and_false, decide_false, reduceCtorEq]
        | lst b => simp only [cSeq, Fl.then, cNil, cIf, cRet, cRetN, cAsg, cApp, cPop, cSetL, cMul, cExpr, cPass, mAnd, mOr, mNot, mIf, mBlt, rCons, rNil, aCons, aNil, mVar, mCon, mTwo, mOne, mTup, mLst, mSl, pNone, pSome, mChain, mCall, mCnt, mDic0, bVal, bCmp, bNot, bAnd, bOr, bYes, isB, truR, truD, peeks, peek, take, give, keep, keepAll, asgAll, gN, gT, gsCons, gsNil, deref, frz, lift_some, lift_none, Out.bind_ok, Out.bind_exc, Out.bind_bad, Out.flow_ok, Out.flow_exc, Out.flow_bad, isiD, isiB, tyD, eqD, neD, eqB, ltD, leD, gtD, geD, fB, fI, atD, itemsD, listD, lenD, seeL, mutL, mutD, fin, List.length_cons, List.length_nil, List.map_cons, List.map_nil, List.cons_append, List.nil_append, List.getElem?_cons_zero, List.getElem?_cons_succ, List.set_cons_zero, List.set_cons_succ, Option.bind_some, Option.map_some, Option.bind_none, Option.map_none, if_true, Bool.false_eq_true, if_false, Bool.not_true, Bool.not_false, at0, at1, at2, at3, at4, at5, k_str, k_non, k_int, k_bool, k_tup, k_lst, k_dic, t_str, t_non, t_int, t_bool, t_tup, t_lst, t_dic, k_lst, hasKind, first, Bool.and_false, decide_false, reduceCtorEq]
        | scr b => simp only [cSeq, Fl.then, cNil, cIf, cRet, cRetN, cAsg, cApp, cPop, cSetL, cMul, cExpr, cPass, mAnd, mOr, mNot, mIf, mBlt, rCons, rNil, aCons, aNil, mVar, mCon, mTwo, mOne, mTup, mLst, mSl, pNone, pSome, mChain, mCall, mCnt, mDic0, bVal, bCmp, bNot, bAnd, bOr, bYes, isB, truR, truD, peeks, peek, take, give, keep, keepAll, asgAll, gN, gT, gsCons, gsNil, deref, frz, lift_some, lift_none, Out.bind_ok, Out.bind_exc, Out.bind_bad, Out.flow_ok, Out.flow_exc, Out.flow_bad, isiD, isiB, tyD, eqD, neD, eqB, ltD, leD, gtD, geD, fB, fI, atD, itemsD, listD, lenD, seeL, mutL, mutD, fin, List.length_cons, List.length_nil, List.map_cons, List.map_nil, List.cons_append, List.nil_append, List.getElem?_cons_zero, List.getElem?_cons_succ, List.set_cons_zero, List.set_cons_succ, Option.bind_some, Option.map_some, Option.bind_none, Option.map_none, if_true, Bool.false_eq_true, if_false, Bool.not_true, Bool.not_false, at0, at1, at2, at3, at4, at5, k_str, k_non, k_int, k_bool, k_tup, k_lst, k_dic, t_str, t_non, t_int, t_bool, t_tup, t_lst, t_dic, k_lst, hasKind, first, Bool.and_false, decide_false, reduceCtorEq]
        | dic ks b => simp only [cSeq, Fl.then, cNil, cIf, cRet, cRetN, cAsg, cApp, cPop, cSetL, cMul, cExpr, cPass, mAnd, mOr, mNot, mIf, mBlt, rCons, rNil, aCons, aNil, mVar, mCon, mTwo, mOne, mTup, mLst, mSl, pNone, pSome, mChain, mCall, mCnt, mDic0, bVal, bCmp, bNot, bAnd, bOr, bYes, isB, truR, truD, peeks, peek, take, give, keep, keepAll, asgAll, gN, gT, gsCons, gsNil, deref, frz, lift_some, lift_none, Out.bind_ok, Out.bind_exc, Out.bind_bad, Out.flow_ok, Out.flow_exc, Out.flow_bad, isiD, isiB, tyD, eqD, neD, eqB, ltD, leD, gtD, geD, fB, fI, atD, itemsD, listD, lenD, seeL, mutL, mutD, fin, List.length_cons, List.length_nil, List.map_cons, List.map_nil, List.cons_append, List.nil_append, List.getElem?_cons_zero, List.getElem?_cons_succ, List.set_cons_zero, List.set_cons_succ, Option.bind_some, Option.map_some, Option.bind_none, Option.map_none, if_true, Bool.false_eq_true, if_false, Bool.not_true, Bool.not_false, at0, at1, at2, at3, at4, at5, k_str, k_non, k_int, k_bool, k_tup, k_lst, k_dic, t_str, t_non, t_int, t_bool, t_tup, t_lst, t_dic, k_dic, hasKind, first, Bool.and_false, decide_false, reduceCtorEq]
        | ins _ _ _ => cases ha
        | loc _ => cases ha
        | fn _ => cases ha
        | ty _ => cases ha
        | cls _ => cases ha
    · have e1 : decide ((r.length : Int) = many) = false := decide_eq_false hl
      simp only [e1, cSeq, Fl.then, cNil, cIf, cRet, cRetN, cAsg, cApp, cPop, cSetL, cMul, cExpr, cPass, mAnd, mOr, mNot, mIf, mBlt, rCons, rNil, aCons, aNil, mVar, mCon, mTwo, mOne, mTup, mLst, mSl, pNone, pSome, mChain, mCall, mCnt, mDic0, bVal, bCmp, bNot, bAnd, bOr, bYes, isB, truR, truD, peeks, peek, take, give, keep, keepAll, asgAll, gN, gT, gsCons, gsNil, deref, frz, lift_some, lift_none, Out.bind_ok, Out.bind_exc, Out.bind_bad, Out.flow_ok, Out.flow_exc, Out.flow_bad, isiD, isiB, tyD, eqD, neD, eqB, ltD, leD, gtD, geD, fB, fI, atD, itemsD, listD, lenD, seeL, mutL, mutD, fin, List.length_cons, List.length_nil, List.map_cons, List.map_nil, List.cons_append, List.nil_append, List.getElem?_cons_zero, List.getElem?_cons_succ, List.set_cons_zero, List.set_cons_succ, Option.bind_some, Option.map_some, Option.bind_none, Option.map_none, if_true, Bool.false_eq_true, if_false, Bool.not_true, Bool.not_false, at0, at1, at2, at3, at4, at5, k_str, k_non, k_int, k_bool, k_tup, k_lst, k_dic, t_str, t_non, t_int, t_bool, t_tup, t_lst, t_dic, hasKind, hl, decide_false, Bool.false_and]
  | str b => simp only [cSeq, Fl.then, cNil, cIf, cRet, cRetN, cAsg, cApp, cPop, cSetL, cMul, cExpr, cPass, mAnd, mOr, mNot, mIf, mBlt, rCons, rNil, aCons, aNil, mVar, mCon, mTwo, mOne, mTup, mLst, mSl, pNone, pSome, mChain, mCall, mCnt, mDic0, bVal, bCmp, bNot, bAnd, bOr, bYes, isB, truR, truD, peeks, peek, take, give, keep, keepAll, asgAll, gN, gT, gsCons, gsNil, deref, frz, lift_some, lift_none, Out.bind_ok, Out.bind_exc, Out.bind_bad, Out.flow_ok, Out.flow_exc, Out.flow_bad, isiD, isiB, tyD, eqD, neD, eqB, ltD, leD, gtD, geD, fB, fI, atD, itemsD, listD, lenD, seeL, mutL, mutD, fin, List.length_cons, List.length_nil, List.map_cons, List.map_nil, List.cons_append, List.nil_append, List.getElem?_cons_zero, List.getElem?_cons_succ, List.set_cons_zero, List.set_cons_succ, Option.bind_some, Option.map_some, Option.bind_none, Option.map_none, if_true, Bool.false_eq_true, if_false, Bool.not_true, Bool.not_false, at0, at1, at2, at3, at4, at5, k_str, k_non, k_int, k_bool, k_tup, k_lst, k_dic, t_str, t_non, t_int, t_bool, t_tup, t_lst, t_dic, t_str, hasKind]
  | non => simp only [cSeq, Fl.then, cNil, cIf, cRet, cRetN, cAsg, cApp, cPop, cSetL, cMul, cExpr, cPass, mAnd, mOr, mNot, mIf, mBlt, rCons, rNil, aCons, aNil, mVar, mCon, mTwo, mOne, mTup, mLst, mSl, pNone, pSome, mChain, mCall, mCnt, mDic0, bVal, bCmp, bNot, bAnd, bOr, bYes, isB, truR, truD, peeks, peek, take, give, keep, keepAll, asgAll, gN, gT, gsCons, gsNil, deref, frz, lift_some, lift_none, Out.bind_ok, Out.bind_exc, Out.bind_bad, Out.flow_ok, Out.flow_exc, Out.flow_bad, isiD, isiB, tyD, eqD, neD, eqB, ltD, leD, gtD, geD, fB, fI, atD, itemsD, listD, lenD, seeL, mutL, mutD, fin, List.length_cons, List.length_nil, List.map_cons, List.map_nil, List.cons_append, List.nil_append, List.getElem?_cons_zero, List.getElem?_cons_succ, List.set_cons_zero, List.set_cons_succ, Option.bind_some, Option.map_some, Option.bind_none, Option.map_none, if_true, Bool.false_eq_true, if_false, Bool.not_true, Bool.not_false, at0, at1, at2, at3, at4, at5, k_str, k_non, k_int, k_bool, k_tup, k_lst, k_dic, t_str, t_non, t_int, t_bool, t_tup, t_lst, t_dic, t_non, hasKind]
  | bl b => simp only [cSeq, Fl.then, cNil, cIf, cRet, cRetN, cAsg, cApp, cPop, cSetL, cMul, cExpr, cPass, mAnd, mOr, mNot, mIf, mBlt, rCons, rNil, aCons, aNil, mVar, mCon, mTwo, mOne, mTup, mLst, mSl, pNone, pSome, mChain, mCall, mCnt, mDic0, bVal, bCmp, bNot, bAnd, bOr, bYes, isB, truR, truD, peeks, peek, take, give, keep, keepAll, asgAll, gN, gT, gsCons, gsNil, deref, frz, lift_some, lift_none, Out.bind_ok, Out.bind_exc, Out.bind_bad, Out.flow_ok, Out.flow_exc, Out.flow_bad, isiD, isiB, tyD, eqD, neD, eqB, ltD, leD, gtD, geD, fB, fI, atD, itemsD, listD, lenD, seeL, mutL, mutD, fin, List.length_cons, List.length_nil, List.map_cons, List.map_nil, List.cons_append, List.nil_append, List.getElem?_cons_zero, List.getElem?_cons_succ, List.set_cons_zero, List.set_cons_succ, Option.bind_some, Option.map_some, Option.bind_none, Option.map_none, if_true, Bool.false_eq_true, if_false, Bool.not_true, Bool.not_false, at0, at1, at2, at3, at4, at5, k_str, k_non, k_int, k_bool, k_tup, k_lst, k_dic, t_str, t_non, t_int, t_bool, t_tup, t_lst, t_dic, t_bool, hasKind]
  | int b => simp only [cSeq, Fl.then, cNil, cIf, cRet, cRetN, cAsg, cApp, cPop, cSetL, cMul, cExpr, cPass, mAnd, mOr, mNot, mIf, mBlt, rCons, rNil, aCons, aNil, mVar, mCon, mTwo, mOne, mTup, mLst, mSl, pNone, pSome, mChain, mCall, mCnt, mDic0, bVal, bCmp, bNot, bAnd, bOr, bYes, isB, truR, truD, peeks, peek, take, give, keep, keepAll, asgAll, gN, gT, gsCons, gsNil, deref, frz, lift_some, lift_none, Out.bind_ok, Out.bind_exc, Out.bind_bad, Out.flow_ok, Out.flow_exc, Out.flow_bad, isiD, isiB, tyD, eqD, neD, eqB, ltD, leD, gtD, geD, fB, fI, atD, itemsD, listD, lenD, seeL, mutL, mutD, fin, List.length_cons, List.length_nil, List.map_cons, List.map_nil, List.cons_append, List.nil_append, List.getElem?_cons_zero, List.getElem?_cons_succ, List.set_cons_zero, List.set_cons_succ, Option.bind_some, Option.map_some, Option.bind_none, Option.map_none, if_true, Bool.false_eq_true, if_false, Bool.not_true, Bool.not_false, at0, at1, at2, at3, at4, at5, k_str, k_non, k_int, k_bool, k_tup, k_lst, k_dic, t_str, t_non, t_int, t_bool, t_tup, t_lst, t_dic, t_int, hasKind]
  | lst b => simp only [cSeq, Fl.then, cNil, cIf, cRet, cRetN, cAsg, cApp, cPop, cSetL, cMul, cExpr, cPass, mAnd, mOr, mNot, mIf, mBlt, rCons, rNil, aCons, aNil, mVar, mCon, mTwo, mOne, mTup, mLst, mSl, pNone, pSome, mChain, mCall, mCnt, mDic0, bVal, bCmp, bNot, bAnd, bOr, bYes, isB, truR, truD, peeks, peek, take, give, keep, keepAll, asgAll, gN, gT, gsCons, gsNil, deref, frz, lift_some, lift_none, Out.bind_ok, Out.bind_exc, Out.bind_bad, Out.flow_ok, Out.flow_exc, Out.flow_bad, isiD, isiB, tyD, eqD, neD, eqB, ltD, leD, gtD, geD, fB, fI, atD, itemsD, listD, lenD, seeL, mutL, mutD, fin, List.length_cons, List.length_nil, List.map_cons, List.map_nil, List.cons_append, List.nil_append, List.getElem?_cons_zero, List.getElem?_cons_succ, List.set_cons_zero, List.set_cons_succ, Option.bind_some, Option.map_some, Option.bind_none, Option.map_none, if_true, Bool.false_eq_true, if_false, Bool.not_true, Bool.not_false, at0, at1, at2, at3, at4, at5, k_str, k_non, k_int, k_bool, k_tup, k_lst, k_dic, t_str, t_non, t_int, t_bool, t_tup, t_lst, t_dic, t_lst, hasKind]
  | scr b => simp only [cSeq, Fl.then, cNil, cIf, cRet, cRetN, cAsg, cApp, cPop, cSetL, cMul, cExpr, cPass, mAnd, mOr, mNot, mIf, mBlt, rCons, rNil, aCons, aNil, mVar, mCon, mTwo, mOne, mTup, mLst, mSl, pNone, pSome, mChain, mCall, mCnt, mDic0, bVal, bCmp, bNot, bAnd, bOr, bYes, isB, truR, truD, peeks, peek, take, give, keep, keepAll, asgAll, gN, gT, gsCons, gsNil, deref, frz, lift_some, lift_none, Out.bind_ok, Out.bind_exc, Out.bind_bad, Out.flow_ok, Out.flow_exc, Out.flow_bad, isiD, isiB, tyD, eqD, neD, eqB, ltD, leD, gtD, geD, fB, fI, atD, itemsD, listD, lenD, seeL, mutL, mutD, fin, List.length_cons, List.length_nil, List.map_cons, List.map_nil, List.cons_append, List.nil_append, List.getElem?_cons_zero, List.getElem?_cons_succ, List.set_cons_zero, List.set_cons_succ, Option.bind_some, Option.map_some, Option.bind_none, Option.map_none, if_true, Bool.false_eq_true, if_false, Bool.not_true, Bool.not_false, at0, at1, at2, at3, at4, at5, k_str, k_non, k_int, k_bool, k_tup, k_lst, k_dic, t_str, t_non, t_int, t_bool, t_tup, t_lst, t_dic, t_lst, hasKind]
  | dic ks b => simp only [cSeq, Fl.then, cNil, cIf, cRet, cRetN, cAsg, cApp, cPop, cSetL, cMul, cExpr, cPass, mAnd, mOr, mNot, mIf, mBlt, rCons, rNil, aCons, aNil, mVar, mCon, mTwo, mOne, mTup, mLst, mSl, pNone, pSome, mChain, mCall, mCnt, mDic0, bVal, bCmp, bNot, bAnd, bOr, bYes, isB, truR, truD, peeks, peek, take, give, keep, keepAll, asgAll, gN, gT, gsCons, gsNil, deref, frz, lift_some, lift_none, Out.bind_ok, Out.bind_exc, Out.bind_bad, Out.flow_ok, Out.flow_exc, Out.flow_bad, isiD, isiB, tyD, eqD, neD, eqB, ltD, leD, gtD, geD, fB, fI, atD, itemsD, listD, lenD, seeL, mutL, mutD, fin, List.length_cons, List.length_nil, List.map_cons, List.map_nil, List.cons_append, List.nil_append, List.getElem?_cons_zero, List.getElem?_cons_succ, List.set_cons_zero, List.set_cons_succ, Option.bind_some, Option.map_some, Option.bind_none, Option.map_none, if_true, Bool.false_eq_true, if_false, Bool.not_true, Bool.not_false, at0, at1, at2, at3, at4, at5, k_str, k_non, k_int, k_bool, k_tup, k_lst, k_dic, t_str, t_non, t_int, t_bool, t_tup, t_lst, t_dic, t_dic, hasKind]
  | ins _ _ _ => cases hd
  | loc _ => cases hd
  | fn _ => cases hd
  | ty _ => cases hd
  | cls _ => cases hd
def areNames : D → Bool
  | .tup ws => ws.all isName
  | _ => false
set_option maxHeartbeats 8000000 in
theorem c_are_names (k : Nat) (d : D) (hp : List O) (hd : okT d = true) : callN tab (k + 2) "are_names" [d] hp = .ok (.fz (.bl (areNames d))) hp := by
  rw [call_at u_are_names [some (.fz d), none] rfl rfl]
  simp only [f_are_names, m_are_names, cSeq, Fl.then, cNil, cIf, cRet, cRetN, cAsg, cApp, cPop, cSetL, cMul, cExpr, cPass, mAnd, mOr, mNot, mIf, mBlt, rCons, rNil, aCons, aNil, mVar, mCon, mTwo, mOne, mTup, mLst, mSl, pNone, pSome, mChain, mCall, mCnt, mDic0, bVal, bCmp, bNot, bAnd, bOr, bYes, isB, truR, truD, peeks, peek, take, give, keep, keepAll, asgAll, gN, gT, gsCons, gsNil, deref, frz, lift_some, lift_none, Out.bind_ok, Out.bind_exc, Out.bind_bad, Out.flow_ok, Out.flow_exc, Out.flow_bad, isiD, isiB, tyD, eqD, neD, eqB, ltD, leD, gtD, geD, fB, fI, atD, itemsD, listD, lenD, seeL, mutL, mutD, fin, List.length_cons, List.length_nil, List.map_cons, List.map_nil, List.cons_append, List.nil_append, List.getElem?_cons_zero, List.getElem?_cons_succ, List.set_cons_zero, List.set_cons_succ, Option.bind_some, Option.map_some, Option.bind_none, Option.map_none, if_true, Bool.false_eq_true, if_false, Bool.not_true, Bool.not_false, at0, at1, at2, at3, at4, at5, k_str, k_non, k_int, k_bool, k_tup, k_lst, k_dic, t_str, t_non, t_int, t_bool, t_tup, t_lst, t_dic]
  cases d with
  | tup r =>
    simp only [okT, Bool.and_eq_true, List.all_eq_true] at hd
    simp only [cSeq, Fl.then, cNil, cIf, cRet, cRetN, cAsg, cApp, cPop, cSetL, cMul, cExpr, cPass, mAnd, mOr, mNot, mIf, mBlt, rCons, rNil, aCons, aNil, mVar, mCon, mTwo, mOne, mTup, mLst, mSl, pNone, pSome, mChain, mCall, mCnt, mDic0, bVal, bCmp, bNot, bAnd, bOr, bYes, isB, truR, truD, peeks, peek, take, give, keep, keepAll, asgAll, gN, gT, gsCons, gsNil, deref, frz, lift_some, lift_none, Out.bind_ok, Out.bind_exc, Out.bind_bad, Out.flow_ok, Out.flow_exc, Out.flow_bad, isiD, isiB, tyD, eqD, neD, eqB, ltD, leD, gtD, geD, fB, fI, atD, itemsD, listD, lenD, seeL, mutL, mutD, fin, List.length_cons, List.length_nil, List.map_cons, List.map_nil, List.cons_append, List.nil_append, List.getElem?_cons_zero, List.getElem?_cons_succ, List.set_cons_zero, List.set_cons_succ, Option.bind_some, Option.map_some, Option.bind_none, Option.map_none, if_true, Bool.false_eq_true, if_false, Bool.not_true, Bool.not_false, at0, at1, at2, at3, at4, at5, k_str, k_non, k_int, k_bool, k_tup, k_lst, k_dic, t_str, t_non, t_int, t_bool, t_tup, t_lst, t_dic, t_tup, mLc, iVal, iterD]
    rw [show (⟨wipeO [some (O.fz (D.tup r)), none] [1], hp⟩ : S) = ⟨[some (O.fz (D.tup r)), none], hp⟩ from rfl]
    rw [lcL_all (f := fun d => .bl (isName d)) r (fun d hdr => ?_) hd.1]
    · simp only [cSeq, Fl.then, cNil, cIf, cRet, cRetN, cAsg, cApp, cPop, cSetL, cMul, cExpr, cPass, mAnd, mOr, mNot, mIf, mBlt, rCons, rNil, aCons, aNil, mVar, mCon, mTwo, mOne, mTup, mLst, mSl, pNone, pSome, mChain, mCall, mCnt, mDic0, bVal, bCmp, bNot, bAnd, bOr, bYes, isB, truR, truD, peeks, peek, take, give, keep, keepAll, asgAll, gN, gT, gsCons, gsNil, deref, frz, lift_some, lift_none, Out.bind_ok, Out.bind_exc, Out.bind_bad, Out.flow_ok, Out.flow_exc, Out.flow_bad, isiD, isiB, tyD, eqD, neD, eqB, ltD, leD, gtD, geD, fB, fI, atD, itemsD, listD, lenD, seeL, mutL, mutD, fin, List.length_cons, List.length_nil, List.map_cons, List.map_nil, List.cons_append, List.nil_append, List.getElem?_cons_zero, List.getElem?_cons_succ, List.set_cons_zero, List.set_cons_succ, Option.bind_some, Option.map_some, Option.bind_none, Option.map_none, if_true, Bool.false_eq_true, if_false, Bool.not_true, Bool.not_false, at0, at1, at2, at3, at4, at5, k_str, k_non, k_int, k_bool, k_tup, k_lst, k_dic, t_str, t_non, t_int, t_bool, t_tup, t_lst, t_dic, rst, allD, bools_map, List.all_map, areNames]
      rfl
    · refine ⟨⟨[some (.fz (.tup r)), some (.fz d)], hp⟩, rfl, ⟨.own (.fz (.bl (isName d))), ?_, rfl⟩, rfl⟩
      simp only [cSeq, Fl.then, cNil, cIf, cRet, cRetN, cAsg, cApp, cPop, cSetL, cMul, cExpr, cPass, mAnd, mOr, mNot, mIf, mBlt, rCons, rNil, aCons, aNil, mVar, mCon, mTwo, mOne, mTup, mLst, mSl, pNone, pSome, mChain, mCall, mCnt, mDic0, bVal, bCmp, bNot, bAnd, bOr, bYes, isB, truR, truD, peeks, peek, take, give, keep, keepAll, asgAll, gN, gT, gsCons, gsNil, deref, frz, lift_some, lift_none, Out.bind_ok, Out.bind_exc, Out.bind_bad, Out.flow_ok, Out.flow_exc, Out.flow_bad, isiD, isiB, tyD, eqD, neD, eqB, ltD, leD, gtD, geD, fB, fI, atD, itemsD, listD, lenD, seeL, mutL, mutD, fin, List.length_cons, List.length_nil, List.map_cons, List.map_nil, List.cons_append, List.nil_append, List.getElem?_cons_zero, List.getElem?_cons_succ, List.set_cons_zero, List.set_cons_succ, Option.bind_some, Option.map_some, Option.bind_none, Option.map_none, if_true, Bool.false_eq_true, if_false, Bool.not_true, Bool.not_false, at0, at1, at2, at3, at4, at5, k_str, k_non, k_int, k_bool, k_tup, k_lst, k_dic, t_str, t_non, t_int, t_bool, t_tup, t_lst, t_dic]
      rw [c_is_name k d hp (hd.2 d hdr)]
  | str b => simp only [cSeq, Fl.then, cNil, cIf, cRet, cRetN, cAsg, cApp, cPop, cSetL, cMul, cExpr, cPass, mAnd, mOr, mNot, mIf, mBlt, rCons, rNil, aCons, aNil, mVar, mCon, mTwo, mOne, mTup, mLst, mSl, pNone, pSome, mChain, mCall, mCnt, mDic0, bVal, bCmp, bNot, bAnd, bOr, bYes, isB, truR, truD, peeks, peek, take, give, keep, keepAll, asgAll, gN, gT, gsCons, gsNil, deref, frz, lift_some, lift_none, Out.bind_ok, Out.bind_exc, Out.bind_bad, Out.flow_ok, Out.flow_exc, Out.flow_bad, isiD, isiB, tyD, eqD, neD, eqB, ltD, leD, gtD, geD, fB, fI, atD, itemsD, listD, lenD, seeL, mutL, mutD, fin, List.length_cons, List.length_nil, List.map_cons, List.map_nil, List.cons_append, List.nil_append, List.getElem?_cons_zero, List.getElem?_cons_succ, List.set_cons_zero, List.set_cons_succ, Option.bind_some, Option.map_some, Option.bind_none, Option.map_none, if_true, Bool.false_eq_true, if_false, Bool.not_true, Bool.not_false, at0, at1, at2, at3, at4, at5, k_str, k_non, k_int, k_bool, k_tup, k_lst, k_dic, t_str, t_non, t_int, t_bool, t_tup, t_lst, t_dic, t_str, areNames]
  | non => simp only [cSeq, Fl.then, cNil, cIf, cRet, cRetN, cAsg, cApp, cPop, cSetL, cMul, cExpr, cPass, mAnd, mOr, mNot, mIf, mBlt, rCons, rNil, aCons, aNil, mVar, mCon, mTwo, mOne, mTup, mLst, mSl, pNone, pSome, mChain, mCall, mCnt, mDic0, bVal, bCmp, bNot, bAnd, bOr, bYes, isB, truR, truD, peeks, peek, take, give, keep, keepAll, asgAll, gN, gT, gsCons, gsNil, deref, frz, lift_some, lift_none, Out.bind_ok, Out.bind_exc, Out.bind_bad, Out.flow_ok, Out.flow_exc, Out.flow_bad, isiD, isiB, tyD, eqD, neD, eqB, ltD, leD, gtD, geD, fB, fI, atD, itemsD, listD, lenD, seeL, mutL, mutD, fin, List.length_cons, List.length_nil, List.map_cons, List.map_nil, List.cons_append, List.nil_append, List.getElem?_cons_zero, List.getElem?_cons_succ, List.set_cons_zero, List.set_cons_succ, Option.bind_some, Option.map_some, Option.bind_none, Option.map_none, if_true, Bool.false_eq_true, if_false, Bool.not_true, Bool.not_false, at0, at1, at2, at3, at4, at5, k_str, k_non, k_int, k_bool, k_tup, k_lst, k_dic, t_str, t_non, t_int, t_bool, t_tup, t_lst, t_dic, t_non, areNames]
  | bl b => simp only [cSeq, Fl.then, cNil, cIf, cRet, cRetN, cAsg, cApp, cPop, cSetL, cMul, cExpr, cPass, mAnd, mOr, mNot, mIf, mBlt, rCons, rNil, aCons, aNil, mVar, mCon, mTwo, mOne, mTup, mLst, mSl, pNone, pSome, mChain, mCall, mCnt, mDic0, bVal, bCmp, bNot, bAnd, bOr, bYes, isB, truR, truD, peeks, peek, take, give, keep, keepAll, asgAll, gN, gT, gsCons, gsNil, deref, frz, lift_some, lift_none, Out.bind_ok, Out.bind_exc, Out.bind_bad, Out.flow_ok, Out.flow_exc, Out.flow_bad, isiD, isiB, tyD, eqD, neD, eqB, ltD, leD, gtD, geD, fB, fI, atD, itemsD, listD, lenD, seeL, mutL, mutD, fin, List.length_cons, List.length_nil, List.map_cons, List.map_nil, List.cons_append, List.nil_append, List.getElem?_cons_zero, List.getElem?_cons_succ, List.set_cons_zero, List.set_cons_succ, Option.bind_some, Option.map_some, Option.bind_none, Option.map_none, if_true, Bool.false_eq_true, if_false, Bool.not_true, Bool.not_false, at0, at1, at2, at3, at4, at5, k_str, k_non, k_int, k_bool, k_tup, k_lst, k_dic, t_str, t_non, t_int, t_bool, t_tup, t_lst, t_dic, t_bool, areNames]
  | int b => simp only [cSeq, Fl.then, cNil, cIf, cRet, cRetN, cAsg, cApp, cPop, cSetL, cMul, cExpr, cPass, mAnd, mOr, mNot, mIf, mBlt, rCons, rNil, aCons, aNil, mVar, mCon, mTwo, mOne, mTup, mLst, mSl, pNone, pSome, mChain, mCall, mCnt, mDic0, bVal, bCmp, bNot, bAnd, bOr, bYes, isB, truR, truD, peeks, peek, take, give, keep, keepAll, asgAll, gN, gT, gsCons, gsNil, deref, frz, lift_some, lift_none, Out.bind_ok, Out.bind_exc, Out.bind_bad, Out.flow_ok, Out.flow_exc, Out.flow_bad, isiD, isiB, tyD, eqD, neD, eqB, ltD, leD, gtD, geD, fB, fI, atD, itemsD, listD, lenD, seeL, mutL, mutD, fin, List.length_cons, List.length_nil, List.map_cons, List.map_nil, List.cons_append, List.nil_append, List.getElem?_cons_zero, List.getElem?_cons_succ, List.set_cons_zero, List.set_cons_succ, Option.bind_some, Option.map_some, Option.bind_none, Option.map_none, if_true, Bool.false_eq_true, if_false, Bool.not_true, Bool.not_false, at0, at1, at2, at3, at4, at5, k_str, k_non, k_int, k_bool, k_tup, k_lst, k_dic, t_str, t_non, t_int, t_bool, t_tup, t_lst, t_dic, t_int, areNames]
  | lst b => simp only [cSeq, Fl.then, cNil, cIf, cRet, cRetN, cAsg, cApp, cPop, cSetL, cMul, cExpr, cPass, mAnd, mOr, mNot, mIf, mBlt, rCons, rNil, aCons, aNil, mVar, mCon, mTwo, mOne, mTup, mLst, mSl, pNone, pSome, mChain, mCall, mCnt, mDic0, bVal, bCmp, bNot, bAnd, bOr, bYes, isB, truR, truD, peeks, peek, take, give, keep, keepAll, asgAll, gN, gT, gsCons, gsNil, deref, frz, lift_some, lift_none, Out.bind_ok, Out.bind_exc, Out.bind_bad, Out.flow_ok, Out.flow_exc, Out.flow_bad, isiD, isiB, tyD, eqD, neD, eqB, ltD, leD, gtD, geD, fB, fI, atD, itemsD, listD, lenD, seeL, mutL, mutD, fin, List.length_cons, List.length_nil, List.map_cons, List.map_nil, List.cons_append, List.nil_append, List.getElem?_cons_zero, List.getElem?_cons_succ, List.set_cons_zero, List.set_cons_succ, Option.bind_some, Option.map_some, Option.bind_none, Option.map_none, if_true, Bool.false_eq_true, if_false, Bool.not_true, Bool.not_false, at0, at1, at2, at3, at4, at5, k_str, k_non, k_int, k_bool, k_tup, k_lst, k_dic, t_str, t_non, t_int, t_bool, t_tup, t_lst, t_dic, t_lst, areNames]
  | scr b => simp only [cSeq, Fl.then, cNil, cIf, cRet, cRetN, cAsg, cApp, cPop, cSetL, cMul, cExpr, cPass, mAnd, mOr, mNot, mIf, mBlt, rCons, rNil, aCons, aNil, mVar, mCon, mTwo, mOne, mTup, mLst, mSl, pNone, pSome, mChain, mCall, mCnt, mDic0, bVal, bCmp, bNot, bAnd, bOr, bYes, isB, truR, truD, peeks, peek, take, give, keep, keepAll, asgAll, gN, gT, gsCons, gsNil, deref, frz, lift_some, lift_none, Out.bind_ok, Out.bind_exc, Out.bind_bad, Out.flow_ok, Out.flow_exc, Out.flow_bad, isiD, isiB, tyD, eqD, neD, eqB, ltD, leD, gtD, geD, fB, fI, atD, itemsD, listD, lenD, seeL, mutL, mutD, fin, List.length_cons, List.length_nil, List.map_cons, List.map_nil, List.cons_append, List.nil_append, List.getElem?_cons_zero, List.getElem?_cons_succ, List.set_cons_zero, List.set_cons_succ, Option.bind_some, Option.map_some, Option.bind_none, Option.map_none, if_true, Bool.false_eq_true, if_false, Bool.not_true, Bool.not_false, at0, at1, at2, at3, at4, at5, k_str, k_non, k_int, k_bool, k_tup, k_lst, k_dic, t_str, t_non, t_int, t_bool, t_tup, t_lst, t_dic, t_lst, areNames]
  | dic ks b => simp only [cSeq, Fl.then, cNil, cIf, cRet, cRetN, cAsg, cApp, cPop, cSetL, cMul, cExpr, cPass, mAnd, mOr, mNot, mIf, mBlt, rCons, rNil, aCons, aNil, mVar, mCon, mTwo, mOne, mTup, mLst, mSl, pNone, pSome, mChain, mCall, mCnt, mDic0, bVal, bCmp, bNot, bAnd, bOr, bYes, isB, truR, truD, peeks, peek, take, give, keep, keepAll, asgAll, gN, gT, gsCons, gsNil, deref, frz, lift_some, lift_none, Out.bind_ok, Out.bind_exc, Out.bind_bad, Out.flow_ok, Out.flow_exc, Out.flow_bad, isiD, isiB, tyD, eqD, neD, eqB, ltD, leD, gtD, geD, fB, fI, atD, itemsD, listD, lenD, seeL, mutL, mutD, fin, List.length_cons, List.length_nil, List.map_cons, List.map_nil, List.cons_append, List.nil_append, List.getElem?_cons_zero, List.getElem?_cons_succ, List.set_cons_zero, List.set_cons_succ, Option.bind_some, Option.map_some, Option.bind_none, Option.map_none, if_true, Bool.false_eq_true, if_false, Bool.not_true, Bool.not_false, at0, at1, at2, at3, at4, at5, k_str, k_non, k_int, k_bool, k_tup, k_lst, k_dic, t_str, t_non, t_int, t_bool, t_tup, t_lst, t_dic, t_dic, areNames]
  | ins _ _ _ => cases hd
  | loc _ => cases hd
  | fn _ => cases hd
  | ty _ => cases hd
  | cls _ => cases hd

def lenT : D → Nat
  | .tup ws => ws.length
  | _ => 0
def isRow (d : D) : Bool := match d with
  | .tup [a, b, c] => decide (first [a, b, c] = some ("copy" : Str)) && (isName b && isName c)
  | .tup [a, b, c, e] => decide (first [a, b, c, e] = some ("set" : Str)) && (isName b && (isName c && (areNames e && decide (lenT e ≤ 2))))
  | _ => false
/-- two layers -/
def okU : D → Bool
  | .tup ds => fitsB ds.length && ds.all okT
  | d => okD d
theorem okT_of {d : D} (h : okU d = true) : okT d = true := by
  cases d with
  | tup ds =>
    simp only [okU, Bool.and_eq_true, List.all_eq_true] at h
    simp only [okT, Bool.and_eq_true, List.all_eq_true]
    exact ⟨h.1, fun x hx => okD_of (h.2 x hx)⟩
  | _ => all_goals exact h
theorem areNames_tup {e : D} (h : areNames e = true) : ∃ ws, e = .tup ws := by
  cases e with
  | tup ws => exact ⟨ws, rfl⟩
  | _ => all_goals cases h
theorem i0 : (0 : Int) + 1 + 1 + 1 = 3 := by decide
set_option maxHeartbeats 8000000 in
theorem c_is_row (k : Nat) (d : D) (hp : List O) (hd : okU d = true) : callN tab (k + 3) "is_row" [d] hp = .ok (.fz (.bl (isRow d))) hp := by
  rw [call_at u_is_row [some (.fz d)] rfl rfl]
  have h1 := okT_of hd
  simp only [f_is_row, m_is_row, cSeq, Fl.then, cNil, cIf, cRet, cRetN, cAsg, cApp, cPop, cSetL, cMul, cExpr, cPass, mAnd, mOr, mNot, mIf, mBlt, rCons, rNil, aCons, aNil, mVar, mCon, mTwo, mOne, mTup, mLst, mSl, pNone, pSome, mChain, mCall, mCnt, mDic0, bVal, bCmp, bNot, bAnd, bOr, bYes, isB, truR, truD, peeks, peek, take, give, keep, keepAll, asgAll, gN, gT, gsCons, gsNil, deref, frz, lift_some, lift_none, Out.bind_ok, Out.bind_exc, Out.bind_bad, Out.flow_ok, Out.flow_exc, Out.flow_bad, isiD, isiB, tyD, eqD, neD, eqB, ltD, leD, gtD, geD, fB, fI, atD, itemsD, listD, lenD, seeL, mutL, mutD, fin, List.length_cons, List.length_nil, List.map_cons, List.map_nil, List.cons_append, List.nil_append, List.getElem?_cons_zero, List.getElem?_cons_succ, List.set_cons_zero, List.set_cons_succ, Option.bind_some, Option.map_some, Option.bind_none, Option.map_none, if_true, Bool.false_eq_true, if_false, Bool.not_true, Bool.not_false, at0, at1, at2, at3, at4, at5, k_str, k_non, k_int, k_bool, k_tup, k_lst, k_dic, t_str, t_non, t_int, t_bool, t_tup, t_lst, t_dic, c_has_kind (k + 1) d _ _ hp h1 (show (0 : Int) < 3 by decide), c_has_kind (k + 1) d _ _ hp h1 (show (0 : Int) < 4 by decide)]
  cases hk : hasKind d "copy" 3 with
  | true =>
    cases d with
    | tup r =>
      simp only [hasKind, Bool.and_eq_true, decide_eq_true_eq] at hk
      match r, hk with
      | [a, b, c], hk =>
        simp only [okU, Bool.and_eq_true, List.all_eq_true] at hd
        have hb := okD_of (hd.2 b (by simp))
        have hc := okD_of (hd.2 c (by simp))
        simp only [cSeq, Fl.then, cNil, cIf, cRet, cRetN, cAsg, cApp, cPop, cSetL, cMul, cExpr, cPass, mAnd, mOr, mNot, mIf, mBlt, rCons, rNil, aCons, aNil, mVar, mCon, mTwo, mOne, mTup, mLst, mSl, pNone, pSome, mChain, mCall, mCnt, mDic0, bVal, bCmp, bNot, bAnd, bOr, bYes, isB, truR, truD, peeks, peek, take, give, keep, keepAll, asgAll, gN, gT, gsCons, gsNil, deref, frz, lift_some, lift_none, Out.bind_ok, Out.bind_exc, Out.bind_bad, Out.flow_ok, Out.flow_exc, Out.flow_bad, isiD, isiB, tyD, eqD, neD, eqB, ltD, leD, gtD, geD, fB, fI, atD, itemsD, listD, lenD, seeL, mutL, mutD, fin, List.length_cons, List.length_nil, List.map_cons, List.map_nil, List.cons_append, List.nil_append, List.getElem?_cons_zero, List.getElem?_cons_succ, List.set_cons_zero, List.set_cons_succ, Option.bind_some, Option.map_some, Option.bind_none, Option.map_none, if_true, Bool.false_eq_true, if_false, Bool.not_true, Bool.not_false, at0, at1, at2, at3, at4, at5, k_str, k_non, k_int, k_bool, k_tup, k_lst, k_dic, t_str, t_non, t_int, t_bool, t_tup, t_lst, t_dic, at1, at2, c_is_name (k + 1) b hp hb, c_is_name (k + 1) c hp hc, isRow, hk.2, decide_true, Bool.true_and]
        cases isName b <;> simp only [cSeq, Fl.then, cNil, cIf, cRet, cRetN, cAsg, cApp, cPop, cSetL, cMul, cExpr, cPass, mAnd, mOr, mNot, mIf, mBlt, rCons, rNil, aCons, aNil, mVar, mCon, mTwo, mOne, mTup, mLst, mSl, pNone, pSome, mChain, mCall, mCnt, mDic0, bVal, bCmp, bNot, bAnd, bOr, bYes, isB, truR, truD, peeks, peek, take, give, keep, keepAll, asgAll, gN, gT, gsCons, gsNil, deref, frz, lift_some, lift_none, Out.bind_ok, Out.bind_exc, Out.bind_bad, Out.flow_ok, Out.flow_exc, Out.flow_bad, isiD, isiB, tyD, eqD, neD, eqB, ltD, leD, gtD, geD, fB, fI, atD, itemsD, listD, lenD, seeL, mutL, mutD, fin, List.length_cons, List.length_nil, List.map_cons, List.map_nil, List.cons_append, List.nil_append, List.getElem?_cons_zero, List.getElem?_cons_succ, List.set_cons_zero, List.set_cons_succ, Option.bind_some, Option.map_some, Option.bind_none, Option.map_none, if_true, Bool.false_eq_true, if_false, Bool.not_true, Bool.not_false, at0, at1, at2, at3, at4, at5, k_str, k_non, k_int, k_bool, k_tup, k_lst, k_dic, t_str, t_non, t_int, t_bool, t_tup, t_lst, t_dic, Bool.true_and, Bool.false_and]
      | [], hk => simp at hk
      | [_], hk => simp at hk
      | [_, _], hk => simp at hk
      | _ :: _ :: _ :: _ :: _, hk => simp at hk; omega
    | _ => all_goals cases hk
  | false =>
    cases hs : hasKind d "set" 4 with
    | true =>
      cases d with
      | tup r =>
        have hs0 := hs
        simp only [hasKind, Bool.and_eq_true, decide_eq_true_eq] at hs
        match r, hs, hs0 with
        | [a, b, c, e], hs, hs0 =>
          simp only [okU, Bool.and_eq_true, List.all_eq_true] at hd
          have hb := okD_of (hd.2 b (by simp))
          have hc := okD_of (hd.2 c (by simp))
          have he := hd.2 e (by simp)
          simp only [cSeq, Fl.then, cNil, cIf, cRet, cRetN, cAsg, cApp, cPop, cSetL, cMul, cExpr, cPass, mAnd, mOr, mNot, mIf, mBlt, rCons, rNil, aCons, aNil, mVar, mCon, mTwo, mOne, mTup, mLst, mSl, pNone, pSome, mChain, mCall, mCnt, mDic0, bVal, bCmp, bNot, bAnd, bOr, bYes, isB, truR, truD, peeks, peek, take, give, keep, keepAll, asgAll, gN, gT, gsCons, gsNil, deref, frz, lift_some, lift_none, Out.bind_ok, Out.bind_exc, Out.bind_bad, Out.flow_ok, Out.flow_exc, Out.flow_bad, isiD, isiB, tyD, eqD, neD, eqB, ltD, leD, gtD, geD, fB, fI, atD, itemsD, listD, lenD, seeL, mutL, mutD, fin, List.length_cons, List.length_nil, List.map_cons, List.map_nil, List.cons_append, List.nil_append, List.getElem?_cons_zero, List.getElem?_cons_succ, List.set_cons_zero, List.set_cons_succ, Option.bind_some, Option.map_some, Option.bind_none, Option.map_none, if_true, Bool.false_eq_true, if_false, Bool.not_true, Bool.not_false, at0, at1, at2, at3, at4, at5, k_str, k_non, k_int, k_bool, k_tup, k_lst, k_dic, t_str, t_non, t_int, t_bool, t_tup, t_lst, t_dic, c_has_kind (k + 1) (.tup [a, b, c, e]) _ _ hp h1 (show (0 : Int) < 4 by decide), hs0, at1, at2, at3, c_is_name (k + 1) b hp hb, c_is_name (k + 1) c hp hc, c_are_names k e hp he, isRow, hs.2, decide_true, Bool.true_and]
          cases isName b
          · simp only [cSeq, Fl.then, cNil, cIf, cRet, cRetN, cAsg, cApp, cPop, cSetL, cMul, cExpr, cPass, mAnd, mOr, mNot, mIf, mBlt, rCons, rNil, aCons, aNil, mVar, mCon, mTwo, mOne, mTup, mLst, mSl, pNone, pSome, mChain, mCall, mCnt, mDic0, bVal, bCmp, bNot, bAnd, bOr, bYes, isB, truR, truD, peeks, peek, take, give, keep, keepAll, asgAll, gN, gT, gsCons, gsNil, deref, frz, lift_some, lift_none, Out.bind_ok, Out.bind_exc, Out.bind_bad, Out.flow_ok, Out.flow_exc, Out.flow_bad, isiD, isiB, tyD, eqD, neD, eqB, ltD, leD, gtD, geD, fB, fI, atD, itemsD, listD, lenD, seeL, mutL, mutD, fin, List.length_cons, List.length_nil, List.map_cons, List.map_nil, List.cons_append, List.nil_append, List.getElem?_cons_zero, List.getElem?_cons_succ, List.set_cons_zero, List.set_cons_succ, Option.bind_some, Option.map_some, Option.bind_none, Option.map_none, if_true, Bool.false_eq_true, if_false, Bool.not_true, Bool.not_false, at0, at1, at2, at3, at4, at5, k_str, k_non, k_int, k_bool, k_tup, k_lst, k_dic, t_str, t_non, t_int, t_bool, t_tup, t_lst, t_dic, Bool.false_and]
          · cases isName c
            · simp only [cSeq, Fl.then, cNil, cIf, cRet, cRetN, cAsg, cApp, cPop, cSetL, cMul, cExpr, cPass, mAnd, mOr, mNot, mIf, mBlt, rCons, rNil, aCons, aNil, mVar, mCon, mTwo, mOne, mTup, mLst, mSl, pNone, pSome, mChain, mCall, mCnt, mDic0, bVal, bCmp, bNot, bAnd, bOr, bYes, isB, truR, truD, peeks, peek, take, give, keep, keepAll, asgAll, gN, gT, gsCons, gsNil, deref, frz, lift_some, lift_none, Out.bind_ok, Out.bind_exc, Out.bind_bad, Out.flow_ok, Out.flow_exc, Out.flow_bad, isiD, isiB, tyD, eqD, neD, eqB, ltD, leD, gtD, geD, fB, fI, atD, itemsD, listD, lenD, seeL, mutL, mutD, fin, List.length_cons, List.length_nil, List.map_cons, List.map_nil, List.cons_append, List.nil_append, List.getElem?_cons_zero, List.getElem?_cons_succ, List.set_cons_zero, List.set_cons_succ, Option.bind_some, Option.map_some, Option.bind_none, Option.map_none, if_true, Bool.false_eq_true, if_false, Bool.not_true, Bool.not_false, at0, at1, at2, at3, at4, at5, k_str, k_non, k_int, k_bool, k_tup, k_lst, k_dic, t_str, t_non, t_int, t_bool, t_tup, t_lst, t_dic, Bool.false_and, Bool.true_and]
            · cases hn : areNames e
              · simp (disch := assumption) only [cSeq, Fl.then, cNil, cIf, cRet, cRetN, cAsg, cApp, cPop, cSetL, cMul, cExpr, cPass, mAnd, mOr, mNot, mIf, mBlt, rCons, rNil, aCons, aNil, mVar, mCon, mTwo, mOne, mTup, mLst, mSl, pNone, pSome, mChain, mCall, mCnt, mDic0, bVal, bCmp, bNot, bAnd, bOr, bYes, isB, truR, truD, peeks, peek, take, give, keep, keepAll, asgAll, gN, gT, gsCons, gsNil, deref, frz, lift_some, lift_none, Out.bind_ok, Out.bind_exc, Out.bind_bad, Out.flow_ok, Out.flow_exc, Out.flow_bad, isiD, isiB, tyD, eqD, neD, eqB, ltD, leD, gtD, geD, fB, fI, atD, itemsD, listD, lenD, seeL, mutL, mutD, fin, List.length_cons, List.length_nil, List.map_cons, List.map_nil, List.cons_append, List.nil_append, List.getElem?_cons_zero, List.getElem?_cons_succ, List.set_cons_zero, List.set_cons_succ, Option.bind_some, Option.map_some, Option.bind_none, Option.map_none, if_true, Bool.false_eq_true, if_false, Bool.not_true, Bool.not_false, at0, at1, at2, at3, at4, at5, k_str, k_non, k_int, k_bool, k_tup, k_lst, k_dic, t_str, t_non, t_int, t_bool, t_tup, t_lst, t_dic, c_are_names, hn, Bool.false_and, Bool.true_and]
              · obtain ⟨ws, rfl⟩ := areNames_tup hn
                simp (disch := assumption) only [cSeq, Fl.then, cNil, cIf, cRet, cRetN, cAsg, cApp, cPop, cSetL, cMul, cExpr, cPass, mAnd, mOr, mNot, mIf, mBlt, rCons, rNil, aCons, aNil, mVar, mCon, mTwo, mOne, mTup, mLst, mSl, pNone, pSome, mChain, mCall, mCnt, mDic0, bVal, bCmp, bNot, bAnd, bOr, bYes, isB, truR, truD, peeks, peek, take, give, keep, keepAll, asgAll, gN, gT, gsCons, gsNil, deref, frz, lift_some, lift_none, Out.bind_ok, Out.bind_exc, Out.bind_bad, Out.flow_ok, Out.flow_exc, Out.flow_bad, isiD, isiB, tyD, eqD, neD, eqB, ltD, leD, gtD, geD, fB, fI, atD, itemsD, listD, lenD, seeL, mutL, mutD, fin, List.length_cons, List.length_nil, List.map_cons, List.map_nil, List.cons_append, List.nil_append, List.getElem?_cons_zero, List.getElem?_cons_succ, List.set_cons_zero, List.set_cons_succ, Option.bind_some, Option.map_some, Option.bind_none, Option.map_none, if_true, Bool.false_eq_true, if_false, Bool.not_true, Bool.not_false, at0, at1, at2, at3, at4, at5, k_str, k_non, k_int, k_bool, k_tup, k_lst, k_dic, t_str, t_non, t_int, t_bool, t_tup, t_lst, t_dic, c_are_names, hn, Bool.true_and, lenT, le2]
                rfl
        | [], hs, _ => simp at hs
        | [_], hs, _ => simp at hs
        | [_, _], hs, _ => simp at hs
        | [_, _, _], hs, _ => simp at hs
        | _ :: _ :: _ :: _ :: _ :: _, hs, _ => simp at hs; omega
      | _ => all_goals cases hs
    | false =>
      have h4 : (0 : Int) < 4 := by decide
      simp (disch := assumption) only [cSeq, Fl.then, cNil, cIf, cRet, cRetN, cAsg, cApp, cPop, cSetL, cMul, cExpr, cPass, mAnd, mOr, mNot, mIf, mBlt, rCons, rNil, aCons, aNil, mVar, mCon, mTwo, mOne, mTup, mLst, mSl, pNone, pSome, mChain, mCall, mCnt, mDic0, bVal, bCmp, bNot, bAnd, bOr, bYes, isB, truR, truD, peeks, peek, take, give, keep, keepAll, asgAll, gN, gT, gsCons, gsNil, deref, frz, lift_some, lift_none, Out.bind_ok, Out.bind_exc, Out.bind_bad, Out.flow_ok, Out.flow_exc, Out.flow_bad, isiD, isiB, tyD, eqD, neD, eqB, ltD, leD, gtD, geD, fB, fI, atD, itemsD, listD, lenD, seeL, mutL, mutD, fin, List.length_cons, List.length_nil, List.map_cons, List.map_nil, List.cons_append, List.nil_append, List.getElem?_cons_zero, List.getElem?_cons_succ, List.set_cons_zero, List.set_cons_succ, Option.bind_some, Option.map_some, Option.bind_none, Option.map_none, if_true, Bool.false_eq_true, if_false, Bool.not_true, Bool.not_false, at0, at1, at2, at3, at4, at5, k_str, k_non, k_int, k_bool, k_tup, k_lst, k_dic, t_str, t_non, t_int, t_bool, t_tup, t_lst, t_dic, c_has_kind, hs]
      have : isRow d = false := by
        cases d with
        | tup r =>
          simp only [hasKind, Bool.and_eq_false_iff, decide_eq_false_iff_not] at hk hs
          match r, hk, hs with
          | [a, b, c], hk, hs => simp at hk; simp [isRow, hk]
          | [a, b, c, e], hk, hs => simp at hs; simp [isRow, hs]
          | [], _, _ => rfl
          | [_], _, _ => rfl
          | [_, _], _, _ => rfl
          | _ :: _ :: _ :: _ :: _ :: _, _, _ => rfl
        | _ => all_goals rfl
      rw [this]

/-! ### the menu, the shapes -/
def gPn (n : Nat) (d : D) : Bool := match toP d with
  | some p => p.canLay0 && p.plain && decide (p.depth ≤ n)
  | none => false
abbrev gP (d : D) : Bool := gPn 1 d
def menu : List D := [.str "a", .str "r", .str "abcdefgh", .str "zz", .str "set", .str "op", .str "", .str "A", .str "abcdefghi", .str "a1", .non, .int 1, .tup [.str "a"], .str "a "]
def W (d : D) : Prop := d ∈ menu
def wOk (d : D) : Bool := okD d && okT d && gP d
theorem menu_ok : menu.all wOk = true := by kernel_rfl
theorem W.ok {d : D} (h : W d) : okD d = true ∧ okT d = true ∧ gP d = true := by
  have := List.all_eq_true.mp menu_ok d h
  simp only [wOk, Bool.and_eq_true] at this
  exact ⟨this.1.1, this.1.2, this.2⟩
/-- a row's item -/
inductive It : D → Prop
  | word {d : D} : W d → It d
  | tup {ws : List D} : (∀ w ∈ ws, W w) → ws.length ≤ 3 → It (.tup ws)
  | lst {ws : List D} : (∀ w ∈ ws, W w) → ws.length ≤ 3 → It (.lst ws)
theorem It.okT {d : D} (h : It d) : okT d = true := by
  cases h with
  | word h => exact h.ok.2.1
  | tup h l => 
    simp only [K01.okT, Bool.and_eq_true, List.all_eq_true]
    exact ⟨by simp only [fitsB, decide_eq_true_eq]; omega, fun w hw => (h w hw).ok.1⟩
  | lst h l => rfl
theorem It.okD {d : D} (h : It d) : okD d = true := okD_of h.okT
def unlike : D → Bool
  | .tup [.str a, .str b] => [!inV (.str a) [], !inV (.str b) [.str a]].all id
  | .tup [.str a, .str b, .str c] => [!inV (.str a) [], !inV (.str b) [.str a], !inV (.str c) [.str a, .str b]].all id
  | _ => true
theorem name_str {d : D} (h : isName d = true) : ∃ x, d = .str x := by
  cases d with
  | str x => exact ⟨x, rfl⟩
  | _ => all_goals cases h
def fewT : D → Bool
  | .tup ws => decide (ws.length ≤ 3)
  | _ => false
set_option maxHeartbeats 8000000 in
theorem c_are_unlike (k : Nat) (d : D) (hp : List O) (hn : areNames d = true) (hl : fewT d = true) : callN tab (k + 1) "are_unlike" [d] hp = .ok (.fz (.bl (unlike d))) hp := by
  rw [call_at u_are_unlike [some (.fz d), none, none] rfl rfl]
  obtain ⟨ws, rfl⟩ := areNames_tup hn
  simp only [areNames, List.all_eq_true] at hn
  simp only [fewT, decide_eq_true_eq] at hl
  simp only [f_are_unlike, m_are_unlike, cSeq, Fl.then, cNil, cIf, cRet, cRetN, cAsg, cApp, cPop, cSetL, cMul, cExpr, cPass, mAnd, mOr, mNot, mIf, mBlt, rCons, rNil, aCons, aNil, mVar, mCon, mTwo, mOne, mTup, mLst, mSl, pNone, pSome, mChain, mCall, mCnt, mDic0, bVal, bCmp, bNot, bAnd, bOr, bYes, isB, truR, truD, peeks, peek, take, give, keep, keepAll, asgAll, gN, gT, gsCons, gsNil, deref, frz, lift_some, lift_none, Out.bind_ok, Out.bind_exc, Out.bind_bad, Out.flow_ok, Out.flow_exc, Out.flow_bad, isiD, isiB, tyD, eqD, neD, eqB, ltD, leD, gtD, geD, fB, fI, atD, itemsD, listD, lenD, seeL, mutL, mutD, fin, List.length_cons, List.length_nil, List.map_cons, List.map_nil, List.cons_append, List.nil_append, List.getElem?_cons_zero, List.getElem?_cons_succ, List.set_cons_zero, List.set_cons_succ, Option.bind_some, Option.map_some, Option.bind_none, Option.map_none, if_true, Bool.false_eq_true, if_false, Bool.not_true, Bool.not_false, at0, at1, at2, at3, at4, at5, k_str, k_non, k_int, k_bool, k_tup, k_lst, k_dic, t_str, t_non, t_int, t_bool, t_tup, t_lst, t_dic]
  match ws, hn, hl with
  | [], _, _ => rfl
  | [a], hn, _ =>
    obtain ⟨a, rfl⟩ := name_str (hn a (by simp))
    rfl
  | [a, b], hn, _ =>
    obtain ⟨a, rfl⟩ := name_str (hn a (by simp))
    obtain ⟨b, rfl⟩ := name_str (hn b (by simp))
    rfl
  | [a, b, c], hn, _ =>
    obtain ⟨a, rfl⟩ := name_str (hn a (by simp))
    obtain ⟨b, rfl⟩ := name_str (hn b (by simp))
    obtain ⟨c, rfl⟩ := name_str (hn c (by simp))
    rfl
  | _ :: _ :: _ :: _ :: _, _, hl => simp at hl
end K01

set_option Elab.async false
set_option linter.all false
set_option maxRecDepth 100000
set_option maxHeartbeats 8000000
namespace K01
open PySem PySem.Spec PyProof.Rows L2 Mi
def isMade (d : D) : Bool := match d with
  | .tup [a, b, c, e, f] => if first [a, b, c, e, f] = some ("call" : Str) then isRow (.tup [.str "set", b, c, e]) && (areNames f && unlike f) else false
  | d => isRow d
/-- what is_made_row bears -/
def okM : D → Bool
  | .tup [a, b, c, e, f] => okU (.tup [a, b, c, e, f]) && (!areNames f || fewT f)
  | d => okU d
theorem okU_of {d : D} (h : okM d = true) : okU d = true := by
  unfold okM at h
  split at h
  · simp only [Bool.and_eq_true] at h; exact h.1
  · exact h
theorem isRow5 {a b c e f : D} : isRow (.tup [a, b, c, e, f]) = false := rfl
theorem c_is_made_row (k : Nat) (d : D) (hp : List O) (hd : okM d = true) : callN tab (k + 4) "is_made_row" [d] hp = .ok (.fz (.bl (isMade d))) hp := by
  rw [call_at u_is_made_row [some (.fz d)] rfl rfl]
  have hu := okU_of hd
  have h1 := okT_of hu
  have h5 : (0 : Int) < 5 := by decide
  simp (disch := assumption) only [f_is_made_row, m_is_made_row, cSeq, Fl.then, cNil, cIf, cRet, cRetN, cAsg, cApp, cPop, cSetL, cMul, cExpr, cPass, mAnd, mOr, mNot, mIf, mBlt, rCons, rNil, aCons, aNil, mVar, mCon, mTwo, mOne, mTup, mLst, mSl, pNone, pSome, mChain, mCall, mCnt, mDic0, bVal, bCmp, bNot, bAnd, bOr, bYes, isB, truR, truD, peeks, peek, take, give, keep, keepAll, asgAll, gN, gT, gsCons, gsNil, deref, frz, lift_some, lift_none, Out.bind_ok, Out.bind_exc, Out.bind_bad, Out.flow_ok, Out.flow_exc, Out.flow_bad, isiD, isiB, tyD, eqD, neD, eqB, ltD, leD, gtD, geD, fB, fI, atD, itemsD, listD, lenD, seeL, mutL, mutD, fin, List.length_cons, List.length_nil, List.map_cons, List.map_nil, List.cons_append, List.nil_append, List.getElem?_cons_zero, List.getElem?_cons_succ, List.set_cons_zero, List.set_cons_succ, Option.bind_some, Option.map_some, Option.bind_none, Option.map_none, if_true, Bool.false_eq_true, if_false, Bool.not_true, Bool.not_false, at0, at1, at2, at3, at4, at5, k_str, k_non, k_int, k_bool, k_tup, k_lst, k_dic, t_str, t_non, t_int, t_bool, t_tup, t_lst, t_dic, c_has_kind]
  cases hk : hasKind d "call" 5 with
  | true =>
    cases d with
    | tup r =>
      simp only [hasKind, Bool.and_eq_true, decide_eq_true_eq] at hk
      match r, hk with
      | [a, b, c, e, f], hk =>
        simp only [okM, Bool.and_eq_true] at hd
        obtain ⟨hd, hf⟩ := hd
        simp only [okU, Bool.and_eq_true, List.all_eq_true] at hd
        have hb := hd.2 b (by simp)
        have hc := hd.2 c (by simp)
        have he := hd.2 e (by simp)
        have hf' := hd.2 f (by simp)
        have hs : okU (.tup [.str "set", b, c, e]) = true := by
          simp only [okU, Bool.and_eq_true, List.all_eq_true]
          refine ⟨rfl, fun x hx => ?_⟩
          simp only [List.mem_cons, List.not_mem_nil, or_false] at hx
          rcases hx with rfl | rfl | rfl | rfl
          · rfl
          · exact hb
          · exact hc
          · exact he
        have hfit : fitsB (0 + 1 + 1 + 1 + 1) = true := rfl
        simp (disch := assumption) only [cSeq, Fl.then, cNil, cIf, cRet, cRetN, cAsg, cApp, cPop, cSetL, cMul, cExpr, cPass, mAnd, mOr, mNot, mIf, mBlt, rCons, rNil, aCons, aNil, mVar, mCon, mTwo, mOne, mTup, mLst, mSl, pNone, pSome, mChain, mCall, mCnt, mDic0, bVal, bCmp, bNot, bAnd, bOr, bYes, isB, truR, truD, peeks, peek, take, give, keep, keepAll, asgAll, gN, gT, gsCons, gsNil, deref, frz, lift_some, lift_none, Out.bind_ok, Out.bind_exc, Out.bind_bad, Out.flow_ok, Out.flow_exc, Out.flow_bad, isiD, isiB, tyD, eqD, neD, eqB, ltD, leD, gtD, geD, fB, fI, atD, itemsD, listD, lenD, seeL, mutL, mutD, fin, List.length_cons, List.length_nil, List.map_cons, List.map_nil, List.cons_append, List.nil_append, List.getElem?_cons_zero, List.getElem?_cons_succ, List.set_cons_zero, List.set_cons_succ, Option.bind_some, Option.map_some, Option.bind_none, Option.map_none, if_true, Bool.false_eq_true, if_false, Bool.not_true, Bool.not_false, at0, at1, at2, at3, at4, at5, k_str, k_non, k_int, k_bool, k_tup, k_lst, k_dic, t_str, t_non, t_int, t_bool, t_tup, t_lst, t_dic, hfit, c_is_row, isMade, hk.2]
        cases isRow (.tup [.str "set", b, c, e])
        · simp only [cSeq, Fl.then, cNil, cIf, cRet, cRetN, cAsg, cApp, cPop, cSetL, cMul, cExpr, cPass, mAnd, mOr, mNot, mIf, mBlt, rCons, rNil, aCons, aNil, mVar, mCon, mTwo, mOne, mTup, mLst, mSl, pNone, pSome, mChain, mCall, mCnt, mDic0, bVal, bCmp, bNot, bAnd, bOr, bYes, isB, truR, truD, peeks, peek, take, give, keep, keepAll, asgAll, gN, gT, gsCons, gsNil, deref, frz, lift_some, lift_none, Out.bind_ok, Out.bind_exc, Out.bind_bad, Out.flow_ok, Out.flow_exc, Out.flow_bad, isiD, isiB, tyD, eqD, neD, eqB, ltD, leD, gtD, geD, fB, fI, atD, itemsD, listD, lenD, seeL, mutL, mutD, fin, List.length_cons, List.length_nil, List.map_cons, List.map_nil, List.cons_append, List.nil_append, List.getElem?_cons_zero, List.getElem?_cons_succ, List.set_cons_zero, List.set_cons_succ, Option.bind_some, Option.map_some, Option.bind_none, Option.map_none, if_true, Bool.false_eq_true, if_false, Bool.not_true, Bool.not_false, at0, at1, at2, at3, at4, at5, k_str, k_non, k_int, k_bool, k_tup, k_lst, k_dic, t_str, t_non, t_int, t_bool, t_tup, t_lst, t_dic, Bool.false_and]
        · simp (disch := assumption) only [cSeq, Fl.then, cNil, cIf, cRet, cRetN, cAsg, cApp, cPop, cSetL, cMul, cExpr, cPass, mAnd, mOr, mNot, mIf, mBlt, rCons, rNil, aCons, aNil, mVar, mCon, mTwo, mOne, mTup, mLst, mSl, pNone, pSome, mChain, mCall, mCnt, mDic0, bVal, bCmp, bNot, bAnd, bOr, bYes, isB, truR, truD, peeks, peek, take, give, keep, keepAll, asgAll, gN, gT, gsCons, gsNil, deref, frz, lift_some, lift_none, Out.bind_ok, Out.bind_exc, Out.bind_bad, Out.flow_ok, Out.flow_exc, Out.flow_bad, isiD, isiB, tyD, eqD, neD, eqB, ltD, leD, gtD, geD, fB, fI, atD, itemsD, listD, lenD, seeL, mutL, mutD, fin, List.length_cons, List.length_nil, List.map_cons, List.map_nil, List.cons_append, List.nil_append, List.getElem?_cons_zero, List.getElem?_cons_succ, List.set_cons_zero, List.set_cons_succ, Option.bind_some, Option.map_some, Option.bind_none, Option.map_none, if_true, Bool.false_eq_true, if_false, Bool.not_true, Bool.not_false, at0, at1, at2, at3, at4, at5, k_str, k_non, k_int, k_bool, k_tup, k_lst, k_dic, t_str, t_non, t_int, t_bool, t_tup, t_lst, t_dic, c_are_names]
          cases hn : areNames f
          · simp only [cSeq, Fl.then, cNil, cIf, cRet, cRetN, cAsg, cApp, cPop, cSetL, cMul, cExpr, cPass, mAnd, mOr, mNot, mIf, mBlt, rCons, rNil, aCons, aNil, mVar, mCon, mTwo, mOne, mTup, mLst, mSl, pNone, pSome, mChain, mCall, mCnt, mDic0, bVal, bCmp, bNot, bAnd, bOr, bYes, isB, truR, truD, peeks, peek, take, give, keep, keepAll, asgAll, gN, gT, gsCons, gsNil, deref, frz, lift_some, lift_none, Out.bind_ok, Out.bind_exc, Out.bind_bad, Out.flow_ok, Out.flow_exc, Out.flow_bad, isiD, isiB, tyD, eqD, neD, eqB, ltD, leD, gtD, geD, fB, fI, atD, itemsD, listD, lenD, seeL, mutL, mutD, fin, List.length_cons, List.length_nil, List.map_cons, List.map_nil, List.cons_append, List.nil_append, List.getElem?_cons_zero, List.getElem?_cons_succ, List.set_cons_zero, List.set_cons_succ, Option.bind_some, Option.map_some, Option.bind_none, Option.map_none, if_true, Bool.false_eq_true, if_false, Bool.not_true, Bool.not_false, at0, at1, at2, at3, at4, at5, k_str, k_non, k_int, k_bool, k_tup, k_lst, k_dic, t_str, t_non, t_int, t_bool, t_tup, t_lst, t_dic, Bool.false_and, Bool.and_false]
          · rw [hn] at hf
            have hf2 : fewT f = true := by simpa using hf
            simp (disch := assumption) only [cSeq, Fl.then, cNil, cIf, cRet, cRetN, cAsg, cApp, cPop, cSetL, cMul, cExpr, cPass, mAnd, mOr, mNot, mIf, mBlt, rCons, rNil, aCons, aNil, mVar, mCon, mTwo, mOne, mTup, mLst, mSl, pNone, pSome, mChain, mCall, mCnt, mDic0, bVal, bCmp, bNot, bAnd, bOr, bYes, isB, truR, truD, peeks, peek, take, give, keep, keepAll, asgAll, gN, gT, gsCons, gsNil, deref, frz, lift_some, lift_none, Out.bind_ok, Out.bind_exc, Out.bind_bad, Out.flow_ok, Out.flow_exc, Out.flow_bad, isiD, isiB, tyD, eqD, neD, eqB, ltD, leD, gtD, geD, fB, fI, atD, itemsD, listD, lenD, seeL, mutL, mutD, fin, List.length_cons, List.length_nil, List.map_cons, List.map_nil, List.cons_append, List.nil_append, List.getElem?_cons_zero, List.getElem?_cons_succ, List.set_cons_zero, List.set_cons_succ, Option.bind_some, Option.map_some, Option.bind_none, Option.map_none, if_true, Bool.false_eq_true, if_false, Bool.not_true, Bool.not_false, at0, at1, at2, at3, at4, at5, k_str, k_non, k_int, k_bool, k_tup, k_lst, k_dic, t_str, t_non, t_int, t_bool, t_tup, t_lst, t_dic, c_are_unlike, Bool.true_and]
      | [], hk => simp at hk
      | [_], hk => simp at hk
      | [_, _], hk => simp at hk
      | [_, _, _], hk => simp at hk
      | [_, _, _, _], hk => simp at hk
      | _ :: _ :: _ :: _ :: _ :: _ :: _, hk => simp at hk; omega
    | _ => all_goals cases hk
  | false =>
    simp (disch := assumption) only [cSeq, Fl.then, cNil, cIf, cRet, cRetN, cAsg, cApp, cPop, cSetL, cMul, cExpr, cPass, mAnd, mOr, mNot, mIf, mBlt, rCons, rNil, aCons, aNil, mVar, mCon, mTwo, mOne, mTup, mLst, mSl, pNone, pSome, mChain, mCall, mCnt, mDic0, bVal, bCmp, bNot, bAnd, bOr, bYes, isB, truR, truD, peeks, peek, take, give, keep, keepAll, asgAll, gN, gT, gsCons, gsNil, deref, frz, lift_some, lift_none, Out.bind_ok, Out.bind_exc, Out.bind_bad, Out.flow_ok, Out.flow_exc, Out.flow_bad, isiD, isiB, tyD, eqD, neD, eqB, ltD, leD, gtD, geD, fB, fI, atD, itemsD, listD, lenD, seeL, mutL, mutD, fin, List.length_cons, List.length_nil, List.map_cons, List.map_nil, List.cons_append, List.nil_append, List.getElem?_cons_zero, List.getElem?_cons_succ, List.set_cons_zero, List.set_cons_succ, Option.bind_some, Option.map_some, Option.bind_none, Option.map_none, if_true, Bool.false_eq_true, if_false, Bool.not_true, Bool.not_false, at0, at1, at2, at3, at4, at5, k_str, k_non, k_int, k_bool, k_tup, k_lst, k_dic, t_str, t_non, t_int, t_bool, t_tup, t_lst, t_dic, c_is_row]
    have : isRow d = isMade d := by
      unfold isMade
      split
      · rename_i a b c e f
        simp [hasKind] at hk
        simp [hk, isRow5]
      · rfl
    rw [this]
def isEnd (d : D) : Bool := match d with
  | .tup [a, b] => (decide (first [a, b] = some ("go" : Str)) || decide (first [a, b] = some ("return" : Str))) && isName b
  | .tup [a, b, c] => decide (first [a, b, c] = some ("either" : Str)) && (isName b && (isName c && !decide (first [b] = first [c])))
  | _ => false
theorem ne_name {b c : D} (hb : isName b = true) (hc : isName c = true) : neD b c = some (.fz (.bl (!decide (first [b] = first [c])))) := by
  obtain ⟨x, rfl⟩ := name_str hb
  obtain ⟨y, rfl⟩ := name_str hc
  simp [neD, eqB, first]
theorem two {r : List D} {kd : Str} (h : hasKind (.tup r) kd 2 = true) : ∃ a b, r = [a, b] ∧ first [a, b] = some kd := by
  simp only [hasKind, Bool.and_eq_true, decide_eq_true_eq] at h
  match r, h with
  | [a, b], h => exact ⟨a, b, rfl, h.2⟩
  | [], hk => simp at hk
  | [_], hk => simp at hk
  | _ :: _ :: _ :: _, hk => simp at hk; omega
theorem three {r : List D} {kd : Str} (h : hasKind (.tup r) kd 3 = true) : ∃ a b c, r = [a, b, c] ∧ first [a, b, c] = some kd := by
  simp only [hasKind, Bool.and_eq_true, decide_eq_true_eq] at h
  match r, h with
  | [a, b, c], h => exact ⟨a, b, c, rfl, h.2⟩
  | [], hk => simp at hk
  | [_], hk => simp at hk
  | [_, _], hk => simp at hk
  | _ :: _ :: _ :: _ :: _, hk => simp at hk; omega
theorem c_is_end (k : Nat) (d : D) (hp : List O) (hu : okU d = true) : callN tab (k + 2) "is_end" [d] hp = .ok (.fz (.bl (isEnd d))) hp := by
  rw [call_at u_is_end [some (.fz d)] rfl rfl]
  have h1 := okT_of hu
  have h2 : (0 : Int) < 2 := by decide
  have h3 : (0 : Int) < 3 := by decide
  simp (disch := assumption) only [f_is_end, m_is_end, cSeq, Fl.then, cNil, cIf, cRet, cRetN, cAsg, cApp, cPop, cSetL, cMul, cExpr, cPass, mAnd, mOr, mNot, mIf, mBlt, rCons, rNil, aCons, aNil, mVar, mCon, mTwo, mOne, mTup, mLst, mSl, pNone, pSome, mChain, mCall, mCnt, mDic0, bVal, bCmp, bNot, bAnd, bOr, bYes, isB, truR, truD, peeks, peek, take, give, keep, keepAll, asgAll, gN, gT, gsCons, gsNil, deref, frz, lift_some, lift_none, Out.bind_ok, Out.bind_exc, Out.bind_bad, Out.flow_ok, Out.flow_exc, Out.flow_bad, isiD, isiB, tyD, eqD, neD, eqB, ltD, leD, gtD, geD, fB, fI, atD, itemsD, listD, lenD, seeL, mutL, mutD, fin, List.length_cons, List.length_nil, List.map_cons, List.map_nil, List.cons_append, List.nil_append, List.getElem?_cons_zero, List.getElem?_cons_succ, List.set_cons_zero, List.set_cons_succ, Option.bind_some, Option.map_some, Option.bind_none, Option.map_none, if_true, Bool.false_eq_true, if_false, Bool.not_true, Bool.not_false, at0, at1, at2, at3, at4, at5, k_str, k_non, k_int, k_bool, k_tup, k_lst, k_dic, t_str, t_non, t_int, t_bool, t_tup, t_lst, t_dic, c_has_kind]
  cases d with
  | tup r =>
    simp only [okU, Bool.and_eq_true, List.all_eq_true] at hu
    cases hg : hasKind (.tup r) "go" 2 with
    | true =>
      obtain ⟨a, b, rfl, hk⟩ := two hg
      have hb := okD_of (hu.2 b (by simp))
      simp (disch := assumption) only [cSeq, Fl.then, cNil, cIf, cRet, cRetN, cAsg, cApp, cPop, cSetL, cMul, cExpr, cPass, mAnd, mOr, mNot, mIf, mBlt, rCons, rNil, aCons, aNil, mVar, mCon, mTwo, mOne, mTup, mLst, mSl, pNone, pSome, mChain, mCall, mCnt, mDic0, bVal, bCmp, bNot, bAnd, bOr, bYes, isB, truR, truD, peeks, peek, take, give, keep, keepAll, asgAll, gN, gT, gsCons, gsNil, deref, frz, lift_some, lift_none, Out.bind_ok, Out.bind_exc, Out.bind_bad, Out.flow_ok, Out.flow_exc, Out.flow_bad, isiD, isiB, tyD, eqD, neD, eqB, ltD, leD, gtD, geD, fB, fI, atD, itemsD, listD, lenD, seeL, mutL, mutD, fin, List.length_cons, List.length_nil, List.map_cons, List.map_nil, List.cons_append, List.nil_append, List.getElem?_cons_zero, List.getElem?_cons_succ, List.set_cons_zero, List.set_cons_succ, Option.bind_some, Option.map_some, Option.bind_none, Option.map_none, if_true, Bool.false_eq_true, if_false, Bool.not_true, Bool.not_false, at0, at1, at2, at3, at4, at5, k_str, k_non, k_int, k_bool, k_tup, k_lst, k_dic, t_str, t_non, t_int, t_bool, t_tup, t_lst, t_dic, c_is_name, isEnd, hk, decide_true, Bool.true_or, Bool.true_and]
    | false =>
      simp (disch := assumption) only [cSeq, Fl.then, cNil, cIf, cRet, cRetN, cAsg, cApp, cPop, cSetL, cMul, cExpr, cPass, mAnd, mOr, mNot, mIf, mBlt, rCons, rNil, aCons, aNil, mVar, mCon, mTwo, mOne, mTup, mLst, mSl, pNone, pSome, mChain, mCall, mCnt, mDic0, bVal, bCmp, bNot, bAnd, bOr, bYes, isB, truR, truD, peeks, peek, take, give, keep, keepAll, asgAll, gN, gT, gsCons, gsNil, deref, frz, lift_some, lift_none, Out.bind_ok, Out.bind_exc, Out.bind_bad, Out.flow_ok, Out.flow_exc, Out.flow_bad, isiD, isiB, tyD, eqD, neD, eqB, ltD, leD, gtD, geD, fB, fI, atD, itemsD, listD, lenD, seeL, mutL, mutD, fin, List.length_cons, List.length_nil, List.map_cons, List.map_nil, List.cons_append, List.nil_append, List.getElem?_cons_zero, List.getElem?_cons_succ, List.set_cons_zero, List.set_cons_succ, Option.bind_some, Option.map_some, Option.bind_none, Option.map_none, if_true, Bool.false_eq_true, if_false, Bool.not_true, Bool.not_false, at0, at1, at2, at3, at4, at5, k_str, k_non, k_int, k_bool, k_tup, k_lst, k_dic, t_str, t_non, t_int, t_bool, t_tup, t_lst, t_dic, c_has_kind]
      cases hr : hasKind (.tup r) "return" 2 with
      | true =>
        obtain ⟨a, b, rfl, hk⟩ := two hr
        have hb := okD_of (hu.2 b (by simp))
        simp (disch := assumption) only [cSeq, Fl.then, cNil, cIf, cRet, cRetN, cAsg, cApp, cPop, cSetL, cMul, cExpr, cPass, mAnd, mOr, mNot, mIf, mBlt, rCons, rNil, aCons, aNil, mVar, mCon, mTwo, mOne, mTup, mLst, mSl, pNone, pSome, mChain, mCall, mCnt, mDic0, bVal, bCmp, bNot, bAnd, bOr, bYes, isB, truR, truD, peeks, peek, take, give, keep, keepAll, asgAll, gN, gT, gsCons, gsNil, deref, frz, lift_some, lift_none, Out.bind_ok, Out.bind_exc, Out.bind_bad, Out.flow_ok, Out.flow_exc, Out.flow_bad, isiD, isiB, tyD, eqD, neD, eqB, ltD, leD, gtD, geD, fB, fI, atD, itemsD, listD, lenD, seeL, mutL, mutD, fin, List.length_cons, List.length_nil, List.map_cons, List.map_nil, List.cons_append, List.nil_append, List.getElem?_cons_zero, List.getElem?_cons_succ, List.set_cons_zero, List.set_cons_succ, Option.bind_some, Option.map_some, Option.bind_none, Option.map_none, if_true, Bool.false_eq_true, if_false, Bool.not_true, Bool.not_false, at0, at1, at2, at3, at4, at5, k_str, k_non, k_int, k_bool, k_tup, k_lst, k_dic, t_str, t_non, t_int, t_bool, t_tup, t_lst, t_dic, c_is_name, isEnd, hk, decide_true, Bool.or_true, Bool.true_and]
      | false =>
        simp (disch := assumption) only [cSeq, Fl.then, cNil, cIf, cRet, cRetN, cAsg, cApp, cPop, cSetL, cMul, cExpr, cPass, mAnd, mOr, mNot, mIf, mBlt, rCons, rNil, aCons, aNil, mVar, mCon, mTwo, mOne, mTup, mLst, mSl, pNone, pSome, mChain, mCall, mCnt, mDic0, bVal, bCmp, bNot, bAnd, bOr, bYes, isB, truR, truD, peeks, peek, take, give, keep, keepAll, asgAll, gN, gT, gsCons, gsNil, deref, frz, lift_some, lift_none, Out.bind_ok, Out.bind_exc, Out.bind_bad, Out.flow_ok, Out.flow_exc, Out.flow_bad, isiD, isiB, tyD, eqD, neD, eqB, ltD, leD, gtD, geD, fB, fI, atD, itemsD, listD, lenD, seeL, mutL, mutD, fin, List.length_cons, List.length_nil, List.map_cons, List.map_nil, List.cons_append, List.nil_append, List.getElem?_cons_zero, List.getElem?_cons_succ, List.set_cons_zero, List.set_cons_succ, Option.bind_some, Option.map_some, Option.bind_none, Option.map_none, if_true, Bool.false_eq_true, if_false, Bool.not_true, Bool.not_false, at0, at1, at2, at3, at4, at5, k_str, k_non, k_int, k_bool, k_tup, k_lst, k_dic, t_str, t_non, t_int, t_bool, t_tup, t_lst, t_dic, c_has_kind]
        cases he : hasKind (.tup r) "either" 3 with
        | true =>
          obtain ⟨a, b, c, rfl, hk⟩ := three he
          have hb := okD_of (hu.2 b (by simp))
          have hc := okD_of (hu.2 c (by simp))
          simp (disch := assumption) only [cSeq, Fl.then, cNil, cIf, cRet, cRetN, cAsg, cApp, cPop, cSetL, cMul, cExpr, cPass, mAnd, mOr, mNot, mIf, mBlt, rCons, rNil, aCons, aNil, mVar, mCon, mTwo, mOne, mTup, mLst, mSl, pNone, pSome, mChain, mCall, mCnt, mDic0, bVal, bCmp, bNot, bAnd, bOr, bYes, isB, truR, truD, peeks, peek, take, give, keep, keepAll, asgAll, gN, gT, gsCons, gsNil, deref, frz, lift_some, lift_none, Out.bind_ok, Out.bind_exc, Out.bind_bad, Out.flow_ok, Out.flow_exc, Out.flow_bad, isiD, isiB, tyD, eqD, neD, eqB, ltD, leD, gtD, geD, fB, fI, atD, itemsD, listD, lenD, seeL, mutL, mutD, fin, List.length_cons, List.length_nil, List.map_cons, List.map_nil, List.cons_append, List.nil_append, List.getElem?_cons_zero, List.getElem?_cons_succ, List.set_cons_zero, List.set_cons_succ, Option.bind_some, Option.map_some, Option.bind_none, Option.map_none, if_true, Bool.false_eq_true, if_false, Bool.not_true, Bool.not_false, at0, at1, at2, at3, at4, at5, k_str, k_non, k_int, k_bool, k_tup, k_lst, k_dic, t_str, t_non, t_int, t_bool, t_tup, t_lst, t_dic, c_is_name, isEnd, hk, decide_true, Bool.true_and]
          cases nb : isName b
          · simp only [cSeq, Fl.then, cNil, cIf, cRet, cRetN, cAsg, cApp, cPop, cSetL, cMul, cExpr, cPass, mAnd, mOr, mNot, mIf, mBlt, rCons, rNil, aCons, aNil, mVar, mCon, mTwo, mOne, mTup, mLst, mSl, pNone, pSome, mChain, mCall, mCnt, mDic0, bVal, bCmp, bNot, bAnd, bOr, bYes, isB, truR, truD, peeks, peek, take, give, keep, keepAll, asgAll, gN, gT, gsCons, gsNil, deref, frz, lift_some, lift_none, Out.bind_ok, Out.bind_exc, Out.bind_bad, Out.flow_ok, Out.flow_exc, Out.flow_bad, isiD, isiB, tyD, eqD, neD, eqB, ltD, leD, gtD, geD, fB, fI, atD, itemsD, listD, lenD, seeL, mutL, mutD, fin, List.length_cons, List.length_nil, List.map_cons, List.map_nil, List.cons_append, List.nil_append, List.getElem?_cons_zero, List.getElem?_cons_succ, List.set_cons_zero, List.set_cons_succ, Option.bind_some, Option.map_some, Option.bind_none, Option.map_none, if_true, Bool.false_eq_true, if_false, Bool.not_true, Bool.not_false, at0, at1, at2, at3, at4, at5, k_str, k_non, k_int, k_bool, k_tup, k_lst, k_dic, t_str, t_non, t_int, t_bool, t_tup, t_lst, t_dic, Bool.false_and]
          · simp (disch := assumption) only [cSeq, Fl.then, cNil, cIf, cRet, cRetN, cAsg, cApp, cPop, cSetL, cMul, cExpr, cPass, mAnd, mOr, mNot, mIf, mBlt, rCons, rNil, aCons, aNil, mVar, mCon, mTwo, mOne, mTup, mLst, mSl, pNone, pSome, mChain, mCall, mCnt, mDic0, bVal, bCmp, bNot, bAnd, bOr, bYes, isB, truR, truD, peeks, peek, take, give, keep, keepAll, asgAll, gN, gT, gsCons, gsNil, deref, frz, lift_some, lift_none, Out.bind_ok, Out.bind_exc, Out.bind_bad, Out.flow_ok, Out.flow_exc, Out.flow_bad, isiD, isiB, tyD, eqD, neD, eqB, ltD, leD, gtD, geD, fB, fI, atD, itemsD, listD, lenD, seeL, mutL, mutD, fin, List.length_cons, List.length_nil, List.map_cons, List.map_nil, List.cons_append, List.nil_append, List.getElem?_cons_zero, List.getElem?_cons_succ, List.set_cons_zero, List.set_cons_succ, Option.bind_some, Option.map_some, Option.bind_none, Option.map_none, if_true, Bool.false_eq_true, if_false, Bool.not_true, Bool.not_false, at0, at1, at2, at3, at4, at5, k_str, k_non, k_int, k_bool, k_tup, k_lst, k_dic, t_str, t_non, t_int, t_bool, t_tup, t_lst, t_dic, c_is_name]
            cases nc : isName c
            · simp only [cSeq, Fl.then, cNil, cIf, cRet, cRetN, cAsg, cApp, cPop, cSetL, cMul, cExpr, cPass, mAnd, mOr, mNot, mIf, mBlt, rCons, rNil, aCons, aNil, mVar, mCon, mTwo, mOne, mTup, mLst, mSl, pNone, pSome, mChain, mCall, mCnt, mDic0, bVal, bCmp, bNot, bAnd, bOr, bYes, isB, truR, truD, peeks, peek, take, give, keep, keepAll, asgAll, gN, gT, gsCons, gsNil, deref, frz, lift_some, lift_none, Out.bind_ok, Out.bind_exc, Out.bind_bad, Out.flow_ok, Out.flow_exc, Out.flow_bad, isiD, isiB, tyD, eqD, neD, eqB, ltD, leD, gtD, geD, fB, fI, atD, itemsD, listD, lenD, seeL, mutL, mutD, fin, List.length_cons, List.length_nil, List.map_cons, List.map_nil, List.cons_append, List.nil_append, List.getElem?_cons_zero, List.getElem?_cons_succ, List.set_cons_zero, List.set_cons_succ, Option.bind_some, Option.map_some, Option.bind_none, Option.map_none, if_true, Bool.false_eq_true, if_false, Bool.not_true, Bool.not_false, at0, at1, at2, at3, at4, at5, k_str, k_non, k_int, k_bool, k_tup, k_lst, k_dic, t_str, t_non, t_int, t_bool, t_tup, t_lst, t_dic, Bool.false_and, Bool.true_and]
            · obtain ⟨x, rfl⟩ := name_str nb
              obtain ⟨y, rfl⟩ := name_str nc
              simp only [cSeq, Fl.then, cNil, cIf, cRet, cRetN, cAsg, cApp, cPop, cSetL, cMul, cExpr, cPass, mAnd, mOr, mNot, mIf, mBlt, rCons, rNil, aCons, aNil, mVar, mCon, mTwo, mOne, mTup, mLst, mSl, pNone, pSome, mChain, mCall, mCnt, mDic0, bVal, bCmp, bNot, bAnd, bOr, bYes, isB, truR, truD, peeks, peek, take, give, keep, keepAll, asgAll, gN, gT, gsCons, gsNil, deref, frz, lift_some, lift_none, Out.bind_ok, Out.bind_exc, Out.bind_bad, Out.flow_ok, Out.flow_exc, Out.flow_bad, isiD, isiB, tyD, eqD, neD, eqB, ltD, leD, gtD, geD, fB, fI, atD, itemsD, listD, lenD, seeL, mutL, mutD, fin, List.length_cons, List.length_nil, List.map_cons, List.map_nil, List.cons_append, List.nil_append, List.getElem?_cons_zero, List.getElem?_cons_succ, List.set_cons_zero, List.set_cons_succ, Option.bind_some, Option.map_some, Option.bind_none, Option.map_none, if_true, Bool.false_eq_true, if_false, Bool.not_true, Bool.not_false, at0, at1, at2, at3, at4, at5, k_str, k_non, k_int, k_bool, k_tup, k_lst, k_dic, t_str, t_non, t_int, t_bool, t_tup, t_lst, t_dic, Bool.true_and, first, Option.some.injEq]
        | false =>
          simp only [cSeq, Fl.then, cNil, cIf, cRet, cRetN, cAsg, cApp, cPop, cSetL, cMul, cExpr, cPass, mAnd, mOr, mNot, mIf, mBlt, rCons, rNil, aCons, aNil, mVar, mCon, mTwo, mOne, mTup, mLst, mSl, pNone, pSome, mChain, mCall, mCnt, mDic0, bVal, bCmp, bNot, bAnd, bOr, bYes, isB, truR, truD, peeks, peek, take, give, keep, keepAll, asgAll, gN, gT, gsCons, gsNil, deref, frz, lift_some, lift_none, Out.bind_ok, Out.bind_exc, Out.bind_bad, Out.flow_ok, Out.flow_exc, Out.flow_bad, isiD, isiB, tyD, eqD, neD, eqB, ltD, leD, gtD, geD, fB, fI, atD, itemsD, listD, lenD, seeL, mutL, mutD, fin, List.length_cons, List.length_nil, List.map_cons, List.map_nil, List.cons_append, List.nil_append, List.getElem?_cons_zero, List.getElem?_cons_succ, List.set_cons_zero, List.set_cons_succ, Option.bind_some, Option.map_some, Option.bind_none, Option.map_none, if_true, Bool.false_eq_true, if_false, Bool.not_true, Bool.not_false, at0, at1, at2, at3, at4, at5, k_str, k_non, k_int, k_bool, k_tup, k_lst, k_dic, t_str, t_non, t_int, t_bool, t_tup, t_lst, t_dic]
          have : isEnd (.tup r) = false := by
            match r, hg, hr, he with
            | [a, b], hg, hr, he => simp [hasKind] at hg hr; simp [isEnd, hg, hr]
            | [a, b, c], hg, hr, he => simp [hasKind] at he; simp [isEnd, he]
            | [], _, _, _ => rfl
            | [_], _, _, _ => rfl
            | _ :: _ :: _ :: _ :: _, _, _, _ => rfl
          rw [this]
  | _ => all_goals simp (disch := assumption) only [cSeq, Fl.then, cNil, cIf, cRet, cRetN, cAsg, cApp, cPop, cSetL, cMul, cExpr, cPass, mAnd, mOr, mNot, mIf, mBlt, rCons, rNil, aCons, aNil, mVar, mCon, mTwo, mOne, mTup, mLst, mSl, pNone, pSome, mChain, mCall, mCnt, mDic0, bVal, bCmp, bNot, bAnd, bOr, bYes, isB, truR, truD, peeks, peek, take, give, keep, keepAll, asgAll, gN, gT, gsCons, gsNil, deref, frz, lift_some, lift_none, Out.bind_ok, Out.bind_exc, Out.bind_bad, Out.flow_ok, Out.flow_exc, Out.flow_bad, isiD, isiB, tyD, eqD, neD, eqB, ltD, leD, gtD, geD, fB, fI, atD, itemsD, listD, lenD, seeL, mutL, mutD, fin, List.length_cons, List.length_nil, List.map_cons, List.map_nil, List.cons_append, List.nil_append, List.getElem?_cons_zero, List.getElem?_cons_succ, List.set_cons_zero, List.set_cons_succ, Option.bind_some, Option.map_some, Option.bind_none, Option.map_none, if_true, Bool.false_eq_true, if_false, Bool.not_true, Bool.not_false, at0, at1, at2, at3, at4, at5, k_str, k_non, k_int, k_bool, k_tup, k_lst, k_dic, t_str, t_non, t_int, t_bool, t_tup, t_lst, t_dic, c_has_kind, hasKind, isEnd]

theorem c_sets (k : Nat) (a b : D) (r : List D) (hp : List O) : callN tab (k + 1) "sets" [.tup (a :: b :: r)] hp = .ok (.fz b) hp := by
  rw [call_at u_sets [some (.fz (.tup (a :: b :: r)))] rfl rfl]
  simp only [f_sets, m_sets, cSeq, Fl.then, cNil, cIf, cRet, cRetN, cAsg, cApp, cPop, cSetL, cMul, cExpr, cPass, mAnd, mOr, mNot, mIf, mBlt, rCons, rNil, aCons, aNil, mVar, mCon, mTwo, mOne, mTup, mLst, mSl, pNone, pSome, mChain, mCall, mCnt, mDic0, bVal, bCmp, bNot, bAnd, bOr, bYes, isB, truR, truD, peeks, peek, take, give, keep, keepAll, asgAll, gN, gT, gsCons, gsNil, deref, frz, lift_some, lift_none, Out.bind_ok, Out.bind_exc, Out.bind_bad, Out.flow_ok, Out.flow_exc, Out.flow_bad, isiD, isiB, tyD, eqD, neD, eqB, ltD, leD, gtD, geD, fB, fI, atD, itemsD, listD, lenD, seeL, mutL, mutD, fin, List.length_cons, List.length_nil, List.map_cons, List.map_nil, List.cons_append, List.nil_append, List.getElem?_cons_zero, List.getElem?_cons_succ, List.set_cons_zero, List.set_cons_succ, Option.bind_some, Option.map_some, Option.bind_none, Option.map_none, if_true, Bool.false_eq_true, if_false, Bool.not_true, Bool.not_false, at0, at1, at2, at3, at4, at5, k_str, k_non, k_int, k_bool, k_tup, k_lst, k_dic, t_str, t_non, t_int, t_bool, t_tup, t_lst, t_dic]
theorem c_reads_copy (k : Nat) (b c : D) (hp : List O) : callN tab (k + 1) "reads" [.tup [.str "copy", b, c]] hp = .ok (.fz (.tup [c])) hp := by
  rw [call_at u_reads [some (.fz (.tup [.str "copy", b, c]))] rfl rfl]
  have hfit : fitsB (0 + 1) = true := rfl
  simp only [f_reads, m_reads, cSeq, Fl.then, cNil, cIf, cRet, cRetN, cAsg, cApp, cPop, cSetL, cMul, cExpr, cPass, mAnd, mOr, mNot, mIf, mBlt, rCons, rNil, aCons, aNil, mVar, mCon, mTwo, mOne, mTup, mLst, mSl, pNone, pSome, mChain, mCall, mCnt, mDic0, bVal, bCmp, bNot, bAnd, bOr, bYes, isB, truR, truD, peeks, peek, take, give, keep, keepAll, asgAll, gN, gT, gsCons, gsNil, deref, frz, lift_some, lift_none, Out.bind_ok, Out.bind_exc, Out.bind_bad, Out.flow_ok, Out.flow_exc, Out.flow_bad, isiD, isiB, tyD, eqD, neD, eqB, ltD, leD, gtD, geD, fB, fI, atD, itemsD, listD, lenD, seeL, mutL, mutD, fin, List.length_cons, List.length_nil, List.map_cons, List.map_nil, List.cons_append, List.nil_append, List.getElem?_cons_zero, List.getElem?_cons_succ, List.set_cons_zero, List.set_cons_succ, Option.bind_some, Option.map_some, Option.bind_none, Option.map_none, if_true, Bool.false_eq_true, if_false, Bool.not_true, Bool.not_false, at0, at1, at2, at3, at4, at5, k_str, k_non, k_int, k_bool, k_tup, k_lst, k_dic, t_str, t_non, t_int, t_bool, t_tup, t_lst, t_dic, decide_true, hfit]
theorem c_reads_else (k : Nat) (x : Str) (b c e : D) (r : List D) (hx : x ≠ "copy") (hp : List O) : callN tab (k + 1) "reads" [.tup (.str x :: b :: c :: e :: r)] hp = .ok (.fz e) hp := by
  rw [call_at u_reads [some (.fz (.tup (.str x :: b :: c :: e :: r)))] rfl rfl]
  simp only [f_reads, m_reads, cSeq, Fl.then, cNil, cIf, cRet, cRetN, cAsg, cApp, cPop, cSetL, cMul, cExpr, cPass, mAnd, mOr, mNot, mIf, mBlt, rCons, rNil, aCons, aNil, mVar, mCon, mTwo, mOne, mTup, mLst, mSl, pNone, pSome, mChain, mCall, mCnt, mDic0, bVal, bCmp, bNot, bAnd, bOr, bYes, isB, truR, truD, peeks, peek, take, give, keep, keepAll, asgAll, gN, gT, gsCons, gsNil, deref, frz, lift_some, lift_none, Out.bind_ok, Out.bind_exc, Out.bind_bad, Out.flow_ok, Out.flow_exc, Out.flow_bad, isiD, isiB, tyD, eqD, neD, eqB, ltD, leD, gtD, geD, fB, fI, atD, itemsD, listD, lenD, seeL, mutL, mutD, fin, List.length_cons, List.length_nil, List.map_cons, List.map_nil, List.cons_append, List.nil_append, List.getElem?_cons_zero, List.getElem?_cons_succ, List.set_cons_zero, List.set_cons_succ, Option.bind_some, Option.map_some, Option.bind_none, Option.map_none, if_true, Bool.false_eq_true, if_false, Bool.not_true, Bool.not_false, at0, at1, at2, at3, at4, at5, k_str, k_non, k_int, k_bool, k_tup, k_lst, k_dic, t_str, t_non, t_int, t_bool, t_tup, t_lst, t_dic, hx, decide_false]
/-! ### the law's own readings -/
theorem toPs_len : ∀ {l : List D} {ps : List PyData}, toPs l = some ps → ps.length = l.length
  | [], ps, e => by simp only [toPs, Option.some.injEq] at e; subst e; rfl
  | d :: l, ps, e => by
    simp only [toPs, Option.bind_eq_some_iff, Option.some.injEq] at e
    obtain ⟨p, _, qs, e2, e3⟩ := e
    subst e3
    simp [toPs_len e2]
/-- flat enough data: they can be laid, they are plain -/
theorem gPs {n : Nat} : ∀ l : List D, (∀ d ∈ l, gPn n d = true) → ∃ ps, toPs l = some ps ∧ PyData.canLayAll0 ps = true ∧ PyData.plainAll ps = true ∧ PyData.depthAll ps ≤ n
  | [], _ => ⟨[], rfl, rfl, rfl, by simp [PyData.depthAll]⟩
  | d :: l, h => by
    obtain ⟨ps, e, c, p, dp⟩ := gPs l fun x hx => h x (by simp [hx])
    have hd := h d (by simp)
    unfold gPn at hd
    split at hd
    · rename_i q eq
      simp only [Bool.and_eq_true, decide_eq_true_eq] at hd
      refine ⟨q :: ps, by simp [toPs, eq, e], ?_, ?_, ?_⟩
      · simp [PyData.canLayAll0, hd.1.1, c]
      · simp [PyData.plainAll, hd.1.2, p]
      · simp only [PyData.depthAll]; exact Nat.max_le.mpr ⟨hd.2, dp⟩
    · cases hd
theorem eq_nil {n : Nat} (l : List D) (h : ∀ d ∈ l, gPn n d = true) (hn : n ≤ 9) : eqB (.lst l) (.lst []) = some l.isEmpty := by
  obtain ⟨ps, e, c, p, dp⟩ := gPs l h
  have hl := toPs_len e
  have h1 : SeqAt.shaped (.list ps) = true := by
    have : PyData.depth (.list ps) = PyData.depthAll ps + 1 := by simp only [PyData.depth]
    simp only [SeqAt.shaped, PyData.canLay0, c, Bool.true_and, decide_eq_true_eq]
    omega
  have h2 : SeqAt.shaped (.list []) = true := by decide +kernel
  simp only [eqB, toP, e, toPs, Option.map_some, Option.bind_some, h1, h2, Bool.and_self, if_true, PyData.eqv]
  cases l with
  | nil =>
    cases ps with
    | nil => rfl
    | cons _ _ => simp at hl
  | cons a l =>
    cases ps with
    | nil => simp at hl
    | cons _ _ => rfl
theorem not_all (l : List Nat) : (l.filter fun c => !isL c).isEmpty = l.all isL := by
  induction l with
  | nil => rfl
  | cons a l ih => cases h : isL a <;> simp [h, ih]
/-- one sign of a text that can be laid -/
theorem gP_str {x : Str} (h : PyData.strOk x = true) : gP (.str x) = true := by
  simp [gP, gPn, toP, PyData.canLay0, h, PyData.plain, PyData.depth]
theorem sign_ok {x : Str} (h : PyData.strOk x = true) : ∀ d ∈ Mi.signs x, gP d = true := by
  intro d hd
  simp only [Mi.signs, List.mem_map] at hd
  obtain ⟨c, hc, rfl⟩ := hd
  refine gP_str ?_
  simp only [PyData.strOk, Array.all_eq_true_iff_forall_mem] at h ⊢
  intro y hy
  simp at hy
  subst hy
  exact h y (by simpa using hc)
end K01

set_option Elab.async false
set_option linter.all false
set_option maxRecDepth 100000
set_option maxHeartbeats 8000000
namespace K01
open PySem PySem.Spec PyProof.Rows L2 Mi
/-- a text can be laid -/
def layS : D → Bool
  | .str x => PyData.strOk x
  | _ => true
theorem gP_lay {d : D} (h : gP d = true) : layS d = true := by
  cases d with
  | str x => simp only [gP, gPn, toP, PyData.canLay0, Bool.and_eq_true] at h; exact h.1.1
  | _ => all_goals rfl
theorem It.lay {d : D} (h : It d) : layS d = true := by
  cases h with
  | word h => exact gP_lay h.ok.2.2
  | tup h l => rfl
  | lst h l => rfl
theorem c_law_is_name (k : Nat) (d : D) (hp : List O) (hd : okD d = true) (hg : layS d = true) : callN tab (k + 1) "_law_is_name" [d] hp = .ok (.fz (.bl (isName d))) hp := by
  rw [call_at u_law_is_name [some (.fz d), none] rfl rfl]
  simp only [f_law_is_name, m_law_is_name, cSeq, Fl.then, cNil, cIf, cRet, cRetN, cAsg, cApp, cPop, cSetL, cMul, cExpr, cPass, mAnd, mOr, mNot, mIf, mBlt, rCons, rNil, aCons, aNil, mVar, mCon, mTwo, mOne, mTup, mLst, mSl, pNone, pSome, mChain, mCall, mCnt, mDic0, bVal, bCmp, bNot, bAnd, bOr, bYes, isB, truR, truD, peeks, peek, take, give, keep, keepAll, asgAll, gN, gT, gsCons, gsNil, deref, frz, lift_some, lift_none, Out.bind_ok, Out.bind_exc, Out.bind_bad, Out.flow_ok, Out.flow_exc, Out.flow_bad, isiD, isiB, tyD, eqD, neD, eqB, ltD, leD, gtD, geD, fB, fI, atD, itemsD, listD, lenD, seeL, mutL, mutD, fin, List.length_cons, List.length_nil, List.map_cons, List.map_nil, List.cons_append, List.nil_append, List.getElem?_cons_zero, List.getElem?_cons_succ, List.set_cons_zero, List.set_cons_succ, Option.bind_some, Option.map_some, Option.bind_none, Option.map_none, if_true, Bool.false_eq_true, if_false, Bool.not_true, Bool.not_false, at0, at1, at2, at3, at4, at5, k_str, k_non, k_int, k_bool, k_tup, k_lst, k_dic, t_str, t_non, t_int, t_bool, t_tup, t_lst, t_dic]
  cases d with
  | str x =>
    simp only [okD, Bool.and_eq_true] at hd
    have hl : fitsB (Mi.signs x).length = true := by simpa [Mi.signs] using hd.2
    simp only [cSeq, Fl.then, cNil, cIf, cRet, cRetN, cAsg, cApp, cPop, cSetL, cMul, cExpr, cPass, mAnd, mOr, mNot, mIf, mBlt, rCons, rNil, aCons, aNil, mVar, mCon, mTwo, mOne, mTup, mLst, mSl, pNone, pSome, mChain, mCall, mCnt, mDic0, bVal, bCmp, bNot, bAnd, bOr, bYes, isB, truR, truD, peeks, peek, take, give, keep, keepAll, asgAll, gN, gT, gsCons, gsNil, deref, frz, lift_some, lift_none, Out.bind_ok, Out.bind_exc, Out.bind_bad, Out.flow_ok, Out.flow_exc, Out.flow_bad, isiD, isiB, tyD, eqD, neD, eqB, ltD, leD, gtD, geD, fB, fI, atD, itemsD, listD, lenD, seeL, mutL, mutD, fin, List.length_cons, List.length_nil, List.map_cons, List.map_nil, List.cons_append, List.nil_append, List.getElem?_cons_zero, List.getElem?_cons_succ, List.set_cons_zero, List.set_cons_succ, Option.bind_some, Option.map_some, Option.bind_none, Option.map_none, if_true, Bool.false_eq_true, if_false, Bool.not_true, Bool.not_false, at0, at1, at2, at3, at4, at5, k_str, k_non, k_int, k_bool, k_tup, k_lst, k_dic, t_str, t_non, t_int, t_bool, t_tup, t_lst, t_dic, hd.1, le1, le8]
    by_cases h1 : 1 ≤ x.length
    · by_cases h8 : x.length ≤ 8
      · simp only [decide_eq_true h1, decide_eq_true h8, cSeq, Fl.then, cNil, cIf, cRet, cRetN, cAsg, cApp, cPop, cSetL, cMul, cExpr, cPass, mAnd, mOr, mNot, mIf, mBlt, rCons, rNil, aCons, aNil, mVar, mCon, mTwo, mOne, mTup, mLst, mSl, pNone, pSome, mChain, mCall, mCnt, mDic0, bVal, bCmp, bNot, bAnd, bOr, bYes, isB, truR, truD, peeks, peek, take, give, keep, keepAll, asgAll, gN, gT, gsCons, gsNil, deref, frz, lift_some, lift_none, Out.bind_ok, Out.bind_exc, Out.bind_bad, Out.flow_ok, Out.flow_exc, Out.flow_bad, isiD, isiB, tyD, eqD, neD, eqB, ltD, leD, gtD, geD, fB, fI, atD, itemsD, listD, lenD, seeL, mutL, mutD, fin, List.length_cons, List.length_nil, List.map_cons, List.map_nil, List.cons_append, List.nil_append, List.getElem?_cons_zero, List.getElem?_cons_succ, List.set_cons_zero, List.set_cons_succ, Option.bind_some, Option.map_some, Option.bind_none, Option.map_none, if_true, Bool.false_eq_true, if_false, Bool.not_true, Bool.not_false, at0, at1, at2, at3, at4, at5, k_str, k_non, k_int, k_bool, k_tup, k_lst, k_dic, t_str, t_non, t_int, t_bool, t_tup, t_lst, t_dic]
        simp only [mLc, iVal, cSeq, Fl.then, cNil, cIf, cRet, cRetN, cAsg, cApp, cPop, cSetL, cMul, cExpr, cPass, mAnd, mOr, mNot, mIf, mBlt, rCons, rNil, aCons, aNil, mVar, mCon, mTwo, mOne, mTup, mLst, mSl, pNone, pSome, mChain, mCall, mCnt, mDic0, bVal, bCmp, bNot, bAnd, bOr, bYes, isB, truR, truD, peeks, peek, take, give, keep, keepAll, asgAll, gN, gT, gsCons, gsNil, deref, frz, lift_some, lift_none, Out.bind_ok, Out.bind_exc, Out.bind_bad, Out.flow_ok, Out.flow_exc, Out.flow_bad, isiD, isiB, tyD, eqD, neD, eqB, ltD, leD, gtD, geD, fB, fI, atD, itemsD, listD, lenD, seeL, mutL, mutD, fin, List.length_cons, List.length_nil, List.map_cons, List.map_nil, List.cons_append, List.nil_append, List.getElem?_cons_zero, List.getElem?_cons_succ, List.set_cons_zero, List.set_cons_succ, Option.bind_some, Option.map_some, Option.bind_none, Option.map_none, if_true, Bool.false_eq_true, if_false, Bool.not_true, Bool.not_false, at0, at1, at2, at3, at4, at5, k_str, k_non, k_int, k_bool, k_tup, k_lst, k_dic, t_str, t_non, t_int, t_bool, t_tup, t_lst, t_dic, iterD]
        rw [show (⟨wipeO [some (O.fz (D.str x)), none] [1], hp⟩ : S) = ⟨[some (O.fz (D.str x)), none], hp⟩ from rfl]
        rw [lcL_map (f := id) (p := fun d => match d with | .str y => !(!(Builtin.Str.occurrences abc y 0 abc.length 1).isEmpty) | _ => false) (Mi.signs x) [] (fun d hd => ?_) (by simpa using hl)]
        · have e : ((Mi.signs x).filter fun d => match d with | .str y => !(!(Builtin.Str.occurrences abc y 0 abc.length 1).isEmpty) | _ => false).map id = (x.cps.toList.filter fun c => !isL c).map fun c => D.str ⟨#[c]⟩ := by
            rw [Mi.signs, List.filter_map, List.map_id]; rfl
          rw [e]
          have e2 := eq_nil ((x.cps.toList.filter fun c => !isL c).map fun c => D.str ⟨#[c]⟩) (fun d hd => by
            refine sign_ok hg d ?_
            simp only [List.mem_map, List.mem_filter] at hd
            obtain ⟨c, hc, rfl⟩ := hd
            exact List.mem_map.mpr ⟨c, hc.1, rfl⟩) (by decide)
          have hf0 : fitsB 0 = true := rfl
          simp only [eqB] at e2
          simp only [cSeq, Fl.then, cNil, cIf, cRet, cRetN, cAsg, cApp, cPop, cSetL, cMul, cExpr, cPass, mAnd, mOr, mNot, mIf, mBlt, rCons, rNil, aCons, aNil, mVar, mCon, mTwo, mOne, mTup, mLst, mSl, pNone, pSome, mChain, mCall, mCnt, mDic0, bVal, bCmp, bNot, bAnd, bOr, bYes, isB, truR, truD, peeks, peek, take, give, keep, keepAll, asgAll, gN, gT, gsCons, gsNil, deref, frz, lift_some, lift_none, Out.bind_ok, Out.bind_exc, Out.bind_bad, Out.flow_ok, Out.flow_exc, Out.flow_bad, isiD, isiB, tyD, eqD, neD, eqB, ltD, leD, gtD, geD, fB, fI, atD, itemsD, listD, lenD, seeL, mutL, mutD, fin, List.length_cons, List.length_nil, List.map_cons, List.map_nil, List.cons_append, List.nil_append, List.getElem?_cons_zero, List.getElem?_cons_succ, List.set_cons_zero, List.set_cons_succ, Option.bind_some, Option.map_some, Option.bind_none, Option.map_none, if_true, Bool.false_eq_true, if_false, Bool.not_true, Bool.not_false, at0, at1, at2, at3, at4, at5, k_str, k_non, k_int, k_bool, k_tup, k_lst, k_dic, t_str, t_non, t_int, t_bool, t_tup, t_lst, t_dic, rst, hf0, e2, isName, decide_eq_true h1, decide_eq_true h8, Bool.true_and, List.isEmpty_map, not_all]
        · simp only [Mi.signs, List.mem_map] at hd
          obtain ⟨c, _, e⟩ := hd
          subst e
          exact ⟨⟨[some (.fz (.str x)), some (.fz (.str ⟨#[c]⟩))], hp⟩, rfl, rfl, fun _ => ⟨_, rfl, rfl⟩, rfl⟩
      · simp only [decide_eq_true h1, decide_eq_false h8, cSeq, Fl.then, cNil, cIf, cRet, cRetN, cAsg, cApp, cPop, cSetL, cMul, cExpr, cPass, mAnd, mOr, mNot, mIf, mBlt, rCons, rNil, aCons, aNil, mVar, mCon, mTwo, mOne, mTup, mLst, mSl, pNone, pSome, mChain, mCall, mCnt, mDic0, bVal, bCmp, bNot, bAnd, bOr, bYes, isB, truR, truD, peeks, peek, take, give, keep, keepAll, asgAll, gN, gT, gsCons, gsNil, deref, frz, lift_some, lift_none, Out.bind_ok, Out.bind_exc, Out.bind_bad, Out.flow_ok, Out.flow_exc, Out.flow_bad, isiD, isiB, tyD, eqD, neD, eqB, ltD, leD, gtD, geD, fB, fI, atD, itemsD, listD, lenD, seeL, mutL, mutD, fin, List.length_cons, List.length_nil, List.map_cons, List.map_nil, List.cons_append, List.nil_append, List.getElem?_cons_zero, List.getElem?_cons_succ, List.set_cons_zero, List.set_cons_succ, Option.bind_some, Option.map_some, Option.bind_none, Option.map_none, if_true, Bool.false_eq_true, if_false, Bool.not_true, Bool.not_false, at0, at1, at2, at3, at4, at5, k_str, k_non, k_int, k_bool, k_tup, k_lst, k_dic, t_str, t_non, t_int, t_bool, t_tup, t_lst, t_dic, isName, Bool.and_false, Bool.false_and]
    · simp only [decide_eq_false h1, cSeq, Fl.then, cNil, cIf, cRet, cRetN, cAsg, cApp, cPop, cSetL, cMul, cExpr, cPass, mAnd, mOr, mNot, mIf, mBlt, rCons, rNil, aCons, aNil, mVar, mCon, mTwo, mOne, mTup, mLst, mSl, pNone, pSome, mChain, mCall, mCnt, mDic0, bVal, bCmp, bNot, bAnd, bOr, bYes, isB, truR, truD, peeks, peek, take, give, keep, keepAll, asgAll, gN, gT, gsCons, gsNil, deref, frz, lift_some, lift_none, Out.bind_ok, Out.bind_exc, Out.bind_bad, Out.flow_ok, Out.flow_exc, Out.flow_bad, isiD, isiB, tyD, eqD, neD, eqB, ltD, leD, gtD, geD, fB, fI, atD, itemsD, listD, lenD, seeL, mutL, mutD, fin, List.length_cons, List.length_nil, List.map_cons, List.map_nil, List.cons_append, List.nil_append, List.getElem?_cons_zero, List.getElem?_cons_succ, List.set_cons_zero, List.set_cons_succ, Option.bind_some, Option.map_some, Option.bind_none, Option.map_none, if_true, Bool.false_eq_true, if_false, Bool.not_true, Bool.not_false, at0, at1, at2, at3, at4, at5, k_str, k_non, k_int, k_bool, k_tup, k_lst, k_dic, t_str, t_non, t_int, t_bool, t_tup, t_lst, t_dic, isName, Bool.false_and]
  | ins _ _ _ => cases hd
  | loc _ => cases hd
  | fn _ => cases hd
  | ty _ => cases hd
  | cls _ => cases hd
  | _ => all_goals simp only [cSeq, Fl.then, cNil, cIf, cRet, cRetN, cAsg, cApp, cPop, cSetL, cMul, cExpr, cPass, mAnd, mOr, mNot, mIf, mBlt, rCons, rNil, aCons, aNil, mVar, mCon, mTwo, mOne, mTup, mLst, mSl, pNone, pSome, mChain, mCall, mCnt, mDic0, bVal, bCmp, bNot, bAnd, bOr, bYes, isB, truR, truD, peeks, peek, take, give, keep, keepAll, asgAll, gN, gT, gsCons, gsNil, deref, frz, lift_some, lift_none, Out.bind_ok, Out.bind_exc, Out.bind_bad, Out.flow_ok, Out.flow_exc, Out.flow_bad, isiD, isiB, tyD, eqD, neD, eqB, ltD, leD, gtD, geD, fB, fI, atD, itemsD, listD, lenD, seeL, mutL, mutD, fin, List.length_cons, List.length_nil, List.map_cons, List.map_nil, List.cons_append, List.nil_append, List.getElem?_cons_zero, List.getElem?_cons_succ, List.set_cons_zero, List.set_cons_succ, Option.bind_some, Option.map_some, Option.bind_none, Option.map_none, if_true, Bool.false_eq_true, if_false, Bool.not_true, Bool.not_false, at0, at1, at2, at3, at4, at5, k_str, k_non, k_int, k_bool, k_tup, k_lst, k_dic, t_str, t_non, t_int, t_bool, t_tup, t_lst, t_dic, isName]
end K01

set_option Elab.async false
set_option linter.all false
set_option maxRecDepth 100000
set_option maxHeartbeats 8000000
namespace K01
open PySem PySem.Spec PyProof.Rows L2 Mi
theorem gPn_mono {n m : Nat} {d : D} (h : gPn n d = true) (l : n ≤ m) : gPn m d = true := by
  unfold gPn at h ⊢
  split at h
  · simp only [Bool.and_eq_true, decide_eq_true_eq] at h ⊢
    exact ⟨h.1, by omega⟩
  · cases h
theorem It.gp {d : D} (h : It d) : gPn 2 d = true := by
  cases h with
  | word h => exact gPn_mono h.ok.2.2 (by decide)
  | tup h l =>
    rename_i ws
    obtain ⟨ps, e, c, p, dp⟩ := gPs (n := 1) ws fun d hd => (h d hd).ok.2.2
    have hd : PyData.depth (.tuple ps) = PyData.depthAll ps + 1 := by simp only [PyData.depth]
    simp only [gPn, toP, e, Option.map_some, PyData.canLay0, PyData.plain, c, p, Bool.true_and, decide_eq_true_eq, hd]
    omega
  | lst h l =>
    rename_i ws
    obtain ⟨ps, e, c, p, dp⟩ := gPs (n := 1) ws fun d hd => (h d hd).ok.2.2
    have hd : PyData.depth (.list ps) = PyData.depthAll ps + 1 := by simp only [PyData.depth]
    simp only [gPn, toP, e, Option.map_some, PyData.canLay0, PyData.plain, c, p, Bool.true_and, decide_eq_true_eq, hd]
    omega
inductive Kd : D → Prop
  | non : Kd .non
  | str (x : Str) : fitsB x.length && fitsB x.cps.toList.length = true → Kd (.str x)
structure Rw (a : D) (rest : List D) : Prop where
  kd : Kd a
  its : ∀ d ∈ rest, It d
  few : rest.length ≤ 5
theorem tup_words {ws : List D} (h : It (.tup ws)) : (∀ w ∈ ws, W w) ∧ ws.length ≤ 3 := by
  generalize e : D.tup ws = d at h
  cases h with
  | word h =>
    subst e
    simp only [W, menu, List.mem_cons, D.tup.injEq, List.not_mem_nil, or_false, reduceCtorEq, false_or] at h
    subst h
    exact ⟨fun w hw => by simp at hw; subst hw; simp [W, menu], by decide⟩
  | tup h l => cases e; exact ⟨h, l⟩
  | lst h l => cases e
theorem not_names (l : List D) : (l.filter fun c => !isName c).isEmpty = l.all isName := by
  induction l with
  | nil => rfl
  | cons a l ih => cases h : isName a <;> simp [h, ih]
theorem cut13 {a b c e : D} : cutD [a, b, c, e] (some 1) (some 3) = [b, c] := rfl
theorem cut14 {a b c e f : D} : cutD [a, b, c, e, f] (some 1) (some 4) = [b, c, e] := rfl
theorem gt2 {n : Nat} : decide ((2 : Int) < (n : Int)) = !decide (n ≤ 2) := by
  by_cases h : n ≤ 2
  · rw [decide_eq_true h, decide_eq_false (by omega)]; rfl
  · rw [decide_eq_false h, decide_eq_true (by omega)]; rfl
theorem cutS13 {a b c e : D} : cutD [a, b, c, e] (some 1) (some 3) = [b, c] := rfl
theorem addLL {a b : List D} (h : a.length + b.length ≤ 100000) : addB (.lst a) (.lst b) = some (.lst (a ++ b)) := by
  have : fitsB (a.length + b.length) = true := by simp only [fitsB, decide_eq_true_eq]; exact h
  simp only [addB, addD, this, if_true]
theorem eqNil {n : Nat} (l : List D) (h : ∀ d ∈ l, gPn n d = true) (hn : n ≤ 9) : eqD (.lst l) (.lst []) = some (.fz (.bl l.isEmpty)) := by
  simp only [eqD, eq_nil l h hn, Option.map_some]
theorem set_row (k : Nat) (b c e : D) (hp : List O) (hb : It b) (hc : It c) (he : It e) : callN tab (k + 2) "_law_is_row" [.lst [.str "set", b, c, e]] hp = .ok (.fz (.bl (isRow (.tup [.str "set", b, c, e])))) hp := by
  rw [call_at u_law_is_row [some (.fz (.lst [.str "set", b, c, e])), none] rfl rfl]
  have d2 : decide (((4 : Nat) : Int) = 4) = true := rfl
  have ih := he.okD
  cases e with
  | tup ws =>
    obtain ⟨hw, hl⟩ := tup_words he
    simp_arith [f_law_is_row, m_law_is_row, d2, gt2]
    by_cases h2 : ws.length ≤ 2
    · have hit : ∀ d ∈ b :: c :: ws, It d := fun d hd => by
        simp only [List.mem_cons] at hd
        rcases hd with rfl | rfl | hd
        · exact hb
        · exact hc
        · exact .word (hw d hd)
      have hadd : addB (.lst [b, c]) (.lst ws) = some (.lst (b :: c :: ws)) := addLL (by simp only [List.length_cons, List.length_nil]; omega)
      simp_arith [decide_eq_true h2, cutS13, hadd]
      rw [lcL_map (f := id) (p := fun d => !isName d) (b :: c :: ws) [] (fun d hd => ?_) (by simp only [fitsB, decide_eq_true_eq, List.length_cons, List.length_nil]; omega)]
      · have e2 := eqNil (((b :: c :: ws).filter fun d => !isName d).map id) (fun d hd => by
            simp only [List.map_id, List.mem_filter] at hd
            exact (hit d hd.1).gp) (by decide)
        rw [List.nil_append]
        simp_arith [e2]
        simp only [List.map_id, not_names, isRow, first, decide_true, Bool.true_and, areNames, lenT, h2, List.all_cons, Bool.and_true]
      · have hi := hit d hd
        refine ⟨⟨[some (O.fz (D.lst [D.str (Str.ofString "set"), b, c, D.tup ws])), some (.fz d)], hp⟩, rfl, ?_, fun _ => ⟨_, rfl, rfl⟩, rfl⟩
        simp_arith [x_seq]
        rw [c_law_is_name k d hp hi.okD hi.lay]
        simp_arith [x_seq]
    · simp_arith [decide_eq_false h2, isRow, lenT, Bool.and_false, h2]
  | ins _ _ _ => cases ih
  | loc _ => cases ih
  | fn _ => cases ih
  | ty _ => cases ih
  | cls _ => cases ih
  | dic _ _ => simp_arith [f_law_is_row, m_law_is_row, d2, isRow, areNames, Bool.and_false, Bool.false_and]
  | _ => all_goals simp_arith [f_law_is_row, m_law_is_row, d2, isRow, areNames, Bool.and_false, Bool.false_and]
end K01

set_option Elab.async false
set_option linter.all false
set_option maxRecDepth 100000
set_option maxHeartbeats 8000000
namespace K01
open PySem PySem.Spec PyProof.Rows L2 Mi
theorem lenI {n : Nat} {m : Nat} : decide (((n : Nat) : Int) = ((m : Nat) : Int)) = decide (n = m) := by
  by_cases h : n = m
  · rw [decide_eq_true h, decide_eq_true (by omega)]
  · rw [decide_eq_false h, decide_eq_false (by omega)]
theorem isRow_else {x : Str} {rest : List D} (h1 : x ≠ "copy") (h2 : x ≠ "set") : isRow (.tup (.str x :: rest)) = false := by
  match rest with
  | [b, c] => simp [isRow, first, h1]
  | [b, c, e] => simp [isRow, first, h2]
  | [] => rfl
  | [_] => rfl
  | _ :: _ :: _ :: _ :: _ => rfl
theorem isRow_copy {rest : List D} (h : rest.length ≠ 2) : isRow (.tup (.str "copy" :: rest)) = false := by
  match rest, h with
  | [b, c], h => simp at h
  | [b, c, e], h => 
    have : decide (("copy" : Str) = "set") = false := by decide +kernel
    simp [isRow, first, this]
  | [], _ => rfl
  | [_], _ => rfl
  | _ :: _ :: _ :: _ :: _, _ => rfl
theorem isRow_set {rest : List D} (h : rest.length ≠ 3) : isRow (.tup (.str "set" :: rest)) = false := by
  match rest, h with
  | [b, c, e], h => simp at h
  | [b, c], h => 
    have : decide (("set" : Str) = "copy") = false := by decide +kernel
    simp [isRow, first, this]
  | [], _ => rfl
  | [_], _ => rfl
  | _ :: _ :: _ :: _ :: _, _ => rfl
theorem isRow_non {rest : List D} : isRow (.tup (.non :: rest)) = false := by
  match rest with
  | [b, c] => rfl
  | [b, c, e] => rfl
  | [] => rfl
  | [_] => rfl
  | _ :: _ :: _ :: _ :: _ => rfl
theorem c_law_is_row (k : Nat) (a : D) (rest : List D) (hp : List O) (hr : Rw a rest) : callN tab (k + 2) "_law_is_row" [.lst (a :: rest)] hp = .ok (.fz (.bl (isRow (.tup (a :: rest))))) hp := by
  obtain ⟨hk, hi, hl⟩ := hr
  cases hk with
  | non =>
    rw [call_at u_law_is_row [some (.fz (.lst (.non :: rest))), none] rfl rfl, isRow_non]
    simp_arith [f_law_is_row, m_law_is_row]
  | str x hx =>
    by_cases h1 : x = "copy"
    · subst h1
      rw [call_at u_law_is_row [some (.fz (.lst (.str "copy" :: rest))), none] rfl rfl]
      have d1 : decide ((("copy" : Str)) = "copy") = true := by decide +kernel
      simp_arith [f_law_is_row, m_law_is_row, d1]
      by_cases h2 : rest.length = 2
      · match rest, h2, hi with
        | [b, c], _, hi =>
          have hb := hi b (by simp)
          have hc := hi c (by simp)
          have d2 : decide ((((0 : Nat) + 1 + 1 + 1 : Nat) : Int) = 3) = true := rfl
          simp_arith [d2]
          rw [c_law_is_name k b hp hb.okD hb.lay]
          simp_arith [isRow, first, decide_true, Bool.true_and]
          cases isName b
          · simp_arith [Bool.false_and]
          · simp_arith [Bool.true_and]
            rw [c_law_is_name k c hp hc.okD hc.lay]
            simp_arith [x_seq]
      · have d2 : decide (((rest.length + 1 : Nat) : Int) = 3) = false := decide_eq_false (by omega)
        simp_arith [d2, isRow_copy h2]
    · by_cases h2 : x = "set"
      · subst h2
        by_cases h3 : rest.length = 3
        · match rest, h3, hi with
          | [b, c, e], _, hi => exact set_row k b c e hp (hi b (by simp)) (hi c (by simp)) (hi e (by simp))
        · rw [call_at u_law_is_row [some (.fz (.lst (.str "set" :: rest))), none] rfl rfl, isRow_set h3]
          have d1 : decide (("set" : Str) = "copy") = false := by decide +kernel
          have d4 : decide (("set" : Str) = "set") = true := by decide +kernel
          have d2 : decide (((rest.length + 1 : Nat) : Int) = 4) = false := decide_eq_false (by omega)
          simp_arith [f_law_is_row, m_law_is_row, d1, d2, d4]
      · rw [call_at u_law_is_row [some (.fz (.lst (.str x :: rest))), none] rfl rfl, isRow_else h1 h2]
        simp_arith [f_law_is_row, m_law_is_row, h1, h2, decide_false]
theorem eqv_str {a b : Str} : PyData.eqv (.str a) (.str b) = (a == b) := by simp [PyData.eqv]
/-- which words are odd among some -/
def oddW (ws : List D) (w : D) : Bool := !isName w || (match toPs ws, toP w with | some ps, some p => decide (1 < ps.countP fun y => PyData.eqv y p) | _, _ => false)
theorem odd_all {ws : List D} (hl : ws.length ≤ 3) : (ws.filter (oddW ws)).isEmpty = (areNames (.tup ws) && unlike (.tup ws)) := by
  by_cases hn : ws.all isName = true
  · simp only [areNames, hn, Bool.true_and]
    simp only [List.all_eq_true] at hn
    match ws, hn, hl with
    | [], _, _ => rfl
    | [a], hn, _ =>
      have ha := hn a (by simp)
      obtain ⟨x, rfl⟩ := name_str ha
      simp [oddW, ha, toPs, toP, unlike, eqv_str]
    | [a, b], hn, _ =>
      have ha := hn a (by simp)
      have hb := hn b (by simp)
      obtain ⟨x, rfl⟩ := name_str ha
      obtain ⟨y, rfl⟩ := name_str hb
      by_cases e : x = y
      · subst e; simp [oddW, ha, toPs, toP, unlike, eqv_str, inV, eqV, List.countP_cons]
      · have e' : ¬ y = x := fun z => e z.symm
        simp [oddW, ha, hb, toPs, toP, unlike, eqv_str, inV, eqV, List.countP_cons, e, e']
    | [a, b, c], hn, _ =>
      have ha := hn a (by simp)
      have hb := hn b (by simp)
      have hc := hn c (by simp)
      obtain ⟨x, rfl⟩ := name_str ha
      obtain ⟨y, rfl⟩ := name_str hb
      obtain ⟨z, rfl⟩ := name_str hc
      by_cases e1 : x = y
      · subst e1
        by_cases e2 : x = z
        · subst e2; simp [oddW, ha, toPs, toP, unlike, eqv_str, inV, eqV, List.countP_cons]
        · have e2' : ¬ z = x := fun q => e2 q.symm
          simp [oddW, ha, hc, toPs, toP, unlike, eqv_str, inV, eqV, List.countP_cons, e2, e2']
      · have e1' : ¬ y = x := fun q => e1 q.symm
        by_cases e2 : x = z
        · subst e2; simp [oddW, ha, hb, toPs, toP, unlike, eqv_str, inV, eqV, List.countP_cons, e1, e1']
        · have e2' : ¬ z = x := fun q => e2 q.symm
          by_cases e3 : y = z
          · subst e3; simp [oddW, ha, hb, toPs, toP, unlike, eqv_str, inV, eqV, List.countP_cons, e1, e1']
          · have e3' : ¬ z = y := fun q => e3 q.symm
            simp [oddW, ha, hb, hc, toPs, toP, unlike, eqv_str, inV, eqV, List.countP_cons, e1, e1', e2, e2', e3, e3']
    | _ :: _ :: _ :: _ :: _, _, hl => simp at hl
  · have hf : ws.all isName = false := by simpa using hn
    simp only [areNames, hf, Bool.false_and]
    obtain ⟨w, hw, hv⟩ := List.all_eq_false.mp hf
    have hm : w ∈ ws.filter (oddW ws) := List.mem_filter.mpr ⟨hw, by simp [oddW, hv]⟩
    cases h : ws.filter (oddW ws) with
    | nil => rw [h] at hm; cases hm
    | cons _ _ => rfl
theorem set4 {b c e : D} : cutD [D.str "call", b, c, e] (some 1) (some 4) = [b, c, e] := rfl
theorem cutS14 {a b c e f : D} : cutD [a, b, c, e, f] (some 1) (some 4) = [b, c, e] := rfl
theorem lst1 {a : D} {l : List D} (h : l.length ≤ 99999) : addB (.lst [a]) (.lst l) = some (.lst (a :: l)) := addLL (by simp; omega)
theorem isMade_other {a : D} {rest : List D} (h : first (a :: rest) ≠ some ("call" : Str)) : isMade (.tup (a :: rest)) = isRow (.tup (a :: rest)) := by
  unfold isMade
  split
  · rename_i e
    injection e with e
    injection e with e1 e2
    subst e1; subst e2
    rw [if_neg h]; rfl
  · rfl
theorem isMade_call {rest : List D} (h : rest.length ≠ 4) : isMade (.tup (.str "call" :: rest)) = false := by
  match rest, h with
  | [_, _, _, _], h => simp at h
  | [], _ => rfl
  | [_], _ => rfl
  | [b, c], _ => simp [isMade, isRow, first, ofS_inj]
  | [b, c, e], _ => simp [isMade, isRow, first, ofS_inj]
  | _ :: _ :: _ :: _ :: _ :: _, _ => rfl
theorem count_ok {ws : List D} {w : D} (hw : ∀ d ∈ ws, W d) (hm : w ∈ ws) : ∃ ps p, toPs ws = some ps ∧ toP w = some p ∧ countD (.tup ws) w = some (.fz (.int ((ps.countP fun y => PyData.eqv y p : Nat) : Int))) := by
  obtain ⟨ps, e, c, p, dp⟩ := gPs (n := 1) ws fun d hd => (hw d hd).ok.2.2
  have hg := (hw w hm).ok.2.2
  unfold gP gPn at hg
  split at hg
  · rename_i q eq
    simp only [Bool.and_eq_true, decide_eq_true_eq] at hg
    refine ⟨ps, q, e, eq, ?_⟩
    have h60 : decide (q.depth ≤ 60) = true := decide_eq_true (by omega)
    simp only [countD, e, eq, Option.bind_some, p, hg.1.2, h60, Bool.and_self, if_true, fI]
  · cases hg
theorem gt1 {n : Nat} : decide ((1 : Int) < (n : Int)) = decide (1 < n) := by
  by_cases h : 1 < n
  · rw [decide_eq_true h, decide_eq_true (by omega)]
  · rw [decide_eq_false h, decide_eq_false (by omega)]
theorem call_row (k : Nat) (b c e f : D) (hp : List O) (hb : It b) (hc : It c) (he : It e) (hf : It f) : callN tab (k + 3) "_law_is_made" [.lst [.str "call", b, c, e, f]] hp = .ok (.fz (.bl (isMade (.tup [.str "call", b, c, e, f])))) hp := by
  rw [call_at u_law_is_made [some (.fz (.lst [.str "call", b, c, e, f])), none, none] rfl rfl]
  have d2 : decide (((5 : Nat) : Int) = 5) = true := rfl
  have h1 : addB (.lst [.str "set"]) (.lst [b, c, e]) = some (.lst [.str "set", b, c, e]) := lst1 (by simp)
  have hs := set_row k b c e hp hb hc he
  simp_arith [f_law_is_made, m_law_is_made, d2, cutS14, h1, hs, isMade, first, if_true]
  cases isRow (.tup [.str "set", b, c, e]) with
  | false => simp_arith [Bool.false_and]
  | true =>
    have ih := hf.okD
    cases f with
    | tup ws =>
      obtain ⟨hw, hl⟩ := tup_words hf
      simp_arith [Bool.true_and]
      rw [lcL_map (f := id) (p := oddW ws) ws [] (fun d hd => ?_) (by simp only [fitsB, decide_eq_true_eq, List.length_nil]; omega)]
      · have e2 := eqNil ((ws.filter (oddW ws)).map id) (fun d hd => by
            simp only [List.map_id, List.mem_filter] at hd
            exact (It.word (hw d hd.1)).gp) (by decide)
        rw [List.nil_append]
        simp_arith [e2]
        simp only [List.map_id, odd_all hl]
      · have hi := It.word (hw d hd)
        refine ⟨⟨[some (O.fz (D.lst [D.str (Str.ofString "call"), b, c, e, D.tup ws])), none, some (.fz d)], hp⟩, rfl, ?_, fun _ => ⟨_, rfl, rfl⟩, rfl⟩
        simp_arith [x_seq]
        rw [c_law_is_name (k + 1) d hp hi.okD hi.lay]
        obtain ⟨ps, p, e1, e2, e3⟩ := count_ok hw hd
        simp_arith [oddW, e1, e2]
        cases hnd : isName d with
        | false => simp_arith [Bool.true_or]
        | true =>
          obtain ⟨x, rfl⟩ := name_str hnd
          simp_arith [e3, gt1, Bool.false_or]
    | ins _ _ _ => cases ih
    | loc _ => cases ih
    | fn _ => cases ih
    | ty _ => cases ih
    | cls _ => cases ih
    | _ => all_goals simp_arith [areNames, Bool.and_false, Bool.false_and]
theorem c_law_is_made (k : Nat) (a : D) (rest : List D) (hp : List O) (hr : Rw a rest) : callN tab (k + 3) "_law_is_made" [.lst (a :: rest)] hp = .ok (.fz (.bl (isMade (.tup (a :: rest))))) hp := by
  have hrow := c_law_is_row k a rest hp hr
  obtain ⟨hk, hi, hl⟩ := hr
  cases hk with
  | non =>
    rw [call_at u_law_is_made [some (.fz (.lst (.non :: rest))), none, none] rfl rfl, isMade_other (by simp [first])]
    simp_arith [f_law_is_made, m_law_is_made, hrow]
  | str x hx =>
    by_cases h1 : x = "call"
    · subst h1
      by_cases h4 : rest.length = 4
      · match rest, h4, hi with
        | [b, c, e, f], _, hi => exact call_row k b c e f hp (hi b (by simp)) (hi c (by simp)) (hi e (by simp)) (hi f (by simp))
      · rw [call_at u_law_is_made [some (.fz (.lst (.str "call" :: rest))), none, none] rfl rfl, isMade_call h4]
        have d2 : decide (((rest.length + 1 : Nat) : Int) = 5) = false := decide_eq_false (by omega)
        simp_arith [f_law_is_made, m_law_is_made, d2]
    · rw [call_at u_law_is_made [some (.fz (.lst (.str x :: rest))), none, none] rfl rfl, isMade_other (by simp only [first, ne_eq, Option.some.injEq]; exact h1)]
      simp_arith [f_law_is_made, m_law_is_made, hrow, h1]
theorem in_go {x : Str} : inD (.str x) (.lst [.str "go", .str "return"]) = some (.fz (.bl (decide (x = "go") || decide (x = "return")))) := by
  have e1 : ∀ y : Str, (y == x) = decide (x = y) := fun y => by
    by_cases h : x = y
    · subst h; simp
    · have : ¬ y = x := fun z => h z.symm
      simp [h, this]
  simp only [inD, inB, flatD, itemsD, flatsD, Option.bind_some, inV, List.any_cons, List.any_nil, eqV, Bool.or_false, Option.map_some, e1]
theorem in_goN : inD .non (.lst [.str "go", .str "return"]) = some (.fz (.bl false)) := rfl
theorem c_law_is_end (k : Nat) (a : D) (rest : List D) (hp : List O) (hr : Rw a rest) : callN tab (k + 2) "_law_is_end" [.lst (a :: rest)] hp = .ok (.fz (.bl (isEnd (.tup (a :: rest))))) hp := by
  obtain ⟨hk, hi, hl⟩ := hr
  cases hk with
  | non =>
    rw [call_at u_law_is_end [some (.fz (.lst (.non :: rest)))] rfl rfl]
    have : isEnd (.tup (.non :: rest)) = false := by
      match rest with
      | [] => rfl
      | [_] => rfl
      | [_, _] => rfl
      | _ :: _ :: _ :: _ => rfl
    simp_arith [f_law_is_end, m_law_is_end, in_goN, this]
  | str x hx =>
    rw [call_at u_law_is_end [some (.fz (.lst (.str x :: rest)))] rfl rfl]
    simp_arith [f_law_is_end, m_law_is_end, in_go]
    cases hg : (decide (x = ("go" : Str)) || decide (x = ("return" : Str))) with
    | true =>
      by_cases h1 : rest.length = 1
      · match rest, h1, hi with
        | [b], _, hi =>
          have hb := hi b (by simp)
          have d2 : decide (((2 : Nat) : Int) = 2) = true := rfl
          simp_arith [d2]
          rw [c_law_is_name k b hp hb.okD hb.lay]
          simp_arith [isEnd, first, Option.some.injEq, hg, Bool.true_and]
      · have d2 : decide (((rest.length + 1 : Nat) : Int) = 2) = false := decide_eq_false (by omega)
        have : isEnd (.tup (.str x :: rest)) = false := by
          have hx3 : x ≠ "either" := by
            intro z; subst z; simp [ofS_inj] at hg
          match rest, h1 with
          | [], _ => rfl
          | [_], h => simp at h
          | [_, _], _ => simp [isEnd, first, hx3]
          | _ :: _ :: _ :: _, _ => rfl
        simp_arith [d2, this]
    | false =>
      simp only [Bool.or_eq_false_iff, decide_eq_false_iff_not] at hg
      by_cases he : x = "either"
      · subst he
        by_cases h1 : rest.length = 2
        · match rest, h1, hi with
          | [b, c], _, hi =>
            have hb := hi b (by simp)
            have hc := hi c (by simp)
            have d2 : decide (((3 : Nat) : Int) = 3) = true := rfl
            simp_arith [d2]
            rw [c_law_is_name k b hp hb.okD hb.lay]
            simp only [isEnd, first, decide_true, Bool.true_and]
            cases nb : isName b with
            | false => simp_arith [Bool.false_and]
            | true =>
              simp_arith [Bool.true_and]
              rw [c_law_is_name k c hp hc.okD hc.lay]
              cases nc : isName c with
              | false => simp_arith [Bool.false_and]
              | true =>
                obtain ⟨y, rfl⟩ := name_str nb
                obtain ⟨z, rfl⟩ := name_str nc
                simp_arith [Bool.true_and, Option.some.injEq]
        · have d2 : decide (((rest.length + 1 : Nat) : Int) = 3) = false := decide_eq_false (by omega)
          have : isEnd (.tup (.str "either" :: rest)) = false := by
            match rest, h1 with
            | [], _ => rfl
            | [_], _ => simp [isEnd, first, ofS_inj]
            | [_, _], h => simp at h
            | _ :: _ :: _ :: _, _ => rfl
          simp_arith [d2, this]
      · have : isEnd (.tup (.str x :: rest)) = false := by
          match rest with
          | [] => rfl
          | [_] => simp [isEnd, first, hg]
          | [_, _] => simp [isEnd, first, he]
          | _ :: _ :: _ :: _ => rfl
        simp_arith [he, this]
end K01

set_option Elab.async false
set_option linter.all false
set_option maxRecDepth 100000
set_option maxHeartbeats 8000000
namespace K01
open PySem PySem.Spec PyProof.Rows L2 Mi
theorem draws : Draws tab addB := ⟨addI_B, ⟨f_law_pool.N, rfl, u_law_pool⟩, ⟨f_law_draw.N, rfl, u_law_draw⟩, ⟨f_law_pick.N, rfl, u_law_pick⟩⟩
abbrev good6 : List D := [.str "a", .str "r", .str "abcdefgh", .str "zz", .str "set", .str "op"]
abbrev bad8 : List D := [.str "", .str "A", .str "abcdefghi", .str "a1", .non, .int 1, .tup [.str "a"], .str "a "]
def wordL : List D := (List.replicate 6 good6).flatten ++ bad8
theorem wordL_W : ∀ d ∈ wordL, W d := by
  intro d hd
  rcases List.mem_append.mp hd with z | z
  · obtain ⟨l, hl, hd⟩ := List.mem_flatten.mp z
    rw [(List.mem_replicate.mp hl).2] at hd
    exact List.mem_append_left bad8 hd
  · exact List.mem_append_right good6 z
theorem word_ok (k : Nat) {h : List O} {n : Nat} (hp : PoolAt h n) : ∃ d h', callN tab (k + 3) "_law_word" [.loc n] h = .ok (.fz d) h' ∧ W d ∧ PoolTo n h h' := by
  rw [call_at u_law_word [some (.fz (.loc n)), none] rfl rfl]
  obtain ⟨d, h', e, hd, pt⟩ := pick_ok draws k hp (.lst wordL) wordL rfl (by decide) (by decide)
  have hm : mulD (.lst good6) (.int 6) = some (.lst (List.replicate 6 good6).flatten) := rfl
  have ha : addB (.lst (List.replicate 6 good6).flatten) (.lst bad8) = some (.lst wordL) := rfl
  refine ⟨d, h', ?_, wordL_W d hd, pt⟩
  simp_arith [f_law_word, m_law_word, hm, ha, e]
theorem words_ok (k : Nat) {h : List O} {n : Nat} (hp : PoolAt h n) : ∃ ws h', callN tab (k + 4) "_law_words" [.loc n, .int 3] h = .ok (.fz (.tup ws)) h' ∧ (∀ w ∈ ws, W w) ∧ ws.length ≤ 3 ∧ PoolTo n h h' := by
  rw [call_at u_law_words [some (.fz (.loc n)), some (.fz (.int 3)), none] rfl rfl]
  obtain ⟨r, h1, e, r0, r4, pt⟩ := draw_ok draws (k + 2) hp (m := 3 + 1) (by decide) (by decide)
  simp_arith [f_law_words, m_law_words, e, x_rgK r0 (show r < 100000 by omega)]
  obtain ⟨out, s', eo, lo, po, io⟩ := lcL_draw (call := callN tab (k + 3)) (g := gN 2) (te := mCall "_law_word" (aCons (mVar 0) aNil)) (vs := [2]) (fun s => s.σ = [some (.fz (.loc n)), some (.fz (.int 3)), none] ∧ PoolTo n h s.h) W (rangeD 0 r.toNat) [] ⟨[some (.fz (.loc n)), some (.fz (.int 3)), none], h1⟩ ⟨rfl, pt⟩ (by simp) (fun d hd s hs => by
    obtain ⟨σ, h2⟩ := s
    obtain ⟨rfl, p2⟩ := hs
    obtain ⟨w, h3, e3, hw, p3⟩ := word_ok k p2.at
    refine ⟨⟨[some (.fz (.loc n)), some (.fz (.int 3)), some (.fz d)], h2⟩, rfl, .own (.fz w), ⟨[some (.fz (.loc n)), some (.fz (.int 3)), some (.fz d)], h3⟩, ?_, w, ⟨[some (.fz (.loc n)), some (.fz (.int 3)), some (.fz d)], h3⟩, rfl, hw, rfl, p2.trans p3⟩
    simp_arith [e3]) (by simp only [fitsB, rangeD, List.length_map, List.length_range, List.length_nil, decide_eq_true_eq]; omega)
  obtain ⟨σ, h2⟩ := s'
  obtain ⟨rfl, p2⟩ := io
  refine ⟨out, h2, ?_, po, ?_, p2⟩
  · rw [eo]
    simp_arith [x_seq]
  · simp only [rangeD, List.length_map, List.length_range, List.length_nil] at lo; omega
theorem in2 {x a b : Str} : inD (.str x) (.lst [.str a, .str b]) = some (.fz (.bl (decide (x = a) || decide (x = b)))) := by
  have e1 : ∀ y : Str, (y == x) = decide (x = y) := fun y => by
    by_cases h : x = y
    · subst h; simp
    · have : ¬ y = x := fun z => h z.symm
      simp [h, this]
  simp only [inD, inB, flatD, itemsD, flatsD, Option.bind_some, inV, List.any_cons, List.any_nil, eqV, Bool.or_false, Option.map_some, e1]
theorem in4 {x a b c d : Str} : inD (.str x) (.lst [.str a, .str b, .str c, .str d]) = some (.fz (.bl (decide (x = a) || (decide (x = b) || (decide (x = c) || decide (x = d)))))) := by
  have e1 : ∀ y : Str, (y == x) = decide (x = y) := fun y => by
    by_cases h : x = y
    · subst h; simp
    · have : ¬ y = x := fun z => h z.symm
      simp [h, this]
  simp only [inD, inB, flatD, itemsD, flatsD, Option.bind_some, inV, List.any_cons, List.any_nil, eqV, Bool.or_false, Option.map_some, e1]
theorem in2N {a b : Str} : inD .non (.lst [.str a, .str b]) = some (.fz (.bl false)) := rfl
theorem in4N {a b c d : Str} : inD .non (.lst [.str a, .str b, .str c, .str d]) = some (.fz (.bl false)) := rfl
/-- the end of _law_parts: one thing put otherwise -/
def m_tail : C := (cSeq (cAsg (mCall "_law_draw" (aCons (mVar 0) (aCons (mCon (.int 12)) aNil))) (gN 3)) (cSeq (cIf (bCmp (mTwo eqD (mVar 3) (mCon (.int 0)))) (cSeq (cApp (mVar 2) (mCon (.str "a"))) cNil) cNil) (cSeq (cIf (bCmp (mTwo eqD (mVar 3) (mCon (.int 1)))) (cSeq (cPop (mVar 2)) cNil) cNil) (cSeq (cIf (bAnd (bCmp (mTwo eqD (mVar 3) (mCon (.int 2)))) (bVal (mBlt isiD (rCons (mTwo atD (mVar 2) (mOne negD (mCon (.int 1)))) (rCons (mCon (.ty "tuple")) rNil))))) (cSeq (cSetL (mBlt listOfD (rCons (mTwo atD (mVar 2) (mOne negD (mCon (.int 1)))) rNil)) (mVar 2) (mOne negD (mCon (.int 1)))) cNil) cNil) (cSeq (cRet (mVar 2)) cNil)))))
theorem itA : It (.str "a") := .word (by simp [W, menu])
theorem isi_tup {d : D} (h : It d) : isiD [d, .ty "tuple"] = some (.fz (.bl (match d with | .tup _ => true | _ => false))) := by
  have := h.okD
  cases d <;> first | (cases this; done) | (simp_arith [x_seq]; done)
theorem It.toList {ws : List D} (h : It (.tup ws)) : It (.lst ws) := .lst (tup_words h).1 (tup_words h).2
theorem It.nl {d : D} (h : It d) : nl d = true := by
  have := h.okD
  cases d <;> first | rfl | cases this
theorem it_app {l : List D} (hi : ∀ d ∈ l, It d) : ∀ d ∈ l ++ [D.str "a"], It d := fun d hd => by
  rcases List.mem_append.mp hd with q | q
  · exact hi d q
  · simp at q; subst q; exact itA
theorem tail_ok (k : Nat) {h : List O} {n : Nat} (hp : PoolAt h n) (kd a b : D) (rest : List D) (z : Option O) (ha : Kd a) (hi : ∀ d ∈ b :: rest, It d) (hl : rest.length ≤ 3) :
    ∃ rest' h', fin (m_tail (callN tab (k + 1)) ⟨[some (.fz (.loc n)), some (.fz kd), some (.lst (a :: b :: rest)), z], h⟩) = .ok (.lst (a :: rest')) h' ∧ (∀ d ∈ rest', It d) ∧ rest'.length ≤ 5 ∧ PoolTo n h h' := by
  obtain ⟨r, h1, e, r0, r4, pt⟩ := draw_ok draws k hp (m := 12) (by decide) (by decide)
  simp_arith [m_tail, e]
  by_cases c0 : r = 0
  · subst c0
    have d1 : decide ((0 : Int) = 0) = true := rfl
    have d2 : decide ((0 : Int) = 1) = false := rfl
    have d3 : decide ((0 : Int) = 2) = false := rfl
    match rest, hl, hi with
    | [], _, hi => exact ⟨[b, .str "a"], h1, by simp_arith [d1, d2, d3], it_app hi, by simp, pt⟩
    | [c], _, hi => exact ⟨[b, c, .str "a"], h1, by simp_arith [d1, d2, d3], it_app hi, by simp, pt⟩
    | [c, e], _, hi => exact ⟨[b, c, e, .str "a"], h1, by simp_arith [d1, d2, d3], it_app hi, by simp, pt⟩
    | [c, e, f], _, hi => exact ⟨[b, c, e, f, .str "a"], h1, by simp_arith [d1, d2, d3], it_app hi, by simp, pt⟩
    | _ :: _ :: _ :: _ :: _, hl, _ => simp at hl
  · have d1 : decide (r = 0) = false := decide_eq_false c0
    by_cases c1 : r = 1
    · subst c1
      have d2 : decide ((1 : Int) = 1) = true := rfl
      have d3 : decide ((1 : Int) = 2) = false := rfl
      refine ⟨(b :: rest).dropLast, h1, ?_, fun d hd => hi d (List.dropLast_subset _ hd), by simp; omega, pt⟩
      simp_arith [d1, d2, d3]
      rfl
    · have d2 : decide (r = 1) = false := decide_eq_false c1
      by_cases c2 : r = 2
      · subst c2
        have d3 : decide ((2 : Int) = 2) = true := rfl
        have key : ∀ (x : D) (hx : It x) (pre : List D) (hpre : ∀ d ∈ pre, It d) (hln : pre.length ≤ 4) (hat : atI (a :: b :: rest) (-1) = some x) (hst : ∀ e, stL (-1) e (a :: b :: rest) = some (a :: (pre ++ [e]))) (hall : b :: rest = pre ++ [x]),
            ∃ rest' h', fin (Fl.then (Out.flow (Out.bind (Out.ok true ⟨[some (.fz (.loc n)), some (.fz kd), some (.lst (a :: b :: rest)), some (.fz (.int 2))], h1⟩) (kAndB (bVal (mBlt isiD (rCons (mTwo atD (mVar 2) (mOne negD (mCon (.int 1)))) (rCons (mCon (.ty "tuple")) rNil)))) (callN tab (k + 1)))) (kIf (cSeq (cSetL (mBlt listOfD (rCons (mTwo atD (mVar 2) (mOne negD (mCon (.int 1)))) rNil)) (mVar 2) (mOne negD (mCon (.int 1)))) cNil) cNil (callN tab (k + 1)))) (cSeq (cRet (mVar 2)) cNil (callN tab (k + 1)))) = .ok (.lst (a :: rest')) h' ∧ (∀ d ∈ rest', It d) ∧ rest'.length ≤ 5 ∧ PoolTo n h h' := by
          intro x hx pre hpre hln hat hst hall
          have hii := isi_tup hx
          have hnl := hx.nl
          simp_arith [hat, x_d_nl hnl, hii]
          cases x with
          | tup ws =>
            refine ⟨pre ++ [.lst ws], h1, ?_, fun d hd => ?_, by simp; omega, pt⟩
            · simp_arith [hat, hst]
            · rcases List.mem_append.mp hd with q | q
              · exact hpre d q
              · simp at q; subst q; exact hx.toList
          | _ => all_goals (refine ⟨b :: rest, h1, by simp_arith [x_seq], hi, by simp; omega, pt⟩)
        match rest, hl, hi, key with
        | [], _, hi, key => simpa only [Out.bind_ok, Out.bind_exc, Out.bind_bad, Out.flow_ok, Out.flow_exc, Out.flow_bad, lift_some, lift_none, xT_nx, xT_rt, xT_bk, xT_ct, xT_exc, xT_bad, x_seq, x_nil, x_pass, x_brk, x_cnt, x_retN, x_if, x_ifT, x_ifF, x_ret, x_ret1, x_ret2, x_gvO, x_gvB, x_gv, x_frz1, x_frz2, x_frz3, x_frz4, x_pkO, x_pkB, x_pk, x_tkO, x_tkB, x_tk, x_kpO, x_kpB, x_kp, x_dl, x_d_non, x_d_bl, x_d_int, x_d_str, x_d_tup, x_d_lst, x_d_scr, x_d_ty, x_d_fn, x_d_cls, x_d_dic, x_d_ins, x_d_nl, Option.bind_some, Option.bind_none, Option.map_some, Option.map_none, x_var, x_var1, x_con, x_dic0, x_aNil, x_aCons, x_a1, x_a2, x_a3, x_rNil, x_rCons, x_r1, x_r2, x_two, x_ta, x_tb, x_t2, x_t3, x_one, x_o, x_o2, x_tup, x_lst, x_tupK0, x_lstK0, x_tupK1, x_lstK1, x_tupK2, x_lstK2, x_tupK3, x_lstK3, x_tupK4, x_lstK4, x_tupK5, x_lstK5, x_tupK6, x_lstK6, x_tupK7, x_lstK7, x_tupK8, x_lstK8, x_tupK9, x_lstK9, x_tupK10, x_lstK10, x_tupK11, x_lstK11, x_tupK12, x_lstK12, x_tupK13, x_lstK13, x_tupK14, x_lstK14, x_bval, x_val, x_bcmp, x_cmp, x_isbl, x_bnot, x_notB, x_band, x_andT, x_andF, x_bor, x_orT, x_orF, x_byes, x_and, x_and1, x_and2T, x_and2F, x_or, x_or1, x_or2T, x_or2F, x_not, x_not1, x_not2, x_ife, x_ifeT, x_ifeF, x_tr_n, x_tr_b, x_tr_i, x_tr_t, x_tr_l, x_call, x_kcall, x_res1, x_res2, x_blt, x_kblt, x_kblt2, x_ps0, x_ps, x_ps1, x_cell, x_cellL, x_asg, x_asg1, x_asg2, x_asg3, x_mul, x_mul2, x_mul3, x_mul4, x_mulA, x_ka0, x_ka, x_ka1, x_ka2, x_as0, x_as, x_as1, x_ex, x_ex1, x_g0, x_gS, x_gU, x_gsN, x_gsC, x_gs, x_gTt1, x_gTl1, x_gTo1, x_gTt2, x_gTl2, x_gTo2, x_gTt3, x_gTl3, x_gTo3, x_gTt4, x_gTl4, x_gTo4, x_gTt5, x_gTl5, x_gTo5, x_app, x_app0, x_see, x_app1, x_app2, x_app3, x_app4, x_appS0, x_appS1, x_appS2, x_appS3, x_appS4, x_appS5, x_appS6, x_pop, x_pop1, x_popS, x_set, x_set1, x_set2, x_set3, x_set4, x_set5, x_mutB, x_mutS, x_mutF, x_muL, x_muC, x_mc, x_mc1, x_mc2, x_for, x_forL, x_lc, x_lc1, x_lc2, x_wp0, x_wp, x_rs0, x_rs, Option.getD_some, Option.getD_none, x_iv, x_iv1, x_iv2, x_itT, x_itL, x_itS, x_itC, x_rg, x_rg1, x_pn, x_psm, x_psm1, x_psm2, x_sl, x_sl0, x_sl1, x_sl2, x_sl3, x_slT, x_slC, x_slL, x_ch, x_ch1, x_ch2, x_ch3T, x_ch3F, x_ch4, x_ch5, x_cn, x_cn1, x_cn2, x_ltII, x_leII, x_gtII, x_geII, x_eqSS, x_neSS, x_eqSI, x_neSI, x_eqSN, x_neSN, x_eqIS, x_neIS, x_eqII, x_neII, x_eqIN, x_neIN, x_eqNS, x_neNS, x_eqNI, x_neNI, x_eqNN, x_neNN, x_addII, x_addBII, x_subII, x_negI, x_isN, x_isN2, x_isNN, x_isn_non, x_isn_bl, x_isn_int, x_isn_str, x_isn_tup, x_isn_lst, x_isn_loc, x_isn_fn, x_lenT, x_lenL, x_lenC, x_atT, x_atL, x_atC, x_max, x_min, x_intI, x_intB, x_loT, x_loL, x_toL, x_toT, x_ii_non_str, x_ii_non_tuple, x_ii_non_list, x_ii_non_int, x_ii_non_bool, x_ii_non_dict, x_ii_bl_str, x_ii_bl_tuple, x_ii_bl_list, x_ii_bl_int, x_ii_bl_bool, x_ii_bl_dict, x_ii_int_str, x_ii_int_tuple, x_ii_int_list, x_ii_int_int, x_ii_int_bool, x_ii_int_dict, x_ii_str_str, x_ii_str_tuple, x_ii_str_list, x_ii_str_int, x_ii_str_bool, x_ii_str_dict, x_ii_tup_str, x_ii_tup_tuple, x_ii_tup_list, x_ii_tup_int, x_ii_tup_bool, x_ii_tup_dict, x_ii_lst_str, x_ii_lst_tuple, x_ii_lst_list, x_ii_lst_int, x_ii_lst_bool, x_ii_lst_dict, x_ii_scr_str, x_ii_scr_tuple, x_ii_scr_list, x_ii_scr_int, x_ii_scr_bool, x_ii_scr_dict, x_ii_dic_str, x_ii_dic_tuple, x_ii_dic_list, x_ii_dic_int, x_ii_dic_bool, x_ii_dic_dict, x_finR, x_finN, x_finE, ofS_inj, List.getElem?_cons_zero, List.getElem?_cons_succ, List.set_cons_zero, List.set_cons_succ, List.length_cons, List.length_nil, Bool.not_true, Bool.not_false, decide_true, decide_false, String.reduceEq, Nat.reduceAdd, fI, fB, at0, at1, at2, at3, at4, at5, d1, d2, d3] using key b (hi b (by simp)) [] (by simp) (by simp) rfl (fun _ => rfl) rfl
        | [c], _, hi, key => simpa only [Out.bind_ok, Out.bind_exc, Out.bind_bad, Out.flow_ok, Out.flow_exc, Out.flow_bad, lift_some, lift_none, xT_nx, xT_rt, xT_bk, xT_ct, xT_exc, xT_bad, x_seq, x_nil, x_pass, x_brk, x_cnt, x_retN, x_if, x_ifT, x_ifF, x_ret, x_ret1, x_ret2, x_gvO, x_gvB, x_gv, x_frz1, x_frz2, x_frz3, x_frz4, x_pkO, x_pkB, x_pk, x_tkO, x_tkB, x_tk, x_kpO, x_kpB, x_kp, x_dl, x_d_non, x_d_bl, x_d_int, x_d_str, x_d_tup, x_d_lst, x_d_scr, x_d_ty, x_d_fn, x_d_cls, x_d_dic, x_d_ins, x_d_nl, Option.bind_some, Option.bind_none, Option.map_some, Option.map_none, x_var, x_var1, x_con, x_dic0, x_aNil, x_aCons, x_a1, x_a2, x_a3, x_rNil, x_rCons, x_r1, x_r2, x_two, x_ta, x_tb, x_t2, x_t3, x_one, x_o, x_o2, x_tup, x_lst, x_tupK0, x_lstK0, x_tupK1, x_lstK1, x_tupK2, x_lstK2, x_tupK3, x_lstK3, x_tupK4, x_lstK4, x_tupK5, x_lstK5, x_tupK6, x_lstK6, x_tupK7, x_lstK7, x_tupK8, x_lstK8, x_tupK9, x_lstK9, x_tupK10, x_lstK10, x_tupK11, x_lstK11, x_tupK12, x_lstK12, x_tupK13, x_lstK13, x_tupK14, x_lstK14, x_bval, x_val, x_bcmp, x_cmp, x_isbl, x_bnot, x_notB, x_band, x_andT, x_andF, x_bor, x_orT, x_orF, x_byes, x_and, x_and1, x_and2T, x_and2F, x_or, x_or1, x_or2T, x_or2F, x_not, x_not1, x_not2, x_ife, x_ifeT, x_ifeF, x_tr_n, x_tr_b, x_tr_i, x_tr_t, x_tr_l, x_call, x_kcall, x_res1, x_res2, x_blt, x_kblt, x_kblt2, x_ps0, x_ps, x_ps1, x_cell, x_cellL, x_asg, x_asg1, x_asg2, x_asg3, x_mul, x_mul2, x_mul3, x_mul4, x_mulA, x_ka0, x_ka, x_ka1, x_ka2, x_as0, x_as, x_as1, x_ex, x_ex1, x_g0, x_gS, x_gU, x_gsN, x_gsC, x_gs, x_gTt1, x_gTl1, x_gTo1, x_gTt2, x_gTl2, x_gTo2, x_gTt3, x_gTl3, x_gTo3, x_gTt4, x_gTl4, x_gTo4, x_gTt5, x_gTl5, x_gTo5, x_app, x_app0, x_see, x_app1, x_app2, x_app3, x_app4, x_appS0, x_appS1, x_appS2, x_appS3, x_appS4, x_appS5, x_appS6, x_pop, x_pop1, x_popS, x_set, x_set1, x_set2, x_set3, x_set4, x_set5, x_mutB, x_mutS, x_mutF, x_muL, x_muC, x_mc, x_mc1, x_mc2, x_for, x_forL, x_lc, x_lc1, x_lc2, x_wp0, x_wp, x_rs0, x_rs, Option.getD_some, Option.getD_none, x_iv, x_iv1, x_iv2, x_itT, x_itL, x_itS, x_itC, x_rg, x_rg1, x_pn, x_psm, x_psm1, x_psm2, x_sl, x_sl0, x_sl1, x_sl2, x_sl3, x_slT, x_slC, x_slL, x_ch, x_ch1, x_ch2, x_ch3T, x_ch3F, x_ch4, x_ch5, x_cn, x_cn1, x_cn2, x_ltII, x_leII, x_gtII, x_geII, x_eqSS, x_neSS, x_eqSI, x_neSI, x_eqSN, x_neSN, x_eqIS, x_neIS, x_eqII, x_neII, x_eqIN, x_neIN, x_eqNS, x_neNS, x_eqNI, x_neNI, x_eqNN, x_neNN, x_addII, x_addBII, x_subII, x_negI, x_isN, x_isN2, x_isNN, x_isn_non, x_isn_bl, x_isn_int, x_isn_str, x_isn_tup, x_isn_lst, x_isn_loc, x_isn_fn, x_lenT, x_lenL, x_lenC, x_atT, x_atL, x_atC, x_max, x_min, x_intI, x_intB, x_loT, x_loL, x_toL, x_toT, x_ii_non_str, x_ii_non_tuple, x_ii_non_list, x_ii_non_int, x_ii_non_bool, x_ii_non_dict, x_ii_bl_str, x_ii_bl_tuple, x_ii_bl_list, x_ii_bl_int, x_ii_bl_bool, x_ii_bl_dict, x_ii_int_str, x_ii_int_tuple, x_ii_int_list, x_ii_int_int, x_ii_int_bool, x_ii_int_dict, x_ii_str_str, x_ii_str_tuple, x_ii_str_list, x_ii_str_int, x_ii_str_bool, x_ii_str_dict, x_ii_tup_str, x_ii_tup_tuple, x_ii_tup_list, x_ii_tup_int, x_ii_tup_bool, x_ii_tup_dict, x_ii_lst_str, x_ii_lst_tuple, x_ii_lst_list, x_ii_lst_int, x_ii_lst_bool, x_ii_lst_dict, x_ii_scr_str, x_ii_scr_tuple, x_ii_scr_list, x_ii_scr_int, x_ii_scr_bool, x_ii_scr_dict, x_ii_dic_str, x_ii_dic_tuple, x_ii_dic_list, x_ii_dic_int, x_ii_dic_bool, x_ii_dic_dict, x_finR, x_finN, x_finE, ofS_inj, List.getElem?_cons_zero, List.getElem?_cons_succ, List.set_cons_zero, List.set_cons_succ, List.length_cons, List.length_nil, Bool.not_true, Bool.not_false, decide_true, decide_false, String.reduceEq, Nat.reduceAdd, fI, fB, at0, at1, at2, at3, at4, at5, d1, d2, d3] using key c (hi c (by simp)) [b] (fun d hd => hi d (by simp at hd; simp [hd])) (by simp) rfl (fun _ => rfl) rfl
        | [c, e], _, hi, key => simpa only [Out.bind_ok, Out.bind_exc, Out.bind_bad, Out.flow_ok, Out.flow_exc, Out.flow_bad, lift_some, lift_none, xT_nx, xT_rt, xT_bk, xT_ct, xT_exc, xT_bad, x_seq, x_nil, x_pass, x_brk, x_cnt, x_retN, x_if, x_ifT, x_ifF, x_ret, x_ret1, x_ret2, x_gvO, x_gvB, x_gv, x_frz1, x_frz2, x_frz3, x_frz4, x_pkO, x_pkB, x_pk, x_tkO, x_tkB, x_tk, x_kpO, x_kpB, x_kp, x_dl, x_d_non, x_d_bl, x_d_int, x_d_str, x_d_tup, x_d_lst, x_d_scr, x_d_ty, x_d_fn, x_d_cls, x_d_dic, x_d_ins, x_d_nl, Option.bind_some, Option.bind_none, Option.map_some, Option.map_none, x_var, x_var1, x_con, x_dic0, x_aNil, x_aCons, x_a1, x_a2, x_a3, x_rNil, x_rCons, x_r1, x_r2, x_two, x_ta, x_tb, x_t2, x_t3, x_one, x_o, x_o2, x_tup, x_lst, x_tupK0, x_lstK0, x_tupK1, x_lstK1, x_tupK2, x_lstK2, x_tupK3, x_lstK3, x_tupK4, x_lstK4, x_tupK5, x_lstK5, x_tupK6, x_lstK6, x_tupK7, x_lstK7, x_tupK8, x_lstK8, x_tupK9, x_lstK9, x_tupK10, x_lstK10, x_tupK11, x_lstK11, x_tupK12, x_lstK12, x_tupK13, x_lstK13, x_tupK14, x_lstK14, x_bval, x_val, x_bcmp, x_cmp, x_isbl, x_bnot, x_notB, x_band, x_andT, x_andF, x_bor, x_orT, x_orF, x_byes, x_and, x_and1, x_and2T, x_and2F, x_or, x_or1, x_or2T, x_or2F, x_not, x_not1, x_not2, x_ife, x_ifeT, x_ifeF, x_tr_n, x_tr_b, x_tr_i, x_tr_t, x_tr_l, x_call, x_kcall, x_res1, x_res2, x_blt, x_kblt, x_kblt2, x_ps0, x_ps, x_ps1, x_cell, x_cellL, x_asg, x_asg1, x_asg2, x_asg3, x_mul, x_mul2, x_mul3, x_mul4, x_mulA, x_ka0, x_ka, x_ka1, x_ka2, x_as0, x_as, x_as1, x_ex, x_ex1, x_g0, x_gS, x_gU, x_gsN, x_gsC, x_gs, x_gTt1, x_gTl1, x_gTo1, x_gTt2, x_gTl2, x_gTo2, x_gTt3, x_gTl3, x_gTo3, x_gTt4, x_gTl4, x_gTo4, x_gTt5, x_gTl5, x_gTo5, x_app, x_app0, x_see, x_app1, x_app2, x_app3, x_app4, x_appS0, x_appS1, x_appS2, x_appS3, x_appS4, x_appS5, x_appS6, x_pop, x_pop1, x_popS, x_set, x_set1, x_set2, x_set3, x_set4, x_set5, x_mutB, x_mutS, x_mutF, x_muL, x_muC, x_mc, x_mc1, x_mc2, x_for, x_forL, x_lc, x_lc1, x_lc2, x_wp0, x_wp, x_rs0, x_rs, Option.getD_some, Option.getD_none, x_iv, x_iv1, x_iv2, x_itT, x_itL, x_itS, x_itC, x_rg, x_rg1, x_pn, x_psm, x_psm1, x_psm2, x_sl, x_sl0, x_sl1, x_sl2, x_sl3, x_slT, x_slC, x_slL, x_ch, x_ch1, x_ch2, x_ch3T, x_ch3F, x_ch4, x_ch5, x_cn, x_cn1, x_cn2, x_ltII, x_leII, x_gtII, x_geII, x_eqSS, x_neSS, x_eqSI, x_neSI, x_eqSN, x_neSN, x_eqIS, x_neIS, x_eqII, x_neII, x_eqIN, x_neIN, x_eqNS, x_neNS, x_eqNI, x_neNI, x_eqNN, x_neNN, x_addII, x_addBII, x_subII, x_negI, x_isN, x_isN2, x_isNN, x_isn_non, x_isn_bl, x_isn_int, x_isn_str, x_isn_tup, x_isn_lst, x_isn_loc, x_isn_fn, x_lenT, x_lenL, x_lenC, x_atT, x_atL, x_atC, x_max, x_min, x_intI, x_intB, x_loT, x_loL, x_toL, x_toT, x_ii_non_str, x_ii_non_tuple, x_ii_non_list, x_ii_non_int, x_ii_non_bool, x_ii_non_dict, x_ii_bl_str, x_ii_bl_tuple, x_ii_bl_list, x_ii_bl_int, x_ii_bl_bool, x_ii_bl_dict, x_ii_int_str, x_ii_int_tuple, x_ii_int_list, x_ii_int_int, x_ii_int_bool, x_ii_int_dict, x_ii_str_str, x_ii_str_tuple, x_ii_str_list, x_ii_str_int, x_ii_str_bool, x_ii_str_dict, x_ii_tup_str, x_ii_tup_tuple, x_ii_tup_list, x_ii_tup_int, x_ii_tup_bool, x_ii_tup_dict, x_ii_lst_str, x_ii_lst_tuple, x_ii_lst_list, x_ii_lst_int, x_ii_lst_bool, x_ii_lst_dict, x_ii_scr_str, x_ii_scr_tuple, x_ii_scr_list, x_ii_scr_int, x_ii_scr_bool, x_ii_scr_dict, x_ii_dic_str, x_ii_dic_tuple, x_ii_dic_list, x_ii_dic_int, x_ii_dic_bool, x_ii_dic_dict, x_finR, x_finN, x_finE, ofS_inj, List.getElem?_cons_zero, List.getElem?_cons_succ, List.set_cons_zero, List.set_cons_succ, List.length_cons, List.length_nil, Bool.not_true, Bool.not_false, decide_true, decide_false, String.reduceEq, Nat.reduceAdd, fI, fB, at0, at1, at2, at3, at4, at5, d1, d2, d3] using key e (hi e (by simp)) [b, c] (fun d hd => hi d (by simp at hd; rcases hd with rfl | rfl <;> simp)) (by simp) rfl (fun _ => rfl) rfl
        | [c, e, f], _, hi, key => simpa only [Out.bind_ok, Out.bind_exc, Out.bind_bad, Out.flow_ok, Out.flow_exc, Out.flow_bad, lift_some, lift_none, xT_nx, xT_rt, xT_bk, xT_ct, xT_exc, xT_bad, x_seq, x_nil, x_pass, x_brk, x_cnt, x_retN, x_if, x_ifT, x_ifF, x_ret, x_ret1, x_ret2, x_gvO, x_gvB, x_gv, x_frz1, x_frz2, x_frz3, x_frz4, x_pkO, x_pkB, x_pk, x_tkO, x_tkB, x_tk, x_kpO, x_kpB, x_kp, x_dl, x_d_non, x_d_bl, x_d_int, x_d_str, x_d_tup, x_d_lst, x_d_scr, x_d_ty, x_d_fn, x_d_cls, x_d_dic, x_d_ins, x_d_nl, Option.bind_some, Option.bind_none, Option.map_some, Option.map_none, x_var, x_var1, x_con, x_dic0, x_aNil, x_aCons, x_a1, x_a2, x_a3, x_rNil, x_rCons, x_r1, x_r2, x_two, x_ta, x_tb, x_t2, x_t3, x_one, x_o, x_o2, x_tup, x_lst, x_tupK0, x_lstK0, x_tupK1, x_lstK1, x_tupK2, x_lstK2, x_tupK3, x_lstK3, x_tupK4, x_lstK4, x_tupK5, x_lstK5, x_tupK6, x_lstK6, x_tupK7, x_lstK7, x_tupK8, x_lstK8, x_tupK9, x_lstK9, x_tupK10, x_lstK10, x_tupK11, x_lstK11, x_tupK12, x_lstK12, x_tupK13, x_lstK13, x_tupK14, x_lstK14, x_bval, x_val, x_bcmp, x_cmp, x_isbl, x_bnot, x_notB, x_band, x_andT, x_andF, x_bor, x_orT, x_orF, x_byes, x_and, x_and1, x_and2T, x_and2F, x_or, x_or1, x_or2T, x_or2F, x_not, x_not1, x_not2, x_ife, x_ifeT, x_ifeF, x_tr_n, x_tr_b, x_tr_i, x_tr_t, x_tr_l, x_call, x_kcall, x_res1, x_res2, x_blt, x_kblt, x_kblt2, x_ps0, x_ps, x_ps1, x_cell, x_cellL, x_asg, x_asg1, x_asg2, x_asg3, x_mul, x_mul2, x_mul3, x_mul4, x_mulA, x_ka0, x_ka, x_ka1, x_ka2, x_as0, x_as, x_as1, x_ex, x_ex1, x_g0, x_gS, x_gU, x_gsN, x_gsC, x_gs, x_gTt1, x_gTl1, x_gTo1, x_gTt2, x_gTl2, x_gTo2, x_gTt3, x_gTl3, x_gTo3, x_gTt4, x_gTl4, x_gTo4, x_gTt5, x_gTl5, x_gTo5, x_app, x_app0, x_see, x_app1, x_app2, x_app3, x_app4, x_appS0, x_appS1, x_appS2, x_appS3, x_appS4, x_appS5, x_appS6, x_pop, x_pop1, x_popS, x_set, x_set1, x_set2, x_set3, x_set4, x_set5, x_mutB, x_mutS, x_mutF, x_muL, x_muC, x_mc, x_mc1, x_mc2, x_for, x_forL, x_lc, x_lc1, x_lc2, x_wp0, x_wp, x_rs0, x_rs, Option.getD_some, Option.getD_none, x_iv, x_iv1, x_iv2, x_itT, x_itL, x_itS, x_itC, x_rg, x_rg1, x_pn, x_psm, x_psm1, x_psm2, x_sl, x_sl0, x_sl1, x_sl2, x_sl3, x_slT, x_slC, x_slL, x_ch, x_ch1, x_ch2, x_ch3T, x_ch3F, x_ch4, x_ch5, x_cn, x_cn1, x_cn2, x_ltII, x_leII, x_gtII, x_geII, x_eqSS, x_neSS, x_eqSI, x_neSI, x_eqSN, x_neSN, x_eqIS, x_neIS, x_eqII, x_neII, x_eqIN, x_neIN, x_eqNS, x_neNS, x_eqNI, x_neNI, x_eqNN, x_neNN, x_addII, x_addBII, x_subII, x_negI, x_isN, x_isN2, x_isNN, x_isn_non, x_isn_bl, x_isn_int, x_isn_str, x_isn_tup, x_isn_lst, x_isn_loc, x_isn_fn, x_lenT, x_lenL, x_lenC, x_atT, x_atL, x_atC, x_max, x_min, x_intI, x_intB, x_loT, x_loL, x_toL, x_toT, x_ii_non_str, x_ii_non_tuple, x_ii_non_list, x_ii_non_int, x_ii_non_bool, x_ii_non_dict, x_ii_bl_str, x_ii_bl_tuple, x_ii_bl_list, x_ii_bl_int, x_ii_bl_bool, x_ii_bl_dict, x_ii_int_str, x_ii_int_tuple, x_ii_int_list, x_ii_int_int, x_ii_int_bool, x_ii_int_dict, x_ii_str_str, x_ii_str_tuple, x_ii_str_list, x_ii_str_int, x_ii_str_bool, x_ii_str_dict, x_ii_tup_str, x_ii_tup_tuple, x_ii_tup_list, x_ii_tup_int, x_ii_tup_bool, x_ii_tup_dict, x_ii_lst_str, x_ii_lst_tuple, x_ii_lst_list, x_ii_lst_int, x_ii_lst_bool, x_ii_lst_dict, x_ii_scr_str, x_ii_scr_tuple, x_ii_scr_list, x_ii_scr_int, x_ii_scr_bool, x_ii_scr_dict, x_ii_dic_str, x_ii_dic_tuple, x_ii_dic_list, x_ii_dic_int, x_ii_dic_bool, x_ii_dic_dict, x_finR, x_finN, x_finE, ofS_inj, List.getElem?_cons_zero, List.getElem?_cons_succ, List.set_cons_zero, List.set_cons_succ, List.length_cons, List.length_nil, Bool.not_true, Bool.not_false, decide_true, decide_false, String.reduceEq, Nat.reduceAdd, fI, fB, at0, at1, at2, at3, at4, at5, d1, d2, d3] using key f (hi f (by simp)) [b, c, e] (fun d hd => hi d (by simp at hd; rcases hd with rfl | rfl | rfl <;> simp)) (by simp) rfl (fun _ => rfl) rfl
        | _ :: _ :: _ :: _ :: _, hl, _, _ => simp at hl
      · have d3 : decide (r = 2) = false := decide_eq_false c2
        refine ⟨b :: rest, h1, ?_, hi, by simp; omega, pt⟩
        simp_arith [d1, d2, d3]
theorem kd_str {x : Str} (h : fitsB x.length && fitsB x.cps.toList.length = true) : Kd (.str x) := .str x h
def m_head : C := match m_law_parts with | m => m
theorem parts_ok (k : Nat) {h : List O} {n : Nat} (hp : PoolAt h n) : ∃ a rest h', callN tab (k + 5) "_law_parts" [.loc n] h = .ok (.lst (a :: rest)) h' ∧ Rw a rest ∧ PoolTo n h h' := by
  rw [call_at u_law_parts [some (.fz (.loc n)), none, none, none] rfl rfl]
  let kinds : List D := [.str "copy", .str "set", .str "call", .str "go", .str "either", .str "return", .str "Set", .str "sets", .non]
  obtain ⟨kd, h1, e1, hkd, p1⟩ := pick_ok draws (k + 2) hp (.lst kinds) kinds rfl (by decide) (by decide)
  obtain ⟨w1, h2, e2, hw1, p2⟩ := word_ok (k + 1) p1.at
  have fin1 : ∀ (rest : List D) (h3 : List O), Kd kd → (∀ d ∈ rest, It d) → rest.length ≤ 3 → PoolTo n h h3 → ∃ a rest' h', fin (m_tail (callN tab (k + 4)) ⟨[some (.fz (.loc n)), some (.fz kd), some (.lst (kd :: w1 :: rest)), none], h3⟩) = .ok (.lst (a :: rest')) h' ∧ Rw a rest' ∧ PoolTo n h h' := by
    intro rest h3 hk hi hl p3
    obtain ⟨rest', h', e, i', l', p'⟩ := tail_ok (k + 3) p3.at kd kd w1 rest none hk (fun d hd => by
      rcases List.mem_cons.mp hd with z | z
      · subst z; exact .word hw1
      · exact hi d z) hl
    exact ⟨kd, rest', h', e, ⟨hk, i', l'⟩, p3.trans p'⟩
  simp only [kinds, List.mem_cons, List.not_mem_nil, or_false] at hkd
  show ∃ a rest h', fin ((cSeq _ (cSeq _ (cSeq _ (cSeq _ m_tail)))) (callN tab (k + 4)) _) = _ ∧ _
  have a2 : ∀ a b c d : D, addB (.lst [a, b]) (.lst [c, d]) = some (.lst [a, b, c, d]) := fun _ _ _ _ => rfl
  obtain ⟨w2, h3, e3, hw2, p3⟩ := word_ok (k + 1) p2.at
  obtain ⟨ws, h4, e4, hws, lws, p4⟩ := words_ok k p3.at
  obtain ⟨vs, h5, e5, hvs, lvs, p5⟩ := words_ok k p4.at
  have i2 : ∀ d ∈ [w2], It d := fun d hd => by simp at hd; subst hd; exact .word hw2
  have i3 : ∀ d ∈ [w2, .tup ws], It d := fun d hd => by
    simp at hd
    rcases hd with rfl | rfl
    · exact .word hw2
    · exact .tup hws lws
  have i4 : ∀ d ∈ [w2, .tup ws, .tup vs], It d := fun d hd => by
    simp at hd
    rcases hd with rfl | rfl | rfl
    · exact .word hw2
    · exact .tup hws lws
    · exact .tup hvs lvs
  simp only [kinds] at e1
  rcases hkd with rfl | rfl | rfl | rfl | rfl | rfl | rfl | rfl | rfl
  · simp_arith [e1, e2, e3, in2, in4, in2N, in4N, Bool.or_false, Bool.or_true, Bool.true_or, Bool.false_or]
    exact fin1 [w2] h3 (kd_str rfl) i2 (by simp) ((p1.trans p2).trans p3)
  · simp_arith [e1, e2, e3, e4, in2, in4, in2N, in4N, Bool.or_false, Bool.or_true, Bool.true_or, Bool.false_or, a2]
    exact fin1 [w2, .tup ws] h4 (kd_str rfl) i3 (by simp) (((p1.trans p2).trans p3).trans p4)
  · simp_arith [e1, e2, e3, e4, e5, in2, in4, in2N, in4N, Bool.or_false, Bool.or_true, Bool.true_or, Bool.false_or, a2]
    exact fin1 [w2, .tup ws, .tup vs] h5 (kd_str rfl) i4 (by simp) ((((p1.trans p2).trans p3).trans p4).trans p5)
  · simp_arith [e1, e2, in2, in4, in2N, in4N, Bool.or_false, Bool.or_true, Bool.true_or, Bool.false_or]
    exact fin1 [] h2 (kd_str rfl) (by simp) (by simp) (p1.trans p2)
  · simp_arith [e1, e2, e3, in2, in4, in2N, in4N, Bool.or_false, Bool.or_true, Bool.true_or, Bool.false_or]
    exact fin1 [w2] h3 (kd_str rfl) i2 (by simp) ((p1.trans p2).trans p3)
  · simp_arith [e1, e2, in2, in4, in2N, in4N, Bool.or_false, Bool.or_true, Bool.true_or, Bool.false_or]
    exact fin1 [] h2 (kd_str rfl) (by simp) (by simp) (p1.trans p2)
  · simp_arith [e1, e2, e3, e4, in2, in4, in2N, in4N, Bool.or_false, Bool.or_true, Bool.true_or, Bool.false_or, a2]
    exact fin1 [w2, .tup ws] h4 (kd_str rfl) i3 (by simp) (((p1.trans p2).trans p3).trans p4)
  · simp_arith [e1, e2, e3, e4, in2, in4, in2N, in4N, Bool.or_false, Bool.or_true, Bool.true_or, Bool.false_or, a2]
    exact fin1 [w2, .tup ws] h4 (kd_str rfl) i3 (by simp) (((p1.trans p2).trans p3).trans p4)
  · simp_arith [e1, e2, in2, in4, in2N, in4N, Bool.or_false, Bool.or_true, Bool.true_or, Bool.false_or]
    exact fin1 [] h2 .non (by simp) (by simp) (p1.trans p2)
end K01

set_option Elab.async false
set_option linter.all false
set_option maxRecDepth 100000
set_option maxHeartbeats 8000000
namespace K01
open PySem PySem.Spec PyProof.Rows L2 Mi
theorem eq_refl' {n : Nat} {d : D} (h : gPn n d = true) (hn : n ≤ 60) : eqB d d = some true := by
  have gen : ∀ p, toP d = some p → gPn n d = true → ((toP d).bind fun p => (toP d).bind fun q => if SeqAt.shaped p && SeqAt.shaped q then some (PyData.eqv p q) else none) = some true := by
    intro p e h
    simp only [gPn, e, Bool.and_eq_true, decide_eq_true_eq] at h
    have hs : SeqAt.shaped p = true := by
      simp only [SeqAt.shaped, h.1.1, Bool.true_and, decide_eq_true_eq]; omega
    simp only [e, Option.bind_some, hs, Bool.and_self, if_true]
    rw [SeqAt.eqv_refl p h.1.1]
  have ht : ∃ p, toP d = some p := by
    unfold gPn at h
    split at h
    · exact ⟨_, by assumption⟩
    · cases h
  obtain ⟨p, e⟩ := ht
  have := gen p e h
  cases d with
  | str x => simp [eqB]
  | int x => simp [eqB]
  | non => rfl
  | _ => all_goals exact this
theorem ne_same {n : Nat} {d : D} (h : gPn n d = true) (hn : n ≤ 60) : neD d d = some (.fz (.bl false)) := by
  simp only [neD, eq_refl' h hn, Option.map_some, Bool.not_true]
theorem gP_tup {n : Nat} {l : List D} (h : ∀ d ∈ l, gPn n d = true) : gPn (n + 1) (.tup l) = true := by
  obtain ⟨ps, e, c, p, dp⟩ := gPs (n := n) l h
  have hd : PyData.depth (.tuple ps) = PyData.depthAll ps + 1 := by simp only [PyData.depth]
  simp only [gPn, toP, e, Option.map_some, PyData.canLay0, PyData.plain, c, p, Bool.true_and, decide_eq_true_eq, hd]
  omega
theorem ne4 (a b c d : Bool) : neD (.lst [.bl a, .bl b, .bl c, .bl d]) (.lst [.bl a, .bl b, .bl c, .bl d]) = some (.fz (.bl false)) := by
  cases a <;> cases b <;> cases c <;> cases d <;> rfl
theorem Rw.okU {a : D} {rest : List D} (h : Rw a rest) : okU (.tup (a :: rest)) = true := by
  simp only [K01.okU, Bool.and_eq_true, List.all_eq_true]
  refine ⟨by simp only [fitsB, decide_eq_true_eq, List.length_cons]; have := h.few; omega, fun d hd => ?_⟩
  rcases List.mem_cons.mp hd with z | z
  · subst z
    cases h.kd with
    | non => rfl
    | str x hx => simpa [okT, okD] using hx
  · exact (h.its d z).okT
theorem Rw.okM {a : D} {rest : List D} (h : Rw a rest) : okM (.tup (a :: rest)) = true := by
  have hu := h.okU
  match rest, h, hu with
  | [b, c, e, f], h, hu =>
    simp only [K01.okM, hu, Bool.true_and, Bool.or_eq_true, Bool.not_eq_true']
    cases hn : areNames f with
    | false => exact .inl rfl
    | true =>
      obtain ⟨ws, rfl⟩ := areNames_tup hn
      have := (tup_words (h.its (.tup ws) (by simp))).2
      exact .inr (by simp only [fewT, decide_eq_true_eq]; exact this)
  | [], h, hu => exact hu
  | [_], h, hu => exact hu
  | [_, _], h, hu => exact hu
  | [_, _, _], h, hu => exact hu
  | _ :: _ :: _ :: _ :: _ :: _, h, hu => exact hu
/-- what is read and set of a right row -/
theorem due_ok {a : D} {rest : List D} (h : Rw a rest) (hm : isMade (.tup (a :: rest)) = true) :
    (∃ b c, a = .str "copy" ∧ rest = [b, c] ∧ isName b = true ∧ isName c = true) ∨ (∃ x b c e r, a = .str x ∧ x ≠ "copy" ∧ rest = b :: c :: e :: r ∧ isName b = true ∧ It e) := by
  have row : ∀ (a : D) (rest : List D), (∀ d ∈ rest, It d) → isRow (.tup (a :: rest)) = true → (∃ b c, a = .str "copy" ∧ rest = [b, c] ∧ isName b = true ∧ isName c = true) ∨ (∃ b c e, a = .str "set" ∧ rest = [b, c, e] ∧ isName b = true ∧ It e) := by
    intro a rest hi hr
    match rest, hi, hr with
    | [b, c], hi, hr =>
      simp only [isRow, Bool.and_eq_true, decide_eq_true_eq] at hr
      refine .inl ⟨b, c, ?_, rfl, hr.2.1, hr.2.2⟩
      cases a <;> simp [first] at hr
      rw [hr.1]
    | [b, c, e], hi, hr =>
      simp only [isRow, Bool.and_eq_true, decide_eq_true_eq] at hr
      refine .inr ⟨b, c, e, ?_, rfl, hr.2.1, hi e (by simp)⟩
      cases a <;> simp [first] at hr
      rw [hr.1]
    | [], _, hr => cases hr
    | [_], _, hr => cases hr
    | _ :: _ :: _ :: _ :: _, _, hr => cases hr
  have fromRow : isRow (.tup (a :: rest)) = true → (∃ b c, a = .str "copy" ∧ rest = [b, c] ∧ isName b = true ∧ isName c = true) ∨ (∃ x b c e r, a = .str x ∧ x ≠ "copy" ∧ rest = b :: c :: e :: r ∧ isName b = true ∧ It e) := by
    intro hr
    rcases row a rest h.its hr with z | ⟨b, c, e, q1, q2, q3, q4⟩
    · exact .inl z
    · exact .inr ⟨"set", b, c, e, [], q1, by rw [ne_eq, ofS_inj]; decide, q2, q3, q4⟩
  have hk := h.kd
  cases hk with
  | non => exact fromRow (by rwa [isMade_other (by simp [first])] at hm)
  | str x hx =>
    by_cases hc : x = "call"
    · subst hc
      have h4 : rest.length = 4 := Classical.byContradiction fun hne => by rw [isMade_call hne] at hm; cases hm
      match rest, h4, h, hm with
      | [b, c, e, f], _, h, hm =>
        simp only [isMade, first, if_true, Bool.and_eq_true, isRow] at hm
        exact .inr ⟨"call", b, c, e, [f], rfl, by rw [ne_eq, ofS_inj]; decide, rfl, hm.1.2.1, h.its e (by simp)⟩
    · exact fromRow (by rwa [isMade_other (by simp only [first, ne_eq, Option.some.injEq]; exact hc)] at hm)
theorem isRow_lst {l : List D} : isRow (.lst l) = false := rfl
theorem W.it {d : D} (h : W d) : It d := .word h
/-- the slots of the law, ahead of a turn -/
def Sl (ns : List Int) (j : Int) (n : Nat) (s : S) : Prop := ∃ x3 x4 x5 x6 x7 x8, s.σ = [some (.fz (.scr ns)), some (.fz (.int j)), some (.fz (.loc n)), x3, x4, x5, x6, x7, x8] ∧ PoolAt s.h n
def m_turn : C := (cSeq (cMul (rCons (mCall "_law_word" (aCons (mVar 2) aNil)) (rCons (mCall "_law_parts" (aCons (mVar 2) aNil)) rNil)) [(gN 4), (gN 5)]) (cSeq (cAsg (mLst (aCons (mCall "is_name" (aCons (mVar 4) aNil)) (aCons (mCall "is_row" (aCons (mBlt tupleOfD (rCons (mVar 5) rNil)) aNil)) (aCons (mCall "is_made_row" (aCons (mBlt tupleOfD (rCons (mVar 5) rNil)) aNil)) (aCons (mCall "is_end" (aCons (mBlt tupleOfD (rCons (mVar 5) rNil)) aNil)) aNil))))) (gN 6)) (cSeq (cIf (bCmp (mTwo neD (mVar 6) (mLst (aCons (mCall "_law_is_name" (aCons (mVar 4) aNil)) (aCons (mCall "_law_is_row" (aCons (mVar 5) aNil)) (aCons (mCall "_law_is_made" (aCons (mVar 5) aNil)) (aCons (mCall "_law_is_end" (aCons (mVar 5) aNil)) aNil))))))) (cSeq (cRet (mCon (.bl false))) cNil) cNil) (cSeq (cIf (bOr (bVal (mCall "is_row" (aCons (mVar 5) aNil))) (bOr (bVal (mCall "is_made_row" (aCons (mVar 5) aNil))) (bVal (mCall "is_end" (aCons (mVar 5) aNil))))) (cSeq (cRet (mCon (.bl false))) cNil) cNil) (cSeq (cIf (bVal (mCall "_law_is_made" (aCons (mVar 5) aNil))) (cSeq (cAsg (mIf (bCmp (mTwo eqD (mTwo atD (mVar 5) (mCon (.int 0))) (mCon (.str "copy")))) (mTup (aCons (mTwo atD (mVar 5) (mCon (.int 2))) aNil)) (mTwo atD (mVar 5) (mCon (.int 3)))) (gN 7)) (cSeq (cIf (bOr (bCmp (mTwo neD (mCall "reads" (aCons (mBlt tupleOfD (rCons (mVar 5) rNil)) aNil)) (mVar 7))) (bCmp (mTwo neD (mCall "sets" (aCons (mBlt tupleOfD (rCons (mVar 5) rNil)) aNil)) (mTwo atD (mVar 5) (mCon (.int 1)))))) (cSeq (cRet (mCon (.bl false))) cNil) cNil) cNil)) cNil) cNil)))))
theorem turn_ok (k : Nat) {ns : List Int} {j : Int} {n : Nat} {s : S} (hs : Sl ns j n s) : ∃ s2, m_turn (callN tab (k + 6)) s = .nx s2 ∧ Sl ns j n s2 := by
  obtain ⟨σ, h⟩ := s
  obtain ⟨x3, x4, x5, x6, x7, x8, hσ, hp⟩ := hs
  simp only at hσ hp
  subst hσ
  obtain ⟨w, h1, e1, hw, p1⟩ := word_ok (k + 3) hp
  obtain ⟨a, rest, h2, e2, hr, p2⟩ := parts_ok (k + 1) p1.at
  have c1 := c_is_name (k + 5) w h2 hw.ok.1
  have c2 := c_is_row (k + 3) (.tup (a :: rest)) h2 hr.okU
  have c3 := c_is_made_row (k + 2) (.tup (a :: rest)) h2 hr.okM
  have c4 := c_is_end (k + 4) (.tup (a :: rest)) h2 hr.okU
  have c5 := c_law_is_name (k + 5) w h2 hw.ok.1 hw.it.lay
  have c6 := c_law_is_row (k + 4) a rest h2 hr
  have c7 := c_law_is_made (k + 3) a rest h2 hr
  have c8 := c_law_is_end (k + 4) a rest h2 hr
  have c9 : callN tab (k + 6) "is_row" [.lst (a :: rest)] h2 = .ok (.fz (.bl false)) h2 := c_is_row (k + 3) (.lst (a :: rest)) h2 rfl
  have c10 : callN tab (k + 6) "is_made_row" [.lst (a :: rest)] h2 = .ok (.fz (.bl false)) h2 := c_is_made_row (k + 2) (.lst (a :: rest)) h2 rfl
  have c11 : callN tab (k + 6) "is_end" [.lst (a :: rest)] h2 = .ok (.fz (.bl false)) h2 := c_is_end (k + 4) (.lst (a :: rest)) h2 rfl
  simp_arith [m_turn, e1, e2, c1, c2, c3, c4, c5, c6, c7, c8, ne4, c9, c10, c11]
  cases hm : isMade (.tup (a :: rest)) with
  | false =>
    simp_arith [x_seq]
    exact ⟨_, rfl, _, _, _, _, _, _, rfl, p2.at⟩
  | true =>
    rcases due_ok hr hm with ⟨b, c, rfl, rfl, nb, nc⟩ | ⟨x, b, c, e, r, rfl, hx, rfl, nb, ie⟩
    · obtain ⟨y, rfl⟩ := name_str nb
      obtain ⟨z, rfl⟩ := name_str nc
      have q1 := c_reads_copy (k + 5) (.str y) (.str z) h2
      have q2 := c_sets (k + 5) (.str "copy") (.str y) [.str z] h2
      have hg : gPn 3 (.tup [.str z]) = true := gP_tup (n := 2) fun d hd => by simp at hd; subst hd; exact (hr.its (.str z) (by simp)).gp
      simp_arith [q1, q2, ne_same hg (by decide)]
      exact ⟨_, rfl, _, _, _, _, _, _, rfl, p2.at⟩
    · obtain ⟨y, rfl⟩ := name_str nb
      have q1 := c_reads_else (k + 5) x (.str y) c e r hx h2
      have q2 := c_sets (k + 5) (.str x) (.str y) (c :: e :: r) h2
      simp_arith [hx, q1, q2, ne_same ie.gp (by decide), x_d_nl ie.nl]
      exact ⟨_, rfl, _, _, _, _, _, _, rfl, p2.at⟩
def odds : List D := [.non, .int 1, .tup [], .str "copy", .tup [.str "copy"], .dic [] [], .lst [.int 1]]
def m_odd : C := (cSeq (cIf (bOr (bVal (mCall "is_row" (aCons (mVar 8) aNil))) (bOr (bVal (mCall "is_made_row" (aCons (mVar 8) aNil))) (bVal (mCall "is_end" (aCons (mVar 8) aNil))))) (cSeq (cRet (mCon (.bl false))) cNil) cNil) cNil)
theorem odd_ok : ∀ d ∈ odds, okU d = true ∧ okM d = true ∧ isRow d = false ∧ isMade d = false ∧ isEnd d = false := by
  intro d hd
  simp only [odds, List.mem_cons, List.not_mem_nil, or_false] at hd
  rcases hd with rfl | rfl | rfl | rfl | rfl | rfl | rfl <;> exact ⟨rfl, rfl, rfl, rfl, rfl⟩
theorem odd_turn (k : Nat) {ns : List Int} {j : Int} {n : Nat} {s : S} (hs : Sl ns j n s) (d : D) (hd : d ∈ odds) : ∃ s1, gN 8 (.fz d) s = some s1 ∧ ∃ s2, m_odd (callN tab (k + 6)) s1 = .nx s2 ∧ Sl ns j n s2 := by
  obtain ⟨σ, h⟩ := s
  obtain ⟨x3, x4, x5, x6, x7, x8, hσ, hp⟩ := hs
  simp only at hσ hp
  subst hσ
  obtain ⟨o1, o2, r1, r2, r3⟩ := odd_ok d hd
  have c1 := c_is_row (k + 3) d h o1
  have c2 := c_is_made_row (k + 2) d h o2
  have c3 := c_is_end (k + 4) d h o1
  refine ⟨⟨[some (.fz (.scr ns)), some (.fz (.int j)), some (.fz (.loc n)), x3, x4, x5, x6, x7, some (.fz d)], h⟩, rfl, ?_⟩
  simp_arith [m_odd, c1, c2, c3, r1, r2, r3]
  exact ⟨_, rfl, _, _, _, _, _, _, rfl, hp⟩
theorem mem_range {m : Nat} {d : D} (h : d ∈ rangeD 0 m) : ∃ i : Nat, i < m ∧ d = .int i := by
  simp only [rangeD, List.mem_map, List.mem_range] at h
  obtain ⟨i, hi, rfl⟩ := h
  exact ⟨i, hi, by simp⟩
def m_body : C := (cSeq (cAsg (mCell (mCall "_law_pool" (aCons (mVar 0) (aCons (mVar 1) aNil)))) (gN 2)) (cSeq (cFor (iRg1 (rCons (mCon (.int 10)) rNil)) (gN 3) m_turn) (cSeq (cFor (iVal (mLst (aCons (mCon .non) (aCons (mCon (.int 1)) (aCons (mTup aNil) (aCons (mCon (.str "copy")) (aCons (mTup (aCons (mCon (.str "copy")) aNil)) (aCons mDic0 (aCons (mLst (aCons (mCon (.int 1)) aNil)) aNil))))))))) (gN 8) m_odd) cNil)))
def Sl0 (ns : List Int) (s : S) : Prop := ∃ x1 x2 x3 x4 x5 x6 x7 x8, s.σ = [some (.fz (.scr ns)), x1, x2, x3, x4, x5, x6, x7, x8]
theorem body_ok {ns : List Int} {s : S} (hs : Sl0 ns s) (i : Nat) (hi : i < 8) : ∃ s1, gN 1 (.fz (.int i)) s = some s1 ∧ ∃ s2, (m_body (callN tab 39) s1 = .nx s2 ∨ m_body (callN tab 39) s1 = .ct s2) ∧ Sl0 ns s2 := by
  obtain ⟨σ, h⟩ := s
  obtain ⟨x1, x2, x3, x4, x5, x6, x7, x8, hσ⟩ := hs
  simp only at hσ
  subst hσ
  refine ⟨⟨[some (.fz (.scr ns)), some (.fz (.int i)), x2, x3, x4, x5, x6, x7, x8], h⟩, rfl, ?_⟩
  obtain ⟨a, b, e, a0, b0, b1⟩ := pool_ok draws 38 ns (i := i) (by omega) (by omega) h
  have hp : PoolAt (h ++ [.lst [.int a, .int b]]) h.length := ⟨a, b, by simp, a0, b0, b1⟩
  have r10 : kRg2 ⟨[some (.fz (.scr ns)), some (.fz (.int i)), some (.fz (.loc h.length)), x3, x4, x5, x6, x7, x8], h ++ [.lst [.int a, .int b]]⟩ (some [.int 10]) = .ok (rangeD 0 10) ⟨[some (.fz (.scr ns)), some (.fz (.int i)), some (.fz (.loc h.length)), x3, x4, x5, x6, x7, x8], h ++ [.lst [.int a, .int b]]⟩ := x_rgK (by decide) (by decide)
  simp_arith [m_body, e, r10]
  obtain ⟨s', es, is⟩ := forL_inv (call := callN tab 39) (g := gN 3) (body := m_turn) (Sl ns i h.length) (rangeD 0 10) ⟨[some (.fz (.scr ns)), some (.fz (.int i)), some (.fz (.loc h.length)), x3, x4, x5, x6, x7, x8], h ++ [.lst [.int a, .int b]]⟩ ⟨_, _, _, _, _, _, rfl, hp⟩ (fun d _ s hs => by
    obtain ⟨σ, h⟩ := s
    obtain ⟨x3, x4, x5, x6, x7, x8, hσ, hp⟩ := hs
    simp only at hσ hp
    subst hσ
    obtain ⟨s2, e2, i2⟩ := turn_ok 33 (s := ⟨[some (.fz (.scr ns)), some (.fz (.int i)), _, some (.fz d), x4, x5, x6, x7, x8], h⟩) ⟨_, _, _, _, _, _, rfl, hp⟩
    exact ⟨_, rfl, s2, .inl e2, i2⟩)
  rw [es]
  obtain ⟨σ, h3⟩ := s'
  obtain ⟨x3, x4, x5, x6, x7, x8, hσ, hp⟩ := is
  simp only at hσ hp
  subst hσ
  simp_arith [x_seq]
  obtain ⟨s', es, is⟩ := forL_inv (call := callN tab 39) (g := gN 8) (body := m_odd) (Sl ns i h.length) odds ⟨[some (.fz (.scr ns)), some (.fz (.int i)), some (.fz (.loc h.length)), x3, x4, x5, x6, x7, x8], h3⟩ ⟨_, _, _, _, _, _, rfl, hp⟩ (fun d hd s hs => by
    obtain ⟨s1, e1, s2, e2, i2⟩ := odd_turn 33 hs d hd
    exact ⟨s1, e1, s2, .inl e2, i2⟩)
  simp only [odds] at es
  rw [es]
  obtain ⟨σ, h3⟩ := s'
  obtain ⟨x3, x4, x5, x6, x7, x8, hσ, hp⟩ := is
  simp only at hσ hp
  subst hσ
  simp_arith [x_seq]
  exact ⟨_, .inl rfl, _, _, _, _, _, _, _, _, rfl⟩
theorem law_true (ns : List Int) (hl : ns.length ≤ 63) : ∃ h', callN tab 40 "law" [.scr ns] [] = .ok (.fz (.bl true)) h' := by
  rw [call_at u_law [some (.fz (.scr ns)), none, none, none, none, none, none, none, none] rfl rfl]
  show ∃ h', fin ((cSeq (cFor (iRg1 _) (gN 1) m_body) (cSeq (cRet (mCon (.bl true))) cNil)) (callN tab 39) _) = _
  simp_arith [List.length_map]
  generalize hm : (if (1 : Int) < (if (8 : Int) < (ns.length : Int) then 8 else (ns.length : Int)) then (if (8 : Int) < (ns.length : Int) then 8 else (ns.length : Int)) else 1) = m
  have m0 : 0 ≤ m := by rw [← hm]; split <;> (try split) <;> omega
  have m1 : m ≤ 8 := by rw [← hm]; split <;> (try split) <;> omega
  rw [x_rgK m0 (show m < 100000 by omega)]
  obtain ⟨s', es, is⟩ := forL_inv (call := callN tab 39) (g := gN 1) (body := m_body) (Sl0 ns) (rangeD 0 m.toNat) ⟨[some (.fz (.scr ns)), none, none, none, none, none, none, none, none], []⟩ ⟨_, _, _, _, _, _, _, _, rfl⟩ (fun d hd s hs => by
    obtain ⟨i, hi, rfl⟩ := mem_range hd
    exact body_ok hs i (by omega))
  simp_arith [x_seq]
  rw [es]
  obtain ⟨σ, h3⟩ := s'
  simp_arith [x_seq]
  exact ⟨_, rfl⟩
end K01

set_option Elab.async false
set_option linter.all false
set_option maxRecDepth 100000
set_option maxHeartbeats 4000000
namespace K01
open PySem PySem.Spec PyProof.Rows L2 Mi
theorem all_mk {l : PySem.W.OpenLaw} {w : World} {K : PySem.W.Frag} {h : Heap} {mg : Str → Option Value} {fa : Addr} {a0 a1 a2 a3 a4 a5 a6 a7 a8 a9 a10 a11 a12 a13 a14 a15 a16 a17 a18 a19 : Addr} (X : K.In h) (G : h.Ns mainGlobals mg) (hfa : mg "law" = some (.ref fa))
    {od0 an0 : Option Addr} {sl0 : Array (Option Value)} {oc0 kV0 dc0 pm0 cd0 ct0 : Value}
    (q0 : PySem.W.nsIn K mainGlobals "is_name" = some (some (.ref a0))) (l0 : K.lookup a0 = some ⟨oc0, od0, .func (PySem.W.fnOf "is_name" "is_name" (defArgs (topS 4)) (defBody (topS 4)) (defScope (topS 4)) .none kV0 dc0 pm0 an0 cd0 ct0), sl0⟩) (c0 : PySem.W.codeIn K cd0 "is_name" = true) (k0 : PySem.W.keepIn K (.ref a0) = true)
    {od1 an1 : Option Addr} {sl1 : Array (Option Value)} {oc1 kV1 dc1 pm1 cd1 ct1 : Value}
    (q1 : PySem.W.nsIn K mainGlobals "are_unlike" = some (some (.ref a1))) (l1 : K.lookup a1 = some ⟨oc1, od1, .func (PySem.W.fnOf "are_unlike" "are_unlike" (defArgs (topS 5)) (defBody (topS 5)) (defScope (topS 5)) .none kV1 dc1 pm1 an1 cd1 ct1), sl1⟩) (c1 : PySem.W.codeIn K cd1 "are_unlike" = true) (k1 : PySem.W.keepIn K (.ref a1) = true)
    {od2 an2 : Option Addr} {sl2 : Array (Option Value)} {oc2 kV2 dc2 pm2 cd2 ct2 : Value}
    (q2 : PySem.W.nsIn K mainGlobals "are_names" = some (some (.ref a2))) (l2 : K.lookup a2 = some ⟨oc2, od2, .func (PySem.W.fnOf "are_names" "are_names" (defArgs (topS 6)) (defBody (topS 6)) (defScope (topS 6)) .none kV2 dc2 pm2 an2 cd2 ct2), sl2⟩) (c2 : PySem.W.codeIn K cd2 "are_names" = true) (k2 : PySem.W.keepIn K (.ref a2) = true)
    {od3 an3 : Option Addr} {sl3 : Array (Option Value)} {oc3 kV3 dc3 pm3 cd3 ct3 : Value}
    (q3 : PySem.W.nsIn K mainGlobals "has_kind" = some (some (.ref a3))) (l3 : K.lookup a3 = some ⟨oc3, od3, .func (PySem.W.fnOf "has_kind" "has_kind" (defArgs (topS 7)) (defBody (topS 7)) (defScope (topS 7)) .none kV3 dc3 pm3 an3 cd3 ct3), sl3⟩) (c3 : PySem.W.codeIn K cd3 "has_kind" = true) (k3 : PySem.W.keepIn K (.ref a3) = true)
    {od4 an4 : Option Addr} {sl4 : Array (Option Value)} {oc4 kV4 dc4 pm4 cd4 ct4 : Value}
    (q4 : PySem.W.nsIn K mainGlobals "is_row" = some (some (.ref a4))) (l4 : K.lookup a4 = some ⟨oc4, od4, .func (PySem.W.fnOf "is_row" "is_row" (defArgs (topS 8)) (defBody (topS 8)) (defScope (topS 8)) .none kV4 dc4 pm4 an4 cd4 ct4), sl4⟩) (c4 : PySem.W.codeIn K cd4 "is_row" = true) (k4 : PySem.W.keepIn K (.ref a4) = true)
    {od5 an5 : Option Addr} {sl5 : Array (Option Value)} {oc5 kV5 dc5 pm5 cd5 ct5 : Value}
    (q5 : PySem.W.nsIn K mainGlobals "is_made_row" = some (some (.ref a5))) (l5 : K.lookup a5 = some ⟨oc5, od5, .func (PySem.W.fnOf "is_made_row" "is_made_row" (defArgs (topS 9)) (defBody (topS 9)) (defScope (topS 9)) .none kV5 dc5 pm5 an5 cd5 ct5), sl5⟩) (c5 : PySem.W.codeIn K cd5 "is_made_row" = true) (k5 : PySem.W.keepIn K (.ref a5) = true)
    {od6 an6 : Option Addr} {sl6 : Array (Option Value)} {oc6 kV6 dc6 pm6 cd6 ct6 : Value}
    (q6 : PySem.W.nsIn K mainGlobals "is_end" = some (some (.ref a6))) (l6 : K.lookup a6 = some ⟨oc6, od6, .func (PySem.W.fnOf "is_end" "is_end" (defArgs (topS 10)) (defBody (topS 10)) (defScope (topS 10)) .none kV6 dc6 pm6 an6 cd6 ct6), sl6⟩) (c6 : PySem.W.codeIn K cd6 "is_end" = true) (k6 : PySem.W.keepIn K (.ref a6) = true)
    {od7 an7 : Option Addr} {sl7 : Array (Option Value)} {oc7 kV7 dc7 pm7 cd7 ct7 : Value}
    (q7 : PySem.W.nsIn K mainGlobals "reads" = some (some (.ref a7))) (l7 : K.lookup a7 = some ⟨oc7, od7, .func (PySem.W.fnOf "reads" "reads" (defArgs (topS 11)) (defBody (topS 11)) (defScope (topS 11)) .none kV7 dc7 pm7 an7 cd7 ct7), sl7⟩) (c7 : PySem.W.codeIn K cd7 "reads" = true) (k7 : PySem.W.keepIn K (.ref a7) = true)
    {od8 an8 : Option Addr} {sl8 : Array (Option Value)} {oc8 kV8 dc8 pm8 cd8 ct8 : Value}
    (q8 : PySem.W.nsIn K mainGlobals "sets" = some (some (.ref a8))) (l8 : K.lookup a8 = some ⟨oc8, od8, .func (PySem.W.fnOf "sets" "sets" (defArgs (topS 12)) (defBody (topS 12)) (defScope (topS 12)) .none kV8 dc8 pm8 an8 cd8 ct8), sl8⟩) (c8 : PySem.W.codeIn K cd8 "sets" = true) (k8 : PySem.W.keepIn K (.ref a8) = true)
    {od9 an9 : Option Addr} {sl9 : Array (Option Value)} {oc9 kV9 dc9 pm9 cd9 ct9 : Value}
    (q9 : PySem.W.nsIn K mainGlobals "_law_pool" = some (some (.ref a9))) (l9 : K.lookup a9 = some ⟨oc9, od9, .func (PySem.W.fnOf "_law_pool" "_law_pool" (defArgs (topS 14)) (defBody (topS 14)) (defScope (topS 14)) .none kV9 dc9 pm9 an9 cd9 ct9), sl9⟩) (c9 : PySem.W.codeIn K cd9 "_law_pool" = true) (k9 : PySem.W.keepIn K (.ref a9) = true)
    {od10 an10 : Option Addr} {sl10 : Array (Option Value)} {oc10 kV10 dc10 pm10 cd10 ct10 : Value}
    (q10 : PySem.W.nsIn K mainGlobals "_law_draw" = some (some (.ref a10))) (l10 : K.lookup a10 = some ⟨oc10, od10, .func (PySem.W.fnOf "_law_draw" "_law_draw" (defArgs (topS 15)) (defBody (topS 15)) (defScope (topS 15)) .none kV10 dc10 pm10 an10 cd10 ct10), sl10⟩) (c10 : PySem.W.codeIn K cd10 "_law_draw" = true) (k10 : PySem.W.keepIn K (.ref a10) = true)
    {od11 an11 : Option Addr} {sl11 : Array (Option Value)} {oc11 kV11 dc11 pm11 cd11 ct11 : Value}
    (q11 : PySem.W.nsIn K mainGlobals "_law_pick" = some (some (.ref a11))) (l11 : K.lookup a11 = some ⟨oc11, od11, .func (PySem.W.fnOf "_law_pick" "_law_pick" (defArgs (topS 16)) (defBody (topS 16)) (defScope (topS 16)) .none kV11 dc11 pm11 an11 cd11 ct11), sl11⟩) (c11 : PySem.W.codeIn K cd11 "_law_pick" = true) (k11 : PySem.W.keepIn K (.ref a11) = true)
    {od12 an12 : Option Addr} {sl12 : Array (Option Value)} {oc12 kV12 dc12 pm12 cd12 ct12 : Value}
    (q12 : PySem.W.nsIn K mainGlobals "_law_is_name" = some (some (.ref a12))) (l12 : K.lookup a12 = some ⟨oc12, od12, .func (PySem.W.fnOf "_law_is_name" "_law_is_name" (defArgs (topS 17)) (defBody (topS 17)) (defScope (topS 17)) .none kV12 dc12 pm12 an12 cd12 ct12), sl12⟩) (c12 : PySem.W.codeIn K cd12 "_law_is_name" = true) (k12 : PySem.W.keepIn K (.ref a12) = true)
    {od13 an13 : Option Addr} {sl13 : Array (Option Value)} {oc13 kV13 dc13 pm13 cd13 ct13 : Value}
    (q13 : PySem.W.nsIn K mainGlobals "_law_word" = some (some (.ref a13))) (l13 : K.lookup a13 = some ⟨oc13, od13, .func (PySem.W.fnOf "_law_word" "_law_word" (defArgs (topS 18)) (defBody (topS 18)) (defScope (topS 18)) .none kV13 dc13 pm13 an13 cd13 ct13), sl13⟩) (c13 : PySem.W.codeIn K cd13 "_law_word" = true) (k13 : PySem.W.keepIn K (.ref a13) = true)
    {od14 an14 : Option Addr} {sl14 : Array (Option Value)} {oc14 kV14 dc14 pm14 cd14 ct14 : Value}
    (q14 : PySem.W.nsIn K mainGlobals "_law_words" = some (some (.ref a14))) (l14 : K.lookup a14 = some ⟨oc14, od14, .func (PySem.W.fnOf "_law_words" "_law_words" (defArgs (topS 19)) (defBody (topS 19)) (defScope (topS 19)) .none kV14 dc14 pm14 an14 cd14 ct14), sl14⟩) (c14 : PySem.W.codeIn K cd14 "_law_words" = true) (k14 : PySem.W.keepIn K (.ref a14) = true)
    {od15 an15 : Option Addr} {sl15 : Array (Option Value)} {oc15 kV15 dc15 pm15 cd15 ct15 : Value}
    (q15 : PySem.W.nsIn K mainGlobals "_law_parts" = some (some (.ref a15))) (l15 : K.lookup a15 = some ⟨oc15, od15, .func (PySem.W.fnOf "_law_parts" "_law_parts" (defArgs (topS 20)) (defBody (topS 20)) (defScope (topS 20)) .none kV15 dc15 pm15 an15 cd15 ct15), sl15⟩) (c15 : PySem.W.codeIn K cd15 "_law_parts" = true) (k15 : PySem.W.keepIn K (.ref a15) = true)
    {od16 an16 : Option Addr} {sl16 : Array (Option Value)} {oc16 kV16 dc16 pm16 cd16 ct16 : Value}
    (q16 : PySem.W.nsIn K mainGlobals "_law_is_row" = some (some (.ref a16))) (l16 : K.lookup a16 = some ⟨oc16, od16, .func (PySem.W.fnOf "_law_is_row" "_law_is_row" (defArgs (topS 21)) (defBody (topS 21)) (defScope (topS 21)) .none kV16 dc16 pm16 an16 cd16 ct16), sl16⟩) (c16 : PySem.W.codeIn K cd16 "_law_is_row" = true) (k16 : PySem.W.keepIn K (.ref a16) = true)
    {od17 an17 : Option Addr} {sl17 : Array (Option Value)} {oc17 kV17 dc17 pm17 cd17 ct17 : Value}
    (q17 : PySem.W.nsIn K mainGlobals "_law_is_made" = some (some (.ref a17))) (l17 : K.lookup a17 = some ⟨oc17, od17, .func (PySem.W.fnOf "_law_is_made" "_law_is_made" (defArgs (topS 22)) (defBody (topS 22)) (defScope (topS 22)) .none kV17 dc17 pm17 an17 cd17 ct17), sl17⟩) (c17 : PySem.W.codeIn K cd17 "_law_is_made" = true) (k17 : PySem.W.keepIn K (.ref a17) = true)
    {od18 an18 : Option Addr} {sl18 : Array (Option Value)} {oc18 kV18 dc18 pm18 cd18 ct18 : Value}
    (q18 : PySem.W.nsIn K mainGlobals "_law_is_end" = some (some (.ref a18))) (l18 : K.lookup a18 = some ⟨oc18, od18, .func (PySem.W.fnOf "_law_is_end" "_law_is_end" (defArgs (topS 23)) (defBody (topS 23)) (defScope (topS 23)) .none kV18 dc18 pm18 an18 cd18 ct18), sl18⟩) (c18 : PySem.W.codeIn K cd18 "_law_is_end" = true) (k18 : PySem.W.keepIn K (.ref a18) = true)
    {od19 an19 : Option Addr} {sl19 : Array (Option Value)} {oc19 kV19 dc19 pm19 cd19 ct19 : Value}
    (q19 : PySem.W.nsIn K mainGlobals "law" = some (some (.ref a19))) (l19 : K.lookup a19 = some ⟨oc19, od19, .func (PySem.W.fnOf "law" "law" (defArgs (topS 24)) (defBody (topS 24)) (defScope (topS 24)) .none kV19 dc19 pm19 an19 cd19 ct19), sl19⟩) (c19 : PySem.W.codeIn K cd19 "law" = true) (k19 : PySem.W.keepIn K (.ref a19) = true)
    {t0 : Tok} (v0 : PySem.W.nsIn K mainGlobals "LETTERS" = some (some (.str "abcdefghijklmnopqrstuvwxyz" t0)))
    {t1 : Tok} (v1 : PySem.W.nsIn K mainGlobals "MOST_LETTERS" = some (some (.int 8 t1)))
    {t2 : Tok} (v2 : PySem.W.nsIn K mainGlobals "MOST_OPERANDS" = some (some (.int 2 t2)))
    (z0 : PySem.W.nsIn K mainGlobals "len" = some none)
    (z1 : PySem.W.nsIn K mainGlobals "isinstance" = some none)
    (z2 : PySem.W.nsIn K mainGlobals "all" = some none)
    (z3 : PySem.W.nsIn K mainGlobals "any" = some none)
    (z4 : PySem.W.nsIn K mainGlobals "enumerate" = some none)
    (z5 : PySem.W.nsIn K mainGlobals "range" = some none)
    (z6 : PySem.W.nsIn K mainGlobals "max" = some none)
    (z7 : PySem.W.nsIn K mainGlobals "min" = some none)
    (z8 : PySem.W.nsIn K mainGlobals "sum" = some none)
    (z9 : PySem.W.nsIn K mainGlobals "abs" = some none)
    (z10 : PySem.W.nsIn K mainGlobals "int" = some none)
    (z11 : PySem.W.nsIn K mainGlobals "str" = some none)
    (z12 : PySem.W.nsIn K mainGlobals "tuple" = some none)
    (z13 : PySem.W.nsIn K mainGlobals "list" = some none)
    (z14 : PySem.W.nsIn K mainGlobals "dict" = some none)
    (z15 : PySem.W.nsIn K mainGlobals "sorted" = some none)
    (z16 : PySem.W.nsIn K mainGlobals "repr" = some none)
    (z17 : PySem.W.nsIn K mainGlobals "zip" = some none)
    (z18 : PySem.W.nsIn K mainGlobals "set" = some none)
    (z19 : PySem.W.nsIn K mainGlobals "bool" = some none)
    (z20 : PySem.W.nsIn K mainGlobals "ValueError" = some none)
    (z21 : PySem.W.nsIn K mainGlobals "KeyError" = some none)
    (z22 : PySem.W.nsIn K mainGlobals "RuntimeError" = some none)
    (z23 : PySem.W.nsIn K mainGlobals "OverflowError" = some none)
    (z24 : PySem.W.nsIn K mainGlobals "TypeError" = some none)
    (z25 : PySem.W.nsIn K mainGlobals "iter" = some none)
    (z26 : PySem.W.nsIn K mainGlobals "reversed" = some none)
    : ∃ fd : FuncData, (∀ (s : Shared) (v : Value), BindsTo s fd ⟨[v], []⟩ [("_law_script", v)]) ∧ ∀ base : Heap, K.In base → base.Ns mainGlobals mg → FnOk l.prog w K mg base (L2.CX l.prog w) 40 fa fd ["_law_script"] (spL K true (callN tab 40)) := by
  have e0 := hfa.symm.trans (PySem.W.mg_of X G q19)
  cases e0
  let GG : GE := ⟨K, fun _ => none, fun x => ([("is_name", a0), ("are_unlike", a1), ("are_names", a2), ("has_kind", a3), ("is_row", a4), ("is_made_row", a5), ("is_end", a6), ("reads", a7), ("sets", a8), ("_law_pool", a9), ("_law_draw", a10), ("_law_pick", a11), ("_law_is_name", a12), ("_law_word", a13), ("_law_words", a14), ("_law_parts", a15), ("_law_is_row", a16), ("_law_is_made", a17), ("_law_is_end", a18), ("law", fa)] : List (Str × Addr)).lookup x, fun _ => none, true⟩
  have F0 := fun_mk (st := topS 4) l0 c0 k0
  have b0 := F0.binds (ps := mkP (topS 4)) fun _ _ _ _ _ _ us hl => match us, hl with | [_], _ => rfl
  have r0 : Row GG mg tab con names cells "is_name" := row_mk (G := GG) F0 (by decide +kernel) b0 (by kernel_rfl) (PySem.W.mg_of X G q0) (by rw [u_is_name, n_is_name]; rfl) (by decide +kernel) t_is_name
  have F1 := fun_mk (st := topS 5) l1 c1 k1
  have b1 := F1.binds (ps := mkP (topS 5)) fun _ _ _ _ _ _ us hl => match us, hl with | [_], _ => rfl
  have r1 : Row GG mg tab con names cells "are_unlike" := row_mk (G := GG) F1 (by decide +kernel) b1 (by kernel_rfl) (PySem.W.mg_of X G q1) (by rw [u_are_unlike, n_are_unlike]; rfl) (by decide +kernel) t_are_unlike
  have F2 := fun_mk (st := topS 6) l2 c2 k2
  have b2 := F2.binds (ps := mkP (topS 6)) fun _ _ _ _ _ _ us hl => match us, hl with | [_], _ => rfl
  have r2 : Row GG mg tab con names cells "are_names" := row_mk (G := GG) F2 (by decide +kernel) b2 (by kernel_rfl) (PySem.W.mg_of X G q2) (by rw [u_are_names, n_are_names]; rfl) (by decide +kernel) t_are_names
  have F3 := fun_mk (st := topS 7) l3 c3 k3
  have b3 := F3.binds (ps := mkP (topS 7)) fun _ _ _ _ _ _ us hl => match us, hl with | [_, _, _], _ => rfl
  have r3 : Row GG mg tab con names cells "has_kind" := row_mk (G := GG) F3 (by decide +kernel) b3 (by kernel_rfl) (PySem.W.mg_of X G q3) (by rw [u_has_kind, n_has_kind]; rfl) (by decide +kernel) t_has_kind
  have F4 := fun_mk (st := topS 8) l4 c4 k4
  have b4 := F4.binds (ps := mkP (topS 8)) fun _ _ _ _ _ _ us hl => match us, hl with | [_], _ => rfl
  have r4 : Row GG mg tab con names cells "is_row" := row_mk (G := GG) F4 (by decide +kernel) b4 (by kernel_rfl) (PySem.W.mg_of X G q4) (by rw [u_is_row, n_is_row]; rfl) (by decide +kernel) t_is_row
  have F5 := fun_mk (st := topS 9) l5 c5 k5
  have b5 := F5.binds (ps := mkP (topS 9)) fun _ _ _ _ _ _ us hl => match us, hl with | [_], _ => rfl
  have r5 : Row GG mg tab con names cells "is_made_row" := row_mk (G := GG) F5 (by decide +kernel) b5 (by kernel_rfl) (PySem.W.mg_of X G q5) (by rw [u_is_made_row, n_is_made_row]; rfl) (by decide +kernel) t_is_made_row
  have F6 := fun_mk (st := topS 10) l6 c6 k6
  have b6 := F6.binds (ps := mkP (topS 10)) fun _ _ _ _ _ _ us hl => match us, hl with | [_], _ => rfl
  have r6 : Row GG mg tab con names cells "is_end" := row_mk (G := GG) F6 (by decide +kernel) b6 (by kernel_rfl) (PySem.W.mg_of X G q6) (by rw [u_is_end, n_is_end]; rfl) (by decide +kernel) t_is_end
  have F7 := fun_mk (st := topS 11) l7 c7 k7
  have b7 := F7.binds (ps := mkP (topS 11)) fun _ _ _ _ _ _ us hl => match us, hl with | [_], _ => rfl
  have r7 : Row GG mg tab con names cells "reads" := row_mk (G := GG) F7 (by decide +kernel) b7 (by kernel_rfl) (PySem.W.mg_of X G q7) (by rw [u_reads, n_reads]; rfl) (by decide +kernel) t_reads
  have F8 := fun_mk (st := topS 12) l8 c8 k8
  have b8 := F8.binds (ps := mkP (topS 12)) fun _ _ _ _ _ _ us hl => match us, hl with | [_], _ => rfl
  have r8 : Row GG mg tab con names cells "sets" := row_mk (G := GG) F8 (by decide +kernel) b8 (by kernel_rfl) (PySem.W.mg_of X G q8) (by rw [u_sets, n_sets]; rfl) (by decide +kernel) t_sets
  have F9 := fun_mk (st := topS 14) l9 c9 k9
  have b9 := F9.binds (ps := mkP (topS 14)) fun _ _ _ _ _ _ us hl => match us, hl with | [_, _], _ => rfl
  have r9 : Row GG mg tab con names cells "_law_pool" := row_mk (G := GG) F9 (by decide +kernel) b9 (by kernel_rfl) (PySem.W.mg_of X G q9) (by rw [u_law_pool, n_law_pool]; rfl) (by decide +kernel) t_law_pool
  have F10 := fun_mk (st := topS 15) l10 c10 k10
  have b10 := F10.binds (ps := mkP (topS 15)) fun _ _ _ _ _ _ us hl => match us, hl with | [_, _], _ => rfl
  have r10 : Row GG mg tab con names cells "_law_draw" := row_mk (G := GG) F10 (by decide +kernel) b10 (by kernel_rfl) (PySem.W.mg_of X G q10) (by rw [u_law_draw, n_law_draw]; rfl) (by decide +kernel) t_law_draw
  have F11 := fun_mk (st := topS 16) l11 c11 k11
  have b11 := F11.binds (ps := mkP (topS 16)) fun _ _ _ _ _ _ us hl => match us, hl with | [_, _], _ => rfl
  have r11 : Row GG mg tab con names cells "_law_pick" := row_mk (G := GG) F11 (by decide +kernel) b11 (by kernel_rfl) (PySem.W.mg_of X G q11) (by rw [u_law_pick, n_law_pick]; rfl) (by decide +kernel) t_law_pick
  have F12 := fun_mk (st := topS 17) l12 c12 k12
  have b12 := F12.binds (ps := mkP (topS 17)) fun _ _ _ _ _ _ us hl => match us, hl with | [_], _ => rfl
  have r12 : Row GG mg tab con names cells "_law_is_name" := row_mk (G := GG) F12 (by decide +kernel) b12 (by kernel_rfl) (PySem.W.mg_of X G q12) (by rw [u_law_is_name, n_law_is_name]; rfl) (by decide +kernel) t_law_is_name
  have F13 := fun_mk (st := topS 18) l13 c13 k13
  have b13 := F13.binds (ps := mkP (topS 18)) fun _ _ _ _ _ _ us hl => match us, hl with | [_], _ => rfl
  have r13 : Row GG mg tab con names cells "_law_word" := row_mk (G := GG) F13 (by decide +kernel) b13 (by kernel_rfl) (PySem.W.mg_of X G q13) (by rw [u_law_word, n_law_word]; rfl) (by decide +kernel) t_law_word
  have F14 := fun_mk (st := topS 19) l14 c14 k14
  have b14 := F14.binds (ps := mkP (topS 19)) fun _ _ _ _ _ _ us hl => match us, hl with | [_, _], _ => rfl
  have r14 : Row GG mg tab con names cells "_law_words" := row_mk (G := GG) F14 (by decide +kernel) b14 (by kernel_rfl) (PySem.W.mg_of X G q14) (by rw [u_law_words, n_law_words]; rfl) (by decide +kernel) t_law_words
  have F15 := fun_mk (st := topS 20) l15 c15 k15
  have b15 := F15.binds (ps := mkP (topS 20)) fun _ _ _ _ _ _ us hl => match us, hl with | [_], _ => rfl
  have r15 : Row GG mg tab con names cells "_law_parts" := row_mk (G := GG) F15 (by decide +kernel) b15 (by kernel_rfl) (PySem.W.mg_of X G q15) (by rw [u_law_parts, n_law_parts]; rfl) (by decide +kernel) t_law_parts
  have F16 := fun_mk (st := topS 21) l16 c16 k16
  have b16 := F16.binds (ps := mkP (topS 21)) fun _ _ _ _ _ _ us hl => match us, hl with | [_], _ => rfl
  have r16 : Row GG mg tab con names cells "_law_is_row" := row_mk (G := GG) F16 (by decide +kernel) b16 (by kernel_rfl) (PySem.W.mg_of X G q16) (by rw [u_law_is_row, n_law_is_row]; rfl) (by decide +kernel) t_law_is_row
  have F17 := fun_mk (st := topS 22) l17 c17 k17
  have b17 := F17.binds (ps := mkP (topS 22)) fun _ _ _ _ _ _ us hl => match us, hl with | [_], _ => rfl
  have r17 : Row GG mg tab con names cells "_law_is_made" := row_mk (G := GG) F17 (by decide +kernel) b17 (by kernel_rfl) (PySem.W.mg_of X G q17) (by rw [u_law_is_made, n_law_is_made]; rfl) (by decide +kernel) t_law_is_made
  have F18 := fun_mk (st := topS 23) l18 c18 k18
  have b18 := F18.binds (ps := mkP (topS 23)) fun _ _ _ _ _ _ us hl => match us, hl with | [_], _ => rfl
  have r18 : Row GG mg tab con names cells "_law_is_end" := row_mk (G := GG) F18 (by decide +kernel) b18 (by kernel_rfl) (PySem.W.mg_of X G q18) (by rw [u_law_is_end, n_law_is_end]; rfl) (by decide +kernel) t_law_is_end
  have F19 := fun_mk (st := topS 24) l19 c19 k19
  have b19 := F19.binds (ps := mkP (topS 24)) fun _ _ _ _ _ _ us hl => match us, hl with | [_], _ => rfl
  have r19 : Row GG mg tab con names cells "law" := row_mk (G := GG) F19 (by decide +kernel) b19 (by kernel_rfl) (PySem.W.mg_of X G q19) (by rw [u_law, n_law]; rfl) (by decide +kernel) t_law
  have rows : ∀ f ∈ names, Row GG mg tab con names cells f := List.forall_mem_cons.mpr ⟨r0, List.forall_mem_cons.mpr ⟨r1, List.forall_mem_cons.mpr ⟨r2, List.forall_mem_cons.mpr ⟨r3, List.forall_mem_cons.mpr ⟨r4, List.forall_mem_cons.mpr ⟨r5, List.forall_mem_cons.mpr ⟨r6, List.forall_mem_cons.mpr ⟨r7, List.forall_mem_cons.mpr ⟨r8, List.forall_mem_cons.mpr ⟨r9, List.forall_mem_cons.mpr ⟨r10, List.forall_mem_cons.mpr ⟨r11, List.forall_mem_cons.mpr ⟨r12, List.forall_mem_cons.mpr ⟨r13, List.forall_mem_cons.mpr ⟨r14, List.forall_mem_cons.mpr ⟨r15, List.forall_mem_cons.mpr ⟨r16, List.forall_mem_cons.mpr ⟨r17, List.forall_mem_cons.mpr ⟨r18, List.forall_mem_cons.mpr ⟨r19, fun _ h => nomatch h⟩⟩⟩⟩⟩⟩⟩⟩⟩⟩⟩⟩⟩⟩⟩⟩⟩⟩⟩⟩
  have hb : ∀ x ∈ blts, mg x = none := List.forall_mem_cons.mpr ⟨PySem.W.mg_none_of X G z0, List.forall_mem_cons.mpr ⟨PySem.W.mg_none_of X G z1, List.forall_mem_cons.mpr ⟨PySem.W.mg_none_of X G z2, List.forall_mem_cons.mpr ⟨PySem.W.mg_none_of X G z3, List.forall_mem_cons.mpr ⟨PySem.W.mg_none_of X G z4, List.forall_mem_cons.mpr ⟨PySem.W.mg_none_of X G z5, List.forall_mem_cons.mpr ⟨PySem.W.mg_none_of X G z6, List.forall_mem_cons.mpr ⟨PySem.W.mg_none_of X G z7, List.forall_mem_cons.mpr ⟨PySem.W.mg_none_of X G z8, List.forall_mem_cons.mpr ⟨PySem.W.mg_none_of X G z9, List.forall_mem_cons.mpr ⟨PySem.W.mg_none_of X G z10, List.forall_mem_cons.mpr ⟨PySem.W.mg_none_of X G z11, List.forall_mem_cons.mpr ⟨PySem.W.mg_none_of X G z12, List.forall_mem_cons.mpr ⟨PySem.W.mg_none_of X G z13, List.forall_mem_cons.mpr ⟨PySem.W.mg_none_of X G z14, List.forall_mem_cons.mpr ⟨PySem.W.mg_none_of X G z15, List.forall_mem_cons.mpr ⟨PySem.W.mg_none_of X G z16, List.forall_mem_cons.mpr ⟨PySem.W.mg_none_of X G z17, List.forall_mem_cons.mpr ⟨PySem.W.mg_none_of X G z18, List.forall_mem_cons.mpr ⟨PySem.W.mg_none_of X G z19, List.forall_mem_cons.mpr ⟨PySem.W.mg_none_of X G z20, List.forall_mem_cons.mpr ⟨PySem.W.mg_none_of X G z21, List.forall_mem_cons.mpr ⟨PySem.W.mg_none_of X G z22, List.forall_mem_cons.mpr ⟨PySem.W.mg_none_of X G z23, List.forall_mem_cons.mpr ⟨PySem.W.mg_none_of X G z24, List.forall_mem_cons.mpr ⟨PySem.W.mg_none_of X G z25, List.forall_mem_cons.mpr ⟨PySem.W.mg_none_of X G z26, fun _ h => nomatch h⟩⟩⟩⟩⟩⟩⟩⟩⟩⟩⟩⟩⟩⟩⟩⟩⟩⟩⟩⟩⟩⟩⟩⟩⟩⟩⟩
  have hc : ∀ p ∈ cons, MgCon mg p.1 p.2 := List.forall_mem_cons.mpr ⟨fun v hv => by cases hv; exact ⟨_, PySem.W.mg_of X G v0, _, rfl⟩, List.forall_mem_cons.mpr ⟨fun v hv => by cases hv; exact ⟨_, PySem.W.mg_of X G v1, _, rfl⟩, List.forall_mem_cons.mpr ⟨fun v hv => by cases hv; exact ⟨_, PySem.W.mg_of X G v2, _, rfl⟩, fun _ h => nomatch h⟩⟩⟩
  refine ⟨PySem.W.fnOf "law" "law" (defArgs (topS 24)) (defBody (topS 24)) (defScope (topS 24)) .none kV19 dc19 pm19 an19 cd19 ct19, fun s v => .of_eq rfl, fun base _ _ => ?_⟩
  have F := fn_ok (P := l.prog) (w := w) (mg := mg) (base := base) (G := GG) (k := 39) (call := callN tab 39) (con := con) (names := names) (cells := cells) (f := "law") (call' := callN tab 40) F19 (funSc_of (N := mkN (topS 24)) (ps := mkP (topS 24)) (by decide +kernel)) ((turn (ccOf con names cells true (topS 24)) (defBody (topS 24))).get (by decide +kernel)) hb (con_all hc) (all_ok rows hb (con_all hc) 39) fun ds h => ?_
  · exact fn_law (G := GG) rfl F
  · have em : (turn (ccOf con names cells true (topS 24)) (defBody (topS 24))).map (·.m) = some m_law := t_law
    simp only [callN, u_law]
    have eg := Option.map_eq_some_iff.mp em
    obtain ⟨c, e1, e2⟩ := eg
    have e3 : ((turn (ccOf con names cells true (topS 24)) (defBody (topS 24))).get (by decide +kernel)).m = m_law := by
      rw [← e2]; congr 1; exact Option.get_of_eq_some _ e1
    rw [e3]
    show runFn f_law _ ds h = runFn ⟨mkN (topS 24), _, m_law⟩ _ ds h
    rw [n_law]; rfl
end K01
open PySem PySem.W PyProof.Rows
set_option maxHeartbeats 0 in
theorem PySem.Challenge.cw_valueshown_k01_names_and_rows_holds : PySem.Challenge.rw_valueshown_k01_names_and_rows.Holds := by
  w_on; o_law; k_head; (case hw => w_witness2)
  k_fill
  refine L2.walk_of (l := PySem.Challenge.rw_valueshown_k01_names_and_rows) (n := 63) (k := 40) (x := "_law_script") (CX := fun w => L2.CX PySem.Challenge.rw_valueshown_k01_names_and_rows.prog w) (sp := fun w => Mi.spL _ true (Mi.callN K01.tab 40)) rfl (by decide) rfl ⟨rfl, by decide, by decide⟩ (fun w h Y => PySem.W.kIn_of Y) ?F (fun _ _ a ns hl _ hS => (K01.law_true ns hl).elim fun _ e => Mi.spL_of hS e) (fun _ _ _ _ _ h => Mi.cx_no h)
  case F =>
    intro w mg fa h KX G hmg
    refine' K01.all_mk KX G hmg ?q0 ?l0 ?c0 ?k0 ?q1 ?l1 ?c1 ?k1 ?q2 ?l2 ?c2 ?k2 ?q3 ?l3 ?c3 ?k3 ?q4 ?l4 ?c4 ?k4 ?q5 ?l5 ?c5 ?k5 ?q6 ?l6 ?c6 ?k6 ?q7 ?l7 ?c7 ?k7 ?q8 ?l8 ?c8 ?k8 ?q9 ?l9 ?c9 ?k9 ?q10 ?l10 ?c10 ?k10 ?q11 ?l11 ?c11 ?k11 ?q12 ?l12 ?c12 ?k12 ?q13 ?l13 ?c13 ?k13 ?q14 ?l14 ?c14 ?k14 ?q15 ?l15 ?c15 ?k15 ?q16 ?l16 ?c16 ?k16 ?q17 ?l17 ?c17 ?k17 ?q18 ?l18 ?c18 ?k18 ?q19 ?l19 ?c19 ?k19 ?v0 ?v1 ?v2 ?z0 ?z1 ?z2 ?z3 ?z4 ?z5 ?z6 ?z7 ?z8 ?z9 ?z10 ?z11 ?z12 ?z13 ?z14 ?z15 ?z16 ?z17 ?z18 ?z19 ?z20 ?z21 ?z22 ?z23 ?z24 ?z25 ?z26
    (case q0 => k_is)
    (case l0 => k_is)
    (case c0 => k_is)
    (case k0 => k_is)
    (case q1 => k_is)
    (case l1 => k_is)
    (case c1 => k_is)
    (case k1 => k_is)
    (case q2 => k_is)
    (case l2 => k_is)
    (case c2 => k_is)
    (case k2 => k_is)
    (case q3 => k_is)
    (case l3 => k_is)
    (case c3 => k_is)
    (case k3 => k_is)
    (case q4 => k_is)
    (case l4 => k_is)
    (case c4 => k_is)
    (case k4 => k_is)
    (case q5 => k_is)
    (case l5 => k_is)
    (case c5 => k_is)
    (case k5 => k_is)
    (case q6 => k_is)
    (case l6 => k_is)
    (case c6 => k_is)
    (case k6 => k_is)
    (case q7 => k_is)
    (case l7 => k_is)
    (case c7 => k_is)
    (case k7 => k_is)
    (case q8 => k_is)
    (case l8 => k_is)
    (case c8 => k_is)
    (case k8 => k_is)
    (case q9 => k_is)
    (case l9 => k_is)
    (case c9 => k_is)
    (case k9 => k_is)
    (case q10 => k_is)
    (case l10 => k_is)
    (case c10 => k_is)
    (case k10 => k_is)
    (case q11 => k_is)
    (case l11 => k_is)
    (case c11 => k_is)
    (case k11 => k_is)
    (case q12 => k_is)
    (case l12 => k_is)
    (case c12 => k_is)
    (case k12 => k_is)
    (case q13 => k_is)
    (case l13 => k_is)
    (case c13 => k_is)
    (case k13 => k_is)
    (case q14 => k_is)
    (case l14 => k_is)
    (case c14 => k_is)
    (case k14 => k_is)
    (case q15 => k_is)
    (case l15 => k_is)
    (case c15 => k_is)
    (case k15 => k_is)
    (case q16 => k_is)
    (case l16 => k_is)
    (case c16 => k_is)
    (case k16 => k_is)
    (case q17 => k_is)
    (case l17 => k_is)
    (case c17 => k_is)
    (case k17 => k_is)
    (case q18 => k_is)
    (case l18 => k_is)
    (case c18 => k_is)
    (case k18 => k_is)
    (case q19 => k_is)
    (case l19 => k_is)
    (case c19 => k_is)
    (case k19 => k_is)
    (case v0 => k_is)
    (case v1 => k_is)
    (case v2 => k_is)
    (case z0 => k_is)
    (case z1 => k_is)
    (case z2 => k_is)
    (case z3 => k_is)
    (case z4 => k_is)
    (case z5 => k_is)
    (case z6 => k_is)
    (case z7 => k_is)
    (case z8 => k_is)
    (case z9 => k_is)
    (case z10 => k_is)
    (case z11 => k_is)
    (case z12 => k_is)
    (case z13 => k_is)
    (case z14 => k_is)
    (case z15 => k_is)
    (case z16 => k_is)
    (case z17 => k_is)
    (case z18 => k_is)
    (case z19 => k_is)
    (case z20 => k_is)
    (case z21 => k_is)
    (case z22 => k_is)
    (case z23 => k_is)
    (case z24 => k_is)
    (case z25 => k_is)
    (case z26 => k_is)

