import PyProof.Rows.All
import Wide.All
import OpenK.AllK
import Wide.FinOn
import HandS.ForMost
import HandS.Deep
import HandS.SortRule
import HandS.SortInts
import HandS.IsInst
import HandS.Style
import HandS.Flow
import HandS.Walk
import HandS.NoneIn
import HandS.SortKw
import HandS.Defaults
import HandS.SetFor
import PySem.Challenge.RW_havenwebs_k66_whole_sides_or_odd_rings
import KE.KStateDown
import HandS.Head0
import HandS.Head1
import HandS.Head2
import HandS.HeadEnd
import HandS.HeadHook1
import HandS.HeadHook2
set_option Elab.async false
set_option linter.all false
set_option maxRecDepth 100000
set_option maxHeartbeats 4000000
set_option autoImplicit false
namespace MM
open PySem L2

abbrev D := PyData

/-! ## data in a heap -/
mutual
inductive Dq (K : PySem.W.Frag) (H : Hp) : V → D → Prop
  | non : Dq K H .non .none
  | bl (b : Bool) : Dq K H (.bl b) (.bool b)
  | int (i : Int) : Dq K H (.int i) (.int i)
  | str (x : Str) : Dq K H (.str x) (.str x)
  | lst {a : Addr} {xs : List V} {ds : List D} : H a = some (.lst xs) → DqAll K H xs ds → Dq K H (.ref a) (.list ds)
  | tup {a : Addr} {xs : List V} {ds : List D} : H a = some (.tup xs) → DqAll K H xs ds → Dq K H (.ref a) (.tuple ds)
inductive DqAll (K : PySem.W.Frag) (H : Hp) : List V → List D → Prop
  | nil : DqAll K H [] []
  | cons {v : V} {vs : List V} {d : D} {ds : List D} : Dq K H v d → DqAll K H vs ds → DqAll K H (v :: vs) (d :: ds)
end
theorem same_t {K : PySem.W.Frag} {H H' : Hp} (e : Same H H') {a : Addr} {xs : List V} (s : SqT K H a xs) : SqT K H' a xs := by
  rcases s with (s | ⟨o, s⟩) | s
  · exact .inl (.inl (e _ _ s))
  · exact .inl (.inr ⟨o, e _ _ s⟩)
  · exact .inr s
mutual
theorem dp_mono {K : PySem.W.Frag} {H H' : Hp} (e : Same H H') : ∀ (d : D) (v : V), Dq K H v d → Dq K H' v d
  | .none, _, h => by cases h; exact .non
  | .bool _, _, h => by cases h; exact .bl _
  | .int _, _, h => by cases h; exact .int _
  | .str _, _, h => by cases h; exact .str _
  | .list ds, _, h => by
    cases h with
    | lst s a => exact .lst (e _ _ s) (dpa_mono e ds _ a)
  | .tuple ds, _, h => by
    cases h with
    | tup s a => exact .tup (e _ _ s) (dpa_mono e ds _ a)
  | .dict _, _, h => by cases h
theorem dpa_mono {K : PySem.W.Frag} {H H' : Hp} (e : Same H H') : ∀ (ds : List D) (vs : List V), DqAll K H vs ds → DqAll K H' vs ds
  | [], _, h => by cases h; exact .nil
  | d :: ds, _, h => by
    cases h with
    | cons a b => exact .cons (dp_mono e d _ a) (dpa_mono e ds _ b)
end
mutual
theorem dq_dp {K : PySem.W.Frag} {H : Hp} : ∀ (d : D) (v : V), Dq K H v d → Dp K H v d
  | .none, _, h => by cases h; exact .non
  | .bool _, _, h => by cases h; exact .bl _
  | .int _, _, h => by cases h; exact .int _
  | .str _, _, h => by cases h; exact .str _
  | .list ds, _, h => by
    cases h with
    | lst s a => exact .lst (SqL.of s) (dqa_dpa ds _ a)
  | .tuple ds, _, h => by
    cases h with
    | tup s a => exact .tup (SqT.of s) (dqa_dpa ds _ a)
  | .dict _, _, h => by cases h
theorem dqa_dpa {K : PySem.W.Frag} {H : Hp} : ∀ (ds : List D) (vs : List V), DqAll K H vs ds → DpAll K H vs ds
  | [], _, h => by cases h; exact .nil
  | d :: ds, _, h => by
    cases h with
    | cons a b => exact .cons (dq_dp d _ a) (dqa_dpa ds _ b)
end

section
variable {K : PySem.W.Frag} {H H' : Hp}
theorem dpa_len : ∀ {vs : List V} {ds : List D}, DqAll K H vs ds → vs.length = ds.length
  | _, _, .nil => rfl
  | _, _, .cons _ t => congrArg (· + 1) (dpa_len t)
theorem dpa_app : ∀ {vs us : List V} {ds es : List D}, DqAll K H vs ds → DqAll K H us es → DqAll K H (vs ++ us) (ds ++ es)
  | _, _, _, _, .nil, b => b
  | _, _, _, _, .cons a t, b => .cons a (dpa_app t b)
theorem dpa_snoc {vs : List V} {ds : List D} {v : V} {d : D} (a : DqAll K H vs ds) (b : Dq K H v d) : DqAll K H (vs ++ [v]) (ds ++ [d]) := dpa_app a (.cons b .nil)
theorem dpa_get : ∀ {vs : List V} {ds : List D} {i : Nat} {v : V}, DqAll K H vs ds → vs[i]? = some v → ∃ d, ds[i]? = some d ∧ Dq K H v d
  | _, _, i, _, .nil, e => by simp at e
  | _, _, 0, _, .cons a _, e => by simp at e; subst e; exact ⟨_, rfl, a⟩
  | _, _, i + 1, _, .cons _ t, e => by simpa using dpa_get (i := i) t (by simpa using e)
theorem dpa_get' : ∀ {vs : List V} {ds : List D} {i : Nat} {d : D}, DqAll K H vs ds → ds[i]? = some d → ∃ v, vs[i]? = some v ∧ Dq K H v d
  | _, _, i, _, .nil, e => by simp at e
  | _, _, 0, _, .cons a _, e => by simp at e; subst e; exact ⟨_, rfl, a⟩
  | _, _, i + 1, _, .cons _ t, e => by simpa using dpa_get' (i := i) t (by simpa using e)
theorem dpa_set : ∀ {vs : List V} {ds : List D} {v : V} {d : D} (i : Nat), DqAll K H vs ds → Dq K H v d → DqAll K H (vs.set i v) (ds.set i d)
  | _, _, _, _, _, .nil, _ => .nil
  | _, _, _, _, 0, .cons _ t, b => .cons b t
  | _, _, _, _, i + 1, .cons a t, b => .cons a (dpa_set i t b)
theorem dpa_erase : ∀ {vs : List V} {ds : List D} (i : Nat), DqAll K H vs ds → DqAll K H (vs.eraseIdx i) (ds.eraseIdx i)
  | _, _, _, .nil => .nil
  | _, _, 0, .cons _ t => t
  | _, _, i + 1, .cons a t => .cons a (dpa_erase i t)
theorem dpa_take : ∀ {vs : List V} {ds : List D} (n : Nat), DqAll K H vs ds → DqAll K H (vs.take n) (ds.take n)
  | _, _, 0, _ => .nil
  | _, _, _ + 1, .nil => .nil
  | _, _, n + 1, .cons a t => .cons a (dpa_take n t)
theorem dpa_drop : ∀ {vs : List V} {ds : List D} (n : Nat), DqAll K H vs ds → DqAll K H (vs.drop n) (ds.drop n)
  | _, _, 0, h => h
  | _, _, _ + 1, .nil => .nil
  | _, _, n + 1, .cons _ t => dpa_drop n t
theorem dpa_rev : ∀ {vs : List V} {ds : List D}, DqAll K H vs ds → DqAll K H vs.reverse ds.reverse
  | _, _, .nil => .nil
  | _, _, .cons a t => by
    rw [List.reverse_cons, List.reverse_cons]
    exact dpa_snoc (dpa_rev t) a
theorem dpa_dropLast {vs : List V} {ds : List D} (h : DqAll K H vs ds) : DqAll K H vs.dropLast ds.dropLast := by
  rw [List.dropLast_eq_take, List.dropLast_eq_take, dpa_len h]
  exact dpa_take _ h
end

/-- what an owned object holds -/
inductive Cn where
  | lst (ds : List D)
  | dK (kvs : List (Key × D))
  | dT (kvs : List (List Key × D))

abbrev KvR {κ : Type} (K : PySem.W.Frag) (H : Hp) : List (κ × V) → List (κ × D) → Prop := Paired fun a b => a.1 = b.1 ∧ Dq K H a.2 b.2

def CnAt (K : PySem.W.Frag) (Hf H : Hp) (p : Addr) : Cn → Prop
  | .lst ds => ∃ vs, H p = some (.lst vs) ∧ DqAll K Hf vs ds
  | .dK kvs => ∃ ws, H p = some (.dK ws) ∧ KvR K Hf ws kvs
  | .dT kvs => ∃ ws, H p = some (.dT ws) ∧ KvR K Hf ws kvs

section
variable {K : PySem.W.Frag} {Hf Hn H H2 : Hp} {p : Addr} {c : Cn}
theorem kvr_mono {κ : Type} (e : Same H H2) {ws : List (κ × V)} {kvs : List (κ × D)} (h : KvR K H ws kvs) : KvR K H2 ws kvs :=
  Paired.mapP h fun _ _ ⟨a, b⟩ => ⟨a, dp_mono e _ _ b⟩
theorem CnAt.here (h : CnAt K Hf H p c) : H p ≠ none := by
  cases c with
  | lst ds => obtain ⟨vs, e, _⟩ := h; rw [e]; simp
  | dK kvs => obtain ⟨vs, e, _⟩ := h; rw [e]; simp
  | dT kvs => obtain ⟨vs, e, _⟩ := h; rw [e]; simp
theorem CnAt.mono (h : CnAt K Hf H p c) (e : Same Hf Hn) (e2 : ∀ o, H p = some o → H2 p = some o) : CnAt K Hn H2 p c := by
  cases c with
  | lst ds => obtain ⟨vs, a, b⟩ := h; exact ⟨vs, e2 _ a, dpa_mono e _ _ b⟩
  | dK kvs => obtain ⟨vs, a, b⟩ := h; exact ⟨vs, e2 _ a, kvr_mono e b⟩
  | dT kvs => obtain ⟨vs, a, b⟩ := h; exact ⟨vs, e2 _ a, kvr_mono e b⟩
end

/-- frozen, current; frozen then, current then -/
structure Gw (Hf H Hn H2 : Hp) : Prop where
  a : Same Hf Hn
  b : Same Hn H2
  c : Same H H2
  d : ∀ x, H x ≠ none → Hf x = none → Hn x = none
theorem none_back {H H2 : Hp} (c : Same H H2) {x : Addr} (h : H2 x = none) : H x = none := c.free h
theorem Gw.refl {Hf H : Hp} (e : Same Hf H) : Gw Hf H Hf H := ⟨Same.refl _, e, Same.refl _, fun _ _ h => h⟩
theorem Gw.trans {Hf H Hn H2 Hm H3 : Hp} (x : Gw Hf H Hn H2) (y : Gw Hn H2 Hm H3) : Gw Hf H Hm H3 :=
  ⟨x.a.trans y.a, y.b, x.c.trans y.c, fun p hp hf => by
    refine y.d p (fun z => hp (none_back x.c z)) (x.d p hp hf)⟩
theorem Gw.keep {Hf H H2 : Hp} (e : Same Hf H) (c : Same H H2) : Gw Hf H Hf H2 := ⟨Same.refl _, e.trans c, c, fun _ _ h => h⟩
theorem same_new {H : Hp} {p : Addr} {o : HO} (h : H p = none) : Same H (upd H p o) := fun b x e => by
  rw [upd_ne (ne_of_none e h)]; exact e
/-- a new object, frozen at once -/
theorem Gw.new {Hf H : Hp} {p : Addr} {o : HO} (e : Same Hf H) (h : H p = none) : Gw Hf H (upd Hf p o) (upd H p o) := by
  have hf : Hf p = none := none_back e h
  refine ⟨same_new hf, fun b x q => ?_, same_new h, fun x hx hfx => ?_⟩
  · by_cases hb : b = p
    · subst hb; rw [upd_same] at q ⊢; exact q
    · rw [upd_ne hb] at q ⊢; exact e _ _ q
  · have : x ≠ p := fun z => hx (by rw [z]; exact h)
    rw [upd_ne this]; exact hfx
/-- a new object, owned -/
theorem Gw.newO {Hf H : Hp} {p : Addr} {o : HO} (e : Same Hf H) (h : H p = none) : Gw Hf H Hf (upd H p o) := Gw.keep e (same_new h)

/-! ## the slots -/
/-- any: nothing is known; val: frozen data; own: an object of ours; bor: one that is lent to us; shell: a tuple of frozen data and of objects of ours -/
inductive VS where
  | any
  | val (d : D)
  | own (c : Cn)
  | bor (p : Addr) (c : Cn)
  | shell (cs : List (D ⊕ Cn))
/-- the objects of ours in a shell -/
def shA : List (D ⊕ Cn) → List V → List Addr
  | .inr _ :: cs, .ref p :: vs => p :: shA cs vs
  | _ :: cs, _ :: vs => shA cs vs
  | _, _ => []

/-- the entry: frozen, all; what is lent; what must stay as it is meanwhile -/
structure Ent where
  Hf : Hp
  H : Hp
  B : List Addr
  P : Hp := fun _ => none

inductive ShAt (K : PySem.W.Frag) (G : Ent) (Hf H : Hp) : List (D ⊕ Cn) → List V → Prop
  | nil : ShAt K G Hf H [] []
  | val {d : D} {v : V} {cs : List (D ⊕ Cn)} {vs : List V} : Dq K Hf v d → ShAt K G Hf H cs vs → ShAt K G Hf H (.inl d :: cs) (v :: vs)
  | own {c : Cn} {p : Addr} {cs : List (D ⊕ Cn)} {vs : List V} : Hf p = none → G.H p = none → CnAt K Hf H p c → ShAt K G Hf H cs vs → ShAt K G Hf H (.inr c :: cs) (.ref p :: vs)

def VAt (K : PySem.W.Frag) (G : Ent) (Hf H : Hp) : VS → Option (Option V) → Prop
  | .any, _ => True
  | .val d, x => ∃ v, x = some (some v) ∧ Dq K Hf v d
  | .own c, x => ∃ p, x = some (some (.ref p)) ∧ Hf p = none ∧ G.H p = none ∧ CnAt K Hf H p c
  | .bor p c, x => x = some (some (.ref p)) ∧ Hf p = none ∧ p ∈ G.B ∧ CnAt K Hf H p c
  | .shell cs, x => ∃ t vs, x = some (some (.ref t)) ∧ Hf t = some (.tup vs) ∧ ShAt K G Hf H cs vs ∧ (shA cs vs).Nodup
/-- whose object is at p -/
def Owns (Hf : Hp) : VS → Option (Option V) → Addr → Prop
  | .own _, x, p => x = some (some (.ref p))
  | .bor _ _, x, p => x = some (some (.ref p))
  | .shell cs, x, p => ∃ t vs, x = some (some (.ref t)) ∧ Hf t = some (.tup vs) ∧ p ∈ shA cs vs
  | _, _, _ => False
def VS.mine : VS → Bool
  | .own _ => true
  | .bor _ _ => true
  | _ => false
/-- no slot's object is at p -/
def NoOwn (Hf : Hp) (S : List VS) (σ : L2.St) (p : Addr) : Prop := ∀ (i : Nat) (s : VS), S[i]? = some s → ¬ Owns Hf s σ[i]? p

structure SOk (K : PySem.W.Frag) (G : Ent) (Hf H : Hp) (S : List VS) (σ : L2.St) : Prop where
  len : σ.length = S.length
  ex : Same Hf H
  exf : Same G.Hf Hf
  fr : ∀ x o, G.H x = some o → x ∉ G.B → H x = some o
  dj : ∀ x, G.H x ≠ none → G.Hf x = none → Hf x = none
  bh : ∀ p ∈ G.B, G.H p ≠ none ∧ H p ≠ none
  val : ∀ (i : Nat) (s : VS), S[i]? = some s → VAt K G Hf H s σ[i]?
  inj : ∀ (i j : Nat) (s t : VS) (p : Addr), S[i]? = some s → S[j]? = some t → Owns Hf s σ[i]? p → Owns Hf t σ[j]? p → i = j
  pin : ∀ (x : Addr) (o : HO), G.P x = some o → H x = some o ∧ Hf x = none ∧ NoOwn Hf S σ x

section
variable {K : PySem.W.Frag} {G : Ent} {Hf Hn H H2 : Hp} {S S' : List VS} {σ : L2.St} {p : Addr} {c c' : Cn} {i : Nat} {d : D} {v : V} {s : VS} {x : Option (Option V)}
theorem ShAt.mem : ∀ {cs : List (D ⊕ Cn)} {vs : List V}, ShAt K G Hf H cs vs → p ∈ shA cs vs → Hf p = none ∧ G.H p = none ∧ H p ≠ none
  | _, _, .nil, h => by cases h
  | _, _, .val (v := v) (cs := cs) (vs := vs) a t, h => by
    have h' : p ∈ shA cs vs := by cases v <;> exact h
    exact t.mem h'
  | _, _, .own a b c t, h => by
    rcases List.mem_cons.mp h with e | h
    · subst e; exact ⟨a, b, c.here⟩
    · exact t.mem h
/-- the same behind a step that keeps what the shell has -/
theorem ShAt.step (e : Same Hf Hn) : ∀ {cs : List (D ⊕ Cn)} {vs : List V}, ShAt K G Hf H cs vs → (∀ p ∈ shA cs vs, Hn p = none ∧ ∀ o, H p = some o → H2 p = some o) → ShAt K G Hn H2 cs vs
  | _, _, .nil, _ => .nil
  | _, _, .val (v := v) a t, h => .val (dp_mono e _ _ a) (t.step e fun p hp => h p (by cases v <;> exact hp))
  | _, _, .own a b c t, h => .own (h _ List.mem_cons_self).1 b (c.mono e (h _ List.mem_cons_self).2) (t.step e fun p hp => h p (List.mem_cons_of_mem _ hp))
theorem VAt.owned (h : VAt K G Hf H s x) (o : Owns Hf s x p) : Hf p = none ∧ H p ≠ none := by
  cases s with
  | any => cases o
  | val d => cases o
  | own c => obtain ⟨q, a, b, _, e⟩ := h; rw [a] at o; cases o; exact ⟨b, e.here⟩
  | bor q c => obtain ⟨a, b, _, e⟩ := h; rw [a] at o; cases o; exact ⟨b, e.here⟩
  | shell cs =>
    obtain ⟨t, vs, a, b, e, _⟩ := h
    obtain ⟨t', vs', a', b', m⟩ := o
    rw [a] at a'; cases a'; rw [b] at b'; cases b'
    exact ⟨(e.mem m).1, (e.mem m).2.2⟩
theorem VAt.mine_at (h : VAt K G Hf H s x) (m : s.mine = true) : ∃ p c, x = some (some (.ref p)) ∧ Hf p = none ∧ CnAt K Hf H p c := by
  cases s with
  | any => cases m
  | val d => cases m
  | own c => obtain ⟨p, a, b, _, e⟩ := h; exact ⟨p, c, a, b, e⟩
  | bor p c => obtain ⟨a, b, _, e⟩ := h; exact ⟨p, c, a, b, e⟩
  | shell cs => cases m
theorem mine_owns (m : s.mine = true) (hx : x = some (some (.ref p))) : Owns Hf s x p := by
  cases s with
  | own c => exact hx
  | bor q c => exact hx
  | _ => cases m
theorem owns_mono (e : Same Hf Hn) (o : Owns Hf s x p) : Owns Hn s x p := by
  cases s with
  | any => cases o
  | val d => cases o
  | own c => exact o
  | bor q c => exact o
  | shell cs => obtain ⟨t, vs, a, b, m⟩ := o; exact ⟨t, vs, a, e _ _ b, m⟩
theorem owns_back (e : Same Hf Hn) (h : VAt K G Hf H s x) (o : Owns Hn s x p) : Owns Hf s x p := by
  cases s with
  | any => cases o
  | val d => cases o
  | own c => exact o
  | bor q c => exact o
  | shell cs =>
    obtain ⟨t, vs, a, b, m⟩ := o
    obtain ⟨t', vs', a', b', _⟩ := h
    rw [a] at a'; cases a'
    rw [e _ _ b'] at b; cases b
    exact ⟨t, _, a, b', m⟩
/-- a step keeps what a slot has -/
theorem VAt.step (h : VAt K G Hf H s x) (e : Same Hf Hn) (k : ∀ p, Owns Hf s x p → Hn p = none ∧ ∀ o, H p = some o → H2 p = some o) : VAt K G Hn H2 s x := by
  cases s with
  | any => trivial
  | val d => obtain ⟨v, a, b⟩ := h; exact ⟨v, a, dp_mono e _ _ b⟩
  | own c => obtain ⟨p, a, b, b2, q⟩ := h; exact ⟨p, a, (k p a).1, b2, q.mono e (k p a).2⟩
  | bor p c => obtain ⟨a, b, b2, q⟩ := h; exact ⟨a, (k p a).1, b2, q.mono e (k p a).2⟩
  | shell cs =>
    obtain ⟨t, vs, a, b, q, n⟩ := h
    exact ⟨t, vs, a, e _ _ b, q.step e fun p hp => k p ⟨t, vs, a, b, hp⟩, n⟩
theorem SOk.there (h : SOk K G Hf H S σ) {x : Addr} (hx : G.H x ≠ none) : H x ≠ none := by
  by_cases hb : x ∈ G.B
  · exact (h.bh x hb).2
  · cases e : G.H x with
    | none => exact absurd e hx
    | some o => rw [h.fr x o e hb]; simp
theorem SOk.owned (h : SOk K G Hf H S σ) (hs : S[i]? = some s) (o : Owns Hf s σ[i]? p) : Hf p = none ∧ H p ≠ none := (h.val i s hs).owned o
theorem NoOwn.mono (h : SOk K G Hf H S σ) (e : Same Hf Hn) {q : Addr} (n : NoOwn Hf S σ q) : NoOwn Hn S σ q := fun i s hs o => n i s hs (owns_back e (h.val i s hs) o)
/-- new objects come, some of them frozen -/
theorem SOk.grow (h : SOk K G Hf H S σ) (g : Gw Hf H Hn H2) : SOk K G Hn H2 S σ where
  len := h.len
  ex := g.b
  exf := h.exf.trans g.a
  fr := fun x o e hb => g.c _ _ (h.fr x o e hb)
  dj := fun x hx hf => g.d x (h.there hx) (h.dj x hx hf)
  bh := fun p hp => ⟨(h.bh p hp).1, fun z => (h.bh p hp).2 (none_back g.c z)⟩
  val := fun i s e => (h.val i s e).step g.a fun p o => ⟨g.d p (h.owned e o).2 (h.owned e o).1, g.c p⟩
  inj := fun i j s t p es et o1 o2 => h.inj i j s t p es et (owns_back g.a (h.val i s es) o1) (owns_back g.a (h.val j t et) o2)
  pin := fun x o e => by
    obtain ⟨a, b, c⟩ := h.pin x o e
    exact ⟨g.c _ _ a, g.d x (by rw [a]; simp) b, c.mono h g.a⟩
/-- a new address is in no slot of ours -/
theorem SOk.notin (h : SOk K G Hf H S σ) (hp : H p = none) : NoOwn Hf S σ p := fun i s e o => (h.owned e o).2 hp
theorem SOk.newG (h : SOk K G Hf H S σ) (hp : H p = none) : G.H p = none := by
  cases e : G.H p with
  | none => rfl
  | some o => exact absurd hp (h.there (by rw [e]; simp))
/-- a slot is stored -/
theorem SOk.set (h : SOk K G Hf H S σ) (hv : VAt K G Hf H s (some (some v))) (hi : ∀ p, Owns Hf s (some (some v)) p → NoOwn Hf S σ p ∧ G.P p = none) (hl : i < S.length) :
    SOk K G Hf H (S.set i s) (σ.set i (some v)) where
  len := by simp [h.len]
  ex := h.ex
  exf := h.exf
  fr := h.fr
  dj := h.dj
  bh := h.bh
  val := fun j t e => by
    by_cases hj : j = i
    · subst hj
      rw [List.getElem?_set_self hl] at e
      rw [List.getElem?_set_self (by rw [h.len]; exact hl)]
      cases e; exact hv
    · rw [List.getElem?_set_ne (Ne.symm hj)] at e ⊢
      exact h.val j t e
  inj := fun a b t u p ea eb xa xb => by
    by_cases ha : a = i
    · by_cases hb : b = i
      · rw [ha, hb]
      · subst ha
        rw [List.getElem?_set_self hl] at ea
        rw [List.getElem?_set_self (by rw [h.len]; exact hl)] at xa
        rw [List.getElem?_set_ne (Ne.symm hb)] at eb xb
        cases ea
        exact absurd xb ((hi p xa).1 b u eb)
    · by_cases hb : b = i
      · subst hb
        rw [List.getElem?_set_self hl] at eb
        rw [List.getElem?_set_self (by rw [h.len]; exact hl)] at xb
        rw [List.getElem?_set_ne (Ne.symm ha)] at ea xa
        cases eb
        exact absurd xa ((hi p xb).1 a t ea)
      · rw [List.getElem?_set_ne (Ne.symm ha)] at ea xa
        rw [List.getElem?_set_ne (Ne.symm hb)] at eb xb
        exact h.inj a b t u p ea eb xa xb
  pin := fun x o e => by
    obtain ⟨a, b, c⟩ := h.pin x o e
    refine ⟨a, b, fun j t ej xj => ?_⟩
    by_cases hj : j = i
    · subst hj
      rw [List.getElem?_set_self hl] at ej
      rw [List.getElem?_set_self (by rw [h.len]; exact hl)] at xj
      cases ej
      have := (hi x xj).2
      rw [e] at this; cases this
    · rw [List.getElem?_set_ne (Ne.symm hj)] at ej xj
      exact c j t ej xj
theorem SOk.setV (h : SOk K G Hf H S σ) (hv : Dq K Hf v d) (hl : i < S.length) : SOk K G Hf H (S.set i (.val d)) (σ.set i (some v)) :=
  h.set (s := .val d) ⟨v, rfl, hv⟩ (fun p z => by cases z) hl
theorem set_any_ne {k : Nat} {t : VS} {y : Option (Option V)} {q : Addr} (e : (S.set i .any)[k]? = some t) (o : Owns Hf t y q) : k ≠ i := fun z => by
  subst z
  rw [List.getElem?_set] at e
  split at e
  · split at e
    · cases e; cases o
    · cases e
  · rename_i z; exact absurd rfl z
theorem SOk.setAny (h : SOk K G Hf H S σ) (x : Option V) : SOk K G Hf H (S.set i .any) (σ.set i x) where
  len := by simp [h.len]
  ex := h.ex
  exf := h.exf
  fr := h.fr
  dj := h.dj
  bh := h.bh
  val := fun j t e => by
    by_cases hj : j = i
    · subst hj
      rw [List.getElem?_set] at e
      split at e
      · split at e
        · cases e; trivial
        · cases e
      · rename_i z; exact absurd rfl z
    · rw [List.getElem?_set_ne (Ne.symm hj)] at e ⊢
      exact h.val j t e
  inj := fun a b t u p ea eb xa xb => by
    have na := set_any_ne ea xa
    have nb := set_any_ne eb xb
    rw [List.getElem?_set_ne (Ne.symm na)] at ea xa
    rw [List.getElem?_set_ne (Ne.symm nb)] at eb xb
    exact h.inj a b t u p ea eb xa xb
  pin := fun y o e => by
    obtain ⟨a, b, c⟩ := h.pin y o e
    refine ⟨a, b, fun j t ej xj => ?_⟩
    have na := set_any_ne ej xj
    rw [List.getElem?_set_ne (Ne.symm na)] at ej xj
    exact c j t ej xj
theorem set_same (σ : L2.St) (i : Nat) : σ.set i (σ[i]?.getD none) = σ := by
  apply List.ext_getElem?
  intro j
  by_cases hj : j = i
  · subst hj
    rw [List.getElem?_set]
    split
    · split
      · rename_i hlt; rw [List.getElem?_eq_getElem hlt]; rfl
      · rename_i hlt; rw [List.getElem?_eq_none (by omega)]
    · rename_i z; exact absurd rfl z
  · rw [List.getElem?_set_ne (Ne.symm hj)]
/-- what is known of a slot is forgotten -/
theorem SOk.forget (h : SOk K G Hf H S σ) : SOk K G Hf H (S.set i .any) σ := by
  have q := h.setAny (i := i) (σ[i]?.getD none)
  rw [set_same] at q; exact q
theorem SOk.setN (h : SOk K G Hf H S σ) (h1 : Hf p = none) (h2 : G.H p = none) (h3 : NoOwn Hf S σ p) (hc : CnAt K Hf H p c) (hl : i < S.length) (h4 : G.P p = none) :
    SOk K G Hf H (S.set i (.own c)) (σ.set i (some (.ref p))) :=
  h.set (s := .own c) ⟨p, rfl, h1, h2, hc⟩ (fun q o => by cases o; exact ⟨h3, h4⟩) hl
/-- the same kind of slot with other contents -/
def VS.put : VS → Cn → VS
  | .own _, c => .own c
  | .bor p _, c => .bor p c
  | s, _ => s
def VS.cn : VS → Option Cn
  | .own c => some c
  | .bor _ c => some c
  | _ => none
theorem put_owns {y : Option (Option V)} {q : Addr} (o : Owns Hf (s.put c) y q) : Owns Hf s y q := by cases s <;> exact o
/-- an object of a slot is changed, and the slot's knowledge with it -/
theorem SOk.mutTo (h : SOk K G Hf H S σ) (hs : S[i]? = some s) (hx : Owns Hf s σ[i]? p) {o : HO} {s' : VS} (hv : VAt K G Hf (upd H p o) s' σ[i]?) (ho : ∀ q, Owns Hf s' σ[i]? q → Owns Hf s σ[i]? q) : SOk K G Hf (upd H p o) (S.set i s') σ := by
  have hq := h.owned hs hx
  have hil : i < S.length := (List.getElem?_eq_some_iff.mp hs).1
  have back : ∀ (k : Nat) (t : VS) (q : Addr), (S.set i s')[k]? = some t → Owns Hf t σ[k]? q → ∃ t', S[k]? = some t' ∧ Owns Hf t' σ[k]? q := fun k t q e ot => by
    by_cases hk : k = i
    · subst hk; rw [List.getElem?_set_self hil] at e; cases e; exact ⟨s, hs, ho q ot⟩
    · rw [List.getElem?_set_ne (Ne.symm hk)] at e; exact ⟨t, e, ot⟩
  refine ⟨by simp [h.len], fun x o' ex => ?_, h.exf, fun x o' ex hb => ?_, h.dj, fun x hb => ⟨(h.bh x hb).1, ?_⟩, fun j t ej => ?_, fun a b t u r ea eb xa xb => ?_, fun x o' ex => ?_⟩
  · have : x ≠ p := fun z => by rw [z, hq.1] at ex; cases ex
    rw [upd_ne this]; exact h.ex _ _ ex
  · have : x ≠ p := fun z => by
      subst z
      have v := h.val i s hs
      cases s with
      | any => cases hx
      | val d => cases hx
      | own c => obtain ⟨q, e1, _, e2, _⟩ := v; rw [e1] at hx; cases hx; rw [e2] at ex; cases ex
      | bor q c => obtain ⟨e1, _, e2, _⟩ := v; rw [e1] at hx; cases hx; exact hb e2
      | shell cs =>
        obtain ⟨t, vs, e1, e2, e3, _⟩ := v
        obtain ⟨t', vs', e1', e2', m⟩ := hx
        rw [e1] at e1'; cases e1'; rw [e2] at e2'; cases e2'
        rw [(e3.mem m).2.1] at ex; cases ex
    rw [upd_ne this]; exact h.fr x o' ex hb
  · by_cases z : x = p
    · subst z; rw [upd_same]; simp
    · rw [upd_ne z]; exact (h.bh x hb).2
  · by_cases hj : j = i
    · subst hj
      rw [List.getElem?_set_self hil] at ej
      cases ej
      exact hv
    · rw [List.getElem?_set_ne (Ne.symm hj)] at ej
      refine (h.val j t ej).step (Same.refl _) fun q oq => ⟨(h.owned ej oq).1, fun o' e => ?_⟩
      have : q ≠ p := fun z => by subst z; exact hj (h.inj j i t s q ej hs oq hx)
      rw [upd_ne this]; exact e
  · obtain ⟨t', ea', xa'⟩ := back a t r ea xa
    obtain ⟨u', eb', xb'⟩ := back b u r eb xb
    exact h.inj a b t' u' r ea' eb' xa' xb'
  · obtain ⟨a1, b1, c1⟩ := h.pin x o' ex
    have np : x ≠ p := fun z => c1 i s hs (by rw [z]; exact hx)
    refine ⟨by rw [upd_ne np]; exact a1, b1, fun k t e xk => ?_⟩
    obtain ⟨t', e', xk'⟩ := back k t x e xk
    exact c1 k t' e' xk'
theorem SOk.mut (h : SOk K G Hf H S σ) (hs : S[i]? = some s) (m : s.mine = true) (hx : σ[i]? = some (some (.ref p))) {o : HO} (hc : CnAt K Hf (upd H p o) p c') : SOk K G Hf (upd H p o) (S.set i (s.put c')) σ := by
  refine h.mutTo hs (mine_owns m hx) ?_ fun q oq => put_owns oq
  have v := h.val i s hs
  cases s with
  | any => cases m
  | val d => cases m
  | own c => obtain ⟨q, e1, e3, e2, _⟩ := v; rw [hx] at e1; cases e1; exact ⟨p, hx, e3, e2, hc⟩
  | bor q c => obtain ⟨e1, e3, e2, _⟩ := v; rw [hx] at e1; cases e1; exact ⟨hx, e3, e2, hc⟩
  | shell cs => cases m
end
end MM

set_option Elab.async false
set_option linter.all false
set_option maxRecDepth 100000
set_option maxHeartbeats 4000000
set_option autoImplicit false
namespace MM
open PySem L2

/-! ## what a reading does to the state -/
structure Fresh (K : PySem.W.Frag) (G : Ent) (Hn : Hp) (S : List VS) (σ : L2.St) (p : Addr) : Prop where
  hf : Hn p = none
  hg : G.H p = none
  hP : G.P p = none
  no : NoOwn Hn S σ p

def Ev (K : PySem.W.Frag) (G : Ent) (te : TE) (S : List VS) (d : D) (S' : List VS) : Prop :=
  ∀ (σ : L2.St) (Hf H : Hp), SOk K G Hf H S σ → ∀ Q : VK, (∀ v Hn H2, Same Hf Hn → SOk K G Hn H2 S' σ → Dq K Hn v d → Q v H2) → te σ H Q
/-- a new object of ours -/
def EvN (K : PySem.W.Frag) (G : Ent) (te : TE) (S : List VS) (c : Cn) (S' : List VS) : Prop :=
  ∀ (σ : L2.St) (Hf H : Hp), SOk K G Hf H S σ → ∀ Q : VK, (∀ p Hn H2, Same Hf Hn → SOk K G Hn H2 S' σ → Fresh K G Hn S' σ p → CnAt K Hn H2 p c → Q (.ref p) H2) → te σ H Q
def EvB (K : PySem.W.Frag) (G : Ent) (tt : TT) (S : List VS) (b : Bool) (S' : List VS) : Prop :=
  ∀ (σ : L2.St) (Hf H : Hp), SOk K G Hf H S σ → ∀ Q : Bool → Hp → Prop, (∀ Hn H2, Same Hf Hn → SOk K G Hn H2 S' σ → Q b H2) → tt σ H Q
def EvA (K : PySem.W.Frag) (G : Ent) (ta : TA) (S : List VS) (ds : List D) (S' : List VS) : Prop :=
  ∀ (σ : L2.St) (Hf H : Hp), SOk K G Hf H S σ → ∀ Q : List V → Hp → Prop, (∀ vs Hn H2, Same Hf Hn → SOk K G Hn H2 S' σ → DqAll K Hn vs ds → Q vs H2) → ta σ H Q
/-- one of them a slot's own object -/
def EvA1 (K : PySem.W.Frag) (G : Ent) (ta : TA) (S : List VS) (pre : List D) (i : Nat) (post : List D) (S' : List VS) : Prop :=
  ∀ (σ : L2.St) (Hf H : Hp), SOk K G Hf H S σ → ∀ Q : List V → Hp → Prop, (∀ vs v us Hn H2, Same Hf Hn → SOk K G Hn H2 S' σ → DqAll K Hn vs pre → σ[i]? = some (some v) → DqAll K Hn us post → Q (vs ++ v :: us) H2) → ta σ H Q

section
variable {K : PySem.W.Frag} {G : Ent} {te ta tb tc : TE} {tt tu : TT} {S S0 S1 S2 S3 : List VS} {d x y z : D} {ds : List D} {c : Cn} {b b1 b2 : Bool}

/-- a new object is frozen -/
theorem SOk.frzNew {Hf H : Hp} {σ : L2.St} {p : Addr} {o : HO} (s : SOk K G Hf H S σ) (f : Fresh K G Hf S σ p) (e : H p = some o) : SOk K G (upd Hf p o) H S σ := by
  have hfp : Same Hf (upd Hf p o) := same_new f.hf
  have ne : ∀ (i : Nat) (t : VS) (q : Addr), S[i]? = some t → Owns Hf t σ[i]? q → q ≠ p := fun i t q et oq z => f.no i t et (by rw [← z]; exact oq)
  refine ⟨s.len, fun x o' ex => ?_, s.exf.trans hfp, s.fr, fun x hx hf => ?_, s.bh, fun i t et => ?_, fun i j t u q et eu o1 o2 => ?_, fun x o' ex => ?_⟩
  · by_cases z : x = p
    · subst z; rw [upd_same] at ex; cases ex; exact e
    · rw [upd_ne z] at ex; exact s.ex _ _ ex
  · have : x ≠ p := fun z => hx (by rw [z]; exact f.hg)
    rw [upd_ne this]; exact s.dj x hx hf
  · exact (s.val i t et).step hfp fun q oq => ⟨by rw [upd_ne (ne i t q et oq)]; exact (s.owned et oq).1, fun o h => h⟩
  · exact s.inj i j t u q et eu (owns_back hfp (s.val i t et) o1) (owns_back hfp (s.val j u eu) o2)
  · obtain ⟨a, b, c⟩ := s.pin x o' ex
    have : x ≠ p := fun z => by rw [z, f.hP] at ex; cases ex
    exact ⟨a, by rw [upd_ne this]; exact b, c.mono s hfp⟩
/-- frozen at once -/
theorem EvN.frz (h : EvN K G te S (.lst ds) S1) : Ev K G te S (.list ds) S1 := fun σ Hf H hs Q q =>
  h σ Hf H hs Q fun p Hn H2 e s f ca => by
    obtain ⟨vs, e1, e2⟩ := ca
    have hfp : Same Hn (upd Hn p (.lst vs)) := same_new f.hf
    exact q (.ref p) (upd Hn p (.lst vs)) H2 (e.trans hfp) (s.frzNew f e1) (.lst upd_same (dpa_mono hfp _ _ e2))

theorem SOk.fresh {Hf H : Hp} {σ : L2.St} {p : Addr} (s : SOk K G Hf H S σ) (hp : H p = none) : Fresh K G Hf S σ p := ⟨none_back s.ex hp, s.newG hp, (by
    cases e : G.P p with
    | none => rfl
    | some o => exact absurd (s.pin p o e).1 (by rw [hp]; simp)), s.notin hp⟩

/-! ### slots and constants -/
theorem ev_var {i : Nat} (h : S[i]? = some (.val d)) : Ev K G (tVar i) S d S := fun σ Hf H hs Q q => by
  obtain ⟨v, a, e⟩ := hs.val i _ h
  exact ⟨v, a, q v Hf H (Same.refl _) hs e⟩
theorem ev_int {i : Int} : Ev K G (tC (.int i)) S (.int i) S := fun σ Hf H hs Q q => q _ Hf H (Same.refl _) hs (.int i)
theorem ev_bl : Ev K G (tC (.bl b)) S (.bool b) S := fun σ Hf H hs Q q => q _ Hf H (Same.refl _) hs (.bl b)
theorem ev_non : Ev K G (tC .non) S .none S := fun σ Hf H hs Q q => q _ Hf H (Same.refl _) hs .non
theorem ev_str {w : Str} : Ev K G (tC (.str w)) S (.str w) S := fun σ Hf H hs Q q => q _ Hf H (Same.refl _) hs (.str w)
theorem Ev.is (h : Ev K G te S x S1) (e : x = y) : Ev K G te S y S1 := e ▸ h
theorem EvB.is (h : EvB K G tt S b S1) (e : b = b1) : EvB K G tt S b1 S1 := e ▸ h
theorem EvN.is {c' : Cn} (h : EvN K G te S c S1) (e : c = c') : EvN K G te S c' S1 := e ▸ h

/-! ### operations by values -/
def OpV (K : PySem.W.Frag) (r : R2) (x y d : D) : Prop := ∀ (Hf H : Hp) (v w : V), Same Hf H → Dq K Hf v x → Dq K Hf w y → ∀ Q : VK, (∀ z, Dq K Hf z d → Q z H) → r v w H Q
def UnV (K : PySem.W.Frag) (r : V → Hp → VK → Prop) (x d : D) : Prop := ∀ (Hf H : Hp) (v : V), Same Hf H → Dq K Hf v x → ∀ Q : VK, (∀ z, Dq K Hf z d → Q z H) → r v H Q
def CaV (K : PySem.W.Frag) (r : List V → Hp → VK → Prop) (ds : List D) (d : D) : Prop := ∀ (Hf H : Hp) (vs : List V), Same Hf H → DqAll K Hf vs ds → ∀ Q : VK, (∀ z, Dq K Hf z d → Q z H) → r vs H Q
def MtV (K : PySem.W.Frag) (r : V → List V → Hp → VK → Prop) (x : D) (ds : List D) (d : D) : Prop := ∀ (Hf H : Hp) (v : V) (vs : List V), Same Hf H → Dq K Hf v x → DqAll K Hf vs ds → ∀ Q : VK, (∀ z, Dq K Hf z d → Q z H) → r v vs H Q
/-- a new object -/
abbrev NewQ (K : PySem.W.Frag) (Hf H : Hp) (c : Cn) (Q : VK) : Prop := ∀ p o, H p = none → CnAt K Hf (upd H p o) p c → Q (.ref p) (upd H p o)
def OpN (K : PySem.W.Frag) (r : R2) (x y : D) (c : Cn) : Prop := ∀ (Hf H : Hp) (v w : V), Same Hf H → Dq K Hf v x → Dq K Hf w y → ∀ Q : VK, NewQ K Hf H c Q → r v w H Q
def CaN (K : PySem.W.Frag) (r : List V → Hp → VK → Prop) (ds : List D) (c : Cn) : Prop := ∀ (Hf H : Hp) (vs : List V), Same Hf H → DqAll K Hf vs ds → ∀ Q : VK, NewQ K Hf H c Q → r vs H Q

theorem ev_op {r : R2} (ha : Ev K G ta S x S1) (hb : Ev K G tb S1 y S2) (hr : OpV K r x y d) : Ev K G (tOp r ta tb) S d S2 := fun σ Hf H hs Q q =>
  ha σ Hf H hs _ fun v Hn H2 e s1 dv => hb σ Hn H2 s1 _ fun w Hm H3 e2 s2 dw =>
    hr Hm H3 v w s2.ex (dp_mono e2 _ _ dv) dw Q fun z dz => q z Hm H3 (e.trans e2) s2 dz
theorem ev_un {r : V → Hp → VK → Prop} (ha : Ev K G ta S x S1) (hr : UnV K r x d) : Ev K G (tUn r ta) S d S1 := fun σ Hf H hs Q q =>
  ha σ Hf H hs _ fun v Hn H2 e s1 dv => hr Hn H2 v s1.ex dv Q fun z dz => q z Hn H2 e s1 dz
theorem ev_ca {r : List V → Hp → VK → Prop} {tas : TA} (ha : EvA K G tas S ds S1) (hr : CaV K r ds d) : Ev K G (tCB r tas) S d S1 := fun σ Hf H hs Q q =>
  ha σ Hf H hs _ fun vs Hn H2 e s1 dv => hr Hn H2 vs s1.ex dv Q fun z dz => q z Hn H2 e s1 dz
theorem evn_op {r : R2} (ha : Ev K G ta S x S1) (hb : Ev K G tb S1 y S2) (hr : OpN K r x y c) : EvN K G (tOp r ta tb) S c S2 := fun σ Hf H hs Q q =>
  ha σ Hf H hs _ fun v Hn H2 e s1 dv => hb σ Hn H2 s1 _ fun w Hm H3 e2 s2 dw =>
    hr Hm H3 v w s2.ex (dp_mono e2 _ _ dv) dw Q fun p o hp hc => q p Hm _ (e.trans e2) (s2.grow (Gw.newO s2.ex hp)) (s2.fresh hp) hc
theorem evn_ca {r : List V → Hp → VK → Prop} {tas : TA} (ha : EvA K G tas S ds S1) (hr : CaN K r ds c) : EvN K G (tCB r tas) S c S1 := fun σ Hf H hs Q q =>
  ha σ Hf H hs _ fun vs Hn H2 e s1 dv => hr Hn H2 vs s1.ex dv Q fun p o hp hc => q p Hn _ e (s1.grow (Gw.newO s1.ex hp)) (s1.fresh hp) hc

/-! ### numbers -/
section
variable {i j : Int}
theorem ov_I0 {g : Int → Int → V} {r : D} (hg : ∀ H, Dq K H (g i j) r) : OpV K (rI0 g) (.int i) (.int j) r := fun Hf H v w _ a b Q q => by
  cases a; cases b
  exact ⟨i, j, rfl, rfl, q _ (hg _)⟩
theorem ov_I {C : Int → Int → Prop} {g : Int → Int → V} {r : D} (hc : C i j) (hg : ∀ H, Dq K H (g i j) r) : OpV K (rI C g) (.int i) (.int j) r := fun Hf H v w _ a b Q q => by
  cases a; cases b
  exact ⟨i, j, rfl, rfl, hc, q _ (hg _)⟩
theorem ev_add (ha : Ev K G ta S (.int i) S1) (hb : Ev K G tb S1 (.int j) S2) : Ev K G (tOp (rI0 fun i j => .int (i + j)) ta tb) S (.int (i + j)) S2 := ev_op ha hb (ov_I0 fun _ => .int _)
theorem ev_sub (ha : Ev K G ta S (.int i) S1) (hb : Ev K G tb S1 (.int j) S2) : Ev K G (tOp (rI0 fun i j => .int (i - j)) ta tb) S (.int (i - j)) S2 := ev_op ha hb (ov_I0 fun _ => .int _)
theorem ev_mul (hc : CMul i j) (ha : Ev K G ta S (.int i) S1) (hb : Ev K G tb S1 (.int j) S2) : Ev K G (tOp (rI CMul fun i j => .int (i * j)) ta tb) S (.int (i * j)) S2 := ev_op ha hb (ov_I hc fun _ => .int _)
theorem ev_fdiv (hc : CDiv i j) (ha : Ev K G ta S (.int i) S1) (hb : Ev K G tb S1 (.int j) S2) : Ev K G (tOp (rI CDiv fun i j => .int (i / j)) ta tb) S (.int (i / j)) S2 := ev_op ha hb (ov_I hc fun _ => .int _)
theorem ev_mod (hc : 0 < j) (ha : Ev K G ta S (.int i) S1) (hb : Ev K G tb S1 (.int j) S2) : Ev K G (tOp (rI (fun _ j => 0 < j) fun i j => .int (i % j)) ta tb) S (.int (i % j)) S2 := ev_op ha hb (ov_I hc fun _ => .int _)
theorem ev_pow (hc : CPow i j) (ha : Ev K G ta S (.int i) S1) (hb : Ev K G tb S1 (.int j) S2) : Ev K G (tOp (rI CPow fun i j => .int (i ^ j.toNat)) ta tb) S (.int (i ^ j.toNat)) S2 := ev_op ha hb (ov_I hc fun _ => .int _)
theorem ev_shl (hc : CPow i j) (ha : Ev K G ta S (.int i) S1) (hb : Ev K G tb S1 (.int j) S2) : Ev K G (tOp (rI CPow fun i j => .int (i * 2 ^ j.toNat)) ta tb) S (.int (i * 2 ^ j.toNat)) S2 := ev_op ha hb (ov_I hc fun _ => .int _)
theorem ev_shr (hc : 0 ≤ j) (ha : Ev K G ta S (.int i) S1) (hb : Ev K G tb S1 (.int j) S2) : Ev K G (tOp (rI (fun _ j => 0 ≤ j) fun i j => .int (i / 2 ^ j.toNat)) ta tb) S (.int (i / 2 ^ j.toNat)) S2 := ev_op ha hb (ov_I hc fun _ => .int _)
theorem ev_and (ha : Ev K G ta S (.int i) S1) (hb : Ev K G tb S1 (.int j) S2) : Ev K G (tOp (rI0 fun i j => .int (Builtin.bitAnd i j)) ta tb) S (.int (Builtin.bitAnd i j)) S2 := ev_op ha hb (ov_I0 fun _ => .int _)
theorem ev_or (ha : Ev K G ta S (.int i) S1) (hb : Ev K G tb S1 (.int j) S2) : Ev K G (tOp (rI0 fun i j => .int (Builtin.bitOr i j)) ta tb) S (.int (Builtin.bitOr i j)) S2 := ev_op ha hb (ov_I0 fun _ => .int _)
theorem ev_xor (ha : Ev K G ta S (.int i) S1) (hb : Ev K G tb S1 (.int j) S2) : Ev K G (tOp (rI0 fun i j => .int (Builtin.bitXor i j)) ta tb) S (.int (Builtin.bitXor i j)) S2 := ev_op ha hb (ov_I0 fun _ => .int _)
theorem ev_lt (ha : Ev K G ta S (.int i) S1) (hb : Ev K G tb S1 (.int j) S2) : Ev K G (tOp (rI0 fun i j => .bl (decide (i < j))) ta tb) S (.bool (decide (i < j))) S2 := ev_op ha hb (ov_I0 fun _ => .bl _)
theorem ev_le (ha : Ev K G ta S (.int i) S1) (hb : Ev K G tb S1 (.int j) S2) : Ev K G (tOp (rI0 fun i j => .bl (decide (i ≤ j))) ta tb) S (.bool (decide (i ≤ j))) S2 := ev_op ha hb (ov_I0 fun _ => .bl _)
theorem ev_gt (ha : Ev K G ta S (.int i) S1) (hb : Ev K G tb S1 (.int j) S2) : Ev K G (tOp (rI0 fun i j => .bl (decide (j < i))) ta tb) S (.bool (decide (j < i))) S2 := ev_op ha hb (ov_I0 fun _ => .bl _)
theorem ev_ge (ha : Ev K G ta S (.int i) S1) (hb : Ev K G tb S1 (.int j) S2) : Ev K G (tOp (rI0 fun i j => .bl (decide (j ≤ i))) ta tb) S (.bool (decide (j ≤ i))) S2 := ev_op ha hb (ov_I0 fun _ => .bl _)
theorem ev_neg (ha : Ev K G ta S (.int i) S1) : Ev K G (tUn (rU fun i => .int (-i)) ta) S (.int (-i)) S1 := ev_un ha fun Hf H v _ a Q q => by
  cases a; exact ⟨i, rfl, q _ (.int _)⟩
end

/-! ### equality, membership -/
theorem ov_eqD (h1 : SeqAt.shaped x = true) (h2 : SeqAt.shaped y = true) : OpV K (rEqD K) x y (.bool (PyData.eqv x y)) := fun Hf H v w e a b Q q =>
  ⟨x, y, dq_dp _ _ (dp_mono e _ _ a), dq_dp _ _ (dp_mono e _ _ b), h1, h2, q _ (.bl _)⟩
theorem ov_neD (h1 : SeqAt.shaped x = true) (h2 : SeqAt.shaped y = true) : OpV K (rNeD K) x y (.bool (!PyData.eqv x y)) := fun Hf H v w e a b Q q =>
  ⟨x, y, dq_dp _ _ (dp_mono e _ _ a), dq_dp _ _ (dp_mono e _ _ b), h1, h2, q _ (.bl _)⟩
theorem ov_inD (h1 : SeqAt.shaped x = true) (h2 : SeqAt.shaped (.list ds) = true) : OpV K (rInD K) x (.list ds) (.bool (ds.any fun z => PyData.eqv z x)) := fun Hf H v w e a b Q q =>
  ⟨x, ds, dq_dp _ _ (dp_mono e _ _ a), dq_dp _ _ (dp_mono e _ _ b), h1, h2, q _ (.bl _)⟩
theorem ov_niD (h1 : SeqAt.shaped x = true) (h2 : SeqAt.shaped (.list ds) = true) : OpV K (rNotInD K) x (.list ds) (.bool (!ds.any fun z => PyData.eqv z x)) := fun Hf H v w e a b Q q =>
  ⟨x, ds, dq_dp _ _ (dp_mono e _ _ a), dq_dp _ _ (dp_mono e _ _ b), h1, h2, q _ (.bl _)⟩
/-- in a tuple of flat things -/
def flatD : D → Bool
  | .none => true | .bool _ => true | .int _ => true | .str _ => true | _ => false
theorem dq_flat {H : Hp} {v : V} (h : Dq K H v x) : flatV v = flatD x := by cases h <;> rfl
theorem dqa_flat {H : Hp} : ∀ {vs : List V} {ds : List D}, DqAll K H vs ds → vs.all flatV = ds.all flatD
  | _, _, .nil => rfl
  | _, _, .cons a t => by rw [List.all_cons, List.all_cons, dq_flat a, dqa_flat t]
theorem dq_eqV {H : Hp} {v w : V} (h : Dq K H v x) (h' : Dq K H w y) (f : flatD x = true) (g : flatD y = true) : eqV v w = PyData.eqv x y := by
  cases h <;> cases h' <;> first | rfl | (cases f; done) | (cases g; done) | (unfold eqV PyData.eqv; rfl) | skip
theorem dqa_inV {H : Hp} {v : V} (h : Dq K H v x) (f : flatD x = true) : ∀ {vs : List V} {ds : List D}, DqAll K H vs ds → ds.all flatD = true → inV v vs = ds.any fun z => PyData.eqv z x
  | _, _, .nil, _ => rfl
  | _, _, .cons (v := a) (vs := as) (d := e) (ds := es) p t, g => by
    rw [List.all_cons, Bool.and_eq_true] at g
    show (eqV a v || inV v as) = (PyData.eqv e x || es.any _)
    rw [dq_eqV p h g.1 f, dqa_inV h f t g.2]
theorem ov_inT {neg : Bool} (h1 : flatD x = true) (h2 : ds.all flatD = true) : OpV K (rIn K neg) x (.tuple ds) (.bool (if neg then !(ds.any fun z => PyData.eqv z x) else ds.any fun z => PyData.eqv z x)) := fun Hf H v w e a b Q q => by
  cases b with
  | tup s t =>
    rename_i p xs
    have f1 : flatV v = true := by rw [dq_flat a]; exact h1
    have f2 : xs.all flatV = true := by rw [dqa_flat t]; exact h2
    refine ⟨p, xs, rfl, .inr (SqT.of (e _ _ s)), f1, f2, ?_⟩
    rw [dqa_inV a h1 t h2]
    exact q _ (.bl _)
end
end MM

set_option Elab.async false
set_option linter.all false
set_option maxRecDepth 100000
set_option maxHeartbeats 4000000
set_option autoImplicit false
namespace MM
open PySem L2

section
variable {K : PySem.W.Frag} {G : Ent} {te ta tb tc : TE} {tt tu : TT} {S S0 S1 S2 S3 : List VS} {d x y z : D} {ds : List D} {c : Cn} {a b b1 b2 r : Bool}

/-! ### tests -/
theorem eb_test (h : Ev K G te S (.bool b) S1) : EvB K G (tTest te) S b S1 := fun σ Hf H hs Q q =>
  h σ Hf H hs _ fun v Hn H2 e s dv => by cases dv; exact ⟨b, rfl, q Hn H2 e s⟩
theorem eb_tB (h : Ev K G te S (.bool b) S1) : EvB K G (tB te) S b S1 := fun σ Hf H hs Q q =>
  h σ Hf H hs _ fun v Hn H2 e s dv => by cases dv; exact ⟨b, rfl, q Hn H2 e s⟩
theorem eb_not (h : EvB K G tt S b S1) : EvB K G (tNot tt) S (!b) S1 := fun σ Hf H hs Q q => h σ Hf H hs _ fun Hn H2 e s => q Hn H2 e s
/-- and, or: the second is looked at where the first leaves it open -/
theorem eb_andG (ha : EvB K G tt S a S1) (hb : a = true → EvB K G tu S1 r S2) (hf : a = false → r = false ∧ S1 = S2) : EvB K G (tAnd tt tu) S r S2 := fun σ Hf H hs Q q =>
  ha σ Hf H hs _ fun Hn H2 e s => by
    cases a with
    | true =>
      show tu σ H2 Q
      exact hb rfl σ Hn H2 s Q fun Hm H3 e2 s2 => q Hm H3 (e.trans e2) s2
    | false =>
      obtain ⟨rfl, rfl⟩ := hf rfl
      exact q Hn H2 e s
theorem eb_orG (ha : EvB K G tt S a S1) (hb : a = false → EvB K G tu S1 r S2) (hf : a = true → r = true ∧ S1 = S2) : EvB K G (tOr tt tu) S r S2 := fun σ Hf H hs Q q =>
  ha σ Hf H hs _ fun Hn H2 e s => by
    cases a with
    | false =>
      show tu σ H2 Q
      exact hb rfl σ Hn H2 s Q fun Hm H3 e2 s2 => q Hm H3 (e.trans e2) s2
    | true =>
      obtain ⟨rfl, rfl⟩ := hf rfl
      exact q Hn H2 e s
theorem eb_and (ha : EvB K G tt S a S1) (hb : a = true → EvB K G tu S1 b S1) : EvB K G (tAnd tt tu) S (a && b) S1 :=
  eb_andG ha (fun e => by rw [e]; exact hb e) (fun e => by rw [e]; exact ⟨rfl, rfl⟩)
theorem eb_or (ha : EvB K G tt S a S1) (hb : a = false → EvB K G tu S1 b S1) : EvB K G (tOr tt tu) S (a || b) S1 :=
  eb_orG ha (fun e => by rw [e]; exact hb e) (fun e => by rw [e]; exact ⟨rfl, rfl⟩)
/-- as values -/
theorem ev_andG (ha : Ev K G ta S (.bool a) S1) (hb : a = true → Ev K G tb S1 (.bool r) S2) (hf : a = false → r = false ∧ S1 = S2) : Ev K G (tAndV ta tb) S (.bool r) S2 := fun σ Hf H hs Q q =>
  ha σ Hf H hs _ fun v Hn H2 e s dv => by
    cases dv
    refine ⟨a, rfl, ?_⟩
    cases a with
    | true =>
      show tb σ H2 Q
      exact hb rfl σ Hn H2 s Q fun w Hm H3 e2 s2 dw => q w Hm H3 (e.trans e2) s2 dw
    | false =>
      obtain ⟨rfl, rfl⟩ := hf rfl
      exact q _ Hn H2 e s (.bl _)
theorem ev_orG (ha : Ev K G ta S (.bool a) S1) (hb : a = false → Ev K G tb S1 (.bool r) S2) (hf : a = true → r = true ∧ S1 = S2) : Ev K G (tOrV ta tb) S (.bool r) S2 := fun σ Hf H hs Q q =>
  ha σ Hf H hs _ fun v Hn H2 e s dv => by
    cases dv
    refine ⟨a, rfl, ?_⟩
    cases a with
    | false =>
      show tb σ H2 Q
      exact hb rfl σ Hn H2 s Q fun w Hm H3 e2 s2 dw => q w Hm H3 (e.trans e2) s2 dw
    | true =>
      obtain ⟨rfl, rfl⟩ := hf rfl
      exact q _ Hn H2 e s (.bl _)
theorem ev_andV (ha : Ev K G ta S (.bool a) S1) (hb : a = true → Ev K G tb S1 (.bool b) S1) : Ev K G (tAndV ta tb) S (.bool (a && b)) S1 :=
  ev_andG ha (fun e => by rw [e]; exact hb e) (fun e => by rw [e]; exact ⟨rfl, rfl⟩)
theorem ev_orV (ha : Ev K G ta S (.bool a) S1) (hb : a = false → Ev K G tb S1 (.bool b) S1) : Ev K G (tOrV ta tb) S (.bool (a || b)) S1 :=
  ev_orG ha (fun e => by rw [e]; exact hb e) (fun e => by rw [e]; exact ⟨rfl, rfl⟩)
theorem ev_notV (ha : Ev K G ta S (.bool a) S1) : Ev K G (tNotV ta) S (.bool (!a)) S1 := fun σ Hf H hs Q q =>
  ha σ Hf H hs _ fun v Hn H2 e s dv => by cases dv; exact ⟨a, rfl, q _ Hn H2 e s (.bl _)⟩
theorem ev_if (h : EvB K G tt S b S1) (h1 : b = true → Ev K G ta S1 d S2) (h2 : b = false → Ev K G tb S1 d S2) : Ev K G (tIf tt ta tb) S d S2 := fun σ Hf H hs Q q =>
  h σ Hf H hs _ fun Hn H2 e s => by
    cases b with
    | true => exact h1 rfl σ Hn H2 s Q fun w Hm H3 e2 s2 dw => q w Hm H3 (e.trans e2) s2 dw
    | false => exact h2 rfl σ Hn H2 s Q fun w Hm H3 e2 s2 dw => q w Hm H3 (e.trans e2) s2 dw
/-- truth -/
def truD : D → Bool
  | .none => false
  | .bool b => b
  | .int i => i != 0
  | .list ds => !ds.isEmpty
  | .tuple ds => !ds.isEmpty
  | _ => false
def hasTru : D → Bool
  | .str _ => false
  | .dict _ => false
  | _ => true
theorem dqa_emp {H : Hp} : ∀ {vs : List V} {ds : List D}, DqAll K H vs ds → vs.isEmpty = ds.isEmpty
  | _, _, .nil => rfl
  | _, _, .cons _ _ => rfl
theorem eb_tru (h : Ev K G te S d S1) (hd : hasTru d = true) : EvB K G (fun σ H Q => te σ H fun x H' => ∃ k, TruV K x H' k ∧ Q k H') S (truD d) S1 := fun σ Hf H hs Q q =>
  h σ Hf H hs _ fun v Hn H2 e s dv => by
    refine ⟨truD d, ?_, q Hn H2 e s⟩
    cases dv with
    | non => rfl
    | bl b => rfl
    | int i => rfl
    | str x => cases hd
    | lst hh aa => exact .inl ⟨_, SqL.of (s.ex _ _ hh), by rw [dqa_emp aa]; rfl⟩
    | tup hh aa => exact .inr (.inl ⟨_, SqT.of (s.ex _ _ hh), by rw [dqa_emp aa]; rfl⟩)

/-! ### arguments -/
theorem ea_nil : EvA K G tNil S [] S := fun σ Hf H hs Q q => q [] Hf H (Same.refl _) hs .nil
theorem ea_cons {tr : TA} (h : Ev K G ta S d S1) (hr : EvA K G tr S1 ds S2) : EvA K G (tCons ta tr) S (d :: ds) S2 := fun σ Hf H hs Q q =>
  h σ Hf H hs _ fun v Hn H2 e s dv => hr σ Hn H2 s _ fun vs Hm H3 e2 s2 dvs => q (v :: vs) Hm H3 (e.trans e2) s2 (.cons (dp_mono e2 _ _ dv) dvs)
/-- the slot itself -/
theorem ea1_here {tr : TA} {i : Nat} {s : VS} (hs : S[i]? = some s) (m : s.mine = true) (hr : EvA K G tr S ds S1) : EvA1 K G (tCons (tVar i) tr) S [] i ds S1 := fun σ Hf H h Q q => by
  obtain ⟨p, c, a, _, _⟩ := (h.val i s hs).mine_at m
  exact ⟨.ref p, a, hr σ Hf H h _ fun us Hn H2 e s2 dv => q [] (.ref p) us Hn H2 e s2 .nil a dv⟩
theorem ea1_cons {tr : TA} {i : Nat} {pre post : List D} (h : Ev K G ta S d S1) (hr : EvA1 K G tr S1 pre i post S2) : EvA1 K G (tCons ta tr) S (d :: pre) i post S2 := fun σ Hf H hs Q q =>
  h σ Hf H hs _ fun v Hn H2 e s dv => hr σ Hn H2 s _ fun vs w us Hm H3 e2 s2 dvs hw dus => q (v :: vs) w us Hm H3 (e.trans e2) s2 (.cons (dp_mono e2 _ _ dv) dvs) hw dus

/-! ### displays -/
theorem small {n : Nat} (h : n ≤ 1000000) : n ≤ sizeLine := Nat.le_trans h (by decide)
theorem smallLt {n : Nat} (h : n ≤ 1000000) : n < sizeLine := Nat.lt_of_le_of_lt h (by decide)
theorem ev_tup {t : TA} (h : EvA K G t S ds S1) (hl : Nat.ble ds.length 1000000 = true := by rfl) : Ev K G (tTup t) S (.tuple ds) S1 := fun σ Hf H hs Q q =>
  h σ Hf H hs _ fun vs Hn H2 e s dv => ⟨small (by rw [dpa_len dv]; exact Nat.le_of_ble_eq_true hl), fun p hp => by
    have g := Gw.new (o := .tup vs) s.ex hp
    exact q (.ref p) _ _ (e.trans g.a) (s.grow g) (.tup upd_same (dpa_mono g.a _ _ dv))⟩
theorem evn_lst {t : TA} (h : EvA K G t S ds S1) (hl : Nat.ble ds.length 1000000 = true := by rfl) : EvN K G (tLst t) S (.lst ds) S1 := fun σ Hf H hs Q q =>
  h σ Hf H hs _ fun vs Hn H2 e s dv => ⟨small (by rw [dpa_len dv]; exact Nat.le_of_ble_eq_true hl), fun p hp =>
    q p Hn _ e (s.grow (Gw.newO s.ex hp)) (s.fresh hp) ⟨vs, upd_same, dv⟩⟩

/-! ### items, slices, len -/
theorem atI_dq {H : Hp} {vs : List V} {ds : List D} {i : Int} {d : D} (h : DqAll K H vs ds) (e : atI ds i = some d) : ∃ v, atI vs i = some v ∧ Dq K H v d := by
  unfold atI at e ⊢
  rw [dpa_len h]
  cases q : ixN ds.length i with
  | none => rw [q] at e; cases e
  | some j =>
    rw [q] at e
    exact dpa_get' h e
theorem ev_ixL {i : Int} (ha : Ev K G ta S (.list ds) S1) (hb : Ev K G tb S1 (.int i) S2) (hd : atI ds i = some d) : Ev K G (tOp (rIxL K) ta tb) S d S2 := ev_op ha hb fun Hf H v w e a b Q q => by
  cases a with
  | lst h t =>
    cases b
    obtain ⟨v, h1, h2⟩ := atI_dq t hd
    exact ⟨_, _, i, v, rfl, rfl, SqL.of (e _ _ h), h1, q v h2⟩
theorem ev_ixT {i : Int} (ha : Ev K G ta S (.tuple ds) S1) (hb : Ev K G tb S1 (.int i) S2) (hd : atI ds i = some d) : Ev K G (tOp (rIxT K) ta tb) S d S2 := ev_op ha hb fun Hf H v w e a b Q q => by
  cases a with
  | tup h t =>
    cases b
    obtain ⟨v, h1, h2⟩ := atI_dq t hd
    exact ⟨_, _, i, v, rfl, rfl, SqT.of (e _ _ h), h1, q v h2⟩
/-- a list or a tuple -/
def seqD : D → Option (List D)
  | .list ds => some ds
  | .tuple ds => some ds
  | _ => none
theorem ev_ix {i : Int} (ha : Ev K G ta S x S1) (hb : Ev K G tb S1 (.int i) S2) (hx : seqD x = some ds) (hd : atI ds i = some d) : Ev K G (tOp (rIx K) ta tb) S d S2 := ev_op ha hb fun Hf H v w e a b Q q => by
  cases a with
  | lst h t =>
    cases b; cases hx
    obtain ⟨v, h1, h2⟩ := atI_dq t hd
    exact .inl ⟨_, _, i, v, rfl, rfl, SqL.of (e _ _ h), h1, q v h2⟩
  | tup h t =>
    cases b; cases hx
    obtain ⟨v, h1, h2⟩ := atI_dq t hd
    exact .inr (.inl ⟨_, _, i, v, rfl, rfl, SqT.of (e _ _ h), h1, q v h2⟩)
  | _ => cases hx
def EvO (K : PySem.W.Frag) (G : Ent) (to : TO) (S : List VS) (o : Option Int) (S' : List VS) : Prop :=
  ∀ (σ : L2.St) (Hf H : Hp), SOk K G Hf H S σ → ∀ Q : Option Int → Hp → Prop, (∀ Hn H2, Same Hf Hn → SOk K G Hn H2 S' σ → Q o H2) → to σ H Q
theorem eo_none : EvO K G tNoPart S none S := fun σ Hf H hs Q q => q Hf H (Same.refl _) hs
theorem eo_some {i : Int} (h : Ev K G te S (.int i) S1) : EvO K G (tPart te) S (some i) S1 := fun σ Hf H hs Q q =>
  h σ Hf H hs _ fun v Hn H2 e s dv => by cases dv; exact ⟨i, rfl, q Hn H2 e s⟩
/-- xs[lo:hi] -/
def cutL {α : Type} (xs : List α) (lo hi : Option Int) : List α := (xs.drop (HT.sIx xs.length 0 lo)).take (HT.sIx xs.length xs.length hi - HT.sIx xs.length 0 lo)
theorem cutL_map {α β : Type} (f : α → β) (xs : List α) (lo hi : Option Int) : cutL (xs.map f) lo hi = (cutL xs lo hi).map f := by
  unfold cutL; rw [List.length_map, List.map_take, List.map_drop]
theorem dqa_cut {H : Hp} {vs : List V} {ds : List D} (h : DqAll K H vs ds) (lo hi : Option Int) : DqAll K H (cutV vs lo hi) (cutL ds lo hi) := by
  unfold cutV cutL; rw [dpa_len h]; exact dpa_take _ (dpa_drop _ h)
theorem evn_cut {tl th : TO} {lo hi : Option Int} (ha : Ev K G ta S (.list ds) S1) (hl : EvO K G tl S1 lo S2) (hh : EvO K G th S2 hi S3) : EvN K G (tSl (rSlL K) ta tl th) S (.lst (cutL ds lo hi)) S3 := fun σ Hf H hs Q q =>
  ha σ Hf H hs _ fun v Hn H2 e s dv => hl σ Hn H2 s _ fun Hm H3 e2 s2 => hh σ Hm H3 s2 _ fun Ho H4 e3 s3 => by
    have dv3 := dp_mono (e2.trans e3) _ _ dv
    cases dv3 with
    | lst h t => exact ⟨_, _, rfl, SqL.of (s3.ex _ _ h), fun p hp => q p Ho _ ((e.trans e2).trans e3) (s3.grow (Gw.newO s3.ex hp)) (s3.fresh hp) ⟨_, upd_same, dqa_cut t lo hi⟩⟩
/-- xs[::-1] -/
theorem evn_rev (ha : Ev K G ta S (.list ds) S1) : EvN K G (tRevL K ta) S (.lst ds.reverse) S1 := fun σ Hf H hs Q q =>
  ha σ Hf H hs _ fun v Hn H2 e s dv => by
    cases dv with
    | lst h t => exact ⟨_, _, rfl, SqL.of (s.ex _ _ h), fun p hp => q p Hn _ e (s.grow (Gw.newO s.ex hp)) (s.fresh hp) ⟨_, upd_same, dpa_rev t⟩⟩
abbrev rLenS (K : PySem.W.Frag) : List V → Hp → VK → Prop := fun xs H Q => ∃ p ys, xs = [.ref p] ∧ (SqL K H p ys ∨ SqT K H p ys) ∧ Q (.int ys.length) H
theorem dqa_one {H : Hp} {vs : List V} (h : DqAll K H vs [d]) : ∃ v, vs = [v] ∧ Dq K H v d := by
  cases h with
  | cons a t => cases t; exact ⟨_, rfl, a⟩
theorem dqa_two {H : Hp} {vs : List V} (h : DqAll K H vs [x, y]) : ∃ v w, vs = [v, w] ∧ Dq K H v x ∧ Dq K H w y := by
  cases h with
  | cons a t =>
    obtain ⟨w, rfl, b⟩ := dqa_one t
    exact ⟨_, _, rfl, a, b⟩
theorem ev_len (ha : Ev K G ta S x S1) (hx : seqD x = some ds) : Ev K G (tCB (rLenS K) (tCons ta tNil)) S (.int ds.length) S1 := ev_ca (ea_cons ha ea_nil) fun Hf H vs e a Q q => by
  obtain ⟨v, rfl, b⟩ := dqa_one a
  cases b with
  | lst h t => cases hx; exact ⟨_, _, rfl, .inl (SqL.of (e _ _ h)), by rw [dpa_len t]; exact q _ (.int _)⟩
  | tup h t => cases hx; exact ⟨_, _, rfl, .inr (SqT.of (e _ _ h)), by rw [dpa_len t]; exact q _ (.int _)⟩
  | _ => cases hx
abbrev rListS (K : PySem.W.Frag) : List V → Hp → VK → Prop := fun xs H Q => ∃ p ys, xs = [.ref p] ∧ (SqL K H p ys ∨ SqT K H p ys) ∧ ∀ l, H l = none → Q (.ref l) (upd H l (.lst ys))
theorem evn_list (ha : Ev K G ta S x S1) (hx : seqD x = some ds) : EvN K G (tCB (rListS K) (tCons ta tNil)) S (.lst ds) S1 := evn_ca (ea_cons ha ea_nil) fun Hf H vs e a Q q => by
  obtain ⟨v, rfl, b⟩ := dqa_one a
  cases b with
  | lst h t => cases hx; exact ⟨_, _, rfl, .inl (SqL.of (e _ _ h)), fun l hl => q l _ hl ⟨_, upd_same, t⟩⟩
  | tup h t => cases hx; exact ⟨_, _, rfl, .inr (SqT.of (e _ _ h)), fun l hl => q l _ hl ⟨_, upd_same, t⟩⟩
  | _ => cases hx
/-- xs + ys -/
theorem evn_cat {es : List D} (ha : Ev K G ta S (.list ds) S1) (hb : Ev K G tb S1 (.list es) S2) (hl : ds.length + es.length ≤ 1000000) : EvN K G (tOp rCat ta tb) S (.lst (ds ++ es)) S2 := evn_op ha hb fun Hf H v w e a b Q q => by
  cases a with
  | lst h t =>
    cases b with
    | lst h2 t2 => exact ⟨_, _, _, _, rfl, rfl, e _ _ h, e _ _ h2, small (by rw [dpa_len t, dpa_len t2]; exact hl), fun p hp => q p _ hp ⟨_, upd_same, dpa_app t t2⟩⟩
/-- xs * n -/
theorem evn_rep {k : Int} (ha : Ev K G ta S (.list ds) S1) (hb : Ev K G tb S1 (.int k) S2) (hk : 0 ≤ k ∧ k ≤ 1000) (hl : ds.length ≤ 1000) : EvN K G (tOp rRep ta tb) S (.lst (List.replicate k.toNat ds).flatten) S2 := evn_op ha hb fun Hf H v w e a b Q q => by
  cases a with
  | lst h t =>
    cases b
    have h2 : ∀ n : Nat, DqAll K Hf (List.replicate n _).flatten (List.replicate n ds).flatten := fun n => by
      induction n with
      | zero => exact .nil
      | succ n ih => rw [List.replicate_succ, List.replicate_succ, List.flatten_cons, List.flatten_cons]; exact dpa_app t ih
    refine ⟨_, k, _, rfl, rfl, e _ _ h, by omega, by omega, small ?_, fun p hp => q p _ hp ⟨_, upd_same, h2 _⟩⟩
    rw [dpa_len t]
    calc ds.length * k.toNat ≤ 1000 * 1000 := Nat.mul_le_mul hl (by omega)
      _ = 1000000 := rfl
end
end MM

set_option Elab.async false
set_option linter.all false
set_option maxRecDepth 100000
set_option maxHeartbeats 4000000
set_option autoImplicit false
namespace MM
open PySem L2

/-! ## what is walked -/
structure Wk (K : PySem.W.Frag) (J : It) (Hf : Hp) (ds : List D) : Prop where
  go : ∀ i Hn H, Same Hf Hn → Same Hn H → i < ds.length → J.go i H
  stop : ∀ Hn H, Same Hf Hn → Same Hn H → J.stop ds.length H
  yld : ∀ i Hn H x H', Same Hf Hn → Same Hn H → i < ds.length → J.yld i H x H' → ∃ Hm d, Gw Hn H Hm H' ∧ ds[i]? = some d ∧ Dq K Hm x d
def Src (K : PySem.W.Frag) (G : Ent) (ti : TI) (S : List VS) (ds : List D) (S' : List VS) : Prop :=
  ∀ (σ : L2.St) (Hf H : Hp), SOk K G Hf H S σ → ∀ R : It → Hp → Prop, (∀ J Hn H2, Same Hf Hn → SOk K G Hn H2 S' σ → Wk K J Hn ds → R J H2) → ti σ H R
/-- a target takes an item -/
def Tg (K : PySem.W.Frag) (G : Ent) (g : TG) (vs : List Nat) (S : List VS) (d : D) (S' : List VS) : Prop :=
  ∀ (σ : L2.St) (Hf H : Hp) (v : V), SOk K G Hf H S σ → Dq K Hf v d → ∀ Q : L2.St → Hp → Prop, (∀ σ2 : L2.St, SOk K G Hf H S' σ2 → (∀ i, i ∉ vs → σ2[i]? = σ[i]?) → σ2.length = σ.length → Q σ2 H) → g v σ H Q
def rangeL (lo hi : Int) : List Int := (List.range (hi - lo).toNat).map fun i => lo + (i : Nat)
theorem rangeL_len (lo hi : Int) : (rangeL lo hi).length = (hi - lo).toNat := by simp [rangeL]
theorem rangeL_get {lo hi : Int} {i : Nat} (h : i < (hi - lo).toNat) : (rangeL lo hi)[i]? = some (lo + (i : Nat)) := by simp [rangeL, h]

section
variable {K : PySem.W.Frag} {G : Ent} {te ta tb tc : TE} {tt tu : TT} {S S0 S1 S2 S3 : List VS} {d x y z : D} {ds : List D} {c : Cn} {a b b1 b2 r : Bool} {J : It} {Hf H : Hp}

theorem wk_list {p : Addr} {xs : List V} (h : Hf p = some (.lst xs)) (t : DqAll K Hf xs ds) : Wk K (Itl K p) Hf ds where
  go := fun i Hn H e e2 hi => by
    obtain ⟨v, h1, _⟩ := dpa_get' t (List.getElem?_eq_getElem hi)
    exact ⟨xs, v, SqL.of (e2 _ _ (e _ _ h)), h1⟩
  stop := fun Hn H e e2 => ⟨xs, SqL.of (e2 _ _ (e _ _ h)), by rw [dpa_len t]; exact Nat.le_refl _⟩
  yld := fun i Hn H x H' e e2 hi ⟨eh, y⟩ => by
    subst eh
    have hx := y xs (SqL.of (e2 _ _ (e _ _ h)))
    obtain ⟨d, h1, h2⟩ := dpa_get t hx
    exact ⟨Hn, d, Gw.refl e2, h1, dp_mono e _ _ h2⟩
theorem wk_tup {p : Addr} {xs : List V} (h : Hf p = some (.tup xs)) (t : DqAll K Hf xs ds) : Wk K (Itt K p) Hf ds where
  go := fun i Hn H e e2 hi => by
    obtain ⟨v, h1, _⟩ := dpa_get' t (List.getElem?_eq_getElem hi)
    exact ⟨xs, v, SqT.of (e2 _ _ (e _ _ h)), h1⟩
  stop := fun Hn H e e2 => ⟨xs, SqT.of (e2 _ _ (e _ _ h)), by rw [dpa_len t]; exact Nat.le_refl _⟩
  yld := fun i Hn H x H' e e2 hi ⟨eh, y⟩ => by
    subst eh
    have hx := y xs (SqT.of (e2 _ _ (e _ _ h)))
    obtain ⟨d, h1, h2⟩ := dpa_get t hx
    exact ⟨Hn, d, Gw.refl e2, h1, dp_mono e _ _ h2⟩
theorem wk_range {lo hi : Int} : Wk K (Itr lo (hi - lo).toNat) Hf ((rangeL lo hi).map .int) where
  go := fun i Hn H e e2 hi' => by rw [List.length_map, rangeL_len] at hi'; exact hi'
  stop := fun Hn H e e2 => by rw [List.length_map, rangeL_len]; exact Nat.le_refl _
  yld := fun i Hn H x H' e e2 hi' ⟨eh, y⟩ => by
    subst eh; subst y
    rw [List.length_map, rangeL_len] at hi'
    exact ⟨Hn, .int (lo + (i : Nat)), Gw.refl e2, by rw [List.getElem?_map, rangeL_get hi']; rfl, .int _⟩
theorem src_list (h : Ev K G te S (.list ds) S1) : Src K G (iList K te) S ds S1 := fun σ Hf H hs R q =>
  h σ Hf H hs _ fun v Hn H2 e s dv => by
    cases dv with
    | lst hh t => exact ⟨_, rfl, ⟨_, SqL.of (s.ex _ _ hh)⟩, q _ Hn H2 e s (wk_list hh t)⟩
theorem src_tup (h : Ev K G te S (.tuple ds) S1) : Src K G (iTup K te) S ds S1 := fun σ Hf H hs R q =>
  h σ Hf H hs _ fun v Hn H2 e s dv => by
    cases dv with
    | tup hh t => exact ⟨_, rfl, ⟨_, SqT.of (s.ex _ _ hh)⟩, q _ Hn H2 e s (wk_tup hh t)⟩
theorem dqa_int1 {vs : List V} {i : Int} (h : DqAll K H vs [.int i]) : vs = [.int i] := by
  obtain ⟨v, rfl, a⟩ := dqa_one h; cases a; rfl
theorem dqa_int2 {vs : List V} {i j : Int} (h : DqAll K H vs [.int i, .int j]) : vs = [.int i, .int j] := by
  obtain ⟨v, w, rfl, a, b⟩ := dqa_two h; cases a; cases b; rfl
theorem src_range1 {ts : TA} {n : Int} (h : EvA K G ts S [.int n] S1) (hn : -(2 ^ 62) ≤ n ∧ n < 2 ^ 62) : Src K G (iRng1 ts) S ((rangeL 0 n).map .int) S1 := fun σ Hf H hs R q =>
  h σ Hf H hs _ fun vs Hn H2 e s dv => by
    obtain rfl := dqa_int1 dv
    refine ⟨n, rfl, hn.1, hn.2, ?_⟩
    have w : Wk K (Itr 0 (n - 0).toNat) Hn ((rangeL 0 n).map .int) := wk_range
    rw [Int.sub_zero] at w
    exact q _ Hn H2 e s w
theorem src_range2 {ts : TA} {lo n : Int} (h : EvA K G ts S [.int lo, .int n] S1) (hn : (-(2 ^ 62) ≤ lo ∧ lo < 2 ^ 62) ∧ -(2 ^ 62) ≤ n ∧ n < 2 ^ 62) : Src K G (iRng2 ts) S ((rangeL lo n).map .int) S1 := fun σ Hf H hs R q =>
  h σ Hf H hs _ fun vs Hn H2 e s dv => by
    obtain rfl := dqa_int2 dv
    exact ⟨lo, n, rfl, ⟨hn.1.1, hn.1.2, hn.2.1, hn.2.2⟩, q _ Hn H2 e s wk_range⟩

/-! ### targets -/
theorem tg_name {j : Nat} (hj : j < S.length) : Tg K G (gName j) [j] S d (S.set j (.val d)) := fun σ Hf H v hs dv Q q =>
  q _ (hs.setV dv hj) (fun i hi => by rw [List.getElem?_set_ne]; intro e; exact hi (by simp [e])) (by simp)
theorem tg_tup2 {g1 g2 : TG} {vs1 vs2 : List Nat} (h1 : Tg K G g1 vs1 S x S1) (h2 : Tg K G g2 vs2 S1 y S2) : Tg K G (gTup K 2 (gCons g1 (gCons g2 gNil))) (vs1 ++ vs2) S (.tuple [x, y]) S2 := fun σ Hf H v hs dv Q q => by
  cases dv with
  | tup hh t =>
    obtain ⟨v, w, rfl, a, b⟩ := dqa_two t
    refine ⟨_, _, rfl, SqT.of (hs.ex _ _ hh), rfl, v, _, rfl, h1 σ Hf H v hs a _ fun σ2 s2 k2 l2 => ⟨w, _, rfl, h2 σ2 Hf H w s2 b _ fun σ3 s3 k3 l3 => ⟨rfl, q σ3 s3 (fun i hi => ?_) (l3.trans l2)⟩⟩⟩
    rw [k3 i (fun z => hi (List.mem_append_right _ z)), k2 i (fun z => hi (List.mem_append_left _ z))]

/-! ## comprehensions -/
def VS.still : VS → Bool
  | .any => true
  | .val _ => true
  | _ => false
def wipeS (S : List VS) : List Nat → List VS
  | [] => S
  | v :: vs => (wipeS S vs).set v .any
/-- the block's slots as they were, all else as it is -/
def mixS (S T : List VS) (vs : List Nat) : List VS := (S.zip T).zipIdx.map fun p => if p.2 ∈ vs then p.1.1 else p.1.2
theorem SOk.wipe {σ : L2.St} (h : SOk K G Hf H S σ) : ∀ vs : List Nat, SOk K G Hf H (wipeS S vs) (L2.wipe σ vs)
  | [] => h
  | v :: vs => (SOk.wipe h vs).setAny _
theorem wipe_get {σ : L2.St} : ∀ (vs : List Nat) (i : Nat), (L2.wipe σ vs)[i]? = if i ∈ vs then (if i < σ.length then some none else none) else σ[i]?
  | [], i => by simp [L2.wipe]
  | v :: vs, i => by
    show ((L2.wipe σ vs).set v none)[i]? = _
    rw [List.getElem?_set, wipe_length]
    by_cases h : v = i
    · subst h; simp
    · rw [if_neg h, wipe_get vs i]
      have : i ≠ v := fun z => h z.symm
      simp [this]
theorem wipe_ext {σ τ : L2.St} {vs : List Nat} (hl : σ.length = τ.length) (h : ∀ i, i ∉ vs → σ[i]? = τ[i]?) : L2.wipe σ vs = L2.wipe τ vs := by
  apply List.ext_getElem?
  intro i
  rw [wipe_get, wipe_get]
  by_cases hi : i ∈ vs
  · rw [if_pos hi, if_pos hi, hl]
  · rw [if_neg hi, if_neg hi, h i hi]
theorem wipe_wipe {σ : L2.St} {vs : List Nat} : L2.wipe (L2.wipe σ vs) vs = L2.wipe σ vs :=
  wipe_ext (wipe_length _ _) fun i hi => by rw [wipe_get, if_neg hi]
theorem mixS_get {S T : List VS} {vs : List Nat} (hl : S.length = T.length) (i : Nat) : (mixS S T vs)[i]? = if i ∈ vs then S[i]? else T[i]? := by
  unfold mixS
  rw [List.getElem?_map, List.getElem?_zipIdx]
  by_cases h : i < S.length
  · have h2 : i < T.length := by omega
    rw [List.getElem?_eq_getElem (by simp; omega), List.getElem?_eq_getElem h, List.getElem?_eq_getElem h2]
    simp
    split <;> rfl
  · rw [List.getElem?_eq_none (by simp; omega), List.getElem?_eq_none (by omega), List.getElem?_eq_none (by omega)]
    simp
/-- behind the block -/
theorem SOk.unwipe {σ : L2.St} {Hn H2 : Hp} {T : List VS} {vs : List Nat} (h0 : SOk K G Hf H S σ) (h : SOk K G Hn H2 T (L2.wipe σ vs)) (e : Same Hf Hn) (hm : ∀ (i : Nat) (s : VS), i ∈ vs → S[i]? = some s → s.still = true) :
    SOk K G Hn H2 (mixS S T vs) σ := by
  have hl : S.length = T.length := by rw [← h0.len, ← h.len, wipe_length]
  have mm : ∀ (i : Nat) (s : VS) (p : Addr), (mixS S T vs)[i]? = some s → Owns Hn s σ[i]? p → i ∉ vs ∧ T[i]? = some s := fun i s p es ms => by
    rw [mixS_get hl] at es
    by_cases hi : i ∈ vs
    · rw [if_pos hi] at es
      have := hm i s hi es
      cases s with
      | any => cases ms
      | val d => cases ms
      | _ => cases this
    · rw [if_neg hi] at es; exact ⟨hi, es⟩
  refine ⟨by rw [h0.len]; simp [mixS, hl], h.ex, h.exf, h.fr, h.dj, h.bh, fun i s es => ?_, fun i j s t p ei ej xi xj => ?_, fun x o ex => ?_⟩
  · rw [mixS_get hl] at es
    by_cases hi : i ∈ vs
    · rw [if_pos hi] at es
      have v := h0.val i s es
      have m := hm i s hi es
      cases s with
      | any => trivial
      | val d => obtain ⟨v, a, b⟩ := v; exact ⟨v, a, dp_mono e _ _ b⟩
      | _ => cases m
    · rw [if_neg hi] at es
      have v := h.val i s es
      rw [wipe_get, if_neg hi] at v
      exact v
  · obtain ⟨ni, ti⟩ := mm i s p ei xi
    obtain ⟨nj, tj⟩ := mm j t p ej xj
    exact h.inj i j s t p ti tj (by rw [wipe_get, if_neg ni]; exact xi) (by rw [wipe_get, if_neg nj]; exact xj)
  · obtain ⟨a, b, c⟩ := h.pin x o ex
    refine ⟨a, b, fun i s es xs => ?_⟩
    obtain ⟨ni, ti⟩ := mm i s x es xs
    exact c i s ti (by rw [wipe_get, if_neg ni]; exact xs)

/-- with state -/
def cmpM {α β τ : Type} (f : α → τ → Option (Option β × τ)) : List α → τ → Option (List β × τ)
  | [], s => some ([], s)
  | a :: as, s => match f a s with
    | none => none
    | some (o, s1) => match cmpM f as s1 with
      | none => none
      | some (bs, s2) => some (match o with | some b => b :: bs | none => bs, s2)
/-- one turn of the block -/
def LcB (K : PySem.W.Frag) (G : Ent) (g : TG) (tt : TT) (te : TE) (vs : List Nat) (S : List VS) (d : D) (o : Option D) (S' : List VS) : Prop :=
  ∀ (σ : L2.St) (Hf H : Hp) (v : V), SOk K G Hf H S (L2.wipe σ vs) → Dq K Hf v d → ∀ (Q1 : V → Hp → Prop) (Q0 : Hp → Prop),
    (∀ Hn H2, Same Hf Hn → SOk K G Hn H2 S' (L2.wipe σ vs) → (match o with | some e => ∀ w, Dq K Hn w e → Q1 w H2 | none => Q0 H2)) →
    g v (L2.wipe σ vs) H fun σ2 H2 => L2.wipe σ2 vs = L2.wipe σ vs ∧ tt σ2 H2 fun b H3 => if b = true then te σ2 H3 Q1 else Q0 H3
theorem lcb_keep {g : TG} {vs us : List Nat} {e : D} (hg : Tg K G g us S d S1) (ht : EvB K G tt S1 true S2) (he : Ev K G te S2 e S3) (hu : ∀ i ∈ us, i ∈ vs) : LcB K G g tt te vs S d (some e) (wipeS S3 vs) := fun σ Hf H v hs dv Q1 Q0 q =>
  hg (L2.wipe σ vs) Hf H v hs dv _ fun σ2 s2 k2 l2 => by
    have hw : L2.wipe σ2 vs = L2.wipe σ vs := by
      rw [← wipe_wipe (σ := σ)]
      exact wipe_ext l2 fun i hi => k2 i fun z => hi (hu i z)
    exact ⟨hw, ht σ2 Hf H s2 _ fun Hn H2 e2 s3 => he σ2 Hn H2 s3 _ fun w Hm H3 e3 s4 dw => by
      have s5 := s4.wipe vs
      rw [hw] at s5
      exact q Hm H3 (e2.trans e3) s5 w dw⟩
theorem lcb_drop {g : TG} {vs us : List Nat} (hg : Tg K G g us S d S1) (ht : EvB K G tt S1 false S2) (hu : ∀ i ∈ us, i ∈ vs) : LcB K G g tt te vs S d none (wipeS S2 vs) := fun σ Hf H v hs dv Q1 Q0 q =>
  hg (L2.wipe σ vs) Hf H v hs dv _ fun σ2 s2 k2 l2 => by
    have hw : L2.wipe σ2 vs = L2.wipe σ vs := by
      rw [← wipe_wipe (σ := σ)]
      exact wipe_ext l2 fun i hi => k2 i fun z => hi (hu i z)
    refine ⟨hw, ht σ2 Hf H s2 _ fun Hn H2 e2 s3 => ?_⟩
    have s5 := s3.wipe vs
    rw [hw] at s5
    exact q Hn H2 e2 s5
theorem eb_yes : EvB K G tYes S true S := fun σ Hf H hs Q q => q Hf H (Same.refl _) hs

/-- the entry where the object at p must stay as it is, too -/
def Ent.pinAt (G : Ent) (p : Addr) (o : HO) : Ent := { G with P := upd G.P p o }
theorem shAt_pin {p : Addr} {o : HO} : ∀ {cs : List (D ⊕ Cn)} {vs : List V}, ShAt K G Hf H cs vs → ShAt K (G.pinAt p o) Hf H cs vs
  | _, _, .nil => .nil
  | _, _, .val a t => .val a (shAt_pin t)
  | _, _, .own a b c t => .own a b c (shAt_pin t)
theorem shAt_unpin {p : Addr} {o : HO} : ∀ {cs : List (D ⊕ Cn)} {vs : List V}, ShAt K (G.pinAt p o) Hf H cs vs → ShAt K G Hf H cs vs
  | _, _, .nil => .nil
  | _, _, .val a t => .val a (shAt_unpin t)
  | _, _, .own a b c t => .own a b c (shAt_unpin t)
theorem SOk.pinned {σ : L2.St} {p : Addr} {o : HO} (h : SOk K G Hf H S σ) (f : Fresh K G Hf S σ p) (e : H p = some o) : SOk K (G.pinAt p o) Hf H S σ :=
  ⟨h.len, h.ex, h.exf, h.fr, h.dj, h.bh, fun i s es => by
    have v := h.val i s es
    cases s with
    | shell cs => obtain ⟨t, vs, a, b, c, d⟩ := v; exact ⟨t, vs, a, b, shAt_pin c, d⟩
    | _ => exact v, h.inj, fun x u ex => by
    by_cases hx : x = p
    · subst hx
      have ex' : upd G.P x o x = some u := ex
      rw [upd_same] at ex'; cases ex'
      exact ⟨e, f.hf, f.no⟩
    · have ex' : upd G.P p o x = some u := ex
      rw [upd_ne hx] at ex'
      exact h.pin x u ex'⟩
theorem SOk.unpinned {σ : L2.St} {p : Addr} {o : HO} (h : SOk K (G.pinAt p o) Hf H S σ) (hg : G.H p = none) (hP : G.P p = none) : SOk K G Hf H S σ ∧ Fresh K G Hf S σ p ∧ H p = some o := by
  obtain ⟨a, b, c⟩ := h.pin p o (show upd G.P p o p = some o from upd_same)
  refine ⟨⟨h.len, h.ex, h.exf, h.fr, h.dj, h.bh, fun i s es => ?_, h.inj, fun x u ex => ?_⟩, ⟨b, hg, hP, c⟩, a⟩
  · have v := h.val i s es
    cases s with
    | shell cs => obtain ⟨t, vs, a, b, c, d⟩ := v; exact ⟨t, vs, a, b, shAt_unpin c, d⟩
    | _ => exact v
  · refine h.pin x u ?_
    have hx : x ≠ p := fun z => by rw [z, hP] at ex; cases ex
    show upd G.P p o x = some u
    rw [upd_ne hx]; exact ex
/-- an object that is no slot's is changed -/
theorem SOk.other {σ : L2.St} {p : Addr} {o : HO} (h : SOk K G Hf H S σ) (f : Fresh K G Hf S σ p) : SOk K G Hf (upd H p o) S σ := by
  refine ⟨h.len, fun x u ex => ?_, h.exf, fun x u ex hb => ?_, h.dj, fun x hb => ⟨(h.bh x hb).1, ?_⟩, fun i s es => ?_, h.inj, fun x u ex => ?_⟩
  · have : x ≠ p := fun z => by rw [z, f.hf] at ex; cases ex
    rw [upd_ne this]; exact h.ex _ _ ex
  · have : x ≠ p := fun z => by rw [z, f.hg] at ex; cases ex
    rw [upd_ne this]; exact h.fr x u ex hb
  · by_cases z : x = p
    · subst z; rw [upd_same]; simp
    · rw [upd_ne z]; exact (h.bh x hb).2
  · refine (h.val i s es).step (Same.refl _) fun q oq => ⟨(h.owned es oq).1, fun o' e => ?_⟩
    have : q ≠ p := fun z => f.no i s es (by rw [← z]; exact oq)
    rw [upd_ne this]; exact e
  · obtain ⟨a, b, c⟩ := h.pin x u ex
    have : x ≠ p := fun z => by rw [z, f.hP] at ex; cases ex
    exact ⟨by rw [upd_ne this]; exact a, b, c⟩
theorem Fresh.step {σ : L2.St} {p : Addr} {Hn H2 : Hp} (s : SOk K G Hf H S σ) (f : Fresh K G Hf S σ p) (g : Gw Hf H Hn H2) (hp : H p ≠ none) : Fresh K G Hn S σ p := ⟨g.d p hp f.hf, f.hg, f.hP, f.no.mono s g.a⟩

theorem evn_lcM {α β τ : Type} {en : α → D} {eb : β → D} {ti : TI} {g : TG} {vs : List Nat} {Sw : τ → List VS} {f : α → τ → Option (Option β × τ)} {s0 s1 : τ} {items : List α} {ys : List β} (hsrc : Src K G ti S (items.map en) S1) (hw : wipeS S1 vs = Sw s0) (hm : ∀ (i : Nat) (s : VS), i ∈ vs → S1[i]? = some s → s.still = true)
    (hr : cmpM f items s0 = some (ys, s1)) (hl : items.length ≤ 1000000)
    (hb : ∀ a s o s', a ∈ items → f a s = some (o, s') → ∀ G', LcB K G' g tt te vs (Sw s) (en a) (o.map eb) (Sw s')) : EvN K G (tLc ti g tt te vs) S (.lst (ys.map eb)) (mixS S1 (Sw s1) vs) := fun σ Hf H hs Q q =>
  hsrc σ Hf H hs _ fun J H0 H1 e1 so wk Da hD => by
    have so1 : SOk K G H0 H1 (Sw s0) (L2.wipe σ vs) := by rw [← hw]; exact so.wipe vs
    have hlen : (items.map en).length = items.length := List.length_map _
    refine ⟨fun i m Hc => ∃ (s : τ) (Hn : Hp) (acc : List V) (es rs : List β), Same H0 Hn ∧ SOk K G Hn Hc (Sw s) (L2.wipe σ vs) ∧ Fresh K G Hn (Sw s) (L2.wipe σ vs) Da ∧ Hc Da = some (.lst acc) ∧ DqAll K Hn acc (es.map eb) ∧ acc.length ≤ i ∧
      cmpM f (items.drop i) s = some (rs, s1) ∧ ys = es ++ rs ∧ m = items.length - i ∧ i ≤ items.length, ?_, ?_⟩
    · refine ⟨items.length, s0, H0, [], [], ys, Same.refl _, ?_, ?_, upd_same, .nil, Nat.le_refl _, hr, rfl, rfl, Nat.zero_le _⟩
      · exact so1.grow (Gw.newO so1.ex hD)
      · exact so1.fresh hD
    · rintro i m Hc ⟨s, Hn, acc, es, rs, eh, sk, fk, hacc, dacc, hai, hrs, hds, hmi, hi⟩
      by_cases hlt : i < items.length
      · refine .inr ⟨wk.go i Hn Hc eh sk.ex (by rw [hlen]; exact hlt), fun H' => ∃ (s : τ) (Hn : Hp) (acc : List V) (es rs : List β), Same H0 Hn ∧ SOk K G Hn H' (Sw s) (L2.wipe σ vs) ∧ Fresh K G Hn (Sw s) (L2.wipe σ vs) Da ∧ H' Da = some (.lst acc) ∧ DqAll K Hn acc (es.map eb) ∧ acc.length ≤ i + 1 ∧
          cmpM f (items.drop (i + 1)) s = some (rs, s1) ∧ ys = es ++ rs, fun H' h' => ?_, fun x H' hy => ?_⟩
        · obtain ⟨s, Hn, acc, es, rs, c1, c2, c3, c4, c5, c6, c7, c8⟩ := h'
          exact ⟨items.length - (i + 1), by omega, s, Hn, acc, es, rs, c1, c2, c3, c4, c5, c6, c7, c8, rfl, by omega⟩
        · obtain ⟨Hm, dx, gw, hdx, dqx⟩ := wk.yld i Hn Hc x H' eh sk.ex (by rw [hlen]; exact hlt) hy
          have hdx2 : dx = en items[i] := by
            rw [List.getElem?_map, List.getElem?_eq_getElem hlt] at hdx
            exact (Option.some.inj hdx).symm
          subst hdx2
          rw [List.drop_eq_getElem_cons hlt] at hrs
          have hmem : items[i] ∈ items := List.getElem_mem hlt
          unfold cmpM at hrs
          cases hf : f items[i] s with
          | none => rw [hf] at hrs; cases hrs
          | some os =>
            obtain ⟨o, s'⟩ := os
            rw [hf] at hrs
            dsimp only at hrs
            cases hc : cmpM f (items.drop (i + 1)) s' with
            | none => rw [hc] at hrs; cases hrs
            | some bs =>
              obtain ⟨bs, s2⟩ := bs
              rw [hc] at hrs
              have sk2 := sk.grow gw
              have fk2 := Fresh.step sk fk gw (by rw [hacc]; simp)
              have hacc2 : H' Da = some (.lst acc) := gw.c _ _ hacc
              have skp := sk2.pinned fk2 hacc2
              refine hb _ s o s' hmem hf (G.pinAt Da (.lst acc)) σ Hm H' x skp dqx _ _ fun Ho H4 e4 s4 => ?_
              obtain ⟨s5, f5, h5⟩ := s4.unpinned fk2.hg fk2.hP
              cases o with
              | none =>
                injection hrs with hrs; injection hrs with h6 h7
                subst h7
                exact ⟨s', Ho, acc, es, rs, (eh.trans gw.a).trans e4, s5, f5, h5, dpa_mono (gw.a.trans e4) _ _ dacc, by omega, by rw [← h6]; exact hc, hds⟩
              | some e =>
                injection hrs with hrs; injection hrs with h6 h7
                subst h7
                intro w dw
                refine ⟨acc, h5, Nat.lt_of_le_of_lt (show acc.length ≤ 1000000 by omega) (by decide), s', Ho, acc ++ [w], es ++ [e], bs, (eh.trans gw.a).trans e4, s5.other f5, f5, upd_same, ?_, by simp; omega, hc, ?_⟩
                · rw [List.map_append]; exact dpa_snoc (dpa_mono (gw.a.trans e4) _ _ dacc) dw
                · rw [hds, ← h6]; simp
      · have hi2 : i = items.length := by omega
        subst hi2
        rw [List.drop_length] at hrs
        injection hrs with hrs; injection hrs with h6 h7
        subst h7
        rw [← h6, List.append_nil] at hds
        subst hds
        refine .inl ⟨by rw [← hlen]; exact wk.stop Hn Hc eh sk.ex, ?_⟩
        have su := so.unwipe sk eh hm
        refine q Da Hn Hc (e1.trans eh) su ⟨fk.hf, fk.hg, fk.hP, fun i t es xs => ?_⟩ ⟨acc, hacc, dacc⟩
        have hl : S1.length = (Sw s).length := by rw [← so.len, ← sk.len, wipe_length]
        rw [mixS_get hl] at es
        by_cases hi : i ∈ vs
        · rw [if_pos hi] at es
          have := hm i t hi es
          cases t with
          | any => cases xs
          | val d => cases xs
          | _ => cases this
        · rw [if_neg hi] at es
          exact fk.no i t es (by rw [wipe_get, if_neg hi]; exact xs)
end
end MM

set_option Elab.async false
set_option linter.all false
set_option maxRecDepth 100000
set_option maxHeartbeats 4000000
set_option autoImplicit false
namespace MM
open PySem L2

/-! ## our own objects, read for a while as if frozen -/
def shD : List (D ⊕ Cn) → Option (List D)
  | [] => some []
  | .inl d :: cs => match shD cs with | some ds => some (d :: ds) | none => none
  | .inr (.lst es) :: cs => match shD cs with | some ds => some (.list es :: ds) | none => none
  | _ => none
def frzV : VS → VS
  | .own (.lst ds) => .val (.list ds)
  | .bor _ (.lst ds) => .val (.list ds)
  | .val d => .val d
  | .shell cs => match shD cs with | some ds => .val (.tuple ds) | none => .any
  | _ => .any
def atomD : D → Bool
  | .none => true | .bool _ => true | .int _ => true | .str _ => true | _ => false
mutual
def noList : D → Bool
  | .tuple ds => noListAll ds
  | .list _ => false
  | .dict _ => false
  | _ => true
def noListAll : List D → Bool
  | [] => true
  | d :: ds => noList d && noListAll ds
end
def OwnAt (S : List VS) (σ : L2.St) (Hf H : Hp) (x : Addr) : Prop := (∃ (i : Nat) (s : VS), S[i]? = some s ∧ Owns Hf s σ[i]? x) ∧ ∃ vs, H x = some (.lst vs)
open Classical in
noncomputable def frzH (S : List VS) (σ : L2.St) (Hf H : Hp) : Hp := fun x => if OwnAt S σ Hf H x then H x else Hf x
section
variable {K : PySem.W.Frag} {G : Ent} {te : TE} {tt : TT} {S S1 : List VS} {d : D} {ds : List D} {b : Bool} {Hf H Hn H2 : Hp} {σ : L2.St}
theorem atom_any {v : V} (h : Dq K H v d) (a : atomD d = true) : Dq K H2 v d := by
  cases h <;> first | exact .non | exact .bl _ | exact .int _ | exact .str _ | cases a
theorem OwnAt.free {x : Addr} (h : SOk K G Hf H S σ) (o : OwnAt S σ Hf H x) : Hf x = none ∧ ∃ vs, H x = some (.lst vs) := by
  obtain ⟨⟨i, s, hs, hx⟩, vs, e⟩ := o
  exact ⟨(h.owned hs hx).1, vs, e⟩
theorem same_frz (h : SOk K G Hf H S σ) : Same Hf (frzH S σ Hf H) := fun x o e => by
  unfold frzH
  by_cases c : OwnAt S σ Hf H x
  · rw [(c.free h).1] at e; cases e
  · rw [if_neg c]; exact e
theorem SOk.frzAll (h : SOk K G Hf H S σ) : SOk K ⟨frzH S σ Hf H, H, [], fun _ => none⟩ (frzH S σ Hf H) H (S.map frzV) σ where
  len := by rw [List.length_map]; exact h.len
  ex := fun x o e => by
    unfold frzH at e
    by_cases c : OwnAt S σ Hf H x
    · rw [if_pos c] at e; exact e
    · rw [if_neg c] at e; exact h.ex _ _ e
  exf := Same.refl _
  fr := fun x o e _ => e
  dj := fun x _ e => e
  bh := fun p hp => absurd hp (by simp)
  val := fun i s es => by
    rw [List.getElem?_map] at es
    cases q : S[i]? with
    | none => rw [q] at es; cases es
    | some t =>
      rw [q] at es; cases es
      have v := h.val i t q
      cases t with
      | any => trivial
      | val d => obtain ⟨v, a, b⟩ := v; exact ⟨v, a, dp_mono (same_frz h) _ _ b⟩
      | own c =>
        cases c with
        | lst ds =>
          obtain ⟨p, e1, e2, _, vs, e3, e4⟩ := v
          refine ⟨.ref p, e1, .lst ?_ (dpa_mono (same_frz h) _ _ e4)⟩
          unfold frzH; rw [if_pos ⟨⟨i, _, q, e1⟩, vs, e3⟩]; exact e3
        | dK _ => trivial
        | dT _ => trivial
      | bor p c =>
        cases c with
        | lst ds =>
          obtain ⟨e1, e2, _, vs, e3, e4⟩ := v
          refine ⟨.ref p, e1, .lst ?_ (dpa_mono (same_frz h) _ _ e4)⟩
          unfold frzH; rw [if_pos ⟨⟨i, _, q, e1⟩, vs, e3⟩]; exact e3
        | dK _ => trivial
        | dT _ => trivial
      | shell cs0 =>
        show VAt K _ _ H (match shD cs0 with | some ds => .val (.tuple ds) | none => .any) _
        cases hd : shD cs0 with
        | none => trivial
        | some ds =>
          obtain ⟨t, vs, e1, e2, e3, e4⟩ := v
          refine ⟨.ref t, e1, .tup (same_frz h _ _ e2) ?_⟩
          have all : ∀ (cs : List (D ⊕ Cn)) (us : List V) (ds : List D), shD cs = some ds → ShAt K G Hf H cs us → (∀ p ∈ shA cs us, p ∈ shA cs0 vs) → DqAll K (frzH S σ Hf H) us ds := by
            intro cs us ds hd hu
            induction hu generalizing ds with
            | nil => intro _; cases hd; exact .nil
            | val a t ih =>
              intro hm
              rename_i d v cs us
              unfold shD at hd
              cases hc : shD cs with
              | none => rw [hc] at hd; cases hd
              | some es =>
                rw [hc] at hd; cases hd
                exact .cons (dp_mono (same_frz h) _ _ a) (ih es hc fun p hp => hm p (by cases v <;> exact hp))
            | own a b c t ih =>
              intro hm
              rename_i cn p cs us
              cases cn with
              | lst fs =>
                unfold shD at hd
                cases hc : shD cs with
                | none => rw [hc] at hd; cases hd
                | some es =>
                  rw [hc] at hd; cases hd
                  obtain ⟨ws, g1, g2⟩ := c
                  refine .cons (.lst ?_ (dpa_mono (same_frz h) _ _ g2)) (ih es hc fun p hp => hm p (List.mem_cons_of_mem _ hp))
                  unfold frzH
                  rw [if_pos ⟨⟨i, _, q, _, vs, e1, e2, hm p List.mem_cons_self⟩, ws, g1⟩]; exact g1
              | dK _ => cases hd
              | dT _ => cases hd
          exact all cs0 vs ds hd e3 fun p hp => hp
  inj := fun i j s t p es et o1 o2 => by
    rw [List.getElem?_map] at es
    cases q : S[i]? with
    | none => rw [q] at es; cases es
    | some u =>
      rw [q] at es; cases es
      cases u with
      | any => cases o1
      | val d => cases o1
      | own c => cases c <;> cases o1
      | bor p c => cases c <;> cases o1
      | shell cs =>
        have o1' : Owns _ (match shD cs with | some ds => VS.val (.tuple ds) | none => .any) _ _ := o1
        cases hd : shD cs with
        | none => rw [hd] at o1'; cases o1'
        | some ds => rw [hd] at o1'; cases o1'
  pin := fun x o e => nomatch e
theorem ev_tmp (h : ∀ G', Ev K G' te (S.map frzV) d (S.map frzV)) (ha : atomD d = true) : Ev K G te S d S := fun σ Hf H hs Q q =>
  h _ σ _ H hs.frzAll Q fun v Hn H2 e s dv => by
    have c : Same H H2 := fun x o ex => s.fr x o ex (by simp)
    exact q v Hf H2 (Same.refl _) (hs.grow (Gw.keep hs.ex c)) (atom_any dv ha)
theorem eb_tmp (h : ∀ G', EvB K G' tt (S.map frzV) b (S.map frzV)) : EvB K G tt S b S := fun σ Hf H hs Q q =>
  h _ σ _ H hs.frzAll Q fun Hn H2 e s => by
    have c : Same H H2 := fun x o ex => s.fr x o ex (by simp)
    exact q Hf H2 (Same.refl _) (hs.grow (Gw.keep hs.ex c))
mutual
theorem noList_to (hh : ∀ x xs, H x = some (.tup xs) → H2 x = some (.tup xs)) : ∀ (d : D) (v : V), noList d = true → Dq K H v d → Dq K H2 v d
  | .none, _, _, h => by cases h; exact .non
  | .bool _, _, _, h => by cases h; exact .bl _
  | .int _, _, _, h => by cases h; exact .int _
  | .str _, _, _, h => by cases h; exact .str _
  | .list ds, _, n, h => by simp [noList] at n
  | .tuple ds, _, n, h => by
    cases h with
    | tup s a => exact .tup (hh _ _ s) (noList_all hh ds _ (by simpa [noList] using n) a)
  | .dict _, _, _, h => by cases h
theorem noList_all (hh : ∀ x xs, H x = some (.tup xs) → H2 x = some (.tup xs)) : ∀ (ds : List D) (vs : List V), noListAll ds = true → DqAll K H vs ds → DqAll K H2 vs ds
  | [], _, _, h => by cases h; exact .nil
  | d :: ds, _, n, h => by
    have n' : (noList d && noListAll ds) = true := by simpa [noListAll] using n
    rw [Bool.and_eq_true] at n'
    cases h with
    | cons a b => exact .cons (noList_to hh d _ n'.1 a) (noList_all hh ds _ n'.2 b)
end
theorem evn_tmp (h : ∀ G', EvN K G' te (S.map frzV) (.lst ds) (S.map frzV)) (hn : noListAll ds = true) : EvN K G te S (.lst ds) S := fun σ Hf H hs Q q =>
  h _ σ _ H hs.frzAll Q fun p Hn H2 e s f ca => by
    classical
    have c : Same H H2 := fun x o ex => s.fr x o ex (by simp)
    have hp : H p = none := f.hg
    let Hm : Hp := fun x => if OwnAt S σ Hf H x then none else Hn x
    have g : Gw Hf H Hm H2 := by
      refine ⟨fun x o ex => ?_, fun x o ex => ?_, c, fun x hx hf => ?_⟩
      · show (if OwnAt S σ Hf H x then none else Hn x) = some o
        by_cases z : OwnAt S σ Hf H x
        · rw [(z.free hs).1] at ex; cases ex
        · rw [if_neg z]; exact e _ _ (same_frz hs _ _ ex)
      · have ex' : (if OwnAt S σ Hf H x then none else Hn x) = some o := ex
        by_cases z : OwnAt S σ Hf H x
        · rw [if_pos z] at ex'; cases ex'
        · rw [if_neg z] at ex'; exact s.ex _ _ ex'
      · show (if OwnAt S σ Hf H x then none else Hn x) = none
        by_cases z : OwnAt S σ Hf H x
        · rw [if_pos z]
        · rw [if_neg z]
          refine s.dj x hx ?_
          show frzH S σ Hf H x = none
          unfold frzH; rw [if_neg z]; exact hf
    have sg := hs.grow g
    have ff := hs.fresh hp
    obtain ⟨vs, e1, e2⟩ := ca
    refine q p Hm H2 g.a sg ⟨?_, ff.hg, ff.hP, ff.no.mono hs g.a⟩ ⟨vs, e1, noList_all (fun x xs ex => ?_) _ _ hn e2⟩
    · show (if OwnAt S σ Hf H p then none else Hn p) = none
      by_cases z : OwnAt S σ Hf H p
      · rw [if_pos z]
      · rw [if_neg z]; exact f.hf
    · show (if OwnAt S σ Hf H x then none else Hn x) = some (.tup xs)
      by_cases z : OwnAt S σ Hf H x
      · obtain ⟨_, vs, hv⟩ := z.free hs
        have := s.ex _ _ ex
        rw [c _ _ hv] at this; cases this
      · rw [if_neg z]; exact ex
end

/-! ## typed data -/
class Enc (α : Type) where
  enc : α → D
abbrev enc {α : Type} [Enc α] : α → D := Enc.enc
end MM

set_option Elab.async false
set_option linter.all false
set_option maxRecDepth 100000
set_option maxHeartbeats 4000000
set_option autoImplicit false
namespace MM
open PySem L2

instance : Enc Int := ⟨.int⟩
instance : Enc Bool := ⟨.bool⟩
instance : Enc Str := ⟨.str⟩
instance : Enc Unit := ⟨fun _ => .none⟩
instance : Enc D := ⟨id⟩
instance {α : Type} [Enc α] : Enc (List α) := ⟨fun xs => .list (xs.map enc)⟩
instance {α β : Type} [Enc α] [Enc β] : Enc (α × β) := ⟨fun p => .tuple [enc p.1, enc p.2]⟩
instance {α : Type} [Enc α] : Enc (Option α) := ⟨fun o => match o with | none => .none | some a => enc a⟩

section
variable {K : PySem.W.Frag} {G : Ent} {te ta tb tc : TE} {tt tu : TT} {S S0 S1 S2 S3 : List VS} {d x y z : D} {ds : List D} {c : Cn} {a b b1 b2 r : Bool} {Hf H : Hp} {α β τ ρ : Type} [Enc α] [Enc β]

/-! ## comprehensions without state -/
def cmpO {α β : Type} (p : α → Option Bool) (f : α → Option β) : List α → Option (List β)
  | [] => some []
  | a :: as => match p a with
    | none => none
    | some false => cmpO p f as
    | some true => match f a with
      | none => none
      | some b => match cmpO p f as with
        | none => none
        | some bs => some (b :: bs)
theorem cmpO_total {α β : Type} (p : α → Bool) (f : α → β) : ∀ xs : List α, cmpO (fun a => some (p a)) (fun a => some (f a)) xs = some ((xs.filter p).map f)
  | [] => rfl
  | a :: as => by
    unfold cmpO
    cases h : p a with
    | true => simp only [cmpO_total p f as, List.filter_cons, h, if_true, List.map_cons]
    | false => simp only [cmpO_total p f as, List.filter_cons, h, if_false]; rfl
theorem mixS_wipe {vs : List Nat} : mixS S (wipeS S vs) vs = S := by
  have hl : ∀ vs : List Nat, (wipeS S vs).length = S.length := fun vs => by
    induction vs with
    | nil => rfl
    | cons v vs ih => show ((wipeS S vs).set v .any).length = _; rw [List.length_set, ih]
  have hg : ∀ (vs : List Nat) (i : Nat), i ∉ vs → (wipeS S vs)[i]? = S[i]? := fun vs => by
    induction vs with
    | nil => intro i _; rfl
    | cons v vs ih =>
      intro i hi
      show ((wipeS S vs).set v .any)[i]? = _
      rw [List.getElem?_set_ne (fun z => hi (by simp [z]))]
      exact ih i fun z => hi (by simp [z])
  apply List.ext_getElem?
  intro i
  rw [mixS_get (hl vs).symm]
  by_cases hi : i ∈ vs
  · rw [if_pos hi]
  · rw [if_neg hi, hg vs i hi]
theorem cmpM_of {α β : Type} {p : α → Option Bool} {f : α → Option β} : ∀ {xs : List α} {ys : List β}, cmpO p f xs = some ys →
    cmpM (fun a (_ : Unit) => match p a with | none => none | some false => some (none, ()) | some true => (f a).map fun b => (some b, ())) xs () = some (ys, ())
  | [], ys, h => by cases h; rfl
  | a :: as, ys, h => by
    unfold cmpO at h
    unfold cmpM
    cases hp : p a with
    | none => rw [hp] at h; cases h
    | some b =>
      rw [hp] at h
      cases b with
      | false =>
        dsimp only at h ⊢
        rw [cmpM_of h]
      | true =>
        dsimp only at h ⊢
        cases hf : f a with
        | none => rw [hf] at h; cases h
        | some e =>
          rw [hf] at h
          dsimp only at h
          cases hc : cmpO p f as with
          | none => rw [hc] at h; cases h
          | some bs =>
            rw [hc] at h
            cases h
            rw [Option.map_some]
            dsimp only
            rw [cmpM_of hc]
/-- [e for x in xs if t], the test and the element may be open -/
theorem evn_lcO {ti : TI} {g : TG} {vs us : List Nat} {xs : List α} {ys : List β} {p : α → Option Bool} {f : α → Option β} {Sa : α → List VS} (hsrc : Src K G ti S (xs.map enc) S1)
    (hm : ∀ (i : Nat) (s : VS), i ∈ vs → S1[i]? = some s → s.still = true) (hu : ∀ i ∈ us, i ∈ vs) (hr : cmpO p f xs = some ys) (hl : xs.length ≤ 1000000)
    (hg : ∀ a G', a ∈ xs → Tg K G' g us (wipeS S1 vs) (enc a) (Sa a)) (hsa : ∀ a, wipeS (Sa a) vs = wipeS S1 vs)
    (ht : ∀ a b G', a ∈ xs → p a = some b → EvB K G' tt (Sa a) b (Sa a)) (he : ∀ a b G', a ∈ xs → p a = some true → f a = some b → Ev K G' te (Sa a) (enc b) (Sa a)) :
    EvN K G (tLc ti g tt te vs) S (.lst (ys.map enc)) S1 := by
  have h := evn_lcM (K := K) (G := G) (tt := tt) (te := te) (g := g) (τ := Unit) (Sw := fun _ => wipeS S1 vs) (en := enc) (eb := enc) hsrc rfl hm (cmpM_of hr) hl fun a s o s' ha hF G' => by
    cases hp : p a with
    | none => rw [hp] at hF; cases hF
    | some b =>
      rw [hp] at hF
      cases b with
      | false =>
        cases hF
        have q := lcb_drop (te := te) (hg a G' ha) (ht a false G' ha hp) hu
        rw [hsa] at q; exact q
      | true =>
        dsimp only at hF
        cases hf : f a with
        | none => rw [hf] at hF; cases hF
        | some e =>
          rw [hf] at hF; cases hF
          have q := lcb_keep (hg a G' ha) (ht a true G' ha hp) (he a e G' ha hp hf) hu
          rw [hsa] at q; exact q
  rw [mixS_wipe] at h
  exact h
/-- .. they are known -/
theorem evn_lc {ti : TI} {g : TG} {vs us : List Nat} {xs : List α} {p : α → Bool} {f : α → β} {Sa : α → List VS} (hsrc : Src K G ti S (xs.map enc) S1)
    (hm : ∀ (i : Nat) (s : VS), i ∈ vs → S1[i]? = some s → s.still = true) (hu : ∀ i ∈ us, i ∈ vs) (hl : xs.length ≤ 1000000)
    (hg : ∀ a G', a ∈ xs → Tg K G' g us (wipeS S1 vs) (enc a) (Sa a)) (hsa : ∀ a, wipeS (Sa a) vs = wipeS S1 vs)
    (ht : ∀ a G', a ∈ xs → EvB K G' tt (Sa a) (p a) (Sa a)) (he : ∀ a G', a ∈ xs → p a = true → Ev K G' te (Sa a) (enc (f a)) (Sa a)) :
    EvN K G (tLc ti g tt te vs) S (.lst (((xs.filter p).map f).map enc)) S1 :=
  evn_lcO hsrc hm hu (cmpO_total p f xs) hl hg hsa (fun a b G' ha hb => by cases hb; exact ht a G' ha) fun a b G' ha hp hb => by cases hb; exact he a G' ha (Option.some.inj hp)
theorem evn_lc0 {ti : TI} {g : TG} {vs us : List Nat} {xs : List α} {f : α → β} {Sa : α → List VS} (hsrc : Src K G ti S (xs.map enc) S1)
    (hm : ∀ (i : Nat) (s : VS), i ∈ vs → S1[i]? = some s → s.still = true) (hu : ∀ i ∈ us, i ∈ vs) (hl : xs.length ≤ 1000000)
    (hg : ∀ a G', a ∈ xs → Tg K G' g us (wipeS S1 vs) (enc a) (Sa a)) (hsa : ∀ a, wipeS (Sa a) vs = wipeS S1 vs)
    (he : ∀ a G', a ∈ xs → Ev K G' te (Sa a) (enc (f a)) (Sa a)) : EvN K G (tLc ti g tYes te vs) S (.lst ((xs.map f).map enc)) S1 := by
  have h := evn_lc (p := fun _ => true) hsrc hm hu hl hg hsa (fun _ _ _ => eb_yes) fun a G' ha _ => he a G' ha
  rw [List.filter_eq_self.mpr fun _ _ => rfl] at h
  exact h
end
end MM

set_option Elab.async false
set_option linter.all false
set_option maxRecDepth 100000
set_option maxHeartbeats 4000000
set_option autoImplicit false
namespace MM
open PySem L2

/-! ## statements -/
/-- what a def hands back -/
inductive RK where
  | val (d : D)
  | new (c : Cn)
  | shell (cs : List (D ⊕ Cn))
inductive Out where
  | nx (S : List VS)
  | nc (S : List VS)
  | bk (S : List VS)
  | rt (r : RK) (S : List VS)
def RtAt (K : PySem.W.Frag) (G : Ent) (Hn H : Hp) (S : List VS) (σ : L2.St) (v : V) : RK → Prop
  | .val d => Dq K Hn v d
  | .new c => ∃ p, v = .ref p ∧ Fresh K G Hn S σ p ∧ CnAt K Hn H p c
  | .shell cs => ∃ t vs, v = .ref t ∧ Hn t = some (.tup vs) ∧ ShAt K G Hn H cs vs ∧ (shA cs vs).Nodup ∧ ∀ p ∈ shA cs vs, Fresh K G Hn S σ p
def EndOk (K : PySem.W.Frag) (G : Ent) (Hf : Hp) (E : Ends) : Out → Prop
  | .nx S => ∀ σ Hn H, Same Hf Hn → SOk K G Hn H S σ → E.nx σ H
  | .nc S => ∀ σ Hn H, Same Hf Hn → SOk K G Hn H S σ → E.nx σ H ∧ E.ct σ H
  | .bk S => ∀ σ Hn H, Same Hf Hn → SOk K G Hn H S σ → E.bk σ H
  | .rt r S => ∀ v σ Hn H, Same Hf Hn → SOk K G Hn H S σ → RtAt K G Hn H S σ v r → E.rt v H
def Bs (K : PySem.W.Frag) (G : Ent) (ts : TS) (S : List VS) (o : Out) : Prop :=
  ∀ (σ : L2.St) (Hf H : Hp) (E : Ends), SOk K G Hf H S σ → EndOk K G Hf E o → ts E σ H

section
variable {K : PySem.W.Frag} {G : Ent} {te ta tb tc : TE} {tt tu : TT} {S S0 S1 S2 S3 : List VS} {d x y z : D} {ds : List D} {c : Cn} {a b b1 b2 : Bool} {r : RK} {Hf Hn H : Hp} {t u rest : TS} {o : Out} {g : TG}

theorem EndOk.mono {E : Ends} (h : EndOk K G Hf E o) (e : Same Hf Hn) : EndOk K G Hn E o := by
  cases o with
  | nx S => exact fun σ Hm H e2 s => h σ Hm H (e.trans e2) s
  | nc S => exact fun σ Hm H e2 s => h σ Hm H (e.trans e2) s
  | bk S => exact fun σ Hm H e2 s => h σ Hm H (e.trans e2) s
  | rt r S => exact fun v σ Hm H e2 s q => h v σ Hm H (e.trans e2) s q
theorem EndOk.nxOf {E : Ends} {f : L2.St → Hp → Prop} (h : ∀ σ Hn H, Same Hf Hn → SOk K G Hn H S1 σ → f σ H) : EndOk K G Hf { E with nx := f } (.nx S1) := h
/-- the end of a statement that has another behind it -/
theorem EndOk.other {E : Ends} {f : L2.St → Hp → Prop} (h : EndOk K G Hf E o) (no : ∀ S, o ≠ .nx S) (no2 : ∀ S, o ≠ .nc S) : EndOk K G Hf { E with nx := f } o := by
  cases o with
  | nx S => exact absurd rfl (no S)
  | nc S => exact absurd rfl (no2 S)
  | bk S => exact h
  | rt r S => exact h

theorem bs_nil : Bs K G tNext S (.nx S) := fun σ Hf H E hs q => q σ Hf H (Same.refl _) hs
theorem bs_nilc : Bs K G tNext S (.nc S) := fun σ Hf H E hs q => (q σ Hf H (Same.refl _) hs).1
theorem bs_next (h : Bs K G rest S o) : Bs K G (tSeq tNext rest) S o := fun σ Hf H E hs q => h σ Hf H E hs q
theorem bs_cont : Bs K G (tSeq tCont rest) S (.nc S) := fun σ Hf H E hs q => (q σ Hf H (Same.refl _) hs).2
theorem bs_brk : Bs K G (tSeq tBreak rest) S (.bk S) := fun σ Hf H E hs q => q σ Hf H (Same.refl _) hs
theorem bs_seq (h : Bs K G t S (.nx S1)) (k : Bs K G rest S1 o) : Bs K G (tSeq t rest) S o := fun σ Hf H E hs q =>
  h σ Hf H { E with nx := rest E } hs fun σ2 Hn H2 e s => k σ2 Hn H2 E s (q.mono e)
theorem bs_seqRt (h : Bs K G t S (.rt r S1)) : Bs K G (tSeq t rest) S (.rt r S1) := fun σ Hf H E hs q => h σ Hf H { E with nx := rest E } hs q
theorem bs_seqBk (h : Bs K G t S (.bk S1)) : Bs K G (tSeq t rest) S (.bk S1) := fun σ Hf H E hs q => h σ Hf H { E with nx := rest E } hs q
theorem bs_assoc (h : Bs K G (tSeq t (tSeq u rest)) S o) : Bs K G (tSeq (tSeq t u) rest) S o := fun σ Hf H E hs q => h σ Hf H E hs q
theorem Bs.nc (h : Bs K G t S (.nx S1)) : Bs K G t S (.nc S1) := fun σ Hf H E hs q => h σ Hf H E hs fun σ2 Hn H2 e s => (q σ2 Hn H2 e s).1

/-! ### stores to names -/
theorem bs_asg {i : Nat} (h : Ev K G te S d S1) (k : Bs K G rest (S1.set i (.val d)) o) (hi : i < S1.length) : Bs K G (tSeq (tAsg te (gName i)) rest) S o := fun σ Hf H E hs q =>
  h σ Hf H hs _ fun v Hn H2 e s dv => k _ Hn H2 E (s.setV dv hi) (q.mono e)
theorem bs_asgN {i : Nat} (h : EvN K G te S c S1) (k : Bs K G rest (S1.set i (.own c)) o) (hi : i < S1.length) : Bs K G (tSeq (tAsg te (gName i)) rest) S o := fun σ Hf H E hs q =>
  h σ Hf H hs _ fun p Hn H2 e s f cn => k _ Hn H2 E (s.setN f.hf f.hg f.no cn hi f.hP) (q.mono e)
theorem bs_asgG {vs : List Nat} (h : Ev K G te S d S1) (hg : Tg K G g vs S1 d S2) (k : Bs K G rest S2 o) : Bs K G (tSeq (tAsg te g) rest) S o := fun σ Hf H E hs q =>
  h σ Hf H hs _ fun v Hn H2 e s dv => hg σ Hn H2 v s dv _ fun σ2 s2 _ _ => k σ2 Hn H2 E s2 (q.mono e)
theorem bs_par {i j : Nat} {ts : TA} (h : EvA K G ts S [x, y] S1) (k : Bs K G rest ((S1.set i (.val x)).set j (.val y)) o) (hi : i < S1.length) (hj : j < S1.length) : Bs K G (tSeq (tPar i j ts) rest) S o := fun σ Hf H E hs q =>
  h σ Hf H hs _ fun vs Hn H2 e s dv => by
    obtain ⟨v, w, rfl, dx, dy⟩ := dqa_two dv
    exact ⟨v, w, rfl, k _ Hn H2 E ((s.setV dx hi).setV dy (by rw [List.length_set]; exact hj)) (q.mono e)⟩
theorem bs_aug {i : Nat} {f : Int → Int → Int} {m n : Int} (hx : S[i]? = some (.val (.int m))) (h : Ev K G te S (.int n) S1) (k : Bs K G rest (S1.set i (.val (.int (f m n)))) o) (hi : i < S1.length) : Bs K G (tSeq (tAug i te (ipI f)) rest) S o := fun σ Hf H E hs q => by
  obtain ⟨v, e1, dv⟩ := hs.val i _ hx
  cases dv
  exact ⟨_, e1, h σ Hf H hs _ fun w Hn H2 e s dw => by
    cases dw
    exact ⟨m, n, rfl, rfl, k _ Hn H2 E (s.setV (.int _) hi) (q.mono e)⟩⟩
theorem bs_drop (h : Ev K G te S d S1) (k : Bs K G rest S1 o) : Bs K G (tSeq (tDrop te) rest) S o := fun σ Hf H E hs q =>
  h σ Hf H hs _ fun v Hn H2 e s dv => k σ Hn H2 E s (q.mono e)
theorem SOk.letGo {σ : L2.St} {i : Nat} {s : VS} {p : Addr} (hs : SOk K G Hf H S σ) (hx : S[i]? = some s) (m : s.mine = true) (e1 : σ[i]? = some (some (.ref p))) (hg : G.H p = none) : Fresh K G Hf (S.set i .any) σ p := by
  have o := mine_owns (Hf := Hf) m e1
  refine ⟨(hs.owned hx o).1, hg, ?_, fun j t ej oj => ?_⟩
  · cases e : G.P p with
    | none => rfl
    | some u => exact absurd o ((hs.pin p u e).2.2 i s hx)
  · have nj := set_any_ne ej oj
    rw [List.getElem?_set_ne (Ne.symm nj)] at ej
    exact nj (hs.inj j i t s p ej hx oj o)
/-- an owned list is frozen: nothing changes it any more -/
theorem bs_frz {i : Nat} (hx : S[i]? = some (.own (.lst ds))) (k : Bs K G t (S.set i (.val (.list ds))) o) : Bs K G t S o := fun σ Hf H E hs q => by
  obtain ⟨p, e1, e2, e3, vs, e4, e5⟩ := hs.val i _ hx
  have hi : i < S.length := (List.getElem?_eq_some_iff.mp hx).1
  have hfp : Same Hf (upd Hf p (.lst vs)) := same_new e2
  have s2 := hs.forget (i := i)
  have s3 := s2.frzNew (hs.letGo hx rfl e1 e3) e4
  have s4 := s3.setV (i := i) (v := .ref p) (d := .list ds) (.lst upd_same (dpa_mono hfp _ _ e5)) (by simp [hi])
  have es : (S.set i .any).set i (.val (.list ds)) = S.set i (.val (.list ds)) := by rw [List.set_set]
  have eσ : σ.set i (some (.ref p)) = σ := by
    have := set_same σ i
    rw [e1] at this; exact this
  rw [es, eσ] at s4
  exact k σ _ H E s4 (q.mono hfp)
theorem bs_forget {i : Nat} (k : Bs K G t (S.set i .any) o) : Bs K G t S o := fun σ Hf H E hs q => k σ Hf H E hs.forget q

/-! ### return, if -/
theorem bs_ret (h : Ev K G te S d S1) : Bs K G (tSeq (tRet te) rest) S (.rt (.val d) S1) := fun σ Hf H E hs q =>
  h σ Hf H hs _ fun v Hn H2 e s dv => q v σ Hn H2 e s dv
theorem bs_retN (h : EvN K G te S c S1) : Bs K G (tSeq (tRet te) rest) S (.rt (.new c) S1) := fun σ Hf H E hs q =>
  h σ Hf H hs _ fun p Hn H2 e s f cn => q (.ref p) σ Hn H2 e s ⟨p, rfl, f, cn⟩
theorem bs_retO {i : Nat} (hx : S[i]? = some (.own c)) : Bs K G (tSeq (tRet (tVar i)) rest) S (.rt (.new c) (S.set i .any)) := fun σ Hf H E hs q => by
  obtain ⟨p, e1, e2, e3, e4⟩ := hs.val i _ hx
  exact ⟨.ref p, e1, q (.ref p) σ Hf H (Same.refl _) hs.forget ⟨p, rfl, hs.letGo hx rfl e1 e3, e4⟩⟩
theorem bs_retNone : Bs K G (tSeq tRetN rest) S (.rt (.val .none) S) := fun σ Hf H E hs q => q .non σ Hf H (Same.refl _) hs .non
theorem bs_if (h : EvB K G tt S b S1) (h1 : b = true → Bs K G t S1 o) (h2 : b = false → Bs K G u S1 o) : Bs K G (tIfS tt t u) S o := fun σ Hf H E hs q =>
  h σ Hf H hs _ fun Hn H2 e s => by
    cases b with
    | true => exact h1 rfl σ Hn H2 E s (q.mono e)
    | false => exact h2 rfl σ Hn H2 E s (q.mono e)
/-- .. with what follows in both ways -/
theorem bs_ifS (h : EvB K G tt S b S1) (h1 : b = true → Bs K G (tSeq t rest) S1 o) (h2 : b = false → Bs K G (tSeq u rest) S1 o) : Bs K G (tSeq (tIfS tt t u) rest) S o := fun σ Hf H E hs q =>
  h σ Hf H hs _ fun Hn H2 e s => by
    cases b with
    | true => exact h1 rfl σ Hn H2 E s (q.mono e)
    | false => exact h2 rfl σ Hn H2 E s (q.mono e)

/-! ### our own lists change -/
theorem own_lst {σ : L2.St} {i : Nat} {s : VS} (hs : SOk K G Hf H S σ) (hi : S[i]? = some s) (hc : s.cn = some (.lst ds)) : ∃ p vs, σ[i]? = some (some (.ref p)) ∧ H p = some (.lst vs) ∧ DqAll K Hf vs ds ∧ s.mine = true := by
  have v := hs.val i s hi
  cases s with
  | own c => cases hc; obtain ⟨p, e1, _, _, vs, e2, e3⟩ := v; exact ⟨p, vs, e1, e2, e3, rfl⟩
  | bor p c => cases hc; obtain ⟨e1, _, _, vs, e2, e3⟩ := v; exact ⟨p, vs, e1, e2, e3, rfl⟩
  | _ => cases hc
theorem SOk.lput {σ : L2.St} {i : Nat} {s : VS} {p : Addr} {vs : List V} (hs : SOk K G Hf H S σ) (hi : S[i]? = some s) (m : s.mine = true) (hx : σ[i]? = some (some (.ref p))) (dv : DqAll K Hf vs ds) : SOk K G Hf (upd H p (.lst vs)) (S.set i (s.put (.lst ds))) σ :=
  hs.mut hi m hx ⟨vs, upd_same, dv⟩
/-- xs.append(e) -/
theorem bs_app {i : Nat} {s s1 : VS} {es : List D} (hx : S[i]? = some s) (hc : s.cn = some (.lst es)) (h : Ev K G te S d S1) (h1 : S1[i]? = some s1) (hc1 : s1.cn = some (.lst ds)) (hl : ds.length ≤ 1000000)
    (k : Bs K G rest (S1.set i (s1.put (.lst (ds ++ [d])))) o) : Bs K G (tSeq (tDrop (tBM K "list" rAppend (tVar i) (tCons te tNil))) rest) S o := fun σ Hf H E hs q => by
  obtain ⟨p, vs, e1, e2, e3, m⟩ := own_lst hs hx hc
  refine ⟨.ref p, e1, Or.inl ⟨rfl, _, SqL.of e2⟩, h σ Hf H hs _ fun v Hn H2 e s dv => ?_⟩
  obtain ⟨p', vs', f1, f2, f3, m1⟩ := own_lst s h1 hc1
  rw [e1] at f1; cases f1
  exact ⟨p, vs', v, rfl, rfl, f2, smallLt (by rw [dpa_len f3]; exact hl), k σ Hn _ E (s.lput h1 m1 e1 (dpa_snoc f3 dv)) (q.mono e)⟩
/-- xs.pop() as a value -/
theorem ev_pop {i : Nat} {s : VS} (hx : S[i]? = some s) (hc : s.cn = some (.lst ds)) (hd : ds[ds.length - 1]? = some d) : Ev K G (tBM0 K "list" rPop (tVar i)) S d (S.set i (s.put (.lst ds.dropLast))) := fun σ Hf H hs Q q => by
  obtain ⟨p, vs, e1, e2, e3, m⟩ := own_lst hs hx hc
  obtain ⟨v, h1, h2⟩ := dpa_get' e3 hd
  exact ⟨.ref p, e1, Or.inl ⟨rfl, _, SqL.of e2⟩, p, vs, v, rfl, rfl, e2, by rw [dpa_len e3]; exact h1, q v Hf _ (Same.refl _) (hs.lput hx m e1 (dpa_dropLast e3)) h2⟩
/-- xs.pop(k) -/
theorem ev_popAt {i : Nat} {s s1 : VS} {es : List D} {k : Int} {j : Nat} (hx : S[i]? = some s) (hc : s.cn = some (.lst es)) (h : Ev K G te S (.int k) S1) (h1 : S1[i]? = some s1) (hc1 : s1.cn = some (.lst ds)) (hj : ixN ds.length k = some j) (hd : ds[j]? = some d) (hl : ds.length ≤ 1000000) :
    Ev K G (tBM K "list" rPopAt (tVar i) (tCons te tNil)) S d (S1.set i (s1.put (.lst (ds.eraseIdx j)))) := fun σ Hf H hs Q q => by
  obtain ⟨p, vs, e1, e2, e3, m⟩ := own_lst hs hx hc
  refine ⟨.ref p, e1, Or.inl ⟨rfl, _, SqL.of e2⟩, h σ Hf H hs _ fun v Hn H2 e s dv => ?_⟩
  obtain ⟨p', vs', f1, f2, f3, m1⟩ := own_lst s h1 hc1
  rw [e1] at f1; cases f1
  cases dv
  obtain ⟨w, g1, g2⟩ := dpa_get' f3 hd
  have hix := ixN_seq hj
  have hlen : vs'.length = ds.length := dpa_len f3
  obtain ⟨k1, k2, k3, k4⟩ := hix
  exact ⟨p, vs', k, j, w, rfl, rfl, f2, by omega, by omega, by rw [hlen]; exact k1, g1, q w Hn _ e (s.lput h1 m1 e1 (dpa_erase j f3)) g2⟩
/-- xs[k] = e -/
theorem bs_setI {i : Nat} {s1 : VS} {ti : TE} {k : Int} {j : Nat} (h : Ev K G te S d S1) (hi : Ev K G ti S1 (.int k) S2) (h1 : S1[i]? = some s1) (m1 : s1.mine = true) {s2 : VS} (h2 : S2[i]? = some s2) (hc2 : s2.cn = some (.lst ds)) (hj : ixN ds.length k = some j)
    (kk : Bs K G rest (S2.set i (s2.put (.lst (ds.set j d)))) o) : Bs K G (tSeq (tAsg te (gSub (tVar i) ti rSetL)) rest) S o := fun σ Hf H E hs q =>
  h σ Hf H hs _ fun v Hn H2 e s dv => by
    obtain ⟨p0, c0, e1, _, _⟩ := (s.val i s1 h1).mine_at m1
    refine ⟨.ref p0, e1, hi σ Hn H2 s _ fun w Hm H3 e3 s3 dw => ?_⟩
    obtain ⟨p, vs, f1, f2, f3, m⟩ := own_lst s3 h2 hc2
    rw [e1] at f1; cases f1
    cases dw
    exact ⟨p0, vs, k, j, rfl, rfl, f2, by rw [dpa_len f3]; exact hj, kk σ Hm _ E (s3.lput h2 m e1 (dpa_set j f3 (dp_mono e3 _ _ dv))) (q.mono (e.trans e3))⟩

/-! ### shells: a tuple of frozen data and of new lists -/
/-- what a tuple display holds, from the left: what came before must stay (pins) -/
def EvS (K : PySem.W.Frag) (G : Ent) (ta : TA) (S : List VS) (cs : List (D ⊕ Cn)) (S' : List VS) : Prop :=
  ∀ (σ : L2.St) (Hf H : Hp), SOk K G Hf H S σ → ∀ Q : List V → Hp → Prop, (∀ vs Hn H2, Same Hf Hn → SOk K G Hn H2 S' σ → ShAt K G Hn H2 cs vs → (shA cs vs).Nodup → (∀ p ∈ shA cs vs, Fresh K G Hn S' σ p) → Q vs H2) → ta σ H Q
theorem es_nil : EvS K G tNil S [] S := fun σ Hf H hs Q q => q [] Hf H (Same.refl _) hs .nil List.nodup_nil (fun p hp => nomatch hp)
theorem es_val {tr : TA} {cs : List (D ⊕ Cn)} (h : Ev K G ta S d S1) (hr : EvS K G tr S1 cs S2) : EvS K G (tCons ta tr) S (.inl d :: cs) S2 := fun σ Hf H hs Q q =>
  h σ Hf H hs _ fun v Hn H2 e s dv => hr σ Hn H2 s _ fun vs Hm H3 e2 s2 sh nd fr => q (v :: vs) Hm H3 (e.trans e2) s2 (.val (dp_mono e2 _ _ dv) sh) (by cases v <;> exact nd) (fun p hp => fr p (by cases v <;> exact hp))
/-- a slot's own list goes into the shell: the last one -/
theorem es_own {i : Nat} (hx : S[i]? = some (.own c)) : EvS K G (tCons (tVar i) tNil) S [.inr c] (S.set i .any) := fun σ Hf H hs Q q => by
  obtain ⟨p, e1, e2, e3, e4⟩ := hs.val i _ hx
  refine ⟨.ref p, e1, q [.ref p] Hf H (Same.refl _) hs.forget (.own e2 e3 e4 .nil) (by simp [shA]) fun p' hp => ?_⟩
  have : p' = p := by simpa [shA] using hp
  subst this
  exact hs.letGo hx rfl e1 e3
/-- a new list, the last one -/
theorem es_new (h : EvN K G te S c S1) : EvS K G (tCons te tNil) S [.inr c] S1 := fun σ Hf H hs Q q =>
  h σ Hf H hs _ fun p Hn H2 e s f cn => q [.ref p] Hn H2 e s (.own f.hf f.hg cn .nil) (by simp [shA]) fun p' hp => by
    have : p' = p := by simpa [shA] using hp
    subst this; exact f
/-- two slots' own lists -/
theorem es_own2 {i j : Nat} {c2 : Cn} (hx : S[i]? = some (.own c)) (hy : S[j]? = some (.own c2)) (hij : i ≠ j) : EvS K G (tCons (tVar i) (tCons (tVar j) tNil)) S [.inr c, .inr c2] ((S.set i .any).set j .any) := fun σ Hf H hs Q q => by
  obtain ⟨p, e1, e2, e3, e4⟩ := hs.val i _ hx
  obtain ⟨r, f1, f2, f3, f4⟩ := hs.val j _ hy
  have hy' : (S.set i .any)[j]? = some (.own c2) := by rw [List.getElem?_set_ne hij]; exact hy
  have fp := hs.letGo hx rfl e1 e3
  have fr := hs.forget.letGo hy' rfl f1 f3
  have npr : p ≠ r := fun z => fp.no j _ hy' (by rw [z]; exact f1)
  refine ⟨.ref p, e1, .ref r, f1, q [.ref p, .ref r] Hf H (Same.refl _) hs.forget.forget (.own e2 e3 e4 (.own f2 f3 f4 .nil)) (by simp [shA, npr]) fun p' hp => ?_⟩
  have : p' = p ∨ p' = r := by simpa [shA] using hp
  rcases this with rfl | rfl
  · refine ⟨fp.hf, fp.hg, fp.hP, fun k t ek ok => ?_⟩
    have nk := set_any_ne ek ok
    rw [List.getElem?_set_ne (Ne.symm nk)] at ek
    exact fp.no k t ek ok
  · exact fr
theorem shAt_len : ∀ {cs : List (D ⊕ Cn)} {vs : List V}, ShAt K G Hf H cs vs → vs.length = cs.length
  | _, _, .nil => rfl
  | _, _, .val _ t => congrArg (· + 1) (shAt_len t)
  | _, _, .own _ _ _ t => congrArg (· + 1) (shAt_len t)
theorem bs_retS {ts : TA} {cs : List (D ⊕ Cn)} (h : EvS K G ts S cs S1) (hl : cs.length ≤ 1000) : Bs K G (tSeq (tRet (tTup ts)) rest) S (.rt (.shell cs) S1) := fun σ Hf H E hs q =>
  h σ Hf H hs _ fun vs Hn H2 e s sh nd fr => by
    have hlen : vs.length = cs.length := shAt_len sh
    refine ⟨small (by omega), fun t ht => ?_⟩
    have g := Gw.new (o := .tup vs) s.ex ht
    have s2 := s.grow g
    refine q (.ref t) σ _ _ (e.trans g.a) s2 ⟨t, vs, rfl, upd_same, sh.step g.a fun p hp => ⟨g.d p (sh.mem hp).2.2 (sh.mem hp).1, g.c p⟩, nd, fun p hp => Fresh.step s (fr p hp) g (sh.mem hp).2.2⟩
/-- an item of a shell's list is appended, and the shell is forgotten: told[k].append(e) -/
theorem bs_appShell {i : Nat} {cs : List (D ⊕ Cn)} {k : Nat} {tr : TE} (hx : S[i]? = some (.shell cs)) (hk : cs[k]? = some (.inr (.lst ds))) (hl : ds.length ≤ 1000000)
    (hr : ∀ (σ : L2.St) (H : Hp) (t : Addr) (vs : List V) (p : Addr), σ[i]? = some (some (.ref t)) → H t = some (.tup vs) → vs[k]? = some (.ref p) → ∀ Q : VK, Q (.ref p) H → tr σ H Q)
    (h : ∀ G', Ev K G' te (S.set i .any) d (S.set i .any)) (ha : atomD d = true) (kk : Bs K G rest (S.set i .any) o) : Bs K G (tSeq (tDrop (tBM K "list" rAppend tr (tCons te tNil))) rest) S o := fun σ Hf H E hs q => by
  obtain ⟨t, vs, e1, e2, e3, e4⟩ := hs.val i _ hx
  have hp : ∃ p ws, vs[k]? = some (.ref p) ∧ p ∈ shA cs vs ∧ H p = some (.lst ws) ∧ DqAll K Hf ws ds := by
    clear hx hr e1 e2 e4
    induction e3 generalizing k with
    | nil => simp at hk
    | val a t ih =>
      cases k with
      | zero => simp at hk
      | succ k =>
        obtain ⟨p, ws, h1, h2, h3⟩ := ih (by simpa using hk)
        rename_i v _ _
        exact ⟨p, ws, by simpa using h1, by cases v <;> exact h2, h3⟩
    | own a b c t ih =>
      cases k with
      | zero => simp at hk; subst hk; obtain ⟨ws, c1, c2⟩ := c; exact ⟨_, ws, rfl, List.mem_cons_self, c1, c2⟩
      | succ k =>
        obtain ⟨p, ws, h1, h2, h3⟩ := ih (by simpa using hk)
        exact ⟨p, ws, by simpa using h1, List.mem_cons_of_mem _ h2, h3⟩
  obtain ⟨p, ws, h1, h2, h3, h4⟩ := hp
  refine hr σ H t vs p e1 (hs.ex _ _ e2) h1 _ ⟨Or.inl ⟨rfl, _, SqL.of h3⟩, ?_⟩
  have own : Owns Hf (.shell cs) σ[i]? p := ⟨t, vs, e1, e2, h2⟩
  have sf := hs.forget (i := i)
  have fp : Fresh K G Hf (S.set i .any) σ p := by
    refine ⟨(hs.owned hx own).1, (e3.mem h2).2.1, ?_, fun j u ej oj => ?_⟩
    · cases e : G.P p with
      | none => rfl
      | some u => exact absurd own ((hs.pin p u e).2.2 i _ hx)
    · have nj := set_any_ne ej oj
      rw [List.getElem?_set_ne (Ne.symm nj)] at ej
      exact nj (hs.inj j i u _ p ej hx oj own)
  refine h (G.pinAt p (.lst ws)) σ Hf H (sf.pinned fp h3) _ fun v Hn H2 e s dv => ?_
  obtain ⟨s2, f2, h5⟩ := s.unpinned fp.hg fp.hP
  exact ⟨p, ws, v, rfl, rfl, h5, smallLt (by rw [dpa_len h4]; exact hl), kk σ Hn _ E (s2.other f2) (q.mono e)⟩
end
end MM

set_option Elab.async false
set_option linter.all false
set_option maxRecDepth 100000
set_option maxHeartbeats 4000000
set_option autoImplicit false
namespace MM
open PySem L2

/-! ## loops -/
inductive Stp (τ ρ : Type) where
  | nx (s : τ)
  | bk (s : τ)
  | rt (r : ρ)
def forL {α τ : Type} (f : α → τ → Option τ) : List α → τ → Option τ
  | [], s => some s
  | a :: as, s => match f a s with
    | none => none
    | some s' => forL f as s'
def forS {α τ ρ : Type} (f : α → τ → Option (Stp τ ρ)) : List α → τ → Option (Stp τ ρ)
  | [], s => some (.nx s)
  | a :: as, s => match f a s with
    | none => none
    | some (.nx s') => forS f as s'
    | some (.bk s') => some (.nx s')
    | some (.rt r) => some (.rt r)
theorem forS_of {α τ ρ : Type} {f : α → τ → Option τ} : ∀ {as : List α} {s s' : τ}, forL f as s = some s' → forS (ρ := ρ) (fun a s => (f a s).map .nx) as s = some (.nx s')
  | [], s, s', h => by cases h; rfl
  | a :: as, s, s', h => by
    unfold forL at h
    unfold forS
    cases hf : f a s with
    | none => rw [hf] at h; cases h
    | some s1 => rw [hf] at h; exact forS_of h
def whileS {τ ρ : Type} (c : τ → Option Bool) (f : τ → Option (Stp τ ρ)) : Nat → τ → Option (Stp τ ρ)
  | 0, _ => none
  | n + 1, s => match c s with
    | none => none
    | some false => some (.nx s)
    | some true => match f s with
      | none => none
      | some (.nx s') => whileS c f n s'
      | some (.bk s') => some (.nx s')
      | some (.rt r) => some (.rt r)
def whileL {τ : Type} (c : τ → Option Bool) (f : τ → Option τ) : Nat → τ → Option τ
  | 0, _ => none
  | n + 1, s => match c s with
    | none => none
    | some false => some s
    | some true => match f s with
      | none => none
      | some s' => whileL c f n s'
theorem whileS_of {τ ρ : Type} {c : τ → Option Bool} {f : τ → Option τ} : ∀ {n : Nat} {s s' : τ}, whileL c f n s = some s' → whileS (ρ := ρ) c (fun s => (f s).map .nx) n s = some (.nx s')
  | 0, s, s', h => by cases h
  | n + 1, s, s', h => by
    unfold whileL at h
    unfold whileS
    cases hc : c s with
    | none => rw [hc] at h; cases h
    | some b =>
      rw [hc] at h
      cases b with
      | false => cases h; rfl
      | true =>
        dsimp only at h ⊢
        cases hf : f s with
        | none => rw [hf] at h; cases h
        | some s1 => rw [hf] at h; exact whileS_of h

section
variable {K : PySem.W.Frag} {G : Ent} {te ta tb tc : TE} {tt tu : TT} {S S0 S1 S2 S3 : List VS} {d x y z : D} {ds : List D} {c : Cn} {a b b1 b2 : Bool} {r : RK} {Hf Hn H : Hp} {t u rest tbd : TS} {o : Out} {g : TG} {ti : TI} {α τ ρ : Type} {us : List Nat}

theorem Bs.wipe (h : Bs K G t S (.nc S1)) (vs : List Nat) : Bs K G t S (.nc (wipeS S1 vs)) := fun σ Hf H E hs q => by
  refine h σ Hf H E hs fun σ2 Hn H2 e s => ?_
  have f : ∀ vs : List Nat, SOk K G Hn H2 (wipeS S1 vs) σ2 := fun vs => by
    induction vs with
    | nil => exact s
    | cons v vs ih => exact ih.forget
  exact q σ2 Hn H2 e (f vs)
theorem Bs.wipeB (h : Bs K G t S (.bk S1)) (vs : List Nat) : Bs K G t S (.bk (wipeS S1 vs)) := fun σ Hf H E hs q => by
  refine h σ Hf H E hs fun σ2 Hn H2 e s => ?_
  have f : ∀ vs : List Nat, SOk K G Hn H2 (wipeS S1 vs) σ2 := fun vs => by
    induction vs with
    | nil => exact s
    | cons v vs ih => exact ih.forget
  exact q σ2 Hn H2 e (f vs)
theorem Bs.wipeN (h : Bs K G t S (.nx S1)) (vs : List Nat) : Bs K G t S (.nx (wipeS S1 vs)) := fun σ Hf H E hs q => by
  refine h σ Hf H E hs fun σ2 Hn H2 e s => ?_
  have f : ∀ vs : List Nat, SOk K G Hn H2 (wipeS S1 vs) σ2 := fun vs => by
    induction vs with
    | nil => exact s
    | cons v vs ih => exact ih.forget
  exact q σ2 Hn H2 e (f vs)

def outS (St : τ → List VS) (rk : ρ → RK) (rS : ρ → List VS) : Stp τ ρ → Out
  | .nx s => .nc (St s)
  | .bk s => .bk (St s)
  | .rt r => .rt (rk r) (rS r)
theorem bs_forS {en : α → D} {xs : List α} {St : τ → List VS} {Sa : α → τ → List VS} {f : α → τ → Option (Stp τ ρ)} {rk : ρ → RK} {rS : ρ → List VS} {s0 : τ} {res : Stp τ ρ}
    (hsrc : Src K G ti S (xs.map en) S1) (h0 : S1 = St s0) (hr : forS f xs s0 = some res)
    (hg : ∀ a s, a ∈ xs → Tg K G g us (St s) (en a) (Sa a s)) (hb : ∀ a s y, a ∈ xs → f a s = some y → Bs K G tbd (Sa a s) (outS St rk rS y))
    (hk : ∀ s, res = .nx s → Bs K G rest (St s) o) (hk2 : ∀ r, res = .rt r → o = .rt (rk r) (rS r)) : Bs K G (tSeq (tFor ti g tbd) rest) S o := fun σ Hf H E hs q =>
  hsrc σ Hf H hs _ fun J H0 H1 e1 so wk => by
    have hlen : (xs.map en).length = xs.length := List.length_map _
    refine ⟨fun i m σ' Hc => ∃ (s : τ) (Hn : Hp), Same H0 Hn ∧ SOk K G Hn Hc (St s) σ' ∧ forS f (xs.drop i) s = some res ∧ m = xs.length - i ∧ i ≤ xs.length, ⟨xs.length, s0, H0, Same.refl _, h0 ▸ so, hr, rfl, Nat.zero_le _⟩, ?_⟩
    rintro i m σ' Hc ⟨s, Hn, eh, sk, hrs, hmi, hi⟩
    by_cases hlt : i < xs.length
    · refine .inr ⟨wk.go i Hn Hc eh sk.ex (by rw [hlen]; exact hlt), fun σ3 H' => ∃ (s : τ) (Hn : Hp), Same H0 Hn ∧ SOk K G Hn H' (St s) σ3 ∧ forS f (xs.drop (i + 1)) s = some res, fun σ3 H' h' => ?_, fun x H' hy => ?_⟩
      · obtain ⟨s, Hn, c1, c2, c3⟩ := h'
        exact ⟨xs.length - (i + 1), by omega, s, Hn, c1, c2, c3, rfl, by omega⟩
      · obtain ⟨Hm, dx, gw, hdx, dqx⟩ := wk.yld i Hn Hc x H' eh sk.ex (by rw [hlen]; exact hlt) hy
        have hdx2 : dx = en xs[i] := by
          rw [List.getElem?_map, List.getElem?_eq_getElem hlt] at hdx
          exact (Option.some.inj hdx).symm
        subst hdx2
        rw [List.drop_eq_getElem_cons hlt] at hrs
        have hmem : xs[i] ∈ xs := List.getElem_mem hlt
        refine hg _ s hmem σ' Hm H' x (sk.grow gw) dqx _ fun σ2 s2 _ _ => ?_
        unfold forS at hrs
        cases hf : f xs[i] s with
        | none => rw [hf] at hrs; cases hrs
        | some y =>
          rw [hf] at hrs
          refine hb _ s y hmem hf σ2 Hm H' _ s2 ?_
          cases y with
          | nx s' => exact fun σ3 Ho H4 e4 s4 => ⟨⟨s', Ho, (eh.trans gw.a).trans e4, s4, hrs⟩, ⟨s', Ho, (eh.trans gw.a).trans e4, s4, hrs⟩⟩
          | bk s' =>
            have e : res = .nx s' := (Option.some.inj hrs).symm
            exact fun σ3 Ho H4 e4 s4 => hk s' e σ3 Ho H4 E s4 (q.mono (((e1.trans eh).trans gw.a).trans e4))
          | rt r =>
            have e : res = .rt r := (Option.some.inj hrs).symm
            have eo := hk2 r e
            subst eo
            exact fun v σ3 Ho H4 e4 s4 rr => q v σ3 Ho H4 (((e1.trans eh).trans gw.a).trans e4) s4 rr
    · have hi2 : i = xs.length := by omega
      subst hi2
      rw [List.drop_length] at hrs
      have e : res = .nx s := (Option.some.inj hrs).symm
      exact .inl ⟨by rw [← hlen]; exact wk.stop Hn Hc eh sk.ex, hk s e σ' Hn Hc E sk (q.mono (e1.trans eh))⟩
theorem bs_forL {en : α → D} {xs : List α} {St : τ → List VS} {Sa : α → τ → List VS} {f : α → τ → Option τ} {s0 s1 : τ}
    (hsrc : Src K G ti S (xs.map en) S1) (h0 : S1 = St s0) (hr : forL f xs s0 = some s1)
    (hg : ∀ a s, a ∈ xs → Tg K G g us (St s) (en a) (Sa a s)) (hb : ∀ a s s', a ∈ xs → f a s = some s' → Bs K G tbd (Sa a s) (.nc (St s')))
    (hk : Bs K G rest (St s1) o) : Bs K G (tSeq (tFor ti g tbd) rest) S o :=
  bs_forS (ρ := Empty) (rk := fun r => nomatch r) (rS := fun r => nomatch r) hsrc h0 (forS_of hr) hg (fun a s y ha hy => by
    cases hf : f a s with
    | none => rw [hf] at hy; cases hy
    | some s' => rw [hf] at hy; cases hy; exact hb a s s' ha hf) (fun s e => by cases e; exact hk) fun r e => nomatch r
theorem bs_whileS {St : τ → List VS} {cond : τ → Option Bool} {f : τ → Option (Stp τ ρ)} {rk : ρ → RK} {rS : ρ → List VS} {n : Nat} {s0 : τ} {res : Stp τ ρ}
    (h0 : S = St s0) (hr : whileS cond f n s0 = some res) (ht : ∀ s b, cond s = some b → EvB K G tt (St s) b (St s)) (hb : ∀ s y, cond s = some true → f s = some y → Bs K G tbd (St s) (outS St rk rS y))
    (hk : ∀ s, res = .nx s → Bs K G rest (St s) o) (hk2 : ∀ r, res = .rt r → o = .rt (rk r) (rS r)) : Bs K G (tSeq (tWhile tt tbd) rest) S o := fun σ Hf H E hs q => by
  refine ⟨fun m σ' Hc => ∃ (s : τ) (Hn : Hp), Same Hf Hn ∧ SOk K G Hn Hc (St s) σ' ∧ whileS cond f m s = some res, ⟨n, s0, Hf, Same.refl _, h0 ▸ hs, hr⟩, ?_⟩
  rintro m σ' Hc ⟨s, Hn, eh, sk, hrs⟩
  cases m with
  | zero => cases hrs
  | succ m =>
    unfold whileS at hrs
    cases hc : cond s with
    | none => rw [hc] at hrs; cases hrs
    | some b =>
      rw [hc] at hrs
      refine ht s b hc σ' Hn Hc sk _ fun Hm H2 e2 s2 => ?_
      cases b with
      | false =>
        have e : res = .nx s := (Option.some.inj hrs).symm
        exact hk s e σ' Hm H2 E s2 (q.mono (eh.trans e2))
      | true =>
        dsimp only at hrs
        show ∃ N : L2.St → Hp → Prop, _
        refine ⟨fun σ3 H3 => ∃ (s : τ) (Hn : Hp), Same Hf Hn ∧ SOk K G Hn H3 (St s) σ3 ∧ whileS cond f m s = some res, fun σ3 H3 h3 => ⟨m, Nat.lt_succ_self m, h3⟩, ?_⟩
        cases hf : f s with
        | none => rw [hf] at hrs; cases hrs
        | some y =>
          rw [hf] at hrs
          refine hb s y hc hf σ' Hm H2 _ s2 ?_
          cases y with
          | nx s' => exact fun σ3 Ho H4 e4 s4 => ⟨⟨s', Ho, (eh.trans e2).trans e4, s4, hrs⟩, ⟨s', Ho, (eh.trans e2).trans e4, s4, hrs⟩⟩
          | bk s' =>
            have e : res = .nx s' := (Option.some.inj hrs).symm
            exact fun σ3 Ho H4 e4 s4 => hk s' e σ3 Ho H4 E s4 (q.mono ((eh.trans e2).trans e4))
          | rt r =>
            have e : res = .rt r := (Option.some.inj hrs).symm
            have eo := hk2 r e
            subst eo
            exact fun v σ3 Ho H4 e4 s4 rr => q v σ3 Ho H4 ((eh.trans e2).trans e4) s4 rr
theorem bs_whileL {St : τ → List VS} {cond : τ → Option Bool} {f : τ → Option τ} {n : Nat} {s0 s1 : τ}
    (h0 : S = St s0) (hr : whileL cond f n s0 = some s1) (ht : ∀ s b, cond s = some b → EvB K G tt (St s) b (St s)) (hb : ∀ s s', cond s = some true → f s = some s' → Bs K G tbd (St s) (.nc (St s')))
    (hk : Bs K G rest (St s1) o) : Bs K G (tSeq (tWhile tt tbd) rest) S o :=
  bs_whileS (ρ := Empty) (rk := fun r => nomatch r) (rS := fun r => nomatch r) h0 (whileS_of hr) ht (fun s y hc hy => by
    cases hf : f s with
    | none => rw [hf] at hy; cases hy
    | some s' => rw [hf] at hy; cases hy; exact hb s s' hc hf) (fun s e => by cases e; exact hk) fun r e => nomatch r

/-! ## calls -/
/-- what a call hands back -/
def RtC (K : PySem.W.Frag) (H Hn H2 : Hp) (v : V) : RK → Prop
  | .val d => Dq K Hn v d
  | .new c => ∃ p, v = .ref p ∧ H p = none ∧ Hn p = none ∧ CnAt K Hn H2 p c
  | .shell cs => ∃ t vs, v = .ref t ∧ Hn t = some (.tup vs) ∧ ShAt K ⟨Hn, H, [], fun _ => none⟩ Hn H2 cs vs ∧ (shA cs vs).Nodup
/-- the promise of a def that changes nothing of its arguments -/
def sp0 (K : PySem.W.Frag) (R : List D → RK → Prop) : Sp := fun vs H Q _ => ∃ (Hf : Hp) (ds : List D) (r : RK), DqAll K Hf vs ds ∧ Same Hf H ∧ R ds r ∧ ∀ v Hn H2, Gw Hf H Hn H2 → RtC K H Hn H2 v r → Q v H2
/-- .. of one that is lent an object: its argument number k -/
def sp1 (K : PySem.W.Frag) (k : Nat) (R : List D → Cn → List D → RK → Cn → Prop) : Sp := fun vs H Q _ => ∃ (Hf : Hp) (us ws : List V) (p : Addr) (ds es : List D) (c c' : Cn) (r : RK),
  vs = us ++ .ref p :: ws ∧ us.length = k ∧ DqAll K Hf us ds ∧ DqAll K Hf ws es ∧ Hf p = none ∧ CnAt K Hf H p c ∧ Same Hf H ∧ R ds c es r c' ∧
  ∀ v Hn H2, Same Hf Hn → Same Hn H2 → (∀ x o, x ≠ p → H x = some o → H2 x = some o) → (∀ x, H x ≠ none → Hf x = none → Hn x = none) → CnAt K Hn H2 p c' → RtC K H Hn H2 v r → Q v H2

theorem shAt_call {K : PySem.W.Frag} {H' : Hp} {P : Hp} : ∀ {cs : List (D ⊕ Cn)} {vs : List V}, ShAt K ⟨Hn, H', [], P⟩ Hn H cs vs → (∀ p, H' p = none → G.H p = none) → ShAt K G Hn H cs vs
  | _, _, .nil, _ => .nil
  | _, _, .val a t, h => .val a (shAt_call t h)
  | _, _, .own a b c t, h => .own a (h _ b) c (shAt_call t h)
theorem ev_call {R : List D → RK → Prop} {ts : TA} {E : XK} (ha : EvA K G ts S ds S1) (hR : R ds (.val d)) : Ev K G (tCall (sp0 K R) [] E ts) S d S1 := fun σ Hf H hs Q q =>
  ha σ Hf H hs _ fun vs Hn H2 e s dv => by
    rw [List.append_nil]
    exact ⟨Hn, ds, .val d, dv, s.ex, hR, fun v Hm H3 g r => q v Hm H3 (e.trans g.a) (s.grow g) r⟩
theorem evn_call {R : List D → RK → Prop} {ts : TA} {E : XK} (ha : EvA K G ts S ds S1) (hR : R ds (.new c)) : EvN K G (tCall (sp0 K R) [] E ts) S c S1 := fun σ Hf H hs Q q =>
  ha σ Hf H hs _ fun vs Hn H2 e s dv => by
    rw [List.append_nil]
    refine ⟨Hn, ds, .new c, dv, s.ex, hR, fun v Hm H3 g r => ?_⟩
    obtain ⟨p, rfl, h1, h2, h3⟩ := r
    have f := s.fresh h1
    exact q p Hm H3 (e.trans g.a) (s.grow g) ⟨h2, f.hg, f.hP, f.no.mono s g.a⟩ h3
/-- x = f(..), a shell -/
theorem bs_asgShell {R : List D → RK → Prop} {ts : TA} {E : XK} {i : Nat} {cs : List (D ⊕ Cn)} (ha : EvA K G ts S ds S1) (hR : R ds (.shell cs)) (k : Bs K G rest (S1.set i (.shell cs)) o) (hi : i < S1.length) : Bs K G (tSeq (tAsg (tCall (sp0 K R) [] E ts) (gName i)) rest) S o := fun σ Hf H Ed hs q =>
  ha σ Hf H hs _ fun vs Hn H2 e s dv => by
    rw [List.append_nil]
    refine ⟨Hn, ds, .shell cs, dv, s.ex, hR, fun v Hm H3 g r => ?_⟩
    obtain ⟨t, us, rfl, h1, h2, h3⟩ := r
    have s2 := s.grow g
    have fr : ∀ p ∈ shA cs us, Fresh K G Hm S1 σ p := fun p hp => by
      obtain ⟨m1, m2, m3⟩ := h2.mem hp
      have f := s.fresh m2
      exact ⟨m1, f.hg, f.hP, f.no.mono s g.a⟩
    have s3 := s2.set (i := i) (s := .shell cs) (v := .ref t) ⟨t, us, rfl, h1, shAt_call h2 fun p hp => s.newG hp, h3⟩ (fun p op => by
      obtain ⟨t', vs', e1, e2, m⟩ := op
      cases e1; rw [h1] at e2; cases e2
      exact ⟨(fr p m).no, (fr p m).hP⟩) hi
    exact k _ Hm H3 Ed s3 (q.mono (e.trans g.a))
/-- the frame behind a call that was lent p -/
theorem SOk.lent {σ : L2.St} {i : Nat} {s : VS} {p : Addr} {H2 : Hp} {c' : Cn} (hs : SOk K G Hf H S σ) (hx : S[i]? = some s) (m : s.mine = true) (e1 : σ[i]? = some (some (.ref p)))
    (a : Same Hf Hn) (b : Same Hn H2) (f : ∀ x o, x ≠ p → H x = some o → H2 x = some o) (dj : ∀ x, H x ≠ none → Hf x = none → Hn x = none) (hc : CnAt K Hn H2 p c') : SOk K G Hn H2 (S.set i (s.put c')) σ := by
  -- the object at p is taken for the new one first, then all else grows
  cases hp : H2 p with
  | none => exact absurd hp hc.here
  | some o =>
    have w : ∀ q : Addr, H q ≠ none → q ≠ p → upd H p o q ≠ none := fun q hq z => by rw [upd_ne z]; exact hq
    have own := mine_owns (Hf := Hf) m e1
    have hfp := (hs.owned hx own).1
    have same2 : Same (upd H p o) H2 := fun x u ex => by
      by_cases z : x = p
      · subst z; rw [upd_same] at ex; cases ex; exact hp
      · rw [upd_ne z] at ex; exact f x u z ex
    have hil : i < S.length := (List.getElem?_eq_some_iff.mp hx).1
    -- with the slot forgotten the object is nobody's
    have s1 : SOk K G Hf (upd H p o) (S.set i .any) σ := hs.mutTo hx own (s' := .any) trivial fun q z => by cases z
    have g : Gw Hf (upd H p o) Hn H2 := ⟨a, b, same2, fun x h1 h2 => by
      by_cases z : x = p
      · subst z; exact dj x (hs.owned hx own).2 h2
      · rw [upd_ne z] at h1; exact dj x h1 h2⟩
    have s2 := s1.grow g
    have hv : VAt K G Hn H2 (s.put c') (some (some (.ref p))) := by
      have v := hs.val i s hx
      cases s with
      | own c => obtain ⟨q, e2, _, e4, _⟩ := v; rw [e1] at e2; cases e2; exact ⟨p, rfl, dj p (hs.owned hx own).2 hfp, e4, hc⟩
      | bor q c => obtain ⟨e2, _, e4, _⟩ := v; rw [e1] at e2; cases e2; exact ⟨rfl, dj p (hs.owned hx own).2 hfp, e4, hc⟩
      | _ => cases m
    have no : NoOwn Hf (S.set i .any) σ p := fun j t ej oj => by
      have nj := set_any_ne ej oj
      rw [List.getElem?_set_ne (Ne.symm nj)] at ej
      exact nj (hs.inj j i t s p ej hx oj own)
    have s3 := s2.set (i := i) (s := s.put c') (v := .ref p) hv (fun q oq => by
      have : q = p := by
        cases s with
        | own c => cases oq; rfl
        | bor r c => cases oq; rfl
        | _ => cases m
      subst this
      refine ⟨no.mono s1 a, ?_⟩
      cases e : G.P q with
      | none => rfl
      | some u => exact absurd own ((hs.pin q u e).2.2 i s hx)) (by simp [hil])
    rw [List.set_set] at s3
    have eσ : σ.set i (some (.ref p)) = σ := by
      have := set_same σ i
      rw [e1] at this; exact this
    rw [eσ] at s3
    exact s3
/-- f(x, .., y): x the slot i, lent -/
theorem ev_call1 {k i : Nat} {R : List D → Cn → List D → RK → Cn → Prop} {ts : TA} {E : XK} {pre post : List D} {s1 : VS} {c' : Cn} (ha : EvA1 K G ts S pre i post S1) (hx : S1[i]? = some s1) (hc : s1.cn = some c) (hR : R pre c post (.val d) c') (hk : pre.length = k) :
    Ev K G (tCall (sp1 K k R) [] E ts) S d (S1.set i (s1.put c')) := fun σ Hf H hs Q q =>
  ha σ Hf H hs _ fun vs v us Hn H2 e s dv hv du => by
    have m : s1.mine = true := by cases s1 <;> first | rfl | cases hc
    have vv := s.val i s1 hx
    obtain ⟨p, e1, hcn, hfn⟩ : ∃ p, σ[i]? = some (some (.ref p)) ∧ CnAt K Hn H2 p c ∧ Hn p = none := by
      cases s1 with
      | own c0 => cases hc; obtain ⟨p, a1, a2, _, a4⟩ := vv; exact ⟨p, a1, a4, a2⟩
      | bor p c0 => cases hc; obtain ⟨a1, a2, _, a4⟩ := vv; exact ⟨p, a1, a4, a2⟩
      | _ => cases m
    rw [e1] at hv; cases hv
    rw [List.append_nil]
    exact ⟨Hn, vs, us, p, pre, post, c, c', .val d, rfl, by rw [dpa_len dv]; exact hk, dv, du, hfn, hcn, s.ex, hR, fun w Hm H3 a b f dj hc' r => q w Hm H3 (e.trans a) (s.lent hx m e1 a b f dj hc') r⟩
theorem evn_call1 {k i : Nat} {R : List D → Cn → List D → RK → Cn → Prop} {ts : TA} {E : XK} {pre post : List D} {s1 : VS} {c' c2 : Cn} (ha : EvA1 K G ts S pre i post S1) (hx : S1[i]? = some s1) (hc : s1.cn = some c) (hR : R pre c post (.new c2) c') (hk : pre.length = k) :
    EvN K G (tCall (sp1 K k R) [] E ts) S c2 (S1.set i (s1.put c')) := fun σ Hf H hs Q q =>
  ha σ Hf H hs _ fun vs v us Hn H2 e s dv hv du => by
    have m : s1.mine = true := by cases s1 <;> first | rfl | cases hc
    have vv := s.val i s1 hx
    obtain ⟨p, e1, hcn, hfn⟩ : ∃ p, σ[i]? = some (some (.ref p)) ∧ CnAt K Hn H2 p c ∧ Hn p = none := by
      cases s1 with
      | own c0 => cases hc; obtain ⟨p, a1, a2, _, a4⟩ := vv; exact ⟨p, a1, a4, a2⟩
      | bor p c0 => cases hc; obtain ⟨a1, a2, _, a4⟩ := vv; exact ⟨p, a1, a4, a2⟩
      | _ => cases m
    rw [e1] at hv; cases hv
    rw [List.append_nil]
    refine ⟨Hn, vs, us, p, pre, post, c, c', .new c2, rfl, by rw [dpa_len dv]; exact hk, dv, du, hfn, hcn, s.ex, hR, fun w Hm H3 a b f dj hc' r => ?_⟩
    obtain ⟨p2, rfl, h1, h2, h3⟩ := r
    have s2 := s.lent hx m e1 a b f dj hc'
    have fr := s.fresh h1
    refine q p2 Hm H3 (e.trans a) s2 ⟨h2, fr.hg, fr.hP, fun j t ej oj => ?_⟩ h3
    have hil : i < S1.length := (List.getElem?_eq_some_iff.mp hx).1
    by_cases hj : j = i
    · subst hj
      rw [List.getElem?_set_self hil] at ej; cases ej
      exact fr.no j s1 hx (owns_back a (s.val j s1 hx) (put_owns oj))
    · rw [List.getElem?_set_ne (Ne.symm hj)] at ej
      exact fr.no j t ej (owns_back a (s.val j t ej) oj)
end
end MM

set_option Elab.async false
set_option linter.all false
set_option maxRecDepth 100000
set_option maxHeartbeats 4000000
set_option autoImplicit false
namespace MM
open PySem PySem.Spec PyProof.Rows L2

/-! ## a def by its body -/
/-- the slots at the entry -/
def ent (n : Nat) (ss : List VS) : List VS := ss ++ List.replicate (n - ss.length) .any
def Fin0 (K : PySem.W.Frag) (G : Ent) (t : TS) (S : List VS) (r : RK) : Prop := (∃ S', Bs K G t S (.rt r S')) ∨ (r = .val .none ∧ ∃ S', Bs K G t S (.nx S'))
def Fin1 (K : PySem.W.Frag) (G : Ent) (t : TS) (S : List VS) (r : RK) (k : Nat) (p : Addr) (c' : Cn) : Prop :=
  (∃ S', Bs K G t S (.rt r S') ∧ S'[k]? = some (.bor p c')) ∨ (r = .val .none ∧ ∃ S', Bs K G t S (.nx S') ∧ S'[k]? = some (.bor p c'))

theorem Fin0.rt {K : PySem.W.Frag} {G : Ent} {t : TS} {S S' : List VS} (S0 : List VS) {r : RK} (e0 : S = S0) (h : Bs K G t S0 (.rt r S')) : Fin0 K G t S r := Or.inl ⟨S', e0 ▸ h⟩
theorem Fin0.nx {K : PySem.W.Frag} {G : Ent} {t : TS} {S S' : List VS} (S0 : List VS) (e0 : S = S0) (h : Bs K G t S0 (.nx S')) : Fin0 K G t S (.val .none) := Or.inr ⟨rfl, S', e0 ▸ h⟩
theorem Fin1.rt {K : PySem.W.Frag} {G : Ent} {t : TS} {S S' : List VS} (S0 : List VS) {r : RK} {k : Nat} {p : Addr} {c' : Cn} (e0 : S = S0) (h : Bs K G t S0 (.rt r S')) (e : S'[k]? = some (.bor p c')) : Fin1 K G t S r k p c' := Or.inl ⟨S', e0 ▸ h, e⟩
theorem Fin1.nx {K : PySem.W.Frag} {G : Ent} {t : TS} {S S' : List VS} (S0 : List VS) {k : Nat} {p : Addr} {c' : Cn} (e0 : S = S0) (h : Bs K G t S0 (.nx S')) (e : S'[k]? = some (.bor p c')) : Fin1 K G t S (.val .none) k p c' := Or.inr ⟨rfl, S', e0 ▸ h, e⟩

section
variable {P : Program} {w : World} {K : PySem.W.Frag} {mg : Str → Option Value} {base : Heap} {x qual : Str} {params : Arguments} {body : List Stmt} {scope : Scope} {f : Addr} {fd : FuncData} {N ps : List Str} {k : Nat}

theorem start_get {vs : List V} {N : List Str} {i : Nat} {v : V} (h : vs[i]? = some v) : (L2.start N vs)[i]? = some (some v) := by
  unfold L2.start
  have hi : i < vs.length := (List.getElem?_eq_some_iff.mp h).1
  rw [List.getElem?_append_left (by simpa using hi), List.getElem?_map, h]
  rfl
theorem start_len {vs : List V} {N : List Str} (h : vs.length ≤ N.length) : (L2.start N vs).length = N.length := by
  unfold L2.start; simp; omega
theorem ent_get {n : Nat} {ss : List VS} {i : Nat} {s : VS} (h : (ent n ss)[i]? = some s) : ss[i]? = some s ∨ s = .any := by
  unfold ent at h
  by_cases hi : i < ss.length
  · rw [List.getElem?_append_left hi] at h; exact .inl h
  · rw [List.getElem?_append_right (by omega), List.getElem?_replicate] at h
    split at h
    · cases h; exact .inr rfl
    · cases h
theorem ent_len {n : Nat} {ss : List VS} (h : ss.length ≤ n) : (ent n ss).length = n := by unfold ent; simp; omega
theorem back_shell {G : Ent} {Hn H2 : Hp} : ∀ {cs : List (D ⊕ Cn)} {vs : List V}, ShAt K G Hn H2 cs vs → ShAt K ⟨Hn, G.H, [], fun _ => none⟩ Hn H2 cs vs
  | _, _, .nil => .nil
  | _, _, .val a t => .val a (back_shell t)
  | _, _, .own a b c t => .own a b c (back_shell t)
theorem rt_back {G : Ent} {Hn H2 : Hp} {S : List VS} {σ : L2.St} {v : V} {r : RK} (h : RtAt K G Hn H2 S σ v r) : RtC K G.H Hn H2 v r := by
  cases r with
  | val d => exact h
  | new c => obtain ⟨p, e, f, c⟩ := h; exact ⟨p, e, f.hg, f.hf, c⟩
  | shell cs => obtain ⟨t, vs, a, b, c, d, _⟩ := h; exact ⟨t, vs, a, b, back_shell c, d⟩

theorem fn0 {R : List D → RK → Prop} (F : FunD K x qual params body scope [] [] f fd) (Sc : FnScope N ps scope) (hlen : ∀ ds r, R ds r → ds.length = ps.length)
    (hb : ∀ (cdv : Value) (A : Around) (outer : List Env) (s : Shared) (H : Hp) (E : XK), Room k (A.deeper (envOfC qual scope s.heap.objs.size f cdv)) →
      ∃ t, PSs (cxOf CX0 P w K mg base N qual scope f cdv A outer s H E).nox body t ∧ ∀ (G : Ent) ds r, R ds r → Fin0 K G t (ent N.length (ds.map .val)) r) :
    FnOk P w K mg base CX0 (k + 1) f fd ps (sp0 K R) := by
  have hpl : ps.length ≤ N.length := by have := congrArg List.length Sc.pre; rw [List.length_take] at this; omega
  refine F.ok Sc (fun vs H Q E h => ?_) (fun cdv A outer s H vs Q E hr h => ?_)
  · obtain ⟨Hf, ds, r, dv, _, hR, _⟩ := h
    rw [dpa_len dv]; exact hlen ds r hR
  · obtain ⟨t, ht, hT⟩ := hb cdv A outer s H E hr
    refine ⟨t, ht.nox, ?_⟩
    obtain ⟨Hf, ds, r, dv, hs, hR, q⟩ := h
    have hl : vs.length ≤ N.length := by rw [dpa_len dv, hlen ds r hR]; exact hpl
    have hvd := dpa_len dv
    have sok : SOk K ⟨Hf, H, [], fun _ => none⟩ Hf H (ent N.length (ds.map .val)) (L2.start N vs) := by
      refine ⟨by rw [start_len hl, ent_len (by simp; omega)], hs, Same.refl _, fun x o e _ => e, fun x _ e => e, fun p hp => absurd hp (by simp), fun i s es => ?_, fun i j s t p es et o1 => ?_, fun x o e => nomatch e⟩
      · rcases ent_get es with e | rfl
        · rw [List.getElem?_map] at e
          cases hd : ds[i]? with
          | none => rw [hd] at e; cases e
          | some d =>
            rw [hd] at e; cases e
            obtain ⟨v, h1, h2⟩ := dpa_get' dv hd
            exact ⟨v, start_get h1, h2⟩
        · trivial
      · rcases ent_get es with e | rfl
        · rw [List.getElem?_map] at e
          cases hd : ds[i]? with
          | none => rw [hd] at e; cases e
          | some d => rw [hd] at e; cases e; cases o1
        · cases o1
    have done : ∀ (v : V) (Hn H2 : Hp) (S' : List VS) (σ' : L2.St), Same Hf Hn → SOk K ⟨Hf, H, [], fun _ => none⟩ Hn H2 S' σ' → RtC K H Hn H2 v r → Q v H2 := fun v Hn H2 S' σ' e s rr =>
      q v Hn H2 ⟨e, s.ex, fun x o ex => s.fr x o ex (by simp), fun x h1 h2 => s.dj x h1 h2⟩ rr
    rcases hT ⟨Hf, H, [], fun _ => none⟩ ds r hR with ⟨S', h1⟩ | ⟨rfl, S', h1⟩
    · exact h1 (L2.start N vs) Hf H _ sok fun v σ' Hn H2 e s rr => done v Hn H2 S' σ' e s (rt_back rr)
    · exact h1 (L2.start N vs) Hf H _ sok fun σ' Hn H2 e s => done .non Hn H2 S' σ' e s .non

theorem fn1 {kk : Nat} {R : List D → Cn → List D → RK → Cn → Prop} (F : FunD K x qual params body scope [] [] f fd) (Sc : FnScope N ps scope) (hlen : ∀ ds c es r c', R ds c es r c' → ds.length = kk ∧ ds.length + 1 + es.length = ps.length)
    (hb : ∀ (cdv : Value) (A : Around) (outer : List Env) (s : Shared) (H : Hp) (E : XK), Room k (A.deeper (envOfC qual scope s.heap.objs.size f cdv)) →
      ∃ t, PSs (cxOf CX0 P w K mg base N qual scope f cdv A outer s H E).nox body t ∧ ∀ (G : Ent) (p : Addr) ds c es r c', R ds c es r c' → Fin1 K G t (ent N.length (ds.map .val ++ .bor p c :: es.map .val)) r kk p c') :
    FnOk P w K mg base CX0 (k + 1) f fd ps (sp1 K kk R) := by
  have hpl : ps.length ≤ N.length := by have := congrArg List.length Sc.pre; rw [List.length_take] at this; omega
  refine F.ok Sc (fun vs H Q E h => ?_) (fun cdv A outer s H vs Q E hr h => ?_)
  · obtain ⟨Hf, us, ws, p, ds, es, c, c', r, rfl, h1, h2, h3, _, _, _, hR, _⟩ := h
    have := (hlen ds c es r c' hR).2
    simp [dpa_len h2, dpa_len h3]; omega
  · obtain ⟨t, ht, hT⟩ := hb cdv A outer s H E hr
    refine ⟨t, ht.nox, ?_⟩
    obtain ⟨Hf, us, ws, p, ds, es, c, c', r, rfl, h1, h2, h3, hfp, hcn, hs, hR, q⟩ := h
    have hh := hlen ds c es r c' hR
    have l2 := dpa_len h2
    have l3 := dpa_len h3
    have hl : (us ++ .ref p :: ws).length ≤ N.length := by simp; omega
    -- what stands in a slot
    have slot : ∀ (i : Nat) (s : VS), (ds.map VS.val ++ .bor p c :: es.map VS.val)[i]? = some s → (∃ d v, s = .val d ∧ (us ++ .ref p :: ws)[i]? = some v ∧ Dq K Hf v d) ∨ (i = us.length ∧ s = .bor p c) := fun i s e => by
      by_cases a : i < ds.length
      · rw [List.getElem?_append_left (by simpa using a), List.getElem?_map] at e
        cases hd : ds[i]? with
        | none => rw [hd] at e; cases e
        | some d =>
          rw [hd] at e; cases e
          obtain ⟨v, g1, g2⟩ := dpa_get' h2 hd
          exact .inl ⟨d, v, rfl, by rw [List.getElem?_append_left (by omega)]; exact g1, g2⟩
      · rw [List.getElem?_append_right (by simp; omega), List.length_map] at e
        by_cases b : i = ds.length
        · subst b
          rw [Nat.sub_self] at e; cases e
          exact .inr ⟨by omega, rfl⟩
        · obtain ⟨j, hj⟩ : ∃ j, i - ds.length = j + 1 := ⟨i - ds.length - 1, by omega⟩
          rw [hj, List.getElem?_cons_succ, List.getElem?_map] at e
          cases hd : es[j]? with
          | none => rw [hd] at e; cases e
          | some d =>
            rw [hd] at e; cases e
            obtain ⟨v, g1, g2⟩ := dpa_get' h3 hd
            refine .inl ⟨d, v, rfl, ?_, g2⟩
            rw [List.getElem?_append_right (by omega), show i - us.length = j + 1 by omega, List.getElem?_cons_succ]; exact g1
    have sok : SOk K ⟨Hf, H, [p], fun _ => none⟩ Hf H (ent N.length (ds.map .val ++ .bor p c :: es.map .val)) (L2.start N (us ++ .ref p :: ws)) := by
      refine ⟨by rw [start_len hl, ent_len (by simp; omega)], hs, Same.refl _, fun x o e _ => e, fun x _ e => e, fun r hr => ?_, fun i s e => ?_, fun i j s t r e e2 o1 o2 => ?_, fun x o e => nomatch e⟩
      · have : r = p := by simpa using hr
        subst this; exact ⟨hcn.here, hcn.here⟩
      · rcases ent_get e with e | rfl
        · rcases slot i s e with ⟨d, v, rfl, g1, g2⟩ | ⟨rfl, rfl⟩
          · exact ⟨v, start_get g1, g2⟩
          · exact ⟨start_get (by rw [List.getElem?_append_right (Nat.le_refl _), Nat.sub_self]; rfl), hfp, by simp, hcn⟩
        · trivial
      · have f1 : ∀ (i : Nat) (s : VS), (ent N.length (ds.map VS.val ++ .bor p c :: es.map VS.val))[i]? = some s → ∀ y q, Owns Hf s y q → i = us.length := fun i s e y q o => by
          rcases ent_get e with e | rfl
          · rcases slot i s e with ⟨d, v, rfl, _⟩ | ⟨rfl, _⟩
            · cases o
            · rfl
          · cases o
        rw [f1 i s e _ _ o1, f1 j t e2 _ _ o2]
    have done : ∀ (v : V) (Hn H2 : Hp) (S' : List VS) (σ' : L2.St), S'[kk]? = some (.bor p c') → Same Hf Hn → SOk K ⟨Hf, H, [p], fun _ => none⟩ Hn H2 S' σ' → RtC K H Hn H2 v r → Q v H2 := fun v Hn H2 S' σ' hS e s rr =>
      q v Hn H2 e s.ex (fun x o np ex => s.fr x o ex (by simpa using np)) (fun x g1 g2 => s.dj x g1 g2) (s.val kk _ hS).2.2.2 rr
    rcases hT ⟨Hf, H, [p], fun _ => none⟩ p ds c es r c' hR with ⟨S', g1, g2⟩ | ⟨rfl, S', g1, g2⟩
    · exact g1 (L2.start N (us ++ .ref p :: ws)) Hf H _ sok fun v σ' Hn H2 e s rr => done v Hn H2 S' σ' g2 e s (rt_back rr)
    · exact g1 (L2.start N (us ++ .ref p :: ws)) Hf H _ sok fun σ' Hn H2 e s => done .non Hn H2 S' σ' g2 e s .non
end

/-! ## built-in functions -/
section
variable {K : PySem.W.Frag} {G : Ent} {te ta tb tc : TE} {tt tu : TT} {S S0 S1 S2 S3 : List VS} {d x y z : D} {ds : List D} {c : Cn} {a b b1 b2 : Bool} {Hf Hn H : Hp} {i j : Int}
theorem ev_max2 (ha : Ev K G ta S (.int i) S1) (hb : Ev K G tb S1 (.int j) S2) : Ev K G (tCB (fun xs H Q => ∃ i j, xs = [.int i, .int j] ∧ Q (.int (if j > i then j else i)) H) (tCons ta (tCons tb tNil))) S (.int (max i j)) S2 := ev_ca (ea_cons ha (ea_cons hb ea_nil)) fun Hf H vs e a Q q => by
  obtain rfl := dqa_int2 a
  refine ⟨i, j, rfl, ?_⟩
  have : (if j > i then j else i) = max i j := by split <;> omega
  rw [this]; exact q _ (.int _)
theorem ev_min2 (ha : Ev K G ta S (.int i) S1) (hb : Ev K G tb S1 (.int j) S2) : Ev K G (tCB (fun xs H Q => ∃ i j, xs = [.int i, .int j] ∧ Q (.int (if j < i then j else i)) H) (tCons ta (tCons tb tNil))) S (.int (min i j)) S2 := ev_ca (ea_cons ha (ea_cons hb ea_nil)) fun Hf H vs e a Q q => by
  obtain rfl := dqa_int2 a
  refine ⟨i, j, rfl, ?_⟩
  have : (if j < i then j else i) = min i j := by split <;> omega
  rw [this]; exact q _ (.int _)
theorem ev_abs (ha : Ev K G ta S (.int i) S1) : Ev K G (tCB (fun xs H Q => ∃ i, xs = [.int i] ∧ Q (.int (if i < 0 then -i else i)) H) (tCons ta tNil)) S (.int (if i < 0 then -i else i)) S1 := ev_ca (ea_cons ha ea_nil) fun Hf H vs e a Q q => by
  obtain rfl := dqa_int1 a
  exact ⟨i, rfl, q _ (.int _)⟩
theorem ev_intI (ha : Ev K G ta S (.int i) S1) : Ev K G (tCB (fun xs H Q => (∃ i, xs = [.int i] ∧ Q (.int i) H) ∨ ∃ k, xs = [.bl k] ∧ Q (.int (if k then 1 else 0)) H) (tCons ta tNil)) S (.int i) S1 := ev_ca (ea_cons ha ea_nil) fun Hf H vs e a Q q => by
  obtain rfl := dqa_int1 a
  exact .inl ⟨i, rfl, q _ (.int _)⟩
def b2I (b : Bool) : Int := if b then 1 else 0
theorem ev_intB (ha : Ev K G ta S (.bool b) S1) : Ev K G (tCB (fun xs H Q => (∃ i, xs = [.int i] ∧ Q (.int i) H) ∨ ∃ k, xs = [.bl k] ∧ Q (.int (if k then 1 else 0)) H) (tCons ta tNil)) S (.int (b2I b)) S1 := ev_ca (ea_cons ha ea_nil) fun Hf H vs e a Q q => by
  obtain ⟨v, rfl, a2⟩ := dqa_one a
  cases a2
  exact .inr ⟨b, rfl, q _ (.int _)⟩
theorem dqa_ints {ns : List Int} : ∀ {vs : List V}, DqAll K H vs (ns.map .int) → vs = ns.map V.int := by
  induction ns with
  | nil => intro vs h; cases h; rfl
  | cons n ns ih => intro vs h; cases h with | cons a t => cases a; rw [ih t]; rfl
theorem dqa_of_ints : ∀ {ns : List Int}, DqAll K H (ns.map V.int) (ns.map .int)
  | [] => .nil
  | _ :: _ => .cons (.int _) dqa_of_ints
theorem dqa_bls {bs : List Bool} : ∀ {vs : List V}, DqAll K H vs (bs.map .bool) → vs = bs.map V.bl := by
  induction bs with
  | nil => intro vs h; cases h; rfl
  | cons n ns ih => intro vs h; cases h with | cons a t => cases a; rw [ih t]; rfl
theorem dq_ints {v : V} {ns : List Int} (h : Dq K Hf v (.list (ns.map .int))) : ∃ p, v = .ref p ∧ Hf p = some (.lst (ns.map V.int)) := by
  cases h with
  | lst hh t => exact ⟨_, rfl, by rw [← dqa_ints t]; exact hh⟩
theorem dq_bls {v : V} {ns : List Bool} (h : Dq K Hf v (.list (ns.map .bool))) : ∃ p, v = .ref p ∧ Hf p = some (.lst (ns.map V.bl)) := by
  cases h with
  | lst hh t => exact ⟨_, rfl, by rw [← dqa_bls t]; exact hh⟩
theorem ev_any {bs : List Bool} (ha : Ev K G ta S (.list (bs.map .bool)) S1) : Ev K G (tCB (rAny K) (tCons ta tNil)) S (.bool (bs.any id)) S1 := ev_ca (ea_cons ha ea_nil) fun Hf H vs e a Q q => by
  obtain ⟨v, rfl, a2⟩ := dqa_one a
  obtain ⟨p, rfl, hp⟩ := dq_bls a2
  exact ⟨p, bs, rfl, SqL.of (e _ _ hp), q _ (.bl _)⟩
theorem ev_all {bs : List Bool} (ha : Ev K G ta S (.list (bs.map .bool)) S1) : Ev K G (tCB (rAll K) (tCons ta tNil)) S (.bool (bs.all id)) S1 := ev_ca (ea_cons ha ea_nil) fun Hf H vs e a Q q => by
  obtain ⟨v, rfl, a2⟩ := dqa_one a
  obtain ⟨p, rfl, hp⟩ := dq_bls a2
  exact ⟨p, bs, rfl, SqL.of (e _ _ hp), q _ (.bl _)⟩
theorem ev_sum {ns : List Int} (ha : Ev K G ta S (.list (ns.map .int)) S1) : Ev K G (tCB (rSum K) (tCons ta tNil)) S (.int ns.sum) S1 := ev_ca (ea_cons ha ea_nil) fun Hf H vs e a Q q => by
  obtain ⟨v, rfl, a2⟩ := dqa_one a
  obtain ⟨p, rfl, hp⟩ := dq_ints a2
  exact ⟨p, ns, rfl, SqL.of (e _ _ hp), q _ (.int _)⟩
/-- the greatest, the least of a list that is not empty -/
def maxL : List Int → Option Int
  | [] => none
  | a :: as => some (as.foldl max a)
def minL : List Int → Option Int
  | [] => none
  | a :: as => some (as.foldl min a)
theorem foldl_max_ge : ∀ (as : List Int) (a : Int), a ≤ as.foldl max a ∧ ∀ b ∈ as, b ≤ as.foldl max a
  | [], a => ⟨Int.le_refl _, fun b h => by cases h⟩
  | c :: as, a => by
    obtain ⟨h1, h2⟩ := foldl_max_ge as (max a c)
    refine ⟨by show a ≤ as.foldl max (max a c); omega, fun b hb => ?_⟩
    show b ≤ as.foldl max (max a c)
    rcases List.mem_cons.mp hb with rfl | hb
    · omega
    · exact h2 b hb
theorem foldl_max_mem : ∀ (as : List Int) (a : Int), as.foldl max a ∈ a :: as
  | [], a => by simp
  | c :: as, a => by
    show as.foldl max (max a c) ∈ _
    rcases List.mem_cons.mp (foldl_max_mem as (max a c)) with h | h
    · rw [h]
      by_cases q : a ≤ c
      · rw [Int.max_eq_right q]; simp
      · rw [Int.max_eq_left (by omega)]; simp
    · exact List.mem_cons_of_mem _ (List.mem_cons_of_mem _ h)
theorem foldl_min_le : ∀ (as : List Int) (a : Int), as.foldl min a ≤ a ∧ ∀ b ∈ as, as.foldl min a ≤ b
  | [], a => ⟨Int.le_refl _, fun b h => by cases h⟩
  | c :: as, a => by
    obtain ⟨h1, h2⟩ := foldl_min_le as (min a c)
    refine ⟨by show as.foldl min (min a c) ≤ a; omega, fun b hb => ?_⟩
    show as.foldl min (min a c) ≤ b
    rcases List.mem_cons.mp hb with rfl | hb
    · omega
    · exact h2 b hb
theorem foldl_min_mem : ∀ (as : List Int) (a : Int), as.foldl min a ∈ a :: as
  | [], a => by simp
  | c :: as, a => by
    show as.foldl min (min a c) ∈ _
    rcases List.mem_cons.mp (foldl_min_mem as (min a c)) with h | h
    · rw [h]
      by_cases q : a ≤ c
      · rw [Int.min_eq_left q]; simp
      · rw [Int.min_eq_right (by omega)]; simp
    · exact List.mem_cons_of_mem _ (List.mem_cons_of_mem _ h)
theorem maxL_iff {ns : List Int} {m : Int} (h : maxL ns = some m) : m ∈ ns ∧ ∀ y ∈ ns, y ≤ m := by
  cases ns with
  | nil => cases h
  | cons a as =>
    cases h
    refine ⟨foldl_max_mem as a, fun y hy => ?_⟩
    rcases List.mem_cons.mp hy with rfl | hy
    · exact (foldl_max_ge as _).1
    · exact (foldl_max_ge as a).2 y hy
theorem minL_iff {ns : List Int} {m : Int} (h : minL ns = some m) : m ∈ ns ∧ ∀ y ∈ ns, m ≤ y := by
  cases ns with
  | nil => cases h
  | cons a as =>
    cases h
    refine ⟨foldl_min_mem as a, fun y hy => ?_⟩
    rcases List.mem_cons.mp hy with rfl | hy
    · exact (foldl_min_le as _).1
    · exact (foldl_min_le as a).2 y hy
theorem ev_maxL {ns : List Int} {m : Int} (hm : maxL ns = some m) (ha : Ev K G ta S (.list (ns.map .int)) S1) : Ev K G (tCB (rMax K) (tCons ta tNil)) S (.int m) S1 := ev_ca (ea_cons ha ea_nil) fun Hf H vs e a Q q => by
  obtain ⟨v, rfl, a2⟩ := dqa_one a
  obtain ⟨p, rfl, hp⟩ := dq_ints a2
  obtain ⟨m1, m2⟩ := maxL_iff hm
  refine ⟨p, ns, rfl, SqL.of (e _ _ hp), List.length_pos_of_mem m1, fun m' h1 h2 => ?_⟩
  have : m' = m := Int.le_antisymm (m2 _ h1) (h2 _ m1)
  rw [this]; exact q _ (.int _)
theorem ev_minL {ns : List Int} {m : Int} (hm : minL ns = some m) (ha : Ev K G ta S (.list (ns.map .int)) S1) : Ev K G (tCB (rMin K) (tCons ta tNil)) S (.int m) S1 := ev_ca (ea_cons ha ea_nil) fun Hf H vs e a Q q => by
  obtain ⟨v, rfl, a2⟩ := dqa_one a
  obtain ⟨p, rfl, hp⟩ := dq_ints a2
  obtain ⟨m1, m2⟩ := minL_iff hm
  refine ⟨p, ns, rfl, SqL.of (e _ _ hp), List.length_pos_of_mem m1, fun m' h1 h2 => ?_⟩
  have : m' = m := Int.le_antisymm (h2 _ m1) (m2 _ h1)
  rw [this]; exact q _ (.int _)
/-- sorted(xs) -/
def leI (a b : Int) : Bool := decide (a ≤ b)
def srtI (l : List Int) : List Int := l.mergeSort leI
theorem srtI_perm (l : List Int) : (srtI l).Perm l := List.mergeSort_perm l leI
theorem srtI_sorted (l : List Int) : (srtI l).Pairwise (· ≤ ·) := by
  have h : (l.mergeSort leI).Pairwise fun a b => leI a b = true := List.pairwise_mergeSort (fun a b c h1 h2 => by simp only [leI, decide_eq_true_eq] at *; omega) (fun a b => by simp only [leI, Bool.or_eq_true, decide_eq_true_eq]; omega) l
  exact h.imp fun h => of_decide_eq_true h
theorem srtI_uniq {l m : List Int} (p : l.Perm m) (s : l.Pairwise (· ≤ ·)) : l = srtI m :=
  List.Perm.eq_of_pairwise (fun a b _ _ h1 h2 => Int.le_antisymm h1 h2) s (srtI_sorted m) (p.trans (srtI_perm m).symm)
theorem evn_srtI {ns : List Int} (ha : Ev K G ta S (.list (ns.map .int)) S1) : EvN K G (tCB (rSortedI K) (tCons ta tNil)) S (.lst ((srtI ns).map .int)) S1 := evn_ca (ea_cons ha ea_nil) fun Hf H vs e a Q q => by
  obtain ⟨v, rfl, a2⟩ := dqa_one a
  obtain ⟨p, rfl, hp⟩ := dq_ints a2
  exact ⟨p, ns, rfl, SqL.of (e _ _ hp), fun ns' l pm st hl => q l _ hl ⟨_, upd_same, by rw [srtI_uniq pm st]; exact dqa_of_ints⟩⟩
/-- pairs of ints -/
def leP (a b : Int × Int) : Bool := decide (a.1 < b.1 ∨ (a.1 = b.1 ∧ a.2 ≤ b.2))
def srtP (l : List (Int × Int)) : List (Int × Int) := l.mergeSort leP
theorem srtP_perm (l : List (Int × Int)) : (srtP l).Perm l := List.mergeSort_perm l leP
theorem srtP_sorted (l : List (Int × Int)) : (srtP l).Pairwise fun a b => leP a b = true :=
  List.pairwise_mergeSort (fun a b c h1 h2 => by simp only [leP, decide_eq_true_eq] at *; omega) (fun a b => by simp only [leP, Bool.or_eq_true, decide_eq_true_eq]; omega) l
theorem leP_anti {a b : Int × Int} (h1 : leP a b = true) (h2 : leP b a = true) : a = b := by
  simp only [leP, decide_eq_true_eq] at h1 h2
  obtain ⟨a1, a2⟩ := a; obtain ⟨b1, b2⟩ := b
  simp only at h1 h2
  rw [show a1 = b1 by omega, show a2 = b2 by omega]
theorem srtP_uniq {l m : List (Int × Int)} (p : l.Perm m) (s : l.Pairwise fun a b => leP a b = true) : l = srtP m :=
  List.Perm.eq_of_pairwise (fun a b _ _ h1 h2 => leP_anti h1 h2) s (srtP_sorted m) (p.trans (srtP_perm m).symm)
end
end MM

set_option Elab.async false
set_option linter.all false
set_option maxRecDepth 100000
set_option maxHeartbeats 4000000
set_option autoImplicit false
namespace MM
open PySem PySem.Spec PyProof.Rows L2

/-! ## a slice with a step -/
def pick3 {α : Type} (xs : List α) (lo hi st : Option Int) : List α :=
  (sliceRange (sliceBounds lo hi st xs.length).1 (sliceBounds lo hi st xs.length).2.1 (sliceBounds lo hi st xs.length).2.2).filterMap (xs[·]?)
def tSl3 (K : PySem.W.Frag) (te : TE) (tl th ts : TO) : TE := fun σ H Q => te σ H fun x H1 => tl σ H1 fun l H2 => th σ H2 fun u H3 => ts σ H3 fun w H4 =>
  ∃ a xs, x = .ref a ∧ SqL K H4 a xs ∧ w ≠ some 0 ∧ ∀ p, H4 p = none → Q (.ref p) (upd H4 p (.lst (pick3 xs l u w)))
theorem vals_pick {xs : List V} {us : List Value} (r : Vals xs us) : ∀ ix : List Nat, Vals (ix.filterMap (xs[·]?)) (ix.filterMap (us[·]?))
  | [] => .nil
  | i :: ix => by
    rw [List.filterMap_cons, List.filterMap_cons]
    cases h : xs[i]? with
    | none => rw [r.none_of h]; exact vals_pick r ix
    | some v =>
      obtain ⟨u, hu, ru⟩ := r.get h
      rw [hu]
      exact .cons ru (vals_pick r ix)
theorem pick_len (xs : List Value) (lo hi st : Option Int) (h0 : st ≠ some 0) : (pick3 xs lo hi st).length ≤ xs.length := by
  have h := slicePick_size_le xs.toArray lo hi st
  simpa [slicePick, pick3] using h
theorem pe_slice3 {X : Cx} {e : Expr} {lo hi : Option Expr} {st : Expr} {te : TE} {tl th ts : TO} {pos p2 : Pos} (he : PE X e te) (hl : PO X lo tl) (hu : PO X hi th) (hst : PO X (some st) ts) :
    PE X (.Subscript e (.Slice lo hi (some st) p2) pos) (tSl3 X.K te tl th ts) := by
  refine ⟨fun pins s σ H Q I h => ?_⟩
  refine Subscript_ (thn (he.run pins s σ H _ I h) fun v s1 ⟨x, H1, I1, r1, q1⟩ => ?_)
  refine wpAny_Slice (thn (hl.run pins s1 σ H1 _ I1 q1) fun vl s2 ⟨l, H2, I2, pl, q2⟩ => ?_)
  refine thn (hu.run pins s2 σ H2 _ I2 q2) fun vu s3 ⟨u, H3, I3, pu, q3⟩ => ?_
  refine thn (hst.run pins s3 σ H3 _ I3 q3) fun vs s4 ⟨o, H4, I4, ps, q4⟩ => ?_
  obtain ⟨a, xs, ex, hx, h0, q⟩ := q4
  subst ex
  cases r1
  have I5 : Inv X pins σ H4 { s4 with heap := s4.heap.push { cls := .type "slice", data := .fields #[vl, vu, vs] } } := I4.kept (t' := s4.toks) fun b ob q => Heap.get?_push_of_some _ q
  obtain ⟨its, r, ht, hz⟩ := I5.list hx
  have hlen := r.length
  show wpAny (model X.prog X.w) X.A (subscriptTail e (.Slice lo hi (some st) p2) (.ref a) (.ref s4.heap.objs.size)) (EP X pins σ Q) X.xe { s4 with heap := s4.heap.push { cls := .type "slice", data := .fields #[vl, vu, vs] } }
  refine tail_any (ops := [.ref a, .ref s4.heap.objs.size]) ht.isList.typeIs (PySem.slot_list_getitem.lookup) ?_ (by with_unfolding_all rfl)
  refine wpAny_getItem_list_slice ht.isList (Heap.IsSliceOf.new _ vl vu vs) pl pu ps h0 ?_ (by rw [List.size_toArray]; omega)
  have ep : slicePick its.toArray l u o = (pick3 its l u o).toArray := by simp [slicePick, pick3]
  rw [ep]
  have rp : Vals (pick3 xs l u o) (pick3 its l u o) := by
    unfold pick3; rw [hlen]; exact vals_pick r _
  exact ⟨.ref _, _, I5.laid (t' := s4.toks) (o := .lst (pick3 xs l u o)) (fun b ob q => Heap.get?_push_of_some _ q) (Nat.le_refl _) ⟨by rw [rp.length]; exact Nat.le_trans (pick_len its l u o h0) (by omega), _, 0, rp, Heap.get?_push_size _ rfl⟩, rfl, q _ (I5.hok.fresh (Nat.le_refl _))⟩

section
variable {K : PySem.W.Frag} {G : Ent} {te ta tb tc : TE} {tt tu : TT} {S S0 S1 S2 S3 S4 : List VS} {d x y z : D} {ds : List D} {c : Cn} {a b b1 b2 : Bool} {Hf Hn H : Hp} {i j : Int} {rest : TS} {o : Out}
theorem dqa_pick {vs : List V} (h : DqAll K H vs ds) : ∀ ix : List Nat, DqAll K H (ix.filterMap (vs[·]?)) (ix.filterMap (ds[·]?))
  | [] => .nil
  | i :: ix => by
    rw [List.filterMap_cons, List.filterMap_cons]
    cases hv : vs[i]? with
    | none =>
      have : ds[i]? = none := by
        rw [List.getElem?_eq_none_iff] at hv ⊢
        rw [← dpa_len h]; exact hv
      rw [this]; exact dqa_pick h ix
    | some v =>
      obtain ⟨d, hd, dv⟩ := dpa_get h hv
      rw [hd]
      exact .cons dv (dqa_pick h ix)
theorem pick3_map {α β : Type} (f : α → β) (xs : List α) (lo hi st : Option Int) : pick3 (xs.map f) lo hi st = (pick3 xs lo hi st).map f := by
  unfold pick3
  rw [List.length_map, List.map_filterMap]
  congr 1
  funext i
  rw [List.getElem?_map]
theorem evn_cut3 {tl th ts : TO} {lo hi st : Option Int} (h0 : st ≠ some 0) (ha : Ev K G ta S (.list ds) S1) (hl : EvO K G tl S1 lo S2) (hh : EvO K G th S2 hi S3) (hs3 : EvO K G ts S3 st S4) : EvN K G (tSl3 K ta tl th ts) S (.lst (pick3 ds lo hi st)) S4 := fun σ Hf H hs Q q =>
  ha σ Hf H hs _ fun v Hn H2 e s dv => hl σ Hn H2 s _ fun Hm H3 e2 s2 => hh σ Hm H3 s2 _ fun Ho H4 e3 s3 => hs3 σ Ho H4 s3 _ fun Hp' H5 e4 s4 => by
    have dv3 := dp_mono ((e2.trans e3).trans e4) _ _ dv
    cases dv3 with
    | lst h t =>
      refine ⟨_, _, rfl, SqL.of (s4.ex _ _ h), h0, fun p hp => q p Hp' _ (((e.trans e2).trans e3).trans e4) (s4.grow (Gw.newO s4.ex hp)) (s4.fresh hp) ⟨_, upd_same, ?_⟩⟩
      unfold pick3; rw [dpa_len t]; exact dqa_pick t _

/-! ## sorted pairs -/
def kOf (H : Hp) : V → Int × Int
  | .ref t => match H t with
    | some (.tup [.int i, .int j]) => (i, j)
    | _ => (0, 0)
  | _ => (0, 0)
abbrev encP : Int × Int → D := fun p => .tuple [.int p.1, .int p.2]
theorem dq_pair {v : V} {p : Int × Int} (h : Dq K H v (encP p)) : ∃ t, v = .ref t ∧ H t = some (.tup [.int p.1, .int p.2]) ∧ kOf H v = p := by
  cases h with
  | tup s a =>
    obtain rfl := dqa_int2 a
    exact ⟨_, rfl, s, by
      unfold kOf
      dsimp only
      rw [s]⟩
theorem dqa_pairs : ∀ {vs : List V} {ps : List (Int × Int)}, DqAll K H vs (ps.map encP) → vs.map (kOf H) = ps ∧ ∀ v ∈ vs, Dq K H v (encP (kOf H v))
  | _, [], h => by cases h; exact ⟨rfl, fun v hv => nomatch hv⟩
  | _, p :: ps, h => by
    cases h with
    | cons a t =>
      obtain ⟨_, _, _, e⟩ := dq_pair a
      obtain ⟨h1, h2⟩ := dqa_pairs t
      refine ⟨by rw [List.map_cons, e, h1], fun v hv => ?_⟩
      rcases List.mem_cons.mp hv with rfl | hv
      · rw [e]; exact a
      · exact h2 v hv
theorem dqa_of_mem {f : V → D} : ∀ {vs : List V}, (∀ v ∈ vs, Dq K H v (f v)) → DqAll K H vs (vs.map f)
  | [], _ => .nil
  | v :: vs, h => .cons (h v List.mem_cons_self) (dqa_of_mem fun w hw => h w (List.mem_cons_of_mem _ hw))
theorem evn_srtP {ps : List (Int × Int)} (ha : Ev K G ta S (.list (ps.map encP)) S1) : EvN K G (tCB (rSortedPO K) (tCons ta tNil)) S (.lst ((srtP ps).map encP)) S1 := evn_ca (ea_cons ha ea_nil) fun Hf H vs e a Q q => by
  obtain ⟨v, rfl, a2⟩ := dqa_one a
  cases a2 with
  | lst h t =>
    rename_i p xs
    obtain ⟨h1, h2⟩ := dqa_pairs t
    refine ⟨p, xs, kOf Hf, rfl, SqL.of (e _ _ h), fun x hx => ?_, fun ys l st sb hl => q l _ hl ⟨ys, upd_same, ?_⟩⟩
    · obtain ⟨t, e1, e2, _⟩ := dq_pair (h2 x hx)
      exact ⟨t, e1, e _ _ e2⟩
    · have pm : (ys.map (kOf Hf)).Perm ps := by rw [← h1]; exact sb.perm.map _
      have so : (ys.map (kOf Hf)).Pairwise fun a b => leP a b = true := by
        rw [List.pairwise_map]
        refine List.Pairwise.imp (fun {a b} hab => ?_) st
        have := SrtO.lexB_no.mp hab
        simp only [leP, decide_eq_true_eq]
        omega
      rw [← srtP_uniq pm so, List.map_map]
      exact dqa_of_mem fun v hv => h2 v (sb.perm.mem_iff.mp hv)

/-! ## isinstance, is -/
def clsD : D → String
  | .none => "NoneType"
  | .bool _ => "bool"
  | .int _ => "int"
  | .str _ => "str"
  | .list _ => "list"
  | .tuple _ => "tuple"
  | .dict _ => "dict"
theorem dq_ty {v : V} (h : Dq K H v d) : TyX K H v (.type (clsD d)) := by
  cases h with
  | non => exact .base .non
  | bl b => exact .base (.bl b)
  | int i => exact .base (.int i)
  | str x => exact .base (.str x)
  | lst h _ => exact .base (.lst h)
  | tup h _ => exact .base (.tup h)
theorem ev_isi {T : String} (hk : kitB (clsD d) T = some b) (ha : Ev K G ta S d S1) : Ev K G (tCB (rIsi K) (tCons ta (tCons (tC (.ty T)) tNil))) S (.bool b) S1 := fun σ Hf H hs Q q =>
  ha σ Hf H hs _ fun v Hn H2 e s dv => ⟨v, .ty T, .type (clsD d), .type T, b, rfl, .ty T, dq_ty (dp_mono s.ex _ _ dv), kit_ty hk, q _ Hn H2 e s (.bl b)⟩
def isNone : D → Bool
  | .none => true
  | _ => false
theorem dq_isN {v : V} (h : Dq K H v d) : decide (v = .non) = isNone d := by cases h <;> rfl
theorem ev_isN (ha : Ev K G ta S d S1) : Ev K G (tOp (fun x y H Q => y = .non ∧ Q (.bl (decide (x = .non))) H) ta (tC .non)) S (.bool (isNone d)) S1 := ev_op ha ev_non fun Hf H v w e p p2 Q q => by
  cases p2
  exact ⟨rfl, by rw [dq_isN p]; exact q _ (.bl _)⟩
theorem ev_notN (ha : Ev K G ta S d S1) : Ev K G (tOp (fun x y H Q => y = .non ∧ Q (.bl (!decide (x = .non))) H) ta (tC .non)) S (.bool (!isNone d)) S1 := ev_op ha ev_non fun Hf H v w e p p2 Q q => by
  cases p2
  exact ⟨rfl, by rw [dq_isN p]; exact q _ (.bl _)⟩
theorem ev_isB {b c : Bool} (ha : Ev K G ta S (.bool b) S1) (hb : Ev K G tb S1 (.bool c) S2) : Ev K G (tOp rIsB ta tb) S (.bool (decide (b = c))) S2 := ev_op ha hb fun Hf H v w e p p2 Q q => by
  cases p; cases p2
  exact ⟨b, c, rfl, rfl, q _ (.bl _)⟩
theorem ev_notB {b c : Bool} (ha : Ev K G ta S (.bool b) S1) (hb : Ev K G tb S1 (.bool c) S2) : Ev K G (tOp rNotB ta tb) S (.bool (!decide (b = c))) S2 := ev_op ha hb fun Hf H v w e p p2 Q q => by
  cases p; cases p2
  exact ⟨b, c, rfl, rfl, q _ (.bl _)⟩
/-- xs.count(k), ints -/
theorem ev_cnt {ns : List Int} {k : Int} (ha : Ev K G ta S (.list (ns.map .int)) S1) (hb : Ev K G tb S1 (.int k) S2) : Ev K G (tBM K "list" (rCntI K) ta (tCons tb tNil)) S (.int (ns.count k : Nat)) S2 := fun σ Hf H hs Q q =>
  ha σ Hf H hs _ fun v Hn H2 e s dv => by
    obtain ⟨p, rfl, hp⟩ := dq_ints dv
    refine ⟨Or.inl ⟨rfl, _, SqL.of (s.ex _ _ hp)⟩, hb σ Hn H2 s _ fun w Hm H3 e2 s2 dw => ?_⟩
    cases dw
    exact ⟨p, ns, k, rfl, rfl, SqL.of (s2.ex _ _ (e2 _ _ hp)), q _ Hm H3 (e.trans e2) s2 (.int _)⟩

/-! ## dicts -/
section
variable {κ β : Type} [DecidableEq κ]
def aget (m : List (κ × β)) (k : κ) : Option β := (m.find? fun p => decide (p.1 = k)).map (·.2)
def aput (m : List (κ × β)) (k : κ) (v : β) : List (κ × β) := if (m.any fun p => decide (p.1 = k)) = true then m.map (fun p => if p.1 = k then (p.1, v) else p) else m ++ [(k, v)]
theorem kvr_get {ws : List (κ × V)} {kvs : List (κ × D)} (h : KvR K H ws kvs) (k : κ) : (valV ws k = none ∧ aget kvs k = none) ∨ ∃ v d, valV ws k = some v ∧ aget kvs k = some d ∧ Dq K H v d := by
  induction h with
  | nil => exact .inl ⟨rfl, rfl⟩
  | cons r t ih =>
    rename_i p q ps qs
    obtain ⟨r1, r2⟩ := r
    by_cases e : p.1 = k
    · exact .inr ⟨p.2, q.2, by simp [valV, List.find?_cons, e], by simp [aget, List.find?_cons, ← r1, e], r2⟩
    · have e2 : ¬ q.1 = k := by rw [← r1]; exact e
      simp only [valV, aget, List.find?_cons, e, e2, decide_false] at ih ⊢
      exact ih
theorem kvr_any {ws : List (κ × V)} {kvs : List (κ × D)} (h : KvR K H ws kvs) (k : κ) : (ws.any fun p => decide (p.1 = k)) = kvs.any fun p => decide (p.1 = k) := by
  induction h with
  | nil => rfl
  | cons r t ih => rw [List.any_cons, List.any_cons, ih, r.1]
theorem kvr_map {ws : List (κ × V)} {kvs : List (κ × D)} (h : KvR K H ws kvs) (k : κ) {v : V} {d : D} (dv : Dq K H v d) : KvR K H (ws.map fun p => if p.1 = k then (p.1, v) else p) (kvs.map fun p => if p.1 = k then (p.1, d) else p) := by
  induction h with
  | nil => exact .nil
  | cons r t ih =>
    rename_i p q ps qs
    refine .cons ?_ ih
    obtain ⟨r1, r2⟩ := r
    by_cases e : p.1 = k
    · have e2 : q.1 = k := by rw [← r1]; exact e
      dsimp only
      rw [if_pos e, if_pos e2]; exact ⟨r1, dv⟩
    · have e2 : ¬ q.1 = k := by rw [← r1]; exact e
      dsimp only
      rw [if_neg e, if_neg e2]; exact ⟨r1, r2⟩
theorem paired_app {α β : Type} {F : α → β → Prop} : ∀ {a : List α} {b : List β} {c : List α} {d : List β}, Paired F a b → Paired F c d → Paired F (a ++ c) (b ++ d)
  | _, _, _, _, .nil, h => h
  | _, _, _, _, .cons r t, h => .cons r (paired_app t h)
theorem kvr_put {ws : List (κ × V)} {kvs : List (κ × D)} (h : KvR K H ws kvs) (k : κ) {v : V} {d : D} (dv : Dq K H v d) : KvR K H (putK ws k v) (aput kvs k d) := by
  unfold putK aput
  rw [kvr_any h k]
  split
  · exact kvr_map h k dv
  · exact paired_app h (.cons ⟨rfl, dv⟩ .nil)
theorem kvr_len {ws : List (κ × V)} {kvs : List (κ × D)} (h : KvR K H ws kvs) : ws.length = kvs.length := Paired.length h
end
theorem own_dK {σ : L2.St} {i : Nat} {s : VS} {kvs : List (Key × D)} (hs : SOk K G Hf H S σ) (hi : S[i]? = some s) (hc : s.cn = some (.dK kvs)) : ∃ p ws, σ[i]? = some (some (.ref p)) ∧ H p = some (.dK ws) ∧ KvR K Hf ws kvs ∧ s.mine = true := by
  have v := hs.val i s hi
  cases s with
  | own c => cases hc; obtain ⟨p, e1, _, _, vs, e2, e3⟩ := v; exact ⟨p, vs, e1, e2, e3, rfl⟩
  | bor p c => cases hc; obtain ⟨e1, _, _, vs, e2, e3⟩ := v; exact ⟨p, vs, e1, e2, e3, rfl⟩
  | _ => cases hc
theorem evn_dict : EvN K G tDNewK S (.dK []) S := fun σ Hf H hs Q q => fun p hp => q p Hf _ (Same.refl _) (hs.grow (Gw.newO hs.ex hp)) (hs.fresh hp) ⟨[], upd_same, .nil⟩
/-- the value of an int key -/
theorem kV_int {v : V} (h : Dq K H v (.int i)) : v = kV (.inl i) := by cases h; rfl
/-- d[k], d our own -/
theorem ev_dget {n : Nat} {s s1 : VS} {kvs : List (Key × D)} (hs0 : S[n]? = some s) (m0 : s.mine = true) (hb : Ev K G tb S (.int i) S1) (h1 : S1[n]? = some s1) (hc : s1.cn = some (.dK kvs)) (hg : aget kvs (.inl i) = some d) :
    Ev K G (tDGet (tVar n) tb) S d S1 := fun σ Hf H hs Q q => by
  obtain ⟨p0, c0, e1, _, _⟩ := (hs.val n s hs0).mine_at m0
  refine ⟨.ref p0, e1, hb σ Hf H hs _ fun w Hn H2 e s2 dw => ?_⟩
  obtain ⟨p, ws, f1, f2, f3, m⟩ := own_dK s2 h1 hc
  rw [e1] at f1; cases f1
  have hw := kV_int dw
  subst hw
  rcases kvr_get f3 (.inl i) with ⟨_, g2⟩ | ⟨v, d', g1, g2, g3⟩
  · rw [hg] at g2; cases g2
  · rw [hg] at g2; cases g2
    exact ⟨p0, v, rfl, by rw [← g1]; exact DGet.k f2, q v Hn H2 e s2 g3⟩
theorem ev_din {n : Nat} {s1 : VS} {kvs : List (Key × D)} (hb : Ev K G tb S (.int i) S1) (h1 : S1[n]? = some s1) (hc : s1.cn = some (.dK kvs)) : Ev K G (tDIn tb (tVar n)) S (.bool (aget kvs (.inl i)).isSome) S1 := fun σ Hf H hs Q q =>
  hb σ Hf H hs _ fun w Hn H2 e s2 dw => by
    obtain ⟨p, ws, f1, f2, f3, m⟩ := own_dK s2 h1 hc
    have hw := kV_int dw
    subst hw
    refine ⟨.ref p, f1, p, valV ws (.inl i), rfl, DGet.k f2, ?_⟩
    have : (valV ws (.inl i)).isSome = (aget kvs (.inl i)).isSome := by
      rcases kvr_get f3 (.inl i) with ⟨g1, g2⟩ | ⟨v, d', g1, g2, _⟩ <;> rw [g1, g2] <;> rfl
    rw [this]; exact q _ Hn H2 e s2 (.bl _)
theorem ev_dnotin {n : Nat} {s1 : VS} {kvs : List (Key × D)} (hb : Ev K G tb S (.int i) S1) (h1 : S1[n]? = some s1) (hc : s1.cn = some (.dK kvs)) : Ev K G (tDNotIn tb (tVar n)) S (.bool (!(aget kvs (.inl i)).isSome)) S1 := fun σ Hf H hs Q q =>
  hb σ Hf H hs _ fun w Hn H2 e s2 dw => by
    obtain ⟨p, ws, f1, f2, f3, m⟩ := own_dK s2 h1 hc
    have hw := kV_int dw
    subst hw
    refine ⟨.ref p, f1, p, valV ws (.inl i), rfl, DGet.k f2, ?_⟩
    have : (valV ws (.inl i)).isSome = (aget kvs (.inl i)).isSome := by
      rcases kvr_get f3 (.inl i) with ⟨g1, g2⟩ | ⟨v, d', g1, g2, _⟩ <;> rw [g1, g2] <;> rfl
    rw [this]; exact q _ Hn H2 e s2 (.bl _)
/-- d[k] = e -/
theorem bs_dput {n : Nat} {s1 s2 : VS} {kvs : List (Key × D)} (h : Ev K G te S d S1) (hs1 : S1[n]? = some s1) (m1 : s1.mine = true) (hb : Ev K G tb S1 (.int i) S2) (h2 : S2[n]? = some s2) (hc : s2.cn = some (.dK kvs)) (hl : kvs.length ≤ 1000000)
    (k : Bs K G rest (S2.set n (s2.put (.dK (aput kvs (.inl i) d)))) o) : Bs K G (tSeq (sDPut (tVar n) tb te) rest) S o := fun σ Hf H E hs q =>
  h σ Hf H hs _ fun v Hn H2 e s dv => by
    obtain ⟨p0, c0, e1, _, _⟩ := (s.val n s1 hs1).mine_at m1
    refine ⟨.ref p0, e1, hb σ Hn H2 s _ fun w Hm H3 e2 s3 dw => ?_⟩
    obtain ⟨p, ws, f1, f2, f3, m⟩ := own_dK s3 h2 hc
    rw [e1] at f1; cases f1
    have hw := kV_int dw
    subst hw
    refine ⟨p0, _, rfl, DPut.k f2 (smallLt (by rw [kvr_len f3]; exact hl)), k σ Hm _ E (s3.mut h2 m e1 ⟨_, upd_same, kvr_put f3 _ (dp_mono e2 _ _ dv)⟩) (q.mono (e.trans e2))⟩
end
end MM

set_option Elab.async false
set_option linter.all false
set_option maxRecDepth 100000
set_option maxHeartbeats 4000000
set_option autoImplicit false
namespace MM
open PySem PySem.Spec PyProof.Rows L2

/-! ## typed rules -/
/-- texts of real signs -/
abbrev Wd := { s : Str // PyData.strOk s = true }
instance : Enc Wd := ⟨fun w => .str w.1⟩
structure T3 (α β γ : Type) where
  a : α
  b : β
  c : γ
  deriving DecidableEq
structure T4 (α β γ δ : Type) where
  a : α
  b : β
  c : γ
  d : δ
  deriving DecidableEq
section
variable {α β γ δ : Type} [Enc α] [Enc β] [Enc γ] [Enc δ]
instance : Enc (T3 α β γ) := ⟨fun t => .tuple [enc t.a, enc t.b, enc t.c]⟩
instance : Enc (T4 α β γ δ) := ⟨fun t => .tuple [enc t.a, enc t.b, enc t.c, enc t.d]⟩
end
/-- data that == can be asked of -/
class Shp (α : Type) [Enc α] where
  lay : ∀ a : α, (enc a).canLay0 = true
  dep : Nat
  le : ∀ a : α, (enc a).depth ≤ dep
theorem shp_ok {α : Type} [Enc α] [Shp α] (a : α) (h : Nat.ble (Shp.dep α) 64 = true := by rfl) : SeqAt.shaped (enc a) = true := by
  unfold SeqAt.shaped
  rw [Shp.lay a]
  have := Shp.le a
  have := Nat.le_of_ble_eq_true h
  simp; omega
theorem layAll_map {α : Type} [Enc α] [Shp α] : ∀ xs : List α, PyData.canLayAll0 (xs.map enc) = true
  | [] => rfl
  | x :: xs => by show ((enc x).canLay0 && PyData.canLayAll0 (xs.map enc)) = true; rw [Shp.lay x, layAll_map xs]; rfl
theorem depAll_map {α : Type} [Enc α] [Shp α] : ∀ xs : List α, PyData.depthAll (xs.map enc) ≤ Shp.dep α
  | [] => Nat.zero_le _
  | x :: xs => by
    show max (enc x).depth (PyData.depthAll (xs.map enc)) ≤ _
    have := Shp.le x
    have := depAll_map xs
    omega
instance : Shp Int := ⟨fun _ => rfl, 0, fun _ => Nat.le_refl _⟩
instance : Shp Bool := ⟨fun _ => rfl, 0, fun _ => Nat.le_refl _⟩
instance : Shp Unit := ⟨fun _ => rfl, 0, fun _ => Nat.le_refl _⟩
instance : Shp Wd := ⟨fun w => w.2, 0, fun _ => Nat.le_refl _⟩
instance {α : Type} [Enc α] [Shp α] : Shp (List α) := ⟨fun xs => layAll_map xs, Shp.dep α + 1, fun xs => Nat.succ_le_succ (depAll_map xs)⟩
instance {α β : Type} [Enc α] [Enc β] [Shp α] [Shp β] : Shp (α × β) := ⟨fun p => by
    show ((enc p.1).canLay0 && ((enc p.2).canLay0 && true)) = true
    rw [Shp.lay p.1, Shp.lay p.2]; rfl, max (Shp.dep α) (Shp.dep β) + 1, fun p => by
    show max (enc p.1).depth (max (enc p.2).depth 0) + 1 ≤ _
    have := Shp.le p.1
    have := Shp.le p.2
    omega⟩
instance {α β γ : Type} [Enc α] [Enc β] [Enc γ] [Shp α] [Shp β] [Shp γ] : Shp (T3 α β γ) := ⟨fun p => by
    show ((enc p.a).canLay0 && ((enc p.b).canLay0 && ((enc p.c).canLay0 && true))) = true
    rw [Shp.lay p.a, Shp.lay p.b, Shp.lay p.c]; rfl, max (Shp.dep α) (max (Shp.dep β) (Shp.dep γ)) + 1, fun p => by
    show max (enc p.a).depth (max (enc p.b).depth (max (enc p.c).depth 0)) + 1 ≤ _
    have := Shp.le p.a
    have := Shp.le p.b
    have := Shp.le p.c
    omega⟩
instance {α β γ δ : Type} [Enc α] [Enc β] [Enc γ] [Enc δ] [Shp α] [Shp β] [Shp γ] [Shp δ] : Shp (T4 α β γ δ) := ⟨fun p => by
    show ((enc p.a).canLay0 && ((enc p.b).canLay0 && ((enc p.c).canLay0 && ((enc p.d).canLay0 && true)))) = true
    rw [Shp.lay p.a, Shp.lay p.b, Shp.lay p.c, Shp.lay p.d]; rfl, max (Shp.dep α) (max (Shp.dep β) (max (Shp.dep γ) (Shp.dep δ))) + 1, fun p => by
    show max (enc p.a).depth (max (enc p.b).depth (max (enc p.c).depth (max (enc p.d).depth 0))) + 1 ≤ _
    have := Shp.le p.a
    have := Shp.le p.b
    have := Shp.le p.c
    have := Shp.le p.d
    omega⟩
instance {α : Type} [Enc α] [Shp α] : Shp (Option α) := ⟨fun o => by
    cases o with
    | none => rfl
    | some a => exact Shp.lay a, Shp.dep α, fun o => by
    cases o with
    | none => exact Nat.zero_le _
    | some a => exact Shp.le a⟩
/-- == is equality -/
class LEq (α : Type) [Enc α] [DecidableEq α] : Prop where
  eq : ∀ a b : α, PyData.eqv (enc a) (enc b) = decide (a = b)
/-- not None -/
class NotN (α : Type) [Enc α] : Prop where
  nn : ∀ a : α, isNone (enc a) = false
instance : NotN Int := ⟨fun _ => rfl⟩
instance : NotN Bool := ⟨fun _ => rfl⟩
instance {α : Type} [Enc α] : NotN (List α) := ⟨fun _ => rfl⟩
instance {α β : Type} [Enc α] [Enc β] : NotN (α × β) := ⟨fun _ => rfl⟩
instance {α β γ : Type} [Enc α] [Enc β] [Enc γ] : NotN (T3 α β γ) := ⟨fun _ => rfl⟩
instance {α β γ δ : Type} [Enc α] [Enc β] [Enc γ] [Enc δ] : NotN (T4 α β γ δ) := ⟨fun _ => rfl⟩
instance : LEq Int := ⟨fun a b => by show (a == b) = _; rw [Bool.beq_eq_decide_eq]⟩
instance : LEq Bool := ⟨fun a b => by show (a == b) = _; rw [Bool.beq_eq_decide_eq]⟩
instance : LEq Unit := ⟨fun _ _ => rfl⟩
instance : LEq Wd := ⟨fun a b => by
  show (a.1 == b.1) = _
  rw [Bool.beq_eq_decide_eq]
  by_cases h : a.1 = b.1
  · rw [decide_eq_true h, decide_eq_true (Subtype.ext h)]
  · rw [decide_eq_false h, decide_eq_false (fun e => h (by rw [e]))]⟩
theorem eqvAll_map {α : Type} [Enc α] [DecidableEq α] [LEq α] : ∀ xs ys : List α, PyData.eqvAll (xs.map enc) (ys.map enc) = decide (xs = ys)
  | [], [] => rfl
  | [], _ :: _ => rfl
  | _ :: _, [] => rfl
  | x :: xs, y :: ys => by
    show (PyData.eqv (enc x) (enc y) && PyData.eqvAll (xs.map enc) (ys.map enc)) = _
    rw [LEq.eq, eqvAll_map xs ys, ← Bool.decide_and]
    congr 1
    simp
instance {α : Type} [Enc α] [DecidableEq α] [LEq α] : LEq (List α) := ⟨fun a b => eqvAll_map a b⟩
instance {α β : Type} [Enc α] [Enc β] [DecidableEq α] [DecidableEq β] [LEq α] [LEq β] : LEq (α × β) := ⟨fun a b => by
  show (PyData.eqv (enc a.1) (enc b.1) && (PyData.eqv (enc a.2) (enc b.2) && true)) = _
  rw [LEq.eq, LEq.eq, Bool.and_true, ← Bool.decide_and]
  congr 1
  exact propext Prod.ext_iff.symm⟩
instance {α : Type} [Enc α] [DecidableEq α] [LEq α] [NotN α] : LEq (Option α) := ⟨fun a b => by
  cases a with
  | none => cases b with
    | none => rfl
    | some b =>
      have := NotN.nn b
      show PyData.eqv .none (enc b) = _
      cases h : enc b <;> rw [h] at this <;> first | rfl | cases this
  | some a => cases b with
    | none =>
      have := NotN.nn a
      show PyData.eqv (enc a) .none = _
      cases h : enc a <;> rw [h] at this <;> first | rfl | cases this
    | some b =>
      show PyData.eqv (enc a) (enc b) = _
      rw [LEq.eq]
      congr 1
      simp⟩
/-- no list within -/
class Flat (α : Type) [Enc α] : Prop where
  fl : ∀ a : α, noList (enc a) = true
theorem flatAll {α : Type} [Enc α] [Flat α] : ∀ xs : List α, noListAll (xs.map enc) = true
  | [] => by simp [noListAll]
  | x :: xs => by simp [noListAll, Flat.fl x, flatAll xs]
instance : Flat Int := ⟨fun _ => by simp [enc, Enc.enc, noList]⟩
instance : Flat Bool := ⟨fun _ => by simp [enc, Enc.enc, noList]⟩
instance : Flat Wd := ⟨fun _ => by simp [enc, Enc.enc, noList]⟩
instance {α β : Type} [Enc α] [Enc β] [Flat α] [Flat β] : Flat (α × β) := ⟨fun p => by
  have h1 := Flat.fl p.1; have h2 := Flat.fl p.2
  show noList (.tuple [enc p.1, enc p.2]) = true
  simp [noList, noListAll, h1, h2]⟩
instance {α β γ δ : Type} [Enc α] [Enc β] [Enc γ] [Enc δ] [Flat α] [Flat β] [Flat γ] [Flat δ] : Flat (T4 α β γ δ) := ⟨fun p => by
  have h1 := Flat.fl p.a; have h2 := Flat.fl p.b; have h3 := Flat.fl p.c; have h4 := Flat.fl p.d
  show noList (.tuple [enc p.a, enc p.b, enc p.c, enc p.d]) = true
  simp [noList, noListAll, h1, h2, h3, h4]⟩
instance {α : Type} [Enc α] [Flat α] : Flat (Option α) := ⟨fun o => by
  cases o with
  | none => show noList .none = true; simp [noList]
  | some a => exact Flat.fl a⟩

/-! ### the makings of a mirror -/
def chk (b : Bool) : Option Unit := if b = true then some () else none
theorem chk_of {b : Bool} {u : Unit} (h : chk b = some u) : b = true := by
  unfold chk at h
  split at h
  · assumption
  · cases h
theorem bnd {α β : Type} {m : Option α} {f : α → Option β} {r : β} (h : m.bind f = some r) : ∃ a, m = some a ∧ f a = some r := by
  cases m with
  | none => cases h
  | some a => exact ⟨a, rfl, h⟩
theorem condT {α : Type} {b : Bool} {x y r : α} (h : cond b x y = r) (e : b = true) : x = r := by subst e; exact h
theorem condF {α : Type} {b : Bool} {x y r : α} (h : cond b x y = r) (e : b = false) : y = r := by subst e; exact h
def lenO {α : Type} (xs : List α) : Option Unit := chk (Nat.ble xs.length 1000000)
theorem lenO_of {α : Type} {xs : List α} {u : Unit} (h : lenO xs = some u) : xs.length ≤ 1000000 := Nat.le_of_ble_eq_true (chk_of h)
def rngO (lo hi : Int) : Option (List Int) := if -400000 ≤ lo ∧ lo ≤ 400000 ∧ -400000 ≤ hi ∧ hi ≤ 400000 then some (rangeL lo hi) else none
theorem rngO_of {lo hi : Int} {xs : List Int} (h : rngO lo hi = some xs) : xs = rangeL lo hi ∧ (-400000 ≤ lo ∧ lo ≤ 400000) ∧ (-400000 ≤ hi ∧ hi ≤ 400000) ∧ xs.length ≤ 1000000 := by
  unfold rngO at h
  split at h
  · cases h
    rename_i c
    exact ⟨rfl, ⟨c.1, c.2.1⟩, ⟨c.2.2.1, c.2.2.2⟩, by rw [rangeL_len]; omega⟩
  · cases h
def catO {α : Type} (xs ys : List α) : Option (List α) := if xs.length + ys.length ≤ 1000000 then some (xs ++ ys) else none
theorem catO_of {α : Type} {xs ys zs : List α} (h : catO xs ys = some zs) : zs = xs ++ ys ∧ xs.length + ys.length ≤ 1000000 := by
  unfold catO at h
  split at h
  · cases h; exact ⟨rfl, by assumption⟩
  · cases h
def appO {α : Type} (xs : List α) (a : α) : Option (List α) := if xs.length ≤ 900000 then some (xs ++ [a]) else none
theorem appO_of {α : Type} {xs zs : List α} {a : α} (h : appO xs a = some zs) : zs = xs ++ [a] ∧ xs.length ≤ 1000000 := by
  unfold appO at h
  split at h
  · cases h; exact ⟨rfl, by omega⟩
  · cases h
def repO {α : Type} (xs : List α) (k : Int) : Option (List α) := if 0 ≤ k ∧ k ≤ 1000 ∧ xs.length ≤ 1000 then some (List.replicate k.toNat xs).flatten else none
theorem repO_of {α : Type} {xs zs : List α} {k : Int} (h : repO xs k = some zs) : zs = (List.replicate k.toNat xs).flatten ∧ (0 ≤ k ∧ k ≤ 1000) ∧ xs.length ≤ 1000 := by
  unfold repO at h
  split at h
  · cases h; rename_i c; exact ⟨rfl, ⟨c.1, c.2.1⟩, c.2.2⟩
  · cases h
def setO {α : Type} (xs : List α) (i : Int) (a : α) : Option (List α) := (ixN xs.length i).map fun j => xs.set j a
def popO {α : Type} (xs : List α) : Option (α × List α) := (xs[xs.length - 1]?).map fun a => (a, xs.dropLast)
def popAtO {α : Type} (xs : List α) (i : Int) : Option (α × List α) := if xs.length ≤ 1000000 then (ixN xs.length i).bind fun j => (xs[j]?).map fun a => (a, xs.eraseIdx j) else none
def divO (i j : Int) : Option Int := if 0 < j ∧ j < 1073741824 then some (i / j) else none
theorem divO_of {i j r : Int} (h : divO i j = some r) : r = i / j ∧ CDiv i j := by
  unfold divO at h
  split at h
  · cases h; rename_i c; exact ⟨rfl, c⟩
  · cases h
def modO (i j : Int) : Option Int := if 0 < j then some (i % j) else none
theorem modO_of {i j r : Int} (h : modO i j = some r) : r = i % j ∧ 0 < j := by
  unfold modO at h
  split at h
  · cases h; rename_i c; exact ⟨rfl, c⟩
  · cases h
def mulO (i j : Int) : Option Int := if (-18446744073709551616 < i ∧ i < 18446744073709551616) ∨ (-18446744073709551616 < j ∧ j < 18446744073709551616) then some (i * j) else none
theorem mulO_of {i j r : Int} (h : mulO i j = some r) : r = i * j ∧ CMul i j := by
  unfold mulO at h
  split at h
  · cases h; rename_i c; exact ⟨rfl, by unfold CMul; omega⟩
  · cases h

section
variable {K : PySem.W.Frag} {G : Ent} {te ta tb tc : TE} {tt tu : TT} {S S0 S1 S2 S3 S4 : List VS} {d x y z : D} {ds : List D} {c : Cn} {b b1 b2 : Bool} {Hf Hn H : Hp} {i j k : Int} {rest t : TS} {o : Out} {α β γ τ : Type} [Enc α] [Enc β] [Enc γ]

theorem ev_eqT [DecidableEq α] [Shp α] [LEq α] {a c : α} (ha : Ev K G ta S (enc a) S1) (hb : Ev K G tb S1 (enc c) S2) (h : Nat.ble (Shp.dep α) 64 = true := by rfl) : Ev K G (tOp (rEqD K) ta tb) S (.bool (decide (a = c))) S2 := by
  have q := ev_op ha hb (ov_eqD (K := K) (shp_ok a h) (shp_ok c h))
  rw [LEq.eq] at q; exact q
theorem ev_neT [DecidableEq α] [Shp α] [LEq α] {a c : α} (ha : Ev K G ta S (enc a) S1) (hb : Ev K G tb S1 (enc c) S2) (h : Nat.ble (Shp.dep α) 64 = true := by rfl) : Ev K G (tOp (rNeD K) ta tb) S (.bool (!decide (a = c))) S2 := by
  have q := ev_op ha hb (ov_neD (K := K) (shp_ok a h) (shp_ok c h))
  rw [LEq.eq] at q; exact q
/-- membership, as a Bool -/
def inB {α : Type} [DecidableEq α] (a : α) (xs : List α) : Bool := decide (a ∈ xs)
theorem inB_iff {α : Type} [DecidableEq α] {a : α} {xs : List α} : inB a xs = true ↔ a ∈ xs := by unfold inB; exact decide_eq_true_iff
theorem any_eq [DecidableEq α] [LEq α] (a : α) : ∀ xs : List α, (xs.map enc).any (fun z => PyData.eqv z (enc a)) = decide (a ∈ xs)
  | [] => by simp
  | y :: ys => by
    show (PyData.eqv (enc y) (enc a) || (ys.map enc).any _) = _
    rw [LEq.eq, any_eq a ys, ← Bool.decide_or]
    congr 1
    rw [List.mem_cons]
    exact propext ⟨fun h => h.imp Eq.symm id, fun h => h.imp Eq.symm id⟩
theorem ev_inT [DecidableEq α] [Shp α] [LEq α] {a : α} {xs : List α} (ha : Ev K G ta S (enc a) S1) (hb : Ev K G tb S1 (enc xs) S2) (h : Nat.ble (Shp.dep α) 60 = true := by rfl) : Ev K G (tOp (rInD K) ta tb) S (.bool (inB a xs)) S2 := by
  unfold inB
  have h1 := Nat.le_of_ble_eq_true h
  have q := ev_op ha hb (ov_inD (K := K) (ds := xs.map enc) (shp_ok a (Nat.ble_eq_true_of_le (by omega))) (shp_ok xs (Nat.ble_eq_true_of_le (show Shp.dep α + 1 ≤ 64 by omega))))
  rw [any_eq] at q; exact q
theorem ev_niT [DecidableEq α] [Shp α] [LEq α] {a : α} {xs : List α} (ha : Ev K G ta S (enc a) S1) (hb : Ev K G tb S1 (enc xs) S2) (h : Nat.ble (Shp.dep α) 60 = true := by rfl) : Ev K G (tOp (rNotInD K) ta tb) S (.bool (!inB a xs)) S2 := by
  unfold inB
  have h1 := Nat.le_of_ble_eq_true h
  have q := ev_op ha hb (ov_niD (K := K) (ds := xs.map enc) (shp_ok a (Nat.ble_eq_true_of_le (by omega))) (shp_ok xs (Nat.ble_eq_true_of_le (show Shp.dep α + 1 ≤ 64 by omega))))
  rw [any_eq] at q; exact q
/-- an int in a written tuple of ints -/
theorem any_int (a : Int) : ∀ xs : List Int, (xs.map PyData.int).any (fun z => PyData.eqv z (.int a)) = decide (a ∈ xs) := any_eq a
theorem ev_inTupI {a : Int} {xs : List Int} (ha : Ev K G ta S (.int a) S1) (hb : Ev K G tb S1 (.tuple ds) S2) (e : ds = xs.map PyData.int) : Ev K G (tOp (rIn K false) ta tb) S (.bool (inB a xs)) S2 := by
  unfold inB
  subst e
  have q := ev_op ha hb (ov_inT (K := K) (neg := false) rfl (by simp [List.all_map, flatD]))
  rw [if_neg (by decide)] at q
  have e := any_int a xs
  rw [e] at q; exact q
theorem ev_niTupI {a : Int} {xs : List Int} (ha : Ev K G ta S (.int a) S1) (hb : Ev K G tb S1 (.tuple ds) S2) (e : ds = xs.map PyData.int) : Ev K G (tOp (rIn K true) ta tb) S (.bool (!inB a xs)) S2 := by
  unfold inB
  subst e
  have q := ev_op ha hb (ov_inT (K := K) (neg := true) rfl (by simp [List.all_map, flatD]))
  rw [if_pos rfl] at q
  have e := any_int a xs
  rw [e] at q; exact q
/-- a op b op c -/
theorem ev_chain {r r' : R2} {p q : Bool} (ha : Ev K G ta S x S1) (hb : Ev K G tb S1 y S2) (h1 : OpV K r x y (.bool p)) (hc : p = true → Ev K G tc S2 z S2) (h2 : p = true → OpV K r' y z (.bool q)) : Ev K G (tChain r r' ta tb tc) S (.bool (p && q)) S2 := fun σ Hf H hs Q q0 =>
  ha σ Hf H hs _ fun v Hn H2 e s1 dv => hb σ Hn H2 s1 _ fun w Hm H3 e2 s2 dw =>
    h1 Hm H3 v w s2.ex (dp_mono e2 _ _ dv) dw _ fun z1 dz => by
      cases dz
      refine ⟨p, rfl, ?_⟩
      cases p with
      | true => exact hc rfl σ Hm H3 s2 _ fun u Ho H4 e3 s3 du => h2 rfl Ho H4 w u s3.ex (dp_mono e3 _ _ dw) du Q fun z2 dz2 => q0 z2 Ho H4 ((e.trans e2).trans e3) s3 dz2
      | false => exact q0 _ Hm H3 (e.trans e2) s2 (.bl _)
theorem atI_map {α β : Type} (f : α → β) (xs : List α) (i : Int) : atI (xs.map f) i = (atI xs i).map f := by
  unfold atI
  rw [List.length_map]
  cases ixN xs.length i with
  | none => rfl
  | some j => show (xs.map f)[j]? = (xs[j]?).map f; rw [List.getElem?_map]
theorem ev_ixLT {xs : List α} {a : α} (hd : atI xs i = some a) (ha : Ev K G ta S (enc xs) S1) (hb : Ev K G tb S1 (.int i) S2) : Ev K G (tOp (rIxL K) ta tb) S (enc a) S2 :=
  ev_ixL (ds := xs.map enc) ha hb (by rw [atI_map, hd]; rfl)
theorem ev_lenT {xs : List α} (ha : Ev K G ta S (enc xs) S1) : Ev K G (tCB (rLenS K) (tCons ta tNil)) S (.int (xs.length : Int)) S1 := by
  have q := ev_len (K := K) (ds := xs.map enc) ha rfl
  rw [List.length_map] at q; exact q
/-- new typed lists -/
abbrev lst (xs : List α) : Cn := .lst (xs.map enc)
theorem evn_listT {xs : List α} (ha : Ev K G ta S (enc xs) S1) : EvN K G (tCB (rListS K) (tCons ta tNil)) S (lst xs) S1 := evn_list (ds := xs.map enc) ha rfl
theorem evn_cutT {xs : List α} {tl th : TO} {lo hi : Option Int} (ha : Ev K G ta S (enc xs) S1) (hl : EvO K G tl S1 lo S2) (hh : EvO K G th S2 hi S3) : EvN K G (tSl (rSlL K) ta tl th) S (lst (cutL xs lo hi)) S3 := by
  have q := evn_cut (K := K) (ds := xs.map enc) ha hl hh
  rw [cutL_map] at q; exact q
theorem evn_cut3T {xs : List α} {tl th ts : TO} {lo hi st : Option Int} (h0 : st ≠ some 0) (ha : Ev K G ta S (enc xs) S1) (hl : EvO K G tl S1 lo S2) (hh : EvO K G th S2 hi S3) (h3 : EvO K G ts S3 st S4) : EvN K G (tSl3 K ta tl th ts) S (lst (pick3 xs lo hi st)) S4 := by
  have q := evn_cut3 (K := K) (ds := xs.map enc) h0 ha hl hh h3
  rw [pick3_map] at q; exact q
theorem evn_revT {xs : List α} (ha : Ev K G ta S (enc xs) S1) : EvN K G (tRevL K ta) S (lst xs.reverse) S1 := by
  have q := evn_rev (K := K) (ds := xs.map enc) ha
  rw [← List.map_reverse] at q; exact q
theorem evn_catT {xs ys zs : List α} (hz : catO xs ys = some zs) (ha : Ev K G ta S (enc xs) S1) (hb : Ev K G tb S1 (enc ys) S2) : EvN K G (tOp rCat ta tb) S (lst zs) S2 := by
  obtain ⟨rfl, hl⟩ := catO_of hz
  have q := evn_cat (K := K) (ds := xs.map enc) (es := ys.map enc) ha hb (by simpa using hl)
  rw [← List.map_append] at q; exact q
theorem flat_map_enc (n : Nat) (xs : List α) : (List.replicate n (xs.map enc)).flatten = (List.replicate n xs).flatten.map enc := by
  induction n with
  | zero => rfl
  | succ n ih => rw [List.replicate_succ, List.replicate_succ, List.flatten_cons, List.flatten_cons, ih, List.map_append]
theorem evn_repT {xs zs : List α} (hz : repO xs k = some zs) (ha : Ev K G ta S (enc xs) S1) (hb : Ev K G tb S1 (.int k) S2) : EvN K G (tOp rRep ta tb) S (lst zs) S2 := by
  obtain ⟨rfl, hk, hl⟩ := repO_of hz
  have q := evn_rep (K := K) (ds := xs.map enc) ha hb hk (by simpa using hl)
  rw [flat_map_enc] at q; exact q
theorem evn_tmpT {xs : List α} [Flat α] (h : ∀ G', EvN K G' te (S.map frzV) (lst xs) (S.map frzV)) : EvN K G te S (lst xs) S := evn_tmp h (flatAll xs)
theorem src_listT {xs : List α} (h : Ev K G te S (enc xs) S1) : Src K G (iList K te) S (xs.map enc) S1 := src_list h
theorem src_rng1 {n : Int} {xs : List Int} (hx : rngO 0 n = some xs) (h : Ev K G te S (.int n) S1) : Src K G (iRng1 (tCons te tNil)) S (xs.map enc) S1 := by
  obtain ⟨rfl, _, h2, _⟩ := rngO_of hx
  exact src_range1 (ea_cons h ea_nil) (by omega)
theorem src_rng2 {lo n : Int} {xs : List Int} (hx : rngO lo n = some xs) (h : Ev K G ta S (.int lo) S1) (h2 : Ev K G tb S1 (.int n) S2) : Src K G (iRng2 (tCons ta (tCons tb tNil))) S (xs.map enc) S2 := by
  obtain ⟨rfl, h1, h3, _⟩ := rngO_of hx
  exact src_range2 (ea_cons h (ea_cons h2 ea_nil)) (by omega)
theorem rngO_len {lo hi : Int} {xs : List Int} (h : rngO lo hi = some xs) : xs.length ≤ 1000000 := (rngO_of h).2.2.2
/-- targets, with their checks by computation -/
theorem tg_nm {j : Nat} (hj : Nat.blt j S.length = true := by rfl) : Tg K G (gName j) [j] S d (S.set j (.val d)) := tg_name (Nat.le_of_ble_eq_true hj)
def stillB (S : List VS) (vs : List Nat) : Bool := vs.all fun i => match S[i]? with | some s => s.still | none => true
theorem still_of {vs : List Nat} (h : stillB S vs = true) : ∀ (i : Nat) (s : VS), i ∈ vs → S[i]? = some s → s.still = true := fun i s hi e => by
  have := List.all_eq_true.mp h i hi
  rw [e] at this; exact this
def subB (us vs : List Nat) : Bool := us.all fun i => vs.contains i
theorem sub_of {us vs : List Nat} (h : subB us vs = true) : ∀ i ∈ us, i ∈ vs := fun i hi => by
  have := List.all_eq_true.mp h i hi
  simpa using this
theorem evn_cmpO {ti : TI} {g : TG} {vs us : List Nat} {xs : List α} {ys : List β} {p : α → Option Bool} {f : α → Option β} {Sa : α → List VS} (hr : cmpO p f xs = some ys) (hl : xs.length ≤ 1000000) (hsrc : Src K G ti S (xs.map enc) S1)
    (hg : ∀ a G', a ∈ xs → Tg K G' g us (wipeS S1 vs) (enc a) (Sa a))
    (ht : ∀ a b G', a ∈ xs → p a = some b → EvB K G' tt (Sa a) b (Sa a)) (he : ∀ a b G', a ∈ xs → p a = some true → f a = some b → Ev K G' te (Sa a) (enc b) (Sa a))
    (hm : stillB S1 vs = true := by rfl) (hu : subB us vs = true := by rfl) (hsa : ∀ a, wipeS (Sa a) vs = wipeS S1 vs := by intro _; rfl) : EvN K G (tLc ti g tt te vs) S (lst ys) S1 :=
  evn_lcO hsrc (still_of hm) (sub_of hu) hr hl hg hsa ht he
theorem evn_cmp {ti : TI} {g : TG} {vs us : List Nat} {xs : List α} {p : α → Bool} {f : α → β} {Sa : α → List VS} (hl : xs.length ≤ 1000000) (hsrc : Src K G ti S (xs.map enc) S1)
    (hg : ∀ a G', a ∈ xs → Tg K G' g us (wipeS S1 vs) (enc a) (Sa a))
    (ht : ∀ a G', a ∈ xs → EvB K G' tt (Sa a) (p a) (Sa a)) (he : ∀ a G', a ∈ xs → p a = true → Ev K G' te (Sa a) (enc (f a)) (Sa a))
    (hm : stillB S1 vs = true := by rfl) (hu : subB us vs = true := by rfl) (hsa : ∀ a, wipeS (Sa a) vs = wipeS S1 vs := by intro _; rfl) : EvN K G (tLc ti g tt te vs) S (lst ((xs.filter p).map f)) S1 :=
  evn_lc hsrc (still_of hm) (sub_of hu) hl hg hsa ht he
theorem evn_cmp0 {ti : TI} {g : TG} {vs us : List Nat} {xs : List α} {f : α → β} {Sa : α → List VS} (hl : xs.length ≤ 1000000) (hsrc : Src K G ti S (xs.map enc) S1)
    (hg : ∀ a G', a ∈ xs → Tg K G' g us (wipeS S1 vs) (enc a) (Sa a)) (he : ∀ a G', a ∈ xs → Ev K G' te (Sa a) (enc (f a)) (Sa a))
    (hm : stillB S1 vs = true := by rfl) (hu : subB us vs = true := by rfl) (hsa : ∀ a, wipeS (Sa a) vs = wipeS S1 vs := by intro _; rfl) : EvN K G (tLc ti g tYes te vs) S (lst (xs.map f)) S1 :=
  evn_lc0 hsrc (still_of hm) (sub_of hu) hl hg hsa he

/-! ### statements, with their checks by computation -/
theorem q_asg {i : Nat} (h : Ev K G te S d S1) (k : Bs K G rest (S1.set i (.val d)) o) (hi : Nat.blt i S1.length = true := by rfl) : Bs K G (tSeq (tAsg te (gName i)) rest) S o := bs_asg h k (Nat.le_of_ble_eq_true hi)
theorem q_asgN {i : Nat} (h : EvN K G te S c S1) (k : Bs K G rest (S1.set i (.own c)) o) (hi : Nat.blt i S1.length = true := by rfl) : Bs K G (tSeq (tAsg te (gName i)) rest) S o := bs_asgN h k (Nat.le_of_ble_eq_true hi)
theorem q_aug {i : Nat} {f : Int → Int → Int} {m n : Int} (hx : S[i]? = some (.val (.int m))) (h : Ev K G te S (.int n) S1) (k : Bs K G rest (S1.set i (.val (.int (f m n)))) o) (hi : Nat.blt i S1.length = true := by rfl) : Bs K G (tSeq (tAug i te (ipI f)) rest) S o := bs_aug hx h k (Nat.le_of_ble_eq_true hi)
theorem q_par {i j : Nat} {ts : TA} (h : EvA K G ts S [x, y] S1) (k : Bs K G rest ((S1.set i (.val x)).set j (.val y)) o) (hi : Nat.blt i S1.length = true := by rfl) (hj : Nat.blt j S1.length = true := by rfl) : Bs K G (tSeq (tPar i j ts) rest) S o := bs_par h k (Nat.le_of_ble_eq_true hi) (Nat.le_of_ble_eq_true hj)
theorem q_nil {vs : List Nat} (e : wipeS S vs = S1) : Bs K G tNext S (.nx S1) := e ▸ (bs_nil.wipeN vs)
theorem q_nilc {vs : List Nat} (e : wipeS S vs = S1) : Bs K G tNext S (.nc S1) := e ▸ (bs_nilc.wipe vs)
theorem q_cont {vs : List Nat} (e : wipeS S vs = S1) : Bs K G (tSeq tCont rest) S (.nc S1) := e ▸ (bs_cont.wipe vs)
theorem q_brk {vs : List Nat} (e : wipeS S vs = S1) : Bs K G (tSeq tBreak rest) S (.bk S1) := e ▸ (bs_brk.wipeB vs)
theorem q_app {i : Nat} {s s1 : VS} {es : List D} {xs zs : List α} {a : α} (hz : appO xs a = some zs) (hx : S[i]? = some s) (hc : s.cn = some (.lst es)) (h : Ev K G te S (enc a) S1) (h1 : S1[i]? = some s1) (hc1 : s1.cn = some (lst xs))
    (k : Bs K G rest (S1.set i (s1.put (lst zs))) o) : Bs K G (tSeq (tDrop (tBM K "list" rAppend (tVar i) (tCons te tNil))) rest) S o := by
  obtain ⟨rfl, hl⟩ := appO_of hz
  refine bs_app hx hc h h1 hc1 (by simpa using hl) ?_
  rw [lst, List.map_append] at k
  exact k
theorem ev_popT {i : Nat} {s : VS} {xs zs : List α} {a : α} (hz : popO xs = some (a, zs)) (hx : S[i]? = some s) (hc : s.cn = some (lst xs)) : Ev K G (tBM0 K "list" rPop (tVar i)) S (enc a) (S.set i (s.put (lst zs))) := by
  unfold popO at hz
  cases h : xs[xs.length - 1]? with
  | none => rw [h] at hz; cases hz
  | some v =>
    rw [h] at hz; cases hz
    have q := ev_pop (K := K) (G := G) (d := enc a) hx hc (by rw [List.length_map, List.getElem?_map, h]; rfl)
    rw [← List.map_dropLast] at q; exact q
theorem eraseIdx_map {α β : Type} (f : α → β) : ∀ (xs : List α) (j : Nat), (xs.map f).eraseIdx j = (xs.eraseIdx j).map f
  | [], _ => rfl
  | _ :: _, 0 => rfl
  | x :: xs, j + 1 => by show f x :: (xs.map f).eraseIdx j = _; rw [eraseIdx_map f xs j]; rfl
theorem ev_popAtT {i : Nat} {s s1 : VS} {es : List D} {xs zs : List α} {a : α} {k : Int} (hz : popAtO xs k = some (a, zs)) (hx : S[i]? = some s) (hc : s.cn = some (.lst es)) (h : Ev K G te S (.int k) S1) (h1 : S1[i]? = some s1) (hc1 : s1.cn = some (lst xs)) :
    Ev K G (tBM K "list" rPopAt (tVar i) (tCons te tNil)) S (enc a) (S1.set i (s1.put (lst zs))) := by
  unfold popAtO at hz
  split at hz
  · rename_i hl
    obtain ⟨j, hj, hz⟩ := bnd hz
    cases hv : xs[j]? with
    | none => rw [hv] at hz; cases hz
    | some v =>
      rw [hv] at hz; cases hz
      have q := ev_popAt (K := K) (G := G) (d := enc a) hx hc h h1 hc1 (by rw [List.length_map]; exact hj) (by rw [List.getElem?_map, hv]; rfl) (by simpa using hl)
      have e : (xs.map enc).eraseIdx j = (xs.eraseIdx j).map enc := eraseIdx_map enc xs j
      rw [e] at q; exact q
  · cases hz
theorem q_setI {i : Nat} {s1 s2 : VS} {ti : TE} {k : Int} {xs zs : List α} {a : α} (hz : setO xs k a = some zs) (h : Ev K G te S (enc a) S1) (hi : Ev K G ti S1 (.int k) S2) (h1 : S1[i]? = some s1) (m1 : s1.mine = true) (h2 : S2[i]? = some s2) (hc2 : s2.cn = some (lst xs))
    (kk : Bs K G rest (S2.set i (s2.put (lst zs))) o) : Bs K G (tSeq (tAsg te (gSub (tVar i) ti rSetL)) rest) S o := by
  unfold setO at hz
  cases hj : ixN xs.length k with
  | none => rw [hj] at hz; cases hz
  | some j =>
    rw [hj] at hz
    have e : zs = xs.set j a := (Option.some.inj hz).symm
    subst e
    refine bs_setI h hi h1 m1 h2 hc2 (by rw [List.length_map]; exact hj) ?_
    rw [lst, List.map_set] at kk
    exact kk
/-- xs[k] op= e, ints -/
theorem q_augI {i : Nat} {s s1 s2 : VS} {ti : TE} {f : Int → Int → Int} {k m n : Int} {xs ys zs : List Int} (hs : S[i]? = some s) (hm : s.mine = true) (hi : Ev K G ti S (.int k) S1) (h1 : S1[i]? = some s1) (hc1 : s1.cn = some (lst xs)) (hget : atI xs k = some m) (h : Ev K G te S1 (.int n) S2) (h2 : S2[i]? = some s2) (hc2 : s2.cn = some (lst ys)) (hz : setO ys k (f m n) = some zs)
    (kk : Bs K G rest (S2.set i (s2.put (lst zs))) o) : Bs K G (tSeq (tAugS (tVar i) ti te (rIxL K) (ipI f) rSetL) rest) S o := fun σ Hf H E hso q => by
  obtain ⟨p0, c0, e1, _, _⟩ := (hso.val i s hs).mine_at hm
  refine ⟨.ref p0, e1, hi σ Hf H hso _ fun v Hn H2 e s3 dv => ?_⟩
  obtain ⟨p, vs, f1, f2, f3, m1⟩ := own_lst s3 h1 hc1
  rw [e1] at f1; cases f1
  cases dv
  have hat : atI (xs.map enc) k = some (enc m) := by rw [atI_map, hget]; rfl
  obtain ⟨w, g1, g2⟩ := atI_dq f3 hat
  cases g2
  refine ⟨p0, vs, k, .int m, rfl, rfl, SqL.of f2, g1, h σ Hn H2 s3 _ fun u Hm H3 e2 s4 du => ?_⟩
  cases du
  obtain ⟨p', vs', k1, k2, k3, m2⟩ := own_lst s4 h2 hc2
  rw [e1] at k1; cases k1
  unfold setO at hz
  cases hj : ixN ys.length k with
  | none => rw [hj] at hz; cases hz
  | some j =>
    rw [hj] at hz
    have ez : zs = ys.set j (f m n) := (Option.some.inj hz).symm
    subst ez
    have hlen : vs'.length = ys.length := by rw [dpa_len k3, List.length_map]
    refine ⟨m, n, rfl, rfl, p0, vs', k, j, rfl, rfl, k2, by rw [hlen]; exact hj, kk σ Hm _ E ?_ (q.mono (e.trans e2))⟩
    refine s4.lput h2 m2 e1 ?_
    rw [List.map_set]
    exact dpa_set j k3 (.int _)
end
end MM

set_option Elab.async false
set_option linter.all false
set_option maxRecDepth 100000
set_option maxHeartbeats 4000000
set_option autoImplicit false
namespace MM
open PySem PySem.Spec PyProof.Rows L2

/-- simple values -/
class Atm (α : Type) [Enc α] : Prop where
  at' : ∀ a : α, atomD (enc a) = true
instance : Atm Int := ⟨fun _ => rfl⟩
instance : Atm Bool := ⟨fun _ => rfl⟩
instance : Atm Unit := ⟨fun _ => rfl⟩
instance : Atm Wd := ⟨fun _ => rfl⟩
instance {α : Type} [Enc α] [Atm α] : Atm (Option α) := ⟨fun o => match o with | none => rfl | some a => Atm.at' a⟩
instance {α β : Type} [Enc α] [Enc β] : Enc (α ⊕ β) := ⟨fun o => match o with | .inl a => enc a | .inr b => enc b⟩

section
variable {K : PySem.W.Frag} {G : Ent} {te ta tb tc : TE} {tt tu : TT} {S S0 S1 S2 S3 S4 : List VS} {d x y z : D} {ds : List D} {c : Cn} {b b1 b2 : Bool} {r : RK} {Hf Hn H : Hp} {i j k : Int} {rest t : TS} {o : Out} {α β γ τ : Type} [Enc α] [Enc β] [Enc γ]

theorem Ev.to {a a' : α} (h : Ev K G te S (enc a) S1) (e : some a = some a') : Ev K G te S (enc a') S1 := by cases e; exact h
theorem EvN.to {xs ys : List α} (h : EvN K G te S (lst xs) S1) (e : some xs = some ys) : EvN K G te S (lst ys) S1 := by cases e; exact h
theorem EvB.to {b' : Bool} (h : EvB K G tt S b S1) (e : some b = some b') : EvB K G tt S b' S1 := by cases e; exact h
theorem Ev.un {a : α} {m : Option α} (h : Ev K G te S (enc m) S1) (e : m = some a) : Ev K G te S (enc a) S1 := by cases e; exact h
theorem EvN.fz {xs : List α} (h : EvN K G te S (lst xs) S1) : Ev K G te S (enc xs) S1 := h.frz
theorem ev_tmpT {a : α} [Atm α] (h : ∀ G', Ev K G' te (S.map frzV) (enc a) (S.map frzV)) : Ev K G te S (enc a) S := ev_tmp h (Atm.at' a)
theorem ev_ixOwn {n : Nat} {s s1 : VS} {xs : List α} {a : α} (hd : atI xs i = some a) (hs : S[n]? = some s) (m : s.mine = true) (hb : Ev K G tb S (.int i) S1) (h1 : S1[n]? = some s1) (hc : s1.cn = some (lst xs)) :
    Ev K G (tOp (rIxL K) (tVar n) tb) S (enc a) S1 := fun σ Hf H hso Q q => by
  obtain ⟨p0, c0, e1, _, _⟩ := (hso.val n s hs).mine_at m
  refine ⟨.ref p0, e1, hb σ Hf H hso _ fun v Hn H2 e s3 dv => ?_⟩
  obtain ⟨p, vs, f1, f2, f3, m1⟩ := own_lst s3 h1 hc
  rw [e1] at f1; cases f1
  cases dv
  have hat : atI (xs.map enc) i = some (enc a) := by rw [atI_map, hd]; rfl
  obtain ⟨w, g1, g2⟩ := atI_dq f3 hat
  exact ⟨p0, vs, i, w, rfl, rfl, SqL.of f2, g1, q w Hn H2 e s3 g2⟩

/-! ### dicts with int keys -/
abbrev dct (m : List (Int × β)) : Cn := .dK (m.map fun p => (.inl p.1, enc p.2))
theorem aget_map (m : List (Int × β)) (k : Int) : aget (m.map fun p => ((.inl p.1 : Key), enc p.2)) (.inl k) = (aget m k).map enc := by
  induction m with
  | nil => rfl
  | cons p m ih =>
    unfold aget at ih ⊢
    rw [List.map_cons, List.find?_cons, List.find?_cons]
    by_cases h : p.1 = k
    · have h2 : ((.inl p.1 : Key) = .inl k) := congrArg _ h
      rw [decide_eq_true h2, decide_eq_true h]; rfl
    · have h2 : ¬ ((.inl p.1 : Key) = .inl k) := fun e => h (Sum.inl.inj e)
      rw [decide_eq_false h2, decide_eq_false h]
      exact ih
theorem aput_map (m : List (Int × β)) (k : Int) (v : β) : aput (m.map fun p => ((.inl p.1 : Key), enc p.2)) (.inl k) (enc v) = (aput m k v).map fun p => (.inl p.1, enc p.2) := by
  unfold aput
  have e : ((m.map fun p => ((.inl p.1 : Key), enc p.2)).any fun p => decide (p.1 = .inl k)) = m.any fun p => decide (p.1 = k) := by
    rw [List.any_map]
    congr 1
    funext p
    show decide ((.inl p.1 : Key) = .inl k) = decide (p.1 = k)
    by_cases h : p.1 = k
    · rw [decide_eq_true h, decide_eq_true (congrArg _ h)]
    · rw [decide_eq_false h, decide_eq_false (fun e => h (Sum.inl.inj e))]
  rw [e]
  split
  · rw [List.map_map, List.map_map]
    congr 1
    funext p
    show (if (.inl p.1 : Key) = .inl k then _ else _) = _
    by_cases h : p.1 = k
    · rw [if_pos (congrArg _ h)]; show _ = _; simp [h]
    · rw [if_neg (fun e => h (Sum.inl.inj e))]; simp [h]
  · rw [List.map_append]; rfl
def dputO (m : List (Int × β)) (k : Int) (v : β) : Option (List (Int × β)) := if m.length ≤ 900000 then some (aput m k v) else none
theorem dputO_of {m z : List (Int × β)} {k : Int} {v : β} (h : dputO m k v = some z) : z = aput m k v ∧ m.length ≤ 1000000 := by
  unfold dputO at h
  split at h
  · cases h; exact ⟨rfl, by omega⟩
  · cases h
theorem evn_dictT : EvN K G tDNewK S (dct ([] : List (Int × β))) S := evn_dict
theorem ev_dgetT {n : Nat} {s s1 : VS} {m : List (Int × β)} {a : β} (hg : aget m i = some a) (hs0 : S[n]? = some s) (m0 : s.mine = true) (hb : Ev K G tb S (.int i) S1) (h1 : S1[n]? = some s1) (hc : s1.cn = some (dct m)) :
    Ev K G (tDGet (tVar n) tb) S (enc a) S1 := ev_dget hs0 m0 hb h1 hc (by rw [aget_map, hg]; rfl)
theorem isSome_map {α β : Type} (f : α → β) (o : Option α) : (o.map f).isSome = o.isSome := by cases o <;> rfl
theorem ev_dinT {n : Nat} {s1 : VS} {m : List (Int × β)} (hb : Ev K G tb S (.int i) S1) (h1 : S1[n]? = some s1) (hc : s1.cn = some (dct m)) : Ev K G (tDIn tb (tVar n)) S (.bool (aget m i).isSome) S1 := by
  have q := ev_din (K := K) (G := G) hb h1 hc
  rw [aget_map, isSome_map] at q; exact q
theorem ev_dninT {n : Nat} {s1 : VS} {m : List (Int × β)} (hb : Ev K G tb S (.int i) S1) (h1 : S1[n]? = some s1) (hc : s1.cn = some (dct m)) : Ev K G (tDNotIn tb (tVar n)) S (.bool (!(aget m i).isSome)) S1 := by
  have q := ev_dnotin (K := K) (G := G) hb h1 hc
  rw [aget_map, isSome_map] at q; exact q
theorem q_dput {n : Nat} {s1 s2 : VS} {m z : List (Int × β)} {a : β} (hz : dputO m i a = some z) (h : Ev K G te S (enc a) S1) (hs1 : S1[n]? = some s1) (m1 : s1.mine = true) (hb : Ev K G tb S1 (.int i) S2) (h2 : S2[n]? = some s2) (hc : s2.cn = some (dct m))
    (k : Bs K G rest (S2.set n (s2.put (dct z))) o) : Bs K G (tSeq (sDPut (tVar n) tb te) rest) S o := by
  obtain ⟨rfl, hl⟩ := dputO_of hz
  refine bs_dput h hs1 m1 hb h2 hc (by simpa using hl) ?_
  rw [aput_map]; exact k

/-! ### the end of a def -/
theorem Fresh.forget {σ : L2.St} {p : Addr} (f : Fresh K G Hn S σ p) (i : Nat) : Fresh K G Hn (S.set i .any) σ p :=
  ⟨f.hf, f.hg, f.hP, fun j s e o => by
    by_cases h : i = j
    · subst h
      rw [List.getElem?_set_self'] at e
      cases hS : S[i]? with
      | none => rw [hS] at e; cases e
      | some t => rw [hS] at e; cases e; cases o
    · rw [List.getElem?_set_ne h] at e; exact f.no j s e o⟩
theorem Fresh.wipe {σ : L2.St} {p : Addr} (f : Fresh K G Hn S σ p) : ∀ vs : List Nat, Fresh K G Hn (wipeS S vs) σ p
  | [] => f
  | v :: vs => (Fresh.wipe f vs).forget v
theorem sok_wipeF {σ : L2.St} (s : SOk K G Hf H S σ) : ∀ vs : List Nat, SOk K G Hf H (wipeS S vs) σ
  | [] => s
  | v :: vs => (sok_wipeF s vs).forget
theorem Bs.wipeR (h : Bs K G t S (.rt r S1)) (vs : List Nat) : Bs K G t S (.rt r (wipeS S1 vs)) := fun σ Hf H E hs q => by
  refine h σ Hf H E hs fun v σ2 Hn H2 e s rr => q v σ2 Hn H2 e (sok_wipeF s vs) ?_
  cases r with
  | val d => exact rr
  | new c => obtain ⟨p, e1, f, cc⟩ := rr; exact ⟨p, e1, f.wipe vs, cc⟩
  | shell cs => obtain ⟨t, us, e1, e2, e3, e4, f⟩ := rr; exact ⟨t, us, e1, e2, e3, e4, fun p hp => (f p hp).wipe vs⟩
theorem q_ret {vs : List Nat} (h : Ev K G te S d S1) (e : wipeS S1 vs = S2) : Bs K G (tSeq (tRet te) rest) S (.rt (.val d) S2) := e ▸ (bs_ret h).wipeR vs
theorem q_retN {vs : List Nat} (h : EvN K G te S c S1) (e : wipeS S1 vs = S2) : Bs K G (tSeq (tRet te) rest) S (.rt (.new c) S2) := e ▸ (bs_retN h).wipeR vs
theorem q_retO {vs : List Nat} {n : Nat} (hx : S[n]? = some (.own c)) (e : wipeS (S.set n .any) vs = S2) : Bs K G (tSeq (tRet (tVar n)) rest) S (.rt (.new c) S2) := e ▸ (bs_retO hx).wipeR vs
theorem q_retNone {vs : List Nat} (e : wipeS S vs = S2) : Bs K G (tSeq tRetN rest) S (.rt (.val .none) S2) := e ▸ bs_retNone.wipeR vs
theorem q_retS {vs : List Nat} {ts : TA} {cs : List (D ⊕ Cn)} (h : EvS K G ts S cs S1) (e : wipeS S1 vs = S2) (hl : Nat.ble cs.length 1000 = true := by rfl) : Bs K G (tSeq (tRet (tTup ts)) rest) S (.rt (.shell cs) S2) := e ▸ (bs_retS h (Nat.le_of_ble_eq_true hl)).wipeR vs

/-! ### xs[k] op= e at a list of anything -/
theorem bs_augD {n : Nat} {s s1 s2 : VS} {ti : TE} {f : Int → Int → Int} {k m v : Int} {es es2 : List D} {jj : Nat} (hs : S[n]? = some s) (hm : s.mine = true) (hi : Ev K G ti S (.int k) S1) (h1 : S1[n]? = some s1) (hc1 : s1.cn = some (.lst es)) (hget : atI es k = some (.int m)) (h : Ev K G te S1 (.int v) S2) (h2 : S2[n]? = some s2) (hc2 : s2.cn = some (.lst es2)) (hj : ixN es2.length k = some jj)
    (kk : Bs K G rest (S2.set n (s2.put (.lst (es2.set jj (.int (f m v)))))) o) : Bs K G (tSeq (tAugS (tVar n) ti te (rIxL K) (ipI f) rSetL) rest) S o := fun σ Hf H E hso q => by
  obtain ⟨p0, c0, e1, _, _⟩ := (hso.val n s hs).mine_at hm
  refine ⟨.ref p0, e1, hi σ Hf H hso _ fun v Hn H2 e s3 dv => ?_⟩
  obtain ⟨p, vs, f1, f2, f3, m1⟩ := own_lst s3 h1 hc1
  rw [e1] at f1; cases f1
  cases dv
  obtain ⟨w, g1, g2⟩ := atI_dq f3 hget
  cases g2
  refine ⟨p0, vs, k, .int m, rfl, rfl, SqL.of f2, g1, h σ Hn H2 s3 _ fun u Hm H3 e2 s4 du => ?_⟩
  cases du
  obtain ⟨p', vs', k1, k2, k3, m2⟩ := own_lst s4 h2 hc2
  rw [e1] at k1; cases k1
  have hlen : vs'.length = es2.length := dpa_len k3
  refine ⟨m, _, rfl, rfl, p0, vs', k, jj, rfl, rfl, k2, by rw [hlen]; exact hj, kk σ Hm _ E ?_ (q.mono (e.trans e2))⟩
  refine s4.lput h2 m2 e1 ?_
  exact dpa_set jj k3 (.int _)

/-! ### comprehensions whose test or element draws -/
theorem cmpM_keep {α β τ : Type} (p : α → τ → Option (Bool × τ)) (g : α → Option β) (a : α) (s : τ) :
    ((p a s).bind fun q => if q.1 = true then (g a).map fun b => (some b, q.2) else some (none, q.2)) = ((p a s).bind fun q => if q.1 = true then (g a).map fun b => (some b, q.2) else some (none, q.2)) := rfl
def cmpS {α β τ : Type} (p : α → τ → Option (Bool × τ)) (g : α → τ → Option (β × τ)) : List α → τ → Option (List β × τ) := cmpM fun a s => (p a s).bind fun q => if q.1 = true then (g a q.2).map fun b => (some b.1, b.2) else some (none, q.2)
theorem evn_cmpS {ti : TI} {g : TG} {vs us : List Nat} {xs : List α} {ys : List β} {p : α → τ → Option (Bool × τ)} {f : α → τ → Option (β × τ)} {s0 s1 : τ} {Sw : τ → List VS} {Sa : α → τ → List VS} (hr : cmpS p f xs s0 = some (ys, s1)) (hl : xs.length ≤ 1000000) (hsrc : Src K G ti S (xs.map enc) S1)
    (hw : wipeS S1 vs = Sw s0)
    (hg : ∀ a s G', a ∈ xs → Tg K G' g us (Sw s) (enc a) (Sa a s))
    (ht : ∀ a s b s' G', a ∈ xs → p a s = some (b, s') → EvB K G' tt (Sa a s) b (Sa a s')) (he : ∀ a s s1 b s' G', a ∈ xs → p a s = some (true, s1) → f a s1 = some (b, s') → Ev K G' te (Sa a s1) (enc b) (Sa a s'))
    (hsa : ∀ a s, wipeS (Sa a s) vs = Sw s := by intro _ _; rfl) (hm : stillB S1 vs = true := by rfl) (hu : subB us vs = true := by rfl) (hx : mixS S1 (Sw s1) vs = S2 := by rfl) : EvN K G (tLc ti g tt te vs) S (lst ys) S2 := by
  subst hx
  refine evn_lcM (en := enc) (eb := enc) hsrc hw (still_of hm) hr hl fun a s o s' ha hf G' => ?_
  obtain ⟨⟨b, q2⟩, hq, hf⟩ := bnd hf
  cases b with
  | true =>
    rw [if_pos rfl] at hf
    cases hg2 : f a q2 with
    | none => rw [hg2] at hf; cases hf
    | some w =>
      rw [hg2] at hf; cases hf
      have q := lcb_keep (K := K) (hg a s G' ha) (ht a s true q2 G' ha hq) (he a s q2 w.1 w.2 G' ha hq hg2) (sub_of hu)
      rw [hsa] at q; exact q
  | false =>
    rw [if_neg Bool.false_ne_true] at hf; cases hf
    have q := lcb_drop (K := K) (te := te) (hg a s G' ha) (ht a s false q2 G' ha hq) (sub_of hu)
    rw [hsa] at q; exact q
end

/-! ## the feed -/
structure Fd where
  xs : List Int
  i : Nat
  a : Nat
  b : Nat
  hb : b < 2147483648
def fdC (F : Fd) : Cn := .lst [.list (F.xs.map .int), .int F.i, .int F.a, .int F.b]
def emod (x : Int) (m : Nat) : Nat := (x % (m : Int)).toNat
theorem emod_lt {x : Int} {m : Nat} (h : 0 < m) : emod x m < m := by
  unfold emod
  have h1 := Int.emod_nonneg x (show (m : Int) ≠ 0 by omega)
  have h2 := Int.emod_lt_of_pos x (show (0 : Int) < m by omega)
  omega
theorem emod_eq {x : Int} {m : Nat} (h : 0 < m) : (emod x m : Int) = x % (m : Int) := by
  unfold emod
  have h1 := Int.emod_nonneg x (show (m : Int) ≠ 0 by omega)
  omega
def take1 (F : Fd) : Fd :=
  if F.a = 0 then match F.xs[F.i]? with
    | some z => if 10 ^ 18 ≤ z.natAbs then { F with i := F.i + 1, a := z.natAbs } else { F with i := F.i + 1, b := emod (F.b * 48271 + z.natAbs * 69621 + (F.i + 1 : Nat)) 2147483647, hb := Nat.lt_succ_of_lt (emod_lt (by decide)) }
    | none => F
  else F
def take2 (F : Fd) (many : Nat) : Int × Fd :=
  if 0 < F.a then (((F.a % many : Nat) : Int), { F with a := F.a / many })
  else
    let b' := emod (F.b * 16807 + 12345) 2147483647
    (((emod (b' * b' + b') 2147483629 / 11 % many : Nat) : Int), { F with b := b', hb := Nat.lt_succ_of_lt (emod_lt (by decide)) })
def m_draw (F : Fd) (many : Int) : Option (Int × Fd) := if 0 < many ∧ many < 1073741824 then some (take2 (take1 F) many.toNat) else none
def R_draw (ds : List D) (c : Cn) (es : List D) (r : RK) (c' : Cn) : Prop := ∃ (F F' : Fd) (many told : Int), ds = [] ∧ c = fdC F ∧ es = [.int many] ∧ m_draw F many = some (told, F') ∧ r = .val (.int told) ∧ c' = fdC F'
theorem draw_lt {F F' : Fd} {m t : Int} (h : m_draw F m = some (t, F')) : 0 ≤ t ∧ t < m := by
  unfold m_draw at h
  split at h
  · rename_i c
    have hm : (0 : Int) < m.toNat := by omega
    have e := Option.some.inj h
    unfold take2 at e
    split at e
    · have e1 := congrArg Prod.fst e
      dsimp only at e1
      have : (take1 F).a % m.toNat < m.toNat := Nat.mod_lt _ (by omega)
      omega
    · have e1 := congrArg Prod.fst e
      dsimp only at e1
      have : emod (((emod ((take1 F).b * 16807 + 12345) 2147483647 : Nat) : Int) * (emod ((take1 F).b * 16807 + 12345) 2147483647 : Nat) + (emod ((take1 F).b * 16807 + 12345) 2147483647 : Nat)) 2147483629 / 11 % m.toNat < m.toNat := Nat.mod_lt _ (by omega)
      omega
  · cases h
theorem draw_ok (F : Fd) {m : Int} (h : 0 < m) (h2 : m < 1073741824) : ∃ t F', m_draw F m = some (t, F') ∧ 0 ≤ t ∧ t < m := by
  have e : ∃ t F', m_draw F m = some (t, F') := by unfold m_draw; rw [if_pos ⟨h, h2⟩]; exact ⟨_, _, rfl⟩
  obtain ⟨t, F', e⟩ := e
  exact ⟨t, F', e, draw_lt e⟩
end MM

set_option Elab.async false
set_option linter.all false
set_option maxRecDepth 100000
set_option maxHeartbeats 4000000
set_option autoImplicit false
namespace MM
open PySem PySem.Spec PyProof.Rows L2

theorem u65 {A : Around} {k : Nat} (h : Room k A) : A.units + 65 < cLine := by have := h.un; omega
/-- xs[k] op= e reads xs[k] -/
theorem pget_list {X : Cx} : PGet X (rIxL X.K) := by
  intro pins s σ H x y v u Q I rx ry h
  obtain ⟨p, xs, i, z, rfl, rfl, hq, he, q⟩ := h
  cases rx
  obtain ⟨t, rfl⟩ := ry
  obtain ⟨its, r, pl, hz⟩ := I.list hq
  obtain ⟨j, h1, h2, h3, h4, h5⟩ := atI_get he
  obtain ⟨w, ew, hw⟩ := r.get h2
  have hlen := r.length
  have hbig := line63
  have done : EP X pins σ Q w s := ⟨z, H, I, hw, q⟩
  by_cases h0 : 0 ≤ i
  · have hj : i.toNat = j := by rw [seqIndex_of h0 h5] at h1; exact Option.some.inj h1
    exact wpAny_getItem_list pl.isList h0 (by omega) (by rw [hj]; simpa using ew) done
  · have hj : (i + (its.toArray.size : Int)).toNat = j := by
      rw [seqIndex_neg (by omega) h4] at h1
      rw [List.size_toArray, ← hlen]; exact Option.some.inj h1
    exact wpAny_getItem_list_neg pl.isList (by omega) (by rw [List.size_toArray] <;> omega) (by omega) (by rw [hj]; simpa using ew) done

/-! ## rules with the written part named (for what stands within a comprehension) -/
section
variable {X : Cx} {K : PySem.W.Frag} {e e2 : Expr} {es : List Expr} {te : TE} {ta : TA}
theorem kx_ix_list (hK : X.K = K := by rfl) : IxR X (rIxL K) := hK ▸ ix_list
theorem kx_ix_tup (hK : X.K = K := by rfl) : IxR X (rIxT K) := hK ▸ ix_tup
theorem kx_op_eqD (hu : X.A.units + 64 < cLine) (hK : X.K = K := by rfl) : OpR X (compareOp .Eq) (rEqD K) := hK ▸ op_eqD hu
theorem kx_op_neD (hu : X.A.units + 64 < cLine) (hK : X.K = K := by rfl) : OpR X (compareOp .NotEq) (rNeD K) := hK ▸ op_neD hu
theorem kx_op_inD (hu : X.A.units + 65 < cLine) (hK : X.K = K := by rfl) : OpR X (compareOp .In) (rInD K) := hK ▸ op_inD hu
theorem kx_op_notInD (hu : X.A.units + 65 < cLine) (hK : X.K = K := by rfl) : OpR X (compareOp .NotIn) (rNotInD K) := hK ▸ op_notInD hu
theorem kx_op_in_seq (hK : X.K = K := by rfl) : OpR X (compareOp .In) (rIn K false) := hK ▸ op_in_seq
theorem kx_op_notIn_seq (hK : X.K = K := by rfl) : OpR X (compareOp .NotIn) (rIn K true) := hK ▸ op_notIn_seq
theorem kx_call_len_seq (hK : X.K = K := by rfl) : CallR X (.builtin "len") (rLenS K) := hK ▸ call_len_seq
theorem kx_call_list_of (hK : X.K = K := by rfl) : CallR X (.type "list") (rListS K) := hK ▸ call_list_of
theorem kx_call_isi (hK : X.K = K := by rfl) : CallR X (.builtin "isinstance") (rIsi K) := hK ▸ call_isi
theorem kx_cr_sum (hc : X.calm = true) (hK : X.K = K := by rfl) : CallR X (.builtin "sum") (rSum K) := hK ▸ cr_sum hc
theorem kx_cr_any (hc : X.calm = true) (hK : X.K = K := by rfl) : CallR X (.builtin "any") (rAny K) := hK ▸ cr_any hc
theorem kx_cr_all (hc : X.calm = true) (hK : X.K = K := by rfl) : CallR X (.builtin "all") (rAll K) := hK ▸ cr_all hc
theorem kx_cr_max (hc : X.calm = true) (hK : X.K = K := by rfl) : CallR X (.builtin "max") (rMax K) := hK ▸ cr_max hc
theorem kx_cr_min (hc : X.calm = true) (hK : X.K = K := by rfl) : CallR X (.builtin "min") (rMin K) := hK ▸ cr_min hc
theorem kx_cr_sortedI (hK : X.K = K := by rfl) : CallR X (.builtin "sorted") (rSortedI K) := hK ▸ cr_sortedI
theorem kx_cr_sortedPO (hK : X.K = K := by rfl) : CallR X (.builtin "sorted") (rSortedPO K) := hK ▸ cr_sortedPO
theorem kx_sl_list (hK : X.K = K := by rfl) : SlR X (rSlL K) := hK ▸ sl_list
theorem kx_mt_lcount (hK : X.K = K := by rfl) : MtR X "list.count" (rCntI K) := hK ▸ mt_lcount
theorem kx_mt_indexD (hu : X.A.units + 65 < cLine) (hK : X.K = K := by rfl) : MtR X "list.index" (rIndexD K) := hK ▸ mt_indexD hu
theorem kx_pget_list (hK : X.K = K := by rfl) : PGet X (rIxL K) := hK ▸ pget_list
theorem kx_pi_list {tg : Expr} (h : PE X e te) (hK : X.K = K := by rfl) : PI X tg e (iList K te) := hK ▸ pi_list h
theorem kx_pi_tup {tg : Expr} (h : PE X e te) (hK : X.K = K := by rfl) : PI X tg e (iTup K te) := hK ▸ pi_tup h
theorem kx_pi_enum {p pos tpos : Pos} {elts : List Expr} {kk : Nat} (hg : Gl X "enumerate") (hm : X.mg "enumerate" = none) (ha : PA X [e] ta) (hs : starEach [e] X.env = [(false, eval e X.env)] := by rfl) (hK : X.K = K := by rfl) : PI X (.Tuple elts kk tpos) (.Call (.Name "enumerate" p) [e] [] pos) (iEnum K ta) := hK ▸ pi_enum hg hm ha hs
theorem kx_pi_zip {p pos tpos : Pos} {elts : List Expr} {kk : Nat} (hg : Gl X "zip") (hm : X.mg "zip" = none) (ha : PA X [e, e2] ta) (hs : starEach [e, e2] X.env = (false, eval e X.env) :: starEach [e2] X.env := by rfl) (hpl : (backTo pos (starEach [e2] X.env)).any (·.1) = false := by rfl) (hK : X.K = K := by rfl) : PI X (.Tuple elts kk tpos) (.Call (.Name "zip" p) [e, e2] [] pos) (iZip K ta) := hK ▸ pi_zip hg hm ha hs hpl
theorem kx_pe_revL {k : Nat} {p1 p2 p3 pos : Pos} (he : PE X e te) (hK : X.K = K := by rfl) : PE X (.Subscript e (.Slice none none (some (.UnaryOp .USub (.Constant (.int 1) k p1) p2)) p3) pos) (tRevL K te) := hK ▸ pe_revL he
theorem kx_pe_slice3 {lo hi : Option Expr} {st : Expr} {tl th ts : TO} {pos p2 : Pos} (he : PE X e te) (hl : PO X lo tl) (hu : PO X hi th) (hst : PO X (some st) ts) (hK : X.K = K := by rfl) : PE X (.Subscript e (.Slice lo hi (some st) p2) pos) (tSl3 K te tl th ts) := hK ▸ pe_slice3 he hl hu hst
theorem kx_pg_tup {k n : Nat} {pos : Pos} {t : TGs} (hc : X.calm = true) (h : PGs X es t) (hn : (assignEach es X.env).length = n := by rfl) (hst : (assignEach es X.env).findIdx? (·.1) = none := by rfl) (hK : X.K = K := by rfl) : PG X (.Tuple es k pos) (gTup K n t) := hK ▸ pg_tup hc h hn hst
theorem kx_pt_truth {a : Expr} (ha : PE X a te) (he : ∀ whole, isTrue a X.env whole = (do let v ← whole; standAt a.pos; holding [v] (truthy v))) (hK : X.K = K := by rfl) : PT X a (fun σ H Q => te σ H fun x H' => ∃ k, TruV K x H' k ∧ Q k H') := hK ▸ pt_truth ha he
theorem kx_pe_bm {o : Expr} {name id T : String} {apos cpos : Pos} {r : V → List V → Hp → VK → Prop} {to : TE} {t : TA} (pa : PlainAttrs T) (slot : Slot T name id) (hty : typeOf (.builtin id) = pure (.type "method_descriptor")) (hm : MtR X id r) (ho : PE X o to) (ha : PA X (e :: es) t)
    (hbase : attributeBase o name X.env (eval o X.env) = eval o X.env := by rfl)
    (hfew : ((backTo cpos (starEach (e :: es) X.env)).all (fun x => !x.1) && (backToKw cpos (keywordEach [] X.env)).all (fun x => x.1.isSome) && decide ((e :: es).length + ([] : List Keyword).length + (if ([] : List Keyword).isEmpty then 0 else 1) < 30)) = true := by rfl)
    (hline : (apos.endLine == cpos.line) = true := by rfl) (hs : starEach (e :: es) X.env = (false, eval e X.env) :: starEach es X.env := by rfl) (hplain : (backTo cpos (starEach es X.env)).any (·.1) = false := by rfl) (hK : X.K = K := by rfl) :
    PE X (.Call (.Attribute o name apos) (e :: es) [] cpos) (tBM K T r to t) := hK ▸ pe_bm pa slot hty hm ho ha hbase hfew hline hs hplain
theorem kx_pe_bm0 {o : Expr} {name id T : String} {apos cpos : Pos} {r : V → List V → Hp → VK → Prop} {to : TE} (pa : PlainAttrs T) (slot : Slot T name id) (hty : typeOf (.builtin id) = pure (.type "method_descriptor")) (hm : MtR X id r) (ho : PE X o to)
    (hbase : attributeBase o name X.env (eval o X.env) = eval o X.env := by rfl) (hline : (apos.endLine == cpos.line) = true := by rfl) (hK : X.K = K := by rfl) : PE X (.Call (.Attribute o name apos) [] [] cpos) (tBM0 K T r to) := hK ▸ pe_bm0 pa slot hty hm ho hbase hline
theorem kx_ty {T : String} {x : Str} {pos : Pos} (hg : Gl X x) (hm : X.mg x = none) (hv : bootBuiltins x = some (.type T)) (hn : x ≠ "__name__" := by decide) (hd : (x == ("__debug__" : Str)) = false := by decide) : PE X (.Name x pos) (tC (.ty T)) := pe_bltn hg hm hv rfl hn hd
end

section
variable {K : PySem.W.Frag} {G : Ent} {te ta tb tc : TE} {tt tu : TT} {S S0 S1 S2 S3 S4 : List VS} {d x y z : D} {ds : List D} {c : Cn} {b b1 b2 : Bool} {r : RK} {Hf Hn H : Hp} {i j k : Int} {rest t : TS} {o : Out} {α β γ τ : Type} [Enc α] [Enc β] [Enc γ]

theorem ov_lt : OpV K (rI0 fun i j => .bl (decide (i < j))) (.int i) (.int j) (.bool (decide (i < j))) := ov_I0 fun _ => .bl _
theorem ov_le : OpV K (rI0 fun i j => .bl (decide (i ≤ j))) (.int i) (.int j) (.bool (decide (i ≤ j))) := ov_I0 fun _ => .bl _
theorem ov_gt : OpV K (rI0 fun i j => .bl (decide (j < i))) (.int i) (.int j) (.bool (decide (j < i))) := ov_I0 fun _ => .bl _
theorem ov_ge : OpV K (rI0 fun i j => .bl (decide (j ≤ i))) (.int i) (.int j) (.bool (decide (j ≤ i))) := ov_I0 fun _ => .bl _
theorem ev_mulT {m : Int} (h : mulO i j = some m) (ha : Ev K G ta S (.int i) S1) (hb : Ev K G tb S1 (.int j) S2) : Ev K G (tOp (rI CMul fun i j => .int (i * j)) ta tb) S (.int m) S2 := by
  obtain ⟨rfl, hc⟩ := mulO_of h; exact ev_mul hc ha hb
theorem ev_divT {m : Int} (h : divO i j = some m) (ha : Ev K G ta S (.int i) S1) (hb : Ev K G tb S1 (.int j) S2) : Ev K G (tOp (rI CDiv fun i j => .int (i / j)) ta tb) S (.int m) S2 := by
  obtain ⟨rfl, hc⟩ := divO_of h; exact ev_fdiv hc ha hb
theorem ev_modT {m : Int} (h : modO i j = some m) (ha : Ev K G ta S (.int i) S1) (hb : Ev K G tb S1 (.int j) S2) : Ev K G (tOp (rI (fun _ j => 0 < j) fun i j => .int (i % j)) ta tb) S (.int m) S2 := by
  obtain ⟨rfl, hc⟩ := modO_of h; exact ev_mod hc ha hb
def shlO (i j : Int) : Option Int := if 0 ≤ j ∧ j ≤ 1000000 ∧ i.natAbs < 2 ^ 64 then some (i * 2 ^ j.toNat) else none
def shrO (i j : Int) : Option Int := if 0 ≤ j then some (i / 2 ^ j.toNat) else none
theorem ev_shlT {m : Int} (h : shlO i j = some m) (ha : Ev K G ta S (.int i) S1) (hb : Ev K G tb S1 (.int j) S2) : Ev K G (tOp (rI CPow fun i j => .int (i * 2 ^ j.toNat)) ta tb) S (.int m) S2 := by
  unfold shlO at h
  split at h
  · cases h; rename_i c; exact ev_shl c ha hb
  · cases h
theorem ev_shrT {m : Int} (h : shrO i j = some m) (ha : Ev K G ta S (.int i) S1) (hb : Ev K G tb S1 (.int j) S2) : Ev K G (tOp (rI (fun _ j => 0 ≤ j) fun i j => .int (i / 2 ^ j.toNat)) ta tb) S (.int m) S2 := by
  unfold shrO at h
  split at h
  · cases h; rename_i c; exact ev_shr c ha hb
  · cases h
theorem isNone_opt [NotN α] (o : Option α) : isNone (enc o) = !o.isSome := by
  cases o with
  | none => rfl
  | some a => exact NotN.nn a
theorem ev_isNT [NotN α] {a : Option α} (ha : Ev K G ta S (enc a) S1) : Ev K G (tOp (fun x y H Q => y = .non ∧ Q (.bl (decide (x = .non))) H) ta (tC .non)) S (.bool (!a.isSome)) S1 := by
  have q := ev_isN ha; rw [isNone_opt] at q; exact q
theorem ev_notNT [NotN α] {a : Option α} (ha : Ev K G ta S (enc a) S1) : Ev K G (tOp (fun x y H Q => y = .non ∧ Q (.bl (!decide (x = .non))) H) ta (tC .non)) S (.bool a.isSome) S1 := by
  have q := ev_notN ha; rw [isNone_opt, Bool.not_not] at q; exact q
theorem ev_isNK (ha : Ev K G ta S d S1) (e : isNone d = b) : Ev K G (tOp (fun x y H Q => y = .non ∧ Q (.bl (decide (x = .non))) H) ta (tC .non)) S (.bool b) S1 := e ▸ ev_isN ha
theorem ev_notNK (ha : Ev K G ta S d S1) (e : (!isNone d) = b) : Ev K G (tOp (fun x y H Q => y = .non ∧ Q (.bl (!decide (x = .non))) H) ta (tC .non)) S (.bool b) S1 := e ▸ ev_notN ha
theorem isEmpty_map {α β : Type} (f : α → β) (xs : List α) : (xs.map f).isEmpty = xs.isEmpty := by cases xs <;> rfl
theorem eb_truL {xs : List α} (h : Ev K G te S (enc xs) S1) : EvB K G (fun σ H Q => te σ H fun x H' => ∃ k, TruV K x H' k ∧ Q k H') S (!xs.isEmpty) S1 := by
  have q := eb_tru h rfl
  have e : truD (enc xs) = !xs.isEmpty := by show (!(xs.map enc).isEmpty) = _; rw [isEmpty_map]
  rw [e] at q; exact q
theorem eb_truI (h : Ev K G te S (.int i) S1) : EvB K G (fun σ H Q => te σ H fun x H' => ∃ k, TruV K x H' k ∧ Q k H') S (i != 0) S1 := eb_tru h rfl
theorem evn_lstT {xs : List α} {t : TA} (h : EvA K G t S ds S1) (e : ds = xs.map enc) (hl : Nat.ble ds.length 1000000 = true := by rfl) : EvN K G (tLst t) S (lst xs) S1 := by
  subst e; exact evn_lst h hl
/-! ### enumerate, zip -/
def enumO (xs : List α) : Option (List (Int × α)) := if xs.length ≤ 1000000 then some (xs.zipIdx.map fun p => ((p.2 : Int), p.1)) else none
theorem enumO_of {xs : List α} {ys : List (Int × α)} (h : enumO xs = some ys) : ys = xs.zipIdx.map (fun p => ((p.2 : Int), p.1)) ∧ xs.length ≤ 1000000 := by
  unfold enumO at h
  split at h
  · cases h; exact ⟨rfl, by assumption⟩
  · cases h
theorem enumO_len {xs : List α} {ys : List (Int × α)} (h : enumO xs = some ys) : ys.length ≤ 1000000 := by
  obtain ⟨rfl, q⟩ := enumO_of h; simpa using q
def zipO (xs : List α) (ys : List β) : Option (List (α × β)) := if xs.length ≤ 1000000 ∧ ys.length = xs.length then some (xs.zip ys) else none
theorem zipO_of {xs : List α} {ys : List β} {zs : List (α × β)} (h : zipO xs ys = some zs) : zs = xs.zip ys ∧ xs.length ≤ 1000000 ∧ ys.length = xs.length := by
  unfold zipO at h
  split at h
  · cases h; exact ⟨rfl, by assumption⟩
  · cases h
theorem zipO_len {xs : List α} {ys : List β} {zs : List (α × β)} (h : zipO xs ys = some zs) : zs.length ≤ 1000000 := by
  obtain ⟨rfl, q, e⟩ := zipO_of h; rw [List.length_zip]; omega
theorem wk_enum {p : Addr} {xs : List V} {as : List α} (h : Hf p = some (.lst xs)) (t : DqAll K Hf xs (as.map enc)) : Wk K (Ite K p) Hf ((as.zipIdx.map fun q => ((q.2 : Int), q.1)).map enc) where
  go := fun i Hn H e e2 hi => by
    have hi2 : i < (as.map (enc : α → D)).length := by simpa using hi
    obtain ⟨v, h1, _⟩ := dpa_get' t (List.getElem?_eq_getElem hi2)
    exact ⟨xs, v, SqL.of (e2 _ _ (e _ _ h)), h1⟩
  stop := fun Hn H e e2 => ⟨xs, SqL.of (e2 _ _ (e _ _ h)), by rw [dpa_len t]; simp⟩
  yld := fun i Hn H x H' e e2 hi hy => by
    obtain ⟨T, z, rfl, hT, rfl, hx⟩ := hy
    have hx := hx xs (SqL.of (e2 _ _ (e _ _ h)))
    obtain ⟨d, h1, h2⟩ := dpa_get t hx
    have g := Gw.new (o := .tup [.int (i : Nat), z]) e2 hT
    have hi2 : i < as.length := by simpa using hi
    rw [List.getElem?_map, List.getElem?_eq_getElem hi2] at h1
    have hd : enc as[i] = d := Option.some.inj h1
    refine ⟨_, .tuple [.int (i : Nat), d], g, ?_, .tup upd_same (.cons (.int _) (.cons (dp_mono g.a _ _ (dp_mono e _ _ h2)) .nil))⟩
    subst hd
    simp [hi2, enc, Enc.enc]
theorem src_enum {xs : List α} {ys : List (Int × α)} (hy : enumO xs = some ys) (h : Ev K G te S (enc xs) S1) : Src K G (iEnum K (tCons te tNil)) S (ys.map enc) S1 := fun σ Hf H hs R q => by
  obtain ⟨rfl, hl⟩ := enumO_of hy
  refine ea_cons h ea_nil σ Hf H hs _ fun vs Hn H2 e s dv => ?_
  obtain ⟨v, rfl, a⟩ := dqa_one dv
  cases a with
  | lst hh t => exact ⟨_, _, rfl, SqL.of (s.ex _ _ hh), q _ Hn H2 e s (wk_enum hh t)⟩
theorem wk_zip {p p2 : Addr} {xs ys : List V} {as : List α} {bs : List β} (hl : bs.length = as.length) (h : Hf p = some (.lst xs)) (t : DqAll K Hf xs (as.map enc)) (h2 : Hf p2 = some (.lst ys)) (t2 : DqAll K Hf ys (bs.map enc)) : Wk K (Itz K p p2) Hf ((as.zip bs).map enc) where
  go := fun i Hn H e e2 hi => by
    have hi1 : i < (as.map (enc : α → D)).length := by simp at hi ⊢; omega
    have hi2 : i < (bs.map (enc : β → D)).length := by simp at hi ⊢; omega
    obtain ⟨v, g1, _⟩ := dpa_get' t (List.getElem?_eq_getElem hi1)
    obtain ⟨u, g2, _⟩ := dpa_get' t2 (List.getElem?_eq_getElem hi2)
    exact ⟨xs, ys, v, u, SqL.of (e2 _ _ (e _ _ h)), SqL.of (e2 _ _ (e _ _ h2)), g1, g2⟩
  stop := fun Hn H e e2 => ⟨xs, ys, SqL.of (e2 _ _ (e _ _ h)), SqL.of (e2 _ _ (e _ _ h2)), .inl (by rw [dpa_len t]; simp; omega)⟩
  yld := fun i Hn H x H' e e2 hi hy => by
    obtain ⟨T, z, u, rfl, hT, rfl, hx, hy⟩ := hy
    have hx := hx xs (SqL.of (e2 _ _ (e _ _ h)))
    have hy := hy ys (SqL.of (e2 _ _ (e _ _ h2)))
    obtain ⟨d, g1, g2⟩ := dpa_get t hx
    obtain ⟨d2, g3, g4⟩ := dpa_get t2 hy
    have g := Gw.new (o := .tup [z, u]) e2 hT
    have hi1 : i < as.length := by simp at hi; omega
    have hi2 : i < bs.length := by simp at hi; omega
    rw [List.getElem?_map, List.getElem?_eq_getElem hi1] at g1
    rw [List.getElem?_map, List.getElem?_eq_getElem hi2] at g3
    have hd : enc as[i] = d := Option.some.inj g1
    have hd2 : enc bs[i] = d2 := Option.some.inj g3
    refine ⟨_, .tuple [d, d2], g, ?_, .tup upd_same (.cons (dp_mono g.a _ _ (dp_mono e _ _ g2)) (.cons (dp_mono g.a _ _ (dp_mono e _ _ g4)) .nil))⟩
    subst hd; subst hd2
    rw [List.getElem?_map, List.getElem?_eq_getElem (by rw [List.length_zip]; omega), List.getElem_zip]
    rfl
theorem src_zip {xs : List α} {ys : List β} {zs : List (α × β)} (hz : zipO xs ys = some zs) (h : Ev K G ta S (enc xs) S1) (h2 : Ev K G tb S1 (enc ys) S2) : Src K G (iZip K (tCons ta (tCons tb tNil))) S (zs.map enc) S2 := fun σ Hf H hs R q => by
  obtain ⟨rfl, hl, he⟩ := zipO_of hz
  refine ea_cons h (ea_cons h2 ea_nil) σ Hf H hs _ fun vs Hn H2 e s dv => ?_
  obtain ⟨v, w, rfl, a, a2⟩ := dqa_two dv
  cases a with
  | lst hh t => cases a2 with
    | lst hh2 t2 => exact ⟨_, _, _, _, rfl, SqL.of (s.ex _ _ hh), SqL.of (s.ex _ _ hh2), q _ Hn H2 e s (wk_zip he hh t hh2 t2)⟩
/-! ### max, min, index -/
theorem ev_maxLT {ns : List Int} {m : Int} (hm : maxL ns = some m) (ha : Ev K G ta S (enc ns) S1) : Ev K G (tCB (rMax K) (tCons ta tNil)) S (.int m) S1 := ev_maxL hm ha
theorem ev_minLT {ns : List Int} {m : Int} (hm : minL ns = some m) (ha : Ev K G ta S (enc ns) S1) : Ev K G (tCB (rMin K) (tCons ta tNil)) S (.int m) S1 := ev_minL hm ha
def idxO [DecidableEq α] (xs : List α) (a : α) : Option Int := (xs.findIdx? fun z => decide (z = a)).map fun n => (n : Int)
theorem ev_idxT [DecidableEq α] [Shp α] [LEq α] {xs : List α} {a : α} {m : Int} (hm : idxO xs a = some m) (ha : Ev K G ta S (enc xs) S1) (hb : Ev K G tb S1 (enc a) S2) (h : Nat.ble (Shp.dep α) 60 = true := by rfl) :
    Ev K G (tBM K "list" (rIndexD K) ta (tCons tb tNil)) S (.int m) S2 := fun σ Hf H hs Q q =>
  ha σ Hf H hs _ fun v Hn H2 e s dv => by
    have hdep := Nat.le_of_ble_eq_true h
    have dv0 := dv
    cases dv with
    | lst hh t =>
      refine ⟨Or.inl ⟨rfl, _, SqL.of (s.ex _ _ hh)⟩, hb σ Hn H2 s _ fun w Hm H3 e2 s2 dw => ?_⟩
      unfold idxO at hm
      cases hf : xs.findIdx? fun z => decide (z = a) with
      | none => rw [hf] at hm; cases hm
      | some n =>
        rw [hf] at hm; cases hm
        obtain ⟨hn, h1, h2⟩ := List.findIdx?_eq_some_iff_getElem.mp hf
        refine ⟨_, w, enc a, xs.map enc, n, enc xs[n], rfl, rfl, dq_dp _ _ (dp_mono (e2.trans s2.ex) _ _ dv0), dq_dp _ _ (dp_mono s2.ex _ _ dw), shp_ok xs (Nat.ble_eq_true_of_le (show Shp.dep α + 1 ≤ 64 by omega)), shp_ok a (Nat.ble_eq_true_of_le (by omega)), ?_, ?_, fun m z' hm hz => ?_, q _ Hm H3 (e.trans e2) s2 (.int _)⟩
        · rw [List.getElem?_map, List.getElem?_eq_getElem hn]; rfl
        · rw [LEq.eq]; exact h1
        · have hml : m < xs.length := by omega
          rw [List.getElem?_map, List.getElem?_eq_getElem hml] at hz
          have hz := Option.some.inj hz
          subst hz
          rw [LEq.eq]
          have := h2 m hm
          simpa using this
theorem tg_tup3 {g1 g2 g3 : TG} {vs1 vs2 vs3 : List Nat} (h1 : Tg K G g1 vs1 S x S1) (h2 : Tg K G g2 vs2 S1 y S2) (h3 : Tg K G g3 vs3 S2 z S3) : Tg K G (gTup K 3 (gCons g1 (gCons g2 (gCons g3 gNil)))) (vs1 ++ (vs2 ++ vs3)) S (.tuple [x, y, z]) S3 := fun σ Hf H v hs dv Q q => by
  cases dv with
  | tup hh t =>
    cases t with
    | cons a t => cases t with
      | cons b t => cases t with
        | cons c t =>
          cases t
          refine ⟨_, _, rfl, SqT.of (hs.ex _ _ hh), rfl, _, _, rfl, h1 σ Hf H _ hs a _ fun σ2 s2 k2 l2 => ⟨_, _, rfl, h2 σ2 Hf H _ s2 b _ fun σ3 s3 k3 l3 => ⟨_, _, rfl, h3 σ3 Hf H _ s3 c _ fun σ4 s4 k4 l4 => ⟨rfl, q σ4 s4 (fun i hi => ?_) (l4.trans (l3.trans l2))⟩⟩⟩⟩
          rw [k4 i (fun z => hi (List.mem_append_right _ (List.mem_append_right _ z))), k3 i (fun z => hi (List.mem_append_right _ (List.mem_append_left _ z))), k2 i (fun z => hi (List.mem_append_left _ z))]
theorem q_augT {n : Nat} {f : Int → Int → Int} {m v w : Int} (hw : some (f m v) = some w) (hx : S[n]? = some (.val (.int m))) (h : Ev K G te S (.int v) S1) (k : Bs K G rest (S1.set n (.val (.int w))) o) (hi : Nat.blt n S1.length = true := by rfl) : Bs K G (tSeq (tAug n te (ipI f)) rest) S o := by
  cases hw; exact q_aug hx h k hi
/-- told[k].append(e), told let go -/
theorem q_appShell {n k : Nat} {cs : List (D ⊕ Cn)} {te : TE} {xs : List α} {u : Unit} (hu : lenO xs = some u) (hx : S[n]? = some (.shell cs)) (hk : cs[k]? = some (.inr (lst xs))) (h : ∀ G', Ev K G' te (S.set n .any) d (S.set n .any)) (ha : atomD d = true)
    (kk2 : Bs K G rest (S.set n .any) o) : Bs K G (tSeq (tDrop (tBM K "list" rAppend (tOp (rIxT K) (tVar n) (tC (.int (k : Nat)))) (tCons te tNil))) rest) S o :=
  bs_appShell hx hk (by simpa using lenO_of hu) (fun σ H t vs p e1 e2 e3 Q q => ⟨.ref t, e1, t, vs, (k : Nat), .ref p, rfl, rfl, SqT.of e2, by
    have hlt : k < vs.length := (List.getElem?_eq_some_iff.mp e3).1
    unfold atI ixN
    rw [if_pos (Int.natCast_nonneg k)]
    rw [if_pos (by omega)]
    simpa using e3, q⟩) h ha kk2
theorem EvN.toD {xs ys : List (Int × α)} (h : EvN K G te S (dct xs) S1) (e : some xs = some ys) : EvN K G te S (dct ys) S1 := by cases e; exact h
theorem ev_call1T {k i : Nat} {R : List D → Cn → List D → RK → Cn → Prop} {ts : TA} {E : XK} {pre post : List D} {s1 : VS} {c' : Cn} (ha : EvA1 K G ts S pre i post S1) (hx : S1[i]? = some s1) (hc : s1.cn = some c) (hR : R pre c post (.val d) c') (hk : pre.length = k) (e : S1.set i (s1.put c') = S2) :
    Ev K G (tCall (sp1 K k R) [] E ts) S d S2 := e ▸ ev_call1 ha hx hc hR hk
theorem evn_call1T {k i : Nat} {R : List D → Cn → List D → RK → Cn → Prop} {ts : TA} {E : XK} {pre post : List D} {s1 : VS} {c' c2 : Cn} (ha : EvA1 K G ts S pre i post S1) (hx : S1[i]? = some s1) (hc : s1.cn = some c) (hR : R pre c post (.new c2) c') (hk : pre.length = k) (e : S1.set i (s1.put c') = S2) :
    EvN K G (tCall (sp1 K k R) [] E ts) S c2 S2 := e ▸ evn_call1 ha hx hc hR hk
theorem bs_nil' {vs : List Nat} (e : wipeS S vs = S1) : Bs K G tNext S (.nx S1) := q_nil e
abbrev D.int' : Int → D := PyData.int
theorem cmulR {i j : Int} (h : -(2 ^ 64) < j ∧ j < 2 ^ 64) : CMul i j := .inr h
def wFuel : Nat := 1000000
theorem lenO_ok {xs : List α} (h : xs.length ≤ 1000000) : lenO xs = some () := by
  unfold lenO chk; rw [if_pos (Nat.ble_eq_true_of_le h)]
theorem rngO_ok {lo hi : Int} (h : -400000 ≤ lo ∧ lo ≤ 400000 ∧ -400000 ≤ hi ∧ hi ≤ 400000) : rngO lo hi = some (rangeL lo hi) := by unfold rngO; rw [if_pos h]
end
end MM

set_option Elab.async false
set_option linter.all false
set_option maxRecDepth 100000
set_option maxHeartbeats 4000000
set_option autoImplicit false
namespace MM
open PySem PySem.Spec PyProof.Rows L2

theorem kx_ix_seq {X : Cx} {K : PySem.W.Frag} (hK : X.K = K := by rfl) : IxR X (rIx K) := hK ▸ ix_seq
mutual
def sameD : D → D → Bool
  | .list as, .list ds => sameDs as ds
  | .tuple as, .tuple ds => sameDs as ds
  | .none, .none => true
  | .bool a, .bool b => a == b
  | .str a, .str b => a == b
  | .int a, .int b => a == b
  | _, _ => false
def sameDs : List D → List D → Bool
  | [], [] => true
  | a :: as, d :: ds => sameD a d && sameDs as ds
  | _, _ => false
end
mutual
def okS : D → Bool
  | .list ds => Nat.ble ds.length 1000 && okSs ds
  | .tuple ds => Nat.ble ds.length 1000 && okSs ds
  | .dict _ => false
  | .str s => PyData.strOk s
  | _ => true
def okSs : List D → Bool
  | [] => true
  | d :: ds => okS d && okSs ds
end
def isLD : D → Bool | .list _ => true | _ => false
def isTD : D → Bool | .tuple _ => true | _ => false
def isBD : D → Bool | .bool _ => true | _ => false
def isSD : D → Bool | .str _ => true | _ => false
def isID : D → Bool | .int _ => true | .bool _ => true | _ => false
theorem isi_list (d : D) : kitB (clsD d) "list" = some (isLD d) := by cases d <;> rfl
theorem isi_tuple (d : D) : kitB (clsD d) "tuple" = some (isTD d) := by cases d <;> rfl
theorem isi_bool (d : D) : kitB (clsD d) "bool" = some (isBD d) := by cases d <;> rfl
theorem isi_str (d : D) : kitB (clsD d) "str" = some (isSD d) := by cases d <;> rfl
theorem isi_int (d : D) : kitB (clsD d) "int" = some (isID d) := by cases d <;> rfl
theorem sameDs_all : ∀ (as ds : List D), as.length = ds.length → sameDs as ds = ((List.range ds.length).map fun k => sameD (as.getD k .none) (ds.getD k .none)).all id
  | [], [], _ => by simp [sameDs]
  | a :: as, d :: ds, h => by
    have h' : as.length = ds.length := by simpa using h
    rw [List.length_cons, List.range_succ_eq_map, List.map_cons, List.all_cons, List.map_map]
    unfold sameDs
    rw [sameDs_all as ds h']
    rfl
  | [], _ :: _, h => by simp at h
  | _ :: _, [], h => by simp at h
theorem sameDs_len : ∀ (as ds : List D), as.length ≠ ds.length → sameDs as ds = false
  | [], [], h => by simp at h
  | a :: as, d :: ds, h => by
    unfold sameDs
    rw [sameDs_len as ds (fun e => h (by simp [e])), Bool.and_false]
  | [], _ :: _, _ => by unfold sameDs; rfl
  | _ :: _, [], _ => by unfold sameDs; rfl
theorem okSs_get : ∀ {ds : List D} {k : Nat} {d : D}, okSs ds = true → ds[k]? = some d → okS d = true
  | [], k, d, _, h => by simp at h
  | e :: ds, 0, d, h, g => by
    unfold okSs at h
    rw [Bool.and_eq_true] at h
    simp at g; subst g; exact h.1
  | e :: ds, k + 1, d, h, g => by
    unfold okSs at h
    rw [Bool.and_eq_true] at h
    exact okSs_get h.2 (by simpa using g)
theorem depAll_get : ∀ {ds : List D} {k : Nat} {d : D}, ds[k]? = some d → d.depth ≤ PyData.depthAll ds
  | [], k, d, h => by simp at h
  | e :: ds, 0, d, g => by simp at g; subst g; exact Nat.le_max_left _ _
  | e :: ds, k + 1, d, g => Nat.le_trans (depAll_get (ds := ds) (by simpa using g)) (Nat.le_max_right _ _)
theorem okS_shaped {d : D} (h : okS d = true) (h2 : d.depth = 0) : SeqAt.shaped d = true := by
  cases d with
  | str s =>
    have h : PyData.strOk s = true := by simpa [okS] using h
    show (PyData.strOk s && _) = true
    rw [h]; rfl
  | none => rfl
  | bool b => rfl
  | int i => rfl
  | list ds => simp [PyData.depth] at h2
  | tuple ds => simp [PyData.depth] at h2
  | dict ds => simp [okS] at h
/-- a list or a tuple: what lies within -/
theorem same_seq {a d : D} (e : (isLD d || isTD d) = true) (e2 : (!decide (isLD a = isLD d) || !decide (isTD a = isTD d)) = false) (ha : okS a = true) (hd : okS d = true) :
    ∃ as ds, seqD a = some as ∧ seqD d = some ds ∧ sameD a d = sameDs as ds ∧ okSs as = true ∧ okSs ds = true ∧ ds.length ≤ 1000 ∧ d.depth = PyData.depthAll ds + 1 := by
  cases d with
  | list ds =>
    cases a with
    | list as =>
      simp only [okS, Bool.and_eq_true] at ha hd
      exact ⟨as, ds, rfl, rfl, by simp [sameD], ha.2, hd.2, Nat.le_of_ble_eq_true hd.1, rfl⟩
    | _ => simp [isLD, isTD] at e2
  | tuple ds =>
    cases a with
    | tuple as =>
      simp only [okS, Bool.and_eq_true] at ha hd
      exact ⟨as, ds, rfl, rfl, by simp [sameD], ha.2, hd.2, Nat.le_of_ble_eq_true hd.1, rfl⟩
    | _ => simp [isLD, isTD] at e2
  | _ => simp [isLD, isTD] at e
theorem same_not {a d : D} (e : (isLD d || isTD d) = true) (e2 : (!decide (isLD a = isLD d) || !decide (isTD a = isTD d)) = true) : sameD a d = false := by
  cases d with
  | list ds => cases a <;> first | (simp [isLD, isTD] at e2; done) | simp [sameD]
  | tuple ds => cases a <;> first | (simp [isLD, isTD] at e2; done) | simp [sameD]
  | _ => simp [isLD, isTD] at e
theorem depth0 {d : D} (h : okS d = true) (e : (isLD d || isTD d) = false) : d.depth = 0 := by
  cases d with
  | list ds => simp [isLD] at e
  | tuple ds => simp [isTD] at e
  | dict ds => simp [okS] at h
  | _ => rfl
def R_sameN : Nat → List D → RK → Prop
  | 0, _, _ => False
  | j + 1, ds, r => ∃ a d, ds = [a, d] ∧ okS a = true ∧ okS d = true ∧ d.depth ≤ j ∧ r = .val (.bool (sameD a d))
def m_same (a d : D) : Option Bool := if okS a = true ∧ okS d = true ∧ d.depth ≤ 3 then some (sameD a d) else none
theorem r_same {a d : D} {b : Bool} (h : m_same a d = some b) : R_sameN 4 [a, d] (.val (.bool b)) := by
  unfold m_same at h
  split at h
  · cases h; rename_i c; exact ⟨a, d, rfl, c.1, c.2.1, c.2.2, rfl⟩
  · cases h
theorem same_none {P : Program} {w : World} {K : PySem.W.Frag} {mg : Str → Option Value} {base : Heap} {f : Addr} {fd : FuncData} {ps : List Str} : FnOk P w K mg base CX0 0 f fd ps (sp0 K (R_sameN 0)) :=
  ⟨fun vs H Q E h => by obtain ⟨_, _, _, _, _, h, _⟩ := h; exact h.elim, fun A outer s H args us vs Q E _ _ _ _ h => by obtain ⟨_, _, _, _, _, h, _⟩ := h; exact h.elim⟩
theorem atI_nat' {α : Type} {xs : List α} {k : Nat} {x : α} (h : xs[k]? = some x) : atI xs (k : Int) = some x := by
  have hk : k < xs.length := (List.getElem?_eq_some_iff.mp h).1
  unfold atI ixN
  rw [if_pos (Int.natCast_nonneg _), if_pos (by omega)]
  simpa using h
theorem same_map (as ds : List D) (h : as.length = ds.length) : sameDs as ds = ((rangeL 0 (ds.length : Int)).map fun k => sameD (as.getD k.toNat .none) (ds.getD k.toNat .none)).all id := by
  rw [sameDs_all as ds h]
  unfold rangeL
  rw [List.map_map]
  have : ((ds.length : Int) - 0).toNat = ds.length := by omega
  rw [this]
  congr 2
  funext k
  show _ = sameD (as.getD ((0 : Int) + (k : Nat)).toNat .none) (ds.getD ((0 : Int) + (k : Nat)).toNat .none)
  have : ((0 : Int) + (k : Nat)).toNat = k := by omega
  rw [this]
theorem mem_range0 {n : Nat} {k : Int} (h : k ∈ rangeL 0 (n : Int)) : ∃ j : Nat, k = (j : Int) ∧ j < n := by
  unfold rangeL at h
  rw [List.mem_map] at h
  obtain ⟨i, hi, rfl⟩ := h
  rw [List.mem_range] at hi
  exact ⟨i, by omega, by omega⟩
/-- typed data that are alike -/
class Sam (α : Type) [Enc α] [DecidableEq α] : Prop where
  same : ∀ a b : α, sameD (enc a) (enc b) = decide (a = b)
instance : Sam Int := ⟨fun a b => by show sameD (.int a) (.int b) = _; unfold sameD; rw [Bool.beq_eq_decide_eq]⟩
instance : Sam Bool := ⟨fun a b => by show sameD (.bool a) (.bool b) = _; unfold sameD; rw [Bool.beq_eq_decide_eq]⟩
instance : Sam Wd := ⟨fun a b => by
  show sameD (.str a.1) (.str b.1) = _
  unfold sameD
  rw [Bool.beq_eq_decide_eq]
  by_cases h : a.1 = b.1
  · rw [decide_eq_true h, decide_eq_true (Subtype.ext h)]
  · rw [decide_eq_false h, decide_eq_false (fun e => h (by rw [e]))]⟩
theorem sameDs_map {α : Type} [Enc α] [DecidableEq α] [Sam α] : ∀ xs ys : List α, sameDs (xs.map enc) (ys.map enc) = decide (xs = ys)
  | [], [] => by simp [sameDs]
  | [], _ :: _ => by simp [sameDs]
  | _ :: _, [] => by simp [sameDs]
  | x :: xs, y :: ys => by
    rw [List.map_cons, List.map_cons]
    unfold sameDs
    rw [Sam.same, sameDs_map xs ys, ← Bool.decide_and]
    congr 1
    simp
instance {α : Type} [Enc α] [DecidableEq α] [Sam α] : Sam (List α) := ⟨fun a b => by
  show sameD (.list (a.map enc)) (.list (b.map enc)) = _
  unfold sameD; exact sameDs_map a b⟩
instance {α β : Type} [Enc α] [Enc β] [DecidableEq α] [DecidableEq β] [Sam α] [Sam β] : Sam (α × β) := ⟨fun a b => by
  show sameD (.tuple [enc a.1, enc a.2]) (.tuple [enc b.1, enc b.2]) = _
  unfold sameD sameDs sameDs sameDs
  rw [Sam.same, Sam.same, Bool.and_true, ← Bool.decide_and]
  congr 1
  exact propext Prod.ext_iff.symm⟩
end MM

set_option Elab.async false
set_option linter.all false
set_option maxRecDepth 100000
set_option maxHeartbeats 4000000
set_option autoImplicit false
namespace MM
open PySem PySem.Spec PyProof.Rows L2
section
variable {K : PySem.W.Frag} {G G' : Ent} {te ta tb tc : TE} {tt tu : TT} {S S0 S1 S2 S3 S4 : List VS} {d x y z : D} {ds : List D} {c : Cn} {b b1 b2 : Bool} {r : RK} {Hf Hn H H2 : Hp} {i j k : Int} {rest t : TS} {o : Out}
/-- a shell that is not kept is frozen whole -/
theorem frzShell {σ : L2.St} : ∀ (cs : List (D ⊕ Cn)) (vs : List V) (es : List D), shD cs = some es → ∀ Hn : Hp, SOk K G Hn H2 S σ → ShAt K G' Hn H2 cs vs → (shA cs vs).Nodup → (∀ p ∈ shA cs vs, Fresh K G Hn S σ p) →
    ∃ Hm, Same Hn Hm ∧ SOk K G Hm H2 S σ ∧ DqAll K Hm vs es
  | [], _, es, h, Hn, s, a, _, _ => by
    cases a; cases h; exact ⟨Hn, Same.refl _, s, .nil⟩
  | .inl d :: cs, _, es, h, Hn, s, a, nd, f => by
    cases a with
    | val dv a =>
      rename_i v vs
      unfold shD at h
      cases hh : shD cs with
      | none => rw [hh] at h; cases h
      | some ds =>
        rw [hh] at h; cases h
        have ea : shA (.inl d :: cs) (v :: vs) = shA cs vs := by cases v <;> rfl
        rw [ea] at nd f
        obtain ⟨Hm, e, s2, q⟩ := frzShell cs vs ds hh Hn s a nd f
        exact ⟨Hm, e, s2, .cons (dp_mono e _ _ dv) q⟩
  | .inr (.lst es0) :: cs, _, es, h, Hn, s, a, nd, f => by
    cases a with
    | own h1 h2 ca a =>
      rename_i p vs
      unfold shD at h
      cases hh : shD cs with
      | none => rw [hh] at h; cases h
      | some ds =>
        rw [hh] at h; cases h
        obtain ⟨ws, e1, e2⟩ := ca
        have fp := f p (List.mem_cons_self)
        have hfp : Same Hn (upd Hn p (.lst ws)) := same_new h1
        have nd' : (p :: shA cs vs).Nodup := nd
        rw [List.nodup_cons] at nd'
        have ne : ∀ q ∈ shA cs vs, q ≠ p := fun q hq z => nd'.1 (z ▸ hq)
        have s1 := s.frzNew fp e1
        have a1 := a.step (H2 := H2) hfp fun q hq => ⟨by rw [upd_ne (ne q hq)]; exact (a.mem hq).1, fun o e => e⟩
        obtain ⟨Hm, e, s2, q⟩ := frzShell cs vs ds hh _ s1 a1 nd'.2 fun q hq => by
          have fq := f q (List.mem_cons_of_mem _ hq)
          exact ⟨by rw [upd_ne (ne q hq)]; exact fq.hf, fq.hg, fq.hP, fq.no.mono s hfp⟩
        exact ⟨Hm, hfp.trans e, s2, .cons (.lst (e _ _ upd_same) (dpa_mono (hfp.trans e) _ _ e2)) q⟩
  | .inr (.dK _) :: _, _, _, h, _, _, _, _, _ => by simp [shD] at h
  | .inr (.dT _) :: _, _, _, h, _, _, _, _, _ => by simp [shD] at h
theorem ev_callS {R : List D → RK → Prop} {ts : TA} {E : XK} (ha : EvA K G ts S ds S1) (hR : R ds r) (h : ∃ cs es, r = .shell cs ∧ shD cs = some es ∧ d = .tuple es) : Ev K G (tCall (sp0 K R) [] E ts) S d S1 := fun σ Hf H hs Q q => by
  obtain ⟨cs, es, rfl, h2, rfl⟩ := h
  refine ha σ Hf H hs _ fun vs Hn H2 e s dv => ?_
  rw [List.append_nil]
  refine ⟨Hn, ds, .shell cs, dv, s.ex, hR, fun v Hm H3 g r => ?_⟩
  obtain ⟨t, us, rfl, h1, h3, h4⟩ := r
  have s2 := s.grow g
  have fr : ∀ p ∈ shA cs us, Fresh K G Hm S1 σ p := fun p hp => by
    obtain ⟨m1, m2, m3⟩ := h3.mem hp
    have f := s.fresh m2
    exact ⟨m1, f.hg, f.hP, f.no.mono s g.a⟩
  obtain ⟨Hk, e3, s3, q3⟩ := frzShell cs us es h2 Hm s2 h3 h4 fr
  exact q (.ref t) Hk H3 ((e.trans g.a).trans e3) s3 (.tup (e3 _ _ h1) q3)
theorem ev_ixT' (h : ∃ ds, x = .tuple ds ∧ atI ds i = some d) (ha : Ev K G ta S x S1) (hb : Ev K G tb S1 (.int i) S2) : Ev K G (tOp (rIxT K) ta tb) S d S2 := by
  obtain ⟨ds, rfl, e⟩ := h; exact ev_ixT ha hb e
end
/-! ## the law -/
def fd0 (ns : List Int) : Fd := ⟨ns, 0, 0, 1, by decide⟩
def spFeed (K : PySem.W.Frag) : Sp := fun vs H Q _ => ∃ (a : Addr) (ns : List Int), vs = [.ref a] ∧ SqL K H a (ns.map V.int) ∧ ∀ q p, H q = none → upd H q (.lst (ns.map V.int)) p = none → Q (.ref p) (upd (upd H q (.lst (ns.map V.int))) p (.lst [.ref q, .int 0, .int 0, .int 1]))
def spLaw (K : PySem.W.Frag) : Sp := fun vs H Q _ => ∃ (a : Addr) (ns : List Int), vs = [.ref a] ∧ ns.length ≤ 63 ∧ SqL K H a (ns.map V.int) ∧ ∀ H', Q (.bl true) H'
theorem law_start {K : PySem.W.Frag} {t : TS} {N : List Str} {ns : List Int} {a p q : Addr} {H : Hp} {Q : VK} {k : Nat} (hN : N.length = k + 2) (hq : H q = none) (hp : upd H q (.lst (ns.map V.int)) p = none)
    (h : ∀ G, ∃ S', Bs K G t (.any :: .own (fdC (fd0 ns)) :: List.replicate k .any) (.rt (.val (.bool true)) S')) (hQ : ∀ H', Q (.bl true) H') :
    t { nx := fun _ H' => Q .non H', rt := Q } ((L2.start N [.ref a]).set 1 (some (.ref p))) (upd (upd H q (.lst (ns.map V.int))) p (.lst [.ref q, .int 0, .int 0, .int 1])) := by
  obtain ⟨S', hb⟩ := h ⟨fun _ => none, H, [], fun _ => none⟩
  have hlen : (L2.start N [.ref a]).length = k + 2 := by rw [start_len (by simp; omega), hN]
  have s0 : SOk K ⟨fun _ => none, H, [], fun _ => none⟩ (fun _ => none) H (List.replicate (k + 2) .any) (L2.start N [.ref a]) := by
    refine ⟨by rw [hlen, List.length_replicate], fun _ _ h => (nomatch h), Same.refl _, fun x o e _ => e, fun x _ e => e, fun p hp => absurd hp (by simp), fun i s es => ?_, fun i j s t p es et o1 => ?_, fun x o e => nomatch e⟩
    · rw [List.getElem?_replicate] at es
      split at es
      · cases es; trivial
      · cases es
    · rw [List.getElem?_replicate] at es
      split at es
      · cases es; cases o1
      · cases es
  have g1 := Gw.new (o := .lst (ns.map V.int)) s0.ex hq
  have s1 := s0.grow g1
  have g2 := Gw.newO (o := .lst [.ref q, .int 0, .int 0, .int 1]) s1.ex hp
  have f2 := s1.fresh hp
  have s2 := s1.grow g2
  have nqp : q ≠ p := fun z => by rw [← z, upd_same] at hp; cases hp
  have s3 := s2.setN (i := 1) (p := p) (c := fdC (fd0 ns)) f2.hf f2.hg f2.no ⟨_, upd_same, .cons (.lst upd_same dqa_of_ints) (.cons (.int _) (.cons (.int _) (.cons (.int _) .nil)))⟩ (by simp) f2.hP
  refine hb _ _ _ _ s3 fun v σ Hn H' e s r => ?_
  cases r
  exact hQ _
theorem law_begin {K : PySem.W.Frag} {t : TS} {N : List Str} {E : XK} {ns : List Int} {a : Addr} {H : Hp} {Q : VK} {k : Nat} (hN : N.length = k + 2) (hS : SqL K H a (ns.map V.int))
    (h : ∀ G, ∃ S', Bs K G t (.any :: .own (fdC (fd0 ns)) :: List.replicate k .any) (.rt (.val (.bool true)) S')) (hQ : ∀ H', Q (.bl true) H') :
    tSeq (tAsg (tCall (spFeed K) [] E (tCons (tVar 0) tNil)) (gName 1)) t { nx := fun _ H' => Q .non H', rt := Q } (L2.start N [.ref a]) H :=
  ⟨.ref a, rfl, a, ns, rfl, hS, fun q p hq hp => law_start hN hq hp h hQ⟩
theorem tLst_feed {K : PySem.W.Frag} {σ : L2.St} {H : Hp} {Q : VK} {a : Addr} {ns : List Int} (hx : σ[0]? = some (some (.ref a))) (hS : SqL K H a (ns.map V.int))
    (hQ : ∀ q p, H q = none → upd H q (.lst (ns.map V.int)) p = none → Q (.ref p) (upd (upd H q (.lst (ns.map V.int))) p (.lst [.ref q, .int 0, .int 0, .int 1]))) :
    tLst (tCons (tCB (rListS K) (tCons (tVar 0) tNil)) (tCons (tC (.int 0)) (tCons (tC (.int 0)) (tCons (tC (.int 1)) tNil)))) σ H Q :=
  ⟨.ref a, hx, a, ns.map V.int, rfl, .inl hS, fun q hq => ⟨small (by show 4 ≤ 1000000; decide), fun p hp => hQ q p hq hp⟩⟩
end MM

set_option Elab.async false
set_option linter.all false
set_option maxRecDepth 100000
set_option maxHeartbeats 4000000
set_option autoImplicit false
namespace MM
open PySem PySem.Spec PyProof.Rows L2
def topS (i : Nat) : Stmt := PySem.Challenge.pw_havenwebs_k66_whole_sides_or_odd_rings.main.body.getD i (.Pass ⟨0, 0, 0, 0⟩)
abbrev FnP (K : PySem.W.Frag) (x : Str) (st : Stmt) (f : Addr) (fd : FuncData) : Prop := FunD K x x (defArgs st) (defBody st) (defScope st) [] [] f fd
def w_ring : Wd := ⟨"ring", by decide +kernel⟩
def w_sides : Wd := ⟨"sides", by decide +kernel⟩
abbrev s_is_whole : Stmt := topS 1
abbrev nm_is_whole : List Str := ["value"]
theorem sc_is_whole : FnScope nm_is_whole ["value"] (defScope s_is_whole) := ⟨rfl, rfl, rfl, by decide +kernel, rfl, by decide +kernel, by decide +kernel⟩
abbrev s_are_wholes : Stmt := topS 2
abbrev nm_are_wholes : List Str := ["value", "number"]
theorem sc_are_wholes : FnScope nm_are_wholes ["value"] (defScope s_are_wholes) := ⟨rfl, rfl, rfl, by decide +kernel, rfl, by decide +kernel, by decide +kernel⟩
abbrev s_are_between : Stmt := topS 3
abbrev nm_are_between : List Str := ["value", "least", "most", "number"]
theorem sc_are_between : FnScope nm_are_between ["value", "least", "most"] (defScope s_are_between) := ⟨rfl, rfl, rfl, by decide +kernel, rfl, by decide +kernel, by decide +kernel⟩
abbrev s_tie_of : Stmt := topS 5
abbrev nm_tie_of : List Str := ["i", "j"]
theorem sc_tie_of : FnScope nm_tie_of ["i", "j"] (defScope s_tie_of) := ⟨rfl, rfl, rfl, by decide +kernel, rfl, by decide +kernel, by decide +kernel⟩
abbrev s_are_joined : Stmt := topS 6
abbrev nm_are_joined : List Str := ["ties", "i", "j"]
theorem sc_are_joined : FnScope nm_are_joined ["ties", "i", "j"] (defScope s_are_joined) := ⟨rfl, rfl, rfl, by decide +kernel, rfl, by decide +kernel, by decide +kernel⟩
abbrev s_neighbours : Stmt := topS 7
abbrev nm_neighbours : List Str := ["n", "ties", "i", "j"]
theorem sc_neighbours : FnScope nm_neighbours ["n", "ties", "i"] (defScope s_neighbours) := ⟨rfl, rfl, rfl, by decide +kernel, rfl, by decide +kernel, by decide +kernel⟩
abbrev s_part_from : Stmt := topS 8
abbrev nm_part_from : List Str := ["ties", "place", "row", "at", "i", "j", "other"]
theorem sc_part_from : FnScope nm_part_from ["ties", "place"] (defScope s_part_from) := ⟨rfl, rfl, rfl, by decide +kernel, rfl, by decide +kernel, by decide +kernel⟩
abbrev s_parts_of : Stmt := topS 9
abbrev nm_parts_of : List Str := ["n", "ties", "parts", "place", "part"]
theorem sc_parts_of : FnScope nm_parts_of ["n", "ties"] (defScope s_parts_of) := ⟨rfl, rfl, rfl, by decide +kernel, rfl, by decide +kernel, by decide +kernel⟩
abbrev s_ways_back : Stmt := topS 11
abbrev nm_ways_back : List Str := ["n", "ties", "ways", "part", "row", "at", "other"]
theorem sc_ways_back : FnScope nm_ways_back ["n", "ties"] (defScope s_ways_back) := ⟨rfl, rfl, rfl, by decide +kernel, rfl, by decide +kernel, by decide +kernel⟩
abbrev s_ring_of : Stmt := topS 12
abbrev nm_ring_of : List Str := ["one", "other", "at"]
theorem sc_ring_of : FnScope nm_ring_of ["one", "other"] (defScope s_ring_of) := ⟨rfl, rfl, rfl, by decide +kernel, rfl, by decide +kernel, by decide +kernel⟩
abbrev s_sides_of : Stmt := topS 13
abbrev nm_sides_of : List Str := ["n", "ties", "ways", "left", "right", "i", "j", "place"]
theorem sc_sides_of : FnScope nm_sides_of ["n", "ties"] (defScope s_sides_of) := ⟨rfl, rfl, rfl, by decide +kernel, rfl, by decide +kernel, by decide +kernel⟩
abbrev s_shows_ring : Stmt := topS 14
abbrev nm_shows_ring : List Str := ["n", "ties", "places", "at", "place"]
theorem sc_shows_ring : FnScope nm_shows_ring ["n", "ties", "places"] (defScope s_shows_ring) := ⟨rfl, rfl, rfl, by decide +kernel, rfl, by decide +kernel, by decide +kernel⟩
abbrev s__law_feed : Stmt := topS 16
abbrev nm__law_feed : List Str := ["script"]
theorem sc__law_feed : FnScope nm__law_feed ["script"] (defScope s__law_feed) := ⟨rfl, rfl, rfl, by decide +kernel, rfl, by decide +kernel, by decide +kernel⟩
abbrev s__law_draw : Stmt := topS 17
abbrev nm__law_draw : List Str := ["feed", "many", "mixed", "cell", "told"]
theorem sc__law_draw : FnScope nm__law_draw ["feed", "many"] (defScope s__law_draw) := ⟨rfl, rfl, rfl, by decide +kernel, rfl, by decide +kernel, by decide +kernel⟩
abbrev s__law_parts : Stmt := topS 18
abbrev nm__law_parts : List Str := ["n", "ties", "names", "parts", "place", "i", "j", "one", "other", "name", "k"]
theorem sc__law_parts : FnScope nm__law_parts ["n", "ties"] (defScope s__law_parts) := ⟨rfl, rfl, rfl, by decide +kernel, rfl, by decide +kernel, by decide +kernel⟩
abbrev s__law_joined : Stmt := topS 19
abbrev nm__law_joined : List Str := ["ties", "i", "j"]
theorem sc__law_joined : FnScope nm__law_joined ["ties", "i", "j"] (defScope s__law_joined) := ⟨rfl, rfl, rfl, by decide +kernel, rfl, by decide +kernel, by decide +kernel⟩
abbrev s__law_beside : Stmt := topS 20
abbrev nm__law_beside : List Str := ["n", "ties", "i", "j"]
theorem sc__law_beside : FnScope nm__law_beside ["n", "ties", "i"] (defScope s__law_beside) := ⟨rfl, rfl, rfl, by decide +kernel, rfl, by decide +kernel, by decide +kernel⟩
abbrev s__law_sides : Stmt := topS 21
abbrev nm__law_sides : List Str := ["n", "ties", "far", "part", "left", "step", "place", "other", "tie"]
theorem sc__law_sides : FnScope nm__law_sides ["n", "ties"] (defScope s__law_sides) := ⟨rfl, rfl, rfl, by decide +kernel, rfl, by decide +kernel, by decide +kernel⟩
abbrev s__law_same : Stmt := topS 22
abbrev nm__law_same : List Str := ["actual", "due", "k"]
theorem sc__law_same : FnScope nm__law_same ["actual", "due"] (defScope s__law_same) := ⟨rfl, rfl, rfl, by decide +kernel, rfl, by decide +kernel, by decide +kernel⟩
abbrev s__law_whole : Stmt := topS 23
abbrev nm__law_whole : List Str := ["value"]
theorem sc__law_whole : FnScope nm__law_whole ["value"] (defScope s__law_whole) := ⟨rfl, rfl, rfl, by decide +kernel, rfl, by decide +kernel, by decide +kernel⟩
abbrev s__law_wholes : Stmt := topS 24
abbrev nm__law_wholes : List Str := ["value", "one"]
theorem sc__law_wholes : FnScope nm__law_wholes ["value"] (defScope s__law_wholes) := ⟨rfl, rfl, rfl, by decide +kernel, rfl, by decide +kernel, by decide +kernel⟩
abbrev s__law_is_ring : Stmt := topS 25
abbrev nm__law_is_ring : List Str := ["n", "ties", "places", "k", "place"]
theorem sc__law_is_ring : FnScope nm__law_is_ring ["n", "ties", "places"] (defScope s__law_is_ring) := ⟨rfl, rfl, rfl, by decide +kernel, rfl, by decide +kernel, by decide +kernel⟩
abbrev s__law_pairs : Stmt := topS 26
abbrev nm__law_pairs : List Str := ["n", "found", "i", "j"]
theorem sc__law_pairs : FnScope nm__law_pairs ["n"] (defScope s__law_pairs) := ⟨rfl, rfl, rfl, by decide +kernel, rfl, by decide +kernel, by decide +kernel⟩
abbrev s__law_web : Stmt := topS 27
abbrev nm__law_web : List Str := ["feed", "n", "share", "pair"]
theorem sc__law_web : FnScope nm__law_web ["feed", "n"] (defScope s__law_web) := ⟨rfl, rfl, rfl, by decide +kernel, rfl, by decide +kernel, by decide +kernel⟩
abbrev s__law_two_sided : Stmt := topS 28
abbrev nm__law_two_sided : List Str := ["feed", "most", "n", "side", "place", "tie"]
theorem sc__law_two_sided : FnScope nm__law_two_sided ["feed", "most"] (defScope s__law_two_sided) := ⟨rfl, rfl, rfl, by decide +kernel, rfl, by decide +kernel, by decide +kernel⟩
abbrev s__law_order : Stmt := topS 29
abbrev nm__law_order : List Str := ["feed", "n", "rest", "order", "k"]
theorem sc__law_order : FnScope nm__law_order ["feed", "n"] (defScope s__law_order) := ⟨rfl, rfl, rfl, by decide +kernel, rfl, by decide +kernel, by decide +kernel⟩
abbrev s__law_tie : Stmt := topS 30
abbrev nm__law_tie : List Str := ["i", "j"]
theorem sc__law_tie : FnScope nm__law_tie ["i", "j"] (defScope s__law_tie) := ⟨rfl, rfl, rfl, by decide +kernel, rfl, by decide +kernel, by decide +kernel⟩
abbrev s__law_right : Stmt := topS 31
abbrev nm__law_right : List Str := ["n", "ties", "due", "handed", "turn", "side", "told", "place", "tie"]
theorem sc__law_right : FnScope nm__law_right ["n", "ties"] (defScope s__law_right) := ⟨rfl, rfl, rfl, by decide +kernel, rfl, by decide +kernel, by decide +kernel⟩
abbrev s_law : Stmt := topS 32
abbrev nm_law : List Str := ["script", "feed", "n", "free", "order", "ring", "ties", "pair", "k"]
theorem sc_law : FnScope nm_law ["script"] (defScope s_law) := ⟨rfl, rfl, rfl, by decide +kernel, rfl, by decide +kernel, by decide +kernel⟩
theorem bd_is_whole {K : PySem.W.Frag} {a : Addr} {fd : FuncData} (F : FnP K "is_whole" s_is_whole a fd) : L2.Binds K fd ["value"] [] := F.bindsN fun _ _ _ _ _ _ us hl => match us, hl with | [_], _ => rfl
theorem bd_are_wholes {K : PySem.W.Frag} {a : Addr} {fd : FuncData} (F : FnP K "are_wholes" s_are_wholes a fd) : L2.Binds K fd ["value"] [] := F.bindsN fun _ _ _ _ _ _ us hl => match us, hl with | [_], _ => rfl
theorem bd_are_between {K : PySem.W.Frag} {a : Addr} {fd : FuncData} (F : FnP K "are_between" s_are_between a fd) : L2.Binds K fd ["value", "least", "most"] [] := F.bindsN fun _ _ _ _ _ _ us hl => match us, hl with | [_, _, _], _ => rfl
theorem bd_tie_of {K : PySem.W.Frag} {a : Addr} {fd : FuncData} (F : FnP K "tie_of" s_tie_of a fd) : L2.Binds K fd ["i", "j"] [] := F.bindsN fun _ _ _ _ _ _ us hl => match us, hl with | [_, _], _ => rfl
theorem bd_are_joined {K : PySem.W.Frag} {a : Addr} {fd : FuncData} (F : FnP K "are_joined" s_are_joined a fd) : L2.Binds K fd ["ties", "i", "j"] [] := F.bindsN fun _ _ _ _ _ _ us hl => match us, hl with | [_, _, _], _ => rfl
theorem bd_neighbours {K : PySem.W.Frag} {a : Addr} {fd : FuncData} (F : FnP K "neighbours" s_neighbours a fd) : L2.Binds K fd ["n", "ties", "i"] [] := F.bindsN fun _ _ _ _ _ _ us hl => match us, hl with | [_, _, _], _ => rfl
theorem bd_part_from {K : PySem.W.Frag} {a : Addr} {fd : FuncData} (F : FnP K "part_from" s_part_from a fd) : L2.Binds K fd ["ties", "place"] [] := F.bindsN fun _ _ _ _ _ _ us hl => match us, hl with | [_, _], _ => rfl
theorem bd_parts_of {K : PySem.W.Frag} {a : Addr} {fd : FuncData} (F : FnP K "parts_of" s_parts_of a fd) : L2.Binds K fd ["n", "ties"] [] := F.bindsN fun _ _ _ _ _ _ us hl => match us, hl with | [_, _], _ => rfl
theorem bd_ways_back {K : PySem.W.Frag} {a : Addr} {fd : FuncData} (F : FnP K "ways_back" s_ways_back a fd) : L2.Binds K fd ["n", "ties"] [] := F.bindsN fun _ _ _ _ _ _ us hl => match us, hl with | [_, _], _ => rfl
theorem bd_ring_of {K : PySem.W.Frag} {a : Addr} {fd : FuncData} (F : FnP K "ring_of" s_ring_of a fd) : L2.Binds K fd ["one", "other"] [] := F.bindsN fun _ _ _ _ _ _ us hl => match us, hl with | [_, _], _ => rfl
theorem bd_sides_of {K : PySem.W.Frag} {a : Addr} {fd : FuncData} (F : FnP K "sides_of" s_sides_of a fd) : L2.Binds K fd ["n", "ties"] [] := F.bindsN fun _ _ _ _ _ _ us hl => match us, hl with | [_, _], _ => rfl
theorem bd_shows_ring {K : PySem.W.Frag} {a : Addr} {fd : FuncData} (F : FnP K "shows_ring" s_shows_ring a fd) : L2.Binds K fd ["n", "ties", "places"] [] := F.bindsN fun _ _ _ _ _ _ us hl => match us, hl with | [_, _, _], _ => rfl
theorem bd__law_feed {K : PySem.W.Frag} {a : Addr} {fd : FuncData} (F : FnP K "_law_feed" s__law_feed a fd) : L2.Binds K fd ["script"] [] := F.bindsN fun _ _ _ _ _ _ us hl => match us, hl with | [_], _ => rfl
theorem bd__law_draw {K : PySem.W.Frag} {a : Addr} {fd : FuncData} (F : FnP K "_law_draw" s__law_draw a fd) : L2.Binds K fd ["feed", "many"] [] := F.bindsN fun _ _ _ _ _ _ us hl => match us, hl with | [_, _], _ => rfl
theorem bd__law_parts {K : PySem.W.Frag} {a : Addr} {fd : FuncData} (F : FnP K "_law_parts" s__law_parts a fd) : L2.Binds K fd ["n", "ties"] [] := F.bindsN fun _ _ _ _ _ _ us hl => match us, hl with | [_, _], _ => rfl
theorem bd__law_joined {K : PySem.W.Frag} {a : Addr} {fd : FuncData} (F : FnP K "_law_joined" s__law_joined a fd) : L2.Binds K fd ["ties", "i", "j"] [] := F.bindsN fun _ _ _ _ _ _ us hl => match us, hl with | [_, _, _], _ => rfl
theorem bd__law_beside {K : PySem.W.Frag} {a : Addr} {fd : FuncData} (F : FnP K "_law_beside" s__law_beside a fd) : L2.Binds K fd ["n", "ties", "i"] [] := F.bindsN fun _ _ _ _ _ _ us hl => match us, hl with | [_, _, _], _ => rfl
theorem bd__law_sides {K : PySem.W.Frag} {a : Addr} {fd : FuncData} (F : FnP K "_law_sides" s__law_sides a fd) : L2.Binds K fd ["n", "ties"] [] := F.bindsN fun _ _ _ _ _ _ us hl => match us, hl with | [_, _], _ => rfl
theorem bd__law_same {K : PySem.W.Frag} {a : Addr} {fd : FuncData} (F : FnP K "_law_same" s__law_same a fd) : L2.Binds K fd ["actual", "due"] [] := F.bindsN fun _ _ _ _ _ _ us hl => match us, hl with | [_, _], _ => rfl
theorem bd__law_whole {K : PySem.W.Frag} {a : Addr} {fd : FuncData} (F : FnP K "_law_whole" s__law_whole a fd) : L2.Binds K fd ["value"] [] := F.bindsN fun _ _ _ _ _ _ us hl => match us, hl with | [_], _ => rfl
theorem bd__law_wholes {K : PySem.W.Frag} {a : Addr} {fd : FuncData} (F : FnP K "_law_wholes" s__law_wholes a fd) : L2.Binds K fd ["value"] [] := F.bindsN fun _ _ _ _ _ _ us hl => match us, hl with | [_], _ => rfl
theorem bd__law_is_ring {K : PySem.W.Frag} {a : Addr} {fd : FuncData} (F : FnP K "_law_is_ring" s__law_is_ring a fd) : L2.Binds K fd ["n", "ties", "places"] [] := F.bindsN fun _ _ _ _ _ _ us hl => match us, hl with | [_, _, _], _ => rfl
theorem bd__law_pairs {K : PySem.W.Frag} {a : Addr} {fd : FuncData} (F : FnP K "_law_pairs" s__law_pairs a fd) : L2.Binds K fd ["n"] [] := F.bindsN fun _ _ _ _ _ _ us hl => match us, hl with | [_], _ => rfl
theorem bd__law_web {K : PySem.W.Frag} {a : Addr} {fd : FuncData} (F : FnP K "_law_web" s__law_web a fd) : L2.Binds K fd ["feed", "n"] [] := F.bindsN fun _ _ _ _ _ _ us hl => match us, hl with | [_, _], _ => rfl
theorem bd__law_two_sided {K : PySem.W.Frag} {a : Addr} {fd : FuncData} (F : FnP K "_law_two_sided" s__law_two_sided a fd) : L2.Binds K fd ["feed", "most"] [] := F.bindsN fun _ _ _ _ _ _ us hl => match us, hl with | [_, _], _ => rfl
theorem bd__law_order {K : PySem.W.Frag} {a : Addr} {fd : FuncData} (F : FnP K "_law_order" s__law_order a fd) : L2.Binds K fd ["feed", "n"] [] := F.bindsN fun _ _ _ _ _ _ us hl => match us, hl with | [_, _], _ => rfl
theorem bd__law_tie {K : PySem.W.Frag} {a : Addr} {fd : FuncData} (F : FnP K "_law_tie" s__law_tie a fd) : L2.Binds K fd ["i", "j"] [] := F.bindsN fun _ _ _ _ _ _ us hl => match us, hl with | [_, _], _ => rfl
theorem bd__law_right {K : PySem.W.Frag} {a : Addr} {fd : FuncData} (F : FnP K "_law_right" s__law_right a fd) : L2.Binds K fd ["n", "ties"] [] := F.bindsN fun _ _ _ _ _ _ us hl => match us, hl with | [_, _], _ => rfl
theorem bd_law {K : PySem.W.Frag} {a : Addr} {fd : FuncData} (F : FnP K "law" s_law a fd) : L2.Binds K fd ["script"] [] := F.bindsN fun _ _ _ _ _ _ us hl => match us, hl with | [_], _ => rfl
structure Top (K : PySem.W.Frag) (mg : Str → Option Value) where
  a_is_whole : Addr
  d_is_whole : FuncData
  F_is_whole : FnP K "is_whole" s_is_whole a_is_whole d_is_whole
  g_is_whole : mg "is_whole" = some (.ref a_is_whole)
  k_is_whole : PySem.W.keepIn K (.ref a_is_whole) = true
  a_are_wholes : Addr
  d_are_wholes : FuncData
  F_are_wholes : FnP K "are_wholes" s_are_wholes a_are_wholes d_are_wholes
  g_are_wholes : mg "are_wholes" = some (.ref a_are_wholes)
  k_are_wholes : PySem.W.keepIn K (.ref a_are_wholes) = true
  a_are_between : Addr
  d_are_between : FuncData
  F_are_between : FnP K "are_between" s_are_between a_are_between d_are_between
  g_are_between : mg "are_between" = some (.ref a_are_between)
  k_are_between : PySem.W.keepIn K (.ref a_are_between) = true
  a_tie_of : Addr
  d_tie_of : FuncData
  F_tie_of : FnP K "tie_of" s_tie_of a_tie_of d_tie_of
  g_tie_of : mg "tie_of" = some (.ref a_tie_of)
  k_tie_of : PySem.W.keepIn K (.ref a_tie_of) = true
  a_are_joined : Addr
  d_are_joined : FuncData
  F_are_joined : FnP K "are_joined" s_are_joined a_are_joined d_are_joined
  g_are_joined : mg "are_joined" = some (.ref a_are_joined)
  k_are_joined : PySem.W.keepIn K (.ref a_are_joined) = true
  a_neighbours : Addr
  d_neighbours : FuncData
  F_neighbours : FnP K "neighbours" s_neighbours a_neighbours d_neighbours
  g_neighbours : mg "neighbours" = some (.ref a_neighbours)
  k_neighbours : PySem.W.keepIn K (.ref a_neighbours) = true
  a_part_from : Addr
  d_part_from : FuncData
  F_part_from : FnP K "part_from" s_part_from a_part_from d_part_from
  g_part_from : mg "part_from" = some (.ref a_part_from)
  k_part_from : PySem.W.keepIn K (.ref a_part_from) = true
  a_parts_of : Addr
  d_parts_of : FuncData
  F_parts_of : FnP K "parts_of" s_parts_of a_parts_of d_parts_of
  g_parts_of : mg "parts_of" = some (.ref a_parts_of)
  k_parts_of : PySem.W.keepIn K (.ref a_parts_of) = true
  a_ways_back : Addr
  d_ways_back : FuncData
  F_ways_back : FnP K "ways_back" s_ways_back a_ways_back d_ways_back
  g_ways_back : mg "ways_back" = some (.ref a_ways_back)
  k_ways_back : PySem.W.keepIn K (.ref a_ways_back) = true
  a_ring_of : Addr
  d_ring_of : FuncData
  F_ring_of : FnP K "ring_of" s_ring_of a_ring_of d_ring_of
  g_ring_of : mg "ring_of" = some (.ref a_ring_of)
  k_ring_of : PySem.W.keepIn K (.ref a_ring_of) = true
  a_sides_of : Addr
  d_sides_of : FuncData
  F_sides_of : FnP K "sides_of" s_sides_of a_sides_of d_sides_of
  g_sides_of : mg "sides_of" = some (.ref a_sides_of)
  k_sides_of : PySem.W.keepIn K (.ref a_sides_of) = true
  a_shows_ring : Addr
  d_shows_ring : FuncData
  F_shows_ring : FnP K "shows_ring" s_shows_ring a_shows_ring d_shows_ring
  g_shows_ring : mg "shows_ring" = some (.ref a_shows_ring)
  k_shows_ring : PySem.W.keepIn K (.ref a_shows_ring) = true
  a__law_feed : Addr
  d__law_feed : FuncData
  F__law_feed : FnP K "_law_feed" s__law_feed a__law_feed d__law_feed
  g__law_feed : mg "_law_feed" = some (.ref a__law_feed)
  k__law_feed : PySem.W.keepIn K (.ref a__law_feed) = true
  a__law_draw : Addr
  d__law_draw : FuncData
  F__law_draw : FnP K "_law_draw" s__law_draw a__law_draw d__law_draw
  g__law_draw : mg "_law_draw" = some (.ref a__law_draw)
  k__law_draw : PySem.W.keepIn K (.ref a__law_draw) = true
  a__law_parts : Addr
  d__law_parts : FuncData
  F__law_parts : FnP K "_law_parts" s__law_parts a__law_parts d__law_parts
  g__law_parts : mg "_law_parts" = some (.ref a__law_parts)
  k__law_parts : PySem.W.keepIn K (.ref a__law_parts) = true
  a__law_joined : Addr
  d__law_joined : FuncData
  F__law_joined : FnP K "_law_joined" s__law_joined a__law_joined d__law_joined
  g__law_joined : mg "_law_joined" = some (.ref a__law_joined)
  k__law_joined : PySem.W.keepIn K (.ref a__law_joined) = true
  a__law_beside : Addr
  d__law_beside : FuncData
  F__law_beside : FnP K "_law_beside" s__law_beside a__law_beside d__law_beside
  g__law_beside : mg "_law_beside" = some (.ref a__law_beside)
  k__law_beside : PySem.W.keepIn K (.ref a__law_beside) = true
  a__law_sides : Addr
  d__law_sides : FuncData
  F__law_sides : FnP K "_law_sides" s__law_sides a__law_sides d__law_sides
  g__law_sides : mg "_law_sides" = some (.ref a__law_sides)
  k__law_sides : PySem.W.keepIn K (.ref a__law_sides) = true
  a__law_same : Addr
  d__law_same : FuncData
  F__law_same : FnP K "_law_same" s__law_same a__law_same d__law_same
  g__law_same : mg "_law_same" = some (.ref a__law_same)
  k__law_same : PySem.W.keepIn K (.ref a__law_same) = true
  a__law_whole : Addr
  d__law_whole : FuncData
  F__law_whole : FnP K "_law_whole" s__law_whole a__law_whole d__law_whole
  g__law_whole : mg "_law_whole" = some (.ref a__law_whole)
  k__law_whole : PySem.W.keepIn K (.ref a__law_whole) = true
  a__law_wholes : Addr
  d__law_wholes : FuncData
  F__law_wholes : FnP K "_law_wholes" s__law_wholes a__law_wholes d__law_wholes
  g__law_wholes : mg "_law_wholes" = some (.ref a__law_wholes)
  k__law_wholes : PySem.W.keepIn K (.ref a__law_wholes) = true
  a__law_is_ring : Addr
  d__law_is_ring : FuncData
  F__law_is_ring : FnP K "_law_is_ring" s__law_is_ring a__law_is_ring d__law_is_ring
  g__law_is_ring : mg "_law_is_ring" = some (.ref a__law_is_ring)
  k__law_is_ring : PySem.W.keepIn K (.ref a__law_is_ring) = true
  a__law_pairs : Addr
  d__law_pairs : FuncData
  F__law_pairs : FnP K "_law_pairs" s__law_pairs a__law_pairs d__law_pairs
  g__law_pairs : mg "_law_pairs" = some (.ref a__law_pairs)
  k__law_pairs : PySem.W.keepIn K (.ref a__law_pairs) = true
  a__law_web : Addr
  d__law_web : FuncData
  F__law_web : FnP K "_law_web" s__law_web a__law_web d__law_web
  g__law_web : mg "_law_web" = some (.ref a__law_web)
  k__law_web : PySem.W.keepIn K (.ref a__law_web) = true
  a__law_two_sided : Addr
  d__law_two_sided : FuncData
  F__law_two_sided : FnP K "_law_two_sided" s__law_two_sided a__law_two_sided d__law_two_sided
  g__law_two_sided : mg "_law_two_sided" = some (.ref a__law_two_sided)
  k__law_two_sided : PySem.W.keepIn K (.ref a__law_two_sided) = true
  a__law_order : Addr
  d__law_order : FuncData
  F__law_order : FnP K "_law_order" s__law_order a__law_order d__law_order
  g__law_order : mg "_law_order" = some (.ref a__law_order)
  k__law_order : PySem.W.keepIn K (.ref a__law_order) = true
  a__law_tie : Addr
  d__law_tie : FuncData
  F__law_tie : FnP K "_law_tie" s__law_tie a__law_tie d__law_tie
  g__law_tie : mg "_law_tie" = some (.ref a__law_tie)
  k__law_tie : PySem.W.keepIn K (.ref a__law_tie) = true
  a__law_right : Addr
  d__law_right : FuncData
  F__law_right : FnP K "_law_right" s__law_right a__law_right d__law_right
  g__law_right : mg "_law_right" = some (.ref a__law_right)
  k__law_right : PySem.W.keepIn K (.ref a__law_right) = true
  a_law : Addr
  d_law : FuncData
  F_law : FnP K "law" s_law a_law d_law
  g_law : mg "law" = some (.ref a_law)
  k_law : PySem.W.keepIn K (.ref a_law) = true
  b_abs : mg "abs" = none
  b_all : mg "all" = none
  b_any : mg "any" = none
  b_bool : mg "bool" = none
  b_int : mg "int" = none
  b_isinstance : mg "isinstance" = none
  b_len : mg "len" = none
  b_list : mg "list" = none
  b_max : mg "max" = none
  b_min : mg "min" = none
  b_range : mg "range" = none
  b_sorted : mg "sorted" = none
  b_str : mg "str" = none
  b_tuple : mg "tuple" = none
section
variable {P : Program} {w : World} {K : PySem.W.Frag} {mg : Str → Option Value} {base : Heap}
-- is_whole
def v_is_whole (value_0 : Int) : Bool := ((!false))
def m_is_whole (value_0 : Int) : Option Bool := some (v_is_whole value_0)
def R_is_whole (ds : List D) (r : RK) : Prop := (∃ (value_0 : Int) (x : Bool), ds = [enc value_0] ∧ m_is_whole value_0 = some x ∧ r = (.val (enc (x : Bool))))
theorem r_is_whole (value_0 : Int) (x : Bool) (h : m_is_whole value_0 = some x) : R_is_whole [enc value_0] (.val (enc (x : Bool))) := ⟨value_0, x, rfl, h, rfl⟩
theorem ok_is_whole (T : Top K mg) : FnOk P w K mg base CX0 1 T.a_is_whole T.d_is_whole ["value"] (sp0 K R_is_whole) := by
  refine fn0 T.F_is_whole sc_is_whole (fun ds r h => ?_) (fun cdv A outer s H E hr => ?_)
  · obtain ⟨value_0, x, rfl, h, rfl⟩ := h; rfl
  · refine ⟨_, (pss_cons (ps_ret (pe_and (pe_callB (kx_call_isi (K := K)) (by rfl) T.b_isinstance (by decide +kernel) (pa_cons (pv 0) (pa_cons (kx_ty (T := "int") (by rfl) T.b_int (by decide +kernel)) pa_nil))) (pe_one (pe_not (pe_callB (kx_call_isi (K := K)) (by rfl) T.b_isinstance (by decide +kernel) (pa_cons (pv 0) (pa_cons (kx_ty (T := "bool") (by rfl) T.b_bool (by decide +kernel)) pa_nil)))))))
      pss_nil), ?_⟩
    rintro G ds r ⟨value_0, x, rfl, h, rfl⟩
    refine Fin0.rt (S' := [.any]) [.val (enc (value_0 : Int))] rfl ?_
    exact q_ret (vs := [0]) (Ev.to (a := ((!false) : Bool)) (ev_andG (ev_isi (b := true) rfl (ev_var rfl)) (fun _ => (ev_notV (ev_isi (b := false) rfl (ev_var rfl)))) (fun e => nomatch e)) h) (by rfl)
-- are_wholes
def m_are_wholes_1 (value_0 : (List Int)) : Option Bool := (lenO value_0).bind fun u_1 => some (((((value_0).map fun a_2 => (v_is_whole a_2))).all id))
def m_are_wholes_2 (value_0 : Unit) : Option Bool := some (false)
def R_are_wholes (ds : List D) (r : RK) : Prop := (∃ (value_0 : (List Int)) (x : Bool), ds = [enc value_0] ∧ m_are_wholes_1 value_0 = some x ∧ r = (.val (enc (x : Bool)))) ∨ (∃ (value_0 : Unit) (x : Bool), ds = [enc value_0] ∧ m_are_wholes_2 value_0 = some x ∧ r = (.val (enc (x : Bool))))
theorem r_are_wholes_1 (value_0 : (List Int)) (x : Bool) (h : m_are_wholes_1 value_0 = some x) : R_are_wholes [enc value_0] (.val (enc (x : Bool))) := .inl ⟨value_0, x, rfl, h, rfl⟩
theorem r_are_wholes_2 (value_0 : Unit) (x : Bool) (h : m_are_wholes_2 value_0 = some x) : R_are_wholes [enc value_0] (.val (enc (x : Bool))) := .inr (⟨value_0, x, rfl, h, rfl⟩)
theorem ok_are_wholes (T : Top K mg) : FnOk P w K mg base CX0 2 T.a_are_wholes T.d_are_wholes ["value"] (sp0 K R_are_wholes) := by
  refine fn0 T.F_are_wholes sc_are_wholes (fun ds r h => ?_) (fun cdv A outer s H E hr => ?_)
  · rcases h with ⟨value_0, x, rfl, h, rfl⟩ | ⟨value_0, x, rfl, h, rfl⟩ <;> rfl
  · refine ⟨_, (pss_cons (ps_if (pt_not (pt_val (pe_callB (kx_call_isi (K := K)) (by rfl) T.b_isinstance (by decide +kernel) (pa_cons (pv 0) (pa_cons (kx_ty (T := "list") (by rfl) T.b_list (by decide +kernel)) pa_nil))))) (pss_cons (ps_ret pe_bl)
      pss_nil) pss_nil)
      (pss_cons (ps_ret (pe_callB (kx_cr_all (K := K) rfl) (by rfl) T.b_all (by decide +kernel) (pa_cons (pe_lc (own := [("number", 1)]) rfl sc_are_wholes.nd (kx_pi_list (K := K) (pv 0)) (blkOk_by (own := [("number", 1)]) (N := nm_are_wholes) (sc := defScope s_are_wholes) (by decide +kernel)) (fun _ _ _ _ _ => (pg_name (i := 1) sc_are_wholes.nd rfl (.inl rfl))) (fun _ _ _ _ _ => pts_nil) (fun _ _ _ _ _ => (pe_call (ok_is_whole T) (hr.mono (by decide)) (by rfl) T.g_is_whole T.k_is_whole (bd_is_whole T.F_is_whole) .nil pass0 (pa_cons (pv 1) pa_nil)))) pa_nil)))
      pss_nil)), ?_⟩
    rintro G ds r h
    rcases h with ⟨value_0, x, rfl, h, rfl⟩ | ⟨value_0, x, rfl, h, rfl⟩
    · refine Fin0.rt (S' := [.any, .any]) [.val (enc (value_0 : (List Int))), .any] rfl ?_
      refine bs_ifS (eb_not (eb_tB (ev_isi (b := true) rfl (ev_var rfl)))) (fun e => nomatch e) (fun _ => ?_)
      refine bs_next ?_
      obtain ⟨u_1, h_u_1, h⟩ := bnd h
      exact q_ret (vs := [0]) (Ev.to (a := (((((value_0).map fun a_2 => (v_is_whole a_2))).all id) : Bool)) (ev_all ((evn_cmp0 (f := fun a_2 => (v_is_whole a_2)) (lenO_of h_u_1) (src_listT (ev_var rfl)) (fun a_2 G _ => tg_nm) (fun a_2 G _ => (ev_call (ea_cons (ev_var rfl) ea_nil) (r_is_whole a_2 (v_is_whole a_2) rfl))))).fz) h) (by rfl)
    · refine Fin0.rt (S' := [.any, .any]) [.val (enc (value_0 : Unit)), .any] rfl ?_
      refine bs_ifS (eb_not (eb_tB (ev_isi (b := false) rfl (ev_var rfl)))) (fun _ => ?_) (fun e => nomatch e)
      refine bs_assoc ?_
      exact q_ret (vs := [0]) (Ev.to (a := (false : Bool)) ev_bl h) (by rfl)
-- are_between
def m_are_between_1 (value_0 : (List Int)) (least_0 : Int) (most_0 : Int) : Option Bool := (m_are_wholes_1 value_0).bind fun c_1 => cond (!c_1) (some (false)) ((lenO value_0).bind fun u_2 => some (((((value_0).map fun a_3 => (decide (least_0 ≤ a_3) && decide (a_3 ≤ most_0)))).all id)))
def m_are_between_2 (value_0 : Unit) (least_0 : Int) (most_0 : Int) : Option Bool := some (false)
def R_are_between (ds : List D) (r : RK) : Prop := (∃ (value_0 : (List Int)) (least_0 : Int) (most_0 : Int) (x : Bool), ds = [enc value_0, enc least_0, enc most_0] ∧ m_are_between_1 value_0 least_0 most_0 = some x ∧ r = (.val (enc (x : Bool)))) ∨ (∃ (value_0 : Unit) (least_0 : Int) (most_0 : Int) (x : Bool), ds = [enc value_0, enc least_0, enc most_0] ∧ m_are_between_2 value_0 least_0 most_0 = some x ∧ r = (.val (enc (x : Bool))))
theorem r_are_between_1 (value_0 : (List Int)) (least_0 : Int) (most_0 : Int) (x : Bool) (h : m_are_between_1 value_0 least_0 most_0 = some x) : R_are_between [enc value_0, enc least_0, enc most_0] (.val (enc (x : Bool))) := .inl ⟨value_0, least_0, most_0, x, rfl, h, rfl⟩
theorem r_are_between_2 (value_0 : Unit) (least_0 : Int) (most_0 : Int) (x : Bool) (h : m_are_between_2 value_0 least_0 most_0 = some x) : R_are_between [enc value_0, enc least_0, enc most_0] (.val (enc (x : Bool))) := .inr (⟨value_0, least_0, most_0, x, rfl, h, rfl⟩)
theorem ok_are_between (T : Top K mg) : FnOk P w K mg base CX0 3 T.a_are_between T.d_are_between ["value", "least", "most"] (sp0 K R_are_between) := by
  refine fn0 T.F_are_between sc_are_between (fun ds r h => ?_) (fun cdv A outer s H E hr => ?_)
  · rcases h with ⟨value_0, least_0, most_0, x, rfl, h, rfl⟩ | ⟨value_0, least_0, most_0, x, rfl, h, rfl⟩ <;> rfl
  · refine ⟨_, (pss_cons (ps_if (pt_not (pt_val (pe_call (ok_are_wholes T) (hr.mono (by decide)) (by rfl) T.g_are_wholes T.k_are_wholes (bd_are_wholes T.F_are_wholes) .nil pass0 (pa_cons (pv 0) pa_nil)))) (pss_cons (ps_ret pe_bl)
      pss_nil) pss_nil)
      (pss_cons (ps_ret (pe_callB (kx_cr_all (K := K) rfl) (by rfl) T.b_all (by decide +kernel) (pa_cons (pe_lc (own := [("number", 3)]) rfl sc_are_between.nd (kx_pi_list (K := K) (pv 0)) (blkOk_by (own := [("number", 3)]) (N := nm_are_between) (sc := defScope s_are_between) (by decide +kernel)) (fun _ _ _ _ _ => (pg_name (i := 3) sc_are_between.nd rfl (.inl rfl))) (fun _ _ _ _ _ => pts_nil) (fun _ _ _ _ _ => (pe_chain op_le op_le (pv 1) (pv 3) (pv 2)))) pa_nil)))
      pss_nil)), ?_⟩
    rintro G ds r h
    rcases h with ⟨value_0, least_0, most_0, x, rfl, h, rfl⟩ | ⟨value_0, least_0, most_0, x, rfl, h, rfl⟩
    · refine Fin0.rt (S' := [.any, .any, .any, .any]) [.val (enc (value_0 : (List Int))), .val (enc (least_0 : Int)), .val (enc (most_0 : Int)), .any] rfl ?_
      obtain ⟨c_1, h_c_1, h⟩ := bnd h
      refine bs_ifS (eb_not (eb_tB (ev_call (ea_cons (ev_var rfl) ea_nil) (r_are_wholes_1 value_0 c_1 h_c_1)))) (fun e => ?_) (fun e => ?_)
      · replace h := condT h e
        refine bs_assoc ?_
        exact q_ret (vs := [0, 1, 2]) (Ev.to (a := (false : Bool)) ev_bl h) (by rfl)
      · replace h := condF h e
        refine bs_next ?_
        obtain ⟨u_2, h_u_2, h⟩ := bnd h
        exact q_ret (vs := [0, 1, 2]) (Ev.to (a := (((((value_0).map fun a_3 => (decide (least_0 ≤ a_3) && decide (a_3 ≤ most_0)))).all id) : Bool)) (ev_all ((evn_cmp0 (f := fun a_3 => (decide (least_0 ≤ a_3) && decide (a_3 ≤ most_0))) (lenO_of h_u_2) (src_listT (ev_var rfl)) (fun a_3 G _ => tg_nm) (fun a_3 G _ => (ev_chain (ev_var rfl) (ev_var rfl) (ov_le (K := K)) (fun _ => (ev_var rfl)) (fun _ => ov_le (K := K)))))).fz) h) (by rfl)
    · refine Fin0.rt (S' := [.any, .any, .any, .any]) [.val (enc (value_0 : Unit)), .val (enc (least_0 : Int)), .val (enc (most_0 : Int)), .any] rfl ?_
      refine bs_ifS (eb_not (eb_tB (ev_call (ea_cons (ev_var rfl) ea_nil) (r_are_wholes_2 value_0 false rfl)))) (fun _ => ?_) (fun e => nomatch e)
      refine bs_assoc ?_
      exact q_ret (vs := [0, 1, 2]) (Ev.to (a := (false : Bool)) ev_bl h) (by rfl)
-- tie_of
def v_tie_of (i_0 : Int) (j_0 : Int) : (Int × Int) := (((min i_0 j_0), (max i_0 j_0)))
def m_tie_of (i_0 : Int) (j_0 : Int) : Option (Int × Int) := some (v_tie_of i_0 j_0)
def R_tie_of (ds : List D) (r : RK) : Prop := (∃ (i_0 : Int) (j_0 : Int) (x : (Int × Int)), ds = [enc i_0, enc j_0] ∧ m_tie_of i_0 j_0 = some x ∧ r = (.val (enc (x : (Int × Int)))))
theorem r_tie_of (i_0 : Int) (j_0 : Int) (x : (Int × Int)) (h : m_tie_of i_0 j_0 = some x) : R_tie_of [enc i_0, enc j_0] (.val (enc (x : (Int × Int)))) := ⟨i_0, j_0, x, rfl, h, rfl⟩
theorem ok_tie_of (T : Top K mg) : FnOk P w K mg base CX0 1 T.a_tie_of T.d_tie_of ["i", "j"] (sp0 K R_tie_of) := by
  refine fn0 T.F_tie_of sc_tie_of (fun ds r h => ?_) (fun cdv A outer s H E hr => ?_)
  · obtain ⟨i_0, j_0, x, rfl, h, rfl⟩ := h; rfl
  · refine ⟨_, (pss_cons (ps_ret (pe_tup (pa_cons (pe_callB (call_min2 rfl) (by rfl) T.b_min (by decide +kernel) (pa_cons (pv 0) (pa_cons (pv 1) pa_nil))) (pa_cons (pe_callB (call_max2 rfl) (by rfl) T.b_max (by decide +kernel) (pa_cons (pv 0) (pa_cons (pv 1) pa_nil))) pa_nil))))
      pss_nil), ?_⟩
    rintro G ds r ⟨i_0, j_0, x, rfl, h, rfl⟩
    refine Fin0.rt (S' := [.any, .any]) [.val (enc (i_0 : Int)), .val (enc (j_0 : Int))] rfl ?_
    exact q_ret (vs := [0, 1]) (Ev.to (a := (((min i_0 j_0), (max i_0 j_0)) : (Int × Int))) (ev_tup (ea_cons (ev_min2 (ev_var rfl) (ev_var rfl)) (ea_cons (ev_max2 (ev_var rfl) (ev_var rfl)) ea_nil))) h) (by rfl)
-- are_joined
def v_are_joined (ties_0 : (List (Int × Int))) (i_0 : Int) (j_0 : Int) : Bool := ((inB (v_tie_of i_0 j_0) ties_0))
def m_are_joined (ties_0 : (List (Int × Int))) (i_0 : Int) (j_0 : Int) : Option Bool := some (v_are_joined ties_0 i_0 j_0)
def R_are_joined (ds : List D) (r : RK) : Prop := (∃ (ties_0 : (List (Int × Int))) (i_0 : Int) (j_0 : Int) (x : Bool), ds = [enc ties_0, enc i_0, enc j_0] ∧ m_are_joined ties_0 i_0 j_0 = some x ∧ r = (.val (enc (x : Bool))))
theorem r_are_joined (ties_0 : (List (Int × Int))) (i_0 : Int) (j_0 : Int) (x : Bool) (h : m_are_joined ties_0 i_0 j_0 = some x) : R_are_joined [enc ties_0, enc i_0, enc j_0] (.val (enc (x : Bool))) := ⟨ties_0, i_0, j_0, x, rfl, h, rfl⟩
theorem ok_are_joined (T : Top K mg) : FnOk P w K mg base CX0 2 T.a_are_joined T.d_are_joined ["ties", "i", "j"] (sp0 K R_are_joined) := by
  refine fn0 T.F_are_joined sc_are_joined (fun ds r h => ?_) (fun cdv A outer s H E hr => ?_)
  · obtain ⟨ties_0, i_0, j_0, x, rfl, h, rfl⟩ := h; rfl
  · refine ⟨_, (pss_cons (ps_ret (pe_cmpR (kx_op_inD (K := K) (u65 hr)) (pe_call (ok_tie_of T) (hr.mono (by decide)) (by rfl) T.g_tie_of T.k_tie_of (bd_tie_of T.F_tie_of) .nil pass0 (pa_cons (pv 1) (pa_cons (pv 2) pa_nil))) (pv 0) (by with_unfolding_all rfl)))
      pss_nil), ?_⟩
    rintro G ds r ⟨ties_0, i_0, j_0, x, rfl, h, rfl⟩
    refine Fin0.rt (S' := [.any, .any, .any]) [.val (enc (ties_0 : (List (Int × Int)))), .val (enc (i_0 : Int)), .val (enc (j_0 : Int))] rfl ?_
    exact q_ret (vs := [0, 1, 2]) (Ev.to (a := ((inB (v_tie_of i_0 j_0) ties_0) : Bool)) (ev_inT (a := ((v_tie_of i_0 j_0) : (Int × Int))) (xs := ties_0) (ev_call (ea_cons (ev_var rfl) (ea_cons (ev_var rfl) ea_nil)) (r_tie_of i_0 j_0 (v_tie_of i_0 j_0) rfl)) (ev_var rfl)) h) (by rfl)
-- neighbours
def m_neighbours (n_0 : Int) (ties_0 : (List (Int × Int))) (i_0 : Int) : Option (List Int) := (rngO 0 n_0).bind fun r_1 => some ((((r_1).filter fun a_2 => (v_are_joined ties_0 i_0 a_2)).map fun a_2 => a_2))
def R_neighbours (ds : List D) (r : RK) : Prop := (∃ (n_0 : Int) (ties_0 : (List (Int × Int))) (i_0 : Int) (x : (List Int)), ds = [enc n_0, enc ties_0, enc i_0] ∧ m_neighbours n_0 ties_0 i_0 = some x ∧ r = (.new (lst (x : (List Int)))))
theorem r_neighbours (n_0 : Int) (ties_0 : (List (Int × Int))) (i_0 : Int) (x : (List Int)) (h : m_neighbours n_0 ties_0 i_0 = some x) : R_neighbours [enc n_0, enc ties_0, enc i_0] (.new (lst (x : (List Int)))) := ⟨n_0, ties_0, i_0, x, rfl, h, rfl⟩
theorem ok_neighbours (T : Top K mg) : FnOk P w K mg base CX0 3 T.a_neighbours T.d_neighbours ["n", "ties", "i"] (sp0 K R_neighbours) := by
  refine fn0 T.F_neighbours sc_neighbours (fun ds r h => ?_) (fun cdv A outer s H E hr => ?_)
  · obtain ⟨n_0, ties_0, i_0, x, rfl, h, rfl⟩ := h; rfl
  · refine ⟨_, (pss_cons (ps_ret (pe_lc (own := [("j", 3)]) rfl sc_neighbours.nd (pi_range1 rfl T.b_range (pa_cons (pv 0) pa_nil)) (blkOk_by (own := [("j", 3)]) (N := nm_neighbours) (sc := defScope s_neighbours) (by decide +kernel)) (fun _ _ _ _ _ => (pg_name (i := 3) sc_neighbours.nd rfl (.inl rfl))) (fun _ _ _ _ _ => (pts_one (pt_val (pe_call (ok_are_joined T) (hr.mono (by decide)) (by rfl) T.g_are_joined T.k_are_joined (bd_are_joined T.F_are_joined) .nil pass0 (pa_cons (pv 1) (pa_cons (pv 2) (pa_cons (pv 3) pa_nil))))))) (fun _ _ _ _ _ => (pv 3))))
      pss_nil), ?_⟩
    rintro G ds r ⟨n_0, ties_0, i_0, x, rfl, h, rfl⟩
    refine Fin0.rt (S' := [.any, .any, .any, .any]) [.val (enc (n_0 : Int)), .val (enc (ties_0 : (List (Int × Int)))), .val (enc (i_0 : Int)), .any] rfl ?_
    obtain ⟨r_1, h_r_1, h⟩ := bnd h
    exact q_retN (vs := [0, 1, 2]) (EvN.to (xs := ((((r_1).filter fun a_2 => (v_are_joined ties_0 i_0 a_2)).map fun a_2 => a_2) : (List Int))) (evn_cmp (p := fun a_2 => (v_are_joined ties_0 i_0 a_2)) (f := fun a_2 => a_2) (rngO_len h_r_1) (src_rng1 h_r_1 (ev_var rfl)) (fun a_2 G _ => tg_nm) (fun a_2 G _ => (eb_tB (ev_call (ea_cons (ev_var rfl) (ea_cons (ev_var rfl) (ea_cons (ev_var rfl) ea_nil))) (r_are_joined ties_0 i_0 a_2 (v_are_joined ties_0 i_0 a_2) rfl)))) (fun a_2 G _ _ => (ev_var rfl))) h) (by rfl)
-- part_from
def m_part_from (ties_0 : (List (Int × Int))) (place_0 : Int) : Option (List Int) := (some ([place_0] : (List Int))).bind fun row_1 => (some (0 : Int)).bind fun at_2 => (whileL (fun (s_3 : ((List Int) × Int)) => some (decide (s_3.2 < ((s_3.1).length : Int)))) (fun s_3 => (lenO ties_0).bind fun u_5 => (forL (fun (a_7 : (Int × Int)) (s_6 : (List Int)) => (atI s_6 s_3.2).bind fun x_8 => cond (inB x_8 ([a_7.1, a_7.2] : List Int)) ((atI s_6 s_3.2).bind fun x_9 => (some ((a_7.1 + a_7.2) - x_9)).bind fun other_10 => cond (!inB other_10 s_6) ((appO s_6 other_10).bind fun row_11 => some row_11) (some s_6)) (some s_6)) (ties_0) s_3.1).bind fun r_12 => (some (s_3.2 + (1 : Int))).bind fun at_13 => some (r_12, at_13)) wFuel (row_1, at_2)).bind fun r_15 => some ((srtI r_15.1))
def R_part_from (ds : List D) (r : RK) : Prop := (∃ (ties_0 : (List (Int × Int))) (place_0 : Int) (x : (List Int)), ds = [enc ties_0, enc place_0] ∧ m_part_from ties_0 place_0 = some x ∧ r = (.new (lst (x : (List Int)))))
theorem r_part_from (ties_0 : (List (Int × Int))) (place_0 : Int) (x : (List Int)) (h : m_part_from ties_0 place_0 = some x) : R_part_from [enc ties_0, enc place_0] (.new (lst (x : (List Int)))) := ⟨ties_0, place_0, x, rfl, h, rfl⟩
theorem ok_part_from (T : Top K mg) : FnOk P w K mg base CX0 1 T.a_part_from T.d_part_from ["ties", "place"] (sp0 K R_part_from) := by
  refine fn0 T.F_part_from sc_part_from (fun ds r h => ?_) (fun cdv A outer s H E hr => ?_)
  · obtain ⟨ties_0, place_0, x, rfl, h, rfl⟩ := h; rfl
  · refine ⟨_, (pss_cons (ps_set (i := 2) sc_part_from.nd rfl (.inl rfl) (pe_lst (pa_cons (pv 1) pa_nil)))
      (pss_cons (ps_set (i := 3) sc_part_from.nd rfl (.inl rfl) pe_int)
      (pss_cons (ps_while PassesOwn.never (pt_cmpR op_lt (pv 3) (pe_callB (kx_call_len_seq (K := K)) (by rfl) T.b_len (by decide +kernel) (pa_cons (pv 2) pa_nil)) (nomark _)) (pss_cons (ps_for PassesOwn.never rfl (kx_pi_list (K := K) (pv 0)) (kx_pg_tup (K := K) (by rfl) (pgs_cons (pg_name (i := 4) sc_part_from.nd rfl (.inl rfl)) (pgs_cons (pg_name (i := 5) sc_part_from.nd rfl (.inl rfl)) pgs_nil))) (pss_cons (ps_if (pt_cmpR (kx_op_in_seq (K := K)) (pe_ix (kx_ix_list (K := K)) (pv 2) (pv 3) (fun _ _ => rfl)) (pe_tup (pa_cons (pv 4) (pa_cons (pv 5) pa_nil))) (by with_unfolding_all rfl)) (pss_cons (ps_set (i := 6) sc_part_from.nd rfl (.inl rfl) (pe_op op_sub (pe_op op_add (pv 4) (pv 5)) (pe_ix (kx_ix_list (K := K)) (pv 2) (pv 3) (fun _ _ => rfl))))
      (pss_cons (ps_if (pt_cmpR (kx_op_notInD (K := K) (u65 hr)) (pv 6) (pv 2) (by with_unfolding_all rfl)) (pss_cons (ps_expr (kx_pe_bm (K := K) PySem.F.plainAttrs_list PySem.F.slot_list_append PySem.F.type_list_append mt_append (pv 2) (pa_cons (pv 6) pa_nil)))
      pss_nil) pss_nil)
      pss_nil)) pss_nil)
      pss_nil))
      (pss_cons (ps_aug (i := 3) sc_part_from.nd rfl (.inl rfl) pe_int ip_add)
      pss_nil)))
      (pss_cons (ps_ret (pe_callB (kx_cr_sortedI (K := K)) (by rfl) T.b_sorted (by decide +kernel) (pa_cons (pv 2) pa_nil)))
      pss_nil)))), ?_⟩
    rintro G ds r ⟨ties_0, place_0, x, rfl, h, rfl⟩
    refine Fin0.rt (S' := [.any, .any, .any, .any, .any, .any, .any]) [.val (enc (ties_0 : (List (Int × Int)))), .val (enc (place_0 : Int)), .any, .any, .any, .any, .any] rfl ?_
    obtain ⟨row_1, h_row_1, h⟩ := bnd h
    refine q_asgN (EvN.to (evn_lstT (xs := ([place_0] : (List Int))) (ea_cons (ev_var rfl) ea_nil) rfl) h_row_1) ?_
    obtain ⟨at_2, h_at_2, h⟩ := bnd h
    refine q_asg (Ev.to ev_int h_at_2) ?_
    obtain ⟨r_15, h_r_15, h⟩ := bnd h
    refine bs_whileL (St := fun (s_3 : ((List Int) × Int)) => [.val (enc (ties_0 : (List (Int × Int)))), .val (enc (place_0 : Int)), .own (lst (s_3.1 : (List Int))), .val (enc (s_3.2 : Int)), .any, .any, .any]) rfl h_r_15 (fun s_3 b h => by exact EvB.to (eb_tmp fun G => (eb_test (ev_lt (ev_var rfl) (ev_lenT (ev_var rfl))))) h) (fun s_3 y_16 _ h => ?_) ?_
    · obtain ⟨u_5, h_u_5, h⟩ := bnd h
      obtain ⟨r_12, h_r_12, h⟩ := bnd h
      refine bs_forL (α := (Int × Int)) (en := enc) (St := fun (s_6 : (List Int)) => [.val (enc (ties_0 : (List (Int × Int)))), .val (enc (place_0 : Int)), .own (lst (s_6 : (List Int))), .val (enc (s_3.2 : Int)), .any, .any, .any]) (src_listT (ev_var rfl)) rfl h_r_12 (fun a_7 s_6 _ => (tg_tup2 tg_nm tg_nm)) (fun a_7 s_6 y_14 _ h => ?_) ?_
      · obtain ⟨x_8, h_x_8, h⟩ := bnd h
        refine bs_ifS (eb_tmp fun G => (eb_test (ev_inTupI (xs := [a_7.1, a_7.2]) (ev_ixLT h_x_8 (ev_var rfl) (ev_var rfl)) (ev_tup (ea_cons (ev_var rfl) (ea_cons (ev_var rfl) ea_nil))) rfl))) (fun e => ?_) (fun e => ?_)
        · replace h := condT h e
          refine bs_assoc ?_
          obtain ⟨x_9, h_x_9, h⟩ := bnd h
          obtain ⟨other_10, h_other_10, h⟩ := bnd h
          refine q_asg (Ev.to (ev_tmpT fun G => (ev_sub (ev_add (ev_var rfl) (ev_var rfl)) (ev_ixLT h_x_9 (ev_var rfl) (ev_var rfl)))) h_other_10) ?_
          refine bs_assoc ?_
          refine bs_ifS (eb_tmp fun G => (eb_test (ev_niT (a := (other_10 : Int)) (xs := s_6) (ev_var rfl) (ev_var rfl)))) (fun e => ?_) (fun e => ?_)
          · replace h := condT h e
            refine bs_assoc ?_
            obtain ⟨row_11, h_row_11, h⟩ := bnd h
            refine q_app h_row_11 rfl rfl (ev_var rfl) rfl rfl ?_
            refine bs_next ?_
            refine bs_next ?_
            cases h
            exact q_nilc (vs := [4, 5, 6]) rfl
          · replace h := condF h e
            refine bs_next ?_
            refine bs_next ?_
            cases h
            exact q_nilc (vs := [4, 5, 6]) rfl
        · replace h := condF h e
          refine bs_next ?_
          cases h
          exact q_nilc (vs := [4, 5]) rfl
      obtain ⟨at_13, h_at_13, h⟩ := bnd h
      refine q_augT h_at_13 rfl ev_int ?_
      cases h
      exact q_nilc (vs := []) rfl
    exact q_retN (vs := [0, 1, 2, 3]) (EvN.to (xs := ((srtI r_15.1) : (List Int))) (evn_tmpT fun G => (evn_srtI (ev_var rfl))) h) (by rfl)
-- parts_of
def m_parts_of (n_0 : Int) (ties_0 : (List (Int × Int))) : Option (List (List Int)) := (some ([] : (List (List Int)))).bind fun parts_1 => (rngO 0 n_0).bind fun r_2 => (forL (fun (a_4 : Int) (s_3 : (List (List Int))) => (lenO s_3).bind fun u_5 => cond (!((((s_3).map fun a_6 => (inB a_4 a_6))).any id)) ((m_part_from ties_0 a_4).bind fun c_7 => (appO s_3 c_7).bind fun parts_8 => some parts_8) (some s_3)) (r_2) parts_1).bind fun r_9 => some (r_9)
def R_parts_of (ds : List D) (r : RK) : Prop := (∃ (n_0 : Int) (ties_0 : (List (Int × Int))) (x : (List (List Int))), ds = [enc n_0, enc ties_0] ∧ m_parts_of n_0 ties_0 = some x ∧ r = (.new (lst (x : (List (List Int))))))
theorem r_parts_of (n_0 : Int) (ties_0 : (List (Int × Int))) (x : (List (List Int))) (h : m_parts_of n_0 ties_0 = some x) : R_parts_of [enc n_0, enc ties_0] (.new (lst (x : (List (List Int))))) := ⟨n_0, ties_0, x, rfl, h, rfl⟩
theorem ok_parts_of (T : Top K mg) : FnOk P w K mg base CX0 2 T.a_parts_of T.d_parts_of ["n", "ties"] (sp0 K R_parts_of) := by
  refine fn0 T.F_parts_of sc_parts_of (fun ds r h => ?_) (fun cdv A outer s H E hr => ?_)
  · obtain ⟨n_0, ties_0, x, rfl, h, rfl⟩ := h; rfl
  · refine ⟨_, (pss_cons (ps_set (i := 2) sc_parts_of.nd rfl (.inl rfl) (pe_lst pa_nil))
      (pss_cons (ps_for PassesOwn.never rfl (pi_range1 rfl T.b_range (pa_cons (pv 0) pa_nil)) (pg_name (i := 3) sc_parts_of.nd rfl (.inr rfl)) (pss_cons (ps_if (pt_not (pt_val (pe_callB (kx_cr_any (K := K) rfl) (by rfl) T.b_any (by decide +kernel) (pa_cons (pe_lc (own := [("part", 4)]) rfl sc_parts_of.nd (kx_pi_list (K := K) (pv 2)) (blkOk_by (own := [("part", 4)]) (N := nm_parts_of) (sc := defScope s_parts_of) (by decide +kernel)) (fun _ _ _ _ _ => (pg_name (i := 4) sc_parts_of.nd rfl (.inl rfl))) (fun _ _ _ _ _ => pts_nil) (fun _ _ _ _ _ => (pe_cmpR (kx_op_inD (K := K) (u65 hr)) (pv 3) (pv 4) (by with_unfolding_all rfl)))) pa_nil)))) (pss_cons (ps_expr (kx_pe_bm (K := K) PySem.F.plainAttrs_list PySem.F.slot_list_append PySem.F.type_list_append mt_append (pv 2) (pa_cons (pe_call (ok_part_from T) (hr.mono (by decide)) (by rfl) T.g_part_from T.k_part_from (bd_part_from T.F_part_from) .nil pass0 (pa_cons (pv 1) (pa_cons (pv 3) pa_nil))) pa_nil)))
      pss_nil) pss_nil)
      pss_nil))
      (pss_cons (ps_ret (pv 2))
      pss_nil))), ?_⟩
    rintro G ds r ⟨n_0, ties_0, x, rfl, h, rfl⟩
    refine Fin0.rt (S' := [.any, .any, .any, .any, .any]) [.val (enc (n_0 : Int)), .val (enc (ties_0 : (List (Int × Int)))), .any, .any, .any] rfl ?_
    obtain ⟨parts_1, h_parts_1, h⟩ := bnd h
    refine q_asgN (EvN.to (evn_lstT (xs := ([] : (List (List Int)))) ea_nil rfl) h_parts_1) ?_
    obtain ⟨r_2, h_r_2, h⟩ := bnd h
    obtain ⟨r_9, h_r_9, h⟩ := bnd h
    refine bs_forL (α := Int) (en := enc) (St := fun (s_3 : (List (List Int))) => [.val (enc (n_0 : Int)), .val (enc (ties_0 : (List (Int × Int)))), .own (lst (s_3 : (List (List Int)))), .any, .any]) (src_rng1 h_r_2 (ev_var rfl)) rfl h_r_9 (fun a_4 s_3 _ => tg_nm) (fun a_4 s_3 y_10 _ h => ?_) ?_
    · obtain ⟨u_5, h_u_5, h⟩ := bnd h
      refine bs_ifS (eb_tmp fun G => (eb_not (eb_tB (ev_any ((evn_cmp0 (f := fun a_6 => (inB a_4 a_6)) (lenO_of h_u_5) (src_listT (ev_var rfl)) (fun a_6 G _ => tg_nm) (fun a_6 G _ => (ev_inT (a := (a_4 : Int)) (xs := a_6) (ev_var rfl) (ev_var rfl))))).fz)))) (fun e => ?_) (fun e => ?_)
      · replace h := condT h e
        refine bs_assoc ?_
        obtain ⟨c_7, h_c_7, h⟩ := bnd h
        obtain ⟨parts_8, h_parts_8, h⟩ := bnd h
        refine q_app h_parts_8 rfl rfl ((evn_call (ea_cons (ev_var rfl) (ea_cons (ev_var rfl) ea_nil)) (r_part_from ties_0 a_4 c_7 h_c_7))).fz rfl rfl ?_
        refine bs_next ?_
        cases h
        exact q_nilc (vs := [3]) rfl
      · replace h := condF h e
        refine bs_next ?_
        cases h
        exact q_nilc (vs := [3]) rfl
    cases h
    exact q_retO (vs := [0, 1]) rfl rfl
-- ways_back
def m_ways_back (n_0 : Int) (ties_0 : (List (Int × Int))) : Option (List (Int × (List Int))) := (some ([] : (List (Int × (List Int))))).bind fun ways_1 => (m_parts_of n_0 ties_0).bind fun c_2 => (lenO c_2).bind fun u_3 => (forL (fun (a_5 : (List Int)) (s_4 : (List (Int × (List Int)))) => (atI a_5 (0 : Int)).bind fun x_6 => (atI a_5 (0 : Int)).bind fun x_7 => (dputO s_4 x_7 ([x_6] : (List Int))).bind fun ways_8 => (atI a_5 (0 : Int)).bind fun x_9 => (some ([x_9] : (List Int))).bind fun row_10 => (some (0 : Int)).bind fun at_11 => (whileL (fun (s_12 : ((List (Int × (List Int))) × (List Int) × Int)) => some (decide (s_12.2.2 < ((s_12.2.1).length : Int)))) (fun s_12 => (atI s_12.2.1 s_12.2.2).bind fun x_14 => (m_neighbours n_0 ties_0 x_14).bind fun c_15 => (lenO c_15).bind fun u_16 => (forL (fun (a_18 : Int) (s_17 : ((List (Int × (List Int))) × (List Int))) => cond (!(aget s_17.1 a_18).isSome) ((atI s_17.2 s_12.2.2).bind fun x_19 => (aget s_17.1 x_19).bind fun x_20 => (catO x_20 ([a_18] : (List Int))).bind fun x_21 => (dputO s_17.1 a_18 x_21).bind fun ways_22 => (appO s_17.2 a_18).bind fun row_23 => some (ways_22, row_23)) (some (s_17.1, s_17.2))) (c_15) (s_12.1, s_12.2.1)).bind fun r_24 => (some (s_12.2.2 + (1 : Int))).bind fun at_25 => some (r_24.1, r_24.2, at_25)) wFuel (ways_8, row_10, at_11)).bind fun r_27 => some r_27.1) (c_2) ways_1).bind fun r_29 => some (r_29)
def R_ways_back (ds : List D) (r : RK) : Prop := (∃ (n_0 : Int) (ties_0 : (List (Int × Int))) (x : (List (Int × (List Int)))), ds = [enc n_0, enc ties_0] ∧ m_ways_back n_0 ties_0 = some x ∧ r = (.new (dct (x : (List (Int × (List Int)))))))
theorem r_ways_back (n_0 : Int) (ties_0 : (List (Int × Int))) (x : (List (Int × (List Int)))) (h : m_ways_back n_0 ties_0 = some x) : R_ways_back [enc n_0, enc ties_0] (.new (dct (x : (List (Int × (List Int)))))) := ⟨n_0, ties_0, x, rfl, h, rfl⟩
theorem ok_ways_back (T : Top K mg) : FnOk P w K mg base CX0 4 T.a_ways_back T.d_ways_back ["n", "ties"] (sp0 K R_ways_back) := by
  refine fn0 T.F_ways_back sc_ways_back (fun ds r h => ?_) (fun cdv A outer s H E hr => ?_)
  · obtain ⟨n_0, ties_0, x, rfl, h, rfl⟩ := h; rfl
  · refine ⟨_, (pss_cons (ps_set (i := 2) sc_ways_back.nd rfl (.inl rfl) pe_dnewK)
      (pss_cons (ps_for PassesOwn.never rfl (kx_pi_list (K := K) (pe_call (ok_parts_of T) (hr.mono (by decide)) (by rfl) T.g_parts_of T.k_parts_of (bd_parts_of T.F_parts_of) .nil pass0 (pa_cons (pv 0) (pa_cons (pv 1) pa_nil)))) (pg_name (i := 3) sc_ways_back.nd rfl (.inl rfl)) (pss_cons (ps_dput (hu_of hr) (pv 2) (pe_ix (kx_ix_list (K := K)) (pv 3) pe_int (fun _ _ => rfl)) (pe_lst (pa_cons (pe_ix (kx_ix_list (K := K)) (pv 3) pe_int (fun _ _ => rfl)) pa_nil)) rfl)
      (pss_cons (ps_set (i := 4) sc_ways_back.nd rfl (.inl rfl) (pe_lst (pa_cons (pe_ix (kx_ix_list (K := K)) (pv 3) pe_int (fun _ _ => rfl)) pa_nil)))
      (pss_cons (ps_set (i := 5) sc_ways_back.nd rfl (.inl rfl) pe_int)
      (pss_cons (ps_while PassesOwn.never (pt_cmpR op_lt (pv 5) (pe_callB (kx_call_len_seq (K := K)) (by rfl) T.b_len (by decide +kernel) (pa_cons (pv 4) pa_nil)) (nomark _)) (pss_cons (ps_for PassesOwn.never rfl (kx_pi_list (K := K) (pe_call (ok_neighbours T) (hr.mono (by decide)) (by rfl) T.g_neighbours T.k_neighbours (bd_neighbours T.F_neighbours) .nil pass0 (pa_cons (pv 0) (pa_cons (pv 1) (pa_cons (pe_ix (kx_ix_list (K := K)) (pv 4) (pv 5) (fun _ _ => rfl)) pa_nil))))) (pg_name (i := 6) sc_ways_back.nd rfl (.inl rfl)) (pss_cons (ps_if (pt_cmp (pc_dnotin (hu_of hr) (pv 6) (pv 2))) (pss_cons (ps_dput (hu_of hr) (pv 2) (pv 6) (pe_op op_cat (pe_dget (hu_of hr) (pv 2) (pe_ix (kx_ix_list (K := K)) (pv 4) (pv 5) (fun _ _ => rfl)) (fun _ _ => rfl)) (pe_lst (pa_cons (pv 6) pa_nil))) rfl)
      (pss_cons (ps_expr (kx_pe_bm (K := K) PySem.F.plainAttrs_list PySem.F.slot_list_append PySem.F.type_list_append mt_append (pv 4) (pa_cons (pv 6) pa_nil)))
      pss_nil)) pss_nil)
      pss_nil))
      (pss_cons (ps_aug (i := 5) sc_ways_back.nd rfl (.inl rfl) pe_int ip_add)
      pss_nil)))
      pss_nil)))))
      (pss_cons (ps_ret (pv 2))
      pss_nil))), ?_⟩
    rintro G ds r ⟨n_0, ties_0, x, rfl, h, rfl⟩
    refine Fin0.rt (S' := [.any, .any, .any, .any, .any, .any, .any]) [.val (enc (n_0 : Int)), .val (enc (ties_0 : (List (Int × Int)))), .any, .any, .any, .any, .any] rfl ?_
    obtain ⟨ways_1, h_ways_1, h⟩ := bnd h
    refine q_asgN (EvN.toD (evn_dictT (β := (List Int))) h_ways_1) ?_
    obtain ⟨c_2, h_c_2, h⟩ := bnd h
    obtain ⟨u_3, h_u_3, h⟩ := bnd h
    obtain ⟨r_29, h_r_29, h⟩ := bnd h
    refine bs_forL (α := (List Int)) (en := enc) (St := fun (s_4 : (List (Int × (List Int)))) => [.val (enc (n_0 : Int)), .val (enc (ties_0 : (List (Int × Int)))), .own (dct (s_4 : (List (Int × (List Int))))), .any, .any, .any, .any]) (src_listT ((evn_call (ea_cons (ev_var rfl) (ea_cons (ev_var rfl) ea_nil)) (r_parts_of n_0 ties_0 c_2 h_c_2))).fz) rfl h_r_29 (fun a_5 s_4 _ => tg_nm) (fun a_5 s_4 y_30 _ h => ?_) ?_
    · obtain ⟨x_6, h_x_6, h⟩ := bnd h
      obtain ⟨x_7, h_x_7, h⟩ := bnd h
      obtain ⟨ways_8, h_ways_8, h⟩ := bnd h
      refine q_dput h_ways_8 ((evn_lstT (xs := ([x_6] : (List Int))) (ea_cons (ev_ixLT h_x_6 (ev_var rfl) ev_int) ea_nil) rfl)).fz rfl rfl (ev_ixLT h_x_7 (ev_var rfl) ev_int) rfl rfl ?_
      obtain ⟨x_9, h_x_9, h⟩ := bnd h
      obtain ⟨row_10, h_row_10, h⟩ := bnd h
      refine q_asgN (EvN.to (evn_lstT (xs := ([x_9] : (List Int))) (ea_cons (ev_ixLT h_x_9 (ev_var rfl) ev_int) ea_nil) rfl) h_row_10) ?_
      obtain ⟨at_11, h_at_11, h⟩ := bnd h
      refine q_asg (Ev.to ev_int h_at_11) ?_
      obtain ⟨r_27, h_r_27, h⟩ := bnd h
      refine bs_whileL (St := fun (s_12 : ((List (Int × (List Int))) × (List Int) × Int)) => [.val (enc (n_0 : Int)), .val (enc (ties_0 : (List (Int × Int)))), .own (dct (s_12.1 : (List (Int × (List Int))))), .val (enc (a_5 : (List Int))), .own (lst (s_12.2.1 : (List Int))), .val (enc (s_12.2.2 : Int)), .any]) rfl h_r_27 (fun s_12 b h => by exact EvB.to (eb_tmp fun G => (eb_test (ev_lt (ev_var rfl) (ev_lenT (ev_var rfl))))) h) (fun s_12 y_28 _ h => ?_) ?_
      · obtain ⟨x_14, h_x_14, h⟩ := bnd h
        obtain ⟨c_15, h_c_15, h⟩ := bnd h
        obtain ⟨u_16, h_u_16, h⟩ := bnd h
        obtain ⟨r_24, h_r_24, h⟩ := bnd h
        refine bs_forL (α := Int) (en := enc) (St := fun (s_17 : ((List (Int × (List Int))) × (List Int))) => [.val (enc (n_0 : Int)), .val (enc (ties_0 : (List (Int × Int)))), .own (dct (s_17.1 : (List (Int × (List Int))))), .val (enc (a_5 : (List Int))), .own (lst (s_17.2 : (List Int))), .val (enc (s_12.2.2 : Int)), .any]) (src_listT ((evn_tmpT fun G => (evn_call (ea_cons (ev_var rfl) (ea_cons (ev_var rfl) (ea_cons (ev_ixLT h_x_14 (ev_var rfl) (ev_var rfl)) ea_nil))) (r_neighbours n_0 ties_0 x_14 c_15 h_c_15)))).fz) rfl h_r_24 (fun a_18 s_17 _ => tg_nm) (fun a_18 s_17 y_26 _ h => ?_) ?_
        · refine bs_ifS (eb_test (ev_dninT (ev_var rfl) rfl rfl)) (fun e => ?_) (fun e => ?_)
          · replace h := condT h e
            refine bs_assoc ?_
            obtain ⟨x_19, h_x_19, h⟩ := bnd h
            obtain ⟨x_20, h_x_20, h⟩ := bnd h
            obtain ⟨x_21, h_x_21, h⟩ := bnd h
            obtain ⟨ways_22, h_ways_22, h⟩ := bnd h
            refine q_dput h_ways_22 ((evn_catT h_x_21 (ev_dgetT h_x_20 rfl rfl (ev_ixOwn h_x_19 rfl rfl (ev_var rfl) rfl rfl) rfl rfl) ((evn_lstT (xs := ([a_18] : (List Int))) (ea_cons (ev_var rfl) ea_nil) rfl)).fz)).fz rfl rfl (ev_var rfl) rfl rfl ?_
            refine bs_assoc ?_
            obtain ⟨row_23, h_row_23, h⟩ := bnd h
            refine q_app h_row_23 rfl rfl (ev_var rfl) rfl rfl ?_
            refine bs_next ?_
            cases h
            exact q_nilc (vs := [6]) rfl
          · replace h := condF h e
            refine bs_next ?_
            cases h
            exact q_nilc (vs := [6]) rfl
        obtain ⟨at_25, h_at_25, h⟩ := bnd h
        refine q_augT h_at_25 rfl ev_int ?_
        cases h
        exact q_nilc (vs := []) rfl
      cases h
      exact q_nilc (vs := [3, 4, 5]) rfl
    cases h
    exact q_retO (vs := [0, 1]) rfl rfl
-- ring_of
def m_ring_of (one_0 : (List Int)) (other_0 : (List Int)) : Option (List Int) := (some (0 : Int)).bind fun at_1 => (whileL (fun (s_2 : Int) => ((cond (decide ((s_2 + (1 : Int)) < (min ((one_0).length : Int) ((other_0).length : Int)))) ((atI one_0 (s_2 + (1 : Int))).bind fun x_3 => ((atI other_0 (s_2 + (1 : Int))).bind fun x_4 => some (decide ((x_3 : Int) = x_4)))) (some false)).bind fun q_5 => some q_5)) (fun s_2 => (some (s_2 + (1 : Int))).bind fun at_7 => some at_7) wFuel at_1).bind fun r_8 => (catO (cutL one_0 (some r_8) none) (pick3 other_0 none (some r_8) (some (-(1 : Int))))).bind fun x_9 => some (x_9)
def R_ring_of (ds : List D) (r : RK) : Prop := (∃ (one_0 : (List Int)) (other_0 : (List Int)) (x : (List Int)), ds = [enc one_0, enc other_0] ∧ m_ring_of one_0 other_0 = some x ∧ r = (.new (lst (x : (List Int)))))
theorem r_ring_of (one_0 : (List Int)) (other_0 : (List Int)) (x : (List Int)) (h : m_ring_of one_0 other_0 = some x) : R_ring_of [enc one_0, enc other_0] (.new (lst (x : (List Int)))) := ⟨one_0, other_0, x, rfl, h, rfl⟩
theorem ok_ring_of (T : Top K mg) : FnOk P w K mg base CX0 1 T.a_ring_of T.d_ring_of ["one", "other"] (sp0 K R_ring_of) := by
  refine fn0 T.F_ring_of sc_ring_of (fun ds r h => ?_) (fun cdv A outer s H E hr => ?_)
  · obtain ⟨one_0, other_0, x, rfl, h, rfl⟩ := h; rfl
  · refine ⟨_, (pss_cons (ps_set (i := 2) sc_ring_of.nd rfl (.inl rfl) pe_int)
      (pss_cons (ps_while PassesOwn.never (PW.pt (pw_and (pt_cmpR op_lt (pe_op op_add (pv 2) pe_int) (pe_callB (call_min2 rfl) (by rfl) T.b_min (by decide +kernel) (pa_cons (pe_callB (kx_call_len_seq (K := K)) (by rfl) T.b_len (by decide +kernel) (pa_cons (pv 0) pa_nil)) (pa_cons (pe_callB (kx_call_len_seq (K := K)) (by rfl) T.b_len (by decide +kernel) (pa_cons (pv 1) pa_nil)) pa_nil))) (nomark _)) (pw_and1 (pt_cmpR (kx_op_eqD (K := K) hr.units) (pe_ix (kx_ix_list (K := K)) (pv 0) (pe_op op_add (pv 2) pe_int) (fun _ _ => rfl)) (pe_ix (kx_ix_list (K := K)) (pv 1) (pe_op op_add (pv 2) pe_int) (fun _ _ => rfl)) (nomark _))))) (pss_cons (ps_aug (i := 2) sc_ring_of.nd rfl (.inl rfl) pe_int ip_add)
      pss_nil))
      (pss_cons (ps_ret (pe_op op_cat (pe_slice (kx_sl_list (K := K)) (pv 0) (po_some (pv 2)) po_none) (kx_pe_slice3 (K := K) (pv 1) po_none (po_some (pv 2)) (po_some (pe_un un_neg pe_int)))))
      pss_nil))), ?_⟩
    rintro G ds r ⟨one_0, other_0, x, rfl, h, rfl⟩
    refine Fin0.rt (S' := [.any, .any, .any]) [.val (enc (one_0 : (List Int))), .val (enc (other_0 : (List Int))), .any] rfl ?_
    obtain ⟨at_1, h_at_1, h⟩ := bnd h
    refine q_asg (Ev.to ev_int h_at_1) ?_
    obtain ⟨r_8, h_r_8, h⟩ := bnd h
    refine bs_whileL (St := fun (s_2 : Int) => [.val (enc (one_0 : (List Int))), .val (enc (other_0 : (List Int))), .val (enc (s_2 : Int))]) rfl h_r_8 (fun s_2 b h => by obtain ⟨q_5, h_q_5, h⟩ := bnd h; exact EvB.to (eb_andG (r := q_5) (eb_test (ev_lt (ev_add (ev_var rfl) ev_int) (ev_min2 (ev_lenT (ev_var rfl)) (ev_lenT (ev_var rfl))))) (fun e => by have h := condT h_q_5 e; obtain ⟨x_3, h_x_3, h⟩ := bnd h; obtain ⟨x_4, h_x_4, h⟩ := bnd h; exact EvB.to (eb_test (ev_eqT (a := (x_3 : Int)) (c := x_4) (ev_ixLT h_x_3 (ev_var rfl) (ev_add (ev_var rfl) ev_int)) (ev_ixLT h_x_4 (ev_var rfl) (ev_add (ev_var rfl) ev_int)))) h) (fun e => by have h := condF h_q_5 e; cases h; exact ⟨rfl, rfl⟩)) h) (fun s_2 y_10 _ h => ?_) ?_
    · obtain ⟨at_7, h_at_7, h⟩ := bnd h
      refine q_augT h_at_7 rfl ev_int ?_
      cases h
      exact q_nilc (vs := []) rfl
    obtain ⟨x_9, h_x_9, h⟩ := bnd h
    exact q_retN (vs := [0, 1, 2]) (EvN.to (xs := (x_9 : (List Int))) (evn_catT h_x_9 ((evn_cutT (ev_var rfl) (eo_some (ev_var rfl)) eo_none)).fz ((evn_cut3T (by decide) (ev_var rfl) eo_none (eo_some (ev_var rfl)) (eo_some (ev_neg ev_int)))).fz) h) (by rfl)
-- sides_of
def m_sides_of (n_0 : Int) (ties_0 : (List (Int × Int))) : Option ((Wd × (List Int)) ⊕ (T3 Wd (List Int) (List Int))) := (m_ways_back n_0 ties_0).bind fun c_1 => (lenO ties_0).bind fun u_2 => (forS (ρ := ((Wd × (List Int)) ⊕ (T3 Wd (List Int) (List Int)))) (fun (a_4 : (Int × Int)) (s_3 : Unit) => (aget c_1 a_4.1).bind fun x_5 => (aget c_1 a_4.2).bind fun x_6 => cond (decide (((((x_5).length : Int) % (2 : Int)) : Int) = (((x_6).length : Int) % (2 : Int)))) ((aget c_1 a_4.1).bind fun x_7 => (aget c_1 a_4.2).bind fun x_8 => (m_ring_of x_7 x_8).bind fun c_9 => some (.rt (.inl (w_ring, c_9)))) (some (.nx ()))) (ties_0) ()).bind fun res_20 => (match res_20 with | .nx r_10 => (rngO 0 n_0).bind fun r_11 => (cmpO (fun (a_12 : Int) => ((aget c_1 a_12).bind fun x_13 => some (decide (((((x_13).length : Int) % (2 : Int)) : Int) = (1 : Int))))) (fun a_12 => some a_12) (r_11)).bind fun ys_14 => (rngO 0 n_0).bind fun r_15 => (cmpO (fun (a_16 : Int) => ((aget c_1 a_16).bind fun x_17 => some (decide (((((x_17).length : Int) % (2 : Int)) : Int) = (0 : Int))))) (fun a_16 => some a_16) (r_15)).bind fun ys_18 => some ((.inr ⟨w_sides, ys_14, ys_18⟩)) | .bk _ => none | .rt r => some r)
def rk_sides_of (x : ((Wd × (List Int)) ⊕ (T3 Wd (List Int) (List Int)))) : RK := match x with | .inl q => .shell ([.inl (enc (q.1 : Wd)), .inr (lst (q.2 : (List Int)))]) | .inr q => .shell ([.inl (enc (q.a : Wd)), .inr (lst (q.b : (List Int))), .inr (lst (q.c : (List Int)))])
def R_sides_of (ds : List D) (r : RK) : Prop := (∃ (n_0 : Int) (ties_0 : (List (Int × Int))) (x : ((Wd × (List Int)) ⊕ (T3 Wd (List Int) (List Int)))), ds = [enc n_0, enc ties_0] ∧ m_sides_of n_0 ties_0 = some x ∧ r = (rk_sides_of x))
theorem r_sides_of (n_0 : Int) (ties_0 : (List (Int × Int))) (x : ((Wd × (List Int)) ⊕ (T3 Wd (List Int) (List Int)))) (h : m_sides_of n_0 ties_0 = some x) : R_sides_of [enc n_0, enc ties_0] (rk_sides_of x) := ⟨n_0, ties_0, x, rfl, h, rfl⟩
theorem ok_sides_of (T : Top K mg) : FnOk P w K mg base CX0 5 T.a_sides_of T.d_sides_of ["n", "ties"] (sp0 K R_sides_of) := by
  refine fn0 T.F_sides_of sc_sides_of (fun ds r h => ?_) (fun cdv A outer s H E hr => ?_)
  · obtain ⟨n_0, ties_0, x, rfl, h, rfl⟩ := h; rfl
  · refine ⟨_, (pss_cons (ps_set (i := 2) sc_sides_of.nd rfl (.inr rfl) (pe_call (ok_ways_back T) (hr.mono (by decide)) (by rfl) T.g_ways_back T.k_ways_back (bd_ways_back T.F_ways_back) .nil pass0 (pa_cons (pv 0) (pa_cons (pv 1) pa_nil))))
      (pss_cons (ps_for PassesOwn.never rfl (kx_pi_list (K := K) (pv 1)) (kx_pg_tup (K := K) (by rfl) (pgs_cons (pg_name (i := 5) sc_sides_of.nd rfl (.inl rfl)) (pgs_cons (pg_name (i := 6) sc_sides_of.nd rfl (.inl rfl)) pgs_nil))) (pss_cons (ps_if (pt_cmpR (kx_op_eqD (K := K) hr.units) (pe_op op_mod (pe_callB (kx_call_len_seq (K := K)) (by rfl) T.b_len (by decide +kernel) (pa_cons (pe_dget (hu_of hr) (pv 2) (pv 5) (fun _ _ => rfl)) pa_nil)) pe_int) (pe_op op_mod (pe_callB (kx_call_len_seq (K := K)) (by rfl) T.b_len (by decide +kernel) (pa_cons (pe_dget (hu_of hr) (pv 2) (pv 6) (fun _ _ => rfl)) pa_nil)) pe_int) (nomark _)) (pss_cons (ps_ret (pe_tup (pa_cons pe_str (pa_cons (pe_call (ok_ring_of T) (hr.mono (by decide)) (by rfl) T.g_ring_of T.k_ring_of (bd_ring_of T.F_ring_of) .nil pass0 (pa_cons (pe_dget (hu_of hr) (pv 2) (pv 5) (fun _ _ => rfl)) (pa_cons (pe_dget (hu_of hr) (pv 2) (pv 6) (fun _ _ => rfl)) pa_nil))) pa_nil))))
      pss_nil) pss_nil)
      pss_nil))
      (pss_cons (ps_setLc (i := 3) (own := [("place", 7)]) rfl sc_sides_of.nd rfl rfl (sw_true rfl rfl rfl (by decide +kernel)) (pi_range1 rfl T.b_range (pa_cons (pv 0) pa_nil)) (blkOk_by (own := [("place", 7)]) (N := nm_sides_of) (sc := defScope s_sides_of) (by decide +kernel)) (fun _ _ _ _ _ => (pg_name (i := 7) sc_sides_of.nd rfl (.inl rfl))) (fun _ _ _ _ _ => (pts_one (pt_cmpR (kx_op_eqD (K := K) hr.units) (pe_op op_mod (pe_callB (kx_call_len_seq (K := K)) (by rfl) T.b_len (by decide +kernel) (pa_cons (pe_dget (hu_of hr) (pv 2) (pv 7) (fun _ _ => rfl)) pa_nil)) pe_int) pe_int (nomark _)))) (fun _ _ _ _ _ => (pv 7)))
      (pss_cons (ps_setLc (i := 4) (own := [("place", 7)]) rfl sc_sides_of.nd rfl rfl (sw_true rfl rfl rfl (by decide +kernel)) (pi_range1 rfl T.b_range (pa_cons (pv 0) pa_nil)) (blkOk_by (own := [("place", 7)]) (N := nm_sides_of) (sc := defScope s_sides_of) (by decide +kernel)) (fun _ _ _ _ _ => (pg_name (i := 7) sc_sides_of.nd rfl (.inl rfl))) (fun _ _ _ _ _ => (pts_one (pt_cmpR (kx_op_eqD (K := K) hr.units) (pe_op op_mod (pe_callB (kx_call_len_seq (K := K)) (by rfl) T.b_len (by decide +kernel) (pa_cons (pe_dget (hu_of hr) (pv 2) (pv 7) (fun _ _ => rfl)) pa_nil)) pe_int) pe_int (nomark _)))) (fun _ _ _ _ _ => (pv 7)))
      (pss_cons (ps_ret (pe_tup (pa_cons pe_str (pa_cons (pv 3) (pa_cons (pv 4) pa_nil)))))
      pss_nil))))), ?_⟩
    rintro G ds r ⟨n_0, ties_0, x, rfl, h, rfl⟩
    refine Fin0.rt (S' := [.any, .any, .any, .any, .any, .any, .any, .any]) [.val (enc (n_0 : Int)), .val (enc (ties_0 : (List (Int × Int)))), .any, .any, .any, .any, .any, .any] rfl ?_
    obtain ⟨c_1, h_c_1, h⟩ := bnd h
    refine q_asgN (evn_call (ea_cons (ev_var rfl) (ea_cons (ev_var rfl) ea_nil)) (r_ways_back n_0 ties_0 c_1 h_c_1)) ?_
    obtain ⟨u_2, h_u_2, h⟩ := bnd h
    obtain ⟨res_20, h_res_20, h⟩ := bnd h
    refine bs_forS (α := (Int × Int)) (en := enc) (ρ := ((Wd × (List Int)) ⊕ (T3 Wd (List Int) (List Int)))) (St := fun (s_3 : Unit) => [.val (enc (n_0 : Int)), .val (enc (ties_0 : (List (Int × Int)))), .own (dct (c_1 : (List (Int × (List Int))))), .any, .any, .any, .any, .any]) (rk := fun r => (rk_sides_of r)) (rS := fun r => [.any, .any, .any, .any, .any, .any, .any, .any]) (src_listT (ev_var rfl)) rfl h_res_20 (fun a_4 s_3 _ => (tg_tup2 tg_nm tg_nm)) (fun a_4 s_3 y_19 _ h => ?_) (fun r_10 e => ?_) (fun r e => by subst e; cases h; rfl)
    · obtain ⟨x_5, h_x_5, h⟩ := bnd h
      obtain ⟨x_6, h_x_6, h⟩ := bnd h
      refine bs_ifS (eb_test (ev_eqT (a := ((((x_5).length : Int) % (2 : Int)) : Int)) (c := (((x_6).length : Int) % (2 : Int))) (ev_mod (by decide) (ev_lenT (ev_dgetT h_x_5 rfl rfl (ev_var rfl) rfl rfl)) ev_int) (ev_mod (by decide) (ev_lenT (ev_dgetT h_x_6 rfl rfl (ev_var rfl) rfl rfl)) ev_int))) (fun e => ?_) (fun e => ?_)
      · replace h := condT h e
        refine bs_assoc ?_
        obtain ⟨x_7, h_x_7, h⟩ := bnd h
        obtain ⟨x_8, h_x_8, h⟩ := bnd h
        obtain ⟨c_9, h_c_9, h⟩ := bnd h
        cases h
        exact q_retS (vs := [0, 1, 2, 5, 6]) (es_val ev_str (es_new (evn_call (ea_cons (ev_dgetT h_x_7 rfl rfl (ev_var rfl) rfl rfl) (ea_cons (ev_dgetT h_x_8 rfl rfl (ev_var rfl) rfl rfl) ea_nil)) (r_ring_of x_7 x_8 c_9 h_c_9)))) (by rfl)
      · replace h := condF h e
        refine bs_next ?_
        cases h
        exact q_nilc (vs := [5, 6]) rfl
    subst e
    obtain ⟨r_11, h_r_11, h⟩ := bnd h
    obtain ⟨ys_14, h_ys_14, h⟩ := bnd h
    refine q_asgN (evn_cmpO h_ys_14 (rngO_len h_r_11) (src_rng1 h_r_11 (ev_var rfl)) (fun a_12 G _ => tg_nm) (fun a_12 b G _ h => by obtain ⟨x_13, h_x_13, h⟩ := bnd h; exact EvB.to (eb_test (ev_eqT (a := ((((x_13).length : Int) % (2 : Int)) : Int)) (c := (1 : Int)) (ev_mod (by decide) (ev_lenT (ev_dgetT h_x_13 rfl rfl (ev_var rfl) rfl rfl)) ev_int) ev_int)) h) (fun a_12 b G _ h0 h => by obtain ⟨x_13, h_x_13, h0⟩ := bnd h0; have h0 := Option.some.inj h0; exact Ev.to (a := (a_12 : Int)) (ev_var rfl) h)) ?_
    obtain ⟨r_15, h_r_15, h⟩ := bnd h
    obtain ⟨ys_18, h_ys_18, h⟩ := bnd h
    refine q_asgN (evn_cmpO h_ys_18 (rngO_len h_r_15) (src_rng1 h_r_15 (ev_var rfl)) (fun a_16 G _ => tg_nm) (fun a_16 b G _ h => by obtain ⟨x_17, h_x_17, h⟩ := bnd h; exact EvB.to (eb_test (ev_eqT (a := ((((x_17).length : Int) % (2 : Int)) : Int)) (c := (0 : Int)) (ev_mod (by decide) (ev_lenT (ev_dgetT h_x_17 rfl rfl (ev_var rfl) rfl rfl)) ev_int) ev_int)) h) (fun a_16 b G _ h0 h => by obtain ⟨x_17, h_x_17, h0⟩ := bnd h0; have h0 := Option.some.inj h0; exact Ev.to (a := (a_16 : Int)) (ev_var rfl) h)) ?_
    cases h
    exact q_retS (vs := [0, 1, 2, 3, 4]) (es_val ev_str (es_own2 rfl rfl (by decide))) (by rfl)
-- shows_ring
def m_shows_ring_1 (n_0 : Int) (ties_0 : (List (Int × Int))) (places_0 : (List Int)) : Option Bool := (m_are_between_1 places_0 ((0 : Int)) ((n_0 - (1 : Int)))).bind fun c_1 => cond ((!c_1) || (decide (((((places_0).length : Int) % (2 : Int)) : Int) = (0 : Int)))) (some (false)) ((lenO places_0).bind fun u_2 => cond (!((((places_0).map fun a_3 => (decide (((((places_0).count a_3 : Nat) : Int) : Int) = (1 : Int))))).all id)) (some (false)) ((rngO 0 ((places_0).length : Int)).bind fun r_4 => (cmpO (fun (a_5 : Int) => some true) (fun a_5 => ((atI places_0 (a_5 - (1 : Int))).bind fun x_6 => ((atI places_0 a_5).bind fun x_7 => some (v_are_joined ties_0 x_6 x_7)))) (r_4)).bind fun ys_8 => some (((ys_8).all id))))
def m_shows_ring_2 (n_0 : Int) (ties_0 : (List (Int × Int))) (places_0 : Unit) : Option Bool := some (false)
def R_shows_ring (ds : List D) (r : RK) : Prop := (∃ (n_0 : Int) (ties_0 : (List (Int × Int))) (places_0 : (List Int)) (x : Bool), ds = [enc n_0, enc ties_0, enc places_0] ∧ m_shows_ring_1 n_0 ties_0 places_0 = some x ∧ r = (.val (enc (x : Bool)))) ∨ (∃ (n_0 : Int) (ties_0 : (List (Int × Int))) (places_0 : Unit) (x : Bool), ds = [enc n_0, enc ties_0, enc places_0] ∧ m_shows_ring_2 n_0 ties_0 places_0 = some x ∧ r = (.val (enc (x : Bool))))
theorem r_shows_ring_1 (n_0 : Int) (ties_0 : (List (Int × Int))) (places_0 : (List Int)) (x : Bool) (h : m_shows_ring_1 n_0 ties_0 places_0 = some x) : R_shows_ring [enc n_0, enc ties_0, enc places_0] (.val (enc (x : Bool))) := .inl ⟨n_0, ties_0, places_0, x, rfl, h, rfl⟩
theorem r_shows_ring_2 (n_0 : Int) (ties_0 : (List (Int × Int))) (places_0 : Unit) (x : Bool) (h : m_shows_ring_2 n_0 ties_0 places_0 = some x) : R_shows_ring [enc n_0, enc ties_0, enc places_0] (.val (enc (x : Bool))) := .inr (⟨n_0, ties_0, places_0, x, rfl, h, rfl⟩)
theorem ok_shows_ring (T : Top K mg) : FnOk P w K mg base CX0 4 T.a_shows_ring T.d_shows_ring ["n", "ties", "places"] (sp0 K R_shows_ring) := by
  refine fn0 T.F_shows_ring sc_shows_ring (fun ds r h => ?_) (fun cdv A outer s H E hr => ?_)
  · rcases h with ⟨n_0, ties_0, places_0, x, rfl, h, rfl⟩ | ⟨n_0, ties_0, places_0, x, rfl, h, rfl⟩ <;> rfl
  · refine ⟨_, (pss_cons (ps_if (PW.pt (pw_or (pt_not (pt_val (pe_call (ok_are_between T) (hr.mono (by decide)) (by rfl) T.g_are_between T.k_are_between (bd_are_between T.F_are_between) .nil pass0 (pa_cons (pv 2) (pa_cons pe_int (pa_cons (pe_op op_sub (pv 0) pe_int) pa_nil)))))) (pw_or1 (pt_cmpR (kx_op_eqD (K := K) hr.units) (pe_op op_mod (pe_callB (kx_call_len_seq (K := K)) (by rfl) T.b_len (by decide +kernel) (pa_cons (pv 2) pa_nil)) pe_int) pe_int (nomark _))))) (pss_cons (ps_ret pe_bl)
      pss_nil) pss_nil)
      (pss_cons (ps_if (pt_not (pt_val (pe_callB (kx_cr_all (K := K) rfl) (by rfl) T.b_all (by decide +kernel) (pa_cons (pe_lc (own := [("place", 4)]) rfl sc_shows_ring.nd (kx_pi_list (K := K) (pv 2)) (blkOk_by (own := [("place", 4)]) (N := nm_shows_ring) (sc := defScope s_shows_ring) (by decide +kernel)) (fun _ _ _ _ _ => (pg_name (i := 4) sc_shows_ring.nd rfl (.inl rfl))) (fun _ _ _ _ _ => pts_nil) (fun _ _ _ _ _ => (pe_cmpR (kx_op_eqD (K := K) hr.units) (kx_pe_bm (K := K) PySem.F.plainAttrs_list PySem.F.slot_list_count PySem.F.type_list_count (kx_mt_lcount (K := K)) (pv 2) (pa_cons (pv 4) pa_nil)) pe_int (nomark _)))) pa_nil)))) (pss_cons (ps_ret pe_bl)
      pss_nil) pss_nil)
      (pss_cons (ps_ret (pe_callB (kx_cr_all (K := K) rfl) (by rfl) T.b_all (by decide +kernel) (pa_cons (pe_lc (own := [("at", 3)]) rfl sc_shows_ring.nd (pi_range1 rfl T.b_range (pa_cons (pe_callB (kx_call_len_seq (K := K)) (by rfl) T.b_len (by decide +kernel) (pa_cons (pv 2) pa_nil)) pa_nil)) (blkOk_by (own := [("at", 3)]) (N := nm_shows_ring) (sc := defScope s_shows_ring) (by decide +kernel)) (fun _ _ _ _ _ => (pg_name (i := 3) sc_shows_ring.nd rfl (.inl rfl))) (fun _ _ _ _ _ => pts_nil) (fun _ _ _ _ _ => (pe_call (ok_are_joined T) (hr.mono (by decide)) (by rfl) T.g_are_joined T.k_are_joined (bd_are_joined T.F_are_joined) .nil pass0 (pa_cons (pv 1) (pa_cons (pe_ix (kx_ix_list (K := K)) (pv 2) (pe_op op_sub (pv 3) pe_int) (fun _ _ => rfl)) (pa_cons (pe_ix (kx_ix_list (K := K)) (pv 2) (pv 3) (fun _ _ => rfl)) pa_nil)))))) pa_nil)))
      pss_nil))), ?_⟩
    rintro G ds r h
    rcases h with ⟨n_0, ties_0, places_0, x, rfl, h, rfl⟩ | ⟨n_0, ties_0, places_0, x, rfl, h, rfl⟩
    · refine Fin0.rt (S' := [.any, .any, .any, .any, .any]) [.val (enc (n_0 : Int)), .val (enc (ties_0 : (List (Int × Int)))), .val (enc (places_0 : (List Int))), .any, .any] rfl ?_
      obtain ⟨c_1, h_c_1, h⟩ := bnd h
      refine bs_ifS (eb_or (eb_not (eb_tB (ev_call (ea_cons (ev_var rfl) (ea_cons ev_int (ea_cons (ev_sub (ev_var rfl) ev_int) ea_nil))) (r_are_between_1 places_0 ((0 : Int)) ((n_0 - (1 : Int))) c_1 h_c_1)))) (fun _ => (eb_test (ev_eqT (a := ((((places_0).length : Int) % (2 : Int)) : Int)) (c := (0 : Int)) (ev_mod (by decide) (ev_lenT (ev_var rfl)) ev_int) ev_int)))) (fun e => ?_) (fun e => ?_)
      · replace h := condT h e
        refine bs_assoc ?_
        exact q_ret (vs := [0, 1, 2]) (Ev.to (a := (false : Bool)) ev_bl h) (by rfl)
      · replace h := condF h e
        refine bs_next ?_
        obtain ⟨u_2, h_u_2, h⟩ := bnd h
        refine bs_ifS (eb_not (eb_tB (ev_all ((evn_cmp0 (f := fun a_3 => (decide (((((places_0).count a_3 : Nat) : Int) : Int) = (1 : Int)))) (lenO_of h_u_2) (src_listT (ev_var rfl)) (fun a_3 G _ => tg_nm) (fun a_3 G _ => (ev_eqT (a := ((((places_0).count a_3 : Nat) : Int) : Int)) (c := (1 : Int)) (ev_cnt (ev_var rfl) (ev_var rfl)) ev_int)))).fz))) (fun e => ?_) (fun e => ?_)
        · replace h := condT h e
          refine bs_assoc ?_
          exact q_ret (vs := [0, 1, 2]) (Ev.to (a := (false : Bool)) ev_bl h) (by rfl)
        · replace h := condF h e
          refine bs_next ?_
          obtain ⟨r_4, h_r_4, h⟩ := bnd h
          obtain ⟨ys_8, h_ys_8, h⟩ := bnd h
          exact q_ret (vs := [0, 1, 2]) (Ev.to (a := (((ys_8).all id) : Bool)) (ev_all ((evn_cmpO h_ys_8 (rngO_len h_r_4) (src_rng1 h_r_4 (ev_lenT (ev_var rfl))) (fun a_5 G _ => tg_nm) (fun a_5 b G _ h => by cases h; exact eb_yes) (fun a_5 b G _ h0 h => by obtain ⟨x_6, h_x_6, h⟩ := bnd h; obtain ⟨x_7, h_x_7, h⟩ := bnd h; exact Ev.to (a := ((v_are_joined ties_0 x_6 x_7) : Bool)) (ev_call (ea_cons (ev_var rfl) (ea_cons (ev_ixLT h_x_6 (ev_var rfl) (ev_sub (ev_var rfl) ev_int)) (ea_cons (ev_ixLT h_x_7 (ev_var rfl) (ev_var rfl)) ea_nil))) (r_are_joined ties_0 x_6 x_7 (v_are_joined ties_0 x_6 x_7) rfl)) h))).fz) h) (by rfl)
    · refine Fin0.rt (S' := [.any, .any, .any, .any, .any]) [.val (enc (n_0 : Int)), .val (enc (ties_0 : (List (Int × Int)))), .val (enc (places_0 : Unit)), .any, .any] rfl ?_
      refine bs_ifS (eb_orG (eb_not (eb_tB (ev_call (ea_cons (ev_var rfl) (ea_cons ev_int (ea_cons (ev_sub (ev_var rfl) ev_int) ea_nil))) (r_are_between_2 places_0 ((0 : Int)) ((n_0 - (1 : Int))) false rfl)))) (fun e => nomatch e) (fun _ => ⟨rfl, rfl⟩)) (fun _ => ?_) (fun e => nomatch e)
      refine bs_assoc ?_
      exact q_ret (vs := [0, 1, 2]) (Ev.to (a := (false : Bool)) ev_bl h) (by rfl)
-- _law_feed
theorem ok__law_feed (T : Top K mg) : FnOk P w K mg base CX0 1 T.a__law_feed T.d__law_feed ["script"] (spFeed K) := by
  refine T.F__law_feed.ok sc__law_feed (fun vs H Q E h => ?_) (fun cdv A outer s H vs Q E hr h => ?_)
  · obtain ⟨a, ns, rfl, _⟩ := h; rfl
  · refine ⟨_, PSs.nox (pss_cons (ps_ret (pe_lst (pa_cons (pe_callTy (kx_call_list_of (K := K)) (by rfl) T.b_list (by decide +kernel) (pa_cons (pv 0) pa_nil)) (pa_cons pe_int (pa_cons pe_int (pa_cons pe_int pa_nil))))))
      pss_nil), ?_⟩
    obtain ⟨a, ns, rfl, hS, hQ⟩ := h
    exact tLst_feed rfl hS hQ
-- _law_draw
abbrev m__law_draw := m_draw
abbrev R__law_draw := R_draw
theorem r__law_draw (F : Fd) (many told : Int) (F' : Fd) (h : m__law_draw F many = some (told, F')) : R__law_draw [] (fdC F) [enc many] (.val (enc told)) (fdC F') := ⟨F, F', many, told, rfl, rfl, rfl, h, rfl, rfl⟩
theorem ok__law_draw (T : Top K mg) : FnOk P w K mg base CX0 1 T.a__law_draw T.d__law_draw ["feed", "many"] (sp1 K 0 R__law_draw) := by
  refine fn1 T.F__law_draw sc__law_draw (fun ds c es r c' h => ?_) (fun cdv A outer s H E hr => ?_)
  · obtain ⟨F, F', many, told, rfl, rfl, rfl, h, rfl, rfl⟩ := h; exact ⟨rfl, rfl⟩
  · refine ⟨_, (pss_cons (ps_if (PW.pt (pw_and (pt_cmpR (kx_op_eqD (K := K) hr.units) (pe_ix (kx_ix_list (K := K)) (pv 0) pe_int (fun _ _ => rfl)) pe_int (nomark _)) (pw_and1 (pt_cmpR op_lt (pe_ix (kx_ix_list (K := K)) (pv 0) pe_int (fun _ _ => rfl)) (pe_callB (kx_call_len_seq (K := K)) (by rfl) T.b_len (by decide +kernel) (pa_cons (pe_ix (kx_ix_list (K := K)) (pv 0) pe_int (fun _ _ => rfl)) pa_nil)) (nomark _))))) (pss_cons (ps_set (i := 3) sc__law_draw.nd rfl (.inl rfl) (pe_callB call_abs (by rfl) T.b_abs (by decide +kernel) (pa_cons (pe_callTy call_int1 (by rfl) T.b_int (by decide +kernel) (pa_cons (pe_ix (kx_ix_list (K := K)) (pe_ix (kx_ix_list (K := K)) (pv 0) pe_int (fun _ _ => rfl)) (pe_ix (kx_ix_list (K := K)) (pv 0) pe_int (fun _ _ => rfl)) (fun _ _ => rfl)) pa_nil)) pa_nil)))
      (pss_cons (ps_augS (pv 0) pe_int (kx_pget_list (K := K)) pe_int ip_add set_list)
      (pss_cons (ps_if (pt_cmpR op_ge (pv 3) (pe_op op_pow pe_int pe_int) (nomark _)) (pss_cons (ps_asg (pv 3) (pg_sub (pv 0) pe_int set_list))
      pss_nil) (pss_cons (ps_asg (pe_op op_mod (pe_callTy call_int1 (by rfl) T.b_int (by decide +kernel) (pa_cons (pe_op op_add (pe_op op_add (pe_op op_mul (pe_ix (kx_ix_list (K := K)) (pv 0) pe_int (fun _ _ => rfl)) pe_int) (pe_op op_mul (pv 3) pe_int)) (pe_ix (kx_ix_list (K := K)) (pv 0) pe_int (fun _ _ => rfl))) pa_nil)) pe_int) (pg_sub (pv 0) pe_int set_list))
      pss_nil))
      pss_nil))) pss_nil)
      (pss_cons (ps_if (pt_cmpR op_gt (pe_ix (kx_ix_list (K := K)) (pv 0) pe_int (fun _ _ => rfl)) pe_int (nomark _)) (pss_cons (ps_set (i := 4) sc__law_draw.nd rfl (.inl rfl) (pe_op op_mod (pe_callTy call_int1 (by rfl) T.b_int (by decide +kernel) (pa_cons (pe_ix (kx_ix_list (K := K)) (pv 0) pe_int (fun _ _ => rfl)) pa_nil)) (pv 1)))
      (pss_cons (ps_asg (pe_op op_fdiv (pe_ix (kx_ix_list (K := K)) (pv 0) pe_int (fun _ _ => rfl)) (pv 1)) (pg_sub (pv 0) pe_int set_list))
      (pss_cons (ps_ret (pv 4))
      pss_nil))) pss_nil)
      (pss_cons (ps_asg (pe_op op_mod (pe_callTy call_int1 (by rfl) T.b_int (by decide +kernel) (pa_cons (pe_op op_add (pe_op op_mul (pe_ix (kx_ix_list (K := K)) (pv 0) pe_int (fun _ _ => rfl)) pe_int) pe_int) pa_nil)) pe_int) (pg_sub (pv 0) pe_int set_list))
      (pss_cons (ps_set (i := 2) sc__law_draw.nd rfl (.inl rfl) (pe_op op_mod (pe_callTy call_int1 (by rfl) T.b_int (by decide +kernel) (pa_cons (pe_op op_add (pe_op op_mul (pe_ix (kx_ix_list (K := K)) (pv 0) pe_int (fun _ _ => rfl)) (pe_ix (kx_ix_list (K := K)) (pv 0) pe_int (fun _ _ => rfl))) (pe_ix (kx_ix_list (K := K)) (pv 0) pe_int (fun _ _ => rfl))) pa_nil)) pe_int))
      (pss_cons (ps_ret (pe_op op_mod (pe_op op_fdiv (pv 2) pe_int) (pv 1)))
      pss_nil))))), ?_⟩
    rintro G p ds c es r c' ⟨F, F', many, told, rfl, rfl, rfl, h, rfl, rfl⟩
    obtain ⟨⟨hm, hm2⟩, h⟩ : (0 < many ∧ many < 1073741824) ∧ take2 (take1 F) many.toNat = (told, F') := by
      unfold m_draw at h
      split at h
      · exact ⟨by assumption, Option.some.inj h⟩
      · cases h
    refine Fin1.rt (S' := [.bor p (fdC F'), .any, .any, .any, .any]) [.bor p (fdC F), .val (.int many), .any, .any, .any] rfl ?_ rfl
    refine bs_seq (S1 := [.bor p (fdC (take1 F)), .val (.int many), .any, .any, .any]) ?_ ?_
    · refine bs_if (b := decide ((F.a : Int) = 0) && decide ((F.i : Int) < (F.xs.length : Int))) (eb_tmp fun G => eb_and (eb_test (ev_eqT (a := (F.a : Int)) (c := 0) (ev_ixL (ev_var rfl) ev_int rfl) ev_int)) (fun _ => eb_test (ev_lt (ev_ixL (ev_var rfl) ev_int rfl) ((ev_len (ev_ixL (ev_var rfl) ev_int rfl) rfl).is (by rw [List.length_map]))))) (fun e => ?_) (fun e => ?_)
      · rw [Bool.and_eq_true, decide_eq_true_iff, decide_eq_true_iff] at e
        have ha : F.a = 0 := by omega
        have hi : F.i < F.xs.length := by omega
        obtain ⟨z, hz⟩ : ∃ z, F.xs[F.i]? = some z := ⟨_, List.getElem?_eq_getElem hi⟩
        have hat : atI (F.xs.map D.int') (F.i : Int) = some (.int z) := by
          unfold atI ixN
          rw [if_pos (Int.natCast_nonneg _), if_pos (by rw [List.length_map]; omega)]
          simp [hz]
        have habs : (if z < 0 then -z else z) = (z.natAbs : Int) := by split <;> omega
        refine q_asg (d := .int (z.natAbs : Int)) (Ev.is (ev_abs (ev_intI (ev_tmp (d := .int z) (fun G => ev_ixL (ev_ixL (ev_var rfl) ev_int rfl) (ev_ixL (ev_var rfl) ev_int rfl) hat) rfl))) (congrArg _ habs)) ?_
        refine bs_augD (f := fun i j => i + j) (m := (F.i : Int)) (v := 1) rfl rfl ev_int rfl rfl rfl ev_int rfl rfl rfl ?_
        by_cases hb : 10 ^ 18 ≤ z.natAbs
        · have e1 : take1 F = { F with i := F.i + 1, a := z.natAbs } := by unfold take1; rw [if_pos ha, hz]; dsimp only; rw [if_pos hb]
          rw [e1]
          refine bs_ifS (b := true) (EvB.to (eb_test (ev_ge (ev_var rfl) (ev_pow (by unfold CPow; decide) ev_int ev_int))) (by rw [decide_eq_true]; show (10 : Int) ^ 18 ≤ (z.natAbs : Int); exact_mod_cast hb)) (fun _ => ?_) (fun e => nomatch e)
          refine bs_assoc ?_
          refine bs_setI (ev_var rfl) ev_int rfl rfl rfl rfl rfl ?_
          refine bs_next (bs_nil' (vs := [2, 3, 4]) ?_)
          rfl
        · have e1 : take1 F = { F with i := F.i + 1, b := emod (F.b * 48271 + z.natAbs * 69621 + (F.i + 1 : Nat)) 2147483647, hb := Nat.lt_succ_of_lt (emod_lt (by decide)) } := by unfold take1; rw [if_pos ha, hz]; dsimp only; rw [if_neg hb]
          rw [e1]
          refine bs_ifS (b := false) (EvB.to (eb_test (ev_ge (ev_var rfl) (ev_pow (by unfold CPow; decide) ev_int ev_int))) (by rw [decide_eq_false]; show ¬ (10 : Int) ^ 18 ≤ (z.natAbs : Int); omega)) (fun e => nomatch e) (fun _ => ?_)
          refine bs_assoc ?_
          refine bs_setI (d := .int (emod (F.b * 48271 + z.natAbs * 69621 + (F.i + 1 : Nat)) 2147483647 : Nat)) (Ev.is (ev_mod (by decide) (ev_intI (ev_add (ev_add (ev_mul (cmulR (by decide)) (ev_tmp (d := .int (F.b : Int)) (fun G => ev_ixL (ev_var rfl) ev_int rfl) rfl) ev_int) (ev_mul (cmulR (by decide)) (ev_var rfl) ev_int)) (ev_tmp (d := .int ((F.i : Int) + 1)) (fun G => ev_ixL (ev_var rfl) ev_int rfl) rfl))) ev_int) (congrArg _ (by rw [emod_eq (by decide)]; rfl))) ev_int rfl rfl rfl rfl rfl ?_
          refine bs_next (bs_nil' (vs := [2, 3, 4]) ?_)
          rfl
      · have e1 : take1 F = F := by
          unfold take1
          split
          · rename_i ha
            rw [Bool.and_eq_false_iff, decide_eq_false_iff_not, decide_eq_false_iff_not] at e
            rw [List.getElem?_eq_none (by omega)]
          · rfl
        rw [e1]
        exact bs_nil
    · revert h
      generalize take1 F = F
      intro h
      unfold take2 at h
      refine bs_ifS (b := decide ((0 : Int) < (F.a : Int))) (eb_tmp fun G => eb_test (ev_gt (ev_ixL (ev_var rfl) ev_int rfl) ev_int)) (fun e => ?_) (fun e => ?_)
      · have ha : 0 < F.a := by have := of_decide_eq_true e; omega
        rw [if_pos ha] at h
        obtain ⟨e1, e2⟩ := Prod.mk.inj h
        refine bs_assoc ?_
        refine q_asg (d := .int told) (Ev.is (ev_mod hm (ev_intI (ev_tmp (d := .int (F.a : Int)) (fun G => ev_ixL (ev_var rfl) ev_int rfl) rfl)) (ev_var rfl)) (congrArg _ (by rw [← e1, Int.natCast_emod, Int.toNat_of_nonneg (by omega)]))) ?_
        refine bs_assoc ?_
        refine bs_setI (d := .int ((F.a / many.toNat : Nat) : Int)) (Ev.is (ev_fdiv (i := (F.a : Int)) (by unfold CDiv; exact ⟨hm, hm2⟩) (ev_tmp (d := .int (F.a : Int)) (fun G => ev_ixL (ev_var rfl) ev_int rfl) rfl) (ev_var rfl)) (congrArg _ (by rw [Int.natCast_ediv, Int.toNat_of_nonneg (by omega)]))) ev_int rfl rfl rfl rfl rfl ?_
        refine bs_assoc ?_
        refine q_ret (vs := [1, 2, 3, 4]) (ev_var rfl) ?_
        rw [← e2]; simp [fdC, wipeS, VS.put]
      · have ha : ¬ 0 < F.a := by have := of_decide_eq_false e; omega
        rw [if_neg ha] at h
        obtain ⟨e1, e2⟩ := Prod.mk.inj h
        refine bs_next ?_
        have e3 : fdC F' = .lst [.list (F.xs.map .int), .int F.i, .int F.a, .int (emod (F.b * 16807 + 12345) 2147483647 : Nat)] := by rw [← e2]; rfl
        rw [e3]
        clear e2 e3
        generalize hb' : emod (F.b * 16807 + 12345) 2147483647 = b' at e1 ⊢
        have hlt : b' < 2147483648 := by rw [← hb']; exact Nat.lt_succ_of_lt (emod_lt (by decide))
        refine bs_setI (d := .int (b' : Int)) (Ev.is (ev_mod (by decide) (ev_intI (ev_add (ev_mul (cmulR (by decide)) (ev_tmp (d := .int (F.b : Int)) (fun G => ev_ixL (ev_var rfl) ev_int rfl) rfl) ev_int) ev_int)) ev_int) (congrArg _ (by rw [← hb', emod_eq (by decide)]; rfl))) ev_int rfl rfl rfl rfl rfl ?_
        refine q_asg (d := .int (emod ((b' : Int) * b' + b') 2147483629 : Nat)) (Ev.is (ev_mod (by decide) (ev_intI (ev_add (ev_mul (i := (b' : Int)) (j := (b' : Int)) (cmulR (by omega)) (ev_tmp (d := .int (b' : Int)) (fun G => ev_ixL (ev_var rfl) ev_int rfl) rfl) (ev_tmp (d := .int (b' : Int)) (fun G => ev_ixL (ev_var rfl) ev_int rfl) rfl)) (ev_tmp (d := .int (b' : Int)) (fun G => ev_ixL (ev_var rfl) ev_int rfl) rfl))) ev_int) (congrArg _ (by rw [emod_eq (by decide)]; rfl))) ?_
        refine q_ret (d := .int told) (vs := [1, 2, 3, 4]) (Ev.is (ev_mod hm (ev_fdiv (by unfold CDiv; decide) (ev_var rfl) ev_int) (ev_var rfl)) (congrArg _ (by rw [← e1, Int.natCast_emod, Int.natCast_ediv, Int.toNat_of_nonneg (by omega)]; rfl))) ?_
        rfl
-- _law_parts
def m__law_parts (n_0 : Int) (ties_0 : (List (Int × Int))) : Option (List (List Int)) := (rngO 0 n_0).bind fun r_1 => (some ((r_1).map fun a_2 => a_2)).bind fun names_3 => (lenO ties_0).bind fun u_4 => (forL (fun (a_6 : (Int × Int)) (s_5 : (List Int)) => (atI s_5 a_6.1).bind fun x_7 => (atI s_5 a_6.2).bind fun x_8 => (lenO s_5).bind fun u_9 => (cmpO (fun (a_10 : Int) => some true) (fun a_10 => ((atI ([a_10, x_7] : (List Int)) (b2I (decide ((a_10 : Int) = x_8)))).bind fun x_11 => some x_11)) (s_5)).bind fun ys_12 => some ys_12) (ties_0) names_3).bind fun r_13 => (some ([] : (List (List Int)))).bind fun parts_14 => (rngO 0 n_0).bind fun r_15 => (forL (fun (a_17 : Int) (s_16 : (List (List Int))) => (rngO 0 n_0).bind fun r_18 => (cmpO (fun (a_19 : Int) => ((atI r_13 a_19).bind fun x_20 => ((atI r_13 a_17).bind fun x_21 => some (decide ((x_20 : Int) = x_21))))) (fun a_19 => some a_19) (r_18)).bind fun ys_22 => (atI ys_22 (0 : Int)).bind fun x_23 => cond (decide ((a_17 : Int) = x_23)) ((rngO 0 n_0).bind fun r_24 => (cmpO (fun (a_25 : Int) => ((atI r_13 a_25).bind fun x_26 => ((atI r_13 a_17).bind fun x_27 => some (decide ((x_26 : Int) = x_27))))) (fun a_25 => some a_25) (r_24)).bind fun ys_28 => (appO s_16 ys_28).bind fun parts_29 => some parts_29) (some s_16)) (r_15) parts_14).bind fun r_30 => some (r_30)
def R__law_parts (ds : List D) (r : RK) : Prop := (∃ (n_0 : Int) (ties_0 : (List (Int × Int))) (x : (List (List Int))), ds = [enc n_0, enc ties_0] ∧ m__law_parts n_0 ties_0 = some x ∧ r = (.new (lst (x : (List (List Int))))))
theorem r__law_parts (n_0 : Int) (ties_0 : (List (Int × Int))) (x : (List (List Int))) (h : m__law_parts n_0 ties_0 = some x) : R__law_parts [enc n_0, enc ties_0] (.new (lst (x : (List (List Int))))) := ⟨n_0, ties_0, x, rfl, h, rfl⟩
theorem ok__law_parts (T : Top K mg) : FnOk P w K mg base CX0 1 T.a__law_parts T.d__law_parts ["n", "ties"] (sp0 K R__law_parts) := by
  refine fn0 T.F__law_parts sc__law_parts (fun ds r h => ?_) (fun cdv A outer s H E hr => ?_)
  · obtain ⟨n_0, ties_0, x, rfl, h, rfl⟩ := h; rfl
  · refine ⟨_, (pss_cons (ps_set (i := 2) sc__law_parts.nd rfl (.inr rfl) (pe_lc (own := [("place", 4)]) rfl sc__law_parts.nd (pi_range1 rfl T.b_range (pa_cons (pv 0) pa_nil)) (blkOk_by (own := [("place", 4)]) (N := nm__law_parts) (sc := defScope s__law_parts) (by decide +kernel)) (fun _ _ _ _ _ => (pg_name (i := 4) sc__law_parts.nd rfl (.inl rfl))) (fun _ _ _ _ _ => pts_nil) (fun _ _ _ _ _ => (pv 4))))
      (pss_cons (ps_for PassesOwn.never rfl (kx_pi_list (K := K) (pv 1)) (kx_pg_tup (K := K) (by rfl) (pgs_cons (pg_name (i := 5) sc__law_parts.nd rfl (.inl rfl)) (pgs_cons (pg_name (i := 6) sc__law_parts.nd rfl (.inl rfl)) pgs_nil))) (pss_cons (ps_set (i := 7) sc__law_parts.nd rfl (.inr rfl) (pe_ix (kx_ix_list (K := K)) (pv 2) (pv 5) (fun _ _ => rfl)))
      (pss_cons (ps_set (i := 8) sc__law_parts.nd rfl (.inr rfl) (pe_ix (kx_ix_list (K := K)) (pv 2) (pv 6) (fun _ _ => rfl)))
      (pss_cons (ps_set (i := 2) sc__law_parts.nd rfl (.inr rfl) (pe_lc (own := [("name", 9)]) rfl sc__law_parts.nd (kx_pi_list (K := K) (pv 2)) (blkOk_by (own := [("name", 9)]) (N := nm__law_parts) (sc := defScope s__law_parts) (by decide +kernel)) (fun _ _ _ _ _ => (pg_name (i := 9) sc__law_parts.nd rfl (.inl rfl))) (fun _ _ _ _ _ => pts_nil) (fun _ _ _ _ _ => (pe_ix (kx_ix_list (K := K)) (pe_lst (pa_cons (pv 9) (pa_cons (pv 7) pa_nil))) (pe_callTy call_int1 (by rfl) T.b_int (by decide +kernel) (pa_cons (pe_cmpR (kx_op_eqD (K := K) hr.units) (pv 9) (pv 8) (nomark _)) pa_nil)) (fun _ _ => rfl)))))
      pss_nil))))
      (pss_cons (ps_set (i := 3) sc__law_parts.nd rfl (.inl rfl) (pe_lst pa_nil))
      (pss_cons (ps_for PassesOwn.never rfl (pi_range1 rfl T.b_range (pa_cons (pv 0) pa_nil)) (pg_name (i := 4) sc__law_parts.nd rfl (.inr rfl)) (pss_cons (ps_if (pt_cmpR (kx_op_eqD (K := K) hr.units) (pv 4) (pe_ix (kx_ix_list (K := K)) (pe_lc (own := [("k", 10)]) rfl sc__law_parts.nd (pi_range1 rfl T.b_range (pa_cons (pv 0) pa_nil)) (blkOk_by (own := [("k", 10)]) (N := nm__law_parts) (sc := defScope s__law_parts) (by decide +kernel)) (fun _ _ _ _ _ => (pg_name (i := 10) sc__law_parts.nd rfl (.inl rfl))) (fun _ _ _ _ _ => (pts_one (pt_cmpR (kx_op_eqD (K := K) hr.units) (pe_ix (kx_ix_list (K := K)) (pv 2) (pv 10) (fun _ _ => rfl)) (pe_ix (kx_ix_list (K := K)) (pv 2) (pv 4) (fun _ _ => rfl)) (nomark _)))) (fun _ _ _ _ _ => (pv 10))) pe_int (fun _ _ => rfl)) (nomark _)) (pss_cons (ps_expr (kx_pe_bm (K := K) PySem.F.plainAttrs_list PySem.F.slot_list_append PySem.F.type_list_append mt_append (pv 3) (pa_cons (pe_lc (own := [("k", 10)]) rfl sc__law_parts.nd (pi_range1 rfl T.b_range (pa_cons (pv 0) pa_nil)) (blkOk_by (own := [("k", 10)]) (N := nm__law_parts) (sc := defScope s__law_parts) (by decide +kernel)) (fun _ _ _ _ _ => (pg_name (i := 10) sc__law_parts.nd rfl (.inl rfl))) (fun _ _ _ _ _ => (pts_one (pt_cmpR (kx_op_eqD (K := K) hr.units) (pe_ix (kx_ix_list (K := K)) (pv 2) (pv 10) (fun _ _ => rfl)) (pe_ix (kx_ix_list (K := K)) (pv 2) (pv 4) (fun _ _ => rfl)) (nomark _)))) (fun _ _ _ _ _ => (pv 10))) pa_nil)))
      pss_nil) pss_nil)
      pss_nil))
      (pss_cons (ps_ret (pv 3))
      pss_nil))))), ?_⟩
    rintro G ds r ⟨n_0, ties_0, x, rfl, h, rfl⟩
    refine Fin0.rt (S' := [.any, .any, .any, .any, .any, .any, .any, .any, .any, .any, .any]) [.val (enc (n_0 : Int)), .val (enc (ties_0 : (List (Int × Int)))), .any, .any, .any, .any, .any, .any, .any, .any, .any] rfl ?_
    obtain ⟨r_1, h_r_1, h⟩ := bnd h
    obtain ⟨names_3, h_names_3, h⟩ := bnd h
    refine q_asg ((EvN.to (evn_cmp0 (f := fun a_2 => a_2) (rngO_len h_r_1) (src_rng1 h_r_1 (ev_var rfl)) (fun a_2 G _ => tg_nm) (fun a_2 G _ => (ev_var rfl))) h_names_3)).fz ?_
    obtain ⟨u_4, h_u_4, h⟩ := bnd h
    obtain ⟨r_13, h_r_13, h⟩ := bnd h
    refine bs_forL (α := (Int × Int)) (en := enc) (St := fun (s_5 : (List Int)) => [.val (enc (n_0 : Int)), .val (enc (ties_0 : (List (Int × Int)))), .val (enc (s_5 : (List Int))), .any, .any, .any, .any, .any, .any, .any, .any]) (src_listT (ev_var rfl)) rfl h_r_13 (fun a_6 s_5 _ => (tg_tup2 tg_nm tg_nm)) (fun a_6 s_5 y_32 _ h => ?_) ?_
    · obtain ⟨x_7, h_x_7, h⟩ := bnd h
      refine q_asg (ev_ixLT h_x_7 (ev_var rfl) (ev_var rfl)) ?_
      obtain ⟨x_8, h_x_8, h⟩ := bnd h
      refine q_asg (ev_ixLT h_x_8 (ev_var rfl) (ev_var rfl)) ?_
      obtain ⟨u_9, h_u_9, h⟩ := bnd h
      obtain ⟨ys_12, h_ys_12, h⟩ := bnd h
      refine q_asg ((evn_cmpO h_ys_12 (lenO_of h_u_9) (src_listT (ev_var rfl)) (fun a_10 G _ => tg_nm) (fun a_10 b G _ h => by cases h; exact eb_yes) (fun a_10 b G _ h0 h => by obtain ⟨x_11, h_x_11, h⟩ := bnd h; exact Ev.to (a := (x_11 : Int)) (ev_ixLT h_x_11 ((evn_lstT (xs := ([a_10, x_7] : (List Int))) (ea_cons (ev_var rfl) (ea_cons (ev_var rfl) ea_nil)) rfl)).fz (ev_intB (ev_eqT (a := (a_10 : Int)) (c := x_8) (ev_var rfl) (ev_var rfl)))) h))).fz ?_
      cases h
      exact q_nilc (vs := [5, 6, 7, 8]) rfl
    obtain ⟨parts_14, h_parts_14, h⟩ := bnd h
    refine q_asgN (EvN.to (evn_lstT (xs := ([] : (List (List Int)))) ea_nil rfl) h_parts_14) ?_
    obtain ⟨r_15, h_r_15, h⟩ := bnd h
    obtain ⟨r_30, h_r_30, h⟩ := bnd h
    refine bs_forL (α := Int) (en := enc) (St := fun (s_16 : (List (List Int))) => [.val (enc (n_0 : Int)), .val (enc (ties_0 : (List (Int × Int)))), .val (enc (r_13 : (List Int))), .own (lst (s_16 : (List (List Int)))), .any, .any, .any, .any, .any, .any, .any]) (src_rng1 h_r_15 (ev_var rfl)) rfl h_r_30 (fun a_17 s_16 _ => tg_nm) (fun a_17 s_16 y_31 _ h => ?_) ?_
    · obtain ⟨r_18, h_r_18, h⟩ := bnd h
      obtain ⟨ys_22, h_ys_22, h⟩ := bnd h
      obtain ⟨x_23, h_x_23, h⟩ := bnd h
      refine bs_ifS (eb_test (ev_eqT (a := (a_17 : Int)) (c := x_23) (ev_var rfl) (ev_ixLT h_x_23 ((evn_cmpO h_ys_22 (rngO_len h_r_18) (src_rng1 h_r_18 (ev_var rfl)) (fun a_19 G _ => tg_nm) (fun a_19 b G _ h => by obtain ⟨x_20, h_x_20, h⟩ := bnd h; obtain ⟨x_21, h_x_21, h⟩ := bnd h; exact EvB.to (eb_test (ev_eqT (a := (x_20 : Int)) (c := x_21) (ev_ixLT h_x_20 (ev_var rfl) (ev_var rfl)) (ev_ixLT h_x_21 (ev_var rfl) (ev_var rfl)))) h) (fun a_19 b G _ h0 h => by obtain ⟨x_20, h_x_20, h0⟩ := bnd h0; obtain ⟨x_21, h_x_21, h0⟩ := bnd h0; have h0 := Option.some.inj h0; exact Ev.to (a := (a_19 : Int)) (ev_var rfl) h))).fz ev_int))) (fun e => ?_) (fun e => ?_)
      · replace h := condT h e
        refine bs_assoc ?_
        obtain ⟨r_24, h_r_24, h⟩ := bnd h
        obtain ⟨ys_28, h_ys_28, h⟩ := bnd h
        obtain ⟨parts_29, h_parts_29, h⟩ := bnd h
        refine q_app h_parts_29 rfl rfl ((evn_cmpO h_ys_28 (rngO_len h_r_24) (src_rng1 h_r_24 (ev_var rfl)) (fun a_25 G _ => tg_nm) (fun a_25 b G _ h => by obtain ⟨x_26, h_x_26, h⟩ := bnd h; obtain ⟨x_27, h_x_27, h⟩ := bnd h; exact EvB.to (eb_test (ev_eqT (a := (x_26 : Int)) (c := x_27) (ev_ixLT h_x_26 (ev_var rfl) (ev_var rfl)) (ev_ixLT h_x_27 (ev_var rfl) (ev_var rfl)))) h) (fun a_25 b G _ h0 h => by obtain ⟨x_26, h_x_26, h0⟩ := bnd h0; obtain ⟨x_27, h_x_27, h0⟩ := bnd h0; have h0 := Option.some.inj h0; exact Ev.to (a := (a_25 : Int)) (ev_var rfl) h))).fz rfl rfl ?_
        refine bs_next ?_
        cases h
        exact q_nilc (vs := [4]) rfl
      · replace h := condF h e
        refine bs_next ?_
        cases h
        exact q_nilc (vs := [4]) rfl
    cases h
    exact q_retO (vs := [0, 1, 2]) rfl rfl
-- _law_joined
def v__law_joined (ties_0 : (List (Int × Int))) (i_0 : Int) (j_0 : Int) : Bool := (((inB (i_0, j_0) ties_0) || (inB (j_0, i_0) ties_0)))
def m__law_joined (ties_0 : (List (Int × Int))) (i_0 : Int) (j_0 : Int) : Option Bool := some (v__law_joined ties_0 i_0 j_0)
def R__law_joined (ds : List D) (r : RK) : Prop := (∃ (ties_0 : (List (Int × Int))) (i_0 : Int) (j_0 : Int) (x : Bool), ds = [enc ties_0, enc i_0, enc j_0] ∧ m__law_joined ties_0 i_0 j_0 = some x ∧ r = (.val (enc (x : Bool))))
theorem r__law_joined (ties_0 : (List (Int × Int))) (i_0 : Int) (j_0 : Int) (x : Bool) (h : m__law_joined ties_0 i_0 j_0 = some x) : R__law_joined [enc ties_0, enc i_0, enc j_0] (.val (enc (x : Bool))) := ⟨ties_0, i_0, j_0, x, rfl, h, rfl⟩
theorem ok__law_joined (T : Top K mg) : FnOk P w K mg base CX0 1 T.a__law_joined T.d__law_joined ["ties", "i", "j"] (sp0 K R__law_joined) := by
  refine fn0 T.F__law_joined sc__law_joined (fun ds r h => ?_) (fun cdv A outer s H E hr => ?_)
  · obtain ⟨ties_0, i_0, j_0, x, rfl, h, rfl⟩ := h; rfl
  · refine ⟨_, (pss_cons (ps_ret (pe_or (pe_cmpR (kx_op_inD (K := K) (u65 hr)) (pe_tup (pa_cons (pv 1) (pa_cons (pv 2) pa_nil))) (pv 0) (by with_unfolding_all rfl)) (pe_one (pe_cmpR (kx_op_inD (K := K) (u65 hr)) (pe_tup (pa_cons (pv 2) (pa_cons (pv 1) pa_nil))) (pv 0) (by with_unfolding_all rfl)))))
      pss_nil), ?_⟩
    rintro G ds r ⟨ties_0, i_0, j_0, x, rfl, h, rfl⟩
    refine Fin0.rt (S' := [.any, .any, .any]) [.val (enc (ties_0 : (List (Int × Int)))), .val (enc (i_0 : Int)), .val (enc (j_0 : Int))] rfl ?_
    exact q_ret (vs := [0, 1, 2]) (Ev.to (a := (((inB (i_0, j_0) ties_0) || (inB (j_0, i_0) ties_0)) : Bool)) (ev_orV (ev_inT (a := ((i_0, j_0) : (Int × Int))) (xs := ties_0) (ev_tup (ea_cons (ev_var rfl) (ea_cons (ev_var rfl) ea_nil))) (ev_var rfl)) (fun _ => (ev_inT (a := ((j_0, i_0) : (Int × Int))) (xs := ties_0) (ev_tup (ea_cons (ev_var rfl) (ea_cons (ev_var rfl) ea_nil))) (ev_var rfl)))) h) (by rfl)
-- _law_beside
def m__law_beside (n_0 : Int) (ties_0 : (List (Int × Int))) (i_0 : Int) : Option (List Int) := (rngO 0 n_0).bind fun r_1 => some ((((r_1).filter fun a_2 => (v__law_joined ties_0 i_0 a_2)).map fun a_2 => a_2))
def R__law_beside (ds : List D) (r : RK) : Prop := (∃ (n_0 : Int) (ties_0 : (List (Int × Int))) (i_0 : Int) (x : (List Int)), ds = [enc n_0, enc ties_0, enc i_0] ∧ m__law_beside n_0 ties_0 i_0 = some x ∧ r = (.new (lst (x : (List Int)))))
theorem r__law_beside (n_0 : Int) (ties_0 : (List (Int × Int))) (i_0 : Int) (x : (List Int)) (h : m__law_beside n_0 ties_0 i_0 = some x) : R__law_beside [enc n_0, enc ties_0, enc i_0] (.new (lst (x : (List Int)))) := ⟨n_0, ties_0, i_0, x, rfl, h, rfl⟩
theorem ok__law_beside (T : Top K mg) : FnOk P w K mg base CX0 2 T.a__law_beside T.d__law_beside ["n", "ties", "i"] (sp0 K R__law_beside) := by
  refine fn0 T.F__law_beside sc__law_beside (fun ds r h => ?_) (fun cdv A outer s H E hr => ?_)
  · obtain ⟨n_0, ties_0, i_0, x, rfl, h, rfl⟩ := h; rfl
  · refine ⟨_, (pss_cons (ps_ret (pe_lc (own := [("j", 3)]) rfl sc__law_beside.nd (pi_range1 rfl T.b_range (pa_cons (pv 0) pa_nil)) (blkOk_by (own := [("j", 3)]) (N := nm__law_beside) (sc := defScope s__law_beside) (by decide +kernel)) (fun _ _ _ _ _ => (pg_name (i := 3) sc__law_beside.nd rfl (.inl rfl))) (fun _ _ _ _ _ => (pts_one (pt_val (pe_call (ok__law_joined T) (hr.mono (by decide)) (by rfl) T.g__law_joined T.k__law_joined (bd__law_joined T.F__law_joined) .nil pass0 (pa_cons (pv 1) (pa_cons (pv 2) (pa_cons (pv 3) pa_nil))))))) (fun _ _ _ _ _ => (pv 3))))
      pss_nil), ?_⟩
    rintro G ds r ⟨n_0, ties_0, i_0, x, rfl, h, rfl⟩
    refine Fin0.rt (S' := [.any, .any, .any, .any]) [.val (enc (n_0 : Int)), .val (enc (ties_0 : (List (Int × Int)))), .val (enc (i_0 : Int)), .any] rfl ?_
    obtain ⟨r_1, h_r_1, h⟩ := bnd h
    exact q_retN (vs := [0, 1, 2]) (EvN.to (xs := ((((r_1).filter fun a_2 => (v__law_joined ties_0 i_0 a_2)).map fun a_2 => a_2) : (List Int))) (evn_cmp (p := fun a_2 => (v__law_joined ties_0 i_0 a_2)) (f := fun a_2 => a_2) (rngO_len h_r_1) (src_rng1 h_r_1 (ev_var rfl)) (fun a_2 G _ => tg_nm) (fun a_2 G _ => (eb_tB (ev_call (ea_cons (ev_var rfl) (ea_cons (ev_var rfl) (ea_cons (ev_var rfl) ea_nil))) (r__law_joined ties_0 i_0 a_2 (v__law_joined ties_0 i_0 a_2) rfl)))) (fun a_2 G _ _ => (ev_var rfl))) h) (by rfl)
-- _law_sides
def m__law_sides (n_0 : Int) (ties_0 : (List (Int × Int))) : Option (Option (List (List Int))) := (rngO 0 n_0).bind fun r_1 => (some ((r_1).map fun a_2 => (none : (Option Int)))).bind fun far_3 => (m__law_parts n_0 ties_0).bind fun c_4 => (lenO c_4).bind fun u_5 => (forL (fun (a_7 : (List Int)) (s_6 : (List (Option Int))) => (atI a_7 (0 : Int)).bind fun x_8 => (setO s_6 x_8 (some (0 : Int))).bind fun far_9 => (rngO 0 n_0).bind fun r_10 => (forL (fun (a_12 : Int) (s_11 : (List (Option Int))) => (lenO a_7).bind fun u_13 => (forL (fun (a_15 : Int) (s_14 : (List (Option Int))) => (atI s_14 a_15).bind fun x_16 => cond (decide ((x_16 : (Option Int)) = (some a_12))) ((m__law_beside n_0 ties_0 a_15).bind fun c_17 => (lenO c_17).bind fun u_18 => (forL (fun (a_20 : Int) (s_19 : (List (Option Int))) => (atI s_19 a_20).bind fun x_21 => cond (!(x_21).isSome) ((setO s_19 a_20 (some (a_12 + (1 : Int)))).bind fun far_22 => some far_22) (some s_19)) (c_17) s_14).bind fun r_23 => some r_23) (some s_14)) (a_7) s_11).bind fun r_25 => some r_25) (r_10) far_9).bind fun r_27 => some r_27) (c_4) far_3).bind fun r_29 => (lenO ties_0).bind fun u_30 => (cmpO (fun (a_31 : (Int × Int)) => ((atI r_29 a_31.1).bind fun x_32 => ((x_32).bind fun x_33 => ((atI r_29 a_31.2).bind fun x_34 => ((x_34).bind fun x_35 => some (decide ((((x_33 + x_35) % (2 : Int)) : Int) = (0 : Int)))))))) (fun a_31 => some a_31) (ties_0)).bind fun ys_36 => cond (decide ((0 : Int) < ((ys_36).length : Int))) (some ((none : (Option (List (List Int)))))) ((rngO 0 n_0).bind fun r_37 => (cmpO (fun (a_38 : Int) => ((atI r_29 a_38).bind fun x_39 => ((x_39).bind fun x_40 => some (decide (((x_40 % (2 : Int)) : Int) = (0 : Int)))))) (fun a_38 => some a_38) (r_37)).bind fun ys_41 => (rngO 0 n_0).bind fun r_42 => some ((some ([ys_41, (((r_42).filter fun a_43 => (!inB a_43 ys_41)).map fun a_43 => a_43)] : (List (List Int))))))
def R__law_sides (ds : List D) (r : RK) : Prop := (∃ (n_0 : Int) (ties_0 : (List (Int × Int))) (x : (Option (List (List Int)))), ds = [enc n_0, enc ties_0] ∧ m__law_sides n_0 ties_0 = some x ∧ r = (.val (enc (x : (Option (List (List Int)))))))
theorem r__law_sides (n_0 : Int) (ties_0 : (List (Int × Int))) (x : (Option (List (List Int)))) (h : m__law_sides n_0 ties_0 = some x) : R__law_sides [enc n_0, enc ties_0] (.val (enc (x : (Option (List (List Int)))))) := ⟨n_0, ties_0, x, rfl, h, rfl⟩
theorem ok__law_sides (T : Top K mg) : FnOk P w K mg base CX0 3 T.a__law_sides T.d__law_sides ["n", "ties"] (sp0 K R__law_sides) := by
  refine fn0 T.F__law_sides sc__law_sides (fun ds r h => ?_) (fun cdv A outer s H E hr => ?_)
  · obtain ⟨n_0, ties_0, x, rfl, h, rfl⟩ := h; rfl
  · refine ⟨_, (pss_cons (ps_set (i := 2) sc__law_sides.nd rfl (.inr rfl) (pe_lc (own := [("place", 6)]) rfl sc__law_sides.nd (pi_range1 rfl T.b_range (pa_cons (pv 0) pa_nil)) (blkOk_by (own := [("place", 6)]) (N := nm__law_sides) (sc := defScope s__law_sides) (by decide +kernel)) (fun _ _ _ _ _ => (pg_name (i := 6) sc__law_sides.nd rfl (.inl rfl))) (fun _ _ _ _ _ => pts_nil) (fun _ _ _ _ _ => pe_non)))
      (pss_cons (ps_for PassesOwn.never rfl (kx_pi_list (K := K) (pe_call (ok__law_parts T) (hr.mono (by decide)) (by rfl) T.g__law_parts T.k__law_parts (bd__law_parts T.F__law_parts) .nil pass0 (pa_cons (pv 0) (pa_cons (pv 1) pa_nil)))) (pg_name (i := 3) sc__law_sides.nd rfl (.inl rfl)) (pss_cons (ps_asg pe_int (pg_sub (pv 2) (pe_ix (kx_ix_list (K := K)) (pv 3) pe_int (fun _ _ => rfl)) set_list))
      (pss_cons (ps_for PassesOwn.never rfl (pi_range1 rfl T.b_range (pa_cons (pv 0) pa_nil)) (pg_name (i := 5) sc__law_sides.nd rfl (.inl rfl)) (pss_cons (ps_for PassesOwn.never rfl (kx_pi_list (K := K) (pv 3)) (pg_name (i := 6) sc__law_sides.nd rfl (.inl rfl)) (pss_cons (ps_if (pt_cmpR (kx_op_eqD (K := K) hr.units) (pe_ix (kx_ix_list (K := K)) (pv 2) (pv 6) (fun _ _ => rfl)) (pv 5) (nomark _)) (pss_cons (ps_for PassesOwn.never rfl (kx_pi_list (K := K) (pe_call (ok__law_beside T) (hr.mono (by decide)) (by rfl) T.g__law_beside T.k__law_beside (bd__law_beside T.F__law_beside) .nil pass0 (pa_cons (pv 0) (pa_cons (pv 1) (pa_cons (pv 6) pa_nil))))) (pg_name (i := 7) sc__law_sides.nd rfl (.inl rfl)) (pss_cons (ps_if (pt_cmpR op_isN (pe_ix (kx_ix_list (K := K)) (pv 2) (pv 7) (fun _ _ => rfl)) pe_non (nomark _)) (pss_cons (ps_asg (pe_op op_add (pv 5) pe_int) (pg_sub (pv 2) (pv 7) set_list))
      pss_nil) pss_nil)
      pss_nil))
      pss_nil) pss_nil)
      pss_nil))
      pss_nil))
      pss_nil)))
      (pss_cons (ps_if (pt_cmpR op_gt (pe_callB (kx_call_len_seq (K := K)) (by rfl) T.b_len (by decide +kernel) (pa_cons (pe_lc (own := [("tie", 8)]) rfl sc__law_sides.nd (kx_pi_list (K := K) (pv 1)) (blkOk_by (own := [("tie", 8)]) (N := nm__law_sides) (sc := defScope s__law_sides) (by decide +kernel)) (fun _ _ _ _ _ => (pg_name (i := 8) sc__law_sides.nd rfl (.inl rfl))) (fun _ _ _ _ _ => (pts_one (pt_cmpR (kx_op_eqD (K := K) hr.units) (pe_op op_mod (pe_callTy call_int1 (by rfl) T.b_int (by decide +kernel) (pa_cons (pe_op op_add (pe_ix (kx_ix_list (K := K)) (pv 2) (pe_ix (kx_ix_tup (K := K)) (pv 8) pe_int (fun _ _ => rfl)) (fun _ _ => rfl)) (pe_ix (kx_ix_list (K := K)) (pv 2) (pe_ix (kx_ix_tup (K := K)) (pv 8) pe_int (fun _ _ => rfl)) (fun _ _ => rfl))) pa_nil)) pe_int) pe_int (nomark _)))) (fun _ _ _ _ _ => (pv 8))) pa_nil)) pe_int (nomark _)) (pss_cons (ps_ret pe_non)
      pss_nil) pss_nil)
      (pss_cons (ps_set (i := 4) sc__law_sides.nd rfl (.inr rfl) (pe_lc (own := [("place", 6)]) rfl sc__law_sides.nd (pi_range1 rfl T.b_range (pa_cons (pv 0) pa_nil)) (blkOk_by (own := [("place", 6)]) (N := nm__law_sides) (sc := defScope s__law_sides) (by decide +kernel)) (fun _ _ _ _ _ => (pg_name (i := 6) sc__law_sides.nd rfl (.inl rfl))) (fun _ _ _ _ _ => (pts_one (pt_cmpR (kx_op_eqD (K := K) hr.units) (pe_op op_mod (pe_callTy call_int1 (by rfl) T.b_int (by decide +kernel) (pa_cons (pe_ix (kx_ix_list (K := K)) (pv 2) (pv 6) (fun _ _ => rfl)) pa_nil)) pe_int) pe_int (nomark _)))) (fun _ _ _ _ _ => (pv 6))))
      (pss_cons (ps_ret (pe_lst (pa_cons (pv 4) (pa_cons (pe_lc (own := [("place", 6)]) rfl sc__law_sides.nd (pi_range1 rfl T.b_range (pa_cons (pv 0) pa_nil)) (blkOk_by (own := [("place", 6)]) (N := nm__law_sides) (sc := defScope s__law_sides) (by decide +kernel)) (fun _ _ _ _ _ => (pg_name (i := 6) sc__law_sides.nd rfl (.inl rfl))) (fun _ _ _ _ _ => (pts_one (pt_cmpR (kx_op_notInD (K := K) (u65 hr)) (pv 6) (pv 4) (by with_unfolding_all rfl)))) (fun _ _ _ _ _ => (pv 6))) pa_nil))))
      pss_nil))))), ?_⟩
    rintro G ds r ⟨n_0, ties_0, x, rfl, h, rfl⟩
    refine Fin0.rt (S' := [.any, .any, .any, .any, .any, .any, .any, .any, .any]) [.val (enc (n_0 : Int)), .val (enc (ties_0 : (List (Int × Int)))), .any, .any, .any, .any, .any, .any, .any] rfl ?_
    obtain ⟨r_1, h_r_1, h⟩ := bnd h
    obtain ⟨far_3, h_far_3, h⟩ := bnd h
    refine q_asgN (EvN.to (evn_cmp0 (f := fun a_2 => (none : (Option Int))) (rngO_len h_r_1) (src_rng1 h_r_1 (ev_var rfl)) (fun a_2 G _ => tg_nm) (fun a_2 G _ => (Ev.is (x := .none) (y := enc (none : (Option Int))) ev_non rfl))) h_far_3) ?_
    obtain ⟨c_4, h_c_4, h⟩ := bnd h
    obtain ⟨u_5, h_u_5, h⟩ := bnd h
    obtain ⟨r_29, h_r_29, h⟩ := bnd h
    refine bs_forL (α := (List Int)) (en := enc) (St := fun (s_6 : (List (Option Int))) => [.val (enc (n_0 : Int)), .val (enc (ties_0 : (List (Int × Int)))), .own (lst (s_6 : (List (Option Int)))), .any, .any, .any, .any, .any, .any]) (src_listT ((evn_call (ea_cons (ev_var rfl) (ea_cons (ev_var rfl) ea_nil)) (r__law_parts n_0 ties_0 c_4 h_c_4))).fz) rfl h_r_29 (fun a_7 s_6 _ => tg_nm) (fun a_7 s_6 y_44 _ h => ?_) ?_
    · obtain ⟨x_8, h_x_8, h⟩ := bnd h
      obtain ⟨far_9, h_far_9, h⟩ := bnd h
      refine q_setI h_far_9 (Ev.is (x := enc ((0 : Int) : Int)) (y := enc (some (0 : Int) : (Option Int))) ev_int rfl) (ev_ixLT h_x_8 (ev_var rfl) ev_int) rfl rfl rfl rfl ?_
      obtain ⟨r_10, h_r_10, h⟩ := bnd h
      obtain ⟨r_27, h_r_27, h⟩ := bnd h
      refine bs_forL (α := Int) (en := enc) (St := fun (s_11 : (List (Option Int))) => [.val (enc (n_0 : Int)), .val (enc (ties_0 : (List (Int × Int)))), .own (lst (s_11 : (List (Option Int)))), .val (enc (a_7 : (List Int))), .any, .any, .any, .any, .any]) (src_rng1 h_r_10 (ev_var rfl)) rfl h_r_27 (fun a_12 s_11 _ => tg_nm) (fun a_12 s_11 y_28 _ h => ?_) ?_
      · obtain ⟨u_13, h_u_13, h⟩ := bnd h
        obtain ⟨r_25, h_r_25, h⟩ := bnd h
        refine bs_forL (α := Int) (en := enc) (St := fun (s_14 : (List (Option Int))) => [.val (enc (n_0 : Int)), .val (enc (ties_0 : (List (Int × Int)))), .own (lst (s_14 : (List (Option Int)))), .val (enc (a_7 : (List Int))), .any, .val (enc (a_12 : Int)), .any, .any, .any]) (src_listT (ev_var rfl)) rfl h_r_25 (fun a_15 s_14 _ => tg_nm) (fun a_15 s_14 y_26 _ h => ?_) ?_
        · obtain ⟨x_16, h_x_16, h⟩ := bnd h
          refine bs_ifS (eb_tmp fun G => (eb_test (ev_eqT (a := (x_16 : (Option Int))) (c := (some a_12)) (ev_ixLT h_x_16 (ev_var rfl) (ev_var rfl)) (Ev.is (x := enc (a_12 : Int)) (y := enc (some a_12 : (Option Int))) (ev_var rfl) rfl)))) (fun e => ?_) (fun e => ?_)
          · replace h := condT h e
            refine bs_assoc ?_
            obtain ⟨c_17, h_c_17, h⟩ := bnd h
            obtain ⟨u_18, h_u_18, h⟩ := bnd h
            obtain ⟨r_23, h_r_23, h⟩ := bnd h
            refine bs_forL (α := Int) (en := enc) (St := fun (s_19 : (List (Option Int))) => [.val (enc (n_0 : Int)), .val (enc (ties_0 : (List (Int × Int)))), .own (lst (s_19 : (List (Option Int)))), .val (enc (a_7 : (List Int))), .any, .val (enc (a_12 : Int)), .val (enc (a_15 : Int)), .any, .any]) (src_listT ((evn_call (ea_cons (ev_var rfl) (ea_cons (ev_var rfl) (ea_cons (ev_var rfl) ea_nil))) (r__law_beside n_0 ties_0 a_15 c_17 h_c_17))).fz) rfl h_r_23 (fun a_20 s_19 _ => tg_nm) (fun a_20 s_19 y_24 _ h => ?_) ?_
            · obtain ⟨x_21, h_x_21, h⟩ := bnd h
              refine bs_ifS (eb_tmp fun G => (eb_test (ev_isNT (ev_ixLT h_x_21 (ev_var rfl) (ev_var rfl))))) (fun e => ?_) (fun e => ?_)
              · replace h := condT h e
                refine bs_assoc ?_
                obtain ⟨far_22, h_far_22, h⟩ := bnd h
                refine q_setI h_far_22 (Ev.is (x := enc ((a_12 + (1 : Int)) : Int)) (y := enc (some (a_12 + (1 : Int)) : (Option Int))) (ev_add (ev_var rfl) ev_int) rfl) (ev_var rfl) rfl rfl rfl rfl ?_
                refine bs_next ?_
                cases h
                exact q_nilc (vs := [7]) rfl
              · replace h := condF h e
                refine bs_next ?_
                cases h
                exact q_nilc (vs := [7]) rfl
            refine bs_next ?_
            cases h
            exact q_nilc (vs := [6]) rfl
          · replace h := condF h e
            refine bs_next ?_
            cases h
            exact q_nilc (vs := [6]) rfl
        cases h
        exact q_nilc (vs := [5]) rfl
      cases h
      exact q_nilc (vs := [3]) rfl
    obtain ⟨u_30, h_u_30, h⟩ := bnd h
    obtain ⟨ys_36, h_ys_36, h⟩ := bnd h
    refine bs_ifS (eb_tmp fun G => (eb_test (ev_gt (ev_lenT ((evn_cmpO h_ys_36 (lenO_of h_u_30) (src_listT (ev_var rfl)) (fun a_31 G _ => tg_nm) (fun a_31 b G _ h => by obtain ⟨x_32, h_x_32, h⟩ := bnd h; obtain ⟨x_33, h_x_33, h⟩ := bnd h; obtain ⟨x_34, h_x_34, h⟩ := bnd h; obtain ⟨x_35, h_x_35, h⟩ := bnd h; exact EvB.to (eb_test (ev_eqT (a := (((x_33 + x_35) % (2 : Int)) : Int)) (c := (0 : Int)) (ev_mod (by decide) (ev_intI (ev_add (Ev.un (ev_ixLT h_x_32 (ev_var rfl) (ev_ixT (d := enc (a_31.1 : Int)) (ev_var rfl) ev_int rfl)) h_x_33) (Ev.un (ev_ixLT h_x_34 (ev_var rfl) (ev_ixT (d := enc (a_31.2 : Int)) (ev_var rfl) ev_int rfl)) h_x_35))) ev_int) ev_int)) h) (fun a_31 b G _ h0 h => by obtain ⟨x_32, h_x_32, h0⟩ := bnd h0; obtain ⟨x_33, h_x_33, h0⟩ := bnd h0; obtain ⟨x_34, h_x_34, h0⟩ := bnd h0; obtain ⟨x_35, h_x_35, h0⟩ := bnd h0; have h0 := Option.some.inj h0; exact Ev.to (a := (a_31 : (Int × Int))) (ev_var rfl) h))).fz) ev_int))) (fun e => ?_) (fun e => ?_)
    · replace h := condT h e
      refine bs_assoc ?_
      exact q_ret (vs := [0, 1, 2]) (Ev.to (a := ((none : (Option (List (List Int)))) : (Option (List (List Int))))) (Ev.is (x := .none) (y := enc (none : (Option (List (List Int))))) ev_non rfl) h) (by rfl)
    · replace h := condF h e
      refine bs_next ?_
      obtain ⟨r_37, h_r_37, h⟩ := bnd h
      obtain ⟨ys_41, h_ys_41, h⟩ := bnd h
      refine q_asg ((evn_tmpT fun G => (evn_cmpO h_ys_41 (rngO_len h_r_37) (src_rng1 h_r_37 (ev_var rfl)) (fun a_38 G _ => tg_nm) (fun a_38 b G _ h => by obtain ⟨x_39, h_x_39, h⟩ := bnd h; obtain ⟨x_40, h_x_40, h⟩ := bnd h; exact EvB.to (eb_test (ev_eqT (a := ((x_40 % (2 : Int)) : Int)) (c := (0 : Int)) (ev_mod (by decide) (ev_intI (Ev.un (ev_ixLT h_x_39 (ev_var rfl) (ev_var rfl)) h_x_40)) ev_int) ev_int)) h) (fun a_38 b G _ h0 h => by obtain ⟨x_39, h_x_39, h0⟩ := bnd h0; obtain ⟨x_40, h_x_40, h0⟩ := bnd h0; have h0 := Option.some.inj h0; exact Ev.to (a := (a_38 : Int)) (ev_var rfl) h)))).fz ?_
      obtain ⟨r_42, h_r_42, h⟩ := bnd h
      exact q_ret (vs := [0, 1, 2, 4]) (Ev.to (a := ((some ([ys_41, (((r_42).filter fun a_43 => (!inB a_43 ys_41)).map fun a_43 => a_43)] : (List (List Int)))) : (Option (List (List Int))))) (Ev.is (x := enc (([ys_41, (((r_42).filter fun a_43 => (!inB a_43 ys_41)).map fun a_43 => a_43)] : (List (List Int))) : (List (List Int)))) (y := enc (some ([ys_41, (((r_42).filter fun a_43 => (!inB a_43 ys_41)).map fun a_43 => a_43)] : (List (List Int))) : (Option (List (List Int))))) (((evn_lstT (xs := ([ys_41, (((r_42).filter fun a_43 => (!inB a_43 ys_41)).map fun a_43 => a_43)] : (List (List Int)))) (ea_cons (ev_var rfl) (ea_cons ((evn_cmp (p := fun a_43 => (!inB a_43 ys_41)) (f := fun a_43 => a_43) (rngO_len h_r_42) (src_rng1 h_r_42 (ev_var rfl)) (fun a_43 G _ => tg_nm) (fun a_43 G _ => (eb_test (ev_niT (a := (a_43 : Int)) (xs := ys_41) (ev_var rfl) (ev_var rfl)))) (fun a_43 G _ _ => (ev_var rfl)))).fz ea_nil)) rfl)).fz) rfl) h) (by rfl)
-- _law_same
abbrev m__law_same := m_same
abbrev R__law_same := R_sameN 4
theorem r__law_same (a d : D) (b : Bool) (h : m__law_same a d = some b) : R__law_same [a, d] (.val (enc b)) := r_same h
theorem ok__law_sameN (T : Top K mg) : ∀ j, FnOk P w K mg base CX0 j T.a__law_same T.d__law_same ["actual", "due"] (sp0 K (R_sameN j))
  | 0 => same_none
  | j + 1 => by
    have ih := ok__law_sameN T j
    refine fn0 T.F__law_same sc__law_same (fun ds r h => ?_) (fun cdv A outer s H E hr => ?_)
    · obtain ⟨a, d, rfl, _⟩ := h; rfl
    · refine ⟨_, (pss_cons (ps_if (PW.pt (pw_or (pt_val (pe_callB (kx_call_isi (K := K)) (by rfl) T.b_isinstance (by decide +kernel) (pa_cons (pv 1) (pa_cons (kx_ty (T := "list") (by rfl) T.b_list (by decide +kernel)) pa_nil)))) (pw_or1 (pt_val (pe_callB (kx_call_isi (K := K)) (by rfl) T.b_isinstance (by decide +kernel) (pa_cons (pv 1) (pa_cons (kx_ty (T := "tuple") (by rfl) T.b_tuple (by decide +kernel)) pa_nil))))))) (pss_cons (ps_if (PW.pt (pw_or (pt_cmpR (kx_op_neD (K := K) hr.units) (pe_callB (kx_call_isi (K := K)) (by rfl) T.b_isinstance (by decide +kernel) (pa_cons (pv 0) (pa_cons (kx_ty (T := "list") (by rfl) T.b_list (by decide +kernel)) pa_nil))) (pe_callB (kx_call_isi (K := K)) (by rfl) T.b_isinstance (by decide +kernel) (pa_cons (pv 1) (pa_cons (kx_ty (T := "list") (by rfl) T.b_list (by decide +kernel)) pa_nil))) (nomark _)) (pw_or1 (pt_cmpR (kx_op_neD (K := K) hr.units) (pe_callB (kx_call_isi (K := K)) (by rfl) T.b_isinstance (by decide +kernel) (pa_cons (pv 0) (pa_cons (kx_ty (T := "tuple") (by rfl) T.b_tuple (by decide +kernel)) pa_nil))) (pe_callB (kx_call_isi (K := K)) (by rfl) T.b_isinstance (by decide +kernel) (pa_cons (pv 1) (pa_cons (kx_ty (T := "tuple") (by rfl) T.b_tuple (by decide +kernel)) pa_nil))) (nomark _))))) (pss_cons (ps_ret pe_bl)
      pss_nil) pss_nil)
      (pss_cons (ps_ret (pe_and (pe_cmpR (kx_op_eqD (K := K) hr.units) (pe_callB (kx_call_len_seq (K := K)) (by rfl) T.b_len (by decide +kernel) (pa_cons (pv 0) pa_nil)) (pe_callB (kx_call_len_seq (K := K)) (by rfl) T.b_len (by decide +kernel) (pa_cons (pv 1) pa_nil)) (nomark _)) (pe_one (pe_callB (kx_cr_all (K := K) rfl) (by rfl) T.b_all (by decide +kernel) (pa_cons (pe_lc (own := [("k", 2)]) rfl sc__law_same.nd (pi_range1 rfl T.b_range (pa_cons (pe_callB (kx_call_len_seq (K := K)) (by rfl) T.b_len (by decide +kernel) (pa_cons (pv 1) pa_nil)) pa_nil)) (blkOk_by (own := [("k", 2)]) (N := nm__law_same) (sc := defScope s__law_same) (by decide +kernel)) (fun _ _ _ _ _ => (pg_name (i := 2) sc__law_same.nd rfl (.inl rfl))) (fun _ _ _ _ _ => pts_nil) (fun _ _ _ _ _ => (pe_call ih hr (by rfl) T.g__law_same T.k__law_same (bd__law_same T.F__law_same) .nil pass0 (pa_cons (pe_ix (kx_ix_seq (K := K)) (pv 0) (pv 2) (fun _ _ => rfl)) (pa_cons (pe_ix (kx_ix_seq (K := K)) (pv 1) (pv 2) (fun _ _ => rfl)) pa_nil))))) pa_nil)))))
      pss_nil)) pss_nil)
      (pss_cons (ps_if (PW.pt (pw_or (pt_cmpR op_isN (pv 1) pe_non (nomark _)) (pw_or1 (pt_val (pe_callB (kx_call_isi (K := K)) (by rfl) T.b_isinstance (by decide +kernel) (pa_cons (pv 1) (pa_cons (kx_ty (T := "bool") (by rfl) T.b_bool (by decide +kernel)) pa_nil))))))) (pss_cons (ps_ret (pe_ifExp (pt_cmpR op_isN (pv 1) pe_non (nomark _)) (pe_cmpR op_isN (pv 0) pe_non (nomark _)) (pe_and (pe_callB (kx_call_isi (K := K)) (by rfl) T.b_isinstance (by decide +kernel) (pa_cons (pv 0) (pa_cons (kx_ty (T := "bool") (by rfl) T.b_bool (by decide +kernel)) pa_nil))) (pe_one (pe_cmpR (kx_op_eqD (K := K) hr.units) (pv 0) (pv 1) (nomark _))))))
      pss_nil) pss_nil)
      (pss_cons (ps_if (pt_val (pe_callB (kx_call_isi (K := K)) (by rfl) T.b_isinstance (by decide +kernel) (pa_cons (pv 1) (pa_cons (kx_ty (T := "str") (by rfl) T.b_str (by decide +kernel)) pa_nil)))) (pss_cons (ps_ret (pe_and (pe_callB (kx_call_isi (K := K)) (by rfl) T.b_isinstance (by decide +kernel) (pa_cons (pv 0) (pa_cons (kx_ty (T := "str") (by rfl) T.b_str (by decide +kernel)) pa_nil))) (pe_one (pe_cmpR (kx_op_eqD (K := K) hr.units) (pv 0) (pv 1) (nomark _)))))
      pss_nil) pss_nil)
      (pss_cons (ps_ret (pe_and (pe_callB (kx_call_isi (K := K)) (by rfl) T.b_isinstance (by decide +kernel) (pa_cons (pv 0) (pa_cons (kx_ty (T := "int") (by rfl) T.b_int (by decide +kernel)) pa_nil))) (pe_and (pe_not (pe_callB (kx_call_isi (K := K)) (by rfl) T.b_isinstance (by decide +kernel) (pa_cons (pv 0) (pa_cons (kx_ty (T := "bool") (by rfl) T.b_bool (by decide +kernel)) pa_nil)))) (pe_one (pe_cmpR (kx_op_eqD (K := K) hr.units) (pv 0) (pv 1) (nomark _))))))
      pss_nil)))), ?_⟩
      rintro G ds r ⟨a, d, rfl, ha, hd, hj, rfl⟩
      refine Fin0.rt (S' := [.any, .any, .any]) [.val a, .val d, .any] rfl ?_
      refine bs_ifS (b := isLD d || isTD d) (eb_or (eb_tB (ev_isi (isi_list d) (ev_var rfl))) (fun _ => eb_tB (ev_isi (isi_tuple d) (ev_var rfl)))) (fun e => ?_) (fun e => ?_)
      · refine bs_assoc ?_
        refine bs_ifS (b := (!decide (isLD a = isLD d)) || (!decide (isTD a = isTD d))) (eb_or (eb_test (ev_neT (a := isLD a) (c := isLD d) (ev_isi (isi_list a) (ev_var rfl)) (ev_isi (isi_list d) (ev_var rfl)))) (fun _ => eb_test (ev_neT (a := isTD a) (c := isTD d) (ev_isi (isi_tuple a) (ev_var rfl)) (ev_isi (isi_tuple d) (ev_var rfl))))) (fun e2 => ?_) (fun e2 => ?_)
        · refine bs_assoc ?_
          exact q_ret (vs := [0, 1]) (Ev.is ev_bl (by rw [same_not e e2])) (by rfl)
        · refine bs_next ?_
          refine bs_assoc ?_
          obtain ⟨as, ds, sa, sd, hs, oa, od, hl, hdep⟩ := same_seq e e2 ha hd
          rw [hs]
          have hr0 : rngO 0 (ds.length : Int) = some (rangeL 0 (ds.length : Int)) := rngO_ok (by omega)
          by_cases hlen : as.length = ds.length
          · refine q_ret (vs := [0, 1]) (Ev.is (ev_andV (a := decide ((as.length : Int) = (ds.length : Int))) (ev_eqT (a := (as.length : Int)) (c := (ds.length : Int)) (ev_len (ev_var rfl) sa) (ev_len (ev_var rfl) sd)) (fun el => ev_all ((evn_cmp0 (f := fun k : Int => sameD (as.getD k.toNat .none) (ds.getD k.toNat .none)) (rngO_len hr0) (src_rng1 hr0 (ev_len (ev_var rfl) sd)) (fun a G _ => tg_nm) (fun k G hk => ?_)).fz))) ?_) (by rfl)
            · obtain ⟨i, rfl, hi⟩ := mem_range0 hk
              have g1 := List.getElem?_eq_getElem hi
              have g2 := List.getElem?_eq_getElem (show i < as.length by omega)
              have hD : ds.getD (i : Int).toNat .none = ds[i] := by rw [Int.toNat_natCast, List.getD_eq_getElem?_getD, g1]; rfl
              have hA : as.getD (i : Int).toNat .none = as[i] := by rw [Int.toNat_natCast, List.getD_eq_getElem?_getD, g2]; rfl
              have ho1 := okSs_get oa g2
              have ho2 := okSs_get od g1
              have hdp := depAll_get g1
              cases j with
              | zero => omega
              | succ j => exact ev_call (ea_cons (ev_ix (ev_var rfl) (ev_var rfl) sa (atI_nat' g2)) (ea_cons (ev_ix (ev_var rfl) (ev_var rfl) sd (atI_nat' g1)) ea_nil)) ⟨_, _, rfl, ho1, ho2, by omega, by rw [hD, hA]; rfl⟩
            · rw [same_map as ds hlen]
              rw [decide_eq_true (congrArg _ hlen), Bool.true_and]
          · refine q_ret (vs := [0, 1]) (Ev.is (ev_andG (a := decide ((as.length : Int) = (ds.length : Int))) (r := false) (ev_eqT (a := (as.length : Int)) (c := (ds.length : Int)) (ev_len (ev_var rfl) sa) (ev_len (ev_var rfl) sd)) (fun el => absurd (of_decide_eq_true el) (by omega)) (fun _ => ⟨rfl, rfl⟩)) ?_) (by rfl)
            rw [sameDs_len as ds hlen]
      · refine bs_next ?_
        have dz := depth0 hd e
        have shd := okS_shaped hd dz
        refine bs_ifS (b := isNone d || isBD d) (eb_or (eb_test (ev_isN (ev_var rfl))) (fun _ => eb_tB (ev_isi (isi_bool d) (ev_var rfl)))) (fun e2 => ?_) (fun e2 => ?_)
        · refine bs_assoc ?_
          refine q_ret (vs := [0, 1]) (ev_if (b := isNone d) (eb_test (ev_isN (ev_var rfl))) (fun h => Ev.is (ev_isN (ev_var rfl)) ?_) (fun h => ?_)) (by rfl)
          · cases d <;> first | (simp [isNone] at h; done) | (cases a <;> simp [sameD, isNone])
          · cases hb : isBD a with
            | true =>
              have sha : SeqAt.shaped a = true := by cases a <;> first | rfl | (simp [isBD] at hb)
              refine Ev.is (ev_andV (a := true) (hb ▸ ev_isi (isi_bool a) (ev_var rfl)) (fun _ => ev_op (ev_var rfl) (ev_var rfl) (ov_eqD sha shd))) ?_
              cases a <;> first | (simp [isBD] at hb; done) | (cases d <;> first | (simp [isNone, isBD] at h e2; done) | simp [sameD, PyData.eqv])
            | false =>
              refine Ev.is (ev_andG (a := false) (r := false) (hb ▸ ev_isi (isi_bool a) (ev_var rfl)) (fun e => nomatch e) (fun _ => ⟨rfl, rfl⟩)) ?_
              cases d <;> first | (simp [isNone, isBD] at h e2; done) | (cases a <;> first | (simp [isBD] at hb; done) | simp [sameD])
        · refine bs_next ?_
          refine bs_ifS (b := isSD d) (eb_tB (ev_isi (isi_str d) (ev_var rfl))) (fun e3 => ?_) (fun e3 => ?_)
          · refine bs_assoc ?_
            cases hb : isSD a with
            | true =>
              have sha : SeqAt.shaped a = true := okS_shaped ha (by cases a <;> first | rfl | (simp [isSD] at hb))
              refine q_ret (vs := [0, 1]) (Ev.is (ev_andV (a := true) (hb ▸ ev_isi (isi_str a) (ev_var rfl)) (fun _ => ev_op (ev_var rfl) (ev_var rfl) (ov_eqD sha shd))) ?_) (by rfl)
              cases a <;> first | (simp [isSD] at hb; done) | (cases d <;> first | (simp [isSD] at e3; done) | simp [sameD, PyData.eqv])
            | false =>
              refine q_ret (vs := [0, 1]) (Ev.is (ev_andG (a := false) (r := false) (hb ▸ ev_isi (isi_str a) (ev_var rfl)) (fun e => nomatch e) (fun _ => ⟨rfl, rfl⟩)) ?_) (by rfl)
              cases d <;> first | (simp [isSD] at e3; done) | (cases a <;> first | (simp [isSD] at hb; done) | simp [sameD])
          · refine bs_next ?_
            have hdi : ∃ i, d = .int i := by cases d <;> first | (simp [isLD, isTD, isNone, isBD, isSD, okS] at e e2 e3 hd; done) | exact ⟨_, rfl⟩
            obtain ⟨i, rfl⟩ := hdi
            cases hi : isID a with
            | false =>
              refine q_ret (vs := [0, 1]) (Ev.is (ev_andG (a := false) (r := false) (hi ▸ ev_isi (isi_int a) (ev_var rfl)) (fun e => nomatch e) (fun _ => ⟨rfl, rfl⟩)) ?_) (by rfl)
              cases a <;> first | (simp [isID] at hi; done) | simp [sameD]
            | true =>
              cases hb : isBD a with
              | true =>
                refine q_ret (vs := [0, 1]) (Ev.is (ev_andV (a := true) (hi ▸ ev_isi (isi_int a) (ev_var rfl)) (fun _ => ev_andG (a := false) (r := false) (ev_notV (a := true) (hb ▸ ev_isi (isi_bool a) (ev_var rfl))) (fun e => nomatch e) (fun _ => ⟨rfl, rfl⟩))) ?_) (by rfl)
                cases a <;> first | (simp [isBD] at hb; done) | simp [sameD]
              | false =>
                have sha : SeqAt.shaped a = true := by cases a <;> first | rfl | (simp [isID] at hi)
                refine q_ret (vs := [0, 1]) (Ev.is (ev_andV (a := true) (hi ▸ ev_isi (isi_int a) (ev_var rfl)) (fun _ => ev_andV (a := true) (ev_notV (a := false) (hb ▸ ev_isi (isi_bool a) (ev_var rfl))) (fun _ => ev_op (ev_var rfl) (ev_var rfl) (ov_eqD sha shd)))) ?_) (by rfl)
                cases a <;> first | (simp [isID, isBD] at hi hb; done) | simp [sameD, PyData.eqv]
theorem ok__law_same (T : Top K mg) : FnOk P w K mg base CX0 4 T.a__law_same T.d__law_same ["actual", "due"] (sp0 K R__law_same) := ok__law_sameN T 4
-- _law_whole
def v__law_whole (value_0 : Int) : Bool := ((!false))
def m__law_whole (value_0 : Int) : Option Bool := some (v__law_whole value_0)
def R__law_whole (ds : List D) (r : RK) : Prop := (∃ (value_0 : Int) (x : Bool), ds = [enc value_0] ∧ m__law_whole value_0 = some x ∧ r = (.val (enc (x : Bool))))
theorem r__law_whole (value_0 : Int) (x : Bool) (h : m__law_whole value_0 = some x) : R__law_whole [enc value_0] (.val (enc (x : Bool))) := ⟨value_0, x, rfl, h, rfl⟩
theorem ok__law_whole (T : Top K mg) : FnOk P w K mg base CX0 1 T.a__law_whole T.d__law_whole ["value"] (sp0 K R__law_whole) := by
  refine fn0 T.F__law_whole sc__law_whole (fun ds r h => ?_) (fun cdv A outer s H E hr => ?_)
  · obtain ⟨value_0, x, rfl, h, rfl⟩ := h; rfl
  · refine ⟨_, (pss_cons (ps_ret (pe_and (pe_callB (kx_call_isi (K := K)) (by rfl) T.b_isinstance (by decide +kernel) (pa_cons (pv 0) (pa_cons (kx_ty (T := "int") (by rfl) T.b_int (by decide +kernel)) pa_nil))) (pe_one (pe_not (pe_callB (kx_call_isi (K := K)) (by rfl) T.b_isinstance (by decide +kernel) (pa_cons (pv 0) (pa_cons (kx_ty (T := "bool") (by rfl) T.b_bool (by decide +kernel)) pa_nil)))))))
      pss_nil), ?_⟩
    rintro G ds r ⟨value_0, x, rfl, h, rfl⟩
    refine Fin0.rt (S' := [.any]) [.val (enc (value_0 : Int))] rfl ?_
    exact q_ret (vs := [0]) (Ev.to (a := ((!false) : Bool)) (ev_andG (ev_isi (b := true) rfl (ev_var rfl)) (fun _ => (ev_notV (ev_isi (b := false) rfl (ev_var rfl)))) (fun e => nomatch e)) h) (by rfl)
-- _law_wholes
def m__law_wholes (value_0 : (List Int)) : Option Bool := (lenO value_0).bind fun u_1 => some ((decide (((((((value_0).filter fun a_2 => (v__law_whole a_2)).map fun a_2 => a_2)).length : Int) : Int) = ((value_0).length : Int))))
def R__law_wholes (ds : List D) (r : RK) : Prop := (∃ (value_0 : (List Int)) (x : Bool), ds = [enc value_0] ∧ m__law_wholes value_0 = some x ∧ r = (.val (enc (x : Bool))))
theorem r__law_wholes (value_0 : (List Int)) (x : Bool) (h : m__law_wholes value_0 = some x) : R__law_wholes [enc value_0] (.val (enc (x : Bool))) := ⟨value_0, x, rfl, h, rfl⟩
theorem ok__law_wholes (T : Top K mg) : FnOk P w K mg base CX0 2 T.a__law_wholes T.d__law_wholes ["value"] (sp0 K R__law_wholes) := by
  refine fn0 T.F__law_wholes sc__law_wholes (fun ds r h => ?_) (fun cdv A outer s H E hr => ?_)
  · obtain ⟨value_0, x, rfl, h, rfl⟩ := h; rfl
  · refine ⟨_, (pss_cons (ps_ret (pe_and (pe_callB (kx_call_isi (K := K)) (by rfl) T.b_isinstance (by decide +kernel) (pa_cons (pv 0) (pa_cons (kx_ty (T := "list") (by rfl) T.b_list (by decide +kernel)) pa_nil))) (pe_one (pe_cmpR (kx_op_eqD (K := K) hr.units) (pe_callB (kx_call_len_seq (K := K)) (by rfl) T.b_len (by decide +kernel) (pa_cons (pe_lc (own := [("one", 1)]) rfl sc__law_wholes.nd (kx_pi_list (K := K) (pv 0)) (blkOk_by (own := [("one", 1)]) (N := nm__law_wholes) (sc := defScope s__law_wholes) (by decide +kernel)) (fun _ _ _ _ _ => (pg_name (i := 1) sc__law_wholes.nd rfl (.inl rfl))) (fun _ _ _ _ _ => (pts_one (pt_val (pe_call (ok__law_whole T) (hr.mono (by decide)) (by rfl) T.g__law_whole T.k__law_whole (bd__law_whole T.F__law_whole) .nil pass0 (pa_cons (pv 1) pa_nil))))) (fun _ _ _ _ _ => (pv 1))) pa_nil)) (pe_callB (kx_call_len_seq (K := K)) (by rfl) T.b_len (by decide +kernel) (pa_cons (pv 0) pa_nil)) (nomark _)))))
      pss_nil), ?_⟩
    rintro G ds r ⟨value_0, x, rfl, h, rfl⟩
    refine Fin0.rt (S' := [.any, .any]) [.val (enc (value_0 : (List Int))), .any] rfl ?_
    obtain ⟨u_1, h_u_1, h⟩ := bnd h
    exact q_ret (vs := [0]) (Ev.to (a := ((decide (((((((value_0).filter fun a_2 => (v__law_whole a_2)).map fun a_2 => a_2)).length : Int) : Int) = ((value_0).length : Int))) : Bool)) (ev_andG (ev_isi (b := true) rfl (ev_var rfl)) (fun _ => (ev_eqT (a := ((((((value_0).filter fun a_2 => (v__law_whole a_2)).map fun a_2 => a_2)).length : Int) : Int)) (c := ((value_0).length : Int)) (ev_lenT ((evn_cmp (p := fun a_2 => (v__law_whole a_2)) (f := fun a_2 => a_2) (lenO_of h_u_1) (src_listT (ev_var rfl)) (fun a_2 G _ => tg_nm) (fun a_2 G _ => (eb_tB (ev_call (ea_cons (ev_var rfl) ea_nil) (r__law_whole a_2 (v__law_whole a_2) rfl)))) (fun a_2 G _ _ => (ev_var rfl)))).fz) (ev_lenT (ev_var rfl)))) (fun e => nomatch e)) h) (by rfl)
-- _law_is_ring
def m__law_is_ring (n_0 : Int) (ties_0 : (List (Int × Int))) (places_0 : (List Int)) : Option Bool := (m__law_wholes places_0).bind fun c_1 => (cond (!c_1) (some true) ((cond (decide (((places_0).length : Int) < (3 : Int))) (some true) ((lenO places_0).bind fun u_2 => some (decide ((0 : Int) < (((((places_0).filter fun a_3 => (!(decide ((0 : Int) ≤ a_3) && decide (a_3 < n_0)))).map fun a_3 => a_3)).length : Int))))).bind fun q_4 => some q_4)).bind fun q_5 => cond q_5 (some (false)) ((rngO 0 ((places_0).length : Int)).bind fun r_6 => (cmpO (fun (a_7 : Int) => ((atI places_0 a_7).bind fun x_8 => some (inB x_8 (cutL places_0 none (some a_7))))) (fun a_7 => some a_7) (r_6)).bind fun ys_9 => cond (decide ((0 : Int) < ((ys_9).length : Int))) (some (false)) ((rngO 0 ((places_0).length : Int)).bind fun r_10 => (cmpO (fun (a_11 : Int) => ((atI places_0 (a_11 - (1 : Int))).bind fun x_12 => ((atI places_0 a_11).bind fun x_13 => some (!(v__law_joined ties_0 x_12 x_13))))) (fun a_11 => some a_11) (r_10)).bind fun ys_14 => some ((decide ((((ys_14).length : Int) : Int) = (0 : Int))))))
def R__law_is_ring (ds : List D) (r : RK) : Prop := (∃ (n_0 : Int) (ties_0 : (List (Int × Int))) (places_0 : (List Int)) (x : Bool), ds = [enc n_0, enc ties_0, enc places_0] ∧ m__law_is_ring n_0 ties_0 places_0 = some x ∧ r = (.val (enc (x : Bool))))
theorem r__law_is_ring (n_0 : Int) (ties_0 : (List (Int × Int))) (places_0 : (List Int)) (x : Bool) (h : m__law_is_ring n_0 ties_0 places_0 = some x) : R__law_is_ring [enc n_0, enc ties_0, enc places_0] (.val (enc (x : Bool))) := ⟨n_0, ties_0, places_0, x, rfl, h, rfl⟩
theorem ok__law_is_ring (T : Top K mg) : FnOk P w K mg base CX0 3 T.a__law_is_ring T.d__law_is_ring ["n", "ties", "places"] (sp0 K R__law_is_ring) := by
  refine fn0 T.F__law_is_ring sc__law_is_ring (fun ds r h => ?_) (fun cdv A outer s H E hr => ?_)
  · obtain ⟨n_0, ties_0, places_0, x, rfl, h, rfl⟩ := h; rfl
  · refine ⟨_, (pss_cons (ps_if (PW.pt (pw_or (pt_not (pt_val (pe_call (ok__law_wholes T) (hr.mono (by decide)) (by rfl) T.g__law_wholes T.k__law_wholes (bd__law_wholes T.F__law_wholes) .nil pass0 (pa_cons (pv 2) pa_nil)))) (pw_or (pt_cmpR op_lt (pe_callB (kx_call_len_seq (K := K)) (by rfl) T.b_len (by decide +kernel) (pa_cons (pv 2) pa_nil)) pe_int (nomark _)) (pw_or1 (pt_cmpR op_gt (pe_callB (kx_call_len_seq (K := K)) (by rfl) T.b_len (by decide +kernel) (pa_cons (pe_lc (own := [("place", 4)]) rfl sc__law_is_ring.nd (kx_pi_list (K := K) (pv 2)) (blkOk_by (own := [("place", 4)]) (N := nm__law_is_ring) (sc := defScope s__law_is_ring) (by decide +kernel)) (fun _ _ _ _ _ => (pg_name (i := 4) sc__law_is_ring.nd rfl (.inl rfl))) (fun _ _ _ _ _ => (pts_one (pt_not (pt_chain op_le op_lt pe_int (pv 4) (pv 0))))) (fun _ _ _ _ _ => (pv 4))) pa_nil)) pe_int (nomark _)))))) (pss_cons (ps_ret pe_bl)
      pss_nil) pss_nil)
      (pss_cons (ps_if (pt_cmpR op_gt (pe_callB (kx_call_len_seq (K := K)) (by rfl) T.b_len (by decide +kernel) (pa_cons (pe_lc (own := [("k", 3)]) rfl sc__law_is_ring.nd (pi_range1 rfl T.b_range (pa_cons (pe_callB (kx_call_len_seq (K := K)) (by rfl) T.b_len (by decide +kernel) (pa_cons (pv 2) pa_nil)) pa_nil)) (blkOk_by (own := [("k", 3)]) (N := nm__law_is_ring) (sc := defScope s__law_is_ring) (by decide +kernel)) (fun _ _ _ _ _ => (pg_name (i := 3) sc__law_is_ring.nd rfl (.inl rfl))) (fun _ _ _ _ _ => (pts_one (pt_cmpR (kx_op_inD (K := K) (u65 hr)) (pe_ix (kx_ix_list (K := K)) (pv 2) (pv 3) (fun _ _ => rfl)) (pe_slice (kx_sl_list (K := K)) (pv 2) po_none (po_some (pv 3))) (by with_unfolding_all rfl)))) (fun _ _ _ _ _ => (pv 3))) pa_nil)) pe_int (nomark _)) (pss_cons (ps_ret pe_bl)
      pss_nil) pss_nil)
      (pss_cons (ps_ret (pe_cmpR (kx_op_eqD (K := K) hr.units) (pe_callB (kx_call_len_seq (K := K)) (by rfl) T.b_len (by decide +kernel) (pa_cons (pe_lc (own := [("k", 3)]) rfl sc__law_is_ring.nd (pi_range1 rfl T.b_range (pa_cons (pe_callB (kx_call_len_seq (K := K)) (by rfl) T.b_len (by decide +kernel) (pa_cons (pv 2) pa_nil)) pa_nil)) (blkOk_by (own := [("k", 3)]) (N := nm__law_is_ring) (sc := defScope s__law_is_ring) (by decide +kernel)) (fun _ _ _ _ _ => (pg_name (i := 3) sc__law_is_ring.nd rfl (.inl rfl))) (fun _ _ _ _ _ => (pts_one (pt_not (pt_val (pe_call (ok__law_joined T) (hr.mono (by decide)) (by rfl) T.g__law_joined T.k__law_joined (bd__law_joined T.F__law_joined) .nil pass0 (pa_cons (pv 1) (pa_cons (pe_ix (kx_ix_list (K := K)) (pv 2) (pe_op op_sub (pv 3) pe_int) (fun _ _ => rfl)) (pa_cons (pe_ix (kx_ix_list (K := K)) (pv 2) (pv 3) (fun _ _ => rfl)) pa_nil)))))))) (fun _ _ _ _ _ => (pv 3))) pa_nil)) pe_int (nomark _)))
      pss_nil))), ?_⟩
    rintro G ds r ⟨n_0, ties_0, places_0, x, rfl, h, rfl⟩
    refine Fin0.rt (S' := [.any, .any, .any, .any, .any]) [.val (enc (n_0 : Int)), .val (enc (ties_0 : (List (Int × Int)))), .val (enc (places_0 : (List Int))), .any, .any] rfl ?_
    obtain ⟨c_1, h_c_1, h⟩ := bnd h
    obtain ⟨q_5, h_q_5, h⟩ := bnd h
    refine bs_ifS (eb_orG (r := q_5) (eb_not (eb_tB (ev_call (ea_cons (ev_var rfl) ea_nil) (r__law_wholes places_0 c_1 h_c_1)))) (fun e => by have h := condF h_q_5 e; obtain ⟨q_4, h_q_4, h⟩ := bnd h; exact EvB.to (eb_orG (r := q_4) (eb_test (ev_lt (ev_lenT (ev_var rfl)) ev_int)) (fun e => by have h := condF h_q_4 e; obtain ⟨u_2, h_u_2, h⟩ := bnd h; exact EvB.to (eb_test (ev_gt (ev_lenT ((evn_cmp (p := fun a_3 => (!(decide ((0 : Int) ≤ a_3) && decide (a_3 < n_0)))) (f := fun a_3 => a_3) (lenO_of h_u_2) (src_listT (ev_var rfl)) (fun a_3 G _ => tg_nm) (fun a_3 G _ => (eb_not (eb_test (ev_chain ev_int (ev_var rfl) (ov_le (K := K)) (fun _ => (ev_var rfl)) (fun _ => ov_lt (K := K)))))) (fun a_3 G _ _ => (ev_var rfl)))).fz) ev_int)) h) (fun e => by have h := condT h_q_4 e; cases h; exact ⟨rfl, rfl⟩)) h) (fun e => by have h := condT h_q_5 e; cases h; exact ⟨rfl, rfl⟩)) (fun e => ?_) (fun e => ?_)
    · replace h := condT h e
      refine bs_assoc ?_
      exact q_ret (vs := [0, 1, 2]) (Ev.to (a := (false : Bool)) ev_bl h) (by rfl)
    · replace h := condF h e
      refine bs_next ?_
      obtain ⟨r_6, h_r_6, h⟩ := bnd h
      obtain ⟨ys_9, h_ys_9, h⟩ := bnd h
      refine bs_ifS (eb_test (ev_gt (ev_lenT ((evn_cmpO h_ys_9 (rngO_len h_r_6) (src_rng1 h_r_6 (ev_lenT (ev_var rfl))) (fun a_7 G _ => tg_nm) (fun a_7 b G _ h => by obtain ⟨x_8, h_x_8, h⟩ := bnd h; exact EvB.to (eb_test (ev_inT (a := (x_8 : Int)) (xs := (cutL places_0 none (some a_7))) (ev_ixLT h_x_8 (ev_var rfl) (ev_var rfl)) ((evn_cutT (ev_var rfl) eo_none (eo_some (ev_var rfl)))).fz)) h) (fun a_7 b G _ h0 h => by obtain ⟨x_8, h_x_8, h0⟩ := bnd h0; have h0 := Option.some.inj h0; exact Ev.to (a := (a_7 : Int)) (ev_var rfl) h))).fz) ev_int)) (fun e => ?_) (fun e => ?_)
      · replace h := condT h e
        refine bs_assoc ?_
        exact q_ret (vs := [0, 1, 2]) (Ev.to (a := (false : Bool)) ev_bl h) (by rfl)
      · replace h := condF h e
        refine bs_next ?_
        obtain ⟨r_10, h_r_10, h⟩ := bnd h
        obtain ⟨ys_14, h_ys_14, h⟩ := bnd h
        exact q_ret (vs := [0, 1, 2]) (Ev.to (a := ((decide ((((ys_14).length : Int) : Int) = (0 : Int))) : Bool)) (ev_eqT (a := (((ys_14).length : Int) : Int)) (c := (0 : Int)) (ev_lenT ((evn_cmpO h_ys_14 (rngO_len h_r_10) (src_rng1 h_r_10 (ev_lenT (ev_var rfl))) (fun a_11 G _ => tg_nm) (fun a_11 b G _ h => by obtain ⟨x_12, h_x_12, h⟩ := bnd h; obtain ⟨x_13, h_x_13, h⟩ := bnd h; exact EvB.to (eb_not (eb_tB (ev_call (ea_cons (ev_var rfl) (ea_cons (ev_ixLT h_x_12 (ev_var rfl) (ev_sub (ev_var rfl) ev_int)) (ea_cons (ev_ixLT h_x_13 (ev_var rfl) (ev_var rfl)) ea_nil))) (r__law_joined ties_0 x_12 x_13 (v__law_joined ties_0 x_12 x_13) rfl)))) h) (fun a_11 b G _ h0 h => by obtain ⟨x_12, h_x_12, h0⟩ := bnd h0; obtain ⟨x_13, h_x_13, h0⟩ := bnd h0; have h0 := Option.some.inj h0; exact Ev.to (a := (a_11 : Int)) (ev_var rfl) h))).fz) ev_int) h) (by rfl)
-- _law_pairs
def m__law_pairs (n_0 : Int) : Option (List (Int × Int)) := (some ([] : (List (Int × Int)))).bind fun found_1 => (rngO 0 n_0).bind fun r_2 => (forL (fun (a_4 : Int) (s_3 : (List (Int × Int))) => (rngO (a_4 + (1 : Int)) n_0).bind fun r_5 => (catO s_3 ((r_5).map fun a_6 => (a_4, a_6))).bind fun x_7 => some x_7) (r_2) found_1).bind fun r_8 => some (r_8)
def R__law_pairs (ds : List D) (r : RK) : Prop := (∃ (n_0 : Int) (x : (List (Int × Int))), ds = [enc n_0] ∧ m__law_pairs n_0 = some x ∧ r = (.val (enc (x : (List (Int × Int))))))
theorem r__law_pairs (n_0 : Int) (x : (List (Int × Int))) (h : m__law_pairs n_0 = some x) : R__law_pairs [enc n_0] (.val (enc (x : (List (Int × Int))))) := ⟨n_0, x, rfl, h, rfl⟩
theorem ok__law_pairs (T : Top K mg) : FnOk P w K mg base CX0 1 T.a__law_pairs T.d__law_pairs ["n"] (sp0 K R__law_pairs) := by
  refine fn0 T.F__law_pairs sc__law_pairs (fun ds r h => ?_) (fun cdv A outer s H E hr => ?_)
  · obtain ⟨n_0, x, rfl, h, rfl⟩ := h; rfl
  · refine ⟨_, (pss_cons (ps_set (i := 1) sc__law_pairs.nd rfl (.inl rfl) (pe_lst pa_nil))
      (pss_cons (ps_for PassesOwn.never rfl (pi_range1 rfl T.b_range (pa_cons (pv 0) pa_nil)) (pg_name (i := 2) sc__law_pairs.nd rfl (.inr rfl)) (pss_cons (ps_set (i := 1) sc__law_pairs.nd rfl (.inl rfl) (pe_op op_cat (pv 1) (pe_lc (own := [("j", 3)]) rfl sc__law_pairs.nd (pi_range2 rfl T.b_range (pa_cons (pe_op op_add (pv 2) pe_int) (pa_cons (pv 0) pa_nil))) (blkOk_by (own := [("j", 3)]) (N := nm__law_pairs) (sc := defScope s__law_pairs) (by decide +kernel)) (fun _ _ _ _ _ => (pg_name (i := 3) sc__law_pairs.nd rfl (.inl rfl))) (fun _ _ _ _ _ => pts_nil) (fun _ _ _ _ _ => (pe_tup (pa_cons (pv 2) (pa_cons (pv 3) pa_nil)))))))
      pss_nil))
      (pss_cons (ps_ret (pv 1))
      pss_nil))), ?_⟩
    rintro G ds r ⟨n_0, x, rfl, h, rfl⟩
    refine Fin0.rt (S' := [.any, .any, .any, .any]) [.val (enc (n_0 : Int)), .any, .any, .any] rfl ?_
    obtain ⟨found_1, h_found_1, h⟩ := bnd h
    refine q_asg ((EvN.to (evn_lstT (xs := ([] : (List (Int × Int)))) ea_nil rfl) h_found_1)).fz ?_
    obtain ⟨r_2, h_r_2, h⟩ := bnd h
    obtain ⟨r_8, h_r_8, h⟩ := bnd h
    refine bs_forL (α := Int) (en := enc) (St := fun (s_3 : (List (Int × Int))) => [.val (enc (n_0 : Int)), .val (enc (s_3 : (List (Int × Int)))), .any, .any]) (src_rng1 h_r_2 (ev_var rfl)) rfl h_r_8 (fun a_4 s_3 _ => tg_nm) (fun a_4 s_3 y_9 _ h => ?_) ?_
    · obtain ⟨r_5, h_r_5, h⟩ := bnd h
      obtain ⟨x_7, h_x_7, h⟩ := bnd h
      refine q_asg ((evn_catT h_x_7 (ev_var rfl) ((evn_cmp0 (f := fun a_6 => (a_4, a_6)) (rngO_len h_r_5) (src_rng2 h_r_5 (ev_add (ev_var rfl) ev_int) (ev_var rfl)) (fun a_6 G _ => tg_nm) (fun a_6 G _ => (ev_tup (ea_cons (ev_var rfl) (ea_cons (ev_var rfl) ea_nil)))))).fz)).fz ?_
      cases h
      exact q_nilc (vs := [2]) rfl
    exact q_ret (vs := [0, 1]) (Ev.to (a := (r_8 : (List (Int × Int)))) (ev_var rfl) h) (by rfl)
-- _law_web
def m__law_web (feed_0 : Fd) (n_0 : Int) : Option ((List (Int × Int)) × Fd) := (m__law_draw feed_0 ((8 : Int))).bind fun c_1 => (some ((1 : Int) + c_1.1)).bind fun share_2 => (m__law_pairs n_0).bind fun c_3 => (lenO c_3).bind fun u_4 => (cmpS (fun (a_5 : (Int × Int)) (s_6 : Fd) => ((m__law_draw s_6 ((8 : Int))).bind fun c_7 => some ((decide (c_7.1 < share_2)), c_7.2))) (fun a_5 s_8 => some (a_5, s_8)) (c_3) c_1.2).bind fun ys_9 => some ((cutL ys_9.1 none (some (40 : Int))), ys_9.2)
def R__law_web (ds : List D) (c : Cn) (es : List D) (r : RK) (c' : Cn) : Prop := (∃ (feed_0 : Fd) (n_0 : Int) (x : (List (Int × Int))) (F : Fd), ds = [] ∧ c = fdC feed_0 ∧ es = [enc n_0] ∧ m__law_web feed_0 n_0 = some (x, F) ∧ r = (.new (lst (x : (List (Int × Int))))) ∧ c' = fdC F)
theorem r__law_web (feed_0 : Fd) (n_0 : Int) (x : (List (Int × Int))) (F : Fd) (h : m__law_web feed_0 n_0 = some (x, F)) : R__law_web [] (fdC feed_0) [enc n_0] (.new (lst (x : (List (Int × Int))))) (fdC F) := ⟨feed_0, n_0, x, F, rfl, rfl, rfl, h, rfl, rfl⟩
theorem ok__law_web (T : Top K mg) : FnOk P w K mg base CX0 2 T.a__law_web T.d__law_web ["feed", "n"] (sp1 K 0 R__law_web) := by
  refine fn1 T.F__law_web sc__law_web (fun ds c es r c' h => ?_) (fun cdv A outer s H E hr => ?_)
  · obtain ⟨feed_0, n_0, x, F_, rfl, rfl, rfl, h, rfl, rfl⟩ := h; exact ⟨rfl, rfl⟩
  · refine ⟨_, (pss_cons (ps_set (i := 2) sc__law_web.nd rfl (.inr rfl) (pe_op op_add pe_int (pe_call (ok__law_draw T) (hr.mono (by decide)) (by rfl) T.g__law_draw T.k__law_draw (bd__law_draw T.F__law_draw) .nil pass0 (pa_cons (pv 0) (pa_cons pe_int pa_nil)))))
      (pss_cons (ps_ret (pe_slice (kx_sl_list (K := K)) (pe_lc (own := [("pair", 3)]) rfl sc__law_web.nd (kx_pi_list (K := K) (pe_call (ok__law_pairs T) (hr.mono (by decide)) (by rfl) T.g__law_pairs T.k__law_pairs (bd__law_pairs T.F__law_pairs) .nil pass0 (pa_cons (pv 1) pa_nil))) (blkOk_by (own := [("pair", 3)]) (N := nm__law_web) (sc := defScope s__law_web) (by decide +kernel)) (fun _ _ _ _ _ => (pg_name (i := 3) sc__law_web.nd rfl (.inl rfl))) (fun _ _ _ _ _ => (pts_one (pt_cmpR op_lt (pe_call (ok__law_draw T) (hr.mono (by decide)) (by rfl) T.g__law_draw T.k__law_draw (bd__law_draw T.F__law_draw) .nil pass0 (pa_cons (pv 0) (pa_cons pe_int pa_nil))) (pv 2) (nomark _)))) (fun _ _ _ _ _ => (pv 3))) po_none (po_some pe_int)))
      pss_nil)), ?_⟩
    rintro G p ds c es r c' ⟨feed_0, n_0, x, F_, rfl, rfl, rfl, h, rfl, rfl⟩
    refine Fin1.rt (S' := [.bor p (fdC F_), .any, .any, .any]) [.bor p (fdC feed_0), .val (enc (n_0 : Int)), .any, .any] rfl ?_ rfl
    obtain ⟨c_1, h_c_1, h⟩ := bnd h
    obtain ⟨share_2, h_share_2, h⟩ := bnd h
    refine q_asg (Ev.to (ev_add ev_int (ev_call1T (ea1_here rfl rfl (ea_cons ev_int ea_nil)) (by rfl) (by rfl) (r__law_draw feed_0 ((8 : Int)) c_1.1 c_1.2 h_c_1) rfl (by rfl))) h_share_2) ?_
    obtain ⟨c_3, h_c_3, h⟩ := bnd h
    obtain ⟨u_4, h_u_4, h⟩ := bnd h
    obtain ⟨ys_9, h_ys_9, h⟩ := bnd h
    obtain ⟨e1, e2⟩ := Prod.mk.inj (Option.some.inj h)
    subst e2
    exact q_retN (vs := [1, 2]) (EvN.to (xs := ((cutL ys_9.1 none (some (40 : Int))) : (List (Int × Int)))) (evn_cutT ((evn_cmpS (Sw := fun q => [.bor p (fdC q), .val (enc (n_0 : Int)), .val (enc (share_2 : Int)), .any]) h_ys_9 (lenO_of h_u_4) (src_listT (ev_call (ea_cons (ev_var rfl) ea_nil) (r__law_pairs n_0 c_3 h_c_3))) rfl (fun a_5 s_6 G _ => tg_nm) (fun a_5 s_6 b s9 G _ h => by obtain ⟨c_7, h_c_7, h⟩ := bnd h; obtain ⟨e1, e2⟩ := Prod.mk.inj (Option.some.inj h); subst e2; exact EvB.to (eb_test (ev_lt (ev_call1T (ea1_here rfl rfl (ea_cons ev_int ea_nil)) (by rfl) (by rfl) (r__law_draw s_6 ((8 : Int)) c_7.1 c_7.2 h_c_7) rfl (by rfl)) (ev_var rfl))) (congrArg some e1)) (fun a_5 s_6 s_8 b s9 G _ h0 h => by obtain ⟨e1, e2⟩ := Prod.mk.inj (Option.some.inj h); subst e2; exact Ev.to (a := (a_5 : (Int × Int))) (ev_var rfl) (congrArg some e1)))).fz eo_none (eo_some ev_int)) (congrArg some e1)) (by rfl)
-- _law_two_sided
def m__law_two_sided (feed_0 : Fd) (most_0 : Int) : Option ((Int × (List (Int × Int))) × Fd) := (m__law_draw feed_0 (most_0)).bind fun c_1 => (some ((1 : Int) + c_1.1)).bind fun n_2 => (rngO 0 n_2).bind fun r_3 => (cmpS (fun (a_4 : Int) (s_5 : Fd) => some (true, s_5)) (fun a_4 s_6 => ((m__law_draw s_6 ((2 : Int))).bind fun c_7 => some (c_7.1, c_7.2))) (r_3) c_1.2).bind fun ys_8 => (m__law_web ys_8.2 (n_2)).bind fun c_9 => (lenO c_9.1).bind fun u_10 => (cmpO (fun (a_11 : (Int × Int)) => ((atI ys_8.1 a_11.1).bind fun x_12 => ((atI ys_8.1 a_11.2).bind fun x_13 => some (!decide ((x_12 : Int) = x_13))))) (fun a_11 => some a_11) (c_9.1)).bind fun ys_14 => some ((n_2, ys_14), c_9.2)
def R__law_two_sided (ds : List D) (c : Cn) (es : List D) (r : RK) (c' : Cn) : Prop := (∃ (feed_0 : Fd) (most_0 : Int) (x : (Int × (List (Int × Int)))) (F : Fd), ds = [] ∧ c = fdC feed_0 ∧ es = [enc most_0] ∧ m__law_two_sided feed_0 most_0 = some (x, F) ∧ r = (.val (enc (x : (Int × (List (Int × Int)))))) ∧ c' = fdC F)
theorem r__law_two_sided (feed_0 : Fd) (most_0 : Int) (x : (Int × (List (Int × Int)))) (F : Fd) (h : m__law_two_sided feed_0 most_0 = some (x, F)) : R__law_two_sided [] (fdC feed_0) [enc most_0] (.val (enc (x : (Int × (List (Int × Int)))))) (fdC F) := ⟨feed_0, most_0, x, F, rfl, rfl, rfl, h, rfl, rfl⟩
theorem ok__law_two_sided (T : Top K mg) : FnOk P w K mg base CX0 3 T.a__law_two_sided T.d__law_two_sided ["feed", "most"] (sp1 K 0 R__law_two_sided) := by
  refine fn1 T.F__law_two_sided sc__law_two_sided (fun ds c es r c' h => ?_) (fun cdv A outer s H E hr => ?_)
  · obtain ⟨feed_0, most_0, x, F_, rfl, rfl, rfl, h, rfl, rfl⟩ := h; exact ⟨rfl, rfl⟩
  · refine ⟨_, (pss_cons (ps_set (i := 2) sc__law_two_sided.nd rfl (.inl rfl) (pe_op op_add pe_int (pe_call (ok__law_draw T) (hr.mono (by decide)) (by rfl) T.g__law_draw T.k__law_draw (bd__law_draw T.F__law_draw) .nil pass0 (pa_cons (pv 0) (pa_cons (pv 1) pa_nil)))))
      (pss_cons (ps_set (i := 3) sc__law_two_sided.nd rfl (.inr rfl) (pe_lc (own := [("place", 4)]) rfl sc__law_two_sided.nd (pi_range1 rfl T.b_range (pa_cons (pv 2) pa_nil)) (blkOk_by (own := [("place", 4)]) (N := nm__law_two_sided) (sc := defScope s__law_two_sided) (by decide +kernel)) (fun _ _ _ _ _ => (pg_name (i := 4) sc__law_two_sided.nd rfl (.inl rfl))) (fun _ _ _ _ _ => pts_nil) (fun _ _ _ _ _ => (pe_call (ok__law_draw T) (hr.mono (by decide)) (by rfl) T.g__law_draw T.k__law_draw (bd__law_draw T.F__law_draw) .nil pass0 (pa_cons (pv 0) (pa_cons pe_int pa_nil))))))
      (pss_cons (ps_ret (pe_tup (pa_cons (pv 2) (pa_cons (pe_lc (own := [("tie", 5)]) rfl sc__law_two_sided.nd (kx_pi_list (K := K) (pe_call (ok__law_web T) (hr.mono (by decide)) (by rfl) T.g__law_web T.k__law_web (bd__law_web T.F__law_web) .nil pass0 (pa_cons (pv 0) (pa_cons (pv 2) pa_nil)))) (blkOk_by (own := [("tie", 5)]) (N := nm__law_two_sided) (sc := defScope s__law_two_sided) (by decide +kernel)) (fun _ _ _ _ _ => (pg_name (i := 5) sc__law_two_sided.nd rfl (.inl rfl))) (fun _ _ _ _ _ => (pts_one (pt_cmpR (kx_op_neD (K := K) hr.units) (pe_ix (kx_ix_list (K := K)) (pv 3) (pe_ix (kx_ix_tup (K := K)) (pv 5) pe_int (fun _ _ => rfl)) (fun _ _ => rfl)) (pe_ix (kx_ix_list (K := K)) (pv 3) (pe_ix (kx_ix_tup (K := K)) (pv 5) pe_int (fun _ _ => rfl)) (fun _ _ => rfl)) (nomark _)))) (fun _ _ _ _ _ => (pv 5))) pa_nil))))
      pss_nil))), ?_⟩
    rintro G p ds c es r c' ⟨feed_0, most_0, x, F_, rfl, rfl, rfl, h, rfl, rfl⟩
    refine Fin1.rt (S' := [.bor p (fdC F_), .any, .any, .any, .any, .any]) [.bor p (fdC feed_0), .val (enc (most_0 : Int)), .any, .any, .any, .any] rfl ?_ rfl
    obtain ⟨c_1, h_c_1, h⟩ := bnd h
    obtain ⟨n_2, h_n_2, h⟩ := bnd h
    refine q_asg (Ev.to (ev_add ev_int (ev_call1T (ea1_here rfl rfl (ea_cons (ev_var rfl) ea_nil)) (by rfl) (by rfl) (r__law_draw feed_0 (most_0) c_1.1 c_1.2 h_c_1) rfl (by rfl))) h_n_2) ?_
    obtain ⟨r_3, h_r_3, h⟩ := bnd h
    obtain ⟨ys_8, h_ys_8, h⟩ := bnd h
    refine q_asg ((evn_cmpS (Sw := fun q => [.bor p (fdC q), .val (enc (most_0 : Int)), .val (enc (n_2 : Int)), .any, .any, .any]) h_ys_8 (rngO_len h_r_3) (src_rng1 h_r_3 (ev_var rfl)) rfl (fun a_4 s_5 G _ => tg_nm) (fun a_4 s_5 b s9 G _ h => by cases h; exact eb_yes) (fun a_4 s_5 s_6 b s9 G _ h0 h => by obtain ⟨c_7, h_c_7, h⟩ := bnd h; obtain ⟨e1, e2⟩ := Prod.mk.inj (Option.some.inj h); subst e2; exact Ev.to (a := (c_7.1 : Int)) (ev_call1T (ea1_here rfl rfl (ea_cons ev_int ea_nil)) (by rfl) (by rfl) (r__law_draw s_6 ((2 : Int)) c_7.1 c_7.2 h_c_7) rfl (by rfl)) (congrArg some e1)))).fz ?_
    obtain ⟨c_9, h_c_9, h⟩ := bnd h
    obtain ⟨u_10, h_u_10, h⟩ := bnd h
    obtain ⟨ys_14, h_ys_14, h⟩ := bnd h
    obtain ⟨e1, e2⟩ := Prod.mk.inj (Option.some.inj h)
    subst e2
    exact q_ret (vs := [1, 2, 3]) (Ev.to (a := ((n_2, ys_14) : (Int × (List (Int × Int))))) (ev_tup (ea_cons (ev_var rfl) (ea_cons ((evn_cmpO h_ys_14 (lenO_of h_u_10) (src_listT ((evn_call1T (ea1_here rfl rfl (ea_cons (ev_var rfl) ea_nil)) (by rfl) (by rfl) (r__law_web ys_8.2 (n_2) c_9.1 c_9.2 h_c_9) rfl (by rfl))).fz) (fun a_11 G _ => tg_nm) (fun a_11 b G _ h => by obtain ⟨x_12, h_x_12, h⟩ := bnd h; obtain ⟨x_13, h_x_13, h⟩ := bnd h; exact EvB.to (eb_test (ev_neT (a := (x_12 : Int)) (c := x_13) (ev_ixLT h_x_12 (ev_var rfl) (ev_ixT (d := enc (a_11.1 : Int)) (ev_var rfl) ev_int rfl)) (ev_ixLT h_x_13 (ev_var rfl) (ev_ixT (d := enc (a_11.2 : Int)) (ev_var rfl) ev_int rfl)))) h) (fun a_11 b G _ h0 h => by obtain ⟨x_12, h_x_12, h0⟩ := bnd h0; obtain ⟨x_13, h_x_13, h0⟩ := bnd h0; have h0 := Option.some.inj h0; exact Ev.to (a := (a_11 : (Int × Int))) (ev_var rfl) h))).fz ea_nil))) (congrArg some e1)) (by rfl)
-- _law_order
def m__law_order (feed_0 : Fd) (n_0 : Int) : Option ((List Int) × Fd) := (rngO 0 n_0).bind fun r_1 => (some ((r_1).map fun a_2 => a_2)).bind fun rest_3 => (some ([] : (List Int))).bind fun order_4 => (rngO 0 n_0).bind fun r_5 => (forL (fun (a_7 : Int) (s_6 : (Fd × (List Int) × (List Int))) => (m__law_draw s_6.1 (((s_6.2.1).length : Int))).bind fun c_8 => (popAtO s_6.2.1 c_8.1).bind fun x_9 => (appO s_6.2.2 x_9.1).bind fun order_10 => some (c_8.2, x_9.2, order_10)) (r_5) (feed_0, rest_3, order_4)).bind fun r_11 => some (r_11.2.2, r_11.1)
def R__law_order (ds : List D) (c : Cn) (es : List D) (r : RK) (c' : Cn) : Prop := (∃ (feed_0 : Fd) (n_0 : Int) (x : (List Int)) (F : Fd), ds = [] ∧ c = fdC feed_0 ∧ es = [enc n_0] ∧ m__law_order feed_0 n_0 = some (x, F) ∧ r = (.new (lst (x : (List Int)))) ∧ c' = fdC F)
theorem r__law_order (feed_0 : Fd) (n_0 : Int) (x : (List Int)) (F : Fd) (h : m__law_order feed_0 n_0 = some (x, F)) : R__law_order [] (fdC feed_0) [enc n_0] (.new (lst (x : (List Int)))) (fdC F) := ⟨feed_0, n_0, x, F, rfl, rfl, rfl, h, rfl, rfl⟩
theorem ok__law_order (T : Top K mg) : FnOk P w K mg base CX0 2 T.a__law_order T.d__law_order ["feed", "n"] (sp1 K 0 R__law_order) := by
  refine fn1 T.F__law_order sc__law_order (fun ds c es r c' h => ?_) (fun cdv A outer s H E hr => ?_)
  · obtain ⟨feed_0, n_0, x, F_, rfl, rfl, rfl, h, rfl, rfl⟩ := h; exact ⟨rfl, rfl⟩
  · refine ⟨_, (pss_cons (ps_setLc (i := 2) (own := [("k", 4)]) rfl sc__law_order.nd rfl rfl (sw_true rfl rfl rfl (by decide +kernel)) (pi_range1 rfl T.b_range (pa_cons (pv 1) pa_nil)) (blkOk_by (own := [("k", 4)]) (N := nm__law_order) (sc := defScope s__law_order) (by decide +kernel)) (fun _ _ _ _ _ => (pg_name (i := 4) sc__law_order.nd rfl (.inl rfl))) (fun _ _ _ _ _ => pts_nil) (fun _ _ _ _ _ => (pv 4)))
      (pss_cons (ps_set (i := 3) sc__law_order.nd rfl (.inl rfl) (pe_lst pa_nil))
      (pss_cons (ps_for PassesOwn.never rfl (pi_range1 rfl T.b_range (pa_cons (pv 1) pa_nil)) (pg_name (i := 4) sc__law_order.nd rfl (.inl rfl)) (pss_cons (ps_expr (kx_pe_bm (K := K) PySem.F.plainAttrs_list PySem.F.slot_list_append PySem.F.type_list_append mt_append (pv 3) (pa_cons (kx_pe_bm (K := K) PySem.F.plainAttrs_list PySem.F.slot_list_pop PySem.F.type_list_pop mt_popAt (pv 2) (pa_cons (pe_call (ok__law_draw T) (hr.mono (by decide)) (by rfl) T.g__law_draw T.k__law_draw (bd__law_draw T.F__law_draw) .nil pass0 (pa_cons (pv 0) (pa_cons (pe_callB (kx_call_len_seq (K := K)) (by rfl) T.b_len (by decide +kernel) (pa_cons (pv 2) pa_nil)) pa_nil))) pa_nil)) pa_nil)))
      pss_nil))
      (pss_cons (ps_ret (pv 3))
      pss_nil)))), ?_⟩
    rintro G p ds c es r c' ⟨feed_0, n_0, x, F_, rfl, rfl, rfl, h, rfl, rfl⟩
    refine Fin1.rt (S' := [.bor p (fdC F_), .any, .any, .any, .any]) [.bor p (fdC feed_0), .val (enc (n_0 : Int)), .any, .any, .any] rfl ?_ rfl
    obtain ⟨r_1, h_r_1, h⟩ := bnd h
    obtain ⟨rest_3, h_rest_3, h⟩ := bnd h
    refine q_asgN (EvN.to (evn_cmp0 (f := fun a_2 => a_2) (rngO_len h_r_1) (src_rng1 h_r_1 (ev_var rfl)) (fun a_2 G _ => tg_nm) (fun a_2 G _ => (ev_var rfl))) h_rest_3) ?_
    obtain ⟨order_4, h_order_4, h⟩ := bnd h
    refine q_asgN (EvN.to (evn_lstT (xs := ([] : (List Int))) ea_nil rfl) h_order_4) ?_
    obtain ⟨r_5, h_r_5, h⟩ := bnd h
    obtain ⟨r_11, h_r_11, h⟩ := bnd h
    refine bs_forL (α := Int) (en := enc) (St := fun (s_6 : (Fd × (List Int) × (List Int))) => [.bor p (fdC s_6.1), .val (enc (n_0 : Int)), .own (lst (s_6.2.1 : (List Int))), .own (lst (s_6.2.2 : (List Int))), .any]) (src_rng1 h_r_5 (ev_var rfl)) rfl h_r_11 (fun a_7 s_6 _ => tg_nm) (fun a_7 s_6 y_12 _ h => ?_) ?_
    · obtain ⟨c_8, h_c_8, h⟩ := bnd h
      obtain ⟨x_9, h_x_9, h⟩ := bnd h
      obtain ⟨order_10, h_order_10, h⟩ := bnd h
      refine q_app h_order_10 rfl rfl (ev_popAtT (a := x_9.1) (zs := x_9.2) h_x_9 rfl rfl (ev_call1T (ea1_here rfl rfl (ea_cons (ev_tmpT fun G => (ev_lenT (ev_var rfl))) ea_nil)) (by rfl) (by rfl) (r__law_draw s_6.1 (((s_6.2.1).length : Int)) c_8.1 c_8.2 h_c_8) rfl (by rfl)) rfl rfl) rfl rfl ?_
      cases h
      exact q_nilc (vs := [4]) rfl
    cases h
    exact q_retO (vs := [1, 2]) rfl rfl
-- _law_tie
def v__law_tie (i_0 : Int) (j_0 : Int) : (Int × Int) := (((min i_0 j_0), (max i_0 j_0)))
def m__law_tie (i_0 : Int) (j_0 : Int) : Option (Int × Int) := some (v__law_tie i_0 j_0)
def R__law_tie (ds : List D) (r : RK) : Prop := (∃ (i_0 : Int) (j_0 : Int) (x : (Int × Int)), ds = [enc i_0, enc j_0] ∧ m__law_tie i_0 j_0 = some x ∧ r = (.val (enc (x : (Int × Int)))))
theorem r__law_tie (i_0 : Int) (j_0 : Int) (x : (Int × Int)) (h : m__law_tie i_0 j_0 = some x) : R__law_tie [enc i_0, enc j_0] (.val (enc (x : (Int × Int)))) := ⟨i_0, j_0, x, rfl, h, rfl⟩
theorem ok__law_tie (T : Top K mg) : FnOk P w K mg base CX0 1 T.a__law_tie T.d__law_tie ["i", "j"] (sp0 K R__law_tie) := by
  refine fn0 T.F__law_tie sc__law_tie (fun ds r h => ?_) (fun cdv A outer s H E hr => ?_)
  · obtain ⟨i_0, j_0, x, rfl, h, rfl⟩ := h; rfl
  · refine ⟨_, (pss_cons (ps_ret (pe_tup (pa_cons (pe_callB (call_min2 rfl) (by rfl) T.b_min (by decide +kernel) (pa_cons (pv 0) (pa_cons (pv 1) pa_nil))) (pa_cons (pe_callB (call_max2 rfl) (by rfl) T.b_max (by decide +kernel) (pa_cons (pv 0) (pa_cons (pv 1) pa_nil))) pa_nil))))
      pss_nil), ?_⟩
    rintro G ds r ⟨i_0, j_0, x, rfl, h, rfl⟩
    refine Fin0.rt (S' := [.any, .any]) [.val (enc (i_0 : Int)), .val (enc (j_0 : Int))] rfl ?_
    exact q_ret (vs := [0, 1]) (Ev.to (a := (((min i_0 j_0), (max i_0 j_0)) : (Int × Int))) (ev_tup (ea_cons (ev_min2 (ev_var rfl) (ev_var rfl)) (ea_cons (ev_max2 (ev_var rfl) (ev_var rfl)) ea_nil))) h) (by rfl)
-- _law_right
def m__law_right (n_0 : Int) (ties_0 : (List (Int × Int))) : Option Bool := (m__law_sides n_0 ties_0).bind fun c_1 => (rngO 0 (2 : Int)).bind fun r_2 => (forS (ρ := Bool) (fun (a_4 : Int) (s_3 : Unit) => (m_sides_of n_0 ties_0).bind fun c_5 => (match c_5 with | .inl told_6 => cond ((!decide ((ties_0 : (List (Int × Int))) = ties_0)) || (decide ((2 : Int) < (1 : Int)))) (some (.rt false)) (cond ((c_1).isSome) ((c_1).bind fun x_7 => (atI x_7 (0 : Int)).bind fun x_8 => (c_1).bind fun x_9 => (atI x_9 (1 : Int)).bind fun x_10 => (m__law_same ((enc (told_6 : (Wd × (List Int))))) ((enc ((⟨w_sides, x_8, x_10⟩ : (T3 Wd (List Int) (List Int))) : (T3 Wd (List Int) (List Int)))))).bind fun c_11 => cond (!c_11) (some (.rt false)) ((lenO told_6.2).bind fun u_12 => some (.nx ()))) ((cond (!decide (((2 : Int) : Int) = (2 : Int))) (some true) ((m__law_same ((enc (told_6.1 : Wd))) ((enc (w_ring : Wd)))).bind fun c_13 => ((cond (!c_13) (some true) ((m__law_is_ring n_0 ties_0 told_6.2).bind fun c_14 => some (!c_14))).bind fun q_15 => some q_15))).bind fun q_16 => cond q_16 (some (.rt false)) ((cond (decide (((((told_6.2).length : Int) % (2 : Int)) : Int) = (0 : Int))) (some true) ((m_shows_ring_1 n_0 ties_0 told_6.2).bind fun c_17 => some (!decide (c_17 = true)))).bind fun q_18 => cond q_18 (some (.rt false)) ((m_shows_ring_1 n_0 ties_0 ((cutL told_6.2 none (some (-(1 : Int)))))).bind fun c_19 => cond ((!decide (c_19 = false)) || (!decide (false = false))) (some (.rt false)) ((lenO told_6.2).bind fun u_20 => some (.nx ())))))) | .inr told_21 => cond ((!decide ((ties_0 : (List (Int × Int))) = ties_0)) || (decide ((3 : Int) < (1 : Int)))) (some (.rt false)) (cond ((c_1).isSome) ((c_1).bind fun x_22 => (atI x_22 (0 : Int)).bind fun x_23 => (c_1).bind fun x_24 => (atI x_24 (1 : Int)).bind fun x_25 => (m__law_same ((enc (told_21 : (T3 Wd (List Int) (List Int))))) ((enc ((⟨w_sides, x_23, x_25⟩ : (T3 Wd (List Int) (List Int))) : (T3 Wd (List Int) (List Int)))))).bind fun c_26 => cond (!c_26) (some (.rt false)) ((lenO told_21.b).bind fun u_27 => some (.nx ()))) ((cond (!decide (((3 : Int) : Int) = (2 : Int))) (some true) ((m__law_same ((enc (told_21.a : Wd))) ((enc (w_ring : Wd)))).bind fun c_28 => ((cond (!c_28) (some true) ((m__law_is_ring n_0 ties_0 told_21.b).bind fun c_29 => some (!c_29))).bind fun q_30 => some q_30))).bind fun q_31 => cond q_31 (some (.rt false)) ((cond (decide (((((told_21.b).length : Int) % (2 : Int)) : Int) = (0 : Int))) (some true) ((m_shows_ring_1 n_0 ties_0 told_21.b).bind fun c_32 => some (!decide (c_32 = true)))).bind fun q_33 => cond q_33 (some (.rt false)) ((m_shows_ring_1 n_0 ties_0 ((cutL told_21.b none (some (-(1 : Int)))))).bind fun c_34 => cond ((!decide (c_34 = false)) || (!decide (false = false))) (some (.rt false)) ((lenO told_21.b).bind fun u_35 => some (.nx ())))))))) (r_2) ()).bind fun res_54 => (match res_54 with | .nx r_36 => cond (!(c_1).isSome) (some (true)) ((c_1).bind fun x_37 => (lenO x_37).bind fun u_38 => (forS (ρ := Bool) (fun (a_40 : (List Int)) (s_39 : Unit) => (lenO ties_0).bind fun u_41 => cond (decide ((0 : Int) < (((((ties_0).filter fun a_42 => ((inB a_42.1 a_40) && (inB a_42.2 a_40))).map fun a_42 => a_42)).length : Int))) (some (.rt false)) (some (.nx ()))) (x_37) ()).bind fun res_52 => (match res_52 with | .nx r_43 => (c_1).bind fun x_44 => (atI x_44 (0 : Int)).bind fun x_45 => (c_1).bind fun x_46 => (atI x_46 (1 : Int)).bind fun x_47 => (catO x_45 x_47).bind fun x_48 => (rngO 0 n_0).bind fun r_49 => some ((decide (((srtI x_48) : (List Int)) = ((r_49).map fun a_50 => a_50)))) | .bk _ => none | .rt r => some r)) | .bk _ => none | .rt r => some r)
def R__law_right (ds : List D) (r : RK) : Prop := (∃ (n_0 : Int) (ties_0 : (List (Int × Int))) (x : Bool), ds = [enc n_0, enc ties_0] ∧ m__law_right n_0 ties_0 = some x ∧ r = (.val (enc (x : Bool))))
theorem r__law_right (n_0 : Int) (ties_0 : (List (Int × Int))) (x : Bool) (h : m__law_right n_0 ties_0 = some x) : R__law_right [enc n_0, enc ties_0] (.val (enc (x : Bool))) := ⟨n_0, ties_0, x, rfl, h, rfl⟩
theorem ok__law_right (T : Top K mg) : FnOk P w K mg base CX0 6 T.a__law_right T.d__law_right ["n", "ties"] (sp0 K R__law_right) := by
  refine fn0 T.F__law_right sc__law_right (fun ds r h => ?_) (fun cdv A outer s H E hr => ?_)
  · obtain ⟨n_0, ties_0, x, rfl, h, rfl⟩ := h; rfl
  · refine ⟨_, (pss_cons (ps_set (i := 2) sc__law_right.nd rfl (.inl rfl) (pe_call (ok__law_sides T) (hr.mono (by decide)) (by rfl) T.g__law_sides T.k__law_sides (bd__law_sides T.F__law_sides) .nil pass0 (pa_cons (pv 0) (pa_cons (pv 1) pa_nil))))
      (pss_cons (ps_set (i := 3) sc__law_right.nd rfl (.inl rfl) (pe_callTy (kx_call_list_of (K := K)) (by rfl) T.b_list (by decide +kernel) (pa_cons (pv 1) pa_nil)))
      (pss_cons (ps_for PassesOwn.never rfl (pi_range1 rfl T.b_range (pa_cons pe_int pa_nil)) (pg_name (i := 4) sc__law_right.nd rfl (.inl rfl)) (pss_cons (ps_set (i := 6) sc__law_right.nd rfl (.inl rfl) (pe_call (ok_sides_of T) (hr.mono (by decide)) (by rfl) T.g_sides_of T.k_sides_of (bd_sides_of T.F_sides_of) .nil pass0 (pa_cons (pv 0) (pa_cons (pv 3) pa_nil))))
      (pss_cons (ps_if (PW.pt (pw_or (pt_not (pt_val (pe_callB (kx_call_isi (K := K)) (by rfl) T.b_isinstance (by decide +kernel) (pa_cons (pv 6) (pa_cons (kx_ty (T := "tuple") (by rfl) T.b_tuple (by decide +kernel)) pa_nil))))) (pw_or (pt_cmpR (kx_op_neD (K := K) hr.units) (pv 3) (pv 1) (nomark _)) (pw_or1 (pt_cmpR op_lt (pe_callB (kx_call_len_seq (K := K)) (by rfl) T.b_len (by decide +kernel) (pa_cons (pv 6) pa_nil)) pe_int (nomark _)))))) (pss_cons (ps_ret pe_bl)
      pss_nil) pss_nil)
      (pss_cons (ps_if (pt_cmpR op_notN (pv 2) pe_non (nomark _)) (pss_cons (ps_if (pt_not (pt_val (pe_call (ok__law_same T) (hr.mono (by decide)) (by rfl) T.g__law_same T.k__law_same (bd__law_same T.F__law_same) .nil pass0 (pa_cons (pv 6) (pa_cons (pe_tup (pa_cons pe_str (pa_cons (pe_ix (kx_ix_list (K := K)) (pv 2) pe_int (fun _ _ => rfl)) (pa_cons (pe_ix (kx_ix_list (K := K)) (pv 2) pe_int (fun _ _ => rfl)) pa_nil)))) pa_nil))))) (pss_cons (ps_ret pe_bl)
      pss_nil) pss_nil)
      pss_nil) (pss_cons (ps_if (PW.pt (pw_or (pt_cmpR (kx_op_neD (K := K) hr.units) (pe_callB (kx_call_len_seq (K := K)) (by rfl) T.b_len (by decide +kernel) (pa_cons (pv 6) pa_nil)) pe_int (nomark _)) (pw_or (pt_not (pt_val (pe_call (ok__law_same T) (hr.mono (by decide)) (by rfl) T.g__law_same T.k__law_same (bd__law_same T.F__law_same) .nil pass0 (pa_cons (pe_ix (kx_ix_tup (K := K)) (pv 6) pe_int (fun _ _ => rfl)) (pa_cons pe_str pa_nil))))) (pw_or1 (pt_not (pt_val (pe_call (ok__law_is_ring T) (hr.mono (by decide)) (by rfl) T.g__law_is_ring T.k__law_is_ring (bd__law_is_ring T.F__law_is_ring) .nil pass0 (pa_cons (pv 0) (pa_cons (pv 1) (pa_cons (pe_ix (kx_ix_tup (K := K)) (pv 6) pe_int (fun _ _ => rfl)) pa_nil)))))))))) (pss_cons (ps_ret pe_bl)
      pss_nil) pss_nil)
      (pss_cons (ps_if (PW.pt (pw_or (pt_cmpR (kx_op_eqD (K := K) hr.units) (pe_op op_mod (pe_callTy call_int1 (by rfl) T.b_int (by decide +kernel) (pa_cons (pe_callB (kx_call_len_seq (K := K)) (by rfl) T.b_len (by decide +kernel) (pa_cons (pe_ix (kx_ix_tup (K := K)) (pv 6) pe_int (fun _ _ => rfl)) pa_nil)) pa_nil)) pe_int) pe_int (nomark _)) (pw_or1 (pt_cmpR op_notBl (pe_call (ok_shows_ring T) (hr.mono (by decide)) (by rfl) T.g_shows_ring T.k_shows_ring (bd_shows_ring T.F_shows_ring) .nil pass0 (pa_cons (pv 0) (pa_cons (pv 3) (pa_cons (pe_ix (kx_ix_tup (K := K)) (pv 6) pe_int (fun _ _ => rfl)) pa_nil)))) pe_bl (nomark _))))) (pss_cons (ps_ret pe_bl)
      pss_nil) pss_nil)
      (pss_cons (ps_if (PW.pt (pw_or (pt_cmpR op_notBl (pe_call (ok_shows_ring T) (hr.mono (by decide)) (by rfl) T.g_shows_ring T.k_shows_ring (bd_shows_ring T.F_shows_ring) .nil pass0 (pa_cons (pv 0) (pa_cons (pv 3) (pa_cons (pe_slice (kx_sl_list (K := K)) (pe_ix (kx_ix_tup (K := K)) (pv 6) pe_int (fun _ _ => rfl)) po_none (po_some (pe_un un_neg pe_int))) pa_nil)))) pe_bl (nomark _)) (pw_or1 (pt_cmpR op_notBl (pe_call (ok_shows_ring T) (hr.mono (by decide)) (by rfl) T.g_shows_ring T.k_shows_ring (bd_shows_ring T.F_shows_ring) .nil pass0 (pa_cons (pv 0) (pa_cons (pv 3) (pa_cons pe_non pa_nil)))) pe_bl (nomark _))))) (pss_cons (ps_ret pe_bl)
      pss_nil) pss_nil)
      pss_nil))))
      (pss_cons (ps_expr (kx_pe_bm (K := K) PySem.F.plainAttrs_list PySem.F.slot_list_append PySem.F.type_list_append mt_append (pe_ix (kx_ix_tup (K := K)) (pv 6) pe_int (fun _ _ => rfl)) (pa_cons pe_int pa_nil)))
      pss_nil)))))
      (pss_cons (ps_if (pt_cmpR op_isN (pv 2) pe_non (nomark _)) (pss_cons (ps_ret pe_bl)
      pss_nil) pss_nil)
      (pss_cons (ps_for PassesOwn.never rfl (kx_pi_list (K := K) (pv 2)) (pg_name (i := 5) sc__law_right.nd rfl (.inr rfl)) (pss_cons (ps_if (pt_cmpR op_gt (pe_callB (kx_call_len_seq (K := K)) (by rfl) T.b_len (by decide +kernel) (pa_cons (pe_lc (own := [("tie", 8)]) rfl sc__law_right.nd (kx_pi_list (K := K) (pv 1)) (blkOk_by (own := [("tie", 8)]) (N := nm__law_right) (sc := defScope s__law_right) (by decide +kernel)) (fun _ _ _ _ _ => (pg_name (i := 8) sc__law_right.nd rfl (.inl rfl))) (fun _ _ _ _ _ => (pts_one (PW.pt (pw_and (pt_cmpR (kx_op_inD (K := K) (u65 hr)) (pe_ix (kx_ix_tup (K := K)) (pv 8) pe_int (fun _ _ => rfl)) (pv 5) (by with_unfolding_all rfl)) (pw_and1 (pt_cmpR (kx_op_inD (K := K) (u65 hr)) (pe_ix (kx_ix_tup (K := K)) (pv 8) pe_int (fun _ _ => rfl)) (pv 5) (by with_unfolding_all rfl))))))) (fun _ _ _ _ _ => (pv 8))) pa_nil)) pe_int (nomark _)) (pss_cons (ps_ret pe_bl)
      pss_nil) pss_nil)
      pss_nil))
      (pss_cons (ps_ret (pe_cmpR (kx_op_eqD (K := K) hr.units) (pe_callB (kx_cr_sortedI (K := K)) (by rfl) T.b_sorted (by decide +kernel) (pa_cons (pe_op op_cat (pe_ix (kx_ix_list (K := K)) (pv 2) pe_int (fun _ _ => rfl)) (pe_ix (kx_ix_list (K := K)) (pv 2) pe_int (fun _ _ => rfl))) pa_nil)) (pe_lc (own := [("place", 7)]) rfl sc__law_right.nd (pi_range1 rfl T.b_range (pa_cons (pv 0) pa_nil)) (blkOk_by (own := [("place", 7)]) (N := nm__law_right) (sc := defScope s__law_right) (by decide +kernel)) (fun _ _ _ _ _ => (pg_name (i := 7) sc__law_right.nd rfl (.inl rfl))) (fun _ _ _ _ _ => pts_nil) (fun _ _ _ _ _ => (pv 7))) (nomark _)))
      pss_nil)))))), ?_⟩
    rintro G ds r ⟨n_0, ties_0, x, rfl, h, rfl⟩
    refine Fin0.rt (S' := [.any, .any, .any, .any, .any, .any, .any, .any, .any]) [.val (enc (n_0 : Int)), .val (enc (ties_0 : (List (Int × Int)))), .any, .any, .any, .any, .any, .any, .any] rfl ?_
    obtain ⟨c_1, h_c_1, h⟩ := bnd h
    refine q_asg (ev_call (ea_cons (ev_var rfl) (ea_cons (ev_var rfl) ea_nil)) (r__law_sides n_0 ties_0 c_1 h_c_1)) ?_
    refine q_asg ((evn_listT (ev_var rfl))).fz ?_
    obtain ⟨r_2, h_r_2, h⟩ := bnd h
    obtain ⟨res_54, h_res_54, h⟩ := bnd h
    refine bs_forS (α := Int) (en := enc) (ρ := Bool) (St := fun (s_3 : Unit) => [.val (enc (n_0 : Int)), .val (enc (ties_0 : (List (Int × Int)))), .val (enc (c_1 : (Option (List (List Int))))), .val (enc (ties_0 : (List (Int × Int)))), .any, .any, .any, .any, .any]) (rk := fun r => (.val (enc (r : Bool)))) (rS := fun r => [.any, .any, .any, .any, .any, .any, .any, .any, .any]) (src_rng1 h_r_2 ev_int) rfl h_res_54 (fun a_4 s_3 _ => tg_nm) (fun a_4 s_3 y_53 _ h => ?_) (fun r_36 e => ?_) (fun r e => by subst e; cases h; rfl)
    · obtain ⟨c_5, h_c_5, h⟩ := bnd h
      cases c_5 with
      | inl told_6 =>
        refine bs_asgShell (ea_cons (ev_var rfl) (ea_cons (ev_var rfl) ea_nil)) (r_sides_of n_0 ties_0 (.inl told_6) h_c_5) ?_ (by simp)
        refine bs_ifS (eb_tmp fun G => (eb_orG (eb_not (eb_tB (ev_isi (b := true) rfl (ev_var rfl)))) (fun _ => (eb_or (eb_test (ev_neT (a := (ties_0 : (List (Int × Int)))) (c := ties_0) (ev_var rfl) (ev_var rfl))) (fun _ => (eb_test (ev_lt ((ev_len (ev_var rfl) rfl).is rfl) ev_int))))) (fun e => nomatch e))) (fun e => ?_) (fun e => ?_)
        · replace h := condT h e
          refine bs_assoc ?_
          cases h
          exact q_ret (vs := [0, 1, 2, 3, 4, 6]) ev_bl (by rfl)
        · replace h := condF h e
          refine bs_next ?_
          refine bs_ifS (eb_test (ev_notNT (ev_var rfl))) (fun e => ?_) (fun e => ?_)
          · replace h := condT h e
            refine bs_assoc ?_
            obtain ⟨x_7, h_x_7, h⟩ := bnd h
            obtain ⟨x_8, h_x_8, h⟩ := bnd h
            obtain ⟨x_9, h_x_9, h⟩ := bnd h
            obtain ⟨x_10, h_x_10, h⟩ := bnd h
            obtain ⟨c_11, h_c_11, h⟩ := bnd h
            refine bs_ifS (eb_tmp fun G => (eb_not (eb_tB (ev_call (ea_cons (ev_var rfl) (ea_cons (ev_tup (ea_cons ev_str (ea_cons (ev_ixLT h_x_8 (Ev.un (ev_var rfl) h_x_7) ev_int) (ea_cons (ev_ixLT h_x_10 (Ev.un (ev_var rfl) h_x_9) ev_int) ea_nil)))) ea_nil)) (r__law_same ((enc (told_6 : (Wd × (List Int))))) ((enc ((⟨w_sides, x_8, x_10⟩ : (T3 Wd (List Int) (List Int))) : (T3 Wd (List Int) (List Int))))) c_11 h_c_11))))) (fun e => ?_) (fun e => ?_)
            · replace h := condT h e
              refine bs_assoc ?_
              cases h
              exact q_ret (vs := [0, 1, 2, 3, 4, 6]) ev_bl (by rfl)
            · replace h := condF h e
              refine bs_next ?_
              refine bs_next ?_
              obtain ⟨u_12, h_u_12, h⟩ := bnd h
              refine q_appShell (k := 1) (xs := told_6.2) h_u_12 rfl rfl (fun G => ev_int) rfl ?_
              cases h
              exact q_nilc (vs := [4]) rfl
          · replace h := condF h e
            refine bs_assoc ?_
            obtain ⟨q_16, h_q_16, h⟩ := bnd h
            refine bs_ifS (eb_tmp fun G => (eb_orG (r := q_16) (eb_test (ev_neT (a := ((2 : Int) : Int)) (c := (2 : Int)) ((ev_len (ev_var rfl) rfl).is rfl) ev_int)) (fun e => by have h := condF h_q_16 e; obtain ⟨c_13, h_c_13, h⟩ := bnd h; obtain ⟨q_15, h_q_15, h⟩ := bnd h; exact EvB.to (eb_orG (r := q_15) (eb_not (eb_tB (ev_call (ea_cons (ev_ixT (d := enc (told_6.1 : Wd)) (ev_var rfl) ev_int rfl) (ea_cons ev_str ea_nil)) (r__law_same ((enc (told_6.1 : Wd))) ((enc (w_ring : Wd))) c_13 h_c_13)))) (fun e => by have h := condF h_q_15 e; obtain ⟨c_14, h_c_14, h⟩ := bnd h; exact EvB.to (eb_not (eb_tB (ev_call (ea_cons (ev_var rfl) (ea_cons (ev_var rfl) (ea_cons (ev_ixT (d := enc (told_6.2 : (List Int))) (ev_var rfl) ev_int rfl) ea_nil))) (r__law_is_ring n_0 ties_0 told_6.2 c_14 h_c_14)))) h) (fun e => by have h := condT h_q_15 e; cases h; exact ⟨rfl, rfl⟩)) h) (fun e => by have h := condT h_q_16 e; cases h; exact ⟨rfl, rfl⟩))) (fun e => ?_) (fun e => ?_)
            · replace h := condT h e
              refine bs_assoc ?_
              cases h
              exact q_ret (vs := [0, 1, 2, 3, 4, 6]) ev_bl (by rfl)
            · replace h := condF h e
              refine bs_next ?_
              refine bs_assoc ?_
              obtain ⟨q_18, h_q_18, h⟩ := bnd h
              refine bs_ifS (eb_tmp fun G => (eb_orG (r := q_18) (eb_test (ev_eqT (a := ((((told_6.2).length : Int) % (2 : Int)) : Int)) (c := (0 : Int)) (ev_mod (by decide) (ev_intI (ev_lenT (ev_ixT (d := enc (told_6.2 : (List Int))) (ev_var rfl) ev_int rfl))) ev_int) ev_int)) (fun e => by have h := condF h_q_18 e; obtain ⟨c_17, h_c_17, h⟩ := bnd h; exact EvB.to (eb_test (ev_notB (ev_call (ea_cons (ev_var rfl) (ea_cons (ev_var rfl) (ea_cons (ev_ixT (d := enc (told_6.2 : (List Int))) (ev_var rfl) ev_int rfl) ea_nil))) (r_shows_ring_1 n_0 ties_0 told_6.2 c_17 h_c_17)) ev_bl)) h) (fun e => by have h := condT h_q_18 e; cases h; exact ⟨rfl, rfl⟩))) (fun e => ?_) (fun e => ?_)
              · replace h := condT h e
                refine bs_assoc ?_
                cases h
                exact q_ret (vs := [0, 1, 2, 3, 4, 6]) ev_bl (by rfl)
              · replace h := condF h e
                refine bs_next ?_
                refine bs_assoc ?_
                obtain ⟨c_19, h_c_19, h⟩ := bnd h
                refine bs_ifS (eb_tmp fun G => (eb_or (eb_test (ev_notB (ev_call (ea_cons (ev_var rfl) (ea_cons (ev_var rfl) (ea_cons ((evn_cutT (ev_ixT (d := enc (told_6.2 : (List Int))) (ev_var rfl) ev_int rfl) eo_none (eo_some (ev_neg ev_int)))).fz ea_nil))) (r_shows_ring_1 n_0 ties_0 ((cutL told_6.2 none (some (-(1 : Int))))) c_19 h_c_19)) ev_bl)) (fun _ => (eb_test (ev_notB (ev_call (ea_cons (ev_var rfl) (ea_cons (ev_var rfl) (ea_cons ev_non ea_nil))) (r_shows_ring_2 n_0 ties_0 (()) false rfl)) ev_bl))))) (fun e => ?_) (fun e => ?_)
                · replace h := condT h e
                  refine bs_assoc ?_
                  cases h
                  exact q_ret (vs := [0, 1, 2, 3, 4, 6]) ev_bl (by rfl)
                · replace h := condF h e
                  refine bs_next ?_
                  refine bs_next ?_
                  obtain ⟨u_20, h_u_20, h⟩ := bnd h
                  refine q_appShell (k := 1) (xs := told_6.2) h_u_20 rfl rfl (fun G => ev_int) rfl ?_
                  cases h
                  exact q_nilc (vs := [4]) rfl
      | inr told_21 =>
        refine bs_asgShell (ea_cons (ev_var rfl) (ea_cons (ev_var rfl) ea_nil)) (r_sides_of n_0 ties_0 (.inr told_21) h_c_5) ?_ (by simp)
        refine bs_ifS (eb_tmp fun G => (eb_orG (eb_not (eb_tB (ev_isi (b := true) rfl (ev_var rfl)))) (fun _ => (eb_or (eb_test (ev_neT (a := (ties_0 : (List (Int × Int)))) (c := ties_0) (ev_var rfl) (ev_var rfl))) (fun _ => (eb_test (ev_lt ((ev_len (ev_var rfl) rfl).is rfl) ev_int))))) (fun e => nomatch e))) (fun e => ?_) (fun e => ?_)
        · replace h := condT h e
          refine bs_assoc ?_
          cases h
          exact q_ret (vs := [0, 1, 2, 3, 4, 6]) ev_bl (by rfl)
        · replace h := condF h e
          refine bs_next ?_
          refine bs_ifS (eb_test (ev_notNT (ev_var rfl))) (fun e => ?_) (fun e => ?_)
          · replace h := condT h e
            refine bs_assoc ?_
            obtain ⟨x_22, h_x_22, h⟩ := bnd h
            obtain ⟨x_23, h_x_23, h⟩ := bnd h
            obtain ⟨x_24, h_x_24, h⟩ := bnd h
            obtain ⟨x_25, h_x_25, h⟩ := bnd h
            obtain ⟨c_26, h_c_26, h⟩ := bnd h
            refine bs_ifS (eb_tmp fun G => (eb_not (eb_tB (ev_call (ea_cons (ev_var rfl) (ea_cons (ev_tup (ea_cons ev_str (ea_cons (ev_ixLT h_x_23 (Ev.un (ev_var rfl) h_x_22) ev_int) (ea_cons (ev_ixLT h_x_25 (Ev.un (ev_var rfl) h_x_24) ev_int) ea_nil)))) ea_nil)) (r__law_same ((enc (told_21 : (T3 Wd (List Int) (List Int))))) ((enc ((⟨w_sides, x_23, x_25⟩ : (T3 Wd (List Int) (List Int))) : (T3 Wd (List Int) (List Int))))) c_26 h_c_26))))) (fun e => ?_) (fun e => ?_)
            · replace h := condT h e
              refine bs_assoc ?_
              cases h
              exact q_ret (vs := [0, 1, 2, 3, 4, 6]) ev_bl (by rfl)
            · replace h := condF h e
              refine bs_next ?_
              refine bs_next ?_
              obtain ⟨u_27, h_u_27, h⟩ := bnd h
              refine q_appShell (k := 1) (xs := told_21.b) h_u_27 rfl rfl (fun G => ev_int) rfl ?_
              cases h
              exact q_nilc (vs := [4]) rfl
          · replace h := condF h e
            refine bs_assoc ?_
            obtain ⟨q_31, h_q_31, h⟩ := bnd h
            refine bs_ifS (eb_tmp fun G => (eb_orG (r := q_31) (eb_test (ev_neT (a := ((3 : Int) : Int)) (c := (2 : Int)) ((ev_len (ev_var rfl) rfl).is rfl) ev_int)) (fun e => by have h := condF h_q_31 e; obtain ⟨c_28, h_c_28, h⟩ := bnd h; obtain ⟨q_30, h_q_30, h⟩ := bnd h; exact EvB.to (eb_orG (r := q_30) (eb_not (eb_tB (ev_call (ea_cons (ev_ixT (d := enc (told_21.a : Wd)) (ev_var rfl) ev_int rfl) (ea_cons ev_str ea_nil)) (r__law_same ((enc (told_21.a : Wd))) ((enc (w_ring : Wd))) c_28 h_c_28)))) (fun e => by have h := condF h_q_30 e; obtain ⟨c_29, h_c_29, h⟩ := bnd h; exact EvB.to (eb_not (eb_tB (ev_call (ea_cons (ev_var rfl) (ea_cons (ev_var rfl) (ea_cons (ev_ixT (d := enc (told_21.b : (List Int))) (ev_var rfl) ev_int rfl) ea_nil))) (r__law_is_ring n_0 ties_0 told_21.b c_29 h_c_29)))) h) (fun e => by have h := condT h_q_30 e; cases h; exact ⟨rfl, rfl⟩)) h) (fun e => by have h := condT h_q_31 e; cases h; exact ⟨rfl, rfl⟩))) (fun e => ?_) (fun e => ?_)
            · replace h := condT h e
              refine bs_assoc ?_
              cases h
              exact q_ret (vs := [0, 1, 2, 3, 4, 6]) ev_bl (by rfl)
            · replace h := condF h e
              refine bs_next ?_
              refine bs_assoc ?_
              obtain ⟨q_33, h_q_33, h⟩ := bnd h
              refine bs_ifS (eb_tmp fun G => (eb_orG (r := q_33) (eb_test (ev_eqT (a := ((((told_21.b).length : Int) % (2 : Int)) : Int)) (c := (0 : Int)) (ev_mod (by decide) (ev_intI (ev_lenT (ev_ixT (d := enc (told_21.b : (List Int))) (ev_var rfl) ev_int rfl))) ev_int) ev_int)) (fun e => by have h := condF h_q_33 e; obtain ⟨c_32, h_c_32, h⟩ := bnd h; exact EvB.to (eb_test (ev_notB (ev_call (ea_cons (ev_var rfl) (ea_cons (ev_var rfl) (ea_cons (ev_ixT (d := enc (told_21.b : (List Int))) (ev_var rfl) ev_int rfl) ea_nil))) (r_shows_ring_1 n_0 ties_0 told_21.b c_32 h_c_32)) ev_bl)) h) (fun e => by have h := condT h_q_33 e; cases h; exact ⟨rfl, rfl⟩))) (fun e => ?_) (fun e => ?_)
              · replace h := condT h e
                refine bs_assoc ?_
                cases h
                exact q_ret (vs := [0, 1, 2, 3, 4, 6]) ev_bl (by rfl)
              · replace h := condF h e
                refine bs_next ?_
                refine bs_assoc ?_
                obtain ⟨c_34, h_c_34, h⟩ := bnd h
                refine bs_ifS (eb_tmp fun G => (eb_or (eb_test (ev_notB (ev_call (ea_cons (ev_var rfl) (ea_cons (ev_var rfl) (ea_cons ((evn_cutT (ev_ixT (d := enc (told_21.b : (List Int))) (ev_var rfl) ev_int rfl) eo_none (eo_some (ev_neg ev_int)))).fz ea_nil))) (r_shows_ring_1 n_0 ties_0 ((cutL told_21.b none (some (-(1 : Int))))) c_34 h_c_34)) ev_bl)) (fun _ => (eb_test (ev_notB (ev_call (ea_cons (ev_var rfl) (ea_cons (ev_var rfl) (ea_cons ev_non ea_nil))) (r_shows_ring_2 n_0 ties_0 (()) false rfl)) ev_bl))))) (fun e => ?_) (fun e => ?_)
                · replace h := condT h e
                  refine bs_assoc ?_
                  cases h
                  exact q_ret (vs := [0, 1, 2, 3, 4, 6]) ev_bl (by rfl)
                · replace h := condF h e
                  refine bs_next ?_
                  refine bs_next ?_
                  obtain ⟨u_35, h_u_35, h⟩ := bnd h
                  refine q_appShell (k := 1) (xs := told_21.b) h_u_35 rfl rfl (fun G => ev_int) rfl ?_
                  cases h
                  exact q_nilc (vs := [4]) rfl
    subst e
    refine bs_ifS (eb_test (ev_isNT (ev_var rfl))) (fun e => ?_) (fun e => ?_)
    · replace h := condT h e
      refine bs_assoc ?_
      exact q_ret (vs := [0, 1, 2, 3]) (Ev.to (a := (true : Bool)) ev_bl h) (by rfl)
    · replace h := condF h e
      refine bs_next ?_
      obtain ⟨x_37, h_x_37, h⟩ := bnd h
      obtain ⟨u_38, h_u_38, h⟩ := bnd h
      obtain ⟨res_52, h_res_52, h⟩ := bnd h
      refine bs_forS (α := (List Int)) (en := enc) (ρ := Bool) (St := fun (s_39 : Unit) => [.val (enc (n_0 : Int)), .val (enc (ties_0 : (List (Int × Int)))), .val (enc (c_1 : (Option (List (List Int))))), .val (enc (ties_0 : (List (Int × Int)))), .any, .any, .any, .any, .any]) (rk := fun r => (.val (enc (r : Bool)))) (rS := fun r => [.any, .any, .any, .any, .any, .any, .any, .any, .any]) (src_listT (Ev.un (ev_var rfl) h_x_37)) rfl h_res_52 (fun a_40 s_39 _ => tg_nm) (fun a_40 s_39 y_51 _ h => ?_) (fun r_43 e => ?_) (fun r e => by subst e; cases h; rfl)
      · obtain ⟨u_41, h_u_41, h⟩ := bnd h
        refine bs_ifS (eb_test (ev_gt (ev_lenT ((evn_cmp (p := fun a_42 => ((inB a_42.1 a_40) && (inB a_42.2 a_40))) (f := fun a_42 => a_42) (lenO_of h_u_41) (src_listT (ev_var rfl)) (fun a_42 G _ => tg_nm) (fun a_42 G _ => (eb_and (eb_test (ev_inT (a := (a_42.1 : Int)) (xs := a_40) (ev_ixT (d := enc (a_42.1 : Int)) (ev_var rfl) ev_int rfl) (ev_var rfl))) (fun _ => (eb_test (ev_inT (a := (a_42.2 : Int)) (xs := a_40) (ev_ixT (d := enc (a_42.2 : Int)) (ev_var rfl) ev_int rfl) (ev_var rfl)))))) (fun a_42 G _ _ => (ev_var rfl)))).fz) ev_int)) (fun e => ?_) (fun e => ?_)
        · replace h := condT h e
          refine bs_assoc ?_
          cases h
          exact q_ret (vs := [0, 1, 2, 3, 5]) ev_bl (by rfl)
        · replace h := condF h e
          refine bs_next ?_
          cases h
          exact q_nilc (vs := [5]) rfl
      subst e
      obtain ⟨x_44, h_x_44, h⟩ := bnd h
      obtain ⟨x_45, h_x_45, h⟩ := bnd h
      obtain ⟨x_46, h_x_46, h⟩ := bnd h
      obtain ⟨x_47, h_x_47, h⟩ := bnd h
      obtain ⟨x_48, h_x_48, h⟩ := bnd h
      obtain ⟨r_49, h_r_49, h⟩ := bnd h
      exact q_ret (vs := [0, 1, 2, 3]) (Ev.to (a := ((decide (((srtI x_48) : (List Int)) = ((r_49).map fun a_50 => a_50))) : Bool)) (ev_eqT (a := ((srtI x_48) : (List Int))) (c := ((r_49).map fun a_50 => a_50)) ((evn_srtI ((evn_catT h_x_48 (ev_ixLT h_x_45 (Ev.un (ev_var rfl) h_x_44) ev_int) (ev_ixLT h_x_47 (Ev.un (ev_var rfl) h_x_46) ev_int))).fz)).fz ((evn_cmp0 (f := fun a_50 => a_50) (rngO_len h_r_49) (src_rng1 h_r_49 (ev_var rfl)) (fun a_50 G _ => tg_nm) (fun a_50 G _ => (ev_var rfl)))).fz) h) (by rfl)
-- law
def m_law (F0 : Fd) : Option Bool := (m__law_draw F0 ((9 : Int))).bind fun c_1 =>
  (m__law_draw c_1.2 ((6 : Int))).bind fun c_2 =>
  (cond (decide ((c_2.1 : Int) = (0 : Int)))
  ((m__law_draw c_2.2 ((4 : Int))).bind fun c_6 =>
  (some ((9 : Int) + c_6.1)).bind fun n_7 =>
  some (c_6.2, n_7))
  (some (c_2.2, c_1.1))).bind fun (st_5 : (Fd × Int)) =>
  (m__law_web st_5.1 (st_5.2)).bind fun c_8 =>
  (m__law_right st_5.2 c_8.1).bind fun c_9 =>
  cond (!c_9)
  (some (false))
  ((m__law_draw c_8.2 ((6 : Int))).bind fun c_10 =>
  (atI ([(8 : Int), (12 : Int)] : (List Int)) (b2I (decide ((c_10.1 : Int) = (0 : Int))))).bind fun x_11 =>
  (m__law_two_sided c_10.2 (x_11)).bind fun c_12 =>
  (m__law_right c_12.1.1 c_12.1.2).bind fun c_13 =>
  (cond (!c_13) (some true) ((m__law_sides c_12.1.1 c_12.1.2).bind fun c_14 => some (!(c_14).isSome))).bind fun q_15 =>
  cond q_15
  (some (false))
  ((m__law_pairs c_12.1.1).bind fun c_16 =>
  (lenO c_16).bind fun u_17 =>
  (some (((c_16).filter fun a_18 => (!inB a_18 c_12.1.2)).map fun a_18 => a_18)).bind fun free_19 =>
  (cond (decide ((0 : Int) < ((free_19).length : Int))) ((cond (decide (((c_12.1.2).length : Int) < (40 : Int))) ((m__law_draw c_12.2 (((free_19).length : Int))).bind fun c_20 => ((atI free_19 c_20.1).bind fun x_21 => ((catO c_12.1.2 ([x_21] : (List (Int × Int)))).bind fun x_22 => ((m__law_right c_12.1.1 ((srtP x_22))).bind fun c_23 => some ((!c_23), c_20.2))))) (some (false, c_12.2))).bind fun q_24 => some (q_24.1, q_24.2)) (some (false, c_12.2))).bind fun q_25 =>
  cond q_25.1
  (some (false))
  ((m__law_draw q_25.2 ((10 : Int))).bind fun c_26 =>
  (some ((3 : Int) + c_26.1)).bind fun n_27 =>
  (m__law_order c_26.2 (n_27)).bind fun c_28 =>
  (rngO 0 n_27).bind fun r_29 =>
  (cmpO (fun (a_30 : Int) => some true) (fun a_30 => ((atI c_28.1 (a_30 - (1 : Int))).bind fun x_31 => ((atI c_28.1 a_30).bind fun x_32 => some (v__law_tie x_31 x_32)))) (r_29)).bind fun ys_33 =>
  (some (srtP ys_33)).bind fun ring_34 =>
  (m__law_right n_27 ring_34).bind fun c_35 =>
  (cond (!c_35) (some true) ((m_sides_of n_27 ring_34).bind fun c_36 => some (!decide (((decide (((Sum.elim (fun q : (Wd × (List Int)) => q.1) (fun q : (T3 Wd (List Int) (List Int)) => q.a) c_36) : Wd) = w_sides)) : Bool) = (decide (((n_27 % (2 : Int)) : Int) = (0 : Int))))))).bind fun q_37 =>
  cond q_37
  (some (false))
  ((m_sides_of ((0 : Int)) (([] : (List (Int × Int))))).bind fun c_38 =>
  (m__law_same ((enc (c_38 : ((Wd × (List Int)) ⊕ (T3 Wd (List Int) (List Int)))))) ((enc ((⟨w_sides, ([] : (List Int)), ([] : (List Int))⟩ : (T3 Wd (List Int) (List Int))) : (T3 Wd (List Int) (List Int)))))).bind fun c_39 =>
  cond (!c_39)
  (some (false))
  ((m_sides_of ((3 : Int)) (([((1 : Int), (2 : Int))] : (List (Int × Int))))).bind fun c_40 =>
  (m__law_same ((enc (c_40 : ((Wd × (List Int)) ⊕ (T3 Wd (List Int) (List Int)))))) ((enc ((⟨w_sides, ([(0 : Int), (1 : Int)] : (List Int)), ([(2 : Int)] : (List Int))⟩ : (T3 Wd (List Int) (List Int))) : (T3 Wd (List Int) (List Int)))))).bind fun c_41 =>
  cond (!c_41)
  (some (false))
  ((m__law_right ((5 : Int)) (([((0 : Int), (1 : Int)), ((0 : Int), (2 : Int)), ((1 : Int), (2 : Int)), ((3 : Int), (4 : Int))] : (List (Int × Int))))).bind fun c_42 =>
  (cond c_42 ((m__law_right ((1 : Int)) (([] : (List (Int × Int))))).bind fun c_43 => some c_43) (some false)).bind fun q_44 =>
  some (q_44)))))))
theorem ok_law (T : Top K mg) (hm : ∀ ns : List Int, ns.length ≤ 63 → m_law (fd0 ns) = some true) : FnOk P w K mg base CX0 7 T.a_law T.d_law ["script"] (spLaw K) := by
  refine T.F_law.ok sc_law (fun vs H Q E h => ?_) (fun cdv A outer s H vs Q E hr h => ?_)
  · obtain ⟨a, ns, rfl, _⟩ := h; rfl
  · refine ⟨_, PSs.nox (pss_cons (ps_set (i := 1) sc_law.nd rfl (.inl rfl) (pe_call (ok__law_feed T) (hr.mono (by decide)) (by rfl) T.g__law_feed T.k__law_feed (bd__law_feed T.F__law_feed) .nil pass0 (pa_cons (pv 0) pa_nil)))
      (pss_cons (ps_set (i := 2) sc_law.nd rfl (.inl rfl) (pe_call (ok__law_draw T) (hr.mono (by decide)) (by rfl) T.g__law_draw T.k__law_draw (bd__law_draw T.F__law_draw) .nil pass0 (pa_cons (pv 1) (pa_cons pe_int pa_nil))))
      (pss_cons (ps_if (pt_cmpR (kx_op_eqD (K := K) hr.units) (pe_call (ok__law_draw T) (hr.mono (by decide)) (by rfl) T.g__law_draw T.k__law_draw (bd__law_draw T.F__law_draw) .nil pass0 (pa_cons (pv 1) (pa_cons pe_int pa_nil))) pe_int (nomark _)) (pss_cons (ps_set (i := 2) sc_law.nd rfl (.inl rfl) (pe_op op_add pe_int (pe_call (ok__law_draw T) (hr.mono (by decide)) (by rfl) T.g__law_draw T.k__law_draw (bd__law_draw T.F__law_draw) .nil pass0 (pa_cons (pv 1) (pa_cons pe_int pa_nil)))))
      pss_nil) pss_nil)
      (pss_cons (ps_if (pt_not (pt_val (pe_call (ok__law_right T) (hr.mono (by decide)) (by rfl) T.g__law_right T.k__law_right (bd__law_right T.F__law_right) .nil pass0 (pa_cons (pv 2) (pa_cons (pe_call (ok__law_web T) (hr.mono (by decide)) (by rfl) T.g__law_web T.k__law_web (bd__law_web T.F__law_web) .nil pass0 (pa_cons (pv 1) (pa_cons (pv 2) pa_nil))) pa_nil))))) (pss_cons (ps_ret pe_bl)
      pss_nil) pss_nil)
      (pss_cons (ps_asg (pe_call (ok__law_two_sided T) (hr.mono (by decide)) (by rfl) T.g__law_two_sided T.k__law_two_sided (bd__law_two_sided T.F__law_two_sided) .nil pass0 (pa_cons (pv 1) (pa_cons (pe_ix (kx_ix_list (K := K)) (pe_lst (pa_cons pe_int (pa_cons pe_int pa_nil))) (pe_callTy call_int1 (by rfl) T.b_int (by decide +kernel) (pa_cons (pe_cmpR (kx_op_eqD (K := K) hr.units) (pe_call (ok__law_draw T) (hr.mono (by decide)) (by rfl) T.g__law_draw T.k__law_draw (bd__law_draw T.F__law_draw) .nil pass0 (pa_cons (pv 1) (pa_cons pe_int pa_nil))) pe_int (nomark _)) pa_nil)) (fun _ _ => rfl)) pa_nil))) (kx_pg_tup (K := K) (by rfl) (pgs_cons (pg_name (i := 2) sc_law.nd rfl (.inl rfl)) (pgs_cons (pg_name (i := 6) sc_law.nd rfl (.inr rfl)) pgs_nil))))
      (pss_cons (ps_if (PW.pt (pw_or (pt_not (pt_val (pe_call (ok__law_right T) (hr.mono (by decide)) (by rfl) T.g__law_right T.k__law_right (bd__law_right T.F__law_right) .nil pass0 (pa_cons (pv 2) (pa_cons (pv 6) pa_nil))))) (pw_or1 (pt_cmpR op_isN (pe_call (ok__law_sides T) (hr.mono (by decide)) (by rfl) T.g__law_sides T.k__law_sides (bd__law_sides T.F__law_sides) .nil pass0 (pa_cons (pv 2) (pa_cons (pv 6) pa_nil))) pe_non (nomark _))))) (pss_cons (ps_ret pe_bl)
      pss_nil) pss_nil)
      (pss_cons (ps_setLc (i := 3) (own := [("pair", 7)]) rfl sc_law.nd rfl rfl (sw_true rfl rfl rfl (by decide +kernel)) (kx_pi_list (K := K) (pe_call (ok__law_pairs T) (hr.mono (by decide)) (by rfl) T.g__law_pairs T.k__law_pairs (bd__law_pairs T.F__law_pairs) .nil pass0 (pa_cons (pv 2) pa_nil))) (blkOk_by (own := [("pair", 7)]) (N := nm_law) (sc := defScope s_law) (by decide +kernel)) (fun _ _ _ _ _ => (pg_name (i := 7) sc_law.nd rfl (.inl rfl))) (fun _ _ _ _ _ => (pts_one (pt_cmpR (kx_op_notInD (K := K) (u65 hr)) (pv 7) (pv 6) (by with_unfolding_all rfl)))) (fun _ _ _ _ _ => (pv 7)))
      (pss_cons (ps_if (PW.pt (pw_and (pt_cmpR op_gt (pe_callB (kx_call_len_seq (K := K)) (by rfl) T.b_len (by decide +kernel) (pa_cons (pv 3) pa_nil)) pe_int (nomark _)) (pw_and (pt_cmpR op_lt (pe_callB (kx_call_len_seq (K := K)) (by rfl) T.b_len (by decide +kernel) (pa_cons (pv 6) pa_nil)) pe_int (nomark _)) (pw_and1 (pt_not (pt_val (pe_call (ok__law_right T) (hr.mono (by decide)) (by rfl) T.g__law_right T.k__law_right (bd__law_right T.F__law_right) .nil pass0 (pa_cons (pv 2) (pa_cons (pe_callB (kx_cr_sortedPO (K := K)) (by rfl) T.b_sorted (by decide +kernel) (pa_cons (pe_op op_cat (pv 6) (pe_lst (pa_cons (pe_ix (kx_ix_list (K := K)) (pv 3) (pe_call (ok__law_draw T) (hr.mono (by decide)) (by rfl) T.g__law_draw T.k__law_draw (bd__law_draw T.F__law_draw) .nil pass0 (pa_cons (pv 1) (pa_cons (pe_callB (kx_call_len_seq (K := K)) (by rfl) T.b_len (by decide +kernel) (pa_cons (pv 3) pa_nil)) pa_nil))) (fun _ _ => rfl)) pa_nil))) pa_nil)) pa_nil))))))))) (pss_cons (ps_ret pe_bl)
      pss_nil) pss_nil)
      (pss_cons (ps_set (i := 2) sc_law.nd rfl (.inl rfl) (pe_op op_add pe_int (pe_call (ok__law_draw T) (hr.mono (by decide)) (by rfl) T.g__law_draw T.k__law_draw (bd__law_draw T.F__law_draw) .nil pass0 (pa_cons (pv 1) (pa_cons pe_int pa_nil)))))
      (pss_cons (ps_set (i := 4) sc_law.nd rfl (.inr rfl) (pe_call (ok__law_order T) (hr.mono (by decide)) (by rfl) T.g__law_order T.k__law_order (bd__law_order T.F__law_order) .nil pass0 (pa_cons (pv 1) (pa_cons (pv 2) pa_nil))))
      (pss_cons (ps_set (i := 5) sc_law.nd rfl (.inl rfl) (pe_callB (kx_cr_sortedPO (K := K)) (by rfl) T.b_sorted (by decide +kernel) (pa_cons (pe_lc (own := [("k", 8)]) rfl sc_law.nd (pi_range1 rfl T.b_range (pa_cons (pv 2) pa_nil)) (blkOk_by (own := [("k", 8)]) (N := nm_law) (sc := defScope s_law) (by decide +kernel)) (fun _ _ _ _ _ => (pg_name (i := 8) sc_law.nd rfl (.inl rfl))) (fun _ _ _ _ _ => pts_nil) (fun _ _ _ _ _ => (pe_call (ok__law_tie T) (hr.mono (by decide)) (by rfl) T.g__law_tie T.k__law_tie (bd__law_tie T.F__law_tie) .nil pass0 (pa_cons (pe_ix (kx_ix_list (K := K)) (pv 4) (pe_op op_sub (pv 8) pe_int) (fun _ _ => rfl)) (pa_cons (pe_ix (kx_ix_list (K := K)) (pv 4) (pv 8) (fun _ _ => rfl)) pa_nil))))) pa_nil)))
      (pss_cons (ps_if (PW.pt (pw_or (pt_not (pt_val (pe_call (ok__law_right T) (hr.mono (by decide)) (by rfl) T.g__law_right T.k__law_right (bd__law_right T.F__law_right) .nil pass0 (pa_cons (pv 2) (pa_cons (pv 5) pa_nil))))) (pw_or1 (pt_cmpR (kx_op_neD (K := K) hr.units) (pe_cmpR (kx_op_eqD (K := K) hr.units) (pe_ix (kx_ix_tup (K := K)) (pe_call (ok_sides_of T) (hr.mono (by decide)) (by rfl) T.g_sides_of T.k_sides_of (bd_sides_of T.F_sides_of) .nil pass0 (pa_cons (pv 2) (pa_cons (pe_callTy (kx_call_list_of (K := K)) (by rfl) T.b_list (by decide +kernel) (pa_cons (pv 5) pa_nil)) pa_nil))) pe_int (fun _ _ => rfl)) pe_str (nomark _)) (pe_cmpR (kx_op_eqD (K := K) hr.units) (pe_op op_mod (pe_callTy call_int1 (by rfl) T.b_int (by decide +kernel) (pa_cons (pv 2) pa_nil)) pe_int) pe_int (nomark _)) (nomark _))))) (pss_cons (ps_ret pe_bl)
      pss_nil) pss_nil)
      (pss_cons (ps_if (pt_not (pt_val (pe_call (ok__law_same T) (hr.mono (by decide)) (by rfl) T.g__law_same T.k__law_same (bd__law_same T.F__law_same) .nil pass0 (pa_cons (pe_call (ok_sides_of T) (hr.mono (by decide)) (by rfl) T.g_sides_of T.k_sides_of (bd_sides_of T.F_sides_of) .nil pass0 (pa_cons pe_int (pa_cons (pe_lst pa_nil) pa_nil))) (pa_cons (pe_tup (pa_cons pe_str (pa_cons (pe_lst pa_nil) (pa_cons (pe_lst pa_nil) pa_nil)))) pa_nil))))) (pss_cons (ps_ret pe_bl)
      pss_nil) pss_nil)
      (pss_cons (ps_if (pt_not (pt_val (pe_call (ok__law_same T) (hr.mono (by decide)) (by rfl) T.g__law_same T.k__law_same (bd__law_same T.F__law_same) .nil pass0 (pa_cons (pe_call (ok_sides_of T) (hr.mono (by decide)) (by rfl) T.g_sides_of T.k_sides_of (bd_sides_of T.F_sides_of) .nil pass0 (pa_cons pe_int (pa_cons (pe_lst (pa_cons (pe_tup (pa_cons pe_int (pa_cons pe_int pa_nil))) pa_nil)) pa_nil))) (pa_cons (pe_tup (pa_cons pe_str (pa_cons (pe_lst (pa_cons pe_int (pa_cons pe_int pa_nil))) (pa_cons (pe_lst (pa_cons pe_int pa_nil)) pa_nil)))) pa_nil))))) (pss_cons (ps_ret pe_bl)
      pss_nil) pss_nil)
      (pss_cons (ps_ret (pe_and (pe_call (ok__law_right T) (hr.mono (by decide)) (by rfl) T.g__law_right T.k__law_right (bd__law_right T.F__law_right) .nil pass0 (pa_cons pe_int (pa_cons (pe_lst (pa_cons (pe_tup (pa_cons pe_int (pa_cons pe_int pa_nil))) (pa_cons (pe_tup (pa_cons pe_int (pa_cons pe_int pa_nil))) (pa_cons (pe_tup (pa_cons pe_int (pa_cons pe_int pa_nil))) (pa_cons (pe_tup (pa_cons pe_int (pa_cons pe_int pa_nil))) pa_nil))))) pa_nil))) (pe_one (pe_call (ok__law_right T) (hr.mono (by decide)) (by rfl) T.g__law_right T.k__law_right (bd__law_right T.F__law_right) .nil pass0 (pa_cons pe_int (pa_cons (pe_lst pa_nil) pa_nil))))))
      pss_nil))))))))))))))), ?_⟩
    obtain ⟨a, ns, rfl, hl, hS, hQ⟩ := h
    refine law_begin (N := nm_law) (k := 7) rfl hS (fun G => ?_) hQ
    have h := hm ns hl
    revert h
    generalize fd0 ns = F0
    intro h
    refine ⟨[.any, .any, .any, .any, .any, .any, .any, .any, .any], ?_⟩
    show Bs K G _ [.any, .own (fdC F0), .any, .any, .any, .any, .any, .any, .any] (.rt (.val (enc (true : Bool))) _)
    obtain ⟨c_1, h_c_1, h⟩ := bnd h
    refine q_asg (ev_call1T (ea1_here rfl rfl (ea_cons ev_int ea_nil)) (by rfl) (by rfl) (r__law_draw F0 ((9 : Int)) c_1.1 c_1.2 h_c_1) rfl (by rfl)) ?_
    obtain ⟨c_2, h_c_2, h⟩ := bnd h
    obtain ⟨st_5, h_st_5, h⟩ := bnd h
    refine bs_seq (S1 := [.any, .own (fdC st_5.1), .val (enc (st_5.2 : Int)), .any, .any, .any, .any, .any, .any]) ?_ ?_
    · replace h := h_st_5
      refine bs_if (eb_test (ev_eqT (a := (c_2.1 : Int)) (c := (0 : Int)) (ev_call1T (ea1_here rfl rfl (ea_cons ev_int ea_nil)) (by rfl) (by rfl) (r__law_draw c_1.2 ((6 : Int)) c_2.1 c_2.2 h_c_2) rfl (by rfl)) ev_int)) (fun e => ?_) (fun e => ?_)
      · replace h := condT h e
        obtain ⟨c_6, h_c_6, h⟩ := bnd h
        obtain ⟨n_7, h_n_7, h⟩ := bnd h
        refine q_asg (Ev.to (ev_add ev_int (ev_call1T (ea1_here rfl rfl (ea_cons ev_int ea_nil)) (by rfl) (by rfl) (r__law_draw c_2.2 ((4 : Int)) c_6.1 c_6.2 h_c_6) rfl (by rfl))) h_n_7) ?_
        cases h
        exact q_nil (vs := []) rfl
      · replace h := condF h e
        cases h
        exact q_nil (vs := []) rfl
    obtain ⟨c_8, h_c_8, h⟩ := bnd h
    obtain ⟨c_9, h_c_9, h⟩ := bnd h
    refine bs_ifS (eb_not (eb_tB (ev_call (ea_cons (ev_var rfl) (ea_cons ((evn_call1T (ea1_here rfl rfl (ea_cons (ev_var rfl) ea_nil)) (by rfl) (by rfl) (r__law_web st_5.1 (st_5.2) c_8.1 c_8.2 h_c_8) rfl (by rfl))).fz ea_nil)) (r__law_right st_5.2 c_8.1 c_9 h_c_9)))) (fun e => ?_) (fun e => ?_)
    · replace h := condT h e
      refine bs_assoc ?_
      exact q_ret (vs := [1, 2]) (Ev.to (a := (false : Bool)) ev_bl h) (by rfl)
    · replace h := condF h e
      refine bs_next ?_
      obtain ⟨c_10, h_c_10, h⟩ := bnd h
      obtain ⟨x_11, h_x_11, h⟩ := bnd h
      obtain ⟨c_12, h_c_12, h⟩ := bnd h
      refine bs_asgG (S2 := [.any, .own (fdC c_12.2), .val (enc (c_12.1.1 : Int)), .any, .any, .any, .val (enc (c_12.1.2 : (List (Int × Int)))), .any, .any]) (ev_call1T (ea1_here rfl rfl (ea_cons (ev_ixLT h_x_11 ((evn_lstT (xs := ([(8 : Int), (12 : Int)] : (List Int))) (ea_cons ev_int (ea_cons ev_int ea_nil)) rfl)).fz (ev_intB (ev_eqT (a := (c_10.1 : Int)) (c := (0 : Int)) (ev_call1T (ea1_here rfl rfl (ea_cons ev_int ea_nil)) (by rfl) (by rfl) (r__law_draw c_8.2 ((6 : Int)) c_10.1 c_10.2 h_c_10) rfl (by rfl)) ev_int))) ea_nil)) (by rfl) (by rfl) (r__law_two_sided c_10.2 (x_11) c_12.1 c_12.2 h_c_12) rfl (by rfl)) (by exact (tg_tup2 tg_nm tg_nm)) ?_
      obtain ⟨c_13, h_c_13, h⟩ := bnd h
      obtain ⟨q_15, h_q_15, h⟩ := bnd h
      refine bs_ifS (eb_orG (r := q_15) (eb_not (eb_tB (ev_call (ea_cons (ev_var rfl) (ea_cons (ev_var rfl) ea_nil)) (r__law_right c_12.1.1 c_12.1.2 c_13 h_c_13)))) (fun e => by have h := condF h_q_15 e; obtain ⟨c_14, h_c_14, h⟩ := bnd h; exact EvB.to (eb_test (ev_isNT (ev_call (ea_cons (ev_var rfl) (ea_cons (ev_var rfl) ea_nil)) (r__law_sides c_12.1.1 c_12.1.2 c_14 h_c_14)))) h) (fun e => by have h := condT h_q_15 e; cases h; exact ⟨rfl, rfl⟩)) (fun e => ?_) (fun e => ?_)
      · replace h := condT h e
        refine bs_assoc ?_
        exact q_ret (vs := [1, 2, 6]) (Ev.to (a := (false : Bool)) ev_bl h) (by rfl)
      · replace h := condF h e
        refine bs_next ?_
        obtain ⟨c_16, h_c_16, h⟩ := bnd h
        obtain ⟨u_17, h_u_17, h⟩ := bnd h
        obtain ⟨free_19, h_free_19, h⟩ := bnd h
        refine q_asg ((EvN.to (evn_cmp (p := fun a_18 => (!inB a_18 c_12.1.2)) (f := fun a_18 => a_18) (lenO_of h_u_17) (src_listT (ev_call (ea_cons (ev_var rfl) ea_nil) (r__law_pairs c_12.1.1 c_16 h_c_16))) (fun a_18 G _ => tg_nm) (fun a_18 G _ => (eb_test (ev_niT (a := (a_18 : (Int × Int))) (xs := c_12.1.2) (ev_var rfl) (ev_var rfl)))) (fun a_18 G _ _ => (ev_var rfl))) h_free_19)).fz ?_
        obtain ⟨q_25, h_q_25, h⟩ := bnd h
        refine bs_ifS (eb_andG (r := q_25.1) (S2 := [.any, .own (fdC q_25.2), .val (enc (c_12.1.1 : Int)), .val (enc (free_19 : (List (Int × Int)))), .any, .any, .val (enc (c_12.1.2 : (List (Int × Int)))), .any, .any]) (eb_test (ev_gt (ev_lenT (ev_var rfl)) ev_int)) (fun e => by have h := condT h_q_25 e; obtain ⟨va_q_25, vb_q_25⟩ := q_25; obtain ⟨q_24, h_q_24, h⟩ := bnd h; obtain ⟨e1_q_25, e2_q_25⟩ := Prod.mk.inj (Option.some.inj h); subst e2_q_25; exact EvB.to (eb_andG (r := q_24.1) (S2 := [.any, .own (fdC q_24.2), .val (enc (c_12.1.1 : Int)), .val (enc (free_19 : (List (Int × Int)))), .any, .any, .val (enc (c_12.1.2 : (List (Int × Int)))), .any, .any]) (eb_test (ev_lt (ev_lenT (ev_var rfl)) ev_int)) (fun e => by have h := condT h_q_24 e; obtain ⟨va_q_24, vb_q_24⟩ := q_24; obtain ⟨c_20, h_c_20, h⟩ := bnd h; obtain ⟨x_21, h_x_21, h⟩ := bnd h; obtain ⟨x_22, h_x_22, h⟩ := bnd h; obtain ⟨c_23, h_c_23, h⟩ := bnd h; obtain ⟨e1_q_24, e2_q_24⟩ := Prod.mk.inj (Option.some.inj h); subst e2_q_24; exact EvB.to (eb_not (eb_tB (ev_call (ea_cons (ev_var rfl) (ea_cons ((evn_srtP ((evn_catT h_x_22 (ev_var rfl) ((evn_lstT (xs := ([x_21] : (List (Int × Int)))) (ea_cons (ev_ixLT h_x_21 (ev_var rfl) (ev_call1T (ea1_here rfl rfl (ea_cons (ev_lenT (ev_var rfl)) ea_nil)) (by rfl) (by rfl) (r__law_draw c_12.2 (((free_19).length : Int)) c_20.1 c_20.2 h_c_20) rfl (by rfl))) ea_nil) rfl)).fz)).fz)).fz ea_nil)) (r__law_right c_12.1.1 ((srtP x_22)) c_23 h_c_23)))) (congrArg some e1_q_24)) (fun e => by have h := condF h_q_24 e; cases h; exact ⟨rfl, rfl⟩)) (congrArg some e1_q_25)) (fun e => by have h := condF h_q_25 e; cases h; exact ⟨rfl, rfl⟩)) (fun e => ?_) (fun e => ?_)
        · replace h := condT h e
          refine bs_assoc ?_
          exact q_ret (vs := [1, 2, 3, 6]) (Ev.to (a := (false : Bool)) ev_bl h) (by rfl)
        · replace h := condF h e
          refine bs_next ?_
          obtain ⟨c_26, h_c_26, h⟩ := bnd h
          obtain ⟨n_27, h_n_27, h⟩ := bnd h
          refine q_asg (Ev.to (ev_add ev_int (ev_call1T (ea1_here rfl rfl (ea_cons ev_int ea_nil)) (by rfl) (by rfl) (r__law_draw q_25.2 ((10 : Int)) c_26.1 c_26.2 h_c_26) rfl (by rfl))) h_n_27) ?_
          obtain ⟨c_28, h_c_28, h⟩ := bnd h
          refine q_asg ((evn_call1T (ea1_here rfl rfl (ea_cons (ev_var rfl) ea_nil)) (by rfl) (by rfl) (r__law_order c_26.2 (n_27) c_28.1 c_28.2 h_c_28) rfl (by rfl))).fz ?_
          obtain ⟨r_29, h_r_29, h⟩ := bnd h
          obtain ⟨ys_33, h_ys_33, h⟩ := bnd h
          obtain ⟨ring_34, h_ring_34, h⟩ := bnd h
          refine q_asg ((EvN.to (evn_srtP ((evn_cmpO h_ys_33 (rngO_len h_r_29) (src_rng1 h_r_29 (ev_var rfl)) (fun a_30 G _ => tg_nm) (fun a_30 b G _ h => by cases h; exact eb_yes) (fun a_30 b G _ h0 h => by obtain ⟨x_31, h_x_31, h⟩ := bnd h; obtain ⟨x_32, h_x_32, h⟩ := bnd h; exact Ev.to (a := ((v__law_tie x_31 x_32) : (Int × Int))) (ev_call (ea_cons (ev_ixLT h_x_31 (ev_var rfl) (ev_sub (ev_var rfl) ev_int)) (ea_cons (ev_ixLT h_x_32 (ev_var rfl) (ev_var rfl)) ea_nil)) (r__law_tie x_31 x_32 (v__law_tie x_31 x_32) rfl)) h))).fz) h_ring_34)).fz ?_
          obtain ⟨c_35, h_c_35, h⟩ := bnd h
          obtain ⟨q_37, h_q_37, h⟩ := bnd h
          refine bs_ifS (eb_orG (r := q_37) (eb_not (eb_tB (ev_call (ea_cons (ev_var rfl) (ea_cons (ev_var rfl) ea_nil)) (r__law_right n_27 ring_34 c_35 h_c_35)))) (fun e => by have h := condF h_q_37 e; obtain ⟨c_36, h_c_36, h⟩ := bnd h; exact EvB.to (eb_test (ev_neT (a := ((decide (((Sum.elim (fun q : (Wd × (List Int)) => q.1) (fun q : (T3 Wd (List Int) (List Int)) => q.a) c_36) : Wd) = w_sides)) : Bool)) (c := (decide (((n_27 % (2 : Int)) : Int) = (0 : Int)))) (ev_eqT (a := ((Sum.elim (fun q : (Wd × (List Int)) => q.1) (fun q : (T3 Wd (List Int) (List Int)) => q.a) c_36) : Wd)) (c := w_sides) (ev_ixT' (d := enc ((Sum.elim (fun q : (Wd × (List Int)) => q.1) (fun q : (T3 Wd (List Int) (List Int)) => q.a) c_36) : Wd)) (by cases c_36 <;> exact ⟨_, rfl, rfl⟩) (ev_callS (d := enc (c_36 : ((Wd × (List Int)) ⊕ (T3 Wd (List Int) (List Int))))) (ea_cons (ev_var rfl) (ea_cons ((evn_listT (ev_var rfl))).fz ea_nil)) (r_sides_of n_27 ring_34 c_36 h_c_36) (by cases c_36 <;> exact ⟨_, _, rfl, rfl, rfl⟩)) ev_int) ev_str) (ev_eqT (a := ((n_27 % (2 : Int)) : Int)) (c := (0 : Int)) (ev_mod (by decide) (ev_intI (ev_var rfl)) ev_int) ev_int))) h) (fun e => by have h := condT h_q_37 e; cases h; exact ⟨rfl, rfl⟩)) (fun e => ?_) (fun e => ?_)
          · replace h := condT h e
            refine bs_assoc ?_
            exact q_ret (vs := [1, 2, 3, 4, 5, 6]) (Ev.to (a := (false : Bool)) ev_bl h) (by rfl)
          · replace h := condF h e
            refine bs_next ?_
            obtain ⟨c_38, h_c_38, h⟩ := bnd h
            obtain ⟨c_39, h_c_39, h⟩ := bnd h
            refine bs_ifS (eb_not (eb_tB (ev_call (ea_cons (ev_callS (d := enc (c_38 : ((Wd × (List Int)) ⊕ (T3 Wd (List Int) (List Int))))) (ea_cons ev_int (ea_cons ((evn_lstT (xs := ([] : (List (Int × Int)))) ea_nil rfl)).fz ea_nil)) (r_sides_of ((0 : Int)) (([] : (List (Int × Int)))) c_38 h_c_38) (by cases c_38 <;> exact ⟨_, _, rfl, rfl, rfl⟩)) (ea_cons (ev_tup (ea_cons ev_str (ea_cons ((evn_lstT (xs := ([] : (List Int))) ea_nil rfl)).fz (ea_cons ((evn_lstT (xs := ([] : (List Int))) ea_nil rfl)).fz ea_nil)))) ea_nil)) (r__law_same ((enc (c_38 : ((Wd × (List Int)) ⊕ (T3 Wd (List Int) (List Int)))))) ((enc ((⟨w_sides, ([] : (List Int)), ([] : (List Int))⟩ : (T3 Wd (List Int) (List Int))) : (T3 Wd (List Int) (List Int))))) c_39 h_c_39)))) (fun e => ?_) (fun e => ?_)
            · replace h := condT h e
              refine bs_assoc ?_
              exact q_ret (vs := [1, 2, 3, 4, 5, 6]) (Ev.to (a := (false : Bool)) ev_bl h) (by rfl)
            · replace h := condF h e
              refine bs_next ?_
              obtain ⟨c_40, h_c_40, h⟩ := bnd h
              obtain ⟨c_41, h_c_41, h⟩ := bnd h
              refine bs_ifS (eb_not (eb_tB (ev_call (ea_cons (ev_callS (d := enc (c_40 : ((Wd × (List Int)) ⊕ (T3 Wd (List Int) (List Int))))) (ea_cons ev_int (ea_cons ((evn_lstT (xs := ([((1 : Int), (2 : Int))] : (List (Int × Int)))) (ea_cons (ev_tup (ea_cons ev_int (ea_cons ev_int ea_nil))) ea_nil) rfl)).fz ea_nil)) (r_sides_of ((3 : Int)) (([((1 : Int), (2 : Int))] : (List (Int × Int)))) c_40 h_c_40) (by cases c_40 <;> exact ⟨_, _, rfl, rfl, rfl⟩)) (ea_cons (ev_tup (ea_cons ev_str (ea_cons ((evn_lstT (xs := ([(0 : Int), (1 : Int)] : (List Int))) (ea_cons ev_int (ea_cons ev_int ea_nil)) rfl)).fz (ea_cons ((evn_lstT (xs := ([(2 : Int)] : (List Int))) (ea_cons ev_int ea_nil) rfl)).fz ea_nil)))) ea_nil)) (r__law_same ((enc (c_40 : ((Wd × (List Int)) ⊕ (T3 Wd (List Int) (List Int)))))) ((enc ((⟨w_sides, ([(0 : Int), (1 : Int)] : (List Int)), ([(2 : Int)] : (List Int))⟩ : (T3 Wd (List Int) (List Int))) : (T3 Wd (List Int) (List Int))))) c_41 h_c_41)))) (fun e => ?_) (fun e => ?_)
              · replace h := condT h e
                refine bs_assoc ?_
                exact q_ret (vs := [1, 2, 3, 4, 5, 6]) (Ev.to (a := (false : Bool)) ev_bl h) (by rfl)
              · replace h := condF h e
                refine bs_next ?_
                obtain ⟨c_42, h_c_42, h⟩ := bnd h
                obtain ⟨q_44, h_q_44, h⟩ := bnd h
                exact q_ret (vs := [1, 2, 3, 4, 5, 6]) (Ev.to (a := (q_44 : Bool)) (ev_andG (r := q_44) (ev_call (ea_cons ev_int (ea_cons ((evn_lstT (xs := ([((0 : Int), (1 : Int)), ((0 : Int), (2 : Int)), ((1 : Int), (2 : Int)), ((3 : Int), (4 : Int))] : (List (Int × Int)))) (ea_cons (ev_tup (ea_cons ev_int (ea_cons ev_int ea_nil))) (ea_cons (ev_tup (ea_cons ev_int (ea_cons ev_int ea_nil))) (ea_cons (ev_tup (ea_cons ev_int (ea_cons ev_int ea_nil))) (ea_cons (ev_tup (ea_cons ev_int (ea_cons ev_int ea_nil))) ea_nil)))) rfl)).fz ea_nil)) (r__law_right ((5 : Int)) (([((0 : Int), (1 : Int)), ((0 : Int), (2 : Int)), ((1 : Int), (2 : Int)), ((3 : Int), (4 : Int))] : (List (Int × Int)))) c_42 h_c_42)) (fun e => by have h := condT h_q_44 e; obtain ⟨c_43, h_c_43, h⟩ := bnd h; exact Ev.to (a := (c_43 : Bool)) (ev_call (ea_cons ev_int (ea_cons ((evn_lstT (xs := ([] : (List (Int × Int)))) ea_nil rfl)).fz ea_nil)) (r__law_right ((1 : Int)) (([] : (List (Int × Int)))) c_43 h_c_43)) h) (fun e => by have h := condF h_q_44 e; cases h; exact ⟨rfl, rfl⟩)) h) (by rfl)
end
end MM

set_option Elab.async false
set_option linter.all false
set_option maxRecDepth 100000
set_option maxHeartbeats 4000000
set_option autoImplicit false
namespace MM
open PySem PySem.Spec PyProof.Rows L2
/-! # plain lemmas on the makings of the mirrors -/
theorem bind_ok {α β : Type} {m : Option α} {a : α} {f : α → Option β} (h : m = some a) : m.bind f = f a := by rw [h]; rfl
theorem condt {α : Type} {b : Bool} {x y : α} (h : b = true) : cond b x y = x := by rw [h]; rfl
theorem condf {α : Type} {b : Bool} {x y : α} (h : b = false) : cond b x y = y := by rw [h]; rfl
theorem inB_false {α : Type} [DecidableEq α] {a : α} {xs : List α} : inB a xs = false ↔ a ∉ xs := by unfold inB; exact decide_eq_false_iff_not
theorem mem_rangeL {lo hi k : Int} : k ∈ rangeL lo hi ↔ lo ≤ k ∧ k < hi := by
  unfold rangeL
  rw [List.mem_map]
  constructor
  · rintro ⟨i, hi, rfl⟩
    rw [List.mem_range] at hi
    omega
  · rintro ⟨h1, h2⟩
    exact ⟨(k - lo).toNat, List.mem_range.mpr (by omega), by omega⟩
theorem rangeL_lt (lo hi : Int) : (rangeL lo hi).Pairwise (· < ·) := by
  unfold rangeL
  rw [List.pairwise_map]
  exact List.pairwise_lt_range.imp fun h => by omega
theorem rangeL_nodup (lo hi : Int) : (rangeL lo hi).Nodup := (rangeL_lt lo hi).imp fun h e => by subst e; exact Int.lt_irrefl _ h
theorem range_get {n : Int} {k : Nat} (h : (k : Int) < n) : (rangeL 0 n)[k]? = some (k : Int) := by
  rw [rangeL_get (by omega)]; simp
theorem lt_le_pw {xs : List Int} (h : xs.Pairwise (· < ·)) : xs.Pairwise (· ≤ ·) := h.imp fun h => Int.le_of_lt h
/-! loops -/
theorem forL_pre {α τ : Type} {f : α → τ → Option τ} (I : List α → τ → Prop) : ∀ (xs pre : List α) (s : τ), I pre s → (∀ d a s, (∃ t, pre ++ xs = d ++ a :: t) → I d s → ∃ s', f a s = some s' ∧ I (d ++ [a]) s') → ∃ s', forL f xs s = some s' ∧ I (pre ++ xs) s'
  | [], pre, s, h0, _ => ⟨s, rfl, by simpa using h0⟩
  | a :: xs, pre, s, h0, hs => by
    obtain ⟨s1, h1, h2⟩ := hs pre a s ⟨xs, rfl⟩ h0
    obtain ⟨s2, h3, h4⟩ := forL_pre I xs (pre ++ [a]) s1 h2 fun d b s ⟨t, e⟩ hd => hs d b s ⟨t, by rw [← e]; simp⟩ hd
    refine ⟨s2, ?_, by simpa using h4⟩
    unfold forL; rw [h1]; exact h3
theorem forL_inv {α τ : Type} {f : α → τ → Option τ} (I : List α → τ → Prop) {xs : List α} {s : τ} (h0 : I [] s) (hs : ∀ d a s, (∃ t, xs = d ++ a :: t) → I d s → ∃ s', f a s = some s' ∧ I (d ++ [a]) s') : ∃ s', forL f xs s = some s' ∧ I xs s' := by
  simpa using forL_pre I xs [] s h0 (by simpa using hs)
theorem forL_mem {α τ : Type} {f : α → τ → Option τ} (I : τ → Prop) {xs : List α} {s : τ} (h0 : I s) (hs : ∀ a s, a ∈ xs → I s → ∃ s', f a s = some s' ∧ I s') : ∃ s', forL f xs s = some s' ∧ I s' := by
  obtain ⟨s', h1, h2⟩ := forL_inv (xs := xs) (fun _ => I) h0 fun d a s he hd => by
    obtain ⟨t, e⟩ := he
    exact hs a s (by rw [e]; simp) hd
  exact ⟨s', h1, h2⟩
theorem whileL_inv {τ : Type} {c : τ → Option Bool} {f : τ → Option τ} (I : τ → Prop) (μ : τ → Nat) (hc : ∀ s, I s → ∃ b, c s = some b) (hs : ∀ s, I s → c s = some true → ∃ s', f s = some s' ∧ I s' ∧ μ s' < μ s) :
    ∀ (n : Nat) (s : τ), I s → μ s < n → ∃ s', whileL c f n s = some s' ∧ I s' ∧ c s' = some false
  | 0, s, _, h => absurd h (Nat.not_lt_zero _)
  | n + 1, s, hi, h => by
    obtain ⟨b, hb⟩ := hc s hi
    unfold whileL
    rw [hb]
    cases b with
    | false => exact ⟨s, rfl, hi, hb⟩
    | true =>
      obtain ⟨s1, h1, h2, h3⟩ := hs s hi hb
      dsimp only
      rw [h1]
      exact whileL_inv I μ hc hs n s1 h2 (by omega)
theorem cmpO_eq {α β : Type} {p : α → Option Bool} {f : α → Option β} (P : α → Bool) (F : α → β) : ∀ {xs : List α}, (∀ a ∈ xs, p a = some (P a)) → (∀ a ∈ xs, P a = true → f a = some (F a)) → cmpO p f xs = some ((xs.filter P).map F)
  | [], _, _ => rfl
  | a :: xs, hp, hf => by
    have ih := cmpO_eq P F (fun b hb => hp b (List.mem_cons_of_mem _ hb)) (fun b hb => hf b (List.mem_cons_of_mem _ hb))
    unfold cmpO
    rw [hp a List.mem_cons_self]
    cases hP : P a with
    | true =>
      dsimp only
      rw [hf a List.mem_cons_self hP]
      dsimp only
      rw [ih, List.filter_cons, hP]; rfl
    | false =>
      dsimp only
      rw [ih, List.filter_cons, hP]; rfl
theorem forS_first {α ρ : Type} {f : α → Unit → Option (Stp Unit ρ)} (P : α → Prop) (R : α → ρ → Prop) : ∀ {xs : List α}, (∀ a ∈ xs, (f a () = some (.nx ()) ∧ ¬ P a) ∨ (∃ r, f a () = some (.rt r) ∧ P a ∧ R a r)) →
    (forS f xs () = some (.nx ()) ∧ ∀ a ∈ xs, ¬ P a) ∨ (∃ a r, a ∈ xs ∧ P a ∧ R a r ∧ forS f xs () = some (.rt r))
  | [], _ => .inl ⟨rfl, fun a h => by simp at h⟩
  | a :: xs, h => by
    have ih := forS_first P R (f := f) (xs := xs) fun b hb => h b (List.mem_cons_of_mem _ hb)
    unfold forS
    rcases h a List.mem_cons_self with ⟨e, n⟩ | ⟨r, e, p, q⟩
    · rw [e]
      dsimp only
      rcases ih with ⟨h1, h2⟩ | ⟨b, r, h1, h2, h3, h4⟩
      · refine .inl ⟨h1, fun b hb => ?_⟩
        rcases List.mem_cons.mp hb with rfl | hb
        · exact n
        · exact h2 b hb
      · exact .inr ⟨b, r, List.mem_cons_of_mem _ h1, h2, h3, h4⟩
    · rw [e]
      exact .inr ⟨a, r, List.mem_cons_self, p, q, rfl⟩
theorem forS_all {α ρ : Type} {f : α → Unit → Option (Stp Unit ρ)} {xs : List α} (h : ∀ a ∈ xs, f a () = some (.nx ())) : forS f xs () = some (.nx ()) := by
  rcases forS_first (f := f) (fun _ => False) (fun _ _ => False) (xs := xs) fun a ha => .inl ⟨h a ha, id⟩ with h | ⟨_, _, _, h, _⟩
  · exact h.1
  · exact h.elim
/-! counting -/
theorem nodup_sub {α : Type} [DecidableEq α] : ∀ {xs ys : List α}, xs.Nodup → (∀ x ∈ xs, x ∈ ys) → xs.length ≤ ys.length
  | [], _, _, _ => Nat.zero_le _
  | x :: xs, ys, hn, hs => by
    have hx := hs x List.mem_cons_self
    rw [List.nodup_cons] at hn
    have h := nodup_sub (xs := xs) (ys := ys.erase x) hn.2 fun y hy => (List.mem_erase_of_ne (fun e => hn.1 (by rw [← e]; exact hy))).mpr (hs y (List.mem_cons_of_mem _ hy))
    rw [List.length_erase_of_mem hx] at h
    have := List.length_pos_of_mem hx
    rw [List.length_cons]; omega
theorem nodup_range {xs : List Int} {n : Int} (hn : xs.Nodup) (h : ∀ x ∈ xs, 0 ≤ x ∧ x < n) : xs.length ≤ n.toNat := by
  have := nodup_sub hn fun x hx => mem_rangeL.mpr (h x hx)
  rw [rangeL_len] at this
  simpa using this
theorem inj_range {k : Nat} {f : Nat → Int} {n : Int} (hf : ∀ i j, i < k → j < k → f i = f j → i = j) (h : ∀ i, i < k → 0 ≤ f i ∧ f i < n) : k ≤ n.toNat := by
  have := nodup_range (xs := (List.range k).map f) (n := n) (by
    unfold List.Nodup
    rw [List.pairwise_map]
    exact List.pairwise_lt_range.imp_of_mem fun ha hb hlt e => by
      have := hf _ _ (List.mem_range.mp ha) (List.mem_range.mp hb) e
      omega) (fun x hx => by
    obtain ⟨i, hi, rfl⟩ := List.mem_map.mp hx
    exact h i (List.mem_range.mp hi))
  simpa using this
/-! places -/
theorem atI_some {α : Type} {xs : List α} {i : Int} (h0 : 0 ≤ i) (h1 : i < xs.length) : ∃ a, atI xs i = some a ∧ xs[i.toNat]? = some a := by
  have hl : i.toNat < xs.length := by omega
  refine ⟨xs[i.toNat], ?_, List.getElem?_eq_getElem hl⟩
  unfold atI ixN
  rw [if_pos h0, if_pos h1]
  exact List.getElem?_eq_getElem hl
theorem atI_eq {α : Type} {xs : List α} {i : Int} (h0 : 0 ≤ i) (h1 : i < xs.length) : atI xs i = xs[i.toNat]? := by
  unfold atI ixN
  rw [if_pos h0, if_pos h1]; rfl
theorem atI_neg {α : Type} {xs : List α} (h : xs ≠ []) : atI xs (-1) = xs[xs.length - 1]? := by
  have : 0 < xs.length := List.length_pos_iff.mpr h
  unfold atI ixN
  rw [if_neg (by decide), if_pos (by omega)]
  show xs[((-1 : Int) + xs.length).toNat]? = _
  congr 1; omega
theorem atI_zero {α : Type} {x : α} {xs : List α} : atI (x :: xs) 0 = some x := by
  rw [atI_eq (Int.le_refl _) (by rw [List.length_cons]; omega)]; rfl
theorem atI_range {n i : Int} (h0 : 0 ≤ i) (h1 : i < n) : atI (rangeL 0 n) i = some i := by
  have hl := rangeL_len 0 n
  rw [atI_eq h0 (by omega), range_get (by omega)]
  congr 1; omega
theorem setO_ok {α : Type} {xs : List α} {i : Int} {a : α} (h0 : 0 ≤ i) (h1 : i < xs.length) : setO xs i a = some (xs.set i.toNat a) := by
  unfold setO ixN
  rw [if_pos h0, if_pos h1]; rfl
theorem appO_ok {α : Type} {xs : List α} {a : α} (h : xs.length ≤ 900000) : appO xs a = some (xs ++ [a]) := by unfold appO; rw [if_pos h]
theorem catO_ok {α : Type} {xs ys : List α} (h : xs.length + ys.length ≤ 1000000) : catO xs ys = some (xs ++ ys) := by unfold catO; rw [if_pos h]
theorem mem_srtI {x : Int} {xs : List Int} : x ∈ srtI xs ↔ x ∈ xs := (srtI_perm xs).mem_iff
theorem srtI_len (xs : List Int) : (srtI xs).length = xs.length := (srtI_perm xs).length_eq
theorem head_least {x : Int} {xs : List Int} (h : (x :: xs).Pairwise (· ≤ ·)) : ∀ y ∈ x :: xs, x ≤ y := fun y hy => by
  rw [List.pairwise_cons] at h
  rcases List.mem_cons.mp hy with rfl | hy
  · exact Int.le_refl _
  · exact h.1 y hy
/-! dicts -/
theorem aget_put {κ β : Type} [DecidableEq κ] (m : List (κ × β)) (k : κ) (v : β) (k' : κ) : aget (aput m k v) k' = if k' = k then some v else aget m k' := by
  unfold aput
  split
  · rename_i h
    unfold aget
    rw [List.find?_map]
    by_cases e : k' = k
    · subst e
      rw [if_pos rfl]
      rw [List.any_eq_true] at h
      obtain ⟨p, hp, e⟩ := h
      have e : p.1 = k' := of_decide_eq_true e
      have hf : ∃ q, m.find? (fun p => decide ((if p.1 = k' then (p.1, v) else p).1 = k')) = some q := by
        cases hq : m.find? (fun p => decide ((if p.1 = k' then (p.1, v) else p).1 = k')) with
        | some q => exact ⟨q, rfl⟩
        | none =>
          have := List.find?_eq_none.mp hq p hp
          simp [e] at this
      obtain ⟨q, hq⟩ := hf
      have hq' : m.find? ((fun p => decide (p.1 = k')) ∘ fun p => if p.1 = k' then (p.1, v) else p) = some q := hq
      rw [hq']
      have hm := List.find?_some hq
      have hq1 : q.1 = k' := by
        have := of_decide_eq_true hm
        split at this
        · assumption
        · exact this
      simp [hq1]
    · rw [if_neg e]
      have : ((fun p => decide (p.1 = k')) ∘ fun p : κ × β => if p.1 = k then (p.1, v) else p) = fun p => decide (p.1 = k') := by
        funext p
        show decide ((if p.1 = k then (p.1, v) else p).1 = k') = _
        split <;> rfl
      rw [this]
      cases hq : m.find? fun p => decide (p.1 = k') with
      | none => rfl
      | some q =>
        have hh := List.find?_some hq
        have hq1 : q.1 = k' := of_decide_eq_true hh
        show some (if q.1 = k then (q.1, v) else q).2 = some q.2
        rw [if_neg (by rw [hq1]; exact e)]
  · rename_i h
    unfold aget
    rw [List.find?_append]
    by_cases e : k' = k
    · subst e
      rw [if_pos rfl]
      have : m.find? (fun p => decide (p.1 = k')) = none := by
        rw [List.find?_eq_none]
        intro p hp hh
        exact h (List.any_eq_true.mpr ⟨p, hp, hh⟩)
      rw [this]
      simp
    · rw [if_neg e]
      have : [(k, v)].find? (fun p => decide (p.1 = k')) = none := by
        rw [List.find?_eq_none]
        intro p hp hh
        have : p = (k, v) := by simpa using hp
        subst this
        exact e (of_decide_eq_true hh).symm
      rw [this]
      cases m.find? fun p => decide (p.1 = k') <;> rfl
theorem aput_len {κ β : Type} [DecidableEq κ] (m : List (κ × β)) (k : κ) (v : β) : (aput m k v).length ≤ m.length + 1 := by
  unfold aput
  split
  · rw [List.length_map]; omega
  · simp
theorem dputO_ok {β : Type} {m : List (Int × β)} {k : Int} {v : β} (h : m.length ≤ 900000) : dputO m k v = some (aput m k v) := by unfold dputO; rw [if_pos h]
theorem bind_ex {α β : Type} {m : Option α} {f : α → Option β} {Q : α → Prop} {R : β → Prop} (h : ∃ a, m = some a ∧ Q a) (k : ∀ a, Q a → ∃ b, f a = some b ∧ R b) : ∃ b, m.bind f = some b ∧ R b := by
  obtain ⟨a, e, q⟩ := h
  rw [e]; exact k a q
theorem bind_go {α β : Type} {m : Option α} {f : α → Option β} {a : α} {R : β → Prop} (h : m = some a) (k : ∃ b, f a = some b ∧ R b) : ∃ b, m.bind f = some b ∧ R b := by rw [h]; exact k
theorem aput_new {κ β : Type} [DecidableEq κ] {m : List (κ × β)} {k : κ} {v : β} (h : aget m k = none) : aput m k v = m ++ [(k, v)] := by
  unfold aput
  rw [if_neg]
  intro e
  obtain ⟨p, hp, e⟩ := List.any_eq_true.mp e
  unfold aget at h
  cases hf : m.find? fun p => decide (p.1 = k) with
  | none => exact List.find?_eq_none.mp hf p hp e
  | some q => rw [hf] at h; cases h
theorem isSome_none {α : Type} {o : Option α} : o.isSome = false ↔ o = none := by cases o <;> simp
end MM

set_option Elab.async false
set_option linter.all false
set_option maxRecDepth 100000
set_option maxHeartbeats 4000000
set_option autoImplicit false
namespace MM
open PySem PySem.Spec PyProof.Rows L2
/-! # webs -/
abbrev Ties := List (Int × Int)
def Adj (ts : Ties) (i j : Int) : Prop := (i, j) ∈ ts ∨ (j, i) ∈ ts
structure Web (n : Int) (ts : Ties) : Prop where
  n0 : 0 ≤ n
  n1 : n ≤ 100
  len : ts.length ≤ 10000
  ok : ∀ p ∈ ts, 0 ≤ p.1 ∧ p.1 < p.2 ∧ p.2 < n
theorem Adj.symm {ts : Ties} {i j : Int} (h : Adj ts i j) : Adj ts j i := Or.symm h
theorem Web.adj {n : Int} {ts : Ties} (W : Web n ts) {i j : Int} (h : Adj ts i j) : (0 ≤ i ∧ i < n) ∧ (0 ≤ j ∧ j < n) ∧ i ≠ j := by
  rcases h with h | h
  · have := W.ok _ h; dsimp only at this; omega
  · have := W.ok _ h; dsimp only at this; omega
theorem Web.minmax {n : Int} {ts : Ties} (W : Web n ts) {i j : Int} : (min i j, max i j) ∈ ts ↔ Adj ts i j := by
  unfold Adj
  rcases Int.lt_trichotomy i j with h | h | h
  · rw [Int.min_eq_left (by omega), Int.max_eq_right (by omega)]
    exact ⟨.inl, fun h2 => h2.elim id fun h2 => by have := W.ok _ h2; dsimp only at this; omega⟩
  · subst h
    rw [Int.min_self, Int.max_self]
    exact ⟨.inl, fun h2 => h2.elim id id⟩
  · rw [Int.min_eq_right (by omega), Int.max_eq_left (by omega)]
    exact ⟨.inr, fun h2 => h2.elim (fun h2 => by have := W.ok _ h2; dsimp only at this; omega) id⟩
theorem Web.len' {n : Int} {ts : Ties} (W : Web n ts) : ts.length ≤ 1000000 := by have := W.len; omega
inductive Wlk (ts : Ties) : Int → Int → Nat → Prop
  | nil (v : Int) : Wlk ts v v 0
  | snoc {u v w : Int} {k : Nat} : Wlk ts u v k → Adj ts v w → Wlk ts u w (k + 1)
theorem Wlk.one {ts : Ties} {u v : Int} (h : Adj ts u v) : Wlk ts u v 1 := .snoc (.nil u) h
theorem Wlk.trans {ts : Ties} {u v w : Int} {k l : Nat} (h : Wlk ts u v k) (g : Wlk ts v w l) : Wlk ts u w (k + l) := by
  induction g with
  | nil => exact h
  | snoc _ a ih => exact .snoc ih a
theorem Wlk.symm {ts : Ties} {u v : Int} {k : Nat} (h : Wlk ts u v k) : Wlk ts v u k := by
  induction h with
  | nil => exact .nil _
  | snoc _ a ih =>
    have := (Wlk.one a.symm).trans ih
    rwa [Nat.add_comm] at this
theorem Wlk.range {n : Int} {ts : Ties} (W : Web n ts) {u v : Int} {k : Nat} (h : Wlk ts u v k) (hu : 0 ≤ u ∧ u < n) : 0 ≤ v ∧ v < n := by
  cases h with
  | nil => exact hu
  | snoc _ a => exact (W.adj a).2.1
def Conn (ts : Ties) (u v : Int) : Prop := ∃ k, Wlk ts u v k
theorem Conn.refl {ts : Ties} (u : Int) : Conn ts u u := ⟨0, .nil u⟩
theorem Conn.symm {ts : Ties} {u v : Int} (h : Conn ts u v) : Conn ts v u := let ⟨k, h⟩ := h; ⟨k, h.symm⟩
theorem Conn.trans {ts : Ties} {u v w : Int} (h : Conn ts u v) (g : Conn ts v w) : Conn ts u w := let ⟨k, h⟩ := h; let ⟨l, g⟩ := g; ⟨k + l, h.trans g⟩
theorem Conn.adj {ts : Ties} {u v : Int} (h : Adj ts u v) : Conn ts u v := ⟨1, .one h⟩
/-- what holds at u and goes over each tie holds at all that is joined to u -/
theorem Conn.spread {ts : Ties} {P : Int → Prop} {u v : Int} (h : Conn ts u v) (h0 : P u) (hs : ∀ x y, P x → Adj ts x y → P y) : P v := by
  obtain ⟨k, h⟩ := h
  induction h with
  | nil => exact h0
  | snoc _ a ih => exact hs _ _ ih a
/-- the least of a part -/
def IsRt (ts : Ties) (r v : Int) : Prop := Conn ts r v ∧ ∀ y, Conn ts r y → r ≤ y
theorem IsRt.uniq {ts : Ties} {r r' u v : Int} (h : IsRt ts r u) (g : IsRt ts r' v) (c : Conn ts u v) : r = r' :=
  Int.le_antisymm (h.2 _ ((h.1.trans c).trans g.1.symm)) (g.2 _ ((g.1.trans c.symm).trans h.1.symm))
/-- two sides -/
def Col (ts : Ties) (c : Int → Bool) : Prop := ∀ p ∈ ts, c p.1 ≠ c p.2
theorem Col.adj {ts : Ties} {c : Int → Bool} (h : Col ts c) {u v : Int} (a : Adj ts u v) : c u ≠ c v := by
  rcases a with a | a
  · exact h _ a
  · exact (h _ a).symm
theorem Col.walk {ts : Ties} {c : Int → Bool} (h : Col ts c) {u v : Int} {k : Nat} (w : Wlk ts u v k) : c v = (c u != decide (k % 2 = 1)) := by
  induction w with
  | nil => simp
  | snoc w a ih =>
    rename_i k
    have hne := h.adj a
    rw [ih] at hne
    by_cases hk : k % 2 = 1
    · have h2 : ¬ (k + 1) % 2 = 1 := by omega
      simp only [hk, h2, decide_true, decide_false] at hne ⊢
      revert hne
      cases c _ <;> cases c _ <;> simp
    · have h2 : (k + 1) % 2 = 1 := by omega
      simp only [hk, h2, decide_true, decide_false] at hne ⊢
      revert hne
      cases c _ <;> cases c _ <;> simp
end MM

set_option Elab.async false
set_option linter.all false
set_option maxRecDepth 100000
set_option maxHeartbeats 4000000
set_option autoImplicit false
namespace MM
open PySem PySem.Spec PyProof.Rows L2
theorem joined_iff {n : Int} {ts : Ties} (W : Web n ts) {i j : Int} : v_are_joined ts i j = true ↔ Adj ts i j := by
  unfold v_are_joined v_tie_of
  rw [inB_iff]; exact W.minmax
theorem neigh_ok {n : Int} {ts : Ties} (W : Web n ts) (i : Int) : ∃ xs, m_neighbours n ts i = some xs ∧ (∀ x, x ∈ xs ↔ Adj ts i x) ∧ xs.length ≤ 1000 := by
  have h0 := W.n0; have h1 := W.n1
  unfold m_neighbours
  refine bind_go (rngO_ok (by omega)) ⟨_, rfl, fun x => ?_, ?_⟩
  · rw [List.map_id'', List.mem_filter, joined_iff W, mem_rangeL]
    · exact ⟨fun h => h.2, fun h => ⟨(W.adj h).2.1, h⟩⟩
    · intro _; rfl
  · rw [List.length_map]
    have := List.length_filter_le (fun a => v_are_joined ts i a) (rangeL 0 n)
    rw [rangeL_len] at this
    omega
theorem part_from_ok {n : Int} {ts : Ties} (W : Web n ts) {place : Int} (hp : 0 ≤ place ∧ place < n) :
    ∃ p, m_part_from ts place = some p ∧ p.Pairwise (· ≤ ·) ∧ (∀ x, x ∈ p ↔ Conn ts place x) ∧ p.length ≤ 1000 := by
  have h0 := W.n0; have h1 := W.n1
  unfold m_part_from
  refine bind_go rfl (bind_go rfl ?_)
  have rowlen : ∀ {row : List Int}, row.Nodup → (∀ x ∈ row, Conn ts place x) → row.length ≤ n.toNat := fun hn hc => nodup_range hn fun x hx => by
    obtain ⟨k, w⟩ := hc x hx
    exact w.range W hp
  let I : List Int × Int → Prop := fun s => s.1.Nodup ∧ (∀ x ∈ s.1, Conn ts place x) ∧ place ∈ s.1 ∧ 0 ≤ s.2 ∧ s.2 ≤ s.1.length ∧ ∀ (t : Nat) (x y : Int), (t : Int) < s.2 → s.1[t]? = some x → Adj ts x y → y ∈ s.1
  refine bind_ex (Q := fun s => I s ∧ some (decide (s.2 < (s.1.length : Int))) = some false) (whileL_inv I (fun s => n.toNat - s.2.toNat) (fun s _ => ⟨_, rfl⟩) (fun s hi hc => ?_) _ _ ⟨by simp, fun x hx => ?_, by simp, Int.le_refl 0, by simp, fun t x y ht => ?_⟩ ?_) (fun s hs => ?_)
  · obtain ⟨row, at'⟩ := s
    obtain ⟨i1, i2, i3, i4, i5, i6⟩ := hi
    dsimp only at i1 i2 i3 i4 i5 i6 hc ⊢
    have hlt : at' < (row.length : Int) := of_decide_eq_true (Option.some.inj hc)
    obtain ⟨x0, hx0, hx0'⟩ := atI_some i4 hlt
    have hrow := rowlen i1 i2
    refine bind_go (lenO_ok W.len') ?_
    refine bind_ex (Q := fun r => (∃ e, r = row ++ e) ∧ r.Nodup ∧ (∀ x ∈ r, Conn ts place x) ∧ ∀ p ∈ ts, (p.1 = x0 → p.2 ∈ r) ∧ (p.2 = x0 → p.1 ∈ r))
      (forL_inv (fun (d : Ties) (r : List Int) => (∃ e, r = row ++ e) ∧ r.Nodup ∧ (∀ x ∈ r, Conn ts place x) ∧ ∀ p ∈ d, (p.1 = x0 → p.2 ∈ r) ∧ (p.2 = x0 → p.1 ∈ r)) ⟨⟨[], by simp⟩, i1, i2, fun p hp => by simp at hp⟩ (fun d a r he hr => ?_)) (fun r hr => ?_)
    · obtain ⟨t, he⟩ := he
      obtain ⟨⟨e, rfl⟩, r1, r2, r3⟩ := hr
      have ha : a ∈ ts := by rw [he]; simp
      have hat : atI (row ++ e) at' = some x0 := by
        rw [atI_eq i4 (by rw [List.length_append]; omega), List.getElem?_append_left (by omega)]; exact hx0'
      have hx0r : x0 ∈ row := List.mem_of_getElem? hx0'
      have keep : ∀ {z : Int}, (∀ p ∈ d, (p.1 = x0 → p.2 ∈ row ++ e ++ [z]) ∧ (p.2 = x0 → p.1 ∈ row ++ e ++ [z])) := fun {z} p hp => ⟨fun h => List.mem_append_left _ ((r3 p hp).1 h), fun h => List.mem_append_left _ ((r3 p hp).2 h)⟩
      refine bind_go hat ?_
      cases hin : inB x0 [a.1, a.2] with
      | false =>
        rw [condf rfl]
        rw [inB_false] at hin
        simp only [List.mem_cons, List.not_mem_nil, or_false, not_or] at hin
        refine ⟨_, rfl, ⟨e, rfl⟩, r1, r2, fun p hp => ?_⟩
        rcases List.mem_append.mp hp with hp | hp
        · exact r3 p hp
        · have : p = a := by simpa using hp
          subst this
          exact ⟨fun h => absurd h.symm hin.1, fun h => absurd h.symm hin.2⟩
      | true =>
        rw [condt rfl]
        rw [inB_iff] at hin
        simp only [List.mem_cons, List.not_mem_nil, or_false] at hin
        refine bind_go hat (bind_go rfl ?_)
        have hoth : Adj ts x0 (a.1 + a.2 - x0) := by
          rcases hin with h | h
          · left; rw [h]; have : a.1 + a.2 - a.1 = a.2 := by omega
            rw [this]; exact ha
          · right; rw [h]; have : a.1 + a.2 - a.2 = a.1 := by omega
            rw [this]; exact ha
        have fin : ∀ {r' : List Int}, (∀ z ∈ row ++ e, z ∈ r') → a.1 + a.2 - x0 ∈ r' → ∀ p ∈ d ++ [a], (p.1 = x0 → p.2 ∈ r') ∧ (p.2 = x0 → p.1 ∈ r') := fun {r'} hsub ho p hp => by
          rcases List.mem_append.mp hp with hp | hp
          · exact ⟨fun h => hsub _ ((r3 p hp).1 h), fun h => hsub _ ((r3 p hp).2 h)⟩
          · have : p = a := by simpa using hp
            subst this
            refine ⟨fun h => ?_, fun h => ?_⟩
            · have : p.1 + p.2 - x0 = p.2 := by omega
              rw [← this]; exact ho
            · have : p.1 + p.2 - x0 = p.1 := by omega
              rw [← this]; exact ho
        cases ho : inB (a.1 + a.2 - x0) (row ++ e) with
        | true =>
          rw [condf (by simp)]
          rw [inB_iff] at ho
          exact ⟨_, rfl, ⟨e, rfl⟩, r1, r2, fin (fun z hz => hz) ho⟩
        | false =>
          rw [condt (by simp)]
          rw [inB_false] at ho
          have hl := rowlen r1 r2
          refine bind_go (appO_ok (by omega)) ⟨_, rfl, ⟨e ++ [a.1 + a.2 - x0], by simp⟩, ?_, fun x hx => ?_, fin (fun z hz => List.mem_append_left _ hz) (by simp)⟩
          · rw [List.nodup_append]
            refine ⟨r1, by simp, fun x hx y hy => ?_⟩
            have : y = a.1 + a.2 - x0 := by simpa using hy
            subst this
            intro e'; subst e'; exact ho hx
          · rcases List.mem_append.mp hx with hx | hx
            · exact r2 x hx
            · have : x = a.1 + a.2 - x0 := by simpa using hx
              subst this
              exact (i2 x0 hx0r).trans (.adj hoth)
    · obtain ⟨⟨e, rfl⟩, r1, r2, r3⟩ := hr
      have hl := rowlen r1 r2
      refine bind_go rfl ⟨_, rfl, ⟨r1, r2, List.mem_append_left _ i3, by dsimp only; omega, by dsimp only; rw [List.length_append]; omega, fun t x y ht hx hy => ?_⟩, by dsimp only; omega⟩
      dsimp only at ht hx ⊢
      by_cases hta : (t : Int) < at'
      · rw [List.getElem?_append_left (by omega)] at hx
        exact List.mem_append_left _ (i6 t x y hta hx hy)
      · have : t = at'.toNat := by omega
        subst this
        rw [List.getElem?_append_left (by omega), hx0'] at hx
        cases hx
        rcases hy with hy | hy
        · exact (r3 _ hy).1 rfl
        · exact (r3 _ hy).2 rfl
  · have : x = place := by simpa using hx
    subst this; exact .refl _
  · dsimp only at ht; omega
  · show n.toNat - (0 : Int).toNat < wFuel
    unfold wFuel; omega
  · obtain ⟨⟨i1, i2, i3, i4, i5, i6⟩, hc⟩ := hs
    obtain ⟨row, at'⟩ := s
    dsimp only at *
    have hge : ¬ at' < (row.length : Int) := of_decide_eq_false (Option.some.inj hc)
    refine ⟨_, rfl, srtI_sorted _, fun x => ?_, ?_⟩
    · rw [mem_srtI]
      refine ⟨i2 x, fun h => h.spread (P := fun z => z ∈ row) i3 fun u v hu ha => ?_⟩
      obtain ⟨t, ht, e⟩ := List.getElem_of_mem hu
      exact i6 t u v (by omega) (by rw [List.getElem?_eq_getElem ht, e]) ha
    · rw [srtI_len]
      have := rowlen i1 i2
      omega
end MM

set_option Elab.async false
set_option linter.all false
set_option maxRecDepth 100000
set_option maxHeartbeats 4000000
set_option autoImplicit false
namespace MM
open PySem PySem.Spec PyProof.Rows L2
/-- the part of a place, rising -/
def GoodP (n : Int) (ts : Ties) (p : List Int) : Prop := ∃ place, (0 ≤ place ∧ place < n) ∧ p.Pairwise (· ≤ ·) ∧ (∀ x, x ∈ p ↔ Conn ts place x) ∧ p.length ≤ 1000
theorem GoodP.head {n : Int} {ts : Ties} (W : Web n ts) {p : List Int} (h : GoodP n ts p) : ∃ r t, p = r :: t ∧ (0 ≤ r ∧ r < n) ∧ IsRt ts r r ∧ ∀ x, x ∈ p ↔ Conn ts r x := by
  obtain ⟨place, hp, hs, hm, _⟩ := h
  cases p with
  | nil => exact absurd ((hm place).mpr (.refl _)) (by simp)
  | cons r t =>
    have hr := (hm r).mp List.mem_cons_self
    refine ⟨r, t, rfl, ?_, ⟨.refl _, fun y hy => head_least hs y ((hm y).mpr (hr.trans hy))⟩, fun x => (hm x).trans ⟨fun h => hr.symm.trans h, fun h => hr.trans h⟩⟩
    obtain ⟨k, w⟩ := hr
    exact w.range W hp
theorem GoodP.disj {n : Int} {ts : Ties} {p q : List Int} (h : GoodP n ts p) (g : GoodP n ts q) {x v : Int} (hx : x ∈ p) (hx' : x ∈ q) (hv : v ∈ p) : v ∈ q := by
  obtain ⟨a, _, _, ha, _⟩ := h
  obtain ⟨b, _, _, hb, _⟩ := g
  exact (hb v).mpr ((((hb x).mp hx').trans ((ha x).mp hx).symm).trans ((ha v).mp hv))
def PartsOk (n : Int) (ts : Ties) (ps : List (List Int)) : Prop := (∀ p ∈ ps, GoodP n ts p) ∧ ps.Pairwise (fun p q => ∀ x ∈ p, x ∉ q) ∧ ∀ v, 0 ≤ v → v < n → ∃ p ∈ ps, v ∈ p
theorem parts_of_ok {n : Int} {ts : Ties} (W : Web n ts) : ∃ ps, m_parts_of n ts = some ps ∧ PartsOk n ts ps ∧ ps.length ≤ 1000 := by
  have h0 := W.n0; have h1 := W.n1
  unfold m_parts_of
  refine bind_go rfl (bind_go (rngO_ok (by omega)) ?_)
  refine bind_ex (Q := fun s => (∀ p ∈ s, GoodP n ts p) ∧ s.Pairwise (fun p q => ∀ x ∈ p, x ∉ q) ∧ (∀ v ∈ rangeL 0 n, ∃ p ∈ s, v ∈ p) ∧ s.length ≤ (rangeL 0 n).length)
    (forL_inv (fun (d : List Int) (s : List (List Int)) => (∀ p ∈ s, GoodP n ts p) ∧ s.Pairwise (fun p q => ∀ x ∈ p, x ∉ q) ∧ (∀ v ∈ d, ∃ p ∈ s, v ∈ p) ∧ s.length ≤ d.length) ⟨by simp, by simp, by simp, by simp⟩ (fun d a s he hs => ?_)) (fun s hs => ?_)
  · obtain ⟨t, he⟩ := he
    obtain ⟨s1, s2, s3, s4⟩ := hs
    have ha : 0 ≤ a ∧ a < n := mem_rangeL.mp (by rw [he]; simp)
    have hd : d.length ≤ 100 := by
      have := congrArg List.length he
      rw [rangeL_len, List.length_append] at this
      omega
    refine bind_go (lenO_ok (by omega)) ?_
    cases hin : (List.map (fun a_6 => inB a a_6) s).any id with
    | true =>
      rw [condf (by simp)]
      refine ⟨_, rfl, s1, s2, fun v hv => ?_, by rw [List.length_append]; omega⟩
      rcases List.mem_append.mp hv with hv | hv
      · exact s3 v hv
      · have : v = a := by simpa using hv
        subst this
        rw [List.any_map] at hin
        obtain ⟨p, hp, e⟩ := List.any_eq_true.mp hin
        exact ⟨p, hp, inB_iff.mp e⟩
    | false =>
      rw [condt (by simp)]
      obtain ⟨p, e, p1, p2, p3⟩ := part_from_ok W ha
      have hno : ∀ q ∈ s, a ∉ q := fun q hq haq => by
        rw [List.any_map] at hin
        have := List.any_eq_false.mp hin q hq
        exact this (inB_iff.mpr haq)
      have gp : GoodP n ts p := ⟨a, ha, p1, p2, p3⟩
      refine bind_go e (bind_go (appO_ok (by omega)) ⟨_, rfl, fun q hq => ?_, ?_, fun v hv => ?_, by rw [List.length_append, List.length_append]; simp; omega⟩)
      · rcases List.mem_append.mp hq with hq | hq
        · exact s1 q hq
        · have : q = p := by simpa using hq
          rw [this]; exact gp
      · rw [List.pairwise_append]
        refine ⟨s2, by simp, fun q hq q' hq' x hx hx' => ?_⟩
        have : q' = p := by simpa using hq'
        subst this
        exact hno q hq (gp.disj (s1 q hq) hx' hx ((p2 a).mpr (.refl _)))
      · rcases List.mem_append.mp hv with hv | hv
        · obtain ⟨q, hq, hv⟩ := s3 v hv
          exact ⟨q, List.mem_append_left _ hq, hv⟩
        · have : v = a := by simpa using hv
          subst this
          exact ⟨p, by simp, (p2 _).mpr (.refl _)⟩
  · obtain ⟨s1, s2, s3, s4⟩ := hs
    rw [rangeL_len] at s4
    exact ⟨_, rfl, ⟨s1, s2, fun v hv hv' => s3 v (mem_rangeL.mpr ⟨hv, hv'⟩)⟩, by omega⟩
/-! ## the ways -/
abbrev Ways := List (Int × List Int)
def Loc (n : Int) (ts : Ties) (ways : Ways) : Prop := ∀ v p, aget ways v = some p → (0 ≤ v ∧ v < n) ∧ p.length ≤ ways.length ∧ ((p = [v] ∧ IsRt ts v v) ∨ ∃ u q, p = q ++ [v] ∧ aget ways u = some q ∧ Adj ts u v)
theorem Loc.put {n : Int} {ts : Ties} {ways : Ways} (h : Loc n ts ways) {w : Int} {p : List Int} (hn : aget ways w = none) (hw : 0 ≤ w ∧ w < n) (hl : p.length ≤ ways.length + 1)
    (hp : (p = [w] ∧ IsRt ts w w) ∨ ∃ u q, p = q ++ [w] ∧ aget ways u = some q ∧ Adj ts u w) : Loc n ts (aput ways w p) := by
  have hlen : (aput ways w p).length = ways.length + 1 := by rw [aput_new hn]; simp
  have keep : ∀ u q, aget ways u = some q → aget (aput ways w p) u = some q := fun u q hu => by
    rw [aget_put, if_neg]; exact hu
    intro e; subst e; rw [hn] at hu; cases hu
  intro v q hv
  rw [hlen]
  rw [aget_put] at hv
  split at hv
  · rename_i e; subst e
    cases hv
    refine ⟨hw, hl, hp.imp id fun ⟨u, q, e, hu, ha⟩ => ⟨u, q, e, keep u q hu, ha⟩⟩
  · obtain ⟨h1, h2, h3⟩ := h v q hv
    exact ⟨h1, by omega, h3.imp id fun ⟨u, q, e, hu, ha⟩ => ⟨u, q, e, keep u q hu, ha⟩⟩
theorem some_put {ways : Ways} {w v : Int} {p : List Int} : (aget (aput ways w p) v).isSome = true ↔ v = w ∨ (aget ways v).isSome = true := by
  rw [aget_put]
  split
  · rename_i e; simp [e]
  · rename_i e; simp [e]
theorem ways_ok {n : Int} {ts : Ties} (W : Web n ts) : ∃ ways, m_ways_back n ts = some ways ∧ Loc n ts ways ∧ (∀ v, 0 ≤ v → v < n → ∃ p, aget ways v = some p) ∧ ways.length ≤ 900000 := by
  have h0 := W.n0; have h1 := W.n1
  obtain ⟨ps, eps, ⟨pg, pd, pc⟩, pl⟩ := parts_of_ok W
  unfold m_ways_back
  refine bind_go rfl (bind_go eps (bind_go (lenO_ok (by omega)) ?_))
  let O : List (List Int) → Ways → Prop := fun d ways => Loc n ts ways ∧ (∀ v, (aget ways v).isSome = true ↔ ∃ p ∈ d, v ∈ p) ∧ ways.length ≤ 101 * d.length
  refine bind_ex (Q := O ps) (forL_inv O ⟨fun v p h => by simp [aget] at h, fun v => by simp [aget], by simp⟩ (fun d a ways he ho => ?_)) (fun ways ho => ?_)
  · obtain ⟨t, he⟩ := he
    obtain ⟨o1, o2, o3⟩ := ho
    have hdl : d.length ≤ 1000 := by
      have := congrArg List.length he
      rw [List.length_append] at this
      omega
    have ha : a ∈ ps := by rw [he]; simp
    obtain ⟨r, ar, rfl, hr, rt, hm⟩ := (pg a ha).head W
    have hnew : ∀ v, Conn ts r v → aget ways v = none := fun v hv => by
      rw [← isSome_none]
      cases hh : (aget ways v).isSome with
      | false => rfl
      | true =>
        obtain ⟨q, hq, hvq⟩ := (o2 v).mp hh
        rw [he, List.pairwise_append] at pd
        exact absurd ((hm v).mpr hv) (pd.2.2 q hq _ List.mem_cons_self v hvq)
    refine bind_go atI_zero (bind_go atI_zero (bind_go (dputO_ok (by omega)) (bind_go atI_zero (bind_go rfl (bind_go rfl ?_)))))
    have rowlen : ∀ {row : List Int}, row.Nodup → (∀ x ∈ row, Conn ts r x) → row.length ≤ n.toNat := fun hn hc => nodup_range hn fun x hx => by
      obtain ⟨k, w⟩ := hc x hx
      exact w.range W hr
    let J : Ways → List Int → Prop := fun ws row => Loc n ts ws ∧ (∀ v, (aget ws v).isSome = true ↔ (aget ways v).isSome = true ∨ v ∈ row) ∧ ws.length = ways.length + row.length ∧ row.Nodup ∧ (∀ x ∈ row, Conn ts r x) ∧ r ∈ row
    let I : Ways × List Int × Int → Prop := fun s => J s.1 s.2.1 ∧ 0 ≤ s.2.2 ∧ s.2.2 ≤ s.2.1.length ∧ ∀ (t : Nat) (x y : Int), (t : Int) < s.2.2 → s.2.1[t]? = some x → Adj ts x y → y ∈ s.2.1
    have hput : aput ways r [r] = ways ++ [(r, [r])] := aput_new (hnew r (.refl _))
    refine bind_ex (Q := fun s => I s ∧ some (decide (s.2.2 < (s.2.1.length : Int))) = some false) (whileL_inv I (fun s => n.toNat - s.2.2.toNat) (fun s _ => ⟨_, rfl⟩) (fun s hi hc => ?_) _ _ ⟨⟨o1.put (hnew r (.refl _)) hr (by simp) (.inl ⟨rfl, rt⟩), fun v => ?_, ?_, by simp, fun x hx => ?_, by simp⟩, Int.le_refl 0, by simp, fun t x y ht => ?_⟩ ?_) (fun s hs => ?_)
    · obtain ⟨ws, row, at'⟩ := s
      obtain ⟨⟨i1, i2, i3, i4, i5, i6⟩, i7, i8, i9⟩ := hi
      dsimp only at i1 i2 i3 i4 i5 i6 i7 i8 i9 hc ⊢
      have hlt : at' < (row.length : Int) := of_decide_eq_true (Option.some.inj hc)
      obtain ⟨x0, hx0, hx0'⟩ := atI_some i7 hlt
      have hrow := rowlen i4 i5
      have hx0r : x0 ∈ row := List.mem_of_getElem? hx0'
      obtain ⟨nb, enb, mnb, lnb⟩ := neigh_ok W x0
      refine bind_go hx0 (bind_go enb (bind_go (lenO_ok (by omega)) ?_))
      refine bind_ex (Q := fun (r' : Ways × List Int) => J r'.1 r'.2 ∧ (∃ e, r'.2 = row ++ e) ∧ ∀ y ∈ nb, y ∈ r'.2)
        (forL_inv (fun (d : List Int) (r' : Ways × List Int) => J r'.1 r'.2 ∧ (∃ e, r'.2 = row ++ e) ∧ ∀ y ∈ d, y ∈ r'.2) ⟨⟨i1, i2, i3, i4, i5, i6⟩, ⟨[], by simp⟩, by simp⟩ (fun d b r' hb hr' => ?_)) (fun r' hr' => ?_)
      · obtain ⟨t, hb⟩ := hb
        obtain ⟨ws', row'⟩ := r'
        obtain ⟨⟨j1, j2, j3, j4, j5, j6⟩, ⟨e, je⟩, j7⟩ := hr'
        dsimp only at j1 j2 j3 j4 j5 j6 je j7 ⊢
        have hbn : Adj ts x0 b := (mnb b).mp (by rw [hb]; simp)
        have hcb : Conn ts r b := (i5 x0 hx0r).trans (.adj hbn)
        cases hs : (aget ws' b).isSome with
        | true =>
          rw [condf (by simp)]
          refine ⟨_, rfl, ⟨j1, j2, j3, j4, j5, j6⟩, ⟨e, je⟩, fun y hy => ?_⟩
          rcases List.mem_append.mp hy with hy | hy
          · exact j7 y hy
          · have : y = b := by simpa using hy
            subst this
            rcases (j2 y).mp hs with h | h
            · rw [hnew y hcb] at h; cases h
            · exact h
        | false =>
          rw [condt (by simp)]
          have hnone := isSome_none.mp hs
          have hl := rowlen j4 j5
          have hat : atI row' at' = some x0 := by
            subst je
            rw [atI_eq i7 (by rw [List.length_append]; omega), List.getElem?_append_left (by omega)]; exact hx0'
          obtain ⟨q, hq⟩ : ∃ q, aget ws' x0 = some q := by
            have : (aget ws' x0).isSome = true := (j2 x0).mpr (.inr (by rw [je]; exact List.mem_append_left _ hx0r))
            exact Option.isSome_iff_exists.mp this
          have hql := (j1 x0 q hq).2.1
          have hnr : b ∉ row' := fun h => by rw [(j2 b).mpr (.inr h)] at hs; cases hs
          refine bind_go hat (bind_go hq (bind_go (catO_ok (by simp; omega)) (bind_go (dputO_ok (by omega)) (bind_go (appO_ok (by omega)) ⟨_, rfl, ⟨?_, fun v => ?_, ?_, ?_, fun x hx => ?_, List.mem_append_left _ j6⟩, ⟨e ++ [b], by rw [je]; simp⟩, fun y hy => ?_⟩))))
          · exact j1.put hnone (W.adj hbn).2.1 (by simp; omega) (.inr ⟨x0, q, rfl, hq, hbn⟩)
          · rw [some_put, j2 v, List.mem_append, List.mem_singleton]
            constructor
            · rintro (h | h | h)
              · exact .inr (.inr h)
              · exact .inl h
              · exact .inr (.inl h)
            · rintro (h | h | h)
              · exact .inr (.inl h)
              · exact .inr (.inr h)
              · exact .inl h
          · rw [aput_new hnone]; simp; omega
          · rw [List.nodup_append]
            refine ⟨j4, by simp, fun x hx y hy => ?_⟩
            have : y = b := by simpa using hy
            subst this
            intro e'; subst e'; exact hnr hx
          · rcases List.mem_append.mp hx with hx | hx
            · exact j5 x hx
            · have : x = b := by simpa using hx
              subst this; exact hcb
          · rcases List.mem_append.mp hy with hy | hy
            · exact List.mem_append_left _ (j7 y hy)
            · exact List.mem_append_right _ hy
      · obtain ⟨ws', row'⟩ := r'
        obtain ⟨⟨j1, j2, j3, j4, j5, j6⟩, ⟨e, je⟩, j7⟩ := hr'
        dsimp only at j1 j2 j3 j4 j5 j6 je j7 ⊢
        have hl := rowlen j4 j5
        subst je
        refine bind_go rfl ⟨_, rfl, ⟨⟨j1, j2, j3, j4, j5, j6⟩, by dsimp only; omega, by dsimp only; rw [List.length_append]; omega, fun t x y ht hx hy => ?_⟩, by dsimp only; omega⟩
        dsimp only at ht hx ⊢
        by_cases hta : (t : Int) < at'
        · rw [List.getElem?_append_left (by omega)] at hx
          exact List.mem_append_left _ (i9 t x y hta hx hy)
        · have : t = at'.toNat := by omega
          subst this
          rw [List.getElem?_append_left (by omega), hx0'] at hx
          cases hx
          exact j7 y ((mnb y).mpr hy)
    · rw [some_put]
      simp [or_comm]
    · rw [hput]; simp
    · have : x = r := by simpa using hx
      subst this; exact .refl _
    · dsimp only at ht; omega
    · show n.toNat - (0 : Int).toNat < wFuel
      unfold wFuel; omega
    · obtain ⟨⟨⟨i1, i2, i3, i4, i5, i6⟩, i7, i8, i9⟩, hc⟩ := hs
      obtain ⟨ws, row, at'⟩ := s
      dsimp only at *
      have hge : ¬ at' < (row.length : Int) := of_decide_eq_false (Option.some.inj hc)
      have hl := rowlen i4 i5
      have hcl : ∀ v, Conn ts r v → v ∈ row := fun v hv => hv.spread (P := fun z => z ∈ row) i6 fun u w hu ha => by
        obtain ⟨t, ht, e⟩ := List.getElem_of_mem hu
        exact i9 t u w (by omega) (by rw [List.getElem?_eq_getElem ht, e]) ha
      refine ⟨_, rfl, i1, fun v => ?_, by rw [List.length_append]; simp; omega⟩
      rw [i2 v, o2 v]
      constructor
      · rintro (⟨p, hp, hv⟩ | h)
        · exact ⟨p, List.mem_append_left _ hp, hv⟩
        · exact ⟨_, List.mem_append_right _ (by simp), (hm v).mpr (i5 v h)⟩
      · rintro ⟨p, hp, hv⟩
        rcases List.mem_append.mp hp with hp | hp
        · exact .inl ⟨p, hp, hv⟩
        · have : p = r :: ar := by simpa using hp
          subst this
          exact .inr (hcl v ((hm v).mp hv))
  · obtain ⟨o1, o2, o3⟩ := ho
    exact ⟨_, rfl, o1, fun v hv hv' => Option.isSome_iff_exists.mp ((o2 v).mpr (pc v hv hv')), by omega⟩
end MM

set_option Elab.async false
set_option linter.all false
set_option maxRecDepth 100000
set_option maxHeartbeats 4000000
set_option autoImplicit false
namespace MM
open PySem PySem.Spec PyProof.Rows L2
/-- each next one tied -/
def Lk (ts : Ties) (xs : List Int) : Prop := ∀ k x y, xs[k]? = some x → xs[k + 1]? = some y → Adj ts x y
theorem Lk.drop {ts : Ties} {xs : List Int} (h : Lk ts xs) (a : Nat) : Lk ts (xs.drop a) := fun k x y hx hy => by
  rw [List.getElem?_drop] at hx hy
  exact h (a + k) x y hx (by rw [← hy]; congr 1)
theorem Lk.reverse {ts : Ties} {xs : List Int} (h : Lk ts xs) : Lk ts xs.reverse := fun k x y hx hy => by
  have h2 : k + 1 < xs.length := by
    have := (List.getElem?_eq_some_iff.mp hy).1
    simpa using this
  rw [List.getElem?_reverse (by omega)] at hx hy
  refine (h (xs.length - 1 - (k + 1)) y x hy ?_).symm
  rw [← hx]; congr 1; omega
theorem Lk.append {ts : Ties} {xs ys : List Int} (h : Lk ts xs) (g : Lk ts ys) (m : ∀ x y, xs.getLast? = some x → ys.head? = some y → Adj ts x y) : Lk ts (xs ++ ys) := fun k x y hx hy => by
  by_cases h1 : k + 1 < xs.length
  · rw [List.getElem?_append_left (by omega)] at hx hy
    exact h k x y hx hy
  · rw [List.getElem?_append_right (by omega)] at hy
    by_cases h2 : k < xs.length
    · rw [List.getElem?_append_left h2] at hx
      refine m x y (by rw [List.getLast?_eq_getElem?, ← hx]; congr 1; omega) ?_
      rw [List.head?_eq_getElem?, ← hy]; congr 1; omega
    · rw [List.getElem?_append_right (by omega)] at hx
      exact g (k - xs.length) x y hx (by rw [← hy]; congr 1; omega)
/-- what a way is -/
structure PathOk (n : Int) (ts : Ties) (ways : Ways) (v : Int) (p : List Int) : Prop where
  last : p.getLast? = some v
  root : ∃ r, p.head? = some r ∧ IsRt ts r v ∧ Wlk ts r v (p.length - 1)
  tree : ∀ k, k < p.length → ∃ u, p[k]? = some u ∧ aget ways u = some (p.take (k + 1))
  link : Lk ts p
theorem pathOk {n : Int} {ts : Ties} {ways : Ways} (L : Loc n ts ways) : ∀ (m : Nat) (v : Int) (p : List Int), p.length ≤ m → aget ways v = some p → PathOk n ts ways v p
  | 0, v, p, hm, h => by
    obtain ⟨_, _, ⟨rfl, _⟩ | ⟨u, q, rfl, _⟩⟩ := L v p h
    · simp at hm
    · simp at hm
  | m + 1, v, p, hm, h => by
    obtain ⟨_, _, ⟨rfl, hr⟩ | ⟨u, q, rfl, hu, ha⟩⟩ := L v p h
    · refine ⟨rfl, ⟨v, rfl, hr, .nil v⟩, fun k hk => ?_, fun k x y hx hy => ?_⟩
      · have : k = 0 := by simpa using hk
        subst this
        exact ⟨v, rfl, h⟩
      · simp at hy
    · have ih := pathOk L m u q (by simp at hm; omega) hu
      obtain ⟨r, hr1, hr2, hr3⟩ := ih.root
      have hq : 0 < q.length := by
        cases q with
        | nil => simp at hr1
        | cons a q => simp
      refine ⟨by simp, ⟨r, ?_, ⟨hr2.1.trans (.adj ha), hr2.2⟩, ?_⟩, fun k hk => ?_, ?_⟩
      · rw [List.head?_append, hr1]; rfl
      · have := hr3.snoc ha
        have e : q.length - 1 + 1 = (q ++ [v]).length - 1 := by simp; omega
        rwa [e] at this
      · by_cases hk2 : k < q.length
        · obtain ⟨w, h1, h2⟩ := ih.tree k hk2
          refine ⟨w, by rw [List.getElem?_append_left hk2]; exact h1, ?_⟩
          rw [List.take_append_of_le_length (by omega)]; exact h2
        · have : k = q.length := by simp at hk; omega
          subst this
          refine ⟨v, by simp, ?_⟩
          rw [List.take_of_length_le (by simp)]; exact h
      · refine ih.link.append (fun k x y hx hy => by simp at hy) fun x y hx hy => ?_
        rw [ih.last] at hx; cases hx
        have : v = y := by simpa using hy
        subst this; exact ha
theorem Loc.path {n : Int} {ts : Ties} {ways : Ways} (L : Loc n ts ways) {v : Int} {p : List Int} (h : aget ways v = some p) : PathOk n ts ways v p := pathOk L p.length v p (Nat.le_refl _) h
theorem take_inj {xs ys : List Int} {k l : Nat} (e : xs.take (k + 1) = ys.take (l + 1)) (hk : k < xs.length) (hl : l < ys.length) : k = l := by
  have := congrArg List.length e
  rw [List.length_take, List.length_take] at this
  omega
theorem PathOk.nodup {n : Int} {ts : Ties} {ways : Ways} {v : Int} {p : List Int} (h : PathOk n ts ways v p) : p.Nodup := by
  unfold List.Nodup
  rw [List.pairwise_iff_getElem]
  intro i j hi hj hij e
  obtain ⟨u, h1, h2⟩ := h.tree i (by omega)
  obtain ⟨w, h3, h4⟩ := h.tree j hj
  rw [List.getElem?_eq_getElem hi] at h1
  rw [List.getElem?_eq_getElem hj] at h3
  cases h1; cases h3
  rw [e] at h2
  rw [h2] at h4
  have := take_inj (Option.some.inj h4) (by omega) hj
  omega
theorem Loc.mem {n : Int} {ts : Ties} {ways : Ways} (L : Loc n ts ways) {v x : Int} {p : List Int} (h : aget ways v = some p) (hx : x ∈ p) : 0 ≤ x ∧ x < n := by
  obtain ⟨k, hk, e⟩ := List.getElem_of_mem hx
  obtain ⟨u, h1, h2⟩ := (L.path h).tree k hk
  rw [List.getElem?_eq_getElem hk] at h1
  cases h1
  rw [e] at h2
  exact (L x _ h2).1
/-- a ring of an odd number of places -/
structure RingOk (n : Int) (ts : Ties) (R : List Int) : Prop where
  nd : R.Nodup
  odd : R.length % 2 = 1
  big : 3 ≤ R.length
  rng : ∀ x ∈ R, 0 ≤ x ∧ x < n
  link : Lk ts R
  back : ∀ x y, R.getLast? = some x → R.head? = some y → Adj ts x y
theorem ring_ok {n : Int} {ts : Ties} (W : Web n ts) {ways : Ways} (L : Loc n ts ways) {i j : Int} {P Q : List Int} (hP : aget ways i = some P) (hQ : aget ways j = some Q) (hij : (i, j) ∈ ts) (hpar : P.length % 2 = Q.length % 2)
    {a : Nat} (h1 : a < P.length) (h2 : a < Q.length) (h3 : P[a]? = Q[a]?) (h4 : a + 1 < P.length → a + 1 < Q.length → P[a + 1]? ≠ Q[a + 1]?) : RingOk n ts (P.drop a ++ (Q.drop (a + 1)).reverse) := by
  have p := L.path hP
  have q := L.path hQ
  have ne : i ≠ j := (W.adj (.inl hij)).2.2
  have hl : (P.drop a ++ (Q.drop (a + 1)).reverse).length = P.length + Q.length - 1 - 2 * a := by simp; omega
  have n1 : P.length + Q.length - 1 - 2 * a ≠ 1 := fun e => by
    have e1 : P.length = a + 1 := by omega
    have e2 : Q.length = a + 1 := by omega
    have l1 := p.last
    have l2 := q.last
    rw [List.getLast?_eq_getElem?, e1, Nat.add_sub_cancel] at l1
    rw [List.getLast?_eq_getElem?, e2, Nat.add_sub_cancel] at l2
    rw [h3, l2] at l1
    cases l1; exact ne rfl
  refine ⟨?_, by rw [hl]; omega, by rw [hl]; omega, fun x hx => ?_, ?_, fun x y hx hy => ?_⟩
  · rw [List.nodup_append]
    refine ⟨p.nodup.sublist (List.drop_sublist _ _), ?_, fun x hx y hy e => ?_⟩
    · exact (List.reverse_perm _).symm.nodup (q.nodup.sublist (List.drop_sublist _ _))
    · subst e
      rw [List.mem_reverse] at hy
      obtain ⟨k, hk, e⟩ := List.getElem_of_mem hx
      obtain ⟨l, hl, f⟩ := List.getElem_of_mem hy
      rw [List.length_drop] at hk hl
      rw [List.getElem_drop] at e f
      obtain ⟨u, g1, g2⟩ := p.tree (a + k) (by omega)
      obtain ⟨w, g3, g4⟩ := q.tree (a + 1 + l) (by omega)
      rw [List.getElem?_eq_getElem (by omega), e] at g1
      rw [List.getElem?_eq_getElem (by omega), f] at g3
      cases g1; cases g3
      rw [g2] at g4
      have g4 := Option.some.inj g4
      have hkl := take_inj g4 (by omega) (by omega)
      refine h4 (by omega) (by omega) ?_
      have := congrArg (fun z : List Int => z[a + 1]?) g4
      rwa [List.getElem?_take_of_lt (by omega), List.getElem?_take_of_lt (by omega)] at this
  · rcases List.mem_append.mp hx with hx | hx
    · exact L.mem hP (List.mem_of_mem_drop hx)
    · exact L.mem hQ (List.mem_of_mem_drop (List.mem_reverse.mp hx))
  · refine (p.link.drop a).append (q.link.drop (a + 1)).reverse fun x y hx hy => ?_
    rw [List.getLast?_drop, if_neg (by omega), p.last] at hx
    rw [List.head?_reverse, List.getLast?_drop] at hy
    split at hy
    · cases hy
    · rw [q.last] at hy
      cases hx; cases hy
      exact .inl hij
  · have hy : P[a]? = some y := by
      rw [List.head?_append, List.head?_drop, List.getElem?_eq_getElem h1] at hy
      rw [List.getElem?_eq_getElem h1]; exact hy
    rw [List.getLast?_append, List.getLast?_reverse, List.head?_drop] at hx
    cases hq : Q[a + 1]? with
    | some z =>
      rw [hq] at hx
      cases hx
      rw [h3] at hy
      exact (q.link a y x hy hq).symm
    | none =>
      rw [hq, List.getLast?_drop, if_neg (by omega), p.last] at hx
      cases hx
      have hlen := List.getElem?_eq_none_iff.mp hq
      have l2 := q.last
      rw [List.getLast?_eq_getElem?] at l2
      have : Q.length - 1 = a := by omega
      rw [this, ← h3, hy] at l2
      cases l2
      exact .inl hij
theorem filterMap_range {α : Type} {g : Nat → Option α} : ∀ (c : Nat) (ys : List α), ys.length = c → (∀ k, k < c → g k = ys[k]?) → (List.range c).filterMap g = ys
  | 0, ys, h, _ => by rw [List.length_eq_zero_iff.mp h]; rfl
  | c + 1, ys, h, hg => by
    have ih := filterMap_range (g := g) c (ys.take c) (by rw [List.length_take]; omega) fun k hk => by rw [hg k (by omega), List.getElem?_take_of_lt hk]
    have hc : g c = some ys[c] := by rw [hg c (by omega), List.getElem?_eq_getElem (by omega)]
    rw [List.range_succ, List.filterMap_append, ih, List.filterMap_cons, hc]
    dsimp only
    rw [List.filterMap_nil, List.take_append_getElem (by omega), List.take_of_length_le (by omega)]
theorem pick_back (xs : List Int) (a : Nat) (h : a < xs.length) : pick3 xs none (some (a : Int)) (some (-(1 : Int))) = (xs.drop (a + 1)).reverse := by
  unfold pick3
  have e : sliceBounds none (some (a : Int)) (some (-(1 : Int))) xs.length = ((xs.length : Int) - 1, (a : Int), -1) := by
    unfold sliceBounds
    have q1 : ¬ ((-(1 : Int)) > 0) := by decide
    have q2 : ¬ ((a : Int) < 0) := by omega
    simp only [Option.getD_some, q1, q2, if_false]
    rw [Int.min_eq_left (by omega), Int.max_eq_right (by omega)]
  rw [e]
  show List.filterMap _ (PySem.sliceRange ((xs.length : Int) - 1) (a : Int) (-1)) = _
  unfold PySem.sliceRange
  dsimp only
  rw [if_neg (by decide)]
  have ec : ((if (xs.length : Int) - 1 > (a : Int) then ((xs.length : Int) - 1 - (a : Int) - -1 - 1) / (- -1) else 0 : Int)).toNat = xs.length - 1 - a := by
    split
    · have : ((xs.length : Int) - 1 - (a : Int) - -1 - 1) / (- -1) = (xs.length : Int) - 1 - a := by
        rw [show (- -1 : Int) = 1 from rfl, Int.ediv_one]; omega
      rw [this]; omega
    · omega
  rw [ec, List.filterMap_map]
  refine filterMap_range _ _ (by simp; omega) fun k hk => ?_
  show xs[((xs.length : Int) - 1 + -1 * (k : Int)).toNat]? = _
  rw [List.getElem?_reverse (by simp; omega), List.getElem?_drop]
  congr 1
  simp; omega
theorem cut_from (xs : List Int) (a : Nat) (h : a ≤ xs.length) : cutL xs (some (a : Int)) none = xs.drop a := by
  unfold cutL
  rw [HT.sIx_nat, HT.sIx_none, Nat.min_eq_left h]
  exact List.take_of_length_le (by simp)
theorem ring_of_ok {P Q : List Int} (hP : 0 < P.length) (hQ : 0 < Q.length) (h0 : P[0]? = Q[0]?) (hl : P.length ≤ 1000) (hl2 : Q.length ≤ 1000) :
    ∃ R, m_ring_of P Q = some R ∧ ∃ a, R = P.drop a ++ (Q.drop (a + 1)).reverse ∧ a < P.length ∧ a < Q.length ∧ P[a]? = Q[a]? ∧ (a + 1 < P.length → a + 1 < Q.length → P[a + 1]? ≠ Q[a + 1]?) := by
  unfold m_ring_of
  refine bind_go rfl ?_
  let I : Int → Prop := fun s => 0 ≤ s ∧ s < P.length ∧ s < Q.length ∧ P[s.toNat]? = Q[s.toNat]?
  let cv : Int → Bool := fun s => decide (s + 1 < min (P.length : Int) (Q.length : Int)) && decide (P[s.toNat + 1]? = Q[s.toNat + 1]?)
  have hc : ∀ s, I s → ((cond (decide ((s + (1 : Int)) < (min ((P).length : Int) ((Q).length : Int)))) ((atI P (s + (1 : Int))).bind fun x_3 => ((atI Q (s + (1 : Int))).bind fun x_4 => some (decide ((x_3 : Int) = x_4)))) (some false)).bind fun q_5 => some q_5) = some (cv s) := fun s ⟨i1, i2, i3, i4⟩ => by
    have hn : (s + 1).toNat = s.toNat + 1 := by omega
    cases hd : decide (s + 1 < min (P.length : Int) (Q.length : Int)) with
    | false => rw [condf rfl]; show some false = some (cv s); simp only [cv, hd, Bool.false_and]
    | true =>
      rw [condt rfl]
      have hd' := of_decide_eq_true hd
      rw [Int.lt_min] at hd'
      obtain ⟨x, e1, e2⟩ := atI_some (xs := P) (i := s + 1) (by omega) hd'.1
      obtain ⟨y, e3, e4⟩ := atI_some (xs := Q) (i := s + 1) (by omega) hd'.2
      rw [e1, bind_ok rfl, e3, bind_ok rfl]
      show some (decide (x = y)) = some (cv s)
      rw [hn] at e2 e4
      simp only [cv, hd, Bool.true_and, e2, e4, Option.some.injEq]
  refine bind_ex (Q := fun s => I s ∧ cv s = false) ?_ (fun s hs => ?_)
  · obtain ⟨s', h1, h2, h3⟩ := whileL_inv (c := fun s_2 => ((cond (decide ((s_2 + (1 : Int)) < (min ((P).length : Int) ((Q).length : Int)))) ((atI P (s_2 + (1 : Int))).bind fun x_3 => ((atI Q (s_2 + (1 : Int))).bind fun x_4 => some (decide ((x_3 : Int) = x_4)))) (some false)).bind fun q_5 => some q_5)) (f := fun s_2 : Int => (some (s_2 + (1 : Int))).bind fun at_7 => some at_7) I (fun s => P.length - s.toNat) (fun s hi => ⟨_, hc s hi⟩) (fun s hi hcs => by
      rw [hc s hi] at hcs
      have hcs := Option.some.inj hcs
      simp only [cv, Bool.and_eq_true] at hcs
      have hd' := of_decide_eq_true hcs.1
      rw [Int.lt_min] at hd'
      obtain ⟨i1, i2, i3, i4⟩ := hi
      have hn : (s + 1).toNat = s.toNat + 1 := by omega
      exact ⟨s + 1, rfl, ⟨by omega, hd'.1, hd'.2, by rw [hn]; exact of_decide_eq_true hcs.2⟩, by rw [hn]; omega⟩) wFuel 0 ⟨by omega, by omega, by omega, h0⟩ (by unfold wFuel; omega)
    exact ⟨s', h1, h2, by rw [hc s' h2] at h3; exact Option.some.inj h3⟩
  · obtain ⟨⟨i1, i2, i3, i4⟩, hcs⟩ := hs
    have es : s = (s.toNat : Int) := by omega
    have e1 : cutL P (some s) none = P.drop s.toNat := by
      rw [es, cut_from _ _ (by omega)]; congr 1
    have e2 : pick3 Q none (some s) (some (-(1 : Int))) = (Q.drop (s.toNat + 1)).reverse := by
      rw [es, pick_back _ _ (by omega)]; congr 2
    rw [e1, e2]
    refine bind_go (catO_ok (by simp; omega)) ⟨_, rfl, s.toNat, rfl, by omega, by omega, i4, fun g1 g2 e => ?_⟩
    have hd : decide (s + 1 < min (P.length : Int) (Q.length : Int)) = true := decide_eq_true (Int.lt_min.mpr ⟨by omega, by omega⟩)
    simp only [cv, hd, Bool.true_and] at hcs
    exact of_decide_eq_false hcs e
end MM

set_option Elab.async false
set_option linter.all false
set_option maxRecDepth 100000
set_option maxHeartbeats 4000000
set_option autoImplicit false
namespace MM
open PySem PySem.Spec PyProof.Rows L2
theorem Lk.walk {ts : Ties} {R : List Int} (h : Lk ts R) {x : Int} (hx : R[0]? = some x) : ∀ (k : Nat) (y : Int), R[k]? = some y → Wlk ts x y k
  | 0, y, hy => by rw [hx] at hy; cases hy; exact .nil _
  | k + 1, y, hy => by
    have hk : k < R.length := by
      have := (List.getElem?_eq_some_iff.mp hy).1
      omega
    exact .snoc (h.walk hx k R[k] (List.getElem?_eq_getElem hk)) (h k _ _ (List.getElem?_eq_getElem hk) hy)
theorem RingOk.no_col {n : Int} {ts : Ties} {R : List Int} (h : RingOk n ts R) (c : Int → Bool) (hc : Col ts c) : False := by
  have hb := h.big
  have e0 := List.getElem?_eq_getElem (show 0 < R.length by omega)
  have e1 := List.getElem?_eq_getElem (show R.length - 1 < R.length by omega)
  have w := hc.walk (h.link.walk e0 _ _ e1)
  have ev : ¬ (R.length - 1) % 2 = 1 := by have := h.odd; omega
  rw [decide_eq_false ev] at w
  have a := h.back _ _ (by rw [List.getLast?_eq_getElem?]; exact e1) (by rw [List.head?_eq_getElem?]; exact e0)
  have := hc.adj a
  rw [w] at this
  simp at this
/-- what sides_of tells -/
def Told (n : Int) (ts : Ties) (x : (Wd × List Int) ⊕ T3 Wd (List Int) (List Int)) : Prop :=
  (∃ R, x = .inl (w_ring, R) ∧ RingOk n ts R) ∨
  ∃ c : Int → Bool, x = .inr ⟨w_sides, (rangeL 0 n).filter c, (rangeL 0 n).filter fun v => !c v⟩ ∧ Col ts c ∧ ∀ r v, 0 ≤ v → v < n → IsRt ts r v → c r = true
theorem sides_of_ok {n : Int} {ts : Ties} (W : Web n ts) : ∃ x, m_sides_of n ts = some x ∧ Told n ts x := by
  have h0 := W.n0; have h1 := W.n1
  obtain ⟨ways, ew, L, tot, _⟩ := ways_ok W
  have plen : ∀ {v p}, aget ways v = some p → p.length ≤ 100 := fun {v p} h => by
    have := nodup_range (L.path h).nodup fun x hx => L.mem h hx
    omega
  let c : Int → Bool := fun v => decide ((((aget ways v).getD []).length : Int) % 2 = 1)
  have hc : ∀ {v p}, aget ways v = some p → c v = decide ((p.length : Int) % 2 = 1) := fun {v p} h => by show decide ((((aget ways v).getD []).length : Int) % 2 = 1) = _; rw [h]; rfl
  unfold m_sides_of
  refine bind_go ew (bind_go (lenO_ok W.len') ?_)
  refine bind_ex (Q := fun res => (res = .nx () ∧ ∀ a ∈ ts, ¬ c a.1 = c a.2) ∨ ∃ R, res = .rt (.inl (w_ring, R)) ∧ RingOk n ts R) ?_ (fun res hres => ?_)
  · have key := forS_first (f := fun (a_4 : (Int × Int)) (s_3 : Unit) => (aget ways a_4.1).bind fun x_5 => (aget ways a_4.2).bind fun x_6 => cond (decide (((((x_5).length : Int) % (2 : Int)) : Int) = (((x_6).length : Int) % (2 : Int)))) ((aget ways a_4.1).bind fun x_7 => (aget ways a_4.2).bind fun x_8 => (m_ring_of x_7 x_8).bind fun c_9 => some (Stp.rt (Sum.inl (w_ring, c_9) : (Wd × List Int) ⊕ T3 Wd (List Int) (List Int)))) (some (.nx ()))) (fun a => c a.1 = c a.2) (fun _ r => ∃ R, r = .inl (w_ring, R) ∧ RingOk n ts R) (xs := ts) fun a ha => by
      have hr := W.ok a ha
      obtain ⟨P, hP⟩ := tot a.1 (by omega) (by omega)
      obtain ⟨Q, hQ⟩ := tot a.2 (by omega) (by omega)
      have lP := plen hP
      have lQ := plen hQ
      have e1 := hc hP
      have e2 := hc hQ
      cases hd : decide (((P.length : Int) % 2) = ((Q.length : Int) % 2)) with
      | false =>
        left
        constructor
        · rw [bind_ok hP, bind_ok hQ, condf hd]
        · rw [e1, e2]
          have := of_decide_eq_false hd
          intro e
          have e' := decide_eq_decide.mp e
          omega
      | true =>
        right
        have hd' := of_decide_eq_true hd
        have hpar : P.length % 2 = Q.length % 2 := by omega
        have p := L.path hP
        have q := L.path hQ
        obtain ⟨r, r1, r2, _⟩ := p.root
        obtain ⟨r', s1, s2, _⟩ := q.root
        have hcon : Conn ts a.1 a.2 := .adj (.inl ha)
        have er := r2.uniq s2 hcon
        subst er
        have p0 : 0 < P.length := by cases P with | nil => simp at r1 | cons _ _ => simp
        have q0 : 0 < Q.length := by cases Q with | nil => simp at s1 | cons _ _ => simp
        obtain ⟨R, eR, k, rfl, k1, k2, k3, k4⟩ := ring_of_ok p0 q0 (by rw [← List.head?_eq_getElem?, ← List.head?_eq_getElem?, r1, s1]) (by omega) (by omega)
        refine ⟨_, ?_, ?_, _, rfl, ring_ok W L hP hQ ha hpar k1 k2 k3 k4⟩
        · rw [bind_ok hP, bind_ok hQ, condt hd, bind_ok hP, bind_ok hQ, bind_ok eR]
        · rw [e1, e2]
          congr 1
          rw [hd']
    rcases key with ⟨k1, k2⟩ | ⟨a, r, _, _, ⟨R, rfl, hR⟩, k4⟩
    · exact ⟨_, k1, .inl ⟨rfl, k2⟩⟩
    · exact ⟨_, k4, .inr ⟨R, rfl, hR⟩⟩
  · rcases hres with ⟨rfl, hn⟩ | ⟨R, rfl, hR⟩
    · dsimp only
      have hr0 : rngO 0 n = some (rangeL 0 n) := rngO_ok (by omega)
      refine bind_go hr0 (bind_go (cmpO_eq c id (fun a ha => ?_) (fun a _ _ => rfl)) (bind_go hr0 (bind_go (cmpO_eq (fun v => !c v) id (fun a ha => ?_) (fun a _ _ => rfl)) ⟨_, rfl, .inr ⟨c, ?_, fun p hp => hn p hp, fun r v hv hv' hr => ?_⟩⟩)))
      · have ha := mem_rangeL.mp ha
        obtain ⟨p, hp⟩ := tot a ha.1 ha.2
        rw [bind_ok hp, hc hp]
      · have ha := mem_rangeL.mp ha
        obtain ⟨p, hp⟩ := tot a ha.1 ha.2
        rw [bind_ok hp, hc hp]
        congr 1
        by_cases h : (p.length : Int) % 2 = 1
        · rw [decide_eq_true h, decide_eq_false (by omega)]; rfl
        · rw [decide_eq_false h, decide_eq_true (by omega)]; rfl
      · rw [List.map_id, List.map_id]
      · have hrr : 0 ≤ r ∧ r < n := by
          obtain ⟨k, w⟩ := hr.1.symm
          exact w.range W ⟨hv, hv'⟩
        obtain ⟨p, hp⟩ := tot r hrr.1 hrr.2
        obtain ⟨r', q1, q2, _⟩ := (L.path hp).root
        have e : r' = r := q2.uniq ⟨.refl r, hr.2⟩ (.refl r)
        subst e
        have p0 : 0 < p.length := by cases p with | nil => simp at q1 | cons _ _ => simp
        obtain ⟨u, g1, g2⟩ := (L.path hp).tree 0 p0
        rw [← List.head?_eq_getElem?, q1] at g1
        cases g1
        rw [hc g2]
        refine decide_eq_true ?_
        have : (p.take (0 + 1)).length = 1 := by rw [List.length_take]; omega
        rw [this]; rfl
    · exact ⟨_, rfl, .inl ⟨R, rfl, hR⟩⟩
/-! ## the law's own parts -/
theorem law_joined_iff {ts : Ties} {i j : Int} : v__law_joined ts i j = true ↔ Adj ts i j := by
  unfold v__law_joined Adj
  rw [Bool.or_eq_true, inB_iff, inB_iff]
theorem beside_ok {n : Int} {ts : Ties} (W : Web n ts) (i : Int) : ∃ xs, m__law_beside n ts i = some xs ∧ (∀ x, x ∈ xs ↔ Adj ts i x) ∧ xs.length ≤ 1000 := by
  have h0 := W.n0; have h1 := W.n1
  unfold m__law_beside
  refine bind_go (rngO_ok (by omega)) ⟨_, rfl, fun x => ?_, ?_⟩
  · rw [List.map_id'', List.mem_filter, law_joined_iff, mem_rangeL]
    · exact ⟨fun h => h.2, fun h => ⟨(W.adj h).2.1, h⟩⟩
    · intro _; rfl
  · rw [List.length_map]
    have := List.length_filter_le (fun a => v__law_joined ts i a) (rangeL 0 n)
    rw [rangeL_len] at this
    omega
theorem atI_of {α : Type} {xs : List α} {n v : Int} (hl : xs.length = n.toNat) (h0 : 0 ≤ v) (h1 : v < n) : ∃ a, atI xs v = some a ∧ xs[v.toNat]? = some a := atI_some h0 (by omega)
theorem law_parts_ok {n : Int} {ts : Ties} (W : Web n ts) : ∃ ps, m__law_parts n ts = some ps ∧ PartsOk n ts ps ∧ ps.length ≤ 1000 := by
  have h0 := W.n0; have h1 := W.n1
  have hr0 : rngO 0 n = some (rangeL 0 n) := rngO_ok (by omega)
  unfold m__law_parts
  refine bind_go hr0 (bind_go rfl (bind_go (lenO_ok W.len') ?_))
  -- the names
  let N : Ties → List Int → Prop := fun d names => names.length = n.toNat ∧ (∀ (k l : Nat) (x : Int), names[k]? = some x → names[l]? = some x → Conn ts (k : Int) (l : Int)) ∧ ∀ p ∈ d, names[p.1.toNat]? = names[p.2.toNat]?
  refine bind_ex (Q := N ts) (forL_inv N ⟨?_, fun k l x hk hl => ?_, fun p hp => by simp at hp⟩ (fun d a names he hN => ?_)) (fun names hN => ?_)
  · rw [List.length_map, rangeL_len]; omega
  · rw [List.map_id'] at hk hl
    have k1 := (List.getElem?_eq_some_iff.mp hk).1
    have l1 := (List.getElem?_eq_some_iff.mp hl).1
    rw [rangeL_len] at k1 l1
    rw [range_get (by omega)] at hk hl
    cases hk
    have := Option.some.inj hl
    rw [this]; exact .refl _
  · obtain ⟨t, he⟩ := he
    obtain ⟨n1, n2, n3⟩ := hN
    have ha := W.ok a (by rw [he]; simp)
    obtain ⟨x, ex, ex'⟩ := atI_of n1 ha.1 (by omega)
    obtain ⟨y, ey, ey'⟩ := atI_of n1 (show 0 ≤ a.2 by omega) (by omega)
    refine bind_go ex (bind_go ey (bind_go (lenO_ok (by omega)) ?_))
    have hcm : cmpO (fun (a_10 : Int) => some true) (fun a_10 => ((atI ([a_10, x] : (List Int)) (b2I (decide ((a_10 : Int) = y)))).bind fun x_11 => some x_11)) names = some ((names.filter fun _ => true).map fun z => if z = y then x else z) := by
      refine cmpO_eq (fun _ => true) (fun z => if z = y then x else z) (fun _ _ => rfl) fun z _ _ => ?_
      by_cases h : z = y
      · rw [decide_eq_true h, if_pos h]; rfl
      · rw [decide_eq_false h, if_neg h]; rfl
    refine bind_go hcm ⟨_, rfl, ?_⟩
    rw [List.filter_eq_self.mpr (fun _ _ => rfl)]
    have get : ∀ k, (names.map fun z => if z = y then x else z)[k]? = (names[k]?).map fun z => if z = y then x else z := fun k => List.getElem?_map
    have hca : Conn ts a.1 a.2 := .adj (.inl (by rw [he]; simp))
    have ca1 : ((a.1.toNat : Nat) : Int) = a.1 := by omega
    have ca2 : ((a.2.toNat : Nat) : Int) = a.2 := by omega
    have toy : ∀ {k : Nat}, names[k]? = some y → Conn ts (k : Int) a.2 := fun {k} h => by have := n2 k _ y h ey'; rwa [ca2] at this
    have tox : ∀ {k : Nat}, names[k]? = some x → Conn ts (k : Int) a.1 := fun {k} h => by have := n2 k _ x h ex'; rwa [ca1] at this
    refine ⟨by rw [List.length_map]; exact n1, fun k l z hk hl => ?_, fun p hp => ?_⟩
    · rw [get] at hk hl
      cases hk' : names[k]? with
      | none => rw [hk'] at hk; cases hk
      | some zk =>
        cases hl' : names[l]? with
        | none => rw [hl'] at hl; cases hl
        | some zl =>
          rw [hk'] at hk; rw [hl'] at hl
          have hk := Option.some.inj hk
          have hl := Option.some.inj hl
          dsimp only at hk hl
          by_cases c1 : zk = y
          · subst c1
            rw [if_pos rfl] at hk
            subst hk
            by_cases c2 : zl = zk
            · subst c2; exact n2 k l _ hk' hl'
            · rw [if_neg c2] at hl
              subst hl
              exact ((toy hk').trans hca.symm).trans (tox hl').symm
          · rw [if_neg c1] at hk
            subst hk
            by_cases c2 : zl = y
            · subst c2
              rw [if_pos rfl] at hl
              subst hl
              exact ((tox hk').trans hca).trans (toy hl').symm
            · rw [if_neg c2] at hl
              subst hl
              exact n2 k l _ hk' hl'
    · rw [get, get]
      rcases List.mem_append.mp hp with hp | hp
      · rw [n3 p hp]
      · have : p = a := by simpa using hp
        subst this
        rw [ex', ey']
        show some (if x = y then x else x) = some (if y = y then x else y)
        rw [if_pos rfl]; split <;> rfl
  · -- the parts
    obtain ⟨n1, n2, n3⟩ := hN
    have same : ∀ {u v : Int}, 0 ≤ u → u < n → Conn ts u v → names[u.toNat]? = names[v.toNat]? := fun {u v} hu hu' h =>
      (h.spread (P := fun z => names[u.toNat]? = names[z.toNat]?) rfl fun z w hz ha => by
        rw [hz]
        rcases ha with ha | ha
        · exact n3 _ ha
        · exact (n3 _ ha).symm)
    have cls : ∀ {u v : Int}, 0 ≤ u → u < n → 0 ≤ v → v < n → (names[v.toNat]? = names[u.toNat]? ↔ Conn ts u v) := fun {u v} hu hu' hv hv' => by
      refine ⟨fun h => ?_, fun h => (same hu hu' h).symm⟩
      obtain ⟨x, _, ex⟩ := atI_of n1 hu hu'
      have := n2 u.toNat v.toNat x ex (by rw [h]; exact ex)
      have c1 : ((u.toNat : Nat) : Int) = u := by omega
      have c2 : ((v.toNat : Nat) : Int) = v := by omega
      rwa [c1, c2] at this
    have hcm : ∀ {u : Int}, 0 ≤ u → u < n → cmpO (fun (a_19 : Int) => ((atI names a_19).bind fun x_20 => ((atI names u).bind fun x_21 => some (decide ((x_20 : Int) = x_21))))) (fun a_19 => some a_19) (rangeL 0 n) = some ((rangeL 0 n).filter fun v => decide (names[v.toNat]? = names[u.toNat]?)) := fun {u} hu hu' => by
      have := cmpO_eq (p := fun (a_19 : Int) => ((atI names a_19).bind fun x_20 => ((atI names u).bind fun x_21 => some (decide ((x_20 : Int) = x_21))))) (f := fun a_19 : Int => some a_19) (fun v => decide (names[v.toNat]? = names[u.toNat]?)) id (xs := rangeL 0 n) (fun v hv => by
        have hv := mem_rangeL.mp hv
        obtain ⟨x, e1, e2⟩ := atI_of n1 hv.1 hv.2
        obtain ⟨y, e3, e4⟩ := atI_of n1 hu hu'
        rw [bind_ok e1, bind_ok e3, e2, e4]
        simp only [Option.some.injEq]) (fun _ _ _ => rfl)
      rw [List.map_id] at this
      exact this
    let pt : Int → List Int := fun u => (rangeL 0 n).filter fun v => decide (names[v.toNat]? = names[u.toNat]?)
    have good : ∀ {u : Int}, 0 ≤ u → u < n → GoodP n ts (pt u) := fun {u} hu hu' => by
      refine ⟨u, ⟨hu, hu'⟩, lt_le_pw ((rangeL_lt 0 n).sublist List.filter_sublist), fun x => ?_, ?_⟩
      · rw [List.mem_filter, mem_rangeL]
        constructor
        · rintro ⟨hx, h⟩
          exact (cls hu hu' hx.1 hx.2).mp (of_decide_eq_true h)
        · intro h
          have hx : 0 ≤ x ∧ x < n := by obtain ⟨k, w⟩ := h; exact w.range W ⟨hu, hu'⟩
          exact ⟨hx, decide_eq_true ((cls hu hu' hx.1 hx.2).mpr h)⟩
      · have := List.length_filter_le (fun v : Int => decide (names[v.toNat]? = names[u.toNat]?)) (rangeL 0 n)
        rw [rangeL_len] at this
        show ((rangeL 0 n).filter _).length ≤ 1000
        omega
    refine bind_go rfl (bind_go hr0 ?_)
    refine bind_ex (Q := fun s => ((∀ p ∈ s, GoodP n ts p) ∧ s.Pairwise (fun p q => ∀ x ∈ p, x ∉ q) ∧ (∀ p ∈ s, ∃ u ∈ rangeL 0 n, p.head? = some u) ∧ (∀ v ∈ rangeL 0 n, ∃ p ∈ s, v ∈ p)) ∧ s.length ≤ (rangeL 0 n).length)
      (forL_inv (fun (d : List Int) (s : List (List Int)) => ((∀ p ∈ s, GoodP n ts p) ∧ s.Pairwise (fun p q => ∀ x ∈ p, x ∉ q) ∧ (∀ p ∈ s, ∃ u ∈ d, p.head? = some u) ∧ (∀ v ∈ d, ∃ p ∈ s, v ∈ p)) ∧ s.length ≤ d.length) ⟨⟨by simp, by simp, by simp, by simp⟩, by simp⟩ (fun d a s he hs => ?_)) (fun s hs => ?_)
    · obtain ⟨t, he⟩ := he
      obtain ⟨⟨s1, s2, s3, s4⟩, s5⟩ := hs
      have ha : 0 ≤ a ∧ a < n := mem_rangeL.mp (by rw [he]; simp)
      have hd : d.length ≤ 100 := by
        have := congrArg List.length he
        rw [rangeL_len, List.length_append] at this
        omega
      have hdlt : ∀ u ∈ d, u < a := fun u hu => by
        have := rangeL_lt 0 n
        rw [he, List.pairwise_append] at this
        exact this.2.2 u hu a List.mem_cons_self
      have hdge : ∀ u, 0 ≤ u → u < a → u ∈ d := fun u hu hua => by
        have hm : u ∈ d ++ a :: t := by rw [← he]; exact mem_rangeL.mpr ⟨hu, by omega⟩
        rcases List.mem_append.mp hm with h | h
        · exact h
        · exfalso
          have pw := rangeL_lt 0 n
          rw [he, List.pairwise_append, List.pairwise_cons] at pw
          rcases List.mem_cons.mp h with h | h
          · omega
          · have := pw.2.1.1 u h; omega
      have ga := good ha.1 ha.2
      have hap : a ∈ pt a := by
        obtain ⟨pl, _, _, hm, _⟩ := ga
        have : a ∈ pt a := List.mem_filter.mpr ⟨mem_rangeL.mpr ha, decide_eq_true rfl⟩
        exact this
      obtain ⟨r, tl, epr, hr, rt, hm⟩ := ga.head W
      refine bind_go hr0 (bind_go (hcm ha.1 ha.2) ?_)
      have hat : atI (pt a) 0 = some r := by rw [epr]; exact atI_zero
      refine bind_go hat ?_
      have hra : r ≤ a := rt.2 a ((hm a).mp hap)
      have drng : ∀ {v : Int}, v ∈ d ++ [a] → v ∈ d ∨ v = a := fun h => by simpa using h
      cases hd2 : decide (a = r) with
      | false =>
        have hne := of_decide_eq_false hd2
        have hrd : r ∈ d := hdge r hr.1 (by omega)
        rw [condf rfl]
        refine ⟨_, rfl, ⟨s1, s2, fun p hp => ?_, fun v hv => ?_⟩, by rw [List.length_append]; omega⟩
        · obtain ⟨u, hu, e⟩ := s3 p hp
          exact ⟨u, List.mem_append_left _ hu, e⟩
        · rcases drng hv with hv | rfl
          · exact s4 v hv
          · obtain ⟨q, hq, hrq⟩ := s4 r hrd
            exact ⟨q, hq, ga.disj (s1 q hq) (show r ∈ pt v by rw [epr]; simp) hrq hap⟩
      | true =>
        have heq := of_decide_eq_true hd2
        rw [condt rfl]
        refine bind_go hr0 (bind_go (hcm ha.1 ha.2) (bind_go (appO_ok (by omega)) ⟨_, rfl, ⟨fun p hp => ?_, ?_, fun p hp => ?_, fun v hv => ?_⟩, by rw [List.length_append, List.length_append]; simp; omega⟩))
        · rcases List.mem_append.mp hp with hp | hp
          · exact s1 p hp
          · have : p = pt a := by simpa using hp
            rw [this]; exact ga
        · rw [List.pairwise_append]
          refine ⟨s2, by simp, fun p hp q hq x hx hx' => ?_⟩
          have : q = pt a := by simpa using hq
          subst this
          obtain ⟨u, hu, e⟩ := s3 p hp
          have hpu : u ∈ p := by cases p with | nil => simp at e | cons b p => simp at e; subst e; simp
          have hux : u ∈ pt a := (s1 p hp).disj ga hx hx' hpu
          have : r ≤ u := rt.2 u ((hm u).mp hux)
          have := hdlt u hu
          omega
        · rcases List.mem_append.mp hp with hp | hp
          · obtain ⟨u, hu, e⟩ := s3 p hp
            exact ⟨u, List.mem_append_left _ hu, e⟩
          · have : p = pt a := by simpa using hp
            subst this
            exact ⟨a, by simp, by rw [epr, heq]; rfl⟩
        · rcases drng hv with hv | rfl
          · obtain ⟨p, hp, h⟩ := s4 v hv
            exact ⟨p, List.mem_append_left _ hp, h⟩
          · exact ⟨pt v, List.mem_append_right _ (by simp [pt]), hap⟩
    · obtain ⟨⟨s1, s2, s3, s4⟩, s5⟩ := hs
      rw [rangeL_len] at s5
      exact ⟨_, rfl, ⟨s1, s2, fun v hv hv' => s4 v (mem_rangeL.mpr ⟨hv, hv'⟩)⟩, by omega⟩
end MM

set_option Elab.async false
set_option linter.all false
set_option maxRecDepth 100000
set_option maxHeartbeats 4000000
set_option autoImplicit false
namespace MM
open PySem PySem.Spec PyProof.Rows L2
abbrev Far := List (Option Int)
def fv (far : Far) (v : Int) : Option Int := (far[v.toNat]?).join
theorem fv_atI {far : Far} {n v : Int} (hl : far.length = n.toNat) (h0 : 0 ≤ v) (h1 : v < n) : atI far v = some (fv far v) := by
  obtain ⟨a, e1, e2⟩ := atI_of hl h0 h1
  rw [e1]; unfold fv; rw [e2]; rfl
theorem fv_set {far : Far} {n v u : Int} {x : Option Int} (hl : far.length = n.toNat) (h0 : 0 ≤ v) (h1 : v < n) (g0 : 0 ≤ u) (g1 : u < n) : fv (far.set u.toNat x) v = if v = u then x else fv far v := by
  unfold fv
  rw [List.getElem?_set]
  by_cases e : v = u
  · subst e; rw [if_pos rfl, if_pos rfl, if_pos (by omega)]; rfl
  · rw [if_neg e, if_neg (by omega)]
def Sound (n : Int) (ts : Ties) (far : Far) : Prop := far.length = n.toNat ∧ ∀ v d, 0 ≤ v → v < n → fv far v = some d → 0 ≤ d ∧ ∃ r, IsRt ts r v ∧ Wlk ts r v d.toNat
def Ext (n : Int) (ts : Ties) (r s : Int) (f g : Far) : Prop := Sound n ts g ∧ ∀ v, 0 ≤ v → v < n → fv g v = fv f v ∨ (fv f v = none ∧ fv g v = some (s + 1) ∧ Conn ts r v)
theorem Ext.refl {n : Int} {ts : Ties} {r s : Int} {f : Far} (h : Sound n ts f) : Ext n ts r s f f := ⟨h, fun v _ _ => .inl rfl⟩
theorem Ext.trans {n : Int} {ts : Ties} {r s : Int} {f g h : Far} (a : Ext n ts r s f g) (b : Ext n ts r s g h) : Ext n ts r s f h := ⟨b.1, fun v h0 h1 => by
  rcases b.2 v h0 h1 with e | ⟨e1, e2, e3⟩
  · rw [e]; exact a.2 v h0 h1
  · rcases a.2 v h0 h1 with g1 | ⟨g1, g2, _⟩
    · exact .inr ⟨by rw [← g1]; exact e1, e2, e3⟩
    · rw [e1] at g2; cases g2⟩
theorem Ext.keep {n : Int} {ts : Ties} {r s : Int} {f g : Far} (a : Ext n ts r s f g) {v : Int} (h0 : 0 ≤ v) (h1 : v < n) (h : fv f v ≠ none) : fv g v = fv f v := by
  rcases a.2 v h0 h1 with e | ⟨e, _⟩
  · exact e
  · exact absurd e h
theorem Sound.put {n : Int} {ts : Ties} {far : Far} (h : Sound n ts far) {u d r : Int} (h0 : 0 ≤ u) (h1 : u < n) (hd : 0 ≤ d) (hr : IsRt ts r u) (hw : Wlk ts r u d.toNat) : Sound n ts (far.set u.toNat (some d)) :=
  ⟨by rw [List.length_set]; exact h.1, fun v e v0 v1 hv => by
    rw [fv_set h.1 v0 v1 h0 h1] at hv
    split at hv
    · rename_i e'; subst e'; cases hv; exact ⟨hd, r, hr, hw⟩
    · exact h.2 v e v0 v1 hv⟩
/-- a place's neighbours -/
theorem far_nb {n : Int} {ts : Ties} (W : Web n ts) {r s u : Int} (hs : 0 ≤ s) (hr : IsRt ts r u) (hw : Wlk ts r u s.toNat) {nb : List Int} (hnb : ∀ x, x ∈ nb ↔ Adj ts u x) {f : Far} (hf : Sound n ts f) :
    ∃ g, forL (fun (a_20 : Int) (s_19 : Far) => (atI s_19 a_20).bind fun x_21 => cond (!(x_21).isSome) ((setO s_19 a_20 (some (s + (1 : Int)))).bind fun far_22 => some far_22) (some s_19)) nb f = some g ∧ Ext n ts r s f g ∧ ∀ w ∈ nb, fv g w ≠ none := by
  refine forL_inv (fun d g => Ext n ts r s f g ∧ ∀ w ∈ d, fv g w ≠ none) ⟨.refl hf, by simp⟩ fun d a g he hg => ?_
  obtain ⟨t, he⟩ := he
  obtain ⟨g1, g2⟩ := hg
  have hadj : Adj ts u a := (hnb a).mp (by rw [he]; simp)
  have ha := (W.adj hadj).2.1
  refine bind_go (fv_atI g1.1.1 ha.1 ha.2) ?_
  cases hx : fv g a with
  | some z =>
    rw [condf (by simp)]
    refine ⟨_, rfl, g1, fun w hw => ?_⟩
    rcases List.mem_append.mp hw with hw | hw
    · exact g2 w hw
    · have : w = a := by simpa using hw
      subst this; rw [hx]; simp
  | none =>
    rw [condt (by simp)]
    have hra : IsRt ts r a := ⟨hr.1.trans (.adj hadj), hr.2⟩
    have hwa : Wlk ts r a (s + 1).toNat := by
      have := hw.snoc hadj
      have e : s.toNat + 1 = (s + 1).toNat := by omega
      rwa [e] at this
    have sg := g1.1.put ha.1 ha.2 (show 0 ≤ s + 1 by omega) hra hwa
    refine bind_go (setO_ok ha.1 (by rw [g1.1.1]; omega)) ⟨_, rfl, g1.trans ⟨sg, fun v v0 v1 => ?_⟩, fun w hw => ?_⟩
    · rw [fv_set g1.1.1 v0 v1 ha.1 ha.2]
      split
      · rename_i e; subst e; exact .inr ⟨hx, rfl, hra.1⟩
      · exact .inl rfl
    · have hwr : 0 ≤ w ∧ w < n := by
        have : w ∈ nb := by
          rw [he]
          rcases List.mem_append.mp hw with h | h
          · exact List.mem_append_left _ h
          · exact List.mem_append_right _ (by have : w = a := by simpa using h
                                              subst this; simp)
        exact (W.adj ((hnb w).mp this)).2.1
      rw [fv_set g1.1.1 hwr.1 hwr.2 ha.1 ha.2]
      split
      · simp
      · rename_i e
        rcases List.mem_append.mp hw with hw | hw
        · exact g2 w hw
        · exact absurd (by simpa using hw) e
/-- one step over a part -/
theorem far_step {n : Int} {ts : Ties} (W : Web n ts) {r s : Int} (hs : 0 ≤ s) (hrr : 0 ≤ r ∧ r < n) (rt : IsRt ts r r) {p : List Int} (hp : ∀ x, x ∈ p ↔ Conn ts r x) {f : Far} (hf : Sound n ts f) :
    ∃ g, forL (fun (a_15 : Int) (s_14 : Far) => (atI s_14 a_15).bind fun x_16 => cond (decide ((x_16 : (Option Int)) = (some s))) ((m__law_beside n ts a_15).bind fun c_17 => (lenO c_17).bind fun u_18 => (forL (fun (a_20 : Int) (s_19 : Far) => (atI s_19 a_20).bind fun x_21 => cond (!(x_21).isSome) ((setO s_19 a_20 (some (s + (1 : Int)))).bind fun far_22 => some far_22) (some s_19)) (c_17) s_14).bind fun r_23 => some r_23) (some s_14)) p f = some g ∧
      Ext n ts r s f g ∧ ∀ u ∈ p, fv f u = some s → ∀ w, Adj ts u w → fv g w ≠ none := by
  refine forL_inv (fun d g => Ext n ts r s f g ∧ ∀ u ∈ d, fv f u = some s → ∀ w, Adj ts u w → fv g w ≠ none) ⟨.refl hf, by simp⟩ fun d u g he hg => ?_
  obtain ⟨t, he⟩ := he
  obtain ⟨g1, g2⟩ := hg
  have hcu : Conn ts r u := (hp u).mp (by rw [he]; simp)
  have hu : 0 ≤ u ∧ u < n := by obtain ⟨k, w⟩ := hcu; exact w.range W hrr
  refine bind_go (fv_atI g1.1.1 hu.1 hu.2) ?_
  have split' : ∀ {g' : Far}, (∀ v ∈ d, fv f v = some s → ∀ w, Adj ts v w → fv g' w ≠ none) → (fv f u = some s → ∀ w, Adj ts u w → fv g' w ≠ none) → ∀ v ∈ d ++ [u], fv f v = some s → ∀ w, Adj ts v w → fv g' w ≠ none := fun {g'} h1 h2 v hv => by
    rcases List.mem_append.mp hv with hv | hv
    · exact h1 v hv
    · have : v = u := by simpa using hv
      subst this; exact h2
  cases hd : decide (fv g u = some s) with
  | false =>
    have hne := of_decide_eq_false hd
    rw [condf rfl]
    refine ⟨_, rfl, g1, split' g2 fun hfu => ?_⟩
    exfalso
    have := g1.keep hu.1 hu.2 (by rw [hfu]; simp)
    rw [hfu] at this
    exact hne this
  | true =>
    have heq := of_decide_eq_true hd
    rw [condt rfl]
    obtain ⟨nb, enb, mnb, lnb⟩ := beside_ok W u
    obtain ⟨_, r', hr', hw'⟩ := g1.1.2 u s hu.1 hu.2 heq
    have e : r' = r := hr'.uniq rt hcu.symm
    subst e
    obtain ⟨g', eg, x1, x2⟩ := far_nb W hs hr' hw' mnb g1.1
    refine bind_go enb (bind_go (lenO_ok (by omega)) (bind_go eg ⟨_, rfl, g1.trans x1, split' (fun v hv hfv w hw => ?_) fun _ w hw => x2 w ((mnb w).mpr hw)⟩))
    have hwr := (W.adj hw).2.1
    rw [x1.keep hwr.1 hwr.2 (g2 v hv hfv w hw)]
    exact g2 v hv hfv w hw
/-- all steps of a part -/
theorem far_part {n : Int} {ts : Ties} (W : Web n ts) {r : Int} (hrr : 0 ≤ r ∧ r < n) (rt : IsRt ts r r) {p : List Int} (hp : ∀ x, x ∈ p ↔ Conn ts r x) (hpl : p.length ≤ 1000) {f : Far} (hf : Sound n ts f) (hnone : ∀ v, 0 ≤ v → v < n → Conn ts r v → fv f v = none) :
    ∃ g, forL (fun (a_12 : Int) (s_11 : Far) => (lenO p).bind fun u_13 => (forL (fun (a_15 : Int) (s_14 : Far) => (atI s_14 a_15).bind fun x_16 => cond (decide ((x_16 : (Option Int)) = (some a_12))) ((m__law_beside n ts a_15).bind fun c_17 => (lenO c_17).bind fun u_18 => (forL (fun (a_20 : Int) (s_19 : Far) => (atI s_19 a_20).bind fun x_21 => cond (!(x_21).isSome) ((setO s_19 a_20 (some (a_12 + (1 : Int)))).bind fun far_22 => some far_22) (some s_19)) (c_17) s_14).bind fun r_23 => some r_23) (some s_14)) (p) s_11).bind fun r_25 => some r_25) (rangeL 0 n) (f.set r.toNat (some 0)) = some g ∧
      Sound n ts g ∧ (∀ v, 0 ≤ v → v < n → ¬ Conn ts r v → fv g v = fv f v) ∧ ∀ v k, Wlk ts r v k → k ≤ n.toNat → fv g v ≠ none := by
  have s0 := hf.put hrr.1 hrr.2 (Int.le_refl 0) rt (.nil r)
  have f0 : ∀ v, 0 ≤ v → v < n → fv (f.set r.toNat (some 0)) v = if v = r then some 0 else fv f v := fun v v0 v1 => fv_set hf.1 v0 v1 hrr.1 hrr.2
  have inr : ∀ {v}, Conn ts r v → 0 ≤ v ∧ v < n := fun {v} h => by obtain ⟨k, w⟩ := h; exact w.range W hrr
  have key := forL_inv (f := fun (a_12 : Int) (s_11 : Far) => (lenO p).bind fun u_13 => (forL (fun (a_15 : Int) (s_14 : Far) => (atI s_14 a_15).bind fun x_16 => cond (decide ((x_16 : (Option Int)) = (some a_12))) ((m__law_beside n ts a_15).bind fun c_17 => (lenO c_17).bind fun u_18 => (forL (fun (a_20 : Int) (s_19 : Far) => (atI s_19 a_20).bind fun x_21 => cond (!(x_21).isSome) ((setO s_19 a_20 (some (a_12 + (1 : Int)))).bind fun far_22 => some far_22) (some s_19)) (c_17) s_14).bind fun r_23 => some r_23) (some s_14)) (p) s_11).bind fun r_25 => some r_25)
    (fun (d : List Int) (g : Far) => Sound n ts g ∧ (∀ v, 0 ≤ v → v < n → ¬ Conn ts r v → fv g v = fv f v) ∧ (∀ v, Conn ts r v → ∀ e, fv g v = some e → e ≤ (d.length : Int)) ∧ ∀ v k, Wlk ts r v k → k ≤ d.length → fv g v ≠ none)
    (xs := rangeL 0 n) (s := f.set r.toNat (some 0)) ⟨s0, fun v v0 v1 hc => ?_, fun v hc e he => ?_, fun v k hw hk => ?_⟩ (fun d s g he hg => ?_)
  · obtain ⟨g, e, g1, g2, g3, g4⟩ := key
    refine ⟨g, e, g1, g2, fun v k hw hk => g4 v k hw ?_⟩
    rw [rangeL_len]; omega
  · rw [f0 v v0 v1, if_neg]
    intro e; subst e; exact hc (.refl _)
  · have hv := inr hc
    rw [f0 v hv.1 hv.2] at he
    split at he
    · cases he; simp
    · rw [hnone v hv.1 hv.2 hc] at he; cases he
  · have : k = 0 := by simpa using hk
    subst this
    cases hw
    rw [f0 r hrr.1 hrr.2, if_pos rfl]; simp
  · obtain ⟨t, he⟩ := he
    obtain ⟨g1, g2, g3, g4⟩ := hg
    have hs : s = (d.length : Int) := by
      have h1 : (rangeL 0 n)[d.length]? = some s := by rw [he]; simp
      have h2 : d.length < (rangeL 0 n).length := by rw [he]; simp
      rw [rangeL_len] at h2
      rw [range_get (by omega)] at h1
      exact (Option.some.inj h1).symm
    subst hs
    obtain ⟨g', eg, x1, x2⟩ := far_step W (s := (d.length : Int)) (by omega) hrr rt hp g1
    refine bind_go (lenO_ok (by omega)) (bind_go eg ⟨_, rfl, x1.1, fun v v0 v1 hc => ?_, fun v hc e he' => ?_, fun v k hw hk => ?_⟩)
    · rcases x1.2 v v0 v1 with e | ⟨_, _, e⟩
      · rw [e]; exact g2 v v0 v1 hc
      · exact absurd e hc
    · have hv := inr hc
      rw [List.length_append]
      rcases x1.2 v hv.1 hv.2 with e' | ⟨_, e', _⟩
      · rw [e'] at he'
        have := g3 v hc e he'
        simp; omega
      · rw [e'] at he'
        cases he'; simp
    · rw [List.length_append] at hk
      have hk : k ≤ d.length + 1 := hk
      have hv := inr ⟨k, hw⟩
      by_cases hkd : k ≤ d.length
      · rw [x1.keep hv.1 hv.2 (g4 v k hw hkd)]
        exact g4 v k hw hkd
      · have hk2 : k = d.length + 1 := by omega
        subst hk2
        cases hw with
        | snoc w a =>
          rename_i u
          have hcu : Conn ts r u := ⟨_, w⟩
          have hu := inr hcu
          have hne := g4 u _ w (Nat.le_refl _)
          cases hfu : fv g u with
          | none => exact absurd hfu hne
          | some e =>
            have hle := g3 u hcu e hfu
            obtain ⟨he0, r', hr', hw'⟩ := g1.2 u e hu.1 hu.2 hfu
            have er : r' = r := hr'.uniq rt hcu.symm
            subst er
            by_cases hes : e = (d.length : Int)
            · exact x2 u ((hp u).mpr hcu) (by rw [hfu, hes]) v a
            · have := g4 v _ (hw'.snoc a) (by omega)
              rw [x1.keep hv.1 hv.2 this]
              exact this
theorem short_walk {n : Int} {ts : Ties} (W : Web n ts) {r v : Int} (hv : 0 ≤ v ∧ v < n) (hr : IsRt ts r v) : ∃ k, Wlk ts r v k ∧ k ≤ n.toNat := by
  obtain ⟨ways, _, L, tot, _⟩ := ways_ok W
  obtain ⟨p, hp⟩ := tot v hv.1 hv.2
  obtain ⟨r', _, h2, h3⟩ := (L.path hp).root
  have e := h2.uniq hr (.refl v)
  subst e
  have := nodup_range (L.path hp).nodup fun x hx => L.mem hp hx
  exact ⟨_, h3, by omega⟩
theorem law_sides_ok {n : Int} {ts : Ties} (W : Web n ts) : ∃ c : Int → Int, (∀ v, 0 ≤ v → v < n → 0 ≤ c v ∧ ∃ r, IsRt ts r v ∧ Wlk ts r v (c v).toNat) ∧
    m__law_sides n ts = some (cond (decide (0 < (ts.filter fun p => decide ((c p.1 + c p.2) % 2 = 0)).length)) none (some [(rangeL 0 n).filter fun v => decide (c v % 2 = 0), (rangeL 0 n).filter fun v => !decide (c v % 2 = 0)])) := by
  have h0 := W.n0; have h1 := W.n1
  have hr0 : rngO 0 n = some (rangeL 0 n) := rngO_ok (by omega)
  obtain ⟨ps, eps, ⟨pg, pd, pc⟩, pl⟩ := law_parts_ok W
  suffices h : ∃ res, m__law_sides n ts = some res ∧ ∃ c : Int → Int, (∀ v, 0 ≤ v → v < n → 0 ≤ c v ∧ ∃ r, IsRt ts r v ∧ Wlk ts r v (c v).toNat) ∧
      res = cond (decide (0 < (ts.filter fun p => decide ((c p.1 + c p.2) % 2 = 0)).length)) none (some [(rangeL 0 n).filter fun v => decide (c v % 2 = 0), (rangeL 0 n).filter fun v => !decide (c v % 2 = 0)]) by
    obtain ⟨res, e, c, hc, er⟩ := h
    exact ⟨c, hc, by rw [e, er]⟩
  unfold m__law_sides
  refine bind_go hr0 (bind_go rfl (bind_go eps (bind_go (lenO_ok (by omega)) ?_)))
  refine bind_ex (Q := fun g => Sound n ts g ∧ ∀ v, 0 ≤ v → v < n → fv g v ≠ none) ?_ (fun g hg => ?_)
  · have key := forL_inv (f := fun (a_7 : (List Int)) (s_6 : (List (Option Int))) => (atI a_7 (0 : Int)).bind fun x_8 => (setO s_6 x_8 (some (0 : Int))).bind fun far_9 => (rngO 0 n).bind fun r_10 => (forL (fun (a_12 : Int) (s_11 : (List (Option Int))) => (lenO a_7).bind fun u_13 => (forL (fun (a_15 : Int) (s_14 : (List (Option Int))) => (atI s_14 a_15).bind fun x_16 => cond (decide ((x_16 : (Option Int)) = (some a_12))) ((m__law_beside n ts a_15).bind fun c_17 => (lenO c_17).bind fun u_18 => (forL (fun (a_20 : Int) (s_19 : (List (Option Int))) => (atI s_19 a_20).bind fun x_21 => cond (!(x_21).isSome) ((setO s_19 a_20 (some (a_12 + (1 : Int)))).bind fun far_22 => some far_22) (some s_19)) (c_17) s_14).bind fun r_23 => some r_23) (some s_14)) (a_7) s_11).bind fun r_25 => some r_25) (r_10) far_9).bind fun r_27 => some r_27)
      (fun (d : List (List Int)) (g : Far) => Sound n ts g ∧ (∀ p ∈ d, ∀ v ∈ p, fv g v ≠ none) ∧ ∀ v, 0 ≤ v → v < n → fv g v ≠ none → ∃ p ∈ d, v ∈ p)
      (xs := ps) (s := (rangeL 0 n).map fun _ => (none : Option Int)) ⟨⟨by rw [List.length_map, rangeL_len]; omega, fun v d v0 v1 hv => ?_⟩, by simp, fun v v0 v1 hv => ?_⟩ (fun d a g he hg => ?_)
    · obtain ⟨g, e, g1, g2, g3⟩ := key
      refine ⟨g, e, g1, fun v v0 v1 => ?_⟩
      obtain ⟨p, hp, hv⟩ := pc v v0 v1
      exact g2 p hp v hv
    · unfold fv at hv
      rw [List.getElem?_map] at hv
      cases hh : (rangeL 0 n)[v.toNat]? with
      | none => rw [hh] at hv; cases hv
      | some z => rw [hh] at hv; cases hv
    · unfold fv at hv
      rw [List.getElem?_map] at hv
      cases hh : (rangeL 0 n)[v.toNat]? with
      | none => rw [hh] at hv; exact absurd rfl hv
      | some z => rw [hh] at hv; exact absurd rfl hv
    · obtain ⟨t, he⟩ := he
      obtain ⟨g1, g2, g3⟩ := hg
      have ha : a ∈ ps := by rw [he]; simp
      have hlen : a.length ≤ 1000 := by obtain ⟨_, _, _, _, h⟩ := pg a ha; exact h
      obtain ⟨r, ar, rfl, hr, rt, hm⟩ := (pg a ha).head W
      have hnew : ∀ v, 0 ≤ v → v < n → Conn ts r v → fv g v = none := fun v v0 v1 hv => by
        cases hh : fv g v with
        | none => rfl
        | some z =>
          obtain ⟨q, hq, hvq⟩ := g3 v v0 v1 (by rw [hh]; simp)
          rw [he, List.pairwise_append] at pd
          exact absurd ((hm v).mpr hv) (pd.2.2 q hq _ List.mem_cons_self v hvq)
      obtain ⟨g', eg, x1, x2, x3⟩ := far_part W hr rt hm hlen g1 hnew
      refine bind_go atI_zero (bind_go (setO_ok hr.1 (by rw [g1.1]; omega)) (bind_go hr0 (bind_go eg ⟨_, rfl, x1, fun p hp v hv => ?_, fun v v0 v1 hv => ?_⟩)))
      · rcases List.mem_append.mp hp with hp | hp
        · have hpp : p ∈ ps := by rw [he]; exact List.mem_append_left _ hp
          have hvr : 0 ≤ v ∧ v < n := by
            obtain ⟨r2, _, _, hr2, _, hm2⟩ := (pg p hpp).head W
            obtain ⟨k, w⟩ := (hm2 v).mp hv
            exact w.range W hr2
          have hnc : ¬ Conn ts r v := fun hc => by
            rw [he, List.pairwise_append] at pd
            exact pd.2.2 p hp _ List.mem_cons_self v hv ((hm v).mpr hc)
          rw [x2 v hvr.1 hvr.2 hnc]
          exact g2 p hp v hv
        · have : p = r :: ar := by simpa using hp
          subst this
          have hc := (hm v).mp hv
          have hvr : 0 ≤ v ∧ v < n := by obtain ⟨k, w⟩ := hc; exact w.range W hr
          obtain ⟨k, hw, hk⟩ := short_walk W hvr ⟨hc, rt.2⟩
          exact x3 v k hw hk
      · by_cases hc : Conn ts r v
        · exact ⟨_, List.mem_append_right _ (by simp), (hm v).mpr hc⟩
        · rw [x2 v v0 v1 hc] at hv
          obtain ⟨p, hp, h⟩ := g3 v v0 v1 hv
          exact ⟨p, List.mem_append_left _ hp, h⟩
  · obtain ⟨g1, g2⟩ := hg
    let c : Int → Int := fun v => (fv g v).getD 0
    have hc : ∀ v, 0 ≤ v → v < n → atI g v = some (some (c v)) := fun v v0 v1 => by
      rw [fv_atI g1.1 v0 v1]
      cases hh : fv g v with
      | none => exact absurd hh (g2 v v0 v1)
      | some z => show some (some z) = some (some ((fv g v).getD 0)); rw [hh]; rfl
    have hcs : ∀ v, 0 ≤ v → v < n → 0 ≤ c v ∧ ∃ r, IsRt ts r v ∧ Wlk ts r v (c v).toNat := fun v v0 v1 => by
      have e : fv g v = some (c v) := Option.some.inj ((fv_atI g1.1 v0 v1).symm.trans (hc v v0 v1))
      exact g1.2 v (c v) v0 v1 e
    refine bind_go (lenO_ok W.len') (bind_go (cmpO_eq (fun p : Int × Int => decide ((c p.1 + c p.2) % 2 = 0)) id (fun a ha => ?_) (fun _ _ _ => rfl)) ?_)
    · have := W.ok a ha
      rw [bind_ok (hc a.1 (by omega) (by omega)), bind_ok rfl, bind_ok (hc a.2 (by omega) (by omega)), bind_ok rfl]
    · rw [List.map_id]
      have hcm := cmpO_eq (p := fun (a_38 : Int) => ((atI g a_38).bind fun x_39 => ((x_39).bind fun x_40 => some (decide (((x_40 % (2 : Int)) : Int) = (0 : Int)))))) (f := fun a_38 : Int => some a_38) (fun v => decide (c v % 2 = 0)) id (xs := rangeL 0 n) (fun v hv => by
        have hv := mem_rangeL.mp hv
        rw [bind_ok (hc v hv.1 hv.2), bind_ok rfl]) (fun _ _ _ => rfl)
      rw [List.map_id] at hcm
      cases hd : decide ((0 : Int) < ((ts.filter fun p : Int × Int => decide ((c p.1 + c p.2) % 2 = 0)).length : Int)) with
      | true =>
        rw [condt rfl]
        refine ⟨_, rfl, c, hcs, ?_⟩
        rw [condt (decide_eq_true (by have := of_decide_eq_true hd; omega))]
      | false =>
        rw [condf rfl]
        refine bind_go hr0 (bind_go hcm (bind_go hr0 ⟨_, rfl, c, hcs, ?_⟩))
        rw [condf (decide_eq_false (by have := of_decide_eq_false hd; omega))]
        congr 2
        rw [List.map_id'']
        · congr 1
          refine List.filter_congr fun v hv => ?_
          congr 1
          cases hh : decide (c v % 2 = 0) with
          | true => exact inB_iff.mpr (List.mem_filter.mpr ⟨hv, hh⟩)
          | false =>
            rw [inB_false]
            intro hm
            rw [(List.mem_filter.mp hm).2] at hh
            cases hh
        · intro _; rfl
end MM

set_option Elab.async false
set_option linter.all false
set_option maxRecDepth 100000
set_option maxHeartbeats 4000000
set_option autoImplicit false
namespace MM
open PySem PySem.Spec PyProof.Rows L2
/-! ## the same data -/
mutual
theorem sameD_refl : ∀ d : D, okS d = true → sameD d d = true
  | .none, _ => by unfold sameD; rfl
  | .bool b, _ => by unfold sameD; exact beq_self_eq_true b
  | .int i, _ => by unfold sameD; exact beq_self_eq_true i
  | .str s, _ => by unfold sameD; exact beq_self_eq_true s
  | .list ds, h => by
    unfold sameD
    unfold okS at h
    rw [Bool.and_eq_true] at h
    exact sameDs_refl ds h.2
  | .tuple ds, h => by
    unfold sameD
    unfold okS at h
    rw [Bool.and_eq_true] at h
    exact sameDs_refl ds h.2
  | .dict _, h => by simp [okS] at h
theorem sameDs_refl : ∀ ds : List D, okSs ds = true → sameDs ds ds = true
  | [], _ => by unfold sameDs; rfl
  | d :: ds, h => by
    unfold okSs at h
    rw [Bool.and_eq_true] at h
    unfold sameDs
    rw [sameD_refl d h.1, sameDs_refl ds h.2]; rfl
end
theorem m_same_refl {d : D} (h : okS d = true) (h2 : d.depth ≤ 3) : m_same d d = some true := by
  unfold m_same
  rw [if_pos ⟨h, h, h2⟩, sameD_refl d h]
theorem okSs_ints : ∀ xs : List Int, okSs (xs.map enc) = true
  | [] => by simp [okSs]
  | x :: xs => by
    show okSs (PyData.int x :: xs.map enc) = true
    unfold okSs
    rw [okSs_ints xs]; simp [okS]
theorem okS_ints {xs : List Int} (h : xs.length ≤ 1000) : okS (enc xs) = true := by
  show okS (.list (xs.map enc)) = true
  unfold okS
  rw [okSs_ints, List.length_map, Nat.ble_eq_true_of_le h]; rfl
theorem okS_wd (w : Wd) : okS (enc w) = true := by
  show okS (.str w.1) = true
  unfold okS; exact w.2
theorem okS_t3 {w : Wd} {xs ys : List Int} (h : xs.length ≤ 1000) (g : ys.length ≤ 1000) : okS (enc (⟨w, xs, ys⟩ : T3 Wd (List Int) (List Int))) = true := by
  show okS (.tuple [enc w, enc xs, enc ys]) = true
  unfold okS
  unfold okSs okSs okSs okSs
  rw [okS_wd, okS_ints h, okS_ints g]; rfl
/-! ## the ring shown -/
theorem cut_to (xs : List Int) (a : Nat) (h : a ≤ xs.length) : cutL xs none (some (a : Int)) = xs.take a := by
  unfold cutL
  rw [HT.sIx_nat, HT.sIx_none, Nat.min_eq_left h, List.drop_zero, Nat.sub_zero]
theorem cut_last (xs : List Int) : cutL xs none (some (-(1 : Int))) = xs.take (xs.length - 1) := by
  unfold cutL
  have e : HT.sIx xs.length xs.length (some (-(1 : Int))) = xs.length - 1 := by
    show (if (-(1 : Int)) < 0 then (-(1 : Int) + (xs.length : Int)).toNat else min (-(1 : Int)).toNat xs.length) = _
    rw [if_pos (by decide)]; omega
  rw [e, HT.sIx_none, List.drop_zero, Nat.sub_zero]
theorem RingOk.len {n : Int} {ts : Ties} {R : List Int} (h : RingOk n ts R) (W : Web n ts) : R.length ≤ 100 := by
  have := nodup_range h.nd h.rng
  have := W.n0
  have := W.n1
  omega
theorem RingOk.prev {n : Int} {ts : Ties} {R : List Int} (h : RingOk n ts R) {a : Int} (h0 : 0 ≤ a) (h1 : a < R.length) : ∃ x y, atI R (a - 1) = some x ∧ atI R a = some y ∧ Adj ts x y := by
  have hb := h.big
  obtain ⟨y, e1, e2⟩ := atI_some h0 h1
  by_cases ha : a = 0
  · subst ha
    obtain ⟨x, ex⟩ : ∃ x, R[R.length - 1]? = some x := ⟨_, List.getElem?_eq_getElem (by omega)⟩
    refine ⟨x, y, ?_, e1, h.back x y (by rw [List.getLast?_eq_getElem?]; exact ex) (by rw [List.head?_eq_getElem?]; exact e2)⟩
    have : R ≠ [] := by intro e; rw [e] at hb; simp at hb
    show atI R (-1) = some x
    rw [atI_neg this]; exact ex
  · obtain ⟨x, e3, e4⟩ := atI_some (xs := R) (i := a - 1) (by omega) (by omega)
    refine ⟨x, y, e3, e1, h.link (a - 1).toNat x y e4 ?_⟩
    rw [← e2]; congr 1; omega
theorem is_ring_ok {n : Int} {ts : Ties} (W : Web n ts) {R : List Int} (h : RingOk n ts R) : m__law_is_ring n ts R = some true := by
  have hb := h.big
  have hl := h.len W
  have h1 : m__law_wholes R = some true := by
    unfold m__law_wholes
    rw [bind_ok (lenO_ok (by omega))]
    congr 1
    refine decide_eq_true ?_
    have hf : R.filter (fun a_2 => v__law_whole a_2) = R := List.filter_eq_self.mpr (fun _ _ => rfl)
    rw [List.length_map, hf]
  have h2 : (R.filter fun a_3 => (!(decide ((0 : Int) ≤ a_3) && decide (a_3 < n)))) = [] := by
    rw [List.filter_eq_nil_iff]
    intro x hx
    have := h.rng x hx
    rw [decide_eq_true this.1, decide_eq_true this.2]; simp
  have hr0 : rngO 0 (R.length : Int) = some (rangeL 0 (R.length : Int)) := rngO_ok (by omega)
  have h3 : cmpO (fun (a_7 : Int) => ((atI R a_7).bind fun x_8 => some (inB x_8 (cutL R none (some a_7))))) (fun a_7 => some a_7) (rangeL 0 (R.length : Int)) = some [] := by
    have := cmpO_eq (p := fun (a_7 : Int) => ((atI R a_7).bind fun x_8 => some (inB x_8 (cutL R none (some a_7))))) (f := fun a_7 : Int => some a_7) (fun _ => false) id (xs := rangeL 0 (R.length : Int)) (fun a ha => by
      obtain ⟨k, rfl, hk⟩ := mem_range0 ha
      obtain ⟨x, e1, e2⟩ := atI_some (xs := R) (i := (k : Int)) (by omega) (by omega)
      rw [bind_ok e1, cut_to R k (by omega)]
      congr 1
      rw [inB_false]
      intro hm
      obtain ⟨l, hl, e⟩ := List.getElem_of_mem hm
      rw [List.length_take] at hl
      rw [List.getElem_take] at e
      have nd := h.nd
      unfold List.Nodup at nd
      rw [List.pairwise_iff_getElem] at nd
      refine nd l k (by omega) hk (by omega) ?_
      rw [e]
      rw [Int.toNat_natCast, List.getElem?_eq_getElem hk] at e2
      exact (Option.some.inj e2).symm) (fun _ _ hh => by cases hh)
    rw [List.filter_eq_nil_iff.mpr (by simp)] at this
    exact this
  have h4 : cmpO (fun (a_11 : Int) => ((atI R (a_11 - (1 : Int))).bind fun x_12 => ((atI R a_11).bind fun x_13 => some (!(v__law_joined ts x_12 x_13))))) (fun a_11 => some a_11) (rangeL 0 (R.length : Int)) = some [] := by
    have := cmpO_eq (p := fun (a_11 : Int) => ((atI R (a_11 - (1 : Int))).bind fun x_12 => ((atI R a_11).bind fun x_13 => some (!(v__law_joined ts x_12 x_13))))) (f := fun a_11 : Int => some a_11) (fun _ => false) id (xs := rangeL 0 (R.length : Int)) (fun a ha => by
      have ha := mem_rangeL.mp ha
      obtain ⟨x, y, e1, e2, e3⟩ := h.prev ha.1 ha.2
      rw [bind_ok e1, bind_ok e2, law_joined_iff.mpr e3]; rfl) (fun _ _ hh => by cases hh)
    rw [List.filter_eq_nil_iff.mpr (by simp)] at this
    exact this
  unfold m__law_is_ring
  rw [bind_ok h1, condf (by rfl), condf (decide_eq_false (by omega)), bind_ok (lenO_ok (by omega)), h2]
  show ((rngO 0 (R.length : Int)).bind _) = _
  rw [bind_ok hr0, bind_ok h3]
  show ((rngO 0 (R.length : Int)).bind _) = _
  rw [bind_ok hr0, bind_ok h4]
  rfl
theorem between_ok {R : List Int} (hl : R.length ≤ 1000) (a b : Int) : m_are_between_1 R a b = some (R.all fun x => decide (a ≤ x) && decide (x ≤ b)) := by
  have h1 : m_are_wholes_1 R = some true := by
    unfold m_are_wholes_1
    rw [bind_ok (lenO_ok (by omega)), List.all_map]
    congr 1
    rw [List.all_eq_true]
    intro _ _; rfl
  unfold m_are_between_1
  rw [bind_ok h1, condf (by rfl), bind_ok (lenO_ok (by omega)), List.all_map]
  rfl
theorem shows_true {n : Int} {ts : Ties} (W : Web n ts) {R : List Int} (h : RingOk n ts R) : m_shows_ring_1 n ts R = some true := by
  have hb := h.big
  have hl := h.len W
  have hodd := h.odd
  unfold m_shows_ring_1
  have h1 : (R.all fun x => decide (0 ≤ x) && decide (x ≤ n - 1)) = true := by
    rw [List.all_eq_true]
    intro x hx
    have := h.rng x hx
    rw [decide_eq_true this.1, decide_eq_true (by omega)]; rfl
  rw [bind_ok (between_ok (by omega) 0 (n - 1)), h1, condf (by rw [decide_eq_false (by omega)]; rfl), bind_ok (lenO_ok (by omega))]
  have h2 : ((R.map fun a_3 => (decide (((((R).count a_3 : Nat) : Int) : Int) = (1 : Int)))).all id) = true := by
    rw [List.all_map, List.all_eq_true]
    intro x hx
    show decide (((R.count x : Nat) : Int) = 1) = true
    rw [h.nd.count, if_pos hx]; rfl
  rw [condf (by rw [h2]; rfl)]
  have hr0 : rngO 0 (R.length : Int) = some (rangeL 0 (R.length : Int)) := rngO_ok (by omega)
  have h3 := cmpO_eq (p := fun (a_5 : Int) => some true) (f := fun a_5 => ((atI R (a_5 - (1 : Int))).bind fun x_6 => ((atI R a_5).bind fun x_7 => some (v_are_joined ts x_6 x_7)))) (fun _ => true) (fun _ => true) (xs := rangeL 0 (R.length : Int)) (fun _ _ => rfl) (fun a ha _ => by
    have ha := mem_rangeL.mp ha
    obtain ⟨x, y, e1, e2, e3⟩ := h.prev ha.1 ha.2
    rw [bind_ok e1, bind_ok e2, (joined_iff W).mpr e3])
  rw [bind_ok hr0, bind_ok h3]
  congr 1
  rw [List.all_map, List.all_eq_true]
  intro _ _; rfl
theorem shows_false {n : Int} {ts : Ties} (W : Web n ts) {R : List Int} (h : RingOk n ts R) : m_shows_ring_1 n ts (cutL R none (some (-(1 : Int)))) = some false := by
  have hb := h.big
  have hl := h.len W
  have hodd := h.odd
  rw [cut_last]
  unfold m_shows_ring_1
  rw [bind_ok (between_ok (by rw [List.length_take]; omega) 0 (n - 1)), condt]
  rw [Bool.or_eq_true]
  right
  refine decide_eq_true ?_
  rw [List.length_take]; omega
/-! ## the law's question -/
theorem filter_none {n : Int} {ts : Ties} (W : Web n ts) {c : Int → Bool} (hc : Col ts c) (b : Bool) : (ts.filter fun a_42 => ((inB a_42.1 ((rangeL 0 n).filter fun v => c v == b)) && (inB a_42.2 ((rangeL 0 n).filter fun v => c v == b)))) = [] := by
  rw [List.filter_eq_nil_iff]
  intro p hp h
  rw [Bool.and_eq_true, inB_iff, inB_iff, List.mem_filter, List.mem_filter] at h
  have := hc p hp
  have h1 := h.1.2
  have h2 := h.2.2
  rw [beq_iff_eq] at h1 h2
  exact this (by rw [h1, h2])
theorem right_ok {n : Int} {ts : Ties} (W : Web n ts) : m__law_right n ts = some true := by
  have h0 := W.n0; have h1 := W.n1
  obtain ⟨cf, hcf, es⟩ := law_sides_ok W
  obtain ⟨x, ex, hx⟩ := sides_of_ok W
  have hr2 : rngO 0 2 = some (rangeL 0 2) := rngO_ok (by decide)
  have hr0 : rngO 0 n = some (rangeL 0 n) := rngO_ok (by omega)
  unfold m__law_right
  rw [bind_ok es, bind_ok hr2]
  rcases hx with ⟨R, rfl, hR⟩ | ⟨c, rfl, hc, hroot⟩
  · -- a ring
    have hd : decide (0 < (ts.filter fun p => decide ((cf p.1 + cf p.2) % 2 = 0)).length) = true := by
      refine decide_eq_true ?_
      rw [List.length_pos_iff]
      intro hnil
      refine hR.no_col (fun v => decide (cf v % 2 = 0)) fun p hp e => ?_
      have hq := List.filter_eq_nil_iff.mp hnil p hp
      have e := decide_eq_decide.mp e
      refine hq (decide_eq_true ?_)
      by_cases h : cf p.1 % 2 = 0
      · have := e.mp h; omega
      · have h' : ¬ cf p.2 % 2 = 0 := fun z => h (e.mpr z)
        omega
    rw [condt hd]
    have hl := hR.len W
    have hodd := hR.odd
    have hs : m__law_same (enc w_ring) (enc w_ring) = some true := m_same_refl (okS_wd _) (Nat.zero_le _)
    rw [forS_all (fun a ha => by
      rw [bind_ok ex]
      dsimp only
      rw [condf (by simp), condf (by rfl), condf (by rfl), bind_ok hs, condf (by rfl), bind_ok (is_ring_ok W hR), bind_ok rfl, bind_ok rfl, condf (by rfl), condf (decide_eq_false (by omega)), bind_ok (shows_true W hR), bind_ok rfl, condf (by rfl), bind_ok (shows_false W hR), condf (by rfl), bind_ok (lenO_ok (by omega))])]
    rfl
  · -- two sides
    have hpar : ∀ v, 0 ≤ v → v < n → c v = decide (cf v % 2 = 0) := fun v v0 v1 => by
      obtain ⟨hp, r, hr, hw⟩ := hcf v v0 v1
      rw [hc.walk hw, hroot r v v0 v1 hr]
      by_cases h : cf v % 2 = 0
      · rw [decide_eq_true h, decide_eq_false (by omega)]; rfl
      · rw [decide_eq_false h, decide_eq_true (by omega)]; rfl
    have hd : decide (0 < (ts.filter fun p => decide ((cf p.1 + cf p.2) % 2 = 0)).length) = false := by
      refine decide_eq_false ?_
      rw [List.length_pos_iff, Classical.not_not]
      rw [List.filter_eq_nil_iff]
      intro p hp h
      have hr := W.ok p hp
      have := hc p hp
      rw [hpar p.1 (by omega) (by omega), hpar p.2 (by omega) (by omega)] at this
      have h := of_decide_eq_true h
      apply this
      congr 1
      exact propext ⟨fun _ => by omega, fun _ => by omega⟩
    have eL : ((rangeL 0 n).filter fun v => decide (cf v % 2 = 0)) = (rangeL 0 n).filter c := List.filter_congr fun v hv => by
      have hv := mem_rangeL.mp hv
      exact (hpar v hv.1 hv.2).symm
    have eR : ((rangeL 0 n).filter fun v => !decide (cf v % 2 = 0)) = (rangeL 0 n).filter fun v => !c v := List.filter_congr fun v hv => by
      have hv := mem_rangeL.mp hv
      rw [hpar v hv.1 hv.2]
    rw [condf hd, eL, eR]
    have lL : ((rangeL 0 n).filter c).length ≤ 100 := by
      have := List.length_filter_le c (rangeL 0 n)
      rw [rangeL_len] at this; omega
    have lR : ((rangeL 0 n).filter fun v => !c v).length ≤ 100 := by
      have := List.length_filter_le (fun v => !c v) (rangeL 0 n)
      rw [rangeL_len] at this; omega
    have hs : m__law_same (enc (⟨w_sides, (rangeL 0 n).filter c, (rangeL 0 n).filter fun v => !c v⟩ : T3 Wd (List Int) (List Int))) (enc (⟨w_sides, (rangeL 0 n).filter c, (rangeL 0 n).filter fun v => !c v⟩ : T3 Wd (List Int) (List Int))) = some true :=
      m_same_refl (okS_t3 (by omega) (by omega)) (Nat.le_trans (Shp.le _) (by decide))
    have a0 : ∀ {xs ys : List Int}, atI [xs, ys] (0 : Int) = some xs := atI_zero
    have a1 : ∀ {xs ys : List Int}, atI [xs, ys] (1 : Int) = some ys := fun {xs ys} => rfl
    rw [forS_all (fun a ha => by
      rw [bind_ok ex]
      dsimp only
      rw [condf (by simp), condt (by rfl), bind_ok rfl, bind_ok a0, bind_ok rfl, bind_ok a1, bind_ok hs, condf (by rfl), bind_ok (lenO_ok (by omega))])]
    rw [bind_ok rfl]
    dsimp only
    rw [condf (by rfl), bind_ok rfl, bind_ok (lenO_ok (by simp))]
    rw [forS_all (fun a ha => by
      rw [bind_ok (lenO_ok W.len'), List.length_map]
      have hk : (ts.filter fun a_42 => ((inB a_42.1 a) && (inB a_42.2 a))) = [] := by
        rcases List.mem_cons.mp ha with rfl | ha
        · have := filter_none W hc true
          have e : ((rangeL 0 n).filter fun v => c v == true) = (rangeL 0 n).filter c := List.filter_congr fun v _ => by simp
          rw [e] at this; exact this
        · have ha : a = (rangeL 0 n).filter fun v => !c v := by simpa using ha
          subst ha
          have := filter_none W hc false
          have e : ((rangeL 0 n).filter fun v => c v == false) = (rangeL 0 n).filter fun v => !c v := List.filter_congr fun v _ => by simp
          rw [e] at this; exact this
      rw [hk]
      exact condf rfl)]
    rw [bind_ok rfl]
    dsimp only
    rw [bind_ok rfl, bind_ok a0, bind_ok rfl, bind_ok a1, bind_ok (catO_ok (by omega)), bind_ok hr0]
    congr 1
    refine decide_eq_true ?_
    rw [List.map_id'' (by intro _; rfl)]
    refine (srtI_uniq ?_ (lt_le_pw (rangeL_lt 0 n))).symm
    exact (List.filter_append_perm c (rangeL 0 n)).symm
end MM

set_option Elab.async false
set_option linter.all false
set_option maxRecDepth 100000
set_option maxHeartbeats 4000000
set_option autoImplicit false
namespace MM
open PySem PySem.Spec PyProof.Rows L2
theorem cmpS_total {α β τ : Type} {p : α → τ → Option (Bool × τ)} {g : α → τ → Option (β × τ)} (Q : β → Prop) : ∀ (xs : List α) (s : τ), (∀ a ∈ xs, ∀ s, ∃ b s', p a s = some (b, s')) → (∀ a ∈ xs, ∀ s, ∃ b s', g a s = some (b, s') ∧ Q b) →
    ∃ ys s', cmpS p g xs s = some (ys, s') ∧ (∀ y ∈ ys, Q y) ∧ ys.length ≤ xs.length
  | [], s, _, _ => ⟨[], s, rfl, by simp, Nat.le_refl _⟩
  | a :: xs, s, hp, hg => by
    obtain ⟨b, s1, e1⟩ := hp a List.mem_cons_self s
    have ih := fun s => cmpS_total Q xs s (fun b hb => hp b (List.mem_cons_of_mem _ hb)) (fun b hb => hg b (List.mem_cons_of_mem _ hb))
    unfold cmpS at ih ⊢
    unfold cmpM
    rw [e1]
    cases b with
    | true =>
      obtain ⟨y, s2, e2, q⟩ := hg a List.mem_cons_self s1
      obtain ⟨ys, s3, e3, h1, h2⟩ := ih s2
      refine ⟨y :: ys, s3, ?_, fun z hz => ?_, by simp; omega⟩
      · dsimp only [Option.bind_some]
        rw [if_pos rfl, e2]
        dsimp only [Option.map_some]
        rw [e3]
      · rcases List.mem_cons.mp hz with rfl | hz
        · exact q
        · exact h1 z hz
    | false =>
      obtain ⟨ys, s3, e3, h1, h2⟩ := ih s1
      refine ⟨ys, s3, ?_, h1, by simp; omega⟩
      dsimp only [Option.bind_some]
      rw [if_neg (by simp)]
      dsimp only
      rw [e3]
theorem cmpS_all {α β τ : Type} {p : α → τ → Option (Bool × τ)} {g : α → τ → Option (β × τ)} (Q : β → Prop) (hp : ∀ a s, p a s = some (true, s)) : ∀ (xs : List α) (s : τ), (∀ a ∈ xs, ∀ s, ∃ b s', g a s = some (b, s') ∧ Q b) →
    ∃ ys s', cmpS p g xs s = some (ys, s') ∧ (∀ y ∈ ys, Q y) ∧ ys.length = xs.length
  | [], s, _ => ⟨[], s, rfl, by simp, rfl⟩
  | a :: xs, s, hg => by
    have ih := fun s => cmpS_all Q hp xs s (fun b hb => hg b (List.mem_cons_of_mem _ hb))
    obtain ⟨y, s2, e2, q⟩ := hg a List.mem_cons_self s
    unfold cmpS at ih ⊢
    unfold cmpM
    obtain ⟨ys, s3, e3, h1, h2⟩ := ih s2
    refine ⟨y :: ys, s3, ?_, fun z hz => ?_, by simp; omega⟩
    · rw [hp a s]
      dsimp only [Option.bind_some]
      rw [if_pos rfl, e2]
      dsimp only [Option.map_some]
      rw [e3]
    · rcases List.mem_cons.mp hz with rfl | hz
      · exact q
      · exact h1 z hz
theorem pairs_ok {n : Int} (h0 : 0 ≤ n) (h1 : n ≤ 100) : ∃ ps, m__law_pairs n = some ps ∧ (∀ p ∈ ps, 0 ≤ p.1 ∧ p.1 < p.2 ∧ p.2 < n) ∧ ps.length ≤ 10000 := by
  have hr0 : rngO 0 n = some (rangeL 0 n) := rngO_ok (by omega)
  unfold m__law_pairs
  refine bind_go rfl (bind_go hr0 ?_)
  refine bind_ex (Q := fun s => (∀ p ∈ s, 0 ≤ p.1 ∧ p.1 < p.2 ∧ p.2 < n) ∧ s.length ≤ 100 * (rangeL 0 n).length) (forL_inv (fun (d : List Int) (s : Ties) => (∀ p ∈ s, 0 ≤ p.1 ∧ p.1 < p.2 ∧ p.2 < n) ∧ s.length ≤ 100 * d.length) ⟨by simp, by simp⟩ (fun d a s he hs => ?_)) (fun s hs => ?_)
  · obtain ⟨t, he⟩ := he
    obtain ⟨s1, s2⟩ := hs
    have ha : 0 ≤ a ∧ a < n := mem_rangeL.mp (by rw [he]; simp)
    have hd : d.length ≤ 100 := by
      have := congrArg List.length he
      rw [rangeL_len, List.length_append] at this
      omega
    have hl := rangeL_len (a + 1) n
    refine bind_go (rngO_ok (by omega)) (bind_go (catO_ok (by rw [List.length_map]; omega)) ⟨_, rfl, fun p hp => ?_, ?_⟩)
    · rcases List.mem_append.mp hp with hp | hp
      · exact s1 p hp
      · obtain ⟨j, hj, rfl⟩ := List.mem_map.mp hp
        have := mem_rangeL.mp hj
        dsimp only; omega
    · rw [List.length_append, List.length_append, List.length_map]
      simp; omega
  · refine ⟨_, rfl, hs.1, ?_⟩
    have := hs.2
    rw [rangeL_len] at this
    omega
theorem mem_cut {α : Type} {xs : List α} {lo hi : Option Int} {x : α} (h : x ∈ cutL xs lo hi) : x ∈ xs := by
  unfold cutL at h
  exact List.mem_of_mem_drop (List.mem_of_mem_take h)
theorem cut_len {α : Type} {xs : List α} {lo hi : Option Int} : (cutL xs lo hi).length ≤ xs.length := by
  unfold cutL
  rw [List.length_take, List.length_drop]; omega
theorem web_ok (F : Fd) {n : Int} (h0 : 0 ≤ n) (h1 : n ≤ 100) : ∃ ts F', m__law_web F n = some (ts, F') ∧ Web n ts ∧ ts.length ≤ 40 := by
  obtain ⟨share, F1, e1, _, _⟩ := draw_ok F (m := 8) (by decide) (by decide)
  obtain ⟨ps, e2, p1, p2⟩ := pairs_ok h0 h1
  obtain ⟨ys, F2, e3, y1, y2⟩ := cmpS_total (p := fun (a_5 : (Int × Int)) (s_6 : Fd) => ((m_draw s_6 ((8 : Int))).bind fun c_7 => some ((decide (c_7.1 < (1 : Int) + share)), c_7.2))) (g := fun a_5 s_8 => some (a_5, s_8)) (fun p : Int × Int => 0 ≤ p.1 ∧ p.1 < p.2 ∧ p.2 < n) ps F1
    (fun a _ s => by
      obtain ⟨t, F', e, _⟩ := draw_ok s (m := 8) (by decide) (by decide)
      exact ⟨_, _, bind_ok e⟩) (fun a ha s => ⟨a, s, rfl, p1 a ha⟩)
  refine ⟨cutL ys none (some 40), F2, ?_, ⟨h0, h1, ?_, fun p hp => y1 p (mem_cut hp)⟩, ?_⟩
  · unfold m__law_web
    rw [bind_ok e1, bind_ok rfl, bind_ok e2, bind_ok (lenO_ok (by omega)), bind_ok e3]
  · have := cut_len (xs := ys) (lo := none) (hi := some 40)
    omega
  · have e := HT.sIx_nat ys.length ys.length 40
    unfold cutL
    rw [List.length_take, HT.sIx_none]
    have e' : HT.sIx ys.length ys.length (some (40 : Int)) = min 40 ys.length := e
    rw [e']; omega
theorem two_ok (F : Fd) {m : Int} (h0 : 0 < m) (h1 : m ≤ 20) : ∃ n ts F', m__law_two_sided F m = some ((n, ts), F') ∧ (1 ≤ n ∧ n ≤ m) ∧ (Web n ts ∧ ts.length ≤ 40) ∧ ∃ c, Col ts c := by
  obtain ⟨t, F1, e1, t1, t2⟩ := draw_ok F (m := m) h0 (by omega)
  have hr0 : rngO 0 (1 + t) = some (rangeL 0 (1 + t)) := rngO_ok (by omega)
  obtain ⟨side, F2, e2, s1, s2⟩ := cmpS_all (p := fun (a_4 : Int) (s_5 : Fd) => some (true, s_5)) (g := fun (a_4 : Int) (s_6 : Fd) => ((m_draw s_6 ((2 : Int))).bind fun c_7 => some (c_7.1, c_7.2))) (fun x : Int => 0 ≤ x ∧ x < 2) (fun _ _ => rfl) (rangeL 0 (1 + t)) F1 (fun a _ s => by
    obtain ⟨t, F', e, h⟩ := draw_ok s (m := 2) (by decide) (by decide)
    exact ⟨t, F', by rw [bind_ok e], h⟩)
  obtain ⟨ts, F3, e3, W, W40⟩ := web_ok F2 (n := 1 + t) (by omega) (by omega)
  rw [rangeL_len] at s2
  have hsl : side.length = (1 + t).toNat := by omega
  let sd : Int → Int := fun v => (side[v.toNat]?).getD 0
  have hat : ∀ v, 0 ≤ v → v < 1 + t → atI side v = some (sd v) := fun v v0 v1 => by
    obtain ⟨a, g1, g2⟩ := atI_of hsl v0 v1
    rw [g1]; show some a = some ((side[v.toNat]?).getD 0); rw [g2]; rfl
  have hsd : ∀ v, 0 ≤ v → v < 1 + t → 0 ≤ sd v ∧ sd v < 2 := fun v v0 v1 => by
    obtain ⟨a, g1, g2⟩ := atI_of hsl v0 v1
    have := s1 a (List.mem_of_getElem? g2)
    show 0 ≤ (side[v.toNat]?).getD 0 ∧ (side[v.toNat]?).getD 0 < 2
    rw [g2]; exact this
  have e4 := cmpO_eq (p := fun (a_11 : (Int × Int)) => ((atI side a_11.1).bind fun x_12 => ((atI side a_11.2).bind fun x_13 => some (!decide ((x_12 : Int) = x_13))))) (f := fun a_11 : Int × Int => some a_11) (fun p => !decide (sd p.1 = sd p.2)) id (xs := ts) (fun p hp => by
    have := W.ok p hp
    rw [bind_ok (hat p.1 (by omega) (by omega)), bind_ok (hat p.2 (by omega) (by omega))]) (fun _ _ _ => rfl)
  rw [List.map_id] at e4
  refine ⟨1 + t, ts.filter fun p => !decide (sd p.1 = sd p.2), F3, ?_, by omega, ⟨⟨by omega, by omega, ?_, fun p hp => W.ok p (List.mem_filter.mp hp).1⟩, Nat.le_trans (List.length_filter_le _ _) W40⟩, fun v => decide (sd v = 0), fun p hp e => ?_⟩
  · unfold m__law_two_sided
    rw [bind_ok e1, bind_ok rfl, bind_ok hr0, bind_ok e2, bind_ok e3, bind_ok (lenO_ok W.len'), bind_ok e4]
  · have := List.length_filter_le (fun p : Int × Int => !decide (sd p.1 = sd p.2)) ts
    have := W.len
    omega
  · obtain ⟨hp, hne⟩ := List.mem_filter.mp hp
    have hr := W.ok p hp
    have a1 := hsd p.1 (by omega) (by omega)
    have a2 := hsd p.2 (by omega) (by omega)
    have hne : ¬ sd p.1 = sd p.2 := by simpa using hne
    have e := decide_eq_decide.mp e
    by_cases h : sd p.1 = 0
    · have := e.mp h; omega
    · have h' : ¬ sd p.2 = 0 := fun z => h (e.mpr z)
      omega
theorem popAt_ok {xs : List Int} {i : Int} (h0 : 0 ≤ i) (h1 : i < xs.length) (hl : xs.length ≤ 1000) : ∃ a, popAtO xs i = some (a, xs.eraseIdx i.toNat) ∧ xs[i.toNat]? = some a := by
  have hk : i.toNat < xs.length := by omega
  refine ⟨xs[i.toNat], ?_, List.getElem?_eq_getElem hk⟩
  unfold popAtO ixN
  rw [if_pos (by omega), if_pos h0, if_pos h1]
  show (xs[i.toNat]?).map _ = _
  rw [List.getElem?_eq_getElem hk]; rfl
theorem order_ok (F : Fd) {n : Int} (h0 : 0 ≤ n) (h1 : n ≤ 100) : ∃ o F', m__law_order F n = some (o, F') ∧ o.length = n.toNat ∧ o.Nodup ∧ ∀ x ∈ o, 0 ≤ x ∧ x < n := by
  have hr0 : rngO 0 n = some (rangeL 0 n) := rngO_ok (by omega)
  suffices h : ∃ r, m__law_order F n = some r ∧ r.1.length = n.toNat ∧ r.1.Nodup ∧ ∀ x ∈ r.1, 0 ≤ x ∧ x < n by
    obtain ⟨⟨o, F'⟩, h⟩ := h
    exact ⟨o, F', h⟩
  unfold m__law_order
  refine bind_go hr0 (bind_go rfl (bind_go rfl (bind_go hr0 ?_)))
  let I : List Int → Fd × List Int × List Int → Prop := fun d s => s.2.1.length + d.length = n.toNat ∧ s.2.2.length = d.length ∧ s.2.1.Nodup ∧ s.2.2.Nodup ∧ (∀ x ∈ s.2.1, x ∉ s.2.2) ∧ (∀ x ∈ s.2.1, 0 ≤ x ∧ x < n) ∧ ∀ x ∈ s.2.2, 0 ≤ x ∧ x < n
  refine bind_ex (Q := I (rangeL 0 n)) (forL_inv I ⟨?_, rfl, ?_, by simp, by simp, fun x hx => ?_, by simp⟩ (fun d a s he hs => ?_)) (fun s hs => ?_)
  · rw [List.length_map, rangeL_len]; simp
  · rw [List.map_id'']
    · exact rangeL_nodup 0 n
    · intro _; rfl
  · rw [List.map_id''] at hx
    · exact mem_rangeL.mp hx
    · intro _; rfl
  · obtain ⟨t, he⟩ := he
    obtain ⟨G, rest, ord⟩ := s
    obtain ⟨i1, i2, i3, i4, i5, i6, i7⟩ := hs
    dsimp only at i1 i2 i3 i4 i5 i6 i7 ⊢
    have hd : d.length < n.toNat := by
      have := congrArg List.length he
      rw [rangeL_len, List.length_append, List.length_cons] at this
      omega
    obtain ⟨k, G', ek, k1, k2⟩ := draw_ok G (m := (rest.length : Int)) (by omega) (by omega)
    obtain ⟨x, ex, hx⟩ := popAt_ok k1 k2 (by omega)
    have hxr : x ∈ rest := List.mem_of_getElem? hx
    refine bind_go ek (bind_go ex (bind_go (appO_ok (by omega)) ⟨_, rfl, ?_, ?_, i3.eraseIdx _, ?_, fun y hy hy' => ?_, fun y hy => i6 y (List.mem_of_mem_eraseIdx hy), fun y hy => ?_⟩))
    · dsimp only
      rw [List.length_eraseIdx_of_lt (by omega), List.length_append]
      simp; omega
    · dsimp only
      rw [List.length_append, List.length_append, i2]; rfl
    · dsimp only
      rw [List.nodup_append]
      refine ⟨i4, by simp, fun y hy z hz e => ?_⟩
      have : z = x := by simpa using hz
      subst this; subst e
      exact i5 y hxr hy
    · dsimp only at hy hy'
      rcases List.mem_append.mp hy' with hy' | hy'
      · exact i5 y (List.mem_of_mem_eraseIdx hy) hy'
      · have : y = x := by simpa using hy'
        subst this
        obtain ⟨i, hi, e⟩ := List.mem_eraseIdx_iff_getElem?.mp hy
        have hl := (List.getElem?_eq_some_iff.mp e).1
        have hkl : k.toNat < rest.length := by omega
        unfold List.Nodup at i3
        rw [List.pairwise_iff_getElem] at i3
        rw [List.getElem?_eq_getElem hl] at e
        rw [List.getElem?_eq_getElem hkl] at hx
        have ee : rest[i] = rest[k.toNat] := (Option.some.inj e).trans (Option.some.inj hx).symm
        rcases Nat.lt_or_gt_of_ne hi with h | h
        · exact i3 i k.toNat hl hkl h ee
        · exact i3 k.toNat i hkl hl h ee.symm
    · rcases List.mem_append.mp hy with hy | hy
      · exact i7 y hy
      · have : y = x := by simpa using hy
        subst this; exact i6 y hxr
  · obtain ⟨i1, i2, i3, i4, i5, i6, i7⟩ := hs
    refine ⟨_, rfl, ?_, i4, i7⟩
    dsimp only
    rw [i2, rangeL_len]; simp
/-- a ring of n places in some order -/
theorem ring_web {n : Int} {o : List Int} (h0 : 3 ≤ n) (h1 : n ≤ 100) (hl : o.length = n.toNat) (nd : o.Nodup) (hr : ∀ x ∈ o, 0 ≤ x ∧ x < n) :
    ∃ ys, cmpO (fun (a_30 : Int) => some true) (fun a_30 => ((atI o (a_30 - (1 : Int))).bind fun x_31 => ((atI o a_30).bind fun x_32 => some (v__law_tie x_31 x_32)))) (rangeL 0 n) = some ys ∧ Web n (srtP ys) ∧
      (∀ a, 0 ≤ a → a < n → ∃ x y, atI o (a - 1) = some x ∧ atI o a = some y ∧ Adj (srtP ys) x y) ∧ ∀ p ∈ srtP ys, ∃ a x y, (0 ≤ a ∧ a < n) ∧ atI o (a - 1) = some x ∧ atI o a = some y ∧ ((p.1 = x ∧ p.2 = y) ∨ (p.1 = y ∧ p.2 = x)) := by
  have nd' := nd
  unfold List.Nodup at nd'
  rw [List.pairwise_iff_getElem] at nd'
  have two : ∀ a, 0 ≤ a → a < n → ∃ x y, atI o (a - 1) = some x ∧ atI o a = some y ∧ x ≠ y ∧ (0 ≤ x ∧ x < n) ∧ (0 ≤ y ∧ y < n) := fun a a0 a1 => by
    obtain ⟨y, e1, e2⟩ := atI_of hl a0 a1
    have hy := hr y (List.mem_of_getElem? e2)
    have ha : a.toNat < o.length := by omega
    rw [List.getElem?_eq_getElem ha] at e2
    by_cases hz : a = 0
    · subst hz
      have hlast : o.length - 1 < o.length := by omega
      refine ⟨o[o.length - 1], y, ?_, e1, fun e => ?_, hr _ (List.getElem_mem hlast), hy⟩
      · have : o ≠ [] := by intro e; rw [e] at ha; simp at ha
        show atI o (-1) = _
        rw [atI_neg this, List.getElem?_eq_getElem hlast]
      · exact nd' 0 (o.length - 1) (by omega) hlast (by omega) (by rw [e, ← Option.some.inj e2]; rfl)
    · obtain ⟨x, e3, e4⟩ := atI_of hl (show 0 ≤ a - 1 by omega) (by omega)
      have hb : (a - 1).toNat < o.length := by omega
      rw [List.getElem?_eq_getElem hb] at e4
      refine ⟨x, y, e3, e1, fun e => ?_, hr _ (by rw [← Option.some.inj e4]; exact List.getElem_mem hb), hy⟩
      exact nd' (a - 1).toNat a.toNat hb ha (by omega) (by rw [Option.some.inj e4, Option.some.inj e2, e])
  let pr : Int → Int × Int := fun a => v__law_tie ((atI o (a - 1)).getD 0) ((atI o a).getD 0)
  have hpr : ∀ {a x y}, atI o (a - 1) = some x → atI o a = some y → pr a = (min x y, max x y) := fun {a x y} e1 e2 => by
    show v__law_tie ((atI o (a - 1)).getD 0) ((atI o a).getD 0) = _
    rw [e1, e2]; rfl
  have e := cmpO_eq (p := fun (a_30 : Int) => some true) (f := fun a_30 => ((atI o (a_30 - (1 : Int))).bind fun x_31 => ((atI o a_30).bind fun x_32 => some (v__law_tie x_31 x_32)))) (fun _ => true) pr (xs := rangeL 0 n) (fun _ _ => rfl) (fun a ha _ => by
    have ha := mem_rangeL.mp ha
    obtain ⟨x, y, e1, e2, _⟩ := two a ha.1 ha.2
    rw [bind_ok e1, bind_ok e2, hpr e1 e2]; rfl)
  rw [List.filter_eq_self.mpr (fun _ _ => rfl)] at e
  have mem : ∀ p, p ∈ srtP ((rangeL 0 n).map pr) ↔ ∃ a, (0 ≤ a ∧ a < n) ∧ pr a = p := fun p => by
    rw [(srtP_perm _).mem_iff, List.mem_map]
    exact ⟨fun ⟨a, h, e⟩ => ⟨a, mem_rangeL.mp h, e⟩, fun ⟨a, h, e⟩ => ⟨a, mem_rangeL.mpr h, e⟩⟩
  refine ⟨_, e, ⟨by omega, h1, ?_, fun p hp => ?_⟩, fun a a0 a1 => ?_, fun p hp => ?_⟩
  · rw [(srtP_perm _).length_eq, List.length_map, rangeL_len]; omega
  · obtain ⟨a, ha, e⟩ := (mem p).mp hp
    obtain ⟨x, y, e1, e2, e3, e4, e5⟩ := two a ha.1 ha.2
    rw [hpr e1 e2] at e
    subst e
    dsimp only
    omega
  · obtain ⟨x, y, e1, e2, e3, _⟩ := two a a0 a1
    refine ⟨x, y, e1, e2, ?_⟩
    have hm := (mem (pr a)).mpr ⟨a, ⟨a0, a1⟩, rfl⟩
    rw [hpr e1 e2] at hm
    rcases Int.lt_or_gt_of_ne e3 with h | h
    · left; rwa [Int.min_eq_left (by omega), Int.max_eq_right (by omega)] at hm
    · right; rwa [Int.min_eq_right (by omega), Int.max_eq_left (by omega)] at hm
  · obtain ⟨a, ha, e⟩ := (mem p).mp hp
    obtain ⟨x, y, e1, e2, e3, _⟩ := two a ha.1 ha.2
    rw [hpr e1 e2] at e
    subst e
    refine ⟨a, x, y, ha, e1, e2, ?_⟩
    dsimp only
    rcases Int.lt_or_gt_of_ne e3 with h | h
    · left; omega
    · right; omega
/-- the ring's sides: an even number of places has two sides -/
theorem ring_even {n : Int} {o : List Int} {ts : Ties} (h0 : 3 ≤ n) (hl : o.length = n.toNat) (nd : o.Nodup) (he : n % 2 = 0)
    (h : ∀ p ∈ ts, ∃ a x y, (0 ≤ a ∧ a < n) ∧ atI o (a - 1) = some x ∧ atI o a = some y ∧ ((p.1 = x ∧ p.2 = y) ∨ (p.1 = y ∧ p.2 = x))) : ∃ c, Col ts c := by
  have nd' := nd
  unfold List.Nodup at nd'
  rw [List.pairwise_iff_getElem] at nd'
  have uq : ∀ {k l : Nat} {x : Int}, o[k]? = some x → o[l]? = some x → k = l := fun {k l x} e1 e2 => by
    obtain ⟨k1, e1⟩ := List.getElem?_eq_some_iff.mp e1
    obtain ⟨l1, e2⟩ := List.getElem?_eq_some_iff.mp e2
    rcases Nat.lt_trichotomy k l with h | h | h
    · exact absurd (e1.trans e2.symm) (nd' k l k1 l1 h)
    · exact h
    · exact absurd (e2.trans e1.symm) (nd' l k l1 k1 h)
  let c : Int → Bool := fun v => o.idxOf v % 2 == 0
  have hc : ∀ {k : Nat} {x : Int}, o[k]? = some x → c x = (k % 2 == 0) := fun {k x} e => by
    have hx : x ∈ o := List.mem_of_getElem? e
    have hi : o[o.idxOf x]? = some x := by
      have := List.idxOf_lt_length_of_mem hx
      rw [List.getElem?_eq_getElem this]
      simp
    have := uq e hi
    show (o.idxOf x % 2 == 0) = _
    rw [← this]
  refine ⟨c, fun p hp => ?_⟩
  obtain ⟨a, x, y, ha, e1, e2, e3⟩ := h p hp
  have hy : o[a.toNat]? = some y := by rw [← e2, atI_eq ha.1 (by omega)]
  have hne : c x ≠ c y := by
    rw [hc hy]
    by_cases hz : a = 0
    · subst hz
      have hne : o ≠ [] := by intro e; rw [e] at hl; simp at hl; omega
      have e1 : atI o (-1) = some x := e1
      rw [atI_neg hne] at e1
      rw [hc e1]
      have : (o.length - 1) % 2 = 1 := by omega
      rw [this]; simp
    · have e1 : o[(a - 1).toNat]? = some x := by rw [← e1, atI_eq (by omega) (by omega)]
      rw [hc e1]
      by_cases hp : a.toNat % 2 = 0
      · have : (a - 1).toNat % 2 = 1 := by omega
        rw [this, hp]; simp
      · have h1 : a.toNat % 2 = 1 := by omega
        have : (a - 1).toNat % 2 = 0 := by omega
        rw [this, h1]; simp
  rcases e3 with ⟨f1, f2⟩ | ⟨f1, f2⟩
  · rw [f1, f2]; exact hne
  · rw [f1, f2]; exact hne.symm
theorem ring_odd {n : Int} {o : List Int} {ts : Ties} (h0 : 3 ≤ n) (hl : o.length = n.toNat) (nd : o.Nodup) (hr : ∀ x ∈ o, 0 ≤ x ∧ x < n) (ho : n % 2 = 1)
    (h : ∀ a, 0 ≤ a → a < n → ∃ x y, atI o (a - 1) = some x ∧ atI o a = some y ∧ Adj ts x y) : RingOk n ts o := by
  refine ⟨nd, by omega, by omega, hr, fun k x y hx hy => ?_, fun x y hx hy => ?_⟩
  · have hk := (List.getElem?_eq_some_iff.mp hy).1
    obtain ⟨x', y', e1, e2, e3⟩ := h ((k : Int) + 1) (by omega) (by omega)
    have q1 : atI o ((k : Int) + 1 - 1) = some x := by
      rw [atI_eq (by omega) (by omega), ← hx]; congr 1; omega
    have q2 : atI o ((k : Int) + 1) = some y := by
      rw [atI_eq (by omega) (by omega), ← hy]; congr 1
    rw [q1] at e1; rw [q2] at e2
    cases e1; cases e2; exact e3
  · obtain ⟨x', y', e1, e2, e3⟩ := h 0 (by omega) (by omega)
    have hne : o ≠ [] := by intro e; rw [e] at hl; simp at hl; omega
    have e1 : atI o (-1) = some x' := e1
    rw [atI_neg hne, ← List.getLast?_eq_getElem?, hx] at e1
    rw [atI_eq (by omega) (by omega)] at e2
    have e2 : o[0]? = some y' := e2
    rw [← List.head?_eq_getElem?, hy] at e2
    cases e1; cases e2; exact e3
end MM

set_option Elab.async false
set_option linter.all false
set_option maxRecDepth 100000
set_option maxHeartbeats 4000000
set_option autoImplicit false
namespace MM
open PySem PySem.Spec PyProof.Rows L2
theorem web_small {n : Int} {ts : Ties} (h0 : 0 ≤ n) (h1 : n ≤ 100) (hl : ts.length ≤ 10000) (h : ts.all (fun p => decide (0 ≤ p.1 ∧ p.1 < p.2 ∧ p.2 < n)) = true) : Web n ts :=
  ⟨h0, h1, hl, fun p hp => of_decide_eq_true (List.all_eq_true.mp h p hp)⟩
theorem ask0 : ∃ c, m_sides_of 0 [] = some c ∧ m__law_same (enc c) (enc (⟨w_sides, ([] : List Int), ([] : List Int)⟩ : T3 Wd (List Int) (List Int))) = some true := by
  have W : Web 0 [] := web_small (by decide) (by decide) (by decide) rfl
  obtain ⟨x, ex, hx⟩ := sides_of_ok W
  refine ⟨x, ex, ?_⟩
  rcases hx with ⟨R, rfl, hR⟩ | ⟨c, rfl, _⟩
  · exact (hR.no_col (fun _ => true) fun p hp => by simp at hp).elim
  · exact m_same_refl (d := enc (⟨w_sides, ([] : List Int), ([] : List Int)⟩ : T3 Wd (List Int) (List Int))) (okS_t3 (by decide) (by decide)) (by decide)
theorem ask3 : ∃ c, m_sides_of 3 [(1, 2)] = some c ∧ m__law_same (enc c) (enc (⟨w_sides, ([(0 : Int), (1 : Int)] : List Int), ([(2 : Int)] : List Int)⟩ : T3 Wd (List Int) (List Int))) = some true := by
  have W : Web 3 [(1, 2)] := web_small (by decide) (by decide) (by decide) rfl
  obtain ⟨x, ex, hx⟩ := sides_of_ok W
  refine ⟨x, ex, ?_⟩
  have adj : ∀ {x y : Int}, Adj [(1, 2)] x y → (x = 1 ∧ y = 2) ∨ (x = 2 ∧ y = 1) := fun {x y} h => by
    rcases h with h | h
    · left; simpa using h
    · right
      have : y = 1 ∧ x = 2 := by simpa using h
      exact ⟨this.2, this.1⟩
  rcases hx with ⟨R, rfl, hR⟩ | ⟨c, rfl, hc, hroot⟩
  · refine (hR.no_col (fun v => decide (v = 2)) fun p hp => ?_).elim
    have : p = (1, 2) := by simpa using hp
    subst this; decide
  · have c0 : c 0 = true := hroot 0 0 (by decide) (by decide) ⟨.refl _, fun y hy => by obtain ⟨k, w⟩ := hy; exact (w.range W (by decide)).1⟩
    have c1 : c 1 = true := hroot 1 1 (by decide) (by decide) ⟨.refl _, fun y hy => hy.spread (P := fun z => 1 ≤ z) (by decide) fun u v _ a => by rcases adj a with h | h <;> omega⟩
    have c2 : c 2 = false := by
      have := hc (1, 2) (by simp)
      dsimp only at this
      rw [c1] at this
      cases h : c 2 with
      | true => exact absurd h.symm this
      | false => rfl
    have er : rangeL 0 3 = [0, 1, 2] := rfl
    have e1 : (rangeL 0 3).filter c = [0, 1] := by rw [er]; simp [c0, c1, c2]
    have e2 : ((rangeL 0 3).filter fun v => !c v) = [2] := by rw [er]; simp [c0, c1, c2]
    rw [e1, e2]
    exact m_same_refl (d := enc (⟨w_sides, ([(0 : Int), (1 : Int)] : List Int), ([(2 : Int)] : List Int)⟩ : T3 Wd (List Int) (List Int))) (okS_t3 (by decide) (by decide)) (by decide)
theorem m_law_ok : ∀ ns : List Int, ns.length ≤ 63 → m_law (fd0 ns) = some true := by
  intro ns _
  generalize fd0 ns = F0
  unfold m_law
  obtain ⟨d1, F1, e1, a1, b1⟩ := draw_ok F0 (m := 9) (by decide) (by decide)
  obtain ⟨d2, F2, e2, a2, b2⟩ := draw_ok F1 (m := 6) (by decide) (by decide)
  rw [bind_ok e1, bind_ok e2]
  have h5 : ∃ st : Fd × Int, (cond (decide ((d2 : Int) = (0 : Int))) ((m__law_draw F2 ((4 : Int))).bind fun c_6 => (some ((9 : Int) + c_6.1)).bind fun n_7 => some (c_6.2, n_7)) (some (F2, d1))) = some st ∧ 0 ≤ st.2 ∧ st.2 ≤ 12 := by
    obtain ⟨d6, F6, e6, a6, b6⟩ := draw_ok F2 (m := 4) (by decide) (by decide)
    cases decide (d2 = 0) with
    | true => exact ⟨(F6, 9 + d6), by rw [condt rfl, bind_ok e6, bind_ok rfl], by dsimp only; omega, by dsimp only; omega⟩
    | false => exact ⟨(F2, d1), condf rfl, a1, by dsimp only; omega⟩
  obtain ⟨⟨F5, n5⟩, e5, a5, b5⟩ := h5
  dsimp only at a5 b5
  obtain ⟨t8, F8, e8, W8, _⟩ := web_ok F5 a5 (by omega)
  rw [bind_ok e5, bind_ok e8, bind_ok (right_ok W8), condf (by rfl)]
  obtain ⟨d10, F10, e10, a10, b10⟩ := draw_ok F8 (m := 6) (by decide) (by decide)
  have h11 : ∃ m, atI ([(8 : Int), (12 : Int)] : (List Int)) (b2I (decide ((d10 : Int) = (0 : Int)))) = some m ∧ 0 < m ∧ m ≤ 12 := by
    cases decide (d10 = 0) with
    | true => exact ⟨12, rfl, by decide, by decide⟩
    | false => exact ⟨8, rfl, by decide, by decide⟩
  obtain ⟨m, e11, a11, b11⟩ := h11
  obtain ⟨n12, t12, F12, e12, r12, ⟨W12, l12⟩, c12, hc12⟩ := two_ok F10 a11 (by omega)
  have h14 : ∃ s, m__law_sides n12 t12 = some (some s) := by
    obtain ⟨cf, hcf, es⟩ := law_sides_ok W12
    rw [es]
    rw [condf]
    · exact ⟨_, rfl⟩
    · refine decide_eq_false ?_
      rw [List.length_pos_iff, Classical.not_not, List.filter_eq_nil_iff]
      intro p hp h
      have hr := W12.ok p hp
      obtain ⟨p1, r, hr1, hw1⟩ := hcf p.1 (by omega) (by omega)
      obtain ⟨p2, r', hr2, hw2⟩ := hcf p.2 (by omega) (by omega)
      have er := hr1.uniq hr2 (.adj (.inl hp))
      subst er
      have q1 := hc12.walk hw1
      have q2 := hc12.walk hw2
      have hne := hc12 p hp
      have h := of_decide_eq_true h
      apply hne
      rw [q1, q2]
      congr 2
      exact propext ⟨fun _ => by omega, fun _ => by omega⟩
  obtain ⟨s14, e14⟩ := h14
  rw [bind_ok e10, bind_ok e11, bind_ok e12, bind_ok (right_ok W12), condf (b := !true) rfl, bind_ok e14, bind_ok rfl, condf (by rfl)]
  obtain ⟨ps, e16, p1, p2⟩ := pairs_ok W12.n0 W12.n1
  rw [bind_ok e16, bind_ok (lenO_ok (by omega)), bind_ok rfl]
  have hfree : ∀ p ∈ (ps.filter fun a_18 => (!inB a_18 t12)).map (fun a_18 => a_18), 0 ≤ p.1 ∧ p.1 < p.2 ∧ p.2 < n12 := fun p hp => by
    rw [List.map_id'' (by intro _; rfl)] at hp
    exact p1 p (List.mem_filter.mp hp).1
  have hfl : ((ps.filter fun a_18 => (!inB a_18 t12)).map (fun a_18 => a_18)).length ≤ 10000 := by
    rw [List.length_map]
    exact Nat.le_trans (List.length_filter_le _ _) p2
  generalize (ps.filter fun a_18 => (!inB a_18 t12)).map (fun a_18 => a_18) = free at hfree hfl
  have h25 : ∃ F25, ((cond (decide ((0 : Int) < ((free).length : Int))) ((cond (decide (((t12).length : Int) < (40 : Int))) ((m__law_draw F12 (((free).length : Int))).bind fun c_20 => ((atI free c_20.1).bind fun x_21 => ((catO t12 ([x_21] : (List (Int × Int)))).bind fun x_22 => ((m__law_right n12 ((srtP x_22))).bind fun c_23 => some ((!c_23), c_20.2))))) (some (false, F12))).bind fun q_24 => some (q_24.1, q_24.2)) (some (false, F12)))) = some (false, F25) := by
    cases hd : decide ((0 : Int) < (free.length : Int)) with
    | false => exact ⟨F12, by rw [condf rfl]⟩
    | true =>
      rw [condt rfl]
      cases decide ((t12.length : Int) < 40) with
      | false => exact ⟨F12, by rw [condf rfl, bind_ok rfl]⟩
      | true =>
        have hd := of_decide_eq_true hd
        obtain ⟨d20, F20, e20, a20, b20⟩ := draw_ok F12 (m := (free.length : Int)) hd (by omega)
        obtain ⟨x, ex, ex'⟩ := atI_some a20 b20
        have hx := hfree x (List.mem_of_getElem? ex')
        have hl := W12.len
        -- one more tie: the list may have one more than before, the bound holds all the same
        have W : t12.length + 1 ≤ 10000 → Web n12 (srtP (t12 ++ [x])) := fun hh => ⟨W12.n0, W12.n1, by rw [(srtP_perm _).length_eq, List.length_append]; exact hh, fun p hp => by
          rw [(srtP_perm _).mem_iff] at hp
          rcases List.mem_append.mp hp with hp | hp
          · exact W12.ok p hp
          · have : p = x := by simpa using hp
            rw [this]; exact hx⟩
        by_cases hh : t12.length + 1 ≤ 10000
        · exact ⟨F20, by rw [condt rfl, bind_ok e20, bind_ok ex, bind_ok (catO_ok (by simp; omega)), bind_ok (right_ok (W hh)), bind_ok rfl]; rfl⟩
        · exact absurd (show t12.length + 1 ≤ 10000 by omega) hh
  obtain ⟨F25, e25⟩ := h25
  rw [bind_ok e25, condf (b := false) rfl]
  obtain ⟨d26, F26, e26, a26, b26⟩ := draw_ok F25 (m := 10) (by decide) (by decide)
  rw [bind_ok e26, bind_ok rfl]
  dsimp only
  have n0 : 3 ≤ 3 + d26 := by omega
  have n1 : 3 + d26 ≤ 12 := by omega
  generalize 3 + d26 = n at n0 n1
  obtain ⟨o, F28, e28, o1, o2, o3⟩ := order_ok F26 (n := n) (by omega) (by omega)
  obtain ⟨ys, e33, W, w1, w2⟩ := ring_web n0 (by omega) o1 o2 o3
  rw [bind_ok e28, bind_ok (rngO_ok (by omega)), bind_ok e33, bind_ok rfl, bind_ok (right_ok W)]
  have h36 : ∃ c, m_sides_of n (srtP ys) = some c ∧ (!decide (((decide (((Sum.elim (fun q : (Wd × (List Int)) => q.1) (fun q : (T3 Wd (List Int) (List Int)) => q.a) c) : Wd) = w_sides)) : Bool) = (decide (((n % (2 : Int)) : Int) = (0 : Int))))) = false := by
    obtain ⟨x, ex, hx⟩ := sides_of_ok W
    refine ⟨x, ex, ?_⟩
    have nw : ¬ w_ring = w_sides := by intro e; exact absurd (congrArg Subtype.val e) (by decide +kernel)
    rcases hx with ⟨R, rfl, hR⟩ | ⟨c, rfl, hc, _⟩
    · have : ¬ n % 2 = 0 := fun he => by
        obtain ⟨c, hc⟩ := ring_even n0 o1 o2 he w2
        exact hR.no_col c hc
      rw [decide_eq_false this]
      show (!decide (decide (w_ring = w_sides) = false)) = false
      rw [decide_eq_false nw]; rfl
    · have : n % 2 = 0 := by
        rcases Int.emod_two_eq n with h | h
        · exact h
        · exact ((ring_odd n0 o1 o2 o3 h w1).no_col c hc).elim
      rw [decide_eq_true this]
      show (!decide (decide (w_sides = w_sides) = true)) = false
      rw [decide_eq_true rfl]; rfl
  obtain ⟨c36, e36, h36⟩ := h36
  rw [condf (b := !true) rfl, bind_ok e36, h36, bind_ok rfl, condf (b := false) rfl]
  obtain ⟨c38, e38, h38⟩ := ask0
  obtain ⟨c40, e40, h40⟩ := ask3
  rw [bind_ok e38, bind_ok h38, condf (by rfl), bind_ok e40, bind_ok h40, condf (by rfl)]
  have W42 : Web 5 [(0, 1), (0, 2), (1, 2), (3, 4)] := web_small (by decide) (by decide) (by decide) rfl
  have W43 : Web 1 [] := web_small (by decide) (by decide) (by decide) rfl
  rw [bind_ok (right_ok W42), condt rfl, bind_ok (right_ok W43), bind_ok rfl]
end MM

set_option Elab.async false
set_option linter.all false
set_option maxRecDepth 100000
set_option maxHeartbeats 0
namespace MM
open PySem PySem.Spec PyProof.Rows L2
def dd_is_whole : He.DefD := ⟨("is_whole", none), "is_whole", "is_whole", defArgs s_is_whole, defBody s_is_whole, defScope s_is_whole, [], []⟩
def dd_are_wholes : He.DefD := ⟨("are_wholes", none), "are_wholes", "are_wholes", defArgs s_are_wholes, defBody s_are_wholes, defScope s_are_wholes, [], []⟩
def dd_are_between : He.DefD := ⟨("are_between", none), "are_between", "are_between", defArgs s_are_between, defBody s_are_between, defScope s_are_between, [], []⟩
def dd_tie_of : He.DefD := ⟨("tie_of", none), "tie_of", "tie_of", defArgs s_tie_of, defBody s_tie_of, defScope s_tie_of, [], []⟩
def dd_are_joined : He.DefD := ⟨("are_joined", none), "are_joined", "are_joined", defArgs s_are_joined, defBody s_are_joined, defScope s_are_joined, [], []⟩
def dd_neighbours : He.DefD := ⟨("neighbours", none), "neighbours", "neighbours", defArgs s_neighbours, defBody s_neighbours, defScope s_neighbours, [], []⟩
def dd_part_from : He.DefD := ⟨("part_from", none), "part_from", "part_from", defArgs s_part_from, defBody s_part_from, defScope s_part_from, [], []⟩
def dd_parts_of : He.DefD := ⟨("parts_of", none), "parts_of", "parts_of", defArgs s_parts_of, defBody s_parts_of, defScope s_parts_of, [], []⟩
def dd_ways_back : He.DefD := ⟨("ways_back", none), "ways_back", "ways_back", defArgs s_ways_back, defBody s_ways_back, defScope s_ways_back, [], []⟩
def dd_ring_of : He.DefD := ⟨("ring_of", none), "ring_of", "ring_of", defArgs s_ring_of, defBody s_ring_of, defScope s_ring_of, [], []⟩
def dd_sides_of : He.DefD := ⟨("sides_of", none), "sides_of", "sides_of", defArgs s_sides_of, defBody s_sides_of, defScope s_sides_of, [], []⟩
def dd_shows_ring : He.DefD := ⟨("shows_ring", none), "shows_ring", "shows_ring", defArgs s_shows_ring, defBody s_shows_ring, defScope s_shows_ring, [], []⟩
def dd__law_feed : He.DefD := ⟨("_law_feed", none), "_law_feed", "_law_feed", defArgs s__law_feed, defBody s__law_feed, defScope s__law_feed, [], []⟩
def dd__law_draw : He.DefD := ⟨("_law_draw", none), "_law_draw", "_law_draw", defArgs s__law_draw, defBody s__law_draw, defScope s__law_draw, [], []⟩
def dd__law_parts : He.DefD := ⟨("_law_parts", none), "_law_parts", "_law_parts", defArgs s__law_parts, defBody s__law_parts, defScope s__law_parts, [], []⟩
def dd__law_joined : He.DefD := ⟨("_law_joined", none), "_law_joined", "_law_joined", defArgs s__law_joined, defBody s__law_joined, defScope s__law_joined, [], []⟩
def dd__law_beside : He.DefD := ⟨("_law_beside", none), "_law_beside", "_law_beside", defArgs s__law_beside, defBody s__law_beside, defScope s__law_beside, [], []⟩
def dd__law_sides : He.DefD := ⟨("_law_sides", none), "_law_sides", "_law_sides", defArgs s__law_sides, defBody s__law_sides, defScope s__law_sides, [], []⟩
def dd__law_same : He.DefD := ⟨("_law_same", none), "_law_same", "_law_same", defArgs s__law_same, defBody s__law_same, defScope s__law_same, [], []⟩
def dd__law_whole : He.DefD := ⟨("_law_whole", none), "_law_whole", "_law_whole", defArgs s__law_whole, defBody s__law_whole, defScope s__law_whole, [], []⟩
def dd__law_wholes : He.DefD := ⟨("_law_wholes", none), "_law_wholes", "_law_wholes", defArgs s__law_wholes, defBody s__law_wholes, defScope s__law_wholes, [], []⟩
def dd__law_is_ring : He.DefD := ⟨("_law_is_ring", none), "_law_is_ring", "_law_is_ring", defArgs s__law_is_ring, defBody s__law_is_ring, defScope s__law_is_ring, [], []⟩
def dd__law_pairs : He.DefD := ⟨("_law_pairs", none), "_law_pairs", "_law_pairs", defArgs s__law_pairs, defBody s__law_pairs, defScope s__law_pairs, [], []⟩
def dd__law_web : He.DefD := ⟨("_law_web", none), "_law_web", "_law_web", defArgs s__law_web, defBody s__law_web, defScope s__law_web, [], []⟩
def dd__law_two_sided : He.DefD := ⟨("_law_two_sided", none), "_law_two_sided", "_law_two_sided", defArgs s__law_two_sided, defBody s__law_two_sided, defScope s__law_two_sided, [], []⟩
def dd__law_order : He.DefD := ⟨("_law_order", none), "_law_order", "_law_order", defArgs s__law_order, defBody s__law_order, defScope s__law_order, [], []⟩
def dd__law_tie : He.DefD := ⟨("_law_tie", none), "_law_tie", "_law_tie", defArgs s__law_tie, defBody s__law_tie, defScope s__law_tie, [], []⟩
def dd__law_right : He.DefD := ⟨("_law_right", none), "_law_right", "_law_right", defArgs s__law_right, defBody s__law_right, defScope s__law_right, [], []⟩
def dd_law : He.DefD := ⟨("law", none), "law", "law", defArgs s_law, defBody s_law, defScope s_law, [], []⟩
def fnL0 : List He.DefD := [dd_is_whole, dd_are_wholes, dd_are_between, dd_tie_of, dd_are_joined, dd_neighbours, dd_part_from, dd_parts_of, dd_ways_back, dd_ring_of, dd_sides_of, dd_shows_ring, dd__law_feed, dd__law_draw, dd__law_parts, dd__law_joined, dd__law_beside, dd__law_sides, dd__law_same, dd__law_whole, dd__law_wholes, dd__law_is_ring, dd__law_pairs, dd__law_web, dd__law_two_sided, dd__law_order, dd__law_tie, dd__law_right, dd_law]
def fnL : List He.DefD := fnL0
def faL0 : List He.Fa := [.glo "is_whole", .glo "are_wholes", .glo "are_between", .glo "tie_of", .glo "are_joined", .glo "neighbours", .glo "part_from", .glo "parts_of", .glo "ways_back", .glo "ring_of", .glo "sides_of", .glo "shows_ring", .glo "_law_feed", .glo "_law_draw", .glo "_law_parts", .glo "_law_joined", .glo "_law_beside", .glo "_law_sides", .glo "_law_same", .glo "_law_whole", .glo "_law_wholes", .glo "_law_is_ring", .glo "_law_pairs", .glo "_law_web", .glo "_law_two_sided", .glo "_law_order", .glo "_law_tie", .glo "_law_right", .glo "law", .free "abs"]
def faL1 : List He.Fa := [.free "all", .free "any", .free "bool", .free "int", .free "isinstance", .free "len", .free "list", .free "max", .free "min", .free "range", .free "sorted", .free "str", .free "tuple"]
def faL : List He.Fa := faL0 ++ faL1
abbrev RR : PySem.W.OpenRow := PySem.W.OpenLaw.row PySem.Challenge.rw_havenwebs_k66_whole_sides_or_odd_rings
abbrev hkH : PySem.W.Hook := He.hookD 4 faL fnL
def obH (s : PySem.W.SharedT) : He.AlD := He.obsDG 4 faL fnL (HandSHeadRun.getT s)
theorem obH_eq (s : PySem.W.SharedT) : obH s = hkH.obs s.abs := He.obsDG_eq (HandSHeadRun.getT_eq s)
def looseL0 : List Str := ["is_whole", "are_wholes", "are_between", "tie_of", "are_joined", "neighbours", "part_from", "parts_of", "ways_back", "ring_of", "sides_of", "shows_ring", "_law_feed", "_law_draw", "_law_parts", "_law_joined", "_law_beside", "_law_sides", "_law_same", "_law_whole", "_law_wholes", "_law_is_ring", "_law_pairs", "_law_web", "_law_two_sided", "_law_order", "_law_tie", "_law_right"]
def looseL : List Str := looseL0
theorem runH (w : World) : HandSHeadRun.RunEq RR (PySem.W.view RR.prog [32]) hkH obH 3000 looseL w := by
  intro os
  kernel_rfl
theorem factsH {P : Program} {w : World} {K : PySem.W.Frag} {h : Heap} {mg : Str → Option Value} {f : Addr} (X : K.In h) (G : h.Ns mainGlobals mg) (hfa : mg ("law" : Str) = some (.ref f)) (c : He.SaysD faL fnL K) :
    ∃ fd : FuncData, (∀ (s : Shared) (v : Value), BindsTo s fd ⟨[v], []⟩ [("script", v)]) ∧ ∀ base : Heap, K.In base → base.Ns mainGlobals mg → FnOk P w K mg base CX0 7 f fd ["script"] (spLaw K) := by
  obtain ⟨d_is_whole, F_is_whole⟩ := c.def_ 0 (d := dd_is_whole) rfl
  obtain ⟨d_are_wholes, F_are_wholes⟩ := c.def_ 1 (d := dd_are_wholes) rfl
  obtain ⟨d_are_between, F_are_between⟩ := c.def_ 2 (d := dd_are_between) rfl
  obtain ⟨d_tie_of, F_tie_of⟩ := c.def_ 3 (d := dd_tie_of) rfl
  obtain ⟨d_are_joined, F_are_joined⟩ := c.def_ 4 (d := dd_are_joined) rfl
  obtain ⟨d_neighbours, F_neighbours⟩ := c.def_ 5 (d := dd_neighbours) rfl
  obtain ⟨d_part_from, F_part_from⟩ := c.def_ 6 (d := dd_part_from) rfl
  obtain ⟨d_parts_of, F_parts_of⟩ := c.def_ 7 (d := dd_parts_of) rfl
  obtain ⟨d_ways_back, F_ways_back⟩ := c.def_ 8 (d := dd_ways_back) rfl
  obtain ⟨d_ring_of, F_ring_of⟩ := c.def_ 9 (d := dd_ring_of) rfl
  obtain ⟨d_sides_of, F_sides_of⟩ := c.def_ 10 (d := dd_sides_of) rfl
  obtain ⟨d_shows_ring, F_shows_ring⟩ := c.def_ 11 (d := dd_shows_ring) rfl
  obtain ⟨d__law_feed, F__law_feed⟩ := c.def_ 12 (d := dd__law_feed) rfl
  obtain ⟨d__law_draw, F__law_draw⟩ := c.def_ 13 (d := dd__law_draw) rfl
  obtain ⟨d__law_parts, F__law_parts⟩ := c.def_ 14 (d := dd__law_parts) rfl
  obtain ⟨d__law_joined, F__law_joined⟩ := c.def_ 15 (d := dd__law_joined) rfl
  obtain ⟨d__law_beside, F__law_beside⟩ := c.def_ 16 (d := dd__law_beside) rfl
  obtain ⟨d__law_sides, F__law_sides⟩ := c.def_ 17 (d := dd__law_sides) rfl
  obtain ⟨d__law_same, F__law_same⟩ := c.def_ 18 (d := dd__law_same) rfl
  obtain ⟨d__law_whole, F__law_whole⟩ := c.def_ 19 (d := dd__law_whole) rfl
  obtain ⟨d__law_wholes, F__law_wholes⟩ := c.def_ 20 (d := dd__law_wholes) rfl
  obtain ⟨d__law_is_ring, F__law_is_ring⟩ := c.def_ 21 (d := dd__law_is_ring) rfl
  obtain ⟨d__law_pairs, F__law_pairs⟩ := c.def_ 22 (d := dd__law_pairs) rfl
  obtain ⟨d__law_web, F__law_web⟩ := c.def_ 23 (d := dd__law_web) rfl
  obtain ⟨d__law_two_sided, F__law_two_sided⟩ := c.def_ 24 (d := dd__law_two_sided) rfl
  obtain ⟨d__law_order, F__law_order⟩ := c.def_ 25 (d := dd__law_order) rfl
  obtain ⟨d__law_tie, F__law_tie⟩ := c.def_ 26 (d := dd__law_tie) rfl
  obtain ⟨d__law_right, F__law_right⟩ := c.def_ 27 (d := dd__law_right) rfl
  obtain ⟨d_law, F_law⟩ := c.def_ 28 (d := dd_law) rfl
  have e := hfa.symm.trans (He.glo_ok X G (c.fact 28 (f := .glo "law") rfl))
  cases e
  have b := FunD.bindsA (ps := ["script"]) F_law fun _ _ _ _ _ _ us hl => match us, hl with | [_], _ => rfl
  exact ⟨_, fun s v => b s [v] rfl, fun base _ _ => ok_law (K := K) (mg := mg) ⟨_, d_is_whole, F_is_whole, He.glo_ok X G (c.fact 0 (f := .glo "is_whole") rfl), F_is_whole.kp, _, d_are_wholes, F_are_wholes, He.glo_ok X G (c.fact 1 (f := .glo "are_wholes") rfl), F_are_wholes.kp, _, d_are_between, F_are_between, He.glo_ok X G (c.fact 2 (f := .glo "are_between") rfl), F_are_between.kp, _, d_tie_of, F_tie_of, He.glo_ok X G (c.fact 3 (f := .glo "tie_of") rfl), F_tie_of.kp, _, d_are_joined, F_are_joined, He.glo_ok X G (c.fact 4 (f := .glo "are_joined") rfl), F_are_joined.kp, _, d_neighbours, F_neighbours, He.glo_ok X G (c.fact 5 (f := .glo "neighbours") rfl), F_neighbours.kp, _, d_part_from, F_part_from, He.glo_ok X G (c.fact 6 (f := .glo "part_from") rfl), F_part_from.kp, _, d_parts_of, F_parts_of, He.glo_ok X G (c.fact 7 (f := .glo "parts_of") rfl), F_parts_of.kp, _, d_ways_back, F_ways_back, He.glo_ok X G (c.fact 8 (f := .glo "ways_back") rfl), F_ways_back.kp, _, d_ring_of, F_ring_of, He.glo_ok X G (c.fact 9 (f := .glo "ring_of") rfl), F_ring_of.kp, _, d_sides_of, F_sides_of, He.glo_ok X G (c.fact 10 (f := .glo "sides_of") rfl), F_sides_of.kp, _, d_shows_ring, F_shows_ring, He.glo_ok X G (c.fact 11 (f := .glo "shows_ring") rfl), F_shows_ring.kp, _, d__law_feed, F__law_feed, He.glo_ok X G (c.fact 12 (f := .glo "_law_feed") rfl), F__law_feed.kp, _, d__law_draw, F__law_draw, He.glo_ok X G (c.fact 13 (f := .glo "_law_draw") rfl), F__law_draw.kp, _, d__law_parts, F__law_parts, He.glo_ok X G (c.fact 14 (f := .glo "_law_parts") rfl), F__law_parts.kp, _, d__law_joined, F__law_joined, He.glo_ok X G (c.fact 15 (f := .glo "_law_joined") rfl), F__law_joined.kp, _, d__law_beside, F__law_beside, He.glo_ok X G (c.fact 16 (f := .glo "_law_beside") rfl), F__law_beside.kp, _, d__law_sides, F__law_sides, He.glo_ok X G (c.fact 17 (f := .glo "_law_sides") rfl), F__law_sides.kp, _, d__law_same, F__law_same, He.glo_ok X G (c.fact 18 (f := .glo "_law_same") rfl), F__law_same.kp, _, d__law_whole, F__law_whole, He.glo_ok X G (c.fact 19 (f := .glo "_law_whole") rfl), F__law_whole.kp, _, d__law_wholes, F__law_wholes, He.glo_ok X G (c.fact 20 (f := .glo "_law_wholes") rfl), F__law_wholes.kp, _, d__law_is_ring, F__law_is_ring, He.glo_ok X G (c.fact 21 (f := .glo "_law_is_ring") rfl), F__law_is_ring.kp, _, d__law_pairs, F__law_pairs, He.glo_ok X G (c.fact 22 (f := .glo "_law_pairs") rfl), F__law_pairs.kp, _, d__law_web, F__law_web, He.glo_ok X G (c.fact 23 (f := .glo "_law_web") rfl), F__law_web.kp, _, d__law_two_sided, F__law_two_sided, He.glo_ok X G (c.fact 24 (f := .glo "_law_two_sided") rfl), F__law_two_sided.kp, _, d__law_order, F__law_order, He.glo_ok X G (c.fact 25 (f := .glo "_law_order") rfl), F__law_order.kp, _, d__law_tie, F__law_tie, He.glo_ok X G (c.fact 26 (f := .glo "_law_tie") rfl), F__law_tie.kp, _, d__law_right, F__law_right, He.glo_ok X G (c.fact 27 (f := .glo "_law_right") rfl), F__law_right.kp, _, d_law, F_law, He.glo_ok X G (c.fact 28 (f := .glo "law") rfl), F_law.kp, He.free_ok X G (c.fact 29 (f := .free "abs") rfl), He.free_ok X G (c.fact 30 (f := .free "all") rfl), He.free_ok X G (c.fact 31 (f := .free "any") rfl), He.free_ok X G (c.fact 32 (f := .free "bool") rfl), He.free_ok X G (c.fact 33 (f := .free "int") rfl), He.free_ok X G (c.fact 34 (f := .free "isinstance") rfl), He.free_ok X G (c.fact 35 (f := .free "len") rfl), He.free_ok X G (c.fact 36 (f := .free "list") rfl), He.free_ok X G (c.fact 37 (f := .free "max") rfl), He.free_ok X G (c.fact 38 (f := .free "min") rfl), He.free_ok X G (c.fact 39 (f := .free "range") rfl), He.free_ok X G (c.fact 40 (f := .free "sorted") rfl), He.free_ok X G (c.fact 41 (f := .free "str") rfl), He.free_ok X G (c.fact 42 (f := .free "tuple") rfl)⟩ m_law_ok⟩
end MM
open PySem PySem.W PySem.Calls PyProof.Rows
theorem PySem.Challenge.cw_havenwebs_k66_whole_sides_or_odd_rings_holds : PySem.Challenge.rw_havenwebs_k66_whole_sides_or_odd_rings.Holds := by
  w_on; o_law
  refine HandSHeadRun.head_any (r := OpenLaw.row PySem.Challenge.rw_havenwebs_k66_whole_sides_or_odd_rings) (q := view (OpenLaw.row PySem.Challenge.rw_havenwebs_k66_whole_sides_or_odd_rings).prog [32]) (H := MM.hkH) (ob := MM.obH) (M := 3000) (loose := MM.looseL) (d := HandSHeadRun.topDef (OpenLaw.row PySem.Challenge.rw_havenwebs_k66_whole_sides_or_odd_rings).prog 32) (kwd := []) MM.obH_eq
    (by kernel_rfl) (fun s => by kernel_rfl) MM.runH (by kernel_rfl) (by kernel_rfl) (by kernel_rfl) (by rfl) (by first | assumption | decide +kernel) (by decide +kernel) ⟨rfl, rfl, rfl, rfl, rfl, by decide +kernel⟩ ?hw ?hc
  case hw => w_witness2
  case hc =>
    refine L2.walk_ofE (l := PySem.Challenge.rw_havenwebs_k66_whole_sides_or_odd_rings) (n := 63) (k := 7) (x := "script") (CX := L2.CX0) rfl (by decide) (by kernel_rfl) ⟨rfl, by decide, by decide⟩ ?F (fun _ _ _ _ z => z)
    intro w mg fa h Y G hmg0
    obtain ⟨K, KX, c⟩ := Y
    have hmg : mg ("law" : PySem.Str) = some (.ref fa) := by
      have e : (HandSHeadRun.topDef (OpenLaw.row PySem.Challenge.rw_havenwebs_k66_whole_sides_or_odd_rings).prog 32).name = ("law" : PySem.Str) := by kernel_rfl
      rw [← e]
      exact hmg0
    obtain ⟨fd, hb, hF⟩ := MM.factsH (P := (PySem.Challenge.rw_havenwebs_k66_whole_sides_or_odd_rings).prog) (w := w) KX G hmg c
    exact ⟨K, fd, MM.spLaw K, KX, hb, fun H a ns hl _ hS => ⟨a, ns, rfl, hl, hS, fun _ => rfl⟩, hF⟩

