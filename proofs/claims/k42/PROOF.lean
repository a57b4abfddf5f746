import PyProof.Rows.All
import Wide.All
import OpenK.AllK
import Wide.FinOn
import HandS.ForMost
import HandS.ForExc
import HandS.IsInst
import HandS.TupAny
import HandS.Style
import HandS.Deep
import HandS.Wide
import HandS.TryMany
import PySem.Challenge.RW_umpirehall_k42_rule
set_option Elab.async false
set_option linter.all false
set_option maxRecDepth 100000
set_option maxHeartbeats 4000000
namespace PV
open PySem L2

abbrev D := PyData
/-- a list, a tuple of the written part -/
def KLi (K : PySem.W.Frag) (a : Addr) (xs : List V) : Prop := ∃ (o : Obj) (its : Array Value) (n : Nat), K.lookup a = some o ∧ o.cls = .type "list" ∧ o.dict = none ∧ o.data = .seq its n ∧ its.size ≤ sizeLine ∧ Vals xs its.toList
def KTu (K : PySem.W.Frag) (a : Addr) (xs : List V) : Prop := ∃ (o : Obj) (its : Array Value) (n : Nat), K.lookup a = some o ∧ o.cls = .type "tuple" ∧ o.data = .seq its n ∧ its.size ≤ sizeLine ∧ Vals xs its.toList
def kd : Key → D
  | .inl i => .int i
  | .inr x => .str x
-- the value v bears the datum d in H, off the places W
mutual
inductive Rp (K : PySem.W.Frag) (W : Addr → Prop) (H : Hp) : V → D → Prop
  | non : Rp K W H .non .none
  | bl (b : Bool) : Rp K W H (.bl b) (.bool b)
  | int (i : Int) : Rp K W H (.int i) (.int i)
  | str (x : Str) (ok : PyData.strOk x = true) : Rp K W H (.str x) (.str x)
  | lst {a : Addr} {vs : List V} {ds : List D} : ((¬ W a ∧ Rd H a (.lst vs)) ∨ KLi K a vs) → RpL K W H vs ds → Rp K W H (.ref a) (.list ds)
  | tup {a : Addr} {vs : List V} {ds : List D} : ((¬ W a ∧ Rd H a (.tup vs)) ∨ KTu K a vs) → RpL K W H vs ds → Rp K W H (.ref a) (.tuple ds)
  | dcK {a : Addr} {ks : List (Key × V)} {kvs : List (D × D)} : ¬ W a → Rd H a (.dK ks) → RpK K W H ks kvs → Rp K W H (.ref a) (.dict kvs)
  | dcT {a : Addr} {ks : List (List Key × V)} {kvs : List (D × D)} : ¬ W a → H a = some (.dT ks) → RpT K W H ks kvs → Rp K W H (.ref a) (.dict ((.none, .none) :: kvs))
inductive RpL (K : PySem.W.Frag) (W : Addr → Prop) (H : Hp) : List V → List D → Prop
  | nil : RpL K W H [] []
  | cons {v : V} {vs : List V} {d : D} {ds : List D} : Rp K W H v d → RpL K W H vs ds → RpL K W H (v :: vs) (d :: ds)
inductive RpK (K : PySem.W.Frag) (W : Addr → Prop) (H : Hp) : List (Key × V) → List (D × D) → Prop
  | nil : RpK K W H [] []
  | cons {k : Key} {v : V} {ks : List (Key × V)} {d : D} {ds : List (D × D)} : Rp K W H v d → RpK K W H ks ds → RpK K W H ((k, v) :: ks) ((kd k, d) :: ds)
inductive RpT (K : PySem.W.Frag) (W : Addr → Prop) (H : Hp) : List (List Key × V) → List (D × D) → Prop
  | nil : RpT K W H [] []
  | cons {k : List Key} {v : V} {ks : List (List Key × V)} {d : D} {ds : List (D × D)} : Rp K W H v d → RpT K W H ks ds → RpT K W H ((k, v) :: ks) ((.tuple (k.map kd), d) :: ds)
end

/-- what lies off W in H lies off W' in H' as it was -/
def Tr (W W' : Addr → Prop) (H H' : Hp) : Prop := ∀ a o, ¬ W a → H a = some o → ¬ W' a ∧ H' a = some o
section
variable {K : PySem.W.Frag} {W W' : Addr → Prop} {H H' : Hp}
theorem Tr.rd {a : Addr} {u : HO} (t : Tr W W' H H') (hw : ¬ W a) (h : Rd H a u) : ¬ W' a ∧ Rd H' a u := by
  rcases h with h | ⟨o, h⟩
  · exact ⟨(t a _ hw h).1, .inl (t a _ hw h).2⟩
  · exact ⟨(t a _ hw h).1, .inr ⟨o, (t a _ hw h).2⟩⟩
mutual
theorem Rp.tr (t : Tr W W' H H') : ∀ (d : D) {v : V}, Rp K W H v d → Rp K W' H' v d
  | .none, _, h => by cases h; exact .non
  | .bool _, _, h => by cases h; exact .bl _
  | .int _, _, h => by cases h; exact .int _
  | .str _, _, h => by
    cases h with
    | str _ ok => exact .str _ ok
  | .list ds, _, h => by
    cases h with
    | lst hs ha =>
      refine .lst ?_ (RpL.tr t ds ha)
      rcases hs with ⟨w, r⟩ | k
      · exact .inl (t.rd w r)
      · exact .inr k
  | .tuple ds, _, h => by
    cases h with
    | tup hs ha =>
      refine .tup ?_ (RpL.tr t ds ha)
      rcases hs with ⟨w, r⟩ | k
      · exact .inl (t.rd w r)
      · exact .inr k
  | .dict kvs, _, h => by
    cases h with
    | dcK w r k => exact .dcK (t.rd w r).1 (t.rd w r).2 (RpK.tr t kvs k)
    | dcT w r k => exact .dcT (t _ _ w r).1 (t _ _ w r).2 (RpT.tr t _ k)
theorem RpL.tr (t : Tr W W' H H') : ∀ (ds : List D) {vs : List V}, RpL K W H vs ds → RpL K W' H' vs ds
  | [], _, h => by cases h; exact .nil
  | d :: ds, _, h => by
    cases h with
    | cons h1 h2 => exact .cons (Rp.tr t d h1) (RpL.tr t ds h2)
theorem RpK.tr (t : Tr W W' H H') : ∀ (ds : List (D × D)) {vs : List (Key × V)}, RpK K W H vs ds → RpK K W' H' vs ds
  | [], _, h => by cases h; exact .nil
  | (_, d) :: ds, _, h => by
    cases h with
    | cons h1 h2 => exact .cons (Rp.tr t d h1) (RpK.tr t ds h2)
theorem RpT.tr (t : Tr W W' H H') : ∀ (ds : List (D × D)) {vs : List (List Key × V)}, RpT K W H vs ds → RpT K W' H' vs ds
  | [], _, h => by cases h; exact .nil
  | (_, d) :: ds, _, h => by
    cases h with
    | cons h1 h2 => exact .cons (Rp.tr t d h1) (RpT.tr t ds h2)
end
theorem RpL.length : ∀ {vs : List V} {ds : List D}, RpL K W H vs ds → vs.length = ds.length
  | _, _, .nil => rfl
  | _, _, .cons _ t => by rw [List.length_cons, List.length_cons, t.length]
theorem RpL.get : ∀ {vs : List V} {ds : List D} {i : Nat} {d : D}, RpL K W H vs ds → ds[i]? = some d → ∃ v, vs[i]? = some v ∧ Rp K W H v d
  | _, _, _, _, .nil, h => by simp at h
  | _, _, 0, _, .cons h _, e => by simp at e; subst e; exact ⟨_, rfl, h⟩
  | _, _, i + 1, _, .cons _ t, e => by
    obtain ⟨v, h1, h2⟩ := RpL.get (i := i) t (by simpa using e)
    exact ⟨v, by simpa using h1, h2⟩
theorem RpL.append : ∀ {vs ws : List V} {ds es : List D}, RpL K W H vs ds → RpL K W H ws es → RpL K W H (vs ++ ws) (ds ++ es)
  | _, _, _, _, .nil, r => r
  | _, _, _, _, .cons h t, r => .cons h (t.append r)
theorem RpL.take : ∀ {vs : List V} {ds : List D} (n : Nat), RpL K W H vs ds → RpL K W H (vs.take n) (ds.take n)
  | _, _, 0, _ => by simp; exact .nil
  | _, _, _ + 1, .nil => by simp; exact .nil
  | _, _, n + 1, .cons h t => by simp only [List.take_succ_cons]; exact .cons h (t.take n)
theorem RpL.drop : ∀ {vs : List V} {ds : List D} (n : Nat), RpL K W H vs ds → RpL K W H (vs.drop n) (ds.drop n)
  | _, _, 0, h => by simpa using h
  | _, _, _ + 1, .nil => by simp; exact .nil
  | _, _, n + 1, .cons h t => by simp only [List.drop_succ_cons]; exact t.drop n
theorem RpL.reverse {vs : List V} {ds : List D} (h : RpL K W H vs ds) : RpL K W H vs.reverse ds.reverse := by
  have go : ∀ {vs : List V} {ds : List D}, RpL K W H vs ds → ∀ {ws : List V} {es : List D}, RpL K W H ws es → RpL K W H (vs.reverseAux ws) (ds.reverseAux es) := by
    intro vs
    induction vs with
    | nil => intro ds h ws es r; cases h; exact r
    | cons v vs ih => intro ds h ws es r; cases h with | cons h1 h2 => exact ih h2 (.cons h1 r)
  exact go h .nil
theorem RpL.set : ∀ {vs : List V} {ds : List D} (i : Nat) {v : V} {d : D}, RpL K W H vs ds → Rp K W H v d → RpL K W H (vs.set i v) (ds.set i d)
  | _, _, _, _, _, .nil, _ => .nil
  | _, _, 0, _, _, .cons _ t, r => .cons r t
  | _, _, i + 1, _, _, .cons h t, r => .cons h (t.set i r)
theorem RpL.dropLast {vs : List V} {ds : List D} (h : RpL K W H vs ds) : RpL K W H vs.dropLast ds.dropLast := by
  rw [List.dropLast_eq_take, List.dropLast_eq_take, h.length]
  exact h.take _
theorem RpL.of_get : ∀ {vs : List V} {ds : List D}, vs.length = ds.length → (∀ (i : Nat) v d, vs[i]? = some v → ds[i]? = some d → Rp K W H v d) → RpL K W H vs ds
  | [], [], _, _ => .nil
  | v :: vs, d :: ds, hl, h => .cons (h 0 v d rfl rfl) (RpL.of_get (by simpa using hl) fun i v d h1 h2 => h (i + 1) v d (by simpa using h1) (by simpa using h2))
  | [], _ :: _, hl, _ => by simp at hl
  | _ :: _, [], hl, _ => by simp at hl
end

/-- what an owned place bears -/
def RpO (K : PySem.W.Frag) (W : Addr → Prop) (H : Hp) (a : Addr) : D → Prop
  | .list ds => ∃ vs, H a = some (.lst vs) ∧ RpL K W H vs ds
  | .dict kvs => (∃ ks, H a = some (.dK ks) ∧ RpK K W H ks kvs) ∨ ∃ ks kvs', kvs = (.none, .none) :: kvs' ∧ H a = some (.dT ks) ∧ RpT K W H ks kvs'
  | _ => False
/-- the root may be an owned place -/
def Rp1 (K : PySem.W.Frag) (W : Addr → Prop) (H : Hp) (v : V) (d : D) : Prop := Rp K W H v d ∨ ∃ a, v = V.ref a ∧ RpO K W H a d

theorem RpO.tr {K : PySem.W.Frag} {W W' : Addr → Prop} {H H' : Hp} {a : Addr} {d : D} (t : Tr W W' H H') (ha : H' a = H a) (h : RpO K W H a d) : RpO K W' H' a d := by
  cases d with
  | list ds =>
    obtain ⟨vs, e, r⟩ := h
    exact ⟨vs, by rw [ha]; exact e, RpL.tr t ds r⟩
  | dict kvs =>
    rcases h with ⟨ks, e, r⟩ | ⟨ks, kvs', e0, e, r⟩
    · exact .inl ⟨ks, by rw [ha]; exact e, RpK.tr t kvs r⟩
    · exact .inr ⟨ks, kvs', e0, by rw [ha]; exact e, RpT.tr t kvs' r⟩
  | _ => exact h
theorem RpO.some {K : PySem.W.Frag} {W : Addr → Prop} {H : Hp} {a : Addr} {d : D} (h : RpO K W H a d) : H a ≠ none := by
  cases d with
  | list ds => obtain ⟨vs, e, _⟩ := h; rw [e]; simp
  | dict kvs => rcases h with ⟨ks, e, _⟩ | ⟨ks, _, _, e, _⟩ <;> (rw [e]; simp)
  | _ => exact h.elim
theorem RpO.rp {K : PySem.W.Frag} {W : Addr → Prop} {H : Hp} {a : Addr} {d : D} (h : RpO K W H a d) (hw : ¬ W a) : Rp K W H (.ref a) d := by
  cases d with
  | list ds => obtain ⟨vs, e, r⟩ := h; exact .lst (.inl ⟨hw, .inl e⟩) r
  | dict kvs =>
    rcases h with ⟨ks, e, r⟩ | ⟨ks, kvs', e0, e, r⟩
    · exact .dcK hw (.inl e) r
    · rw [e0]; exact .dcT hw e r
  | _ => exact h.elim

/-! ### the state of a frame -/
inductive Sl
  | no
  | val (d : D)
  | own (d : D)
  | io (d : D)
abbrev Rho := List Sl
/-- the owned content of a slot -/
def Sl.od : Sl → Option D
  | .own d => some d
  | .io d => some d
  | _ => none
/-- any content -/
def Sl.ct : Sl → Option D
  | .own d => some d
  | .io d => some d
  | .val d => some d
  | .no => none

structure Pin where
  v : V
  d : D
  t : Bool
structure Cfg where
  K : PySem.W.Frag
  /-- the addresses of the exception classes, and the field that each carries -/
  C : Nat → Addr
  nm : Nat → Option Str
  /-- places that this frame may not write; places that its results are to avoid; the heap at the entry; the in-out argument's place -/
  P : Addr → Prop
  M : Addr → Prop
  H0 : Hp
  a : Addr

def OwnAt (ρ : Rho) (σ : L2.St) (i : Nat) (a : Addr) : Prop := ∃ s d, ρ[i]? = some s ∧ s.od = some d ∧ σ[i]? = some (some (V.ref a))
def PinR (g : Cfg) (W : Addr → Prop) (H : Hp) (p : Pin) : Prop :=
  if p.t = true then ∃ a, p.v = V.ref a ∧ W a ∧ ¬ g.P a ∧ RpO g.K W H a p.d else Rp g.K W H p.v p.d

structure StR (g : Cfg) (W : Addr → Prop) (H : Hp) (ρ : Rho) (σ : L2.St) (ext : List Pin) : Prop where
  len : σ.length = ρ.length
  m0 : ∀ a, g.M a → W a
  al : ∀ a, W a → H a ≠ none
  dom : ∀ a, g.H0 a ≠ none → H a ≠ none
  fr : ∀ a o, g.P a → g.H0 a = some o → H a = some o
  val : ∀ (i : Nat) d, ρ[i]? = some (Sl.val d) → ∃ v, σ[i]? = some (some v) ∧ Rp g.K W H v d
  own : ∀ (i : Nat) s d, ρ[i]? = some s → s.od = some d → ∃ a, σ[i]? = some (some (V.ref a)) ∧ W a ∧ ¬ g.P a ∧ RpO g.K W H a d
  io : ∀ (i : Nat) d, ρ[i]? = some (Sl.io d) → σ[i]? = some (some (V.ref g.a))
  inj : ∀ (i j : Nat) a, OwnAt ρ σ i a → OwnAt ρ σ j a → i = j
  pin : ∀ p ∈ ext, PinR g W H p
  pown : ∀ p ∈ ext, p.t = true → ∀ (i : Nat) a, OwnAt ρ σ i a → p.v ≠ V.ref a
  pinj : ext.Pairwise fun p q => p.t = true → q.t = true → p.v ≠ q.v

section
variable {g : Cfg} {W W' : Addr → Prop} {H H' : Hp} {ρ : Rho} {σ : L2.St} {ext : List Pin}
theorem PinR.tr {p : Pin} (t : Tr W W' H H') (h : PinR g W H p) (h2 : ∀ a, p.t = true → p.v = V.ref a → W' a ∧ H' a = H a) : PinR g W' H' p := by
  unfold PinR at h ⊢
  split
  · rename_i ht
    rw [if_pos ht] at h
    obtain ⟨a, e, w, np, r⟩ := h
    obtain ⟨w', e'⟩ := h2 a ht e
    exact ⟨a, e, w', np, r.tr t e'⟩
  · rename_i ht
    rw [if_neg ht] at h
    exact Rp.tr t _ h
/-- the heap grows -/
theorem StR.grow (h : StR g W H ρ σ ext) (e : ∀ a o, H a = some o → H' a = some o) : StR g W H' ρ σ ext := by
  have t : Tr W W H H' := fun a o hw ho => ⟨hw, e a o ho⟩
  have k : ∀ a, H a ≠ none → H' a = H a := fun a ha => by
    cases q : H a with
    | none => exact absurd q ha
    | some o => rw [e a o q]
  refine ⟨h.len, h.m0, fun a ha => by rw [k a (h.al a ha)]; exact h.al a ha, fun a ha => by rw [k a (h.dom a ha)]; exact h.dom a ha, fun a o hp ho => e a o (h.fr a o hp ho), ?_, ?_, h.io, h.inj, ?_, h.pown, h.pinj⟩
  · intro i d hi
    obtain ⟨v, e1, r⟩ := h.val i d hi
    exact ⟨v, e1, Rp.tr t _ r⟩
  · intro i s d hi hs
    obtain ⟨a, e1, w, np, r⟩ := h.own i s d hi hs
    exact ⟨a, e1, w, np, r.tr t (k a r.some)⟩
  · intro p hp
    refine (h.pin p hp).tr t fun a ht hv => ?_
    have q := h.pin p hp
    unfold PinR at q
    rw [if_pos ht] at q
    obtain ⟨b, e1, w, _, r⟩ := q
    rw [hv] at e1; cases e1
    exact ⟨w, k _ r.some⟩
theorem grow_upd {p : Addr} {o : HO} (hp : H p = none) : ∀ a u, H a = some u → upd H p o a = some u := fun a u h => by
  rw [upd_ne (ne_of_none h hp)]; exact h
/-- fewer pins -/
theorem StR.sub {ext' : List Pin} (h : StR g W H ρ σ ext) (s : ext'.Sublist ext) : StR g W H ρ σ ext' :=
  ⟨h.len, h.m0, h.al, h.dom, h.fr, h.val, h.own, h.io, h.inj, fun p hp => h.pin p (s.subset hp), fun p hp => h.pown p (s.subset hp), h.pinj.sublist s⟩
theorem StR.pop {p : Pin} (h : StR g W H ρ σ (p :: ext)) : StR g W H ρ σ ext := h.sub (List.sublist_cons_self _ _)
/-- a value is noted -/
theorem StR.note {v : V} {d : D} (h : StR g W H ρ σ ext) (r : Rp g.K W H v d) : StR g W H ρ σ (⟨v, d, false⟩ :: ext) := by
  refine ⟨h.len, h.m0, h.al, h.dom, h.fr, h.val, h.own, h.io, h.inj, fun p hp => ?_, fun p hp ht => ?_, ?_⟩
  · rcases List.mem_cons.mp hp with e | hp
    · subst e; exact (if_neg (show ¬ (false = true) by simp)).mpr r
    · exact h.pin p hp
  · rcases List.mem_cons.mp hp with e | hp
    · subst e; cases ht
    · exact h.pown p hp ht
  · refine List.pairwise_cons.mpr ⟨fun q _ ht => ?_, h.pinj⟩
    cases ht
theorem StR.pin0 {v : V} {d : D} (h : StR g W H ρ σ (⟨v, d, false⟩ :: ext)) : Rp g.K W H v d := by
  have q := h.pin _ List.mem_cons_self
  unfold PinR at q
  rwa [if_neg (by simp)] at q
theorem StR.pin1 {v : V} {d : D} (h : StR g W H ρ σ (⟨v, d, true⟩ :: ext)) : ∃ a, v = V.ref a ∧ W a ∧ ¬ g.P a ∧ RpO g.K W H a d := by
  have q := h.pin _ List.mem_cons_self
  unfold PinR at q
  rwa [if_pos rfl] at q
theorem StR.mem0 {p : Pin} (h : StR g W H ρ σ ext) (hp : p ∈ ext) (ht : p.t = false) : Rp g.K W H p.v p.d := by
  have q := h.pin _ hp
  unfold PinR at q
  rwa [if_neg (by rw [ht]; simp)] at q
theorem StR.h0 (h : StR g W H ρ σ ext) {p : Addr} (hp : H p = none) : g.H0 p = none := by
  cases q : g.H0 p with
  | none => rfl
  | some o => exact absurd hp (h.dom p (by rw [q]; simp))
/-- a new place, taken -/
theorem StR.fresh {p : Addr} {d : D} (h : StR g W H ρ σ ext) (e : ∀ a u, H a = some u → H' a = some u) (hp : H p = none) (hP : ∀ a, g.P a → g.H0 a ≠ none) (r : RpO g.K (fun a => W a ∨ a = p) H' p d) : StR g (fun a => W a ∨ a = p) H' ρ σ (⟨.ref p, d, true⟩ :: ext) := by
  have t : Tr W (fun a => W a ∨ a = p) H H' := fun a u hw ho => ⟨fun z => z.elim hw (ne_of_none ho hp), e a u ho⟩
  have np : ¬ g.P p := fun z => hP p z (h.h0 hp)
  have k : ∀ a, H a ≠ none → H' a = H a := fun a ha => by
    cases q : H a with
    | none => exact absurd q ha
    | some o => rw [e a o q]
  have no : ∀ i a, OwnAt ρ σ i a → a ≠ p := fun i a ⟨s, d', e1, e2, e3⟩ z => by
    obtain ⟨b, e4, w, _, _⟩ := h.own i s d' e1 e2
    rw [e3] at e4; cases e4
    exact h.al _ w (by rw [z]; exact hp)
  refine ⟨h.len, fun a ha => .inl (h.m0 a ha), fun a ha => ?_, fun a ha => by rw [k a (h.dom a ha)]; exact h.dom a ha, fun a u hq ho => e a u (h.fr a u hq ho), ?_, ?_, h.io, h.inj, ?_, ?_, ?_⟩
  · rcases ha with ha | ha
    · rw [k a (h.al a ha)]; exact h.al a ha
    · rw [ha]; exact r.some
  · intro i d' hi
    obtain ⟨v, e1, r1⟩ := h.val i d' hi
    exact ⟨v, e1, Rp.tr t _ r1⟩
  · intro i s d' hi hs
    obtain ⟨a, e1, w, np1, r1⟩ := h.own i s d' hi hs
    exact ⟨a, e1, .inl w, np1, r1.tr t (k a r1.some)⟩
  · intro q hq
    rcases List.mem_cons.mp hq with e1 | hq
    · subst e1; exact (if_pos (show true = true from rfl)).mpr ⟨p, rfl, .inr rfl, np, r⟩
    · refine (h.pin q hq).tr t fun a ht hv => ?_
      have z := h.pin q hq
      unfold PinR at z
      rw [if_pos ht] at z
      obtain ⟨b, e1, w, _, r1⟩ := z
      rw [hv] at e1; cases e1
      exact ⟨.inl w, k _ r1.some⟩
  · intro q hq ht i a ho
    rcases List.mem_cons.mp hq with e1 | hq
    · subst e1
      intro z
      have z' : V.ref p = V.ref a := z
      cases z'
      exact no i _ ho rfl
    · exact h.pown q hq ht i a ho
  · refine List.pairwise_cons.mpr ⟨fun q hq _ ht z => ?_, h.pinj⟩
    have z1 := h.pin q hq
    unfold PinR at z1
    rw [if_pos ht] at z1
    obtain ⟨b, e1, w, _, _⟩ := z1
    have z' : V.ref p = q.v := z
    rw [e1] at z'; cases z'
    exact h.al _ w hp
/-- a taken value becomes a shared one -/
theorem StR.freeze {v : V} {d : D} (h : StR g W H ρ σ (⟨v, d, true⟩ :: ext)) (hM : ∀ a, g.M a → g.P a) : ∃ W', StR g W' H ρ σ (⟨v, d, false⟩ :: ext) := by
  obtain ⟨p, rfl, w, np, r⟩ := h.pin1
  refine ⟨fun a => W a ∧ a ≠ p, ?_⟩
  have t : Tr W (fun a => W a ∧ a ≠ p) H H := fun a u hw ho => ⟨fun z => hw z.1, ho⟩
  refine ⟨h.len, fun a ha => ⟨h.m0 a ha, fun z => np (by rw [← z]; exact hM a ha)⟩, fun a ha => h.al a ha.1, h.dom, h.fr, ?_, ?_, h.io, h.inj, ?_, ?_, ?_⟩
  · intro i d' hi
    obtain ⟨v, e1, r1⟩ := h.val i d' hi
    exact ⟨v, e1, Rp.tr t _ r1⟩
  · intro i s d' hi hs
    obtain ⟨a, e1, w1, np1, r1⟩ := h.own i s d' hi hs
    refine ⟨a, e1, ⟨w1, fun z => ?_⟩, np1, r1.tr t rfl⟩
    exact h.pown _ List.mem_cons_self rfl i a ⟨s, d', hi, hs, e1⟩ (by rw [z])
  · intro q hq
    rcases List.mem_cons.mp hq with e1 | hq
    · subst e1; exact (if_neg (show ¬ (false = true) by simp)).mpr ((r.tr t rfl).rp fun z => z.2 rfl)
    · refine (h.pin q (List.mem_cons_of_mem _ hq)).tr t fun a ht hv => ⟨?_, rfl⟩
      have z := h.pin q (List.mem_cons_of_mem _ hq)
      unfold PinR at z
      rw [if_pos ht] at z
      obtain ⟨b, e1, w1, _, r1⟩ := z
      rw [hv] at e1; cases e1
      refine ⟨w1, fun z => ?_⟩
      have := (List.pairwise_cons.mp h.pinj).1 q hq rfl ht
      exact this (by rw [hv, z])
  · intro q hq ht
    rcases List.mem_cons.mp hq with e1 | hq
    · subst e1; cases ht
    · exact h.pown q (List.mem_cons_of_mem _ hq) ht
  · refine List.pairwise_cons.mpr ⟨fun q _ ht => ?_, (List.pairwise_cons.mp h.pinj).2⟩
    cases ht
/-- an owned place is written: a slot's -/
theorem StR.put {i : Nat} {s : Sl} {d d' : D} {a : Addr} (h : StR g W H ρ σ ext) (hi : ρ[i]? = some s) (hs : s.od = some d) (ha : σ[i]? = some (some (V.ref a))) (s' : Sl) (hs' : s'.od = some d') (hio : ∀ e, s' = Sl.io e → ∃ e', s = Sl.io e')
    (e : ∀ b u, b ≠ a → H b = some u → H' b = some u) (r : RpO g.K W H' a d') : StR g W H' (ρ.set i s') σ ext := by
  obtain ⟨b, e1, w, np, r0⟩ := h.own i s d hi hs
  rw [ha] at e1; cases e1
  have t : Tr W W H H' := fun b u hw ho => ⟨hw, e b u (fun z => hw (by rw [z]; exact w)) ho⟩
  have k : ∀ b, b ≠ a → H b ≠ none → H' b = H b := fun b hb hn => by
    cases q : H b with
    | none => exact absurd q hn
    | some u => rw [e b u hb q]
  have kn : ∀ b, H b ≠ none → H' b ≠ none := fun b hn => by
    by_cases hb : b = a
    · rw [hb]; exact r.some
    · rw [k b hb hn]; exact hn
  have hlt : i < ρ.length := (List.getElem?_eq_some_iff.mp hi).1
  have old : ∀ (j : Nat) b, OwnAt (ρ.set i s') σ j b → OwnAt ρ σ j b := fun j b ⟨u, d2, e1, e2, e3⟩ => by
    by_cases hj : j = i
    · subst hj
      rw [List.getElem?_set_self hlt] at e1; cases e1
      exact ⟨s, d, hi, hs, e3⟩
    · rw [List.getElem?_set_ne (Ne.symm hj)] at e1
      exact ⟨u, d2, e1, e2, e3⟩
  have hoa : OwnAt ρ σ i a := ⟨s, d, hi, hs, ha⟩
  refine ⟨by rw [List.length_set]; exact h.len, h.m0, fun b hb => kn b (h.al b hb), fun b hb => kn b (h.dom b hb), fun b u hp ho => e b u (fun z => np (by rw [← z]; exact hp)) (h.fr b u hp ho), ?_, ?_, ?_, fun j l b h1 h2 => h.inj j l b (old _ _ h1) (old _ _ h2), ?_, fun q hq ht j b ho => h.pown q hq ht j b (old _ _ ho), h.pinj⟩
  · intro j d2 hj
    by_cases hji : j = i
    · subst hji
      rw [List.getElem?_set_self hlt] at hj
      cases hj
      cases hs'
    · rw [List.getElem?_set_ne (Ne.symm hji)] at hj
      obtain ⟨v, e1, r1⟩ := h.val j d2 hj
      exact ⟨v, e1, Rp.tr t _ r1⟩
  · intro j s2 d2 hj hs2
    by_cases hji : j = i
    · subst hji
      rw [List.getElem?_set_self hlt] at hj; cases hj
      rw [hs'] at hs2; cases hs2
      exact ⟨a, ha, w, np, r⟩
    · rw [List.getElem?_set_ne (Ne.symm hji)] at hj
      obtain ⟨b, e1, w1, np1, r1⟩ := h.own j s2 d2 hj hs2
      have hb : b ≠ a := fun z => hji (h.inj j i a ⟨s2, d2, hj, hs2, by rw [← z]; exact e1⟩ hoa)
      exact ⟨b, e1, w1, np1, r1.tr t (k b hb r1.some)⟩
  · intro j d2 hj
    by_cases hji : j = i
    · subst hji
      rw [List.getElem?_set_self hlt] at hj
      have hj' : s' = Sl.io d2 := Option.some.inj hj
      obtain ⟨e', he⟩ := hio d2 hj'
      exact h.io j e' (by rw [hi, he])
    · rw [List.getElem?_set_ne (Ne.symm hji)] at hj
      exact h.io j d2 hj
  · intro q hq
    refine (h.pin q hq).tr t fun b ht hv => ?_
    have z := h.pin q hq
    unfold PinR at z
    rw [if_pos ht] at z
    obtain ⟨b', e1, w1, _, r1⟩ := z
    rw [hv] at e1; cases e1
    have hb : b ≠ a := fun z => h.pown q hq ht i a hoa (by rw [hv, z])
    exact ⟨w1, k b hb r1.some⟩
end
end PV
namespace PV
open PySem L2

inductive Rs (α : Type)
  | ok (a : α) (ρ : Rho)
  | ex (c : Nat) (x : D) (ρ : Rho)
  | no
def Rs.bind {α β : Type} (r : Rs α) (f : α → Rho → Rs β) : Rs β := match r with
  | .ok a ρ => f a ρ
  | .ex c x ρ => .ex c x ρ
  | .no => .no
abbrev Ev := Rho → Rs (D × Bool)
inductive AV
  | v (d : D)
  | r (i : Nat)
abbrev EvA := Rho → Rs AV
abbrev EvL := Rho → Rs (List AV)
abbrev EvT := Rho → Rs Bool
def slCt (ρ : Rho) (i : Nat) : Option D := match ρ[i]? with
  | some s => s.ct
  | none => none
def AV.ct (ρ : Rho) : AV → Option D
  | .v d => some d
  | .r i => slCt ρ i

def XR (g : Cfg) (W : Addr → Prop) (H : Hp) (dd : Option Addr) (c : Nat) (x : D) : Prop := match g.nm c with
  | none => dd = none ∧ x = .none
  | some f => ∃ p v, dd = some p ∧ H p = some (.xd [(f, v)]) ∧ Rp g.K W H v x
def exW (g : Cfg) (Wx : WX) (σ : L2.St) (ext : List Pin) (c : Nat) (x : D) (ρ' : Rho) : Prop := ∀ W' H' dd, StR g W' H' ρ' σ ext → XR g W' H' dd c x → Wx (.ref (g.C c)) dd σ H'
theorem exW.ext {g : Cfg} {Wx : WX} {σ : L2.St} {ext ext' : List Pin} {c : Nat} {x : D} {ρ' : Rho} (h : exW g Wx σ ext c x ρ') (s : ext.Sublist ext') : exW g Wx σ ext' c x ρ' := fun W' H' dd S X => h W' H' dd (S.sub s) X
def okW (g : Cfg) (σ : L2.St) (ext : List Pin) (r : D × Bool) (ρ' : Rho) (Q : VK) : Prop := ∀ W' v H', StR g W' H' ρ' σ (⟨v, r.1, r.2⟩ :: ext) → Q v H'

/-- the reading of an expression whose meaning is f -/
def tD (g : Cfg) (Wx : WX) (f : Ev) : TE := fun σ H Q => ∃ W ρ ext, StR g W H ρ σ ext ∧ match f ρ with
  | .ok r ρ' => okW g σ ext r ρ' Q
  | .ex c x ρ' => exW g Wx σ ext c x ρ'
  | .no => False
def avPin (v : V) : AV → List Pin
  | .v d => [⟨v, d, false⟩]
  | .r _ => []
def avR (σ : L2.St) (v : V) : AV → Prop
  | .v _ => True
  | .r i => σ[i]? = some (some v)
def tA (g : Cfg) (Wx : WX) (f : EvA) : TE := fun σ H Q => ∃ W ρ ext, StR g W H ρ σ ext ∧ match f ρ with
  | .ok a ρ' => ∀ W' v H', StR g W' H' ρ' σ (avPin v a ++ ext) → avR σ v a → Q v H'
  | .ex c x ρ' => exW g Wx σ ext c x ρ'
  | .no => False
def avPins : List V → List AV → List Pin
  | v :: vs, a :: as => avPin v a ++ avPins vs as
  | _, _ => []
def avRs (σ : L2.St) : List V → List AV → Prop
  | [], [] => True
  | v :: vs, a :: as => avR σ v a ∧ avRs σ vs as
  | _, _ => False
def tAL (g : Cfg) (Wx : WX) (f : EvL) : TA := fun σ H Q => ∃ W ρ ext, StR g W H ρ σ ext ∧ match f ρ with
  | .ok as ρ' => ∀ W' vs H', StR g W' H' ρ' σ (avPins vs as ++ ext) → avRs σ vs as → Q vs H'
  | .ex c x ρ' => exW g Wx σ ext c x ρ'
  | .no => False
def tT (g : Cfg) (Wx : WX) (f : EvT) : TT := fun σ H Q => ∃ W ρ ext, StR g W H ρ σ ext ∧ match f ρ with
  | .ok b ρ' => ∀ W' H', StR g W' H' ρ' σ ext → Q b H'
  | .ex c x ρ' => exW g Wx σ ext c x ρ'
  | .no => False

section
variable {g : Cfg} {Wx : WX} {W : Addr → Prop} {H : Hp} {ρ : Rho} {σ : L2.St} {ext : List Pin}
theorem StR.slot1 (S : StR g W H ρ σ ext) {i : Nat} {d : D} (h : slCt ρ i = some d) : ∃ v, σ[i]? = some (some v) ∧ Rp1 g.K W H v d := by
  unfold slCt at h
  cases e : ρ[i]? with
  | none => rw [e] at h; cases h
  | some s =>
    rw [e] at h
    cases s with
    | no => cases h
    | val d' =>
      cases h
      obtain ⟨v, e1, r⟩ := S.val i _ e
      exact ⟨v, e1, .inl r⟩
    | own d' =>
      cases h
      obtain ⟨a, e1, _, _, r⟩ := S.own i _ _ e rfl
      exact ⟨_, e1, .inr ⟨a, rfl, r⟩⟩
    | io d' =>
      cases h
      obtain ⟨a, e1, _, _, r⟩ := S.own i _ _ e rfl
      exact ⟨_, e1, .inr ⟨a, rfl, r⟩⟩
theorem StR.av (S : StR g W H ρ σ ext) {v : V} {a : AV} {d : D} (hm : ∀ p ∈ avPin v a, p ∈ ext) (hr : avR σ v a) (h : a.ct ρ = some d) : Rp1 g.K W H v d := by
  cases a with
  | v d' =>
    cases h
    exact .inl (S.mem0 (p := ⟨v, d, false⟩) (hm _ List.mem_cons_self) rfl)
  | r i =>
    obtain ⟨u, e1, r⟩ := S.slot1 (i := i) h
    have hr' : σ[i]? = some (some v) := hr
    rw [hr'] at e1; cases e1
    exact r
/-- argument lists -/
def cts (ρ : Rho) : List AV → Option (List D)
  | [] => some []
  | a :: as => match a.ct ρ, cts ρ as with
    | some d, some ds => some (d :: ds)
    | _, _ => none
inductive Rp1s (K : PySem.W.Frag) (W : Addr → Prop) (H : Hp) : List V → List D → Prop
  | nil : Rp1s K W H [] []
  | cons {v : V} {vs : List V} {d : D} {ds : List D} : Rp1 K W H v d → Rp1s K W H vs ds → Rp1s K W H (v :: vs) (d :: ds)
theorem StR.avs (S : StR g W H ρ σ ext) : ∀ {vs : List V} {as : List AV} {ds : List D}, (∀ p ∈ avPins vs as, p ∈ ext) → avRs σ vs as → cts ρ as = some ds → Rp1s g.K W H vs ds
  | [], [], _, _, _, h => by cases h; exact .nil
  | v :: vs, a :: as, ds, hm, hr, h => by
    unfold cts at h
    cases e1 : a.ct ρ with
    | none => rw [e1] at h; simp at h
    | some d =>
      cases e2 : cts ρ as with
      | none => rw [e1, e2] at h; simp at h
      | some ds' =>
        rw [e1, e2] at h
        cases h
        exact .cons (S.av (fun p hp => hm p (List.mem_append_left _ hp)) hr.1 e1) (S.avs (fun p hp => hm p (List.mem_append_right _ hp)) hr.2 e2)
  | [], _ :: _, _, _, hr, _ => hr.elim
  | _ :: _, [], _, _, hr, _ => hr.elim
end

/-! ### what a call of a def means -/
inductive FR
  | ret (d : D) (t : Bool) (io : D)
  | ex (c : Nat) (x : D)
  | no
structure FEnt where
  x : Str
  f : Addr
  fd : FuncData
  ps : List Str
  sem : List D → FR
  io : Option Nat

def ioAt (io : Option Nat) (vs : List V) (a : Addr) : Prop := ∃ k, io = some k ∧ vs[k]? = some (.ref a)
/-- arguments: the in-out one owned -/
def ArgsR (K : PySem.W.Frag) (W : Addr → Prop) (H : Hp) (io : Option Nat) (vs : List V) (ds : List D) : Prop :=
  vs.length = ds.length ∧ ∀ (i : Nat) v d, vs[i]? = some v → ds[i]? = some d → if io = some i then ∃ a, v = .ref a ∧ W a ∧ RpO K W H a d else Rp K W H v d
/-- what is wanted of a def's return -/
def retW (K : PySem.W.Frag) (io : Option Nat) (vs : List V) (H : Hp) (Wc : Addr → Prop) (Q : VK) (d : D) (t : Bool) (d' : D) : Prop := ∀ (Wr : Addr → Prop) v H', (∀ a, Wc a → Wr a) → (∀ a o, H a = some o → ¬ ioAt io vs a → H' a = some o) → (∀ a, H a ≠ none → H' a ≠ none) →
  (∀ a, ioAt io vs a → RpO K Wr H' a d') → (if t = true then ∃ p, v = .ref p ∧ H p = none ∧ (∀ a, Wr a → Wc a ∨ a = p) ∧ Wr p ∧ RpO K Wr H' p d else Rp K Wr H' v d ∧ ∀ a, Wr a → Wc a) → Q v H'
/-- the promise of a def -/
def spOf (K : PySem.W.Frag) (C : Nat → Addr) (nm : Nat → Option Str) (n : Nat) (io : Option Nat) (sem : List D → FR) : Sp := fun vs H Q E => vs.length = n ∧ (∀ k, io = some k → k < n) ∧ ∃ (ds : List D) (Wc : Addr → Prop), (∀ a, Wc a → H a ≠ none) ∧ ArgsR K Wc H io vs ds ∧
  match sem ds with
  | .ret d t d' => retW K io vs H Wc Q d t d'
  | .ex c x => ∀ H' dd, (∀ a o, H a = some o → H' a = some o) → (match nm c with | none => dd = none ∧ x = .none | some f => ∃ p v, dd = some p ∧ H' p = some (.xd [(f, v)]) ∧ Rp K Wc H' v x) → E (.ref (C c)) dd H'
  | .no => False

def bnames : List Str := ["len", "isinstance", "tuple", "list", "int", "str", "bool", "range", "enumerate", "zip", "reversed", "sorted", "all", "any", "sum", "abs", "min", "max", "ValueError", "super", "dict"]
/-- the module's tables: defs, constants, classes of exceptions -/
structure Mdl where
  T : Nat → Option FEnt
  KT : Nat → Option (Str × D)
  CT : Nat → Option Str
/-- a constant of the module -/
inductive KR (K : PySem.W.Frag) : Value → D → Prop
  | int (i : Int) (t : Tok) : KR K (.int i t) (.int i)
  | str (x : Str) (t : Tok) (ok : PyData.strOk x = true) : KR K (.str x t) (.str x)
  | bool (b : Bool) : KR K (.bool b) (.bool b)
  | none : KR K .none .none
  | tup {a : Addr} {vs : List V} {ds : List D} (h : KTu K a vs) (r : ∀ W H, RpL K W H vs ds) : KR K (.ref a) (.tuple ds)
abbrev veT : List Value := [.type "ValueError", .type "Exception", .type "BaseException", .type "object"]
structure ClsF (K : PySem.W.Frag) (mg : Str → Option Value) (x : Str) (C : Addr) : Prop where
  gC : mg x = some (.ref C)
  kC : PySem.W.keepIn K (.ref C) = true
  bC : PySem.W.subIn K (.ref C) (.type "BaseException") = some true
  tC : PySem.W.typeIn K (.ref C) = some (.type "type")
structure Ctx0 (X : Cx) (g : Cfg) (T : Mdl) : Prop where
  nd : X.N.Nodup
  K : X.K = g.K
  gM : ∀ a, g.M a → g.P a
  gP : ∀ a, g.P a → g.H0 a ≠ none
  bm : ∀ x ∈ bnames, X.mg x = none
  consts : ∀ j c, T.KT j = some c → ∃ u, X.mg c.1 = some u ∧ KR g.K u c.2
structure Ctx (X : Cx) (g : Cfg) (Wx : WX) (k : Nat) (T : Mdl) : Prop extends Ctx0 X g T where
  calm : X.calm = true
  room : Room k X.A
  tk : Takes X Wx
  po : PassesOwn (model X.prog X.w) X.A X.env X.xe
  fns : ∀ j e, T.T j = some e → FnOk X.prog X.w X.K X.mg X.base (L2.CX X.prog X.w) k e.f e.fd e.ps (spOf g.K g.C g.nm e.ps.length e.io e.sem) ∧ X.mg e.x = some (.ref e.f) ∧ PySem.W.keepIn X.K (.ref e.f) = true ∧ Binds X.K e.fd e.ps []
  clss : ∀ j x, T.CT j = some x → ClsF g.K X.mg x (g.C j)
  plain : ∀ j x, T.CT j = some x → g.nm j = none → PySem.W.excIn g.K (g.C j) veT "ValueError.__new__" = true
  exm : ∀ i j x y, T.CT i = some x → T.CT j = some y → PySem.W.exmOne g.K (.ref (g.C i)) (.ref (g.C j)) = some (i == j)

section
variable {X : Cx} {g : Cfg} {Wx : WX} {k : Nat} {T : Mdl}

/-! ### names and constants -/
def fVar (i : Nat) : Ev := fun ρ => match ρ[i]? with
  | some (.val d) => .ok (d, false) ρ
  | some (.own d) => .ok (d, false) (ρ.set i (.val d))
  | _ => .no
/-- taken out of its slot -/
def fMov (i : Nat) : Ev := fun ρ => match ρ[i]? with
  | some (.val d) => .ok (d, false) ρ
  | some (.own d) => .ok (d, true) (ρ.set i .no)
  | _ => .no
theorem set_sub {σ : L2.St} {ρ : Rho} {i : Nat} {s s' : Sl} (hi : ρ[i]? = some s) (hs : s'.od = none) {j : Nat} {a : Addr} (h : OwnAt (ρ.set i s') σ j a) : OwnAt ρ σ j a ∧ j ≠ i := by
  obtain ⟨u, d, e1, e2, e3⟩ := h
  have hlt : i < ρ.length := (List.getElem?_eq_some_iff.mp hi).1
  by_cases hj : j = i
  · subst hj
    rw [List.getElem?_set_self hlt] at e1
    cases e1
    rw [hs] at e2; cases e2
  · rw [List.getElem?_set_ne (Ne.symm hj)] at e1
    exact ⟨⟨u, d, e1, e2, e3⟩, hj⟩
/-- an owned slot's value is taken out -/
theorem StR.mov {W : Addr → Prop} {H : Hp} {ρ : Rho} {σ : L2.St} {ext : List Pin} {i : Nat} {d : D} (S : StR g W H ρ σ ext) (h : ρ[i]? = some (Sl.own d)) : ∃ a, σ[i]? = some (some (V.ref a)) ∧ StR g W H (ρ.set i .no) σ (⟨.ref a, d, true⟩ :: ext) := by
  obtain ⟨a, e1, w, np, r⟩ := S.own i _ _ h rfl
  have hlt : i < ρ.length := (List.getElem?_eq_some_iff.mp h).1
  have hoa : OwnAt ρ σ i a := ⟨_, d, h, rfl, e1⟩
  refine ⟨a, e1, by rw [List.length_set]; exact S.len, S.m0, S.al, S.dom, S.fr, ?_, ?_, ?_, fun j l b h1 h2 => S.inj j l b (set_sub h rfl h1).1 (set_sub h rfl h2).1, ?_, ?_, ?_⟩
  · intro j d2 hj
    by_cases hji : j = i
    · subst hji; rw [List.getElem?_set_self hlt] at hj; cases hj
    · rw [List.getElem?_set_ne (Ne.symm hji)] at hj; exact S.val j d2 hj
  · intro j s2 d2 hj hs2
    by_cases hji : j = i
    · subst hji; rw [List.getElem?_set_self hlt] at hj; cases hj; cases hs2
    · rw [List.getElem?_set_ne (Ne.symm hji)] at hj; exact S.own j s2 d2 hj hs2
  · intro j d2 hj
    by_cases hji : j = i
    · subst hji; rw [List.getElem?_set_self hlt] at hj; cases hj
    · rw [List.getElem?_set_ne (Ne.symm hji)] at hj; exact S.io j d2 hj
  · intro q hq
    rcases List.mem_cons.mp hq with e | hq
    · subst e; exact (if_pos (show true = true from rfl)).mpr ⟨a, rfl, w, np, r⟩
    · exact S.pin q hq
  · intro q hq ht j b ho
    obtain ⟨ho', hj⟩ := set_sub h rfl ho
    rcases List.mem_cons.mp hq with e | hq
    · subst e
      intro z
      have z' : V.ref a = V.ref b := z
      cases z'
      exact hj (S.inj j i a ho' hoa)
    · exact S.pown q hq ht j b ho'
  · refine List.pairwise_cons.mpr ⟨fun q hq _ ht z => ?_, S.pinj⟩
    exact S.pown q hq ht i a hoa z.symm
/-- an owned slot is shared from now on -/
theorem StR.share {W : Addr → Prop} {H : Hp} {ρ : Rho} {σ : L2.St} {ext : List Pin} {i : Nat} {d : D} (hM : ∀ a, g.M a → g.P a) (S : StR g W H ρ σ ext) (h : ρ[i]? = some (Sl.own d)) : ∃ W' a, σ[i]? = some (some (V.ref a)) ∧ StR g W' H (ρ.set i (.val d)) σ (⟨.ref a, d, false⟩ :: ext) := by
  obtain ⟨a, e1, S1⟩ := S.mov h
  obtain ⟨W', S2⟩ := S1.freeze hM
  have hlt : i < ρ.length := (List.getElem?_eq_some_iff.mp h).1
  have h' : (ρ.set i Sl.no)[i]? = some Sl.no := List.getElem?_set_self hlt
  refine ⟨W', a, e1, by rw [List.length_set]; exact S.len, S2.m0, S2.al, S2.dom, S2.fr, ?_, ?_, ?_, ?_, S2.pin, ?_, S2.pinj⟩
  · intro j d2 hj
    by_cases hji : j = i
    · subst hji; rw [List.getElem?_set_self hlt] at hj; cases hj; exact ⟨_, e1, S2.pin0⟩
    · rw [List.getElem?_set_ne (Ne.symm hji)] at hj; exact S2.val j d2 (by rw [List.getElem?_set_ne (Ne.symm hji)]; exact hj)
  · intro j s2 d2 hj hs2
    by_cases hji : j = i
    · subst hji; rw [List.getElem?_set_self hlt] at hj; cases hj; cases hs2
    · rw [List.getElem?_set_ne (Ne.symm hji)] at hj; exact S2.own j s2 d2 (by rw [List.getElem?_set_ne (Ne.symm hji)]; exact hj) hs2
  · intro j d2 hj
    by_cases hji : j = i
    · subst hji; rw [List.getElem?_set_self hlt] at hj; cases hj
    · rw [List.getElem?_set_ne (Ne.symm hji)] at hj; exact S2.io j d2 (by rw [List.getElem?_set_ne (Ne.symm hji)]; exact hj)
  · intro j l b h1 h2; exact S.inj j l b (set_sub h rfl h1).1 (set_sub h rfl h2).1
  · intro q hq ht j b ho
    obtain ⟨⟨s, dd, o1, o2, o3⟩, hj⟩ := set_sub h rfl ho
    exact S2.pown q hq ht j b ⟨s, dd, by rw [List.getElem?_set_ne (Ne.symm hj)]; exact o1, o2, o3⟩
theorem pd_var (C : Ctx0 X g T) {i : Nat} {x : Str} {pos : Pos} (hN : X.N[i]? = some x) (hv : Vis X.env.scope x) (hd : (x == ("__debug__" : Str)) = false) (hcd : (x == ("__classdict__" : Str)) = false) : PE X (.Name x pos) (tD g Wx (fVar i)) := by
  refine ⟨fun pins s σ H Q I h => (pe_var hN hv hd hcd).run pins s σ H Q I ?_⟩
  obtain ⟨W, ρ, ext, S, h⟩ := h
  unfold fVar at h
  split at h
  · rename_i r ρ' e
    split at e
    · rename_i d hi
      cases e
      obtain ⟨v, e1, r1⟩ := S.val i d hi
      exact ⟨v, e1, h W v H (S.note r1)⟩
    · rename_i d hi
      cases e
      obtain ⟨W', a, e1, S1⟩ := S.share C.gM hi
      exact ⟨_, e1, h W' _ H S1⟩
    · cases e
  · rename_i c x' ρ' e
    split at e <;> cases e
  · exact h.elim
theorem pd_mov (C : Ctx0 X g T) {i : Nat} {x : Str} {pos : Pos} (hN : X.N[i]? = some x) (hv : Vis X.env.scope x) (hd : (x == ("__debug__" : Str)) = false) (hcd : (x == ("__classdict__" : Str)) = false) : PE X (.Name x pos) (tD g Wx (fMov i)) := by
  refine ⟨fun pins s σ H Q I h => (pe_var hN hv hd hcd).run pins s σ H Q I ?_⟩
  obtain ⟨W, ρ, ext, S, h⟩ := h
  unfold fMov at h
  split at h
  · rename_i r ρ' e
    split at e
    · rename_i d hi
      cases e
      obtain ⟨v, e1, r1⟩ := S.val i d hi
      exact ⟨v, e1, h W v H (S.note r1)⟩
    · rename_i d hi
      cases e
      obtain ⟨a, e1, S1⟩ := S.mov hi
      exact ⟨_, e1, h W _ H S1⟩
    · cases e
  · rename_i c x' ρ' e
    split at e <;> cases e
  · exact h.elim
/-- a borrowed name -/
def fRef (i : Nat) : EvA := fun ρ => match slCt ρ i with
  | some _ => .ok (.r i) ρ
  | none => .no
theorem pa_ref {i : Nat} {x : Str} {pos : Pos} (hN : X.N[i]? = some x) (hv : Vis X.env.scope x) (hd : (x == ("__debug__" : Str)) = false) (hcd : (x == ("__classdict__" : Str)) = false) : PE X (.Name x pos) (tA g Wx (fRef i)) := by
  refine ⟨fun pins s σ H Q I h => (pe_var hN hv hd hcd).run pins s σ H Q I ?_⟩
  obtain ⟨W, ρ, ext, S, h⟩ := h
  unfold fRef at h
  split at h
  · rename_i a ρ' e
    split at e
    · rename_i d hi
      cases e
      obtain ⟨v, e1, _⟩ := S.slot1 hi
      exact ⟨v, e1, h W v H S e1⟩
    · cases e
  · rename_i c x' ρ' e
    split at e <;> cases e
  · exact h.elim
/-- a value as an argument -/
def fVal (f : Ev) : EvA := fun ρ => (f ρ).bind fun r ρ' => .ok (.v r.1) ρ'
theorem pa_val (C : Ctx0 X g T) {e : Expr} {f : Ev} (h : PE X e (tD g Wx f)) : PE X e (tA g Wx (fVal f)) := by
  refine ⟨fun pins s σ H Q I hq => h.run pins s σ H Q I ?_⟩
  obtain ⟨W, ρ, ext, S, hq⟩ := hq
  refine ⟨W, ρ, ext, S, ?_⟩
  unfold fVal at hq
  cases e1 : f ρ with
  | ok r ρ' =>
    rw [e1] at hq
    intro W' v H' S'
    obtain ⟨d, t⟩ := r
    cases t with
    | false => exact hq W' v H' S' trivial
    | true =>
      obtain ⟨W2, S2⟩ := S'.freeze C.gM
      exact hq W2 v H' S2 trivial
  | ex c x ρ' => rw [e1] at hq; exact hq
  | no => rw [e1] at hq; exact hq
/-- and back: a frozen value -/
def fFz (f : Ev) : Ev := fun ρ => (f ρ).bind fun r ρ' => .ok (r.1, false) ρ'
def fCst (d : D) : Ev := fun ρ => .ok (d, false) ρ
theorem pd_of {e : Expr} {te : TE} {d : D} (he : PE X e te) (h : ∀ W H ρ σ ext (Q : VK), StR g W H ρ σ ext → (∀ v, Rp g.K W H v d → Q v H) → te σ H Q) : PE X e (tD g Wx (fCst d)) := by
  refine ⟨fun pins s σ H Q I hq => he.run pins s σ H Q I ?_⟩
  obtain ⟨W, ρ, ext, S, hq⟩ := hq
  exact h W H ρ σ ext Q S fun v r => hq W v H (S.note r)
theorem pd_int {i : Int} {j : Nat} {pos : Pos} : PE X (.Constant (.int i) j pos) (tD g Wx (fCst (.int i))) := pd_of pe_int fun _ _ _ _ _ _ _ q => q _ (.int i)
theorem pd_str {i : Str} {j : Nat} {pos : Pos} (ok : PyData.strOk i = true) : PE X (.Constant (.str i) j pos) (tD g Wx (fCst (.str i))) := pd_of pe_str fun _ _ _ _ _ _ _ q => q _ (.str i ok)
theorem pd_bl {b : Bool} {j : Nat} {pos : Pos} : PE X (.Constant (.bool b) j pos) (tD g Wx (fCst (.bool b))) := pd_of pe_bl fun _ _ _ _ _ _ _ q => q _ (.bl b)
theorem pd_non {j : Nat} {pos : Pos} : PE X (.Constant .none j pos) (tD g Wx (fCst .none)) := pd_of pe_non fun _ _ _ _ _ _ _ q => q _ .non
theorem pd_glob (C : Ctx0 X g T) {x : Str} {u : Value} {d : D} {pos : Pos} (hg : Gl X x) (hm : X.mg x = some u) (r : KR g.K u d) (hd : (x == ("__debug__" : Str)) = false) : PE X (.Name x pos) (tD g Wx (fCst d)) := by
  cases r with
  | int i t => exact pd_of (pe_glob (v := .int i) hg hm ⟨t, rfl⟩ hd) fun _ _ _ _ _ _ _ q => q _ (.int i)
  | str i t ok => exact pd_of (pe_glob (v := .str i) hg hm ⟨t, rfl⟩ hd) fun _ _ _ _ _ _ _ q => q _ (.str i ok)
  | bool b => exact pd_of (pe_glob (v := .bl b) hg hm rfl hd) fun _ _ _ _ _ _ _ q => q _ (.bl b)
  | none => exact pd_of (pe_glob (v := .non) hg hm rfl hd) fun _ _ _ _ _ _ _ q => q _ .non
  | @tup a vs ds h r => exact pd_of (pe_glob (v := .ref a) hg hm rfl hd) fun _ _ _ _ _ _ _ q => q _ (.tup (.inr h) (r _ _))

/-! ### two operands -/
/-- the end of an operation on values: what is wanted of its answer -/
def Del (g : Cfg) (ρ : Rho) (σ : L2.St) (ext : List Pin) (r : D × Bool) (Q : VK) : Prop := ∀ W' w H', StR g W' H' ρ σ (⟨w, r.1, r.2⟩ :: ext) → Q w H'
def BinK (g : Cfg) (kk : D → D → Option (D × Bool)) (r : R2) : Prop := ∀ W H ρ σ ext v u x y z Q, StR g W H ρ σ ext → Rp1 g.K W H v x → Rp1 g.K W H u y → kk x y = some z → Del g ρ σ ext z Q → r v u H Q
def fBin (kk : D → D → Option (D × Bool)) (fa fb : EvA) : Ev := fun ρ => (fa ρ).bind fun a ρ1 => (fb ρ1).bind fun b ρ2 => match a.ct ρ2, b.ct ρ2 with
  | some x, some y => (match kk x y with | some z => .ok z ρ2 | none => .no)
  | _, _ => .no
theorem Del.drop {ρ : Rho} {σ : L2.St} {ext e2 : List Pin} {r : D × Bool} {Q : VK} (h : Del g ρ σ ext r Q) : Del g ρ σ (e2 ++ ext) r Q := fun W' w H' S => h W' w H' (S.sub (List.cons_sublist_cons.mpr (List.sublist_append_right _ _)))
theorem tBin_run {kk : D → D → Option (D × Bool)} {r : R2} {fa fb : EvA} (hk : BinK g kk r) {σ : L2.St} {H : Hp} {Q : VK} (h : tD g Wx (fBin kk fa fb) σ H Q) : tOp r (tA g Wx fa) (tA g Wx fb) σ H Q := by
  obtain ⟨W, ρ, ext, S, h⟩ := h
  unfold fBin at h
  refine ⟨W, ρ, ext, S, ?_⟩
  cases e1 : fa ρ with
  | no => rw [e1] at h; exact h
  | ex c x ρ' => rw [e1] at h; exact h
  | ok a ρ1 =>
    rw [e1] at h
    intro W1 v H1 S1 r1
    refine ⟨W1, ρ1, _, S1, ?_⟩
    dsimp only [Rs.bind] at h
    cases e2 : fb ρ1 with
    | no => rw [e2] at h; exact h
    | ex c x ρ' => rw [e2] at h; exact exW.ext h (List.sublist_append_right _ _)
    | ok b ρ2 =>
      rw [e2] at h
      intro W2 u H2 S2 r2
      dsimp only at h
      cases e3 : a.ct ρ2 with
      | none => rw [e3] at h; exact h.elim
      | some x =>
        cases e4 : b.ct ρ2 with
        | none => rw [e3, e4] at h; exact h.elim
        | some y =>
          rw [e3, e4] at h
          dsimp only at h
          cases e5 : kk x y with
          | none => rw [e5] at h; exact h.elim
          | some z =>
            rw [e5] at h
            have h' : okW g σ ext z ρ2 Q := h
            refine hk W2 H2 ρ2 σ _ v u x y z Q S2 (S2.av (fun p hp => List.mem_append_right _ (List.mem_append_left _ hp)) r1 e3) (S2.av (fun p hp => List.mem_append_left _ hp) r2 e4) e5 ?_
            rw [← List.append_assoc]
            exact Del.drop (g := g) h'
theorem PE.imp {e : Expr} {t t' : TE} (h : PE X e t) (i : ∀ σ H Q, t' σ H Q → t σ H Q) : PE X e t' := ⟨fun pins s σ H Q I hq => h.run pins s σ H Q I (i σ H Q hq)⟩
theorem pd_bin {op : Operator} {kk : D → D → Option (D × Bool)} {r : R2} {a b : Expr} {fa fb : EvA} {pos : Pos} (ho : OpR X (binaryOp op) r) (hk : BinK g kk r) (ha : PE X a (tA g Wx fa)) (hb : PE X b (tA g Wx fb)) :
    PE X (.BinOp a op b pos) (tD g Wx (fBin kk fa fb)) := PE.imp (pe_op ho ha hb) fun _ _ _ h => tBin_run hk h
theorem pd_cmp {op : CmpOp} {kk : D → D → Option (D × Bool)} {r : R2} {a b : Expr} {fa fb : EvA} {pos : Pos} (ho : OpR X (compareOp op) r) (hk : BinK g kk r) (hm : behindInMarks op b = false) (ha : PE X a (tA g Wx fa)) (hb : PE X b (tA g Wx fb)) :
    PE X (.Compare a [op] [b] pos) (tD g Wx (fBin kk fa fb)) := PE.imp (pe_cmpR ho ha hb hm) fun _ _ _ h => tBin_run hk h
/-- a value that is a bool, as a test -/
def fBl (f : Ev) : EvT := fun ρ => (f ρ).bind fun r ρ' => match r.1 with
  | .bool b => .ok b ρ'
  | _ => .no
theorem tT_of {f : Ev} {σ : L2.St} {H : Hp} {Q : Bool → Hp → Prop} (h : tT g Wx (fBl f) σ H Q) : tD g Wx f σ H (fun x H' => ∃ c, x = .bl c ∧ Q c H') := by
  obtain ⟨W, ρ, ext, S, h⟩ := h
  refine ⟨W, ρ, ext, S, ?_⟩
  unfold fBl at h
  cases e1 : f ρ with
  | no => rw [e1] at h; exact h
  | ex c x ρ' => rw [e1] at h; exact h
  | ok r ρ1 =>
    rw [e1] at h
    intro W1 v H1 S1
    dsimp only [Rs.bind] at h
    obtain ⟨d, t⟩ := r
    cases d with
    | bool b =>
      have h' : ∀ W' H', StR g W' H' ρ1 σ ext → Q b H' := h
      cases t with
      | false =>
        have z := S1.pin0
        cases z
        exact ⟨b, rfl, h' W1 H1 S1.pop⟩
      | true =>
        obtain ⟨a, _, _, _, z⟩ := S1.pin1
        exact z.elim
    | _ => exact h.elim
theorem PT.imp {e : Expr} {t t' : TT} (h : PT X e t) (i : ∀ σ H Q, t' σ H Q → t σ H Q) : PT X e t' := ⟨fun pins s σ H Q I hq => h.run pins s σ H Q I (i σ H Q hq)⟩
theorem pt_cmp {op : CmpOp} {kk : D → D → Option (D × Bool)} {r : R2} {a b : Expr} {fa fb : EvA} {pos : Pos} (ho : OpR X (compareOp op) r) (hk : BinK g kk r) (hm : behindInMarks op b = false) (ha : PE X a (tA g Wx fa)) (hb : PE X b (tA g Wx fb)) :
    PT X (.Compare a [op] [b] pos) (tT g Wx (fBl (fBin kk fa fb))) := PT.imp (pt_cmpR ho ha hb hm) fun σ H Q h => tBin_run hk (tT_of h)
/-- a plain expression as a test -/
theorem pt_plain {e : Expr} {f : Ev} (h : PE X e (tD g Wx f)) (he : ∀ whole, isTrue e X.env whole = (do let v ← whole; standAt e.pos; holding [v] (truthy v))) : PT X e (tT g Wx (fBl f)) := PT.imp (pt_val h he) fun σ H Q h => tT_of h
end
end PV
namespace PV
open PySem L2

section
variable {X : Cx} {g : Cfg} {Wx : WX} {k : Nat} {T : Mdl} {pos : Pos}

/-! ### and, or, not -/
def fAndT (f1 f2 : EvT) : EvT := fun ρ => (f1 ρ).bind fun b ρ1 => if b = true then f2 ρ1 else .ok false ρ1
def fOrT (f1 f2 : EvT) : EvT := fun ρ => (f1 ρ).bind fun b ρ1 => if b = true then .ok true ρ1 else f2 ρ1
def fNotT (f1 : EvT) : EvT := fun ρ => (f1 ρ).bind fun b ρ1 => .ok (!b) ρ1
def fTV (f : EvT) : Ev := fun ρ => (f ρ).bind fun b ρ1 => .ok (.bool b, false) ρ1
theorem tAnd_run {f1 f2 : EvT} {σ : L2.St} {H : Hp} {Q : Bool → Hp → Prop} (h : tT g Wx (fAndT f1 f2) σ H Q) : tAnd (tT g Wx f1) (tT g Wx f2) σ H Q := by
  obtain ⟨W, ρ, ext, S, h⟩ := h
  refine ⟨W, ρ, ext, S, ?_⟩
  unfold fAndT at h
  cases e1 : f1 ρ with
  | no => rw [e1] at h; exact h
  | ex c x ρ' => rw [e1] at h; exact h
  | ok b ρ1 =>
    rw [e1] at h
    intro W1 H1 S1
    dsimp only [Rs.bind] at h
    cases b with
    | false => rw [if_neg (by decide)] at h ⊢; exact h W1 H1 S1
    | true => rw [if_pos rfl] at h ⊢; exact ⟨W1, ρ1, ext, S1, h⟩
theorem tOr_run {f1 f2 : EvT} {σ : L2.St} {H : Hp} {Q : Bool → Hp → Prop} (h : tT g Wx (fOrT f1 f2) σ H Q) : tOr (tT g Wx f1) (tT g Wx f2) σ H Q := by
  obtain ⟨W, ρ, ext, S, h⟩ := h
  refine ⟨W, ρ, ext, S, ?_⟩
  unfold fOrT at h
  cases e1 : f1 ρ with
  | no => rw [e1] at h; exact h
  | ex c x ρ' => rw [e1] at h; exact h
  | ok b ρ1 =>
    rw [e1] at h
    intro W1 H1 S1
    dsimp only [Rs.bind] at h
    cases b with
    | false => rw [if_neg (by decide)] at h ⊢; exact ⟨W1, ρ1, ext, S1, h⟩
    | true => rw [if_pos rfl] at h ⊢; exact h W1 H1 S1
theorem tNot_run {f1 : EvT} {σ : L2.St} {H : Hp} {Q : Bool → Hp → Prop} (h : tT g Wx (fNotT f1) σ H Q) : tNot (tT g Wx f1) σ H Q := by
  obtain ⟨W, ρ, ext, S, h⟩ := h
  refine ⟨W, ρ, ext, S, ?_⟩
  unfold fNotT at h
  cases e1 : f1 ρ with
  | no => rw [e1] at h; exact h
  | ex c x ρ' => rw [e1] at h; exact h
  | ok b ρ1 =>
    rw [e1] at h
    intro W1 H1 S1
    exact h W1 H1 S1
theorem PW.imp {e : Expr} {t t' : TT} (h : PW X e t) (i : ∀ σ H Q, t' σ H Q → t σ H Q) : PW X e t' := ⟨fun wh pins s σ H Q I hq => h.run wh pins s σ H Q I (i σ H Q hq)⟩
theorem pw_and_d {a b : Expr} {rest : List Expr} {f1 f2 : EvT} (ha : PT X a (tT g Wx f1)) (hb : PW X (.BoolOp .And (b :: rest) pos) (tT g Wx f2)) : PW X (.BoolOp .And (a :: b :: rest) pos) (tT g Wx (fAndT f1 f2)) :=
  PW.imp (pw_and ha hb) fun _ _ _ h => tAnd_run h
theorem pw_or_d {a b : Expr} {rest : List Expr} {f1 f2 : EvT} (ha : PT X a (tT g Wx f1)) (hb : PW X (.BoolOp .Or (b :: rest) pos) (tT g Wx f2)) : PW X (.BoolOp .Or (a :: b :: rest) pos) (tT g Wx (fOrT f1 f2)) :=
  PW.imp (pw_or ha hb) fun _ _ _ h => tOr_run h
theorem pt_not_d {a : Expr} {f1 : EvT} (ha : PT X a (tT g Wx f1)) : PT X (.UnaryOp .Not a pos) (tT g Wx (fNotT f1)) := PT.imp (pt_not ha) fun _ _ _ h => tNot_run h

/-- as values: bools -/
def fAndV (f1 f2 : Ev) : Ev := fun ρ => (f1 ρ).bind fun r ρ1 => match r.1 with
  | .bool true => f2 ρ1
  | .bool false => .ok (.bool false, false) ρ1
  | _ => .no
def fOrV (f1 f2 : Ev) : Ev := fun ρ => (f1 ρ).bind fun r ρ1 => match r.1 with
  | .bool false => f2 ρ1
  | .bool true => .ok (.bool true, false) ρ1
  | _ => .no
def fNotV (f1 : Ev) : Ev := fun ρ => (f1 ρ).bind fun r ρ1 => match r.1 with
  | .bool b => .ok (.bool (!b), false) ρ1
  | _ => .no
/-- what is known of a bool that has come -/
theorem StR.isBl {W : Addr → Prop} {H : Hp} {ρ : Rho} {σ : L2.St} {ext : List Pin} {v : V} {b t : Bool} (S : StR g W H ρ σ (⟨v, .bool b, t⟩ :: ext)) : v = .bl b := by
  cases t with
  | false => have z := S.pin0; cases z; rfl
  | true => obtain ⟨a, _, _, _, z⟩ := S.pin1; exact z.elim
theorem tAndV_run {f1 f2 : Ev} {σ : L2.St} {H : Hp} {Q : VK} (h : tD g Wx (fAndV f1 f2) σ H Q) : tAndV (tD g Wx f1) (tD g Wx f2) σ H Q := by
  obtain ⟨W, ρ, ext, S, h⟩ := h
  refine ⟨W, ρ, ext, S, ?_⟩
  unfold fAndV at h
  cases e1 : f1 ρ with
  | no => rw [e1] at h; exact h
  | ex c x ρ' => rw [e1] at h; exact h
  | ok r ρ1 =>
    rw [e1] at h
    intro W1 v H1 S1
    dsimp only [Rs.bind] at h
    obtain ⟨d, t⟩ := r
    cases d with
    | bool b =>
      refine ⟨b, S1.isBl, ?_⟩
      cases b with
      | true => rw [if_pos rfl]; exact ⟨W1, ρ1, ext, S1.pop, h⟩
      | false =>
        rw [if_neg (by decide)]
        have h' : okW g σ ext (.bool false, false) ρ1 Q := h
        exact h' W1 _ H1 (S1.pop.note (.bl false))
    | _ => exact h.elim
theorem tOrV_run {f1 f2 : Ev} {σ : L2.St} {H : Hp} {Q : VK} (h : tD g Wx (fOrV f1 f2) σ H Q) : tOrV (tD g Wx f1) (tD g Wx f2) σ H Q := by
  obtain ⟨W, ρ, ext, S, h⟩ := h
  refine ⟨W, ρ, ext, S, ?_⟩
  unfold fOrV at h
  cases e1 : f1 ρ with
  | no => rw [e1] at h; exact h
  | ex c x ρ' => rw [e1] at h; exact h
  | ok r ρ1 =>
    rw [e1] at h
    intro W1 v H1 S1
    dsimp only [Rs.bind] at h
    obtain ⟨d, t⟩ := r
    cases d with
    | bool b =>
      refine ⟨b, S1.isBl, ?_⟩
      cases b with
      | false => rw [if_neg (by decide)]; exact ⟨W1, ρ1, ext, S1.pop, h⟩
      | true =>
        rw [if_pos rfl]
        have h' : okW g σ ext (.bool true, false) ρ1 Q := h
        exact h' W1 _ H1 (S1.pop.note (.bl true))
    | _ => exact h.elim
theorem tNotV_run {f1 : Ev} {σ : L2.St} {H : Hp} {Q : VK} (h : tD g Wx (fNotV f1) σ H Q) : tNotV (tD g Wx f1) σ H Q := by
  obtain ⟨W, ρ, ext, S, h⟩ := h
  refine ⟨W, ρ, ext, S, ?_⟩
  unfold fNotV at h
  cases e1 : f1 ρ with
  | no => rw [e1] at h; exact h
  | ex c x ρ' => rw [e1] at h; exact h
  | ok r ρ1 =>
    rw [e1] at h
    intro W1 v H1 S1
    dsimp only [Rs.bind] at h
    obtain ⟨d, t⟩ := r
    cases d with
    | bool b =>
      have h' : okW g σ ext (.bool (!b), false) ρ1 Q := h
      exact ⟨b, S1.isBl, h' W1 _ H1 (S1.pop.note (.bl (!b)))⟩
    | _ => exact h.elim
theorem pd_and {a b : Expr} {rest : List Expr} {f1 f2 : Ev} (ha : PE X a (tD g Wx f1)) (hb : PE X (.BoolOp .And (b :: rest) pos) (tD g Wx f2)) : PE X (.BoolOp .And (a :: b :: rest) pos) (tD g Wx (fAndV f1 f2)) :=
  PE.imp (pe_and ha hb) fun _ _ _ h => tAndV_run h
theorem pd_or {a b : Expr} {rest : List Expr} {f1 f2 : Ev} (ha : PE X a (tD g Wx f1)) (hb : PE X (.BoolOp .Or (b :: rest) pos) (tD g Wx f2)) : PE X (.BoolOp .Or (a :: b :: rest) pos) (tD g Wx (fOrV f1 f2)) :=
  PE.imp (pe_or ha hb) fun _ _ _ h => tOrV_run h
theorem pd_not {a : Expr} {f1 : Ev} (ha : PE X a (tD g Wx f1)) : PE X (.UnaryOp .Not a pos) (tD g Wx (fNotV f1)) := PE.imp (pe_not ha) fun _ _ _ h => tNotV_run h

/-! ### a < b < c -/
def fChain (k1 k2 : D → D → Option (D × Bool)) (fa fb fc : EvA) : Ev := fun ρ => (fa ρ).bind fun a ρ1 => (fb ρ1).bind fun b ρ2 => match a.ct ρ2, b.ct ρ2 with
  | some x, some y => (match k1 x y with
    | some (.bool true, false) => (fc ρ2).bind fun c ρ3 => (match b.ct ρ3, c.ct ρ3 with
      | some y', some z => (match k2 y' z with | some w => .ok w ρ3 | none => .no)
      | _, _ => .no)
    | some (.bool false, false) => .ok (.bool false, false) ρ2
    | _ => .no)
  | _, _ => .no
theorem tChain_run {k1 k2 : D → D → Option (D × Bool)} {r1 r2 : R2} {fa fb fc : EvA} (hk1 : BinK g k1 r1) (hk2 : BinK g k2 r2) {σ : L2.St} {H : Hp} {Q : VK} (h : tD g Wx (fChain k1 k2 fa fb fc) σ H Q) :
    tChain r1 r2 (tA g Wx fa) (tA g Wx fb) (tA g Wx fc) σ H Q := by
  obtain ⟨W, ρ, ext, S, h⟩ := h
  unfold fChain at h
  refine ⟨W, ρ, ext, S, ?_⟩
  cases e1 : fa ρ with
  | no => rw [e1] at h; exact h
  | ex c x ρ' => rw [e1] at h; exact h
  | ok a ρ1 =>
    rw [e1] at h
    intro W1 v H1 S1 p1
    refine ⟨W1, ρ1, _, S1, ?_⟩
    dsimp only [Rs.bind] at h
    cases e2 : fb ρ1 with
    | no => rw [e2] at h; exact h
    | ex c x ρ' => rw [e2] at h; exact exW.ext h (List.sublist_append_right _ _)
    | ok b ρ2 =>
      rw [e2] at h
      intro W2 u H2 S2 p2
      dsimp only at h
      cases e3 : a.ct ρ2 with
      | none => rw [e3] at h; exact h.elim
      | some x =>
        cases e4 : b.ct ρ2 with
        | none => rw [e3, e4] at h; exact h.elim
        | some y =>
          rw [e3, e4] at h
          dsimp only at h
          cases e5 : k1 x y with
          | none => rw [e5] at h; exact h.elim
          | some z =>
            rw [e5] at h
            refine hk1 W2 H2 ρ2 σ _ v u x y z _ S2 (S2.av (fun p hp => List.mem_append_right _ (List.mem_append_left _ hp)) p1 e3) (S2.av (fun p hp => List.mem_append_left _ hp) p2 e4) e5 ?_
            intro W3 w H3 S3
            obtain ⟨zd, zt⟩ := z
            cases zt with
            | true => cases zd <;> try exact h.elim
                      rename_i bb
                      cases bb <;> exact h.elim
            | false =>
              cases zd with
              | bool bb =>
                refine ⟨bb, S3.isBl, ?_⟩
                cases bb with
                | false =>
                  rw [if_neg (by decide)]
                  have h' : okW g σ ext (.bool false, false) ρ2 Q := h
                  exact h' W3 _ H3 ((S3.pop.sub (List.Sublist.trans (List.sublist_append_right _ _) (List.sublist_append_right _ _))).note (.bl false))
                | true =>
                  rw [if_pos rfl]
                  refine ⟨W3, ρ2, _, S3, ?_⟩
                  dsimp only at h
                  cases e6 : fc ρ2 with
                  | no => rw [e6] at h; exact h
                  | ex c x ρ' =>
                    rw [e6] at h
                    exact exW.ext h (List.Sublist.trans (List.Sublist.trans (List.sublist_append_right _ _) (List.sublist_append_right _ _)) (List.sublist_cons_self _ _))
                  | ok c ρ3 =>
                    rw [e6] at h
                    intro W4 w4 H4 S4 p4
                    dsimp only at h
                    cases e7 : b.ct ρ3 with
                    | none => rw [e7] at h; exact h.elim
                    | some y' =>
                      cases e8 : c.ct ρ3 with
                      | none => rw [e7, e8] at h; exact h.elim
                      | some zz =>
                        rw [e7, e8] at h
                        dsimp only at h
                        cases e9 : k2 y' zz with
                        | none => rw [e9] at h; exact h.elim
                        | some ww =>
                          rw [e9] at h
                          have h' : okW g σ ext ww ρ3 Q := h
                          refine hk2 W4 H4 ρ3 σ _ u w4 y' zz ww Q S4 (S4.av (fun p hp => List.mem_append_right _ (List.mem_cons_of_mem _ (List.mem_append_left _ hp))) p2 e7) (S4.av (fun p hp => List.mem_append_left _ hp) p4 e8) e9 ?_
                          intro W5 w5 H5 S5
                          refine h' W5 w5 H5 (S5.sub (List.cons_sublist_cons.mpr ?_))
                          exact List.Sublist.trans (List.Sublist.trans (List.Sublist.trans (List.sublist_append_right _ _) (List.sublist_append_right _ _)) (List.sublist_cons_self _ _)) (List.sublist_append_right _ _)
              | _ => exact h.elim
theorem pd_chain {o1 o2 : CmpOp} {k1 k2 : D → D → Option (D × Bool)} {r1 r2 : R2} {a b c : Expr} {fa fb fc : EvA} (h1 : OpR X (compareOp o1) r1) (h2 : OpR X (compareOp o2) r2) (hk1 : BinK g k1 r1) (hk2 : BinK g k2 r2)
    (hm : lastMarks [o1, o2] [b, c] = false) (ha : PE X a (tA g Wx fa)) (hb : PE X b (tA g Wx fb)) (hc : PE X c (tA g Wx fc)) : PE X (.Compare a [o1, o2] [b, c] pos) (tD g Wx (fChain k1 k2 fa fb fc)) :=
  PE.imp (pe_chain h1 h2 ha hb hc hm) fun _ _ _ h => tChain_run hk1 hk2 h
theorem pt_chain_d {o1 o2 : CmpOp} {k1 k2 : D → D → Option (D × Bool)} {r1 r2 : R2} {a b c : Expr} {fa fb fc : EvA} (h1 : OpR X (compareOp o1) r1) (h2 : OpR X (compareOp o2) r2) (hk1 : BinK g k1 r1) (hk2 : BinK g k2 r2)
    (hm : lastMarks [o1, o2] [b, c] = false) (ha : PE X a (tA g Wx fa)) (hb : PE X b (tA g Wx fb)) (hc : PE X c (tA g Wx fc)) : PT X (.Compare a [o1, o2] [b, c] pos) (tT g Wx (fBl (fChain k1 k2 fa fb fc))) :=
  PT.imp (pt_chain h1 h2 ha hb hc hm) fun _ _ _ h => tChain_run hk1 hk2 (tT_of h)

/-! ### argument lists -/
def fANil : EvL := fun ρ => .ok [] ρ
def fACons (fa : EvA) (fl : EvL) : EvL := fun ρ => (fa ρ).bind fun a ρ1 => (fl ρ1).bind fun as ρ2 => .ok (a :: as) ρ2
theorem pal_nil : PA X [] (tAL g Wx fANil) := ⟨fun p pins s σ H Q I h => pa_nil.run p pins s σ H Q I (by
  obtain ⟨W, ρ, ext, S, h⟩ := h
  exact h W [] H S trivial)⟩
theorem pal_cons {e : Expr} {es : List Expr} {fa : EvA} {fl : EvL} (ha : PE X e (tA g Wx fa)) (hr : PA X es (tAL g Wx fl)) (hs : starEach (e :: es) X.env = (false, eval e X.env) :: starEach es X.env) : PA X (e :: es) (tAL g Wx (fACons fa fl)) := by
  refine ⟨fun p pins s σ H Q I h => (pa_cons ha hr hs).run p pins s σ H Q I ?_⟩
  obtain ⟨W, ρ, ext, S, h⟩ := h
  refine ⟨W, ρ, ext, S, ?_⟩
  unfold fACons at h
  cases e1 : fa ρ with
  | no => rw [e1] at h; exact h
  | ex c x ρ' => rw [e1] at h; exact h
  | ok a ρ1 =>
    rw [e1] at h
    intro W1 v H1 S1 r1
    refine ⟨W1, ρ1, _, S1, ?_⟩
    dsimp only [Rs.bind] at h
    cases e2 : fl ρ1 with
    | no => rw [e2] at h; exact h
    | ex c x ρ' => rw [e2] at h; exact exW.ext h (List.sublist_append_right _ _)
    | ok as ρ2 =>
      rw [e2] at h
      intro W2 vs H2 S2 r2
      dsimp only at h
      refine h W2 (v :: vs) H2 ?_ ⟨r1, r2⟩
      have e : avPins (v :: vs) (a :: as) ++ ext = avPin v a ++ avPins vs as ++ ext := rfl
      rw [e]
      have q := S2
      -- the order of the pins does not matter
      rw [← List.append_assoc] at q
      have perm : (avPins vs as ++ avPin v a ++ ext).Perm (avPin v a ++ avPins vs as ++ ext) := List.Perm.append_right _ List.perm_append_comm
      exact ⟨q.len, q.m0, q.al, q.dom, q.fr, q.val, q.own, q.io, q.inj, fun p hp => q.pin p (perm.mem_iff.mpr hp), fun p hp => q.pown p (perm.mem_iff.mpr hp), by
        refine (List.Perm.pairwise_iff ?_ perm).mp q.pinj
        intro x y h1 h2 h3 h4
        exact h1 h3 h2 h4.symm⟩
/-! ### displays -/
def avVals : List AV → Option (List D)
  | [] => some []
  | .v d :: as => (avVals as).map (d :: ·)
  | .r _ :: _ => none
theorem avVals_rp {W : Addr → Prop} {H : Hp} {ρ : Rho} {σ : L2.St} {ext : List Pin} (S : StR g W H ρ σ ext) : ∀ {vs : List V} {as : List AV} {ds : List D}, (∀ p ∈ avPins vs as, p ∈ ext) → avRs σ vs as → avVals as = some ds → RpL g.K W H vs ds
  | [], [], _, _, _, h => by cases h; exact .nil
  | v :: vs, .v d :: as, ds, hm, hr, h => by
    unfold avVals at h
    cases e : avVals as with
    | none => rw [e] at h; cases h
    | some ds' =>
      rw [e] at h; cases h
      exact .cons (S.mem0 (p := ⟨v, d, false⟩) (hm _ List.mem_cons_self) rfl) (avVals_rp S (fun p hp => hm p (List.mem_append_right _ hp)) hr.2 e)
  | _ :: _, .r _ :: _, _, _, _, h => by cases h
  | [], _ :: _, _, _, hr, _ => hr.elim
  | _ :: _, [], _, _, hr, _ => hr.elim
theorem avVals_length : ∀ {as : List AV} {ds : List D}, avVals as = some ds → as.length = ds.length
  | [], _, h => by cases h; rfl
  | .v d :: as, ds, h => by
    unfold avVals at h
    cases e : avVals as with
    | none => rw [e] at h; cases h
    | some ds' => rw [e] at h; cases h; rw [List.length_cons, List.length_cons, avVals_length e]
  | .r _ :: _, _, h => by cases h
def fTup (fl : EvL) : Ev := fun ρ => (fl ρ).bind fun as ρ1 => match avVals as with
  | some ds => if ds.length ≤ 1000 then .ok (.tuple ds, false) ρ1 else .no
  | none => .no
def fLst (fl : EvL) : Ev := fun ρ => (fl ρ).bind fun as ρ1 => match avVals as with
  | some ds => if ds.length ≤ 1000 then .ok (.list ds, true) ρ1 else .no
  | none => .no
theorem le1000 {n : Nat} (h : n ≤ 1000) : n ≤ sizeLine := Nat.le_trans h (by decide)
/-- a new tuple is noted -/
theorem StR.tup {W : Addr → Prop} {H : Hp} {ρ : Rho} {σ : L2.St} {ext : List Pin} {vs : List V} {ds : List D} {p : Addr} (S : StR g W H ρ σ ext) (r : RpL g.K W H vs ds) (hp : H p = none) : StR g W (upd H p (.tup vs)) ρ σ (⟨.ref p, .tuple ds, false⟩ :: ext) := by
  have e : ∀ a u, H a = some u → upd H p (.tup vs) a = some u := grow_upd hp
  refine (S.grow e).note (.tup (.inl ⟨fun w => S.al p w hp, .inl upd_same⟩) (RpL.tr (W := W) (H := H) ?_ _ r))
  exact fun a u hw ho => ⟨hw, e a u ho⟩
theorem StR.lst {W : Addr → Prop} {H : Hp} {ρ : Rho} {σ : L2.St} {ext : List Pin} {vs : List V} {ds : List D} {p : Addr} (hP : ∀ a, g.P a → g.H0 a ≠ none) (S : StR g W H ρ σ ext) (r : RpL g.K W H vs ds) (hp : H p = none) :
    StR g (fun a => W a ∨ a = p) (upd H p (.lst vs)) ρ σ (⟨.ref p, .list ds, true⟩ :: ext) := by
  have e : ∀ a u, H a = some u → upd H p (.lst vs) a = some u := grow_upd hp
  refine S.fresh e hp hP ⟨vs, upd_same, RpL.tr (W := W) (H := H) ?_ _ r⟩
  exact fun a u hw ho => ⟨fun z => z.elim hw (ne_of_none ho hp), e a u ho⟩
theorem pd_tup {es : List Expr} {fl : EvL} {x1} (h : PA X es (tAL g Wx fl)) : PE X (.Tuple es x1 pos) (tD g Wx (fTup fl)) := by
  refine PE.imp (pe_tup h) fun σ H Q hq => ?_
  obtain ⟨W, ρ, ext, S, hq⟩ := hq
  refine ⟨W, ρ, ext, S, ?_⟩
  unfold fTup at hq
  cases e1 : fl ρ with
  | no => rw [e1] at hq; exact hq
  | ex c x ρ' => rw [e1] at hq; exact hq
  | ok as ρ1 =>
    rw [e1] at hq
    intro W1 vs H1 S1 r1
    dsimp only [Rs.bind] at hq
    cases e2 : avVals as with
    | none => rw [e2] at hq; exact hq.elim
    | some ds =>
      rw [e2] at hq
      dsimp only at hq
      split at hq
      · rename_i r ρ' e
        split at e
        · rename_i hl
          cases e
          have rl := avVals_rp S1 (fun p hp => List.mem_append_left _ hp) r1 e2
          exact ⟨le1000 (by rw [rl.length]; exact hl), fun p hp => hq W1 _ _ ((S1.tup rl hp).sub (List.cons_sublist_cons.mpr (List.sublist_append_right _ _)))⟩
        · cases e
      · rename_i e; split at e <;> cases e
      · exact hq.elim
theorem pd_lst (C : Ctx0 X g T) {es : List Expr} {fl : EvL} (h : PA X es (tAL g Wx fl)) : PE X (.List es pos) (tD g Wx (fLst fl)) := by
  refine PE.imp (pe_lst h) fun σ H Q hq => ?_
  obtain ⟨W, ρ, ext, S, hq⟩ := hq
  refine ⟨W, ρ, ext, S, ?_⟩
  unfold fLst at hq
  cases e1 : fl ρ with
  | no => rw [e1] at hq; exact hq
  | ex c x ρ' => rw [e1] at hq; exact hq
  | ok as ρ1 =>
    rw [e1] at hq
    intro W1 vs H1 S1 r1
    dsimp only [Rs.bind] at hq
    cases e2 : avVals as with
    | none => rw [e2] at hq; exact hq.elim
    | some ds =>
      rw [e2] at hq
      dsimp only at hq
      split at hq
      · rename_i r ρ' e
        split at e
        · rename_i hl
          cases e
          have rl := avVals_rp S1 (fun p hp => List.mem_append_left _ hp) r1 e2
          exact ⟨le1000 (by rw [rl.length]; exact hl), fun p hp => hq _ _ _ ((S1.lst C.gP rl hp).sub (List.cons_sublist_cons.mpr (List.sublist_append_right _ _)))⟩
        · cases e
      · rename_i e; split at e <;> cases e
      · exact hq.elim

/-! ### built-in functions and types -/
def CallK (g : Cfg) (kk : List D → Option (D × Bool)) (r : List V → Hp → VK → Prop) : Prop := ∀ W H ρ σ ext vs ds z Q, StR g W H ρ σ ext → Rp1s g.K W H vs ds → kk ds = some z → Del g ρ σ ext z Q → r vs H Q
def fCB (kk : List D → Option (D × Bool)) (fl : EvL) : Ev := fun ρ => (fl ρ).bind fun as ρ1 => match cts ρ1 as with
  | some ds => (match kk ds with | some z => .ok z ρ1 | none => .no)
  | none => .no
theorem tCB_run {kk : List D → Option (D × Bool)} {r : List V → Hp → VK → Prop} {fl : EvL} (hk : CallK g kk r) {σ : L2.St} {H : Hp} {Q : VK} (h : tD g Wx (fCB kk fl) σ H Q) : tCB r (tAL g Wx fl) σ H Q := by
  obtain ⟨W, ρ, ext, S, h⟩ := h
  refine ⟨W, ρ, ext, S, ?_⟩
  unfold fCB at h
  cases e1 : fl ρ with
  | no => rw [e1] at h; exact h
  | ex c x ρ' => rw [e1] at h; exact h
  | ok as ρ1 =>
    rw [e1] at h
    intro W1 vs H1 S1 r1
    dsimp only [Rs.bind] at h
    cases e2 : cts ρ1 as with
    | none => rw [e2] at h; exact h.elim
    | some ds =>
      rw [e2] at h
      dsimp only at h
      cases e3 : kk ds with
      | none => rw [e3] at h; exact h.elim
      | some z =>
        rw [e3] at h
        exact hk W1 H1 ρ1 σ _ vs ds z Q S1 (S1.avs (fun p hp => List.mem_append_left _ hp) r1 e2) e3 (Del.drop (g := g) h)
theorem pd_callB {x : Str} {id : String} {kk : List D → Option (D × Bool)} {r : List V → Hp → VK → Prop} {e : Expr} {es : List Expr} {fl : EvL} {p : Pos} (hc : CallR X (.builtin id) r) (hk : CallK g kk r) (hg : Gl X x) (hm : X.mg x = none) (hv : bootBuiltins x = some (.builtin id))
    (ha : PA X (e :: es) (tAL g Wx fl)) (hn : x ≠ "__name__") (hdb : (x == ("__debug__" : Str)) = false)
    (he : starEach (e :: es) X.env = (false, eval e X.env) :: starEach es X.env) (hpl : (backTo pos (starEach es X.env)).any (·.1) = false) : PE X (.Call (.Name x p) (e :: es) [] pos) (tD g Wx (fCB kk fl)) :=
  PE.imp (pe_callB hc hg hm hv ha hn hdb he hpl) fun _ _ _ h => tCB_run hk h
theorem pd_callTy {x : Str} {id : String} {kk : List D → Option (D × Bool)} {r : List V → Hp → VK → Prop} {e : Expr} {es : List Expr} {fl : EvL} {p : Pos} (hc : CallR X (.type id) r) (hk : CallK g kk r) (hg : Gl X x) (hm : X.mg x = none) (hv : bootBuiltins x = some (.type id))
    (ha : PA X (e :: es) (tAL g Wx fl)) (hn : x ≠ "__name__") (hdb : (x == ("__debug__" : Str)) = false)
    (he : starEach (e :: es) X.env = (false, eval e X.env) :: starEach es X.env) (hpl : (backTo pos (starEach es X.env)).any (·.1) = false) : PE X (.Call (.Name x p) (e :: es) [] pos) (tD g Wx (fCB kk fl)) :=
  PE.imp (pe_callTy hc hg hm hv ha hn hdb he hpl) fun _ _ _ h => tCB_run hk h

end
end PV
namespace PV
open PySem L2

section
variable {X : Cx} {g : Cfg} {Wx : WX} {k : Nat} {T : Mdl} {pos : Pos}
/-! ### a def called -/
def fCall (n : Nat) (io : Option Nat) (sem : List D → FR) (fl : EvL) : Ev := fun ρ => (fl ρ).bind fun as ρ1 => if as.length = n then (match io with
  | none => (match avVals as with
    | some ds => (match sem ds with
      | .ret d t _ => .ok (d, t) ρ1
      | .ex c x => .ex c x ρ1
      | .no => .no)
    | none => .no)
  | some m => (match as[m]? with
    | some (.r i) => (match ρ1[i]?, avVals (as.set m (.v .none)), cts ρ1 as with
      | some (.own _), some _, some ds => (match sem ds with
        | .ret d t d' => .ok (d, t) (ρ1.set i (.own d'))
        | _ => .no)
      | some (.io _), some _, some ds => (match sem ds with
        | .ret d t d' => .ok (d, t) (ρ1.set i (.io d'))
        | _ => .no)
      | _, _, _ => .no)
    | _ => .no)) else .no
theorem avRs_length {σ : L2.St} : ∀ {vs : List V} {as : List AV}, avRs σ vs as → vs.length = as.length
  | [], [], _ => rfl
  | v :: vs, a :: as, h => by rw [List.length_cons, List.length_cons, avRs_length h.2]
  | [], _ :: _, h => h.elim
  | _ :: _, [], h => h.elim
theorem avRs_get {σ : L2.St} : ∀ {vs : List V} {as : List AV} {i : Nat} {v : V} {a : AV}, avRs σ vs as → vs[i]? = some v → as[i]? = some a → avR σ v a
  | v :: vs, a :: as, 0, _, _, h, e1, e2 => by simp at e1 e2; subst e1; subst e2; exact h.1
  | v :: vs, a :: as, i + 1, _, _, h, e1, e2 => avRs_get h.2 (by simpa using e1) (by simpa using e2)
  | [], _, _, _, _, _, e1, _ => by simp at e1
  | _ :: _, [], _, _, _, h, _, _ => h.elim
theorem avPins_get : ∀ {vs : List V} {as : List AV} {i : Nat} {v : V} {d : D}, vs[i]? = some v → as[i]? = some (AV.v d) → (⟨v, d, false⟩ : Pin) ∈ avPins vs as
  | v :: vs, a :: as, 0, _, _, e1, e2 => by
    simp at e1 e2; subst e1; subst e2
    exact List.mem_append_left _ List.mem_cons_self
  | v :: vs, a :: as, i + 1, _, _, e1, e2 => List.mem_append_right _ (avPins_get (i := i) (by simpa using e1) (by simpa using e2))
  | [], _, _, _, _, e1, _ => by simp at e1
  | _ :: _, [], _, _, _, _, e2 => by simp at e2
theorem avVals_get : ∀ {as : List AV} {ds : List D} {i : Nat} {a : AV}, avVals as = some ds → as[i]? = some a → ∃ d, a = .v d ∧ ds[i]? = some d
  | .v d :: as, ds, i, a, h, e => by
    unfold avVals at h
    cases q : avVals as with
    | none => rw [q] at h; cases h
    | some ds' =>
      rw [q] at h; cases h
      cases i with
      | zero => simp at e; subst e; exact ⟨d, rfl, rfl⟩
      | succ i =>
        obtain ⟨d', h1, h2⟩ := avVals_get q (by simpa using e)
        exact ⟨d', h1, by simpa using h2⟩
  | [], _, _, _, _, e => by simp at e
  | .r _ :: _, _, _, _, h, _ => by cases h
theorem cts_get {ρ : Rho} : ∀ {as : List AV} {ds : List D} {i : Nat} {d : D}, cts ρ as = some ds → ds[i]? = some d → ∃ a, as[i]? = some a ∧ a.ct ρ = some d
  | [], ds, i, d, h, e => by cases h; simp at e
  | a :: as, ds, i, d, h, e => by
    unfold cts at h
    cases e1 : a.ct ρ with
    | none => rw [e1] at h; simp at h
    | some d1 =>
      cases e2 : cts ρ as with
      | none => rw [e1, e2] at h; simp at h
      | some ds' =>
        rw [e1, e2] at h; cases h
        cases i with
        | zero => simp at e; subst e; exact ⟨a, rfl, e1⟩
        | succ i =>
          obtain ⟨a', h1, h2⟩ := cts_get e2 (by simpa using e)
          exact ⟨a', by simpa using h1, h2⟩
theorem cts_length {ρ : Rho} : ∀ {as : List AV} {ds : List D}, cts ρ as = some ds → as.length = ds.length
  | [], ds, h => by cases h; rfl
  | a :: as, ds, h => by
    unfold cts at h
    cases e1 : a.ct ρ with
    | none => rw [e1] at h; simp at h
    | some d1 =>
      cases e2 : cts ρ as with
      | none => rw [e1, e2] at h; simp at h
      | some ds' => rw [e1, e2] at h; cases h; rw [List.length_cons, List.length_cons, cts_length e2]

/-- behind a call without an in-out argument -/
theorem call0_done {W : Addr → Prop} {H : Hp} {ρ : Rho} {σ : L2.St} {ext : List Pin} {Q : VK} {vs : List V} {d : D} {t : Bool} {d' : D} (hP : ∀ a, g.P a → g.H0 a ≠ none) (S : StR g W H ρ σ ext) (q : okW g σ ext (d, t) ρ Q) : retW g.K none vs H W Q d t d' := by
  intro Wr v H' hw fr dom ios res
  have e : ∀ a u, H a = some u → H' a = some u := fun a u h => fr a u h fun ⟨_, z, _⟩ => by cases z
  cases t with
  | false =>
    rw [if_neg (by decide)] at res
    obtain ⟨r, back⟩ := res
    have S2 := S.grow e
    have r2 : Rp g.K W H' v d := Rp.tr (fun a o hn ho => ⟨fun z => hn (hw a z), ho⟩) _ r
    exact q W v H' (S2.note r2)
  | true =>
    rw [if_pos rfl] at res
    obtain ⟨p, rfl, hp, back, _, r⟩ := res
    exact q _ _ H' (S.fresh e hp hP (r.tr (fun a o hn ho => ⟨fun z => hn (z.elim (hw a) fun z => by rw [z]; assumption), ho⟩) rfl))
/-- behind a call with one: the slot i bears the argument -/
theorem call1_done {W : Addr → Prop} {H : Hp} {ρ : Rho} {σ : L2.St} {ext : List Pin} {Q : VK} {vs : List V} {d : D} {t : Bool} {d' d0 : D} {m i : Nat} {s s' : Sl} {a : Addr} (hP : ∀ a, g.P a → g.H0 a ≠ none) (S : StR g W H ρ σ ext)
    (hi : ρ[i]? = some s) (hs : s.od = some d0) (ha : σ[i]? = some (some (.ref a))) (hv : vs[m]? = some (.ref a)) (hs' : s'.od = some d') (hio : ∀ e, s' = Sl.io e → ∃ e', s = Sl.io e') (q : okW g σ ext (d, t) (ρ.set i s') Q) : retW g.K (some m) vs H W Q d t d' := by
  intro Wr v H' hw fr dom ios res
  have hat : ioAt (some m) vs a := ⟨m, rfl, hv⟩
  have only : ∀ b, ioAt (some m) vs b → b = a := fun b ⟨k, e1, e2⟩ => by cases e1; rw [hv] at e2; cases e2; rfl
  have e : ∀ b u, b ≠ a → H b = some u → H' b = some u := fun b u hb h => fr b u h fun z => hb (only b z)
  obtain ⟨a', ea, wa, npa, ra⟩ := S.own i s d0 hi hs
  rw [ha] at ea; cases ea
  cases t with
  | false =>
    rw [if_neg (by decide)] at res
    obtain ⟨r, back⟩ := res
    have tr : Tr Wr W H' H' := fun b o hn ho => ⟨fun z => hn (hw b z), ho⟩
    have S2 := S.put hi hs ha s' hs' hio e ((ios a hat).tr tr rfl)
    exact q W v H' (S2.note (Rp.tr tr _ r))
  | true =>
    rw [if_pos rfl] at res
    obtain ⟨p, rfl, hp, back, wp, r⟩ := res
    have pa : p ≠ a := fun z => S.al a wa (by rw [← z]; exact hp)
    -- first the new place, the argument as it was; then the argument
    have k1 : ∀ b u, H b = some u → (fun b => if b = a then H a else H' b) b = some u := fun b u h => by
      by_cases hb : b = a
      · subst hb; show (if b = b then H b else H' b) = some u; rw [if_pos rfl]; exact h
      · show (if b = a then H a else H' b) = some u; rw [if_neg hb]; exact e b u hb h
    have wr : ∀ b, Wr b → (W b ∨ b = p) := back
    have rw' : ∀ b, (W b ∨ b = p) → Wr b := fun b z => z.elim (hw b) fun z => by rw [z]; exact wp
    have tr1 : Tr Wr (fun b => W b ∨ b = p) H' (fun b => if b = a then H a else H' b) := fun b o hn ho => by
      have hb : b ≠ a := fun z => hn (by rw [z]; exact hw a wa)
      exact ⟨fun z => hn (rw' b z), by show (if b = a then H a else H' b) = some o; rw [if_neg hb]; exact ho⟩
    have S1 := S.fresh (H' := fun b => if b = a then H a else H' b) k1 hp hP (r.tr tr1 (by show (if p = a then H a else H' p) = H' p; rw [if_neg pa]))
    have S2 := S1.put (H' := H') hi hs ha s' hs' hio (fun b u hb h => by
      have h' : (if b = a then H a else H' b) = some u := h
      rw [if_neg hb] at h'; exact h') ((ios a hat).tr (fun b o hn ho => ⟨fun z => hn (rw' b z), ho⟩) rfl)
    exact q _ _ H' S2
theorem tCall_run {n : Nat} {io : Option Nat} {sem : List D → FR} {fl : EvL} (hP : ∀ a, g.P a → g.H0 a ≠ none) (hio : ∀ m, io = some m → m < n) {σ : L2.St} {H : Hp} {Q : VK} (h : tD g Wx (fCall n io sem fl) σ H Q) :
    tCallS (spOf g.K g.C g.nm n io sem) (WE Wx) (tAL g Wx fl) σ H Q := by
  obtain ⟨W, ρ, ext, S, h⟩ := h
  refine ⟨W, ρ, ext, S, ?_⟩
  unfold fCall at h
  cases e1 : fl ρ with
  | no => rw [e1] at h; exact h
  | ex c x ρ' => rw [e1] at h; exact h
  | ok as ρ1 =>
    rw [e1] at h
    intro W1 vs H1 S1 r1
    dsimp only [Rs.bind] at h
    have hl := avRs_length r1
    by_cases hn : as.length = n
    · rw [if_pos hn] at h
      refine ⟨hl.trans hn, hio, ?_⟩
      cases io with
      | none =>
        dsimp only at h
        cases e2 : avVals as with
        | none => rw [e2] at h; exact h.elim
        | some ds =>
          rw [e2] at h
          dsimp only at h
          have rl := avVals_rp S1 (fun p hp => List.mem_append_left _ hp) r1 e2
          refine ⟨ds, W1, S1.al, ⟨rl.length, fun i v d h1 h2 => ?_⟩, ?_⟩
          · rw [if_neg (fun z => by cases z)]
            obtain ⟨v', h3, h4⟩ := rl.get h2
            rw [h1] at h3; cases h3
            exact h4
          · cases e3 : sem ds with
            | no => rw [e3] at h; exact h.elim
            | ret d t d' =>
              rw [e3] at h
              exact call0_done hP S1 (Del.drop (g := g) h)
            | ex c x =>
              rw [e3] at h
              intro H' dd sm xr
              have h' : exW g Wx σ ext c x ρ1 := h
              exact h' W1 H' dd ((S1.grow sm).sub (List.sublist_append_right _ _)) xr
      | some m =>
        dsimp only at h
        have hm := hio m rfl
        cases e2 : as[m]? with
        | none => rw [e2] at h; exact h.elim
        | some a =>
          rw [e2] at h
          cases a with
          | v d => exact h.elim
          | r i =>
            dsimp only at h
            obtain ⟨v, hv⟩ : ∃ v, vs[m]? = some v := ⟨vs[m]'(by rw [hl, hn]; exact hm), by simp⟩
            have hσ : σ[i]? = some (some v) := avRs_get r1 hv e2
            cases e4 : avVals (as.set m (.v .none)) with
            | none => rw [e4] at h; split at h <;> (first | exact h.elim | (split at * <;> simp_all))
            | some zz =>
              cases e5 : cts ρ1 as with
              | none => rw [e4, e5] at h; split at h <;> (first | exact h.elim | (split at * <;> simp_all))
              | some ds =>
                rw [e4, e5] at h
                have args : ∀ (s : Sl) (d0 : D) (a : Addr), ρ1[i]? = some s → s.od = some d0 → v = .ref a → W1 a → RpO g.K W1 H1 a d0 → ArgsR g.K W1 H1 (some m) vs ds := fun s d0 a h1 h2 h3 h4 h5 => by
                  refine ⟨hl.trans (cts_length e5), fun j u d k1 k2 => ?_⟩
                  obtain ⟨b, k3, k4⟩ := cts_get e5 k2
                  by_cases hj : j = m
                  · subst hj
                    rw [if_pos rfl]
                    rw [hv] at k1; cases k1
                    rw [e2] at k3; cases k3
                    have k5 : slCt ρ1 i = some d := k4
                    have k6 : d = d0 := by
                      unfold slCt at k5
                      rw [h1] at k5
                      cases s with
                      | no => cases h2
                      | val e => cases h2
                      | own e => exact ((Option.some.inj k5).symm.trans (Option.some.inj h2))
                      | io e => exact ((Option.some.inj k5).symm.trans (Option.some.inj h2))
                    rw [k6]
                    exact ⟨a, h3, h4, h5⟩
                  · rw [if_neg (fun z => hj (Option.some.inj z).symm)]
                    obtain ⟨d2, k5, k6⟩ := avVals_get e4 (i := j) (a := b) (by rw [List.getElem?_set_ne (Ne.symm hj)]; exact k3)
                    subst k5
                    cases k4
                    exact S1.mem0 (p := ⟨u, d, false⟩) (List.mem_append_left _ (avPins_get k1 k3)) rfl
                cases e3 : ρ1[i]? with
                | none => rw [e3] at h; exact h.elim
                | some s =>
                  rw [e3] at h
                  cases s with
                  | no => exact h.elim
                  | val d => exact h.elim
                  | own d0 =>
                    dsimp only at h
                    obtain ⟨a, ea, wa, npa, ra⟩ := S1.own i _ _ e3 rfl
                    rw [hσ] at ea; cases ea
                    refine ⟨ds, W1, S1.al, args _ d0 a e3 rfl rfl wa ra, ?_⟩
                    cases e6 : sem ds with
                    | no => rw [e6] at h; exact h.elim
                    | ex c x => rw [e6] at h; exact h.elim
                    | ret d t d' =>
                      rw [e6] at h
                      exact call1_done hP S1 e3 rfl hσ hv rfl (fun _ z => by cases z) (Del.drop (g := g) h)
                  | io d0 =>
                    dsimp only at h
                    obtain ⟨a, ea, wa, npa, ra⟩ := S1.own i _ _ e3 rfl
                    rw [hσ] at ea; cases ea
                    refine ⟨ds, W1, S1.al, args _ d0 a e3 rfl rfl wa ra, ?_⟩
                    cases e6 : sem ds with
                    | no => rw [e6] at h; exact h.elim
                    | ex c x => rw [e6] at h; exact h.elim
                    | ret d t d' =>
                      rw [e6] at h
                      exact call1_done hP S1 e3 rfl hσ hv rfl (fun _ _ => ⟨_, rfl⟩) (Del.drop (g := g) h)
    · rw [if_neg hn] at h; exact h.elim
theorem pd_call (C : Ctx X g Wx k T) {j : Nat} {en : FEnt} {e : Expr} {es : List Expr} {fl : EvL} {p : Pos} (hj : T.T j = some en) (hio : ∀ m, en.io = some m → m < en.ps.length) (hg : Gl X en.x) (hdb : (en.x == ("__debug__" : Str)) = false) (ha : PA X (e :: es) (tAL g Wx fl))
    (he : starEach (e :: es) X.env = (false, eval e X.env) :: starEach es X.env) (hpl : (backTo pos (starEach es X.env)).any (·.1) = false) : PE X (.Call (.Name en.x p) (e :: es) [] pos) (tD g Wx (fCall en.ps.length en.io en.sem fl)) := by
  obtain ⟨F, hm, hk, hb⟩ := C.fns j en hj
  exact PE.imp (pe_callS F C.room hg hm hk hb (fun σ => passAt C.tk σ) ha hdb he hpl) fun _ _ _ h => tCall_run C.gP hio h

/-! ### statements -/
inductive Fl
  | nx (ρ : Rho)
  | rt (d : D) (t : Bool) (ρ : Rho)
  | bk (ρ : Rho)
  | ct (ρ : Rho)
  | ex (c : Nat) (x : D) (ρ : Rho)
  | no
abbrev Es := Rho → Fl
def flW (g : Cfg) (Wx : WX) (ext : List Pin) (D : Ends) : Fl → Prop
  | .nx ρ' => ∀ W' σ' H', StR g W' H' ρ' σ' ext → D.nx σ' H'
  | .rt d t ρ' => ∀ W' σ' v H', StR g W' H' ρ' σ' (⟨v, d, t⟩ :: ext) → D.rt v H'
  | .bk ρ' => ∀ W' σ' H', StR g W' H' ρ' σ' ext → D.bk σ' H'
  | .ct ρ' => ∀ W' σ' H', StR g W' H' ρ' σ' ext → D.ct σ' H'
  | .ex c x ρ' => ∀ σ', exW g Wx σ' ext c x ρ'
  | .no => False
def tS (g : Cfg) (Wx : WX) (f : Es) : TS := fun D σ H => ∃ W ρ ext, StR g W H ρ σ ext ∧ flW g Wx ext D (f ρ)
def Rs.fl {α : Type} (r : Rs α) (f : α → Rho → Fl) : Fl := match r with
  | .ok a ρ => f a ρ
  | .ex c x ρ => .ex c x ρ
  | .no => .no
def fNil : Es := fun ρ => .nx ρ
def fSeq (f1 f2 : Es) : Es := fun ρ => match f1 ρ with
  | .nx ρ1 => f2 ρ1
  | r => r
theorem PSs.imp {b : List Stmt} {t t' : TS} (h : PSs X b t) (i : ∀ D σ H, t' D σ H → t D σ H) : PSs X b t' := ⟨fun pins s σ H D I hq => h.run pins s σ H D I (i D σ H hq)⟩
theorem PS.imp {b : Stmt} {t t' : TS} (h : PS X b t) (i : ∀ D σ H, t' D σ H → t D σ H) : PS X b t' := ⟨fun pins s σ H D I hq => h.run pins s σ H D I (i D σ H hq)⟩
theorem pds_nil : PSs X [] (tS g Wx fNil) := PSs.imp pss_nil fun D σ H h => by
  obtain ⟨W, ρ, ext, S, h⟩ := h
  exact h W σ H S
theorem flW.imp {ext : List Pin} {D D' : Ends} {r : Fl} (h : flW g Wx ext D r) (h1 : ∀ σ H, D.nx σ H → D'.nx σ H) (h2 : ∀ v H, D.rt v H → D'.rt v H) (h3 : ∀ σ H, D.bk σ H → D'.bk σ H) (h4 : ∀ σ H, D.ct σ H → D'.ct σ H) : flW g Wx ext D' r := by
  cases r with
  | nx ρ => exact fun W' σ' H' S => h1 _ _ (h W' σ' H' S)
  | rt d t ρ => exact fun W' σ' v H' S => h2 _ _ (h W' σ' v H' S)
  | bk ρ => exact fun W' σ' H' S => h3 _ _ (h W' σ' H' S)
  | ct ρ => exact fun W' σ' H' S => h4 _ _ (h W' σ' H' S)
  | ex c x ρ => exact h
  | no => exact h
theorem pds_cons {st : Stmt} {rest : List Stmt} {f1 f2 : Es} (h1 : PS X st (tS g Wx f1)) (h2 : PSs X rest (tS g Wx f2)) : PSs X (st :: rest) (tS g Wx (fSeq f1 f2)) := PSs.imp (pss_cons h1 h2) fun D σ H h => by
  obtain ⟨W, ρ, ext, S, h⟩ := h
  refine ⟨W, ρ, ext, S, ?_⟩
  unfold fSeq at h
  cases e : f1 ρ with
  | nx ρ1 => rw [e] at h; exact fun W' σ' H' S' => ⟨W', ρ1, ext, S', h⟩
  | rt d t ρ1 => rw [e] at h; exact h
  | bk ρ1 => rw [e] at h; exact h
  | ct ρ1 => rw [e] at h; exact h
  | ex c x ρ1 => rw [e] at h; exact h
  | no => rw [e] at h; exact h
def fRet (f : Ev) : Es := fun ρ => (f ρ).fl fun r ρ1 => .rt r.1 r.2 ρ1
def fRetN : Es := fun ρ => .rt .none false ρ
def fExp (f : Ev) : Es := fun ρ => (f ρ).fl fun _ ρ1 => .nx ρ1
theorem ps_ret_d {e : Expr} {f : Ev} (h : PE X e (tD g Wx f)) : PS X (.Return (some e) pos) (tS g Wx (fRet f)) := PS.imp (ps_ret h) fun D σ H h => by
  obtain ⟨W, ρ, ext, S, h⟩ := h
  refine ⟨W, ρ, ext, S, ?_⟩
  unfold fRet at h
  cases e1 : f ρ with
  | no => rw [e1] at h; exact h
  | ex c x ρ' => rw [e1] at h; exact h σ
  | ok r ρ1 => rw [e1] at h; exact fun W' v H' S' => h W' σ v H' S'
theorem ps_retN_d : PS X (.Return none pos) (tS g Wx fRetN) := PS.imp ps_retN fun D σ H h => by
  obtain ⟨W, ρ, ext, S, h⟩ := h
  exact h W σ .non H (S.note .non)
theorem ps_expr_d {e : Expr} {f : Ev} (h : PE X e (tD g Wx f)) (hs : swapsWith e none pos.line X.env = pure false) : PS X (.Expr e pos) (tS g Wx (fExp f)) := PS.imp (ps_expr h hs) fun D σ H h => by
  obtain ⟨W, ρ, ext, S, h⟩ := h
  refine ⟨W, ρ, ext, S, ?_⟩
  unfold fExp at h
  cases e1 : f ρ with
  | no => rw [e1] at h; exact h
  | ex c x ρ' => rw [e1] at h; exact h σ
  | ok r ρ1 => rw [e1] at h; exact fun W' v H' S' => h W' σ H' S'.pop
def fIf (c : EvT) (a b : Es) : Es := fun ρ => (c ρ).fl fun t ρ1 => if t = true then a ρ1 else b ρ1
theorem ps_if_d {c : Expr} {a b : List Stmt} {fc : EvT} {fa fb : Es} (hc : PT X c (tT g Wx fc)) (ha : PSs X a (tS g Wx fa)) (hb : PSs X b (tS g Wx fb)) : PS X (.If c a b pos) (tS g Wx (fIf fc fa fb)) := PS.imp (ps_if hc ha hb) fun D σ H h => by
  obtain ⟨W, ρ, ext, S, h⟩ := h
  refine ⟨W, ρ, ext, S, ?_⟩
  unfold fIf at h
  cases e1 : fc ρ with
  | no => rw [e1] at h; exact h
  | ex c x ρ' => rw [e1] at h; exact h σ
  | ok t ρ1 =>
    rw [e1] at h
    intro W' H' S'
    dsimp only [Rs.fl] at h
    cases t with
    | true => rw [if_pos rfl] at h ⊢; exact ⟨W', ρ1, ext, S', h⟩
    | false => rw [if_neg (by decide)] at h ⊢; exact ⟨W', ρ1, ext, S', h⟩
def fPass : Es := fun ρ => .nx ρ
def fBreak : Es := fun ρ => .bk ρ
def fCont : Es := fun ρ => .ct ρ
theorem ps_pass_d : PS X (.Pass pos) (tS g Wx fPass) := PS.imp ps_pass fun D σ H h => by obtain ⟨W, ρ, ext, S, h⟩ := h; exact h W σ H S
theorem ps_break_d : PS X (.Break pos) (tS g Wx fBreak) := PS.imp ps_break fun D σ H h => by obtain ⟨W, ρ, ext, S, h⟩ := h; exact h W σ H S
theorem ps_cont_d : PS X (.Continue pos) (tS g Wx fCont) := PS.imp ps_continue fun D σ H h => by obtain ⟨W, ρ, ext, S, h⟩ := h; exact h W σ H S

/-! ### stores -/
def slOf (d : D) (t : Bool) : Sl := if t = true then .own d else .val d
/-- a slot that may be stored -/
def stOk (ρ : Rho) (i : Nat) : Bool := match ρ[i]? with
  | some (.io _) => false
  | some _ => true
  | none => false
theorem StR.asg {W : Addr → Prop} {H : Hp} {ρ : Rho} {σ : L2.St} {ext : List Pin} {i : Nat} {v : V} {d : D} {t : Bool} (S : StR g W H ρ σ (⟨v, d, t⟩ :: ext)) (hi : stOk ρ i = true) : StR g W H (ρ.set i (slOf d t)) (σ.set i (some v)) ext := by
  have hlt : i < ρ.length := by
    unfold stOk at hi
    cases q : ρ[i]? with
    | none => rw [q] at hi; cases hi
    | some s => exact (List.getElem?_eq_some_iff.mp q).1
  have hls : i < σ.length := by rw [S.len]; exact hlt
  have old : ∀ j b, j ≠ i → OwnAt (ρ.set i (slOf d t)) (σ.set i (some v)) j b → OwnAt ρ σ j b := fun j b hj ⟨s, d2, e1, e2, e3⟩ => by
    rw [List.getElem?_set_ne (Ne.symm hj)] at e1 e3
    exact ⟨s, d2, e1, e2, e3⟩
  have new : ∀ b, OwnAt (ρ.set i (slOf d t)) (σ.set i (some v)) i b → t = true ∧ v = .ref b := fun b ⟨s, d2, e1, e2, e3⟩ => by
    rw [List.getElem?_set_self hlt] at e1
    rw [List.getElem?_set_self hls] at e3
    cases e1; cases e3
    cases t with
    | true => exact ⟨rfl, rfl⟩
    | false => cases e2
  refine ⟨by rw [List.length_set, List.length_set]; exact S.len, S.m0, S.al, S.dom, S.fr, ?_, ?_, ?_, ?_, fun p hp => S.pin p (List.mem_cons_of_mem _ hp), ?_, (List.pairwise_cons.mp S.pinj).2⟩
  · intro j d2 hj
    by_cases hji : j = i
    · subst hji
      rw [List.getElem?_set_self hlt] at hj
      cases t with
      | true => cases hj
      | false => cases hj; exact ⟨v, List.getElem?_set_self hls, S.pin0⟩
    · rw [List.getElem?_set_ne (Ne.symm hji)] at hj
      obtain ⟨u, e1, r⟩ := S.val j d2 hj
      exact ⟨u, by rw [List.getElem?_set_ne (Ne.symm hji)]; exact e1, r⟩
  · intro j s2 d2 hj hs2
    by_cases hji : j = i
    · subst hji
      rw [List.getElem?_set_self hlt] at hj
      cases hj
      cases t with
      | false => cases hs2
      | true =>
        cases hs2
        obtain ⟨a, rfl, w, np, r⟩ := S.pin1
        exact ⟨a, List.getElem?_set_self hls, w, np, r⟩
    · rw [List.getElem?_set_ne (Ne.symm hji)] at hj
      obtain ⟨a, e1, r⟩ := S.own j s2 d2 hj hs2
      exact ⟨a, by rw [List.getElem?_set_ne (Ne.symm hji)]; exact e1, r⟩
  · intro j d2 hj
    by_cases hji : j = i
    · subst hji
      rw [List.getElem?_set_self hlt] at hj
      unfold slOf at hj
      split at hj <;> cases hj
    · rw [List.getElem?_set_ne (Ne.symm hji)] at hj ⊢
      exact S.io j d2 hj
  · intro j l b h1 h2
    by_cases hj : j = i
    · by_cases hl : l = i
      · rw [hj, hl]
      · subst hj
        obtain ⟨ht, hv⟩ := new b h1
        exact absurd hv (S.pown _ List.mem_cons_self ht l b (old l b hl h2))
    · by_cases hl : l = i
      · subst hl
        obtain ⟨ht, hv⟩ := new b h2
        exact absurd hv (S.pown _ List.mem_cons_self ht j b (old j b hj h1))
      · exact S.inj j l b (old j b hj h1) (old l b hl h2)
  · intro p hp ht j b ho
    by_cases hj : j = i
    · subst hj
      obtain ⟨ht2, hv⟩ := new b ho
      intro z
      exact (List.pairwise_cons.mp S.pinj).1 p hp ht2 ht (by show v = p.v; rw [hv, z])
    · exact S.pown p (List.mem_cons_of_mem _ hp) ht j b (old j b hj ho)
def fAsg (i : Nat) (f : Ev) : Es := fun ρ => (f ρ).fl fun r ρ1 => if stOk ρ1 i = true then .nx (ρ1.set i (slOf r.1 r.2)) else .no
theorem tAsg_run {i : Nat} {f : Ev} {D : Ends} {σ : L2.St} {H : Hp} (h : tS g Wx (fAsg i f) D σ H) : tAsg (tD g Wx f) (gName i) D σ H := by
  obtain ⟨W, ρ, ext, S, h⟩ := h
  refine ⟨W, ρ, ext, S, ?_⟩
  unfold fAsg at h
  cases e1 : f ρ with
  | no => rw [e1] at h; exact h
  | ex c x ρ' => rw [e1] at h; exact h σ
  | ok r ρ1 =>
    rw [e1] at h
    intro W' v H' S'
    dsimp only [Rs.fl] at h
    split at h
    · rename_i hs; exact h W' _ H' (S'.asg hs)
    · exact h.elim
theorem ps_set_d (C : Ctx0 X g T) {i : Nat} {x : Str} {e : Expr} {f : Ev} {pos' : Pos} (hi : X.N[i]? = some x) (hx : Loc X.env.scope x) (he : PE X e (tD g Wx f)) (hs : swapsWith e (some (.Name x pos')) pos.line X.env = pure false) (hf : X.fn x = true ∨ X.env.scope.names.lookup x = some .local) :
    PS X (.Assign [.Name x pos'] e pos) (tS g Wx (fAsg i f)) := PS.imp (ps_set C.nd hi hx he hs hf) fun _ _ _ h => tAsg_run h
end
end PV
namespace PV
open PySem L2

section
variable {X : Cx} {g : Cfg} {Wx : WX} {k : Nat} {T : Mdl} {pos : Pos}
theorem PE.orr {e : Expr} {t u : TE} (h : PE X e t) (h' : PE X e u) : PE X e (fun σ H Q => t σ H Q ∨ u σ H Q) := ⟨fun pins s σ H Q I hq => hq.elim (h.run pins s σ H Q I) (h'.run pins s σ H Q I)⟩
theorem PS.orr {e : Stmt} {t u : TS} (h : PS X e t) (h' : PS X e u) : PS X e (fun D σ H => t D σ H ∨ u D σ H) := ⟨fun pins s σ H D I hq => hq.elim (h.run pins s σ H D I) (h'.run pins s σ H D I)⟩
theorem PI.orr {tg e : Expr} {t u : TI} (h : PI X tg e t) (h' : PI X tg e u) : PI X tg e (fun σ H R => t σ H R ∨ u σ H R) := ⟨fun pins s σ H R I hq => hq.elim (h.run pins s σ H R I) (h'.run pins s σ H R I)⟩
theorem PI.imp {tg e : Expr} {t t' : TI} (h : PI X tg e t) (i : ∀ σ H R, t' σ H R → t σ H R) : PI X tg e t' := ⟨fun pins s σ H R I hq => h.run pins s σ H R I (i σ H R hq)⟩
theorem PG.imp {tg : Expr} {t t' : TG} (h : PG X tg t) (i : ∀ v σ H Q, t' v σ H Q → t v σ H Q) : PG X tg t' := ⟨fun pins s σ H v u Q I r hq => h.run pins s σ H v u Q I r (i v σ H Q hq)⟩
theorem PGs.imp {tg : List Expr} {t t' : TGs} (h : PGs X tg t) (i : ∀ v σ H Q, t' v σ H Q → t v σ H Q) : PGs X tg t' := ⟨fun pins s σ H v u Q I r hq => h.run pins s σ H v u Q I r (i v σ H Q hq)⟩

/-! ### targets -/
abbrev Tgt := D → Rho → Option Rho
/-- two states alike but at the slots is -/
def OffS (is : List Nat) (σ σ' : L2.St) : Prop := ∀ vs : List Nat, (∀ i ∈ is, i ∈ vs) → wipe σ' vs = wipe σ vs
theorem wipe_set {σ : L2.St} {i : Nat} {x : Option V} : ∀ {vs : List Nat}, i ∈ vs → wipe (σ.set i x) vs = wipe σ vs
  | v :: vs, h => by
    unfold wipe
    by_cases hi : i ∈ vs
    · rw [wipe_set hi]
    · have e : i = v := by
        rcases List.mem_cons.mp h with e | e
        · exact e
        · exact absurd e hi
      subst e
      have com : ∀ {ws : List Nat}, i ∉ ws → wipe (σ.set i x) ws = (wipe σ ws).set i x := by
        intro ws
        induction ws with
        | nil => intro _; rfl
        | cons w ws ih =>
          intro hw
          unfold wipe
          rw [ih (fun z => hw (List.mem_cons_of_mem _ z)), List.set_comm _ _ (fun z => hw (by rw [z]; exact List.mem_cons_self))]
      rw [com hi, List.set_set]
def gT (g : Cfg) (is : List Nat) (f : Tgt) : TG := fun v σ H Q => ∃ W ρ ext d, StR g W H ρ σ (⟨v, d, false⟩ :: ext) ∧ ∃ ρ', f d ρ = some ρ' ∧ ∀ W' σ' H', StR g W' H' ρ' σ' ext → OffS is σ σ' → Q σ' H'
def tgName (i : Nat) : Tgt := fun d ρ => if stOk ρ i = true then some (ρ.set i (.val d)) else none
def tgAll : List Nat → List D → Rho → Option Rho
  | [], [], ρ => some ρ
  | i :: is, d :: ds, ρ => if stOk ρ i = true then tgAll is ds (ρ.set i (.val d)) else none
  | _, _, _ => none
def tgTup (is : List Nat) : Tgt := fun d ρ => match d with
  | .tuple ds => tgAll is ds ρ
  | _ => none
def vdPins : List V → List D → List Pin
  | v :: vs, d :: ds => ⟨v, d, false⟩ :: vdPins vs ds
  | _, _ => []
def gTs (g : Cfg) (is : List Nat) : TGs := fun vs σ H Q => ∃ W ρ ext ds, vs.length = ds.length ∧ StR g W H ρ σ (vdPins vs ds ++ ext) ∧ ∃ ρ', tgAll is ds ρ = some ρ' ∧ ∀ W' σ' H', StR g W' H' ρ' σ' ext → OffS is σ σ' → Q σ' H'
theorem pg_name_d (nd : X.N.Nodup) {i : Nat} {x : Str} (hi : X.N[i]? = some x) (hx : Loc X.env.scope x) (hf : X.fn x = true ∨ X.env.scope.names.lookup x = some .local) : PG X (.Name x pos) (gT g [i] (tgName i)) := PG.imp (pg_name nd hi hx hf) fun v σ H Q h => by
  obtain ⟨W, ρ, ext, d, S, ρ', e, q⟩ := h
  unfold tgName at e
  split at e
  · rename_i hs
    cases e
    exact q W _ H (S.asg (t := false) hs) fun vs hv => wipe_set (hv i List.mem_cons_self)
  · cases e
theorem pgs_nil_d : PGs X [] (gTs g []) := PGs.imp pgs_nil fun v σ H Q h => by
  obtain ⟨W, ρ, ext, ds, hl, S, ρ', e, q⟩ := h
  cases ds with
  | nil =>
    cases v with
    | nil => cases e; exact ⟨rfl, q W σ H S fun vs _ => rfl⟩
    | cons _ _ => cases hl
  | cons _ _ => cases e
theorem pgs_cons_d (nd : X.N.Nodup) {i : Nat} {is : List Nat} {x : Str} {es : List Expr} (hi : X.N[i]? = some x) (hx : Loc X.env.scope x) (hf : X.fn x = true ∨ X.env.scope.names.lookup x = some .local) (h2 : PGs X es (gTs g is))
    (hs : (assignEach (.Name x pos :: es) X.env).map (·.2) = assign (.Name x pos) X.env :: (assignEach es X.env).map (·.2)) : PGs X (.Name x pos :: es) (gTs g (i :: is)) := PGs.imp (pgs_cons (pg_name nd hi hx hf) h2 hs) fun v σ H Q h => by
  obtain ⟨W, ρ, ext, ds, hl, S, ρ', e, q⟩ := h
  cases ds with
  | nil => cases e
  | cons d ds =>
    cases v with
    | nil => cases hl
    | cons v vs =>
      unfold tgAll at e
      split at e
      · rename_i hs'
        exact ⟨v, vs, rfl, W, ρ.set i (.val d), ext, ds, by simpa using hl, S.asg (t := false) hs', ρ', e, fun W' σ' H' S' o => q W' σ' H' S' fun ws hw => (o ws fun j hj => hw j (List.mem_cons_of_mem _ hj)).trans (wipe_set (hw i List.mem_cons_self))⟩
      · cases e
theorem StR.addL {W : Addr → Prop} {H : Hp} {ρ : Rho} {σ : L2.St} {ext : List Pin} (S : StR g W H ρ σ ext) : ∀ {vs : List V} {ds : List D}, RpL g.K W H vs ds → StR g W H ρ σ (vdPins vs ds ++ ext)
  | _, _, .nil => S
  | _, _, .cons h t => (S.addL t).note h
theorem pg_tup_d (calm : X.calm = true) (hK : X.K = g.K) {is : List Nat} {es : List Expr} {kk : Nat} (h : PGs X es (gTs g is)) (hn : (assignEach es X.env).length = is.length) (hst : (assignEach es X.env).findIdx? (·.1) = none) : PG X (.Tuple es kk pos) (gT g is (tgTup is)) :=
  PG.imp (pg_tup calm h hn hst) fun v σ H Q hq => by
    obtain ⟨W, ρ, ext, d, S, ρ', e, q⟩ := hq
    unfold tgTup at e
    cases d with
    | tuple ds =>
      have r := S.pin0
      cases r with
      | @tup a vs _ hs ha =>
        have hlen : ds.length = is.length := by
          have go : ∀ (is : List Nat) (ds : List D) (ρ : Rho), tgAll is ds ρ = some ρ' → ds.length = is.length := by
            intro is
            induction is with
            | nil => intro ds ρ h; cases ds with | nil => rfl | cons _ _ => cases h
            | cons i is ih =>
              intro ds ρ h
              cases ds with
              | nil => cases h
              | cons d ds =>
                unfold tgAll at h
                split at h
                · rw [List.length_cons, List.length_cons, ih _ _ h]
                · cases h
          exact go is ds ρ e
        refine ⟨a, vs, rfl, ?_, ha.length.trans hlen, W, ρ, ext, ds, ha.length, S.pop.addL ha, ρ', e, q⟩
        rw [hK]
        rcases hs with ⟨_, r⟩ | z
        · exact .inl r
        · exact .inr z
    | _ => cases e

/-! ### what is walked -/
def Wk (g : Cfg) (J : It) (ps : List Pin) (ds : List D) : Prop := ∀ W H ρ σ ext (i : Nat), StR g W H ρ σ ext → (∀ p ∈ ps, p ∈ ext) → (∀ d, ds[i]? = some d → J.go i H ∧ ∀ x H'', J.yld i H x H'' → StR g W H'' ρ σ (⟨x, d, false⟩ :: ext)) ∧ (ds.length ≤ i → J.stop i H)
abbrev EvI := Rho → Rs (List D)
def tI (g : Cfg) (Wx : WX) (f : EvI) : TI := fun σ H R => ∃ W ρ ext, StR g W H ρ σ ext ∧ match f ρ with
  | .ok ds ρ' => ∀ W' H' J ps, StR g W' H' ρ' σ (ps ++ ext) → Wk g J ps ds → R J H'
  | .ex c x ρ' => exW g Wx σ ext c x ρ'
  | .no => False
/-- a list, a tuple, a text, by its value -/
def chD (z : Str) : List D := z.cps.toList.map fun c => .str ⟨#[c]⟩
def fItems (f : Ev) : EvI := fun ρ => (f ρ).bind fun r ρ1 => match r.1 with
  | .list ds => .ok ds ρ1
  | .tuple ds => .ok ds ρ1
  | .str z => .ok (chD z) ρ1
  | _ => .no
theorem strOk_sign {z : Str} (h : PyData.strOk z = true) {c : Nat} (hc : c ∈ z.cps) : PyData.strOk ⟨#[c]⟩ = true := by
  unfold PyData.strOk at *
  rw [Array.all_eq_true_iff_forall_mem] at h
  have := h c hc
  simpa using this
theorem pi_items_d (C : Ctx X g Wx k T) {tg e : Expr} {f : Ev} (h : PE X e (tD g Wx f)) : PI X tg e (tI g Wx (fItems f)) := by
  refine PI.imp (PI.orr (PI.orr (pi_list h) (pi_tup h)) (pi_str h)) fun σ H R hq => ?_
  obtain ⟨W, ρ, ext, S, hq⟩ := hq
  unfold fItems at hq
  cases e1 : f ρ with
  | no => rw [e1] at hq; exact hq.elim
  | ex c x ρ' => rw [e1] at hq; refine .inl (.inl ⟨W, ρ, ext, S, ?_⟩); rw [e1]; exact hq
  | ok r ρ1 =>
    rw [e1] at hq
    dsimp only [Rs.bind] at hq
    obtain ⟨d, t⟩ := r
    have fz : ∀ W' v H', StR g W' H' ρ1 σ (⟨v, d, t⟩ :: ext) → ∃ W2, StR g W2 H' ρ1 σ (⟨v, d, false⟩ :: ext) := fun W' v H' S' => by
      cases t with
      | false => exact ⟨W', S'⟩
      | true => exact S'.freeze C.gM
    cases d with
    | list ds =>
      refine .inl (.inl ⟨W, ρ, ext, S, ?_⟩)
      rw [e1]
      intro W' v H' S'
      obtain ⟨W2, S2⟩ := fz W' v H' S'
      have hq' : ∀ W' H' J ps, StR g W' H' ρ1 σ (ps ++ ext) → Wk g J ps ds → R J H' := hq
      have r := S2.pin0
      cases r with
      | @lst a vs _ hs ha =>
        have sq : ∀ {W : Addr → Prop} {H : Hp}, ((¬ W a ∧ Rd H a (.lst vs)) ∨ KLi g.K a vs) → SqL X.K H a vs := fun {W H} h => by
          rw [C.K]
          rcases h with ⟨_, r⟩ | z
          · exact .inl r
          · exact .inr z
        refine ⟨a, rfl, ⟨vs, sq hs⟩, hq' W2 H' _ [⟨.ref a, .list ds, false⟩] S2 fun W3 H3 ρ3 σ3 ext3 i S3 hm => ?_⟩
        have r3 := S3.mem0 (p := ⟨.ref a, .list ds, false⟩) (hm _ List.mem_cons_self) rfl
        cases r3 with
        | @lst _ vs3 _ hs3 ha3 =>
          have sq3 : SqL X.K H3 a vs3 := by
            rw [C.K]
            rcases hs3 with ⟨_, r⟩ | z
            · exact .inl r
            · exact .inr z
          refine ⟨fun d hd => ?_, fun hl => ⟨vs3, sq3, by rw [ha3.length]; exact hl⟩⟩
          obtain ⟨v, hv, hr⟩ := ha3.get hd
          exact ⟨⟨vs3, v, sq3, hv⟩, fun x H'' y => by
            obtain ⟨e2, y⟩ := y
            subst e2
            have z := y vs3 sq3
            rw [hv] at z; cases z
            exact S3.note hr⟩
    | tuple ds =>
      refine .inl (.inr ⟨W, ρ, ext, S, ?_⟩)
      rw [e1]
      intro W' v H' S'
      obtain ⟨W2, S2⟩ := fz W' v H' S'
      have hq' : ∀ W' H' J ps, StR g W' H' ρ1 σ (ps ++ ext) → Wk g J ps ds → R J H' := hq
      have r := S2.pin0
      cases r with
      | @tup a vs _ hs ha =>
        have sq : SqT X.K H' a vs := by
          rw [C.K]
          rcases hs with ⟨_, r⟩ | z
          · exact .inl r
          · exact .inr z
        refine ⟨a, rfl, ⟨vs, sq⟩, hq' W2 H' _ [⟨.ref a, .tuple ds, false⟩] S2 fun W3 H3 ρ3 σ3 ext3 i S3 hm => ?_⟩
        have r3 := S3.mem0 (p := ⟨.ref a, .tuple ds, false⟩) (hm _ List.mem_cons_self) rfl
        cases r3 with
        | @tup _ vs3 _ hs3 ha3 =>
          have sq3 : SqT X.K H3 a vs3 := by
            rw [C.K]
            rcases hs3 with ⟨_, r⟩ | z
            · exact .inl r
            · exact .inr z
          refine ⟨fun d hd => ?_, fun hl => ⟨vs3, sq3, by rw [ha3.length]; exact hl⟩⟩
          obtain ⟨v, hv, hr⟩ := ha3.get hd
          exact ⟨⟨vs3, v, sq3, hv⟩, fun x H'' y => by
            obtain ⟨e2, y⟩ := y
            subst e2
            have z := y vs3 sq3
            rw [hv] at z; cases z
            exact S3.note hr⟩
    | str z =>
      refine .inr ⟨W, ρ, ext, S, ?_⟩
      rw [e1]
      intro W' v H' S'
      obtain ⟨W2, S2⟩ := fz W' v H' S'
      have hq' : ∀ W' H' J ps, StR g W' H' ρ1 σ (ps ++ ext) → Wk g J ps (chD z) → R J H' := hq
      have r := S2.pin0
      cases r with
      | str _ ok =>
        refine ⟨z, rfl, hq' W2 H' _ [⟨.str z, .str z, false⟩] S2 fun W3 H3 ρ3 σ3 ext3 i S3 hm => ?_⟩
        have hl : (chD z).length = z.cps.size := by unfold chD; simp
        refine ⟨fun d hd => ?_, fun hl2 => by show z.cps.size ≤ i; omega⟩
        have hi : i < z.cps.size := by rw [← hl]; exact (List.getElem?_eq_some_iff.mp hd).1
        have hd' : d = .str ⟨#[z.cps[i]]⟩ := by
          unfold chD at hd
          rw [List.getElem?_map, Array.getElem?_toList, Array.getElem?_eq_getElem hi] at hd
          exact (Option.some.inj hd).symm
        refine ⟨hi, fun x H'' y => ?_⟩
        obtain ⟨e2, c, hc, e3⟩ := y
        rw [Array.getElem?_eq_getElem hi] at hc
        cases hc
        subst e2 e3 hd'
        exact S3.note (.str _ (strOk_sign ok (Array.getElem_mem hi)))
    | _ => exact hq.elim
/-- a list or tuple at an owned slot, that the loop does not touch: taken out for its time -/
def fTake (i : Nat) : EvI := fun ρ => match ρ[i]? with
  | some (.own (.list ds)) => .ok ds (ρ.set i .no)
  | _ => .no
/-- range -/
def rgD (lo hi : Int) : List D := (List.range (hi - lo).toNat).map fun (i : Nat) => .int (lo + (i : Int))
def fRange1 (fa : EvL) : EvI := fun ρ => (fa ρ).bind fun as ρ1 => match cts ρ1 as with
  | some [.int n] => if n < 1000000 ∧ -1000000 < n then .ok (rgD 0 n) ρ1 else .no
  | _ => .no
def fRange2 (fa : EvL) : EvI := fun ρ => (fa ρ).bind fun as ρ1 => match cts ρ1 as with
  | some [.int lo, .int n] => if (n < 1000000 ∧ -1000000 < n) ∧ lo < 1000000 ∧ -1000000 < lo then .ok (rgD lo n) ρ1 else .no
  | _ => .no
theorem wk_range {lo hi : Int} {n : Nat} (hn : n = (hi - lo).toNat) : Wk g (Itr lo n) [] (rgD lo hi) := fun W H ρ σ ext i S _ => by
  have hl : (rgD lo hi).length = n := by unfold rgD; rw [List.length_map, List.length_range, hn]
  refine ⟨fun d hd => ?_, fun h => by rw [hl] at h; exact h⟩
  have hi' : i < n := by rw [← hl]; exact (List.getElem?_eq_some_iff.mp hd).1
  refine ⟨hi', fun x H'' y => ?_⟩
  obtain ⟨e1, e2⟩ := y
  subst e1 e2
  have e3 : d = .int (lo + i) := by
    unfold rgD at hd
    rw [List.getElem?_map, List.getElem?_range (by omega)] at hd
    exact (Option.some.inj hd).symm
  rw [e3]
  exact S.note (.int _)
theorem Rp1.int {K : PySem.W.Frag} {W : Addr → Prop} {H : Hp} {v : V} {i : Int} (h : Rp1 K W H v (.int i)) : v = .int i := by
  rcases h with h | ⟨a, _, h⟩
  · cases h; rfl
  · exact h.elim
theorem pi_range1_d (C : Ctx X g Wx k T) {tg a : Expr} {fa : EvL} {p : Pos} (hg : Gl X "range") (ha : PA X [a] (tAL g Wx fa)) (hs : starEach [a] X.env = [(false, eval a X.env)]) : PI X tg (.Call (.Name "range" p) [a] [] pos) (tI g Wx (fRange1 fa)) := by
  refine PI.imp (pi_range1 hg (C.bm _ (by decide)) ha hs) fun σ H R hq => ?_
  obtain ⟨W, ρ, ext, S, hq⟩ := hq
  refine ⟨W, ρ, ext, S, ?_⟩
  unfold fRange1 at hq
  cases e1 : fa ρ with
  | no => rw [e1] at hq; exact hq
  | ex c x ρ' => rw [e1] at hq; exact hq
  | ok as ρ1 =>
    rw [e1] at hq
    intro W1 vs H1 S1 r1
    dsimp only [Rs.bind] at hq
    split at hq
    · rename_i ds ρ' e
      split at e
      · rename_i n e2
        split at e
        · rename_i hb
          cases e
          have z := S1.avs (fun p hp => List.mem_append_left _ hp) r1 e2
          cases z with
          | cons z1 z2 =>
            cases z2
            have e3 := z1.int
            subst e3
            exact ⟨n, rfl, by omega, by omega, hq W1 H1 _ [] (S1.sub (List.sublist_append_right _ _)) (wk_range (by simp))⟩
        · cases e
      · cases e
    · rename_i e
      split at e
      · split at e <;> cases e
      · cases e
    · exact hq.elim
theorem pi_range2_d (C : Ctx X g Wx k T) {tg a b : Expr} {fa : EvL} {p : Pos} (hg : Gl X "range") (ha : PA X [a, b] (tAL g Wx fa)) (hs : starEach [a, b] X.env = [(false, eval a X.env), (false, eval b X.env)]) (hs2 : starEach [b] X.env = [(false, eval b X.env)]) : PI X tg (.Call (.Name "range" p) [a, b] [] pos) (tI g Wx (fRange2 fa)) := by
  refine PI.imp (pi_range2 hg (C.bm _ (by decide)) ha hs hs2) fun σ H R hq => ?_
  obtain ⟨W, ρ, ext, S, hq⟩ := hq
  refine ⟨W, ρ, ext, S, ?_⟩
  unfold fRange2 at hq
  cases e1 : fa ρ with
  | no => rw [e1] at hq; exact hq
  | ex c x ρ' => rw [e1] at hq; exact hq
  | ok as ρ1 =>
    rw [e1] at hq
    intro W1 vs H1 S1 r1
    dsimp only [Rs.bind] at hq
    split at hq
    · rename_i ds ρ' e
      split at e
      · rename_i lo n e2
        split at e
        · rename_i hb
          cases e
          have z := S1.avs (fun p hp => List.mem_append_left _ hp) r1 e2
          cases z with
          | cons z1 z2 =>
            cases z2 with
            | cons z3 z4 =>
              cases z4
              have e3 := z1.int
              subst e3
              have e4 := z3.int
              subst e4
              exact ⟨lo, n, rfl, ⟨by omega, by omega, by omega, by omega⟩, hq W1 H1 _ [] (S1.sub (List.sublist_append_right _ _)) (wk_range rfl)⟩
        · cases e
      · cases e
    · rename_i e
      split at e
      · split at e <;> cases e
      · cases e
    · exact hq.elim

/-! ### for -/
def forLoop (tgt : Tgt) (body : Es) : List D → Rho → Fl
  | [], ρ => .nx ρ
  | d :: ds, ρ => match tgt d ρ with
    | none => .no
    | some ρ1 => (match body ρ1 with
      | .nx ρ2 => forLoop tgt body ds ρ2
      | .ct ρ2 => forLoop tgt body ds ρ2
      | .bk ρ2 => .nx ρ2
      | r => r)
def fFor (fi : EvI) (tgt : Tgt) (body : Es) : Es := fun ρ => (fi ρ).fl fun ds ρ1 => forLoop tgt body ds ρ1
theorem flW.ext {ext ext' : List Pin} {D : Ends} {r : Fl} (h : flW g Wx ext D r) (s : ext.Sublist ext') : flW g Wx ext' D r := by
  cases r with
  | nx ρ => exact fun W' σ' H' S => h W' σ' H' (S.sub s)
  | rt d t ρ => exact fun W' σ' v H' S => h W' σ' v H' (S.sub (List.cons_sublist_cons.mpr s))
  | bk ρ => exact fun W' σ' H' S => h W' σ' H' (S.sub s)
  | ct ρ => exact fun W' σ' H' S => h W' σ' H' (S.sub s)
  | ex c x ρ => exact fun σ' => exW.ext (h σ') s
  | no => exact h
theorem tFor_run {is : List Nat} {fi : EvI} {tgt : Tgt} {body : Es} {D : Ends} {σ : L2.St} {H : Hp} (h : tS g Wx (fFor fi tgt body) D σ H) : tFor (tI g Wx fi) (gT g is tgt) (tS g Wx body) D σ H := by
  obtain ⟨W, ρ, ext, S, h⟩ := h
  refine ⟨W, ρ, ext, S, ?_⟩
  unfold fFor at h
  cases e1 : fi ρ with
  | no => rw [e1] at h; exact h
  | ex c x ρ' => rw [e1] at h; exact h σ
  | ok ds ρ1 =>
    rw [e1] at h
    intro W1 H1 J ps S1 wk
    have h' : flW g Wx ext D (forLoop tgt body ds ρ1) := h
    refine ⟨fun i m σ H => m = ds.length - i ∧ i ≤ ds.length ∧ ∃ Wa ρ, StR g Wa H ρ σ (ps ++ ext) ∧ flW g Wx ext D (forLoop tgt body (ds.drop i) ρ), ⟨ds.length, by simp, Nat.zero_le _, W1, ρ1, S1, by simpa using h'⟩, ?_⟩
    rintro i m σ2 H2 ⟨rfl, hi, Wa, ρ2, S2, h2⟩
    obtain ⟨w1, w2⟩ := wk Wa H2 ρ2 σ2 _ i S2 (fun p hp => List.mem_append_left _ hp)
    by_cases hlt : i < ds.length
    · right
      have hd : ds[i]? = some ds[i] := List.getElem?_eq_getElem hlt
      obtain ⟨go, yl⟩ := w1 _ hd
      rw [List.drop_eq_getElem_cons hlt] at h2
      unfold forLoop at h2
      refine ⟨go, fun σ' H' => ∃ Wa ρ, StR g Wa H' ρ σ' (ps ++ ext) ∧ flW g Wx ext D (forLoop tgt body (ds.drop (i + 1)) ρ), fun σ' H' n => ⟨_, by omega, rfl, hlt, n⟩, fun x H' y => ?_⟩
      have S3 := yl x H' y
      cases e2 : tgt ds[i] ρ2 with
      | none => rw [e2] at h2; exact h2.elim
      | some ρ3 =>
        rw [e2] at h2
        dsimp only at h2
        refine ⟨Wa, ρ2, _, ds[i], S3, ρ3, e2, fun W4 σ4 H4 S4 _ => ⟨W4, ρ3, _, S4, ?_⟩⟩
        cases e3 : body ρ3 with
        | nx ρ4 => rw [e3] at h2; exact fun W5 σ5 H5 S5 => ⟨W5, ρ4, S5, h2⟩
        | ct ρ4 => rw [e3] at h2; exact fun W5 σ5 H5 S5 => ⟨W5, ρ4, S5, h2⟩
        | bk ρ4 =>
          rw [e3] at h2
          have h3 : flW g Wx ext D (.nx ρ4) := h2
          exact fun W5 σ5 H5 S5 => h3 W5 σ5 H5 (S5.sub (List.sublist_append_right _ _))
        | rt d t ρ4 =>
          rw [e3] at h2
          have h3 : flW g Wx ext D (.rt d t ρ4) := h2
          exact fun W5 σ5 v H5 S5 => h3 W5 σ5 v H5 (S5.sub (List.cons_sublist_cons.mpr (List.sublist_append_right _ _)))
        | ex c x ρ4 =>
          rw [e3] at h2
          have h3 : flW g Wx ext D (.ex c x ρ4) := h2
          exact fun σ5 => exW.ext (h3 σ5) (List.sublist_append_right _ _)
        | no => rw [e3] at h2; exact h2
    · left
      have e : i = ds.length := by omega
      subst e
      rw [List.drop_length] at h2
      exact ⟨w2 (Nat.le_refl _), h2 Wa σ2 H2 (S2.sub (List.sublist_append_right _ _))⟩
theorem ps_for_d (C : Ctx X g Wx k T) {tg iter : Expr} {body : List Stmt} {is : List Nat} {fi : EvI} {tgt : Tgt} {fb : Es} (hi : PI X tg iter (tI g Wx fi)) (hg : PG X tg (gT g is tgt)) (hb : PSs X body (tS g Wx fb)) (hs : ∀ x, foldedSetIterable iter X.env x = pure x) :
    PS X (.For tg iter body [] pos) (tS g Wx (fFor fi tgt fb)) := PS.imp (ps_for C.po C.calm hi hg hb hs) fun _ _ _ h => tFor_run h

/-! ### while -/
def whileL (c : EvT) (body : Es) : Nat → Rho → Fl
  | 0, _ => .no
  | n + 1, ρ => (c ρ).fl fun b ρ1 => if b = true then (match body ρ1 with
      | .nx ρ2 => whileL c body n ρ2
      | .ct ρ2 => whileL c body n ρ2
      | .bk ρ2 => .nx ρ2
      | r => r) else .nx ρ1
def fWhile (n : Nat) (c : EvT) (body : Es) : Es := fun ρ => whileL c body n ρ
theorem tWhile_run {n : Nat} {c : EvT} {body : Es} {D : Ends} {σ : L2.St} {H : Hp} (h : tS g Wx (fWhile n c body) D σ H) : tWhile (tT g Wx c) (tS g Wx body) D σ H := by
  obtain ⟨W, ρ, ext, S, h⟩ := h
  refine ⟨fun m σ H => ∃ Wa ρ, StR g Wa H ρ σ ext ∧ flW g Wx ext D (whileL c body m ρ), ⟨n, W, ρ, S, h⟩, ?_⟩
  rintro m σ1 H1 ⟨Wa, ρ1, S1, h1⟩
  refine ⟨Wa, ρ1, ext, S1, ?_⟩
  cases m with
  | zero => exact h1.elim
  | succ m =>
    unfold whileL at h1
    cases e1 : c ρ1 with
    | no => rw [e1] at h1; exact h1
    | ex c' x ρ' => rw [e1] at h1; exact h1 σ1
    | ok b ρ2 =>
      rw [e1] at h1
      intro W2 H2 S2
      dsimp only [Rs.fl] at h1
      cases b with
      | false => rw [if_neg (by decide)] at h1 ⊢; exact h1 W2 σ1 H2 S2
      | true =>
        rw [if_pos rfl] at h1 ⊢
        refine ⟨fun σ' H' => ∃ Wa ρ, StR g Wa H' ρ σ' ext ∧ flW g Wx ext D (whileL c body m ρ), fun σ' H' q => ⟨m, Nat.lt_succ_self _, q⟩, W2, ρ2, ext, S2, ?_⟩
        cases e3 : body ρ2 with
        | nx ρ4 => rw [e3] at h1; exact fun W5 σ5 H5 S5 => ⟨W5, ρ4, S5, h1⟩
        | ct ρ4 => rw [e3] at h1; exact fun W5 σ5 H5 S5 => ⟨W5, ρ4, S5, h1⟩
        | bk ρ4 => rw [e3] at h1; exact h1
        | rt d t ρ4 => rw [e3] at h1; exact h1
        | ex c x ρ4 => rw [e3] at h1; exact h1
        | no => rw [e3] at h1; exact h1
theorem ps_while_d (C : Ctx X g Wx k T) {n : Nat} {c : Expr} {body : List Stmt} {fc : EvT} {fb : Es} (hc : PT X c (tT g Wx fc)) (hb : PSs X body (tS g Wx fb)) : PS X (.While c body [] pos) (tS g Wx (fWhile n fc fb)) :=
  PS.imp (ps_while C.po hc hb) fun _ _ _ h => tWhile_run h

/-! ### a, b = e -/
def fAsgT (is : List Nat) (f : Ev) : Es := fun ρ => (f ρ).fl fun r ρ1 => match tgTup is r.1 ρ1 with
  | some ρ2 => .nx ρ2
  | none => .no
theorem ps_asgT_d (C : Ctx X g Wx k T) {is : List Nat} {es : List Expr} {kk : Nat} {e : Expr} {f : Ev} {tpos : Pos} (he : PE X e (tD g Wx f)) (h : PGs X es (gTs g is)) (hn : (assignEach es X.env).length = is.length) (hst : (assignEach es X.env).findIdx? (·.1) = none)
    (hs : swapsWithSole [.Tuple es kk tpos] e pos.line X.env = pure false) (hw : swappedStores [.Tuple es kk tpos] e X.env = pure none) (h1 : (assignEach [.Tuple es kk tpos] X.env).map (·.2) = [assign (.Tuple es kk tpos) X.env]) :
    PS X (.Assign [.Tuple es kk tpos] e pos) (tS g Wx (fAsgT is f)) := PS.imp (ps_asg he (pg_tup_d C.calm C.K h hn hst) hs hw h1) fun D σ H h => by
  obtain ⟨W, ρ, ext, S, h⟩ := h
  refine ⟨W, ρ, ext, S, ?_⟩
  unfold fAsgT at h
  cases e1 : f ρ with
  | no => rw [e1] at h; exact h
  | ex c x ρ' => rw [e1] at h; exact h σ
  | ok r ρ1 =>
    rw [e1] at h
    intro W1 v H1 S1
    dsimp only [Rs.fl] at h
    obtain ⟨d, t⟩ := r
    have fz : ∃ W2, StR g W2 H1 ρ1 σ (⟨v, d, false⟩ :: ext) := by
      cases t with
      | false => exact ⟨W1, S1⟩
      | true => exact S1.freeze C.gM
    obtain ⟨W2, S2⟩ := fz
    cases e2 : tgTup is d ρ1 with
    | none => rw [e2] at h; exact h.elim
    | some ρ2 =>
      rw [e2] at h
      exact ⟨W2, ρ1, ext, d, S2, ρ2, e2, fun W3 σ3 H3 S3 _ => h W3 σ3 H3 S3⟩

/-! ### x.append(e), x.pop(), x[i] = e -/
def lsAt (ρ : Rho) (i : Nat) : Option (List D) := match ρ[i]? with
  | some (.own (.list ds)) => some ds
  | some (.io (.list ds)) => some ds
  | _ => none
/-- an owned slot's new content -/
def reOwn (ρ : Rho) (i : Nat) (d : D) : Rho := match ρ[i]? with
  | some (.io _) => ρ.set i (.io d)
  | _ => ρ.set i (.own d)
theorem StR.ls {W : Addr → Prop} {H : Hp} {ρ : Rho} {σ : L2.St} {ext : List Pin} {i : Nat} {ds : List D} (S : StR g W H ρ σ ext) (h : lsAt ρ i = some ds) :
    ∃ a vs, σ[i]? = some (some (V.ref a)) ∧ H a = some (.lst vs) ∧ W a ∧ RpL g.K W H vs ds ∧ ∀ d' H', (∀ b u, b ≠ a → H b = some u → H' b = some u) → RpO g.K W H' a d' → StR g W H' (reOwn ρ i d') σ ext := by
  unfold lsAt at h
  split at h
  · rename_i ds' e
    cases h
    obtain ⟨a, e1, w, np, vs, e2, r⟩ := S.own i _ _ e rfl
    refine ⟨a, vs, e1, e2, w, r, fun d' H' k r' => ?_⟩
    unfold reOwn
    rw [e]
    exact S.put e rfl e1 (.own d') rfl (fun _ z => by cases z) k r'
  · rename_i ds' e
    cases h
    obtain ⟨a, e1, w, np, vs, e2, r⟩ := S.own i _ _ e rfl
    refine ⟨a, vs, e1, e2, w, r, fun d' H' k r' => ?_⟩
    unfold reOwn
    rw [e]
    exact S.put e rfl e1 (.io d') rfl (fun _ _ => ⟨_, rfl⟩) k r'
  · cases h
def fApp (i : Nat) (f : Ev) : Es := fun ρ => match lsAt ρ i with
  | none => .no
  | some _ => (f ρ).fl fun r ρ1 => match lsAt ρ1 i with
    | some ds => if ds.length < 1000000 then .nx (reOwn ρ1 i (.list (ds ++ [r.1]))) else .no
    | none => .no
theorem le_line {n : Nat} (h : n < 1000000) : n < sizeLine := Nat.lt_trans h (by decide)
theorem tApp_run (hM : ∀ a, g.M a → g.P a) {i : Nat} {f : Ev} {D : Ends} {σ : L2.St} {H : Hp} {K : PySem.W.Frag} (h : tS g Wx (fApp i f) D σ H) : tDrop (tBM K "list" rAppend (tVar i) (tCons (tD g Wx f) tNil)) D σ H := by
  obtain ⟨W, ρ, ext, S, h⟩ := h
  unfold fApp at h
  cases e0 : lsAt ρ i with
  | none => rw [e0] at h; exact h.elim
  | some ds0 =>
    rw [e0] at h
    dsimp only at h
    obtain ⟨a, vs, h1, h2, _, _, _⟩ := S.ls e0
    refine ⟨_, h1, .inl ⟨rfl, vs, .inl (.inl h2)⟩, W, ρ, ext, S, ?_⟩
    cases e1 : f ρ with
    | no => rw [e1] at h; exact h
    | ex c x ρ' => rw [e1] at h; exact h σ
    | ok r ρ1 =>
      rw [e1] at h
      intro W1 v H1 S1
      dsimp only [Rs.fl] at h
      obtain ⟨d, t⟩ := r
      have fz : ∃ W2, StR g W2 H1 ρ1 σ (⟨v, d, false⟩ :: ext) := by
        cases t with
        | false => exact ⟨W1, S1⟩
        | true => exact S1.freeze hM
      obtain ⟨W2, S2⟩ := fz
      cases e2 : lsAt ρ1 i with
      | none => rw [e2] at h; exact h.elim
      | some ds =>
        rw [e2] at h
        dsimp only at h
        split at h
        · rename_i hlt
          obtain ⟨a', vs', k1, k2, k3, k4, k5⟩ := S2.ls e2
          rw [h1] at k1; cases k1
          refine ⟨a, vs', v, rfl, rfl, k2, le_line (by rw [k4.length]; exact hlt), ?_⟩
          have tr : Tr W2 W2 H1 (upd H1 a (.lst (vs' ++ [v]))) := fun b o hn ho => ⟨hn, by rw [upd_ne (fun z => hn (by rw [z]; exact k3))]; exact ho⟩
          have S3 := k5 (.list (ds ++ [d])) (upd H1 a (.lst (vs' ++ [v]))) (fun b u hb hu => by rw [upd_ne hb]; exact hu) ⟨_, upd_same, RpL.append (RpL.tr tr _ k4) (.cons (Rp.tr tr _ S2.pin0) .nil)⟩
          exact h W2 σ _ S3.pop
        · exact h.elim
def fPop (i : Nat) : Ev := fun ρ => match lsAt ρ i with
  | some ds => (match ds.getLast? with
    | some d => .ok (d, false) (reOwn ρ i (.list ds.dropLast))
    | none => .no)
  | none => .no
theorem tPop_run {i : Nat} {σ : L2.St} {H : Hp} {Q : VK} {K : PySem.W.Frag} (h : tD g Wx (fPop i) σ H Q) : tBM0 K "list" rPop (tVar i) σ H Q := by
  obtain ⟨W, ρ, ext, S, h⟩ := h
  unfold fPop at h
  cases e0 : lsAt ρ i with
  | none => rw [e0] at h; exact h.elim
  | some ds =>
    rw [e0] at h
    dsimp only at h
    obtain ⟨a, vs, h1, h2, h3, h4, h5⟩ := S.ls e0
    cases e1 : ds.getLast? with
    | none => rw [e1] at h; exact h.elim
    | some d =>
      rw [e1] at h
      rw [List.getLast?_eq_getElem?] at e1
      obtain ⟨v, hv, hr⟩ := h4.get e1
      refine ⟨_, h1, .inl ⟨rfl, vs, .inl (.inl h2)⟩, a, vs, v, rfl, rfl, h2, by rw [h4.length]; exact hv, ?_⟩
      have tr : Tr W W H (upd H a (.lst vs.dropLast)) := fun b o hn ho => ⟨hn, by rw [upd_ne (fun z => hn (by rw [z]; exact h3))]; exact ho⟩
      have S3 := h5 (.list ds.dropLast) (upd H a (.lst vs.dropLast)) (fun b u hb hu => by rw [upd_ne hb]; exact hu) ⟨_, upd_same, RpL.tr tr _ h4.dropLast⟩
      exact h W v _ (S3.note (Rp.tr tr _ hr))
def fSetL (i : Nat) (fj f : Ev) : Es := fun ρ => (f ρ).fl fun r ρ1 => (fj ρ1).fl fun j ρ2 => match lsAt ρ2 i, j.1 with
  | some ds, .int n => (match ixN ds.length n with
    | some m => .nx (reOwn ρ2 i (.list (ds.set m r.1)))
    | none => .no)
  | _, _ => .no
end
end PV
namespace PV
open PySem L2

section
variable {X : Cx} {g : Cfg} {Wx : WX} {k : Nat} {T : Mdl} {pos : Pos}

/-! ### slots forgotten and found again -/
theorem StR.slots {W : Addr → Prop} {H : Hp} {ρ ρ' : Rho} {σ σ' : L2.St} {ext : List Pin} (S : StR g W H ρ σ ext) (hl : σ'.length = ρ'.length)
    (h : ∀ (i : Nat) s, ρ'[i]? = some s → s ≠ Sl.no → (ρ[i]? = some s ∧ σ'[i]? = σ[i]?) ∨ ∃ d v, s = Sl.val d ∧ σ'[i]? = some (some v) ∧ Rp g.K W H v d) : StR g W H ρ' σ' ext := by
  have old : ∀ (j : Nat) b, OwnAt ρ' σ' j b → OwnAt ρ σ j b := fun j b ⟨s, d, e1, e2, e3⟩ => by
    rcases h j s e1 (fun z => by rw [z] at e2; cases e2) with ⟨h1, h2⟩ | ⟨d', v, h1, _⟩
    · exact ⟨s, d, h1, e2, by rw [← h2]; exact e3⟩
    · rw [h1] at e2; cases e2
  refine ⟨hl, S.m0, S.al, S.dom, S.fr, ?_, ?_, ?_, fun i j a h1 h2 => S.inj i j a (old _ _ h1) (old _ _ h2), S.pin, fun p hp ht i a ho => S.pown p hp ht i a (old _ _ ho), S.pinj⟩
  · intro i d hi
    rcases h i _ hi (fun z => by cases z) with ⟨h1, h2⟩ | ⟨d', v, h1, h2, h3⟩
    · rw [h2]; exact S.val i d h1
    · cases h1; exact ⟨v, h2, h3⟩
  · intro i s d hi hs
    rcases h i s hi (fun z => by rw [z] at hs; cases hs) with ⟨h1, h2⟩ | ⟨d', v, h1, _⟩
    · rw [h2]; exact S.own i s d h1 hs
    · rw [h1] at hs; cases hs
  · intro i d hi
    rcases h i _ hi (fun z => by cases z) with ⟨h1, h2⟩ | ⟨d', v, h1, _⟩
    · rw [h2]; exact S.io i d h1
    · cases h1
def wipeR : List Nat → Rho → Rho
  | [], ρ => ρ
  | v :: vs, ρ => (wipeR vs ρ).set v .no
theorem wipeR_length : ∀ (vs : List Nat) (ρ : Rho), (wipeR vs ρ).length = ρ.length
  | [], ρ => rfl
  | v :: vs, ρ => by unfold wipeR; rw [List.length_set, wipeR_length vs ρ]
theorem wipeR_get : ∀ {vs : List Nat} {ρ : Rho} {i : Nat} {s : Sl}, (wipeR vs ρ)[i]? = some s → s ≠ .no → ρ[i]? = some s ∧ i ∉ vs
  | [], _, _, _, h, _ => ⟨h, by simp⟩
  | v :: vs, ρ, i, s, h, n => by
    unfold wipeR at h
    by_cases hi : v = i
    · subst hi
      by_cases hv : v < (wipeR vs ρ).length
      · rw [List.getElem?_set_self hv] at h; cases h; exact absurd rfl n
      · rw [List.getElem?_eq_none (by simpa using hv)] at h; cases h
    · rw [List.getElem?_set_ne hi] at h
      obtain ⟨h1, h2⟩ := wipeR_get h n
      exact ⟨h1, by simp only [List.mem_cons, not_or]; exact ⟨fun e => hi e.symm, h2⟩⟩
theorem wipe_off {σ : L2.St} {i : Nat} : ∀ {vs : List Nat}, i ∉ vs → (wipe σ vs)[i]? = σ[i]?
  | [], _ => rfl
  | v :: vs, h => by
    unfold wipe
    rw [List.getElem?_set_ne (fun z => h (by rw [z]; exact List.mem_cons_self)), wipe_off (fun z => h (List.mem_cons_of_mem _ z))]
theorem StR.wipe {W : Addr → Prop} {H : Hp} {ρ : Rho} {σ : L2.St} {ext : List Pin} (S : StR g W H ρ σ ext) (vs : List Nat) : StR g W H (wipeR vs ρ) (L2.wipe σ vs) ext :=
  S.slots (by rw [wipe_length, wipeR_length]; exact S.len) fun i s h n => .inl ⟨(wipeR_get h n).1, wipe_off (wipeR_get h n).2⟩
def svSl : Option Sl → Sl
  | some (.val d) => .val d
  | _ => .no
def unwipe (ρ0 : Rho) : List Nat → Rho → Rho
  | [], ρ => ρ
  | v :: vs, ρ => (unwipe ρ0 vs ρ).set v (svSl ρ0[v]?)
theorem unwipe_length (ρ0 : Rho) : ∀ (vs : List Nat) (ρ : Rho), (unwipe ρ0 vs ρ).length = ρ.length
  | [], ρ => rfl
  | v :: vs, ρ => by unfold unwipe; rw [List.length_set, unwipe_length ρ0 vs ρ]
theorem unwipe_get {ρ0 : Rho} : ∀ {vs : List Nat} {ρ : Rho} {i : Nat} {s : Sl}, (unwipe ρ0 vs ρ)[i]? = some s → (i ∉ vs ∧ ρ[i]? = some s) ∨ (i ∈ vs ∧ s = svSl ρ0[i]?)
  | [], _, _, _, h => .inl ⟨by simp, h⟩
  | v :: vs, ρ, i, s, h => by
    unfold unwipe at h
    by_cases hi : v = i
    · subst hi
      by_cases hv : v < (unwipe ρ0 vs ρ).length
      · rw [List.getElem?_set_self hv] at h; cases h; exact .inr ⟨List.mem_cons_self, rfl⟩
      · rw [List.getElem?_eq_none (by simpa using hv)] at h; cases h
    · rw [List.getElem?_set_ne hi] at h
      rcases unwipe_get h with ⟨h1, h2⟩ | ⟨h1, h2⟩
      · exact .inl ⟨by simp only [List.mem_cons, not_or]; exact ⟨fun e => hi e.symm, h1⟩, h2⟩
      · exact .inr ⟨List.mem_cons_of_mem _ h1, h2⟩
/-- the pins of the values that the slots vs held -/
def svPins (ρ : Rho) (σ : L2.St) : List Nat → List Pin
  | [] => []
  | v :: vs => (match ρ[v]?, σ[v]? with
    | some (.val d), some (some x) => [⟨x, d, false⟩]
    | _, _ => []) ++ svPins ρ σ vs
theorem svPins_mem {ρ : Rho} {σ : L2.St} {i : Nat} {d : D} {x : V} (h1 : ρ[i]? = some (Sl.val d)) (h2 : σ[i]? = some (some x)) : ∀ {vs : List Nat}, i ∈ vs → (⟨x, d, false⟩ : Pin) ∈ svPins ρ σ vs
  | v :: vs, h => by
    unfold svPins
    rcases List.mem_cons.mp h with e | h
    · subst e
      rw [h1, h2]
      exact List.mem_append_left _ List.mem_cons_self
    · exact List.mem_append_right _ (svPins_mem h1 h2 h)
theorem StR.svNote {W : Addr → Prop} {H : Hp} {ρ : Rho} {σ : L2.St} {ext : List Pin} (S : StR g W H ρ σ ext) : ∀ vs : List Nat, StR g W H ρ σ (svPins ρ σ vs ++ ext)
  | [] => S
  | v :: vs => by
    have S1 := S.svNote vs
    unfold svPins
    cases e1 : ρ[v]? with
    | none => exact S1
    | some s =>
      cases s with
      | val d =>
        obtain ⟨x, e2, r⟩ := S.val v d e1
        rw [e2]
        exact S1.note r
      | _ => exact S1
theorem StR.unwipe {W : Addr → Prop} {H : Hp} {ρ0 ρ : Rho} {σ : L2.St} {ext : List Pin} {vs : List Nat} (S : StR g W H ρ (L2.wipe σ vs) ext) (hs : ∀ p ∈ svPins ρ0 σ vs, p ∈ ext) (h0 : ∀ (i : Nat) d, ρ0[i]? = some (Sl.val d) → ∃ x : V, σ[i]? = some (some x)) : StR g W H (unwipe ρ0 vs ρ) σ ext := by
  refine S.slots (by rw [unwipe_length, ← S.len, wipe_length]) fun i s h n => ?_
  rcases unwipe_get h with ⟨h1, h2⟩ | ⟨h1, h2⟩
  · exact .inl ⟨h2, (wipe_off h1).symm⟩
  · right
    cases e : ρ0[i]? with
    | none => rw [e] at h2; exact absurd h2 n
    | some s0 =>
      rw [e] at h2
      cases s0 with
      | val d =>
        obtain ⟨x, hx⟩ := h0 i d e
        exact ⟨d, x, h2, hx, S.mem0 (hs _ (svPins_mem e hx h1)) rfl⟩
      | _ => exact absurd h2 n

/-! ### list comprehensions -/
def compLoop (own : List Nat) (tgt : Tgt) (c : EvT) (e : Ev) : List D → List D → Rho → Rs (List D)
  | [], acc, ρ => .ok acc ρ
  | d :: ds, acc, ρ => match tgt d ρ with
    | none => .no
    | some ρ1 => (match c ρ1 with
      | .ok true ρ2 => (match e ρ2 with
        | .ok r ρ3 => if acc.length < 1000000 then compLoop own tgt c e ds (acc ++ [r.1]) (wipeR own ρ3) else .no
        | _ => .no)
      | .ok false ρ2 => compLoop own tgt c e ds acc (wipeR own ρ2)
      | _ => .no)
def WxN : WX := fun _ _ _ _ => False
/-- a taken place is written -/
theorem StR.putPin {W : Addr → Prop} {H : Hp} {ρ : Rho} {σ : L2.St} {ext : List Pin} {a : Addr} {d d' : D} {H' : Hp} (S : StR g W H ρ σ (⟨.ref a, d, true⟩ :: ext)) (e : ∀ b u, b ≠ a → H b = some u → H' b = some u) (r : RpO g.K W H' a d') : StR g W H' ρ σ (⟨.ref a, d', true⟩ :: ext) := by
  obtain ⟨a', ea, w, np, r0⟩ := S.pin1
  cases ea
  have t : Tr W W H H' := fun b u hw ho => ⟨hw, e b u (fun z => hw (by rw [z]; exact w)) ho⟩
  have kk : ∀ b, b ≠ a → H b ≠ none → H' b = H b := fun b hb hn => by
    cases q : H b with
    | none => exact absurd q hn
    | some u => rw [e b u hb q]
  have kn : ∀ b, H b ≠ none → H' b ≠ none := fun b hn => by
    by_cases hb : b = a
    · rw [hb]; exact r.some
    · rw [kk b hb hn]; exact hn
  refine ⟨S.len, S.m0, fun b hb => kn b (S.al b hb), fun b hb => kn b (S.dom b hb), fun b u hp ho => e b u (fun z => np (by rw [← z]; exact hp)) (S.fr b u hp ho), ?_, ?_, S.io, S.inj, ?_, ?_, ?_⟩
  · intro i d2 hi
    obtain ⟨v, e1, r1⟩ := S.val i d2 hi
    exact ⟨v, e1, Rp.tr t _ r1⟩
  · intro i s d2 hi hs
    obtain ⟨b, e1, w1, np1, r1⟩ := S.own i s d2 hi hs
    have hb : b ≠ a := fun z => S.pown _ List.mem_cons_self rfl i b ⟨s, d2, hi, hs, e1⟩ (by rw [z])
    exact ⟨b, e1, w1, np1, r1.tr t (kk b hb r1.some)⟩
  · intro q hq
    rcases List.mem_cons.mp hq with e1 | hq
    · subst e1; exact (if_pos (show true = true from rfl)).mpr ⟨a, rfl, w, np, r⟩
    · refine (S.pin q (List.mem_cons_of_mem _ hq)).tr t fun b ht hv => ?_
      have z := S.pin q (List.mem_cons_of_mem _ hq)
      unfold PinR at z
      rw [if_pos ht] at z
      obtain ⟨b', e1, w1, _, r1⟩ := z
      rw [hv] at e1; cases e1
      have hb : b ≠ a := fun z => (List.pairwise_cons.mp S.pinj).1 q hq rfl ht (by rw [hv, z])
      exact ⟨w1, kk b hb r1.some⟩
  · intro q hq ht i b ho
    rcases List.mem_cons.mp hq with e1 | hq
    · subst e1; exact S.pown _ List.mem_cons_self rfl i b ho
    · exact S.pown q (List.mem_cons_of_mem _ hq) ht i b ho
  · exact List.pairwise_cons.mpr ⟨fun q hq h1 h2 => (List.pairwise_cons.mp S.pinj).1 q hq rfl h2, (List.pairwise_cons.mp S.pinj).2⟩
theorem lc_loop {is own : List Nat} {tgt : Tgt} {c : EvT} {e : Ev} {J : It} {ps ext : List Pin} {ds : List D} {W1 : Addr → Prop} {H1 : Hp} {ρ1 ρ2 : Rho} {σ : L2.St} {out : List D} {Q : VK} (hM : ∀ a, g.M a → g.P a) (hP : ∀ a, g.P a → g.H0 a ≠ none) (hio : ∀ i ∈ is, i ∈ own)
    (S1 : StR g W1 H1 ρ1 σ (ps ++ ext)) (wk : Wk g J ps ds) (hok : compLoop own tgt c e ds [] (wipeR own ρ1) = .ok out ρ2)
    (fin : ∀ W' H' Dl, StR g W' H' (unwipe ρ1 own ρ2) σ (⟨.ref Dl, .list out, true⟩ :: (ps ++ ext)) → Q (.ref Dl) H') :
    ∀ Dl, H1 Dl = none → ∃ W : Nat → Nat → Hp → Prop, (∃ m, W 0 m (upd H1 Dl (.lst []))) ∧ ∀ i m H, W i m H →
      (J.stop i H ∧ Q (.ref Dl) H) ∨ (J.go i H ∧ ∃ Nx : Hp → Prop, (∀ H', Nx H' → ∃ m', m' < m ∧ W (i + 1) m' H') ∧ ∀ x H', J.yld i H x H' → gT g is tgt x (wipe σ own) H' fun σ2 H2 => wipe σ2 own = wipe σ own ∧ tT g WxN c σ2 H2 fun b H3 =>
        if b = true then tD g WxN e σ2 H3 fun y H4 => ∃ acc, H4 Dl = some (.lst acc) ∧ acc.length < sizeLine ∧ Nx (upd H4 Dl (.lst (acc ++ [y]))) else Nx H3) := by
  intro Dl hD
  have h0 : ∀ (i : Nat) d, ρ1[i]? = some (Sl.val d) → ∃ x : V, σ[i]? = some (some x) := fun i d h => let ⟨v, e, _⟩ := S1.val i d h; ⟨v, e⟩
  have S0 := (S1.svNote own).wipe own
  have S0' := StR.lst (vs := []) (ds := []) hP S0 .nil hD
  refine ⟨fun i m H => m = ds.length - i ∧ i ≤ ds.length ∧ ∃ Wa ρ acc, StR g Wa H ρ (wipe σ own) (⟨.ref Dl, .list acc, true⟩ :: (svPins ρ1 σ own ++ (ps ++ ext))) ∧ compLoop own tgt c e (ds.drop i) acc ρ = .ok out ρ2, ⟨ds.length, by simp, Nat.zero_le _, _, _, [], S0', by simpa using hok⟩, ?_⟩
  rintro i m H ⟨rfl, hi, Wa, ρ, acc, S, hl⟩
  obtain ⟨w1, w2⟩ := wk Wa H ρ _ _ i S (fun p hp => List.mem_cons_of_mem _ (List.mem_append_right _ (List.mem_append_left _ hp)))
  by_cases hlt : i < ds.length
  · right
    have hd : ds[i]? = some ds[i] := List.getElem?_eq_getElem hlt
    obtain ⟨go, yl⟩ := w1 _ hd
    rw [List.drop_eq_getElem_cons hlt] at hl
    unfold compLoop at hl
    refine ⟨go, fun H' => ∃ Wa ρ acc, StR g Wa H' ρ (wipe σ own) (⟨.ref Dl, .list acc, true⟩ :: (svPins ρ1 σ own ++ (ps ++ ext))) ∧ compLoop own tgt c e (ds.drop (i + 1)) acc ρ = .ok out ρ2, fun H' n => ⟨_, by omega, rfl, hlt, n⟩, fun x H' y => ?_⟩
    have S3 := yl x H' y
    cases e2 : tgt ds[i] ρ with
    | none => rw [e2] at hl; cases hl
    | some ρ3 =>
      rw [e2] at hl
      dsimp only at hl
      refine ⟨Wa, ρ, _, ds[i], S3, ρ3, e2, fun W4 σ4 H4 S4 off => ?_⟩
      have eo : wipe σ4 own = wipe σ own := (off own hio).trans (by
        have go : ∀ (vs : List Nat), (∀ i ∈ vs, i ∈ own) → wipe (wipe σ vs) own = wipe σ own := by
          intro vs
          induction vs with
          | nil => intro _; rfl
          | cons v vs ih =>
            intro hv
            show wipe ((wipe σ vs).set v none) own = wipe σ own
            rw [wipe_set (hv v List.mem_cons_self)]
            exact ih fun j hj => hv j (List.mem_cons_of_mem _ hj)
        exact go own fun j hj => hj)
      refine ⟨eo, W4, ρ3, _, S4, ?_⟩
      cases e3 : c ρ3 with
      | no => rw [e3] at hl; cases hl
      | ex c' x' ρ' => rw [e3] at hl; cases hl
      | ok b ρ4 =>
        rw [e3] at hl
        intro W5 H5 S5
        cases b with
        | false =>
          rw [if_neg (by decide)]
          dsimp only at hl
          have S6 := S5.wipe own
          rw [eo] at S6
          exact ⟨W5, _, acc, S6, hl⟩
        | true =>
          rw [if_pos rfl]
          dsimp only at hl
          refine ⟨W5, ρ4, _, S5, ?_⟩
          cases e4 : e ρ4 with
          | no => rw [e4] at hl; cases hl
          | ex c' x' ρ' => rw [e4] at hl; cases hl
          | ok r ρ5 =>
            rw [e4] at hl
            dsimp only at hl
            split at hl
            · rename_i hlen
              intro W6 y H6 S6
              obtain ⟨d, t⟩ := r
              have fz : ∃ W7, StR g W7 H6 ρ5 σ4 (⟨y, d, false⟩ :: ⟨.ref Dl, .list acc, true⟩ :: (svPins ρ1 σ own ++ (ps ++ ext))) := by
                cases t with
                | false => exact ⟨W6, S6⟩
                | true => exact S6.freeze hM
              obtain ⟨W7, S7⟩ := fz
              have ry := S7.pin0
              have S8 := S7.pop
              obtain ⟨a', ea, wD, npD, vs, eD, rl⟩ := S8.pin1
              cases ea
              refine ⟨vs, eD, le_line (by rw [rl.length]; exact hlen), ?_⟩
              have tr : Tr W7 W7 H6 (upd H6 Dl (.lst (vs ++ [y]))) := fun b o hn ho => ⟨hn, by rw [upd_ne (fun z => hn (by rw [z]; exact wD))]; exact ho⟩
              have S9 := S8.putPin (H' := upd H6 Dl (.lst (vs ++ [y]))) (d' := .list (acc ++ [d])) (fun b u hb hu => by rw [upd_ne hb]; exact hu) ⟨_, upd_same, RpL.append (RpL.tr tr _ rl) (.cons (Rp.tr tr _ ry) .nil)⟩
              have S10 := S9.wipe own
              rw [eo] at S10
              exact ⟨W7, _, _, S10, hl⟩
            · cases hl
  · left
    have e : i = ds.length := by omega
    subst e
    rw [List.drop_length] at hl
    unfold compLoop at hl
    cases hl
    refine ⟨w2 (Nat.le_refl _), fin Wa H Dl ?_⟩
    have S5 := S.unwipe (ρ0 := ρ1) (fun p hp => List.mem_cons_of_mem _ (List.mem_append_left _ hp)) h0
    exact S5.sub (List.cons_sublist_cons.mpr (List.sublist_append_right _ _))
def fComp (own : List Nat) (fi : EvI) (tgt : Tgt) (c : EvT) (e : Ev) : Ev := fun ρ => (fi ρ).bind fun ds ρ1 => match compLoop own tgt c e ds [] (wipeR own ρ1) with
  | .ok out ρ2 => .ok (.list out, true) (unwipe ρ1 own ρ2)
  | _ => .no
theorem tLc_run {is own : List Nat} {fi : EvI} {tgt : Tgt} {c : EvT} {e : Ev} (hM : ∀ a, g.M a → g.P a) (hP : ∀ a, g.P a → g.H0 a ≠ none) (hio : ∀ i ∈ is, i ∈ own) {σ : L2.St} {H : Hp} {Q : VK} (h : tD g Wx (fComp own fi tgt c e) σ H Q) :
    tLc (tI g Wx fi) (gT g is tgt) (tT g WxN c) (tD g WxN e) own σ H Q := by
  obtain ⟨W, ρ, ext, S, h⟩ := h
  refine ⟨W, ρ, ext, S, ?_⟩
  unfold fComp at h
  cases e1 : fi ρ with
  | no => rw [e1] at h; exact h
  | ex c x ρ' => rw [e1] at h; exact h
  | ok ds ρ1 =>
    rw [e1] at h
    dsimp only [Rs.bind] at h
    intro W1 H1 J ps S1 wk
    cases e2 : compLoop own tgt c e ds [] (wipeR own ρ1) with
    | no => rw [e2] at h; exact h.elim
    | ex _ _ _ => rw [e2] at h; exact h.elim
    | ok out ρ2 =>
      rw [e2] at h
      exact lc_loop hM hP hio S1 wk e2 fun W' H' Dl S' => h W' _ H' (S'.sub (List.cons_sublist_cons.mpr (List.sublist_append_right _ _)))
/-- over an owned slot, taken out for the time -/
def fCompB (i : Nat) (own : List Nat) (tgt : Tgt) (c : EvT) (e : Ev) : Ev := fun ρ => match ρ[i]? with
  | some (.own (.list ds)) => (match compLoop own tgt c e ds [] (wipeR own (ρ.set i .no)) with
    | .ok out ρ2 => if stOk (unwipe (ρ.set i .no) own ρ2) i = true then .ok (.list out, true) ((unwipe (ρ.set i .no) own ρ2).set i (.own (.list ds))) else .no
    | _ => .no)
  | _ => .no
theorem tLcB_run {is own : List Nat} {i : Nat} {tgt : Tgt} {c : EvT} {e : Ev} (hK : X.K = g.K) (hM : ∀ a, g.M a → g.P a) (hP : ∀ a, g.P a → g.H0 a ≠ none) (hio : ∀ i ∈ is, i ∈ own) {σ : L2.St} {H : Hp} {Q : VK} (h : tD g Wx (fCompB i own tgt c e) σ H Q) :
    tLc (iList X.K (tVar i)) (gT g is tgt) (tT g WxN c) (tD g WxN e) own σ H Q := by
  obtain ⟨W, ρ, ext, S, h⟩ := h
  unfold fCompB at h
  cases e1 : ρ[i]? with
  | none => rw [e1] at h; exact h.elim
  | some s =>
    rw [e1] at h
    cases s with
    | own d =>
      cases d with
      | list ds =>
        dsimp only at h
        obtain ⟨a, ha, S1⟩ := S.mov e1
        obtain ⟨a', ea, wa, npa, vs, hH, rl⟩ := S1.pin1
        cases ea
        refine ⟨_, ha, a, rfl, ⟨vs, .inl (.inl hH)⟩, ?_⟩
        cases e2 : compLoop own tgt c e ds [] (wipeR own (ρ.set i .no)) with
        | no => rw [e2] at h; exact h.elim
        | ex _ _ _ => rw [e2] at h; exact h.elim
        | ok out ρ2 =>
          rw [e2] at h
          dsimp only at h
          split at h
          · rename_i r ρ' e
            split at e
            · rename_i hst
              cases e
              have wk : Wk g (Itl X.K a) [⟨.ref a, .list ds, true⟩] ds := fun W3 H3 ρ3 σ3 ext3 j S3 hm => by
                have z := S3.pin _ (hm _ List.mem_cons_self)
                unfold PinR at z
                rw [if_pos rfl] at z
                obtain ⟨a3, ea3, _, _, vs3, hH3, rl3⟩ := z
                cases ea3
                have sq3 : SqL X.K H3 a vs3 := .inl (.inl hH3)
                refine ⟨fun d hd => ?_, fun hl => ⟨vs3, sq3, by rw [rl3.length]; exact hl⟩⟩
                obtain ⟨v, hv, hr⟩ := rl3.get hd
                exact ⟨⟨vs3, v, sq3, hv⟩, fun x H'' y => by
                  obtain ⟨e2, y⟩ := y
                  subst e2
                  have z := y vs3 sq3
                  rw [hv] at z; cases z
                  exact S3.note hr⟩
              refine lc_loop (ps := [⟨.ref a, .list ds, true⟩]) (ext := ext) hM hP hio S1 wk e2 fun W' H' Dl S' => ?_
              have perm : (⟨.ref Dl, .list out, true⟩ :: ⟨.ref a, .list ds, true⟩ :: ext : List Pin).Perm (⟨.ref a, .list ds, true⟩ :: ⟨.ref Dl, .list out, true⟩ :: ext) := List.Perm.swap _ _ _
              have S2 : StR g W' H' (unwipe (ρ.set i .no) own ρ2) σ (⟨.ref a, .list ds, true⟩ :: ⟨.ref Dl, .list out, true⟩ :: ext) :=
                ⟨S'.len, S'.m0, S'.al, S'.dom, S'.fr, S'.val, S'.own, S'.io, S'.inj, fun p hp => S'.pin p (perm.mem_iff.mpr hp), fun p hp => S'.pown p (perm.mem_iff.mpr hp), (List.Perm.pairwise_iff (fun {x y} h1 h2 h3 h4 => h1 h3 h2 h4.symm) perm).mp S'.pinj⟩
              have S3 := S2.asg (i := i) hst
              have es : σ.set i (some (V.ref a)) = σ := by
                apply List.ext_getElem?
                intro j
                by_cases hj : i = j
                · subst hj
                  rw [List.getElem?_set_self (List.getElem?_eq_some_iff.mp ha).1, ha]
                · rw [List.getElem?_set_ne hj]
              rw [es] at S3
              exact h W' _ H' S3
            · cases e
          · rename_i e; split at e <;> cases e
          · exact h.elim
      | _ => exact h.elim
    | _ => exact h.elim
end
end PV
namespace PV
open PySem L2

section
variable {X : Cx} {g : Cfg} {Wx : WX} {k : Nat} {T : Mdl} {pos : Pos}
theorem Ctx.blk (C : Ctx X g Wx k T) (s : Shared) (H : Hp) (scope : Scope) (cenv : Env) (fp : List Addr) : Ctx (X.blk s H scope cenv fp) g WxN k T where
  nd := C.nd
  K := C.K
  gM := C.gM
  gP := C.gP
  bm := C.bm
  consts := C.consts
  calm := C.calm
  room := C.room
  tk := fun _ _ x => by
    obtain ⟨_, _, _, _, _, _, _, _, _, _, _, _, _, _, _, _, w⟩ := x
    exact w.elim
  po := PassesOwn.never
  fns := C.fns
  clss := C.clss
  plain := C.plain
  exm := C.exm
theorem Ctx.tr (C : Ctx X g Wx k T) {W : WX} {pn : List (Addr × Obj)} {xe : Value → Shared → Prop} (tk : Takes (X.tr pn xe) W) (po : PassesOwn (model X.prog X.w) X.A X.env xe) : Ctx (X.tr pn xe) g W k T :=
  { nd := C.nd, K := C.K, gM := C.gM, gP := C.gP, bm := C.bm, consts := C.consts, calm := C.calm, room := C.room, tk := tk, po := po, fns := C.fns, clss := C.clss, plain := C.plain, exm := C.exm }
theorem Ctx0.suite (C : Ctx0 X g T) (a : Addr) (pn : List (Addr × Obj)) : Ctx0 (X.suite a pn) g T :=
  { nd := C.nd, K := C.K, gM := C.gM, gP := C.gP, bm := C.bm, consts := C.consts }

/-! ### comprehensions as expressions and stores -/
theorem PTs.imp {e : List Expr} {t t' : TT} (h : PTs X e t) (i : ∀ σ H Q, t' σ H Q → t σ H Q) : PTs X e t' := ⟨fun pins s σ H Q I hq => h.run pins s σ H Q I (i σ H Q hq)⟩
def fYes : EvT := fun ρ => .ok true ρ
theorem pts_nil_d : PTs X [] (tT g Wx fYes) := PTs.imp pts_nil fun σ H Q h => by
  obtain ⟨W, ρ, ext, S, h⟩ := h
  exact h W H S
theorem pd_comp (C : Ctx X g Wx k T) {elt tg iter : Expr} {ifs : List Expr} {scope : Scope} {own : List (Str × Nat)} {is : List Nat} {fi : EvI} {tgt : Tgt} {c : EvT} {e : Ev} (hi : PI X tg iter (tI g Wx fi)) (ok : BlkOk X.N X.env.scope scope own) (hio : ∀ i ∈ is, i ∈ own.map (·.2))
    (hg : ∀ (s : Shared) (H : Hp) (C : Addr) (cl : List (Str × Addr)) (fp : List Addr), PG (X.blk s H scope (compEnvC scope cl C X.env) fp) tg (gT g is tgt))
    (ht : ∀ (s : Shared) (H : Hp) (C : Addr) (cl : List (Str × Addr)) (fp : List Addr), PTs (X.blk s H scope (compEnvC scope cl C X.env) fp) ifs (tT g WxN c))
    (he : ∀ (s : Shared) (H : Hp) (C : Addr) (cl : List (Str × Addr)) (fp : List Addr), PE (X.blk s H scope (compEnvC scope cl C X.env) fp) elt (tD g WxN e)) (hs : ∀ x, foldedSetIterable iter X.env x = pure x) :
    PE X (.ListComp elt [⟨tg, iter, ifs, 0⟩] scope pos) (tD g Wx (fComp (own.map (·.2)) fi tgt c e)) := PE.imp (pe_lc C.calm C.nd hi ok hg ht he hs) fun _ _ _ h => tLc_run C.gM C.gP hio h
theorem pd_compB (C : Ctx X g Wx k T) {i : Nat} {x : Str} {elt tg : Expr} {ifs : List Expr} {scope : Scope} {own : List (Str × Nat)} {is : List Nat} {tgt : Tgt} {c : EvT} {e : Ev} {p : Pos} (hN : X.N[i]? = some x) (hv : Vis X.env.scope x) (hd : (x == ("__debug__" : Str)) = false) (hcd : (x == ("__classdict__" : Str)) = false)
    (ok : BlkOk X.N X.env.scope scope own) (hio : ∀ i ∈ is, i ∈ own.map (·.2))
    (hg : ∀ (s : Shared) (H : Hp) (C : Addr) (cl : List (Str × Addr)) (fp : List Addr), PG (X.blk s H scope (compEnvC scope cl C X.env) fp) tg (gT g is tgt))
    (ht : ∀ (s : Shared) (H : Hp) (C : Addr) (cl : List (Str × Addr)) (fp : List Addr), PTs (X.blk s H scope (compEnvC scope cl C X.env) fp) ifs (tT g WxN c))
    (he : ∀ (s : Shared) (H : Hp) (C : Addr) (cl : List (Str × Addr)) (fp : List Addr), PE (X.blk s H scope (compEnvC scope cl C X.env) fp) elt (tD g WxN e)) :
    PE X (.ListComp elt [⟨tg, .Name x p, ifs, 0⟩] scope pos) (tD g Wx (fCompB i (own.map (·.2)) tgt c e)) := PE.imp (pe_lc C.calm C.nd (pi_list (pe_var hN hv hd hcd)) ok hg ht he (by intro _; rfl)) fun _ _ _ h => tLcB_run C.K C.gM C.gP hio h
theorem ps_setLc_d (C : Ctx X g Wx k T) {i : Nat} {y : Str} {py spos : Pos} {elt tg iter : Expr} {ifs : List Expr} {scope : Scope} {own : List (Str × Nat)} {is : List Nat} {fi : EvI} {tgt : Tgt} {c : EvT} {e : Ev} (hy : X.N[i]? = some y) (hyl : X.env.scope.names.lookup y = some .local)
    (hsw : swapsWith (.ListComp elt [⟨tg, iter, ifs, 0⟩] scope pos) (some (.Name y py)) spos.line X.env = pure true) (hi : PI X tg iter (tI g Wx fi)) (ok : BlkOk X.N X.env.scope scope own) (hio : ∀ i ∈ is, i ∈ own.map (·.2))
    (hg : ∀ (s : Shared) (H : Hp) (C : Addr) (cl : List (Str × Addr)) (fp : List Addr), PG (X.blk s H scope (compEnvC scope cl C X.env) fp) tg (gT g is tgt))
    (ht : ∀ (s : Shared) (H : Hp) (C : Addr) (cl : List (Str × Addr)) (fp : List Addr), PTs (X.blk s H scope (compEnvC scope cl C X.env) fp) ifs (tT g WxN c))
    (he : ∀ (s : Shared) (H : Hp) (C : Addr) (cl : List (Str × Addr)) (fp : List Addr), PE (X.blk s H scope (compEnvC scope cl C X.env) fp) elt (tD g WxN e)) (hs : ∀ x, foldedSetIterable iter X.env x = pure x) :
    PS X (.Assign [.Name y py] (.ListComp elt [⟨tg, iter, ifs, 0⟩] scope pos) spos) (tS g Wx (fAsg i (fComp (own.map (·.2)) fi tgt c e))) :=
  PS.imp (ps_setLc C.calm C.nd hy hyl hsw hi ok hg ht he hs) fun D σ H h => tLc_run C.gM C.gP hio (tAsg_run h)
theorem ps_setLcB_d (C : Ctx X g Wx k T) {i j : Nat} {x y : Str} {py spos p : Pos} {elt tg : Expr} {ifs : List Expr} {scope : Scope} {own : List (Str × Nat)} {is : List Nat} {tgt : Tgt} {c : EvT} {e : Ev} (hN : X.N[j]? = some x) (hv : Vis X.env.scope x) (hd : (x == ("__debug__" : Str)) = false) (hcd : (x == ("__classdict__" : Str)) = false)
    (hy : X.N[i]? = some y) (hyl : X.env.scope.names.lookup y = some .local)
    (hsw : swapsWith (.ListComp elt [⟨tg, .Name x p, ifs, 0⟩] scope pos) (some (.Name y py)) spos.line X.env = pure true) (ok : BlkOk X.N X.env.scope scope own) (hio : ∀ i ∈ is, i ∈ own.map (·.2))
    (hg : ∀ (s : Shared) (H : Hp) (C : Addr) (cl : List (Str × Addr)) (fp : List Addr), PG (X.blk s H scope (compEnvC scope cl C X.env) fp) tg (gT g is tgt))
    (ht : ∀ (s : Shared) (H : Hp) (C : Addr) (cl : List (Str × Addr)) (fp : List Addr), PTs (X.blk s H scope (compEnvC scope cl C X.env) fp) ifs (tT g WxN c))
    (he : ∀ (s : Shared) (H : Hp) (C : Addr) (cl : List (Str × Addr)) (fp : List Addr), PE (X.blk s H scope (compEnvC scope cl C X.env) fp) elt (tD g WxN e)) :
    PS X (.Assign [.Name y py] (.ListComp elt [⟨tg, .Name x p, ifs, 0⟩] scope pos) spos) (tS g Wx (fAsg i (fCompB j (own.map (·.2)) tgt c e))) :=
  PS.imp (ps_setLc C.calm C.nd hy hyl hsw (pi_list (pe_var hN hv hd hcd)) ok hg ht he (by intro _; rfl)) fun D σ H h => tLcB_run C.K C.gM C.gP hio (tAsg_run h)

/-! ### x.append(e), x.pop() -/
theorem ps_app_d (C : Ctx0 X g T) {i : Nat} {x : Str} {e : Expr} {f : Ev} {p apos cpos : Pos} (hN : X.N[i]? = some x) (hv : Vis X.env.scope x) (hd : (x == ("__debug__" : Str)) = false) (hcd : (x == ("__classdict__" : Str)) = false) (he : PE X e (tD g Wx f))
    (hfew : ((backTo cpos (starEach [e] X.env)).all (fun x => !x.1) && (backToKw cpos (keywordEach [] X.env)).all (fun x => x.1.isSome) && decide (([e] : List Expr).length + ([] : List Keyword).length + (if ([] : List Keyword).isEmpty then 0 else 1) < 30)) = true)
    (hline : (apos.endLine == cpos.line) = true) (hs : starEach [e] X.env = (false, eval e X.env) :: starEach [] X.env) :
    PS X (.Expr (.Call (.Attribute (.Name x p) "append" apos) [e] [] cpos) pos) (tS g Wx (fApp i f)) := PS.imp (ps_expr (pe_bm PySem.F.plainAttrs_list PySem.F.slot_list_append PySem.F.type_list_append mt_append (pe_var hN hv hd hcd) (pa_cons he pa_nil hs) (by rfl) hfew hline hs (by rfl)) (by rfl)) fun D σ H h => tApp_run C.gM h
theorem pd_pop {i : Nat} {x : Str} {p apos cpos : Pos} (hN : X.N[i]? = some x) (hv : Vis X.env.scope x) (hd : (x == ("__debug__" : Str)) = false) (hcd : (x == ("__classdict__" : Str)) = false) (hline : (apos.endLine == cpos.line) = true) :
    PE X (.Call (.Attribute (.Name x p) "pop" apos) [] [] cpos) (tD g Wx (fPop i)) := PE.imp (pe_bm0 PySem.F.plainAttrs_list PySem.F.slot_list_pop PySem.F.type_list_pop mt_pop (pe_var hN hv hd hcd) (by rfl) hline) fun σ H Q h => tPop_run h

/-! ### raise, try -/
def fRaise (c : Nat) : Es := fun ρ => .ex c .none ρ
theorem ps_raise_d (C : Ctx X g Wx k T) {c : Nat} {x m : Str} {j : Nat} {p p2 pos2 : Pos} (hc : T.CT c = some x) (hn : g.nm c = none) (hg : Gl X x) (hdb : (x == ("__debug__" : Str)) = false) :
    PS X (.Raise (some (.Call (.Name x p) [.Constant (.str m) j p2] [] pos)) none pos2) (tS g Wx (fRaise c)) := by
  have F := C.clss c x hc
  refine PS.imp (ps_raise C.calm C.tk (pmk_own PySem.F.excBase_ValueError (C := g.C c) (by rw [C.K]; exact C.plain c x hc hn) F.gC (by rw [C.K]; exact F.kC) (raises_own (by rw [C.K]; exact F.bC) (by rw [C.K]; exact F.tC)) hg hdb)) fun D σ H h => ?_
  obtain ⟨W, ρ, ext, S, h⟩ := h
  refine h σ W H none S ?_
  unfold XR
  rw [hn]
  exact ⟨rfl, rfl⟩
/-- a suite lets nothing out -/
def noEx : Fl → Fl
  | .ex _ _ _ => .no
  | r => r
def fHands : List (Nat × Es) → Nat → D → Rho → Fl
  | [], c, x, ρ => .ex c x ρ
  | (j, f) :: r, c, x, ρ => if c = j then noEx (f ρ) else fHands r c x ρ
def fTry (T : Mdl) (fb : Es) (hl : List (Nat × Es)) : Es := fun ρ => match fb ρ with
  | .ex c x ρ1 => (match T.CT c with
    | some _ => fHands hl c x ρ1
    | none => .no)
  | r => r
/-- the clauses' tables -/
def hdL (g : Cfg) : List (Nat × Es) → List (Value × (Addr → Value → Option Addr → TS))
  | [] => []
  | (j, f) :: r => (.ref (g.C j), fun _ _ _ => tS g WxN f) :: hdL g r
theorem noEx_flW {ext : List Pin} {De : Ends} {r : Fl} (h : flW g Wx ext De (noEx r)) : flW g WxN ext De r := by
  cases r with
  | nx ρ => exact h
  | rt d t ρ => exact h
  | bk ρ => exact h
  | ct ρ => exact h
  | ex c x ρ => exact h.elim
  | no => exact h
theorem hands_run (C : Ctx X g Wx k T) {De : Ends} {ext : List Pin} {c : Nat} {xc : Str} {x : D} {ρ : Rho} (hc : T.CT c = some xc) : ∀ {hs : List (Nat × Es)}, (∀ p ∈ hs, ∃ y, T.CT p.1 = some y) → flW g Wx ext De (fHands hs c x ρ) → ∀ σ, exW g (wMany X.K Wx De (hdL g hs)) σ ext c x ρ
  | [], _, h, σ => h σ
  | (j, f) :: r, hh, h, σ => fun W' H' dd S xr => by
    obtain ⟨y, hy⟩ := hh (j, f) List.mem_cons_self
    have e := C.exm c j xc y hc hy
    refine ⟨(c == j), by rw [C.K]; exact e, fun hb a _ => ?_, fun hb => ?_⟩
    · have hcj : c = j := by simpa using hb
      unfold fHands at h
      rw [if_pos hcj] at h
      exact ⟨W', ρ, ext, S, noEx_flW h⟩
    · have hcj : ¬ c = j := by simpa using hb
      unfold fHands at h
      rw [if_neg hcj] at h
      exact hands_run C hc (fun p hp => hh p (List.mem_cons_of_mem _ hp)) h σ W' H' dd S xr
theorem ps_try_d (C : Ctx X g Wx k T) (hs : X.stack = X.env :: X.outer) (hf : X.env.frame = some X.env.locals) {body : List Stmt} {h₀ : ExceptHandler} {hds : List ExceptHandler} {fb : Es} {hl : List (Nat × Es)} (hcl : ∀ p ∈ hl, ∃ y, T.CT p.1 = some y)
    (hb : ∀ (W : WX) (pn : List (Addr × Obj)) (xe : Value → Shared → Prop), Takes (X.tr pn xe) W → PassesOwn (model X.prog X.w) X.A X.env xe → PSs (X.tr pn xe) body (tS g W fb)) (hh : HdsOk X (h₀ :: hds) (hdL g hl)) :
    PS X (.Try body (h₀ :: hds) [] [] pos) (tS g Wx (fTry T fb hl)) :=
  PS.imp (ps_try_many (tb := fun W => tS g W fb) hs hf C.tk hb hh) fun De σ H h => by
    obtain ⟨W, ρ, ext, S, h⟩ := h
    refine ⟨W, ρ, ext, S, ?_⟩
    unfold fTry at h
    cases e : fb ρ with
    | ex c x ρ1 =>
      rw [e] at h
      dsimp only at h
      cases e2 : T.CT c with
      | none => rw [e2] at h; exact h.elim
      | some y =>
        rw [e2] at h
        exact hands_run C e2 hcl h
    | nx ρ1 => rw [e] at h; exact h
    | rt d t ρ1 => rw [e] at h; exact h
    | bk ρ1 => rw [e] at h; exact h
    | ct ρ1 => rw [e] at h; exact h
    | no => rw [e] at h; exact h
end

/-! ### a def keeps its promise -/
def rho0 (N : Nat) (io : Option Nat) (ds : List D) : Rho := (ds.mapIdx fun i d => if io = some i then Sl.io d else Sl.val d) ++ List.replicate (N - ds.length) .no
def exitF (io : Option Nat) (d : D) (t : Bool) (ρ : Rho) : FR := match io with
  | none => .ret d t .none
  | some i => (match ρ[i]? with
    | some (.io d') => .ret d t d'
    | _ => .no)
def runF (n N : Nat) (io : Option Nat) (body : Es) : List D → FR := fun ds => if ds.length = n then (match body (rho0 N io ds) with
  | .nx ρ => exitF io .none false ρ
  | .rt d t ρ => exitF io d t ρ
  | .ex c x _ => (match io with | none => .ex c x | some _ => .no)
  | _ => .no) else .no
section
variable {K : PySem.W.Frag} {Wc W : Addr → Prop} {H H' : Hp} {io : Option Nat} {vs : List V} {Q : VK}
theorem rho0_get {N : Nat} {io : Option Nat} {ds : List D} {i : Nat} {s : Sl} (h : (rho0 N io ds)[i]? = some s) (hn : s ≠ .no) : ∃ d, ds[i]? = some d ∧ s = if io = some i then Sl.io d else Sl.val d := by
  unfold rho0 at h
  by_cases hi : i < ds.length
  · rw [List.getElem?_append_left (by rw [List.length_mapIdx]; exact hi), List.getElem?_mapIdx] at h
    cases e : ds[i]? with
    | none => rw [e] at h; cases h
    | some d => rw [e] at h; exact ⟨d, rfl, (Option.some.inj h).symm⟩
  · rw [List.getElem?_append_right (by rw [List.length_mapIdx]; omega), List.getElem?_replicate] at h
    split at h
    · cases h; exact absurd rfl hn
    · cases h
def ioA (io : Option Nat) (vs : List V) : Addr := match io with
  | some k => (match vs[k]? with
    | some (.ref a) => a
    | _ => 0)
  | none => 0
theorem start_get {N : List Str} {vs : List V} {i : Nat} {v : V} (h : vs[i]? = some v) : (L2.start N vs)[i]? = some (some v) := by
  unfold L2.start
  have hi : i < vs.length := (List.getElem?_eq_some_iff.mp h).1
  rw [List.getElem?_append_left (by rw [List.length_map]; exact hi), List.getElem?_map, h]
  rfl
theorem fn_def {P : Program} {w : World} {mg : Str → Option Value} {base : Heap} {x qual : Str} {st : Stmt} {f : Addr} {fd : FuncData} {N ps : List Str} {k : Nat} {C : Nat → Addr} {nm : Nat → Option Str} {T : Mdl} {io : Option Nat} {body : Es}
    (F : Fun K x qual st f fd) (S : FnScope N ps (defScope st)) (hio : ∀ m, io = some m → m < ps.length) (hpl : ps.length ≤ N.length) (bm : ∀ x ∈ bnames, mg x = none)
    (consts : ∀ j c, T.KT j = some c → ∃ u, mg c.1 = some u ∧ KR K u c.2)
    (fns : ∀ j e, T.T j = some e → FnOk P w K mg base (L2.CX P w) k e.f e.fd e.ps (spOf K C nm e.ps.length e.io e.sem) ∧ mg e.x = some (.ref e.f) ∧ PySem.W.keepIn K (.ref e.f) = true ∧ Binds K e.fd e.ps [])
    (clss : ∀ j x, T.CT j = some x → ClsF K mg x (C j)) (plain : ∀ j x, T.CT j = some x → nm j = none → PySem.W.excIn K (C j) veT "ValueError.__new__" = true)
    (exm : ∀ i j x y, T.CT i = some x → T.CT j = some y → PySem.W.exmOne K (.ref (C i)) (.ref (C j)) = some (i == j))
    (hb : ∀ (X : Cx) (g : Cfg) (Wx : WX), Ctx X g Wx k T → X.N = N → X.env.scope = defScope st → X.fn = (fun _ => true) → X.stack = X.env :: X.outer → X.env.frame = some X.env.locals → g.nm = nm → PSs X (defBody st) (tS g Wx body)) :
    FnOk P w K mg base (L2.CX P w) (k + 1) f fd ps (spOf K C nm ps.length io (runF ps.length N.length io body)) := by
  refine F.okX S (fun vs H Q E h => h.1) fun cdv A outer s H vs Q E hr h => ?_
  obtain ⟨hlen, _, ds, Wc, hal, args, m⟩ := h
  let g : Cfg := { K := K, C := C, nm := nm, P := fun a => H a ≠ none ∧ ¬ ioAt io vs a, M := fun a => Wc a ∧ ¬ ioAt io vs a, H0 := H, a := ioA io vs }
  let Wx : WX := fun cls d _ H => E cls d H
  have gP : ∀ a, g.P a → g.H0 a ≠ none := fun a h => h.1
  have gM : ∀ a, g.M a → g.P a := fun a h => ⟨hal a h.1, h.2⟩
  have C0 : Ctx (cxOf (L2.CX P w) P w K mg base N qual (defScope st) f cdv A outer s H E) g Wx k T :=
    { nd := S.nd, K := rfl, gM := gM, gP := gP, bm := bm, consts := consts, calm := rfl, room := hr, tk := takes_of rfl rfl rfl rfl, po := passes_of rfl, fns := fns, clss := clss, plain := plain, exm := exm }
  refine ⟨tS g Wx body, hb _ g Wx C0 rfl rfl rfl rfl rfl rfl, Wc, rho0 N.length io ds, [], ?_, ?_⟩
  · have hla : ∀ (i : Nat) a, ioAt io vs a → io = some i → vs[i]? = some (.ref a) := fun i a ⟨k, e1, e2⟩ e3 => by rw [e1] at e3; cases e3; exact e2
    have own1 : ∀ (i : Nat) s' d, (rho0 N.length io ds)[i]? = some s' → s'.od = some d → io = some i ∧ ds[i]? = some d ∧ s' = .io d := fun i s' d h1 h2 => by
      obtain ⟨d', h3, h4⟩ := rho0_get h1 (fun z => by rw [z] at h2; cases h2)
      by_cases hi : io = some i
      · rw [if_pos hi] at h4
        rw [h4] at h2; cases h2
        exact ⟨hi, h3, h4⟩
      · rw [if_neg hi] at h4
        rw [h4] at h2; cases h2
    refine ⟨?_, fun a h => h.1, hal, fun a h => h, fun a o _ h => h, ?_, ?_, ?_, ?_, fun p hp => (by cases hp), fun p hp => (by cases hp), List.Pairwise.nil⟩
    · unfold L2.start rho0
      rw [List.length_append, List.length_append, List.length_map, List.length_mapIdx, List.length_replicate, List.length_replicate, args.1]
    · intro i d hi
      obtain ⟨d', h3, h4⟩ := rho0_get hi (fun z => by cases z)
      have hni : ¬ io = some i := fun z => by rw [if_pos z] at h4; cases h4
      rw [if_neg hni] at h4; cases h4
      have hv : i < vs.length := by rw [args.1]; exact (List.getElem?_eq_some_iff.mp h3).1
      refine ⟨vs[i], start_get (List.getElem?_eq_getElem hv), ?_⟩
      have := args.2 i _ _ (List.getElem?_eq_getElem hv) h3
      rw [if_neg hni] at this
      exact this
    · intro i s' d hi hs
      obtain ⟨h1, h2, h3⟩ := own1 i s' d hi hs
      have hv : i < vs.length := by rw [args.1]; exact (List.getElem?_eq_some_iff.mp h2).1
      have := args.2 i _ _ (List.getElem?_eq_getElem hv) h2
      rw [if_pos h1] at this
      obtain ⟨a, ea, wa, ra⟩ := this
      exact ⟨a, by rw [start_get (List.getElem?_eq_getElem hv), ea], wa, fun z => z.2 ⟨i, h1, by rw [List.getElem?_eq_getElem hv, ea]⟩, ra⟩
    · intro i d hi
      obtain ⟨h1, h2, h3⟩ := own1 i _ d hi rfl
      have hv : i < vs.length := by rw [args.1]; exact (List.getElem?_eq_some_iff.mp h2).1
      have := args.2 i _ _ (List.getElem?_eq_getElem hv) h2
      rw [if_pos h1] at this
      obtain ⟨a, ea, _, _⟩ := this
      have e1 : vs[i]? = some (.ref a) := by rw [List.getElem?_eq_getElem hv, ea]
      have e2 : g.a = a := by
        show ioA io vs = a
        unfold ioA
        rw [h1]; dsimp only; rw [e1]
      rw [start_get e1, e2]
    · intro i j a ⟨s1, d1, e1, e2, _⟩ ⟨s2, d2, e3, e4, _⟩
      have h1 := (own1 i s1 d1 e1 e2).1
      have h2 := (own1 j s2 d2 e3 e4).1
      rw [h1] at h2; cases h2; rfl
  · have hn : ds.length = ps.length := by rw [← args.1]; exact hlen
    unfold runF at m
    rw [if_pos hn] at m
    -- the end of a run
    have fin : ∀ {d : D} {t : Bool} {ρ' : Rho}, (match exitF io d t ρ' with | .ret d t d' => retW K io vs H Wc Q d t d' | .ex _ _ => False | .no => False) → ∀ W' σ' v H', StR g W' H' ρ' σ' [⟨v, d, t⟩] → Q v H' := by
      intro d t ρ' me W' σ' v H' S'
      -- the in-out argument at the end
      have hioE : ∀ a, ioAt io vs a → ∃ i d', io = some i ∧ ρ'[i]? = some (Sl.io d') ∧ σ'[i]? = some (some (V.ref a)) ∧ W' a ∧ RpO K W' H' a d' := by
        intro a ⟨i, e1, e2⟩
        rw [e1] at me
        unfold exitF at me
        dsimp only at me
        cases e3 : ρ'[i]? with
        | none => rw [e3] at me; exact me.elim
        | some s3 =>
          rw [e3] at me
          cases s3 with
          | io d' =>
            obtain ⟨b, h1, h2, h3, h4⟩ := S'.own i _ _ e3 rfl
            have h5 := S'.io i d' e3
            have e4 : g.a = a := by
              show ioA io vs = a
              unfold ioA
              rw [e1]; dsimp only; rw [e2]
            rw [h1] at h5
            have e5 : b = a := by cases h5; exact e4
            rw [e5] at h1 h2 h4
            exact ⟨i, d', e1, e3, h1, h2, h4⟩
          | _ => exact me.elim
      have wc : ∀ a, Wc a → W' a := fun a ha => by
        by_cases hi : ioAt io vs a
        · obtain ⟨_, _, _, _, _, h, _⟩ := hioE a hi
          exact h
        · exact S'.m0 a ⟨ha, hi⟩
      have fr : ∀ a o, H a = some o → ¬ ioAt io vs a → H' a = some o := fun a o h hi => S'.fr a o ⟨by rw [h]; simp, hi⟩ h
      -- what the exit tells of the argument
      have res : ∀ d', (∀ i e, io = some i → ρ'[i]? = some (Sl.io e) → d' = e) → retW K io vs H Wc Q d t d' → Q v H' := by
        intro d' hd' rw'
        cases t with
        | false =>
          have tr : Tr W' Wc H' H' := fun a o hn ho => ⟨fun z => hn (wc a z), ho⟩
          refine rw' Wc v H' (fun _ z => z) fr S'.dom (fun a ha => ?_) ?_
          · obtain ⟨i, e', h1, h2, _, _, h3⟩ := hioE a ha
            rw [hd' i e' h1 h2]
            exact h3.tr tr rfl
          · rw [if_neg (by decide)]
            exact ⟨Rp.tr tr _ S'.pin0, fun _ z => z⟩
        | true =>
          obtain ⟨p, rfl, wp, np, rp⟩ := S'.pin1
          have hp : H p = none := by
            cases q : H p with
            | none => rfl
            | some o =>
              have hi : ioAt io vs p := Classical.byContradiction fun z => np ⟨by rw [q]; simp, z⟩
              obtain ⟨i, e', h1, h2, h3, _, _⟩ := hioE p hi
              exact absurd rfl (S'.pown _ List.mem_cons_self rfl i p ⟨_, e', h2, rfl, h3⟩)
          have tr : Tr W' (fun a => Wc a ∨ a = p) H' H' := fun a o hn ho => ⟨fun z => hn (z.elim (wc a) fun z => by rw [z]; exact wp), ho⟩
          refine rw' (fun a => Wc a ∨ a = p) _ H' (fun _ z => .inl z) fr S'.dom (fun a ha => ?_) ?_
          · obtain ⟨i, e', h1, h2, _, _, h3⟩ := hioE a ha
            rw [hd' i e' h1 h2]
            exact h3.tr tr rfl
          · rw [if_pos rfl]
            exact ⟨p, rfl, hp, fun _ z => z, .inr rfl, rp.tr tr rfl⟩
      unfold exitF at me
      cases io with
      | none => exact res .none (fun i e z => by cases z) me
      | some i =>
        dsimp only at me
        cases e3 : ρ'[i]? with
        | none => rw [e3] at me; exact me.elim
        | some s3 =>
          rw [e3] at me
          cases s3 with
          | io d' => exact res d' (fun j e z h => by cases z; rw [e3] at h; cases h; rfl) me
          | _ => exact me.elim
    have cond : ∀ {r : FR}, (match r with | .ret d t d' => retW K io vs H Wc Q d t d' | .ex c x => ∀ H' dd, (∀ a o, H a = some o → H' a = some o) → (match nm c with | none => dd = none ∧ x = .none | some f => ∃ p v, dd = some p ∧ H' p = some (.xd [(f, v)]) ∧ Rp K Wc H' v x) → E (.ref (C c)) dd H' | .no => False) → (∀ c x, r ≠ .ex c x) →
        (match r with | .ret d t d' => retW K io vs H Wc Q d t d' | .ex _ _ => False | .no => False) := by
      intro r h hn
      cases r with
      | ret d t d' => exact h
      | ex c x => exact absurd rfl (hn c x)
      | no => exact h
    have noX : ∀ {d : D} {t : Bool} {ρ' : Rho} c x, exitF io d t ρ' ≠ .ex c x := by
      intro d t ρ' c x
      unfold exitF
      cases io with
      | none => intro z; cases z
      | some i =>
        dsimp only
        split <;> (intro z; cases z)
    cases e : body (rho0 N.length io ds) with
    | nx ρ' =>
      rw [e] at m
      exact fun W' σ' H' S' => fin (cond m noX) W' σ' .non H' (S'.note .non)
    | rt d t ρ' =>
      rw [e] at m
      exact fun W' σ' v H' S' => fin (cond m noX) W' σ' v H' S'
    | ex c xx ρ' =>
      rw [e] at m
      dsimp only at m
      cases io with
      | some i => exact m.elim
      | none =>
        intro σ' W' H' dd S' xr
        have wc : ∀ a, Wc a → W' a := fun a ha => S'.m0 a ⟨ha, fun ⟨_, z, _⟩ => by cases z⟩
        refine m H' dd (fun a o ho => S'.fr a o ⟨by show H a ≠ none; rw [ho]; simp, fun ⟨_, z, _⟩ => by cases z⟩ ho) ?_
        unfold XR at xr
        show (match nm c with | none => dd = none ∧ xx = .none | some f => ∃ p v, dd = some p ∧ H' p = some (.xd [(f, v)]) ∧ Rp K Wc H' v xx)
        have xr' : (match nm c with | none => dd = none ∧ xx = .none | some f => ∃ p v, dd = some p ∧ H' p = some (.xd [(f, v)]) ∧ Rp K W' H' v xx) := xr
        cases hnm : nm c with
        | none => rw [hnm] at xr'; exact xr'
        | some fl =>
          rw [hnm] at xr'
          obtain ⟨p, v, h1, h2, h3⟩ := xr'
          exact ⟨p, v, h1, h2, Rp.tr (fun a o hn ho => ⟨fun z => hn (wc a z), ho⟩) _ h3⟩
    | bk ρ' => rw [e] at m; exact m.elim
    | ct ρ' => rw [e] at m; exact m.elim
    | no => rw [e] at m; exact m.elim
end
end PV
namespace PV
open PySem L2 PyProof.Rows

/-! ### data without dicts -/
mutual
def ndc : D → Bool
  | .dict _ => false
  | .list xs => ndcL xs
  | .tuple xs => ndcL xs
  | _ => true
def ndcL : List D → Bool
  | [] => true
  | x :: xs => ndc x && ndcL xs
end
section
variable {K : PySem.W.Frag} {W : Addr → Prop} {H : Hp}
theorem sqT_of {a : Addr} {vs : List V} (h : (¬ W a ∧ Rd H a (.tup vs)) ∨ KTu K a vs) : SqT K H a vs := by
  rcases h with ⟨_, r⟩ | z
  · exact .inl r
  · exact .inr z
theorem sqL_of {a : Addr} {vs : List V} (h : (¬ W a ∧ Rd H a (.lst vs)) ∨ KLi K a vs) : SqL K H a vs := by
  rcases h with ⟨_, r⟩ | z
  · exact .inl r
  · exact .inr z
mutual
theorem Rp.dp : ∀ (d : D) {v : V}, Rp K W H v d → ndc d = true → Dp K H v d ∧ d.canLay0 = true
  | .none, _, h, _ => by cases h; exact ⟨.non, rfl⟩
  | .bool _, _, h, _ => by cases h; exact ⟨.bl _, rfl⟩
  | .int _, _, h, _ => by cases h; exact ⟨.int _, rfl⟩
  | .str _, _, h, _ => by
    cases h with
    | str _ ok => exact ⟨.str _, by simpa [PyData.canLay0] using ok⟩
  | .list ds, _, h, n => by
    cases h with
    | lst hs ha =>
      obtain ⟨h1, h2⟩ := RpL.dp ds ha (by simpa [ndc] using n)
      exact ⟨.lst (sqL_of hs) h1, by simpa [PyData.canLay0] using h2⟩
  | .tuple ds, _, h, n => by
    cases h with
    | tup hs ha =>
      obtain ⟨h1, h2⟩ := RpL.dp ds ha (by simpa [ndc] using n)
      exact ⟨.tup (sqT_of hs) h1, by simpa [PyData.canLay0] using h2⟩
  | .dict _, _, _, n => by simp [ndc] at n
theorem RpL.dp : ∀ (ds : List D) {vs : List V}, RpL K W H vs ds → ndcL ds = true → DpAll K H vs ds ∧ PyData.canLayAll0 ds = true
  | [], _, h, _ => by cases h; exact ⟨.nil, rfl⟩
  | d :: ds, _, h, n => by
    cases h with
    | cons h1 h2 =>
      have n' : ndc d = true ∧ ndcL ds = true := by simpa [ndcL] using n
      obtain ⟨a1, a2⟩ := Rp.dp d h1 n'.1
      obtain ⟨b1, b2⟩ := RpL.dp ds h2 n'.2
      exact ⟨.cons a1 b1, by simp [PyData.canLayAll0, a2, b2]⟩
end
theorem Rp1.dp {d : D} {v : V} (h : Rp1 K W H v d) (n : ndc d = true) : Dp K H v d ∧ d.canLay0 = true := by
  rcases h with h | ⟨a, rfl, h⟩
  · exact Rp.dp d h n
  · cases d with
    | list ds =>
      obtain ⟨vs, e, r⟩ := h
      obtain ⟨h1, h2⟩ := RpL.dp ds r (by simpa [ndc] using n)
      exact ⟨.lst (.inl (.inl e)) h1, by simpa [PyData.canLay0] using h2⟩
    | dict _ => simp [ndc] at n
    | _ => exact h.elim
theorem Rp1.lst {v : V} {ds : List D} (h : Rp1 K W H v (.list ds)) : ∃ a vs, v = .ref a ∧ SqL K H a vs ∧ RpL K W H vs ds := by
  rcases h with h | ⟨a, rfl, vs, e, r⟩
  · cases h with
    | lst hs ha => exact ⟨_, _, rfl, sqL_of hs, ha⟩
  · exact ⟨a, vs, rfl, .inl (.inl e), r⟩
theorem Rp1.tup {v : V} {ds : List D} (h : Rp1 K W H v (.tuple ds)) : Rp K W H v (.tuple ds) ∧ ∃ a vs, v = .ref a ∧ SqT K H a vs ∧ RpL K W H vs ds := by
  rcases h with h | ⟨a, _, h⟩
  · refine ⟨h, ?_⟩
    cases h with
    | tup hs ha => exact ⟨_, _, rfl, sqT_of hs, ha⟩
  · exact h.elim
theorem Rp1.str {v : V} {x : Str} (h : Rp1 K W H v (.str x)) : v = .str x ∧ PyData.strOk x = true := by
  rcases h with h | ⟨a, _, h⟩
  · cases h with
    | str _ ok => exact ⟨rfl, ok⟩
  · exact h.elim
theorem Rp1.bl {v : V} {b : Bool} (h : Rp1 K W H v (.bool b)) : v = .bl b := by
  rcases h with h | ⟨a, _, h⟩
  · cases h; rfl
  · exact h.elim
theorem Rp1.non {v : V} (h : Rp1 K W H v .none) : v = .non := by
  rcases h with h | ⟨a, _, h⟩
  · cases h; rfl
  · exact h.elim
end
section
variable {X : Cx} {g : Cfg} {Wx : WX} {k : Nat} {T : Mdl} {pos : Pos}
theorem Del.fin {W : Addr → Prop} {H : Hp} {ρ : Rho} {σ : L2.St} {ext : List Pin} {d : D} {w : V} {Q : VK} (h : Del g ρ σ ext (d, false) Q) (S : StR g W H ρ σ ext) (r : Rp g.K W H w d) : Q w H := h W w H (S.note r)
theorem BinK.orr {k1 k2 : D → D → Option (D × Bool)} {r1 r2 : R2} (h1 : BinK g k1 r1) (h2 : BinK g k2 r2) : BinK g (fun x y => (k1 x y).or (k2 x y)) (fun x y H Q => r1 x y H Q ∨ r2 x y H Q) := by
  intro W H ρ σ ext v u x y z Q S hx hy e d
  dsimp only at e
  cases e1 : k1 x y with
  | some z1 => rw [e1] at e; cases e; exact .inl (h1 W H ρ σ ext v u x y _ Q S hx hy e1 d)
  | none => rw [e1] at e; exact .inr (h2 W H ρ σ ext v u x y _ Q S hx hy e d)

/-! ### arithmetic -/
def mulOk (i j : Int) : Bool := decide ((-(2 ^ 64) < i ∧ i < 2 ^ 64) ∨ (-(2 ^ 64) < j ∧ j < 2 ^ 64) ∨ i.natAbs.log2 + j.natAbs.log2 < 1000000)
theorem mulOk_ok {i j : Int} (h : mulOk i j = true) : IntMulOk i j := by
  rcases of_decide_eq_true h with h | h | h
  · exact CMul.ok (.inl h)
  · exact CMul.ok (.inr h)
  · exact CMulW.ok h
theorem op_mulA : OpR X (binaryOp .Mult) (rI (fun i j => mulOk i j = true) fun i j => .int (i * j)) := opI fun _ _ _ _ _ _ _ hc q => mul_int q (mulOk_ok hc)
def bSub : D → D → Option (D × Bool)
  | .int i, .int j => some (.int (i - j), false)
  | _, _ => none
def bMul : D → D → Option (D × Bool)
  | .int i, .int j => if mulOk i j = true then some (.int (i * j), false) else none
  | _, _ => none
def bAddI : D → D → Option (D × Bool)
  | .int i, .int j => some (.int (i + j), false)
  | _, _ => none
theorem bAddI_ok : BinK g bAddI (rI0 fun i j => .int (i + j)) := by
  intro W H ρ σ ext v u x y z Q S hx hy e d
  unfold bAddI at e
  split at e
  · cases e; exact ⟨_, _, hx.int, hy.int, d.fin S (.int _)⟩
  · cases e
theorem bSub_ok : BinK g bSub (rI0 fun i j => .int (i - j)) := by
  intro W H ρ σ ext v u x y z Q S hx hy e d
  unfold bSub at e
  split at e
  · cases e; exact ⟨_, _, hx.int, hy.int, d.fin S (.int _)⟩
  · cases e
theorem bMul_ok : BinK g bMul (rI (fun i j => mulOk i j = true) fun i j => .int (i * j)) := by
  intro W H ρ σ ext v u x y z Q S hx hy e d
  unfold bMul at e
  split at e
  · split at e
    · rename_i hc; cases e; exact ⟨_, _, hx.int, hy.int, hc, d.fin S (.int _)⟩
    · cases e
  · cases e
/-- // : by a positive number of less than 9000 bits, by a negative one below 2 ^ 30 -/
def bDiv : D → D → Option (D × Bool)
  | .int i, .int j => if 0 < j ∧ j.natAbs.log2 < 9000 then some (.int (i / j), false) else if j ≠ 0 ∧ j.natAbs < 1073741824 then some (.int (i.fdiv j), false) else none
  | _, _ => none
theorem bDiv_ok : BinK g bDiv (fun x y H Q => rI CDivW (fun i j => .int (i / j)) x y H Q ∨ rI CDivN (fun i j => .int (i.fdiv j)) x y H Q) := by
  intro W H ρ σ ext v u x y z Q S hx hy e d
  unfold bDiv at e
  split at e
  · split at e
    · rename_i hc; cases e; exact .inl ⟨_, _, hx.int, hy.int, hc, d.fin S (.int _)⟩
    · split at e
      · rename_i hc; cases e; exact .inr ⟨_, _, hx.int, hy.int, hc, d.fin S (.int _)⟩
      · cases e
  · cases e
def bMod : D → D → Option (D × Bool)
  | .int i, .int j => if 0 < j then some (.int (i % j), false) else if j ≠ 0 then some (.int (i.fmod j), false) else none
  | _, _ => none
theorem bMod_ok : BinK g bMod (fun x y H Q => rI (fun _ j => 0 < j) (fun i j => .int (i % j)) x y H Q ∨ rI (fun _ j => j ≠ 0) (fun i j => .int (i.fmod j)) x y H Q) := by
  intro W H ρ σ ext v u x y z Q S hx hy e d
  unfold bMod at e
  split at e
  · split at e
    · rename_i hc; cases e; exact .inl ⟨_, _, hx.int, hy.int, hc, d.fin S (.int _)⟩
    · split at e
      · rename_i hc; cases e; exact .inr ⟨_, _, hx.int, hy.int, hc, d.fin S (.int _)⟩
      · cases e
  · cases e
def bPow : D → D → Option (D × Bool)
  | .int i, .int j => if 0 ≤ j ∧ j ≤ 1000000 ∧ i.natAbs < 2 ^ 64 then some (.int (i ^ j.toNat), false) else none
  | _, _ => none
theorem bPow_ok : BinK g bPow (rI CPow fun i j => .int (i ^ j.toNat)) := by
  intro W H ρ σ ext v u x y z Q S hx hy e d
  unfold bPow at e
  split at e
  · split at e
    · rename_i hc; cases e; exact ⟨_, _, hx.int, hy.int, hc, d.fin S (.int _)⟩
    · cases e
  · cases e
/-! texts, lists, tuples added -/
def bAddS : D → D → Option (D × Bool)
  | .str a, .str b => if a.length + b.length ≤ 1000000 then some (.str (a ++ b), false) else none
  | _, _ => none
theorem strOk_append {a b : Str} (ha : PyData.strOk a = true) (hb : PyData.strOk b = true) : PyData.strOk (a ++ b) = true := by
  unfold PyData.strOk at *
  show ((a.cps ++ b.cps).all _) = true
  rw [Array.all_append, ha, hb]; rfl
theorem le_line6 {n : Nat} (h : n ≤ 1000000) : n ≤ sizeLine := Nat.le_trans h (by decide)
def rAddS : R2 := fun x y H Q => ∃ i j, x = .str i ∧ y = .str j ∧ i.length + j.length ≤ sizeLine ∧ Q (.str (i ++ j)) H
theorem bAddS_ok : BinK g bAddS rAddS := by
  intro W H ρ σ ext v u x y z Q S hx hy e d
  unfold bAddS at e
  split at e
  · split at e
    · rename_i hc; cases e
      exact ⟨_, _, hx.str.1, hy.str.1, le_line6 hc, d.fin S (.str _ (strOk_append hx.str.2 hy.str.2))⟩
    · cases e
  · cases e
def rCatL (K : PySem.W.Frag) : R2 := fun x y H Q => ∃ l b xs zs, x = .ref l ∧ y = .ref b ∧ SqL K H l xs ∧ SqL K H b zs ∧ xs.length + zs.length ≤ sizeLine ∧ ∀ p, H p = none → Q (.ref p) (upd H p (.lst (xs ++ zs)))
theorem op_catL : OpR X (binaryOp .Add) (rCatL X.K) := by
  intro pins s σ H x y v u Q I rx ry h
  obtain ⟨l, b, xs, zs, rfl, rfl, hH, hB, hz, q⟩ := h
  cases rx
  cases ry
  obtain ⟨its, r, p1, hl⟩ := I.list hH
  obtain ⟨its2, r2, p2, hl2⟩ := I.list hB
  have e1 := r.length
  have e2 := r2.length
  obtain ⟨⟨cls, dd, data, sl⟩, n, ho, hc, _, hd⟩ := p1
  obtain ⟨⟨cls2, dd2, data2, sl2⟩, n2, ho2, hc2, _, hd2⟩ := p2
  simp only at hc hd hc2 hd2
  subst hc hd hc2 hd2
  refine concat_meets ⟨_, ho, rfl⟩ ⟨_, ho2, rfl⟩ noFill_list_add seq_list_add PySem.F.slot_list_add PySem.F.entry_list_add (PySem.F.args_list_add_2 _ _) (list_addW l b its.toArray its2.toArray n n2 dd dd2 sl sl2 (by rw [List.size_toArray, List.size_toArray]; omega)) ⟨ho, ho2, ?_⟩
  have ea : its.toArray ++ its2.toArray = (its ++ its2).toArray := by simp
  rw [ea]
  exact ⟨.ref _, _, I.lnew (t' := s.toks) (r.append r2) (by rw [List.length_append]; omega), rfl, q _ I.fresh⟩
def bAddL : D → D → Option (D × Bool)
  | .list a, .list b => if a.length + b.length ≤ 1000000 then some (.list (a ++ b), true) else none
  | _, _ => none
theorem bAddL_ok (hP : ∀ a, g.P a → g.H0 a ≠ none) : BinK g bAddL (rCatL g.K) := by
  intro W H ρ σ ext v u x y z Q S hx hy e d
  unfold bAddL at e
  split at e
  · split at e
    · rename_i hc; cases e
      obtain ⟨a, vs, rfl, h1, r1⟩ := hx.lst
      obtain ⟨b, ws, rfl, h2, r2⟩ := hy.lst
      exact ⟨a, b, vs, ws, rfl, rfl, h1, h2, le_line6 (by rw [r1.length, r2.length]; exact hc), fun p hp => d _ _ _ (S.lst hP (r1.append r2) hp)⟩
    · cases e
  · cases e
def bAddT : D → D → Option (D × Bool)
  | .tuple a, .tuple b => if a.length + b.length ≤ 1000000 then some (.tuple (a ++ b), false) else none
  | _, _ => none
theorem bAddT_ok : BinK g bAddT (rCatA g.K) := by
  intro W H ρ σ ext v u x y z Q S hx hy e d
  unfold bAddT at e
  split at e
  · split at e
    · rename_i hc; cases e
      obtain ⟨rx, a, vs, rfl, h1, r1⟩ := hx.tup
      obtain ⟨ry, b, ws, rfl, h2, r2⟩ := hy.tup
      refine ⟨a, b, vs, ws, rfl, rfl, h1, h2, le_line6 (by rw [r1.length, r2.length]; exact hc), fun e => ?_, fun _ e => ?_, fun _ _ p hp => d _ _ _ (S.tup (r1.append r2) hp)⟩
      · subst e
        cases r1
        exact d.fin S ry
      · subst e
        cases r2
        exact d.fin S (by rw [List.append_nil]; exact rx)
    · cases e
  · cases e

def bAdd (x y : D) : Option (D × Bool) := (((bAddI x y).or (bAddS x y)).or (bAddL x y)).or (bAddT x y)
theorem bAdd_ok (hP : ∀ a, g.P a → g.H0 a ≠ none) : BinK g bAdd (fun x y H Q => ((rI0 (fun i j => .int (i + j)) x y H Q ∨ rAddS x y H Q) ∨ rCatL g.K x y H Q) ∨ rCatA g.K x y H Q) := BinK.orr (BinK.orr (BinK.orr bAddI_ok bAddS_ok) (bAddL_ok hP)) bAddT_ok
theorem op_addD : OpR X (binaryOp .Add) (fun x y H Q => ((rI0 (fun i j => .int (i + j)) x y H Q ∨ rAddS x y H Q) ∨ rCatL X.K x y H Q) ∨ rCatA X.K x y H Q) := OpR.or (OpR.or (OpR.or op_add op_add_str) op_catL) op_catA
theorem op_divD : OpR X (binaryOp .FloorDiv) (fun x y H Q => rI CDivW (fun i j => .int (i / j)) x y H Q ∨ rI CDivN (fun i j => .int (i.fdiv j)) x y H Q) := OpR.or op_fdivW op_fdivN
theorem op_modD : OpR X (binaryOp .Mod) (fun x y H Q => rI (fun _ j => 0 < j) (fun i j => .int (i % j)) x y H Q ∨ rI (fun _ j => j ≠ 0) (fun i j => .int (i.fmod j)) x y H Q) := OpR.or op_mod op_modN

/-! ### comparisons -/
def eqOk (x y : D) : Bool := ndc x && ndc y && decide (min x.depth y.depth ≤ 64)
def bEq (x y : D) : Option (D × Bool) := if eqOk x y = true then some (.bool (PyData.eqv x y), false) else none
def bNe (x y : D) : Option (D × Bool) := if eqOk x y = true then some (.bool (!PyData.eqv x y), false) else none
def rEqR (K : PySem.W.Frag) : R2 := fun x y H Q => ∃ d e, Dp K H x d ∧ Dp K H y e ∧ d.canLay0 = true ∧ e.canLay0 = true ∧ min d.depth e.depth ≤ 64 ∧ Q (.bl (PyData.eqv d e)) H
def rNeR (K : PySem.W.Frag) : R2 := fun x y H Q => ∃ d e, Dp K H x d ∧ Dp K H y e ∧ d.canLay0 = true ∧ e.canLay0 = true ∧ min d.depth e.depth ≤ 64 ∧ Q (.bl (!PyData.eqv d e)) H
theorem op_eqR (hu : X.A.units + 64 < cLine) : OpR X (compareOp .Eq) (rEqR X.K) := by
  intro pins s σ H x y v u Q I rx ry h
  obtain ⟨d, e, hd, he, sd, se, hm, q⟩ := h
  obtain ⟨as, r1⟩ := Dp.reads I d x v hd rx
  obtain ⟨bs, r2⟩ := Dp.reads I e y u he ry
  exact SeqAt.compareEq_reads r1 r2 sd se (by omega) ⟨.bl _, H, I, rfl, q⟩
theorem op_neR (hu : X.A.units + 64 < cLine) : OpR X (compareOp .NotEq) (rNeR X.K) := by
  intro pins s σ H x y v u Q I rx ry h
  obtain ⟨d, e, hd, he, sd, se, hm, q⟩ := h
  obtain ⟨as, r1⟩ := Dp.reads I d x v hd rx
  obtain ⟨bs, r2⟩ := Dp.reads I e y u he ry
  exact SeqAt.compareNe_reads r1 r2 sd se (by omega) ⟨.bl _, H, I, rfl, q⟩
theorem eqOk_of {x y : D} (h : eqOk x y = true) : ndc x = true ∧ ndc y = true ∧ min x.depth y.depth ≤ 64 := by
  unfold eqOk at h
  simp only [Bool.and_eq_true, decide_eq_true_eq] at h
  exact ⟨h.1.1, h.1.2, h.2⟩
theorem bEq_ok : BinK g bEq (rEqR g.K) := by
  intro W H ρ σ ext v u x y z Q S hx hy e d
  unfold bEq at e
  split at e
  · rename_i h
    cases e
    obtain ⟨h1, h2, h3⟩ := eqOk_of h
    exact ⟨x, y, (hx.dp h1).1, (hy.dp h2).1, (hx.dp h1).2, (hy.dp h2).2, h3, d.fin S (.bl _)⟩
  · cases e
theorem bNe_ok : BinK g bNe (rNeR g.K) := by
  intro W H ρ σ ext v u x y z Q S hx hy e d
  unfold bNe at e
  split at e
  · rename_i h
    cases e
    obtain ⟨h1, h2, h3⟩ := eqOk_of h
    exact ⟨x, y, (hx.dp h1).1, (hy.dp h2).1, (hx.dp h1).2, (hy.dp h2).2, h3, d.fin S (.bl _)⟩
  · cases e
def bLt : D → D → Option (D × Bool)
  | .int i, .int j => some (.bool (decide (i < j)), false)
  | _, _ => none
def bLe : D → D → Option (D × Bool)
  | .int i, .int j => some (.bool (decide (i ≤ j)), false)
  | _, _ => none
def bGt : D → D → Option (D × Bool)
  | .int i, .int j => some (.bool (decide (j < i)), false)
  | _, _ => none
def bGe : D → D → Option (D × Bool)
  | .int i, .int j => some (.bool (decide (j ≤ i)), false)
  | _, _ => none
theorem bLt_ok : BinK g bLt (rI0 fun i j => .bl (decide (i < j))) := by
  intro W H ρ σ ext v u x y z Q S hx hy e d
  unfold bLt at e
  split at e
  · cases e; exact ⟨_, _, hx.int, hy.int, d.fin S (.bl _)⟩
  · cases e
theorem bLe_ok : BinK g bLe (rI0 fun i j => .bl (decide (i ≤ j))) := by
  intro W H ρ σ ext v u x y z Q S hx hy e d
  unfold bLe at e
  split at e
  · cases e; exact ⟨_, _, hx.int, hy.int, d.fin S (.bl _)⟩
  · cases e
theorem bGt_ok : BinK g bGt (rI0 fun i j => .bl (decide (j < i))) := by
  intro W H ρ σ ext v u x y z Q S hx hy e d
  unfold bGt at e
  split at e
  · cases e; exact ⟨_, _, hx.int, hy.int, d.fin S (.bl _)⟩
  · cases e
theorem bGe_ok : BinK g bGe (rI0 fun i j => .bl (decide (j ≤ i))) := by
  intro W H ρ σ ext v u x y z Q S hx hy e d
  unfold bGe at e
  split at e
  · cases e; exact ⟨_, _, hx.int, hy.int, d.fin S (.bl _)⟩
  · cases e
/-! is: against None, True, False -/
def isNoneD : D → Bool
  | .none => true
  | _ => false
def isBoolD (b : Bool) : D → Bool
  | .bool a => a == b
  | _ => false
def bIs : D → D → Option (D × Bool)
  | x, .none => some (.bool (isNoneD x), false)
  | x, .bool b => some (.bool (isBoolD b x), false)
  | _, _ => none
def bIsNot : D → D → Option (D × Bool)
  | x, .none => some (.bool (!isNoneD x), false)
  | x, .bool b => some (.bool (!isBoolD b x), false)
  | _, _ => none
theorem Rp1.none_iff {K : PySem.W.Frag} {W : Addr → Prop} {H : Hp} {v : V} {d : D} (h : Rp1 K W H v d) : decide (v = .non) = isNoneD d := by
  rcases h with h | ⟨a, rfl, h⟩
  · cases h <;> rfl
  · cases d <;> first | rfl | exact h.elim
theorem Rp1.bool_iff {K : PySem.W.Frag} {W : Addr → Prop} {H : Hp} {v : V} {d : D} {b : Bool} (h : Rp1 K W H v d) : decide (v = .bl b) = isBoolD b d := by
  rcases h with h | ⟨a, rfl, h⟩
  · cases h <;> first | rfl | (rename_i c; cases b <;> cases c <;> rfl)
  · cases d <;> first | rfl | exact h.elim
def rIsB1 : R2 := fun x y H Q => ∃ b : Bool, y = .bl b ∧ (∀ z, x ≠ .ty z) ∧ Q (.bl (decide (x = .bl b))) H
def rNotB1 : R2 := fun x y H Q => ∃ b : Bool, y = .bl b ∧ (∀ z, x ≠ .ty z) ∧ Q (.bl (!decide (x = .bl b))) H
theorem op_isBl1 : OpR X (compareOp .Is) rIsB1 := by
  intro pins s σ H x y v u Q I rx ry h
  obtain ⟨b, rfl, hz, q⟩ := h
  cases (show u = Value.bool b from ry)
  have pl : plainIs v (.bool b) = true := by
    cases x with
    | non => cases rx; rfl
    | bl _ => cases rx; rfl
    | int _ => obtain ⟨t, rfl⟩ := rx; rfl
    | str _ => obtain ⟨t, rfl⟩ := rx; rfl
    | byt _ => obtain ⟨t, rfl⟩ := rx; rfl
    | flt _ => obtain ⟨t, rfl⟩ := rx; rfl
    | ref _ => cases rx; rfl
    | ty n => exact absurd rfl (hz n)
  by_cases e : x = .bl b
  · subst e
    cases (show v = Value.bool b from rx)
    exact wpAny_is_self rfl ⟨.bl true, H, I, rfl, by simpa using q⟩
  · refine wpAny_is_other pl (fun z => e ?_) ⟨.bl false, H, I, rfl, by simpa [e] using q⟩
    rw [z] at rx
    exact rx.inj rfl
theorem op_notBl1 : OpR X (compareOp .IsNot) rNotB1 := by
  intro pins s σ H x y v u Q I rx ry h
  obtain ⟨b, rfl, hz, q⟩ := h
  cases (show u = Value.bool b from ry)
  have pl : plainIs v (.bool b) = true := by
    cases x with
    | non => cases rx; rfl
    | bl _ => cases rx; rfl
    | int _ => obtain ⟨t, rfl⟩ := rx; rfl
    | str _ => obtain ⟨t, rfl⟩ := rx; rfl
    | byt _ => obtain ⟨t, rfl⟩ := rx; rfl
    | flt _ => obtain ⟨t, rfl⟩ := rx; rfl
    | ref _ => cases rx; rfl
    | ty n => exact absurd rfl (hz n)
  by_cases e : x = .bl b
  · subst e
    cases (show v = Value.bool b from rx)
    exact wpAny_isNot_self rfl ⟨.bl false, H, I, rfl, by simpa using q⟩
  · refine wpAny_isNot_other pl (fun z => e ?_) ⟨.bl true, H, I, rfl, by simpa [e] using q⟩
    rw [z] at rx
    exact rx.inj rfl
theorem Rp1.noTy {K : PySem.W.Frag} {W : Addr → Prop} {H : Hp} {v : V} {d : D} (h : Rp1 K W H v d) : ∀ z, v ≠ .ty z := by
  intro z e
  subst e
  rcases h with h | ⟨a, e, h⟩
  · cases h
  · cases e
theorem bIs_ok : BinK g bIs (fun x y H Q => (y = .non ∧ Q (.bl (decide (x = .non))) H) ∨ rIsB1 x y H Q) := by
  intro W H ρ σ ext v u x y z Q S hx hy e d
  unfold bIs at e
  split at e
  · cases e
    refine .inl ⟨hy.non, ?_⟩
    rw [hx.none_iff]
    exact d.fin S (.bl _)
  · cases e
    refine .inr ⟨_, hy.bl, hx.noTy, ?_⟩
    rw [hx.bool_iff]
    exact d.fin S (.bl _)
  · cases e
theorem bIsNot_ok : BinK g bIsNot (fun x y H Q => (y = .non ∧ Q (.bl (!decide (x = .non))) H) ∨ rNotB1 x y H Q) := by
  intro W H ρ σ ext v u x y z Q S hx hy e d
  unfold bIsNot at e
  split at e
  · cases e
    refine .inl ⟨hy.non, ?_⟩
    rw [hx.none_iff]
    exact d.fin S (.bl _)
  · cases e
    refine .inr ⟨_, hy.bl, hx.noTy, ?_⟩
    rw [hx.bool_iff]
    exact d.fin S (.bl _)
  · cases e
theorem op_isD : OpR X (compareOp .Is) (fun x y H Q => (y = .non ∧ Q (.bl (decide (x = .non))) H) ∨ rIsB1 x y H Q) := OpR.or op_isN op_isBl1
theorem op_isNotD : OpR X (compareOp .IsNot) (fun x y H Q => (y = .non ∧ Q (.bl (!decide (x = .non))) H) ∨ rNotB1 x y H Q) := OpR.or op_notN op_notBl1

/-! in: lists, tuples, one sign in a text -/
def inOk (x : D) (ys : List D) : Bool := ndc x && ndcL ys && decide (min (PyData.depthAll ys) x.depth ≤ 64)
def inD (x : D) (ys : List D) : Bool := ys.any fun y => PyData.eqv y x
def sign1 (s : Str) : Option Nat := match s.cps.toList with
  | [c] => some c
  | _ => none
def bInB : D → D → Option Bool
  | x, .list ys => if inOk x ys = true then some (inD x ys) else none
  | x, .tuple ys => if inOk x ys = true then some (inD x ys) else none
  | .str c, .str z => (sign1 c).map fun c => decide (c ∈ z.cps.toList)
  | _, _ => none
def bIn (x y : D) : Option (D × Bool) := (bInB x y).map fun b => (.bool b, false)
def bNotIn (x y : D) : Option (D × Bool) := (bInB x y).map fun b => (.bool (!b), false)
def rInR (K : PySem.W.Frag) : R2 := fun x y H Q => (∃ d ds, Dp K H x d ∧ Dp K H y (.list ds) ∧ d.canLay0 = true ∧ PyData.canLayAll0 ds = true ∧ min (PyData.depthAll ds) d.depth ≤ 64 ∧ Q (.bl (inD d ds)) H) ∨
  (∃ d ds, Dp K H x d ∧ Dp K H y (.tuple ds) ∧ d.canLay0 = true ∧ PyData.canLayAll0 ds = true ∧ min (PyData.depthAll ds) d.depth ≤ 64 ∧ Q (.bl (inD d ds)) H)
def rNotInR (K : PySem.W.Frag) : R2 := fun x y H Q => (∃ d ds, Dp K H x d ∧ Dp K H y (.list ds) ∧ d.canLay0 = true ∧ PyData.canLayAll0 ds = true ∧ min (PyData.depthAll ds) d.depth ≤ 64 ∧ Q (.bl (!inD d ds)) H) ∨
  (∃ d ds, Dp K H x d ∧ Dp K H y (.tuple ds) ∧ d.canLay0 = true ∧ PyData.canLayAll0 ds = true ∧ min (PyData.depthAll ds) d.depth ≤ 64 ∧ Q (.bl (!inD d ds)) H)
theorem op_inR (hu : X.A.units + 66 < cLine) : OpR X (compareOp .In) (rInR X.K) := by
  intro pins s σ H x y v u Q I rx ry h
  rcases h with ⟨d, ds, hd, he, sd, se, hm, q⟩ | ⟨d, ds, hd, he, sd, se, hm, q⟩
  · obtain ⟨as, r1⟩ := Dp.reads I d x v hd rx
    obtain ⟨bs, r2⟩ := Dp.reads I (.list ds) y u he ry
    exact SeqAt.in_list_reads r2 r1 se sd (by omega) ⟨.bl _, H, I, rfl, q⟩
  · obtain ⟨as, r1⟩ := Dp.reads I d x v hd rx
    obtain ⟨bs, r2⟩ := Dp.reads I (.tuple ds) y u he ry
    exact SeqAt.in_tuple_reads r2 r1 se sd (by omega) ⟨.bl _, H, I, rfl, q⟩
theorem op_notInR (hu : X.A.units + 66 < cLine) : OpR X (compareOp .NotIn) (rNotInR X.K) := by
  intro pins s σ H x y v u Q I rx ry h
  rcases h with ⟨d, ds, hd, he, sd, se, hm, q⟩ | ⟨d, ds, hd, he, sd, se, hm, q⟩
  · obtain ⟨as, r1⟩ := Dp.reads I d x v hd rx
    obtain ⟨bs, r2⟩ := Dp.reads I (.list ds) y u he ry
    exact SeqAt.notIn_list_reads r2 r1 se sd (by omega) ⟨.bl _, H, I, rfl, q⟩
  · obtain ⟨as, r1⟩ := Dp.reads I d x v hd rx
    obtain ⟨bs, r2⟩ := Dp.reads I (.tuple ds) y u he ry
    exact SeqAt.notIn_tuple_reads r2 r1 se sd (by omega) ⟨.bl _, H, I, rfl, q⟩
theorem inOk_of {x : D} {ys : List D} (h : inOk x ys = true) : ndc x = true ∧ ndcL ys = true ∧ min (PyData.depthAll ys) x.depth ≤ 64 := by
  unfold inOk at h
  simp only [Bool.and_eq_true, decide_eq_true_eq] at h
  exact ⟨h.1.1, h.1.2, h.2⟩
theorem sign1_of {s : Str} {c : Nat} (h : sign1 s = some c) : s = ⟨#[c]⟩ := by
  unfold sign1 at h
  split at h
  · rename_i c' e
    cases h
    obtain ⟨cps⟩ := s
    have : cps = #[c] := by
      apply Array.ext'
      simpa using e
    rw [this]
  · cases h
def rSgn : R2 := fun x y H Q => ∃ (c : Nat) (z : Str), x = .str ⟨#[c]⟩ ∧ y = .str z ∧ Q (.bl (decide (c ∈ z.cps.toList))) H
def rNSgn : R2 := fun x y H Q => ∃ (c : Nat) (z : Str), x = .str ⟨#[c]⟩ ∧ y = .str z ∧ Q (.bl (!decide (c ∈ z.cps.toList))) H
theorem bIn_ok : BinK g bIn (fun x y H Q => rInR g.K x y H Q ∨ rSgn x y H Q) := by
  intro W H ρ σ ext v u x y z Q S hx hy e d
  unfold bIn at e
  cases e1 : bInB x y with
  | none => rw [e1] at e; cases e
  | some b =>
    rw [e1] at e; cases e
    unfold bInB at e1
    split at e1
    · split at e1
      · rename_i h; cases e1
        obtain ⟨h1, h2, h3⟩ := inOk_of h
        have hy' := hy.dp (by simpa [ndc] using h2)
        exact .inl (.inl ⟨_, _, (hx.dp h1).1, hy'.1, (hx.dp h1).2, by simpa [PyData.canLay0] using hy'.2, h3, d.fin S (.bl _)⟩)
      · cases e1
    · split at e1
      · rename_i h; cases e1
        obtain ⟨h1, h2, h3⟩ := inOk_of h
        have hy' := hy.dp (by simpa [ndc] using h2)
        exact .inl (.inr ⟨_, _, (hx.dp h1).1, hy'.1, (hx.dp h1).2, by simpa [PyData.canLay0] using hy'.2, h3, d.fin S (.bl _)⟩)
      · cases e1
    · rename_i c z
      cases e2 : sign1 c with
      | none => rw [e2] at e1; cases e1
      | some n =>
        rw [e2] at e1; cases e1
        have e3 := sign1_of e2
        subst e3
        exact .inr ⟨n, z, hx.str.1, hy.str.1, d.fin S (.bl _)⟩
    · cases e1
theorem bNotIn_ok : BinK g bNotIn (fun x y H Q => rNotInR g.K x y H Q ∨ rNSgn x y H Q) := by
  intro W H ρ σ ext v u x y z Q S hx hy e d
  unfold bNotIn at e
  cases e1 : bInB x y with
  | none => rw [e1] at e; cases e
  | some b =>
    rw [e1] at e; cases e
    unfold bInB at e1
    split at e1
    · split at e1
      · rename_i h; cases e1
        obtain ⟨h1, h2, h3⟩ := inOk_of h
        have hy' := hy.dp (by simpa [ndc] using h2)
        exact .inl (.inl ⟨_, _, (hx.dp h1).1, hy'.1, (hx.dp h1).2, by simpa [PyData.canLay0] using hy'.2, h3, d.fin S (.bl _)⟩)
      · cases e1
    · split at e1
      · rename_i h; cases e1
        obtain ⟨h1, h2, h3⟩ := inOk_of h
        have hy' := hy.dp (by simpa [ndc] using h2)
        exact .inl (.inr ⟨_, _, (hx.dp h1).1, hy'.1, (hx.dp h1).2, by simpa [PyData.canLay0] using hy'.2, h3, d.fin S (.bl _)⟩)
      · cases e1
    · rename_i c z
      cases e2 : sign1 c with
      | none => rw [e2] at e1; cases e1
      | some n =>
        rw [e2] at e1; cases e1
        have e3 := sign1_of e2
        subst e3
        exact .inr ⟨n, z, hx.str.1, hy.str.1, d.fin S (.bl _)⟩
    · cases e1
theorem op_inAll (hu : X.A.units + 66 < cLine) : OpR X (compareOp .In) (fun x y H Q => rInR X.K x y H Q ∨ rSgn x y H Q) := OpR.or (op_inR hu) op_in_sign
theorem op_notInAll (hu : X.A.units + 66 < cLine) : OpR X (compareOp .NotIn) (fun x y H Q => rNotInR X.K x y H Q ∨ rNSgn x y H Q) := OpR.or (op_notInR hu) op_notIn_sign
end
end PV
namespace PV
open PySem L2 PyProof.Rows

/-! ### dicts whose keys are ints and texts -/
def isK : D → Bool
  | .int _ => true
  | .str _ => true
  | _ => false
def keq : D → D → Bool
  | .int a, .int b => a == b
  | .str a, .str b => decide (a = b)
  | _, _ => false
def dlook (kvs : List (D × D)) (k : D) : Option D := (kvs.find? fun kv => keq kv.1 k).map (·.2)
def dput (kvs : List (D × D)) (k d : D) : List (D × D) := if (kvs.any fun kv => keq kv.1 k) = true then kvs.map (fun kv => if keq kv.1 k = true then (kv.1, d) else kv) else kvs ++ [(k, d)]
def marked : List (D × D) → Bool
  | (.none, _) :: _ => true
  | _ => false
theorem keq_kd (a b : Key) : keq (kd a) (kd b) = decide (a = b) := by
  cases a <;> cases b
  · show (_ == _) = _
    rw [key_ll]
  · exact (decide_eq_false (by intro z; cases z)).symm
  · exact (decide_eq_false (by intro z; cases z)).symm
  · exact (key_rr _ _).symm
theorem isK_kd {d : D} (h : isK d = true) : ∃ k : Key, d = kd k := by
  cases d with
  | int i => exact ⟨.inl i, rfl⟩
  | str s => exact ⟨.inr s, rfl⟩
  | _ => cases h
section
variable {K : PySem.W.Frag} {W : Addr → Prop} {H : Hp}
theorem kV_of {k : Key} {v : V} (h : Rp1 K W H v (kd k)) : v = kV k := by
  cases k with
  | inl i => exact h.int
  | inr s => exact h.str.1
theorem RpK.look : ∀ {ks : List (Key × V)} {kvs : List (D × D)} (k : Key), RpK K W H ks kvs → (valV ks k = none ∧ dlook kvs (kd k) = none) ∨ ∃ v d, valV ks k = some v ∧ dlook kvs (kd k) = some d ∧ Rp K W H v d
  | _, _, k, .nil => .inl ⟨rfl, rfl⟩
  | _, _, k, .cons (k := k') (v := v) (d := d) (ks := ks) (ds := ds) h t => by
    by_cases e : k' = k
    · right
      refine ⟨v, d, valV_pos e, ?_, h⟩
      unfold dlook
      rw [List.find?_cons, show keq (kd k', d).1 (kd k) = true by rw [show (kd k', d).1 = kd k' from rfl, keq_kd, decide_eq_true e]]
      rfl
    · have e2 : dlook ((kd k', d) :: ds) (kd k) = dlook ds (kd k) := by
        unfold dlook
        rw [List.find?_cons, show keq (kd k', d).1 (kd k) = false by rw [show (kd k', d).1 = kd k' from rfl, keq_kd, decide_eq_false e]]
      rw [valV_neg e, e2]
      exact RpK.look k t
theorem RpK.any : ∀ {ks : List (Key × V)} {kvs : List (D × D)} (k : Key), RpK K W H ks kvs → (ks.any fun kv => decide (kv.1 = k)) = (kvs.any fun kv => keq kv.1 (kd k))
  | _, _, k, .nil => rfl
  | _, _, k, .cons (k := k') h t => by
    rw [List.any_cons, List.any_cons, RpK.any k t]
    show (decide (k' = k) || _) = (keq (kd k') (kd k) || _)
    rw [keq_kd]
theorem RpK.put {ks : List (Key × V)} {kvs : List (D × D)} (k : Key) {v : V} {d : D} (h : RpK K W H ks kvs) (r : Rp K W H v d) : RpK K W H (putK ks k v) (dput kvs (kd k) d) := by
  unfold putK dput
  rw [h.any k]
  split
  · have go : ∀ {ks : List (Key × V)} {kvs : List (D × D)}, RpK K W H ks kvs → RpK K W H (ks.map fun kv => if kv.1 = k then (kv.1, v) else kv) (kvs.map fun kv => if keq kv.1 (kd k) = true then (kv.1, d) else kv) := by
      intro ks
      induction ks with
      | nil => intro kvs h; cases h; exact .nil
      | cons p ks ih =>
        intro kvs h
        cases h with
        | @cons k' v' _ d' ds h1 h2 =>
          rw [List.map_cons, List.map_cons]
          by_cases e : k' = k
          · rw [if_pos (show (k', v').1 = k from e), if_pos (show keq (kd k', d').1 (kd k) = true by show keq (kd k') (kd k) = true; rw [keq_kd, decide_eq_true e])]
            exact .cons r (ih h2)
          · rw [if_neg (show ¬ (k', v').1 = k from e), if_neg (show ¬ keq (kd k', d').1 (kd k) = true by show ¬ keq (kd k') (kd k) = true; rw [keq_kd, decide_eq_false e]; decide)]
            exact .cons h1 (ih h2)
    exact go h
  · have go : ∀ {ks : List (Key × V)} {kvs : List (D × D)}, RpK K W H ks kvs → RpK K W H (ks ++ [(k, v)]) (kvs ++ [(kd k, d)]) := by
      intro ks
      induction ks with
      | nil => intro kvs h; cases h; exact .cons r .nil
      | cons p ks ih => intro kvs h; cases h with | cons h1 h2 => exact .cons h1 (ih h2)
    exact go h
theorem RpK.length : ∀ {ks : List (Key × V)} {kvs : List (D × D)}, RpK K W H ks kvs → ks.length = kvs.length
  | _, _, .nil => rfl
  | _, _, .cons _ t => by rw [List.length_cons, List.length_cons, t.length]
theorem Rp1.dic {v : V} {kvs : List (D × D)} (h : Rp1 K W H v (.dict kvs)) (n : marked kvs = false) : ∃ a ks, v = .ref a ∧ Rd H a (.dK ks) ∧ RpK K W H ks kvs := by
  rcases h with h | ⟨a, rfl, h⟩
  · cases h with
    | dcK w r k => exact ⟨_, _, rfl, r, k⟩
    | dcT w r k => cases n
  · rcases h with ⟨ks, e, r⟩ | ⟨ks, kvs', e0, e, r⟩
    · exact ⟨a, ks, rfl, .inl e, r⟩
    · rw [e0] at n; cases n
end
section
variable {X : Cx} {g : Cfg} {Wx : WX} {k : Nat} {T : Mdl} {pos : Pos}
def bInK : D → D → Option Bool
  | x, .dict kvs => if isK x = true ∧ marked kvs = false then some (dlook kvs x).isSome else none
  | _, _ => none
def bInD (x y : D) : Option (D × Bool) := (bInK x y).map fun b => (.bool b, false)
def bNotInD (x y : D) : Option (D × Bool) := (bInK x y).map fun b => (.bool (!b), false)
def rInDc : R2 := fun x y H Q => ∃ a o, y = .ref a ∧ DGet H a x o ∧ Q (.bl o.isSome) H
def rNInDc : R2 := fun x y H Q => ∃ a o, y = .ref a ∧ DGet H a x o ∧ Q (.bl (!o.isSome)) H
theorem op_inDc (hu : X.A.units + 1 < cLine) : OpR X (compareOp .In) rInDc := by
  intro pins s σ H x y v u Q I rx ry ⟨a, o, ey, gg, q⟩
  subst ey
  obtain rfl : u = Value.ref a := ry
  exact d_in hu I gg rx fun s3 I3 => ⟨.bl o.isSome, H, I3, rfl, q⟩
theorem op_notInDc (hu : X.A.units + 1 < cLine) : OpR X (compareOp .NotIn) rNInDc := by
  intro pins s σ H x y v u Q I rx ry ⟨a, o, ey, gg, q⟩
  subst ey
  obtain rfl : u = Value.ref a := ry
  exact d_notIn hu I gg rx fun s3 I3 => ⟨.bl (!o.isSome), H, I3, rfl, q⟩
theorem dget_of {W : Addr → Prop} {H : Hp} {v u : V} {x : D} {kvs : List (D × D)} (hx : Rp1 g.K W H v x) (hk : isK x = true) (hy : Rp1 g.K W H u (.dict kvs)) (n : marked kvs = false) :
    ∃ a o, u = .ref a ∧ DGet H a v o ∧ o.isSome = (dlook kvs x).isSome ∧ ∀ d, dlook kvs x = some d → ∃ w, o = some w ∧ Rp g.K W H w d := by
  obtain ⟨k, rfl⟩ := isK_kd hk
  obtain ⟨a, ks, rfl, r, rk⟩ := hy.dic n
  have e := kV_of hx
  subst e
  refine ⟨a, valV ks k, rfl, .inl ⟨ks, k, r, rfl, rfl⟩, ?_, fun d hd => ?_⟩
  · rcases rk.look k with ⟨h1, h2⟩ | ⟨w, d, h1, h2, _⟩ <;> rw [h1, h2] <;> rfl
  · rcases rk.look k with ⟨h1, h2⟩ | ⟨w, d', h1, h2, h3⟩
    · rw [h2] at hd; cases hd
    · rw [h2] at hd; cases hd
      exact ⟨w, h1, h3⟩
theorem bInD_ok : BinK g bInD rInDc := by
  intro W H ρ σ ext v u x y z Q S hx hy e d
  unfold bInD at e
  cases e1 : bInK x y with
  | none => rw [e1] at e; cases e
  | some b =>
    rw [e1] at e; cases e
    unfold bInK at e1
    split at e1
    · split at e1
      · rename_i h; cases e1
        obtain ⟨a, o, h1, h2, h3, _⟩ := dget_of hx h.1 hy h.2
        exact ⟨a, o, h1, h2, by rw [h3]; exact d.fin S (.bl _)⟩
      · cases e1
    · cases e1
theorem bNotInD_ok : BinK g bNotInD rNInDc := by
  intro W H ρ σ ext v u x y z Q S hx hy e d
  unfold bNotInD at e
  cases e1 : bInK x y with
  | none => rw [e1] at e; cases e
  | some b =>
    rw [e1] at e; cases e
    unfold bInK at e1
    split at e1
    · split at e1
      · rename_i h; cases e1
        obtain ⟨a, o, h1, h2, h3, _⟩ := dget_of hx h.1 hy h.2
        exact ⟨a, o, h1, h2, by rw [h3]; exact d.fin S (.bl _)⟩
      · cases e1
    · cases e1
def bInX (x y : D) : Option (D × Bool) := (bIn x y).or (bInD x y)
def bNotInX (x y : D) : Option (D × Bool) := (bNotIn x y).or (bNotInD x y)
theorem bInX_ok : BinK g bInX (fun x y H Q => (rInR g.K x y H Q ∨ rSgn x y H Q) ∨ rInDc x y H Q) := BinK.orr bIn_ok bInD_ok
theorem bNotInX_ok : BinK g bNotInX (fun x y H Q => (rNotInR g.K x y H Q ∨ rNSgn x y H Q) ∨ rNInDc x y H Q) := BinK.orr bNotIn_ok bNotInD_ok
theorem op_inX (hu : X.A.units + 66 < cLine) : OpR X (compareOp .In) (fun x y H Q => (rInR X.K x y H Q ∨ rSgn x y H Q) ∨ rInDc x y H Q) := OpR.or (op_inAll hu) (op_inDc (by omega))
theorem op_notInX (hu : X.A.units + 66 < cLine) : OpR X (compareOp .NotIn) (fun x y H Q => (rNotInR X.K x y H Q ∨ rNSgn x y H Q) ∨ rNInDc x y H Q) := OpR.or (op_notInAll hu) (op_notInDc (by omega))

/-! ### a[b] -/
def atD (ds : List D) (i : Int) : Option D := (ixN ds.length i).bind fun j => ds[j]?
theorem RpL.atI {K : PySem.W.Frag} {W : Addr → Prop} {H : Hp} {vs : List V} {ds : List D} {i : Int} {d : D} (r : RpL K W H vs ds) (h : atD ds i = some d) : ∃ v, L2.atI vs i = some v ∧ Rp K W H v d := by
  unfold atD at h
  unfold L2.atI
  rw [r.length]
  cases e : ixN ds.length i with
  | none => rw [e] at h; cases h
  | some j => rw [e] at h; exact r.get h
def signAt (z : Str) (i : Int) : Option D := (L2.atI z.cps.toList i).map fun c => .str ⟨#[c]⟩
def bIx : D → D → Option (D × Bool)
  | .list ds, .int i => (atD ds i).map fun d => (d, false)
  | .tuple ds, .int i => (atD ds i).map fun d => (d, false)
  | .str z, .int i => if z.length ≤ 1000000 then (signAt z i).map fun d => (d, false) else none
  | .dict kvs, x => if isK x = true ∧ marked kvs = false then (dlook kvs x).map fun d => (d, false) else none
  | _, _ => none
def rIxD : R2 := fun x y H Q => ∃ a v, x = .ref a ∧ DGet H a y (some v) ∧ Q v H
theorem ix_dict (hu : X.A.units + 1 < cLine) : IxR X rIxD := by
  intro value slice pins s σ H x y v u Q I rx ry ⟨a, w, ex, gg, q⟩ hs
  subst ex
  obtain rfl : v = Value.ref a := rx
  exact tail_any (dict_typeIs I gg) PySem.F.slot_dict_getitem.lookup (d_getItem hu I gg ry fun w' s3 I3 rw' => ⟨w, H, I3, rw', q⟩) hs
theorem strOk_one {z : Str} (h : PyData.strOk z = true) {c : Nat} (hc : c ∈ z.cps.toList) : PyData.strOk ⟨#[c]⟩ = true := by
  unfold PyData.strOk at *
  rw [Array.all_eq_true_iff_forall_mem] at h
  have := h c (by simpa using hc)
  simpa using this
theorem atI_mem {α : Type} {xs : List α} {i : Int} {c : α} (h : L2.atI xs i = some c) : c ∈ xs := by
  unfold L2.atI at h
  cases e : ixN xs.length i with
  | none => rw [e] at h; cases h
  | some j => rw [e] at h; exact List.mem_of_getElem? h
theorem bIx_ok : BinK g bIx (fun x y H Q => rIx g.K x y H Q ∨ rIxD x y H Q) := by
  intro W H ρ σ ext v u x y z Q S hx hy e d
  unfold bIx at e
  split at e
  · rename_i ds i
    cases e1 : atD ds i with
    | none => rw [e1] at e; cases e
    | some w =>
      rw [e1] at e; cases e
      obtain ⟨a, vs, rfl, hq, r⟩ := hx.lst
      obtain ⟨w', h1, h2⟩ := r.atI e1
      exact .inl (.inl ⟨a, vs, i, w', rfl, hy.int, hq, h1, d.fin S h2⟩)
  · rename_i ds i
    cases e1 : atD ds i with
    | none => rw [e1] at e; cases e
    | some w =>
      rw [e1] at e; cases e
      obtain ⟨_, a, vs, rfl, hq, r⟩ := hx.tup
      obtain ⟨w', h1, h2⟩ := r.atI e1
      exact .inl (.inr (.inl ⟨a, vs, i, w', rfl, hy.int, hq, h1, d.fin S h2⟩))
  · rename_i zz i
    split at e
    · rename_i hl
      unfold signAt at e
      cases e1 : L2.atI zz.cps.toList i with
      | none => rw [e1] at e; cases e
      | some c =>
        rw [e1] at e; cases e
        exact .inl (.inr (.inr ⟨zz, i, c, hx.str.1, hy.int, le_line6 hl, e1, d.fin S (.str _ (strOk_one hx.str.2 (atI_mem e1)))⟩))
    · cases e
  · split at e
    · rename_i kvs h
      cases e1 : dlook kvs y with
      | none => rw [e1] at e; cases e
      | some w =>
        rw [e1] at e; cases e
        obtain ⟨a, o, h1, h2, _, h4⟩ := dget_of hy h.1 hx h.2
        obtain ⟨w', h5, h6⟩ := h4 w e1
        exact .inr ⟨a, w', h1, by rw [← h5]; exact h2, d.fin S h6⟩
    · cases e
  · cases e
theorem pd_ix (C : Ctx0 X g T) (hu : X.A.units + 1 < cLine) {a b : Expr} {fa fb : EvA} (ha : PE X a (tA g Wx fa)) (hb : PE X b (tA g Wx fb)) (hs : PlainIx b) : PE X (.Subscript a b pos) (tD g Wx (fBin bIx fa fb)) :=
  PE.imp (pe_ix (r := fun x y H Q => rIx g.K x y H Q ∨ rIxD x y H Q) (by rw [← C.K]; exact IxR.or ix_seq (ix_dict hu)) ha hb hs) fun _ _ _ h => tBin_run bIx_ok h

/-! ### a[lo:hi], a[::-1] -/
abbrev EvO := Rho → Rs (Option AV)
def oPin (v : Option Int) (a : Option AV) : Prop := True
/-- a bound of a slice -/
def tO (g : Cfg) (Wx : WX) (f : Rho → Rs (Option Int)) : TO := fun σ H Q => ∃ W ρ ext, StR g W H ρ σ ext ∧ match f ρ with
  | .ok o ρ' => ∀ W' H', StR g W' H' ρ' σ ext → Q o H'
  | .ex c x ρ' => exW g Wx σ ext c x ρ'
  | .no => False
def fO0 : Rho → Rs (Option Int) := fun ρ => .ok none ρ
def fO1 (fa : EvA) : Rho → Rs (Option Int) := fun ρ => (fa ρ).bind fun a ρ1 => match a.ct ρ1 with
  | some (.int i) => .ok (some i) ρ1
  | _ => .no
theorem PO.imp {e : Option Expr} {t t' : TO} (h : PO X e t) (i : ∀ σ H Q, t' σ H Q → t σ H Q) : PO X e t' := by
  obtain ⟨run⟩ := h
  exact ⟨fun pins s σ H Q I hq => run pins s σ H Q I (i σ H Q hq)⟩
theorem po_none_d : PO X none (tO g Wx fO0) := PO.imp po_none fun σ H Q h => by
  obtain ⟨W, ρ, ext, S, h⟩ := h
  exact h W H S
theorem po_some_d {e : Expr} {fa : EvA} (h : PE X e (tA g Wx fa)) : PO X (some e) (tO g Wx (fO1 fa)) := PO.imp (po_some h) fun σ H Q h => by
  obtain ⟨W, ρ, ext, S, h⟩ := h
  refine ⟨W, ρ, ext, S, ?_⟩
  unfold fO1 at h
  cases e1 : fa ρ with
  | no => rw [e1] at h; exact h
  | ex c x ρ' => rw [e1] at h; exact h
  | ok a ρ1 =>
    rw [e1] at h
    intro W1 v H1 S1 r1
    dsimp only [Rs.bind] at h
    split at h
    · rename_i o ρ' e
      split at e
      · rename_i i e2
        cases e
        have z := S1.av (fun p hp => List.mem_append_left _ hp) r1 e2
        exact ⟨i, z.int, h W1 H1 (S1.sub (List.sublist_append_right _ _))⟩
      · cases e
    · rename_i e; split at e <;> cases e
    · exact h.elim
def cutD (ds : List D) (lo hi : Option Int) : List D := (ds.drop (HT.sIx ds.length 0 lo)).take (HT.sIx ds.length ds.length hi - HT.sIx ds.length 0 lo)
def sSl : D → Option Int → Option Int → Option (D × Bool)
  | .list ds, lo, hi => some (.list (cutD ds lo hi), true)
  | .tuple ds, lo, hi => some (.tuple (cutD ds lo hi), false)
  | .str z, lo, hi => if z.length ≤ 1000000 then some (.str (cutS z lo hi), false) else none
  | _, _, _ => none
def fSl (fa : EvA) (fl fh : Rho → Rs (Option Int)) : Ev := fun ρ => (fa ρ).bind fun a ρ1 => (fl ρ1).bind fun lo ρ2 => (fh ρ2).bind fun hi ρ3 => match a.ct ρ3 with
  | some d => (match sSl d lo hi with | some z => .ok z ρ3 | none => .no)
  | none => .no
theorem RpL.cut {K : PySem.W.Frag} {W : Addr → Prop} {H : Hp} {vs : List V} {ds : List D} (r : RpL K W H vs ds) (lo hi : Option Int) : RpL K W H (cutV vs lo hi) (cutD ds lo hi) := by
  unfold cutV cutD
  rw [r.length]
  exact (r.drop _).take _
theorem strOk_cut {z : Str} (h : PyData.strOk z = true) (lo hi : Option Int) : PyData.strOk (cutS z lo hi) = true := by
  unfold PyData.strOk at *
  rw [Array.all_eq_true_iff_forall_mem] at h ⊢
  intro c hc
  unfold cutS at hc
  have hc' : c ∈ z.cps.toList := List.mem_of_mem_drop (List.mem_of_mem_take (by simpa using hc))
  exact h c (by simpa using hc')
theorem pd_slice (C : Ctx0 X g T) {a : Expr} {lo hi : Option Expr} {fa : EvA} {fl fh : Rho → Rs (Option Int)} {p2 : Pos} (ha : PE X a (tA g Wx fa)) (hl : PO X lo (tO g Wx fl)) (hh : PO X hi (tO g Wx fh)) :
    PE X (.Subscript a (.Slice lo hi none p2) pos) (tD g Wx (fSl fa fl fh)) := by
  refine PE.imp (pe_slice (r := fun x lo hi H Q => (rSlL g.K x lo hi H Q ∨ rSlA g.K x lo hi H Q) ∨ rSlS x lo hi H Q) (by rw [← C.K]; exact SlR.or (SlR.or sl_list sl_tupA) sl_str) ha hl hh) fun σ H Q h => ?_
  obtain ⟨W, ρ, ext, S, h⟩ := h
  refine ⟨W, ρ, ext, S, ?_⟩
  unfold fSl at h
  cases e1 : fa ρ with
  | no => rw [e1] at h; exact h
  | ex c x ρ' => rw [e1] at h; exact h
  | ok a ρ1 =>
    rw [e1] at h
    intro W1 v H1 S1 r1
    dsimp only [Rs.bind] at h
    refine ⟨W1, ρ1, _, S1, ?_⟩
    cases e2 : fl ρ1 with
    | no => rw [e2] at h; exact h
    | ex c x ρ' => rw [e2] at h; exact exW.ext h (List.sublist_append_right _ _)
    | ok lo ρ2 =>
      rw [e2] at h
      intro W2 H2 S2
      dsimp only at h
      refine ⟨W2, ρ2, _, S2, ?_⟩
      cases e3 : fh ρ2 with
      | no => rw [e3] at h; exact h
      | ex c x ρ' => rw [e3] at h; exact exW.ext h (List.sublist_append_right _ _)
      | ok hi ρ3 =>
        rw [e3] at h
        intro W3 H3 S3
        dsimp only at h
        cases e4 : a.ct ρ3 with
        | none => rw [e4] at h; exact h.elim
        | some dd =>
          rw [e4] at h
          dsimp only at h
          cases e5 : sSl dd lo hi with
          | none => rw [e5] at h; exact h.elim
          | some z =>
            rw [e5] at h
            have d : Del g ρ3 σ (avPin v a ++ ext) z Q := Del.drop (g := g) h
            have rv := S3.av (fun p hp => List.mem_append_left _ hp) r1 e4
            unfold sSl at e5
            split at e5
            · cases e5
              obtain ⟨b, vs, rfl, hq, r⟩ := rv.lst
              exact .inl (.inl ⟨b, vs, rfl, hq, fun p hp => d _ _ _ (S3.lst C.gP (r.cut _ _) hp)⟩)
            · rename_i ds
              cases e5
              obtain ⟨rt, b, vs, rfl, hq, r⟩ := rv.tup
              refine .inl (.inr ⟨b, vs, rfl, hq, fun hw => ?_, fun _ p hp => d _ _ _ (S3.tup (r.cut _ _) hp)⟩)
              have hc : cutD ds lo hi = ds := by
                unfold cutD
                rw [r.length] at hw
                rw [hw.1, hw.2]
                simp
              rw [hc] at d
              exact d.fin S3 rt
            · split at e5
              · rename_i hl; cases e5
                exact .inr ⟨_, rv.str.1, le_line6 hl, d.fin S3 (.str _ (strOk_cut rv.str.2 _ _))⟩
              · cases e5
            · cases e5
def fRevL (fa : EvA) : Ev := fun ρ => (fa ρ).bind fun a ρ1 => match a.ct ρ1 with
  | some (.list ds) => .ok (.list ds.reverse, true) ρ1
  | _ => .no
theorem pd_revL (C : Ctx0 X g T) {e : Expr} {fa : EvA} {kk : Nat} {p1 p2 p3 : Pos} (ha : PE X e (tA g Wx fa)) : PE X (.Subscript e (.Slice none none (some (.UnaryOp .USub (.Constant (.int 1) kk p1) p2)) p3) pos) (tD g Wx (fRevL fa)) := by
  refine PE.imp (pe_revL ha) fun σ H Q h => ?_
  obtain ⟨W, ρ, ext, S, h⟩ := h
  refine ⟨W, ρ, ext, S, ?_⟩
  unfold fRevL at h
  cases e1 : fa ρ with
  | no => rw [e1] at h; exact h
  | ex c x ρ' => rw [e1] at h; exact h
  | ok a ρ1 =>
    rw [e1] at h
    intro W1 v H1 S1 r1
    dsimp only [Rs.bind] at h
    split at h
    · rename_i r ρ' e
      split at e
      · rename_i ds e2
        cases e
        obtain ⟨b, vs, rfl, hq, rl⟩ := (S1.av (fun p hp => List.mem_append_left _ hp) r1 e2).lst
        rw [C.K]
        exact ⟨b, vs, rfl, hq, fun p hp => h _ _ _ ((S1.lst C.gP rl.reverse hp).sub (List.cons_sublist_cons.mpr (List.sublist_append_right _ _)))⟩
      · cases e
    · rename_i e; split at e <;> cases e
    · exact h.elim

/-! ### built-in functions -/
theorem CallK.orr {k1 k2 : List D → Option (D × Bool)} {r1 r2 : List V → Hp → VK → Prop} (h1 : CallK g k1 r1) (h2 : CallK g k2 r2) : CallK g (fun x => (k1 x).or (k2 x)) (fun x H Q => r1 x H Q ∨ r2 x H Q) := by
  intro W H ρ σ ext vs ds z Q S hx e d
  dsimp only at e
  cases e1 : k1 ds with
  | some z1 => rw [e1] at e; cases e; exact .inl (h1 W H ρ σ ext vs ds _ Q S hx e1 d)
  | none => rw [e1] at e; exact .inr (h2 W H ρ σ ext vs ds _ Q S hx e d)
theorem Rp1s.one {K : PySem.W.Frag} {W : Addr → Prop} {H : Hp} {vs : List V} {d : D} (h : Rp1s K W H vs [d]) : ∃ v, vs = [v] ∧ Rp1 K W H v d := by
  cases h with
  | cons h1 h2 => cases h2; exact ⟨_, rfl, h1⟩
theorem Rp1s.two {K : PySem.W.Frag} {W : Addr → Prop} {H : Hp} {vs : List V} {d e : D} (h : Rp1s K W H vs [d, e]) : ∃ v u, vs = [v, u] ∧ Rp1 K W H v d ∧ Rp1 K W H u e := by
  cases h with
  | cons h1 h2 =>
    obtain ⟨u, rfl, h3⟩ := h2.one
    exact ⟨_, u, rfl, h1, h3⟩
def cLen : List D → Option (D × Bool)
  | [.list ds] => some (.int ds.length, false)
  | [.tuple ds] => some (.int ds.length, false)
  | [.str z] => if z.length ≤ 1000000 then some (.int z.length, false) else none
  | [.dict kvs] => if marked kvs = false then some (.int kvs.length, false) else none
  | _ => none
def rLenR (K : PySem.W.Frag) : List V → Hp → VK → Prop := fun xs H Q => (∃ x n, xs = [x] ∧ LenV K x H n ∧ Q (.int n) H) ∨ ∃ a kvs, xs = [.ref a] ∧ Rd H a (.dK kvs) ∧ Q (.int kvs.length) H
theorem call_lenR : CallR X (.builtin "len") (rLenR X.K) := CallR.or call_len (by
  intro pins s σ H xs us Q I r ⟨a, kvs, ex, e, q⟩
  subst ex
  obtain ⟨u, rfl, ru⟩ := vals1 r
  cases ru
  exact d_len I e fun t s' I' => ⟨.int kvs.length, H, I', ⟨t, rfl⟩, q⟩)
theorem cLen_ok : CallK g cLen (rLenR g.K) := by
  intro W H ρ σ ext vs ds z Q S hx e d
  unfold cLen at e
  split at e
  · cases e
    obtain ⟨v, rfl, h⟩ := hx.one
    obtain ⟨a, us, rfl, hq, r⟩ := h.lst
    exact .inl ⟨_, us.length, rfl, .inl ⟨us, hq, rfl⟩, by rw [r.length]; exact d.fin S (.int _)⟩
  · cases e
    obtain ⟨v, rfl, h⟩ := hx.one
    obtain ⟨_, a, us, rfl, hq, r⟩ := h.tup
    exact .inl ⟨_, us.length, rfl, .inr ⟨us, hq, rfl⟩, by rw [r.length]; exact d.fin S (.int _)⟩
  · split at e
    · rename_i hl
      cases e
      obtain ⟨v, rfl, h⟩ := hx.one
      have hv := h.str.1
      subst hv
      exact .inl ⟨_, _, rfl, ⟨le_line6 hl, rfl⟩, d.fin S (.int _)⟩
    · cases e
  · split at e
    · rename_i hm
      cases e
      obtain ⟨v, rfl, h⟩ := hx.one
      obtain ⟨a, ks, rfl, hq, r⟩ := h.dic hm
      exact .inr ⟨a, ks, rfl, hq, by rw [r.length]; exact d.fin S (.int _)⟩
    · cases e
  · cases e
def cTuple : List D → Option (D × Bool)
  | [.list ds] => some (.tuple ds, false)
  | [.tuple ds] => some (.tuple ds, false)
  | _ => none
def rTupleR (K : PySem.W.Frag) : List V → Hp → VK → Prop := fun xs H Q => ∃ p ys, xs = [.ref p] ∧ ((SqL K H p ys ∧ ∀ l, H l = none → Q (.ref l) (upd H l (.tup ys))) ∨ (SqT K H p ys ∧ Q (.ref p) H))
theorem cTuple_ok : CallK g cTuple (rTupleR g.K) := by
  intro W H ρ σ ext vs ds z Q S hx e d
  unfold cTuple at e
  split at e
  · cases e
    obtain ⟨v, rfl, h⟩ := hx.one
    obtain ⟨a, us, rfl, hq, r⟩ := h.lst
    exact ⟨a, us, rfl, .inl ⟨hq, fun l hl => d _ _ _ (S.tup r hl)⟩⟩
  · cases e
    obtain ⟨v, rfl, h⟩ := hx.one
    obtain ⟨rt, a, us, rfl, hq, r⟩ := h.tup
    exact ⟨a, us, rfl, .inr ⟨hq, d.fin S rt⟩⟩
  · cases e
def cList : List D → Option (D × Bool)
  | [.list ds] => some (.list ds, true)
  | [.tuple ds] => some (.list ds, true)
  | _ => none
def rListR (K : PySem.W.Frag) : List V → Hp → VK → Prop := fun xs H Q => ∃ p ys, xs = [.ref p] ∧ (SqL K H p ys ∨ SqT K H p ys) ∧ ∀ l, H l = none → Q (.ref l) (upd H l (.lst ys))
theorem cList_ok (hP : ∀ a, g.P a → g.H0 a ≠ none) : CallK g cList (rListR g.K) := by
  intro W H ρ σ ext vs ds z Q S hx e d
  unfold cList at e
  split at e
  · cases e
    obtain ⟨v, rfl, h⟩ := hx.one
    obtain ⟨a, us, rfl, hq, r⟩ := h.lst
    exact ⟨a, us, rfl, .inl hq, fun l hl => d _ _ _ (S.lst hP r hl)⟩
  · cases e
    obtain ⟨v, rfl, h⟩ := hx.one
    obtain ⟨rt, a, us, rfl, hq, r⟩ := h.tup
    exact ⟨a, us, rfl, .inr hq, fun l hl => d _ _ _ (S.lst hP r hl)⟩
  · cases e
def cInt : List D → Option (D × Bool)
  | [.int i] => some (.int i, false)
  | [.bool b] => some (.int (if b then 1 else 0), false)
  | _ => none
def rIntR : List V → Hp → VK → Prop := fun xs H Q => (∃ i, xs = [.int i] ∧ Q (.int i) H) ∨ ∃ k, xs = [.bl k] ∧ Q (.int (if k then 1 else 0)) H
theorem cInt_ok : CallK g cInt rIntR := by
  intro W H ρ σ ext vs ds z Q S hx e d
  unfold cInt at e
  split at e
  · cases e
    obtain ⟨v, rfl, h⟩ := hx.one
    have hv := h.int
    subst hv
    exact .inl ⟨_, rfl, d.fin S (.int _)⟩
  · cases e
    obtain ⟨v, rfl, h⟩ := hx.one
    have hv := h.bl
    subst hv
    exact .inr ⟨_, rfl, d.fin S (.int _)⟩
  · cases e
def cStr : List D → Option (D × Bool)
  | [.int i] => if i.natAbs.log2 < 1920 then some (.str (toString i), false) else none
  | _ => none
def rStrR : List V → Hp → VK → Prop := fun xs H Q => ∃ i, xs = [.int i] ∧ i.natAbs.log2 < 1920 ∧ Q (.str (toString i)) H
theorem strOk_of (s : String) : PyData.strOk (Str.ofString s) = true := by
  unfold PyData.strOk
  rw [Str.ofString_eq_toList, Array.all_eq_true_iff_forall_mem]
  intro c hc
  obtain ⟨ch, _, rfl⟩ := List.mem_map.mp (by simpa using hc)
  have h := ch.valid
  simp only [UInt32.isValidChar, Nat.isValidChar] at h
  have : ch.toNat = ch.val.toNat := rfl
  rw [this]
  exact decide_eq_true (by omega)
theorem cStr_ok : CallK g cStr rStrR := by
  intro W H ρ σ ext vs ds z Q S hx e d
  unfold cStr at e
  split at e
  · split at e
    · rename_i hl
      cases e
      obtain ⟨v, rfl, h⟩ := hx.one
      have hv := h.int
      subst hv
      exact ⟨_, rfl, hl, d.fin S (.str _ (strOk_of _))⟩
    · cases e
  · cases e
/-- a list of bools -/
def blsD : List D → Option (List Bool)
  | [] => some []
  | .bool b :: ds => (blsD ds).map (b :: ·)
  | _ :: _ => none
theorem bls_vs {K : PySem.W.Frag} {W : Addr → Prop} {H : Hp} : ∀ {ds : List D} {vs : List V} {bs : List Bool}, RpL K W H vs ds → blsD ds = some bs → vs = bs.map V.bl
  | [], _, _, r, h => by cases r; cases h; rfl
  | .bool b :: ds, _, bs, r, h => by
    cases r with
    | cons h1 h2 =>
      unfold blsD at h
      cases e : blsD ds with
      | none => rw [e] at h; cases h
      | some bs' =>
        rw [e] at h; cases h
        cases h1
        rw [bls_vs h2 e]; rfl
  | .none :: _, _, _, _, h => by cases h
  | .int _ :: _, _, _, _, h => by cases h
  | .str _ :: _, _, _, _, h => by cases h
  | .list _ :: _, _, _, _, h => by cases h
  | .tuple _ :: _, _, _, _, h => by cases h
  | .dict _ :: _, _, _, _, h => by cases h
def cAll : List D → Option (D × Bool)
  | [.list ds] => (blsD ds).map fun bs => (.bool (bs.all id), false)
  | _ => none
def cAny : List D → Option (D × Bool)
  | [.list ds] => (blsD ds).map fun bs => (.bool (bs.any id), false)
  | _ => none
theorem cAll_ok : CallK g cAll (rAll g.K) := by
  intro W H ρ σ ext vs ds z Q S hx e d
  unfold cAll at e
  split at e
  · rename_i ds
    cases e1 : blsD ds with
    | none => rw [e1] at e; cases e
    | some bs =>
      rw [e1] at e; cases e
      obtain ⟨v, rfl, h⟩ := hx.one
      obtain ⟨a, us, rfl, hq, r⟩ := h.lst
      rw [bls_vs r e1] at hq
      exact ⟨a, bs, rfl, hq, d.fin S (.bl _)⟩
  · cases e
theorem cAny_ok : CallK g cAny (rAny g.K) := by
  intro W H ρ σ ext vs ds z Q S hx e d
  unfold cAny at e
  split at e
  · rename_i ds
    cases e1 : blsD ds with
    | none => rw [e1] at e; cases e
    | some bs =>
      rw [e1] at e; cases e
      obtain ⟨v, rfl, h⟩ := hx.one
      obtain ⟨a, us, rfl, hq, r⟩ := h.lst
      rw [bls_vs r e1] at hq
      exact ⟨a, bs, rfl, hq, d.fin S (.bl _)⟩
  · cases e
end
end PV
namespace PV
open PySem L2 PyProof.Rows

/-! ### isinstance -/
inductive IK
  | int | bool | str | tuple | list | dict
def IK.nm : IK → String
  | .int => "int" | .bool => "bool" | .str => "str" | .tuple => "tuple" | .list => "list" | .dict => "dict"
def isiD : IK → D → Bool
  | .int, .int _ => true
  | .int, .bool _ => true
  | .bool, .bool _ => true
  | .str, .str _ => true
  | .tuple, .tuple _ => true
  | .list, .list _ => true
  | .dict, .dict _ => true
  | _, _ => false
def tyN : D → String
  | .none => "NoneType"
  | .bool _ => "bool"
  | .int _ => "int"
  | .str _ => "str"
  | .list _ => "list"
  | .tuple _ => "tuple"
  | .dict _ => "dict"
theorem kitB_ok (k : IK) (d : D) : kitB (tyN d) k.nm = some (isiD k d) := by
  cases k <;> cases d <;> (simp only [tyN, isiD, IK.nm]; decide +kernel)
theorem Rp1.ty {K : PySem.W.Frag} {W : Addr → Prop} {H : Hp} {v : V} {d : D} (h : Rp1 K W H v d) : TyX K H v (.type (tyN d)) := by
  rcases h with h | ⟨a, rfl, h⟩
  · cases h with
    | non => exact .base .non
    | bl b => exact .base (.bl b)
    | int i => exact .base (.int i)
    | str x ok => exact .base (.str x)
    | lst hs ha =>
      rcases hs with ⟨_, r⟩ | ⟨o, its, n, e, c, _⟩
      · rcases r with r | ⟨o, r⟩
        · exact .base (.lst r)
        · exact .base (.frz r)
      · exact .kList e c
    | tup hs ha =>
      rcases hs with ⟨_, r⟩ | ⟨o, its, n, e, c, _⟩
      · rcases r with r | ⟨o, r⟩
        · exact .base (.tup r)
        · exact .fTuple r
      · exact .kTuple e c
    | dcK _ r _ =>
      rcases r with r | ⟨o, r⟩
      · exact .base (.dK r)
      · exact .fDict r
    | dcT _ r _ => exact .base (.dT r)
  · cases d with
    | list ds => obtain ⟨vs, e, _⟩ := h; exact .base (.lst e)
    | dict kvs =>
      rcases h with ⟨ks, e, _⟩ | ⟨ks, kvs', _, e, _⟩
      · exact .base (.dK e)
      · exact .base (.dT e)
    | _ => exact h.elim
section
variable {X : Cx} {g : Cfg} {Wx : WX} {k : Nat} {T : Mdl} {pos : Pos}
def fIsi (q : IK) (fa : EvA) : Ev := fun ρ => (fa ρ).bind fun a ρ1 => match a.ct ρ1 with
  | some d => .ok (.bool (isiD q d), false) ρ1
  | none => .no
theorem IK.boot (q : IK) : bootBuiltins (Str.ofString q.nm) = some (.type q.nm) := by cases q <;> decide +kernel
theorem IK.nameNe (q : IK) : Str.ofString q.nm ≠ "__name__" := by cases q <;> decide
theorem IK.dbg (q : IK) : (Str.ofString q.nm == ("__debug__" : Str)) = false := by cases q <;> decide
theorem pd_isi (C : Ctx0 X g T) (q : IK) {e : Expr} {fa : EvA} {p p2 : Pos} (hg : Gl X "isinstance") (hg2 : Gl X (Str.ofString q.nm)) (hm : X.mg (Str.ofString q.nm) = none) (ha : PE X e (tA g Wx fa))
    (he : starEach [e, .Name (Str.ofString q.nm) p2] X.env = (false, eval e X.env) :: starEach [.Name (Str.ofString q.nm) p2] X.env) (hpl : (backTo pos (starEach [.Name (Str.ofString q.nm) p2] X.env)).any (·.1) = false) :
    PE X (.Call (.Name "isinstance" p) [e, .Name (Str.ofString q.nm) p2] [] pos) (tD g Wx (fIsi q fa)) := by
  refine PE.imp (pe_callB call_isi hg (C.bm _ (by decide)) (by decide +kernel) (pa_cons ha (pa_cons (pe_bltn (v := .ty q.nm) hg2 hm q.boot rfl q.nameNe q.dbg) pa_nil (by rfl)) he) (by decide) (by decide) he hpl) fun σ H Q h => ?_
  obtain ⟨W, ρ, ext, S, h⟩ := h
  refine ⟨W, ρ, ext, S, ?_⟩
  unfold fIsi at h
  cases e1 : fa ρ with
  | no => rw [e1] at h; exact h
  | ex c x ρ' => rw [e1] at h; exact h
  | ok a ρ1 =>
    rw [e1] at h
    intro W1 v H1 S1 r1
    dsimp only [Rs.bind] at h
    cases e2 : a.ct ρ1 with
    | none => rw [e2] at h; exact h.elim
    | some d =>
      rw [e2] at h
      have rv := S1.av (fun p hp => List.mem_append_left _ hp) r1 e2
      have h' : okW g σ ext (.bool (isiD q d), false) ρ1 Q := h
      refine ⟨v, .ty q.nm, _, _, isiD q d, rfl, .ty _, by rw [C.K]; exact rv.ty, kit_ty (kitB_ok q d), ?_⟩
      exact h' _ _ _ ((S1.sub (List.sublist_append_right _ _)).note (.bl _))

/-! ### -a -/
def fNeg (fa : EvA) : Ev := fun ρ => (fa ρ).bind fun a ρ1 => match a.ct ρ1 with
  | some (.int i) => .ok (.int (-i), false) ρ1
  | _ => .no
theorem pd_neg {e : Expr} {fa : EvA} (ha : PE X e (tA g Wx fa)) : PE X (.UnaryOp .USub e pos) (tD g Wx (fNeg fa)) := PE.imp (pe_un un_neg ha) fun σ H Q h => by
  obtain ⟨W, ρ, ext, S, h⟩ := h
  refine ⟨W, ρ, ext, S, ?_⟩
  unfold fNeg at h
  cases e1 : fa ρ with
  | no => rw [e1] at h; exact h
  | ex c x ρ' => rw [e1] at h; exact h
  | ok a ρ1 =>
    rw [e1] at h
    intro W1 v H1 S1 r1
    dsimp only [Rs.bind] at h
    split at h
    · rename_i r ρ' e
      split at e
      · rename_i i e2
        cases e
        have rv := (S1.av (fun p hp => List.mem_append_left _ hp) r1 e2).int
        exact ⟨i, rv, h _ _ _ ((S1.sub (List.sublist_append_right _ _)).note (.int _))⟩
      · cases e
    · rename_i e; split at e <;> cases e
    · exact h.elim

/-! ### {} -/
def fDicK : Ev := fun ρ => .ok (.dict [], true) ρ
def fDicT : Ev := fun ρ => .ok (.dict [(.none, .none)], true) ρ
theorem pd_dicK (C : Ctx0 X g T) : PE X (.Dict [] [] pos) (tD g Wx fDicK) := PE.imp pe_dnewK fun σ H Q h p hp => by
  obtain ⟨W, ρ, ext, S, h⟩ := h
  exact h _ _ _ (S.fresh (grow_upd hp) hp C.gP (.inl ⟨[], upd_same, .nil⟩))
theorem pd_dicT (C : Ctx0 X g T) : PE X (.Dict [] [] pos) (tD g Wx fDicT) := PE.imp pe_dnewT fun σ H Q h p hp => by
  obtain ⟨W, ρ, ext, S, h⟩ := h
  exact h _ _ _ (S.fresh (grow_upd hp) hp C.gP (.inr ⟨[], [], rfl, upd_same, .nil⟩))

/-! ### x[i] = e -/
def dcAt (ρ : Rho) (i : Nat) : Option (List (D × D)) := match ρ[i]? with
  | some (.own (.dict ds)) => some ds
  | some (.io (.dict ds)) => some ds
  | _ => none
theorem StR.dc {W : Addr → Prop} {H : Hp} {ρ : Rho} {σ : L2.St} {ext : List Pin} {i : Nat} {kvs : List (D × D)} (S : StR g W H ρ σ ext) (h : dcAt ρ i = some kvs) :
    ∃ a, σ[i]? = some (some (V.ref a)) ∧ W a ∧ RpO g.K W H a (.dict kvs) ∧ ∀ d' H', (∀ b u, b ≠ a → H b = some u → H' b = some u) → RpO g.K W H' a d' → StR g W H' (reOwn ρ i d') σ ext := by
  unfold dcAt at h
  split at h
  · rename_i ds' e
    cases h
    obtain ⟨a, e1, w, np, r⟩ := S.own i _ _ e rfl
    refine ⟨a, e1, w, r, fun d' H' k r' => ?_⟩
    unfold reOwn
    rw [e]
    exact S.put e rfl e1 (.own d') rfl (fun _ z => by cases z) k r'
  · rename_i ds' e
    cases h
    obtain ⟨a, e1, w, np, r⟩ := S.own i _ _ e rfl
    refine ⟨a, e1, w, r, fun d' H' k r' => ?_⟩
    unfold reOwn
    rw [e]
    exact S.put e rfl e1 (.io d') rfl (fun _ _ => ⟨_, rfl⟩) k r'
  · cases h
def putAt (i : Nat) (d key : D) (ρ : Rho) : Fl := match lsAt ρ i, dcAt ρ i with
  | some ds, _ => (match key with
    | .int n => (match ixN ds.length n with
      | some m => .nx (reOwn ρ i (.list (ds.set m d)))
      | none => .no)
    | _ => .no)
  | none, some kvs => if isK key = true ∧ marked kvs = false ∧ kvs.length < 1000000 then .nx (reOwn ρ i (.dict (dput kvs key d))) else .no
  | none, none => .no
def fPut (i : Nat) (f : Ev) (fj : EvA) : Es := fun ρ => (f ρ).fl fun r ρ1 => match slCt ρ1 i with
  | some _ => (fj ρ1).fl fun j ρ2 => (match j.ct ρ2 with
    | some key => putAt i r.1 key ρ2
    | none => .no)
  | none => .no
theorem marked_put {kvs : List (D × D)} {k d : D} (hk : isK k = true) (hm : marked kvs = false) : marked (dput kvs k d) = false := by
  unfold dput
  split
  · cases kvs with
    | nil => rfl
    | cons p r =>
      obtain ⟨a, b⟩ := p
      rw [List.map_cons]
      split
      · cases a <;> first | rfl | (cases hm)
      · cases a <;> first | rfl | (cases hm)
  · cases kvs with
    | nil => cases k <;> first | rfl | cases hk
    | cons p r =>
      obtain ⟨a, b⟩ := p
      cases a <;> first | rfl | (cases hm)
/-- a store into what the slot i holds -/
theorem put_list {W : Addr → Prop} {H : Hp} {ρ : Rho} {σ : L2.St} {ext : List Pin} {i : Nat} {v y x : V} {d key : D} {D' : Ends} {ds : List D} (S : StR g W H ρ σ ext) (rv : Rp g.K W H v d) (ry : Rp1 g.K W H y key) (hx : σ[i]? = some (some x)) (e1 : lsAt ρ i = some ds) (h : flW g Wx ext D' (putAt i d key ρ)) :
    rSetL x y v H fun H' => D'.nx σ H' := by
  unfold putAt at h
  rw [e1] at h
  dsimp only at h
  cases key with
  | int n =>
    dsimp only at h
    cases e2 : ixN ds.length n with
    | none => rw [e2] at h; exact h.elim
    | some m =>
      rw [e2] at h
      obtain ⟨a, vs, h1, h2, h3, h4, h5⟩ := S.ls e1
      rw [hx] at h1; cases h1
      have tr : Tr W W H (upd H a (.lst (vs.set m v))) := fun b o hn ho => ⟨hn, by rw [upd_ne (fun z => hn (by rw [z]; exact h3))]; exact ho⟩
      exact ⟨a, vs, n, m, rfl, ry.int, h2, by rw [h4.length]; exact e2, h _ _ _ (h5 _ _ (fun b u hb hu => by rw [upd_ne hb]; exact hu) ⟨_, upd_same, (RpL.tr tr _ h4).set m (Rp.tr tr _ rv)⟩)⟩
  | _ => exact h.elim
theorem put_dict {W : Addr → Prop} {H : Hp} {ρ : Rho} {σ : L2.St} {ext : List Pin} {i : Nat} {v y x : V} {d key : D} {D' : Ends} (S : StR g W H ρ σ ext) (rv : Rp g.K W H v d) (ry : Rp1 g.K W H y key) (hx : σ[i]? = some (some x)) (e1 : lsAt ρ i = none) (h : flW g Wx ext D' (putAt i d key ρ)) :
    ∃ a H', x = .ref a ∧ DPut H a y v H' ∧ D'.nx σ H' := by
  unfold putAt at h
  rw [e1] at h
  cases e2 : dcAt ρ i with
  | none => rw [e2] at h; exact h.elim
  | some kvs =>
    rw [e2] at h
    dsimp only at h
    split at h
    · rename_i hc
      obtain ⟨hk, hm, hl⟩ := hc
      obtain ⟨a, h1, h3, h4, h5⟩ := S.dc e2
      rw [hx] at h1; cases h1
      rcases h4 with ⟨ks, e, r⟩ | ⟨ks, kvs', e0, e, r⟩
      · obtain ⟨q, rfl⟩ := isK_kd hk
        have hy := kV_of ry
        subst hy
        have tr : Tr W W H (upd H a (.dK (putK ks q v))) := fun b o hn ho => ⟨hn, by rw [upd_ne (fun z => hn (by rw [z]; exact h3))]; exact ho⟩
        exact ⟨a, _, rfl, DPut.k e (le_line (by rw [r.length]; exact hl)), h _ _ _ (h5 _ _ (fun b u hb hu => by rw [upd_ne hb]; exact hu) (.inl ⟨_, upd_same, (RpK.tr tr _ r).put q (Rp.tr tr _ rv)⟩))⟩
      · rw [e0] at hm; cases hm
    · exact h.elim
theorem put_pre {W : Addr → Prop} {H : Hp} {ρ : Rho} {σ : L2.St} {ext : List Pin} {i : Nat} {f : Ev} {fj : EvA} {D : Ends} {R : V → V → V → Hp → Prop} (hM : ∀ a, g.M a → g.P a) (S : StR g W H ρ σ ext) (h : flW g Wx ext D (fPut i f fj ρ))
    (hR : ∀ d t ρ1 j ρ2 key, f ρ = .ok (d, t) ρ1 → fj ρ1 = .ok j ρ2 → flW g Wx ext D (putAt i d key ρ2) → ∀ W H ext' v y x, StR g W H ρ2 σ ext' → ext.Sublist ext' → Rp g.K W H v d → Rp1 g.K W H y key → σ[i]? = some (some x) → R x y v H) :
    tD g Wx f σ H fun v H1 => tVar i σ H1 fun x H2 => tA g Wx fj σ H2 fun y H3 => R x y v H3 := by
  refine ⟨W, ρ, ext, S, ?_⟩
  unfold fPut at h
  cases e1 : f ρ with
  | no => rw [e1] at h; exact h.elim
  | ex c x ρ' => rw [e1] at h; exact h σ
  | ok r ρ1 =>
    rw [e1] at h
    dsimp only [Rs.fl] at h
    obtain ⟨d, t⟩ := r
    intro W1 v H1 S1
    have fz : ∃ W2, StR g W2 H1 ρ1 σ (⟨v, d, false⟩ :: ext) := by
      cases t with
      | false => exact ⟨W1, S1⟩
      | true => exact S1.freeze hM
    obtain ⟨W2, S2⟩ := fz
    cases e2 : slCt ρ1 i with
    | none => rw [e2] at h; exact h.elim
    | some d0 =>
      rw [e2] at h
      dsimp only at h
      obtain ⟨x, hx, _⟩ := S2.slot1 e2
      refine ⟨x, hx, W2, ρ1, _, S2, ?_⟩
      cases e3 : fj ρ1 with
      | no => rw [e3] at h; exact h.elim
      | ex c x ρ' => rw [e3] at h; exact exW.ext (h σ) (List.sublist_cons_self _ _)
      | ok j ρ2 =>
        rw [e3] at h
        dsimp only at h
        intro W3 y H3 S3 r3
        cases e4 : j.ct ρ2 with
        | none => rw [e4] at h; exact h.elim
        | some key =>
          rw [e4] at h
          refine hR d t ρ1 j ρ2 key e1 e3 h W3 H3 _ v y x S3 ((List.sublist_cons_self _ _).trans (List.sublist_append_right _ _)) (S3.mem0 (p := ⟨v, d, false⟩) (List.mem_append_right _ List.mem_cons_self) rfl) (S3.av (fun p hp => List.mem_append_left _ hp) r3 e4) hx
theorem ps_put_d (C : Ctx0 X g T) (hu : X.A.units + 1 < cLine) {i : Nat} {x : Str} {e j : Expr} {f : Ev} {fj : EvA} {p pos' : Pos} (hN : X.N[i]? = some x) (hv : Vis X.env.scope x) (hd : (x == ("__debug__" : Str)) = false) (hcd : (x == ("__classdict__" : Str)) = false)
    (he : PE X e (tD g Wx f)) (hj : PE X j (tA g Wx fj)) (hs1 : swapsWithSole [.Subscript (.Name x p) j pos'] e pos.line X.env = pure false) (hs2 : swappedStores [.Subscript (.Name x p) j pos'] e X.env = pure none)
    (hs3 : (assignEach [.Subscript (.Name x p) j pos'] X.env).map (·.2) = [assign (.Subscript (.Name x p) j pos') X.env]) (hs4 : swapsWith e (some (.Subscript (.Name x p) j pos')) pos.line X.env = pure false)
    (ha : ∀ v, assign (.Subscript (.Name x p) j pos') X.env v = (do
      let ov ← holding [v] (eval (.Name x p) X.env)
      let iv ← holding [v, ov] (eval j X.env)
      standAt pos'
      holding [v, ov, iv] (setItem ov iv v)
      release [v, ov, iv] [])) :
    PS X (.Assign [.Subscript (.Name x p) j pos'] e pos) (tS g Wx (fPut i f fj)) := by
  refine PS.imp (PS.orr (ps_asg he (pg_sub (pe_var hN hv hd hcd) hj set_list ha) hs1 hs2 hs3) (ps_dput hu (pe_var hN hv hd hcd) hj he hs4)) fun D σ H h => ?_
  obtain ⟨W, ρ, ext, S, h⟩ := h
  by_cases hb : ∃ d t ρ1 j ρ2 ds, f ρ = .ok (d, t) ρ1 ∧ fj ρ1 = .ok j ρ2 ∧ lsAt ρ2 i = some ds
  · refine .inl (put_pre C.gM S h fun d t ρ1 j ρ2 key e1 e2 hp W' H' ext' v y x S' sb rv ry hx => ?_)
    obtain ⟨d', t', ρ1', j', ρ2', ds, k1, k2, k3⟩ := hb
    rw [e1] at k1; cases k1
    rw [e2] at k2; cases k2
    exact put_list S' rv ry hx k3 (hp.ext sb)
  · refine .inr (put_pre C.gM S h fun d t ρ1 j ρ2 key e1 e2 hp W' H' ext' v y x S' sb rv ry hx => ?_)
    refine put_dict S' rv ry hx ?_ (hp.ext sb)
    cases k3 : lsAt ρ2 i with
    | none => rfl
    | some ds => exact absurd ⟨d, t, ρ1, j, ρ2, ds, e1, e2, k3⟩ hb
end
end PV
namespace PV
open PySem L2

/-! ### the codes -/
inductive Kd
  | E | A | L | T | W | C | I | G | S | B | O | H
inductive Bf
  | len | tup | lst | int | str | all | any
def Bf.sem : Bf → List D → Option (D × Bool)
  | .len => cLen | .tup => cTuple | .lst => cList | .int => cInt | .str => cStr | .all => cAll | .any => cAny
def Bf.nm : Bf → Str
  | .len => "len" | .tup => "tuple" | .lst => "list" | .int => "int" | .str => "str" | .all => "all" | .any => "any"
def kB : Operator → D → D → Option (D × Bool)
  | .Add => bAdd | .Sub => bSub | .Mult => bMul | .FloorDiv => bDiv | .Mod => bMod | .Pow => bPow | _ => fun _ _ => none
def kC : CmpOp → D → D → Option (D × Bool)
  | .Eq => bEq | .NotEq => bNe | .Lt => bLt | .LtE => bLe | .Gt => bGt | .GtE => bGe | .Is => bIs | .IsNot => bIsNot | .In => bInX | .NotIn => bNotInX
inductive Cd : Kd → Type
  | eVar (i : Nat) : Cd .E
  | eMov (i : Nat) : Cd .E
  | eInt (i : Int) : Cd .E
  | eStr (x : Str) : Cd .E
  | eBl (b : Bool) : Cd .E
  | eNon : Cd .E
  | eGlob (j : Nat) : Cd .E
  | eBin (o : Operator) (a b : Cd .A) : Cd .E
  | eCmp (o : CmpOp) (a b : Cd .A) : Cd .E
  | eChain (o1 o2 : CmpOp) (a b c : Cd .A) : Cd .E
  | eOne (a : Cd .E) : Cd .E
  | eAnd (a b : Cd .E) : Cd .E
  | eOr (a b : Cd .E) : Cd .E
  | eNot (a : Cd .E) : Cd .E
  | eTup (l : Cd .L) : Cd .E
  | eLst (l : Cd .L) : Cd .E
  | eCB (f : Bf) (l : Cd .L) : Cd .E
  | eCall (j n : Nat) (io : Option Nat) (l : Cd .L) : Cd .E
  | eIsi (q : IK) (a : Cd .A) : Cd .E
  | eNeg (a : Cd .A) : Cd .E
  | eDicK : Cd .E
  | eDicT : Cd .E
  | eIx (a b : Cd .A) : Cd .E
  | eSl (a : Cd .A) (lo hi : Cd .O) : Cd .E
  | eRevL (a : Cd .A) : Cd .E
  | eComp (own : List (Str × Nat)) (is : List Nat) (it : Cd .I) (tg : Cd .G) (c : Cd .C) (e : Cd .E) : Cd .E
  | eCompB (i : Nat) (own : List (Str × Nat)) (is : List Nat) (tg : Cd .G) (c : Cd .C) (e : Cd .E) : Cd .E
  | ePop (i : Nat) : Cd .E
  | aVal (e : Cd .E) : Cd .A
  | aRef (i : Nat) : Cd .A
  | lNil : Cd .L
  | lCons (a : Cd .A) (l : Cd .L) : Cd .L
  | tE (e : Cd .E) : Cd .T
  | tCmp (o : CmpOp) (a b : Cd .A) : Cd .T
  | tChain (o1 o2 : CmpOp) (a b c : Cd .A) : Cd .T
  | tW (w : Cd .W) : Cd .T
  | tNot (t : Cd .T) : Cd .T
  | wOne (t : Cd .T) : Cd .W
  | wAnd (t : Cd .T) (w : Cd .W) : Cd .W
  | wOr (t : Cd .T) (w : Cd .W) : Cd .W
  | cNil : Cd .C
  | cOne (t : Cd .T) : Cd .C
  | iIt (e : Cd .E) : Cd .I
  | iRg1 (l : Cd .L) : Cd .I
  | iRg2 (l : Cd .L) : Cd .I
  | gNm (i : Nat) : Cd .G
  | gTup (is : List Nat) : Cd .G
  | sRet (e : Cd .E) : Cd .S
  | sRetN : Cd .S
  | sExp (e : Cd .E) : Cd .S
  | sIf (t : Cd .T) (a b : Cd .B) : Cd .S
  | sPass : Cd .S
  | sBrk : Cd .S
  | sCnt : Cd .S
  | sSet (i : Nat) (e : Cd .E) : Cd .S
  | sTup (is : List Nat) (e : Cd .E) : Cd .S
  | sApp (i : Nat) (e : Cd .E) : Cd .S
  | sPut (i : Nat) (e : Cd .E) (j : Cd .A) : Cd .S
  | sFor (is : List Nat) (it : Cd .I) (tg : Cd .G) (b : Cd .B) : Cd .S
  | sWhile (n : Nat) (t : Cd .T) (b : Cd .B) : Cd .S
  | sRaise (c : Nat) : Cd .S
  | sTry (b : Cd .B) (h : Cd .H) : Cd .S
  | bNil : Cd .B
  | bCons (s : Cd .S) (b : Cd .B) : Cd .B
  | oNone : Cd .O
  | oSome (a : Cd .A) : Cd .O
  | hNil : Cd .H
  | hCons (j : Nat) (b : Cd .B) (h : Cd .H) : Cd .H
abbrev Sm : Kd → Type
  | .E => Ev
  | .A => EvA
  | .L => EvL
  | .T => EvT
  | .W => EvT
  | .C => EvT
  | .I => EvI
  | .G => Tgt
  | .S => Es
  | .B => Es
  | .O => Rho → Rs (Option Int)
  | .H => List (Nat × Es)
structure DE where
  sem : Nat → List D → FR
  ks : Nat → D
  ct : Nat → Option Str
def den (Y : DE) : {k : Kd} → Cd k → Sm k
  | _, .eVar i => fVar i
  | _, .eMov i => fMov i
  | _, .eInt i => fCst (.int i)
  | _, .eStr x => fCst (.str x)
  | _, .eBl b => fCst (.bool b)
  | _, .eNon => fCst .none
  | _, .eGlob j => fCst (Y.ks j)
  | _, .eBin o a b => fBin (kB o) (den Y a) (den Y b)
  | _, .eCmp o a b => fBin (kC o) (den Y a) (den Y b)
  | _, .eChain o1 o2 a b c => fChain (kC o1) (kC o2) (den Y a) (den Y b) (den Y c)
  | _, .eOne a => den Y a
  | _, .eAnd a b => fAndV (den Y a) (den Y b)
  | _, .eOr a b => fOrV (den Y a) (den Y b)
  | _, .eNot a => fNotV (den Y a)
  | _, .eTup l => fTup (den Y l)
  | _, .eLst l => fLst (den Y l)
  | _, .eCB f l => fCB f.sem (den Y l)
  | _, .eCall j n io l => fCall n io (Y.sem j) (den Y l)
  | _, .eIsi q a => fIsi q (den Y a)
  | _, .eNeg a => fNeg (den Y a)
  | _, .eDicK => fDicK
  | _, .eDicT => fDicT
  | _, .eIx a b => fBin bIx (den Y a) (den Y b)
  | _, .eSl a lo hi => fSl (den Y a) (den Y lo) (den Y hi)
  | _, .eRevL a => fRevL (den Y a)
  | _, .eComp own _ it tg c e => fComp (own.map (·.2)) (den Y it) (den Y tg) (den Y c) (den Y e)
  | _, .eCompB i own _ tg c e => fCompB i (own.map (·.2)) (den Y tg) (den Y c) (den Y e)
  | _, .ePop i => fPop i
  | _, .aVal e => fVal (den Y e)
  | _, .aRef i => fRef i
  | _, .lNil => fANil
  | _, .lCons a l => fACons (den Y a) (den Y l)
  | _, .tE e => fBl (den Y e)
  | _, .tCmp o a b => fBl (fBin (kC o) (den Y a) (den Y b))
  | _, .tChain o1 o2 a b c => fBl (fChain (kC o1) (kC o2) (den Y a) (den Y b) (den Y c))
  | _, .tW w => den (k := .W) Y w
  | _, .tNot t => fNotT (den Y t)
  | _, .wOne t => den (k := .T) Y t
  | _, .wAnd t w => fAndT (den Y t) (den Y w)
  | _, .wOr t w => fOrT (den Y t) (den Y w)
  | _, .cNil => fYes
  | _, .cOne t => den (k := .T) Y t
  | _, .iIt e => fItems (den Y e)
  | _, .iRg1 l => fRange1 (den Y l)
  | _, .iRg2 l => fRange2 (den Y l)
  | _, .gNm i => tgName i
  | _, .gTup is => tgTup is
  | _, .sRet e => fRet (den Y e)
  | _, .sRetN => fRetN
  | _, .sExp e => fExp (den Y e)
  | _, .sIf t a b => fIf (den Y t) (den Y a) (den Y b)
  | _, .sPass => fPass
  | _, .sBrk => fBreak
  | _, .sCnt => fCont
  | _, .sSet i e => fAsg i (den Y e)
  | _, .sTup is e => fAsgT is (den Y e)
  | _, .sApp i e => fApp i (den Y e)
  | _, .sPut i e j => fPut i (den Y e) (den Y j)
  | _, .sFor _ it tg b => fFor (den Y it) (den Y tg) (den Y b)
  | _, .sWhile n t b => fWhile n (den Y t) (den Y b)
  | _, .sRaise c => fRaise c
  | _, .sTry b h => fTry ⟨fun _ => none, fun _ => none, Y.ct⟩ (den Y b) (den Y h)
  | _, .bNil => fNil
  | _, .bCons s b => fSeq (den Y s) (den Y b)
  | _, .oNone => fO0
  | _, .oSome a => fO1 (den Y a)
  | _, .hNil => []
  | _, .hCons j b h => (j, den Y b) :: den Y h

/-! ### the check against the text -/
structure Inf where
  N : List Str
  sc : Scope
  fnk : Bool
  hot : Bool
  st : Bool
  fn : Nat → Option (Str × Nat × Option Nat)
  ks : Nat → Option Str
  cl : Nat → Option Str
abbrev Sx : Kd → Type
  | .E => Expr
  | .A => Expr
  | .L => List Expr
  | .T => Expr
  | .W => Expr
  | .C => List Expr
  | .I => Expr
  | .G => Expr
  | .S => Stmt
  | .B => List Stmt
  | .O => Option Expr
  | .H => List ExceptHandler
def noStar : Expr → Bool
  | .Starred .. => false
  | _ => true
def noSet : Expr → Bool
  | .Set .. => false
  | _ => true
def isComp : Expr → Bool
  | .ListComp .. => true
  | .SetComp .. => true
  | .DictComp .. => true
  | _ => false
def noSlice : Expr → Bool
  | .Slice .. => false
  | _ => true
def noTuple : Expr → Bool
  | .Tuple .. => false
  | _ => true
def plainT : Expr → Bool
  | .UnaryOp .. => false
  | .BoolOp .. => false
  | .IfExp .. => false
  | .Compare .. => false
  | _ => true
def sysN (x : Str) : Bool := decide (x = "__debug__") || decide (x = "__classdict__")
def visB (I : Inf) (x : Str) : Bool := match I.sc.names.lookup x with
  | some .local => true
  | some .cell => true
  | some .free => true
  | _ => false
def rdB (I : Inf) (i : Nat) (x : Str) : Bool := decide (I.N[i]? = some x) && visB I x && !sysN x
def glB (I : Inf) (x : Str) : Bool := decide (I.sc.names.lookup x = some .globalImplicit) && !decide (x = "__debug__")
def wrB (I : Inf) (i : Nat) (x : Str) : Bool := decide (I.N[i]? = some x) && (decide (I.sc.names.lookup x = some .local) || (I.fnk && decide (I.sc.names.lookup x = some .cell)))
def tupB (I : Inf) : List Nat → List Expr → Bool
  | [], [] => true
  | i :: is, .Name x _ :: es => wrB I i x && tupB I is es
  | _, _ => false
def relS (scope sc : Scope) : Scope := { scope with names := scope.names.map fun (n, k) => if (k == .free && sc.kind == .function && sc.names.lookup n == some .cell) then (n, .cell) else (n, k) }
def blkI (I : Inf) (scope : Scope) : Inf := { I with sc := relS scope I.sc, fnk := false, st := false }
def suiI (I : Inf) : Inf := { I with hot := false, st := false }
/-- name = [..]: on one line -/
def oneLine (I : Inf) (y : Str) (py : Pos) (scope : Scope) (pos : Pos) : Bool := decide (py.line = pos.line) && !(scope.names.any fun (n, k) => n == y && (k == .local || k == .cell))
def opB : Operator → Bool
  | .Add | .Sub | .Mult | .FloorDiv | .Mod | .Pow => true
  | _ => false
def slB : Cd .G → List Nat → Bool
  | .gNm i, is => decide (is = [i])
  | .gTup js, is => decide (is = js)
def c_eVar (i : Nat) (I : Inf) : Expr → Bool
  | .Name x _ => rdB I i x
  | _ => false
def c_eMov (i : Nat) (I : Inf) : Expr → Bool
  | .Name x _ => rdB I i x
  | _ => false
def c_eInt (i : Int) (I : Inf) : Expr → Bool
  | .Constant (.int j) _ _ => decide (i = j)
  | _ => false
def c_eStr (i : Str) (I : Inf) : Expr → Bool
  | .Constant (.str j) _ _ => decide (i = j) && PyData.strOk j
  | _ => false
def c_eBl (i : Bool) (I : Inf) : Expr → Bool
  | .Constant (.bool j) _ _ => decide (i = j)
  | _ => false
def c_eNon  (I : Inf) : Expr → Bool
  | .Constant .none _ _ => true
  | _ => false
def c_eGlob (j : Nat) (I : Inf) : Expr → Bool
  | .Name x _ => glB I x && decide (I.ks j = some x)
  | _ => false
def c_eBin (o : Operator) (a : Inf → Expr → Bool) (b : Inf → Expr → Bool) (I : Inf) : Expr → Bool
  | .BinOp x p y _ => decide (o = p) && opB p && a I x && b I y
  | _ => false
def c_eCmp (o : CmpOp) (a : Inf → Expr → Bool) (b : Inf → Expr → Bool) (I : Inf) : Expr → Bool
  | .Compare x [p] [y] _ => decide (o = p) && noSet y && a I x && b I y
  | _ => false
def c_eChain (o1 : CmpOp) (o2 : CmpOp) (a : Inf → Expr → Bool) (b : Inf → Expr → Bool) (c : Inf → Expr → Bool) (I : Inf) : Expr → Bool
  | .Compare x [p1, p2] [y, z] _ => decide (o1 = p1) && decide (o2 = p2) && noSet z && a I x && b I y && c I z
  | _ => false
def c_eOne (a : Inf → Expr → Bool) (I : Inf) : Expr → Bool
  | .BoolOp _ [x] _ => a I x
  | _ => false
def c_eAnd (a : Inf → Expr → Bool) (b : Inf → Expr → Bool) (I : Inf) : Expr → Bool
  | .BoolOp .And (x :: y :: r) p => a I x && b I (.BoolOp .And (y :: r) p)
  | _ => false
def c_eOr (a : Inf → Expr → Bool) (b : Inf → Expr → Bool) (I : Inf) : Expr → Bool
  | .BoolOp .Or (x :: y :: r) p => a I x && b I (.BoolOp .Or (y :: r) p)
  | _ => false
def c_eNot (a : Inf → Expr → Bool) (I : Inf) : Expr → Bool
  | .UnaryOp .Not x _ => a I x
  | _ => false
def c_eTup (l : Inf → List Expr → Bool) (I : Inf) : Expr → Bool
  | .Tuple es _ _ => l I es
  | _ => false
def c_eLst (l : Inf → List Expr → Bool) (I : Inf) : Expr → Bool
  | .List es _ => l I es
  | _ => false
def c_eCB (f : Bf) (l : Inf → List Expr → Bool) (I : Inf) : Expr → Bool
  | .Call (.Name x _) (e :: es) [] _ => I.hot && decide (x = f.nm) && glB I x && l I (e :: es)
  | _ => false
def c_eCall (j : Nat) (n : Nat) (io : Option Nat) (l : Inf → List Expr → Bool) (I : Inf) : Expr → Bool
  | .Call (.Name x _) (e :: es) [] _ => I.hot && decide (I.fn j = some (x, n, io)) && glB I x && l I (e :: es)
  | _ => false
def c_eIsi (q : IK) (a : Inf → Expr → Bool) (I : Inf) : Expr → Bool
  | .Call (.Name f _) [e, .Name x _] [] _ => decide (f = "isinstance") && decide (x = Str.ofString q.nm) && glB I f && glB I x && noStar e && a I e
  | _ => false
def c_eNeg (a : Inf → Expr → Bool) (I : Inf) : Expr → Bool
  | .UnaryOp .USub x _ => a I x
  | _ => false
def c_eDicK  (I : Inf) : Expr → Bool
  | .Dict [] [] _ => true
  | _ => false
def c_eDicT  (I : Inf) : Expr → Bool
  | .Dict [] [] _ => true
  | _ => false
def c_eIx (a : Inf → Expr → Bool) (b : Inf → Expr → Bool) (I : Inf) : Expr → Bool
  | .Subscript x y _ => noSlice y && a I x && b I y
  | _ => false
def c_eSl (a : Inf → Expr → Bool) (lo : Inf → Option Expr → Bool) (hi : Inf → Option Expr → Bool) (I : Inf) : Expr → Bool
  | .Subscript x (.Slice l h none _) _ => a I x && lo I l && hi I h
  | _ => false
def c_eRevL (a : Inf → Expr → Bool) (I : Inf) : Expr → Bool
  | .Subscript x (.Slice none none (some (.UnaryOp .USub (.Constant (.int 1) _ _) _)) _) _ => a I x
  | _ => false
def c_eComp (own : List (Str × Nat)) (is : List Nat) (it : Inf → Expr → Bool) (tg : Inf → Expr → Bool) (c : Inf → List Expr → Bool) (e : Inf → Expr → Bool) (sl : Bool) (I : Inf) : Expr → Bool
  | .ListComp elt [⟨t, iter, ifs, 0⟩] scope _ => I.hot && blkC I.N I.sc scope own && (is.all fun i => decide (i ∈ own.map (·.2))) && noSet iter && it I iter && tg (blkI I scope) t && sl && c (blkI I scope) ifs && e (blkI I scope) elt
  | _ => false
def c_eCompB (i : Nat) (own : List (Str × Nat)) (is : List Nat) (tg : Inf → Expr → Bool) (c : Inf → List Expr → Bool) (e : Inf → Expr → Bool) (sl : Bool) (I : Inf) : Expr → Bool
  | .ListComp elt [⟨t, .Name x _, ifs, 0⟩] scope _ => I.hot && rdB I i x && blkC I.N I.sc scope own && (is.all fun i => decide (i ∈ own.map (·.2))) && tg (blkI I scope) t && sl && c (blkI I scope) ifs && e (blkI I scope) elt
  | _ => false
def c_ePop (i : Nat) (I : Inf) : Expr → Bool
  | .Call (.Attribute (.Name x _) m ap) [] [] cp => rdB I i x && decide (m = "pop") && ap.endLine == cp.line
  | _ => false
def c_aVal (e : Inf → Expr → Bool) (I : Inf) : Expr → Bool
  | x => e I x
def c_aRef (i : Nat) (I : Inf) : Expr → Bool
  | .Name x _ => rdB I i x
  | _ => false
def c_lNil  (I : Inf) : List Expr → Bool
  | [] => true
  | _ => false
def c_lCons (a : Inf → Expr → Bool) (l : Inf → List Expr → Bool) (I : Inf) : List Expr → Bool
  | e :: es => noStar e && a I e && l I es
  | _ => false
def c_tE (e : Inf → Expr → Bool) (I : Inf) : Expr → Bool
  | x => plainT x && e I x
def c_tCmp (o : CmpOp) (a : Inf → Expr → Bool) (b : Inf → Expr → Bool) (I : Inf) : Expr → Bool
  | .Compare x [p] [y] _ => decide (o = p) && noSet y && a I x && b I y
  | _ => false
def c_tChain (o1 : CmpOp) (o2 : CmpOp) (a : Inf → Expr → Bool) (b : Inf → Expr → Bool) (c : Inf → Expr → Bool) (I : Inf) : Expr → Bool
  | .Compare x [p1, p2] [y, z] _ => decide (o1 = p1) && decide (o2 = p2) && noSet z && a I x && b I y && c I z
  | _ => false
def c_tW (w : Inf → Expr → Bool) (I : Inf) : Expr → Bool
  | x => w I x
def c_tNot (t : Inf → Expr → Bool) (I : Inf) : Expr → Bool
  | .UnaryOp .Not x _ => t I x
  | _ => false
def c_wOne (t : Inf → Expr → Bool) (I : Inf) : Expr → Bool
  | .BoolOp _ [x] _ => t I x
  | _ => false
def c_wAnd (t : Inf → Expr → Bool) (w : Inf → Expr → Bool) (I : Inf) : Expr → Bool
  | .BoolOp .And (x :: y :: r) p => t I x && w I (.BoolOp .And (y :: r) p)
  | _ => false
def c_wOr (t : Inf → Expr → Bool) (w : Inf → Expr → Bool) (I : Inf) : Expr → Bool
  | .BoolOp .Or (x :: y :: r) p => t I x && w I (.BoolOp .Or (y :: r) p)
  | _ => false
def c_cNil  (I : Inf) : List Expr → Bool
  | [] => true
  | _ => false
def c_cOne (t : Inf → Expr → Bool) (I : Inf) : List Expr → Bool
  | [x] => t I x
  | _ => false
def c_iIt (e : Inf → Expr → Bool) (I : Inf) : Expr → Bool
  | x => I.hot && e I x
def c_iRg1 (l : Inf → List Expr → Bool) (I : Inf) : Expr → Bool
  | .Call (.Name f _) [a] [] _ => I.hot && decide (f = "range") && glB I f && noStar a && l I [a]
  | _ => false
def c_iRg2 (l : Inf → List Expr → Bool) (I : Inf) : Expr → Bool
  | .Call (.Name f _) [a, b] [] _ => I.hot && decide (f = "range") && glB I f && noStar a && noStar b && l I [a, b]
  | _ => false
def c_gNm (i : Nat) (I : Inf) : Expr → Bool
  | .Name x _ => wrB I i x
  | _ => false
def c_gTup (is : List Nat) (I : Inf) : Expr → Bool
  | .Tuple es _ _ => I.hot && tupB I is es
  | _ => false
def c_sRet (e : Inf → Expr → Bool) (I : Inf) : Stmt → Bool
  | .Return (some x) _ => e I x
  | _ => false
def c_sRetN  (I : Inf) : Stmt → Bool
  | .Return none _ => true
  | _ => false
def c_sExp (e : Inf → Expr → Bool) (I : Inf) : Stmt → Bool
  | .Expr x _ => !isComp x && e I x
  | _ => false
def c_sIf (t : Inf → Expr → Bool) (a : Inf → List Stmt → Bool) (b : Inf → List Stmt → Bool) (I : Inf) : Stmt → Bool
  | .If x y z _ => t I x && a I y && b I z
  | _ => false
def c_sPass  (I : Inf) : Stmt → Bool
  | .Pass _ => true
  | _ => false
def c_sBrk  (I : Inf) : Stmt → Bool
  | .Break _ => true
  | _ => false
def c_sCnt  (I : Inf) : Stmt → Bool
  | .Continue _ => true
  | _ => false
def c_sSet (i : Nat) (e : Inf → Expr → Bool) (I : Inf) : Stmt → Bool
  | .Assign [.Name y py] x _ => wrB I i y && (match x with
    | .ListComp _ _ scope pos => decide (I.sc.names.lookup y = some .local) && decide (I.sc.kind = .function) && oneLine I y py scope pos
    | x => !isComp x) && e I x
  | _ => false
def c_sTup (is : List Nat) (e : Inf → Expr → Bool) (I : Inf) : Stmt → Bool
  | .Assign [.Tuple es _ _] x _ => I.hot && noTuple x && !isComp x && tupB I is es && e I x
  | _ => false
def c_sApp (i : Nat) (e : Inf → Expr → Bool) (I : Inf) : Stmt → Bool
  | .Expr (.Call (.Attribute (.Name x _) m ap) [y] [] cp) _ => rdB I i x && decide (m = "append") && ap.endLine == cp.line && noStar y && e I y
  | _ => false
def c_sPut (i : Nat) (e : Inf → Expr → Bool) (j : Inf → Expr → Bool) (I : Inf) : Stmt → Bool
  | .Assign [.Subscript (.Name x _) y _] z _ => rdB I i x && noSlice y && !isComp z && j I y && e I z
  | _ => false
def c_sFor (is : List Nat) (it : Inf → Expr → Bool) (tg : Inf → Expr → Bool) (b : Inf → List Stmt → Bool) (sl : Bool) (I : Inf) : Stmt → Bool
  | .For t iter body [] _ => I.hot && noSet iter && it I iter && tg I t && sl && b I body
  | _ => false
def c_sWhile (n : Nat) (t : Inf → Expr → Bool) (b : Inf → List Stmt → Bool) (I : Inf) : Stmt → Bool
  | .While x body [] _ => I.hot && t I x && b I body
  | _ => false
def c_sRaise (c : Nat) (I : Inf) : Stmt → Bool
  | .Raise (some (.Call (.Name x _) [.Constant (.str _) _ _] [] _)) none _ => I.hot && decide (I.cl c = some x) && glB I x
  | _ => false
def c_sTry (b : Inf → List Stmt → Bool) (h : Inf → List ExceptHandler → Bool) (I : Inf) : Stmt → Bool
  | .Try body (h0 :: hs) [] [] _ => I.hot && I.st && b I body && h (suiI I) (h0 :: hs)
  | _ => false
def c_bNil  (I : Inf) : List Stmt → Bool
  | [] => true
  | _ => false
def c_bCons (s : Inf → Stmt → Bool) (b : Inf → List Stmt → Bool) (I : Inf) : List Stmt → Bool
  | x :: xs => s I x && b I xs
  | _ => false
def c_oNone  (I : Inf) : Option Expr → Bool
  | none => true
  | _ => false
def c_oSome (a : Inf → Expr → Bool) (I : Inf) : Option Expr → Bool
  | some x => a I x
  | _ => false
def c_hNil  (I : Inf) : List ExceptHandler → Bool
  | [] => true
  | _ => false
def c_hCons (j : Nat) (b : Inf → List Stmt → Bool) (h : Inf → List ExceptHandler → Bool) (I : Inf) : List ExceptHandler → Bool
  | .ExceptHandler (some (.Name x _)) none (b0 :: suite) _ :: hs => decide (I.cl j = some x) && glB I x && b I (b0 :: suite) && h I hs
  | _ => false
def chk : {k : Kd} → Cd k → Inf → Sx k → Bool
  | _, .eVar i => c_eVar i
  | _, .eMov i => c_eMov i
  | _, .eInt i => c_eInt i
  | _, .eStr i => c_eStr i
  | _, .eBl i => c_eBl i
  | _, .eNon => c_eNon 
  | _, .eGlob j => c_eGlob j
  | _, .eBin o a b => c_eBin o (chk a) (chk b)
  | _, .eCmp o a b => c_eCmp o (chk a) (chk b)
  | _, .eChain o1 o2 a b c => c_eChain o1 o2 (chk a) (chk b) (chk c)
  | _, .eOne a => c_eOne (chk a)
  | _, .eAnd a b => c_eAnd (chk a) (chk b)
  | _, .eOr a b => c_eOr (chk a) (chk b)
  | _, .eNot a => c_eNot (chk a)
  | _, .eTup l => c_eTup (chk l)
  | _, .eLst l => c_eLst (chk l)
  | _, .eCB f l => c_eCB f (chk l)
  | _, .eCall j n io l => c_eCall j n io (chk l)
  | _, .eIsi q a => c_eIsi q (chk a)
  | _, .eNeg a => c_eNeg (chk a)
  | _, .eDicK => c_eDicK 
  | _, .eDicT => c_eDicT 
  | _, .eIx a b => c_eIx (chk a) (chk b)
  | _, .eSl a lo hi => c_eSl (chk a) (chk lo) (chk hi)
  | _, .eRevL a => c_eRevL (chk a)
  | _, .eComp own is it tg c e => c_eComp own is (chk it) (chk tg) (chk c) (chk e) (slB tg is)
  | _, .eCompB i own is tg c e => c_eCompB i own is (chk tg) (chk c) (chk e) (slB tg is)
  | _, .ePop i => c_ePop i
  | _, .aVal e => c_aVal (chk e)
  | _, .aRef i => c_aRef i
  | _, .lNil => c_lNil 
  | _, .lCons a l => c_lCons (chk a) (chk l)
  | _, .tE e => c_tE (chk e)
  | _, .tCmp o a b => c_tCmp o (chk a) (chk b)
  | _, .tChain o1 o2 a b c => c_tChain o1 o2 (chk a) (chk b) (chk c)
  | _, .tW w => c_tW (chk w)
  | _, .tNot t => c_tNot (chk t)
  | _, .wOne t => c_wOne (chk t)
  | _, .wAnd t w => c_wAnd (chk t) (chk w)
  | _, .wOr t w => c_wOr (chk t) (chk w)
  | _, .cNil => c_cNil 
  | _, .cOne t => c_cOne (chk t)
  | _, .iIt e => c_iIt (chk e)
  | _, .iRg1 l => c_iRg1 (chk l)
  | _, .iRg2 l => c_iRg2 (chk l)
  | _, .gNm i => c_gNm i
  | _, .gTup is => c_gTup is
  | _, .sRet e => c_sRet (chk e)
  | _, .sRetN => c_sRetN 
  | _, .sExp e => c_sExp (chk e)
  | _, .sIf t a b => c_sIf (chk t) (chk a) (chk b)
  | _, .sPass => c_sPass 
  | _, .sBrk => c_sBrk 
  | _, .sCnt => c_sCnt 
  | _, .sSet i e => c_sSet i (chk e)
  | _, .sTup is e => c_sTup is (chk e)
  | _, .sApp i e => c_sApp i (chk e)
  | _, .sPut i e j => c_sPut i (chk e) (chk j)
  | _, .sFor is it tg b => c_sFor is (chk it) (chk tg) (chk b) (slB tg is)
  | _, .sWhile n t b => c_sWhile n (chk t) (chk b)
  | _, .sRaise c => c_sRaise c
  | _, .sTry b h => c_sTry (chk b) (chk h)
  | _, .bNil => c_bNil 
  | _, .bCons s b => c_bCons (chk s) (chk b)
  | _, .oNone => c_oNone 
  | _, .oSome a => c_oSome (chk a)
  | _, .hNil => c_hNil 
  | _, .hCons j b h => c_hCons j (chk b) (chk h)
end PV
namespace PV
open PySem L2

structure Agr (Y : DE) (I : Inf) (g : Cfg) (T : Mdl) : Prop where
  fn : ∀ j x n io, I.fn j = some (x, n, io) → ∃ en, T.T j = some en ∧ en.x = x ∧ en.ps.length = n ∧ en.io = io ∧ en.sem = Y.sem j ∧ ∀ m, en.io = some m → m < en.ps.length
  ks : ∀ j x, I.ks j = some x → T.KT j = some (x, Y.ks j)
  cl : ∀ j x, I.cl j = some x → T.CT j = some x ∧ g.nm j = none
  ct : T.CT = Y.ct
structure Fx (Y : DE) (I : Inf) (X : Cx) (g : Cfg) (Wx : WX) (k : Nat) (T : Mdl) : Prop where
  c0 : Ctx0 X g T
  agr : Agr Y I g T
  N : X.N = I.N
  sc : X.env.scope = I.sc
  un : X.A.units + 66 < cLine
  fn : I.fnk = true → ∀ x, X.fn x = true
  hot : I.hot = true → Ctx X g Wx k T
  st : I.st = true → X.stack = X.env :: X.outer ∧ X.env.frame = some X.env.locals
  cls : ∀ j x, T.CT j = some x → ClsF g.K X.mg x (g.C j)

/-! ### the shapes -/
section
variable {env : Env} {e : Expr} {es : List Expr}
theorem star_ok (h : noStar e = true) : starEach (e :: es) env = (false, eval e env) :: starEach es env := by
  cases e <;> first | rfl | cases h
theorem folded_ok (h : noSet e = true) : ∀ x, foldedSetIterable e env x = pure x := by
  intro x
  cases e <;> first | rfl | cases h
theorem behind_ok {op : CmpOp} (h : noSet e = true) : behindInMarks op e = false := by
  cases e <;> first | rfl | cases h
theorem plainIx_ok (h : noSlice e = true) : PlainIx e := by
  intro o i
  cases e <;> first | rfl | cases h
theorem plainT_ok (h : plainT e = true) : ∀ whole, isTrue e env whole = (do let v ← whole; standAt e.pos; holding [v] (truthy v)) := by
  intro w
  cases e <;> first | rfl | cases h
theorem swaps_ok {t : Option Expr} {l : Nat} (h : isComp e = false) : swapsWith e t l env = pure false := by
  cases e <;> first | rfl | cases h
theorem swapsS_ok {t : Expr} {l : Nat} (h : isComp e = false) : swapsWithSole [t] e l env = pure false := swaps_ok h
theorem swapped_sub {a b : Expr} {p : Pos} : swappedStores [.Subscript a b p] e env = pure none := by
  cases e <;> rfl
theorem swapped_tup {ts : List Expr} {kk : Nat} {p : Pos} (h : noTuple e = true) : swappedStores [.Tuple ts kk p] e env = pure none := by
  cases e <;> first | rfl | cases h
theorem assignSub_ok {o : Expr} {p : Pos} (h : noSlice e = true) : ∀ v, assign (.Subscript o e p) env v = (do
      let ov ← holding [v] (eval o env)
      let iv ← holding [v, ov] (eval e env)
      standAt p
      holding [v, ov, iv] (setItem ov iv v)
      release [v, ov, iv] []) := by
  intro v
  cases e <;> first | rfl | cases h
theorem swaps_lc {elt : Expr} {gens : List Comprehension} {scope : Scope} {pos py : Pos} {y : Str} {l : Nat} {I : Inf} (hk : env.scope.kind = .function) (hl : env.scope.names.lookup y = some .local) (h : oneLine I y py scope pos = true) : swapsWith (.ListComp elt gens scope pos) (some (.Name y py)) l env = pure true := by
  unfold oneLine at h
  rw [Bool.and_eq_true, decide_eq_true_eq] at h
  show (pure (env.blockKind == .function && env.kindOf y == some .local && py.line == pos.line && !(scope.names.any fun (n, k) => n == y && (k == .local || k == .cell))) : Sem Bool) = pure true
  have e1 : env.blockKind = .function := by
    unfold Env.blockKind
    rw [hk]; rfl
  have e2 : env.kindOf y = some .local := hl
  rw [e1, e2, h.1, h.2]
  simp
end

section
variable {Y : DE} {I : Inf} {X : Cx} {g : Cfg} {Wx : WX} {k : Nat} {T : Mdl}
theorem Fx.blk (F : Fx Y I X g Wx k T) (hh : I.hot = true) (scope : Scope) (s : Shared) (H : Hp) (C : Addr) (cl : List (Str × Addr)) (fp : List Addr) : Fx Y (blkI I scope) (X.blk s H scope (compEnvC scope cl C X.env) fp) g WxN k T where
  c0 := ((F.hot hh).blk s H scope _ fp).toCtx0
  agr := ⟨F.agr.fn, F.agr.ks, F.agr.cl, F.agr.ct⟩
  N := F.N
  sc := by
    show relabel scope X.env = relS scope I.sc
    rw [← F.sc]
    rfl
  un := F.un
  fn := fun z => by cases z
  hot := fun _ => (F.hot hh).blk s H scope _ fp
  st := fun z => by cases z
  cls := F.cls
theorem Fx.suite (F : Fx Y I X g Wx k T) (a : Addr) (pn : List (Addr × Obj)) : Fx Y (suiI I) (X.suite a pn) g WxN k T where
  c0 := F.c0.suite a pn
  agr := ⟨F.agr.fn, F.agr.ks, F.agr.cl, F.agr.ct⟩
  N := F.N
  sc := F.sc
  un := F.un
  fn := F.fn
  hot := fun z => by cases z
  st := fun z => by cases z
  cls := F.cls
theorem Fx.tr (F : Fx Y I X g Wx k T) (hh : I.hot = true) {W : WX} {pn : List (Addr × Obj)} {xe : Value → Shared → Prop} (tk : Takes (X.tr pn xe) W) (po : PassesOwn (model X.prog X.w) X.A X.env xe) : Fx Y I (X.tr pn xe) g W k T where
  c0 := ((F.hot hh).tr tk po).toCtx0
  agr := F.agr
  N := F.N
  sc := F.sc
  un := F.un
  fn := F.fn
  hot := fun _ => (F.hot hh).tr tk po
  st := F.st
  cls := F.cls

theorem sysN_ok {x : Str} (h : (!sysN x) = true) : (x == ("__debug__" : Str)) = false ∧ (x == ("__classdict__" : Str)) = false := by
  unfold sysN at h
  simp only [Bool.not_eq_true', Bool.or_eq_false_iff, decide_eq_false_iff_not] at h
  exact ⟨beq_eq_false_iff_ne.mpr h.1, beq_eq_false_iff_ne.mpr h.2⟩
theorem Fx.rd (F : Fx Y I X g Wx k T) {i : Nat} {x : Str} (h : rdB I i x = true) : X.N[i]? = some x ∧ Vis X.env.scope x ∧ (x == ("__debug__" : Str)) = false ∧ (x == ("__classdict__" : Str)) = false := by
  unfold rdB at h
  simp only [Bool.and_eq_true, decide_eq_true_eq] at h
  obtain ⟨⟨h1, h2⟩, h3⟩ := h
  refine ⟨by rw [F.N]; exact h1, ?_, sysN_ok h3⟩
  unfold visB at h2
  unfold Vis
  rw [F.sc]
  split at h2
  · rename_i e; exact .inl e
  · rename_i e; exact .inr (.inl e)
  · rename_i e; exact .inr (.inr e)
  · cases h2
theorem Fx.gl (F : Fx Y I X g Wx k T) {x : Str} (h : glB I x = true) : Gl X x ∧ (x == ("__debug__" : Str)) = false := by
  unfold glB at h
  simp only [Bool.and_eq_true, decide_eq_true_eq, Bool.not_eq_true', decide_eq_false_iff_not] at h
  refine ⟨?_, beq_eq_false_iff_ne.mpr h.2⟩
  show X.env.scope.names.lookup x = some .globalImplicit
  rw [F.sc]
  exact h.1
theorem Fx.wr (F : Fx Y I X g Wx k T) {i : Nat} {x : Str} (h : wrB I i x = true) : X.N[i]? = some x ∧ L2.Loc X.env.scope x ∧ (X.fn x = true ∨ X.env.scope.names.lookup x = some .local) := by
  unfold wrB at h
  simp only [Bool.and_eq_true, Bool.or_eq_true, decide_eq_true_eq] at h
  obtain ⟨h1, h2⟩ := h
  refine ⟨by rw [F.N]; exact h1, ?_⟩
  unfold L2.Loc
  rw [F.sc]
  rcases h2 with h2 | ⟨h3, h2⟩
  · exact ⟨.inl h2, .inr h2⟩
  · exact ⟨.inr h2, .inl (F.fn h3 x)⟩
theorem Fx.tup (F : Fx Y I X g Wx k T) : ∀ {is : List Nat} {es : List Expr}, tupB I is es = true → PGs X es (gTs g is) ∧ (assignEach es X.env).length = is.length ∧ (assignEach es X.env).findIdx? (·.1) = none
  | [], [], _ => ⟨pgs_nil_d, rfl, rfl⟩
  | i :: is, .Name x p :: es, h => by
    unfold tupB at h
    rw [Bool.and_eq_true] at h
    obtain ⟨h1, h2, h3⟩ := F.wr h.1
    obtain ⟨a, b, c⟩ := Fx.tup F h.2
    refine ⟨pgs_cons_d F.c0.nd h1 h2 h3 a (by rfl), ?_, ?_⟩
    · show (assignEach es X.env).length + 1 = _
      rw [b]; rfl
    · have e : assignEach (.Name x p :: es) X.env = (false, assign (.Name x p) X.env) :: assignEach es X.env := rfl
      rw [e, List.findIdx?_cons, c]; rfl
  | [], _ :: _, h => by cases h
  | _ :: _, [], h => by cases h
theorem binS (C : Ctx0 X g T) {o : Operator} (h : opB o = true) : ∃ r, OpR X (binaryOp o) r ∧ BinK g (kB o) r := by
  have e := C.K
  cases o with
  | Add => exact ⟨_, op_addD, by rw [e]; exact bAdd_ok C.gP⟩
  | Sub => exact ⟨_, op_sub, bSub_ok⟩
  | Mult => exact ⟨_, op_mulA, bMul_ok⟩
  | FloorDiv => exact ⟨_, op_divD, bDiv_ok⟩
  | Mod => exact ⟨_, op_modD, bMod_ok⟩
  | Pow => exact ⟨_, op_pow, bPow_ok⟩
  | _ => cases h
theorem cmpS (C : Ctx0 X g T) (hu : X.A.units + 66 < cLine) (o : CmpOp) : ∃ r, OpR X (compareOp o) r ∧ BinK g (kC o) r := by
  have e := C.K
  cases o with
  | Eq => exact ⟨_, op_eqR (by omega), by rw [e]; exact bEq_ok⟩
  | NotEq => exact ⟨_, op_neR (by omega), by rw [e]; exact bNe_ok⟩
  | Lt => exact ⟨_, op_lt, bLt_ok⟩
  | LtE => exact ⟨_, op_le, bLe_ok⟩
  | Gt => exact ⟨_, op_gt, bGt_ok⟩
  | GtE => exact ⟨_, op_ge, bGe_ok⟩
  | Is => exact ⟨_, op_isD, bIs_ok⟩
  | IsNot => exact ⟨_, op_isNotD, bIsNot_ok⟩
  | In => exact ⟨_, op_inX hu, by rw [e]; exact bInX_ok⟩
  | NotIn => exact ⟨_, op_notInX hu, by rw [e]; exact bNotInX_ok⟩
/-- a list of arguments without stars -/
def noStars : List Expr → Bool
  | [] => true
  | e :: es => noStar e && noStars es
theorem back_ok {pos : Pos} : ∀ {es : List Expr}, noStars es = true → (backTo pos (starEach es X.env)).any (·.1) = false
  | [], _ => rfl
  | e :: es, h => by
    unfold noStars at h
    rw [Bool.and_eq_true] at h
    rw [star_ok h.1]
    show (false || (backTo pos (starEach es X.env)).any (·.1)) = false
    rw [back_ok h.2]; rfl
theorem chk_stars {l : Cd .L} : ∀ {es : List Expr}, chk l I es = true → noStars es = true := by
  intro es h
  match l, es, h with
  | .lNil, [], _ => rfl
  | .lCons a l, e :: es, h =>
    have h' : c_lCons (chk a) (chk l) I (e :: es) = true := h
    unfold c_lCons at h'
    simp only [Bool.and_eq_true] at h'
    unfold noStars
    rw [h'.1.1, chk_stars h'.2]; rfl
  | .lNil, _ :: _, h => cases h
  | .lCons _ _, [], h => cases h
theorem callS (C : Ctx X g Wx k T) (f : Bf) {e : Expr} {es : List Expr} {fl : EvL} {p pos : Pos} (hg : Gl X f.nm) (ha : PA X (e :: es) (tAL g Wx fl)) (hs : noStars (e :: es) = true) : PE X (.Call (.Name f.nm p) (e :: es) [] pos) (tD g Wx (fCB f.sem fl)) := by
  unfold noStars at hs
  rw [Bool.and_eq_true] at hs
  have h1 := star_ok (es := es) (env := X.env) hs.1
  have h2 := back_ok (X := X) (pos := pos) hs.2
  have eK := C.K
  cases f with
  | len => exact pd_callB (id := "len") call_lenR (by rw [eK]; exact cLen_ok) hg (C.bm _ (by decide)) (by decide +kernel) ha (by decide) (by decide) h1 h2
  | tup => exact pd_callTy (id := "tuple") call_tuple_of (by rw [eK]; exact cTuple_ok) hg (C.bm _ (by decide)) (by decide +kernel) ha (by decide) (by decide) h1 h2
  | lst => exact pd_callTy (id := "list") call_list_of (by rw [eK]; exact cList_ok C.gP) hg (C.bm _ (by decide)) (by decide +kernel) ha (by decide) (by decide) h1 h2
  | int => exact pd_callTy (id := "int") call_int1 cInt_ok hg (C.bm _ (by decide)) (by decide +kernel) ha (by decide) (by decide) h1 h2
  | str => exact pd_callTy (id := "str") call_str_int cStr_ok hg (C.bm _ (by decide)) (by decide +kernel) ha (by decide) (by decide) h1 h2
  | all => exact pd_callB (id := "all") (cr_all C.calm) (by rw [eK]; exact cAll_ok) hg (C.bm _ (by decide)) (by decide +kernel) ha (by decide) (by decide) h1 h2
  | any => exact pd_callB (id := "any") (cr_any C.calm) (by rw [eK]; exact cAny_ok) hg (C.bm _ (by decide)) (by decide +kernel) ha (by decide) (by decide) h1 h2
end

/-! ### the codes are sound -/
def SndE (Y : DE) (f : Ev) (ck : Inf → Expr → Bool) : Prop := ∀ {X g Wx k T I}, Fx Y I X g Wx k T → ∀ e : Expr, ck I e = true → PE X e (tD g Wx f) ∧
  ∀ (i : Nat) (y : Str) (py spos : Pos), isComp e = true → X.N[i]? = some y → X.env.scope.names.lookup y = some .local → swapsWith e (some (.Name y py)) spos.line X.env = pure true → PS X (.Assign [.Name y py] e spos) (tS g Wx (fAsg i f))
def Snd (Y : DE) : {k : Kd} → Cd k → Prop
  | .E, c => SndE Y (den Y c) (chk c)
  | .A, c => ∀ {X g Wx k T I}, Fx Y I X g Wx k T → ∀ e : Expr, chk c I e = true → PE X e (tA g Wx (den Y c))
  | .L, c => ∀ {X g Wx k T I}, Fx Y I X g Wx k T → ∀ e : List Expr, chk c I e = true → PA X e (tAL g Wx (den Y c))
  | .T, c => ∀ {X g Wx k T I}, Fx Y I X g Wx k T → ∀ e : Expr, chk c I e = true → PT X e (tT g Wx (den (k := .T) Y c))
  | .W, c => ∀ {X g Wx k T I}, Fx Y I X g Wx k T → ∀ e : Expr, chk c I e = true → PW X e (tT g Wx (den (k := .W) Y c))
  | .C, c => ∀ {X g Wx k T I}, Fx Y I X g Wx k T → ∀ e : List Expr, chk c I e = true → PTs X e (tT g Wx (den (k := .C) Y c))
  | .I, c => ∀ {X g Wx k T I}, Fx Y I X g Wx k T → ∀ e : Expr, chk c I e = true → ∀ tg, PI X tg e (tI g Wx (den Y c))
  | .G, c => ∀ {X g Wx k T I}, Fx Y I X g Wx k T → ∀ e : Expr, chk c I e = true → ∀ is, slB c is = true → PG X e (gT g is (den Y c))
  | .S, c => ∀ {X g Wx k T I}, Fx Y I X g Wx k T → ∀ e : Stmt, chk c I e = true → PS X e (tS g Wx (den (k := .S) Y c))
  | .B, c => ∀ {X g Wx k T I}, Fx Y I X g Wx k T → ∀ e : List Stmt, chk c I e = true → PSs X e (tS g Wx (den (k := .B) Y c))
  | .O, c => ∀ {X g Wx k T I}, Fx Y I X g Wx k T → ∀ e : Option Expr, chk c I e = true → PO X e (tO g Wx (den Y c))
  | .H, c => ∀ {X g Wx k T I}, Fx Y I X g Wx k T → ∀ e : List ExceptHandler, chk c (suiI I) e = true → HdsOk X e (hdL g (den Y c)) ∧ ∀ p ∈ (den Y c : List (Nat × Es)), ∃ y, T.CT p.1 = some y
theorem SndE.of {Y : DE} {f : Ev} {ck : Inf → Expr → Bool} (h : ∀ {X g Wx k T I}, Fx Y I X g Wx k T → ∀ e : Expr, ck I e = true → isComp e = false ∧ PE X e (tD g Wx f)) : SndE Y f ck := fun F e hc => ⟨(h F e hc).2, fun _ _ _ _ z => by rw [(h F e hc).1] at z; cases z⟩
end PV
namespace PV
open PySem L2

theorem snd (Y : DE) {kd : Kd} (c : Cd kd) : Snd Y c := by
  induction c with
  | eVar i =>
    refine SndE.of fun F e h => ?_
    have h : c_eVar i _ e = true := h
    unfold c_eVar at h
    split at h
    · obtain ⟨h1, h2, h3, h4⟩ := F.rd h
      exact ⟨rfl, pd_var F.c0 h1 h2 h3 h4⟩
    · cases h
  | eMov i =>
    refine SndE.of fun F e h => ?_
    have h : c_eMov i _ e = true := h
    unfold c_eMov at h
    split at h
    · obtain ⟨h1, h2, h3, h4⟩ := F.rd h
      exact ⟨rfl, pd_mov F.c0 h1 h2 h3 h4⟩
    · cases h
  | eInt i =>
    refine SndE.of fun F e h => ?_
    have h : c_eInt i _ e = true := h
    unfold c_eInt at h
    split at h
    · have e := of_decide_eq_true h
      subst e
      exact ⟨rfl, pd_int⟩
    · cases h
  | eStr i =>
    refine SndE.of fun F e h => ?_
    have h : c_eStr i _ e = true := h
    unfold c_eStr at h
    split at h
    · rw [Bool.and_eq_true] at h
      have e := of_decide_eq_true h.1
      subst e
      exact ⟨rfl, pd_str h.2⟩
    · cases h
  | eBl i =>
    refine SndE.of fun F e h => ?_
    have h : c_eBl i _ e = true := h
    unfold c_eBl at h
    split at h
    · have e := of_decide_eq_true h
      subst e
      exact ⟨rfl, pd_bl⟩
    · cases h
  | eNon =>
    refine SndE.of fun F e h => ?_
    have h : c_eNon _ e = true := h
    unfold c_eNon at h
    split at h
    · exact ⟨rfl, pd_non⟩
    · cases h
  | eGlob j =>
    refine SndE.of fun F e h => ?_
    have h : c_eGlob j _ e = true := h
    unfold c_eGlob at h
    split at h
    · rw [Bool.and_eq_true, decide_eq_true_eq] at h
      obtain ⟨h1, h2⟩ := F.gl h.1
      obtain ⟨u, h3, h4⟩ := F.c0.consts _ _ (F.agr.ks _ _ h.2)
      exact ⟨rfl, pd_glob F.c0 h1 h3 h4 h2⟩
    · cases h
  | eBin o a b iha ihb =>
    refine SndE.of fun F e h => ?_
    have h : c_eBin o (chk a) (chk b) _ e = true := h
    unfold c_eBin at h
    split at h
    · simp only [Bool.and_eq_true, decide_eq_true_eq] at h
      obtain ⟨⟨⟨e1, h1⟩, h2⟩, h3⟩ := h
      subst e1
      obtain ⟨r, h4, h5⟩ := binS F.c0 h1
      exact ⟨rfl, pd_bin h4 h5 (iha F _ h2) (ihb F _ h3)⟩
    · cases h
  | eCmp o a b iha ihb =>
    refine SndE.of fun F e h => ?_
    have h : c_eCmp o (chk a) (chk b) _ e = true := h
    unfold c_eCmp at h
    split at h
    · simp only [Bool.and_eq_true, decide_eq_true_eq] at h
      obtain ⟨⟨⟨e1, h1⟩, h2⟩, h3⟩ := h
      subst e1
      obtain ⟨r, h4, h5⟩ := cmpS F.c0 F.un o
      exact ⟨rfl, pd_cmp h4 h5 (behind_ok h1) (iha F _ h2) (ihb F _ h3)⟩
    · cases h
  | eChain o1 o2 a b c iha ihb ihc =>
    refine SndE.of fun F e h => ?_
    have h : c_eChain o1 o2 (chk a) (chk b) (chk c) _ e = true := h
    unfold c_eChain at h
    split at h
    · simp only [Bool.and_eq_true, decide_eq_true_eq] at h
      obtain ⟨⟨⟨⟨⟨e1, e2⟩, h1⟩, h2⟩, h3⟩, h6⟩ := h
      subst e1 e2
      obtain ⟨r, h4, h5⟩ := cmpS F.c0 F.un o1
      obtain ⟨r', h7, h8⟩ := cmpS F.c0 F.un o2
      exact ⟨rfl, pd_chain h4 h7 h5 h8 (behind_ok h1) (iha F _ h2) (ihb F _ h3) (ihc F _ h6)⟩
    · cases h
  | eOne a iha =>
    refine SndE.of fun F e h => ?_
    have h : c_eOne (chk a) _ e = true := h
    unfold c_eOne at h
    split at h
    · exact ⟨rfl, pe_one (iha F _ h).1⟩
    · cases h
  | eAnd a b iha ihb =>
    refine SndE.of fun F e h => ?_
    have h : c_eAnd (chk a) (chk b) _ e = true := h
    unfold c_eAnd at h
    split at h
    · rw [Bool.and_eq_true] at h
      exact ⟨rfl, pd_and (iha F _ h.1).1 (ihb F _ h.2).1⟩
    · cases h
  | eOr a b iha ihb =>
    refine SndE.of fun F e h => ?_
    have h : c_eOr (chk a) (chk b) _ e = true := h
    unfold c_eOr at h
    split at h
    · rw [Bool.and_eq_true] at h
      exact ⟨rfl, pd_or (iha F _ h.1).1 (ihb F _ h.2).1⟩
    · cases h
  | eNot a iha =>
    refine SndE.of fun F e h => ?_
    have h : c_eNot (chk a) _ e = true := h
    unfold c_eNot at h
    split at h
    · exact ⟨rfl, pd_not (iha F _ h).1⟩
    · cases h
  | eTup l ihl =>
    refine SndE.of fun F e h => ?_
    have h : c_eTup (chk l) _ e = true := h
    unfold c_eTup at h
    split at h
    · exact ⟨rfl, pd_tup (ihl F _ h)⟩
    · cases h
  | eLst l ihl =>
    refine SndE.of fun F e h => ?_
    have h : c_eLst (chk l) _ e = true := h
    unfold c_eLst at h
    split at h
    · exact ⟨rfl, pd_lst F.c0 (ihl F _ h)⟩
    · cases h
  | eCB f l ihl =>
    refine SndE.of fun F e h => ?_
    have h : c_eCB f (chk l) _ e = true := h
    unfold c_eCB at h
    split at h
    · simp only [Bool.and_eq_true, decide_eq_true_eq] at h
      obtain ⟨⟨⟨h0, e1⟩, h1⟩, h2⟩ := h
      subst e1
      exact ⟨rfl, callS (F.hot h0) f (F.gl h1).1 (ihl F _ h2) (chk_stars h2)⟩
    · cases h
  | eCall j n io l ihl =>
    refine SndE.of fun F e h => ?_
    have h : c_eCall j n io (chk l) _ e = true := h
    unfold c_eCall at h
    split at h
    · simp only [Bool.and_eq_true, decide_eq_true_eq] at h
      obtain ⟨⟨⟨h0, e1⟩, h1⟩, h2⟩ := h
      obtain ⟨en, t1, t2, t3, t4, t5, t6⟩ := F.agr.fn _ _ _ _ e1
      have hs := chk_stars h2
      unfold noStars at hs
      rw [Bool.and_eq_true] at hs
      subst t2
      refine ⟨rfl, ?_⟩
      show PE _ _ (tD _ _ (fCall n io (Y.sem j) (den Y l)))
      rw [← t3, ← t4, ← t5]
      exact pd_call (F.hot h0) t1 t6 (F.gl h1).1 (F.gl h1).2 (ihl F _ h2) (star_ok hs.1) (back_ok hs.2)
    · cases h
  | eIsi q a iha =>
    refine SndE.of fun F e h => ?_
    have h : c_eIsi q (chk a) _ e = true := h
    unfold c_eIsi at h
    split at h
    · simp only [Bool.and_eq_true, decide_eq_true_eq] at h
      obtain ⟨⟨⟨⟨⟨e1, e2⟩, h1⟩, h2⟩, h3⟩, h4⟩ := h
      subst e1 e2
      have hm : ∀ q : IK, Str.ofString q.nm ∈ bnames := by intro q; cases q <;> decide
      exact ⟨rfl, pd_isi F.c0 q (F.gl h1).1 (F.gl h2).1 (F.c0.bm _ (hm q)) (iha F _ h4) (star_ok h3) (back_ok (by rfl))⟩
    · cases h
  | eNeg a iha =>
    refine SndE.of fun F e h => ?_
    have h : c_eNeg (chk a) _ e = true := h
    unfold c_eNeg at h
    split at h
    · exact ⟨rfl, pd_neg (iha F _ h)⟩
    · cases h
  | eDicK =>
    refine SndE.of fun F e h => ?_
    have h : c_eDicK _ e = true := h
    unfold c_eDicK at h
    split at h
    · exact ⟨rfl, pd_dicK F.c0⟩
    · cases h
  | eDicT =>
    refine SndE.of fun F e h => ?_
    have h : c_eDicT _ e = true := h
    unfold c_eDicT at h
    split at h
    · exact ⟨rfl, pd_dicT F.c0⟩
    · cases h
  | eIx a b iha ihb =>
    refine SndE.of fun F e h => ?_
    have h : c_eIx (chk a) (chk b) _ e = true := h
    unfold c_eIx at h
    split at h
    · simp only [Bool.and_eq_true] at h
      exact ⟨rfl, pd_ix F.c0 (by have := F.un; omega) (iha F _ h.1.2) (ihb F _ h.2) (plainIx_ok h.1.1)⟩
    · cases h
  | eSl a lo hi iha ihl ihh =>
    refine SndE.of fun F e h => ?_
    have h : c_eSl (chk a) (chk lo) (chk hi) _ e = true := h
    unfold c_eSl at h
    split at h
    · simp only [Bool.and_eq_true] at h
      exact ⟨rfl, pd_slice F.c0 (iha F _ h.1.1) (ihl F _ h.1.2) (ihh F _ h.2)⟩
    · cases h
  | eRevL a iha =>
    refine SndE.of fun F e h => ?_
    have h : c_eRevL (chk a) _ e = true := h
    unfold c_eRevL at h
    split at h
    · exact ⟨rfl, pd_revL F.c0 (iha F _ h)⟩
    · cases h
  | eComp own is it tg c e ihi ihg ihc ihe =>
    intro X g Wx k T I F e' h
    have h : c_eComp own is (chk it) (chk tg) (chk c) (chk e) (slB tg is) _ e' = true := h
    unfold c_eComp at h
    split at h
    · simp only [Bool.and_eq_true, List.all_eq_true, decide_eq_true_eq] at h
      obtain ⟨⟨⟨⟨⟨⟨⟨⟨h0, h1⟩, h2⟩, h3⟩, h4⟩, h5⟩, h6⟩, h7⟩, h8⟩ := h
      have C := F.hot h0
      have ok := blkOk_by h1
      rw [← F.N, ← F.sc] at ok
      refine ⟨pd_comp C (ihi F _ h4 _) ok h2 (fun s H C cl fp => ihg (F.blk h0 _ s H C cl fp) _ h5 _ h6) (fun s H C cl fp => ihc (F.blk h0 _ s H C cl fp) _ h7) (fun s H C cl fp => (ihe (F.blk h0 _ s H C cl fp) _ h8).1) (folded_ok h3), fun i y py spos _ hy hl hsw => ?_⟩
      exact ps_setLc_d C hy hl hsw (ihi F _ h4 _) ok h2 (fun s H C cl fp => ihg (F.blk h0 _ s H C cl fp) _ h5 _ h6) (fun s H C cl fp => ihc (F.blk h0 _ s H C cl fp) _ h7) (fun s H C cl fp => (ihe (F.blk h0 _ s H C cl fp) _ h8).1) (folded_ok h3)
    · cases h
  | eCompB i own is tg c e ihg ihc ihe =>
    intro X g Wx k T I F e' h
    have h : c_eCompB i own is (chk tg) (chk c) (chk e) (slB tg is) _ e' = true := h
    unfold c_eCompB at h
    split at h
    · simp only [Bool.and_eq_true, List.all_eq_true, decide_eq_true_eq] at h
      obtain ⟨⟨⟨⟨⟨⟨⟨h0, hx⟩, h1⟩, h2⟩, h5⟩, h6⟩, h7⟩, h8⟩ := h
      have C := F.hot h0
      obtain ⟨x1, x2, x3, x4⟩ := F.rd hx
      have ok := blkOk_by h1
      rw [← F.N, ← F.sc] at ok
      refine ⟨pd_compB C x1 x2 x3 x4 ok h2 (fun s H C cl fp => ihg (F.blk h0 _ s H C cl fp) _ h5 _ h6) (fun s H C cl fp => ihc (F.blk h0 _ s H C cl fp) _ h7) (fun s H C cl fp => (ihe (F.blk h0 _ s H C cl fp) _ h8).1), fun i y py spos _ hy hl hsw => ?_⟩
      exact ps_setLcB_d C x1 x2 x3 x4 hy hl hsw ok h2 (fun s H C cl fp => ihg (F.blk h0 _ s H C cl fp) _ h5 _ h6) (fun s H C cl fp => ihc (F.blk h0 _ s H C cl fp) _ h7) (fun s H C cl fp => (ihe (F.blk h0 _ s H C cl fp) _ h8).1)
    · cases h
  | ePop i =>
    refine SndE.of fun F e h => ?_
    have h : c_ePop i _ e = true := h
    unfold c_ePop at h
    split at h
    · simp only [Bool.and_eq_true, decide_eq_true_eq] at h
      obtain ⟨⟨h1, e1⟩, h2⟩ := h
      subst e1
      obtain ⟨x1, x2, x3, x4⟩ := F.rd h1
      exact ⟨rfl, pd_pop x1 x2 x3 x4 h2⟩
    · cases h
  | aVal e ihe =>
    intro X g Wx k T I F e' h
    exact pa_val F.c0 (ihe F e' h).1
  | aRef i =>
    intro X g Wx k T I F e h
    have h : c_aRef i _ e = true := h
    unfold c_aRef at h
    split at h
    · obtain ⟨h1, h2, h3, h4⟩ := F.rd h
      exact pa_ref h1 h2 h3 h4
    · cases h
  | lNil =>
    intro X g Wx k T I F e h
    have h : c_lNil _ e = true := h
    unfold c_lNil at h
    split at h
    · exact pal_nil
    · cases h
  | lCons a l iha ihl =>
    intro X g Wx k T I F e h
    have h : c_lCons (chk a) (chk l) _ e = true := h
    unfold c_lCons at h
    split at h
    · simp only [Bool.and_eq_true] at h
      exact pal_cons (iha F _ h.1.2) (ihl F _ h.2) (star_ok h.1.1)
    · cases h
  | tE e ihe =>
    intro X g Wx k T I F e' h
    have h : c_tE (chk e) _ e' = true := h
    unfold c_tE at h
    rw [Bool.and_eq_true] at h
    exact pt_plain (ihe F _ h.2).1 (plainT_ok h.1)
  | tCmp o a b iha ihb =>
    intro X g Wx k T I F e h
    have h : c_tCmp o (chk a) (chk b) _ e = true := h
    unfold c_tCmp at h
    split at h
    · simp only [Bool.and_eq_true, decide_eq_true_eq] at h
      obtain ⟨⟨⟨e1, h1⟩, h2⟩, h3⟩ := h
      subst e1
      obtain ⟨r, h4, h5⟩ := cmpS F.c0 F.un o
      exact pt_cmp h4 h5 (behind_ok h1) (iha F _ h2) (ihb F _ h3)
    · cases h
  | tChain o1 o2 a b c iha ihb ihc =>
    intro X g Wx k T I F e h
    have h : c_tChain o1 o2 (chk a) (chk b) (chk c) _ e = true := h
    unfold c_tChain at h
    split at h
    · simp only [Bool.and_eq_true, decide_eq_true_eq] at h
      obtain ⟨⟨⟨⟨⟨e1, e2⟩, h1⟩, h2⟩, h3⟩, h6⟩ := h
      subst e1 e2
      obtain ⟨r, h4, h5⟩ := cmpS F.c0 F.un o1
      obtain ⟨r', h7, h8⟩ := cmpS F.c0 F.un o2
      exact pt_chain_d h4 h7 h5 h8 (behind_ok h1) (iha F _ h2) (ihb F _ h3) (ihc F _ h6)
    · cases h
  | tW w ihw =>
    intro X g Wx k T I F e h
    exact (ihw F e h).pt
  | tNot t iht =>
    intro X g Wx k T I F e h
    have h : c_tNot (chk t) _ e = true := h
    unfold c_tNot at h
    split at h
    · exact pt_not_d (iht F _ h)
    · cases h
  | wOne t iht =>
    intro X g Wx k T I F e h
    have h : c_wOne (chk t) _ e = true := h
    unfold c_wOne at h
    split at h
    · rename_i op x
      cases ‹BoolOp›
      · exact pw_and1 (iht F _ h)
      · exact pw_or1 (iht F _ h)
    · cases h
  | wAnd t w iht ihw =>
    intro X g Wx k T I F e h
    have h : c_wAnd (chk t) (chk w) _ e = true := h
    unfold c_wAnd at h
    split at h
    · rw [Bool.and_eq_true] at h
      exact pw_and_d (iht F _ h.1) (ihw F _ h.2)
    · cases h
  | wOr t w iht ihw =>
    intro X g Wx k T I F e h
    have h : c_wOr (chk t) (chk w) _ e = true := h
    unfold c_wOr at h
    split at h
    · rw [Bool.and_eq_true] at h
      exact pw_or_d (iht F _ h.1) (ihw F _ h.2)
    · cases h
  | cNil =>
    intro X g Wx k T I F e h
    have h : c_cNil _ e = true := h
    unfold c_cNil at h
    split at h
    · exact pts_nil_d
    · cases h
  | cOne t iht =>
    intro X g Wx k T I F e h
    have h : c_cOne (chk t) _ e = true := h
    unfold c_cOne at h
    split at h
    · exact pts_one (iht F _ h)
    · cases h
  | iIt e ihe =>
    intro X g Wx k T I F e' h tg
    have h : c_iIt (chk e) _ e' = true := h
    unfold c_iIt at h
    rw [Bool.and_eq_true] at h
    exact pi_items_d (F.hot h.1) (ihe F _ h.2).1
  | iRg1 l ihl =>
    intro X g Wx k T I F e h tg
    have h : c_iRg1 (chk l) _ e = true := h
    unfold c_iRg1 at h
    split at h
    · simp only [Bool.and_eq_true, decide_eq_true_eq] at h
      obtain ⟨⟨⟨⟨h0, e1⟩, h1⟩, h2⟩, h3⟩ := h
      subst e1
      exact pi_range1_d (F.hot h0) (F.gl h1).1 (ihl F _ h3) (by rw [star_ok h2]; rfl)
    · cases h
  | iRg2 l ihl =>
    intro X g Wx k T I F e h tg
    have h : c_iRg2 (chk l) _ e = true := h
    unfold c_iRg2 at h
    split at h
    · simp only [Bool.and_eq_true, decide_eq_true_eq] at h
      obtain ⟨⟨⟨⟨⟨h0, e1⟩, h1⟩, h2⟩, h4⟩, h3⟩ := h
      subst e1
      exact pi_range2_d (F.hot h0) (F.gl h1).1 (ihl F _ h3) (by rw [star_ok h2, star_ok h4]; rfl) (by rw [star_ok h4]; rfl)
    · cases h
  | gNm i =>
    intro X g Wx k T I F e h is hs
    have h : c_gNm i _ e = true := h
    unfold c_gNm at h
    split at h
    · obtain ⟨h1, h2, h3⟩ := F.wr h
      have e : is = [i] := of_decide_eq_true hs
      subst e
      exact pg_name_d F.c0.nd h1 h2 h3
    · cases h
  | gTup js =>
    intro X g Wx k T I F e h is hs
    have h : c_gTup js _ e = true := h
    unfold c_gTup at h
    split at h
    · rw [Bool.and_eq_true] at h
      have e : is = js := of_decide_eq_true hs
      subst e
      obtain ⟨h1, h2, h3⟩ := F.tup h.2
      exact pg_tup_d (F.hot h.1).calm F.c0.K h1 h2 h3
    · cases h
  | sRet e ihe =>
    intro X g Wx k T I F e' h
    have h : c_sRet (chk e) _ e' = true := h
    unfold c_sRet at h
    split at h
    · exact ps_ret_d (ihe F _ h).1
    · cases h
  | sRetN =>
    intro X g Wx k T I F e h
    have h : c_sRetN _ e = true := h
    unfold c_sRetN at h
    split at h
    · exact ps_retN_d
    · cases h
  | sExp e ihe =>
    intro X g Wx k T I F e' h
    have h : c_sExp (chk e) _ e' = true := h
    unfold c_sExp at h
    split at h
    · simp only [Bool.and_eq_true, Bool.not_eq_true'] at h
      exact ps_expr_d (ihe F _ h.2).1 (swaps_ok h.1)
    · cases h
  | sIf t a b iht iha ihb =>
    intro X g Wx k T I F e h
    have h : c_sIf (chk t) (chk a) (chk b) _ e = true := h
    unfold c_sIf at h
    split at h
    · simp only [Bool.and_eq_true] at h
      exact ps_if_d (iht F _ h.1.1) (iha F _ h.1.2) (ihb F _ h.2)
    · cases h
  | sPass =>
    intro X g Wx k T I F e h
    have h : c_sPass _ e = true := h
    unfold c_sPass at h
    split at h
    · exact ps_pass_d
    · cases h
  | sBrk =>
    intro X g Wx k T I F e h
    have h : c_sBrk _ e = true := h
    unfold c_sBrk at h
    split at h
    · exact ps_break_d
    · cases h
  | sCnt =>
    intro X g Wx k T I F e h
    have h : c_sCnt _ e = true := h
    unfold c_sCnt at h
    split at h
    · exact ps_cont_d
    · cases h
  | sSet i e ihe =>
    intro X g Wx k T I F e' h
    have h : c_sSet i (chk e) _ e' = true := h
    unfold c_sSet at h
    split at h
    · simp only [Bool.and_eq_true] at h
      obtain ⟨⟨h1, h2⟩, h3⟩ := h
      obtain ⟨x1, x2, x3⟩ := F.wr h1
      obtain ⟨p1, p2⟩ := ihe F _ h3
      split at h2
      · simp only [Bool.and_eq_true, decide_eq_true_eq] at h2
        obtain ⟨⟨h4, h5⟩, h6⟩ := h2
        rw [← F.sc] at h4 h5
        exact p2 _ _ _ _ rfl x1 h4 (swaps_lc h5 h4 h6)
      · simp only [Bool.not_eq_true'] at h2
        exact ps_set_d F.c0 x1 x2 p1 (swaps_ok h2) x3
    · cases h
  | sTup is e ihe =>
    intro X g Wx k T I F e' h
    have h : c_sTup is (chk e) _ e' = true := h
    unfold c_sTup at h
    split at h
    · simp only [Bool.and_eq_true, Bool.not_eq_true'] at h
      obtain ⟨⟨⟨⟨h0, h1⟩, h2⟩, h3⟩, h4⟩ := h
      obtain ⟨t1, t2, t3⟩ := F.tup h3
      exact ps_asgT_d (F.hot h0) (ihe F _ h4).1 t1 t2 t3 (swapsS_ok h2) (swapped_tup h1) (by rfl)
    · cases h
  | sApp i e ihe =>
    intro X g Wx k T I F e' h
    have h : c_sApp i (chk e) _ e' = true := h
    unfold c_sApp at h
    split at h
    · simp only [Bool.and_eq_true, decide_eq_true_eq] at h
      obtain ⟨⟨⟨⟨h1, e1⟩, h2⟩, h3⟩, h4⟩ := h
      subst e1
      obtain ⟨x1, x2, x3, x4⟩ := F.rd h1
      exact ps_app_d F.c0 x1 x2 x3 x4 (ihe F _ h4).1 (by rw [star_ok h3]; rfl) h2 (star_ok h3)
    · cases h
  | sPut i e j ihe ihj =>
    intro X g Wx k T I F e' h
    have h : c_sPut i (chk e) (chk j) _ e' = true := h
    unfold c_sPut at h
    split at h
    · simp only [Bool.and_eq_true, Bool.not_eq_true'] at h
      obtain ⟨⟨⟨⟨h1, h0⟩, h2⟩, h3⟩, h4⟩ := h
      obtain ⟨x1, x2, x3, x4⟩ := F.rd h1
      exact ps_put_d F.c0 (by have := F.un; omega) x1 x2 x3 x4 (ihe F _ h4).1 (ihj F _ h3) (swapsS_ok h2) swapped_sub (by rfl) (swaps_ok h2) (assignSub_ok h0)
    · cases h
  | sFor is it tg b ihi ihg ihb =>
    intro X g Wx k T I F e h
    have h : c_sFor is (chk it) (chk tg) (chk b) (slB tg is) _ e = true := h
    unfold c_sFor at h
    split at h
    · simp only [Bool.and_eq_true] at h
      obtain ⟨⟨⟨⟨⟨h0, h1⟩, h2⟩, h3⟩, h4⟩, h5⟩ := h
      exact ps_for_d (F.hot h0) (ihi F _ h2 _) (ihg F _ h3 _ h4) (ihb F _ h5) (folded_ok h1)
    · cases h
  | sWhile n t b iht ihb =>
    intro X g Wx k T I F e h
    have h : c_sWhile n (chk t) (chk b) _ e = true := h
    unfold c_sWhile at h
    split at h
    · simp only [Bool.and_eq_true] at h
      exact ps_while_d (F.hot h.1.1) (iht F _ h.1.2) (ihb F _ h.2)
    · cases h
  | sRaise c =>
    intro X g Wx k T I F e h
    have h : c_sRaise c _ e = true := h
    unfold c_sRaise at h
    split at h
    · simp only [Bool.and_eq_true, decide_eq_true_eq] at h
      obtain ⟨⟨h0, h1⟩, h2⟩ := h
      obtain ⟨c1, c2⟩ := F.agr.cl _ _ h1
      exact ps_raise_d (F.hot h0) c1 c2 (F.gl h2).1 (F.gl h2).2
    · cases h
  | sTry b hh ihb ihh =>
    intro X g Wx k T I F e h
    have h : c_sTry (chk b) (chk hh) _ e = true := h
    unfold c_sTry at h
    split at h
    · simp only [Bool.and_eq_true] at h
      obtain ⟨⟨⟨h0, h1⟩, h2⟩, h3⟩ := h
      obtain ⟨q1, q2⟩ := ihh F _ h3
      obtain ⟨s1, s2⟩ := F.st h1
      have q := ps_try_d (pos := by assumption) (F.hot h0) s1 s2 q2 (fun W pn xe tk po => ihb (F.tr h0 tk po) _ h2) q1
      have e : ∀ (fb : Es) (hl : List (Nat × Es)), fTry T fb hl = fTry ⟨fun _ => none, fun _ => none, Y.ct⟩ fb hl := by
        intro fb hl
        unfold fTry
        rw [F.agr.ct]
      rw [e] at q
      exact q
    · cases h
  | bNil =>
    intro X g Wx k T I F e h
    have h : c_bNil _ e = true := h
    unfold c_bNil at h
    split at h
    · exact pds_nil
    · cases h
  | bCons s b ihs ihb =>
    intro X g Wx k T I F e h
    have h : c_bCons (chk s) (chk b) _ e = true := h
    unfold c_bCons at h
    split at h
    · rw [Bool.and_eq_true] at h
      exact pds_cons (ihs F _ h.1) (ihb F _ h.2)
    · cases h
  | oNone =>
    intro X g Wx k T I F e h
    have h : c_oNone _ e = true := h
    unfold c_oNone at h
    split at h
    · exact po_none_d
    · cases h
  | oSome a iha =>
    intro X g Wx k T I F e h
    have h : c_oSome (chk a) _ e = true := h
    unfold c_oSome at h
    split at h
    · exact po_some_d (iha F _ h)
    · cases h
  | hNil =>
    intro X g Wx k T I F e h
    have h : c_hNil _ e = true := h
    unfold c_hNil at h
    split at h
    · exact ⟨.nil, fun p hp => by cases hp⟩
    · cases h
  | hCons j b hh ihb ihh =>
    intro X g Wx k T I F e h
    have h : c_hCons j (chk b) (chk hh) _ e = true := h
    unfold c_hCons at h
    split at h
    · simp only [Bool.and_eq_true, decide_eq_true_eq] at h
      obtain ⟨⟨⟨h1, h2⟩, h3⟩, h4⟩ := h
      obtain ⟨c1, c2⟩ := F.agr.cl _ _ h1
      obtain ⟨q1, q2⟩ := ihh F _ h4
      have hg : glB I _ = true := h2
      refine ⟨.cons ⟨(F.gl hg).1, (F.gl hg).2, .inl (F.cls _ _ c1).gC⟩ (fun a oe cls d pn _ _ => ihb (F.suite a _) _ h3) q1, fun p hp => ?_⟩
      rcases List.mem_cons.mp hp with e | hp
      · subst e; exact ⟨_, c1⟩
      · exact q2 p hp
    · cases h
end PV
namespace PV
open PySem L2

def lk (l : List (List D → FR)) (j : Nat) : List D → FR := (l[j]?).getD fun _ => .no
def lkD (l : List (Str × D)) (j : Nat) : D := ((l[j]?).map (·.2)).getD .none
/-- a def as the tables have it -/
structure EOk (P : Program) (w : World) (K : PySem.W.Frag) (mg : Str → Option Value) (base : Heap) (C : Nat → Addr) (nm : Nat → Option Str) (k : Nat) (e : FEnt) : Prop where
  ok : FnOk P w K mg base (L2.CX P w) k e.f e.fd e.ps (spOf K C nm e.ps.length e.io e.sem)
  g : mg e.x = some (.ref e.f)
  kp : PySem.W.keepIn K (.ref e.f) = true
  b : Binds K e.fd e.ps []
  lt : ∀ m, e.io = some m → m < e.ps.length
/-- what the whole module offers -/
structure ModK (K : PySem.W.Frag) (mg : Str → Option Value) (C : Nat → Addr) (nm : Nat → Option Str) (ks : List (Str × D)) (cl : List Str) : Prop where
  bm : ∀ x ∈ bnames, mg x = none
  consts : ∀ (j : Nat) (c : Str × D), ks[j]? = some c → ∃ u, mg c.1 = some u ∧ KR K u c.2
  clss : ∀ (j : Nat) (x : Str), cl[j]? = some x → ClsF K mg x (C j)
  plain : ∀ (j : Nat) (x : Str), cl[j]? = some x → nm j = none → PySem.W.excIn K (C j) veT "ValueError.__new__" = true
  exm : ∀ (i j : Nat) (x y : Str), cl[i]? = some x → cl[j]? = some y → PySem.W.exmOne K (.ref (C i)) (.ref (C j)) = some (i == j)
/-- the check's information for a def -/
def infOf (N : List Str) (sc : Scope) (tbl : List (Str × Nat × Option Nat)) (ks : List (Str × D)) (cl : List (Str × Bool)) : Inf :=
  { N := N, sc := sc, fnk := true, hot := true, st := true, fn := fun j => tbl[j]?, ks := fun j => (ks[j]?).map (·.1), cl := fun j => match cl[j]? with | some (x, true) => some x | _ => none }
def deOf (sems : List (List D → FR)) (ks : List (Str × D)) (cl : List (Str × Bool)) : DE := ⟨lk sems, lkD ks, fun j => (cl[j]?).map (·.1)⟩
theorem fnk_no {P : Program} {w : World} {K : PySem.W.Frag} {mg : Str → Option Value} {base : Heap} {C : Nat → Addr} {nm : Nat → Option Str} {k : Nat} {f : Addr} {fd : FuncData} {ps : List Str} {io : Option Nat} : FnOk P w K mg base (L2.CX P w) k f fd ps (spOf K C nm ps.length io fun _ => .no) :=
  ⟨fun vs H Q E h => h.1, fun A outer s H args us vs Q E hr he hb hv h => by
    obtain ⟨_, _, ds, Wc, _, _, z⟩ := h
    exact z.elim⟩
theorem fn_code {P : Program} {w : World} {K : PySem.W.Frag} {mg : Str → Option Value} {base : Heap} {C : Nat → Addr} {nm : Nat → Option Str} {ks : List (Str × D)} {cl : List (Str × Bool)} (M : ModK K mg C nm ks (cl.map (·.1))) (hnm : ∀ (j : Nat) (x : Str), cl[j]? = some (x, true) → nm j = none)
    {x qual : Str} {st : Stmt} {f : Addr} {fd : FuncData} {N ps : List Str} {k : Nat} {io : Option Nat} (F : Fun K x qual st f fd) (S : FnScope N ps (defScope st)) (hio : ∀ m, io = some m → m < ps.length) (hpl : ps.length ≤ N.length)
    {es : List FEnt} (hes : ∀ e ∈ es, EOk P w K mg base C nm k e) {sems : List (List D → FR)} (hsm : es.map (·.sem) = sems) {tbl : List (Str × Nat × Option Nat)} (htb : es.map (fun e => (e.x, e.ps.length, e.io)) = tbl)
    (c : Cd .B) (h : chk c (infOf N (defScope st) tbl ks cl) (defBody st) = true) :
    FnOk P w K mg base (L2.CX P w) (k + 1) f fd ps (spOf K C nm ps.length io (runF ps.length N.length io (den (k := .B) (deOf sems ks cl) c))) := by
  let T : Mdl := ⟨fun j => es[j]?, fun j => ks[j]?, fun j => (cl.map (·.1))[j]?⟩
  refine fn_def (T := T) F S hio hpl M.bm M.consts (fun j e hj => ?_) M.clss M.plain M.exm fun X g Wx C0 hN hsc hfn hst hfr hgn => ?_
  · have z := hes e (List.mem_of_getElem? hj)
    exact ⟨z.ok, z.g, z.kp, z.b⟩
  · refine snd (deOf sems ks cl) c (I := infOf N (defScope st) tbl ks cl) ⟨C0.toCtx0, ⟨?_, ?_, ?_, ?_⟩, hN, hsc, ?_, fun _ y => by rw [hfn], fun _ => C0, fun _ => ⟨hst, hfr⟩, C0.clss⟩ _ h
    · intro j x n io' hj
      have hj' : tbl[j]? = some (x, n, io') := hj
      rw [← htb, List.getElem?_map] at hj'
      cases e1 : es[j]? with
      | none => rw [e1] at hj'; cases hj'
      | some en =>
        rw [e1] at hj'
        have e2 := Option.some.inj hj'
        refine ⟨en, e1, by rw [← (Prod.mk.inj e2).1], by rw [← (Prod.mk.inj (Prod.mk.inj e2).2).1], by rw [← (Prod.mk.inj (Prod.mk.inj e2).2).2], ?_, (hes en (List.mem_of_getElem? e1)).lt⟩
        show en.sem = (sems[j]?).getD _
        rw [← hsm, List.getElem?_map, e1]; rfl
    · intro j x hj
      have hj' : (ks[j]?).map (·.1) = some x := hj
      show ks[j]? = some (x, ((ks[j]?).map (·.2)).getD .none)
      cases e1 : ks[j]? with
      | none => rw [e1] at hj'; cases hj'
      | some q => rw [e1] at hj'; cases hj'; rfl
    · intro j x hj
      have hj' : (match cl[j]? with | some (x, true) => some x | _ => none) = some x := hj
      split at hj'
      · rename_i y e1
        cases hj'
        refine ⟨?_, ?_⟩
        · show (cl.map (·.1))[j]? = some x
          rw [List.getElem?_map, e1]; rfl
        · rw [hgn]; exact hnm j x e1
      · cases hj'
    · funext j
      exact List.getElem?_map
    · have := C0.room.un
      omega
/-- one more def -/
theorem all_snoc {P : Program} {w : World} {K : PySem.W.Frag} {mg : Str → Option Value} {base : Heap} {C : Nat → Addr} {nm : Nat → Option Str} {k : Nat} {es : List FEnt} {e : FEnt} (h : ∀ e ∈ es, EOk P w K mg base C nm k e) (h2 : EOk P w K mg base C nm (k + 1) e) : ∀ e' ∈ es ++ [e], EOk P w K mg base C nm (k + 1) e' := by
  intro e' he
  rcases List.mem_append.mp he with he | he
  · have z := h e' he
    exact ⟨z.ok.mono (Nat.le_succ _), z.g, z.kp, z.b, z.lt⟩
  · rw [List.mem_singleton] at he
    subst he
    exact h2
theorem eok_up {P : Program} {w : World} {K : PySem.W.Frag} {mg : Str → Option Value} {base : Heap} {C : Nat → Addr} {nm : Nat → Option Str} {j k : Nat} {e : FEnt} (h : EOk P w K mg base C nm j e) (l : j ≤ k) : EOk P w K mg base C nm k e := ⟨h.ok.mono l, h.g, h.kp, h.b, h.lt⟩
theorem hcx_none {P : Program} : ∀ (w : World) (H : Hp) (s : Shared) (e : Value) (s' : Shared), L2.CX P w [] H s (fun _ _ _ => False) e s' → False := by
  intro w H s e s' ⟨_, _, _, _, _, _, _, _, _, _, _, _, z⟩
  exact z
theorem rp_ints {K : PySem.W.Frag} {W : Addr → Prop} {H : Hp} : ∀ ns : List Int, RpL K W H (ns.map V.int) (ns.map PyData.int)
  | [] => .nil
  | n :: ns => .cons (.int n) (rp_ints ns)
/-- the law's promise: True, whatever the script -/
def spLaw (K : PySem.W.Frag) : Sp := fun vs H Q _ => ∃ (a : Addr) (ns : List Int), vs = [.ref a] ∧ SqL K H a (ns.map V.int) ∧ ns.length ≤ 63 ∧ ∀ H', Q (.bl true) H'
theorem law_of {K : PySem.W.Frag} {C : Nat → Addr} {nm : Nat → Option Str} {sem : List D → FR} (h : ∀ ns : List Int, ns.length ≤ 63 → ∃ t d', sem [.list (ns.map PyData.int)] = .ret (.bool true) t d') {vs : List V} {H : Hp} {Q : VK} {E : XK} (hs : spLaw K vs H Q E) :
    spOf K C nm 1 none sem vs H Q E := by
  obtain ⟨a, ns, rfl, hS, hl, hQ⟩ := hs
  obtain ⟨t, d', e⟩ := h ns hl
  refine ⟨rfl, fun k z => (by cases z), [.list (ns.map PyData.int)], fun _ => False, fun a z => False.elim z, ⟨rfl, fun i v d h1 h2 => ?_⟩, ?_⟩
  · rw [if_neg (fun z => by cases z)]
    cases i with
    | zero =>
      simp at h1 h2
      subst h1 h2
      refine .lst ?_ (rp_ints ns)
      rcases hS with h | h
      · exact .inl ⟨fun z => z, h⟩
      · exact .inr h
    | succ i => simp at h1
  · rw [e]
    intro Wr v H' _ _ _ _ r
    cases t with
    | false => rw [if_neg (by decide)] at r; obtain ⟨r, _⟩ := r; cases r; exact hQ _
    | true => rw [if_pos rfl] at r; obtain ⟨p, _, _, _, _, z⟩ := r; exact z.elim
theorem walk {l : PySem.W.OpenLaw} {k : Nat} {q : Program} {loose : List Str} {XP : (Str → Option Value) → Heap → Prop} {YP : World → Heap → Prop} {d : DefRec} {K : Params → PySem.W.Frag} (hk : Room k callerA) (hn : l.most = some 63) (hdf : d.params.defaults = [])
    (hY : ∀ (w : World) (h : Heap), YP w h → (K w.params).In h)
    (F : ∀ (w : World) (mg : Str → Option Value) (fa : Addr) (h : Heap), (K w.params).In h → h.Ns mainGlobals mg → mg d.name = some (.ref fa) →
      ∃ fd : FuncData, (∀ (s : Shared) (u : Value), BindsTo s fd ⟨[u], []⟩ [("script", u)]) ∧ ∀ base : Heap, (K w.params).In base → base.Ns mainGlobals mg → FnOk l.prog w (K w.params) mg base (L2.CX l.prog w) k fa fd ["script"] (spLaw (K w.params))) :
    PySem.W.WalkO q loose XP YP l.row.toRowW d [] (fun f vs => PySem.call f vs) :=
  L2.walk_of (n := 63) (k := k) (x := "script") (CX := fun w => L2.CX l.prog w) (sp := fun w => spLaw (K w.params)) hn (by decide) hdf hk hY F (fun _ _ a ns hl _ hS => ⟨a, ns, rfl, hS, hl, fun _ => rfl⟩) fun w H s e s' => hcx_none w H s e s'
end PV
namespace PV
open PySem L2

/-! ### the run of a code, by rewriting -/
section
variable {α β : Type}
theorem bind_ok {a : α} {ρ : Rho} {f : α → Rho → Rs β} : Rs.bind (.ok a ρ) f = f a ρ := rfl
theorem bind_ex {c : Nat} {x : D} {ρ : Rho} {f : α → Rho → Rs β} : Rs.bind (.ex c x ρ) f = .ex c x ρ := rfl
theorem fl_ok {a : α} {ρ : Rho} {f : α → Rho → Fl} : Rs.fl (.ok a ρ) f = f a ρ := rfl
theorem fl_ex {c : Nat} {x : D} {ρ : Rho} {f : α → Rho → Fl} : Rs.fl (.ex c x ρ) f = .ex c x ρ := rfl
theorem bind_ite {p : Prop} [Decidable p] {a b : Rs α} {f : α → Rho → Rs β} : Rs.bind (if p then a else b) f = if p then Rs.bind a f else Rs.bind b f := by split <;> rfl
theorem flR_ite {p : Prop} [Decidable p] {a b : Rs α} {f : α → Rho → Fl} : Rs.fl (if p then a else b) f = if p then Rs.fl a f else Rs.fl b f := by split <;> rfl
def Fl.seq (r : Fl) (f : Es) : Fl := match r with
  | .nx ρ => f ρ
  | r => r
theorem x_seq (f1 f2 : Es) (ρ : Rho) : fSeq f1 f2 ρ = Fl.seq (f1 ρ) f2 := by
  unfold fSeq Fl.seq
  cases f1 ρ <;> rfl
theorem seq_nx {ρ : Rho} {f : Es} : Fl.seq (.nx ρ) f = f ρ := rfl
theorem seq_rt {d : D} {t : Bool} {ρ : Rho} {f : Es} : Fl.seq (.rt d t ρ) f = .rt d t ρ := rfl
theorem seq_bk {ρ : Rho} {f : Es} : Fl.seq (.bk ρ) f = .bk ρ := rfl
theorem seq_ct {ρ : Rho} {f : Es} : Fl.seq (.ct ρ) f = .ct ρ := rfl
theorem seq_ex {c : Nat} {x : D} {ρ : Rho} {f : Es} : Fl.seq (.ex c x ρ) f = .ex c x ρ := rfl
theorem seq_ite {p : Prop} [Decidable p] {a b : Fl} {f : Es} : Fl.seq (if p then a else b) f = if p then Fl.seq a f else Fl.seq b f := by split <;> rfl
def Fl.fin (io : Option Nat) (r : Fl) : FR := match r with
  | .nx ρ => exitF io .none false ρ
  | .rt d t ρ => exitF io d t ρ
  | .ex c x _ => (match io with | none => .ex c x | some _ => .no)
  | _ => .no
theorem x_run (n N : Nat) (io : Option Nat) (body : Es) (ds : List D) : runF n N io body ds = if ds.length = n then Fl.fin io (body (rho0 N io ds)) else .no := by
  unfold runF Fl.fin
  split
  · cases body (rho0 N io ds) <;> rfl
  · rfl
theorem fin_nx {io : Option Nat} {ρ : Rho} : Fl.fin io (.nx ρ) = exitF io .none false ρ := rfl
theorem fin_rt {io : Option Nat} {d : D} {t : Bool} {ρ : Rho} : Fl.fin io (.rt d t ρ) = exitF io d t ρ := rfl
theorem fin_ex {c : Nat} {x : D} {ρ : Rho} : Fl.fin none (.ex c x ρ) = .ex c x := rfl
theorem fin_ite {p : Prop} [Decidable p] {a b : Fl} {io : Option Nat} : Fl.fin io (if p then a else b) = if p then Fl.fin io a else Fl.fin io b := by split <;> rfl
theorem exit_none {d : D} {t : Bool} {ρ : Rho} : exitF none d t ρ = .ret d t .none := rfl
theorem exit_some {i : Nat} {d : D} {t : Bool} {ρ : Rho} : exitF (some i) d t ρ = match ρ[i]? with | some (.io d') => .ret d t d' | _ => .no := rfl
def optK (o : Option (D × Bool)) (ρ : Rho) : Rs (D × Bool) := match o with
  | some z => .ok z ρ
  | none => .no
theorem opt_some {z : D × Bool} {ρ : Rho} : optK (some z) ρ = .ok z ρ := rfl
variable {Y : DE} {ρ : Rho}
/-! values -/
theorem d_eVar {i : Nat} : den Y (.eVar i) ρ = match ρ[i]? with | some (.val d) => .ok (d, false) ρ | some (.own d) => .ok (d, false) (ρ.set i (.val d)) | _ => .no := rfl
theorem d_eMov {i : Nat} : den Y (.eMov i) ρ = match ρ[i]? with | some (.val d) => .ok (d, false) ρ | some (.own d) => .ok (d, true) (ρ.set i .no) | _ => .no := rfl
theorem d_eInt {i : Int} : den Y (.eInt i) ρ = .ok (.int i, false) ρ := rfl
theorem d_eStr {i : Str} : den Y (.eStr i) ρ = .ok (.str i, false) ρ := rfl
theorem d_eBl {i : Bool} : den Y (.eBl i) ρ = .ok (.bool i, false) ρ := rfl
theorem d_eNon : den Y .eNon ρ = .ok (.none, false) ρ := rfl
theorem d_eGlob {j : Nat} : den Y (.eGlob j) ρ = .ok (Y.ks j, false) ρ := rfl
def q1 (kk : D → D → Option (D × Bool)) (fb : EvA) (a : AV) (ρ : Rho) : Rs (D × Bool) := (fb ρ).bind fun b ρ2 => match a.ct ρ2, b.ct ρ2 with
  | some x, some y => (match kk x y with | some z => .ok z ρ2 | none => .no)
  | _, _ => .no
def q2 (kk : D → D → Option (D × Bool)) (a b : AV) (ρ : Rho) : Rs (D × Bool) := match a.ct ρ, b.ct ρ with
  | some x, some y => optK (kk x y) ρ
  | _, _ => .no
theorem x_q1 {kk : D → D → Option (D × Bool)} {fb : EvA} {a : AV} : q1 kk fb a ρ = (fb ρ).bind (q2 kk a) := rfl
theorem x_q2 {kk : D → D → Option (D × Bool)} {a b : AV} : q2 kk a b ρ = match a.ct ρ, b.ct ρ with | some x, some y => optK (kk x y) ρ | _, _ => .no := rfl
theorem d_eBin {o : Operator} {a b : Cd .A} : den Y (.eBin o a b) ρ = (den Y a ρ).bind (q1 (kB o) (den Y b)) := rfl
theorem d_eCmp {o : CmpOp} {a b : Cd .A} : den Y (.eCmp o a b) ρ = (den Y a ρ).bind (q1 (kC o) (den Y b)) := rfl
theorem d_eIx {a b : Cd .A} : den Y (.eIx a b) ρ = (den Y a ρ).bind (q1 bIx (den Y b)) := rfl
/-- the first half of a chain -/
def chB (o : Option (D × Bool)) (ρ : Rho) (k : Rho → Rs (D × Bool)) : Rs (D × Bool) := match o with
  | some (.bool true, false) => k ρ
  | some (.bool false, false) => .ok (.bool false, false) ρ
  | _ => .no
theorem chB_b {b : Bool} {ρ : Rho} {k : Rho → Rs (D × Bool)} : chB (some (.bool b, false)) ρ k = if b = true then k ρ else .ok (.bool false, false) ρ := by cases b <;> rfl
def c1 (k1 k2 : D → D → Option (D × Bool)) (fb fc : EvA) (a : AV) (ρ1 : Rho) : Rs (D × Bool) := (fb ρ1).bind fun b ρ2 => match a.ct ρ2, b.ct ρ2 with
  | some x, some y => (match k1 x y with
    | some (.bool true, false) => (fc ρ2).bind fun c ρ3 => (match b.ct ρ3, c.ct ρ3 with
      | some y', some z => (match k2 y' z with | some w => .ok w ρ3 | none => .no)
      | _, _ => .no)
    | some (.bool false, false) => .ok (.bool false, false) ρ2
    | _ => .no)
  | _, _ => .no
def c4 (k2 : D → D → Option (D × Bool)) (fc : EvA) (b : AV) (ρ2 : Rho) : Rs (D × Bool) := (fc ρ2).bind (q2 k2 b)
def c2 (k1 k2 : D → D → Option (D × Bool)) (fc : EvA) (a b : AV) (ρ2 : Rho) : Rs (D × Bool) := match a.ct ρ2, b.ct ρ2 with
  | some x, some y => chB (k1 x y) ρ2 (c4 k2 fc b)
  | _, _ => .no
theorem x_c1 {k1 k2 : D → D → Option (D × Bool)} {fb fc : EvA} {a : AV} : c1 k1 k2 fb fc a ρ = (fb ρ).bind (c2 k1 k2 fc a) := rfl
theorem x_c2 {k1 k2 : D → D → Option (D × Bool)} {fc : EvA} {a b : AV} : c2 k1 k2 fc a b ρ = match a.ct ρ, b.ct ρ with | some x, some y => chB (k1 x y) ρ (c4 k2 fc b) | _, _ => .no := rfl
theorem x_c4 {k2 : D → D → Option (D × Bool)} {fc : EvA} {b : AV} : c4 k2 fc b ρ = (fc ρ).bind (q2 k2 b) := rfl
theorem d_eChain {o1 o2 : CmpOp} {a b c : Cd .A} : den Y (.eChain o1 o2 a b c) ρ = (den Y a ρ).bind (c1 (kC o1) (kC o2) (den Y b) (den Y c)) := rfl
theorem d_eOne {a : Cd .E} : den Y (.eOne a) ρ = den Y a ρ := rfl
def andB (k : Ev) (r : D × Bool) (ρ : Rho) : Rs (D × Bool) := match r.1 with
  | .bool true => k ρ
  | .bool false => .ok (.bool false, false) ρ
  | _ => .no
def orB (k : Ev) (r : D × Bool) (ρ : Rho) : Rs (D × Bool) := match r.1 with
  | .bool false => k ρ
  | .bool true => .ok (.bool true, false) ρ
  | _ => .no
theorem andB_b {b t : Bool} {k : Ev} : andB k (.bool b, t) ρ = if b = true then k ρ else .ok (.bool false, false) ρ := by cases b <;> rfl
theorem orB_b {b t : Bool} {k : Ev} : orB k (.bool b, t) ρ = if b = true then .ok (.bool true, false) ρ else k ρ := by cases b <;> rfl
theorem d_eAnd {a b : Cd .E} : den Y (.eAnd a b) ρ = (den Y a ρ).bind (andB (den Y b)) := rfl
theorem d_eOr {a b : Cd .E} : den Y (.eOr a b) ρ = (den Y a ρ).bind (orB (den Y b)) := rfl
def notV (r : D × Bool) (ρ : Rho) : Rs (D × Bool) := match r.1 with
  | .bool b => .ok (.bool (!b), false) ρ
  | _ => .no
theorem notV_b {b t : Bool} : notV (.bool b, t) ρ = .ok (.bool (!b), false) ρ := rfl
theorem d_eNot {a : Cd .E} : den Y (.eNot a) ρ = (den Y a ρ).bind notV := rfl
def tupV (as : List AV) (ρ : Rho) : Rs (D × Bool) := match avVals as with
  | some ds => if ds.length ≤ 1000 then .ok (.tuple ds, false) ρ else .no
  | none => .no
def lstV (as : List AV) (ρ : Rho) : Rs (D × Bool) := match avVals as with
  | some ds => if ds.length ≤ 1000 then .ok (.list ds, true) ρ else .no
  | none => .no
theorem x_tupV {as : List AV} : tupV as ρ = match avVals as with | some ds => if ds.length ≤ 1000 then .ok (.tuple ds, false) ρ else .no | none => .no := rfl
theorem x_lstV {as : List AV} : lstV as ρ = match avVals as with | some ds => if ds.length ≤ 1000 then .ok (.list ds, true) ρ else .no | none => .no := rfl
theorem d_eTup {l : Cd .L} : den Y (.eTup l) ρ = (den Y l ρ).bind tupV := rfl
theorem d_eLst {l : Cd .L} : den Y (.eLst l) ρ = (den Y l ρ).bind lstV := rfl
def cbV (kk : List D → Option (D × Bool)) (as : List AV) (ρ : Rho) : Rs (D × Bool) := match cts ρ as with
  | some ds => optK (kk ds) ρ
  | none => .no
theorem x_cbV {kk : List D → Option (D × Bool)} {as : List AV} : cbV kk as ρ = match cts ρ as with | some ds => optK (kk ds) ρ | none => .no := rfl
theorem d_eCB {f : Bf} {l : Cd .L} : den Y (.eCB f l) ρ = (den Y l ρ).bind (cbV f.sem) := rfl
def retV (r : FR) (ρ : Rho) : Rs (D × Bool) := match r with
  | .ret d t _ => .ok (d, t) ρ
  | .ex c x => .ex c x ρ
  | .no => .no
def retIo (r : FR) (i : Nat) (own : Bool) (ρ : Rho) : Rs (D × Bool) := match r with
  | .ret d t d' => .ok (d, t) (ρ.set i (if own = true then .own d' else .io d'))
  | _ => .no
theorem retV_ret {d : D} {t : Bool} {d' : D} : retV (.ret d t d') ρ = .ok (d, t) ρ := rfl
theorem retV_ex {c : Nat} {x : D} : retV (.ex c x) ρ = .ex c x ρ := rfl
theorem retIo_own {d : D} {t : Bool} {d' : D} {i : Nat} : retIo (.ret d t d') i true ρ = .ok (d, t) (ρ.set i (.own d')) := rfl
theorem retIo_io {d : D} {t : Bool} {d' : D} {i : Nat} : retIo (.ret d t d') i false ρ = .ok (d, t) (ρ.set i (.io d')) := rfl
def callV (n : Nat) (io : Option Nat) (sem : List D → FR) (as : List AV) (ρ1 : Rho) : Rs (D × Bool) := if as.length = n then (match io with
  | none => (match avVals as with
    | some ds => (match sem ds with
      | .ret d t _ => .ok (d, t) ρ1
      | .ex c x => .ex c x ρ1
      | .no => .no)
    | none => .no)
  | some m => (match as[m]? with
    | some (.r i) => (match ρ1[i]?, avVals (as.set m (.v .none)), cts ρ1 as with
      | some (.own _), some _, some ds => (match sem ds with
        | .ret d t d' => .ok (d, t) (ρ1.set i (.own d'))
        | _ => .no)
      | some (.io _), some _, some ds => (match sem ds with
        | .ret d t d' => .ok (d, t) (ρ1.set i (.io d'))
        | _ => .no)
      | _, _, _ => .no)
    | _ => .no)) else .no
theorem x_call0 {n : Nat} {sem : List D → FR} {as : List AV} : callV n none sem as ρ = if as.length = n then (match avVals as with | some ds => retV (sem ds) ρ | none => .no) else .no := rfl
theorem x_call1 {n m : Nat} {sem : List D → FR} {as : List AV} : callV n (some m) sem as ρ = if as.length = n then (match as[m]? with
    | some (.r i) => (match ρ[i]?, avVals (as.set m (.v .none)), cts ρ as with
      | some (.own _), some _, some ds => retIo (sem ds) i true ρ
      | some (.io _), some _, some ds => retIo (sem ds) i false ρ
      | _, _, _ => .no)
    | _ => .no) else .no := rfl
theorem d_eCall {j n : Nat} {io : Option Nat} {l : Cd .L} : den Y (.eCall j n io l) ρ = (den Y l ρ).bind (callV n io (Y.sem j)) := rfl
def isiV (q : IK) (a : AV) (ρ : Rho) : Rs (D × Bool) := match a.ct ρ with
  | some d => .ok (.bool (isiD q d), false) ρ
  | none => .no
theorem x_isiV {q : IK} {a : AV} : isiV q a ρ = match a.ct ρ with | some d => .ok (.bool (isiD q d), false) ρ | none => .no := rfl
theorem d_eIsi {q : IK} {a : Cd .A} : den Y (.eIsi q a) ρ = (den Y a ρ).bind (isiV q) := rfl
def negV (a : AV) (ρ : Rho) : Rs (D × Bool) := match a.ct ρ with
  | some (.int i) => .ok (.int (-i), false) ρ
  | _ => .no
theorem x_negV {a : AV} : negV a ρ = match a.ct ρ with | some (.int i) => .ok (.int (-i), false) ρ | _ => .no := rfl
theorem d_eNeg {a : Cd .A} : den Y (.eNeg a) ρ = (den Y a ρ).bind negV := rfl
theorem d_eDicK : den Y .eDicK ρ = .ok (.dict [], true) ρ := rfl
theorem d_eDicT : den Y .eDicT ρ = .ok (.dict [(.none, .none)], true) ρ := rfl
def sl3 (a : AV) (lo hi : Option Int) (ρ : Rho) : Rs (D × Bool) := match a.ct ρ with
  | some d => optK (sSl d lo hi) ρ
  | none => .no
def sl2 (a : AV) (fh : Rho → Rs (Option Int)) (lo : Option Int) (ρ : Rho) : Rs (D × Bool) := (fh ρ).bind (sl3 a lo)
def sl1 (fl fh : Rho → Rs (Option Int)) (a : AV) (ρ : Rho) : Rs (D × Bool) := (fl ρ).bind (sl2 a fh)
theorem x_sl1 {fl fh : Rho → Rs (Option Int)} {a : AV} : sl1 fl fh a ρ = (fl ρ).bind (sl2 a fh) := rfl
theorem x_sl2 {fh : Rho → Rs (Option Int)} {a : AV} {lo : Option Int} : sl2 a fh lo ρ = (fh ρ).bind (sl3 a lo) := rfl
theorem x_sl3 {a : AV} {lo hi : Option Int} : sl3 a lo hi ρ = match a.ct ρ with | some d => optK (sSl d lo hi) ρ | none => .no := rfl
theorem d_eSl {a : Cd .A} {lo hi : Cd .O} : den Y (.eSl a lo hi) ρ = (den Y a ρ).bind (sl1 (den Y lo) (den Y hi)) := rfl
def o1 (a : AV) (ρ : Rho) : Rs (Option Int) := match a.ct ρ with
  | some (.int i) => .ok (some i) ρ
  | _ => .no
theorem x_o1 {a : AV} : o1 a ρ = match a.ct ρ with | some (.int i) => .ok (some i) ρ | _ => .no := rfl
theorem d_oNone : den Y .oNone ρ = .ok none ρ := rfl
theorem d_oSome {a : Cd .A} : den Y (.oSome a) ρ = (den Y a ρ).bind o1 := rfl
def revV (a : AV) (ρ : Rho) : Rs (D × Bool) := match a.ct ρ with
  | some (.list ds) => .ok (.list ds.reverse, true) ρ
  | _ => .no
theorem x_revV {a : AV} : revV a ρ = match a.ct ρ with | some (.list ds) => .ok (.list ds.reverse, true) ρ | _ => .no := rfl
theorem d_eRevL {a : Cd .A} : den Y (.eRevL a) ρ = (den Y a ρ).bind revV := rfl
def compFin (ρ1 : Rho) (own : List Nat) (r : Rs (List D)) : Rs (D × Bool) := match r with
  | .ok out ρ2 => .ok (.list out, true) (unwipe ρ1 own ρ2)
  | _ => .no
def compV (own : List Nat) (tgt : Tgt) (c : EvT) (e : Ev) (ds : List D) (ρ1 : Rho) : Rs (D × Bool) := match compLoop own tgt c e ds [] (wipeR own ρ1) with
  | .ok out ρ2 => .ok (.list out, true) (unwipe ρ1 own ρ2)
  | _ => .no
theorem x_compV {own : List Nat} {tgt : Tgt} {c : EvT} {e : Ev} {ds : List D} : compV own tgt c e ds ρ = compFin ρ own (compLoop own tgt c e ds [] (wipeR own ρ)) := rfl
theorem compFin_ok {ρ1 ρ2 : Rho} {own : List Nat} {out : List D} : compFin ρ1 own (.ok out ρ2) = .ok (.list out, true) (unwipe ρ1 own ρ2) := rfl
theorem d_eComp {own : List (Str × Nat)} {is : List Nat} {it : Cd .I} {tg : Cd .G} {c : Cd .C} {e : Cd .E} : den Y (.eComp own is it tg c e) ρ = (den Y it ρ).bind (compV (own.map (·.2)) (den Y tg) (den Y c) (den Y e)) := rfl
theorem d_eCompB {i : Nat} {own : List (Str × Nat)} {is : List Nat} {tg : Cd .G} {c : Cd .C} {e : Cd .E} : den Y (.eCompB i own is tg c e) ρ = fCompB i (own.map (·.2)) (den Y tg) (den Y c) (den Y e) ρ := rfl
theorem d_ePop {i : Nat} : den Y (.ePop i) ρ = match lsAt ρ i with
  | some ds => (match ds.getLast? with
    | some d => .ok (d, false) (reOwn ρ i (.list ds.dropLast))
    | none => .no)
  | none => .no := rfl
def valA (r : D × Bool) (ρ : Rho) : Rs AV := .ok (.v r.1) ρ
theorem x_valA {r : D × Bool} : valA r ρ = .ok (.v r.1) ρ := rfl
theorem d_aVal {e : Cd .E} : den Y (.aVal e) ρ = (den Y e ρ).bind valA := rfl
theorem d_aRef {i : Nat} : den Y (.aRef i) ρ = match slCt ρ i with | some _ => .ok (.r i) ρ | none => .no := rfl
theorem d_lNil : den Y .lNil ρ = .ok [] ρ := rfl
def l2 (a : AV) (as : List AV) (ρ : Rho) : Rs (List AV) := .ok (a :: as) ρ
def l1 (fl : EvL) (a : AV) (ρ : Rho) : Rs (List AV) := (fl ρ).bind (l2 a)
theorem x_l1 {fl : EvL} {a : AV} : l1 fl a ρ = (fl ρ).bind (l2 a) := rfl
theorem x_l2 {a : AV} {as : List AV} : l2 a as ρ = .ok (a :: as) ρ := rfl
theorem d_lCons {a : Cd .A} {l : Cd .L} : den Y (.lCons a l) ρ = (den Y a ρ).bind (l1 (den Y l)) := rfl
/-! tests -/
def blT (r : D × Bool) (ρ : Rho) : Rs Bool := match r.1 with
  | .bool b => .ok b ρ
  | _ => .no
theorem blT_b {b t : Bool} : blT (.bool b, t) ρ = .ok b ρ := rfl
theorem d_tE {e : Cd .E} : den (k := .T) Y (.tE e) ρ = (den Y e ρ).bind blT := rfl
theorem d_tCmp {o : CmpOp} {a b : Cd .A} : den (k := .T) Y (.tCmp o a b) ρ = ((den Y a ρ).bind (q1 (kC o) (den Y b))).bind blT := rfl
theorem d_tChain {o1 o2 : CmpOp} {a b c : Cd .A} : den (k := .T) Y (.tChain o1 o2 a b c) ρ = ((den Y a ρ).bind (c1 (kC o1) (kC o2) (den Y b) (den Y c))).bind blT := rfl
theorem d_tW {w : Cd .W} : den (k := .T) Y (.tW w) ρ = den (k := .W) Y w ρ := rfl
def notT (b : Bool) (ρ : Rho) : Rs Bool := .ok (!b) ρ
theorem x_notT {b : Bool} : notT b ρ = .ok (!b) ρ := rfl
theorem d_tNot {t : Cd .T} : den (k := .T) Y (.tNot t) ρ = (den (k := .T) Y t ρ).bind notT := rfl
theorem d_wOne {t : Cd .T} : den (k := .W) Y (.wOne t) ρ = den (k := .T) Y t ρ := rfl
def andT (k : EvT) (b : Bool) (ρ : Rho) : Rs Bool := if b = true then k ρ else .ok false ρ
def orT (k : EvT) (b : Bool) (ρ : Rho) : Rs Bool := if b = true then .ok true ρ else k ρ
theorem x_andT {k : EvT} {b : Bool} : andT k b ρ = if b = true then k ρ else .ok false ρ := rfl
theorem x_orT {k : EvT} {b : Bool} : orT k b ρ = if b = true then .ok true ρ else k ρ := rfl
theorem d_wAnd {t : Cd .T} {w : Cd .W} : den (k := .W) Y (.wAnd t w) ρ = (den (k := .T) Y t ρ).bind (andT (den (k := .W) Y w)) := rfl
theorem d_wOr {t : Cd .T} {w : Cd .W} : den (k := .W) Y (.wOr t w) ρ = (den (k := .T) Y t ρ).bind (orT (den (k := .W) Y w)) := rfl
theorem d_cNil : den (k := .C) Y .cNil ρ = .ok true ρ := rfl
theorem d_cOne {t : Cd .T} : den (k := .C) Y (.cOne t) ρ = den (k := .T) Y t ρ := rfl
/-! iterators -/
def itV (r : D × Bool) (ρ : Rho) : Rs (List D) := match r.1 with
  | .list ds => .ok ds ρ
  | .tuple ds => .ok ds ρ
  | .str z => .ok (chD z) ρ
  | _ => .no
theorem itV_l {ds : List D} {t : Bool} : itV (.list ds, t) ρ = .ok ds ρ := rfl
theorem itV_t {ds : List D} {t : Bool} : itV (.tuple ds, t) ρ = .ok ds ρ := rfl
theorem itV_s {z : Str} {t : Bool} : itV (.str z, t) ρ = .ok (chD z) ρ := rfl
theorem d_iIt {e : Cd .E} : den Y (.iIt e) ρ = (den Y e ρ).bind itV := rfl
/-! targets -/
theorem d_gNm {i : Nat} {d : D} : den Y (.gNm i) d ρ = if stOk ρ i = true then some (ρ.set i (.val d)) else none := rfl
theorem d_gTup {is : List Nat} {ds : List D} : den Y (.gTup is) (.tuple ds) ρ = tgAll is ds ρ := rfl
/-! statements -/
def retS (r : D × Bool) (ρ : Rho) : Fl := .rt r.1 r.2 ρ
theorem x_retS {r : D × Bool} : retS r ρ = .rt r.1 r.2 ρ := rfl
theorem d_sRet {e : Cd .E} : den (k := .S) Y (.sRet e) ρ = (den Y e ρ).fl retS := rfl
theorem d_sRetN : den (k := .S) Y .sRetN ρ = .rt .none false ρ := rfl
def expS (r : D × Bool) (ρ : Rho) : Fl := .nx ρ
theorem x_expS {r : D × Bool} : expS r ρ = .nx ρ := rfl
theorem d_sExp {e : Cd .E} : den (k := .S) Y (.sExp e) ρ = (den Y e ρ).fl expS := rfl
def ifS (a b : Es) (t : Bool) (ρ : Rho) : Fl := if t = true then a ρ else b ρ
theorem x_ifS {a b : Es} {t : Bool} : ifS a b t ρ = if t = true then a ρ else b ρ := rfl
theorem d_sIf {t : Cd .T} {a b : Cd .B} : den (k := .S) Y (.sIf t a b) ρ = (den (k := .T) Y t ρ).fl (ifS (den (k := .B) Y a) (den (k := .B) Y b)) := rfl
theorem d_sPass : den (k := .S) Y .sPass ρ = .nx ρ := rfl
theorem d_sBrk : den (k := .S) Y .sBrk ρ = .bk ρ := rfl
theorem d_sCnt : den (k := .S) Y .sCnt ρ = .ct ρ := rfl
def asgS (i : Nat) (r : D × Bool) (ρ : Rho) : Fl := if stOk ρ i = true then .nx (ρ.set i (slOf r.1 r.2)) else .no
theorem x_asgS {i : Nat} {r : D × Bool} : asgS i r ρ = if stOk ρ i = true then .nx (ρ.set i (slOf r.1 r.2)) else .no := rfl
theorem d_sSet {i : Nat} {e : Cd .E} : den (k := .S) Y (.sSet i e) ρ = (den Y e ρ).fl (asgS i) := rfl
def tupS (is : List Nat) (r : D × Bool) (ρ : Rho) : Fl := match tgTup is r.1 ρ with
  | some ρ2 => .nx ρ2
  | none => .no
theorem x_tupS {is : List Nat} {ds : List D} {t : Bool} : tupS is (.tuple ds, t) ρ = match tgAll is ds ρ with | some ρ2 => .nx ρ2 | none => .no := rfl
theorem d_sTup {is : List Nat} {e : Cd .E} : den (k := .S) Y (.sTup is e) ρ = (den Y e ρ).fl (tupS is) := rfl
def appS (i : Nat) (r : D × Bool) (ρ : Rho) : Fl := match lsAt ρ i with
  | some ds => if ds.length < 1000000 then .nx (reOwn ρ i (.list (ds ++ [r.1]))) else .no
  | none => .no
theorem x_appS {i : Nat} {r : D × Bool} : appS i r ρ = match lsAt ρ i with | some ds => if ds.length < 1000000 then .nx (reOwn ρ i (.list (ds ++ [r.1]))) else .no | none => .no := rfl
theorem d_sApp {i : Nat} {e : Cd .E} : den (k := .S) Y (.sApp i e) ρ = match lsAt ρ i with | none => .no | some _ => (den Y e ρ).fl (appS i) := rfl
def putS2 (i : Nat) (d : D) (j : AV) (ρ : Rho) : Fl := match j.ct ρ with
  | some key => putAt i d key ρ
  | none => .no
def putS (i : Nat) (fj : EvA) (r : D × Bool) (ρ : Rho) : Fl := match slCt ρ i with
  | some _ => (fj ρ).fl (putS2 i r.1)
  | none => .no
theorem x_putS {i : Nat} {fj : EvA} {r : D × Bool} : putS i fj r ρ = match slCt ρ i with | some _ => (fj ρ).fl (putS2 i r.1) | none => .no := rfl
theorem x_putS2 {i : Nat} {d : D} {j : AV} : putS2 i d j ρ = match j.ct ρ with | some key => putAt i d key ρ | none => .no := rfl
theorem d_sPut {i : Nat} {e : Cd .E} {j : Cd .A} : den (k := .S) Y (.sPut i e j) ρ = (den Y e ρ).fl (putS i (den Y j)) := rfl
def forS (tgt : Tgt) (body : Es) (ds : List D) (ρ : Rho) : Fl := forLoop tgt body ds ρ
theorem x_forS {tgt : Tgt} {body : Es} {ds : List D} : forS tgt body ds ρ = forLoop tgt body ds ρ := rfl
theorem d_sFor {is : List Nat} {it : Cd .I} {tg : Cd .G} {b : Cd .B} : den (k := .S) Y (.sFor is it tg b) ρ = (den Y it ρ).fl (forS (den Y tg) (den (k := .B) Y b)) := rfl
theorem d_sWhile {n : Nat} {t : Cd .T} {b : Cd .B} : den (k := .S) Y (.sWhile n t b) ρ = whileL (den (k := .T) Y t) (den (k := .B) Y b) n ρ := rfl
theorem d_sRaise {c : Nat} : den (k := .S) Y (.sRaise c) ρ = .ex c .none ρ := rfl
def Fl.hand (r : Fl) (ct : Nat → Option Str) (hl : List (Nat × Es)) : Fl := match r with
  | .ex c x ρ1 => (match ct c with
    | some _ => fHands hl c x ρ1
    | none => .no)
  | r => r
theorem hand_nx {ct : Nat → Option Str} {hl : List (Nat × Es)} : Fl.hand (.nx ρ) ct hl = .nx ρ := rfl
theorem hand_rt {ct : Nat → Option Str} {hl : List (Nat × Es)} {d : D} {t : Bool} : Fl.hand (.rt d t ρ) ct hl = .rt d t ρ := rfl
theorem hand_ex {ct : Nat → Option Str} {hl : List (Nat × Es)} {c : Nat} {x : D} : Fl.hand (.ex c x ρ) ct hl = match ct c with | some _ => fHands hl c x ρ | none => .no := rfl
theorem d_sTry {b : Cd .B} {h : Cd .H} : den (k := .S) Y (.sTry b h) ρ = Fl.hand (den (k := .B) Y b ρ) Y.ct (den Y h) := by
  show fTry _ _ _ _ = _
  unfold fTry Fl.hand
  cases den (k := .B) Y b ρ <;> rfl
theorem d_hNil : den Y .hNil = ([] : List (Nat × Es)) := rfl
theorem d_hCons {j : Nat} {b : Cd .B} {h : Cd .H} : den Y (.hCons j b h) = ((j, den (k := .B) Y b) :: den Y h : List (Nat × Es)) := rfl
theorem hands_nil {c : Nat} {x : D} : fHands [] c x ρ = .ex c x ρ := rfl
theorem hands_cons {j : Nat} {f : Es} {r : List (Nat × Es)} {c : Nat} {x : D} : fHands ((j, f) :: r) c x ρ = if c = j then noEx (f ρ) else fHands r c x ρ := rfl
theorem noEx_nx : noEx (.nx ρ) = .nx ρ := rfl
theorem noEx_rt {d : D} {t : Bool} : noEx (.rt d t ρ) = .rt d t ρ := rfl
theorem d_bNil : den (k := .B) Y .bNil ρ = .nx ρ := rfl
theorem d_bCons {s : Cd .S} {b : Cd .B} : den (k := .B) Y (.bCons s b) ρ = Fl.seq (den (k := .S) Y s ρ) (den (k := .B) Y b) := x_seq _ _ _
end
section
variable {Y : DE} {ρ : Rho} {x y : D}
theorem k_add : kB .Add = bAdd := rfl
theorem k_sub : kB .Sub = bSub := rfl
theorem k_mul : kB .Mult = bMul := rfl
theorem k_div : kB .FloorDiv = bDiv := rfl
theorem k_mod : kB .Mod = bMod := rfl
theorem k_pow : kB .Pow = bPow := rfl
theorem k_eq : kC .Eq = bEq := rfl
theorem k_ne : kC .NotEq = bNe := rfl
theorem k_lt : kC .Lt = bLt := rfl
theorem k_le : kC .LtE = bLe := rfl
theorem k_gt : kC .Gt = bGt := rfl
theorem k_ge : kC .GtE = bGe := rfl
theorem k_is : kC .Is = bIs := rfl
theorem k_isn : kC .IsNot = bIsNot := rfl
theorem k_in : kC .In = bInX := rfl
theorem k_nin : kC .NotIn = bNotInX := rfl
theorem isi_non (k : IK) : isiD k .none = false := by cases k <;> rfl
theorem isi_bl (k : IK) (b : Bool) : isiD k (.bool b) = (match k with | .int => true | .bool => true | _ => false) := by cases k <;> rfl
theorem isi_int (k : IK) (i : Int) : isiD k (.int i) = (match k with | .int => true | _ => false) := by cases k <;> rfl
theorem isi_str (k : IK) (i : Str) : isiD k (.str i) = (match k with | .str => true | _ => false) := by cases k <;> rfl
theorem isi_lst (k : IK) (i : List D) : isiD k (.list i) = (match k with | .list => true | _ => false) := by cases k <;> rfl
theorem isi_tup (k : IK) (i : List D) : isiD k (.tuple i) = (match k with | .tuple => true | _ => false) := by cases k <;> rfl
theorem isi_dic (k : IK) (i : List (D × D)) : isiD k (.dict i) = (match k with | .dict => true | _ => false) := by cases k <;> rfl
/-! operators on known kinds -/
theorem add_int (i j : Int) : bAdd (.int i) (.int j) = some (.int (i + j), false) := rfl
theorem sub_int' (i j : Int) : bSub (.int i) (.int j) = some (.int (i - j), false) := rfl
theorem mul_int' {i j : Int} (h : mulOk i j = true) : bMul (.int i) (.int j) = some (.int (i * j), false) := if_pos h
theorem mod_int' {i j : Int} (h : 0 < j) : bMod (.int i) (.int j) = some (.int (i % j), false) := if_pos h
theorem div_int' {i j : Int} (h : 0 < j ∧ j.natAbs.log2 < 9000) : bDiv (.int i) (.int j) = some (.int (i / j), false) := if_pos h
theorem lt_int' (i j : Int) : bLt (.int i) (.int j) = some (.bool (decide (i < j)), false) := rfl
theorem le_int' (i j : Int) : bLe (.int i) (.int j) = some (.bool (decide (i ≤ j)), false) := rfl
theorem gt_int' (i j : Int) : bGt (.int i) (.int j) = some (.bool (decide (j < i)), false) := rfl
theorem ge_int' (i j : Int) : bGe (.int i) (.int j) = some (.bool (decide (j ≤ i)), false) := rfl
theorem add_str {a b : Str} (h : a.length + b.length ≤ 1000000) : bAdd (.str a) (.str b) = some (.str (a ++ b), false) := by
  have e : bAddS (.str a) (.str b) = some (.str (a ++ b), false) := if_pos h
  unfold bAdd
  rw [e]; rfl
theorem add_lst {a b : List D} (h : a.length + b.length ≤ 1000000) : bAdd (.list a) (.list b) = some (.list (a ++ b), true) := by
  have e : bAddL (.list a) (.list b) = some (.list (a ++ b), true) := if_pos h
  unfold bAdd
  rw [e]; rfl
theorem add_tup {a b : List D} (h : a.length + b.length ≤ 1000000) : bAdd (.tuple a) (.tuple b) = some (.tuple (a ++ b), false) := by
  have e : bAddT (.tuple a) (.tuple b) = some (.tuple (a ++ b), false) := if_pos h
  unfold bAdd
  rw [e]; rfl
theorem eq_int (i j : Int) : bEq (.int i) (.int j) = some (.bool (decide (i = j)), false) := by
  have : bEq (.int i) (.int j) = some (.bool (i == j), false) := rfl
  rw [this]
  by_cases h : i = j <;> simp [h]
theorem ne_int (i j : Int) : bNe (.int i) (.int j) = some (.bool (!decide (i = j)), false) := by
  have : bNe (.int i) (.int j) = some (.bool (!(i == j)), false) := rfl
  rw [this]
  by_cases h : i = j <;> simp [h]
theorem eq_str (i j : Str) : bEq (.str i) (.str j) = some (.bool (decide (i = j)), false) := by
  have : bEq (.str i) (.str j) = some (.bool (i == j), false) := rfl
  rw [this]
  by_cases h : i = j
  · subst h; simp
  · simp [h]
theorem ne_str (i j : Str) : bNe (.str i) (.str j) = some (.bool (!decide (i = j)), false) := by
  have : bNe (.str i) (.str j) = some (.bool (!(i == j)), false) := rfl
  rw [this]
  by_cases h : i = j
  · subst h; simp
  · simp [h]
theorem min_le_of (a b c : Nat) (h : b ≤ c) : min a b ≤ c := Nat.le_trans (Nat.min_le_right _ _) h
theorem eqOk_nil {ds : List D} (h : ndcL ds = true) : eqOk (.list ds) (.list []) = true := by
  unfold eqOk
  have h1 : ndc (.list ds) = true := by unfold ndc; exact h
  have h2 : ndc (.list ([] : List D)) = true := rfl
  have h3 : (PyData.list ([] : List D)).depth ≤ 64 := by decide
  rw [h1, h2, decide_eq_true (min_le_of _ _ _ h3)]
  rfl
theorem eq_nil {ds : List D} (h : ndcL ds = true) : bEq (.list ds) (.list []) = some (.bool ds.isEmpty, false) := by
  unfold bEq
  rw [if_pos (eqOk_nil h)]
  cases ds <;> rfl
theorem ne_nil {ds : List D} (h : ndcL ds = true) : bNe (.list ds) (.list []) = some (.bool (!ds.isEmpty), false) := by
  unfold bNe
  rw [if_pos (eqOk_nil h)]
  cases ds <;> rfl
theorem is_none (x : D) : bIs x .none = some (.bool (isNoneD x), false) := by cases x <;> rfl
theorem isn_none (x : D) : bIsNot x .none = some (.bool (!isNoneD x), false) := by cases x <;> rfl
theorem is_bool (x : D) (b : Bool) : bIs x (.bool b) = some (.bool (isBoolD b x), false) := by cases x <;> rfl
theorem isn_bool (x : D) (b : Bool) : bIsNot x (.bool b) = some (.bool (!isBoolD b x), false) := by cases x <;> rfl
theorem ndcL_str (ws : List Str) : ndcL (ws.map PyData.str) = true := by
  induction ws with
  | nil => rfl
  | cons w ws ih => show (true && ndcL (ws.map PyData.str)) = true; rw [ih]; rfl
theorem ndcL_int (ws : List Int) : ndcL (ws.map PyData.int) = true := by
  induction ws with
  | nil => rfl
  | cons w ws ih => show (true && ndcL (ws.map PyData.int)) = true; rw [ih]; rfl
theorem inD_str (a : Str) (ws : List Str) : inD (.str a) (ws.map PyData.str) = decide (a ∈ ws) := by
  unfold inD
  induction ws with
  | nil => rfl
  | cons w ws ih =>
    show (PyData.eqv (.str w) (.str a) || (ws.map PyData.str).any _) = _
    rw [ih]
    have : PyData.eqv (.str w) (.str a) = decide (a = w) := by
      show (w == a) = _
      by_cases h : w = a
      · subst h; simp
      · have h' : ¬ a = w := fun z => h z.symm
        simp [h, h']
    rw [this]
    by_cases h : a = w <;> simp [h]
theorem inOk_str (a : Str) (ws : List Str) : inOk (.str a) (ws.map PyData.str) = true := by
  unfold inOk
  have h1 : ndc (.str a) = true := rfl
  have h3 : (PyData.str a).depth ≤ 64 := by simp [PyData.depth]
  rw [h1, ndcL_str, decide_eq_true (min_le_of _ _ _ h3)]
  rfl
theorem in_lst (a : Str) (ws : List Str) : bInX (.str a) (.list (ws.map PyData.str)) = some (.bool (decide (a ∈ ws)), false) := by
  have e : bInB (.str a) (.list (ws.map PyData.str)) = some (inD (.str a) (ws.map PyData.str)) := if_pos (inOk_str a ws)
  unfold bInX bIn
  rw [e, inD_str]; rfl
theorem in_tup (a : Str) (ws : List Str) : bInX (.str a) (.tuple (ws.map PyData.str)) = some (.bool (decide (a ∈ ws)), false) := by
  have e : bInB (.str a) (.tuple (ws.map PyData.str)) = some (inD (.str a) (ws.map PyData.str)) := if_pos (inOk_str a ws)
  unfold bInX bIn
  rw [e, inD_str]; rfl
theorem nin_lst (a : Str) (ws : List Str) : bNotInX (.str a) (.list (ws.map PyData.str)) = some (.bool (!decide (a ∈ ws)), false) := by
  have e : bInB (.str a) (.list (ws.map PyData.str)) = some (inD (.str a) (ws.map PyData.str)) := if_pos (inOk_str a ws)
  unfold bNotInX bNotIn
  rw [e, inD_str]; rfl
theorem nin_tup (a : Str) (ws : List Str) : bNotInX (.str a) (.tuple (ws.map PyData.str)) = some (.bool (!decide (a ∈ ws)), false) := by
  have e : bInB (.str a) (.tuple (ws.map PyData.str)) = some (inD (.str a) (ws.map PyData.str)) := if_pos (inOk_str a ws)
  unfold bNotInX bNotIn
  rw [e, inD_str]; rfl
theorem in_sgn (c : Nat) (z : Str) : bInX (.str ⟨#[c]⟩) (.str z) = some (.bool (decide (c ∈ z.cps.toList)), false) := rfl
theorem nin_sgn (c : Nat) (z : Str) : bNotInX (.str ⟨#[c]⟩) (.str z) = some (.bool (!decide (c ∈ z.cps.toList)), false) := rfl
/-! items -/
theorem ixN_nat {n i : Nat} (h : i < n) : ixN n (i : Int) = some i := by
  unfold ixN
  have h1 : (0 : Int) ≤ (i : Int) := by omega
  have h2 : (i : Int) < (n : Int) := by omega
  simp [h1, h2]
theorem at_of {ds : List D} {i : Nat} {d : D} (h : ds[i]? = some d) : atD ds (i : Int) = some d := by
  unfold atD
  rw [ixN_nat (List.getElem?_eq_some_iff.mp h).1]
  exact h
theorem ix_lst {ds : List D} {i : Nat} {d : D} (h : ds[i]? = some d) : bIx (.list ds) (.int (i : Int)) = some (d, false) := by
  show (atD ds (i : Int)).map _ = _
  rw [at_of h]; rfl
theorem ix_tup {ds : List D} {i : Nat} {d : D} (h : ds[i]? = some d) : bIx (.tuple ds) (.int (i : Int)) = some (d, false) := by
  show (atD ds (i : Int)).map _ = _
  rw [at_of h]; rfl
theorem len_lst (ds : List D) : cLen [.list ds] = some (.int ds.length, false) := rfl
theorem len_tup (ds : List D) : cLen [.tuple ds] = some (.int ds.length, false) := rfl
theorem len_str {z : Str} (h : z.length ≤ 1000000) : cLen [.str z] = some (.int z.length, false) := if_pos h
theorem tup_lst (ds : List D) : cTuple [.list ds] = some (.tuple ds, false) := rfl
theorem tup_tup (ds : List D) : cTuple [.tuple ds] = some (.tuple ds, false) := rfl
theorem lst_tup (ds : List D) : cList [.tuple ds] = some (.list ds, true) := rfl
theorem int_int (i : Int) : cInt [.int i] = some (.int i, false) := rfl
end
end PV
namespace PV
open PySem L2

/-! ### loops -/
theorem set_id {α : Type} {l : List α} {i : Nat} {x : α} (h : l[i]? = some x) : l.set i x = l := by
  apply List.ext_getElem?
  intro j
  by_cases hj : i = j
  · subst hj
    rw [List.getElem?_set_self (List.getElem?_eq_some_iff.mp h).1, h]
  · rw [List.getElem?_set_ne hj]
theorem stOk_get {ρ : Rho} {i : Nat} (h : stOk ρ i = true) : ∃ s, ρ[i]? = some s ∧ i < ρ.length := by
  unfold stOk at h
  cases e : ρ[i]? with
  | none => rw [e] at h; cases h
  | some s => exact ⟨s, rfl, (List.getElem?_eq_some_iff.mp e).1⟩
theorem stOk_set {ρ : Rho} {i : Nat} {d : D} (h : i < ρ.length) : stOk (ρ.set i (.val d)) i = true := by
  unfold stOk
  rw [List.getElem?_set_self h]
/-- a loop that only looks, and may return: the first item at which it does -/
theorem for_find {ρ : Rho} {i : Nat} {body : Es} {p : D → Bool} {r : D → D} {t : Bool} : ∀ (ds : List D) (s : Sl), stOk (ρ.set i s) i = true → (∀ d ∈ ds, body (ρ.set i (.val d)) = if p d = true then .nx (ρ.set i (.val d)) else .rt (r d) t (ρ.set i (.val d))) →
    ∃ s', stOk (ρ.set i s') i = true ∧ forLoop (tgName i) body ds (ρ.set i s) = match ds.find? (fun d => !p d) with | none => .nx (ρ.set i s') | some d => .rt (r d) t (ρ.set i s')
  | [], s, h, _ => ⟨s, h, rfl⟩
  | d :: ds, s, h, hb => by
    obtain ⟨_, _, hl⟩ := stOk_get h
    have e1 : tgName i d (ρ.set i s) = some (ρ.set i (.val d)) := by
      unfold tgName
      rw [if_pos h, List.set_set]
    unfold forLoop
    rw [e1]
    dsimp only
    rw [hb d List.mem_cons_self, List.find?_cons]
    have hl' : i < ρ.length := by rw [List.length_set] at hl; exact hl
    cases hp : p d with
    | false => exact ⟨.val d, stOk_set hl', rfl⟩
    | true =>
      obtain ⟨s', h1, h2⟩ := for_find ds (.val d) (stOk_set hl') fun d' hd' => hb d' (List.mem_cons_of_mem _ hd')
      exact ⟨s', h1, h2⟩
/-- the same over items f a -/
theorem for_findM {α : Type} {ρ : Rho} {i : Nat} {body : Es} (f : α → D) (p : α → Bool) (r : α → D) {t : Bool} : ∀ (ds : List α) (s : Sl), stOk (ρ.set i s) i = true → (∀ a ∈ ds, body (ρ.set i (.val (f a))) = if p a = true then .nx (ρ.set i (.val (f a))) else .rt (r a) t (ρ.set i (.val (f a)))) →
    ∃ s', stOk (ρ.set i s') i = true ∧ forLoop (tgName i) body (ds.map f) (ρ.set i s) = match ds.find? (fun d => !p d) with | none => .nx (ρ.set i s') | some a => .rt (r a) t (ρ.set i s')
  | [], s, h, _ => ⟨s, h, rfl⟩
  | d :: ds, s, h, hb => by
    obtain ⟨_, _, hl⟩ := stOk_get h
    have e1 : tgName i (f d) (ρ.set i s) = some (ρ.set i (.val (f d))) := by
      unfold tgName
      rw [if_pos h, List.set_set]
    rw [List.map_cons]
    unfold forLoop
    rw [e1]
    dsimp only
    rw [hb d List.mem_cons_self, List.find?_cons]
    have hl' : i < ρ.length := by rw [List.length_set] at hl; exact hl
    cases hp : p d with
    | false => exact ⟨.val (f d), stOk_set hl', rfl⟩
    | true =>
      obtain ⟨s', h1, h2⟩ := for_findM f p r ds (.val (f d)) (stOk_set hl') fun d' hd' => hb d' (List.mem_cons_of_mem _ hd')
      exact ⟨s', h1, h2⟩
theorem find_none {α : Type} {p : α → Bool} {ds : List α} (h : ∀ d ∈ ds, p d = true) : ds.find? (fun d => !p d) = none := by
  rw [List.find?_eq_none]
  intro d hd
  rw [h d hd]
  decide
/-- a loop with an invariant, that goes to its end -/
theorem for_inv {tgt : Tgt} {body : Es} (Inv : Nat → Rho → Prop) : ∀ (ds : List D) (n : Nat) (ρ : Rho), Inv n ρ → (∀ j d ρ, ds[j]? = some d → Inv (n + j) ρ → ∃ ρ1 ρ2, tgt d ρ = some ρ1 ∧ body ρ1 = .nx ρ2 ∧ Inv (n + j + 1) ρ2) → ∃ ρ', forLoop tgt body ds ρ = .nx ρ' ∧ Inv (n + ds.length) ρ'
  | [], n, ρ, h, _ => ⟨ρ, rfl, h⟩
  | d :: ds, n, ρ, h, hs => by
    obtain ⟨ρ1, ρ2, e1, e2, h2⟩ := hs 0 d ρ rfl h
    obtain ⟨ρ', e3, h3⟩ := for_inv Inv ds (n + 1) ρ2 h2 fun j d' ρ3 hj h4 => by
      have e : n + 1 + j = n + (j + 1) := by omega
      rw [e] at h4 ⊢
      exact hs (j + 1) d' ρ3 (by simpa using hj) h4
    refine ⟨ρ', ?_, by rw [List.length_cons]; have e : n + (ds.length + 1) = n + 1 + ds.length := by omega
                       rw [e]; exact h3⟩
    unfold forLoop
    rw [e1]
    dsimp only
    rw [e2]
    exact e3
/-! comprehensions -/
/-- one that only looks -/
theorem comp_pure {own : List Nat} {tgt : Tgt} {c : EvT} {e : Ev} {p : D → Bool} {v : D → D} {ρ : Rho} : ∀ (ds acc : List D), (∀ d ∈ ds, ∃ ρ1, tgt d ρ = some ρ1 ∧ c ρ1 = .ok (p d) ρ1 ∧ wipeR own ρ1 = ρ ∧ (p d = true → ∃ t ρ2, e ρ1 = .ok (v d, t) ρ2 ∧ wipeR own ρ2 = ρ)) → acc.length + ds.length ≤ 1000000 →
    compLoop own tgt c e ds acc ρ = .ok (acc ++ (ds.filter p).map v) ρ
  | [], acc, _, _ => by unfold compLoop; simp
  | d :: ds, acc, h, hl => by
    obtain ⟨ρ1, e1, e2, e3, e4⟩ := h d List.mem_cons_self
    unfold compLoop
    rw [e1]
    dsimp only
    rw [e2]
    rw [List.length_cons] at hl
    cases hp : p d with
    | false =>
      dsimp only
      rw [e3, comp_pure ds acc (fun d' hd' => h d' (List.mem_cons_of_mem _ hd')) (by omega), List.filter_cons, hp]
      rfl
    | true =>
      obtain ⟨t, ρ2, e5, e6⟩ := e4 hp
      dsimp only
      rw [e5]
      dsimp only
      rw [if_pos (by omega), e6, comp_pure ds (acc ++ [v d]) (fun d' hd' => h d' (List.mem_cons_of_mem _ hd')) (by rw [List.length_append]; simp; omega), List.filter_cons, hp]
      simp
/-- the same over items f a -/
theorem comp_pureM {α : Type} {own : List Nat} {tgt : Tgt} {c : EvT} {e : Ev} (f : α → D) (p : α → Bool) (v : α → D) {ρ : Rho} : ∀ (ds : List α) (acc : List D), (∀ d ∈ ds, ∃ ρ1, tgt (f d) ρ = some ρ1 ∧ c ρ1 = .ok (p d) ρ1 ∧ wipeR own ρ1 = ρ ∧ (p d = true → ∃ t ρ2, e ρ1 = .ok (v d, t) ρ2 ∧ wipeR own ρ2 = ρ)) → acc.length + ds.length ≤ 1000000 →
    compLoop own tgt c e (ds.map f) acc ρ = .ok (acc ++ (ds.filter p).map v) ρ
  | [], acc, _, _ => by unfold compLoop; simp
  | d :: ds, acc, h, hl => by
    obtain ⟨ρ1, e1, e2, e3, e4⟩ := h d List.mem_cons_self
    rw [List.map_cons]
    unfold compLoop
    rw [e1]
    dsimp only
    rw [e2]
    rw [List.length_cons] at hl
    cases hp : p d with
    | false =>
      dsimp only
      rw [e3, comp_pureM f p v ds acc (fun d' hd' => h d' (List.mem_cons_of_mem _ hd')) (by omega), List.filter_cons, hp]
      rfl
    | true =>
      obtain ⟨t, ρ2, e5, e6⟩ := e4 hp
      dsimp only
      rw [e5]
      dsimp only
      rw [if_pos (by omega), e6, comp_pureM f p v ds (acc ++ [v d]) (fun d' hd' => h d' (List.mem_cons_of_mem _ hd')) (by rw [List.length_append]; simp; omega), List.filter_cons, hp]
      simp
/-- one with an invariant: what is kept is among what was there -/
theorem comp_inv {own : List Nat} {tgt : Tgt} {c : EvT} {e : Ev} (Inv : Rho → Prop) : ∀ (ds acc : List D) (ρ : Rho), Inv ρ → (∀ d ρ, d ∈ ds → Inv ρ → ∃ ρ1 b ρ2, tgt d ρ = some ρ1 ∧ c ρ1 = .ok b ρ2 ∧ (b = false → Inv (wipeR own ρ2)) ∧ (b = true → ∃ t ρ3, e ρ2 = .ok (d, t) ρ3 ∧ Inv (wipeR own ρ3))) → acc.length + ds.length ≤ 1000000 →
    ∃ out ρ', compLoop own tgt c e ds acc ρ = .ok (acc ++ out) ρ' ∧ out.Sublist ds ∧ Inv ρ'
  | [], acc, ρ, h, _, _ => ⟨[], ρ, by unfold compLoop; simp, List.Sublist.refl _, h⟩
  | d :: ds, acc, ρ, h, hs, hl => by
    obtain ⟨ρ1, b, ρ2, e1, e2, e3, e4⟩ := hs d ρ List.mem_cons_self h
    rw [List.length_cons] at hl
    cases b with
    | false =>
      obtain ⟨out, ρ', k1, k2, k3⟩ := comp_inv Inv ds acc (wipeR own ρ2) (e3 rfl) (fun d' ρ' hd' => hs d' ρ' (List.mem_cons_of_mem _ hd')) (by omega)
      refine ⟨out, ρ', ?_, k2.cons _, k3⟩
      unfold compLoop
      rw [e1]; dsimp only; rw [e2]; exact k1
    | true =>
      obtain ⟨t, ρ3, e5, e6⟩ := e4 rfl
      obtain ⟨out, ρ', k1, k2, k3⟩ := comp_inv Inv ds (acc ++ [d]) (wipeR own ρ3) e6 (fun d' ρ' hd' => hs d' ρ' (List.mem_cons_of_mem _ hd')) (by rw [List.length_append]; simp; omega)
      refine ⟨d :: out, ρ', ?_, k2.cons_cons _, k3⟩
      unfold compLoop
      rw [e1]; dsimp only; rw [e2]; dsimp only; rw [e5]; dsimp only
      rw [if_pos (by omega), k1]
      simp
theorem rg_get {lo hi : Int} {j : Nat} {d : D} (h : (rgD lo hi)[j]? = some d) : d = .int (lo + j) ∧ j < (hi - lo).toNat := by
  unfold rgD at h
  rw [List.getElem?_map] at h
  cases e : (List.range (hi - lo).toNat)[j]? with
  | none => rw [e] at h; cases h
  | some k =>
    rw [e] at h
    obtain ⟨h1, h2⟩ := List.getElem?_eq_some_iff.mp e
    rw [List.getElem_range] at h2
    subst h2
    exact ⟨(Option.some.inj h).symm, by simpa using h1⟩
theorem rg_len {lo hi : Int} : (rgD lo hi).length = (hi - lo).toNat := by unfold rgD; simp
/-! ### slots that may be stored -/
def pl (s : Sl) : Bool := match s with
  | .io _ => false
  | _ => true
theorem pl_no : pl .no = true := rfl
theorem pl_val (d : D) : pl (.val d) = true := rfl
theorem pl_own (d : D) : pl (.own d) = true := rfl
theorem x_stOk (ρ : Rho) (i : Nat) : stOk ρ i = match ρ[i]? with | some s => pl s | none => false := by
  unfold stOk
  cases ρ[i]? with
  | none => rfl
  | some s => cases s <;> rfl
theorem ixN_in {n : Nat} {i : Int} (h0 : 0 ≤ i) (h1 : i < n) : ixN n i = some i.toNat := by
  obtain ⟨m, rfl⟩ : ∃ m : Nat, i = (m : Int) := ⟨i.toNat, by omega⟩
  rw [ixN_nat (by omega)]; rfl
theorem snoc_int (ps : List Int) (v : Int) : ps.map PyData.int ++ [.int v] = (ps ++ [v]).map PyData.int := by simp
theorem snoc_str (ps : List Str) (v : Str) : ps.map PyData.str ++ [.str v] = (ps ++ [v]).map PyData.str := by simp
theorem set_int (ps : List Int) (i : Nat) (v : Int) : (ps.map PyData.int).set i (.int v) = (ps.set i v).map PyData.int := List.map_set.symm
theorem pl_sv (o : Option Sl) : pl (svSl o) = true := by
  unfold svSl
  split <;> rfl
theorem sv_no : svSl (some .no) = .no := rfl
theorem sv_val (d : D) : svSl (some (.val d)) = .val d := rfl
theorem sv_own (d : D) : svSl (some (.own d)) = .no := rfl
/-! ### texts -/
theorem len_list (z : Str) : z.length = z.cps.toList.length := by unfold Str.length; simp
theorem app_list (a b : Str) : (a ++ b).cps.toList = a.cps.toList ++ b.cps.toList := by
  show (a.cps ++ b.cps).toList = _
  simp
theorem app_len (a b : Str) : (a ++ b).length = a.length + b.length := by rw [len_list, app_list, List.length_append, ← len_list, ← len_list]
theorem one_list (c : Nat) : (⟨#[c]⟩ : Str).cps.toList = [c] := rfl
theorem one_len (c : Nat) : (⟨#[c]⟩ : Str).length = 1 := rfl
theorem cut_take (z : Str) (n : Nat) : (cutS z none (some (n : Int))).cps.toList = z.cps.toList.take n := by
  unfold cutS
  rw [HT.sIx_nat]
  show ((z.cps.toList.drop 0).take (min n z.length - 0)) = _
  rw [List.drop_zero, Nat.sub_zero]
  by_cases h : n ≤ z.length
  · rw [Nat.min_eq_left h]
  · rw [Nat.min_eq_right (by omega), List.take_of_length_le (by rw [← len_list]; omega), List.take_of_length_le (by rw [← len_list]; omega)]
theorem str_ext {a b : Str} (h : a.cps.toList = b.cps.toList) : a = b := by
  obtain ⟨a⟩ := a
  obtain ⟨b⟩ := b
  have : a = b := Array.ext' h
  rw [this]
theorem ix_str {z : Str} {i : Int} (hz : z.length ≤ 1000000) (h0 : 0 ≤ i) (h1 : i < z.length) : ∃ c, c ∈ z.cps.toList ∧ bIx (.str z) (.int i) = some (.str ⟨#[c]⟩, false) := by
  have e : ixN z.cps.toList.length i = some i.toNat := by rw [← len_list]; exact ixN_in h0 h1
  have hn : i.toNat < z.cps.toList.length := by rw [← len_list]; omega
  refine ⟨z.cps.toList[i.toNat], List.getElem_mem hn, ?_⟩
  have e2 : signAt z i = some (.str ⟨#[z.cps.toList[i.toNat]]⟩) := by
    unfold signAt L2.atI
    rw [e]
    show (z.cps.toList[i.toNat]?).map _ = _
    rw [List.getElem?_eq_getElem hn]; rfl
  show (if z.length ≤ 1000000 then (signAt z i).map _ else none) = _
  rw [if_pos hz, e2]; rfl
/-! ### ranges, products -/
def rg1V (as : List AV) (ρ : Rho) : Rs (List D) := match cts ρ as with
  | some [.int n] => if n < 1000000 ∧ -1000000 < n then .ok (rgD 0 n) ρ else .no
  | _ => .no
theorem x_rg1V {as : List AV} {ρ : Rho} : rg1V as ρ = match cts ρ as with | some [.int n] => if n < 1000000 ∧ -1000000 < n then .ok (rgD 0 n) ρ else .no | _ => .no := rfl
theorem d_iRg1 {Y : DE} {l : Cd .L} {ρ : Rho} : den Y (.iRg1 l) ρ = (den Y l ρ).bind rg1V := rfl
theorem rg_of {Y : DE} {l : Cd .L} {ρ ρ' : Rho} {L : Int} (e1 : den Y l ρ = .ok [.v (.int L)] ρ') (c3 : L < 1000000 ∧ -1000000 < L) : den Y (.iRg1 l) ρ = .ok (rgD 0 L) ρ' := by
  rw [d_iRg1, e1]
  exact if_pos c3
theorem rg_nat {n : Nat} (h : n < 1000000) : (n : Int) < 1000000 ∧ -1000000 < (n : Int) := ⟨by omega, by omega⟩
theorem mulOk_r (a : Int) {b : Int} (h : -(2 ^ 64) < b ∧ b < 2 ^ 64) : mulOk a b = true := decide_eq_true (.inr (.inl h))
theorem mulOk_l {a : Int} (b : Int) (h : -(2 ^ 64) < a ∧ a < 2 ^ 64) : mulOk a b = true := decide_eq_true (.inl h)
theorem mulOk_m (a b n : Int) (h : 0 < n ∧ n < 2 ^ 64) : mulOk (a % n) b = true := by
  refine mulOk_l b ?_
  have h1 := Int.emod_nonneg a (show n ≠ 0 by omega)
  have h2 := Int.emod_lt_of_pos a h.1
  omega
theorem pow18 : bPow (.int 10) (.int 18) = some (.int 1000000000000000000, false) := by
  show (if (0 : Int) ≤ 18 ∧ (18 : Int) ≤ 1000000 ∧ (10 : Int).natAbs < 2 ^ 64 then some (PyData.int (10 ^ (18 : Int).toNat), false) else none) = _
  rw [if_pos (by decide)]
  rfl
theorem ix_ints {rs : List Int} {i : Int} (h0 : 0 ≤ i) (h1 : i < rs.length) : ∃ x, bIx (.list (rs.map PyData.int)) (.int i) = some (.int x, false) := by
  obtain ⟨n, rfl⟩ : ∃ n : Nat, i = (n : Int) := ⟨i.toNat, by omega⟩
  have hn : n < rs.length := by omega
  refine ⟨rs[n], ix_lst ?_⟩
  rw [List.getElem?_map, List.getElem?_eq_getElem hn]; rfl
theorem cut_lo (ds : List D) (n : Nat) (h : n ≤ ds.length) : cutD ds (some (n : Int)) none = ds.drop n := by
  unfold cutD
  rw [HT.sIx_nat, Nat.min_eq_left h]
  show (ds.drop n).take (ds.length - n) = _
  rw [List.take_of_length_le (by simp)]
theorem cut_hi (ds : List D) (n : Nat) : cutD ds none (some (n : Int)) = ds.take n := by
  unfold cutD
  rw [HT.sIx_nat]
  show (ds.drop 0).take (min n ds.length - 0) = _
  rw [List.drop_zero, Nat.sub_zero]
  by_cases h : n ≤ ds.length
  · rw [Nat.min_eq_left h]
  · rw [Nat.min_eq_right (by omega), List.take_length, List.take_of_length_le (by omega)]
theorem ndcL_ints (ds : List Int) : ndcL (ds.map PyData.int) = true := ndcL_int ds
theorem perm_rot {α : Type} (l : List α) (n : Nat) : (l.drop n ++ l.take n).Perm l := by
  have h := List.perm_append_comm (l₁ := l.drop n) (l₂ := l.take n)
  rw [List.take_append_drop] at h
  exact h
/-! ### items at known places -/
theorem ix_t0 {a : D} {r : List D} : bIx (.tuple (a :: r)) (.int 0) = some (a, false) := ix_tup (i := 0) rfl
theorem ix_t1 {a b : D} {r : List D} : bIx (.tuple (a :: b :: r)) (.int 1) = some (b, false) := ix_tup (i := 1) rfl
theorem ix_t2 {a b c : D} {r : List D} : bIx (.tuple (a :: b :: c :: r)) (.int 2) = some (c, false) := ix_tup (i := 2) rfl
theorem ix_t3 {a b c d : D} {r : List D} : bIx (.tuple (a :: b :: c :: d :: r)) (.int 3) = some (d, false) := ix_tup (i := 3) rfl
theorem ix_l0 {a : D} {r : List D} : bIx (.list (a :: r)) (.int 0) = some (a, false) := ix_lst (i := 0) rfl
theorem inD_int (a : Int) (ws : List Int) : inD (.int a) (ws.map PyData.int) = decide (a ∈ ws) := by
  unfold inD
  induction ws with
  | nil => rfl
  | cons w ws ih =>
    show (PyData.eqv (.int w) (.int a) || (ws.map PyData.int).any _) = _
    rw [ih]
    have : PyData.eqv (.int w) (.int a) = decide (a = w) := by
      show (w == a) = _
      by_cases h : w = a
      · subst h; simp
      · have h' : ¬ a = w := fun z => h z.symm
        simp [h, h']
    rw [this]
    by_cases h : a = w <;> simp [h]
theorem inOk_int (a : Int) (ws : List Int) : inOk (.int a) (ws.map PyData.int) = true := by
  unfold inOk
  have h1 : ndc (.int a) = true := rfl
  have h3 : (PyData.int a).depth ≤ 64 := by simp [PyData.depth]
  rw [h1, ndcL_int, decide_eq_true (min_le_of _ _ _ h3)]
  rfl
theorem in_ints (a : Int) (ws : List Int) : bInX (.int a) (.tuple (ws.map PyData.int)) = some (.bool (decide (a ∈ ws)), false) := by
  have e : bInB (.int a) (.tuple (ws.map PyData.int)) = some (inD (.int a) (ws.map PyData.int)) := if_pos (inOk_int a ws)
  unfold bInX bIn
  rw [e, inD_int]; rfl
/-! ### the dict of what was seen -/
def dkT (ws : List Str) : List (D × D) := ws.map fun w => (.str w, .bool true)
theorem dkT_any (ws : List Str) (w : Str) : ((dkT ws).any fun kv => keq kv.1 (.str w)) = decide (w ∈ ws) := by
  induction ws with
  | nil => rfl
  | cons a ws ih =>
    show (keq (.str a) (.str w) || (dkT ws).any _) = _
    rw [ih]
    show (decide (a = w) || _) = _
    by_cases h : a = w
    · subst h; simp
    · have h' : ¬ w = a := fun z => h z.symm
      simp [h, h']
theorem dkT_look (ws : List Str) (w : Str) : (dlook (dkT ws) (.str w)).isSome = decide (w ∈ ws) := by
  rw [← dkT_any]
  unfold dlook
  induction dkT ws with
  | nil => rfl
  | cons a l ih =>
    rw [List.find?_cons, List.any_cons]
    cases keq a.1 (.str w) with
    | true => rfl
    | false => simpa using ih
theorem dkT_mark (ws : List Str) : marked (dkT ws) = false := by cases ws <;> rfl
theorem in_dk (ws : List Str) (w : Str) : bInX (.str w) (.dict (dkT ws)) = some (.bool (decide (w ∈ ws)), false) := by
  have e : bInK (.str w) (.dict (dkT ws)) = some (dlook (dkT ws) (.str w)).isSome := if_pos ⟨rfl, dkT_mark ws⟩
  unfold bInX bInD
  rw [e, dkT_look]; rfl
theorem dkT_put (ws : List Str) (w : Str) (h : ¬ w ∈ ws) : dput (dkT ws) (.str w) (.bool true) = dkT (ws ++ [w]) := by
  unfold dput
  rw [dkT_any, decide_eq_false h, if_neg (by decide)]
  unfold dkT
  rw [List.map_append]; rfl
/-! ### lists -/
theorem nodup_le {α : Type} [DecidableEq α] : ∀ {l m : List α}, l.Nodup → (∀ x ∈ l, x ∈ m) → l.length ≤ m.length
  | [], m, _, _ => Nat.zero_le _
  | a :: l, m, hn, hs => by
    have hm := hs a List.mem_cons_self
    have h1 := nodup_le (l := l) (m := m.erase a) (List.nodup_cons.mp hn).2 fun x hx => by
      refine (List.mem_erase_of_ne (fun z => (List.nodup_cons.mp hn).1 (by rw [← z]; exact hx))).mpr (hs x (List.mem_cons_of_mem _ hx))
    rw [List.length_erase_of_mem hm] at h1
    have h2 := List.length_pos_of_mem hm
    rw [List.length_cons]
    omega
theorem str_map_inj {l m : List Str} (h : l.map PyData.str = m.map PyData.str) : l = m := by
  induction l generalizing m with
  | nil => cases m with | nil => rfl | cons _ _ => cases h
  | cons a l ih =>
    cases m with
    | nil => cases h
    | cons b m =>
      simp only [List.map_cons, List.cons.injEq, PyData.str.injEq] at h
      rw [h.1, ih h.2]
theorem sub_map {out : List D} {ws : List Str} (h : out.Sublist (ws.map PyData.str)) : ∃ vs : List Str, out = vs.map PyData.str ∧ vs.Sublist ws := by
  obtain ⟨l, hl, e⟩ := List.sublist_map_iff.mp h
  exact ⟨l, e, hl⟩
theorem filter_map_str {p : D → Bool} {ws : List Str} : (ws.map PyData.str).filter p = (ws.filter fun w => p (.str w)).map PyData.str := by
  rw [List.filter_map]
  rfl
end PV
namespace PV.Lw
open PySem L2 PV
def top (i : Nat) : Stmt := PySem.Challenge.pw_umpirehall_k42_rule.main.body.getD i (.Pass ⟨0, 0, 0, 0⟩)
def ks : List (Str × D) := [("LETTERS", (.str "abcdefghijklmnopqrstuvwxyz")), ("DIGITS", (.str "0123456789")), ("LONGEST_WORD", (.int 12)), ("MOST_FACTORS", (.int 12)), ("MOST_PRECEDENTS", (.int 60)), ("UPHELD", (.int 1)), ("DISMISSED", (.int (-1)))]
def cl : List (Str × Bool) := [("BadCase", true), ("BadPrecedents", true)]
def nm : Nat → Option Str := fun _ => none
/-! _law_pool -/
abbrev st__law_pool : Stmt := top 33
def cd__law_pool_b0 : Cd .B := (.bCons (.sSet 6 (.eBin .Mod (.aRef 5) (.aVal (.eCB .len (.lCons (.aRef 2) .lNil))))) (.bCons (.sSet 3 (.eIx (.aRef 2) (.aRef 6))) (.bCons (.sIf (.tCmp .GtE (.aRef 3) (.aVal (.eBin .Pow (.aVal (.eInt 10)) (.aVal (.eInt 18))))) (.bCons (.sApp 4 (.eBin .Mod (.aVal (.eCB .int (.lCons (.aRef 3) .lNil))) (.aVal (.eInt 1009)))) (.bCons (.sPut 2 (.eBin .FloorDiv (.aRef 3) (.aVal (.eInt 1009))) (.aRef 6)) .bNil)) (.bCons (.sSet 7 (.eBin .Mod (.aVal (.eCB .int (.lCons (.aVal (.eBin .Add (.aVal (.eBin .Add (.aVal (.eBin .Mult (.aRef 3) (.aVal (.eInt 48271)))) (.aVal (.eBin .Mult (.aRef 5) (.aVal (.eInt 69621)))))) (.aVal (.eInt 7)))) .lNil))) (.aVal (.eInt 2147483647)))) (.bCons (.sSet 7 (.eBin .Mod (.aVal (.eCB .int (.lCons (.aVal (.eBin .Add (.aVal (.eBin .Add (.aVal (.eBin .Mult (.aRef 7) (.aRef 7))) (.aVal (.eBin .Mult (.aVal (.eInt 31)) (.aRef 5))))) (.aRef 6))) .lNil))) (.aVal (.eInt 2147483629)))) (.bCons (.sSet 7 (.eBin .Mod (.aVal (.eCB .int (.lCons (.aVal (.eBin .Add (.aVal (.eBin .Mult (.aRef 7) (.aVal (.eBin .Add (.aVal (.eBin .Add (.aVal (.eBin .FloorDiv (.aRef 7) (.aVal (.eInt 3)))) (.aRef 5))) (.aVal (.eInt 1)))))) (.aVal (.eInt 17)))) .lNil))) (.aVal (.eInt 2147483587)))) (.bCons (.sApp 4 (.eBin .Mod (.aVal (.eBin .FloorDiv (.aRef 7) (.aVal (.eInt 13)))) (.aVal (.eInt 1009)))) .bNil))))) .bNil)))
def cd__law_pool_e0 : Cd .E := (.eCB .int (.lCons (.aRef 3) .lNil))
def cd__law_pool : Cd .B := (.bCons (.sSet 2 (.eComp [("cell", 3)] [3] (.iIt (.eSl (.aRef 0) .oNone (.oSome (.aVal (.eInt 63))))) (.gNm 3) .cNil cd__law_pool_e0)) (.bCons (.sIf (.tCmp .Eq (.aRef 2) (.aVal (.eLst .lNil))) (.bCons (.sSet 2 (.eLst (.lCons (.aVal (.eInt 0)) .lNil))) .bNil) .bNil) (.bCons (.sSet 4 (.eLst .lNil)) (.bCons (.sFor [5] (.iRg1 (.lCons (.aRef 1) .lNil)) (.gNm 5) cd__law_pool_b0) (.bCons (.sRet (.eRevL (.aRef 4))) .bNil)))))
def Y__law_pool : DE := deOf [] ks cl
def m__law_pool : List D → FR := runF 2 8 none (den (k := .B) Y__law_pool cd__law_pool)
theorem sc__law_pool : FnScope ["script", "count", "rests", "cell", "pool", "k", "at", "mixed"] ["script", "count"] (defScope st__law_pool) := ⟨rfl, rfl, rfl, by decide +kernel, rfl, by decide +kernel, by decide +kernel⟩
theorem ch__law_pool : chk cd__law_pool (infOf ["script", "count", "rests", "cell", "pool", "k", "at", "mixed"] (defScope st__law_pool) [] ks cl) (defBody st__law_pool) = true := by decide +kernel
/-! _law_take -/
abbrev st__law_take : Stmt := top 34
def cd__law_take : Cd .B := (.bCons (.sIf (.tCmp .Eq (.aRef 0) (.aVal (.eLst .lNil))) (.bCons (.sRet (.eInt 0)) .bNil) .bNil) (.bCons (.sRet (.eBin .Mod (.aVal (.eCB .int (.lCons (.aVal (.ePop 0)) .lNil))) (.aRef 1))) .bNil))
def Y__law_take : DE := deOf [] ks cl
def m__law_take : List D → FR := runF 2 2 (some 0) (den (k := .B) Y__law_take cd__law_take)
theorem sc__law_take : FnScope ["pool", "size"] ["pool", "size"] (defScope st__law_take) := ⟨rfl, rfl, rfl, by decide +kernel, rfl, by decide +kernel, by decide +kernel⟩
theorem ch__law_take : chk cd__law_take (infOf ["pool", "size"] (defScope st__law_take) [] ks cl) (defBody st__law_take) = true := by decide +kernel
/-! _law_words -/
abbrev st__law_words : Stmt := top 35
def cd__law_words_c0 : Cd .C := .cOne (.tCmp .NotIn (.aVal (.eBin .Add (.aVal (.eSl (.aRef 6) .oNone (.oSome (.aVal (.eInt 11))))) (.aRef 10))) (.aRef 4))
def cd__law_words_e0 : Cd .E := (.eBin .Add (.aVal (.eSl (.aRef 6) .oNone (.oSome (.aVal (.eInt 11))))) (.aRef 10))
def cd__law_words_b0 : Cd .B := (.bCons (.sSet 6 (.eBin .Add (.aRef 6) (.aVal (.eIx (.aRef 3) (.aVal (.eCall 0 2 (some 0) (.lCons (.aRef 0) (.lCons (.aVal (.eInt 36)) .lNil)))))))) .bNil)
def cd__law_words_b1 : Cd .B := (.bCons (.sSet 6 (.eIx (.aRef 2) (.aVal (.eCall 0 2 (some 0) (.lCons (.aRef 0) (.lCons (.aVal (.eInt 26)) .lNil)))))) (.bCons (.sSet 7 (.eCall 0 2 (some 0) (.lCons (.aRef 0) (.lCons (.aVal (.eInt 3)) .lNil)))) (.bCons (.sIf (.tCmp .Eq (.aVal (.eCall 0 2 (some 0) (.lCons (.aRef 0) (.lCons (.aVal (.eInt 5)) .lNil)))) (.aVal (.eInt 4))) (.bCons (.sSet 7 (.eCall 0 2 (some 0) (.lCons (.aRef 0) (.lCons (.aVal (.eInt 12)) .lNil)))) .bNil) .bNil) (.bCons (.sFor [8] (.iRg1 (.lCons (.aRef 7) .lNil)) (.gNm 8) cd__law_words_b0) (.bCons (.sIf (.tCmp .In (.aRef 6) (.aRef 4)) (.bCons (.sSet 9 (.eComp [("sign", 10)] [10] (.iIt (.eVar 3)) (.gNm 10) cd__law_words_c0 cd__law_words_e0)) (.bCons (.sSet 6 (.eIx (.aRef 9) (.aVal (.eInt 0)))) .bNil)) .bNil) (.bCons (.sApp 4 (.eVar 6)) .bNil))))))
def cd__law_words : Cd .B := (.bCons (.sSet 2 (.eStr "abcdefghijklmnopqrstuvwxyz")) (.bCons (.sSet 3 (.eBin .Add (.aRef 2) (.aVal (.eStr "0123456789")))) (.bCons (.sSet 4 (.eLst .lNil)) (.bCons (.sFor [5] (.iRg1 (.lCons (.aRef 1) .lNil)) (.gNm 5) cd__law_words_b1) (.bCons (.sRet (.eMov 4)) .bNil)))))
def Y__law_words : DE := deOf [m__law_take] ks cl
def m__law_words : List D → FR := runF 2 11 (some 0) (den (k := .B) Y__law_words cd__law_words)
theorem ys__law_words_0 : Y__law_words.sem 0 = m__law_take := rfl
theorem sc__law_words : FnScope ["pool", "count", "letters", "signs", "words", "k", "word", "size", "step", "spares", "sign"] ["pool", "count"] (defScope st__law_words) := ⟨rfl, rfl, rfl, by decide +kernel, rfl, by decide +kernel, by decide +kernel⟩
theorem ch__law_words : chk cd__law_words (infOf ["pool", "count", "letters", "signs", "words", "k", "word", "size", "step", "spares", "sign"] (defScope st__law_words) [("_law_take", 2, some 0)] ks cl) (defBody st__law_words) = true := by decide +kernel
/-! _law_ids -/
abbrev st__law_ids : Stmt := top 36
def cd__law_ids_b0 : Cd .B := (.bCons (.sSet 5 (.eIx (.aRef 2) (.aVal (.eCall 0 2 (some 0) (.lCons (.aRef 0) (.lCons (.aVal (.eInt 26)) .lNil)))))) (.bCons (.sApp 3 (.eBin .Add (.aRef 5) (.aVal (.eCB .str (.lCons (.aRef 4) .lNil))))) .bNil))
def cd__law_ids : Cd .B := (.bCons (.sSet 2 (.eStr "abcdefghijklmnopqrstuvwxyz")) (.bCons (.sSet 3 (.eLst .lNil)) (.bCons (.sFor [4] (.iRg1 (.lCons (.aRef 1) .lNil)) (.gNm 4) cd__law_ids_b0) (.bCons (.sRet (.eMov 3)) .bNil))))
def Y__law_ids : DE := deOf [m__law_take] ks cl
def m__law_ids : List D → FR := runF 2 6 (some 0) (den (k := .B) Y__law_ids cd__law_ids)
theorem ys__law_ids_0 : Y__law_ids.sem 0 = m__law_take := rfl
theorem sc__law_ids : FnScope ["pool", "count", "letters", "ids", "k", "stem"] ["pool", "count"] (defScope st__law_ids) := ⟨rfl, rfl, rfl, by decide +kernel, rfl, by decide +kernel, by decide +kernel⟩
theorem ch__law_ids : chk cd__law_ids (infOf ["pool", "count", "letters", "ids", "k", "stem"] (defScope st__law_ids) [("_law_take", 2, some 0)] ks cl) (defBody st__law_ids) = true := by decide +kernel
/-! _law_turn -/
abbrev st__law_turn : Stmt := top 37
def cd__law_turn : Cd .B := (.bCons (.sIf (.tCmp .Eq (.aRef 1) (.aVal (.eLst .lNil))) (.bCons (.sRet (.eLst .lNil)) .bNil) .bNil) (.bCons (.sSet 2 (.eCall 0 2 (some 0) (.lCons (.aRef 0) (.lCons (.aVal (.eCB .len (.lCons (.aRef 1) .lNil))) .lNil)))) (.bCons (.sSet 3 (.eBin .Add (.aVal (.eSl (.aRef 1) (.oSome (.aRef 2)) .oNone)) (.aVal (.eSl (.aRef 1) .oNone (.oSome (.aRef 2)))))) (.bCons (.sIf (.tCmp .Eq (.aVal (.eCall 0 2 (some 0) (.lCons (.aRef 0) (.lCons (.aVal (.eInt 2)) .lNil)))) (.aVal (.eInt 1))) (.bCons (.sSet 3 (.eRevL (.aRef 3))) .bNil) .bNil) (.bCons (.sRet (.eMov 3)) .bNil)))))
def Y__law_turn : DE := deOf [m__law_take] ks cl
def m__law_turn : List D → FR := runF 2 4 (some 0) (den (k := .B) Y__law_turn cd__law_turn)
theorem ys__law_turn_0 : Y__law_turn.sem 0 = m__law_take := rfl
theorem sc__law_turn : FnScope ["pool", "rows", "at", "turned"] ["pool", "rows"] (defScope st__law_turn) := ⟨rfl, rfl, rfl, by decide +kernel, rfl, by decide +kernel, by decide +kernel⟩
theorem ch__law_turn : chk cd__law_turn (infOf ["pool", "rows", "at", "turned"] (defScope st__law_turn) [("_law_take", 2, some 0)] ks cl) (defBody st__law_turn) = true := by decide +kernel
/-! _law_side -/
abbrev st__law_side : Stmt := top 41
def cd__law_side_c0 : Cd .C := .cOne (.tCmp .Eq (.aVal (.eCall 0 2 (some 0) (.lCons (.aRef 0) (.lCons (.aVal (.eInt 2)) .lNil)))) (.aVal (.eInt 1)))
def cd__law_side_e0 : Cd .E := (.eVar 2)
def cd__law_side : Cd .B := (.bCons (.sRet (.eCB .tup (.lCons (.aVal (.eCall 1 2 (some 0) (.lCons (.aRef 0) (.lCons (.aVal (.eComp [("word", 2)] [2] (.iIt (.eVar 1)) (.gNm 2) cd__law_side_c0 cd__law_side_e0)) .lNil)))) .lNil))) .bNil)
def Y__law_side : DE := deOf [m__law_take, m__law_turn] ks cl
def m__law_side : List D → FR := runF 2 3 (some 0) (den (k := .B) Y__law_side cd__law_side)
theorem ys__law_side_0 : Y__law_side.sem 0 = m__law_take := rfl
theorem ys__law_side_1 : Y__law_side.sem 1 = m__law_turn := rfl
theorem sc__law_side : FnScope ["pool", "words", "word"] ["pool", "words"] (defScope st__law_side) := ⟨rfl, rfl, rfl, by decide +kernel, rfl, by decide +kernel, by decide +kernel⟩
theorem ch__law_side : chk cd__law_side (infOf ["pool", "words", "word"] (defScope st__law_side) [("_law_take", 2, some 0), ("_law_turn", 2, some 0)] ks cl) (defBody st__law_side) = true := by decide +kernel
/-! _law_precedents -/
abbrev st__law_precedents : Stmt := top 42
def cd__law_precedents_s0 : Cd .S := (.sSet 3 (.eCall 1 2 (some 0) (.lCons (.aRef 0) (.lCons (.aVal (.eVar 2)) .lNil))))
def cd__law_precedents_s1 : Cd .S := (.sSet 4 (.eLst .lNil))
def cd__law_precedents_b0 : Cd .B := (.bCons (.sSet 6 (.eCall 3 2 (some 0) (.lCons (.aRef 0) (.lCons (.aVal (.eVar 1)) .lNil)))) (.bCons (.sSet 7 (.eCall 3 2 (some 0) (.lCons (.aRef 0) (.lCons (.aVal (.eVar 1)) .lNil)))) (.bCons (.sIf (.tW (.wAnd (.tCmp .NotEq (.aRef 4) (.aVal (.eLst .lNil))) (.wOne (.tCmp .Eq (.aVal (.eCall 0 2 (some 0) (.lCons (.aRef 0) (.lCons (.aVal (.eInt 4)) .lNil)))) (.aVal (.eInt 3)))))) (.bCons (.sSet 8 (.eIx (.aRef 4) (.aVal (.eCall 0 2 (some 0) (.lCons (.aRef 0) (.lCons (.aVal (.eCB .len (.lCons (.aRef 4) .lNil))) .lNil)))))) (.bCons (.sSet 6 (.eCB .tup (.lCons (.aVal (.eCall 2 2 (some 0) (.lCons (.aRef 0) (.lCons (.aVal (.eCB .lst (.lCons (.aVal (.eIx (.aRef 8) (.aVal (.eInt 1)))) .lNil))) .lNil)))) .lNil))) (.bCons (.sSet 7 (.eCB .tup (.lCons (.aVal (.eCall 2 2 (some 0) (.lCons (.aRef 0) (.lCons (.aVal (.eCB .lst (.lCons (.aVal (.eIx (.aRef 8) (.aVal (.eInt 2)))) .lNil))) .lNil)))) .lNil))) .bNil))) .bNil) (.bCons (.sApp 4 (.eTup (.lCons (.aVal (.eIx (.aRef 3) (.aRef 5))) (.lCons (.aVal (.eVar 6)) (.lCons (.aVal (.eVar 7)) (.lCons (.aVal (.eBin .Sub (.aVal (.eInt 1)) (.aVal (.eBin .Mult (.aVal (.eInt 2)) (.aVal (.eCall 0 2 (some 0) (.lCons (.aRef 0) (.lCons (.aVal (.eInt 2)) .lNil)))))))) .lNil)))))) .bNil))))
def cd__law_precedents_s2 : Cd .S := (.sFor [5] (.iRg1 (.lCons (.aRef 2) .lNil)) (.gNm 5) cd__law_precedents_b0)
def cd__law_precedents_s3 : Cd .S := (.sRet (.eCB .tup (.lCons (.aRef 4) .lNil)))
def cd__law_precedents : Cd .B := (.bCons cd__law_precedents_s0 (.bCons cd__law_precedents_s1 (.bCons cd__law_precedents_s2 (.bCons cd__law_precedents_s3 .bNil))))
def Y__law_precedents : DE := deOf [m__law_take, m__law_ids, m__law_turn, m__law_side] ks cl
def m__law_precedents : List D → FR := runF 3 9 (some 0) (den (k := .B) Y__law_precedents cd__law_precedents)
theorem ys__law_precedents_0 : Y__law_precedents.sem 0 = m__law_take := rfl
theorem ys__law_precedents_1 : Y__law_precedents.sem 1 = m__law_ids := rfl
theorem ys__law_precedents_2 : Y__law_precedents.sem 2 = m__law_turn := rfl
theorem ys__law_precedents_3 : Y__law_precedents.sem 3 = m__law_side := rfl
theorem sc__law_precedents : FnScope ["pool", "words", "count", "ids", "rows", "k", "pro", "con", "old"] ["pool", "words", "count"] (defScope st__law_precedents) := ⟨rfl, rfl, rfl, by decide +kernel, rfl, by decide +kernel, by decide +kernel⟩
theorem ch__law_precedents : chk cd__law_precedents (infOf ["pool", "words", "count", "ids", "rows", "k", "pro", "con", "old"] (defScope st__law_precedents) [("_law_take", 2, some 0), ("_law_ids", 2, some 0), ("_law_turn", 2, some 0), ("_law_side", 2, some 0)] ks cl) (defBody st__law_precedents) = true := by decide +kernel
/-! _law_same -/
abbrev st__law_same : Stmt := top 38
def cd__law_same_e0 : Cd .E := (.eCall 0 2 none (.lCons (.aVal (.eIx (.aRef 0) (.aRef 2))) (.lCons (.aVal (.eIx (.aRef 1) (.aRef 2))) .lNil)))
def cd__law_same : Cd .B := (.bCons (.sIf (.tE (.eIsi .tuple (.aRef 1))) (.bCons (.sIf (.tW (.wOr (.tNot (.tE (.eIsi .tuple (.aRef 0)))) (.wOne (.tCmp .NotEq (.aVal (.eCB .len (.lCons (.aRef 0) .lNil))) (.aVal (.eCB .len (.lCons (.aRef 1) .lNil))))))) (.bCons (.sRet (.eBl false)) .bNil) .bNil) (.bCons (.sRet (.eCB .all (.lCons (.aVal (.eComp [("k", 2)] [2] (.iRg1 (.lCons (.aVal (.eCB .len (.lCons (.aRef 1) .lNil))) .lNil)) (.gNm 2) .cNil cd__law_same_e0)) .lNil))) .bNil)) .bNil) (.bCons (.sIf (.tCmp .Is (.aRef 1) (.aVal .eNon)) (.bCons (.sRet (.eCmp .Is (.aRef 0) (.aVal .eNon))) .bNil) .bNil) (.bCons (.sIf (.tCmp .Is (.aRef 1) (.aVal (.eBl true))) (.bCons (.sRet (.eCmp .Is (.aRef 0) (.aVal (.eBl true)))) .bNil) .bNil) (.bCons (.sIf (.tCmp .Is (.aRef 1) (.aVal (.eBl false))) (.bCons (.sRet (.eCmp .Is (.aRef 0) (.aVal (.eBl false)))) .bNil) .bNil) (.bCons (.sIf (.tE (.eIsi .int (.aRef 1))) (.bCons (.sRet (.eAnd (.eIsi .int (.aRef 0)) (.eAnd (.eNot (.eIsi .bool (.aRef 0))) (.eOne (.eCmp .Eq (.aRef 0) (.aRef 1)))))) .bNil) .bNil) (.bCons (.sRet (.eAnd (.eIsi .str (.aRef 0)) (.eOne (.eCmp .Eq (.aRef 0) (.aRef 1))))) .bNil))))))
def Y__law_same (m : List D → FR) : DE := deOf [m] ks cl
def r__law_same : Nat → List D → FR
  | 0 => fun _ => .no
  | k + 1 => runF 2 3 none (den (k := .B) (Y__law_same (r__law_same k)) cd__law_same)
def m__law_same : List D → FR := r__law_same 8
theorem ys__law_same_0 (m : List D → FR) : (Y__law_same m).sem 0 = m := rfl
theorem sc__law_same : FnScope ["value", "due", "k"] ["value", "due"] (defScope st__law_same) := ⟨rfl, rfl, rfl, by decide +kernel, rfl, by decide +kernel, by decide +kernel⟩
theorem ch__law_same : chk cd__law_same (infOf ["value", "due", "k"] (defScope st__law_same) [("_law_same", 2, none)] ks cl) (defBody st__law_same) = true := by decide +kernel
/-! are_distinct -/
abbrev st_are_distinct : Stmt := top 11
def cd_are_distinct_b0 : Cd .B := (.bCons (.sIf (.tCmp .In (.aRef 2) (.aRef 1)) (.bCons (.sRet (.eBl false)) .bNil) .bNil) (.bCons (.sPut 1 (.eBl true) (.aRef 2)) .bNil))
def cd_are_distinct : Cd .B := (.bCons (.sSet 1 .eDicK) (.bCons (.sFor [2] (.iIt (.eVar 0)) (.gNm 2) cd_are_distinct_b0) (.bCons (.sRet (.eBl true)) .bNil)))
def Y_are_distinct : DE := deOf [] ks cl
def m_are_distinct : List D → FR := runF 1 3 none (den (k := .B) Y_are_distinct cd_are_distinct)
theorem sc_are_distinct : FnScope ["parts", "found", "part"] ["parts"] (defScope st_are_distinct) := ⟨rfl, rfl, rfl, by decide +kernel, rfl, by decide +kernel, by decide +kernel⟩
theorem ch_are_distinct : chk cd_are_distinct (infOf ["parts", "found", "part"] (defScope st_are_distinct) [] ks cl) (defBody st_are_distinct) = true := by decide +kernel
/-! is_tuple -/
abbrev st_is_tuple : Stmt := top 9
def cd_is_tuple : Cd .B := (.bCons (.sRet (.eAnd (.eIsi .tuple (.aRef 0)) (.eOne (.eCmp .Eq (.aVal (.eCB .len (.lCons (.aRef 0) .lNil))) (.aRef 1))))) .bNil)
def Y_is_tuple : DE := deOf [] ks cl
def m_is_tuple : List D → FR := runF 2 2 none (den (k := .B) Y_is_tuple cd_is_tuple)
theorem sc_is_tuple : FnScope ["value", "size"] ["value", "size"] (defScope st_is_tuple) := ⟨rfl, rfl, rfl, by decide +kernel, rfl, by decide +kernel, by decide +kernel⟩
theorem ch_is_tuple : chk cd_is_tuple (infOf ["value", "size"] (defScope st_is_tuple) [] ks cl) (defBody st_is_tuple) = true := by decide +kernel
/-! is_word -/
abbrev st_is_word : Stmt := top 10
def cd_is_word_b0 : Cd .B := (.bCons (.sIf (.tW (.wAnd (.tCmp .NotIn (.aRef 1) (.aVal (.eGlob 0))) (.wOne (.tCmp .NotIn (.aRef 1) (.aVal (.eGlob 1)))))) (.bCons (.sRet (.eBl false)) .bNil) .bNil) .bNil)
def cd_is_word : Cd .B := (.bCons (.sIf (.tW (.wOr (.tNot (.tE (.eIsi .str (.aRef 0)))) (.wOne (.tNot (.tChain .LtE .LtE (.aVal (.eInt 1)) (.aVal (.eCB .len (.lCons (.aRef 0) .lNil))) (.aVal (.eGlob 2))))))) (.bCons (.sRet (.eBl false)) .bNil) .bNil) (.bCons (.sIf (.tCmp .NotIn (.aVal (.eIx (.aRef 0) (.aVal (.eInt 0)))) (.aVal (.eGlob 0))) (.bCons (.sRet (.eBl false)) .bNil) .bNil) (.bCons (.sFor [1] (.iIt (.eVar 0)) (.gNm 1) cd_is_word_b0) (.bCons (.sRet (.eBl true)) .bNil))))
def Y_is_word : DE := deOf [] ks cl
def m_is_word : List D → FR := runF 1 2 none (den (k := .B) Y_is_word cd_is_word)
theorem yk_is_word_0 : Y_is_word.ks 0 = (.str "abcdefghijklmnopqrstuvwxyz") := rfl
theorem yk_is_word_1 : Y_is_word.ks 1 = (.str "0123456789") := rfl
theorem yk_is_word_2 : Y_is_word.ks 2 = (.int 12) := rfl
theorem sc_is_word : FnScope ["value", "sign"] ["value"] (defScope st_is_word) := ⟨rfl, rfl, rfl, by decide +kernel, rfl, by decide +kernel, by decide +kernel⟩
theorem ch_is_word : chk cd_is_word (infOf ["value", "sign"] (defScope st_is_word) [] ks cl) (defBody st_is_word) = true := by decide +kernel
/-! is_words -/
abbrev st_is_words : Stmt := top 12
def cd_is_words_b0 : Cd .B := (.bCons (.sIf (.tNot (.tE (.eCall 1 1 none (.lCons (.aVal (.eVar 3)) .lNil)))) (.bCons (.sRet (.eBl false)) .bNil) .bNil) .bNil)
def cd_is_words : Cd .B := (.bCons (.sIf (.tW (.wOr (.tNot (.tE (.eIsi .tuple (.aRef 0)))) (.wOne (.tNot (.tChain .LtE .LtE (.aRef 1) (.aVal (.eCB .len (.lCons (.aRef 0) .lNil))) (.aRef 2)))))) (.bCons (.sRet (.eBl false)) .bNil) .bNil) (.bCons (.sFor [3] (.iIt (.eVar 0)) (.gNm 3) cd_is_words_b0) (.bCons (.sRet (.eCall 0 1 none (.lCons (.aVal (.eVar 0)) .lNil))) .bNil)))
def Y_is_words : DE := deOf [m_are_distinct, m_is_word] ks cl
def m_is_words : List D → FR := runF 3 4 none (den (k := .B) Y_is_words cd_is_words)
theorem ys_is_words_0 : Y_is_words.sem 0 = m_are_distinct := rfl
theorem ys_is_words_1 : Y_is_words.sem 1 = m_is_word := rfl
theorem sc_is_words : FnScope ["value", "least", "most", "part"] ["value", "least", "most"] (defScope st_is_words) := ⟨rfl, rfl, rfl, by decide +kernel, rfl, by decide +kernel, by decide +kernel⟩
theorem ch_is_words : chk cd_is_words (infOf ["value", "least", "most", "part"] (defScope st_is_words) [("are_distinct", 1, none), ("is_word", 1, none)] ks cl) (defBody st_is_words) = true := by decide +kernel
/-! is_case -/
abbrev st_is_case : Stmt := top 18
def cd_is_case : Cd .B := (.bCons (.sIf (.tNot (.tE (.eCall 0 2 none (.lCons (.aVal (.eVar 0)) (.lCons (.aVal (.eInt 2)) .lNil))))) (.bCons (.sRet (.eBl false)) .bNil) .bNil) (.bCons (.sRet (.eAnd (.eCall 1 3 none (.lCons (.aVal (.eIx (.aRef 0) (.aVal (.eInt 0)))) (.lCons (.aVal (.eInt 0)) (.lCons (.aVal (.eGlob 3)) .lNil)))) (.eOne (.eCall 1 3 none (.lCons (.aVal (.eIx (.aRef 0) (.aVal (.eInt 1)))) (.lCons (.aVal (.eInt 0)) (.lCons (.aVal (.eGlob 3)) .lNil))))))) .bNil))
def Y_is_case : DE := deOf [m_is_tuple, m_is_words] ks cl
def m_is_case : List D → FR := runF 1 1 none (den (k := .B) Y_is_case cd_is_case)
theorem ys_is_case_0 : Y_is_case.sem 0 = m_is_tuple := rfl
theorem ys_is_case_1 : Y_is_case.sem 1 = m_is_words := rfl
theorem yk_is_case_3 : Y_is_case.ks 3 = (.int 12) := rfl
theorem sc_is_case : FnScope ["value"] ["value"] (defScope st_is_case) := ⟨rfl, rfl, rfl, by decide +kernel, rfl, by decide +kernel, by decide +kernel⟩
theorem ch_is_case : chk cd_is_case (infOf ["value"] (defScope st_is_case) [("is_tuple", 2, none), ("is_words", 3, none)] ks cl) (defBody st_is_case) = true := by decide +kernel
/-! is_int -/
abbrev st_is_int : Stmt := top 8
def cd_is_int : Cd .B := (.bCons (.sRet (.eAnd (.eIsi .int (.aRef 0)) (.eOne (.eNot (.eIsi .bool (.aRef 0)))))) .bNil)
def Y_is_int : DE := deOf [] ks cl
def m_is_int : List D → FR := runF 1 1 none (den (k := .B) Y_is_int cd_is_int)
theorem sc_is_int : FnScope ["value"] ["value"] (defScope st_is_int) := ⟨rfl, rfl, rfl, by decide +kernel, rfl, by decide +kernel, by decide +kernel⟩
theorem ch_is_int : chk cd_is_int (infOf ["value"] (defScope st_is_int) [] ks cl) (defBody st_is_int) = true := by decide +kernel
/-! is_precedent -/
abbrev st_is_precedent : Stmt := top 20
def cd_is_precedent : Cd .B := (.bCons (.sIf (.tW (.wOr (.tNot (.tE (.eCall 0 2 none (.lCons (.aVal (.eVar 0)) (.lCons (.aVal (.eInt 4)) .lNil))))) (.wOne (.tNot (.tE (.eCall 1 1 none (.lCons (.aVal (.eIx (.aRef 0) (.aVal (.eInt 0)))) .lNil))))))) (.bCons (.sRet (.eBl false)) .bNil) .bNil) (.bCons (.sIf (.tNot (.tE (.eCall 2 1 none (.lCons (.aVal (.eTup (.lCons (.aVal (.eIx (.aRef 0) (.aVal (.eInt 1)))) (.lCons (.aVal (.eIx (.aRef 0) (.aVal (.eInt 2)))) .lNil)))) .lNil)))) (.bCons (.sRet (.eBl false)) .bNil) .bNil) (.bCons (.sRet (.eAnd (.eCall 3 1 none (.lCons (.aVal (.eIx (.aRef 0) (.aVal (.eInt 3)))) .lNil)) (.eOne (.eCmp .In (.aVal (.eIx (.aRef 0) (.aVal (.eInt 3)))) (.aVal (.eTup (.lCons (.aVal (.eGlob 5)) (.lCons (.aVal (.eGlob 6)) .lNil)))))))) .bNil)))
def Y_is_precedent : DE := deOf [m_is_tuple, m_is_word, m_is_case, m_is_int] ks cl
def m_is_precedent : List D → FR := runF 1 1 none (den (k := .B) Y_is_precedent cd_is_precedent)
theorem ys_is_precedent_0 : Y_is_precedent.sem 0 = m_is_tuple := rfl
theorem ys_is_precedent_1 : Y_is_precedent.sem 1 = m_is_word := rfl
theorem ys_is_precedent_2 : Y_is_precedent.sem 2 = m_is_case := rfl
theorem ys_is_precedent_3 : Y_is_precedent.sem 3 = m_is_int := rfl
theorem yk_is_precedent_5 : Y_is_precedent.ks 5 = (.int 1) := rfl
theorem yk_is_precedent_6 : Y_is_precedent.ks 6 = (.int (-1)) := rfl
theorem sc_is_precedent : FnScope ["value"] ["value"] (defScope st_is_precedent) := ⟨rfl, rfl, rfl, by decide +kernel, rfl, by decide +kernel, by decide +kernel⟩
theorem ch_is_precedent : chk cd_is_precedent (infOf ["value"] (defScope st_is_precedent) [("is_tuple", 2, none), ("is_word", 1, none), ("is_case", 1, none), ("is_int", 1, none)] ks cl) (defBody st_is_precedent) = true := by decide +kernel
/-! is_precedents -/
abbrev st_is_precedents : Stmt := top 21
def cd_is_precedents_e0 : Cd .E := (.eIx (.aRef 1) (.aVal (.eInt 0)))
def cd_is_precedents_b0 : Cd .B := (.bCons (.sIf (.tNot (.tE (.eCall 1 1 none (.lCons (.aVal (.eVar 1)) .lNil)))) (.bCons (.sRet (.eBl false)) .bNil) .bNil) .bNil)
def cd_is_precedents : Cd .B := (.bCons (.sIf (.tW (.wOr (.tNot (.tE (.eIsi .tuple (.aRef 0)))) (.wOne (.tCmp .Gt (.aVal (.eCB .len (.lCons (.aRef 0) .lNil))) (.aVal (.eGlob 4)))))) (.bCons (.sRet (.eBl false)) .bNil) .bNil) (.bCons (.sFor [1] (.iIt (.eVar 0)) (.gNm 1) cd_is_precedents_b0) (.bCons (.sRet (.eCall 0 1 none (.lCons (.aVal (.eComp [("precedent", 1)] [1] (.iIt (.eVar 0)) (.gNm 1) .cNil cd_is_precedents_e0)) .lNil))) .bNil)))
def Y_is_precedents : DE := deOf [m_are_distinct, m_is_precedent] ks cl
def m_is_precedents : List D → FR := runF 1 2 none (den (k := .B) Y_is_precedents cd_is_precedents)
theorem ys_is_precedents_0 : Y_is_precedents.sem 0 = m_are_distinct := rfl
theorem ys_is_precedents_1 : Y_is_precedents.sem 1 = m_is_precedent := rfl
theorem yk_is_precedents_4 : Y_is_precedents.ks 4 = (.int 60) := rfl
theorem sc_is_precedents : FnScope ["value", "precedent"] ["value"] (defScope st_is_precedents) := ⟨rfl, rfl, rfl, by decide +kernel, rfl, by decide +kernel, by decide +kernel⟩
theorem ch_is_precedents : chk cd_is_precedents (infOf ["value", "precedent"] (defScope st_is_precedents) [("are_distinct", 1, none), ("is_precedent", 1, none)] ks cl) (defBody st_is_precedents) = true := by decide +kernel
/-! check_precedents -/
abbrev st_check_precedents : Stmt := top 22
def cd_check_precedents : Cd .B := (.bCons (.sIf (.tNot (.tE (.eCall 0 1 none (.lCons (.aVal (.eVar 0)) .lNil)))) (.bCons (.sRaise 1) .bNil) .bNil) .bNil)
def Y_check_precedents : DE := deOf [m_is_precedents] ks cl
def m_check_precedents : List D → FR := runF 1 1 none (den (k := .B) Y_check_precedents cd_check_precedents)
theorem ys_check_precedents_0 : Y_check_precedents.sem 0 = m_is_precedents := rfl
theorem sc_check_precedents : FnScope ["precedents"] ["precedents"] (defScope st_check_precedents) := ⟨rfl, rfl, rfl, by decide +kernel, rfl, by decide +kernel, by decide +kernel⟩
theorem ch_check_precedents : chk cd_check_precedents (infOf ["precedents"] (defScope st_check_precedents) [("is_precedents", 1, none)] ks cl) (defBody st_check_precedents) = true := by decide +kernel
/-! check_case -/
abbrev st_check_case : Stmt := top 19
def cd_check_case : Cd .B := (.bCons (.sIf (.tNot (.tE (.eCall 0 1 none (.lCons (.aVal (.eVar 0)) .lNil)))) (.bCons (.sRaise 0) .bNil) .bNil) .bNil)
def Y_check_case : DE := deOf [m_is_case] ks cl
def m_check_case : List D → FR := runF 1 1 none (den (k := .B) Y_check_case cd_check_case)
theorem ys_check_case_0 : Y_check_case.sem 0 = m_is_case := rfl
theorem sc_check_case : FnScope ["case"] ["case"] (defScope st_check_case) := ⟨rfl, rfl, rfl, by decide +kernel, rfl, by decide +kernel, by decide +kernel⟩
theorem ch_check_case : chk cd_check_case (infOf ["case"] (defScope st_check_case) [("is_case", 1, none)] ks cl) (defBody st_check_case) = true := by decide +kernel
/-! with_outcome -/
abbrev st_with_outcome : Stmt := top 28
def cd_with_outcome_c0 : Cd .C := .cOne (.tCmp .Eq (.aVal (.eIx (.aRef 2) (.aVal (.eInt 3)))) (.aRef 1))
def cd_with_outcome_e0 : Cd .E := (.eVar 2)
def cd_with_outcome : Cd .B := (.bCons (.sRet (.eCB .tup (.lCons (.aVal (.eComp [("precedent", 2)] [2] (.iIt (.eVar 0)) (.gNm 2) cd_with_outcome_c0 cd_with_outcome_e0)) .lNil))) .bNil)
def Y_with_outcome : DE := deOf [] ks cl
def m_with_outcome : List D → FR := runF 2 3 none (den (k := .B) Y_with_outcome cd_with_outcome)
theorem sc_with_outcome : FnScope ["precedents", "outcome", "precedent"] ["precedents", "outcome"] (defScope st_with_outcome) := ⟨rfl, rfl, rfl, by decide +kernel, rfl, by decide +kernel, by decide +kernel⟩
theorem ch_with_outcome : chk cd_with_outcome (infOf ["precedents", "outcome", "precedent"] (defScope st_with_outcome) [] ks cl) (defBody st_with_outcome) = true := by decide +kernel
/-! sides_of -/
abbrev st_sides_of : Stmt := top 24
def cd_sides_of : Cd .B := (.bCons (.sIf (.tCmp .Eq (.aRef 1) (.aVal (.eGlob 5))) (.bCons (.sRet (.eMov 0)) .bNil) .bNil) (.bCons (.sRet (.eTup (.lCons (.aVal (.eIx (.aRef 0) (.aVal (.eInt 1)))) (.lCons (.aVal (.eIx (.aRef 0) (.aVal (.eInt 0)))) .lNil)))) .bNil))
def Y_sides_of : DE := deOf [] ks cl
def m_sides_of : List D → FR := runF 2 2 none (den (k := .B) Y_sides_of cd_sides_of)
theorem yk_sides_of_5 : Y_sides_of.ks 5 = (.int 1) := rfl
theorem sc_sides_of : FnScope ["case", "outcome"] ["case", "outcome"] (defScope st_sides_of) := ⟨rfl, rfl, rfl, by decide +kernel, rfl, by decide +kernel, by decide +kernel⟩
theorem ch_sides_of : chk cd_sides_of (infOf ["case", "outcome"] (defScope st_sides_of) [] ks cl) (defBody st_sides_of) = true := by decide +kernel
/-! first_missing -/
abbrev st_first_missing : Stmt := top 25
def cd_first_missing_b0 : Cd .B := (.bCons (.sIf (.tCmp .NotIn (.aRef 2) (.aRef 1)) (.bCons (.sRet (.eMov 2)) .bNil) .bNil) .bNil)
def cd_first_missing : Cd .B := (.bCons (.sFor [2] (.iIt (.eVar 0)) (.gNm 2) cd_first_missing_b0) (.bCons (.sRet .eNon) .bNil))
def Y_first_missing : DE := deOf [] ks cl
def m_first_missing : List D → FR := runF 2 3 none (den (k := .B) Y_first_missing cd_first_missing)
theorem sc_first_missing : FnScope ["factors", "others", "factor"] ["factors", "others"] (defScope st_first_missing) := ⟨rfl, rfl, rfl, by decide +kernel, rfl, by decide +kernel, by decide +kernel⟩
theorem ch_first_missing : chk cd_first_missing (infOf ["factors", "others", "factor"] (defScope st_first_missing) [] ks cl) (defBody st_first_missing) = true := by decide +kernel
/-! case_of -/
abbrev st_case_of : Stmt := top 23
def cd_case_of : Cd .B := (.bCons (.sRet (.eTup (.lCons (.aVal (.eIx (.aRef 0) (.aVal (.eInt 1)))) (.lCons (.aVal (.eIx (.aRef 0) (.aVal (.eInt 2)))) .lNil)))) .bNil)
def Y_case_of : DE := deOf [] ks cl
def m_case_of : List D → FR := runF 1 1 none (den (k := .B) Y_case_of cd_case_of)
theorem sc_case_of : FnScope ["precedent"] ["precedent"] (defScope st_case_of) := ⟨rfl, rfl, rfl, by decide +kernel, rfl, by decide +kernel, by decide +kernel⟩
theorem ch_case_of : chk cd_case_of (infOf ["precedent"] (defScope st_case_of) [] ks cl) (defBody st_case_of) = true := by decide +kernel
/-! find_difference -/
abbrev st_find_difference : Stmt := top 26
def cd_find_difference : Cd .B := (.bCons (.sTup [2, 3] (.eCall 0 2 none (.lCons (.aVal (.eCall 2 1 none (.lCons (.aVal (.eVar 0)) .lNil))) (.lCons (.aVal (.eIx (.aRef 0) (.aVal (.eInt 3)))) .lNil)))) (.bCons (.sTup [4, 5] (.eCall 0 2 none (.lCons (.aVal (.eVar 1)) (.lCons (.aVal (.eIx (.aRef 0) (.aVal (.eInt 3)))) .lNil)))) (.bCons (.sSet 6 (.eCall 1 2 none (.lCons (.aVal (.eVar 2)) (.lCons (.aVal (.eVar 4)) .lNil)))) (.bCons (.sIf (.tCmp .IsNot (.aRef 6) (.aVal .eNon)) (.bCons (.sRet (.eTup (.lCons (.aVal (.eIx (.aRef 0) (.aVal (.eInt 0)))) (.lCons (.aVal (.eStr "lacks")) (.lCons (.aVal (.eVar 6)) .lNil))))) .bNil) .bNil) (.bCons (.sSet 6 (.eCall 1 2 none (.lCons (.aVal (.eVar 5)) (.lCons (.aVal (.eVar 3)) .lNil)))) (.bCons (.sIf (.tCmp .IsNot (.aRef 6) (.aVal .eNon)) (.bCons (.sRet (.eTup (.lCons (.aVal (.eIx (.aRef 0) (.aVal (.eInt 0)))) (.lCons (.aVal (.eStr "more")) (.lCons (.aVal (.eVar 6)) .lNil))))) .bNil) .bNil) (.bCons (.sRet .eNon) .bNil)))))))
def Y_find_difference : DE := deOf [m_sides_of, m_first_missing, m_case_of] ks cl
def m_find_difference : List D → FR := runF 2 7 none (den (k := .B) Y_find_difference cd_find_difference)
theorem ys_find_difference_0 : Y_find_difference.sem 0 = m_sides_of := rfl
theorem ys_find_difference_1 : Y_find_difference.sem 1 = m_first_missing := rfl
theorem ys_find_difference_2 : Y_find_difference.sem 2 = m_case_of := rfl
theorem sc_find_difference : FnScope ["precedent", "case", "old_for", "old_against", "new_for", "new_against", "factor"] ["precedent", "case"] (defScope st_find_difference) := ⟨rfl, rfl, rfl, by decide +kernel, rfl, by decide +kernel, by decide +kernel⟩
theorem ch_find_difference : chk cd_find_difference (infOf ["precedent", "case", "old_for", "old_against", "new_for", "new_against", "factor"] (defScope st_find_difference) [("sides_of", 2, none), ("first_missing", 2, none), ("case_of", 1, none)] ks cl) (defBody st_find_difference) = true := by decide +kernel
/-! first_binding -/
abbrev st_first_binding : Stmt := top 29
def cd_first_binding_b0 : Cd .B := (.bCons (.sIf (.tCmp .Is (.aVal (.eCall 1 2 none (.lCons (.aVal (.eVar 3)) (.lCons (.aVal (.eVar 1)) .lNil)))) (.aVal .eNon)) (.bCons (.sRet (.eIx (.aRef 3) (.aVal (.eInt 0)))) .bNil) .bNil) .bNil)
def cd_first_binding : Cd .B := (.bCons (.sFor [3] (.iIt (.eCall 0 2 none (.lCons (.aVal (.eVar 0)) (.lCons (.aVal (.eVar 2)) .lNil)))) (.gNm 3) cd_first_binding_b0) (.bCons (.sRet .eNon) .bNil))
def Y_first_binding : DE := deOf [m_with_outcome, m_find_difference] ks cl
def m_first_binding : List D → FR := runF 3 4 none (den (k := .B) Y_first_binding cd_first_binding)
theorem ys_first_binding_0 : Y_first_binding.sem 0 = m_with_outcome := rfl
theorem ys_first_binding_1 : Y_first_binding.sem 1 = m_find_difference := rfl
theorem sc_first_binding : FnScope ["precedents", "case", "outcome", "precedent"] ["precedents", "case", "outcome"] (defScope st_first_binding) := ⟨rfl, rfl, rfl, by decide +kernel, rfl, by decide +kernel, by decide +kernel⟩
theorem ch_first_binding : chk cd_first_binding (infOf ["precedents", "case", "outcome", "precedent"] (defScope st_first_binding) [("with_outcome", 2, none), ("find_difference", 2, none)] ks cl) (defBody st_first_binding) = true := by decide +kernel
/-! find_differences -/
abbrev st_find_differences : Stmt := top 30
def cd_find_differences_e0 : Cd .E := (.eCall 0 2 none (.lCons (.aVal (.eVar 2)) (.lCons (.aVal (.eVar 1)) .lNil)))
def cd_find_differences : Cd .B := (.bCons (.sRet (.eCB .tup (.lCons (.aVal (.eComp [("precedent", 2)] [2] (.iIt (.eVar 0)) (.gNm 2) .cNil cd_find_differences_e0)) .lNil))) .bNil)
def Y_find_differences : DE := deOf [m_find_difference] ks cl
def m_find_differences : List D → FR := runF 2 3 none (den (k := .B) Y_find_differences cd_find_differences)
theorem ys_find_differences_0 : Y_find_differences.sem 0 = m_find_difference := rfl
theorem sc_find_differences : FnScope ["precedents", "case", "precedent"] ["precedents", "case"] (defScope st_find_differences) := ⟨rfl, rfl, rfl, by decide +kernel, rfl, by decide +kernel, by decide +kernel⟩
theorem ch_find_differences : chk cd_find_differences (infOf ["precedents", "case", "precedent"] (defScope st_find_differences) [("find_difference", 2, none)] ks cl) (defBody st_find_differences) = true := by decide +kernel
/-! rule -/
abbrev st_rule : Stmt := top 31
def cd_rule : Cd .B := (.bCons (.sExp (.eCall 0 1 none (.lCons (.aVal (.eVar 0)) .lNil))) (.bCons (.sExp (.eCall 1 1 none (.lCons (.aVal (.eVar 1)) .lNil))) (.bCons (.sSet 2 (.eCall 3 3 none (.lCons (.aVal (.eVar 0)) (.lCons (.aVal (.eVar 1)) (.lCons (.aVal (.eGlob 5)) .lNil))))) (.bCons (.sSet 3 (.eCall 3 3 none (.lCons (.aVal (.eVar 0)) (.lCons (.aVal (.eVar 1)) (.lCons (.aVal (.eGlob 6)) .lNil))))) (.bCons (.sIf (.tW (.wAnd (.tCmp .IsNot (.aRef 2) (.aVal .eNon)) (.wOne (.tCmp .IsNot (.aRef 3) (.aVal .eNon))))) (.bCons (.sRet (.eTup (.lCons (.aVal (.eStr "torn")) (.lCons (.aVal (.eTup (.lCons (.aVal (.eVar 2)) (.lCons (.aVal (.eVar 3)) .lNil)))) .lNil)))) .bNil) .bNil) (.bCons (.sIf (.tCmp .IsNot (.aRef 2) (.aVal .eNon)) (.bCons (.sRet (.eTup (.lCons (.aVal (.eStr "upheld")) (.lCons (.aVal (.eTup (.lCons (.aVal (.eVar 2)) (.lCons (.aVal (.eCall 4 2 none (.lCons (.aVal (.eCall 2 2 none (.lCons (.aVal (.eVar 0)) (.lCons (.aVal (.eGlob 6)) .lNil)))) (.lCons (.aVal (.eVar 1)) .lNil)))) .lNil)))) .lNil)))) .bNil) .bNil) (.bCons (.sIf (.tCmp .IsNot (.aRef 3) (.aVal .eNon)) (.bCons (.sRet (.eTup (.lCons (.aVal (.eStr "dismissed")) (.lCons (.aVal (.eTup (.lCons (.aVal (.eVar 3)) (.lCons (.aVal (.eCall 4 2 none (.lCons (.aVal (.eCall 2 2 none (.lCons (.aVal (.eVar 0)) (.lCons (.aVal (.eGlob 5)) .lNil)))) (.lCons (.aVal (.eVar 1)) .lNil)))) .lNil)))) .lNil)))) .bNil) .bNil) (.bCons (.sRet (.eTup (.lCons (.aVal (.eStr "free")) (.lCons (.aVal (.eTup (.lCons (.aVal (.eCall 4 2 none (.lCons (.aVal (.eVar 0)) (.lCons (.aVal (.eVar 1)) .lNil)))) .lNil))) .lNil)))) .bNil))))))))
def Y_rule : DE := deOf [m_check_precedents, m_check_case, m_with_outcome, m_first_binding, m_find_differences] ks cl
def m_rule : List D → FR := runF 2 4 none (den (k := .B) Y_rule cd_rule)
theorem ys_rule_0 : Y_rule.sem 0 = m_check_precedents := rfl
theorem ys_rule_1 : Y_rule.sem 1 = m_check_case := rfl
theorem ys_rule_2 : Y_rule.sem 2 = m_with_outcome := rfl
theorem ys_rule_3 : Y_rule.sem 3 = m_first_binding := rfl
theorem ys_rule_4 : Y_rule.sem 4 = m_find_differences := rfl
theorem yk_rule_5 : Y_rule.ks 5 = (.int 1) := rfl
theorem yk_rule_6 : Y_rule.ks 6 = (.int (-1)) := rfl
theorem sc_rule : FnScope ["precedents", "case", "up", "down"] ["precedents", "case"] (defScope st_rule) := ⟨rfl, rfl, rfl, by decide +kernel, rfl, by decide +kernel, by decide +kernel⟩
theorem ch_rule : chk cd_rule (infOf ["precedents", "case", "up", "down"] (defScope st_rule) [("check_precedents", 1, none), ("check_case", 1, none), ("with_outcome", 2, none), ("first_binding", 3, none), ("find_differences", 2, none)] ks cl) (defBody st_rule) = true := by decide +kernel
/-! _law_difference -/
abbrev st__law_difference : Stmt := top 39
def cd__law_difference_c0 : Cd .C := .cOne (.tCmp .NotIn (.aRef 7) (.aRef 3))
def cd__law_difference_e0 : Cd .E := (.eVar 7)
def cd__law_difference_c1 : Cd .C := .cOne (.tCmp .NotIn (.aRef 7) (.aRef 4))
def cd__law_difference_e1 : Cd .E := (.eVar 7)
def cd__law_difference : Cd .B := (.bCons (.sSet 2 (.eIx (.aRef 0) (.aVal (.eInt 1)))) (.bCons (.sSet 3 (.eIx (.aRef 0) (.aVal (.eInt 2)))) (.bCons (.sSet 4 (.eIx (.aRef 1) (.aVal (.eInt 0)))) (.bCons (.sSet 5 (.eIx (.aRef 1) (.aVal (.eInt 1)))) (.bCons (.sIf (.tCmp .Eq (.aVal (.eIx (.aRef 0) (.aVal (.eInt 3)))) (.aVal (.eNeg (.aVal (.eInt 1))))) (.bCons (.sSet 2 (.eIx (.aRef 0) (.aVal (.eInt 2)))) (.bCons (.sSet 3 (.eIx (.aRef 0) (.aVal (.eInt 1)))) (.bCons (.sSet 4 (.eIx (.aRef 1) (.aVal (.eInt 1)))) (.bCons (.sSet 5 (.eIx (.aRef 1) (.aVal (.eInt 0)))) .bNil)))) .bNil) (.bCons (.sSet 6 (.eComp [("factor", 7)] [7] (.iIt (.eVar 2)) (.gNm 7) cd__law_difference_c1 cd__law_difference_e1)) (.bCons (.sSet 8 (.eComp [("factor", 7)] [7] (.iIt (.eVar 5)) (.gNm 7) cd__law_difference_c0 cd__law_difference_e0)) (.bCons (.sIf (.tCmp .NotEq (.aRef 6) (.aVal (.eLst .lNil))) (.bCons (.sRet (.eTup (.lCons (.aVal (.eIx (.aRef 0) (.aVal (.eInt 0)))) (.lCons (.aVal (.eStr "lacks")) (.lCons (.aVal (.eIx (.aRef 6) (.aVal (.eInt 0)))) .lNil))))) .bNil) .bNil) (.bCons (.sIf (.tCmp .NotEq (.aRef 8) (.aVal (.eLst .lNil))) (.bCons (.sRet (.eTup (.lCons (.aVal (.eIx (.aRef 0) (.aVal (.eInt 0)))) (.lCons (.aVal (.eStr "more")) (.lCons (.aVal (.eIx (.aRef 8) (.aVal (.eInt 0)))) .lNil))))) .bNil) .bNil) (.bCons (.sRet .eNon) .bNil))))))))))
def Y__law_difference : DE := deOf [] ks cl
def m__law_difference : List D → FR := runF 2 9 none (den (k := .B) Y__law_difference cd__law_difference)
theorem sc__law_difference : FnScope ["precedent", "case", "old_for", "old_against", "new_for", "new_against", "lacks", "factor", "more"] ["precedent", "case"] (defScope st__law_difference) := ⟨rfl, rfl, rfl, by decide +kernel, rfl, by decide +kernel, by decide +kernel⟩
theorem ch__law_difference : chk cd__law_difference (infOf ["precedent", "case", "old_for", "old_against", "new_for", "new_against", "lacks", "factor", "more"] (defScope st__law_difference) [] ks cl) (defBody st__law_difference) = true := by decide +kernel
/-! _law_rule -/
abbrev st__law_rule : Stmt := top 40
def cd__law_rule_e0 : Cd .E := (.eCall 0 2 none (.lCons (.aVal (.eVar 3)) (.lCons (.aVal (.eVar 1)) .lNil)))
def cd__law_rule_e1 : Cd .E := (.eCall 0 2 none (.lCons (.aVal (.eVar 3)) (.lCons (.aVal (.eVar 1)) .lNil)))
def cd__law_rule_e2 : Cd .E := (.eCall 0 2 none (.lCons (.aVal (.eVar 3)) (.lCons (.aVal (.eVar 1)) .lNil)))
def cd__law_rule_c0 : Cd .C := .cOne (.tCmp .Is (.aVal (.eCall 0 2 none (.lCons (.aVal (.eVar 3)) (.lCons (.aVal (.eVar 1)) .lNil)))) (.aVal .eNon))
def cd__law_rule_e3 : Cd .E := (.eIx (.aRef 3) (.aVal (.eInt 0)))
def cd__law_rule_c1 : Cd .C := .cOne (.tCmp .Is (.aVal (.eCall 0 2 none (.lCons (.aVal (.eVar 3)) (.lCons (.aVal (.eVar 1)) .lNil)))) (.aVal .eNon))
def cd__law_rule_e4 : Cd .E := (.eIx (.aRef 3) (.aVal (.eInt 0)))
def cd__law_rule_c2 : Cd .C := .cOne (.tCmp .Eq (.aVal (.eIx (.aRef 3) (.aVal (.eInt 3)))) (.aVal (.eNeg (.aVal (.eInt 1)))))
def cd__law_rule_e5 : Cd .E := (.eVar 3)
def cd__law_rule_c3 : Cd .C := .cOne (.tCmp .Eq (.aVal (.eIx (.aRef 3) (.aVal (.eInt 3)))) (.aVal (.eInt 1)))
def cd__law_rule_e6 : Cd .E := (.eVar 3)
def cd__law_rule : Cd .B := (.bCons (.sSet 2 (.eComp [("row", 3)] [3] (.iIt (.eVar 0)) (.gNm 3) cd__law_rule_c3 cd__law_rule_e6)) (.bCons (.sSet 4 (.eComp [("row", 3)] [3] (.iIt (.eVar 0)) (.gNm 3) cd__law_rule_c2 cd__law_rule_e5)) (.bCons (.sSet 5 (.eComp [("row", 3)] [3] (.iIt (.eVar 2)) (.gNm 3) cd__law_rule_c1 cd__law_rule_e4)) (.bCons (.sSet 6 (.eComp [("row", 3)] [3] (.iIt (.eVar 4)) (.gNm 3) cd__law_rule_c0 cd__law_rule_e3)) (.bCons (.sIf (.tW (.wAnd (.tCmp .NotEq (.aRef 5) (.aVal (.eLst .lNil))) (.wOne (.tCmp .NotEq (.aRef 6) (.aVal (.eLst .lNil)))))) (.bCons (.sRet (.eTup (.lCons (.aVal (.eStr "torn")) (.lCons (.aVal (.eTup (.lCons (.aVal (.eIx (.aRef 5) (.aVal (.eInt 0)))) (.lCons (.aVal (.eIx (.aRef 6) (.aVal (.eInt 0)))) .lNil)))) .lNil)))) .bNil) .bNil) (.bCons (.sIf (.tCmp .NotEq (.aRef 5) (.aVal (.eLst .lNil))) (.bCons (.sRet (.eTup (.lCons (.aVal (.eStr "upheld")) (.lCons (.aVal (.eTup (.lCons (.aVal (.eIx (.aRef 5) (.aVal (.eInt 0)))) (.lCons (.aVal (.eCB .tup (.lCons (.aVal (.eComp [("row", 3)] [3] (.iIt (.eVar 4)) (.gNm 3) .cNil cd__law_rule_e2)) .lNil))) .lNil)))) .lNil)))) .bNil) .bNil) (.bCons (.sIf (.tCmp .NotEq (.aRef 6) (.aVal (.eLst .lNil))) (.bCons (.sRet (.eTup (.lCons (.aVal (.eStr "dismissed")) (.lCons (.aVal (.eTup (.lCons (.aVal (.eIx (.aRef 6) (.aVal (.eInt 0)))) (.lCons (.aVal (.eCB .tup (.lCons (.aVal (.eComp [("row", 3)] [3] (.iIt (.eVar 2)) (.gNm 3) .cNil cd__law_rule_e1)) .lNil))) .lNil)))) .lNil)))) .bNil) .bNil) (.bCons (.sRet (.eTup (.lCons (.aVal (.eStr "free")) (.lCons (.aVal (.eTup (.lCons (.aVal (.eCB .tup (.lCons (.aVal (.eComp [("row", 3)] [3] (.iIt (.eVar 0)) (.gNm 3) .cNil cd__law_rule_e0)) .lNil))) .lNil))) .lNil)))) .bNil))))))))
def Y__law_rule : DE := deOf [m__law_difference] ks cl
def m__law_rule : List D → FR := runF 2 7 none (den (k := .B) Y__law_rule cd__law_rule)
theorem ys__law_rule_0 : Y__law_rule.sem 0 = m__law_difference := rfl
theorem sc__law_rule : FnScope ["precedents", "case", "ups", "row", "downs", "up", "down"] ["precedents", "case"] (defScope st__law_rule) := ⟨rfl, rfl, rfl, by decide +kernel, rfl, by decide +kernel, by decide +kernel⟩
theorem ch__law_rule : chk cd__law_rule (infOf ["precedents", "case", "ups", "row", "downs", "up", "down"] (defScope st__law_rule) [("_law_difference", 2, none)] ks cl) (defBody st__law_rule) = true := by decide +kernel
/-! _law_outcome -/
abbrev st__law_outcome : Stmt := top 43
def cd__law_outcome : Cd .B := (.bCons (.sTry (.bCons (.sExp (.eCall 0 2 none (.lCons (.aVal (.eVar 0)) (.lCons (.aVal (.eVar 1)) .lNil)))) .bNil) (.hCons 1 (.bCons (.sRet (.eStr "precedents")) .bNil) (.hCons 0 (.bCons (.sRet (.eStr "case")) .bNil) .hNil))) (.bCons (.sRet (.eStr "none")) .bNil))
def Y__law_outcome : DE := deOf [m_rule] ks cl
def m__law_outcome : List D → FR := runF 2 2 none (den (k := .B) Y__law_outcome cd__law_outcome)
theorem ys__law_outcome_0 : Y__law_outcome.sem 0 = m_rule := rfl
theorem yc__law_outcome_0 : Y__law_outcome.ct 0 = some (Str.ofString "BadCase") := rfl
theorem yc__law_outcome_1 : Y__law_outcome.ct 1 = some (Str.ofString "BadPrecedents") := rfl
theorem sc__law_outcome : FnScope ["precedents", "case"] ["precedents", "case"] (defScope st__law_outcome) := ⟨rfl, rfl, rfl, by decide +kernel, rfl, by decide +kernel, by decide +kernel⟩
theorem ch__law_outcome : chk cd__law_outcome (infOf ["precedents", "case"] (defScope st__law_outcome) [("rule", 2, none)] ks cl) (defBody st__law_outcome) = true := by decide +kernel
/-! law -/
abbrev st_law : Stmt := top 44
def cd_law_s0 : Cd .S := (.sSet 1 (.eCall 0 2 none (.lCons (.aVal (.eVar 0)) (.lCons (.aVal (.eInt 1000)) .lNil))))
def cd_law_s1 : Cd .S := (.sSet 2 (.eCall 2 2 (some 0) (.lCons (.aRef 1) (.lCons (.aVal (.eBin .Add (.aVal (.eInt 1)) (.aVal (.eCall 1 2 (some 0) (.lCons (.aRef 1) (.lCons (.aVal (.eInt 4)) .lNil)))))) .lNil))))
def cd_law_s2 : Cd .S := (.sSet 3 (.eCall 1 2 (some 0) (.lCons (.aRef 1) (.lCons (.aVal (.eInt 7)) .lNil))))
def cd_law_s3 : Cd .S := (.sIf (.tCmp .Eq (.aVal (.eCall 1 2 (some 0) (.lCons (.aRef 1) (.lCons (.aVal (.eInt 8)) .lNil)))) (.aVal (.eInt 7))) (.bCons (.sSet 3 (.eInt 60)) .bNil) .bNil)
def cd_law_s4 : Cd .S := (.sSet 4 (.eTup (.lCons (.aVal (.eCall 3 2 (some 0) (.lCons (.aRef 1) (.lCons (.aVal (.eVar 2)) .lNil)))) (.lCons (.aVal (.eCall 3 2 (some 0) (.lCons (.aRef 1) (.lCons (.aVal (.eVar 2)) .lNil)))) .lNil))))
def cd_law_s5 : Cd .S := (.sSet 5 (.eCall 4 3 (some 0) (.lCons (.aRef 1) (.lCons (.aVal (.eVar 2)) (.lCons (.aVal (.eVar 3)) .lNil)))))
def cd_law_s6 : Cd .S := (.sIf (.tNot (.tE (.eCall 5 2 none (.lCons (.aVal (.eCall 6 2 none (.lCons (.aVal (.eVar 5)) (.lCons (.aVal (.eVar 4)) .lNil)))) (.lCons (.aVal (.eCall 7 2 none (.lCons (.aVal (.eVar 5)) (.lCons (.aVal (.eVar 4)) .lNil)))) .lNil))))) (.bCons (.sRet (.eBl false)) .bNil) .bNil)
def cd_law_b0 : Cd .B := (.bCons (.sSet 7 (.eTup (.lCons (.aVal (.eIx (.aRef 6) (.aVal (.eInt 1)))) (.lCons (.aVal (.eIx (.aRef 6) (.aVal (.eInt 2)))) .lNil)))) (.bCons (.sIf (.tW (.wAnd (.tCmp .Lt (.aRef 3) (.aVal (.eInt 60))) (.wOne (.tNot (.tE (.eCall 5 2 none (.lCons (.aVal (.eCall 6 2 none (.lCons (.aVal (.eVar 5)) (.lCons (.aVal (.eVar 7)) .lNil)))) (.lCons (.aVal (.eCall 7 2 none (.lCons (.aVal (.eVar 5)) (.lCons (.aVal (.eVar 7)) .lNil)))) .lNil)))))))) (.bCons (.sRet (.eBl false)) .bNil) .bNil) .bNil))
def cd_law_s7 : Cd .S := (.sFor [6] (.iIt (.eVar 5)) (.gNm 6) cd_law_b0)
def cd_law_e0 : Cd .E := (.eTup (.lCons (.aVal (.eBin .Add (.aVal (.eStr "q")) (.aVal (.eCB .str (.lCons (.aVal (.eBin .Add (.aVal (.eInt 100)) (.aRef 9))) .lNil))))) (.lCons (.aVal (.eTup .lNil)) (.lCons (.aVal (.eTup .lNil)) (.lCons (.aVal (.eInt 1)) .lNil)))))
def cd_law_s8 : Cd .S := (.sSet 8 (.eBin .Add (.aRef 5) (.aVal (.eCB .tup (.lCons (.aVal (.eComp [("k", 9)] [9] (.iRg1 (.lCons (.aVal (.eBin .Sub (.aVal (.eInt 61)) (.aRef 3))) .lNil)) (.gNm 9) .cNil cd_law_e0)) .lNil)))))
def cd_law_s9 : Cd .S := (.sSet 10 (.eBin .Add (.aVal (.eSl (.aRef 5) .oNone (.oSome (.aVal (.eInt 1))))) (.aVal (.eTup (.lCons (.aVal (.eTup (.lCons (.aVal (.eStr "q100")) (.lCons (.aVal (.eTup .lNil)) (.lCons (.aVal (.eTup .lNil)) (.lCons (.aVal (.eInt 1)) .lNil)))))) (.lCons (.aVal (.eTup (.lCons (.aVal (.eStr "q100")) (.lCons (.aVal (.eTup .lNil)) (.lCons (.aVal (.eTup .lNil)) (.lCons (.aVal (.eNeg (.aVal (.eInt 1)))) .lNil)))))) .lNil))))))
def cd_law_b1 : Cd .B := (.bCons (.sIf (.tW (.wOr (.tCmp .NotEq (.aVal (.eCall 8 2 none (.lCons (.aVal (.eVar 11)) (.lCons (.aVal (.eVar 4)) .lNil)))) (.aVal (.eStr "precedents"))) (.wOne (.tCmp .NotEq (.aVal (.eCall 8 2 none (.lCons (.aVal (.eVar 11)) (.lCons (.aVal .eNon) .lNil)))) (.aVal (.eStr "precedents")))))) (.bCons (.sRet (.eBl false)) .bNil) .bNil) .bNil)
def cd_law_s10 : Cd .S := (.sFor [11] (.iIt (.eLst (.lCons (.aVal (.eVar 8)) (.lCons (.aVal (.eVar 10)) (.lCons (.aVal (.eCB .lst (.lCons (.aRef 5) .lNil))) .lNil))))) (.gNm 11) cd_law_b1)
def cd_law_s11 : Cd .S := (.sIf (.tNot (.tE (.eCall 5 2 none (.lCons (.aVal (.eCall 6 2 none (.lCons (.aVal (.eSl (.aRef 8) .oNone (.oSome (.aVal (.eInt 60))))) (.lCons (.aVal (.eVar 4)) .lNil)))) (.lCons (.aVal (.eCall 7 2 none (.lCons (.aVal (.eSl (.aRef 8) .oNone (.oSome (.aVal (.eInt 60))))) (.lCons (.aVal (.eVar 4)) .lNil)))) .lNil))))) (.bCons (.sRet (.eBl false)) .bNil) .bNil)
def cd_law_s12 : Cd .S := (.sRet (.eAnd (.eCmp .Eq (.aVal (.eCall 8 2 none (.lCons (.aVal (.eVar 5)) (.lCons (.aVal .eNon) .lNil)))) (.aVal (.eStr "case"))) (.eOne (.eCmp .Eq (.aVal (.eCall 8 2 none (.lCons (.aVal (.eVar 5)) (.lCons (.aVal (.eTup (.lCons (.aVal (.eTup (.lCons (.aVal (.eStr "a")) (.lCons (.aVal (.eStr "a")) .lNil)))) (.lCons (.aVal (.eTup .lNil)) .lNil)))) .lNil)))) (.aVal (.eStr "case"))))))
def cd_law : Cd .B := (.bCons cd_law_s0 (.bCons cd_law_s1 (.bCons cd_law_s2 (.bCons cd_law_s3 (.bCons cd_law_s4 (.bCons cd_law_s5 (.bCons cd_law_s6 (.bCons cd_law_s7 (.bCons cd_law_s8 (.bCons cd_law_s9 (.bCons cd_law_s10 (.bCons cd_law_s11 (.bCons cd_law_s12 .bNil)))))))))))))
def Y_law : DE := deOf [m__law_pool, m__law_take, m__law_words, m__law_side, m__law_precedents, m__law_same, m_rule, m__law_rule, m__law_outcome] ks cl
def m_law : List D → FR := runF 1 12 none (den (k := .B) Y_law cd_law)
theorem ys_law_0 : Y_law.sem 0 = m__law_pool := rfl
theorem ys_law_1 : Y_law.sem 1 = m__law_take := rfl
theorem ys_law_2 : Y_law.sem 2 = m__law_words := rfl
theorem ys_law_3 : Y_law.sem 3 = m__law_side := rfl
theorem ys_law_4 : Y_law.sem 4 = m__law_precedents := rfl
theorem ys_law_5 : Y_law.sem 5 = m__law_same := rfl
theorem ys_law_6 : Y_law.sem 6 = m_rule := rfl
theorem ys_law_7 : Y_law.sem 7 = m__law_rule := rfl
theorem ys_law_8 : Y_law.sem 8 = m__law_outcome := rfl
theorem sc_law : FnScope ["script", "pool", "words", "count", "case", "precedents", "row", "other", "longer", "k", "twice", "bad"] ["script"] (defScope st_law) := ⟨rfl, rfl, rfl, by decide +kernel, rfl, by decide +kernel, by decide +kernel⟩
theorem ch_law : chk cd_law (infOf ["script", "pool", "words", "count", "case", "precedents", "row", "other", "longer", "k", "twice", "bad"] (defScope st_law) [("_law_pool", 2, none), ("_law_take", 2, some 0), ("_law_words", 2, some 0), ("_law_side", 2, some 0), ("_law_precedents", 3, some 0), ("_law_same", 2, none), ("rule", 2, none), ("_law_rule", 2, none), ("_law_outcome", 2, none)] ks cl) (defBody st_law) = true := by decide +kernel
end PV.Lw
namespace PV.Lw
open PySem L2 PV

theorem is_int_s (d : D) : m_is_int [d] = .ret (.bool (isiD .int d && !isiD .bool d)) false .none := by
  cases d <;> simp only [m_is_int, cd_is_int, bind_ok, bind_ex, fl_ok, fl_ex, seq_nx, seq_rt, seq_bk, seq_ct, seq_ex, x_run, fin_nx, fin_rt, fin_ex, exit_none, exit_some, opt_some, d_eVar, d_eMov, d_eInt, d_eStr, d_eBl, d_eNon, d_eGlob, x_q1, x_q2, d_eBin, d_eCmp, d_eIx, chB_b, x_c1, x_c2, x_c4, d_eChain, d_eOne, andB_b, orB_b, d_eAnd, d_eOr, notV_b, d_eNot, x_tupV, x_lstV, d_eTup, d_eLst, x_cbV, d_eCB, retV_ret, retV_ex, retIo_own, retIo_io, x_call0, x_call1, d_eCall, x_isiV, d_eIsi, x_negV, d_eNeg, d_eDicK, d_eDicT, x_sl1, x_sl2, x_sl3, d_eSl, x_o1, d_oNone, d_oSome, x_revV, d_eRevL, x_compV, compFin_ok, d_eComp, d_eCompB, d_ePop, x_valA, d_aVal, d_aRef, d_lNil, x_l1, x_l2, d_lCons, blT_b, d_tE, d_tCmp, d_tChain, d_tW, x_notT, d_tNot, d_wOne, x_andT, x_orT, d_wAnd, d_wOr, d_cNil, d_cOne, itV_l, itV_t, itV_s, d_iIt, d_gNm, d_gTup, x_retS, d_sRet, d_sRetN, x_expS, d_sExp, x_ifS, d_sIf, d_sPass, d_sBrk, d_sCnt, x_asgS, d_sSet, x_tupS, d_sTup, x_appS, d_sApp, x_putS, x_putS2, d_sPut, x_forS, d_sFor, d_sWhile, d_sRaise, hand_nx, hand_rt, hand_ex, d_sTry, d_hNil, d_hCons, hands_nil, hands_cons, noEx_nx, noEx_rt, d_bNil, d_bCons, rho0, fCompB, wipeR, unwipe, sv_no, sv_val, sv_own, AV.ct, slCt, Sl.ct, Sl.od, cts, avVals, x_stOk, pl_no, pl_val, pl_own, slOf, tgAll, k_add, k_sub, k_mul, k_div, k_mod, k_pow, k_eq, k_ne, k_lt, k_le, k_gt, k_ge, k_is, k_isn, k_in, k_nin, isi_non, isi_bl, isi_int, isi_str, isi_lst, isi_tup, isi_dic, add_int, sub_int', lt_int', le_int', gt_int', ge_int', eq_int, ne_int, eq_str, ne_str, is_none, isn_none, is_bool, isn_bool, isNoneD, isBoolD, in_lst, in_tup, nin_lst, nin_tup, in_sgn, nin_sgn, len_lst, len_tup, tup_lst, tup_tup, lst_tup, int_int, x_rg1V, d_iRg1, pow18, ix_t0, ix_t1, ix_t2, ix_t3, ix_l0, sSl, Bf.sem, lk, lkD, deOf, lsAt, reOwn, dcAt, putAt, List.mapIdx_cons, List.mapIdx_nil, List.replicate, List.length_cons, List.length_nil, List.map_cons, List.map_nil, List.cons_append, List.nil_append, List.append_nil, List.set, List.getElem?_cons_zero, List.getElem?_cons_succ, List.getElem?_nil, List.getElem?_map, Option.map_some, Option.map_none, Option.getD_some, Option.getD_none, Option.or_some, Option.none_or, Option.some_or, ↓reduceIte, reduceCtorEq, Option.some.injEq, Nat.zero_add, Nat.reduceAdd, Nat.reduceSub, Nat.reduceLeDiff, Nat.reduceEqDiff, Nat.reduceLT, Nat.sub_self, Nat.add_one_sub_one, Bool.not_true, Bool.not_false, Bool.not_not, Bool.and_true, Bool.true_and, Bool.and_false, Bool.false_and, Bool.or_true, Bool.true_or, Bool.or_false, Bool.false_or, Bool.false_eq_true, Bool.not_eq_true', decide_true, decide_false, decide_eq_true_eq]
def tupN (d : D) (n : Int) : Bool := match d with | .tuple ds => decide ((ds.length : Int) = n) | _ => false
theorem is_tuple_s (d : D) (n : Int) : m_is_tuple [d, .int n] = .ret (.bool (tupN d n)) false .none := by
  cases d <;> simp only [m_is_tuple, cd_is_tuple, tupN, bind_ok, bind_ex, fl_ok, fl_ex, seq_nx, seq_rt, seq_bk, seq_ct, seq_ex, x_run, fin_nx, fin_rt, fin_ex, exit_none, exit_some, opt_some, d_eVar, d_eMov, d_eInt, d_eStr, d_eBl, d_eNon, d_eGlob, x_q1, x_q2, d_eBin, d_eCmp, d_eIx, chB_b, x_c1, x_c2, x_c4, d_eChain, d_eOne, andB_b, orB_b, d_eAnd, d_eOr, notV_b, d_eNot, x_tupV, x_lstV, d_eTup, d_eLst, x_cbV, d_eCB, retV_ret, retV_ex, retIo_own, retIo_io, x_call0, x_call1, d_eCall, x_isiV, d_eIsi, x_negV, d_eNeg, d_eDicK, d_eDicT, x_sl1, x_sl2, x_sl3, d_eSl, x_o1, d_oNone, d_oSome, x_revV, d_eRevL, x_compV, compFin_ok, d_eComp, d_eCompB, d_ePop, x_valA, d_aVal, d_aRef, d_lNil, x_l1, x_l2, d_lCons, blT_b, d_tE, d_tCmp, d_tChain, d_tW, x_notT, d_tNot, d_wOne, x_andT, x_orT, d_wAnd, d_wOr, d_cNil, d_cOne, itV_l, itV_t, itV_s, d_iIt, d_gNm, d_gTup, x_retS, d_sRet, d_sRetN, x_expS, d_sExp, x_ifS, d_sIf, d_sPass, d_sBrk, d_sCnt, x_asgS, d_sSet, x_tupS, d_sTup, x_appS, d_sApp, x_putS, x_putS2, d_sPut, x_forS, d_sFor, d_sWhile, d_sRaise, hand_nx, hand_rt, hand_ex, d_sTry, d_hNil, d_hCons, hands_nil, hands_cons, noEx_nx, noEx_rt, d_bNil, d_bCons, rho0, fCompB, wipeR, unwipe, sv_no, sv_val, sv_own, AV.ct, slCt, Sl.ct, Sl.od, cts, avVals, x_stOk, pl_no, pl_val, pl_own, slOf, tgAll, k_add, k_sub, k_mul, k_div, k_mod, k_pow, k_eq, k_ne, k_lt, k_le, k_gt, k_ge, k_is, k_isn, k_in, k_nin, isi_non, isi_bl, isi_int, isi_str, isi_lst, isi_tup, isi_dic, add_int, sub_int', lt_int', le_int', gt_int', ge_int', eq_int, ne_int, eq_str, ne_str, is_none, isn_none, is_bool, isn_bool, isNoneD, isBoolD, in_lst, in_tup, nin_lst, nin_tup, in_sgn, nin_sgn, len_lst, len_tup, tup_lst, tup_tup, lst_tup, int_int, x_rg1V, d_iRg1, pow18, ix_t0, ix_t1, ix_t2, ix_t3, ix_l0, sSl, Bf.sem, lk, lkD, deOf, lsAt, reOwn, dcAt, putAt, List.mapIdx_cons, List.mapIdx_nil, List.replicate, List.length_cons, List.length_nil, List.map_cons, List.map_nil, List.cons_append, List.nil_append, List.append_nil, List.set, List.getElem?_cons_zero, List.getElem?_cons_succ, List.getElem?_nil, List.getElem?_map, Option.map_some, Option.map_none, Option.getD_some, Option.getD_none, Option.or_some, Option.none_or, Option.some_or, ↓reduceIte, reduceCtorEq, Option.some.injEq, Nat.zero_add, Nat.reduceAdd, Nat.reduceSub, Nat.reduceLeDiff, Nat.reduceEqDiff, Nat.reduceLT, Nat.sub_self, Nat.add_one_sub_one, Bool.not_true, Bool.not_false, Bool.not_not, Bool.and_true, Bool.true_and, Bool.and_false, Bool.false_and, Bool.or_true, Bool.true_or, Bool.or_false, Bool.false_or, Bool.false_eq_true, Bool.not_eq_true', decide_true, decide_false, decide_eq_true_eq]
/-! words -/
abbrev LET : List Nat := (Str.ofString "abcdefghijklmnopqrstuvwxyz").cps.toList
abbrev DIG : List Nat := (Str.ofString "0123456789").cps.toList
def okC (c : Nat) : Bool := decide (c ∈ LET) || decide (c ∈ DIG)
def okF (l : List Nat) : Bool := match l with
  | c :: _ => decide (c ∈ LET)
  | [] => false
def wordB (z : Str) : Bool := decide (1 ≤ z.length) && decide (z.length ≤ 12) && okF z.cps.toList && z.cps.toList.all okC
theorem word_body (c : Nat) (v : D) : den (k := .B) Y_is_word cd_is_word_b0 [.val v, .val (.str ⟨#[c]⟩)] = if okC c = true then .nx [.val v, .val (.str ⟨#[c]⟩)] else .rt (.bool false) false [.val v, .val (.str ⟨#[c]⟩)] := by
  simp only [cd_is_word_b0, m_is_word, cd_is_word, yk_is_word_0, yk_is_word_1, yk_is_word_2, bind_ok, bind_ex, fl_ok, fl_ex, seq_nx, seq_rt, seq_bk, seq_ct, seq_ex, x_run, fin_nx, fin_rt, fin_ex, exit_none, exit_some, opt_some, d_eVar, d_eMov, d_eInt, d_eStr, d_eBl, d_eNon, d_eGlob, x_q1, x_q2, d_eBin, d_eCmp, d_eIx, chB_b, x_c1, x_c2, x_c4, d_eChain, d_eOne, andB_b, orB_b, d_eAnd, d_eOr, notV_b, d_eNot, x_tupV, x_lstV, d_eTup, d_eLst, x_cbV, d_eCB, retV_ret, retV_ex, retIo_own, retIo_io, x_call0, x_call1, d_eCall, x_isiV, d_eIsi, x_negV, d_eNeg, d_eDicK, d_eDicT, x_sl1, x_sl2, x_sl3, d_eSl, x_o1, d_oNone, d_oSome, x_revV, d_eRevL, x_compV, compFin_ok, d_eComp, d_eCompB, d_ePop, x_valA, d_aVal, d_aRef, d_lNil, x_l1, x_l2, d_lCons, blT_b, d_tE, d_tCmp, d_tChain, d_tW, x_notT, d_tNot, d_wOne, x_andT, x_orT, d_wAnd, d_wOr, d_cNil, d_cOne, itV_l, itV_t, itV_s, d_iIt, d_gNm, d_gTup, x_retS, d_sRet, d_sRetN, x_expS, d_sExp, x_ifS, d_sIf, d_sPass, d_sBrk, d_sCnt, x_asgS, d_sSet, x_tupS, d_sTup, x_appS, d_sApp, x_putS, x_putS2, d_sPut, x_forS, d_sFor, d_sWhile, d_sRaise, hand_nx, hand_rt, hand_ex, d_sTry, d_hNil, d_hCons, hands_nil, hands_cons, noEx_nx, noEx_rt, d_bNil, d_bCons, rho0, fCompB, wipeR, unwipe, sv_no, sv_val, sv_own, AV.ct, slCt, Sl.ct, Sl.od, cts, avVals, x_stOk, pl_no, pl_val, pl_own, slOf, tgAll, k_add, k_sub, k_mul, k_div, k_mod, k_pow, k_eq, k_ne, k_lt, k_le, k_gt, k_ge, k_is, k_isn, k_in, k_nin, isi_non, isi_bl, isi_int, isi_str, isi_lst, isi_tup, isi_dic, add_int, sub_int', lt_int', le_int', gt_int', ge_int', eq_int, ne_int, eq_str, ne_str, is_none, isn_none, is_bool, isn_bool, isNoneD, isBoolD, in_lst, in_tup, nin_lst, nin_tup, in_sgn, nin_sgn, len_lst, len_tup, tup_lst, tup_tup, lst_tup, int_int, x_rg1V, d_iRg1, pow18, ix_t0, ix_t1, ix_t2, ix_t3, ix_l0, sSl, Bf.sem, lk, lkD, deOf, lsAt, reOwn, dcAt, putAt, List.mapIdx_cons, List.mapIdx_nil, List.replicate, List.length_cons, List.length_nil, List.map_cons, List.map_nil, List.cons_append, List.nil_append, List.append_nil, List.set, List.getElem?_cons_zero, List.getElem?_cons_succ, List.getElem?_nil, List.getElem?_map, Option.map_some, Option.map_none, Option.getD_some, Option.getD_none, Option.or_some, Option.none_or, Option.some_or, ↓reduceIte, reduceCtorEq, Option.some.injEq, Nat.zero_add, Nat.reduceAdd, Nat.reduceSub, Nat.reduceLeDiff, Nat.reduceEqDiff, Nat.reduceLT, Nat.sub_self, Nat.add_one_sub_one, Bool.not_true, Bool.not_false, Bool.not_not, Bool.and_true, Bool.true_and, Bool.and_false, Bool.false_and, Bool.or_true, Bool.true_or, Bool.or_false, Bool.false_or, Bool.false_eq_true, Bool.not_eq_true', decide_true, decide_false, decide_eq_true_eq]
  unfold okC
  by_cases h1 : c ∈ LET
  · simp only [h1, bind_ok, bind_ex, fl_ok, fl_ex, seq_nx, seq_rt, seq_bk, seq_ct, seq_ex, x_run, fin_nx, fin_rt, fin_ex, exit_none, exit_some, opt_some, d_eVar, d_eMov, d_eInt, d_eStr, d_eBl, d_eNon, d_eGlob, x_q1, x_q2, d_eBin, d_eCmp, d_eIx, chB_b, x_c1, x_c2, x_c4, d_eChain, d_eOne, andB_b, orB_b, d_eAnd, d_eOr, notV_b, d_eNot, x_tupV, x_lstV, d_eTup, d_eLst, x_cbV, d_eCB, retV_ret, retV_ex, retIo_own, retIo_io, x_call0, x_call1, d_eCall, x_isiV, d_eIsi, x_negV, d_eNeg, d_eDicK, d_eDicT, x_sl1, x_sl2, x_sl3, d_eSl, x_o1, d_oNone, d_oSome, x_revV, d_eRevL, x_compV, compFin_ok, d_eComp, d_eCompB, d_ePop, x_valA, d_aVal, d_aRef, d_lNil, x_l1, x_l2, d_lCons, blT_b, d_tE, d_tCmp, d_tChain, d_tW, x_notT, d_tNot, d_wOne, x_andT, x_orT, d_wAnd, d_wOr, d_cNil, d_cOne, itV_l, itV_t, itV_s, d_iIt, d_gNm, d_gTup, x_retS, d_sRet, d_sRetN, x_expS, d_sExp, x_ifS, d_sIf, d_sPass, d_sBrk, d_sCnt, x_asgS, d_sSet, x_tupS, d_sTup, x_appS, d_sApp, x_putS, x_putS2, d_sPut, x_forS, d_sFor, d_sWhile, d_sRaise, hand_nx, hand_rt, hand_ex, d_sTry, d_hNil, d_hCons, hands_nil, hands_cons, noEx_nx, noEx_rt, d_bNil, d_bCons, rho0, fCompB, wipeR, unwipe, sv_no, sv_val, sv_own, AV.ct, slCt, Sl.ct, Sl.od, cts, avVals, x_stOk, pl_no, pl_val, pl_own, slOf, tgAll, k_add, k_sub, k_mul, k_div, k_mod, k_pow, k_eq, k_ne, k_lt, k_le, k_gt, k_ge, k_is, k_isn, k_in, k_nin, isi_non, isi_bl, isi_int, isi_str, isi_lst, isi_tup, isi_dic, add_int, sub_int', lt_int', le_int', gt_int', ge_int', eq_int, ne_int, eq_str, ne_str, is_none, isn_none, is_bool, isn_bool, isNoneD, isBoolD, in_lst, in_tup, nin_lst, nin_tup, in_sgn, nin_sgn, len_lst, len_tup, tup_lst, tup_tup, lst_tup, int_int, x_rg1V, d_iRg1, pow18, ix_t0, ix_t1, ix_t2, ix_t3, ix_l0, sSl, Bf.sem, lk, lkD, deOf, lsAt, reOwn, dcAt, putAt, List.mapIdx_cons, List.mapIdx_nil, List.replicate, List.length_cons, List.length_nil, List.map_cons, List.map_nil, List.cons_append, List.nil_append, List.append_nil, List.set, List.getElem?_cons_zero, List.getElem?_cons_succ, List.getElem?_nil, List.getElem?_map, Option.map_some, Option.map_none, Option.getD_some, Option.getD_none, Option.or_some, Option.none_or, Option.some_or, ↓reduceIte, reduceCtorEq, Option.some.injEq, Nat.zero_add, Nat.reduceAdd, Nat.reduceSub, Nat.reduceLeDiff, Nat.reduceEqDiff, Nat.reduceLT, Nat.sub_self, Nat.add_one_sub_one, Bool.not_true, Bool.not_false, Bool.not_not, Bool.and_true, Bool.true_and, Bool.and_false, Bool.false_and, Bool.or_true, Bool.true_or, Bool.or_false, Bool.false_or, Bool.false_eq_true, Bool.not_eq_true', decide_true, decide_false, decide_eq_true_eq]
  · by_cases h2 : c ∈ DIG
    · simp only [h1, h2, bind_ok, bind_ex, fl_ok, fl_ex, seq_nx, seq_rt, seq_bk, seq_ct, seq_ex, x_run, fin_nx, fin_rt, fin_ex, exit_none, exit_some, opt_some, d_eVar, d_eMov, d_eInt, d_eStr, d_eBl, d_eNon, d_eGlob, x_q1, x_q2, d_eBin, d_eCmp, d_eIx, chB_b, x_c1, x_c2, x_c4, d_eChain, d_eOne, andB_b, orB_b, d_eAnd, d_eOr, notV_b, d_eNot, x_tupV, x_lstV, d_eTup, d_eLst, x_cbV, d_eCB, retV_ret, retV_ex, retIo_own, retIo_io, x_call0, x_call1, d_eCall, x_isiV, d_eIsi, x_negV, d_eNeg, d_eDicK, d_eDicT, x_sl1, x_sl2, x_sl3, d_eSl, x_o1, d_oNone, d_oSome, x_revV, d_eRevL, x_compV, compFin_ok, d_eComp, d_eCompB, d_ePop, x_valA, d_aVal, d_aRef, d_lNil, x_l1, x_l2, d_lCons, blT_b, d_tE, d_tCmp, d_tChain, d_tW, x_notT, d_tNot, d_wOne, x_andT, x_orT, d_wAnd, d_wOr, d_cNil, d_cOne, itV_l, itV_t, itV_s, d_iIt, d_gNm, d_gTup, x_retS, d_sRet, d_sRetN, x_expS, d_sExp, x_ifS, d_sIf, d_sPass, d_sBrk, d_sCnt, x_asgS, d_sSet, x_tupS, d_sTup, x_appS, d_sApp, x_putS, x_putS2, d_sPut, x_forS, d_sFor, d_sWhile, d_sRaise, hand_nx, hand_rt, hand_ex, d_sTry, d_hNil, d_hCons, hands_nil, hands_cons, noEx_nx, noEx_rt, d_bNil, d_bCons, rho0, fCompB, wipeR, unwipe, sv_no, sv_val, sv_own, AV.ct, slCt, Sl.ct, Sl.od, cts, avVals, x_stOk, pl_no, pl_val, pl_own, slOf, tgAll, k_add, k_sub, k_mul, k_div, k_mod, k_pow, k_eq, k_ne, k_lt, k_le, k_gt, k_ge, k_is, k_isn, k_in, k_nin, isi_non, isi_bl, isi_int, isi_str, isi_lst, isi_tup, isi_dic, add_int, sub_int', lt_int', le_int', gt_int', ge_int', eq_int, ne_int, eq_str, ne_str, is_none, isn_none, is_bool, isn_bool, isNoneD, isBoolD, in_lst, in_tup, nin_lst, nin_tup, in_sgn, nin_sgn, len_lst, len_tup, tup_lst, tup_tup, lst_tup, int_int, x_rg1V, d_iRg1, pow18, ix_t0, ix_t1, ix_t2, ix_t3, ix_l0, sSl, Bf.sem, lk, lkD, deOf, lsAt, reOwn, dcAt, putAt, List.mapIdx_cons, List.mapIdx_nil, List.replicate, List.length_cons, List.length_nil, List.map_cons, List.map_nil, List.cons_append, List.nil_append, List.append_nil, List.set, List.getElem?_cons_zero, List.getElem?_cons_succ, List.getElem?_nil, List.getElem?_map, Option.map_some, Option.map_none, Option.getD_some, Option.getD_none, Option.or_some, Option.none_or, Option.some_or, ↓reduceIte, reduceCtorEq, Option.some.injEq, Nat.zero_add, Nat.reduceAdd, Nat.reduceSub, Nat.reduceLeDiff, Nat.reduceEqDiff, Nat.reduceLT, Nat.sub_self, Nat.add_one_sub_one, Bool.not_true, Bool.not_false, Bool.not_not, Bool.and_true, Bool.true_and, Bool.and_false, Bool.false_and, Bool.or_true, Bool.true_or, Bool.or_false, Bool.false_or, Bool.false_eq_true, Bool.not_eq_true', decide_true, decide_false, decide_eq_true_eq]
    · simp only [h1, h2, bind_ok, bind_ex, fl_ok, fl_ex, seq_nx, seq_rt, seq_bk, seq_ct, seq_ex, x_run, fin_nx, fin_rt, fin_ex, exit_none, exit_some, opt_some, d_eVar, d_eMov, d_eInt, d_eStr, d_eBl, d_eNon, d_eGlob, x_q1, x_q2, d_eBin, d_eCmp, d_eIx, chB_b, x_c1, x_c2, x_c4, d_eChain, d_eOne, andB_b, orB_b, d_eAnd, d_eOr, notV_b, d_eNot, x_tupV, x_lstV, d_eTup, d_eLst, x_cbV, d_eCB, retV_ret, retV_ex, retIo_own, retIo_io, x_call0, x_call1, d_eCall, x_isiV, d_eIsi, x_negV, d_eNeg, d_eDicK, d_eDicT, x_sl1, x_sl2, x_sl3, d_eSl, x_o1, d_oNone, d_oSome, x_revV, d_eRevL, x_compV, compFin_ok, d_eComp, d_eCompB, d_ePop, x_valA, d_aVal, d_aRef, d_lNil, x_l1, x_l2, d_lCons, blT_b, d_tE, d_tCmp, d_tChain, d_tW, x_notT, d_tNot, d_wOne, x_andT, x_orT, d_wAnd, d_wOr, d_cNil, d_cOne, itV_l, itV_t, itV_s, d_iIt, d_gNm, d_gTup, x_retS, d_sRet, d_sRetN, x_expS, d_sExp, x_ifS, d_sIf, d_sPass, d_sBrk, d_sCnt, x_asgS, d_sSet, x_tupS, d_sTup, x_appS, d_sApp, x_putS, x_putS2, d_sPut, x_forS, d_sFor, d_sWhile, d_sRaise, hand_nx, hand_rt, hand_ex, d_sTry, d_hNil, d_hCons, hands_nil, hands_cons, noEx_nx, noEx_rt, d_bNil, d_bCons, rho0, fCompB, wipeR, unwipe, sv_no, sv_val, sv_own, AV.ct, slCt, Sl.ct, Sl.od, cts, avVals, x_stOk, pl_no, pl_val, pl_own, slOf, tgAll, k_add, k_sub, k_mul, k_div, k_mod, k_pow, k_eq, k_ne, k_lt, k_le, k_gt, k_ge, k_is, k_isn, k_in, k_nin, isi_non, isi_bl, isi_int, isi_str, isi_lst, isi_tup, isi_dic, add_int, sub_int', lt_int', le_int', gt_int', ge_int', eq_int, ne_int, eq_str, ne_str, is_none, isn_none, is_bool, isn_bool, isNoneD, isBoolD, in_lst, in_tup, nin_lst, nin_tup, in_sgn, nin_sgn, len_lst, len_tup, tup_lst, tup_tup, lst_tup, int_int, x_rg1V, d_iRg1, pow18, ix_t0, ix_t1, ix_t2, ix_t3, ix_l0, sSl, Bf.sem, lk, lkD, deOf, lsAt, reOwn, dcAt, putAt, List.mapIdx_cons, List.mapIdx_nil, List.replicate, List.length_cons, List.length_nil, List.map_cons, List.map_nil, List.cons_append, List.nil_append, List.append_nil, List.set, List.getElem?_cons_zero, List.getElem?_cons_succ, List.getElem?_nil, List.getElem?_map, Option.map_some, Option.map_none, Option.getD_some, Option.getD_none, Option.or_some, Option.none_or, Option.some_or, ↓reduceIte, reduceCtorEq, Option.some.injEq, Nat.zero_add, Nat.reduceAdd, Nat.reduceSub, Nat.reduceLeDiff, Nat.reduceEqDiff, Nat.reduceLT, Nat.sub_self, Nat.add_one_sub_one, Bool.not_true, Bool.not_false, Bool.not_not, Bool.and_true, Bool.true_and, Bool.and_false, Bool.false_and, Bool.or_true, Bool.true_or, Bool.or_false, Bool.false_or, Bool.false_eq_true, Bool.not_eq_true', decide_true, decide_false, decide_eq_true_eq]
theorem ix_head {z : Str} {c : Nat} {r : List Nat} (hz : z.length ≤ 1000000) (h : z.cps.toList = c :: r) : bIx (.str z) (.int 0) = some (.str ⟨#[c]⟩, false) := by
  have e : signAt z 0 = some (.str ⟨#[c]⟩) := by
    unfold signAt L2.atI
    rw [h]
    have e2 : ixN (c :: r).length 0 = some 0 := by
      have := ixN_nat (n := (c :: r).length) (i := 0) (by simp)
      exact this
    rw [e2]; rfl
  show (if z.length ≤ 1000000 then (signAt z 0).map _ else none) = _
  rw [if_pos hz, e]; rfl
theorem is_word_s (z : Str) (hz : z.length ≤ 1000000) : m_is_word [.str z] = .ret (.bool (wordB z)) false .none := by
  have hl : z.length = z.cps.toList.length := by unfold Str.length; simp
  unfold wordB
  by_cases h1 : 1 ≤ z.length
  · by_cases h2 : z.length ≤ 12
    · have h1' : (1 : Int) ≤ (z.length : Int) := by omega
      have h2' : (z.length : Int) ≤ 12 := by omega
      cases hc : z.cps.toList with
      | nil => rw [hl, hc] at h1; simp at h1
      | cons c r =>
        have e1 := ix_head hz hc
        by_cases h3 : c ∈ LET
        · obtain ⟨s', h5, h6⟩ := for_find (ρ := [.val (.str z), .no]) (i := 1) (body := den (k := .B) Y_is_word cd_is_word_b0) (p := fun d => match d with | .str w => w.cps.toList.all okC | _ => false) (r := fun _ => .bool false) (t := false) (chD z) .no rfl (by
            intro d hd
            unfold chD at hd
            obtain ⟨c, hc, rfl⟩ := List.mem_map.mp hd
            have := word_body c (.str z)
            simpa using this)
          have h7 : (chD z).find? (fun d => !(match d with | .str w => w.cps.toList.all okC | _ => false)) = if (z.cps.toList.all okC) = true then none else (chD z).find? (fun d => !(match d with | .str w => w.cps.toList.all okC | _ => false)) := by
            split
            · rename_i h
              apply find_none
              intro d hd
              unfold chD at hd
              obtain ⟨c, hc, rfl⟩ := List.mem_map.mp hd
              rw [List.all_eq_true] at h
              simpa using h c hc
            · rfl
          have h8 : (z.cps.toList.all okC) = false → ∃ d, (chD z).find? (fun d => !(match d with | .str w => w.cps.toList.all okC | _ => false)) = some d := by
            intro h
            cases e : (chD z).find? (fun d => !(match d with | .str w => w.cps.toList.all okC | _ => false)) with
            | some d => exact ⟨d, rfl⟩
            | none =>
              rw [List.find?_eq_none] at e
              have : z.cps.toList.all okC = true := by
                rw [List.all_eq_true]
                intro c hc
                have := e (.str ⟨#[c]⟩) (by unfold chD; exact List.mem_map.mpr ⟨c, hc, rfl⟩)
                simpa using this
              rw [h] at this; cases this
          have h6' : forLoop (tgName 1) (den (k := .B) Y_is_word cd_is_word_b0) (chD z) [.val (.str z), .no] = _ := h6
          cases ha : z.cps.toList.all okC with
          | true =>
            rw [h7, if_pos ha] at h6'
            have e9 : den Y_is_word (.gNm 1) = tgName 1 := rfl
            rw [hc] at ha
            simp only [m_is_word, cd_is_word, yk_is_word_0, yk_is_word_1, yk_is_word_2, len_str hz, h1', h2', e1, h3, e9, h6', okF, hc, ha, h1, h2, bind_ok, bind_ex, fl_ok, fl_ex, seq_nx, seq_rt, seq_bk, seq_ct, seq_ex, x_run, fin_nx, fin_rt, fin_ex, exit_none, exit_some, opt_some, d_eVar, d_eMov, d_eInt, d_eStr, d_eBl, d_eNon, d_eGlob, x_q1, x_q2, d_eBin, d_eCmp, d_eIx, chB_b, x_c1, x_c2, x_c4, d_eChain, d_eOne, andB_b, orB_b, d_eAnd, d_eOr, notV_b, d_eNot, x_tupV, x_lstV, d_eTup, d_eLst, x_cbV, d_eCB, retV_ret, retV_ex, retIo_own, retIo_io, x_call0, x_call1, d_eCall, x_isiV, d_eIsi, x_negV, d_eNeg, d_eDicK, d_eDicT, x_sl1, x_sl2, x_sl3, d_eSl, x_o1, d_oNone, d_oSome, x_revV, d_eRevL, x_compV, compFin_ok, d_eComp, d_eCompB, d_ePop, x_valA, d_aVal, d_aRef, d_lNil, x_l1, x_l2, d_lCons, blT_b, d_tE, d_tCmp, d_tChain, d_tW, x_notT, d_tNot, d_wOne, x_andT, x_orT, d_wAnd, d_wOr, d_cNil, d_cOne, itV_l, itV_t, itV_s, d_iIt, d_gNm, d_gTup, x_retS, d_sRet, d_sRetN, x_expS, d_sExp, x_ifS, d_sIf, d_sPass, d_sBrk, d_sCnt, x_asgS, d_sSet, x_tupS, d_sTup, x_appS, d_sApp, x_putS, x_putS2, d_sPut, x_forS, d_sFor, d_sWhile, d_sRaise, hand_nx, hand_rt, hand_ex, d_sTry, d_hNil, d_hCons, hands_nil, hands_cons, noEx_nx, noEx_rt, d_bNil, d_bCons, rho0, fCompB, wipeR, unwipe, sv_no, sv_val, sv_own, AV.ct, slCt, Sl.ct, Sl.od, cts, avVals, x_stOk, pl_no, pl_val, pl_own, slOf, tgAll, k_add, k_sub, k_mul, k_div, k_mod, k_pow, k_eq, k_ne, k_lt, k_le, k_gt, k_ge, k_is, k_isn, k_in, k_nin, isi_non, isi_bl, isi_int, isi_str, isi_lst, isi_tup, isi_dic, add_int, sub_int', lt_int', le_int', gt_int', ge_int', eq_int, ne_int, eq_str, ne_str, is_none, isn_none, is_bool, isn_bool, isNoneD, isBoolD, in_lst, in_tup, nin_lst, nin_tup, in_sgn, nin_sgn, len_lst, len_tup, tup_lst, tup_tup, lst_tup, int_int, x_rg1V, d_iRg1, pow18, ix_t0, ix_t1, ix_t2, ix_t3, ix_l0, sSl, Bf.sem, lk, lkD, deOf, lsAt, reOwn, dcAt, putAt, List.mapIdx_cons, List.mapIdx_nil, List.replicate, List.length_cons, List.length_nil, List.map_cons, List.map_nil, List.cons_append, List.nil_append, List.append_nil, List.set, List.getElem?_cons_zero, List.getElem?_cons_succ, List.getElem?_nil, List.getElem?_map, Option.map_some, Option.map_none, Option.getD_some, Option.getD_none, Option.or_some, Option.none_or, Option.some_or, ↓reduceIte, reduceCtorEq, Option.some.injEq, Nat.zero_add, Nat.reduceAdd, Nat.reduceSub, Nat.reduceLeDiff, Nat.reduceEqDiff, Nat.reduceLT, Nat.sub_self, Nat.add_one_sub_one, Bool.not_true, Bool.not_false, Bool.not_not, Bool.and_true, Bool.true_and, Bool.and_false, Bool.false_and, Bool.or_true, Bool.true_or, Bool.or_false, Bool.false_or, Bool.false_eq_true, Bool.not_eq_true', decide_true, decide_false, decide_eq_true_eq]
          | false =>
            obtain ⟨d, hd⟩ := h8 ha
            rw [hd] at h6'
            have e9 : den Y_is_word (.gNm 1) = tgName 1 := rfl
            rw [hc] at ha
            simp only [m_is_word, cd_is_word, yk_is_word_0, yk_is_word_1, yk_is_word_2, len_str hz, h1', h2', e1, h3, e9, h6', okF, hc, ha, h1, h2, bind_ok, bind_ex, fl_ok, fl_ex, seq_nx, seq_rt, seq_bk, seq_ct, seq_ex, x_run, fin_nx, fin_rt, fin_ex, exit_none, exit_some, opt_some, d_eVar, d_eMov, d_eInt, d_eStr, d_eBl, d_eNon, d_eGlob, x_q1, x_q2, d_eBin, d_eCmp, d_eIx, chB_b, x_c1, x_c2, x_c4, d_eChain, d_eOne, andB_b, orB_b, d_eAnd, d_eOr, notV_b, d_eNot, x_tupV, x_lstV, d_eTup, d_eLst, x_cbV, d_eCB, retV_ret, retV_ex, retIo_own, retIo_io, x_call0, x_call1, d_eCall, x_isiV, d_eIsi, x_negV, d_eNeg, d_eDicK, d_eDicT, x_sl1, x_sl2, x_sl3, d_eSl, x_o1, d_oNone, d_oSome, x_revV, d_eRevL, x_compV, compFin_ok, d_eComp, d_eCompB, d_ePop, x_valA, d_aVal, d_aRef, d_lNil, x_l1, x_l2, d_lCons, blT_b, d_tE, d_tCmp, d_tChain, d_tW, x_notT, d_tNot, d_wOne, x_andT, x_orT, d_wAnd, d_wOr, d_cNil, d_cOne, itV_l, itV_t, itV_s, d_iIt, d_gNm, d_gTup, x_retS, d_sRet, d_sRetN, x_expS, d_sExp, x_ifS, d_sIf, d_sPass, d_sBrk, d_sCnt, x_asgS, d_sSet, x_tupS, d_sTup, x_appS, d_sApp, x_putS, x_putS2, d_sPut, x_forS, d_sFor, d_sWhile, d_sRaise, hand_nx, hand_rt, hand_ex, d_sTry, d_hNil, d_hCons, hands_nil, hands_cons, noEx_nx, noEx_rt, d_bNil, d_bCons, rho0, fCompB, wipeR, unwipe, sv_no, sv_val, sv_own, AV.ct, slCt, Sl.ct, Sl.od, cts, avVals, x_stOk, pl_no, pl_val, pl_own, slOf, tgAll, k_add, k_sub, k_mul, k_div, k_mod, k_pow, k_eq, k_ne, k_lt, k_le, k_gt, k_ge, k_is, k_isn, k_in, k_nin, isi_non, isi_bl, isi_int, isi_str, isi_lst, isi_tup, isi_dic, add_int, sub_int', lt_int', le_int', gt_int', ge_int', eq_int, ne_int, eq_str, ne_str, is_none, isn_none, is_bool, isn_bool, isNoneD, isBoolD, in_lst, in_tup, nin_lst, nin_tup, in_sgn, nin_sgn, len_lst, len_tup, tup_lst, tup_tup, lst_tup, int_int, x_rg1V, d_iRg1, pow18, ix_t0, ix_t1, ix_t2, ix_t3, ix_l0, sSl, Bf.sem, lk, lkD, deOf, lsAt, reOwn, dcAt, putAt, List.mapIdx_cons, List.mapIdx_nil, List.replicate, List.length_cons, List.length_nil, List.map_cons, List.map_nil, List.cons_append, List.nil_append, List.append_nil, List.set, List.getElem?_cons_zero, List.getElem?_cons_succ, List.getElem?_nil, List.getElem?_map, Option.map_some, Option.map_none, Option.getD_some, Option.getD_none, Option.or_some, Option.none_or, Option.some_or, ↓reduceIte, reduceCtorEq, Option.some.injEq, Nat.zero_add, Nat.reduceAdd, Nat.reduceSub, Nat.reduceLeDiff, Nat.reduceEqDiff, Nat.reduceLT, Nat.sub_self, Nat.add_one_sub_one, Bool.not_true, Bool.not_false, Bool.not_not, Bool.and_true, Bool.true_and, Bool.and_false, Bool.false_and, Bool.or_true, Bool.true_or, Bool.or_false, Bool.false_or, Bool.false_eq_true, Bool.not_eq_true', decide_true, decide_false, decide_eq_true_eq]
        · simp only [m_is_word, cd_is_word, yk_is_word_0, yk_is_word_1, yk_is_word_2, len_str hz, h1', h2', e1, h3, okF, hc, bind_ok, bind_ex, fl_ok, fl_ex, seq_nx, seq_rt, seq_bk, seq_ct, seq_ex, x_run, fin_nx, fin_rt, fin_ex, exit_none, exit_some, opt_some, d_eVar, d_eMov, d_eInt, d_eStr, d_eBl, d_eNon, d_eGlob, x_q1, x_q2, d_eBin, d_eCmp, d_eIx, chB_b, x_c1, x_c2, x_c4, d_eChain, d_eOne, andB_b, orB_b, d_eAnd, d_eOr, notV_b, d_eNot, x_tupV, x_lstV, d_eTup, d_eLst, x_cbV, d_eCB, retV_ret, retV_ex, retIo_own, retIo_io, x_call0, x_call1, d_eCall, x_isiV, d_eIsi, x_negV, d_eNeg, d_eDicK, d_eDicT, x_sl1, x_sl2, x_sl3, d_eSl, x_o1, d_oNone, d_oSome, x_revV, d_eRevL, x_compV, compFin_ok, d_eComp, d_eCompB, d_ePop, x_valA, d_aVal, d_aRef, d_lNil, x_l1, x_l2, d_lCons, blT_b, d_tE, d_tCmp, d_tChain, d_tW, x_notT, d_tNot, d_wOne, x_andT, x_orT, d_wAnd, d_wOr, d_cNil, d_cOne, itV_l, itV_t, itV_s, d_iIt, d_gNm, d_gTup, x_retS, d_sRet, d_sRetN, x_expS, d_sExp, x_ifS, d_sIf, d_sPass, d_sBrk, d_sCnt, x_asgS, d_sSet, x_tupS, d_sTup, x_appS, d_sApp, x_putS, x_putS2, d_sPut, x_forS, d_sFor, d_sWhile, d_sRaise, hand_nx, hand_rt, hand_ex, d_sTry, d_hNil, d_hCons, hands_nil, hands_cons, noEx_nx, noEx_rt, d_bNil, d_bCons, rho0, fCompB, wipeR, unwipe, sv_no, sv_val, sv_own, AV.ct, slCt, Sl.ct, Sl.od, cts, avVals, x_stOk, pl_no, pl_val, pl_own, slOf, tgAll, k_add, k_sub, k_mul, k_div, k_mod, k_pow, k_eq, k_ne, k_lt, k_le, k_gt, k_ge, k_is, k_isn, k_in, k_nin, isi_non, isi_bl, isi_int, isi_str, isi_lst, isi_tup, isi_dic, add_int, sub_int', lt_int', le_int', gt_int', ge_int', eq_int, ne_int, eq_str, ne_str, is_none, isn_none, is_bool, isn_bool, isNoneD, isBoolD, in_lst, in_tup, nin_lst, nin_tup, in_sgn, nin_sgn, len_lst, len_tup, tup_lst, tup_tup, lst_tup, int_int, x_rg1V, d_iRg1, pow18, ix_t0, ix_t1, ix_t2, ix_t3, ix_l0, sSl, Bf.sem, lk, lkD, deOf, lsAt, reOwn, dcAt, putAt, List.mapIdx_cons, List.mapIdx_nil, List.replicate, List.length_cons, List.length_nil, List.map_cons, List.map_nil, List.cons_append, List.nil_append, List.append_nil, List.set, List.getElem?_cons_zero, List.getElem?_cons_succ, List.getElem?_nil, List.getElem?_map, Option.map_some, Option.map_none, Option.getD_some, Option.getD_none, Option.or_some, Option.none_or, Option.some_or, ↓reduceIte, reduceCtorEq, Option.some.injEq, Nat.zero_add, Nat.reduceAdd, Nat.reduceSub, Nat.reduceLeDiff, Nat.reduceEqDiff, Nat.reduceLT, Nat.sub_self, Nat.add_one_sub_one, Bool.not_true, Bool.not_false, Bool.not_not, Bool.and_true, Bool.true_and, Bool.and_false, Bool.false_and, Bool.or_true, Bool.true_or, Bool.or_false, Bool.false_or, Bool.false_eq_true, Bool.not_eq_true', decide_true, decide_false, decide_eq_true_eq]
    · have h1' : (1 : Int) ≤ (z.length : Int) := by omega
      have h2' : ¬ (z.length : Int) ≤ 12 := by omega
      simp only [m_is_word, cd_is_word, yk_is_word_0, yk_is_word_1, yk_is_word_2, len_str hz, h1', h2', h2, bind_ok, bind_ex, fl_ok, fl_ex, seq_nx, seq_rt, seq_bk, seq_ct, seq_ex, x_run, fin_nx, fin_rt, fin_ex, exit_none, exit_some, opt_some, d_eVar, d_eMov, d_eInt, d_eStr, d_eBl, d_eNon, d_eGlob, x_q1, x_q2, d_eBin, d_eCmp, d_eIx, chB_b, x_c1, x_c2, x_c4, d_eChain, d_eOne, andB_b, orB_b, d_eAnd, d_eOr, notV_b, d_eNot, x_tupV, x_lstV, d_eTup, d_eLst, x_cbV, d_eCB, retV_ret, retV_ex, retIo_own, retIo_io, x_call0, x_call1, d_eCall, x_isiV, d_eIsi, x_negV, d_eNeg, d_eDicK, d_eDicT, x_sl1, x_sl2, x_sl3, d_eSl, x_o1, d_oNone, d_oSome, x_revV, d_eRevL, x_compV, compFin_ok, d_eComp, d_eCompB, d_ePop, x_valA, d_aVal, d_aRef, d_lNil, x_l1, x_l2, d_lCons, blT_b, d_tE, d_tCmp, d_tChain, d_tW, x_notT, d_tNot, d_wOne, x_andT, x_orT, d_wAnd, d_wOr, d_cNil, d_cOne, itV_l, itV_t, itV_s, d_iIt, d_gNm, d_gTup, x_retS, d_sRet, d_sRetN, x_expS, d_sExp, x_ifS, d_sIf, d_sPass, d_sBrk, d_sCnt, x_asgS, d_sSet, x_tupS, d_sTup, x_appS, d_sApp, x_putS, x_putS2, d_sPut, x_forS, d_sFor, d_sWhile, d_sRaise, hand_nx, hand_rt, hand_ex, d_sTry, d_hNil, d_hCons, hands_nil, hands_cons, noEx_nx, noEx_rt, d_bNil, d_bCons, rho0, fCompB, wipeR, unwipe, sv_no, sv_val, sv_own, AV.ct, slCt, Sl.ct, Sl.od, cts, avVals, x_stOk, pl_no, pl_val, pl_own, slOf, tgAll, k_add, k_sub, k_mul, k_div, k_mod, k_pow, k_eq, k_ne, k_lt, k_le, k_gt, k_ge, k_is, k_isn, k_in, k_nin, isi_non, isi_bl, isi_int, isi_str, isi_lst, isi_tup, isi_dic, add_int, sub_int', lt_int', le_int', gt_int', ge_int', eq_int, ne_int, eq_str, ne_str, is_none, isn_none, is_bool, isn_bool, isNoneD, isBoolD, in_lst, in_tup, nin_lst, nin_tup, in_sgn, nin_sgn, len_lst, len_tup, tup_lst, tup_tup, lst_tup, int_int, x_rg1V, d_iRg1, pow18, ix_t0, ix_t1, ix_t2, ix_t3, ix_l0, sSl, Bf.sem, lk, lkD, deOf, lsAt, reOwn, dcAt, putAt, List.mapIdx_cons, List.mapIdx_nil, List.replicate, List.length_cons, List.length_nil, List.map_cons, List.map_nil, List.cons_append, List.nil_append, List.append_nil, List.set, List.getElem?_cons_zero, List.getElem?_cons_succ, List.getElem?_nil, List.getElem?_map, Option.map_some, Option.map_none, Option.getD_some, Option.getD_none, Option.or_some, Option.none_or, Option.some_or, ↓reduceIte, reduceCtorEq, Option.some.injEq, Nat.zero_add, Nat.reduceAdd, Nat.reduceSub, Nat.reduceLeDiff, Nat.reduceEqDiff, Nat.reduceLT, Nat.sub_self, Nat.add_one_sub_one, Bool.not_true, Bool.not_false, Bool.not_not, Bool.and_true, Bool.true_and, Bool.and_false, Bool.false_and, Bool.or_true, Bool.true_or, Bool.or_false, Bool.false_or, Bool.false_eq_true, Bool.not_eq_true', decide_true, decide_false, decide_eq_true_eq]
  · have h1' : ¬ (1 : Int) ≤ (z.length : Int) := by omega
    simp only [m_is_word, cd_is_word, yk_is_word_0, yk_is_word_1, yk_is_word_2, len_str hz, h1', h1, bind_ok, bind_ex, fl_ok, fl_ex, seq_nx, seq_rt, seq_bk, seq_ct, seq_ex, x_run, fin_nx, fin_rt, fin_ex, exit_none, exit_some, opt_some, d_eVar, d_eMov, d_eInt, d_eStr, d_eBl, d_eNon, d_eGlob, x_q1, x_q2, d_eBin, d_eCmp, d_eIx, chB_b, x_c1, x_c2, x_c4, d_eChain, d_eOne, andB_b, orB_b, d_eAnd, d_eOr, notV_b, d_eNot, x_tupV, x_lstV, d_eTup, d_eLst, x_cbV, d_eCB, retV_ret, retV_ex, retIo_own, retIo_io, x_call0, x_call1, d_eCall, x_isiV, d_eIsi, x_negV, d_eNeg, d_eDicK, d_eDicT, x_sl1, x_sl2, x_sl3, d_eSl, x_o1, d_oNone, d_oSome, x_revV, d_eRevL, x_compV, compFin_ok, d_eComp, d_eCompB, d_ePop, x_valA, d_aVal, d_aRef, d_lNil, x_l1, x_l2, d_lCons, blT_b, d_tE, d_tCmp, d_tChain, d_tW, x_notT, d_tNot, d_wOne, x_andT, x_orT, d_wAnd, d_wOr, d_cNil, d_cOne, itV_l, itV_t, itV_s, d_iIt, d_gNm, d_gTup, x_retS, d_sRet, d_sRetN, x_expS, d_sExp, x_ifS, d_sIf, d_sPass, d_sBrk, d_sCnt, x_asgS, d_sSet, x_tupS, d_sTup, x_appS, d_sApp, x_putS, x_putS2, d_sPut, x_forS, d_sFor, d_sWhile, d_sRaise, hand_nx, hand_rt, hand_ex, d_sTry, d_hNil, d_hCons, hands_nil, hands_cons, noEx_nx, noEx_rt, d_bNil, d_bCons, rho0, fCompB, wipeR, unwipe, sv_no, sv_val, sv_own, AV.ct, slCt, Sl.ct, Sl.od, cts, avVals, x_stOk, pl_no, pl_val, pl_own, slOf, tgAll, k_add, k_sub, k_mul, k_div, k_mod, k_pow, k_eq, k_ne, k_lt, k_le, k_gt, k_ge, k_is, k_isn, k_in, k_nin, isi_non, isi_bl, isi_int, isi_str, isi_lst, isi_tup, isi_dic, add_int, sub_int', lt_int', le_int', gt_int', ge_int', eq_int, ne_int, eq_str, ne_str, is_none, isn_none, is_bool, isn_bool, isNoneD, isBoolD, in_lst, in_tup, nin_lst, nin_tup, in_sgn, nin_sgn, len_lst, len_tup, tup_lst, tup_tup, lst_tup, int_int, x_rg1V, d_iRg1, pow18, ix_t0, ix_t1, ix_t2, ix_t3, ix_l0, sSl, Bf.sem, lk, lkD, deOf, lsAt, reOwn, dcAt, putAt, List.mapIdx_cons, List.mapIdx_nil, List.replicate, List.length_cons, List.length_nil, List.map_cons, List.map_nil, List.cons_append, List.nil_append, List.append_nil, List.set, List.getElem?_cons_zero, List.getElem?_cons_succ, List.getElem?_nil, List.getElem?_map, Option.map_some, Option.map_none, Option.getD_some, Option.getD_none, Option.or_some, Option.none_or, Option.some_or, ↓reduceIte, reduceCtorEq, Option.some.injEq, Nat.zero_add, Nat.reduceAdd, Nat.reduceSub, Nat.reduceLeDiff, Nat.reduceEqDiff, Nat.reduceLT, Nat.sub_self, Nat.add_one_sub_one, Bool.not_true, Bool.not_false, Bool.not_not, Bool.and_true, Bool.true_and, Bool.and_false, Bool.false_and, Bool.or_true, Bool.true_or, Bool.or_false, Bool.false_or, Bool.false_eq_true, Bool.not_eq_true', decide_true, decide_false, decide_eq_true_eq]
theorem is_word_no (d : D) (h : isiD .str d = false) : m_is_word [d] = .ret (.bool false) false .none := by
  simp only [m_is_word, cd_is_word, yk_is_word_0, yk_is_word_1, yk_is_word_2, h, bind_ok, bind_ex, fl_ok, fl_ex, seq_nx, seq_rt, seq_bk, seq_ct, seq_ex, x_run, fin_nx, fin_rt, fin_ex, exit_none, exit_some, opt_some, d_eVar, d_eMov, d_eInt, d_eStr, d_eBl, d_eNon, d_eGlob, x_q1, x_q2, d_eBin, d_eCmp, d_eIx, chB_b, x_c1, x_c2, x_c4, d_eChain, d_eOne, andB_b, orB_b, d_eAnd, d_eOr, notV_b, d_eNot, x_tupV, x_lstV, d_eTup, d_eLst, x_cbV, d_eCB, retV_ret, retV_ex, retIo_own, retIo_io, x_call0, x_call1, d_eCall, x_isiV, d_eIsi, x_negV, d_eNeg, d_eDicK, d_eDicT, x_sl1, x_sl2, x_sl3, d_eSl, x_o1, d_oNone, d_oSome, x_revV, d_eRevL, x_compV, compFin_ok, d_eComp, d_eCompB, d_ePop, x_valA, d_aVal, d_aRef, d_lNil, x_l1, x_l2, d_lCons, blT_b, d_tE, d_tCmp, d_tChain, d_tW, x_notT, d_tNot, d_wOne, x_andT, x_orT, d_wAnd, d_wOr, d_cNil, d_cOne, itV_l, itV_t, itV_s, d_iIt, d_gNm, d_gTup, x_retS, d_sRet, d_sRetN, x_expS, d_sExp, x_ifS, d_sIf, d_sPass, d_sBrk, d_sCnt, x_asgS, d_sSet, x_tupS, d_sTup, x_appS, d_sApp, x_putS, x_putS2, d_sPut, x_forS, d_sFor, d_sWhile, d_sRaise, hand_nx, hand_rt, hand_ex, d_sTry, d_hNil, d_hCons, hands_nil, hands_cons, noEx_nx, noEx_rt, d_bNil, d_bCons, rho0, fCompB, wipeR, unwipe, sv_no, sv_val, sv_own, AV.ct, slCt, Sl.ct, Sl.od, cts, avVals, x_stOk, pl_no, pl_val, pl_own, slOf, tgAll, k_add, k_sub, k_mul, k_div, k_mod, k_pow, k_eq, k_ne, k_lt, k_le, k_gt, k_ge, k_is, k_isn, k_in, k_nin, isi_non, isi_bl, isi_int, isi_str, isi_lst, isi_tup, isi_dic, add_int, sub_int', lt_int', le_int', gt_int', ge_int', eq_int, ne_int, eq_str, ne_str, is_none, isn_none, is_bool, isn_bool, isNoneD, isBoolD, in_lst, in_tup, nin_lst, nin_tup, in_sgn, nin_sgn, len_lst, len_tup, tup_lst, tup_tup, lst_tup, int_int, x_rg1V, d_iRg1, pow18, ix_t0, ix_t1, ix_t2, ix_t3, ix_l0, sSl, Bf.sem, lk, lkD, deOf, lsAt, reOwn, dcAt, putAt, List.mapIdx_cons, List.mapIdx_nil, List.replicate, List.length_cons, List.length_nil, List.map_cons, List.map_nil, List.cons_append, List.nil_append, List.append_nil, List.set, List.getElem?_cons_zero, List.getElem?_cons_succ, List.getElem?_nil, List.getElem?_map, Option.map_some, Option.map_none, Option.getD_some, Option.getD_none, Option.or_some, Option.none_or, Option.some_or, ↓reduceIte, reduceCtorEq, Option.some.injEq, Nat.zero_add, Nat.reduceAdd, Nat.reduceSub, Nat.reduceLeDiff, Nat.reduceEqDiff, Nat.reduceLT, Nat.sub_self, Nat.add_one_sub_one, Bool.not_true, Bool.not_false, Bool.not_not, Bool.and_true, Bool.true_and, Bool.and_false, Bool.false_and, Bool.or_true, Bool.true_or, Bool.or_false, Bool.false_or, Bool.false_eq_true, Bool.not_eq_true', decide_true, decide_false, decide_eq_true_eq]
end PV.Lw
namespace PV.Lw
open PySem L2 PV

/-! are_distinct -/
theorem dis_body (v : D) (seen : List Str) (w : Str) (hl : seen.length < 1000000) : den (k := .B) Y_are_distinct cd_are_distinct_b0 [.val v, .own (.dict (dkT seen)), .val (.str w)] =
    if w ∈ seen then .rt (.bool false) false [.val v, .own (.dict (dkT seen)), .val (.str w)] else .nx [.val v, .own (.dict (dkT (seen ++ [w]))), .val (.str w)] := by
  have hl' : (dkT seen).length < 1000000 := by unfold dkT; simpa using hl
  by_cases h : w ∈ seen
  · simp only [cd_are_distinct_b0, m_are_distinct, cd_are_distinct, in_dk, h, bind_ok, bind_ex, fl_ok, fl_ex, seq_nx, seq_rt, seq_bk, seq_ct, seq_ex, x_run, fin_nx, fin_rt, fin_ex, exit_none, exit_some, opt_some, d_eVar, d_eMov, d_eInt, d_eStr, d_eBl, d_eNon, d_eGlob, x_q1, x_q2, d_eBin, d_eCmp, d_eIx, chB_b, x_c1, x_c2, x_c4, d_eChain, d_eOne, andB_b, orB_b, d_eAnd, d_eOr, notV_b, d_eNot, x_tupV, x_lstV, d_eTup, d_eLst, x_cbV, d_eCB, retV_ret, retV_ex, retIo_own, retIo_io, x_call0, x_call1, d_eCall, x_isiV, d_eIsi, x_negV, d_eNeg, d_eDicK, d_eDicT, x_sl1, x_sl2, x_sl3, d_eSl, x_o1, d_oNone, d_oSome, x_revV, d_eRevL, x_compV, compFin_ok, d_eComp, d_eCompB, d_ePop, x_valA, d_aVal, d_aRef, d_lNil, x_l1, x_l2, d_lCons, blT_b, d_tE, d_tCmp, d_tChain, d_tW, x_notT, d_tNot, d_wOne, x_andT, x_orT, d_wAnd, d_wOr, d_cNil, d_cOne, itV_l, itV_t, itV_s, d_iIt, d_gNm, d_gTup, x_retS, d_sRet, d_sRetN, x_expS, d_sExp, x_ifS, d_sIf, d_sPass, d_sBrk, d_sCnt, x_asgS, d_sSet, x_tupS, d_sTup, x_appS, d_sApp, x_putS, x_putS2, d_sPut, x_forS, d_sFor, d_sWhile, d_sRaise, hand_nx, hand_rt, hand_ex, d_sTry, d_hNil, d_hCons, hands_nil, hands_cons, noEx_nx, noEx_rt, d_bNil, d_bCons, rho0, fCompB, wipeR, unwipe, sv_no, sv_val, sv_own, AV.ct, slCt, Sl.ct, Sl.od, cts, avVals, x_stOk, pl_no, pl_val, pl_own, slOf, tgAll, k_add, k_sub, k_mul, k_div, k_mod, k_pow, k_eq, k_ne, k_lt, k_le, k_gt, k_ge, k_is, k_isn, k_in, k_nin, isi_non, isi_bl, isi_int, isi_str, isi_lst, isi_tup, isi_dic, add_int, sub_int', lt_int', le_int', gt_int', ge_int', eq_int, ne_int, eq_str, ne_str, is_none, isn_none, is_bool, isn_bool, isNoneD, isBoolD, in_lst, in_tup, nin_lst, nin_tup, in_sgn, nin_sgn, len_lst, len_tup, tup_lst, tup_tup, lst_tup, int_int, x_rg1V, d_iRg1, pow18, ix_t0, ix_t1, ix_t2, ix_t3, ix_l0, sSl, Bf.sem, lk, lkD, deOf, lsAt, reOwn, dcAt, putAt, List.mapIdx_cons, List.mapIdx_nil, List.replicate, List.length_cons, List.length_nil, List.map_cons, List.map_nil, List.cons_append, List.nil_append, List.append_nil, List.set, List.getElem?_cons_zero, List.getElem?_cons_succ, List.getElem?_nil, List.getElem?_map, Option.map_some, Option.map_none, Option.getD_some, Option.getD_none, Option.or_some, Option.none_or, Option.some_or, ↓reduceIte, reduceCtorEq, Option.some.injEq, Nat.zero_add, Nat.reduceAdd, Nat.reduceSub, Nat.reduceLeDiff, Nat.reduceEqDiff, Nat.reduceLT, Nat.sub_self, Nat.add_one_sub_one, Bool.not_true, Bool.not_false, Bool.not_not, Bool.and_true, Bool.true_and, Bool.and_false, Bool.false_and, Bool.or_true, Bool.true_or, Bool.or_false, Bool.false_or, Bool.false_eq_true, Bool.not_eq_true', decide_true, decide_false, decide_eq_true_eq]
  · simp only [cd_are_distinct_b0, m_are_distinct, cd_are_distinct, in_dk, h, isK, dkT_mark, hl', dkT_put _ _ h, and_self, bind_ok, bind_ex, fl_ok, fl_ex, seq_nx, seq_rt, seq_bk, seq_ct, seq_ex, x_run, fin_nx, fin_rt, fin_ex, exit_none, exit_some, opt_some, d_eVar, d_eMov, d_eInt, d_eStr, d_eBl, d_eNon, d_eGlob, x_q1, x_q2, d_eBin, d_eCmp, d_eIx, chB_b, x_c1, x_c2, x_c4, d_eChain, d_eOne, andB_b, orB_b, d_eAnd, d_eOr, notV_b, d_eNot, x_tupV, x_lstV, d_eTup, d_eLst, x_cbV, d_eCB, retV_ret, retV_ex, retIo_own, retIo_io, x_call0, x_call1, d_eCall, x_isiV, d_eIsi, x_negV, d_eNeg, d_eDicK, d_eDicT, x_sl1, x_sl2, x_sl3, d_eSl, x_o1, d_oNone, d_oSome, x_revV, d_eRevL, x_compV, compFin_ok, d_eComp, d_eCompB, d_ePop, x_valA, d_aVal, d_aRef, d_lNil, x_l1, x_l2, d_lCons, blT_b, d_tE, d_tCmp, d_tChain, d_tW, x_notT, d_tNot, d_wOne, x_andT, x_orT, d_wAnd, d_wOr, d_cNil, d_cOne, itV_l, itV_t, itV_s, d_iIt, d_gNm, d_gTup, x_retS, d_sRet, d_sRetN, x_expS, d_sExp, x_ifS, d_sIf, d_sPass, d_sBrk, d_sCnt, x_asgS, d_sSet, x_tupS, d_sTup, x_appS, d_sApp, x_putS, x_putS2, d_sPut, x_forS, d_sFor, d_sWhile, d_sRaise, hand_nx, hand_rt, hand_ex, d_sTry, d_hNil, d_hCons, hands_nil, hands_cons, noEx_nx, noEx_rt, d_bNil, d_bCons, rho0, fCompB, wipeR, unwipe, sv_no, sv_val, sv_own, AV.ct, slCt, Sl.ct, Sl.od, cts, avVals, x_stOk, pl_no, pl_val, pl_own, slOf, tgAll, k_add, k_sub, k_mul, k_div, k_mod, k_pow, k_eq, k_ne, k_lt, k_le, k_gt, k_ge, k_is, k_isn, k_in, k_nin, isi_non, isi_bl, isi_int, isi_str, isi_lst, isi_tup, isi_dic, add_int, sub_int', lt_int', le_int', gt_int', ge_int', eq_int, ne_int, eq_str, ne_str, is_none, isn_none, is_bool, isn_bool, isNoneD, isBoolD, in_lst, in_tup, nin_lst, nin_tup, in_sgn, nin_sgn, len_lst, len_tup, tup_lst, tup_tup, lst_tup, int_int, x_rg1V, d_iRg1, pow18, ix_t0, ix_t1, ix_t2, ix_t3, ix_l0, sSl, Bf.sem, lk, lkD, deOf, lsAt, reOwn, dcAt, putAt, List.mapIdx_cons, List.mapIdx_nil, List.replicate, List.length_cons, List.length_nil, List.map_cons, List.map_nil, List.cons_append, List.nil_append, List.append_nil, List.set, List.getElem?_cons_zero, List.getElem?_cons_succ, List.getElem?_nil, List.getElem?_map, Option.map_some, Option.map_none, Option.getD_some, Option.getD_none, Option.or_some, Option.none_or, Option.some_or, ↓reduceIte, reduceCtorEq, Option.some.injEq, Nat.zero_add, Nat.reduceAdd, Nat.reduceSub, Nat.reduceLeDiff, Nat.reduceEqDiff, Nat.reduceLT, Nat.sub_self, Nat.add_one_sub_one, Bool.not_true, Bool.not_false, Bool.not_not, Bool.and_true, Bool.true_and, Bool.and_false, Bool.false_and, Bool.or_true, Bool.true_or, Bool.or_false, Bool.false_or, Bool.false_eq_true, Bool.not_eq_true', decide_true, decide_false, decide_eq_true_eq]
theorem dis_loop (v : D) : ∀ (ws seen : List Str) (s : Sl), (∀ d, s ≠ .io d) → seen.length + ws.length ≤ 1000000 → seen.Nodup → ∃ ρ', ((seen ++ ws).Nodup ∧ forLoop (tgName 2) (den (k := .B) Y_are_distinct cd_are_distinct_b0) (ws.map PyData.str) [.val v, .own (.dict (dkT seen)), s] = .nx ρ') ∨
    (¬ (seen ++ ws).Nodup ∧ forLoop (tgName 2) (den (k := .B) Y_are_distinct cd_are_distinct_b0) (ws.map PyData.str) [.val v, .own (.dict (dkT seen)), s] = .rt (.bool false) false ρ')
  | [], seen, s, _, _, hn => ⟨_, .inl ⟨by simpa using hn, rfl⟩⟩
  | w :: ws, seen, s, hs, hl, hn => by
    have e1 : tgName 2 (.str w) [.val v, .own (.dict (dkT seen)), s] = some [.val v, .own (.dict (dkT seen)), .val (.str w)] := by
      cases s with
      | io d => exact absurd rfl (hs d)
      | _ => rfl
    rw [List.length_cons] at hl
    rw [List.map_cons]
    unfold forLoop
    rw [e1]
    dsimp only
    rw [dis_body v seen w (by omega)]
    by_cases h : w ∈ seen
    · rw [if_pos h]
      refine ⟨_, .inr ⟨fun z => ?_, rfl⟩⟩
      have := (List.nodup_append.mp z).2.2 w h w List.mem_cons_self
      exact this rfl
    · rw [if_neg h]
      have hn' : (seen ++ [w]).Nodup := by
        rw [List.nodup_append]
        refine ⟨hn, by simp, ?_⟩
        intro a ha b hb
        rw [List.mem_singleton] at hb
        subst hb
        intro z
        subst z
        exact h ha
      have ih := dis_loop v ws (seen ++ [w]) (.val (.str w)) (fun d z => by cases z) (by rw [List.length_append]; simp; omega) hn'
      rw [List.append_assoc] at ih
      exact ih
theorem are_distinct_s (d : D) (ws : List Str) (hd : d = .tuple (ws.map PyData.str) ∨ d = .list (ws.map PyData.str)) (hl : ws.length ≤ 1000000) : m_are_distinct [d] = .ret (.bool (decide ws.Nodup)) false .none := by
  obtain ⟨ρ', h⟩ := dis_loop d ws [] .no (fun d z => by cases z) (by simpa using hl) List.nodup_nil
  have e9 : den Y_are_distinct (.gNm 2) = tgName 2 := rfl
  rw [List.nil_append] at h
  have h0 : dkT [] = [] := rfl
  rw [h0] at h
  rcases h with ⟨h1, h2⟩ | ⟨h1, h2⟩
  · rcases hd with rfl | rfl <;> simp only [m_are_distinct, cd_are_distinct, e9, h1, h2, bind_ok, bind_ex, fl_ok, fl_ex, seq_nx, seq_rt, seq_bk, seq_ct, seq_ex, x_run, fin_nx, fin_rt, fin_ex, exit_none, exit_some, opt_some, d_eVar, d_eMov, d_eInt, d_eStr, d_eBl, d_eNon, d_eGlob, x_q1, x_q2, d_eBin, d_eCmp, d_eIx, chB_b, x_c1, x_c2, x_c4, d_eChain, d_eOne, andB_b, orB_b, d_eAnd, d_eOr, notV_b, d_eNot, x_tupV, x_lstV, d_eTup, d_eLst, x_cbV, d_eCB, retV_ret, retV_ex, retIo_own, retIo_io, x_call0, x_call1, d_eCall, x_isiV, d_eIsi, x_negV, d_eNeg, d_eDicK, d_eDicT, x_sl1, x_sl2, x_sl3, d_eSl, x_o1, d_oNone, d_oSome, x_revV, d_eRevL, x_compV, compFin_ok, d_eComp, d_eCompB, d_ePop, x_valA, d_aVal, d_aRef, d_lNil, x_l1, x_l2, d_lCons, blT_b, d_tE, d_tCmp, d_tChain, d_tW, x_notT, d_tNot, d_wOne, x_andT, x_orT, d_wAnd, d_wOr, d_cNil, d_cOne, itV_l, itV_t, itV_s, d_iIt, d_gNm, d_gTup, x_retS, d_sRet, d_sRetN, x_expS, d_sExp, x_ifS, d_sIf, d_sPass, d_sBrk, d_sCnt, x_asgS, d_sSet, x_tupS, d_sTup, x_appS, d_sApp, x_putS, x_putS2, d_sPut, x_forS, d_sFor, d_sWhile, d_sRaise, hand_nx, hand_rt, hand_ex, d_sTry, d_hNil, d_hCons, hands_nil, hands_cons, noEx_nx, noEx_rt, d_bNil, d_bCons, rho0, fCompB, wipeR, unwipe, sv_no, sv_val, sv_own, AV.ct, slCt, Sl.ct, Sl.od, cts, avVals, x_stOk, pl_no, pl_val, pl_own, slOf, tgAll, k_add, k_sub, k_mul, k_div, k_mod, k_pow, k_eq, k_ne, k_lt, k_le, k_gt, k_ge, k_is, k_isn, k_in, k_nin, isi_non, isi_bl, isi_int, isi_str, isi_lst, isi_tup, isi_dic, add_int, sub_int', lt_int', le_int', gt_int', ge_int', eq_int, ne_int, eq_str, ne_str, is_none, isn_none, is_bool, isn_bool, isNoneD, isBoolD, in_lst, in_tup, nin_lst, nin_tup, in_sgn, nin_sgn, len_lst, len_tup, tup_lst, tup_tup, lst_tup, int_int, x_rg1V, d_iRg1, pow18, ix_t0, ix_t1, ix_t2, ix_t3, ix_l0, sSl, Bf.sem, lk, lkD, deOf, lsAt, reOwn, dcAt, putAt, List.mapIdx_cons, List.mapIdx_nil, List.replicate, List.length_cons, List.length_nil, List.map_cons, List.map_nil, List.cons_append, List.nil_append, List.append_nil, List.set, List.getElem?_cons_zero, List.getElem?_cons_succ, List.getElem?_nil, List.getElem?_map, Option.map_some, Option.map_none, Option.getD_some, Option.getD_none, Option.or_some, Option.none_or, Option.some_or, ↓reduceIte, reduceCtorEq, Option.some.injEq, Nat.zero_add, Nat.reduceAdd, Nat.reduceSub, Nat.reduceLeDiff, Nat.reduceEqDiff, Nat.reduceLT, Nat.sub_self, Nat.add_one_sub_one, Bool.not_true, Bool.not_false, Bool.not_not, Bool.and_true, Bool.true_and, Bool.and_false, Bool.false_and, Bool.or_true, Bool.true_or, Bool.or_false, Bool.false_or, Bool.false_eq_true, Bool.not_eq_true', decide_true, decide_false, decide_eq_true_eq]
  · rcases hd with rfl | rfl <;> simp only [m_are_distinct, cd_are_distinct, e9, h1, h2, bind_ok, bind_ex, fl_ok, fl_ex, seq_nx, seq_rt, seq_bk, seq_ct, seq_ex, x_run, fin_nx, fin_rt, fin_ex, exit_none, exit_some, opt_some, d_eVar, d_eMov, d_eInt, d_eStr, d_eBl, d_eNon, d_eGlob, x_q1, x_q2, d_eBin, d_eCmp, d_eIx, chB_b, x_c1, x_c2, x_c4, d_eChain, d_eOne, andB_b, orB_b, d_eAnd, d_eOr, notV_b, d_eNot, x_tupV, x_lstV, d_eTup, d_eLst, x_cbV, d_eCB, retV_ret, retV_ex, retIo_own, retIo_io, x_call0, x_call1, d_eCall, x_isiV, d_eIsi, x_negV, d_eNeg, d_eDicK, d_eDicT, x_sl1, x_sl2, x_sl3, d_eSl, x_o1, d_oNone, d_oSome, x_revV, d_eRevL, x_compV, compFin_ok, d_eComp, d_eCompB, d_ePop, x_valA, d_aVal, d_aRef, d_lNil, x_l1, x_l2, d_lCons, blT_b, d_tE, d_tCmp, d_tChain, d_tW, x_notT, d_tNot, d_wOne, x_andT, x_orT, d_wAnd, d_wOr, d_cNil, d_cOne, itV_l, itV_t, itV_s, d_iIt, d_gNm, d_gTup, x_retS, d_sRet, d_sRetN, x_expS, d_sExp, x_ifS, d_sIf, d_sPass, d_sBrk, d_sCnt, x_asgS, d_sSet, x_tupS, d_sTup, x_appS, d_sApp, x_putS, x_putS2, d_sPut, x_forS, d_sFor, d_sWhile, d_sRaise, hand_nx, hand_rt, hand_ex, d_sTry, d_hNil, d_hCons, hands_nil, hands_cons, noEx_nx, noEx_rt, d_bNil, d_bCons, rho0, fCompB, wipeR, unwipe, sv_no, sv_val, sv_own, AV.ct, slCt, Sl.ct, Sl.od, cts, avVals, x_stOk, pl_no, pl_val, pl_own, slOf, tgAll, k_add, k_sub, k_mul, k_div, k_mod, k_pow, k_eq, k_ne, k_lt, k_le, k_gt, k_ge, k_is, k_isn, k_in, k_nin, isi_non, isi_bl, isi_int, isi_str, isi_lst, isi_tup, isi_dic, add_int, sub_int', lt_int', le_int', gt_int', ge_int', eq_int, ne_int, eq_str, ne_str, is_none, isn_none, is_bool, isn_bool, isNoneD, isBoolD, in_lst, in_tup, nin_lst, nin_tup, in_sgn, nin_sgn, len_lst, len_tup, tup_lst, tup_tup, lst_tup, int_int, x_rg1V, d_iRg1, pow18, ix_t0, ix_t1, ix_t2, ix_t3, ix_l0, sSl, Bf.sem, lk, lkD, deOf, lsAt, reOwn, dcAt, putAt, List.mapIdx_cons, List.mapIdx_nil, List.replicate, List.length_cons, List.length_nil, List.map_cons, List.map_nil, List.cons_append, List.nil_append, List.append_nil, List.set, List.getElem?_cons_zero, List.getElem?_cons_succ, List.getElem?_nil, List.getElem?_map, Option.map_some, Option.map_none, Option.getD_some, Option.getD_none, Option.or_some, Option.none_or, Option.some_or, ↓reduceIte, reduceCtorEq, Option.some.injEq, Nat.zero_add, Nat.reduceAdd, Nat.reduceSub, Nat.reduceLeDiff, Nat.reduceEqDiff, Nat.reduceLT, Nat.sub_self, Nat.add_one_sub_one, Bool.not_true, Bool.not_false, Bool.not_not, Bool.and_true, Bool.true_and, Bool.and_false, Bool.false_and, Bool.or_true, Bool.true_or, Bool.or_false, Bool.false_or, Bool.false_eq_true, Bool.not_eq_true', decide_true, decide_false, decide_eq_true_eq]
/-! is_words -/
def wordD (d : D) : Bool := match d with
  | .str w => wordB w
  | _ => false
theorem ws_body (a b c : Sl) (w : Str) (h : w.length ≤ 1000000) : den (k := .B) Y_is_words cd_is_words_b0 [a, b, c, .val (.str w)] = if wordB w = true then .nx [a, b, c, .val (.str w)] else .rt (.bool false) false [a, b, c, .val (.str w)] := by
  cases hw : wordB w <;> simp only [cd_is_words_b0, m_is_words, cd_is_words, ys_is_words_0, ys_is_words_1, is_word_s w h, hw, bind_ok, bind_ex, fl_ok, fl_ex, seq_nx, seq_rt, seq_bk, seq_ct, seq_ex, x_run, fin_nx, fin_rt, fin_ex, exit_none, exit_some, opt_some, d_eVar, d_eMov, d_eInt, d_eStr, d_eBl, d_eNon, d_eGlob, x_q1, x_q2, d_eBin, d_eCmp, d_eIx, chB_b, x_c1, x_c2, x_c4, d_eChain, d_eOne, andB_b, orB_b, d_eAnd, d_eOr, notV_b, d_eNot, x_tupV, x_lstV, d_eTup, d_eLst, x_cbV, d_eCB, retV_ret, retV_ex, retIo_own, retIo_io, x_call0, x_call1, d_eCall, x_isiV, d_eIsi, x_negV, d_eNeg, d_eDicK, d_eDicT, x_sl1, x_sl2, x_sl3, d_eSl, x_o1, d_oNone, d_oSome, x_revV, d_eRevL, x_compV, compFin_ok, d_eComp, d_eCompB, d_ePop, x_valA, d_aVal, d_aRef, d_lNil, x_l1, x_l2, d_lCons, blT_b, d_tE, d_tCmp, d_tChain, d_tW, x_notT, d_tNot, d_wOne, x_andT, x_orT, d_wAnd, d_wOr, d_cNil, d_cOne, itV_l, itV_t, itV_s, d_iIt, d_gNm, d_gTup, x_retS, d_sRet, d_sRetN, x_expS, d_sExp, x_ifS, d_sIf, d_sPass, d_sBrk, d_sCnt, x_asgS, d_sSet, x_tupS, d_sTup, x_appS, d_sApp, x_putS, x_putS2, d_sPut, x_forS, d_sFor, d_sWhile, d_sRaise, hand_nx, hand_rt, hand_ex, d_sTry, d_hNil, d_hCons, hands_nil, hands_cons, noEx_nx, noEx_rt, d_bNil, d_bCons, rho0, fCompB, wipeR, unwipe, sv_no, sv_val, sv_own, AV.ct, slCt, Sl.ct, Sl.od, cts, avVals, x_stOk, pl_no, pl_val, pl_own, slOf, tgAll, k_add, k_sub, k_mul, k_div, k_mod, k_pow, k_eq, k_ne, k_lt, k_le, k_gt, k_ge, k_is, k_isn, k_in, k_nin, isi_non, isi_bl, isi_int, isi_str, isi_lst, isi_tup, isi_dic, add_int, sub_int', lt_int', le_int', gt_int', ge_int', eq_int, ne_int, eq_str, ne_str, is_none, isn_none, is_bool, isn_bool, isNoneD, isBoolD, in_lst, in_tup, nin_lst, nin_tup, in_sgn, nin_sgn, len_lst, len_tup, tup_lst, tup_tup, lst_tup, int_int, x_rg1V, d_iRg1, pow18, ix_t0, ix_t1, ix_t2, ix_t3, ix_l0, sSl, Bf.sem, lk, lkD, deOf, lsAt, reOwn, dcAt, putAt, List.mapIdx_cons, List.mapIdx_nil, List.replicate, List.length_cons, List.length_nil, List.map_cons, List.map_nil, List.cons_append, List.nil_append, List.append_nil, List.set, List.getElem?_cons_zero, List.getElem?_cons_succ, List.getElem?_nil, List.getElem?_map, Option.map_some, Option.map_none, Option.getD_some, Option.getD_none, Option.or_some, Option.none_or, Option.some_or, ↓reduceIte, reduceCtorEq, Option.some.injEq, Nat.zero_add, Nat.reduceAdd, Nat.reduceSub, Nat.reduceLeDiff, Nat.reduceEqDiff, Nat.reduceLT, Nat.sub_self, Nat.add_one_sub_one, Bool.not_true, Bool.not_false, Bool.not_not, Bool.and_true, Bool.true_and, Bool.and_false, Bool.false_and, Bool.or_true, Bool.true_or, Bool.or_false, Bool.false_or, Bool.false_eq_true, Bool.not_eq_true', decide_true, decide_false, decide_eq_true_eq]
theorem ws_loop (a b c : Sl) (ws : List Str) (h : ∀ w ∈ ws, w.length ≤ 1000000) : ∃ s', forLoop (tgName 3) (den (k := .B) Y_is_words cd_is_words_b0) (ws.map PyData.str) [a, b, c, .no] = if ws.all wordB = true then .nx [a, b, c, s'] else .rt (.bool false) false [a, b, c, s'] := by
  obtain ⟨s', _, h2⟩ := for_find (ρ := [a, b, c, .no]) (i := 3) (body := den (k := .B) Y_is_words cd_is_words_b0) (p := wordD) (r := fun _ => .bool false) (t := false) (ws.map PyData.str) .no rfl (by
    intro d hd
    obtain ⟨w, hw, rfl⟩ := List.mem_map.mp hd
    exact ws_body a b c w (h w hw))
  refine ⟨s', ?_⟩
  have h2' : forLoop (tgName 3) (den (k := .B) Y_is_words cd_is_words_b0) (ws.map PyData.str) [a, b, c, .no] = _ := h2
  rw [h2']
  split
  · rename_i e
    rw [List.find?_eq_none] at e
    rw [if_pos]
    · rfl
    · rw [List.all_eq_true]
      intro w hw
      have := e (.str w) (List.mem_map.mpr ⟨w, hw, rfl⟩)
      simpa [wordD] using this
  · rename_i d e
    rw [if_neg]
    · rfl
    · intro z
      rw [List.all_eq_true] at z
      have h3 := List.mem_of_find?_eq_some e
      have h4 := List.find?_some e
      obtain ⟨w, hw, rfl⟩ := List.mem_map.mp h3
      have := z w hw
      simp [wordD, this] at h4
def wordsB (ws : List Str) (lo hi : Int) : Bool := decide (lo ≤ (ws.length : Int)) && decide ((ws.length : Int) ≤ hi) && ws.all wordB && decide ws.Nodup
theorem is_words_s (ws : List Str) (lo hi : Int) (hl : ws.length ≤ 1000000) (h : ∀ w ∈ ws, w.length ≤ 1000000) : m_is_words [.tuple (ws.map PyData.str), .int lo, .int hi] = .ret (.bool (wordsB ws lo hi)) false .none := by
  have e9 : den Y_is_words (.gNm 3) = tgName 3 := rfl
  have hll : (ws.map PyData.str).length = ws.length := List.length_map ..
  unfold wordsB
  by_cases h1 : lo ≤ (ws.length : Int)
  · by_cases h2 : (ws.length : Int) ≤ hi
    · obtain ⟨s', h3⟩ := ws_loop (.val (.tuple (ws.map PyData.str))) (.val (.int lo)) (.val (.int hi)) ws h
      have h4 := are_distinct_s (.tuple (ws.map PyData.str)) ws (.inl rfl) hl
      cases h5 : ws.all wordB with
      | true =>
        rw [h5, if_pos rfl] at h3
        simp only [m_is_words, cd_is_words, ys_is_words_0, ys_is_words_1, List.length_map, h1, h2, e9, h3, h4, bind_ok, bind_ex, fl_ok, fl_ex, seq_nx, seq_rt, seq_bk, seq_ct, seq_ex, x_run, fin_nx, fin_rt, fin_ex, exit_none, exit_some, opt_some, d_eVar, d_eMov, d_eInt, d_eStr, d_eBl, d_eNon, d_eGlob, x_q1, x_q2, d_eBin, d_eCmp, d_eIx, chB_b, x_c1, x_c2, x_c4, d_eChain, d_eOne, andB_b, orB_b, d_eAnd, d_eOr, notV_b, d_eNot, x_tupV, x_lstV, d_eTup, d_eLst, x_cbV, d_eCB, retV_ret, retV_ex, retIo_own, retIo_io, x_call0, x_call1, d_eCall, x_isiV, d_eIsi, x_negV, d_eNeg, d_eDicK, d_eDicT, x_sl1, x_sl2, x_sl3, d_eSl, x_o1, d_oNone, d_oSome, x_revV, d_eRevL, x_compV, compFin_ok, d_eComp, d_eCompB, d_ePop, x_valA, d_aVal, d_aRef, d_lNil, x_l1, x_l2, d_lCons, blT_b, d_tE, d_tCmp, d_tChain, d_tW, x_notT, d_tNot, d_wOne, x_andT, x_orT, d_wAnd, d_wOr, d_cNil, d_cOne, itV_l, itV_t, itV_s, d_iIt, d_gNm, d_gTup, x_retS, d_sRet, d_sRetN, x_expS, d_sExp, x_ifS, d_sIf, d_sPass, d_sBrk, d_sCnt, x_asgS, d_sSet, x_tupS, d_sTup, x_appS, d_sApp, x_putS, x_putS2, d_sPut, x_forS, d_sFor, d_sWhile, d_sRaise, hand_nx, hand_rt, hand_ex, d_sTry, d_hNil, d_hCons, hands_nil, hands_cons, noEx_nx, noEx_rt, d_bNil, d_bCons, rho0, fCompB, wipeR, unwipe, sv_no, sv_val, sv_own, AV.ct, slCt, Sl.ct, Sl.od, cts, avVals, x_stOk, pl_no, pl_val, pl_own, slOf, tgAll, k_add, k_sub, k_mul, k_div, k_mod, k_pow, k_eq, k_ne, k_lt, k_le, k_gt, k_ge, k_is, k_isn, k_in, k_nin, isi_non, isi_bl, isi_int, isi_str, isi_lst, isi_tup, isi_dic, add_int, sub_int', lt_int', le_int', gt_int', ge_int', eq_int, ne_int, eq_str, ne_str, is_none, isn_none, is_bool, isn_bool, isNoneD, isBoolD, in_lst, in_tup, nin_lst, nin_tup, in_sgn, nin_sgn, len_lst, len_tup, tup_lst, tup_tup, lst_tup, int_int, x_rg1V, d_iRg1, pow18, ix_t0, ix_t1, ix_t2, ix_t3, ix_l0, sSl, Bf.sem, lk, lkD, deOf, lsAt, reOwn, dcAt, putAt, List.mapIdx_cons, List.mapIdx_nil, List.replicate, List.length_cons, List.length_nil, List.map_cons, List.map_nil, List.cons_append, List.nil_append, List.append_nil, List.set, List.getElem?_cons_zero, List.getElem?_cons_succ, List.getElem?_nil, List.getElem?_map, Option.map_some, Option.map_none, Option.getD_some, Option.getD_none, Option.or_some, Option.none_or, Option.some_or, ↓reduceIte, reduceCtorEq, Option.some.injEq, Nat.zero_add, Nat.reduceAdd, Nat.reduceSub, Nat.reduceLeDiff, Nat.reduceEqDiff, Nat.reduceLT, Nat.sub_self, Nat.add_one_sub_one, Bool.not_true, Bool.not_false, Bool.not_not, Bool.and_true, Bool.true_and, Bool.and_false, Bool.false_and, Bool.or_true, Bool.true_or, Bool.or_false, Bool.false_or, Bool.false_eq_true, Bool.not_eq_true', decide_true, decide_false, decide_eq_true_eq]
      | false =>
        rw [h5, if_neg (by decide)] at h3
        simp only [m_is_words, cd_is_words, ys_is_words_0, ys_is_words_1, List.length_map, h1, h2, e9, h3, h4, bind_ok, bind_ex, fl_ok, fl_ex, seq_nx, seq_rt, seq_bk, seq_ct, seq_ex, x_run, fin_nx, fin_rt, fin_ex, exit_none, exit_some, opt_some, d_eVar, d_eMov, d_eInt, d_eStr, d_eBl, d_eNon, d_eGlob, x_q1, x_q2, d_eBin, d_eCmp, d_eIx, chB_b, x_c1, x_c2, x_c4, d_eChain, d_eOne, andB_b, orB_b, d_eAnd, d_eOr, notV_b, d_eNot, x_tupV, x_lstV, d_eTup, d_eLst, x_cbV, d_eCB, retV_ret, retV_ex, retIo_own, retIo_io, x_call0, x_call1, d_eCall, x_isiV, d_eIsi, x_negV, d_eNeg, d_eDicK, d_eDicT, x_sl1, x_sl2, x_sl3, d_eSl, x_o1, d_oNone, d_oSome, x_revV, d_eRevL, x_compV, compFin_ok, d_eComp, d_eCompB, d_ePop, x_valA, d_aVal, d_aRef, d_lNil, x_l1, x_l2, d_lCons, blT_b, d_tE, d_tCmp, d_tChain, d_tW, x_notT, d_tNot, d_wOne, x_andT, x_orT, d_wAnd, d_wOr, d_cNil, d_cOne, itV_l, itV_t, itV_s, d_iIt, d_gNm, d_gTup, x_retS, d_sRet, d_sRetN, x_expS, d_sExp, x_ifS, d_sIf, d_sPass, d_sBrk, d_sCnt, x_asgS, d_sSet, x_tupS, d_sTup, x_appS, d_sApp, x_putS, x_putS2, d_sPut, x_forS, d_sFor, d_sWhile, d_sRaise, hand_nx, hand_rt, hand_ex, d_sTry, d_hNil, d_hCons, hands_nil, hands_cons, noEx_nx, noEx_rt, d_bNil, d_bCons, rho0, fCompB, wipeR, unwipe, sv_no, sv_val, sv_own, AV.ct, slCt, Sl.ct, Sl.od, cts, avVals, x_stOk, pl_no, pl_val, pl_own, slOf, tgAll, k_add, k_sub, k_mul, k_div, k_mod, k_pow, k_eq, k_ne, k_lt, k_le, k_gt, k_ge, k_is, k_isn, k_in, k_nin, isi_non, isi_bl, isi_int, isi_str, isi_lst, isi_tup, isi_dic, add_int, sub_int', lt_int', le_int', gt_int', ge_int', eq_int, ne_int, eq_str, ne_str, is_none, isn_none, is_bool, isn_bool, isNoneD, isBoolD, in_lst, in_tup, nin_lst, nin_tup, in_sgn, nin_sgn, len_lst, len_tup, tup_lst, tup_tup, lst_tup, int_int, x_rg1V, d_iRg1, pow18, ix_t0, ix_t1, ix_t2, ix_t3, ix_l0, sSl, Bf.sem, lk, lkD, deOf, lsAt, reOwn, dcAt, putAt, List.mapIdx_cons, List.mapIdx_nil, List.replicate, List.length_cons, List.length_nil, List.map_cons, List.map_nil, List.cons_append, List.nil_append, List.append_nil, List.set, List.getElem?_cons_zero, List.getElem?_cons_succ, List.getElem?_nil, List.getElem?_map, Option.map_some, Option.map_none, Option.getD_some, Option.getD_none, Option.or_some, Option.none_or, Option.some_or, ↓reduceIte, reduceCtorEq, Option.some.injEq, Nat.zero_add, Nat.reduceAdd, Nat.reduceSub, Nat.reduceLeDiff, Nat.reduceEqDiff, Nat.reduceLT, Nat.sub_self, Nat.add_one_sub_one, Bool.not_true, Bool.not_false, Bool.not_not, Bool.and_true, Bool.true_and, Bool.and_false, Bool.false_and, Bool.or_true, Bool.true_or, Bool.or_false, Bool.false_or, Bool.false_eq_true, Bool.not_eq_true', decide_true, decide_false, decide_eq_true_eq]
    · simp only [m_is_words, cd_is_words, ys_is_words_0, ys_is_words_1, List.length_map, h1, h2, bind_ok, bind_ex, fl_ok, fl_ex, seq_nx, seq_rt, seq_bk, seq_ct, seq_ex, x_run, fin_nx, fin_rt, fin_ex, exit_none, exit_some, opt_some, d_eVar, d_eMov, d_eInt, d_eStr, d_eBl, d_eNon, d_eGlob, x_q1, x_q2, d_eBin, d_eCmp, d_eIx, chB_b, x_c1, x_c2, x_c4, d_eChain, d_eOne, andB_b, orB_b, d_eAnd, d_eOr, notV_b, d_eNot, x_tupV, x_lstV, d_eTup, d_eLst, x_cbV, d_eCB, retV_ret, retV_ex, retIo_own, retIo_io, x_call0, x_call1, d_eCall, x_isiV, d_eIsi, x_negV, d_eNeg, d_eDicK, d_eDicT, x_sl1, x_sl2, x_sl3, d_eSl, x_o1, d_oNone, d_oSome, x_revV, d_eRevL, x_compV, compFin_ok, d_eComp, d_eCompB, d_ePop, x_valA, d_aVal, d_aRef, d_lNil, x_l1, x_l2, d_lCons, blT_b, d_tE, d_tCmp, d_tChain, d_tW, x_notT, d_tNot, d_wOne, x_andT, x_orT, d_wAnd, d_wOr, d_cNil, d_cOne, itV_l, itV_t, itV_s, d_iIt, d_gNm, d_gTup, x_retS, d_sRet, d_sRetN, x_expS, d_sExp, x_ifS, d_sIf, d_sPass, d_sBrk, d_sCnt, x_asgS, d_sSet, x_tupS, d_sTup, x_appS, d_sApp, x_putS, x_putS2, d_sPut, x_forS, d_sFor, d_sWhile, d_sRaise, hand_nx, hand_rt, hand_ex, d_sTry, d_hNil, d_hCons, hands_nil, hands_cons, noEx_nx, noEx_rt, d_bNil, d_bCons, rho0, fCompB, wipeR, unwipe, sv_no, sv_val, sv_own, AV.ct, slCt, Sl.ct, Sl.od, cts, avVals, x_stOk, pl_no, pl_val, pl_own, slOf, tgAll, k_add, k_sub, k_mul, k_div, k_mod, k_pow, k_eq, k_ne, k_lt, k_le, k_gt, k_ge, k_is, k_isn, k_in, k_nin, isi_non, isi_bl, isi_int, isi_str, isi_lst, isi_tup, isi_dic, add_int, sub_int', lt_int', le_int', gt_int', ge_int', eq_int, ne_int, eq_str, ne_str, is_none, isn_none, is_bool, isn_bool, isNoneD, isBoolD, in_lst, in_tup, nin_lst, nin_tup, in_sgn, nin_sgn, len_lst, len_tup, tup_lst, tup_tup, lst_tup, int_int, x_rg1V, d_iRg1, pow18, ix_t0, ix_t1, ix_t2, ix_t3, ix_l0, sSl, Bf.sem, lk, lkD, deOf, lsAt, reOwn, dcAt, putAt, List.mapIdx_cons, List.mapIdx_nil, List.replicate, List.length_cons, List.length_nil, List.map_cons, List.map_nil, List.cons_append, List.nil_append, List.append_nil, List.set, List.getElem?_cons_zero, List.getElem?_cons_succ, List.getElem?_nil, List.getElem?_map, Option.map_some, Option.map_none, Option.getD_some, Option.getD_none, Option.or_some, Option.none_or, Option.some_or, ↓reduceIte, reduceCtorEq, Option.some.injEq, Nat.zero_add, Nat.reduceAdd, Nat.reduceSub, Nat.reduceLeDiff, Nat.reduceEqDiff, Nat.reduceLT, Nat.sub_self, Nat.add_one_sub_one, Bool.not_true, Bool.not_false, Bool.not_not, Bool.and_true, Bool.true_and, Bool.and_false, Bool.false_and, Bool.or_true, Bool.true_or, Bool.or_false, Bool.false_or, Bool.false_eq_true, Bool.not_eq_true', decide_true, decide_false, decide_eq_true_eq]
  · simp only [m_is_words, cd_is_words, ys_is_words_0, ys_is_words_1, List.length_map, h1, bind_ok, bind_ex, fl_ok, fl_ex, seq_nx, seq_rt, seq_bk, seq_ct, seq_ex, x_run, fin_nx, fin_rt, fin_ex, exit_none, exit_some, opt_some, d_eVar, d_eMov, d_eInt, d_eStr, d_eBl, d_eNon, d_eGlob, x_q1, x_q2, d_eBin, d_eCmp, d_eIx, chB_b, x_c1, x_c2, x_c4, d_eChain, d_eOne, andB_b, orB_b, d_eAnd, d_eOr, notV_b, d_eNot, x_tupV, x_lstV, d_eTup, d_eLst, x_cbV, d_eCB, retV_ret, retV_ex, retIo_own, retIo_io, x_call0, x_call1, d_eCall, x_isiV, d_eIsi, x_negV, d_eNeg, d_eDicK, d_eDicT, x_sl1, x_sl2, x_sl3, d_eSl, x_o1, d_oNone, d_oSome, x_revV, d_eRevL, x_compV, compFin_ok, d_eComp, d_eCompB, d_ePop, x_valA, d_aVal, d_aRef, d_lNil, x_l1, x_l2, d_lCons, blT_b, d_tE, d_tCmp, d_tChain, d_tW, x_notT, d_tNot, d_wOne, x_andT, x_orT, d_wAnd, d_wOr, d_cNil, d_cOne, itV_l, itV_t, itV_s, d_iIt, d_gNm, d_gTup, x_retS, d_sRet, d_sRetN, x_expS, d_sExp, x_ifS, d_sIf, d_sPass, d_sBrk, d_sCnt, x_asgS, d_sSet, x_tupS, d_sTup, x_appS, d_sApp, x_putS, x_putS2, d_sPut, x_forS, d_sFor, d_sWhile, d_sRaise, hand_nx, hand_rt, hand_ex, d_sTry, d_hNil, d_hCons, hands_nil, hands_cons, noEx_nx, noEx_rt, d_bNil, d_bCons, rho0, fCompB, wipeR, unwipe, sv_no, sv_val, sv_own, AV.ct, slCt, Sl.ct, Sl.od, cts, avVals, x_stOk, pl_no, pl_val, pl_own, slOf, tgAll, k_add, k_sub, k_mul, k_div, k_mod, k_pow, k_eq, k_ne, k_lt, k_le, k_gt, k_ge, k_is, k_isn, k_in, k_nin, isi_non, isi_bl, isi_int, isi_str, isi_lst, isi_tup, isi_dic, add_int, sub_int', lt_int', le_int', gt_int', ge_int', eq_int, ne_int, eq_str, ne_str, is_none, isn_none, is_bool, isn_bool, isNoneD, isBoolD, in_lst, in_tup, nin_lst, nin_tup, in_sgn, nin_sgn, len_lst, len_tup, tup_lst, tup_tup, lst_tup, int_int, x_rg1V, d_iRg1, pow18, ix_t0, ix_t1, ix_t2, ix_t3, ix_l0, sSl, Bf.sem, lk, lkD, deOf, lsAt, reOwn, dcAt, putAt, List.mapIdx_cons, List.mapIdx_nil, List.replicate, List.length_cons, List.length_nil, List.map_cons, List.map_nil, List.cons_append, List.nil_append, List.append_nil, List.set, List.getElem?_cons_zero, List.getElem?_cons_succ, List.getElem?_nil, List.getElem?_map, Option.map_some, Option.map_none, Option.getD_some, Option.getD_none, Option.or_some, Option.none_or, Option.some_or, ↓reduceIte, reduceCtorEq, Option.some.injEq, Nat.zero_add, Nat.reduceAdd, Nat.reduceSub, Nat.reduceLeDiff, Nat.reduceEqDiff, Nat.reduceLT, Nat.sub_self, Nat.add_one_sub_one, Bool.not_true, Bool.not_false, Bool.not_not, Bool.and_true, Bool.true_and, Bool.and_false, Bool.false_and, Bool.or_true, Bool.true_or, Bool.or_false, Bool.false_or, Bool.false_eq_true, Bool.not_eq_true', decide_true, decide_false, decide_eq_true_eq]
theorem is_words_no (d : D) (lo hi : Int) (h : isiD .tuple d = false) : m_is_words [d, .int lo, .int hi] = .ret (.bool false) false .none := by
  simp only [m_is_words, cd_is_words, ys_is_words_0, ys_is_words_1, h, bind_ok, bind_ex, fl_ok, fl_ex, seq_nx, seq_rt, seq_bk, seq_ct, seq_ex, x_run, fin_nx, fin_rt, fin_ex, exit_none, exit_some, opt_some, d_eVar, d_eMov, d_eInt, d_eStr, d_eBl, d_eNon, d_eGlob, x_q1, x_q2, d_eBin, d_eCmp, d_eIx, chB_b, x_c1, x_c2, x_c4, d_eChain, d_eOne, andB_b, orB_b, d_eAnd, d_eOr, notV_b, d_eNot, x_tupV, x_lstV, d_eTup, d_eLst, x_cbV, d_eCB, retV_ret, retV_ex, retIo_own, retIo_io, x_call0, x_call1, d_eCall, x_isiV, d_eIsi, x_negV, d_eNeg, d_eDicK, d_eDicT, x_sl1, x_sl2, x_sl3, d_eSl, x_o1, d_oNone, d_oSome, x_revV, d_eRevL, x_compV, compFin_ok, d_eComp, d_eCompB, d_ePop, x_valA, d_aVal, d_aRef, d_lNil, x_l1, x_l2, d_lCons, blT_b, d_tE, d_tCmp, d_tChain, d_tW, x_notT, d_tNot, d_wOne, x_andT, x_orT, d_wAnd, d_wOr, d_cNil, d_cOne, itV_l, itV_t, itV_s, d_iIt, d_gNm, d_gTup, x_retS, d_sRet, d_sRetN, x_expS, d_sExp, x_ifS, d_sIf, d_sPass, d_sBrk, d_sCnt, x_asgS, d_sSet, x_tupS, d_sTup, x_appS, d_sApp, x_putS, x_putS2, d_sPut, x_forS, d_sFor, d_sWhile, d_sRaise, hand_nx, hand_rt, hand_ex, d_sTry, d_hNil, d_hCons, hands_nil, hands_cons, noEx_nx, noEx_rt, d_bNil, d_bCons, rho0, fCompB, wipeR, unwipe, sv_no, sv_val, sv_own, AV.ct, slCt, Sl.ct, Sl.od, cts, avVals, x_stOk, pl_no, pl_val, pl_own, slOf, tgAll, k_add, k_sub, k_mul, k_div, k_mod, k_pow, k_eq, k_ne, k_lt, k_le, k_gt, k_ge, k_is, k_isn, k_in, k_nin, isi_non, isi_bl, isi_int, isi_str, isi_lst, isi_tup, isi_dic, add_int, sub_int', lt_int', le_int', gt_int', ge_int', eq_int, ne_int, eq_str, ne_str, is_none, isn_none, is_bool, isn_bool, isNoneD, isBoolD, in_lst, in_tup, nin_lst, nin_tup, in_sgn, nin_sgn, len_lst, len_tup, tup_lst, tup_tup, lst_tup, int_int, x_rg1V, d_iRg1, pow18, ix_t0, ix_t1, ix_t2, ix_t3, ix_l0, sSl, Bf.sem, lk, lkD, deOf, lsAt, reOwn, dcAt, putAt, List.mapIdx_cons, List.mapIdx_nil, List.replicate, List.length_cons, List.length_nil, List.map_cons, List.map_nil, List.cons_append, List.nil_append, List.append_nil, List.set, List.getElem?_cons_zero, List.getElem?_cons_succ, List.getElem?_nil, List.getElem?_map, Option.map_some, Option.map_none, Option.getD_some, Option.getD_none, Option.or_some, Option.none_or, Option.some_or, ↓reduceIte, reduceCtorEq, Option.some.injEq, Nat.zero_add, Nat.reduceAdd, Nat.reduceSub, Nat.reduceLeDiff, Nat.reduceEqDiff, Nat.reduceLT, Nat.sub_self, Nat.add_one_sub_one, Bool.not_true, Bool.not_false, Bool.not_not, Bool.and_true, Bool.true_and, Bool.and_false, Bool.false_and, Bool.or_true, Bool.true_or, Bool.or_false, Bool.false_or, Bool.false_eq_true, Bool.not_eq_true', decide_true, decide_false, decide_eq_true_eq]
/-! is_case -/
theorem is_case_no (d : D) (h : tupN d 2 = false) : m_is_case [d] = .ret (.bool false) false .none := by
  simp only [m_is_case, cd_is_case, ys_is_case_0, ys_is_case_1, yk_is_case_3, is_tuple_s, h, bind_ok, bind_ex, fl_ok, fl_ex, seq_nx, seq_rt, seq_bk, seq_ct, seq_ex, x_run, fin_nx, fin_rt, fin_ex, exit_none, exit_some, opt_some, d_eVar, d_eMov, d_eInt, d_eStr, d_eBl, d_eNon, d_eGlob, x_q1, x_q2, d_eBin, d_eCmp, d_eIx, chB_b, x_c1, x_c2, x_c4, d_eChain, d_eOne, andB_b, orB_b, d_eAnd, d_eOr, notV_b, d_eNot, x_tupV, x_lstV, d_eTup, d_eLst, x_cbV, d_eCB, retV_ret, retV_ex, retIo_own, retIo_io, x_call0, x_call1, d_eCall, x_isiV, d_eIsi, x_negV, d_eNeg, d_eDicK, d_eDicT, x_sl1, x_sl2, x_sl3, d_eSl, x_o1, d_oNone, d_oSome, x_revV, d_eRevL, x_compV, compFin_ok, d_eComp, d_eCompB, d_ePop, x_valA, d_aVal, d_aRef, d_lNil, x_l1, x_l2, d_lCons, blT_b, d_tE, d_tCmp, d_tChain, d_tW, x_notT, d_tNot, d_wOne, x_andT, x_orT, d_wAnd, d_wOr, d_cNil, d_cOne, itV_l, itV_t, itV_s, d_iIt, d_gNm, d_gTup, x_retS, d_sRet, d_sRetN, x_expS, d_sExp, x_ifS, d_sIf, d_sPass, d_sBrk, d_sCnt, x_asgS, d_sSet, x_tupS, d_sTup, x_appS, d_sApp, x_putS, x_putS2, d_sPut, x_forS, d_sFor, d_sWhile, d_sRaise, hand_nx, hand_rt, hand_ex, d_sTry, d_hNil, d_hCons, hands_nil, hands_cons, noEx_nx, noEx_rt, d_bNil, d_bCons, rho0, fCompB, wipeR, unwipe, sv_no, sv_val, sv_own, AV.ct, slCt, Sl.ct, Sl.od, cts, avVals, x_stOk, pl_no, pl_val, pl_own, slOf, tgAll, k_add, k_sub, k_mul, k_div, k_mod, k_pow, k_eq, k_ne, k_lt, k_le, k_gt, k_ge, k_is, k_isn, k_in, k_nin, isi_non, isi_bl, isi_int, isi_str, isi_lst, isi_tup, isi_dic, add_int, sub_int', lt_int', le_int', gt_int', ge_int', eq_int, ne_int, eq_str, ne_str, is_none, isn_none, is_bool, isn_bool, isNoneD, isBoolD, in_lst, in_tup, nin_lst, nin_tup, in_sgn, nin_sgn, len_lst, len_tup, tup_lst, tup_tup, lst_tup, int_int, x_rg1V, d_iRg1, pow18, ix_t0, ix_t1, ix_t2, ix_t3, ix_l0, sSl, Bf.sem, lk, lkD, deOf, lsAt, reOwn, dcAt, putAt, List.mapIdx_cons, List.mapIdx_nil, List.replicate, List.length_cons, List.length_nil, List.map_cons, List.map_nil, List.cons_append, List.nil_append, List.append_nil, List.set, List.getElem?_cons_zero, List.getElem?_cons_succ, List.getElem?_nil, List.getElem?_map, Option.map_some, Option.map_none, Option.getD_some, Option.getD_none, Option.or_some, Option.none_or, Option.some_or, ↓reduceIte, reduceCtorEq, Option.some.injEq, Nat.zero_add, Nat.reduceAdd, Nat.reduceSub, Nat.reduceLeDiff, Nat.reduceEqDiff, Nat.reduceLT, Nat.sub_self, Nat.add_one_sub_one, Bool.not_true, Bool.not_false, Bool.not_not, Bool.and_true, Bool.true_and, Bool.and_false, Bool.false_and, Bool.or_true, Bool.true_or, Bool.or_false, Bool.false_or, Bool.false_eq_true, Bool.not_eq_true', decide_true, decide_false, decide_eq_true_eq]
theorem tup2 (a b : D) : tupN (.tuple [a, b]) 2 = true := rfl
theorem is_case_s (a b : D) (x y : Bool) (ha : m_is_words [a, .int 0, .int 12] = .ret (.bool x) false .none) (hb : m_is_words [b, .int 0, .int 12] = .ret (.bool y) false .none) : m_is_case [.tuple [a, b]] = .ret (.bool (x && y)) false .none := by
  cases x <;> simp only [m_is_case, cd_is_case, ys_is_case_0, ys_is_case_1, yk_is_case_3, is_tuple_s, tup2, ha, hb, bind_ok, bind_ex, fl_ok, fl_ex, seq_nx, seq_rt, seq_bk, seq_ct, seq_ex, x_run, fin_nx, fin_rt, fin_ex, exit_none, exit_some, opt_some, d_eVar, d_eMov, d_eInt, d_eStr, d_eBl, d_eNon, d_eGlob, x_q1, x_q2, d_eBin, d_eCmp, d_eIx, chB_b, x_c1, x_c2, x_c4, d_eChain, d_eOne, andB_b, orB_b, d_eAnd, d_eOr, notV_b, d_eNot, x_tupV, x_lstV, d_eTup, d_eLst, x_cbV, d_eCB, retV_ret, retV_ex, retIo_own, retIo_io, x_call0, x_call1, d_eCall, x_isiV, d_eIsi, x_negV, d_eNeg, d_eDicK, d_eDicT, x_sl1, x_sl2, x_sl3, d_eSl, x_o1, d_oNone, d_oSome, x_revV, d_eRevL, x_compV, compFin_ok, d_eComp, d_eCompB, d_ePop, x_valA, d_aVal, d_aRef, d_lNil, x_l1, x_l2, d_lCons, blT_b, d_tE, d_tCmp, d_tChain, d_tW, x_notT, d_tNot, d_wOne, x_andT, x_orT, d_wAnd, d_wOr, d_cNil, d_cOne, itV_l, itV_t, itV_s, d_iIt, d_gNm, d_gTup, x_retS, d_sRet, d_sRetN, x_expS, d_sExp, x_ifS, d_sIf, d_sPass, d_sBrk, d_sCnt, x_asgS, d_sSet, x_tupS, d_sTup, x_appS, d_sApp, x_putS, x_putS2, d_sPut, x_forS, d_sFor, d_sWhile, d_sRaise, hand_nx, hand_rt, hand_ex, d_sTry, d_hNil, d_hCons, hands_nil, hands_cons, noEx_nx, noEx_rt, d_bNil, d_bCons, rho0, fCompB, wipeR, unwipe, sv_no, sv_val, sv_own, AV.ct, slCt, Sl.ct, Sl.od, cts, avVals, x_stOk, pl_no, pl_val, pl_own, slOf, tgAll, k_add, k_sub, k_mul, k_div, k_mod, k_pow, k_eq, k_ne, k_lt, k_le, k_gt, k_ge, k_is, k_isn, k_in, k_nin, isi_non, isi_bl, isi_int, isi_str, isi_lst, isi_tup, isi_dic, add_int, sub_int', lt_int', le_int', gt_int', ge_int', eq_int, ne_int, eq_str, ne_str, is_none, isn_none, is_bool, isn_bool, isNoneD, isBoolD, in_lst, in_tup, nin_lst, nin_tup, in_sgn, nin_sgn, len_lst, len_tup, tup_lst, tup_tup, lst_tup, int_int, x_rg1V, d_iRg1, pow18, ix_t0, ix_t1, ix_t2, ix_t3, ix_l0, sSl, Bf.sem, lk, lkD, deOf, lsAt, reOwn, dcAt, putAt, List.mapIdx_cons, List.mapIdx_nil, List.replicate, List.length_cons, List.length_nil, List.map_cons, List.map_nil, List.cons_append, List.nil_append, List.append_nil, List.set, List.getElem?_cons_zero, List.getElem?_cons_succ, List.getElem?_nil, List.getElem?_map, Option.map_some, Option.map_none, Option.getD_some, Option.getD_none, Option.or_some, Option.none_or, Option.some_or, ↓reduceIte, reduceCtorEq, Option.some.injEq, Nat.zero_add, Nat.reduceAdd, Nat.reduceSub, Nat.reduceLeDiff, Nat.reduceEqDiff, Nat.reduceLT, Nat.sub_self, Nat.add_one_sub_one, Bool.not_true, Bool.not_false, Bool.not_not, Bool.and_true, Bool.true_and, Bool.and_false, Bool.false_and, Bool.or_true, Bool.true_or, Bool.or_false, Bool.false_or, Bool.false_eq_true, Bool.not_eq_true', decide_true, decide_false, decide_eq_true_eq]
theorem check_case_s (d : D) (x : Bool) (h : m_is_case [d] = .ret (.bool x) false .none) : m_check_case [d] = if x = true then .ret .none false .none else .ex 0 .none := by
  cases x <;> simp only [m_check_case, cd_check_case, ys_check_case_0, h, bind_ok, bind_ex, fl_ok, fl_ex, seq_nx, seq_rt, seq_bk, seq_ct, seq_ex, x_run, fin_nx, fin_rt, fin_ex, exit_none, exit_some, opt_some, d_eVar, d_eMov, d_eInt, d_eStr, d_eBl, d_eNon, d_eGlob, x_q1, x_q2, d_eBin, d_eCmp, d_eIx, chB_b, x_c1, x_c2, x_c4, d_eChain, d_eOne, andB_b, orB_b, d_eAnd, d_eOr, notV_b, d_eNot, x_tupV, x_lstV, d_eTup, d_eLst, x_cbV, d_eCB, retV_ret, retV_ex, retIo_own, retIo_io, x_call0, x_call1, d_eCall, x_isiV, d_eIsi, x_negV, d_eNeg, d_eDicK, d_eDicT, x_sl1, x_sl2, x_sl3, d_eSl, x_o1, d_oNone, d_oSome, x_revV, d_eRevL, x_compV, compFin_ok, d_eComp, d_eCompB, d_ePop, x_valA, d_aVal, d_aRef, d_lNil, x_l1, x_l2, d_lCons, blT_b, d_tE, d_tCmp, d_tChain, d_tW, x_notT, d_tNot, d_wOne, x_andT, x_orT, d_wAnd, d_wOr, d_cNil, d_cOne, itV_l, itV_t, itV_s, d_iIt, d_gNm, d_gTup, x_retS, d_sRet, d_sRetN, x_expS, d_sExp, x_ifS, d_sIf, d_sPass, d_sBrk, d_sCnt, x_asgS, d_sSet, x_tupS, d_sTup, x_appS, d_sApp, x_putS, x_putS2, d_sPut, x_forS, d_sFor, d_sWhile, d_sRaise, hand_nx, hand_rt, hand_ex, d_sTry, d_hNil, d_hCons, hands_nil, hands_cons, noEx_nx, noEx_rt, d_bNil, d_bCons, rho0, fCompB, wipeR, unwipe, sv_no, sv_val, sv_own, AV.ct, slCt, Sl.ct, Sl.od, cts, avVals, x_stOk, pl_no, pl_val, pl_own, slOf, tgAll, k_add, k_sub, k_mul, k_div, k_mod, k_pow, k_eq, k_ne, k_lt, k_le, k_gt, k_ge, k_is, k_isn, k_in, k_nin, isi_non, isi_bl, isi_int, isi_str, isi_lst, isi_tup, isi_dic, add_int, sub_int', lt_int', le_int', gt_int', ge_int', eq_int, ne_int, eq_str, ne_str, is_none, isn_none, is_bool, isn_bool, isNoneD, isBoolD, in_lst, in_tup, nin_lst, nin_tup, in_sgn, nin_sgn, len_lst, len_tup, tup_lst, tup_tup, lst_tup, int_int, x_rg1V, d_iRg1, pow18, ix_t0, ix_t1, ix_t2, ix_t3, ix_l0, sSl, Bf.sem, lk, lkD, deOf, lsAt, reOwn, dcAt, putAt, List.mapIdx_cons, List.mapIdx_nil, List.replicate, List.length_cons, List.length_nil, List.map_cons, List.map_nil, List.cons_append, List.nil_append, List.append_nil, List.set, List.getElem?_cons_zero, List.getElem?_cons_succ, List.getElem?_nil, List.getElem?_map, Option.map_some, Option.map_none, Option.getD_some, Option.getD_none, Option.or_some, Option.none_or, Option.some_or, ↓reduceIte, reduceCtorEq, Option.some.injEq, Nat.zero_add, Nat.reduceAdd, Nat.reduceSub, Nat.reduceLeDiff, Nat.reduceEqDiff, Nat.reduceLT, Nat.sub_self, Nat.add_one_sub_one, Bool.not_true, Bool.not_false, Bool.not_not, Bool.and_true, Bool.true_and, Bool.and_false, Bool.false_and, Bool.or_true, Bool.true_or, Bool.or_false, Bool.false_or, Bool.false_eq_true, Bool.not_eq_true', decide_true, decide_false, decide_eq_true_eq]
/-! is_precedent -/
theorem tup4 (a b c d : D) : tupN (.tuple [a, b, c, d]) 4 = true := rfl
theorem is_prec_no (d : D) (h : tupN d 4 = false) : m_is_precedent [d] = .ret (.bool false) false .none := by
  simp only [m_is_precedent, cd_is_precedent, ys_is_precedent_0, ys_is_precedent_1, ys_is_precedent_2, ys_is_precedent_3, yk_is_precedent_5, yk_is_precedent_6, is_tuple_s, h, bind_ok, bind_ex, fl_ok, fl_ex, seq_nx, seq_rt, seq_bk, seq_ct, seq_ex, x_run, fin_nx, fin_rt, fin_ex, exit_none, exit_some, opt_some, d_eVar, d_eMov, d_eInt, d_eStr, d_eBl, d_eNon, d_eGlob, x_q1, x_q2, d_eBin, d_eCmp, d_eIx, chB_b, x_c1, x_c2, x_c4, d_eChain, d_eOne, andB_b, orB_b, d_eAnd, d_eOr, notV_b, d_eNot, x_tupV, x_lstV, d_eTup, d_eLst, x_cbV, d_eCB, retV_ret, retV_ex, retIo_own, retIo_io, x_call0, x_call1, d_eCall, x_isiV, d_eIsi, x_negV, d_eNeg, d_eDicK, d_eDicT, x_sl1, x_sl2, x_sl3, d_eSl, x_o1, d_oNone, d_oSome, x_revV, d_eRevL, x_compV, compFin_ok, d_eComp, d_eCompB, d_ePop, x_valA, d_aVal, d_aRef, d_lNil, x_l1, x_l2, d_lCons, blT_b, d_tE, d_tCmp, d_tChain, d_tW, x_notT, d_tNot, d_wOne, x_andT, x_orT, d_wAnd, d_wOr, d_cNil, d_cOne, itV_l, itV_t, itV_s, d_iIt, d_gNm, d_gTup, x_retS, d_sRet, d_sRetN, x_expS, d_sExp, x_ifS, d_sIf, d_sPass, d_sBrk, d_sCnt, x_asgS, d_sSet, x_tupS, d_sTup, x_appS, d_sApp, x_putS, x_putS2, d_sPut, x_forS, d_sFor, d_sWhile, d_sRaise, hand_nx, hand_rt, hand_ex, d_sTry, d_hNil, d_hCons, hands_nil, hands_cons, noEx_nx, noEx_rt, d_bNil, d_bCons, rho0, fCompB, wipeR, unwipe, sv_no, sv_val, sv_own, AV.ct, slCt, Sl.ct, Sl.od, cts, avVals, x_stOk, pl_no, pl_val, pl_own, slOf, tgAll, k_add, k_sub, k_mul, k_div, k_mod, k_pow, k_eq, k_ne, k_lt, k_le, k_gt, k_ge, k_is, k_isn, k_in, k_nin, isi_non, isi_bl, isi_int, isi_str, isi_lst, isi_tup, isi_dic, add_int, sub_int', lt_int', le_int', gt_int', ge_int', eq_int, ne_int, eq_str, ne_str, is_none, isn_none, is_bool, isn_bool, isNoneD, isBoolD, in_lst, in_tup, nin_lst, nin_tup, in_sgn, nin_sgn, len_lst, len_tup, tup_lst, tup_tup, lst_tup, int_int, x_rg1V, d_iRg1, pow18, ix_t0, ix_t1, ix_t2, ix_t3, ix_l0, sSl, Bf.sem, lk, lkD, deOf, lsAt, reOwn, dcAt, putAt, List.mapIdx_cons, List.mapIdx_nil, List.replicate, List.length_cons, List.length_nil, List.map_cons, List.map_nil, List.cons_append, List.nil_append, List.append_nil, List.set, List.getElem?_cons_zero, List.getElem?_cons_succ, List.getElem?_nil, List.getElem?_map, Option.map_some, Option.map_none, Option.getD_some, Option.getD_none, Option.or_some, Option.none_or, Option.some_or, ↓reduceIte, reduceCtorEq, Option.some.injEq, Nat.zero_add, Nat.reduceAdd, Nat.reduceSub, Nat.reduceLeDiff, Nat.reduceEqDiff, Nat.reduceLT, Nat.sub_self, Nat.add_one_sub_one, Bool.not_true, Bool.not_false, Bool.not_not, Bool.and_true, Bool.true_and, Bool.and_false, Bool.false_and, Bool.or_true, Bool.true_or, Bool.or_false, Bool.false_or, Bool.false_eq_true, Bool.not_eq_true', decide_true, decide_false, decide_eq_true_eq]
theorem is_prec_name (n p c o : D) (h : m_is_word [n] = .ret (.bool false) false .none) : m_is_precedent [.tuple [n, p, c, o]] = .ret (.bool false) false .none := by
  simp only [m_is_precedent, cd_is_precedent, ys_is_precedent_0, ys_is_precedent_1, ys_is_precedent_2, ys_is_precedent_3, yk_is_precedent_5, yk_is_precedent_6, is_tuple_s, tup4, h, bind_ok, bind_ex, fl_ok, fl_ex, seq_nx, seq_rt, seq_bk, seq_ct, seq_ex, x_run, fin_nx, fin_rt, fin_ex, exit_none, exit_some, opt_some, d_eVar, d_eMov, d_eInt, d_eStr, d_eBl, d_eNon, d_eGlob, x_q1, x_q2, d_eBin, d_eCmp, d_eIx, chB_b, x_c1, x_c2, x_c4, d_eChain, d_eOne, andB_b, orB_b, d_eAnd, d_eOr, notV_b, d_eNot, x_tupV, x_lstV, d_eTup, d_eLst, x_cbV, d_eCB, retV_ret, retV_ex, retIo_own, retIo_io, x_call0, x_call1, d_eCall, x_isiV, d_eIsi, x_negV, d_eNeg, d_eDicK, d_eDicT, x_sl1, x_sl2, x_sl3, d_eSl, x_o1, d_oNone, d_oSome, x_revV, d_eRevL, x_compV, compFin_ok, d_eComp, d_eCompB, d_ePop, x_valA, d_aVal, d_aRef, d_lNil, x_l1, x_l2, d_lCons, blT_b, d_tE, d_tCmp, d_tChain, d_tW, x_notT, d_tNot, d_wOne, x_andT, x_orT, d_wAnd, d_wOr, d_cNil, d_cOne, itV_l, itV_t, itV_s, d_iIt, d_gNm, d_gTup, x_retS, d_sRet, d_sRetN, x_expS, d_sExp, x_ifS, d_sIf, d_sPass, d_sBrk, d_sCnt, x_asgS, d_sSet, x_tupS, d_sTup, x_appS, d_sApp, x_putS, x_putS2, d_sPut, x_forS, d_sFor, d_sWhile, d_sRaise, hand_nx, hand_rt, hand_ex, d_sTry, d_hNil, d_hCons, hands_nil, hands_cons, noEx_nx, noEx_rt, d_bNil, d_bCons, rho0, fCompB, wipeR, unwipe, sv_no, sv_val, sv_own, AV.ct, slCt, Sl.ct, Sl.od, cts, avVals, x_stOk, pl_no, pl_val, pl_own, slOf, tgAll, k_add, k_sub, k_mul, k_div, k_mod, k_pow, k_eq, k_ne, k_lt, k_le, k_gt, k_ge, k_is, k_isn, k_in, k_nin, isi_non, isi_bl, isi_int, isi_str, isi_lst, isi_tup, isi_dic, add_int, sub_int', lt_int', le_int', gt_int', ge_int', eq_int, ne_int, eq_str, ne_str, is_none, isn_none, is_bool, isn_bool, isNoneD, isBoolD, in_lst, in_tup, nin_lst, nin_tup, in_sgn, nin_sgn, len_lst, len_tup, tup_lst, tup_tup, lst_tup, int_int, x_rg1V, d_iRg1, pow18, ix_t0, ix_t1, ix_t2, ix_t3, ix_l0, sSl, Bf.sem, lk, lkD, deOf, lsAt, reOwn, dcAt, putAt, List.mapIdx_cons, List.mapIdx_nil, List.replicate, List.length_cons, List.length_nil, List.map_cons, List.map_nil, List.cons_append, List.nil_append, List.append_nil, List.set, List.getElem?_cons_zero, List.getElem?_cons_succ, List.getElem?_nil, List.getElem?_map, Option.map_some, Option.map_none, Option.getD_some, Option.getD_none, Option.or_some, Option.none_or, Option.some_or, ↓reduceIte, reduceCtorEq, Option.some.injEq, Nat.zero_add, Nat.reduceAdd, Nat.reduceSub, Nat.reduceLeDiff, Nat.reduceEqDiff, Nat.reduceLT, Nat.sub_self, Nat.add_one_sub_one, Bool.not_true, Bool.not_false, Bool.not_not, Bool.and_true, Bool.true_and, Bool.and_false, Bool.false_and, Bool.or_true, Bool.true_or, Bool.or_false, Bool.false_or, Bool.false_eq_true, Bool.not_eq_true', decide_true, decide_false, decide_eq_true_eq]
theorem is_prec_case (n p c o : D) (h : m_is_word [n] = .ret (.bool true) false .none) (h2 : m_is_case [.tuple [p, c]] = .ret (.bool false) false .none) : m_is_precedent [.tuple [n, p, c, o]] = .ret (.bool false) false .none := by
  simp only [m_is_precedent, cd_is_precedent, ys_is_precedent_0, ys_is_precedent_1, ys_is_precedent_2, ys_is_precedent_3, yk_is_precedent_5, yk_is_precedent_6, is_tuple_s, tup4, h, h2, bind_ok, bind_ex, fl_ok, fl_ex, seq_nx, seq_rt, seq_bk, seq_ct, seq_ex, x_run, fin_nx, fin_rt, fin_ex, exit_none, exit_some, opt_some, d_eVar, d_eMov, d_eInt, d_eStr, d_eBl, d_eNon, d_eGlob, x_q1, x_q2, d_eBin, d_eCmp, d_eIx, chB_b, x_c1, x_c2, x_c4, d_eChain, d_eOne, andB_b, orB_b, d_eAnd, d_eOr, notV_b, d_eNot, x_tupV, x_lstV, d_eTup, d_eLst, x_cbV, d_eCB, retV_ret, retV_ex, retIo_own, retIo_io, x_call0, x_call1, d_eCall, x_isiV, d_eIsi, x_negV, d_eNeg, d_eDicK, d_eDicT, x_sl1, x_sl2, x_sl3, d_eSl, x_o1, d_oNone, d_oSome, x_revV, d_eRevL, x_compV, compFin_ok, d_eComp, d_eCompB, d_ePop, x_valA, d_aVal, d_aRef, d_lNil, x_l1, x_l2, d_lCons, blT_b, d_tE, d_tCmp, d_tChain, d_tW, x_notT, d_tNot, d_wOne, x_andT, x_orT, d_wAnd, d_wOr, d_cNil, d_cOne, itV_l, itV_t, itV_s, d_iIt, d_gNm, d_gTup, x_retS, d_sRet, d_sRetN, x_expS, d_sExp, x_ifS, d_sIf, d_sPass, d_sBrk, d_sCnt, x_asgS, d_sSet, x_tupS, d_sTup, x_appS, d_sApp, x_putS, x_putS2, d_sPut, x_forS, d_sFor, d_sWhile, d_sRaise, hand_nx, hand_rt, hand_ex, d_sTry, d_hNil, d_hCons, hands_nil, hands_cons, noEx_nx, noEx_rt, d_bNil, d_bCons, rho0, fCompB, wipeR, unwipe, sv_no, sv_val, sv_own, AV.ct, slCt, Sl.ct, Sl.od, cts, avVals, x_stOk, pl_no, pl_val, pl_own, slOf, tgAll, k_add, k_sub, k_mul, k_div, k_mod, k_pow, k_eq, k_ne, k_lt, k_le, k_gt, k_ge, k_is, k_isn, k_in, k_nin, isi_non, isi_bl, isi_int, isi_str, isi_lst, isi_tup, isi_dic, add_int, sub_int', lt_int', le_int', gt_int', ge_int', eq_int, ne_int, eq_str, ne_str, is_none, isn_none, is_bool, isn_bool, isNoneD, isBoolD, in_lst, in_tup, nin_lst, nin_tup, in_sgn, nin_sgn, len_lst, len_tup, tup_lst, tup_tup, lst_tup, int_int, x_rg1V, d_iRg1, pow18, ix_t0, ix_t1, ix_t2, ix_t3, ix_l0, sSl, Bf.sem, lk, lkD, deOf, lsAt, reOwn, dcAt, putAt, List.mapIdx_cons, List.mapIdx_nil, List.replicate, List.length_cons, List.length_nil, List.map_cons, List.map_nil, List.cons_append, List.nil_append, List.append_nil, List.set, List.getElem?_cons_zero, List.getElem?_cons_succ, List.getElem?_nil, List.getElem?_map, Option.map_some, Option.map_none, Option.getD_some, Option.getD_none, Option.or_some, Option.none_or, Option.some_or, ↓reduceIte, reduceCtorEq, Option.some.injEq, Nat.zero_add, Nat.reduceAdd, Nat.reduceSub, Nat.reduceLeDiff, Nat.reduceEqDiff, Nat.reduceLT, Nat.sub_self, Nat.add_one_sub_one, Bool.not_true, Bool.not_false, Bool.not_not, Bool.and_true, Bool.true_and, Bool.and_false, Bool.false_and, Bool.or_true, Bool.true_or, Bool.or_false, Bool.false_or, Bool.false_eq_true, Bool.not_eq_true', decide_true, decide_false, decide_eq_true_eq]
theorem is_prec_int (n p c o : D) (h : m_is_word [n] = .ret (.bool true) false .none) (h2 : m_is_case [.tuple [p, c]] = .ret (.bool true) false .none) (h3 : m_is_int [o] = .ret (.bool false) false .none) : m_is_precedent [.tuple [n, p, c, o]] = .ret (.bool false) false .none := by
  simp only [m_is_precedent, cd_is_precedent, ys_is_precedent_0, ys_is_precedent_1, ys_is_precedent_2, ys_is_precedent_3, yk_is_precedent_5, yk_is_precedent_6, is_tuple_s, tup4, h, h2, h3, bind_ok, bind_ex, fl_ok, fl_ex, seq_nx, seq_rt, seq_bk, seq_ct, seq_ex, x_run, fin_nx, fin_rt, fin_ex, exit_none, exit_some, opt_some, d_eVar, d_eMov, d_eInt, d_eStr, d_eBl, d_eNon, d_eGlob, x_q1, x_q2, d_eBin, d_eCmp, d_eIx, chB_b, x_c1, x_c2, x_c4, d_eChain, d_eOne, andB_b, orB_b, d_eAnd, d_eOr, notV_b, d_eNot, x_tupV, x_lstV, d_eTup, d_eLst, x_cbV, d_eCB, retV_ret, retV_ex, retIo_own, retIo_io, x_call0, x_call1, d_eCall, x_isiV, d_eIsi, x_negV, d_eNeg, d_eDicK, d_eDicT, x_sl1, x_sl2, x_sl3, d_eSl, x_o1, d_oNone, d_oSome, x_revV, d_eRevL, x_compV, compFin_ok, d_eComp, d_eCompB, d_ePop, x_valA, d_aVal, d_aRef, d_lNil, x_l1, x_l2, d_lCons, blT_b, d_tE, d_tCmp, d_tChain, d_tW, x_notT, d_tNot, d_wOne, x_andT, x_orT, d_wAnd, d_wOr, d_cNil, d_cOne, itV_l, itV_t, itV_s, d_iIt, d_gNm, d_gTup, x_retS, d_sRet, d_sRetN, x_expS, d_sExp, x_ifS, d_sIf, d_sPass, d_sBrk, d_sCnt, x_asgS, d_sSet, x_tupS, d_sTup, x_appS, d_sApp, x_putS, x_putS2, d_sPut, x_forS, d_sFor, d_sWhile, d_sRaise, hand_nx, hand_rt, hand_ex, d_sTry, d_hNil, d_hCons, hands_nil, hands_cons, noEx_nx, noEx_rt, d_bNil, d_bCons, rho0, fCompB, wipeR, unwipe, sv_no, sv_val, sv_own, AV.ct, slCt, Sl.ct, Sl.od, cts, avVals, x_stOk, pl_no, pl_val, pl_own, slOf, tgAll, k_add, k_sub, k_mul, k_div, k_mod, k_pow, k_eq, k_ne, k_lt, k_le, k_gt, k_ge, k_is, k_isn, k_in, k_nin, isi_non, isi_bl, isi_int, isi_str, isi_lst, isi_tup, isi_dic, add_int, sub_int', lt_int', le_int', gt_int', ge_int', eq_int, ne_int, eq_str, ne_str, is_none, isn_none, is_bool, isn_bool, isNoneD, isBoolD, in_lst, in_tup, nin_lst, nin_tup, in_sgn, nin_sgn, len_lst, len_tup, tup_lst, tup_tup, lst_tup, int_int, x_rg1V, d_iRg1, pow18, ix_t0, ix_t1, ix_t2, ix_t3, ix_l0, sSl, Bf.sem, lk, lkD, deOf, lsAt, reOwn, dcAt, putAt, List.mapIdx_cons, List.mapIdx_nil, List.replicate, List.length_cons, List.length_nil, List.map_cons, List.map_nil, List.cons_append, List.nil_append, List.append_nil, List.set, List.getElem?_cons_zero, List.getElem?_cons_succ, List.getElem?_nil, List.getElem?_map, Option.map_some, Option.map_none, Option.getD_some, Option.getD_none, Option.or_some, Option.none_or, Option.some_or, ↓reduceIte, reduceCtorEq, Option.some.injEq, Nat.zero_add, Nat.reduceAdd, Nat.reduceSub, Nat.reduceLeDiff, Nat.reduceEqDiff, Nat.reduceLT, Nat.sub_self, Nat.add_one_sub_one, Bool.not_true, Bool.not_false, Bool.not_not, Bool.and_true, Bool.true_and, Bool.and_false, Bool.false_and, Bool.or_true, Bool.true_or, Bool.or_false, Bool.false_or, Bool.false_eq_true, Bool.not_eq_true', decide_true, decide_false, decide_eq_true_eq]
theorem in_ud (o : Int) : bInX (.int o) (.tuple [.int 1, .int (-1)]) = some (.bool (decide (o = 1 ∨ o = -1)), false) := by
  have := in_ints o [1, -1]
  simpa using this
theorem is_prec_s (n p c : D) (o : Int) (h : m_is_word [n] = .ret (.bool true) false .none) (h2 : m_is_case [.tuple [p, c]] = .ret (.bool true) false .none) : m_is_precedent [.tuple [n, p, c, .int o]] = .ret (.bool (decide (o = 1 ∨ o = -1))) false .none := by
  have h3 := is_int_s (.int o)
  simp only [isi_int, bind_ok, bind_ex, fl_ok, fl_ex, seq_nx, seq_rt, seq_bk, seq_ct, seq_ex, x_run, fin_nx, fin_rt, fin_ex, exit_none, exit_some, opt_some, d_eVar, d_eMov, d_eInt, d_eStr, d_eBl, d_eNon, d_eGlob, x_q1, x_q2, d_eBin, d_eCmp, d_eIx, chB_b, x_c1, x_c2, x_c4, d_eChain, d_eOne, andB_b, orB_b, d_eAnd, d_eOr, notV_b, d_eNot, x_tupV, x_lstV, d_eTup, d_eLst, x_cbV, d_eCB, retV_ret, retV_ex, retIo_own, retIo_io, x_call0, x_call1, d_eCall, x_isiV, d_eIsi, x_negV, d_eNeg, d_eDicK, d_eDicT, x_sl1, x_sl2, x_sl3, d_eSl, x_o1, d_oNone, d_oSome, x_revV, d_eRevL, x_compV, compFin_ok, d_eComp, d_eCompB, d_ePop, x_valA, d_aVal, d_aRef, d_lNil, x_l1, x_l2, d_lCons, blT_b, d_tE, d_tCmp, d_tChain, d_tW, x_notT, d_tNot, d_wOne, x_andT, x_orT, d_wAnd, d_wOr, d_cNil, d_cOne, itV_l, itV_t, itV_s, d_iIt, d_gNm, d_gTup, x_retS, d_sRet, d_sRetN, x_expS, d_sExp, x_ifS, d_sIf, d_sPass, d_sBrk, d_sCnt, x_asgS, d_sSet, x_tupS, d_sTup, x_appS, d_sApp, x_putS, x_putS2, d_sPut, x_forS, d_sFor, d_sWhile, d_sRaise, hand_nx, hand_rt, hand_ex, d_sTry, d_hNil, d_hCons, hands_nil, hands_cons, noEx_nx, noEx_rt, d_bNil, d_bCons, rho0, fCompB, wipeR, unwipe, sv_no, sv_val, sv_own, AV.ct, slCt, Sl.ct, Sl.od, cts, avVals, x_stOk, pl_no, pl_val, pl_own, slOf, tgAll, k_add, k_sub, k_mul, k_div, k_mod, k_pow, k_eq, k_ne, k_lt, k_le, k_gt, k_ge, k_is, k_isn, k_in, k_nin, isi_non, isi_bl, isi_int, isi_str, isi_lst, isi_tup, isi_dic, add_int, sub_int', lt_int', le_int', gt_int', ge_int', eq_int, ne_int, eq_str, ne_str, is_none, isn_none, is_bool, isn_bool, isNoneD, isBoolD, in_lst, in_tup, nin_lst, nin_tup, in_sgn, nin_sgn, len_lst, len_tup, tup_lst, tup_tup, lst_tup, int_int, x_rg1V, d_iRg1, pow18, ix_t0, ix_t1, ix_t2, ix_t3, ix_l0, sSl, Bf.sem, lk, lkD, deOf, lsAt, reOwn, dcAt, putAt, List.mapIdx_cons, List.mapIdx_nil, List.replicate, List.length_cons, List.length_nil, List.map_cons, List.map_nil, List.cons_append, List.nil_append, List.append_nil, List.set, List.getElem?_cons_zero, List.getElem?_cons_succ, List.getElem?_nil, List.getElem?_map, Option.map_some, Option.map_none, Option.getD_some, Option.getD_none, Option.or_some, Option.none_or, Option.some_or, ↓reduceIte, reduceCtorEq, Option.some.injEq, Nat.zero_add, Nat.reduceAdd, Nat.reduceSub, Nat.reduceLeDiff, Nat.reduceEqDiff, Nat.reduceLT, Nat.sub_self, Nat.add_one_sub_one, Bool.not_true, Bool.not_false, Bool.not_not, Bool.and_true, Bool.true_and, Bool.and_false, Bool.false_and, Bool.or_true, Bool.true_or, Bool.or_false, Bool.false_or, Bool.false_eq_true, Bool.not_eq_true', decide_true, decide_false, decide_eq_true_eq] at h3
  simp only [m_is_precedent, cd_is_precedent, ys_is_precedent_0, ys_is_precedent_1, ys_is_precedent_2, ys_is_precedent_3, yk_is_precedent_5, yk_is_precedent_6, is_tuple_s, tup4, h, h2, h3, in_ud, bind_ok, bind_ex, fl_ok, fl_ex, seq_nx, seq_rt, seq_bk, seq_ct, seq_ex, x_run, fin_nx, fin_rt, fin_ex, exit_none, exit_some, opt_some, d_eVar, d_eMov, d_eInt, d_eStr, d_eBl, d_eNon, d_eGlob, x_q1, x_q2, d_eBin, d_eCmp, d_eIx, chB_b, x_c1, x_c2, x_c4, d_eChain, d_eOne, andB_b, orB_b, d_eAnd, d_eOr, notV_b, d_eNot, x_tupV, x_lstV, d_eTup, d_eLst, x_cbV, d_eCB, retV_ret, retV_ex, retIo_own, retIo_io, x_call0, x_call1, d_eCall, x_isiV, d_eIsi, x_negV, d_eNeg, d_eDicK, d_eDicT, x_sl1, x_sl2, x_sl3, d_eSl, x_o1, d_oNone, d_oSome, x_revV, d_eRevL, x_compV, compFin_ok, d_eComp, d_eCompB, d_ePop, x_valA, d_aVal, d_aRef, d_lNil, x_l1, x_l2, d_lCons, blT_b, d_tE, d_tCmp, d_tChain, d_tW, x_notT, d_tNot, d_wOne, x_andT, x_orT, d_wAnd, d_wOr, d_cNil, d_cOne, itV_l, itV_t, itV_s, d_iIt, d_gNm, d_gTup, x_retS, d_sRet, d_sRetN, x_expS, d_sExp, x_ifS, d_sIf, d_sPass, d_sBrk, d_sCnt, x_asgS, d_sSet, x_tupS, d_sTup, x_appS, d_sApp, x_putS, x_putS2, d_sPut, x_forS, d_sFor, d_sWhile, d_sRaise, hand_nx, hand_rt, hand_ex, d_sTry, d_hNil, d_hCons, hands_nil, hands_cons, noEx_nx, noEx_rt, d_bNil, d_bCons, rho0, fCompB, wipeR, unwipe, sv_no, sv_val, sv_own, AV.ct, slCt, Sl.ct, Sl.od, cts, avVals, x_stOk, pl_no, pl_val, pl_own, slOf, tgAll, k_add, k_sub, k_mul, k_div, k_mod, k_pow, k_eq, k_ne, k_lt, k_le, k_gt, k_ge, k_is, k_isn, k_in, k_nin, isi_non, isi_bl, isi_int, isi_str, isi_lst, isi_tup, isi_dic, add_int, sub_int', lt_int', le_int', gt_int', ge_int', eq_int, ne_int, eq_str, ne_str, is_none, isn_none, is_bool, isn_bool, isNoneD, isBoolD, in_lst, in_tup, nin_lst, nin_tup, in_sgn, nin_sgn, len_lst, len_tup, tup_lst, tup_tup, lst_tup, int_int, x_rg1V, d_iRg1, pow18, ix_t0, ix_t1, ix_t2, ix_t3, ix_l0, sSl, Bf.sem, lk, lkD, deOf, lsAt, reOwn, dcAt, putAt, List.mapIdx_cons, List.mapIdx_nil, List.replicate, List.length_cons, List.length_nil, List.map_cons, List.map_nil, List.cons_append, List.nil_append, List.append_nil, List.set, List.getElem?_cons_zero, List.getElem?_cons_succ, List.getElem?_nil, List.getElem?_map, Option.map_some, Option.map_none, Option.getD_some, Option.getD_none, Option.or_some, Option.none_or, Option.some_or, ↓reduceIte, reduceCtorEq, Option.some.injEq, Nat.zero_add, Nat.reduceAdd, Nat.reduceSub, Nat.reduceLeDiff, Nat.reduceEqDiff, Nat.reduceLT, Nat.sub_self, Nat.add_one_sub_one, Bool.not_true, Bool.not_false, Bool.not_not, Bool.and_true, Bool.true_and, Bool.and_false, Bool.false_and, Bool.or_true, Bool.true_or, Bool.or_false, Bool.false_or, Bool.false_eq_true, Bool.not_eq_true', decide_true, decide_false, decide_eq_true_eq]
/-! is_precedents: one row -/
theorem precs_body (a : Sl) (d : D) (x : Bool) (h : m_is_precedent [d] = .ret (.bool x) false .none) : den (k := .B) Y_is_precedents cd_is_precedents_b0 [a, .val d] = if x = true then .nx [a, .val d] else .rt (.bool false) false [a, .val d] := by
  cases x <;> simp only [cd_is_precedents_b0, m_is_precedents, cd_is_precedents, ys_is_precedents_0, ys_is_precedents_1, yk_is_precedents_4, h, bind_ok, bind_ex, fl_ok, fl_ex, seq_nx, seq_rt, seq_bk, seq_ct, seq_ex, x_run, fin_nx, fin_rt, fin_ex, exit_none, exit_some, opt_some, d_eVar, d_eMov, d_eInt, d_eStr, d_eBl, d_eNon, d_eGlob, x_q1, x_q2, d_eBin, d_eCmp, d_eIx, chB_b, x_c1, x_c2, x_c4, d_eChain, d_eOne, andB_b, orB_b, d_eAnd, d_eOr, notV_b, d_eNot, x_tupV, x_lstV, d_eTup, d_eLst, x_cbV, d_eCB, retV_ret, retV_ex, retIo_own, retIo_io, x_call0, x_call1, d_eCall, x_isiV, d_eIsi, x_negV, d_eNeg, d_eDicK, d_eDicT, x_sl1, x_sl2, x_sl3, d_eSl, x_o1, d_oNone, d_oSome, x_revV, d_eRevL, x_compV, compFin_ok, d_eComp, d_eCompB, d_ePop, x_valA, d_aVal, d_aRef, d_lNil, x_l1, x_l2, d_lCons, blT_b, d_tE, d_tCmp, d_tChain, d_tW, x_notT, d_tNot, d_wOne, x_andT, x_orT, d_wAnd, d_wOr, d_cNil, d_cOne, itV_l, itV_t, itV_s, d_iIt, d_gNm, d_gTup, x_retS, d_sRet, d_sRetN, x_expS, d_sExp, x_ifS, d_sIf, d_sPass, d_sBrk, d_sCnt, x_asgS, d_sSet, x_tupS, d_sTup, x_appS, d_sApp, x_putS, x_putS2, d_sPut, x_forS, d_sFor, d_sWhile, d_sRaise, hand_nx, hand_rt, hand_ex, d_sTry, d_hNil, d_hCons, hands_nil, hands_cons, noEx_nx, noEx_rt, d_bNil, d_bCons, rho0, fCompB, wipeR, unwipe, sv_no, sv_val, sv_own, AV.ct, slCt, Sl.ct, Sl.od, cts, avVals, x_stOk, pl_no, pl_val, pl_own, slOf, tgAll, k_add, k_sub, k_mul, k_div, k_mod, k_pow, k_eq, k_ne, k_lt, k_le, k_gt, k_ge, k_is, k_isn, k_in, k_nin, isi_non, isi_bl, isi_int, isi_str, isi_lst, isi_tup, isi_dic, add_int, sub_int', lt_int', le_int', gt_int', ge_int', eq_int, ne_int, eq_str, ne_str, is_none, isn_none, is_bool, isn_bool, isNoneD, isBoolD, in_lst, in_tup, nin_lst, nin_tup, in_sgn, nin_sgn, len_lst, len_tup, tup_lst, tup_tup, lst_tup, int_int, x_rg1V, d_iRg1, pow18, ix_t0, ix_t1, ix_t2, ix_t3, ix_l0, sSl, Bf.sem, lk, lkD, deOf, lsAt, reOwn, dcAt, putAt, List.mapIdx_cons, List.mapIdx_nil, List.replicate, List.length_cons, List.length_nil, List.map_cons, List.map_nil, List.cons_append, List.nil_append, List.append_nil, List.set, List.getElem?_cons_zero, List.getElem?_cons_succ, List.getElem?_nil, List.getElem?_map, Option.map_some, Option.map_none, Option.getD_some, Option.getD_none, Option.or_some, Option.none_or, Option.some_or, ↓reduceIte, reduceCtorEq, Option.some.injEq, Nat.zero_add, Nat.reduceAdd, Nat.reduceSub, Nat.reduceLeDiff, Nat.reduceEqDiff, Nat.reduceLT, Nat.sub_self, Nat.add_one_sub_one, Bool.not_true, Bool.not_false, Bool.not_not, Bool.and_true, Bool.true_and, Bool.and_false, Bool.false_and, Bool.or_true, Bool.true_or, Bool.or_false, Bool.false_or, Bool.false_eq_true, Bool.not_eq_true', decide_true, decide_false, decide_eq_true_eq]
theorem is_precs_one (d : D) (h : m_is_precedent [d] = .ret (.bool false) false .none) : m_is_precedents [.tuple [d]] = .ret (.bool false) false .none := by
  have e9 : den Y_is_precedents (.gNm 1) = tgName 1 := rfl
  have hb := precs_body (.val (.tuple [d])) d false h
  have e1 : forLoop (tgName 1) (den (k := .B) Y_is_precedents cd_is_precedents_b0) [d] [.val (.tuple [d]), .no] = .rt (.bool false) false [.val (.tuple [d]), .val d] := by
    unfold forLoop
    have : tgName 1 d [.val (.tuple [d]), .no] = some [.val (.tuple [d]), .val d] := rfl
    rw [this]; dsimp only; rw [hb]; rfl
  have gt : ¬ ((60 : Int) < ((0 + 1 : Nat) : Int)) := by decide
  simp only [m_is_precedents, cd_is_precedents, ys_is_precedents_0, ys_is_precedents_1, yk_is_precedents_4, e9, e1, gt, bind_ok, bind_ex, fl_ok, fl_ex, seq_nx, seq_rt, seq_bk, seq_ct, seq_ex, x_run, fin_nx, fin_rt, fin_ex, exit_none, exit_some, opt_some, d_eVar, d_eMov, d_eInt, d_eStr, d_eBl, d_eNon, d_eGlob, x_q1, x_q2, d_eBin, d_eCmp, d_eIx, chB_b, x_c1, x_c2, x_c4, d_eChain, d_eOne, andB_b, orB_b, d_eAnd, d_eOr, notV_b, d_eNot, x_tupV, x_lstV, d_eTup, d_eLst, x_cbV, d_eCB, retV_ret, retV_ex, retIo_own, retIo_io, x_call0, x_call1, d_eCall, x_isiV, d_eIsi, x_negV, d_eNeg, d_eDicK, d_eDicT, x_sl1, x_sl2, x_sl3, d_eSl, x_o1, d_oNone, d_oSome, x_revV, d_eRevL, x_compV, compFin_ok, d_eComp, d_eCompB, d_ePop, x_valA, d_aVal, d_aRef, d_lNil, x_l1, x_l2, d_lCons, blT_b, d_tE, d_tCmp, d_tChain, d_tW, x_notT, d_tNot, d_wOne, x_andT, x_orT, d_wAnd, d_wOr, d_cNil, d_cOne, itV_l, itV_t, itV_s, d_iIt, d_gNm, d_gTup, x_retS, d_sRet, d_sRetN, x_expS, d_sExp, x_ifS, d_sIf, d_sPass, d_sBrk, d_sCnt, x_asgS, d_sSet, x_tupS, d_sTup, x_appS, d_sApp, x_putS, x_putS2, d_sPut, x_forS, d_sFor, d_sWhile, d_sRaise, hand_nx, hand_rt, hand_ex, d_sTry, d_hNil, d_hCons, hands_nil, hands_cons, noEx_nx, noEx_rt, d_bNil, d_bCons, rho0, fCompB, wipeR, unwipe, sv_no, sv_val, sv_own, AV.ct, slCt, Sl.ct, Sl.od, cts, avVals, x_stOk, pl_no, pl_val, pl_own, slOf, tgAll, k_add, k_sub, k_mul, k_div, k_mod, k_pow, k_eq, k_ne, k_lt, k_le, k_gt, k_ge, k_is, k_isn, k_in, k_nin, isi_non, isi_bl, isi_int, isi_str, isi_lst, isi_tup, isi_dic, add_int, sub_int', lt_int', le_int', gt_int', ge_int', eq_int, ne_int, eq_str, ne_str, is_none, isn_none, is_bool, isn_bool, isNoneD, isBoolD, in_lst, in_tup, nin_lst, nin_tup, in_sgn, nin_sgn, len_lst, len_tup, tup_lst, tup_tup, lst_tup, int_int, x_rg1V, d_iRg1, pow18, ix_t0, ix_t1, ix_t2, ix_t3, ix_l0, sSl, Bf.sem, lk, lkD, deOf, lsAt, reOwn, dcAt, putAt, List.mapIdx_cons, List.mapIdx_nil, List.replicate, List.length_cons, List.length_nil, List.map_cons, List.map_nil, List.cons_append, List.nil_append, List.append_nil, List.set, List.getElem?_cons_zero, List.getElem?_cons_succ, List.getElem?_nil, List.getElem?_map, Option.map_some, Option.map_none, Option.getD_some, Option.getD_none, Option.or_some, Option.none_or, Option.some_or, ↓reduceIte, reduceCtorEq, Option.some.injEq, Nat.zero_add, Nat.reduceAdd, Nat.reduceSub, Nat.reduceLeDiff, Nat.reduceEqDiff, Nat.reduceLT, Nat.sub_self, Nat.add_one_sub_one, Bool.not_true, Bool.not_false, Bool.not_not, Bool.and_true, Bool.true_and, Bool.and_false, Bool.false_and, Bool.or_true, Bool.true_or, Bool.or_false, Bool.false_or, Bool.false_eq_true, Bool.not_eq_true', decide_true, decide_false, decide_eq_true_eq]
end PV.Lw
namespace PV.Lw
open PySem L2 PV

theorem is_precs_yes (n : Str) (p c o : D) (h : m_is_precedent [.tuple [.str n, p, c, o]] = .ret (.bool true) false .none) : m_is_precedents [.tuple [.tuple [.str n, p, c, o]]] = .ret (.bool true) false .none := by
  have e9 : den Y_is_precedents (.gNm 1) = tgName 1 := rfl
  have hb := precs_body (.val (.tuple [.tuple [.str n, p, c, o]])) _ true h
  have e1 : forLoop (tgName 1) (den (k := .B) Y_is_precedents cd_is_precedents_b0) [.tuple [.str n, p, c, o]] [.val (.tuple [.tuple [.str n, p, c, o]]), .no] = .nx [.val (.tuple [.tuple [.str n, p, c, o]]), .val (.tuple [.str n, p, c, o])] := by
    unfold forLoop
    have : tgName 1 (.tuple [.str n, p, c, o]) [.val (.tuple [.tuple [.str n, p, c, o]]), .no] = some [.val (.tuple [.tuple [.str n, p, c, o]]), .val (.tuple [.str n, p, c, o])] := rfl
    rw [this]; dsimp only; rw [hb]; rfl
  have gt : ¬ ((60 : Int) < ((0 + 1 : Nat) : Int)) := by decide
  have hd := are_distinct_s (.list [.str n]) [n] (.inr rfl) (by simp)
  have hn : ([n] : List Str).Nodup := by simp
  simp only [hn, bind_ok, bind_ex, fl_ok, fl_ex, seq_nx, seq_rt, seq_bk, seq_ct, seq_ex, x_run, fin_nx, fin_rt, fin_ex, exit_none, exit_some, opt_some, d_eVar, d_eMov, d_eInt, d_eStr, d_eBl, d_eNon, d_eGlob, x_q1, x_q2, d_eBin, d_eCmp, d_eIx, chB_b, x_c1, x_c2, x_c4, d_eChain, d_eOne, andB_b, orB_b, d_eAnd, d_eOr, notV_b, d_eNot, x_tupV, x_lstV, d_eTup, d_eLst, x_cbV, d_eCB, retV_ret, retV_ex, retIo_own, retIo_io, x_call0, x_call1, d_eCall, x_isiV, d_eIsi, x_negV, d_eNeg, d_eDicK, d_eDicT, x_sl1, x_sl2, x_sl3, d_eSl, x_o1, d_oNone, d_oSome, x_revV, d_eRevL, x_compV, compFin_ok, d_eComp, d_eCompB, d_ePop, x_valA, d_aVal, d_aRef, d_lNil, x_l1, x_l2, d_lCons, blT_b, d_tE, d_tCmp, d_tChain, d_tW, x_notT, d_tNot, d_wOne, x_andT, x_orT, d_wAnd, d_wOr, d_cNil, d_cOne, itV_l, itV_t, itV_s, d_iIt, d_gNm, d_gTup, x_retS, d_sRet, d_sRetN, x_expS, d_sExp, x_ifS, d_sIf, d_sPass, d_sBrk, d_sCnt, x_asgS, d_sSet, x_tupS, d_sTup, x_appS, d_sApp, x_putS, x_putS2, d_sPut, x_forS, d_sFor, d_sWhile, d_sRaise, hand_nx, hand_rt, hand_ex, d_sTry, d_hNil, d_hCons, hands_nil, hands_cons, noEx_nx, noEx_rt, d_bNil, d_bCons, rho0, fCompB, wipeR, unwipe, sv_no, sv_val, sv_own, AV.ct, slCt, Sl.ct, Sl.od, cts, avVals, x_stOk, pl_no, pl_val, pl_own, slOf, tgAll, k_add, k_sub, k_mul, k_div, k_mod, k_pow, k_eq, k_ne, k_lt, k_le, k_gt, k_ge, k_is, k_isn, k_in, k_nin, isi_non, isi_bl, isi_int, isi_str, isi_lst, isi_tup, isi_dic, add_int, sub_int', lt_int', le_int', gt_int', ge_int', eq_int, ne_int, eq_str, ne_str, is_none, isn_none, is_bool, isn_bool, isNoneD, isBoolD, in_lst, in_tup, nin_lst, nin_tup, in_sgn, nin_sgn, len_lst, len_tup, tup_lst, tup_tup, lst_tup, int_int, x_rg1V, d_iRg1, pow18, ix_t0, ix_t1, ix_t2, ix_t3, ix_l0, sSl, Bf.sem, lk, lkD, deOf, lsAt, reOwn, dcAt, putAt, List.mapIdx_cons, List.mapIdx_nil, List.replicate, List.length_cons, List.length_nil, List.map_cons, List.map_nil, List.cons_append, List.nil_append, List.append_nil, List.set, List.getElem?_cons_zero, List.getElem?_cons_succ, List.getElem?_nil, List.getElem?_map, Option.map_some, Option.map_none, Option.getD_some, Option.getD_none, Option.or_some, Option.none_or, Option.some_or, ↓reduceIte, reduceCtorEq, Option.some.injEq, Nat.zero_add, Nat.reduceAdd, Nat.reduceSub, Nat.reduceLeDiff, Nat.reduceEqDiff, Nat.reduceLT, Nat.sub_self, Nat.add_one_sub_one, Bool.not_true, Bool.not_false, Bool.not_not, Bool.and_true, Bool.true_and, Bool.and_false, Bool.false_and, Bool.or_true, Bool.true_or, Bool.or_false, Bool.false_or, Bool.false_eq_true, Bool.not_eq_true', decide_true, decide_false, decide_eq_true_eq] at hd
  simp only [m_is_precedents, cd_is_precedents, ys_is_precedents_0, ys_is_precedents_1, yk_is_precedents_4, cd_is_precedents_e0, e9, e1, gt, hd, compLoop, tgName, bind_ok, bind_ex, fl_ok, fl_ex, seq_nx, seq_rt, seq_bk, seq_ct, seq_ex, x_run, fin_nx, fin_rt, fin_ex, exit_none, exit_some, opt_some, d_eVar, d_eMov, d_eInt, d_eStr, d_eBl, d_eNon, d_eGlob, x_q1, x_q2, d_eBin, d_eCmp, d_eIx, chB_b, x_c1, x_c2, x_c4, d_eChain, d_eOne, andB_b, orB_b, d_eAnd, d_eOr, notV_b, d_eNot, x_tupV, x_lstV, d_eTup, d_eLst, x_cbV, d_eCB, retV_ret, retV_ex, retIo_own, retIo_io, x_call0, x_call1, d_eCall, x_isiV, d_eIsi, x_negV, d_eNeg, d_eDicK, d_eDicT, x_sl1, x_sl2, x_sl3, d_eSl, x_o1, d_oNone, d_oSome, x_revV, d_eRevL, x_compV, compFin_ok, d_eComp, d_eCompB, d_ePop, x_valA, d_aVal, d_aRef, d_lNil, x_l1, x_l2, d_lCons, blT_b, d_tE, d_tCmp, d_tChain, d_tW, x_notT, d_tNot, d_wOne, x_andT, x_orT, d_wAnd, d_wOr, d_cNil, d_cOne, itV_l, itV_t, itV_s, d_iIt, d_gNm, d_gTup, x_retS, d_sRet, d_sRetN, x_expS, d_sExp, x_ifS, d_sIf, d_sPass, d_sBrk, d_sCnt, x_asgS, d_sSet, x_tupS, d_sTup, x_appS, d_sApp, x_putS, x_putS2, d_sPut, x_forS, d_sFor, d_sWhile, d_sRaise, hand_nx, hand_rt, hand_ex, d_sTry, d_hNil, d_hCons, hands_nil, hands_cons, noEx_nx, noEx_rt, d_bNil, d_bCons, rho0, fCompB, wipeR, unwipe, sv_no, sv_val, sv_own, AV.ct, slCt, Sl.ct, Sl.od, cts, avVals, x_stOk, pl_no, pl_val, pl_own, slOf, tgAll, k_add, k_sub, k_mul, k_div, k_mod, k_pow, k_eq, k_ne, k_lt, k_le, k_gt, k_ge, k_is, k_isn, k_in, k_nin, isi_non, isi_bl, isi_int, isi_str, isi_lst, isi_tup, isi_dic, add_int, sub_int', lt_int', le_int', gt_int', ge_int', eq_int, ne_int, eq_str, ne_str, is_none, isn_none, is_bool, isn_bool, isNoneD, isBoolD, in_lst, in_tup, nin_lst, nin_tup, in_sgn, nin_sgn, len_lst, len_tup, tup_lst, tup_tup, lst_tup, int_int, x_rg1V, d_iRg1, pow18, ix_t0, ix_t1, ix_t2, ix_t3, ix_l0, sSl, Bf.sem, lk, lkD, deOf, lsAt, reOwn, dcAt, putAt, List.mapIdx_cons, List.mapIdx_nil, List.replicate, List.length_cons, List.length_nil, List.map_cons, List.map_nil, List.cons_append, List.nil_append, List.append_nil, List.set, List.getElem?_cons_zero, List.getElem?_cons_succ, List.getElem?_nil, List.getElem?_map, Option.map_some, Option.map_none, Option.getD_some, Option.getD_none, Option.or_some, Option.none_or, Option.some_or, ↓reduceIte, reduceCtorEq, Option.some.injEq, Nat.zero_add, Nat.reduceAdd, Nat.reduceSub, Nat.reduceLeDiff, Nat.reduceEqDiff, Nat.reduceLT, Nat.sub_self, Nat.add_one_sub_one, Bool.not_true, Bool.not_false, Bool.not_not, Bool.and_true, Bool.true_and, Bool.and_false, Bool.false_and, Bool.or_true, Bool.true_or, Bool.or_false, Bool.false_or, Bool.false_eq_true, Bool.not_eq_true', decide_true, decide_false, decide_eq_true_eq]
theorem check_precs_s (d : D) (x : Bool) (h : m_is_precedents [d] = .ret (.bool x) false .none) : m_check_precedents [d] = if x = true then .ret .none false .none else .ex 1 .none := by
  cases x <;> simp only [m_check_precedents, cd_check_precedents, ys_check_precedents_0, h, bind_ok, bind_ex, fl_ok, fl_ex, seq_nx, seq_rt, seq_bk, seq_ct, seq_ex, x_run, fin_nx, fin_rt, fin_ex, exit_none, exit_some, opt_some, d_eVar, d_eMov, d_eInt, d_eStr, d_eBl, d_eNon, d_eGlob, x_q1, x_q2, d_eBin, d_eCmp, d_eIx, chB_b, x_c1, x_c2, x_c4, d_eChain, d_eOne, andB_b, orB_b, d_eAnd, d_eOr, notV_b, d_eNot, x_tupV, x_lstV, d_eTup, d_eLst, x_cbV, d_eCB, retV_ret, retV_ex, retIo_own, retIo_io, x_call0, x_call1, d_eCall, x_isiV, d_eIsi, x_negV, d_eNeg, d_eDicK, d_eDicT, x_sl1, x_sl2, x_sl3, d_eSl, x_o1, d_oNone, d_oSome, x_revV, d_eRevL, x_compV, compFin_ok, d_eComp, d_eCompB, d_ePop, x_valA, d_aVal, d_aRef, d_lNil, x_l1, x_l2, d_lCons, blT_b, d_tE, d_tCmp, d_tChain, d_tW, x_notT, d_tNot, d_wOne, x_andT, x_orT, d_wAnd, d_wOr, d_cNil, d_cOne, itV_l, itV_t, itV_s, d_iIt, d_gNm, d_gTup, x_retS, d_sRet, d_sRetN, x_expS, d_sExp, x_ifS, d_sIf, d_sPass, d_sBrk, d_sCnt, x_asgS, d_sSet, x_tupS, d_sTup, x_appS, d_sApp, x_putS, x_putS2, d_sPut, x_forS, d_sFor, d_sWhile, d_sRaise, hand_nx, hand_rt, hand_ex, d_sTry, d_hNil, d_hCons, hands_nil, hands_cons, noEx_nx, noEx_rt, d_bNil, d_bCons, rho0, fCompB, wipeR, unwipe, sv_no, sv_val, sv_own, AV.ct, slCt, Sl.ct, Sl.od, cts, avVals, x_stOk, pl_no, pl_val, pl_own, slOf, tgAll, k_add, k_sub, k_mul, k_div, k_mod, k_pow, k_eq, k_ne, k_lt, k_le, k_gt, k_ge, k_is, k_isn, k_in, k_nin, isi_non, isi_bl, isi_int, isi_str, isi_lst, isi_tup, isi_dic, add_int, sub_int', lt_int', le_int', gt_int', ge_int', eq_int, ne_int, eq_str, ne_str, is_none, isn_none, is_bool, isn_bool, isNoneD, isBoolD, in_lst, in_tup, nin_lst, nin_tup, in_sgn, nin_sgn, len_lst, len_tup, tup_lst, tup_tup, lst_tup, int_int, x_rg1V, d_iRg1, pow18, ix_t0, ix_t1, ix_t2, ix_t3, ix_l0, sSl, Bf.sem, lk, lkD, deOf, lsAt, reOwn, dcAt, putAt, List.mapIdx_cons, List.mapIdx_nil, List.replicate, List.length_cons, List.length_nil, List.map_cons, List.map_nil, List.cons_append, List.nil_append, List.append_nil, List.set, List.getElem?_cons_zero, List.getElem?_cons_succ, List.getElem?_nil, List.getElem?_map, Option.map_some, Option.map_none, Option.getD_some, Option.getD_none, Option.or_some, Option.none_or, Option.some_or, ↓reduceIte, reduceCtorEq, Option.some.injEq, Nat.zero_add, Nat.reduceAdd, Nat.reduceSub, Nat.reduceLeDiff, Nat.reduceEqDiff, Nat.reduceLT, Nat.sub_self, Nat.add_one_sub_one, Bool.not_true, Bool.not_false, Bool.not_not, Bool.and_true, Bool.true_and, Bool.and_false, Bool.false_and, Bool.or_true, Bool.true_or, Bool.or_false, Bool.false_or, Bool.false_eq_true, Bool.not_eq_true', decide_true, decide_false, decide_eq_true_eq]
theorem case_of_s (n p c o : D) : m_case_of [.tuple [n, p, c, o]] = .ret (.tuple [p, c]) false .none := by
  simp only [m_case_of, cd_case_of, bind_ok, bind_ex, fl_ok, fl_ex, seq_nx, seq_rt, seq_bk, seq_ct, seq_ex, x_run, fin_nx, fin_rt, fin_ex, exit_none, exit_some, opt_some, d_eVar, d_eMov, d_eInt, d_eStr, d_eBl, d_eNon, d_eGlob, x_q1, x_q2, d_eBin, d_eCmp, d_eIx, chB_b, x_c1, x_c2, x_c4, d_eChain, d_eOne, andB_b, orB_b, d_eAnd, d_eOr, notV_b, d_eNot, x_tupV, x_lstV, d_eTup, d_eLst, x_cbV, d_eCB, retV_ret, retV_ex, retIo_own, retIo_io, x_call0, x_call1, d_eCall, x_isiV, d_eIsi, x_negV, d_eNeg, d_eDicK, d_eDicT, x_sl1, x_sl2, x_sl3, d_eSl, x_o1, d_oNone, d_oSome, x_revV, d_eRevL, x_compV, compFin_ok, d_eComp, d_eCompB, d_ePop, x_valA, d_aVal, d_aRef, d_lNil, x_l1, x_l2, d_lCons, blT_b, d_tE, d_tCmp, d_tChain, d_tW, x_notT, d_tNot, d_wOne, x_andT, x_orT, d_wAnd, d_wOr, d_cNil, d_cOne, itV_l, itV_t, itV_s, d_iIt, d_gNm, d_gTup, x_retS, d_sRet, d_sRetN, x_expS, d_sExp, x_ifS, d_sIf, d_sPass, d_sBrk, d_sCnt, x_asgS, d_sSet, x_tupS, d_sTup, x_appS, d_sApp, x_putS, x_putS2, d_sPut, x_forS, d_sFor, d_sWhile, d_sRaise, hand_nx, hand_rt, hand_ex, d_sTry, d_hNil, d_hCons, hands_nil, hands_cons, noEx_nx, noEx_rt, d_bNil, d_bCons, rho0, fCompB, wipeR, unwipe, sv_no, sv_val, sv_own, AV.ct, slCt, Sl.ct, Sl.od, cts, avVals, x_stOk, pl_no, pl_val, pl_own, slOf, tgAll, k_add, k_sub, k_mul, k_div, k_mod, k_pow, k_eq, k_ne, k_lt, k_le, k_gt, k_ge, k_is, k_isn, k_in, k_nin, isi_non, isi_bl, isi_int, isi_str, isi_lst, isi_tup, isi_dic, add_int, sub_int', lt_int', le_int', gt_int', ge_int', eq_int, ne_int, eq_str, ne_str, is_none, isn_none, is_bool, isn_bool, isNoneD, isBoolD, in_lst, in_tup, nin_lst, nin_tup, in_sgn, nin_sgn, len_lst, len_tup, tup_lst, tup_tup, lst_tup, int_int, x_rg1V, d_iRg1, pow18, ix_t0, ix_t1, ix_t2, ix_t3, ix_l0, sSl, Bf.sem, lk, lkD, deOf, lsAt, reOwn, dcAt, putAt, List.mapIdx_cons, List.mapIdx_nil, List.replicate, List.length_cons, List.length_nil, List.map_cons, List.map_nil, List.cons_append, List.nil_append, List.append_nil, List.set, List.getElem?_cons_zero, List.getElem?_cons_succ, List.getElem?_nil, List.getElem?_map, Option.map_some, Option.map_none, Option.getD_some, Option.getD_none, Option.or_some, Option.none_or, Option.some_or, ↓reduceIte, reduceCtorEq, Option.some.injEq, Nat.zero_add, Nat.reduceAdd, Nat.reduceSub, Nat.reduceLeDiff, Nat.reduceEqDiff, Nat.reduceLT, Nat.sub_self, Nat.add_one_sub_one, Bool.not_true, Bool.not_false, Bool.not_not, Bool.and_true, Bool.true_and, Bool.and_false, Bool.false_and, Bool.or_true, Bool.true_or, Bool.or_false, Bool.false_or, Bool.false_eq_true, Bool.not_eq_true', decide_true, decide_false, decide_eq_true_eq]
theorem sides_of_s (a b : D) (o : Int) : m_sides_of [.tuple [a, b], .int o] = .ret (if o = 1 then .tuple [a, b] else .tuple [b, a]) false .none := by
  by_cases h : o = 1 <;> simp only [m_sides_of, cd_sides_of, yk_sides_of_5, h, bind_ok, bind_ex, fl_ok, fl_ex, seq_nx, seq_rt, seq_bk, seq_ct, seq_ex, x_run, fin_nx, fin_rt, fin_ex, exit_none, exit_some, opt_some, d_eVar, d_eMov, d_eInt, d_eStr, d_eBl, d_eNon, d_eGlob, x_q1, x_q2, d_eBin, d_eCmp, d_eIx, chB_b, x_c1, x_c2, x_c4, d_eChain, d_eOne, andB_b, orB_b, d_eAnd, d_eOr, notV_b, d_eNot, x_tupV, x_lstV, d_eTup, d_eLst, x_cbV, d_eCB, retV_ret, retV_ex, retIo_own, retIo_io, x_call0, x_call1, d_eCall, x_isiV, d_eIsi, x_negV, d_eNeg, d_eDicK, d_eDicT, x_sl1, x_sl2, x_sl3, d_eSl, x_o1, d_oNone, d_oSome, x_revV, d_eRevL, x_compV, compFin_ok, d_eComp, d_eCompB, d_ePop, x_valA, d_aVal, d_aRef, d_lNil, x_l1, x_l2, d_lCons, blT_b, d_tE, d_tCmp, d_tChain, d_tW, x_notT, d_tNot, d_wOne, x_andT, x_orT, d_wAnd, d_wOr, d_cNil, d_cOne, itV_l, itV_t, itV_s, d_iIt, d_gNm, d_gTup, x_retS, d_sRet, d_sRetN, x_expS, d_sExp, x_ifS, d_sIf, d_sPass, d_sBrk, d_sCnt, x_asgS, d_sSet, x_tupS, d_sTup, x_appS, d_sApp, x_putS, x_putS2, d_sPut, x_forS, d_sFor, d_sWhile, d_sRaise, hand_nx, hand_rt, hand_ex, d_sTry, d_hNil, d_hCons, hands_nil, hands_cons, noEx_nx, noEx_rt, d_bNil, d_bCons, rho0, fCompB, wipeR, unwipe, sv_no, sv_val, sv_own, AV.ct, slCt, Sl.ct, Sl.od, cts, avVals, x_stOk, pl_no, pl_val, pl_own, slOf, tgAll, k_add, k_sub, k_mul, k_div, k_mod, k_pow, k_eq, k_ne, k_lt, k_le, k_gt, k_ge, k_is, k_isn, k_in, k_nin, isi_non, isi_bl, isi_int, isi_str, isi_lst, isi_tup, isi_dic, add_int, sub_int', lt_int', le_int', gt_int', ge_int', eq_int, ne_int, eq_str, ne_str, is_none, isn_none, is_bool, isn_bool, isNoneD, isBoolD, in_lst, in_tup, nin_lst, nin_tup, in_sgn, nin_sgn, len_lst, len_tup, tup_lst, tup_tup, lst_tup, int_int, x_rg1V, d_iRg1, pow18, ix_t0, ix_t1, ix_t2, ix_t3, ix_l0, sSl, Bf.sem, lk, lkD, deOf, lsAt, reOwn, dcAt, putAt, List.mapIdx_cons, List.mapIdx_nil, List.replicate, List.length_cons, List.length_nil, List.map_cons, List.map_nil, List.cons_append, List.nil_append, List.append_nil, List.set, List.getElem?_cons_zero, List.getElem?_cons_succ, List.getElem?_nil, List.getElem?_map, Option.map_some, Option.map_none, Option.getD_some, Option.getD_none, Option.or_some, Option.none_or, Option.some_or, ↓reduceIte, reduceCtorEq, Option.some.injEq, Nat.zero_add, Nat.reduceAdd, Nat.reduceSub, Nat.reduceLeDiff, Nat.reduceEqDiff, Nat.reduceLT, Nat.sub_self, Nat.add_one_sub_one, Bool.not_true, Bool.not_false, Bool.not_not, Bool.and_true, Bool.true_and, Bool.and_false, Bool.false_and, Bool.or_true, Bool.true_or, Bool.or_false, Bool.false_or, Bool.false_eq_true, Bool.not_eq_true', decide_true, decide_false, decide_eq_true_eq]
/-! first_missing -/
def firstO (ws vs : List Str) : D := match ws.find? (fun w => !decide (w ∈ vs)) with
  | some w => .str w
  | none => .none
theorem fm_body (a : Sl) (vs : List Str) (w : Str) : den (k := .B) Y_first_missing cd_first_missing_b0 [a, .val (.tuple (vs.map PyData.str)), .val (.str w)] = if w ∈ vs then .nx [a, .val (.tuple (vs.map PyData.str)), .val (.str w)] else .rt (.str w) false [a, .val (.tuple (vs.map PyData.str)), .val (.str w)] := by
  by_cases h : w ∈ vs <;> simp only [cd_first_missing_b0, m_first_missing, cd_first_missing, h, bind_ok, bind_ex, fl_ok, fl_ex, seq_nx, seq_rt, seq_bk, seq_ct, seq_ex, x_run, fin_nx, fin_rt, fin_ex, exit_none, exit_some, opt_some, d_eVar, d_eMov, d_eInt, d_eStr, d_eBl, d_eNon, d_eGlob, x_q1, x_q2, d_eBin, d_eCmp, d_eIx, chB_b, x_c1, x_c2, x_c4, d_eChain, d_eOne, andB_b, orB_b, d_eAnd, d_eOr, notV_b, d_eNot, x_tupV, x_lstV, d_eTup, d_eLst, x_cbV, d_eCB, retV_ret, retV_ex, retIo_own, retIo_io, x_call0, x_call1, d_eCall, x_isiV, d_eIsi, x_negV, d_eNeg, d_eDicK, d_eDicT, x_sl1, x_sl2, x_sl3, d_eSl, x_o1, d_oNone, d_oSome, x_revV, d_eRevL, x_compV, compFin_ok, d_eComp, d_eCompB, d_ePop, x_valA, d_aVal, d_aRef, d_lNil, x_l1, x_l2, d_lCons, blT_b, d_tE, d_tCmp, d_tChain, d_tW, x_notT, d_tNot, d_wOne, x_andT, x_orT, d_wAnd, d_wOr, d_cNil, d_cOne, itV_l, itV_t, itV_s, d_iIt, d_gNm, d_gTup, x_retS, d_sRet, d_sRetN, x_expS, d_sExp, x_ifS, d_sIf, d_sPass, d_sBrk, d_sCnt, x_asgS, d_sSet, x_tupS, d_sTup, x_appS, d_sApp, x_putS, x_putS2, d_sPut, x_forS, d_sFor, d_sWhile, d_sRaise, hand_nx, hand_rt, hand_ex, d_sTry, d_hNil, d_hCons, hands_nil, hands_cons, noEx_nx, noEx_rt, d_bNil, d_bCons, rho0, fCompB, wipeR, unwipe, sv_no, sv_val, sv_own, AV.ct, slCt, Sl.ct, Sl.od, cts, avVals, x_stOk, pl_no, pl_val, pl_own, slOf, tgAll, k_add, k_sub, k_mul, k_div, k_mod, k_pow, k_eq, k_ne, k_lt, k_le, k_gt, k_ge, k_is, k_isn, k_in, k_nin, isi_non, isi_bl, isi_int, isi_str, isi_lst, isi_tup, isi_dic, add_int, sub_int', lt_int', le_int', gt_int', ge_int', eq_int, ne_int, eq_str, ne_str, is_none, isn_none, is_bool, isn_bool, isNoneD, isBoolD, in_lst, in_tup, nin_lst, nin_tup, in_sgn, nin_sgn, len_lst, len_tup, tup_lst, tup_tup, lst_tup, int_int, x_rg1V, d_iRg1, pow18, ix_t0, ix_t1, ix_t2, ix_t3, ix_l0, sSl, Bf.sem, lk, lkD, deOf, lsAt, reOwn, dcAt, putAt, List.mapIdx_cons, List.mapIdx_nil, List.replicate, List.length_cons, List.length_nil, List.map_cons, List.map_nil, List.cons_append, List.nil_append, List.append_nil, List.set, List.getElem?_cons_zero, List.getElem?_cons_succ, List.getElem?_nil, List.getElem?_map, Option.map_some, Option.map_none, Option.getD_some, Option.getD_none, Option.or_some, Option.none_or, Option.some_or, ↓reduceIte, reduceCtorEq, Option.some.injEq, Nat.zero_add, Nat.reduceAdd, Nat.reduceSub, Nat.reduceLeDiff, Nat.reduceEqDiff, Nat.reduceLT, Nat.sub_self, Nat.add_one_sub_one, Bool.not_true, Bool.not_false, Bool.not_not, Bool.and_true, Bool.true_and, Bool.and_false, Bool.false_and, Bool.or_true, Bool.true_or, Bool.or_false, Bool.false_or, Bool.false_eq_true, Bool.not_eq_true', decide_true, decide_false, decide_eq_true_eq]
def inV (vs : List Str) (d : D) : Bool := match d with
  | .str w => decide (w ∈ vs)
  | _ => false
theorem first_missing_s (ws vs : List Str) : m_first_missing [.tuple (ws.map PyData.str), .tuple (vs.map PyData.str)] = .ret (firstO ws vs) false .none := by
  have e9 : den Y_first_missing (.gNm 2) = tgName 2 := rfl
  obtain ⟨s', _, h2⟩ := for_find (ρ := [.val (.tuple (ws.map PyData.str)), .val (.tuple (vs.map PyData.str)), .no]) (i := 2) (body := den (k := .B) Y_first_missing cd_first_missing_b0) (p := inV vs) (r := fun d => d) (t := false) (ws.map PyData.str) .no rfl (by
    intro d hd
    obtain ⟨w, hw, rfl⟩ := List.mem_map.mp hd
    have := fm_body (.val (.tuple (ws.map PyData.str))) vs w
    simpa [inV] using this)
  have h2' : forLoop (tgName 2) (den (k := .B) Y_first_missing cd_first_missing_b0) (ws.map PyData.str) [.val (.tuple (ws.map PyData.str)), .val (.tuple (vs.map PyData.str)), .no] = _ := h2
  have e3 : (ws.map PyData.str).find? (fun d => !inV vs d) = (ws.find? (fun w => !decide (w ∈ vs))).map PyData.str := by
    rw [List.find?_map]; rfl
  rw [e3] at h2'
  unfold firstO
  cases e : ws.find? (fun w => !decide (w ∈ vs)) with
  | none =>
    rw [e] at h2'
    simp only [m_first_missing, cd_first_missing, e9, h2', bind_ok, bind_ex, fl_ok, fl_ex, seq_nx, seq_rt, seq_bk, seq_ct, seq_ex, x_run, fin_nx, fin_rt, fin_ex, exit_none, exit_some, opt_some, d_eVar, d_eMov, d_eInt, d_eStr, d_eBl, d_eNon, d_eGlob, x_q1, x_q2, d_eBin, d_eCmp, d_eIx, chB_b, x_c1, x_c2, x_c4, d_eChain, d_eOne, andB_b, orB_b, d_eAnd, d_eOr, notV_b, d_eNot, x_tupV, x_lstV, d_eTup, d_eLst, x_cbV, d_eCB, retV_ret, retV_ex, retIo_own, retIo_io, x_call0, x_call1, d_eCall, x_isiV, d_eIsi, x_negV, d_eNeg, d_eDicK, d_eDicT, x_sl1, x_sl2, x_sl3, d_eSl, x_o1, d_oNone, d_oSome, x_revV, d_eRevL, x_compV, compFin_ok, d_eComp, d_eCompB, d_ePop, x_valA, d_aVal, d_aRef, d_lNil, x_l1, x_l2, d_lCons, blT_b, d_tE, d_tCmp, d_tChain, d_tW, x_notT, d_tNot, d_wOne, x_andT, x_orT, d_wAnd, d_wOr, d_cNil, d_cOne, itV_l, itV_t, itV_s, d_iIt, d_gNm, d_gTup, x_retS, d_sRet, d_sRetN, x_expS, d_sExp, x_ifS, d_sIf, d_sPass, d_sBrk, d_sCnt, x_asgS, d_sSet, x_tupS, d_sTup, x_appS, d_sApp, x_putS, x_putS2, d_sPut, x_forS, d_sFor, d_sWhile, d_sRaise, hand_nx, hand_rt, hand_ex, d_sTry, d_hNil, d_hCons, hands_nil, hands_cons, noEx_nx, noEx_rt, d_bNil, d_bCons, rho0, fCompB, wipeR, unwipe, sv_no, sv_val, sv_own, AV.ct, slCt, Sl.ct, Sl.od, cts, avVals, x_stOk, pl_no, pl_val, pl_own, slOf, tgAll, k_add, k_sub, k_mul, k_div, k_mod, k_pow, k_eq, k_ne, k_lt, k_le, k_gt, k_ge, k_is, k_isn, k_in, k_nin, isi_non, isi_bl, isi_int, isi_str, isi_lst, isi_tup, isi_dic, add_int, sub_int', lt_int', le_int', gt_int', ge_int', eq_int, ne_int, eq_str, ne_str, is_none, isn_none, is_bool, isn_bool, isNoneD, isBoolD, in_lst, in_tup, nin_lst, nin_tup, in_sgn, nin_sgn, len_lst, len_tup, tup_lst, tup_tup, lst_tup, int_int, x_rg1V, d_iRg1, pow18, ix_t0, ix_t1, ix_t2, ix_t3, ix_l0, sSl, Bf.sem, lk, lkD, deOf, lsAt, reOwn, dcAt, putAt, List.mapIdx_cons, List.mapIdx_nil, List.replicate, List.length_cons, List.length_nil, List.map_cons, List.map_nil, List.cons_append, List.nil_append, List.append_nil, List.set, List.getElem?_cons_zero, List.getElem?_cons_succ, List.getElem?_nil, List.getElem?_map, Option.map_some, Option.map_none, Option.getD_some, Option.getD_none, Option.or_some, Option.none_or, Option.some_or, ↓reduceIte, reduceCtorEq, Option.some.injEq, Nat.zero_add, Nat.reduceAdd, Nat.reduceSub, Nat.reduceLeDiff, Nat.reduceEqDiff, Nat.reduceLT, Nat.sub_self, Nat.add_one_sub_one, Bool.not_true, Bool.not_false, Bool.not_not, Bool.and_true, Bool.true_and, Bool.and_false, Bool.false_and, Bool.or_true, Bool.true_or, Bool.or_false, Bool.false_or, Bool.false_eq_true, Bool.not_eq_true', decide_true, decide_false, decide_eq_true_eq]
  | some w =>
    rw [e] at h2'
    simp only [m_first_missing, cd_first_missing, e9, h2', bind_ok, bind_ex, fl_ok, fl_ex, seq_nx, seq_rt, seq_bk, seq_ct, seq_ex, x_run, fin_nx, fin_rt, fin_ex, exit_none, exit_some, opt_some, d_eVar, d_eMov, d_eInt, d_eStr, d_eBl, d_eNon, d_eGlob, x_q1, x_q2, d_eBin, d_eCmp, d_eIx, chB_b, x_c1, x_c2, x_c4, d_eChain, d_eOne, andB_b, orB_b, d_eAnd, d_eOr, notV_b, d_eNot, x_tupV, x_lstV, d_eTup, d_eLst, x_cbV, d_eCB, retV_ret, retV_ex, retIo_own, retIo_io, x_call0, x_call1, d_eCall, x_isiV, d_eIsi, x_negV, d_eNeg, d_eDicK, d_eDicT, x_sl1, x_sl2, x_sl3, d_eSl, x_o1, d_oNone, d_oSome, x_revV, d_eRevL, x_compV, compFin_ok, d_eComp, d_eCompB, d_ePop, x_valA, d_aVal, d_aRef, d_lNil, x_l1, x_l2, d_lCons, blT_b, d_tE, d_tCmp, d_tChain, d_tW, x_notT, d_tNot, d_wOne, x_andT, x_orT, d_wAnd, d_wOr, d_cNil, d_cOne, itV_l, itV_t, itV_s, d_iIt, d_gNm, d_gTup, x_retS, d_sRet, d_sRetN, x_expS, d_sExp, x_ifS, d_sIf, d_sPass, d_sBrk, d_sCnt, x_asgS, d_sSet, x_tupS, d_sTup, x_appS, d_sApp, x_putS, x_putS2, d_sPut, x_forS, d_sFor, d_sWhile, d_sRaise, hand_nx, hand_rt, hand_ex, d_sTry, d_hNil, d_hCons, hands_nil, hands_cons, noEx_nx, noEx_rt, d_bNil, d_bCons, rho0, fCompB, wipeR, unwipe, sv_no, sv_val, sv_own, AV.ct, slCt, Sl.ct, Sl.od, cts, avVals, x_stOk, pl_no, pl_val, pl_own, slOf, tgAll, k_add, k_sub, k_mul, k_div, k_mod, k_pow, k_eq, k_ne, k_lt, k_le, k_gt, k_ge, k_is, k_isn, k_in, k_nin, isi_non, isi_bl, isi_int, isi_str, isi_lst, isi_tup, isi_dic, add_int, sub_int', lt_int', le_int', gt_int', ge_int', eq_int, ne_int, eq_str, ne_str, is_none, isn_none, is_bool, isn_bool, isNoneD, isBoolD, in_lst, in_tup, nin_lst, nin_tup, in_sgn, nin_sgn, len_lst, len_tup, tup_lst, tup_tup, lst_tup, int_int, x_rg1V, d_iRg1, pow18, ix_t0, ix_t1, ix_t2, ix_t3, ix_l0, sSl, Bf.sem, lk, lkD, deOf, lsAt, reOwn, dcAt, putAt, List.mapIdx_cons, List.mapIdx_nil, List.replicate, List.length_cons, List.length_nil, List.map_cons, List.map_nil, List.cons_append, List.nil_append, List.append_nil, List.set, List.getElem?_cons_zero, List.getElem?_cons_succ, List.getElem?_nil, List.getElem?_map, Option.map_some, Option.map_none, Option.getD_some, Option.getD_none, Option.or_some, Option.none_or, Option.some_or, ↓reduceIte, reduceCtorEq, Option.some.injEq, Nat.zero_add, Nat.reduceAdd, Nat.reduceSub, Nat.reduceLeDiff, Nat.reduceEqDiff, Nat.reduceLT, Nat.sub_self, Nat.add_one_sub_one, Bool.not_true, Bool.not_false, Bool.not_not, Bool.and_true, Bool.true_and, Bool.and_false, Bool.false_and, Bool.or_true, Bool.true_or, Bool.or_false, Bool.false_or, Bool.false_eq_true, Bool.not_eq_true', decide_true, decide_false, decide_eq_true_eq]
/-! find_difference -/
def swp {α : Type} (o : Int) (a b : α) : α × α := if o = 1 then (a, b) else (b, a)
/-- what the program finds -/
def diffO (n : Str) (p c : List Str) (o : Int) (p' c' : List Str) : D := match firstO (swp o p c).1 (swp o p' c').1 with
  | .str w => .tuple [.str n, .str "lacks", .str w]
  | _ => match firstO (swp o p' c').2 (swp o p c).2 with
    | .str w => .tuple [.str n, .str "more", .str w]
    | _ => .none
theorem firstO_is (ws vs : List Str) : firstO ws vs = .none ∨ ∃ w, firstO ws vs = .str w := by
  unfold firstO
  cases ws.find? (fun w => !decide (w ∈ vs)) with
  | none => exact .inl rfl
  | some w => exact .inr ⟨w, rfl⟩
theorem find_difference_s (n : Str) (p c : List Str) (o : Int) (p' c' : List Str) : m_find_difference [.tuple [.str n, .tuple (p.map PyData.str), .tuple (c.map PyData.str), .int o], .tuple [.tuple (p'.map PyData.str), .tuple (c'.map PyData.str)]] = .ret (diffO n p c o p' c') false .none := by
  unfold diffO swp
  by_cases ho : o = 1
  · simp only [ho, bind_ok, bind_ex, fl_ok, fl_ex, seq_nx, seq_rt, seq_bk, seq_ct, seq_ex, x_run, fin_nx, fin_rt, fin_ex, exit_none, exit_some, opt_some, d_eVar, d_eMov, d_eInt, d_eStr, d_eBl, d_eNon, d_eGlob, x_q1, x_q2, d_eBin, d_eCmp, d_eIx, chB_b, x_c1, x_c2, x_c4, d_eChain, d_eOne, andB_b, orB_b, d_eAnd, d_eOr, notV_b, d_eNot, x_tupV, x_lstV, d_eTup, d_eLst, x_cbV, d_eCB, retV_ret, retV_ex, retIo_own, retIo_io, x_call0, x_call1, d_eCall, x_isiV, d_eIsi, x_negV, d_eNeg, d_eDicK, d_eDicT, x_sl1, x_sl2, x_sl3, d_eSl, x_o1, d_oNone, d_oSome, x_revV, d_eRevL, x_compV, compFin_ok, d_eComp, d_eCompB, d_ePop, x_valA, d_aVal, d_aRef, d_lNil, x_l1, x_l2, d_lCons, blT_b, d_tE, d_tCmp, d_tChain, d_tW, x_notT, d_tNot, d_wOne, x_andT, x_orT, d_wAnd, d_wOr, d_cNil, d_cOne, itV_l, itV_t, itV_s, d_iIt, d_gNm, d_gTup, x_retS, d_sRet, d_sRetN, x_expS, d_sExp, x_ifS, d_sIf, d_sPass, d_sBrk, d_sCnt, x_asgS, d_sSet, x_tupS, d_sTup, x_appS, d_sApp, x_putS, x_putS2, d_sPut, x_forS, d_sFor, d_sWhile, d_sRaise, hand_nx, hand_rt, hand_ex, d_sTry, d_hNil, d_hCons, hands_nil, hands_cons, noEx_nx, noEx_rt, d_bNil, d_bCons, rho0, fCompB, wipeR, unwipe, sv_no, sv_val, sv_own, AV.ct, slCt, Sl.ct, Sl.od, cts, avVals, x_stOk, pl_no, pl_val, pl_own, slOf, tgAll, k_add, k_sub, k_mul, k_div, k_mod, k_pow, k_eq, k_ne, k_lt, k_le, k_gt, k_ge, k_is, k_isn, k_in, k_nin, isi_non, isi_bl, isi_int, isi_str, isi_lst, isi_tup, isi_dic, add_int, sub_int', lt_int', le_int', gt_int', ge_int', eq_int, ne_int, eq_str, ne_str, is_none, isn_none, is_bool, isn_bool, isNoneD, isBoolD, in_lst, in_tup, nin_lst, nin_tup, in_sgn, nin_sgn, len_lst, len_tup, tup_lst, tup_tup, lst_tup, int_int, x_rg1V, d_iRg1, pow18, ix_t0, ix_t1, ix_t2, ix_t3, ix_l0, sSl, Bf.sem, lk, lkD, deOf, lsAt, reOwn, dcAt, putAt, List.mapIdx_cons, List.mapIdx_nil, List.replicate, List.length_cons, List.length_nil, List.map_cons, List.map_nil, List.cons_append, List.nil_append, List.append_nil, List.set, List.getElem?_cons_zero, List.getElem?_cons_succ, List.getElem?_nil, List.getElem?_map, Option.map_some, Option.map_none, Option.getD_some, Option.getD_none, Option.or_some, Option.none_or, Option.some_or, ↓reduceIte, reduceCtorEq, Option.some.injEq, Nat.zero_add, Nat.reduceAdd, Nat.reduceSub, Nat.reduceLeDiff, Nat.reduceEqDiff, Nat.reduceLT, Nat.sub_self, Nat.add_one_sub_one, Bool.not_true, Bool.not_false, Bool.not_not, Bool.and_true, Bool.true_and, Bool.and_false, Bool.false_and, Bool.or_true, Bool.true_or, Bool.or_false, Bool.false_or, Bool.false_eq_true, Bool.not_eq_true', decide_true, decide_false, decide_eq_true_eq]
    rcases firstO_is p p' with e1 | ⟨w, e1⟩
    · rcases firstO_is c' c with e2 | ⟨w, e2⟩
      · simp only [m_find_difference, cd_find_difference, ys_find_difference_0, ys_find_difference_1, ys_find_difference_2, case_of_s, sides_of_s, first_missing_s, e1, e2, bind_ok, bind_ex, fl_ok, fl_ex, seq_nx, seq_rt, seq_bk, seq_ct, seq_ex, x_run, fin_nx, fin_rt, fin_ex, exit_none, exit_some, opt_some, d_eVar, d_eMov, d_eInt, d_eStr, d_eBl, d_eNon, d_eGlob, x_q1, x_q2, d_eBin, d_eCmp, d_eIx, chB_b, x_c1, x_c2, x_c4, d_eChain, d_eOne, andB_b, orB_b, d_eAnd, d_eOr, notV_b, d_eNot, x_tupV, x_lstV, d_eTup, d_eLst, x_cbV, d_eCB, retV_ret, retV_ex, retIo_own, retIo_io, x_call0, x_call1, d_eCall, x_isiV, d_eIsi, x_negV, d_eNeg, d_eDicK, d_eDicT, x_sl1, x_sl2, x_sl3, d_eSl, x_o1, d_oNone, d_oSome, x_revV, d_eRevL, x_compV, compFin_ok, d_eComp, d_eCompB, d_ePop, x_valA, d_aVal, d_aRef, d_lNil, x_l1, x_l2, d_lCons, blT_b, d_tE, d_tCmp, d_tChain, d_tW, x_notT, d_tNot, d_wOne, x_andT, x_orT, d_wAnd, d_wOr, d_cNil, d_cOne, itV_l, itV_t, itV_s, d_iIt, d_gNm, d_gTup, x_retS, d_sRet, d_sRetN, x_expS, d_sExp, x_ifS, d_sIf, d_sPass, d_sBrk, d_sCnt, x_asgS, d_sSet, x_tupS, d_sTup, x_appS, d_sApp, x_putS, x_putS2, d_sPut, x_forS, d_sFor, d_sWhile, d_sRaise, hand_nx, hand_rt, hand_ex, d_sTry, d_hNil, d_hCons, hands_nil, hands_cons, noEx_nx, noEx_rt, d_bNil, d_bCons, rho0, fCompB, wipeR, unwipe, sv_no, sv_val, sv_own, AV.ct, slCt, Sl.ct, Sl.od, cts, avVals, x_stOk, pl_no, pl_val, pl_own, slOf, tgAll, k_add, k_sub, k_mul, k_div, k_mod, k_pow, k_eq, k_ne, k_lt, k_le, k_gt, k_ge, k_is, k_isn, k_in, k_nin, isi_non, isi_bl, isi_int, isi_str, isi_lst, isi_tup, isi_dic, add_int, sub_int', lt_int', le_int', gt_int', ge_int', eq_int, ne_int, eq_str, ne_str, is_none, isn_none, is_bool, isn_bool, isNoneD, isBoolD, in_lst, in_tup, nin_lst, nin_tup, in_sgn, nin_sgn, len_lst, len_tup, tup_lst, tup_tup, lst_tup, int_int, x_rg1V, d_iRg1, pow18, ix_t0, ix_t1, ix_t2, ix_t3, ix_l0, sSl, Bf.sem, lk, lkD, deOf, lsAt, reOwn, dcAt, putAt, List.mapIdx_cons, List.mapIdx_nil, List.replicate, List.length_cons, List.length_nil, List.map_cons, List.map_nil, List.cons_append, List.nil_append, List.append_nil, List.set, List.getElem?_cons_zero, List.getElem?_cons_succ, List.getElem?_nil, List.getElem?_map, Option.map_some, Option.map_none, Option.getD_some, Option.getD_none, Option.or_some, Option.none_or, Option.some_or, ↓reduceIte, reduceCtorEq, Option.some.injEq, Nat.zero_add, Nat.reduceAdd, Nat.reduceSub, Nat.reduceLeDiff, Nat.reduceEqDiff, Nat.reduceLT, Nat.sub_self, Nat.add_one_sub_one, Bool.not_true, Bool.not_false, Bool.not_not, Bool.and_true, Bool.true_and, Bool.and_false, Bool.false_and, Bool.or_true, Bool.true_or, Bool.or_false, Bool.false_or, Bool.false_eq_true, Bool.not_eq_true', decide_true, decide_false, decide_eq_true_eq]
      · simp only [m_find_difference, cd_find_difference, ys_find_difference_0, ys_find_difference_1, ys_find_difference_2, case_of_s, sides_of_s, first_missing_s, e1, e2, bind_ok, bind_ex, fl_ok, fl_ex, seq_nx, seq_rt, seq_bk, seq_ct, seq_ex, x_run, fin_nx, fin_rt, fin_ex, exit_none, exit_some, opt_some, d_eVar, d_eMov, d_eInt, d_eStr, d_eBl, d_eNon, d_eGlob, x_q1, x_q2, d_eBin, d_eCmp, d_eIx, chB_b, x_c1, x_c2, x_c4, d_eChain, d_eOne, andB_b, orB_b, d_eAnd, d_eOr, notV_b, d_eNot, x_tupV, x_lstV, d_eTup, d_eLst, x_cbV, d_eCB, retV_ret, retV_ex, retIo_own, retIo_io, x_call0, x_call1, d_eCall, x_isiV, d_eIsi, x_negV, d_eNeg, d_eDicK, d_eDicT, x_sl1, x_sl2, x_sl3, d_eSl, x_o1, d_oNone, d_oSome, x_revV, d_eRevL, x_compV, compFin_ok, d_eComp, d_eCompB, d_ePop, x_valA, d_aVal, d_aRef, d_lNil, x_l1, x_l2, d_lCons, blT_b, d_tE, d_tCmp, d_tChain, d_tW, x_notT, d_tNot, d_wOne, x_andT, x_orT, d_wAnd, d_wOr, d_cNil, d_cOne, itV_l, itV_t, itV_s, d_iIt, d_gNm, d_gTup, x_retS, d_sRet, d_sRetN, x_expS, d_sExp, x_ifS, d_sIf, d_sPass, d_sBrk, d_sCnt, x_asgS, d_sSet, x_tupS, d_sTup, x_appS, d_sApp, x_putS, x_putS2, d_sPut, x_forS, d_sFor, d_sWhile, d_sRaise, hand_nx, hand_rt, hand_ex, d_sTry, d_hNil, d_hCons, hands_nil, hands_cons, noEx_nx, noEx_rt, d_bNil, d_bCons, rho0, fCompB, wipeR, unwipe, sv_no, sv_val, sv_own, AV.ct, slCt, Sl.ct, Sl.od, cts, avVals, x_stOk, pl_no, pl_val, pl_own, slOf, tgAll, k_add, k_sub, k_mul, k_div, k_mod, k_pow, k_eq, k_ne, k_lt, k_le, k_gt, k_ge, k_is, k_isn, k_in, k_nin, isi_non, isi_bl, isi_int, isi_str, isi_lst, isi_tup, isi_dic, add_int, sub_int', lt_int', le_int', gt_int', ge_int', eq_int, ne_int, eq_str, ne_str, is_none, isn_none, is_bool, isn_bool, isNoneD, isBoolD, in_lst, in_tup, nin_lst, nin_tup, in_sgn, nin_sgn, len_lst, len_tup, tup_lst, tup_tup, lst_tup, int_int, x_rg1V, d_iRg1, pow18, ix_t0, ix_t1, ix_t2, ix_t3, ix_l0, sSl, Bf.sem, lk, lkD, deOf, lsAt, reOwn, dcAt, putAt, List.mapIdx_cons, List.mapIdx_nil, List.replicate, List.length_cons, List.length_nil, List.map_cons, List.map_nil, List.cons_append, List.nil_append, List.append_nil, List.set, List.getElem?_cons_zero, List.getElem?_cons_succ, List.getElem?_nil, List.getElem?_map, Option.map_some, Option.map_none, Option.getD_some, Option.getD_none, Option.or_some, Option.none_or, Option.some_or, ↓reduceIte, reduceCtorEq, Option.some.injEq, Nat.zero_add, Nat.reduceAdd, Nat.reduceSub, Nat.reduceLeDiff, Nat.reduceEqDiff, Nat.reduceLT, Nat.sub_self, Nat.add_one_sub_one, Bool.not_true, Bool.not_false, Bool.not_not, Bool.and_true, Bool.true_and, Bool.and_false, Bool.false_and, Bool.or_true, Bool.true_or, Bool.or_false, Bool.false_or, Bool.false_eq_true, Bool.not_eq_true', decide_true, decide_false, decide_eq_true_eq]
    · simp only [m_find_difference, cd_find_difference, ys_find_difference_0, ys_find_difference_1, ys_find_difference_2, case_of_s, sides_of_s, first_missing_s, e1, bind_ok, bind_ex, fl_ok, fl_ex, seq_nx, seq_rt, seq_bk, seq_ct, seq_ex, x_run, fin_nx, fin_rt, fin_ex, exit_none, exit_some, opt_some, d_eVar, d_eMov, d_eInt, d_eStr, d_eBl, d_eNon, d_eGlob, x_q1, x_q2, d_eBin, d_eCmp, d_eIx, chB_b, x_c1, x_c2, x_c4, d_eChain, d_eOne, andB_b, orB_b, d_eAnd, d_eOr, notV_b, d_eNot, x_tupV, x_lstV, d_eTup, d_eLst, x_cbV, d_eCB, retV_ret, retV_ex, retIo_own, retIo_io, x_call0, x_call1, d_eCall, x_isiV, d_eIsi, x_negV, d_eNeg, d_eDicK, d_eDicT, x_sl1, x_sl2, x_sl3, d_eSl, x_o1, d_oNone, d_oSome, x_revV, d_eRevL, x_compV, compFin_ok, d_eComp, d_eCompB, d_ePop, x_valA, d_aVal, d_aRef, d_lNil, x_l1, x_l2, d_lCons, blT_b, d_tE, d_tCmp, d_tChain, d_tW, x_notT, d_tNot, d_wOne, x_andT, x_orT, d_wAnd, d_wOr, d_cNil, d_cOne, itV_l, itV_t, itV_s, d_iIt, d_gNm, d_gTup, x_retS, d_sRet, d_sRetN, x_expS, d_sExp, x_ifS, d_sIf, d_sPass, d_sBrk, d_sCnt, x_asgS, d_sSet, x_tupS, d_sTup, x_appS, d_sApp, x_putS, x_putS2, d_sPut, x_forS, d_sFor, d_sWhile, d_sRaise, hand_nx, hand_rt, hand_ex, d_sTry, d_hNil, d_hCons, hands_nil, hands_cons, noEx_nx, noEx_rt, d_bNil, d_bCons, rho0, fCompB, wipeR, unwipe, sv_no, sv_val, sv_own, AV.ct, slCt, Sl.ct, Sl.od, cts, avVals, x_stOk, pl_no, pl_val, pl_own, slOf, tgAll, k_add, k_sub, k_mul, k_div, k_mod, k_pow, k_eq, k_ne, k_lt, k_le, k_gt, k_ge, k_is, k_isn, k_in, k_nin, isi_non, isi_bl, isi_int, isi_str, isi_lst, isi_tup, isi_dic, add_int, sub_int', lt_int', le_int', gt_int', ge_int', eq_int, ne_int, eq_str, ne_str, is_none, isn_none, is_bool, isn_bool, isNoneD, isBoolD, in_lst, in_tup, nin_lst, nin_tup, in_sgn, nin_sgn, len_lst, len_tup, tup_lst, tup_tup, lst_tup, int_int, x_rg1V, d_iRg1, pow18, ix_t0, ix_t1, ix_t2, ix_t3, ix_l0, sSl, Bf.sem, lk, lkD, deOf, lsAt, reOwn, dcAt, putAt, List.mapIdx_cons, List.mapIdx_nil, List.replicate, List.length_cons, List.length_nil, List.map_cons, List.map_nil, List.cons_append, List.nil_append, List.append_nil, List.set, List.getElem?_cons_zero, List.getElem?_cons_succ, List.getElem?_nil, List.getElem?_map, Option.map_some, Option.map_none, Option.getD_some, Option.getD_none, Option.or_some, Option.none_or, Option.some_or, ↓reduceIte, reduceCtorEq, Option.some.injEq, Nat.zero_add, Nat.reduceAdd, Nat.reduceSub, Nat.reduceLeDiff, Nat.reduceEqDiff, Nat.reduceLT, Nat.sub_self, Nat.add_one_sub_one, Bool.not_true, Bool.not_false, Bool.not_not, Bool.and_true, Bool.true_and, Bool.and_false, Bool.false_and, Bool.or_true, Bool.true_or, Bool.or_false, Bool.false_or, Bool.false_eq_true, Bool.not_eq_true', decide_true, decide_false, decide_eq_true_eq]
  · simp only [ho, bind_ok, bind_ex, fl_ok, fl_ex, seq_nx, seq_rt, seq_bk, seq_ct, seq_ex, x_run, fin_nx, fin_rt, fin_ex, exit_none, exit_some, opt_some, d_eVar, d_eMov, d_eInt, d_eStr, d_eBl, d_eNon, d_eGlob, x_q1, x_q2, d_eBin, d_eCmp, d_eIx, chB_b, x_c1, x_c2, x_c4, d_eChain, d_eOne, andB_b, orB_b, d_eAnd, d_eOr, notV_b, d_eNot, x_tupV, x_lstV, d_eTup, d_eLst, x_cbV, d_eCB, retV_ret, retV_ex, retIo_own, retIo_io, x_call0, x_call1, d_eCall, x_isiV, d_eIsi, x_negV, d_eNeg, d_eDicK, d_eDicT, x_sl1, x_sl2, x_sl3, d_eSl, x_o1, d_oNone, d_oSome, x_revV, d_eRevL, x_compV, compFin_ok, d_eComp, d_eCompB, d_ePop, x_valA, d_aVal, d_aRef, d_lNil, x_l1, x_l2, d_lCons, blT_b, d_tE, d_tCmp, d_tChain, d_tW, x_notT, d_tNot, d_wOne, x_andT, x_orT, d_wAnd, d_wOr, d_cNil, d_cOne, itV_l, itV_t, itV_s, d_iIt, d_gNm, d_gTup, x_retS, d_sRet, d_sRetN, x_expS, d_sExp, x_ifS, d_sIf, d_sPass, d_sBrk, d_sCnt, x_asgS, d_sSet, x_tupS, d_sTup, x_appS, d_sApp, x_putS, x_putS2, d_sPut, x_forS, d_sFor, d_sWhile, d_sRaise, hand_nx, hand_rt, hand_ex, d_sTry, d_hNil, d_hCons, hands_nil, hands_cons, noEx_nx, noEx_rt, d_bNil, d_bCons, rho0, fCompB, wipeR, unwipe, sv_no, sv_val, sv_own, AV.ct, slCt, Sl.ct, Sl.od, cts, avVals, x_stOk, pl_no, pl_val, pl_own, slOf, tgAll, k_add, k_sub, k_mul, k_div, k_mod, k_pow, k_eq, k_ne, k_lt, k_le, k_gt, k_ge, k_is, k_isn, k_in, k_nin, isi_non, isi_bl, isi_int, isi_str, isi_lst, isi_tup, isi_dic, add_int, sub_int', lt_int', le_int', gt_int', ge_int', eq_int, ne_int, eq_str, ne_str, is_none, isn_none, is_bool, isn_bool, isNoneD, isBoolD, in_lst, in_tup, nin_lst, nin_tup, in_sgn, nin_sgn, len_lst, len_tup, tup_lst, tup_tup, lst_tup, int_int, x_rg1V, d_iRg1, pow18, ix_t0, ix_t1, ix_t2, ix_t3, ix_l0, sSl, Bf.sem, lk, lkD, deOf, lsAt, reOwn, dcAt, putAt, List.mapIdx_cons, List.mapIdx_nil, List.replicate, List.length_cons, List.length_nil, List.map_cons, List.map_nil, List.cons_append, List.nil_append, List.append_nil, List.set, List.getElem?_cons_zero, List.getElem?_cons_succ, List.getElem?_nil, List.getElem?_map, Option.map_some, Option.map_none, Option.getD_some, Option.getD_none, Option.or_some, Option.none_or, Option.some_or, ↓reduceIte, reduceCtorEq, Option.some.injEq, Nat.zero_add, Nat.reduceAdd, Nat.reduceSub, Nat.reduceLeDiff, Nat.reduceEqDiff, Nat.reduceLT, Nat.sub_self, Nat.add_one_sub_one, Bool.not_true, Bool.not_false, Bool.not_not, Bool.and_true, Bool.true_and, Bool.and_false, Bool.false_and, Bool.or_true, Bool.true_or, Bool.or_false, Bool.false_or, Bool.false_eq_true, Bool.not_eq_true', decide_true, decide_false, decide_eq_true_eq]
    rcases firstO_is c c' with e1 | ⟨w, e1⟩
    · rcases firstO_is p' p with e2 | ⟨w, e2⟩
      · simp only [m_find_difference, cd_find_difference, ys_find_difference_0, ys_find_difference_1, ys_find_difference_2, case_of_s, sides_of_s, first_missing_s, e1, e2, ho, bind_ok, bind_ex, fl_ok, fl_ex, seq_nx, seq_rt, seq_bk, seq_ct, seq_ex, x_run, fin_nx, fin_rt, fin_ex, exit_none, exit_some, opt_some, d_eVar, d_eMov, d_eInt, d_eStr, d_eBl, d_eNon, d_eGlob, x_q1, x_q2, d_eBin, d_eCmp, d_eIx, chB_b, x_c1, x_c2, x_c4, d_eChain, d_eOne, andB_b, orB_b, d_eAnd, d_eOr, notV_b, d_eNot, x_tupV, x_lstV, d_eTup, d_eLst, x_cbV, d_eCB, retV_ret, retV_ex, retIo_own, retIo_io, x_call0, x_call1, d_eCall, x_isiV, d_eIsi, x_negV, d_eNeg, d_eDicK, d_eDicT, x_sl1, x_sl2, x_sl3, d_eSl, x_o1, d_oNone, d_oSome, x_revV, d_eRevL, x_compV, compFin_ok, d_eComp, d_eCompB, d_ePop, x_valA, d_aVal, d_aRef, d_lNil, x_l1, x_l2, d_lCons, blT_b, d_tE, d_tCmp, d_tChain, d_tW, x_notT, d_tNot, d_wOne, x_andT, x_orT, d_wAnd, d_wOr, d_cNil, d_cOne, itV_l, itV_t, itV_s, d_iIt, d_gNm, d_gTup, x_retS, d_sRet, d_sRetN, x_expS, d_sExp, x_ifS, d_sIf, d_sPass, d_sBrk, d_sCnt, x_asgS, d_sSet, x_tupS, d_sTup, x_appS, d_sApp, x_putS, x_putS2, d_sPut, x_forS, d_sFor, d_sWhile, d_sRaise, hand_nx, hand_rt, hand_ex, d_sTry, d_hNil, d_hCons, hands_nil, hands_cons, noEx_nx, noEx_rt, d_bNil, d_bCons, rho0, fCompB, wipeR, unwipe, sv_no, sv_val, sv_own, AV.ct, slCt, Sl.ct, Sl.od, cts, avVals, x_stOk, pl_no, pl_val, pl_own, slOf, tgAll, k_add, k_sub, k_mul, k_div, k_mod, k_pow, k_eq, k_ne, k_lt, k_le, k_gt, k_ge, k_is, k_isn, k_in, k_nin, isi_non, isi_bl, isi_int, isi_str, isi_lst, isi_tup, isi_dic, add_int, sub_int', lt_int', le_int', gt_int', ge_int', eq_int, ne_int, eq_str, ne_str, is_none, isn_none, is_bool, isn_bool, isNoneD, isBoolD, in_lst, in_tup, nin_lst, nin_tup, in_sgn, nin_sgn, len_lst, len_tup, tup_lst, tup_tup, lst_tup, int_int, x_rg1V, d_iRg1, pow18, ix_t0, ix_t1, ix_t2, ix_t3, ix_l0, sSl, Bf.sem, lk, lkD, deOf, lsAt, reOwn, dcAt, putAt, List.mapIdx_cons, List.mapIdx_nil, List.replicate, List.length_cons, List.length_nil, List.map_cons, List.map_nil, List.cons_append, List.nil_append, List.append_nil, List.set, List.getElem?_cons_zero, List.getElem?_cons_succ, List.getElem?_nil, List.getElem?_map, Option.map_some, Option.map_none, Option.getD_some, Option.getD_none, Option.or_some, Option.none_or, Option.some_or, ↓reduceIte, reduceCtorEq, Option.some.injEq, Nat.zero_add, Nat.reduceAdd, Nat.reduceSub, Nat.reduceLeDiff, Nat.reduceEqDiff, Nat.reduceLT, Nat.sub_self, Nat.add_one_sub_one, Bool.not_true, Bool.not_false, Bool.not_not, Bool.and_true, Bool.true_and, Bool.and_false, Bool.false_and, Bool.or_true, Bool.true_or, Bool.or_false, Bool.false_or, Bool.false_eq_true, Bool.not_eq_true', decide_true, decide_false, decide_eq_true_eq]
      · simp only [m_find_difference, cd_find_difference, ys_find_difference_0, ys_find_difference_1, ys_find_difference_2, case_of_s, sides_of_s, first_missing_s, e1, e2, ho, bind_ok, bind_ex, fl_ok, fl_ex, seq_nx, seq_rt, seq_bk, seq_ct, seq_ex, x_run, fin_nx, fin_rt, fin_ex, exit_none, exit_some, opt_some, d_eVar, d_eMov, d_eInt, d_eStr, d_eBl, d_eNon, d_eGlob, x_q1, x_q2, d_eBin, d_eCmp, d_eIx, chB_b, x_c1, x_c2, x_c4, d_eChain, d_eOne, andB_b, orB_b, d_eAnd, d_eOr, notV_b, d_eNot, x_tupV, x_lstV, d_eTup, d_eLst, x_cbV, d_eCB, retV_ret, retV_ex, retIo_own, retIo_io, x_call0, x_call1, d_eCall, x_isiV, d_eIsi, x_negV, d_eNeg, d_eDicK, d_eDicT, x_sl1, x_sl2, x_sl3, d_eSl, x_o1, d_oNone, d_oSome, x_revV, d_eRevL, x_compV, compFin_ok, d_eComp, d_eCompB, d_ePop, x_valA, d_aVal, d_aRef, d_lNil, x_l1, x_l2, d_lCons, blT_b, d_tE, d_tCmp, d_tChain, d_tW, x_notT, d_tNot, d_wOne, x_andT, x_orT, d_wAnd, d_wOr, d_cNil, d_cOne, itV_l, itV_t, itV_s, d_iIt, d_gNm, d_gTup, x_retS, d_sRet, d_sRetN, x_expS, d_sExp, x_ifS, d_sIf, d_sPass, d_sBrk, d_sCnt, x_asgS, d_sSet, x_tupS, d_sTup, x_appS, d_sApp, x_putS, x_putS2, d_sPut, x_forS, d_sFor, d_sWhile, d_sRaise, hand_nx, hand_rt, hand_ex, d_sTry, d_hNil, d_hCons, hands_nil, hands_cons, noEx_nx, noEx_rt, d_bNil, d_bCons, rho0, fCompB, wipeR, unwipe, sv_no, sv_val, sv_own, AV.ct, slCt, Sl.ct, Sl.od, cts, avVals, x_stOk, pl_no, pl_val, pl_own, slOf, tgAll, k_add, k_sub, k_mul, k_div, k_mod, k_pow, k_eq, k_ne, k_lt, k_le, k_gt, k_ge, k_is, k_isn, k_in, k_nin, isi_non, isi_bl, isi_int, isi_str, isi_lst, isi_tup, isi_dic, add_int, sub_int', lt_int', le_int', gt_int', ge_int', eq_int, ne_int, eq_str, ne_str, is_none, isn_none, is_bool, isn_bool, isNoneD, isBoolD, in_lst, in_tup, nin_lst, nin_tup, in_sgn, nin_sgn, len_lst, len_tup, tup_lst, tup_tup, lst_tup, int_int, x_rg1V, d_iRg1, pow18, ix_t0, ix_t1, ix_t2, ix_t3, ix_l0, sSl, Bf.sem, lk, lkD, deOf, lsAt, reOwn, dcAt, putAt, List.mapIdx_cons, List.mapIdx_nil, List.replicate, List.length_cons, List.length_nil, List.map_cons, List.map_nil, List.cons_append, List.nil_append, List.append_nil, List.set, List.getElem?_cons_zero, List.getElem?_cons_succ, List.getElem?_nil, List.getElem?_map, Option.map_some, Option.map_none, Option.getD_some, Option.getD_none, Option.or_some, Option.none_or, Option.some_or, ↓reduceIte, reduceCtorEq, Option.some.injEq, Nat.zero_add, Nat.reduceAdd, Nat.reduceSub, Nat.reduceLeDiff, Nat.reduceEqDiff, Nat.reduceLT, Nat.sub_self, Nat.add_one_sub_one, Bool.not_true, Bool.not_false, Bool.not_not, Bool.and_true, Bool.true_and, Bool.and_false, Bool.false_and, Bool.or_true, Bool.true_or, Bool.or_false, Bool.false_or, Bool.false_eq_true, Bool.not_eq_true', decide_true, decide_false, decide_eq_true_eq]
    · simp only [m_find_difference, cd_find_difference, ys_find_difference_0, ys_find_difference_1, ys_find_difference_2, case_of_s, sides_of_s, first_missing_s, e1, ho, bind_ok, bind_ex, fl_ok, fl_ex, seq_nx, seq_rt, seq_bk, seq_ct, seq_ex, x_run, fin_nx, fin_rt, fin_ex, exit_none, exit_some, opt_some, d_eVar, d_eMov, d_eInt, d_eStr, d_eBl, d_eNon, d_eGlob, x_q1, x_q2, d_eBin, d_eCmp, d_eIx, chB_b, x_c1, x_c2, x_c4, d_eChain, d_eOne, andB_b, orB_b, d_eAnd, d_eOr, notV_b, d_eNot, x_tupV, x_lstV, d_eTup, d_eLst, x_cbV, d_eCB, retV_ret, retV_ex, retIo_own, retIo_io, x_call0, x_call1, d_eCall, x_isiV, d_eIsi, x_negV, d_eNeg, d_eDicK, d_eDicT, x_sl1, x_sl2, x_sl3, d_eSl, x_o1, d_oNone, d_oSome, x_revV, d_eRevL, x_compV, compFin_ok, d_eComp, d_eCompB, d_ePop, x_valA, d_aVal, d_aRef, d_lNil, x_l1, x_l2, d_lCons, blT_b, d_tE, d_tCmp, d_tChain, d_tW, x_notT, d_tNot, d_wOne, x_andT, x_orT, d_wAnd, d_wOr, d_cNil, d_cOne, itV_l, itV_t, itV_s, d_iIt, d_gNm, d_gTup, x_retS, d_sRet, d_sRetN, x_expS, d_sExp, x_ifS, d_sIf, d_sPass, d_sBrk, d_sCnt, x_asgS, d_sSet, x_tupS, d_sTup, x_appS, d_sApp, x_putS, x_putS2, d_sPut, x_forS, d_sFor, d_sWhile, d_sRaise, hand_nx, hand_rt, hand_ex, d_sTry, d_hNil, d_hCons, hands_nil, hands_cons, noEx_nx, noEx_rt, d_bNil, d_bCons, rho0, fCompB, wipeR, unwipe, sv_no, sv_val, sv_own, AV.ct, slCt, Sl.ct, Sl.od, cts, avVals, x_stOk, pl_no, pl_val, pl_own, slOf, tgAll, k_add, k_sub, k_mul, k_div, k_mod, k_pow, k_eq, k_ne, k_lt, k_le, k_gt, k_ge, k_is, k_isn, k_in, k_nin, isi_non, isi_bl, isi_int, isi_str, isi_lst, isi_tup, isi_dic, add_int, sub_int', lt_int', le_int', gt_int', ge_int', eq_int, ne_int, eq_str, ne_str, is_none, isn_none, is_bool, isn_bool, isNoneD, isBoolD, in_lst, in_tup, nin_lst, nin_tup, in_sgn, nin_sgn, len_lst, len_tup, tup_lst, tup_tup, lst_tup, int_int, x_rg1V, d_iRg1, pow18, ix_t0, ix_t1, ix_t2, ix_t3, ix_l0, sSl, Bf.sem, lk, lkD, deOf, lsAt, reOwn, dcAt, putAt, List.mapIdx_cons, List.mapIdx_nil, List.replicate, List.length_cons, List.length_nil, List.map_cons, List.map_nil, List.cons_append, List.nil_append, List.append_nil, List.set, List.getElem?_cons_zero, List.getElem?_cons_succ, List.getElem?_nil, List.getElem?_map, Option.map_some, Option.map_none, Option.getD_some, Option.getD_none, Option.or_some, Option.none_or, Option.some_or, ↓reduceIte, reduceCtorEq, Option.some.injEq, Nat.zero_add, Nat.reduceAdd, Nat.reduceSub, Nat.reduceLeDiff, Nat.reduceEqDiff, Nat.reduceLT, Nat.sub_self, Nat.add_one_sub_one, Bool.not_true, Bool.not_false, Bool.not_not, Bool.and_true, Bool.true_and, Bool.and_false, Bool.false_and, Bool.or_true, Bool.true_or, Bool.or_false, Bool.false_or, Bool.false_eq_true, Bool.not_eq_true', decide_true, decide_false, decide_eq_true_eq]
end PV.Lw
namespace PV.Lw
open PySem L2 PV

/-! _law_take -/
theorem take_s (ps : List Int) (n : Int) (hn : 0 < n) : ∃ (r : Int) (ps' : List Int), m__law_take [(PyData.list (List.map PyData.int ps)), .int n] = .ret (.int r) false (PyData.list (List.map PyData.int ps')) ∧ 0 ≤ r ∧ r < n := by
  have hq := eq_nil (ndcL_int ps)
  rcases List.eq_nil_or_concat ps with rfl | ⟨init, x, rfl⟩
  · refine ⟨0, [], ?_, by omega, hn⟩
    simp only [List.map_nil, List.isEmpty_nil] at hq
    simp only [m__law_take, cd__law_take, hq, bind_ok, bind_ex, fl_ok, fl_ex, seq_nx, seq_rt, seq_bk, seq_ct, seq_ex, x_run, fin_nx, fin_rt, fin_ex, exit_none, exit_some, opt_some, d_eVar, d_eMov, d_eInt, d_eStr, d_eBl, d_eNon, d_eGlob, x_q1, x_q2, d_eBin, d_eCmp, d_eIx, chB_b, x_c1, x_c2, x_c4, d_eChain, d_eOne, andB_b, orB_b, d_eAnd, d_eOr, notV_b, d_eNot, x_tupV, x_lstV, d_eTup, d_eLst, x_cbV, d_eCB, retV_ret, retV_ex, retIo_own, retIo_io, x_call0, x_call1, d_eCall, x_isiV, d_eIsi, x_negV, d_eNeg, d_eDicK, d_eDicT, x_sl1, x_sl2, x_sl3, d_eSl, x_o1, d_oNone, d_oSome, x_revV, d_eRevL, x_compV, compFin_ok, d_eComp, d_eCompB, d_ePop, x_valA, d_aVal, d_aRef, d_lNil, x_l1, x_l2, d_lCons, blT_b, d_tE, d_tCmp, d_tChain, d_tW, x_notT, d_tNot, d_wOne, x_andT, x_orT, d_wAnd, d_wOr, d_cNil, d_cOne, itV_l, itV_t, itV_s, d_iIt, d_gNm, d_gTup, x_retS, d_sRet, d_sRetN, x_expS, d_sExp, x_ifS, d_sIf, d_sPass, d_sBrk, d_sCnt, x_asgS, d_sSet, x_tupS, d_sTup, x_appS, d_sApp, x_putS, x_putS2, d_sPut, x_forS, d_sFor, d_sWhile, d_sRaise, hand_nx, hand_rt, hand_ex, d_sTry, d_hNil, d_hCons, hands_nil, hands_cons, noEx_nx, noEx_rt, d_bNil, d_bCons, rho0, fCompB, wipeR, unwipe, sv_no, sv_val, sv_own, AV.ct, slCt, Sl.ct, Sl.od, cts, avVals, x_stOk, pl_no, pl_val, pl_own, slOf, tgAll, k_add, k_sub, k_mul, k_div, k_mod, k_pow, k_eq, k_ne, k_lt, k_le, k_gt, k_ge, k_is, k_isn, k_in, k_nin, isi_non, isi_bl, isi_int, isi_str, isi_lst, isi_tup, isi_dic, add_int, sub_int', lt_int', le_int', gt_int', ge_int', eq_int, ne_int, eq_str, ne_str, is_none, isn_none, is_bool, isn_bool, isNoneD, isBoolD, in_lst, in_tup, nin_lst, nin_tup, in_sgn, nin_sgn, len_lst, len_tup, tup_lst, tup_tup, lst_tup, int_int, x_rg1V, d_iRg1, pow18, ix_t0, ix_t1, ix_t2, ix_t3, ix_l0, sSl, Bf.sem, lk, lkD, deOf, lsAt, reOwn, dcAt, putAt, List.mapIdx_cons, List.mapIdx_nil, List.replicate, List.length_cons, List.length_nil, List.map_cons, List.map_nil, List.cons_append, List.nil_append, List.append_nil, List.set, List.getElem?_cons_zero, List.getElem?_cons_succ, List.getElem?_nil, List.getElem?_map, Option.map_some, Option.map_none, Option.getD_some, Option.getD_none, Option.or_some, Option.none_or, Option.some_or, ↓reduceIte, reduceCtorEq, Option.some.injEq, Nat.zero_add, Nat.reduceAdd, Nat.reduceSub, Nat.reduceLeDiff, Nat.reduceEqDiff, Nat.reduceLT, Nat.sub_self, Nat.add_one_sub_one, Bool.not_true, Bool.not_false, Bool.not_not, Bool.and_true, Bool.true_and, Bool.and_false, Bool.false_and, Bool.or_true, Bool.true_or, Bool.or_false, Bool.false_or, Bool.false_eq_true, Bool.not_eq_true', decide_true, decide_false, decide_eq_true_eq]
  · refine ⟨x % n, init, ?_, Int.emod_nonneg _ (by omega), Int.emod_lt_of_pos _ hn⟩
    have e1 : ((init.concat x).map PyData.int) = init.map PyData.int ++ [.int x] := by simp
    have e2 : (init.map PyData.int ++ [PyData.int x]).isEmpty = false := by simp
    rw [e1, e2] at hq
    simp only [m__law_take, cd__law_take, e1, hq, List.getLast?_concat, List.dropLast_concat, mod_int' hn, bind_ok, bind_ex, fl_ok, fl_ex, seq_nx, seq_rt, seq_bk, seq_ct, seq_ex, x_run, fin_nx, fin_rt, fin_ex, exit_none, exit_some, opt_some, d_eVar, d_eMov, d_eInt, d_eStr, d_eBl, d_eNon, d_eGlob, x_q1, x_q2, d_eBin, d_eCmp, d_eIx, chB_b, x_c1, x_c2, x_c4, d_eChain, d_eOne, andB_b, orB_b, d_eAnd, d_eOr, notV_b, d_eNot, x_tupV, x_lstV, d_eTup, d_eLst, x_cbV, d_eCB, retV_ret, retV_ex, retIo_own, retIo_io, x_call0, x_call1, d_eCall, x_isiV, d_eIsi, x_negV, d_eNeg, d_eDicK, d_eDicT, x_sl1, x_sl2, x_sl3, d_eSl, x_o1, d_oNone, d_oSome, x_revV, d_eRevL, x_compV, compFin_ok, d_eComp, d_eCompB, d_ePop, x_valA, d_aVal, d_aRef, d_lNil, x_l1, x_l2, d_lCons, blT_b, d_tE, d_tCmp, d_tChain, d_tW, x_notT, d_tNot, d_wOne, x_andT, x_orT, d_wAnd, d_wOr, d_cNil, d_cOne, itV_l, itV_t, itV_s, d_iIt, d_gNm, d_gTup, x_retS, d_sRet, d_sRetN, x_expS, d_sExp, x_ifS, d_sIf, d_sPass, d_sBrk, d_sCnt, x_asgS, d_sSet, x_tupS, d_sTup, x_appS, d_sApp, x_putS, x_putS2, d_sPut, x_forS, d_sFor, d_sWhile, d_sRaise, hand_nx, hand_rt, hand_ex, d_sTry, d_hNil, d_hCons, hands_nil, hands_cons, noEx_nx, noEx_rt, d_bNil, d_bCons, rho0, fCompB, wipeR, unwipe, sv_no, sv_val, sv_own, AV.ct, slCt, Sl.ct, Sl.od, cts, avVals, x_stOk, pl_no, pl_val, pl_own, slOf, tgAll, k_add, k_sub, k_mul, k_div, k_mod, k_pow, k_eq, k_ne, k_lt, k_le, k_gt, k_ge, k_is, k_isn, k_in, k_nin, isi_non, isi_bl, isi_int, isi_str, isi_lst, isi_tup, isi_dic, add_int, sub_int', lt_int', le_int', gt_int', ge_int', eq_int, ne_int, eq_str, ne_str, is_none, isn_none, is_bool, isn_bool, isNoneD, isBoolD, in_lst, in_tup, nin_lst, nin_tup, in_sgn, nin_sgn, len_lst, len_tup, tup_lst, tup_tup, lst_tup, int_int, x_rg1V, d_iRg1, pow18, ix_t0, ix_t1, ix_t2, ix_t3, ix_l0, sSl, Bf.sem, lk, lkD, deOf, lsAt, reOwn, dcAt, putAt, List.mapIdx_cons, List.mapIdx_nil, List.replicate, List.length_cons, List.length_nil, List.map_cons, List.map_nil, List.cons_append, List.nil_append, List.append_nil, List.set, List.getElem?_cons_zero, List.getElem?_cons_succ, List.getElem?_nil, List.getElem?_map, Option.map_some, Option.map_none, Option.getD_some, Option.getD_none, Option.or_some, Option.none_or, Option.some_or, ↓reduceIte, reduceCtorEq, Option.some.injEq, Nat.zero_add, Nat.reduceAdd, Nat.reduceSub, Nat.reduceLeDiff, Nat.reduceEqDiff, Nat.reduceLT, Nat.sub_self, Nat.add_one_sub_one, Bool.not_true, Bool.not_false, Bool.not_not, Bool.and_true, Bool.true_and, Bool.and_false, Bool.false_and, Bool.or_true, Bool.true_or, Bool.or_false, Bool.false_or, Bool.false_eq_true, Bool.not_eq_true', decide_true, decide_false, decide_eq_true_eq]
/-! _law_turn -/
theorem turn_s (ps : List Int) (ws : List Str) (hl : ws.length ≤ 1000) : ∃ (ws' : List Str) (ps' : List Int), m__law_turn [(PyData.list (List.map PyData.int ps)), (PyData.list (List.map PyData.str ws))] = .ret (PyData.list (List.map PyData.str ws')) true (PyData.list (List.map PyData.int ps')) ∧ ws'.Perm ws := by
  have hq := eq_nil (ndcL_str ws)
  cases ws with
  | nil =>
    refine ⟨[], ps, ?_, List.Perm.refl _⟩
    simp only [List.map_nil, List.isEmpty_nil] at hq
    simp only [m__law_turn, cd__law_turn, ys__law_turn_0, hq, bind_ok, bind_ex, fl_ok, fl_ex, seq_nx, seq_rt, seq_bk, seq_ct, seq_ex, x_run, fin_nx, fin_rt, fin_ex, exit_none, exit_some, opt_some, d_eVar, d_eMov, d_eInt, d_eStr, d_eBl, d_eNon, d_eGlob, x_q1, x_q2, d_eBin, d_eCmp, d_eIx, chB_b, x_c1, x_c2, x_c4, d_eChain, d_eOne, andB_b, orB_b, d_eAnd, d_eOr, notV_b, d_eNot, x_tupV, x_lstV, d_eTup, d_eLst, x_cbV, d_eCB, retV_ret, retV_ex, retIo_own, retIo_io, x_call0, x_call1, d_eCall, x_isiV, d_eIsi, x_negV, d_eNeg, d_eDicK, d_eDicT, x_sl1, x_sl2, x_sl3, d_eSl, x_o1, d_oNone, d_oSome, x_revV, d_eRevL, x_compV, compFin_ok, d_eComp, d_eCompB, d_ePop, x_valA, d_aVal, d_aRef, d_lNil, x_l1, x_l2, d_lCons, blT_b, d_tE, d_tCmp, d_tChain, d_tW, x_notT, d_tNot, d_wOne, x_andT, x_orT, d_wAnd, d_wOr, d_cNil, d_cOne, itV_l, itV_t, itV_s, d_iIt, d_gNm, d_gTup, x_retS, d_sRet, d_sRetN, x_expS, d_sExp, x_ifS, d_sIf, d_sPass, d_sBrk, d_sCnt, x_asgS, d_sSet, x_tupS, d_sTup, x_appS, d_sApp, x_putS, x_putS2, d_sPut, x_forS, d_sFor, d_sWhile, d_sRaise, hand_nx, hand_rt, hand_ex, d_sTry, d_hNil, d_hCons, hands_nil, hands_cons, noEx_nx, noEx_rt, d_bNil, d_bCons, rho0, fCompB, wipeR, unwipe, sv_no, sv_val, sv_own, AV.ct, slCt, Sl.ct, Sl.od, cts, avVals, x_stOk, pl_no, pl_val, pl_own, slOf, tgAll, k_add, k_sub, k_mul, k_div, k_mod, k_pow, k_eq, k_ne, k_lt, k_le, k_gt, k_ge, k_is, k_isn, k_in, k_nin, isi_non, isi_bl, isi_int, isi_str, isi_lst, isi_tup, isi_dic, add_int, sub_int', lt_int', le_int', gt_int', ge_int', eq_int, ne_int, eq_str, ne_str, is_none, isn_none, is_bool, isn_bool, isNoneD, isBoolD, in_lst, in_tup, nin_lst, nin_tup, in_sgn, nin_sgn, len_lst, len_tup, tup_lst, tup_tup, lst_tup, int_int, x_rg1V, d_iRg1, pow18, ix_t0, ix_t1, ix_t2, ix_t3, ix_l0, sSl, Bf.sem, lk, lkD, deOf, lsAt, reOwn, dcAt, putAt, List.mapIdx_cons, List.mapIdx_nil, List.replicate, List.length_cons, List.length_nil, List.map_cons, List.map_nil, List.cons_append, List.nil_append, List.append_nil, List.set, List.getElem?_cons_zero, List.getElem?_cons_succ, List.getElem?_nil, List.getElem?_map, Option.map_some, Option.map_none, Option.getD_some, Option.getD_none, Option.or_some, Option.none_or, Option.some_or, ↓reduceIte, reduceCtorEq, Option.some.injEq, Nat.zero_add, Nat.reduceAdd, Nat.reduceSub, Nat.reduceLeDiff, Nat.reduceEqDiff, Nat.reduceLT, Nat.sub_self, Nat.add_one_sub_one, Bool.not_true, Bool.not_false, Bool.not_not, Bool.and_true, Bool.true_and, Bool.and_false, Bool.false_and, Bool.or_true, Bool.true_or, Bool.or_false, Bool.false_or, Bool.false_eq_true, Bool.not_eq_true', decide_true, decide_false, decide_eq_true_eq]
  | cons w r =>
    have e0 : ((w :: r).map PyData.str).isEmpty = false := rfl
    rw [e0] at hq
    generalize hW : w :: r = W at hq hl ⊢
    have hpos : 0 < W.length := by rw [← hW]; simp
    have hml : (W.map PyData.str).length = W.length := List.length_map ..
    obtain ⟨a, ps1, h1, h2, h3⟩ := take_s ps (W.length : Int) (by omega)
    obtain ⟨b, ps2, h4, h5, h6⟩ := take_s ps1 2 (by omega)
    obtain ⟨n, rfl⟩ : ∃ n : Nat, a = (n : Int) := ⟨a.toNat, by omega⟩
    have hn : n ≤ W.length := by omega
    have c1 := cut_lo (W.map PyData.str) n (by rw [hml]; exact hn)
    have c2 := cut_hi (W.map PyData.str) n
    have c3 : bAdd (.list ((W.map PyData.str).drop n)) (.list ((W.map PyData.str).take n)) = some ((PyData.list (List.map PyData.str (W.drop n ++ W.take n))), true) := by
      rw [add_lst (by simp; omega)]
      simp
    have pr := perm_rot W n
    by_cases hb : b = 1
    · refine ⟨(W.drop n ++ W.take n).reverse, ps2, ?_, (List.reverse_perm _).trans pr⟩
      have e5 : ((W.drop n ++ W.take n).map PyData.str).reverse = (W.drop n ++ W.take n).reverse.map PyData.str := List.map_reverse.symm
      simp only [m__law_turn, cd__law_turn, ys__law_turn_0, hq, hml, h1, c1, c2, c3, h4, hb, e5, bind_ok, bind_ex, fl_ok, fl_ex, seq_nx, seq_rt, seq_bk, seq_ct, seq_ex, x_run, fin_nx, fin_rt, fin_ex, exit_none, exit_some, opt_some, d_eVar, d_eMov, d_eInt, d_eStr, d_eBl, d_eNon, d_eGlob, x_q1, x_q2, d_eBin, d_eCmp, d_eIx, chB_b, x_c1, x_c2, x_c4, d_eChain, d_eOne, andB_b, orB_b, d_eAnd, d_eOr, notV_b, d_eNot, x_tupV, x_lstV, d_eTup, d_eLst, x_cbV, d_eCB, retV_ret, retV_ex, retIo_own, retIo_io, x_call0, x_call1, d_eCall, x_isiV, d_eIsi, x_negV, d_eNeg, d_eDicK, d_eDicT, x_sl1, x_sl2, x_sl3, d_eSl, x_o1, d_oNone, d_oSome, x_revV, d_eRevL, x_compV, compFin_ok, d_eComp, d_eCompB, d_ePop, x_valA, d_aVal, d_aRef, d_lNil, x_l1, x_l2, d_lCons, blT_b, d_tE, d_tCmp, d_tChain, d_tW, x_notT, d_tNot, d_wOne, x_andT, x_orT, d_wAnd, d_wOr, d_cNil, d_cOne, itV_l, itV_t, itV_s, d_iIt, d_gNm, d_gTup, x_retS, d_sRet, d_sRetN, x_expS, d_sExp, x_ifS, d_sIf, d_sPass, d_sBrk, d_sCnt, x_asgS, d_sSet, x_tupS, d_sTup, x_appS, d_sApp, x_putS, x_putS2, d_sPut, x_forS, d_sFor, d_sWhile, d_sRaise, hand_nx, hand_rt, hand_ex, d_sTry, d_hNil, d_hCons, hands_nil, hands_cons, noEx_nx, noEx_rt, d_bNil, d_bCons, rho0, fCompB, wipeR, unwipe, sv_no, sv_val, sv_own, AV.ct, slCt, Sl.ct, Sl.od, cts, avVals, x_stOk, pl_no, pl_val, pl_own, slOf, tgAll, k_add, k_sub, k_mul, k_div, k_mod, k_pow, k_eq, k_ne, k_lt, k_le, k_gt, k_ge, k_is, k_isn, k_in, k_nin, isi_non, isi_bl, isi_int, isi_str, isi_lst, isi_tup, isi_dic, add_int, sub_int', lt_int', le_int', gt_int', ge_int', eq_int, ne_int, eq_str, ne_str, is_none, isn_none, is_bool, isn_bool, isNoneD, isBoolD, in_lst, in_tup, nin_lst, nin_tup, in_sgn, nin_sgn, len_lst, len_tup, tup_lst, tup_tup, lst_tup, int_int, x_rg1V, d_iRg1, pow18, ix_t0, ix_t1, ix_t2, ix_t3, ix_l0, sSl, Bf.sem, lk, lkD, deOf, lsAt, reOwn, dcAt, putAt, List.mapIdx_cons, List.mapIdx_nil, List.replicate, List.length_cons, List.length_nil, List.map_cons, List.map_nil, List.cons_append, List.nil_append, List.append_nil, List.set, List.getElem?_cons_zero, List.getElem?_cons_succ, List.getElem?_nil, List.getElem?_map, Option.map_some, Option.map_none, Option.getD_some, Option.getD_none, Option.or_some, Option.none_or, Option.some_or, ↓reduceIte, reduceCtorEq, Option.some.injEq, Nat.zero_add, Nat.reduceAdd, Nat.reduceSub, Nat.reduceLeDiff, Nat.reduceEqDiff, Nat.reduceLT, Nat.sub_self, Nat.add_one_sub_one, Bool.not_true, Bool.not_false, Bool.not_not, Bool.and_true, Bool.true_and, Bool.and_false, Bool.false_and, Bool.or_true, Bool.true_or, Bool.or_false, Bool.false_or, Bool.false_eq_true, Bool.not_eq_true', decide_true, decide_false, decide_eq_true_eq]
    · refine ⟨W.drop n ++ W.take n, ps2, ?_, pr⟩

      simp only [m__law_turn, cd__law_turn, ys__law_turn_0, hq, hml, h1, c1, c2, c3, h4, hb, bind_ok, bind_ex, fl_ok, fl_ex, seq_nx, seq_rt, seq_bk, seq_ct, seq_ex, x_run, fin_nx, fin_rt, fin_ex, exit_none, exit_some, opt_some, d_eVar, d_eMov, d_eInt, d_eStr, d_eBl, d_eNon, d_eGlob, x_q1, x_q2, d_eBin, d_eCmp, d_eIx, chB_b, x_c1, x_c2, x_c4, d_eChain, d_eOne, andB_b, orB_b, d_eAnd, d_eOr, notV_b, d_eNot, x_tupV, x_lstV, d_eTup, d_eLst, x_cbV, d_eCB, retV_ret, retV_ex, retIo_own, retIo_io, x_call0, x_call1, d_eCall, x_isiV, d_eIsi, x_negV, d_eNeg, d_eDicK, d_eDicT, x_sl1, x_sl2, x_sl3, d_eSl, x_o1, d_oNone, d_oSome, x_revV, d_eRevL, x_compV, compFin_ok, d_eComp, d_eCompB, d_ePop, x_valA, d_aVal, d_aRef, d_lNil, x_l1, x_l2, d_lCons, blT_b, d_tE, d_tCmp, d_tChain, d_tW, x_notT, d_tNot, d_wOne, x_andT, x_orT, d_wAnd, d_wOr, d_cNil, d_cOne, itV_l, itV_t, itV_s, d_iIt, d_gNm, d_gTup, x_retS, d_sRet, d_sRetN, x_expS, d_sExp, x_ifS, d_sIf, d_sPass, d_sBrk, d_sCnt, x_asgS, d_sSet, x_tupS, d_sTup, x_appS, d_sApp, x_putS, x_putS2, d_sPut, x_forS, d_sFor, d_sWhile, d_sRaise, hand_nx, hand_rt, hand_ex, d_sTry, d_hNil, d_hCons, hands_nil, hands_cons, noEx_nx, noEx_rt, d_bNil, d_bCons, rho0, fCompB, wipeR, unwipe, sv_no, sv_val, sv_own, AV.ct, slCt, Sl.ct, Sl.od, cts, avVals, x_stOk, pl_no, pl_val, pl_own, slOf, tgAll, k_add, k_sub, k_mul, k_div, k_mod, k_pow, k_eq, k_ne, k_lt, k_le, k_gt, k_ge, k_is, k_isn, k_in, k_nin, isi_non, isi_bl, isi_int, isi_str, isi_lst, isi_tup, isi_dic, add_int, sub_int', lt_int', le_int', gt_int', ge_int', eq_int, ne_int, eq_str, ne_str, is_none, isn_none, is_bool, isn_bool, isNoneD, isBoolD, in_lst, in_tup, nin_lst, nin_tup, in_sgn, nin_sgn, len_lst, len_tup, tup_lst, tup_tup, lst_tup, int_int, x_rg1V, d_iRg1, pow18, ix_t0, ix_t1, ix_t2, ix_t3, ix_l0, sSl, Bf.sem, lk, lkD, deOf, lsAt, reOwn, dcAt, putAt, List.mapIdx_cons, List.mapIdx_nil, List.replicate, List.length_cons, List.length_nil, List.map_cons, List.map_nil, List.cons_append, List.nil_append, List.append_nil, List.set, List.getElem?_cons_zero, List.getElem?_cons_succ, List.getElem?_nil, List.getElem?_map, Option.map_some, Option.map_none, Option.getD_some, Option.getD_none, Option.or_some, Option.none_or, Option.some_or, ↓reduceIte, reduceCtorEq, Option.some.injEq, Nat.zero_add, Nat.reduceAdd, Nat.reduceSub, Nat.reduceLeDiff, Nat.reduceEqDiff, Nat.reduceLT, Nat.sub_self, Nat.add_one_sub_one, Bool.not_true, Bool.not_false, Bool.not_not, Bool.and_true, Bool.true_and, Bool.and_false, Bool.false_and, Bool.or_true, Bool.true_or, Bool.or_false, Bool.false_or, Bool.false_eq_true, Bool.not_eq_true', decide_true, decide_false, decide_eq_true_eq]
end PV.Lw
namespace PV.Lw
open PySem L2 PV

theorem pool_step (a0 a1 : D) (rs ps : List Int) (c3 a6 a7 : Sl) (j : Int) (hj : 0 ≤ j ∧ j < 100000) (hr : rs ≠ []) (hrl : rs.length ≤ 63) (hp : ps.length < 200000) (h3 : pl c3 = true) (h6 : pl a6 = true) (h7 : pl a7 = true) :
    ∃ (rs' : List Int) (v : Int) (c3' a6' a7' : Sl), den (k := .B) Y__law_pool cd__law_pool_b0 [.val a0, .val a1, .own (PyData.list (List.map PyData.int rs)), c3, .own (PyData.list (List.map PyData.int ps)), .val (.int j), a6, a7] = .nx [.val a0, .val a1, .own (PyData.list (List.map PyData.int rs')), c3', .own (PyData.list (List.map PyData.int (ps ++ [v]))), .val (.int j), a6', a7'] ∧ rs' ≠ [] ∧ rs'.length ≤ 63 ∧ pl c3' = true ∧ pl a6' = true ∧ pl a7' = true := by
  have hpos : 0 < rs.length := List.length_pos_iff.mpr hr
  have hl : (0 : Int) < (rs.length : Int) := by omega
  have hml : (rs.map PyData.int).length = rs.length := List.length_map ..
  have hmp : (ps.map PyData.int).length < 1000000 := by rw [List.length_map]; omega
  have ha0 : 0 ≤ j % (rs.length : Int) := Int.emod_nonneg _ (by omega)
  have ha1 : j % (rs.length : Int) < (rs.length : Int) := Int.emod_lt_of_pos _ hl
  obtain ⟨x, hx⟩ := ix_ints (rs := rs) ha0 ha1
  have hi := ixN_in (n := rs.length) ha0 ha1
  have d1 : (0 : Int) < 1009 ∧ (1009 : Int).natAbs.log2 < 9000 := by decide
  have d3 : (0 : Int) < 3 ∧ (3 : Int).natAbs.log2 < 9000 := by decide
  have d13 : (0 : Int) < 13 ∧ (13 : Int).natAbs.log2 < 9000 := by decide
  have m1 : (0 : Int) < 1009 := by decide
  have m2 : (0 : Int) < 2147483647 := by decide
  have m3 : (0 : Int) < 2147483629 := by decide
  have m4 : (0 : Int) < 2147483587 := by decide
  have k1 : ∀ a, mulOk a 48271 = true := fun a => mulOk_r a (by decide)
  have k2 : ∀ a, mulOk a 69621 = true := fun a => mulOk_r a (by decide)
  have k3 : ∀ a, mulOk 31 a = true := fun a => mulOk_l a (by decide)
  have k4 : ∀ a b, mulOk (a % 2147483647) b = true := fun a b => mulOk_m a b _ (by decide)
  have k5 : ∀ a b, mulOk (a % 2147483629) b = true := fun a b => mulOk_m a b _ (by decide)
  by_cases hc : (1000000000000000000 : Int) ≤ x
  · refine ⟨rs.set (j % (rs.length : Int)).toNat (x / 1009), x % 1009, .val (.int x), .val (.int (j % (rs.length : Int))), a7, ?_, ?_, by rw [List.length_set]; exact hrl, rfl, rfl, h7⟩
    · simp only [cd__law_pool_b0, m__law_pool, cd__law_pool, hml, mod_int' hl, h3, h6, h7, hx, hc, hmp, hi, div_int' d1, mod_int' m1, snoc_int, set_int, bind_ok, bind_ex, fl_ok, fl_ex, seq_nx, seq_rt, seq_bk, seq_ct, seq_ex, x_run, fin_nx, fin_rt, fin_ex, exit_none, exit_some, opt_some, d_eVar, d_eMov, d_eInt, d_eStr, d_eBl, d_eNon, d_eGlob, x_q1, x_q2, d_eBin, d_eCmp, d_eIx, chB_b, x_c1, x_c2, x_c4, d_eChain, d_eOne, andB_b, orB_b, d_eAnd, d_eOr, notV_b, d_eNot, x_tupV, x_lstV, d_eTup, d_eLst, x_cbV, d_eCB, retV_ret, retV_ex, retIo_own, retIo_io, x_call0, x_call1, d_eCall, x_isiV, d_eIsi, x_negV, d_eNeg, d_eDicK, d_eDicT, x_sl1, x_sl2, x_sl3, d_eSl, x_o1, d_oNone, d_oSome, x_revV, d_eRevL, x_compV, compFin_ok, d_eComp, d_eCompB, d_ePop, x_valA, d_aVal, d_aRef, d_lNil, x_l1, x_l2, d_lCons, blT_b, d_tE, d_tCmp, d_tChain, d_tW, x_notT, d_tNot, d_wOne, x_andT, x_orT, d_wAnd, d_wOr, d_cNil, d_cOne, itV_l, itV_t, itV_s, d_iIt, d_gNm, d_gTup, x_retS, d_sRet, d_sRetN, x_expS, d_sExp, x_ifS, d_sIf, d_sPass, d_sBrk, d_sCnt, x_asgS, d_sSet, x_tupS, d_sTup, x_appS, d_sApp, x_putS, x_putS2, d_sPut, x_forS, d_sFor, d_sWhile, d_sRaise, hand_nx, hand_rt, hand_ex, d_sTry, d_hNil, d_hCons, hands_nil, hands_cons, noEx_nx, noEx_rt, d_bNil, d_bCons, rho0, fCompB, wipeR, unwipe, sv_no, sv_val, sv_own, AV.ct, slCt, Sl.ct, Sl.od, cts, avVals, x_stOk, pl_no, pl_val, pl_own, slOf, tgAll, k_add, k_sub, k_mul, k_div, k_mod, k_pow, k_eq, k_ne, k_lt, k_le, k_gt, k_ge, k_is, k_isn, k_in, k_nin, isi_non, isi_bl, isi_int, isi_str, isi_lst, isi_tup, isi_dic, add_int, sub_int', lt_int', le_int', gt_int', ge_int', eq_int, ne_int, eq_str, ne_str, is_none, isn_none, is_bool, isn_bool, isNoneD, isBoolD, in_lst, in_tup, nin_lst, nin_tup, in_sgn, nin_sgn, len_lst, len_tup, tup_lst, tup_tup, lst_tup, int_int, x_rg1V, d_iRg1, pow18, ix_t0, ix_t1, ix_t2, ix_t3, ix_l0, sSl, Bf.sem, lk, lkD, deOf, lsAt, reOwn, dcAt, putAt, List.mapIdx_cons, List.mapIdx_nil, List.replicate, List.length_cons, List.length_nil, List.map_cons, List.map_nil, List.cons_append, List.nil_append, List.append_nil, List.set, List.getElem?_cons_zero, List.getElem?_cons_succ, List.getElem?_nil, List.getElem?_map, Option.map_some, Option.map_none, Option.getD_some, Option.getD_none, Option.or_some, Option.none_or, Option.some_or, ↓reduceIte, reduceCtorEq, Option.some.injEq, Nat.zero_add, Nat.reduceAdd, Nat.reduceSub, Nat.reduceLeDiff, Nat.reduceEqDiff, Nat.reduceLT, Nat.sub_self, Nat.add_one_sub_one, Bool.not_true, Bool.not_false, Bool.not_not, Bool.and_true, Bool.true_and, Bool.and_false, Bool.false_and, Bool.or_true, Bool.true_or, Bool.or_false, Bool.false_or, Bool.false_eq_true, Bool.not_eq_true', decide_true, decide_false, decide_eq_true_eq]
    · intro z
      have := congrArg List.length z
      rw [List.length_set] at this
      simp at this
      exact hr this
  · refine ⟨rs, ((((((x * 48271 + j * 69621 + 7) % 2147483647) * ((x * 48271 + j * 69621 + 7) % 2147483647) + 31 * j + j % (rs.length : Int)) % 2147483629) * (((((x * 48271 + j * 69621 + 7) % 2147483647) * ((x * 48271 + j * 69621 + 7) % 2147483647) + 31 * j + j % (rs.length : Int)) % 2147483629) / 3 + j + 1) + 17) % 2147483587) / 13 % 1009, .val (.int x), .val (.int (j % (rs.length : Int))), .val (.int (((((x * 48271 + j * 69621 + 7) % 2147483647) * ((x * 48271 + j * 69621 + 7) % 2147483647) + 31 * j + j % (rs.length : Int)) % 2147483629 * (((((x * 48271 + j * 69621 + 7) % 2147483647) * ((x * 48271 + j * 69621 + 7) % 2147483647) + 31 * j + j % (rs.length : Int)) % 2147483629) / 3 + j + 1) + 17) % 2147483587)), ?_, hr, hrl, rfl, rfl, rfl⟩
    simp only [cd__law_pool_b0, m__law_pool, cd__law_pool, hml, mod_int' hl, h3, h6, h7, hx, hc, hmp, hi, k1, k2, k3, k4, k5, mul_int', div_int' d3, div_int' d13, mod_int' m1, mod_int' m2, mod_int' m3, mod_int' m4, snoc_int, bind_ok, bind_ex, fl_ok, fl_ex, seq_nx, seq_rt, seq_bk, seq_ct, seq_ex, x_run, fin_nx, fin_rt, fin_ex, exit_none, exit_some, opt_some, d_eVar, d_eMov, d_eInt, d_eStr, d_eBl, d_eNon, d_eGlob, x_q1, x_q2, d_eBin, d_eCmp, d_eIx, chB_b, x_c1, x_c2, x_c4, d_eChain, d_eOne, andB_b, orB_b, d_eAnd, d_eOr, notV_b, d_eNot, x_tupV, x_lstV, d_eTup, d_eLst, x_cbV, d_eCB, retV_ret, retV_ex, retIo_own, retIo_io, x_call0, x_call1, d_eCall, x_isiV, d_eIsi, x_negV, d_eNeg, d_eDicK, d_eDicT, x_sl1, x_sl2, x_sl3, d_eSl, x_o1, d_oNone, d_oSome, x_revV, d_eRevL, x_compV, compFin_ok, d_eComp, d_eCompB, d_ePop, x_valA, d_aVal, d_aRef, d_lNil, x_l1, x_l2, d_lCons, blT_b, d_tE, d_tCmp, d_tChain, d_tW, x_notT, d_tNot, d_wOne, x_andT, x_orT, d_wAnd, d_wOr, d_cNil, d_cOne, itV_l, itV_t, itV_s, d_iIt, d_gNm, d_gTup, x_retS, d_sRet, d_sRetN, x_expS, d_sExp, x_ifS, d_sIf, d_sPass, d_sBrk, d_sCnt, x_asgS, d_sSet, x_tupS, d_sTup, x_appS, d_sApp, x_putS, x_putS2, d_sPut, x_forS, d_sFor, d_sWhile, d_sRaise, hand_nx, hand_rt, hand_ex, d_sTry, d_hNil, d_hCons, hands_nil, hands_cons, noEx_nx, noEx_rt, d_bNil, d_bCons, rho0, fCompB, wipeR, unwipe, sv_no, sv_val, sv_own, AV.ct, slCt, Sl.ct, Sl.od, cts, avVals, x_stOk, pl_no, pl_val, pl_own, slOf, tgAll, k_add, k_sub, k_mul, k_div, k_mod, k_pow, k_eq, k_ne, k_lt, k_le, k_gt, k_ge, k_is, k_isn, k_in, k_nin, isi_non, isi_bl, isi_int, isi_str, isi_lst, isi_tup, isi_dic, add_int, sub_int', lt_int', le_int', gt_int', ge_int', eq_int, ne_int, eq_str, ne_str, is_none, isn_none, is_bool, isn_bool, isNoneD, isBoolD, in_lst, in_tup, nin_lst, nin_tup, in_sgn, nin_sgn, len_lst, len_tup, tup_lst, tup_tup, lst_tup, int_int, x_rg1V, d_iRg1, pow18, ix_t0, ix_t1, ix_t2, ix_t3, ix_l0, sSl, Bf.sem, lk, lkD, deOf, lsAt, reOwn, dcAt, putAt, List.mapIdx_cons, List.mapIdx_nil, List.replicate, List.length_cons, List.length_nil, List.map_cons, List.map_nil, List.cons_append, List.nil_append, List.append_nil, List.set, List.getElem?_cons_zero, List.getElem?_cons_succ, List.getElem?_nil, List.getElem?_map, Option.map_some, Option.map_none, Option.getD_some, Option.getD_none, Option.or_some, Option.none_or, Option.some_or, ↓reduceIte, reduceCtorEq, Option.some.injEq, Nat.zero_add, Nat.reduceAdd, Nat.reduceSub, Nat.reduceLeDiff, Nat.reduceEqDiff, Nat.reduceLT, Nat.sub_self, Nat.add_one_sub_one, Bool.not_true, Bool.not_false, Bool.not_not, Bool.and_true, Bool.true_and, Bool.and_false, Bool.false_and, Bool.or_true, Bool.true_or, Bool.or_false, Bool.false_or, Bool.false_eq_true, Bool.not_eq_true', decide_true, decide_false, decide_eq_true_eq]
def PoolInv (a0 a1 : D) (n : Nat) (ρ : Rho) : Prop := ∃ (rs ps : List Int) (c3 a5 a6 a7 : Sl), ρ = [.val a0, .val a1, .own (PyData.list (List.map PyData.int rs)), c3, .own (PyData.list (List.map PyData.int ps)), a5, a6, a7] ∧ rs ≠ [] ∧ rs.length ≤ 63 ∧ ps.length = n ∧ pl c3 = true ∧ pl a5 = true ∧ pl a6 = true ∧ pl a7 = true
theorem pool_loop (m : Int) (hm : m ≤ 100000) (a0 a1 : D) (rs : List Int) (hr : rs ≠ []) (hrl : rs.length ≤ 63) (c3 : Sl) (h3 : pl c3 = true) : ∃ (rs' ps : List Int) (b3 a5 a6 a7 : Sl), forLoop (tgName 5) (den (k := .B) Y__law_pool cd__law_pool_b0) (rgD 0 m) [.val a0, .val a1, .own (PyData.list (List.map PyData.int rs)), c3, .own (.list []), .no, .no, .no] = .nx [.val a0, .val a1, .own (PyData.list (List.map PyData.int rs')), b3, .own (PyData.list (List.map PyData.int ps)), a5, a6, a7] := by
  obtain ⟨ρ', h1, h2⟩ := for_inv (tgt := tgName 5) (body := den (k := .B) Y__law_pool cd__law_pool_b0) (PoolInv a0 a1) (rgD 0 m) 0 [.val a0, .val a1, .own (PyData.list (List.map PyData.int rs)), c3, .own (.list []), .no, .no, .no] ⟨rs, [], c3, .no, .no, .no, rfl, hr, hrl, rfl, h3, rfl, rfl, rfl⟩ (by
    intro j d ρ hd hI
    obtain ⟨rs, ps, c3, a5, a6, a7, rfl, h1, h2, h3, h4, h5, h6, h7⟩ := hI
    obtain ⟨rfl, hj⟩ := rg_get hd
    have hj' : j < 100000 := by omega
    obtain ⟨rs', v, c3', a6', a7', e1, e2, e3, e4, e5, e6⟩ := pool_step a0 a1 rs ps c3 a6 a7 (0 + (j : Int)) (by omega) h1 h2 (by omega) h4 h6 h7
    refine ⟨_, _, ?_, e1, rs', ps ++ [v], c3', _, a6', a7', rfl, e2, e3, by rw [List.length_append]; simp; omega, e4, rfl, e5, e6⟩
    simp only [tgName, h5, bind_ok, bind_ex, fl_ok, fl_ex, seq_nx, seq_rt, seq_bk, seq_ct, seq_ex, x_run, fin_nx, fin_rt, fin_ex, exit_none, exit_some, opt_some, d_eVar, d_eMov, d_eInt, d_eStr, d_eBl, d_eNon, d_eGlob, x_q1, x_q2, d_eBin, d_eCmp, d_eIx, chB_b, x_c1, x_c2, x_c4, d_eChain, d_eOne, andB_b, orB_b, d_eAnd, d_eOr, notV_b, d_eNot, x_tupV, x_lstV, d_eTup, d_eLst, x_cbV, d_eCB, retV_ret, retV_ex, retIo_own, retIo_io, x_call0, x_call1, d_eCall, x_isiV, d_eIsi, x_negV, d_eNeg, d_eDicK, d_eDicT, x_sl1, x_sl2, x_sl3, d_eSl, x_o1, d_oNone, d_oSome, x_revV, d_eRevL, x_compV, compFin_ok, d_eComp, d_eCompB, d_ePop, x_valA, d_aVal, d_aRef, d_lNil, x_l1, x_l2, d_lCons, blT_b, d_tE, d_tCmp, d_tChain, d_tW, x_notT, d_tNot, d_wOne, x_andT, x_orT, d_wAnd, d_wOr, d_cNil, d_cOne, itV_l, itV_t, itV_s, d_iIt, d_gNm, d_gTup, x_retS, d_sRet, d_sRetN, x_expS, d_sExp, x_ifS, d_sIf, d_sPass, d_sBrk, d_sCnt, x_asgS, d_sSet, x_tupS, d_sTup, x_appS, d_sApp, x_putS, x_putS2, d_sPut, x_forS, d_sFor, d_sWhile, d_sRaise, hand_nx, hand_rt, hand_ex, d_sTry, d_hNil, d_hCons, hands_nil, hands_cons, noEx_nx, noEx_rt, d_bNil, d_bCons, rho0, fCompB, wipeR, unwipe, sv_no, sv_val, sv_own, AV.ct, slCt, Sl.ct, Sl.od, cts, avVals, x_stOk, pl_no, pl_val, pl_own, slOf, tgAll, k_add, k_sub, k_mul, k_div, k_mod, k_pow, k_eq, k_ne, k_lt, k_le, k_gt, k_ge, k_is, k_isn, k_in, k_nin, isi_non, isi_bl, isi_int, isi_str, isi_lst, isi_tup, isi_dic, add_int, sub_int', lt_int', le_int', gt_int', ge_int', eq_int, ne_int, eq_str, ne_str, is_none, isn_none, is_bool, isn_bool, isNoneD, isBoolD, in_lst, in_tup, nin_lst, nin_tup, in_sgn, nin_sgn, len_lst, len_tup, tup_lst, tup_tup, lst_tup, int_int, x_rg1V, d_iRg1, pow18, ix_t0, ix_t1, ix_t2, ix_t3, ix_l0, sSl, Bf.sem, lk, lkD, deOf, lsAt, reOwn, dcAt, putAt, List.mapIdx_cons, List.mapIdx_nil, List.replicate, List.length_cons, List.length_nil, List.map_cons, List.map_nil, List.cons_append, List.nil_append, List.append_nil, List.set, List.getElem?_cons_zero, List.getElem?_cons_succ, List.getElem?_nil, List.getElem?_map, Option.map_some, Option.map_none, Option.getD_some, Option.getD_none, Option.or_some, Option.none_or, Option.some_or, ↓reduceIte, reduceCtorEq, Option.some.injEq, Nat.zero_add, Nat.reduceAdd, Nat.reduceSub, Nat.reduceLeDiff, Nat.reduceEqDiff, Nat.reduceLT, Nat.sub_self, Nat.add_one_sub_one, Bool.not_true, Bool.not_false, Bool.not_not, Bool.and_true, Bool.true_and, Bool.and_false, Bool.false_and, Bool.or_true, Bool.true_or, Bool.or_false, Bool.false_or, Bool.false_eq_true, Bool.not_eq_true', decide_true, decide_false, decide_eq_true_eq])
  obtain ⟨rs', ps, b3, a5, a6, a7, rfl, _⟩ := h2
  exact ⟨rs', ps, b3, a5, a6, a7, h1⟩
theorem pool_s (m : Int) (hm : m ≤ 100000) (hm0 : -1000000 < m) (ns : List Int) (hl : ns.length ≤ 63) : ∃ ps : List Int, m__law_pool [(PyData.list (List.map PyData.int ns)), .int m] = .ret (PyData.list (List.map PyData.int ps)) true .none := by
  have c1 : cutD (ns.map PyData.int) none (some 63) = (ns.take 63).map PyData.int := by
    have := cut_hi (ns.map PyData.int) 63
    rw [List.map_take]
    exact this
  have e9 : den Y__law_pool (.gNm 3) = tgName 3 := rfl
  have e8 : den Y__law_pool (.gNm 5) = tgName 5 := rfl
  have hq := eq_nil (ndcL_int (ns.take 63))
  have hcomp := comp_pure (own := [3]) (tgt := tgName 3) (c := den (k := .C) Y__law_pool .cNil) (e := den Y__law_pool cd__law_pool_e0) (p := fun _ => true) (v := fun d => d) (ρ := [.val (PyData.list (List.map PyData.int ns)), .val (.int m), .no, .no, .no, .no, .no, .no]) ((ns.take 63).map PyData.int) [] (by
    intro d hd
    obtain ⟨i, _, rfl⟩ := List.mem_map.mp hd
    refine ⟨_, rfl, rfl, rfl, fun _ => ⟨false, [.val (PyData.list (List.map PyData.int ns)), .val (.int m), .no, .val (.int i), .no, .no, .no, .no], ?_, rfl⟩⟩
    simp only [cd__law_pool_e0, m__law_pool, cd__law_pool, bind_ok, bind_ex, fl_ok, fl_ex, seq_nx, seq_rt, seq_bk, seq_ct, seq_ex, x_run, fin_nx, fin_rt, fin_ex, exit_none, exit_some, opt_some, d_eVar, d_eMov, d_eInt, d_eStr, d_eBl, d_eNon, d_eGlob, x_q1, x_q2, d_eBin, d_eCmp, d_eIx, chB_b, x_c1, x_c2, x_c4, d_eChain, d_eOne, andB_b, orB_b, d_eAnd, d_eOr, notV_b, d_eNot, x_tupV, x_lstV, d_eTup, d_eLst, x_cbV, d_eCB, retV_ret, retV_ex, retIo_own, retIo_io, x_call0, x_call1, d_eCall, x_isiV, d_eIsi, x_negV, d_eNeg, d_eDicK, d_eDicT, x_sl1, x_sl2, x_sl3, d_eSl, x_o1, d_oNone, d_oSome, x_revV, d_eRevL, x_compV, compFin_ok, d_eComp, d_eCompB, d_ePop, x_valA, d_aVal, d_aRef, d_lNil, x_l1, x_l2, d_lCons, blT_b, d_tE, d_tCmp, d_tChain, d_tW, x_notT, d_tNot, d_wOne, x_andT, x_orT, d_wAnd, d_wOr, d_cNil, d_cOne, itV_l, itV_t, itV_s, d_iIt, d_gNm, d_gTup, x_retS, d_sRet, d_sRetN, x_expS, d_sExp, x_ifS, d_sIf, d_sPass, d_sBrk, d_sCnt, x_asgS, d_sSet, x_tupS, d_sTup, x_appS, d_sApp, x_putS, x_putS2, d_sPut, x_forS, d_sFor, d_sWhile, d_sRaise, hand_nx, hand_rt, hand_ex, d_sTry, d_hNil, d_hCons, hands_nil, hands_cons, noEx_nx, noEx_rt, d_bNil, d_bCons, rho0, fCompB, wipeR, unwipe, sv_no, sv_val, sv_own, AV.ct, slCt, Sl.ct, Sl.od, cts, avVals, x_stOk, pl_no, pl_val, pl_own, slOf, tgAll, k_add, k_sub, k_mul, k_div, k_mod, k_pow, k_eq, k_ne, k_lt, k_le, k_gt, k_ge, k_is, k_isn, k_in, k_nin, isi_non, isi_bl, isi_int, isi_str, isi_lst, isi_tup, isi_dic, add_int, sub_int', lt_int', le_int', gt_int', ge_int', eq_int, ne_int, eq_str, ne_str, is_none, isn_none, is_bool, isn_bool, isNoneD, isBoolD, in_lst, in_tup, nin_lst, nin_tup, in_sgn, nin_sgn, len_lst, len_tup, tup_lst, tup_tup, lst_tup, int_int, x_rg1V, d_iRg1, pow18, ix_t0, ix_t1, ix_t2, ix_t3, ix_l0, sSl, Bf.sem, lk, lkD, deOf, lsAt, reOwn, dcAt, putAt, List.mapIdx_cons, List.mapIdx_nil, List.replicate, List.length_cons, List.length_nil, List.map_cons, List.map_nil, List.cons_append, List.nil_append, List.append_nil, List.set, List.getElem?_cons_zero, List.getElem?_cons_succ, List.getElem?_nil, List.getElem?_map, Option.map_some, Option.map_none, Option.getD_some, Option.getD_none, Option.or_some, Option.none_or, Option.some_or, ↓reduceIte, reduceCtorEq, Option.some.injEq, Nat.zero_add, Nat.reduceAdd, Nat.reduceSub, Nat.reduceLeDiff, Nat.reduceEqDiff, Nat.reduceLT, Nat.sub_self, Nat.add_one_sub_one, Bool.not_true, Bool.not_false, Bool.not_not, Bool.and_true, Bool.true_and, Bool.and_false, Bool.false_and, Bool.or_true, Bool.true_or, Bool.or_false, Bool.false_or, Bool.false_eq_true, Bool.not_eq_true', decide_true, decide_false, decide_eq_true_eq]) (by simp; omega)
  have hfl : ∀ l : List D, (l.filter fun _ => true).map (fun d => d) = l := by intro l; simp
  rw [hfl, List.nil_append] at hcomp
  have c300 : (m < 1000000 ∧ (-1000000 : Int) < m) := ⟨by omega, hm0⟩
  cases hn : ns.take 63 with
  | nil =>
    rw [hn] at hcomp hq c1
    obtain ⟨rs', ps, c3, a5, a6, a7, h1⟩ := pool_loop m hm (PyData.list (List.map PyData.int ns)) (.int m) [0] (by simp) (by simp) .no rfl
    refine ⟨ps.reverse, ?_⟩
    simp only [List.map_nil, List.isEmpty_nil] at hq hcomp c1
    simp only [List.map_cons, List.map_nil] at h1
    simp only [m__law_pool, cd__law_pool, c1, e9, e8, hcomp, hq, c300, and_self, h1, List.map_reverse, bind_ok, bind_ex, fl_ok, fl_ex, seq_nx, seq_rt, seq_bk, seq_ct, seq_ex, x_run, fin_nx, fin_rt, fin_ex, exit_none, exit_some, opt_some, d_eVar, d_eMov, d_eInt, d_eStr, d_eBl, d_eNon, d_eGlob, x_q1, x_q2, d_eBin, d_eCmp, d_eIx, chB_b, x_c1, x_c2, x_c4, d_eChain, d_eOne, andB_b, orB_b, d_eAnd, d_eOr, notV_b, d_eNot, x_tupV, x_lstV, d_eTup, d_eLst, x_cbV, d_eCB, retV_ret, retV_ex, retIo_own, retIo_io, x_call0, x_call1, d_eCall, x_isiV, d_eIsi, x_negV, d_eNeg, d_eDicK, d_eDicT, x_sl1, x_sl2, x_sl3, d_eSl, x_o1, d_oNone, d_oSome, x_revV, d_eRevL, x_compV, compFin_ok, d_eComp, d_eCompB, d_ePop, x_valA, d_aVal, d_aRef, d_lNil, x_l1, x_l2, d_lCons, blT_b, d_tE, d_tCmp, d_tChain, d_tW, x_notT, d_tNot, d_wOne, x_andT, x_orT, d_wAnd, d_wOr, d_cNil, d_cOne, itV_l, itV_t, itV_s, d_iIt, d_gNm, d_gTup, x_retS, d_sRet, d_sRetN, x_expS, d_sExp, x_ifS, d_sIf, d_sPass, d_sBrk, d_sCnt, x_asgS, d_sSet, x_tupS, d_sTup, x_appS, d_sApp, x_putS, x_putS2, d_sPut, x_forS, d_sFor, d_sWhile, d_sRaise, hand_nx, hand_rt, hand_ex, d_sTry, d_hNil, d_hCons, hands_nil, hands_cons, noEx_nx, noEx_rt, d_bNil, d_bCons, rho0, fCompB, wipeR, unwipe, sv_no, sv_val, sv_own, AV.ct, slCt, Sl.ct, Sl.od, cts, avVals, x_stOk, pl_no, pl_val, pl_own, slOf, tgAll, k_add, k_sub, k_mul, k_div, k_mod, k_pow, k_eq, k_ne, k_lt, k_le, k_gt, k_ge, k_is, k_isn, k_in, k_nin, isi_non, isi_bl, isi_int, isi_str, isi_lst, isi_tup, isi_dic, add_int, sub_int', lt_int', le_int', gt_int', ge_int', eq_int, ne_int, eq_str, ne_str, is_none, isn_none, is_bool, isn_bool, isNoneD, isBoolD, in_lst, in_tup, nin_lst, nin_tup, in_sgn, nin_sgn, len_lst, len_tup, tup_lst, tup_tup, lst_tup, int_int, x_rg1V, d_iRg1, pow18, ix_t0, ix_t1, ix_t2, ix_t3, ix_l0, sSl, Bf.sem, lk, lkD, deOf, lsAt, reOwn, dcAt, putAt, List.mapIdx_cons, List.mapIdx_nil, List.replicate, List.length_cons, List.length_nil, List.map_cons, List.map_nil, List.cons_append, List.nil_append, List.append_nil, List.set, List.getElem?_cons_zero, List.getElem?_cons_succ, List.getElem?_nil, List.getElem?_map, Option.map_some, Option.map_none, Option.getD_some, Option.getD_none, Option.or_some, Option.none_or, Option.some_or, ↓reduceIte, reduceCtorEq, Option.some.injEq, Nat.zero_add, Nat.reduceAdd, Nat.reduceSub, Nat.reduceLeDiff, Nat.reduceEqDiff, Nat.reduceLT, Nat.sub_self, Nat.add_one_sub_one, Bool.not_true, Bool.not_false, Bool.not_not, Bool.and_true, Bool.true_and, Bool.and_false, Bool.false_and, Bool.or_true, Bool.true_or, Bool.or_false, Bool.false_or, Bool.false_eq_true, Bool.not_eq_true', decide_true, decide_false, decide_eq_true_eq]
  | cons x r =>
    rw [hn] at hcomp hq c1
    obtain ⟨rs', ps, c3, a5, a6, a7, h1⟩ := pool_loop m hm (PyData.list (List.map PyData.int ns)) (.int m) (x :: r) (by simp) (by rw [← hn]; simp; omega) .no rfl
    refine ⟨ps.reverse, ?_⟩
    have e0 : ((x :: r).map PyData.int).isEmpty = false := rfl
    rw [e0] at hq
    generalize hW : x :: r = W at hcomp hq c1 h1
    simp only [m__law_pool, cd__law_pool, c1, e9, e8, hcomp, hq, c300, and_self, h1, List.map_reverse, bind_ok, bind_ex, fl_ok, fl_ex, seq_nx, seq_rt, seq_bk, seq_ct, seq_ex, x_run, fin_nx, fin_rt, fin_ex, exit_none, exit_some, opt_some, d_eVar, d_eMov, d_eInt, d_eStr, d_eBl, d_eNon, d_eGlob, x_q1, x_q2, d_eBin, d_eCmp, d_eIx, chB_b, x_c1, x_c2, x_c4, d_eChain, d_eOne, andB_b, orB_b, d_eAnd, d_eOr, notV_b, d_eNot, x_tupV, x_lstV, d_eTup, d_eLst, x_cbV, d_eCB, retV_ret, retV_ex, retIo_own, retIo_io, x_call0, x_call1, d_eCall, x_isiV, d_eIsi, x_negV, d_eNeg, d_eDicK, d_eDicT, x_sl1, x_sl2, x_sl3, d_eSl, x_o1, d_oNone, d_oSome, x_revV, d_eRevL, x_compV, compFin_ok, d_eComp, d_eCompB, d_ePop, x_valA, d_aVal, d_aRef, d_lNil, x_l1, x_l2, d_lCons, blT_b, d_tE, d_tCmp, d_tChain, d_tW, x_notT, d_tNot, d_wOne, x_andT, x_orT, d_wAnd, d_wOr, d_cNil, d_cOne, itV_l, itV_t, itV_s, d_iIt, d_gNm, d_gTup, x_retS, d_sRet, d_sRetN, x_expS, d_sExp, x_ifS, d_sIf, d_sPass, d_sBrk, d_sCnt, x_asgS, d_sSet, x_tupS, d_sTup, x_appS, d_sApp, x_putS, x_putS2, d_sPut, x_forS, d_sFor, d_sWhile, d_sRaise, hand_nx, hand_rt, hand_ex, d_sTry, d_hNil, d_hCons, hands_nil, hands_cons, noEx_nx, noEx_rt, d_bNil, d_bCons, rho0, fCompB, wipeR, unwipe, sv_no, sv_val, sv_own, AV.ct, slCt, Sl.ct, Sl.od, cts, avVals, x_stOk, pl_no, pl_val, pl_own, slOf, tgAll, k_add, k_sub, k_mul, k_div, k_mod, k_pow, k_eq, k_ne, k_lt, k_le, k_gt, k_ge, k_is, k_isn, k_in, k_nin, isi_non, isi_bl, isi_int, isi_str, isi_lst, isi_tup, isi_dic, add_int, sub_int', lt_int', le_int', gt_int', ge_int', eq_int, ne_int, eq_str, ne_str, is_none, isn_none, is_bool, isn_bool, isNoneD, isBoolD, in_lst, in_tup, nin_lst, nin_tup, in_sgn, nin_sgn, len_lst, len_tup, tup_lst, tup_tup, lst_tup, int_int, x_rg1V, d_iRg1, pow18, ix_t0, ix_t1, ix_t2, ix_t3, ix_l0, sSl, Bf.sem, lk, lkD, deOf, lsAt, reOwn, dcAt, putAt, List.mapIdx_cons, List.mapIdx_nil, List.replicate, List.length_cons, List.length_nil, List.map_cons, List.map_nil, List.cons_append, List.nil_append, List.append_nil, List.set, List.getElem?_cons_zero, List.getElem?_cons_succ, List.getElem?_nil, List.getElem?_map, Option.map_some, Option.map_none, Option.getD_some, Option.getD_none, Option.or_some, Option.none_or, Option.some_or, ↓reduceIte, reduceCtorEq, Option.some.injEq, Nat.zero_add, Nat.reduceAdd, Nat.reduceSub, Nat.reduceLeDiff, Nat.reduceEqDiff, Nat.reduceLT, Nat.sub_self, Nat.add_one_sub_one, Bool.not_true, Bool.not_false, Bool.not_not, Bool.and_true, Bool.true_and, Bool.and_false, Bool.false_and, Bool.or_true, Bool.true_or, Bool.or_false, Bool.false_or, Bool.false_eq_true, Bool.not_eq_true', decide_true, decide_false, decide_eq_true_eq]
end PV.Lw
namespace PV.Lw
open PySem L2 PV

abbrev zL : Str := Str.ofString "abcdefghijklmnopqrstuvwxyz"
abbrev zD : Str := Str.ofString "0123456789"
def zS : Str := zL ++ zD
theorem zL_len : zL.length = 26 := by decide +kernel
theorem zD_len : zD.length = 10 := by decide +kernel
theorem zS_len : zS.length = 36 := by unfold zS; rw [app_len, zL_len, zD_len]
theorem zS_ok {c : Nat} (h : c ∈ zS.cps.toList) : okC c = true := by
  unfold zS at h
  rw [app_list, List.mem_append] at h
  unfold okC
  rcases h with h | h
  · rw [decide_eq_true h]; rfl
  · rw [decide_eq_true (show c ∈ DIG from h), Bool.or_true]
theorem zS_nd : zS.cps.toList.Nodup := by decide +kernel
/-- a word in the making -/
structure WP (w : Str) (n : Nat) : Prop where
  len : w.length = n
  f : okF w.cps.toList = true
  a : w.cps.toList.all okC = true
theorem okF_app {l m : List Nat} (h : okF l = true) : okF (l ++ m) = true := by
  cases l with
  | nil => cases h
  | cons a l => exact h
theorem WP.snoc {w : Str} {n c : Nat} (h : WP w n) (hc : okC c = true) : WP (w ++ ⟨#[c]⟩) (n + 1) := by
  refine ⟨by rw [app_len, h.len, one_len], ?_, ?_⟩
  · rw [app_list]; exact okF_app h.f
  · rw [app_list, List.all_append, h.a, one_list]
    simp [hc]
theorem WP.wordB {w : Str} {n : Nat} (h : WP w n) (h1 : 1 ≤ n) (h2 : n ≤ 12) : wordB w = true := by
  unfold Lw.wordB
  rw [h.len, decide_eq_true h1, decide_eq_true h2, h.f, h.a]; rfl
theorem WP.one {c : Nat} (h : c ∈ LET) : WP ⟨#[c]⟩ 1 := by
  refine ⟨rfl, ?_, ?_⟩
  · rw [one_list]; unfold okF; exact decide_eq_true h
  · rw [one_list]
    have : okC c = true := by unfold okC; rw [decide_eq_true h]; rfl
    simp [this]
theorem WP.cut {w : Str} {n : Nat} (h : WP w n) (h1 : 1 ≤ n) (h2 : n ≤ 12) : ∃ m, 1 ≤ m ∧ m ≤ 11 ∧ WP (cutS w none (some 11)) m := by
  have e : (cutS w none (some 11)).cps.toList = w.cps.toList.take 11 := cut_take w 11
  have hl : w.cps.toList.length = n := by rw [← len_list]; exact h.len
  refine ⟨min 11 n, by omega, by omega, ?_, ?_, ?_⟩
  · rw [len_list, e, List.length_take, hl]
  · rw [e]
    have hf := h.f
    cases hw : w.cps.toList with
    | nil => rw [hw] at hl; simp at hl; omega
    | cons a l => rw [hw] at hf; exact hf
  · rw [e, List.all_eq_true]
    intro c hc
    have := h.a
    rw [List.all_eq_true] at this
    exact this c (List.mem_of_mem_take hc)
/-! the inner loop -/
theorem grow_step (ps : List Int) (a1 a2 : D) (W : Sl) (a5 a7 a8 a9 a10 : Sl) (w : Str) (n : Nat) (h : WP w n) (hn : n ≤ 1000) :
    ∃ (w' : Str) (ps' : List Int), den (k := .B) Y__law_words cd__law_words_b0 [.io (PyData.list (List.map PyData.int ps)), .val a1, .val a2, .val (.str zS), W, a5, .val (.str w), a7, a8, a9, a10] = .nx [.io (PyData.list (List.map PyData.int ps')), .val a1, .val a2, .val (.str zS), W, a5, .val (.str w'), a7, a8, a9, a10] ∧ WP w' (n + 1) := by
  obtain ⟨r, ps', h1, h2, h3⟩ := take_s ps 36 (by decide)
  obtain ⟨c, hc, h4⟩ := ix_str (z := zS) (i := r) (by rw [zS_len]; decide) h2 (by rw [zS_len]; exact h3)
  refine ⟨w ++ ⟨#[c]⟩, ps', ?_, h.snoc (zS_ok hc)⟩
  have ha := add_str (a := w) (b := ⟨#[c]⟩) (by rw [h.len, one_len]; omega)
  simp only [cd__law_words_b0, m__law_words, cd__law_words, ys__law_words_0, h1, h4, ha, bind_ok, bind_ex, fl_ok, fl_ex, seq_nx, seq_rt, seq_bk, seq_ct, seq_ex, x_run, fin_nx, fin_rt, fin_ex, exit_none, exit_some, opt_some, d_eVar, d_eMov, d_eInt, d_eStr, d_eBl, d_eNon, d_eGlob, x_q1, x_q2, d_eBin, d_eCmp, d_eIx, chB_b, x_c1, x_c2, x_c4, d_eChain, d_eOne, andB_b, orB_b, d_eAnd, d_eOr, notV_b, d_eNot, x_tupV, x_lstV, d_eTup, d_eLst, x_cbV, d_eCB, retV_ret, retV_ex, retIo_own, retIo_io, x_call0, x_call1, d_eCall, x_isiV, d_eIsi, x_negV, d_eNeg, d_eDicK, d_eDicT, x_sl1, x_sl2, x_sl3, d_eSl, x_o1, d_oNone, d_oSome, x_revV, d_eRevL, x_compV, compFin_ok, d_eComp, d_eCompB, d_ePop, x_valA, d_aVal, d_aRef, d_lNil, x_l1, x_l2, d_lCons, blT_b, d_tE, d_tCmp, d_tChain, d_tW, x_notT, d_tNot, d_wOne, x_andT, x_orT, d_wAnd, d_wOr, d_cNil, d_cOne, itV_l, itV_t, itV_s, d_iIt, d_gNm, d_gTup, x_retS, d_sRet, d_sRetN, x_expS, d_sExp, x_ifS, d_sIf, d_sPass, d_sBrk, d_sCnt, x_asgS, d_sSet, x_tupS, d_sTup, x_appS, d_sApp, x_putS, x_putS2, d_sPut, x_forS, d_sFor, d_sWhile, d_sRaise, hand_nx, hand_rt, hand_ex, d_sTry, d_hNil, d_hCons, hands_nil, hands_cons, noEx_nx, noEx_rt, d_bNil, d_bCons, rho0, fCompB, wipeR, unwipe, sv_no, sv_val, sv_own, AV.ct, slCt, Sl.ct, Sl.od, cts, avVals, x_stOk, pl_no, pl_val, pl_own, slOf, tgAll, k_add, k_sub, k_mul, k_div, k_mod, k_pow, k_eq, k_ne, k_lt, k_le, k_gt, k_ge, k_is, k_isn, k_in, k_nin, isi_non, isi_bl, isi_int, isi_str, isi_lst, isi_tup, isi_dic, add_int, sub_int', lt_int', le_int', gt_int', ge_int', eq_int, ne_int, eq_str, ne_str, is_none, isn_none, is_bool, isn_bool, isNoneD, isBoolD, in_lst, in_tup, nin_lst, nin_tup, in_sgn, nin_sgn, len_lst, len_tup, tup_lst, tup_tup, lst_tup, int_int, x_rg1V, d_iRg1, pow18, ix_t0, ix_t1, ix_t2, ix_t3, ix_l0, sSl, Bf.sem, lk, lkD, deOf, lsAt, reOwn, dcAt, putAt, List.mapIdx_cons, List.mapIdx_nil, List.replicate, List.length_cons, List.length_nil, List.map_cons, List.map_nil, List.cons_append, List.nil_append, List.append_nil, List.set, List.getElem?_cons_zero, List.getElem?_cons_succ, List.getElem?_nil, List.getElem?_map, Option.map_some, Option.map_none, Option.getD_some, Option.getD_none, Option.or_some, Option.none_or, Option.some_or, ↓reduceIte, reduceCtorEq, Option.some.injEq, Nat.zero_add, Nat.reduceAdd, Nat.reduceSub, Nat.reduceLeDiff, Nat.reduceEqDiff, Nat.reduceLT, Nat.sub_self, Nat.add_one_sub_one, Bool.not_true, Bool.not_false, Bool.not_not, Bool.and_true, Bool.true_and, Bool.and_false, Bool.false_and, Bool.or_true, Bool.true_or, Bool.or_false, Bool.false_or, Bool.false_eq_true, Bool.not_eq_true', decide_true, decide_false, decide_eq_true_eq]
theorem grow_loop (a1 a2 : D) (W : Sl) (a5 a7 a9 a10 : Sl) (m : Int) (hm : m ≤ 11) (ps : List Int) (w : Str) (a8 : Sl) (h8 : pl a8 = true) (h : WP w 1) :
    ∃ (w' : Str) (ps' : List Int) (b8 : Sl), forLoop (tgName 8) (den (k := .B) Y__law_words cd__law_words_b0) (rgD 0 m) [.io (PyData.list (List.map PyData.int ps)), .val a1, .val a2, .val (.str zS), W, a5, .val (.str w), a7, a8, a9, a10] = .nx [.io (PyData.list (List.map PyData.int ps')), .val a1, .val a2, .val (.str zS), W, a5, .val (.str w'), a7, b8, a9, a10] ∧ WP w' (1 + m.toNat) ∧ pl b8 = true := by
  obtain ⟨ρ', h1, h2⟩ := for_inv (tgt := tgName 8) (body := den (k := .B) Y__law_words cd__law_words_b0) (fun n ρ => ∃ (w : Str) (ps : List Int) (a8 : Sl), ρ = [.io (PyData.list (List.map PyData.int ps)), .val a1, .val a2, .val (.str zS), W, a5, .val (.str w), a7, a8, a9, a10] ∧ WP w (1 + n) ∧ pl a8 = true) (rgD 0 m) 0 _ ⟨w, ps, a8, rfl, h, h8⟩ (by
    intro j d ρ hd hI
    obtain ⟨w, ps, a8, rfl, h1, h8⟩ := hI
    obtain ⟨rfl, hj⟩ := rg_get hd
    obtain ⟨w', ps', e1, e2⟩ := grow_step ps a1 a2 W a5 a7 (.val (.int (0 + (j : Int)))) a9 a10 w (1 + (0 + j)) h1 (by omega)
    refine ⟨_, _, ?_, e1, w', ps', _, rfl, e2, rfl⟩
    simp only [tgName, h8, bind_ok, bind_ex, fl_ok, fl_ex, seq_nx, seq_rt, seq_bk, seq_ct, seq_ex, x_run, fin_nx, fin_rt, fin_ex, exit_none, exit_some, opt_some, d_eVar, d_eMov, d_eInt, d_eStr, d_eBl, d_eNon, d_eGlob, x_q1, x_q2, d_eBin, d_eCmp, d_eIx, chB_b, x_c1, x_c2, x_c4, d_eChain, d_eOne, andB_b, orB_b, d_eAnd, d_eOr, notV_b, d_eNot, x_tupV, x_lstV, d_eTup, d_eLst, x_cbV, d_eCB, retV_ret, retV_ex, retIo_own, retIo_io, x_call0, x_call1, d_eCall, x_isiV, d_eIsi, x_negV, d_eNeg, d_eDicK, d_eDicT, x_sl1, x_sl2, x_sl3, d_eSl, x_o1, d_oNone, d_oSome, x_revV, d_eRevL, x_compV, compFin_ok, d_eComp, d_eCompB, d_ePop, x_valA, d_aVal, d_aRef, d_lNil, x_l1, x_l2, d_lCons, blT_b, d_tE, d_tCmp, d_tChain, d_tW, x_notT, d_tNot, d_wOne, x_andT, x_orT, d_wAnd, d_wOr, d_cNil, d_cOne, itV_l, itV_t, itV_s, d_iIt, d_gNm, d_gTup, x_retS, d_sRet, d_sRetN, x_expS, d_sExp, x_ifS, d_sIf, d_sPass, d_sBrk, d_sCnt, x_asgS, d_sSet, x_tupS, d_sTup, x_appS, d_sApp, x_putS, x_putS2, d_sPut, x_forS, d_sFor, d_sWhile, d_sRaise, hand_nx, hand_rt, hand_ex, d_sTry, d_hNil, d_hCons, hands_nil, hands_cons, noEx_nx, noEx_rt, d_bNil, d_bCons, rho0, fCompB, wipeR, unwipe, sv_no, sv_val, sv_own, AV.ct, slCt, Sl.ct, Sl.od, cts, avVals, x_stOk, pl_no, pl_val, pl_own, slOf, tgAll, k_add, k_sub, k_mul, k_div, k_mod, k_pow, k_eq, k_ne, k_lt, k_le, k_gt, k_ge, k_is, k_isn, k_in, k_nin, isi_non, isi_bl, isi_int, isi_str, isi_lst, isi_tup, isi_dic, add_int, sub_int', lt_int', le_int', gt_int', ge_int', eq_int, ne_int, eq_str, ne_str, is_none, isn_none, is_bool, isn_bool, isNoneD, isBoolD, in_lst, in_tup, nin_lst, nin_tup, in_sgn, nin_sgn, len_lst, len_tup, tup_lst, tup_tup, lst_tup, int_int, x_rg1V, d_iRg1, pow18, ix_t0, ix_t1, ix_t2, ix_t3, ix_l0, sSl, Bf.sem, lk, lkD, deOf, lsAt, reOwn, dcAt, putAt, List.mapIdx_cons, List.mapIdx_nil, List.replicate, List.length_cons, List.length_nil, List.map_cons, List.map_nil, List.cons_append, List.nil_append, List.append_nil, List.set, List.getElem?_cons_zero, List.getElem?_cons_succ, List.getElem?_nil, List.getElem?_map, Option.map_some, Option.map_none, Option.getD_some, Option.getD_none, Option.or_some, Option.none_or, Option.some_or, ↓reduceIte, reduceCtorEq, Option.some.injEq, Nat.zero_add, Nat.reduceAdd, Nat.reduceSub, Nat.reduceLeDiff, Nat.reduceEqDiff, Nat.reduceLT, Nat.sub_self, Nat.add_one_sub_one, Bool.not_true, Bool.not_false, Bool.not_not, Bool.and_true, Bool.true_and, Bool.and_false, Bool.false_and, Bool.or_true, Bool.true_or, Bool.or_false, Bool.false_or, Bool.false_eq_true, Bool.not_eq_true', decide_true, decide_false, decide_eq_true_eq])
  obtain ⟨w', ps', b8, rfl, h3, h4⟩ := h2
  rw [rg_len, Nat.zero_add, Int.sub_zero] at h3
  exact ⟨w', ps', b8, h1, h3, h4⟩
/-! the spare -/
def spP (W : Str) (ws : List Str) (d : D) : Bool := match d with
  | .str z => !decide (W ++ z ∈ ws)
  | _ => false
def spV (W : Str) (d : D) : D := match d with
  | .str z => .str (W ++ z)
  | _ => .none
theorem spare_some (W : Str) (ws : List Str) (hl : ws.length < 36) : ∃ (c : Nat) (r : List D), c ∈ zS.cps.toList ∧ ¬ (W ++ ⟨#[c]⟩ : Str) ∈ ws ∧ ((chD zS).filter (spP W ws)).map (spV W) = .str (W ++ ⟨#[c]⟩) :: r := by
  have hx : ∃ c, c ∈ zS.cps.toList ∧ ¬ (W ++ ⟨#[c]⟩ : Str) ∈ ws := by
    refine Classical.byContradiction fun hno => ?_
    have hall : ∀ c ∈ zS.cps.toList, (W ++ ⟨#[c]⟩ : Str) ∈ ws := fun c hc => Classical.byContradiction fun z => hno ⟨c, hc, z⟩
    have hnd : (zS.cps.toList.map fun c => (W ++ ⟨#[c]⟩ : Str)).Nodup := by
      refine List.Pairwise.map _ (fun a b hne hab => hne ?_) zS_nd
      have h1 := congrArg (fun z : Str => z.cps.toList) hab
      simp only [app_list, one_list] at h1
      have h2 := List.append_cancel_left h1
      exact (List.cons.inj h2).1
    have := nodup_le hnd fun x hx => by
      obtain ⟨c, hc, rfl⟩ := List.mem_map.mp hx
      exact hall c hc
    rw [List.length_map, ← len_list, zS_len] at this
    omega
  obtain ⟨c, hc, hn⟩ := hx
  have hm : (.str ⟨#[c]⟩ : D) ∈ (chD zS).filter (spP W ws) := by
    rw [List.mem_filter]
    refine ⟨by unfold chD; exact List.mem_map.mpr ⟨c, hc, rfl⟩, ?_⟩
    show (!decide _) = true
    rw [decide_eq_false hn]; rfl
  cases hf : (chD zS).filter (spP W ws) with
  | nil => rw [hf] at hm; cases hm
  | cons d r =>
    have hd : d ∈ (chD zS).filter (spP W ws) := by rw [hf]; exact List.mem_cons_self
    rw [List.mem_filter] at hd
    obtain ⟨h1, h2⟩ := hd
    unfold chD at h1
    obtain ⟨c', hc', rfl⟩ := List.mem_map.mp h1
    refine ⟨c', r.map (spV W), hc', ?_, rfl⟩
    have h3 : (!decide ((W ++ ⟨#[c']⟩ : Str) ∈ ws)) = true := h2
    simpa using h3
/-! one word more -/
def WsInv (a1 : D) (n : Nat) (ρ : Rho) : Prop := ∃ (ps : List Int) (ws : List Str) (s5 s6 s7 s8 s9 s10 : Sl), ρ = [.io (PyData.list (List.map PyData.int ps)), .val a1, .val (.str zL), .val (.str zS), .own (PyData.list (List.map PyData.str ws)), s5, s6, s7, s8, s9, s10] ∧ ws.Nodup ∧ ws.length = n ∧ (∀ w ∈ ws, wordB w = true) ∧
  pl s5 = true ∧ pl s6 = true ∧ pl s7 = true ∧ pl s8 = true ∧ pl s9 = true ∧ pl s10 = true
theorem word_step (a1 : D) (n : Nat) (hn : n < 12) (ps : List Int) (ws : List Str) (s5 s6 s7 s8 s9 s10 : Sl) (hnd : ws.Nodup) (hlen : ws.length = n) (hok : ∀ w ∈ ws, wordB w = true) (h5 : pl s5 = true) (h6 : pl s6 = true) (h7 : pl s7 = true) (h8 : pl s8 = true) (h9 : pl s9 = true) (h10 : pl s10 = true) :
    ∃ ρ', den (k := .B) Y__law_words cd__law_words_b1 [.io (PyData.list (List.map PyData.int ps)), .val a1, .val (.str zL), .val (.str zS), .own (PyData.list (List.map PyData.str ws)), s5, s6, s7, s8, s9, s10] = .nx ρ' ∧ WsInv a1 (n + 1) ρ' := by
  obtain ⟨r1, ps1, t1, t2, t3⟩ := take_s ps 26 (by decide)
  obtain ⟨c, hc, hix⟩ := ix_str (z := zL) (i := r1) (by rw [zL_len]; decide) t2 (by rw [zL_len]; exact t3)
  obtain ⟨r2, ps2, t4, t5, t6⟩ := take_s ps1 3 (by decide)
  obtain ⟨r3, ps3, t7, t8, t9⟩ := take_s ps2 5 (by decide)
  obtain ⟨r4, ps4, t10, t11, t12⟩ := take_s ps3 12 (by decide)
  have e8 : den Y__law_words (.gNm 8) = tgName 8 := rfl
  have e10 : den Y__law_words (.gNm 10) = tgName 10 := rfl
  -- the size that is used, and the pool behind it
  have hsz : ∃ (m : Int) (q : List Int), 0 ≤ m ∧ m ≤ 11 ∧ ((r3 = 4 ∧ m = r4 ∧ q = ps4) ∨ (¬ r3 = 4 ∧ m = r2 ∧ q = ps3)) := by
    by_cases h : r3 = 4
    · exact ⟨r4, ps4, t11, by omega, .inl ⟨h, rfl, rfl⟩⟩
    · exact ⟨r2, ps3, t5, by omega, .inr ⟨h, rfl, rfl⟩⟩
  obtain ⟨m, q, hm0, hm1, hcase⟩ := hsz
  obtain ⟨w, ps5, b8, g1, g2, g3⟩ := grow_loop a1 (.str zL) (.own (PyData.list (List.map PyData.str ws))) s5 (.val (.int m)) s9 s10 m hm1 q ⟨#[c]⟩ s8 h8 (WP.one hc)
  have hmr : (m < 1000000 ∧ (-1000000 : Int) < m) := ⟨by omega, by omega⟩
  have hw1 : 1 ≤ 1 + m.toNat := by omega
  have hw2 : 1 + m.toNat ≤ 12 := by omega
  obtain ⟨k, hk1, hk2, hcut⟩ := g2.cut hw1 hw2
  have hwl : w.length ≤ 1000000 := by rw [g2.len]; omega
  have hk3 : 1 ≤ k + 1 := by omega
  have hk4 : k + 1 ≤ 12 := by omega
  have hcomp := comp_pure (own := [10]) (tgt := tgName 10) (c := den (k := .C) Y__law_words cd__law_words_c0) (e := den Y__law_words cd__law_words_e0) (p := spP (cutS w none (some 11)) ws) (v := spV (cutS w none (some 11))) (ρ := [.io (PyData.list (List.map PyData.int ps5)), .val a1, .val (.str zL), .val (.str zS), .own (PyData.list (List.map PyData.str ws)), s5, .val (.str w), .val (.int m), b8, s9, .no]) (chD zS) [] (by
    intro d hd
    unfold chD at hd
    obtain ⟨c', hc', rfl⟩ := List.mem_map.mp hd
    have ha := add_str (a := cutS w none (some 11)) (b := ⟨#[c']⟩) (by rw [hcut.len, one_len]; omega)
    refine ⟨[.io (PyData.list (List.map PyData.int ps5)), .val a1, .val (.str zL), .val (.str zS), .own (PyData.list (List.map PyData.str ws)), s5, .val (.str w), .val (.int m), b8, s9, .val (.str ⟨#[c']⟩)], rfl, ?_, rfl, fun _ => ⟨false, [.io (PyData.list (List.map PyData.int ps5)), .val a1, .val (.str zL), .val (.str zS), .own (PyData.list (List.map PyData.str ws)), s5, .val (.str w), .val (.int m), b8, s9, .val (.str ⟨#[c']⟩)], ?_, rfl⟩⟩
    · simp only [cd__law_words_c0, m__law_words, cd__law_words, ys__law_words_0, hwl, ha, spP, bind_ok, bind_ex, fl_ok, fl_ex, seq_nx, seq_rt, seq_bk, seq_ct, seq_ex, x_run, fin_nx, fin_rt, fin_ex, exit_none, exit_some, opt_some, d_eVar, d_eMov, d_eInt, d_eStr, d_eBl, d_eNon, d_eGlob, x_q1, x_q2, d_eBin, d_eCmp, d_eIx, chB_b, x_c1, x_c2, x_c4, d_eChain, d_eOne, andB_b, orB_b, d_eAnd, d_eOr, notV_b, d_eNot, x_tupV, x_lstV, d_eTup, d_eLst, x_cbV, d_eCB, retV_ret, retV_ex, retIo_own, retIo_io, x_call0, x_call1, d_eCall, x_isiV, d_eIsi, x_negV, d_eNeg, d_eDicK, d_eDicT, x_sl1, x_sl2, x_sl3, d_eSl, x_o1, d_oNone, d_oSome, x_revV, d_eRevL, x_compV, compFin_ok, d_eComp, d_eCompB, d_ePop, x_valA, d_aVal, d_aRef, d_lNil, x_l1, x_l2, d_lCons, blT_b, d_tE, d_tCmp, d_tChain, d_tW, x_notT, d_tNot, d_wOne, x_andT, x_orT, d_wAnd, d_wOr, d_cNil, d_cOne, itV_l, itV_t, itV_s, d_iIt, d_gNm, d_gTup, x_retS, d_sRet, d_sRetN, x_expS, d_sExp, x_ifS, d_sIf, d_sPass, d_sBrk, d_sCnt, x_asgS, d_sSet, x_tupS, d_sTup, x_appS, d_sApp, x_putS, x_putS2, d_sPut, x_forS, d_sFor, d_sWhile, d_sRaise, hand_nx, hand_rt, hand_ex, d_sTry, d_hNil, d_hCons, hands_nil, hands_cons, noEx_nx, noEx_rt, d_bNil, d_bCons, rho0, fCompB, wipeR, unwipe, sv_no, sv_val, sv_own, AV.ct, slCt, Sl.ct, Sl.od, cts, avVals, x_stOk, pl_no, pl_val, pl_own, slOf, tgAll, k_add, k_sub, k_mul, k_div, k_mod, k_pow, k_eq, k_ne, k_lt, k_le, k_gt, k_ge, k_is, k_isn, k_in, k_nin, isi_non, isi_bl, isi_int, isi_str, isi_lst, isi_tup, isi_dic, add_int, sub_int', lt_int', le_int', gt_int', ge_int', eq_int, ne_int, eq_str, ne_str, is_none, isn_none, is_bool, isn_bool, isNoneD, isBoolD, in_lst, in_tup, nin_lst, nin_tup, in_sgn, nin_sgn, len_lst, len_tup, tup_lst, tup_tup, lst_tup, int_int, x_rg1V, d_iRg1, pow18, ix_t0, ix_t1, ix_t2, ix_t3, ix_l0, sSl, Bf.sem, lk, lkD, deOf, lsAt, reOwn, dcAt, putAt, List.mapIdx_cons, List.mapIdx_nil, List.replicate, List.length_cons, List.length_nil, List.map_cons, List.map_nil, List.cons_append, List.nil_append, List.append_nil, List.set, List.getElem?_cons_zero, List.getElem?_cons_succ, List.getElem?_nil, List.getElem?_map, Option.map_some, Option.map_none, Option.getD_some, Option.getD_none, Option.or_some, Option.none_or, Option.some_or, ↓reduceIte, reduceCtorEq, Option.some.injEq, Nat.zero_add, Nat.reduceAdd, Nat.reduceSub, Nat.reduceLeDiff, Nat.reduceEqDiff, Nat.reduceLT, Nat.sub_self, Nat.add_one_sub_one, Bool.not_true, Bool.not_false, Bool.not_not, Bool.and_true, Bool.true_and, Bool.and_false, Bool.false_and, Bool.or_true, Bool.true_or, Bool.or_false, Bool.false_or, Bool.false_eq_true, Bool.not_eq_true', decide_true, decide_false, decide_eq_true_eq]
    · simp only [cd__law_words_e0, m__law_words, cd__law_words, ys__law_words_0, hwl, ha, spV, bind_ok, bind_ex, fl_ok, fl_ex, seq_nx, seq_rt, seq_bk, seq_ct, seq_ex, x_run, fin_nx, fin_rt, fin_ex, exit_none, exit_some, opt_some, d_eVar, d_eMov, d_eInt, d_eStr, d_eBl, d_eNon, d_eGlob, x_q1, x_q2, d_eBin, d_eCmp, d_eIx, chB_b, x_c1, x_c2, x_c4, d_eChain, d_eOne, andB_b, orB_b, d_eAnd, d_eOr, notV_b, d_eNot, x_tupV, x_lstV, d_eTup, d_eLst, x_cbV, d_eCB, retV_ret, retV_ex, retIo_own, retIo_io, x_call0, x_call1, d_eCall, x_isiV, d_eIsi, x_negV, d_eNeg, d_eDicK, d_eDicT, x_sl1, x_sl2, x_sl3, d_eSl, x_o1, d_oNone, d_oSome, x_revV, d_eRevL, x_compV, compFin_ok, d_eComp, d_eCompB, d_ePop, x_valA, d_aVal, d_aRef, d_lNil, x_l1, x_l2, d_lCons, blT_b, d_tE, d_tCmp, d_tChain, d_tW, x_notT, d_tNot, d_wOne, x_andT, x_orT, d_wAnd, d_wOr, d_cNil, d_cOne, itV_l, itV_t, itV_s, d_iIt, d_gNm, d_gTup, x_retS, d_sRet, d_sRetN, x_expS, d_sExp, x_ifS, d_sIf, d_sPass, d_sBrk, d_sCnt, x_asgS, d_sSet, x_tupS, d_sTup, x_appS, d_sApp, x_putS, x_putS2, d_sPut, x_forS, d_sFor, d_sWhile, d_sRaise, hand_nx, hand_rt, hand_ex, d_sTry, d_hNil, d_hCons, hands_nil, hands_cons, noEx_nx, noEx_rt, d_bNil, d_bCons, rho0, fCompB, wipeR, unwipe, sv_no, sv_val, sv_own, AV.ct, slCt, Sl.ct, Sl.od, cts, avVals, x_stOk, pl_no, pl_val, pl_own, slOf, tgAll, k_add, k_sub, k_mul, k_div, k_mod, k_pow, k_eq, k_ne, k_lt, k_le, k_gt, k_ge, k_is, k_isn, k_in, k_nin, isi_non, isi_bl, isi_int, isi_str, isi_lst, isi_tup, isi_dic, add_int, sub_int', lt_int', le_int', gt_int', ge_int', eq_int, ne_int, eq_str, ne_str, is_none, isn_none, is_bool, isn_bool, isNoneD, isBoolD, in_lst, in_tup, nin_lst, nin_tup, in_sgn, nin_sgn, len_lst, len_tup, tup_lst, tup_tup, lst_tup, int_int, x_rg1V, d_iRg1, pow18, ix_t0, ix_t1, ix_t2, ix_t3, ix_l0, sSl, Bf.sem, lk, lkD, deOf, lsAt, reOwn, dcAt, putAt, List.mapIdx_cons, List.mapIdx_nil, List.replicate, List.length_cons, List.length_nil, List.map_cons, List.map_nil, List.cons_append, List.nil_append, List.append_nil, List.set, List.getElem?_cons_zero, List.getElem?_cons_succ, List.getElem?_nil, List.getElem?_map, Option.map_some, Option.map_none, Option.getD_some, Option.getD_none, Option.or_some, Option.none_or, Option.some_or, ↓reduceIte, reduceCtorEq, Option.some.injEq, Nat.zero_add, Nat.reduceAdd, Nat.reduceSub, Nat.reduceLeDiff, Nat.reduceEqDiff, Nat.reduceLT, Nat.sub_self, Nat.add_one_sub_one, Bool.not_true, Bool.not_false, Bool.not_not, Bool.and_true, Bool.true_and, Bool.and_false, Bool.false_and, Bool.or_true, Bool.true_or, Bool.or_false, Bool.false_or, Bool.false_eq_true, Bool.not_eq_true', decide_true, decide_false, decide_eq_true_eq]) (by unfold chD; rw [List.length_map, ← len_list, zS_len]; decide)
  rw [List.nil_append] at hcomp
  obtain ⟨c2, rest, y1, y2, y3⟩ := spare_some (cutS w none (some 11)) ws (by omega)
  rw [y3] at hcomp
  have hsp := WP.wordB (n := k + 1) (hcut.snoc (zS_ok y1)) hk3 hk4
  generalize hu : cutS w none (some 11) ++ (⟨#[c2]⟩ : Str) = u at hsp y2 hcomp
  have happ : (ws.map PyData.str).length < 1000000 := by rw [List.length_map]; omega
  -- the word that is kept
  have fin : ∀ (u : Str), ¬ u ∈ ws → wordB u = true → (ws ++ [u]).Nodup ∧ (ws ++ [u]).length = n + 1 ∧ ∀ x ∈ ws ++ [u], wordB x = true := by
    intro u hu hw
    refine ⟨?_, by rw [List.length_append, hlen]; rfl, fun x hx => ?_⟩
    · rw [List.nodup_append]
      refine ⟨hnd, by simp, ?_⟩
      intro a ha b hb
      rw [List.mem_singleton] at hb
      subst hb
      intro z
      subst z
      exact hu ha
    · rcases List.mem_append.mp hx with hx | hx
      · exact hok x hx
      · rw [List.mem_singleton] at hx
        rw [hx]; exact hw
  have hwB : wordB w = true := WP.wordB g2 hw1 hw2
  by_cases hin : w ∈ ws
  · obtain ⟨f1, f2, f3⟩ := fin u y2 hsp
    refine ⟨[.io (PyData.list (List.map PyData.int ps5)), .val a1, .val (.str zL), .val (.str zS), .own (PyData.list (List.map PyData.str (ws ++ [u]))), s5, .val (.str u), .val (.int m), b8, .own (.list (.str u :: rest)), svSl (some s10)], ?_, ps5, _, s5, _, _, b8, _, _, rfl, f1, f2, f3, h5, rfl, rfl, g3, rfl, pl_sv _⟩
    rcases hcase with ⟨q1, rfl, rfl⟩ | ⟨q1, rfl, rfl⟩
    · simp only [cd__law_words_b1, m__law_words, cd__law_words, ys__law_words_0, t1, hix, t4, t7, t10, q1, e8, e10, hmr, and_self, g1, hin, hcomp, h6, h7, h9, happ, snoc_str, bind_ok, bind_ex, fl_ok, fl_ex, seq_nx, seq_rt, seq_bk, seq_ct, seq_ex, x_run, fin_nx, fin_rt, fin_ex, exit_none, exit_some, opt_some, d_eVar, d_eMov, d_eInt, d_eStr, d_eBl, d_eNon, d_eGlob, x_q1, x_q2, d_eBin, d_eCmp, d_eIx, chB_b, x_c1, x_c2, x_c4, d_eChain, d_eOne, andB_b, orB_b, d_eAnd, d_eOr, notV_b, d_eNot, x_tupV, x_lstV, d_eTup, d_eLst, x_cbV, d_eCB, retV_ret, retV_ex, retIo_own, retIo_io, x_call0, x_call1, d_eCall, x_isiV, d_eIsi, x_negV, d_eNeg, d_eDicK, d_eDicT, x_sl1, x_sl2, x_sl3, d_eSl, x_o1, d_oNone, d_oSome, x_revV, d_eRevL, x_compV, compFin_ok, d_eComp, d_eCompB, d_ePop, x_valA, d_aVal, d_aRef, d_lNil, x_l1, x_l2, d_lCons, blT_b, d_tE, d_tCmp, d_tChain, d_tW, x_notT, d_tNot, d_wOne, x_andT, x_orT, d_wAnd, d_wOr, d_cNil, d_cOne, itV_l, itV_t, itV_s, d_iIt, d_gNm, d_gTup, x_retS, d_sRet, d_sRetN, x_expS, d_sExp, x_ifS, d_sIf, d_sPass, d_sBrk, d_sCnt, x_asgS, d_sSet, x_tupS, d_sTup, x_appS, d_sApp, x_putS, x_putS2, d_sPut, x_forS, d_sFor, d_sWhile, d_sRaise, hand_nx, hand_rt, hand_ex, d_sTry, d_hNil, d_hCons, hands_nil, hands_cons, noEx_nx, noEx_rt, d_bNil, d_bCons, rho0, fCompB, wipeR, unwipe, sv_no, sv_val, sv_own, AV.ct, slCt, Sl.ct, Sl.od, cts, avVals, x_stOk, pl_no, pl_val, pl_own, slOf, tgAll, k_add, k_sub, k_mul, k_div, k_mod, k_pow, k_eq, k_ne, k_lt, k_le, k_gt, k_ge, k_is, k_isn, k_in, k_nin, isi_non, isi_bl, isi_int, isi_str, isi_lst, isi_tup, isi_dic, add_int, sub_int', lt_int', le_int', gt_int', ge_int', eq_int, ne_int, eq_str, ne_str, is_none, isn_none, is_bool, isn_bool, isNoneD, isBoolD, in_lst, in_tup, nin_lst, nin_tup, in_sgn, nin_sgn, len_lst, len_tup, tup_lst, tup_tup, lst_tup, int_int, x_rg1V, d_iRg1, pow18, ix_t0, ix_t1, ix_t2, ix_t3, ix_l0, sSl, Bf.sem, lk, lkD, deOf, lsAt, reOwn, dcAt, putAt, List.mapIdx_cons, List.mapIdx_nil, List.replicate, List.length_cons, List.length_nil, List.map_cons, List.map_nil, List.cons_append, List.nil_append, List.append_nil, List.set, List.getElem?_cons_zero, List.getElem?_cons_succ, List.getElem?_nil, List.getElem?_map, Option.map_some, Option.map_none, Option.getD_some, Option.getD_none, Option.or_some, Option.none_or, Option.some_or, ↓reduceIte, reduceCtorEq, Option.some.injEq, Nat.zero_add, Nat.reduceAdd, Nat.reduceSub, Nat.reduceLeDiff, Nat.reduceEqDiff, Nat.reduceLT, Nat.sub_self, Nat.add_one_sub_one, Bool.not_true, Bool.not_false, Bool.not_not, Bool.and_true, Bool.true_and, Bool.and_false, Bool.false_and, Bool.or_true, Bool.true_or, Bool.or_false, Bool.false_or, Bool.false_eq_true, Bool.not_eq_true', decide_true, decide_false, decide_eq_true_eq]
    · simp only [cd__law_words_b1, m__law_words, cd__law_words, ys__law_words_0, t1, hix, t4, t7, q1, e8, e10, hmr, and_self, g1, hin, hcomp, h6, h7, h9, happ, snoc_str, bind_ok, bind_ex, fl_ok, fl_ex, seq_nx, seq_rt, seq_bk, seq_ct, seq_ex, x_run, fin_nx, fin_rt, fin_ex, exit_none, exit_some, opt_some, d_eVar, d_eMov, d_eInt, d_eStr, d_eBl, d_eNon, d_eGlob, x_q1, x_q2, d_eBin, d_eCmp, d_eIx, chB_b, x_c1, x_c2, x_c4, d_eChain, d_eOne, andB_b, orB_b, d_eAnd, d_eOr, notV_b, d_eNot, x_tupV, x_lstV, d_eTup, d_eLst, x_cbV, d_eCB, retV_ret, retV_ex, retIo_own, retIo_io, x_call0, x_call1, d_eCall, x_isiV, d_eIsi, x_negV, d_eNeg, d_eDicK, d_eDicT, x_sl1, x_sl2, x_sl3, d_eSl, x_o1, d_oNone, d_oSome, x_revV, d_eRevL, x_compV, compFin_ok, d_eComp, d_eCompB, d_ePop, x_valA, d_aVal, d_aRef, d_lNil, x_l1, x_l2, d_lCons, blT_b, d_tE, d_tCmp, d_tChain, d_tW, x_notT, d_tNot, d_wOne, x_andT, x_orT, d_wAnd, d_wOr, d_cNil, d_cOne, itV_l, itV_t, itV_s, d_iIt, d_gNm, d_gTup, x_retS, d_sRet, d_sRetN, x_expS, d_sExp, x_ifS, d_sIf, d_sPass, d_sBrk, d_sCnt, x_asgS, d_sSet, x_tupS, d_sTup, x_appS, d_sApp, x_putS, x_putS2, d_sPut, x_forS, d_sFor, d_sWhile, d_sRaise, hand_nx, hand_rt, hand_ex, d_sTry, d_hNil, d_hCons, hands_nil, hands_cons, noEx_nx, noEx_rt, d_bNil, d_bCons, rho0, fCompB, wipeR, unwipe, sv_no, sv_val, sv_own, AV.ct, slCt, Sl.ct, Sl.od, cts, avVals, x_stOk, pl_no, pl_val, pl_own, slOf, tgAll, k_add, k_sub, k_mul, k_div, k_mod, k_pow, k_eq, k_ne, k_lt, k_le, k_gt, k_ge, k_is, k_isn, k_in, k_nin, isi_non, isi_bl, isi_int, isi_str, isi_lst, isi_tup, isi_dic, add_int, sub_int', lt_int', le_int', gt_int', ge_int', eq_int, ne_int, eq_str, ne_str, is_none, isn_none, is_bool, isn_bool, isNoneD, isBoolD, in_lst, in_tup, nin_lst, nin_tup, in_sgn, nin_sgn, len_lst, len_tup, tup_lst, tup_tup, lst_tup, int_int, x_rg1V, d_iRg1, pow18, ix_t0, ix_t1, ix_t2, ix_t3, ix_l0, sSl, Bf.sem, lk, lkD, deOf, lsAt, reOwn, dcAt, putAt, List.mapIdx_cons, List.mapIdx_nil, List.replicate, List.length_cons, List.length_nil, List.map_cons, List.map_nil, List.cons_append, List.nil_append, List.append_nil, List.set, List.getElem?_cons_zero, List.getElem?_cons_succ, List.getElem?_nil, List.getElem?_map, Option.map_some, Option.map_none, Option.getD_some, Option.getD_none, Option.or_some, Option.none_or, Option.some_or, ↓reduceIte, reduceCtorEq, Option.some.injEq, Nat.zero_add, Nat.reduceAdd, Nat.reduceSub, Nat.reduceLeDiff, Nat.reduceEqDiff, Nat.reduceLT, Nat.sub_self, Nat.add_one_sub_one, Bool.not_true, Bool.not_false, Bool.not_not, Bool.and_true, Bool.true_and, Bool.and_false, Bool.false_and, Bool.or_true, Bool.true_or, Bool.or_false, Bool.false_or, Bool.false_eq_true, Bool.not_eq_true', decide_true, decide_false, decide_eq_true_eq]
  · obtain ⟨f1, f2, f3⟩ := fin w hin hwB
    refine ⟨[.io (PyData.list (List.map PyData.int ps5)), .val a1, .val (.str zL), .val (.str zS), .own (PyData.list (List.map PyData.str (ws ++ [w]))), s5, .val (.str w), .val (.int m), b8, s9, s10], ?_, ps5, _, s5, _, _, b8, s9, s10, rfl, f1, f2, f3, h5, rfl, rfl, g3, h9, h10⟩
    rcases hcase with ⟨q1, rfl, rfl⟩ | ⟨q1, rfl, rfl⟩
    · simp only [cd__law_words_b1, m__law_words, cd__law_words, ys__law_words_0, t1, hix, t4, t7, t10, q1, e8, e10, hmr, and_self, g1, hin, h6, h7, h9, happ, snoc_str, bind_ok, bind_ex, fl_ok, fl_ex, seq_nx, seq_rt, seq_bk, seq_ct, seq_ex, x_run, fin_nx, fin_rt, fin_ex, exit_none, exit_some, opt_some, d_eVar, d_eMov, d_eInt, d_eStr, d_eBl, d_eNon, d_eGlob, x_q1, x_q2, d_eBin, d_eCmp, d_eIx, chB_b, x_c1, x_c2, x_c4, d_eChain, d_eOne, andB_b, orB_b, d_eAnd, d_eOr, notV_b, d_eNot, x_tupV, x_lstV, d_eTup, d_eLst, x_cbV, d_eCB, retV_ret, retV_ex, retIo_own, retIo_io, x_call0, x_call1, d_eCall, x_isiV, d_eIsi, x_negV, d_eNeg, d_eDicK, d_eDicT, x_sl1, x_sl2, x_sl3, d_eSl, x_o1, d_oNone, d_oSome, x_revV, d_eRevL, x_compV, compFin_ok, d_eComp, d_eCompB, d_ePop, x_valA, d_aVal, d_aRef, d_lNil, x_l1, x_l2, d_lCons, blT_b, d_tE, d_tCmp, d_tChain, d_tW, x_notT, d_tNot, d_wOne, x_andT, x_orT, d_wAnd, d_wOr, d_cNil, d_cOne, itV_l, itV_t, itV_s, d_iIt, d_gNm, d_gTup, x_retS, d_sRet, d_sRetN, x_expS, d_sExp, x_ifS, d_sIf, d_sPass, d_sBrk, d_sCnt, x_asgS, d_sSet, x_tupS, d_sTup, x_appS, d_sApp, x_putS, x_putS2, d_sPut, x_forS, d_sFor, d_sWhile, d_sRaise, hand_nx, hand_rt, hand_ex, d_sTry, d_hNil, d_hCons, hands_nil, hands_cons, noEx_nx, noEx_rt, d_bNil, d_bCons, rho0, fCompB, wipeR, unwipe, sv_no, sv_val, sv_own, AV.ct, slCt, Sl.ct, Sl.od, cts, avVals, x_stOk, pl_no, pl_val, pl_own, slOf, tgAll, k_add, k_sub, k_mul, k_div, k_mod, k_pow, k_eq, k_ne, k_lt, k_le, k_gt, k_ge, k_is, k_isn, k_in, k_nin, isi_non, isi_bl, isi_int, isi_str, isi_lst, isi_tup, isi_dic, add_int, sub_int', lt_int', le_int', gt_int', ge_int', eq_int, ne_int, eq_str, ne_str, is_none, isn_none, is_bool, isn_bool, isNoneD, isBoolD, in_lst, in_tup, nin_lst, nin_tup, in_sgn, nin_sgn, len_lst, len_tup, tup_lst, tup_tup, lst_tup, int_int, x_rg1V, d_iRg1, pow18, ix_t0, ix_t1, ix_t2, ix_t3, ix_l0, sSl, Bf.sem, lk, lkD, deOf, lsAt, reOwn, dcAt, putAt, List.mapIdx_cons, List.mapIdx_nil, List.replicate, List.length_cons, List.length_nil, List.map_cons, List.map_nil, List.cons_append, List.nil_append, List.append_nil, List.set, List.getElem?_cons_zero, List.getElem?_cons_succ, List.getElem?_nil, List.getElem?_map, Option.map_some, Option.map_none, Option.getD_some, Option.getD_none, Option.or_some, Option.none_or, Option.some_or, ↓reduceIte, reduceCtorEq, Option.some.injEq, Nat.zero_add, Nat.reduceAdd, Nat.reduceSub, Nat.reduceLeDiff, Nat.reduceEqDiff, Nat.reduceLT, Nat.sub_self, Nat.add_one_sub_one, Bool.not_true, Bool.not_false, Bool.not_not, Bool.and_true, Bool.true_and, Bool.and_false, Bool.false_and, Bool.or_true, Bool.true_or, Bool.or_false, Bool.false_or, Bool.false_eq_true, Bool.not_eq_true', decide_true, decide_false, decide_eq_true_eq]
    · simp only [cd__law_words_b1, m__law_words, cd__law_words, ys__law_words_0, t1, hix, t4, t7, q1, e8, e10, hmr, and_self, g1, hin, h6, h7, h9, happ, snoc_str, bind_ok, bind_ex, fl_ok, fl_ex, seq_nx, seq_rt, seq_bk, seq_ct, seq_ex, x_run, fin_nx, fin_rt, fin_ex, exit_none, exit_some, opt_some, d_eVar, d_eMov, d_eInt, d_eStr, d_eBl, d_eNon, d_eGlob, x_q1, x_q2, d_eBin, d_eCmp, d_eIx, chB_b, x_c1, x_c2, x_c4, d_eChain, d_eOne, andB_b, orB_b, d_eAnd, d_eOr, notV_b, d_eNot, x_tupV, x_lstV, d_eTup, d_eLst, x_cbV, d_eCB, retV_ret, retV_ex, retIo_own, retIo_io, x_call0, x_call1, d_eCall, x_isiV, d_eIsi, x_negV, d_eNeg, d_eDicK, d_eDicT, x_sl1, x_sl2, x_sl3, d_eSl, x_o1, d_oNone, d_oSome, x_revV, d_eRevL, x_compV, compFin_ok, d_eComp, d_eCompB, d_ePop, x_valA, d_aVal, d_aRef, d_lNil, x_l1, x_l2, d_lCons, blT_b, d_tE, d_tCmp, d_tChain, d_tW, x_notT, d_tNot, d_wOne, x_andT, x_orT, d_wAnd, d_wOr, d_cNil, d_cOne, itV_l, itV_t, itV_s, d_iIt, d_gNm, d_gTup, x_retS, d_sRet, d_sRetN, x_expS, d_sExp, x_ifS, d_sIf, d_sPass, d_sBrk, d_sCnt, x_asgS, d_sSet, x_tupS, d_sTup, x_appS, d_sApp, x_putS, x_putS2, d_sPut, x_forS, d_sFor, d_sWhile, d_sRaise, hand_nx, hand_rt, hand_ex, d_sTry, d_hNil, d_hCons, hands_nil, hands_cons, noEx_nx, noEx_rt, d_bNil, d_bCons, rho0, fCompB, wipeR, unwipe, sv_no, sv_val, sv_own, AV.ct, slCt, Sl.ct, Sl.od, cts, avVals, x_stOk, pl_no, pl_val, pl_own, slOf, tgAll, k_add, k_sub, k_mul, k_div, k_mod, k_pow, k_eq, k_ne, k_lt, k_le, k_gt, k_ge, k_is, k_isn, k_in, k_nin, isi_non, isi_bl, isi_int, isi_str, isi_lst, isi_tup, isi_dic, add_int, sub_int', lt_int', le_int', gt_int', ge_int', eq_int, ne_int, eq_str, ne_str, is_none, isn_none, is_bool, isn_bool, isNoneD, isBoolD, in_lst, in_tup, nin_lst, nin_tup, in_sgn, nin_sgn, len_lst, len_tup, tup_lst, tup_tup, lst_tup, int_int, x_rg1V, d_iRg1, pow18, ix_t0, ix_t1, ix_t2, ix_t3, ix_l0, sSl, Bf.sem, lk, lkD, deOf, lsAt, reOwn, dcAt, putAt, List.mapIdx_cons, List.mapIdx_nil, List.replicate, List.length_cons, List.length_nil, List.map_cons, List.map_nil, List.cons_append, List.nil_append, List.append_nil, List.set, List.getElem?_cons_zero, List.getElem?_cons_succ, List.getElem?_nil, List.getElem?_map, Option.map_some, Option.map_none, Option.getD_some, Option.getD_none, Option.or_some, Option.none_or, Option.some_or, ↓reduceIte, reduceCtorEq, Option.some.injEq, Nat.zero_add, Nat.reduceAdd, Nat.reduceSub, Nat.reduceLeDiff, Nat.reduceEqDiff, Nat.reduceLT, Nat.sub_self, Nat.add_one_sub_one, Bool.not_true, Bool.not_false, Bool.not_not, Bool.and_true, Bool.true_and, Bool.and_false, Bool.false_and, Bool.or_true, Bool.true_or, Bool.or_false, Bool.false_or, Bool.false_eq_true, Bool.not_eq_true', decide_true, decide_false, decide_eq_true_eq]
theorem words_s (ps : List Int) (n : Int) (h0 : 0 ≤ n) (hn : n ≤ 12) : ∃ (ws : List Str) (ps' : List Int), m__law_words [(PyData.list (List.map PyData.int ps)), .int n] = .ret (PyData.list (List.map PyData.str ws)) true (PyData.list (List.map PyData.int ps')) ∧ ws.Nodup ∧ ws.length ≤ 12 ∧ ∀ w ∈ ws, wordB w = true := by
  have e5 : den Y__law_words (.gNm 5) = tgName 5 := rfl
  have hz : bAdd (.str zL) (.str zD) = some (.str zS, false) := add_str (by rw [zL_len, zD_len]; decide)
  have hmr : (n < 1000000 ∧ (-1000000 : Int) < n) := ⟨by omega, by omega⟩
  obtain ⟨ρ', h1, h2⟩ := for_inv (tgt := tgName 5) (body := den (k := .B) Y__law_words cd__law_words_b1) (WsInv (.int n)) (rgD 0 n) 0 [.io (PyData.list (List.map PyData.int ps)), .val (.int n), .val (.str zL), .val (.str zS), .own (.list []), .no, .no, .no, .no, .no, .no] ⟨ps, [], .no, .no, .no, .no, .no, .no, rfl, List.nodup_nil, rfl, fun _ h => (by cases h), rfl, rfl, rfl, rfl, rfl, rfl⟩ (by
    intro j d ρ hd hI
    obtain ⟨ps, ws, s5, s6, s7, s8, s9, s10, rfl, i1, i2, i3, i4, i5, i6, i7, i8, i9⟩ := hI
    obtain ⟨rfl, hj⟩ := rg_get hd
    obtain ⟨ρ2, e1, e2⟩ := word_step (.int n) (0 + j) (by omega) ps ws (.val (.int (0 + (j : Int)))) s6 s7 s8 s9 s10 i1 i2 i3 rfl i5 i6 i7 i8 i9
    refine ⟨_, ρ2, ?_, e1, e2⟩
    simp only [tgName, i4, bind_ok, bind_ex, fl_ok, fl_ex, seq_nx, seq_rt, seq_bk, seq_ct, seq_ex, x_run, fin_nx, fin_rt, fin_ex, exit_none, exit_some, opt_some, d_eVar, d_eMov, d_eInt, d_eStr, d_eBl, d_eNon, d_eGlob, x_q1, x_q2, d_eBin, d_eCmp, d_eIx, chB_b, x_c1, x_c2, x_c4, d_eChain, d_eOne, andB_b, orB_b, d_eAnd, d_eOr, notV_b, d_eNot, x_tupV, x_lstV, d_eTup, d_eLst, x_cbV, d_eCB, retV_ret, retV_ex, retIo_own, retIo_io, x_call0, x_call1, d_eCall, x_isiV, d_eIsi, x_negV, d_eNeg, d_eDicK, d_eDicT, x_sl1, x_sl2, x_sl3, d_eSl, x_o1, d_oNone, d_oSome, x_revV, d_eRevL, x_compV, compFin_ok, d_eComp, d_eCompB, d_ePop, x_valA, d_aVal, d_aRef, d_lNil, x_l1, x_l2, d_lCons, blT_b, d_tE, d_tCmp, d_tChain, d_tW, x_notT, d_tNot, d_wOne, x_andT, x_orT, d_wAnd, d_wOr, d_cNil, d_cOne, itV_l, itV_t, itV_s, d_iIt, d_gNm, d_gTup, x_retS, d_sRet, d_sRetN, x_expS, d_sExp, x_ifS, d_sIf, d_sPass, d_sBrk, d_sCnt, x_asgS, d_sSet, x_tupS, d_sTup, x_appS, d_sApp, x_putS, x_putS2, d_sPut, x_forS, d_sFor, d_sWhile, d_sRaise, hand_nx, hand_rt, hand_ex, d_sTry, d_hNil, d_hCons, hands_nil, hands_cons, noEx_nx, noEx_rt, d_bNil, d_bCons, rho0, fCompB, wipeR, unwipe, sv_no, sv_val, sv_own, AV.ct, slCt, Sl.ct, Sl.od, cts, avVals, x_stOk, pl_no, pl_val, pl_own, slOf, tgAll, k_add, k_sub, k_mul, k_div, k_mod, k_pow, k_eq, k_ne, k_lt, k_le, k_gt, k_ge, k_is, k_isn, k_in, k_nin, isi_non, isi_bl, isi_int, isi_str, isi_lst, isi_tup, isi_dic, add_int, sub_int', lt_int', le_int', gt_int', ge_int', eq_int, ne_int, eq_str, ne_str, is_none, isn_none, is_bool, isn_bool, isNoneD, isBoolD, in_lst, in_tup, nin_lst, nin_tup, in_sgn, nin_sgn, len_lst, len_tup, tup_lst, tup_tup, lst_tup, int_int, x_rg1V, d_iRg1, pow18, ix_t0, ix_t1, ix_t2, ix_t3, ix_l0, sSl, Bf.sem, lk, lkD, deOf, lsAt, reOwn, dcAt, putAt, List.mapIdx_cons, List.mapIdx_nil, List.replicate, List.length_cons, List.length_nil, List.map_cons, List.map_nil, List.cons_append, List.nil_append, List.append_nil, List.set, List.getElem?_cons_zero, List.getElem?_cons_succ, List.getElem?_nil, List.getElem?_map, Option.map_some, Option.map_none, Option.getD_some, Option.getD_none, Option.or_some, Option.none_or, Option.some_or, ↓reduceIte, reduceCtorEq, Option.some.injEq, Nat.zero_add, Nat.reduceAdd, Nat.reduceSub, Nat.reduceLeDiff, Nat.reduceEqDiff, Nat.reduceLT, Nat.sub_self, Nat.add_one_sub_one, Bool.not_true, Bool.not_false, Bool.not_not, Bool.and_true, Bool.true_and, Bool.and_false, Bool.false_and, Bool.or_true, Bool.true_or, Bool.or_false, Bool.false_or, Bool.false_eq_true, Bool.not_eq_true', decide_true, decide_false, decide_eq_true_eq])
  obtain ⟨ps', ws, s5, s6, s7, s8, s9, s10, rfl, i1, i2, i3, _⟩ := h2
  rw [rg_len, Nat.zero_add] at i2
  refine ⟨ws, ps', ?_, i1, by omega, i3⟩
  simp only [m__law_words, cd__law_words, ys__law_words_0, hz, e5, hmr, and_self, h1, bind_ok, bind_ex, fl_ok, fl_ex, seq_nx, seq_rt, seq_bk, seq_ct, seq_ex, x_run, fin_nx, fin_rt, fin_ex, exit_none, exit_some, opt_some, d_eVar, d_eMov, d_eInt, d_eStr, d_eBl, d_eNon, d_eGlob, x_q1, x_q2, d_eBin, d_eCmp, d_eIx, chB_b, x_c1, x_c2, x_c4, d_eChain, d_eOne, andB_b, orB_b, d_eAnd, d_eOr, notV_b, d_eNot, x_tupV, x_lstV, d_eTup, d_eLst, x_cbV, d_eCB, retV_ret, retV_ex, retIo_own, retIo_io, x_call0, x_call1, d_eCall, x_isiV, d_eIsi, x_negV, d_eNeg, d_eDicK, d_eDicT, x_sl1, x_sl2, x_sl3, d_eSl, x_o1, d_oNone, d_oSome, x_revV, d_eRevL, x_compV, compFin_ok, d_eComp, d_eCompB, d_ePop, x_valA, d_aVal, d_aRef, d_lNil, x_l1, x_l2, d_lCons, blT_b, d_tE, d_tCmp, d_tChain, d_tW, x_notT, d_tNot, d_wOne, x_andT, x_orT, d_wAnd, d_wOr, d_cNil, d_cOne, itV_l, itV_t, itV_s, d_iIt, d_gNm, d_gTup, x_retS, d_sRet, d_sRetN, x_expS, d_sExp, x_ifS, d_sIf, d_sPass, d_sBrk, d_sCnt, x_asgS, d_sSet, x_tupS, d_sTup, x_appS, d_sApp, x_putS, x_putS2, d_sPut, x_forS, d_sFor, d_sWhile, d_sRaise, hand_nx, hand_rt, hand_ex, d_sTry, d_hNil, d_hCons, hands_nil, hands_cons, noEx_nx, noEx_rt, d_bNil, d_bCons, rho0, fCompB, wipeR, unwipe, sv_no, sv_val, sv_own, AV.ct, slCt, Sl.ct, Sl.od, cts, avVals, x_stOk, pl_no, pl_val, pl_own, slOf, tgAll, k_add, k_sub, k_mul, k_div, k_mod, k_pow, k_eq, k_ne, k_lt, k_le, k_gt, k_ge, k_is, k_isn, k_in, k_nin, isi_non, isi_bl, isi_int, isi_str, isi_lst, isi_tup, isi_dic, add_int, sub_int', lt_int', le_int', gt_int', ge_int', eq_int, ne_int, eq_str, ne_str, is_none, isn_none, is_bool, isn_bool, isNoneD, isBoolD, in_lst, in_tup, nin_lst, nin_tup, in_sgn, nin_sgn, len_lst, len_tup, tup_lst, tup_tup, lst_tup, int_int, x_rg1V, d_iRg1, pow18, ix_t0, ix_t1, ix_t2, ix_t3, ix_l0, sSl, Bf.sem, lk, lkD, deOf, lsAt, reOwn, dcAt, putAt, List.mapIdx_cons, List.mapIdx_nil, List.replicate, List.length_cons, List.length_nil, List.map_cons, List.map_nil, List.cons_append, List.nil_append, List.append_nil, List.set, List.getElem?_cons_zero, List.getElem?_cons_succ, List.getElem?_nil, List.getElem?_map, Option.map_some, Option.map_none, Option.getD_some, Option.getD_none, Option.or_some, Option.none_or, Option.some_or, ↓reduceIte, reduceCtorEq, Option.some.injEq, Nat.zero_add, Nat.reduceAdd, Nat.reduceSub, Nat.reduceLeDiff, Nat.reduceEqDiff, Nat.reduceLT, Nat.sub_self, Nat.add_one_sub_one, Bool.not_true, Bool.not_false, Bool.not_not, Bool.and_true, Bool.true_and, Bool.and_false, Bool.false_and, Bool.or_true, Bool.true_or, Bool.or_false, Bool.false_or, Bool.false_eq_true, Bool.not_eq_true', decide_true, decide_false, decide_eq_true_eq]
end PV.Lw
namespace PV.Lw
open PySem L2 PV

/-! _law_difference -/
def notIn (vs : List Str) (d : D) : Bool := match d with
  | .str w => !decide (w ∈ vs)
  | _ => false
theorem filter_notIn (ws vs : List Str) : (ws.map PyData.str).filter (notIn vs) = (ws.filter fun w => !decide (w ∈ vs)).map PyData.str := filter_map_str
theorem firstO_nil {ws vs : List Str} (h : ws.filter (fun w => !decide (w ∈ vs)) = []) : firstO ws vs = .none := by
  unfold firstO
  have : ws.find? (fun w => !decide (w ∈ vs)) = none := by rw [← List.head?_filter, h]; rfl
  rw [this]
theorem firstO_cons {ws vs r : List Str} {w : Str} (h : ws.filter (fun w => !decide (w ∈ vs)) = w :: r) : firstO ws vs = .str w := by
  unfold firstO
  have : ws.find? (fun w => !decide (w ∈ vs)) = some w := by rw [← List.head?_filter, h]; rfl
  rw [this]
theorem map_id_d (l : List D) : l.map (fun d => d) = l := by simp
theorem ldiff_c1 (a0 a1 a3 a5 a6 a8 : Sl) (A B : List Str) (hl : A.length ≤ 1000) : compLoop [7] (tgName 7) (den (k := .C) Y__law_difference cd__law_difference_c1) (den Y__law_difference cd__law_difference_e1) (A.map PyData.str) [] [a0, a1, .val (PyData.tuple (List.map PyData.str A)), a3, .val (PyData.tuple (List.map PyData.str B)), a5, a6, .no, a8] = .ok ((A.filter fun w => !decide (w ∈ B)).map PyData.str) [a0, a1, .val (PyData.tuple (List.map PyData.str A)), a3, .val (PyData.tuple (List.map PyData.str B)), a5, a6, .no, a8] := by
  have h := comp_pure (own := [7]) (tgt := tgName 7) (c := den (k := .C) Y__law_difference cd__law_difference_c1) (e := den Y__law_difference cd__law_difference_e1) (p := notIn B) (v := fun d => d) (ρ := [a0, a1, .val (PyData.tuple (List.map PyData.str A)), a3, .val (PyData.tuple (List.map PyData.str B)), a5, a6, .no, a8]) (A.map PyData.str) [] (by
    intro d hd
    obtain ⟨w, _, rfl⟩ := List.mem_map.mp hd
    refine ⟨[a0, a1, .val (PyData.tuple (List.map PyData.str A)), a3, .val (PyData.tuple (List.map PyData.str B)), a5, a6, .val (.str w), a8], rfl, ?_, rfl, fun _ => ⟨false, [a0, a1, .val (PyData.tuple (List.map PyData.str A)), a3, .val (PyData.tuple (List.map PyData.str B)), a5, a6, .val (.str w), a8], ?_, rfl⟩⟩
    · simp only [cd__law_difference_c1, m__law_difference, cd__law_difference, notIn, bind_ok, bind_ex, fl_ok, fl_ex, seq_nx, seq_rt, seq_bk, seq_ct, seq_ex, x_run, fin_nx, fin_rt, fin_ex, exit_none, exit_some, opt_some, d_eVar, d_eMov, d_eInt, d_eStr, d_eBl, d_eNon, d_eGlob, x_q1, x_q2, d_eBin, d_eCmp, d_eIx, chB_b, x_c1, x_c2, x_c4, d_eChain, d_eOne, andB_b, orB_b, d_eAnd, d_eOr, notV_b, d_eNot, x_tupV, x_lstV, d_eTup, d_eLst, x_cbV, d_eCB, retV_ret, retV_ex, retIo_own, retIo_io, x_call0, x_call1, d_eCall, x_isiV, d_eIsi, x_negV, d_eNeg, d_eDicK, d_eDicT, x_sl1, x_sl2, x_sl3, d_eSl, x_o1, d_oNone, d_oSome, x_revV, d_eRevL, x_compV, compFin_ok, d_eComp, d_eCompB, d_ePop, x_valA, d_aVal, d_aRef, d_lNil, x_l1, x_l2, d_lCons, blT_b, d_tE, d_tCmp, d_tChain, d_tW, x_notT, d_tNot, d_wOne, x_andT, x_orT, d_wAnd, d_wOr, d_cNil, d_cOne, itV_l, itV_t, itV_s, d_iIt, d_gNm, d_gTup, x_retS, d_sRet, d_sRetN, x_expS, d_sExp, x_ifS, d_sIf, d_sPass, d_sBrk, d_sCnt, x_asgS, d_sSet, x_tupS, d_sTup, x_appS, d_sApp, x_putS, x_putS2, d_sPut, x_forS, d_sFor, d_sWhile, d_sRaise, hand_nx, hand_rt, hand_ex, d_sTry, d_hNil, d_hCons, hands_nil, hands_cons, noEx_nx, noEx_rt, d_bNil, d_bCons, rho0, fCompB, wipeR, unwipe, sv_no, sv_val, sv_own, AV.ct, slCt, Sl.ct, Sl.od, cts, avVals, x_stOk, pl_no, pl_val, pl_own, slOf, tgAll, k_add, k_sub, k_mul, k_div, k_mod, k_pow, k_eq, k_ne, k_lt, k_le, k_gt, k_ge, k_is, k_isn, k_in, k_nin, isi_non, isi_bl, isi_int, isi_str, isi_lst, isi_tup, isi_dic, add_int, sub_int', lt_int', le_int', gt_int', ge_int', eq_int, ne_int, eq_str, ne_str, is_none, isn_none, is_bool, isn_bool, isNoneD, isBoolD, in_lst, in_tup, nin_lst, nin_tup, in_sgn, nin_sgn, len_lst, len_tup, tup_lst, tup_tup, lst_tup, int_int, x_rg1V, d_iRg1, pow18, ix_t0, ix_t1, ix_t2, ix_t3, ix_l0, sSl, Bf.sem, lk, lkD, deOf, lsAt, reOwn, dcAt, putAt, List.mapIdx_cons, List.mapIdx_nil, List.replicate, List.length_cons, List.length_nil, List.map_cons, List.map_nil, List.cons_append, List.nil_append, List.append_nil, List.set, List.getElem?_cons_zero, List.getElem?_cons_succ, List.getElem?_nil, List.getElem?_map, Option.map_some, Option.map_none, Option.getD_some, Option.getD_none, Option.or_some, Option.none_or, Option.some_or, ↓reduceIte, reduceCtorEq, Option.some.injEq, Nat.zero_add, Nat.reduceAdd, Nat.reduceSub, Nat.reduceLeDiff, Nat.reduceEqDiff, Nat.reduceLT, Nat.sub_self, Nat.add_one_sub_one, Bool.not_true, Bool.not_false, Bool.not_not, Bool.and_true, Bool.true_and, Bool.and_false, Bool.false_and, Bool.or_true, Bool.true_or, Bool.or_false, Bool.false_or, Bool.false_eq_true, Bool.not_eq_true', decide_true, decide_false, decide_eq_true_eq]
    · simp only [cd__law_difference_e1, m__law_difference, cd__law_difference, bind_ok, bind_ex, fl_ok, fl_ex, seq_nx, seq_rt, seq_bk, seq_ct, seq_ex, x_run, fin_nx, fin_rt, fin_ex, exit_none, exit_some, opt_some, d_eVar, d_eMov, d_eInt, d_eStr, d_eBl, d_eNon, d_eGlob, x_q1, x_q2, d_eBin, d_eCmp, d_eIx, chB_b, x_c1, x_c2, x_c4, d_eChain, d_eOne, andB_b, orB_b, d_eAnd, d_eOr, notV_b, d_eNot, x_tupV, x_lstV, d_eTup, d_eLst, x_cbV, d_eCB, retV_ret, retV_ex, retIo_own, retIo_io, x_call0, x_call1, d_eCall, x_isiV, d_eIsi, x_negV, d_eNeg, d_eDicK, d_eDicT, x_sl1, x_sl2, x_sl3, d_eSl, x_o1, d_oNone, d_oSome, x_revV, d_eRevL, x_compV, compFin_ok, d_eComp, d_eCompB, d_ePop, x_valA, d_aVal, d_aRef, d_lNil, x_l1, x_l2, d_lCons, blT_b, d_tE, d_tCmp, d_tChain, d_tW, x_notT, d_tNot, d_wOne, x_andT, x_orT, d_wAnd, d_wOr, d_cNil, d_cOne, itV_l, itV_t, itV_s, d_iIt, d_gNm, d_gTup, x_retS, d_sRet, d_sRetN, x_expS, d_sExp, x_ifS, d_sIf, d_sPass, d_sBrk, d_sCnt, x_asgS, d_sSet, x_tupS, d_sTup, x_appS, d_sApp, x_putS, x_putS2, d_sPut, x_forS, d_sFor, d_sWhile, d_sRaise, hand_nx, hand_rt, hand_ex, d_sTry, d_hNil, d_hCons, hands_nil, hands_cons, noEx_nx, noEx_rt, d_bNil, d_bCons, rho0, fCompB, wipeR, unwipe, sv_no, sv_val, sv_own, AV.ct, slCt, Sl.ct, Sl.od, cts, avVals, x_stOk, pl_no, pl_val, pl_own, slOf, tgAll, k_add, k_sub, k_mul, k_div, k_mod, k_pow, k_eq, k_ne, k_lt, k_le, k_gt, k_ge, k_is, k_isn, k_in, k_nin, isi_non, isi_bl, isi_int, isi_str, isi_lst, isi_tup, isi_dic, add_int, sub_int', lt_int', le_int', gt_int', ge_int', eq_int, ne_int, eq_str, ne_str, is_none, isn_none, is_bool, isn_bool, isNoneD, isBoolD, in_lst, in_tup, nin_lst, nin_tup, in_sgn, nin_sgn, len_lst, len_tup, tup_lst, tup_tup, lst_tup, int_int, x_rg1V, d_iRg1, pow18, ix_t0, ix_t1, ix_t2, ix_t3, ix_l0, sSl, Bf.sem, lk, lkD, deOf, lsAt, reOwn, dcAt, putAt, List.mapIdx_cons, List.mapIdx_nil, List.replicate, List.length_cons, List.length_nil, List.map_cons, List.map_nil, List.cons_append, List.nil_append, List.append_nil, List.set, List.getElem?_cons_zero, List.getElem?_cons_succ, List.getElem?_nil, List.getElem?_map, Option.map_some, Option.map_none, Option.getD_some, Option.getD_none, Option.or_some, Option.none_or, Option.some_or, ↓reduceIte, reduceCtorEq, Option.some.injEq, Nat.zero_add, Nat.reduceAdd, Nat.reduceSub, Nat.reduceLeDiff, Nat.reduceEqDiff, Nat.reduceLT, Nat.sub_self, Nat.add_one_sub_one, Bool.not_true, Bool.not_false, Bool.not_not, Bool.and_true, Bool.true_and, Bool.and_false, Bool.false_and, Bool.or_true, Bool.true_or, Bool.or_false, Bool.false_or, Bool.false_eq_true, Bool.not_eq_true', decide_true, decide_false, decide_eq_true_eq]) (by simp; omega)
  rw [map_id_d, List.nil_append, filter_notIn] at h
  exact h
theorem ldiff_c0 (a0 a1 a2 a4 a6 a8 : Sl) (A B : List Str) (hl : A.length ≤ 1000) : compLoop [7] (tgName 7) (den (k := .C) Y__law_difference cd__law_difference_c0) (den Y__law_difference cd__law_difference_e0) (A.map PyData.str) [] [a0, a1, a2, .val (PyData.tuple (List.map PyData.str B)), a4, .val (PyData.tuple (List.map PyData.str A)), a6, .no, a8] = .ok ((A.filter fun w => !decide (w ∈ B)).map PyData.str) [a0, a1, a2, .val (PyData.tuple (List.map PyData.str B)), a4, .val (PyData.tuple (List.map PyData.str A)), a6, .no, a8] := by
  have h := comp_pure (own := [7]) (tgt := tgName 7) (c := den (k := .C) Y__law_difference cd__law_difference_c0) (e := den Y__law_difference cd__law_difference_e0) (p := notIn B) (v := fun d => d) (ρ := [a0, a1, a2, .val (PyData.tuple (List.map PyData.str B)), a4, .val (PyData.tuple (List.map PyData.str A)), a6, .no, a8]) (A.map PyData.str) [] (by
    intro d hd
    obtain ⟨w, _, rfl⟩ := List.mem_map.mp hd
    refine ⟨[a0, a1, a2, .val (PyData.tuple (List.map PyData.str B)), a4, .val (PyData.tuple (List.map PyData.str A)), a6, .val (.str w), a8], rfl, ?_, rfl, fun _ => ⟨false, [a0, a1, a2, .val (PyData.tuple (List.map PyData.str B)), a4, .val (PyData.tuple (List.map PyData.str A)), a6, .val (.str w), a8], ?_, rfl⟩⟩
    · simp only [cd__law_difference_c0, m__law_difference, cd__law_difference, notIn, bind_ok, bind_ex, fl_ok, fl_ex, seq_nx, seq_rt, seq_bk, seq_ct, seq_ex, x_run, fin_nx, fin_rt, fin_ex, exit_none, exit_some, opt_some, d_eVar, d_eMov, d_eInt, d_eStr, d_eBl, d_eNon, d_eGlob, x_q1, x_q2, d_eBin, d_eCmp, d_eIx, chB_b, x_c1, x_c2, x_c4, d_eChain, d_eOne, andB_b, orB_b, d_eAnd, d_eOr, notV_b, d_eNot, x_tupV, x_lstV, d_eTup, d_eLst, x_cbV, d_eCB, retV_ret, retV_ex, retIo_own, retIo_io, x_call0, x_call1, d_eCall, x_isiV, d_eIsi, x_negV, d_eNeg, d_eDicK, d_eDicT, x_sl1, x_sl2, x_sl3, d_eSl, x_o1, d_oNone, d_oSome, x_revV, d_eRevL, x_compV, compFin_ok, d_eComp, d_eCompB, d_ePop, x_valA, d_aVal, d_aRef, d_lNil, x_l1, x_l2, d_lCons, blT_b, d_tE, d_tCmp, d_tChain, d_tW, x_notT, d_tNot, d_wOne, x_andT, x_orT, d_wAnd, d_wOr, d_cNil, d_cOne, itV_l, itV_t, itV_s, d_iIt, d_gNm, d_gTup, x_retS, d_sRet, d_sRetN, x_expS, d_sExp, x_ifS, d_sIf, d_sPass, d_sBrk, d_sCnt, x_asgS, d_sSet, x_tupS, d_sTup, x_appS, d_sApp, x_putS, x_putS2, d_sPut, x_forS, d_sFor, d_sWhile, d_sRaise, hand_nx, hand_rt, hand_ex, d_sTry, d_hNil, d_hCons, hands_nil, hands_cons, noEx_nx, noEx_rt, d_bNil, d_bCons, rho0, fCompB, wipeR, unwipe, sv_no, sv_val, sv_own, AV.ct, slCt, Sl.ct, Sl.od, cts, avVals, x_stOk, pl_no, pl_val, pl_own, slOf, tgAll, k_add, k_sub, k_mul, k_div, k_mod, k_pow, k_eq, k_ne, k_lt, k_le, k_gt, k_ge, k_is, k_isn, k_in, k_nin, isi_non, isi_bl, isi_int, isi_str, isi_lst, isi_tup, isi_dic, add_int, sub_int', lt_int', le_int', gt_int', ge_int', eq_int, ne_int, eq_str, ne_str, is_none, isn_none, is_bool, isn_bool, isNoneD, isBoolD, in_lst, in_tup, nin_lst, nin_tup, in_sgn, nin_sgn, len_lst, len_tup, tup_lst, tup_tup, lst_tup, int_int, x_rg1V, d_iRg1, pow18, ix_t0, ix_t1, ix_t2, ix_t3, ix_l0, sSl, Bf.sem, lk, lkD, deOf, lsAt, reOwn, dcAt, putAt, List.mapIdx_cons, List.mapIdx_nil, List.replicate, List.length_cons, List.length_nil, List.map_cons, List.map_nil, List.cons_append, List.nil_append, List.append_nil, List.set, List.getElem?_cons_zero, List.getElem?_cons_succ, List.getElem?_nil, List.getElem?_map, Option.map_some, Option.map_none, Option.getD_some, Option.getD_none, Option.or_some, Option.none_or, Option.some_or, ↓reduceIte, reduceCtorEq, Option.some.injEq, Nat.zero_add, Nat.reduceAdd, Nat.reduceSub, Nat.reduceLeDiff, Nat.reduceEqDiff, Nat.reduceLT, Nat.sub_self, Nat.add_one_sub_one, Bool.not_true, Bool.not_false, Bool.not_not, Bool.and_true, Bool.true_and, Bool.and_false, Bool.false_and, Bool.or_true, Bool.true_or, Bool.or_false, Bool.false_or, Bool.false_eq_true, Bool.not_eq_true', decide_true, decide_false, decide_eq_true_eq]
    · simp only [cd__law_difference_e0, m__law_difference, cd__law_difference, bind_ok, bind_ex, fl_ok, fl_ex, seq_nx, seq_rt, seq_bk, seq_ct, seq_ex, x_run, fin_nx, fin_rt, fin_ex, exit_none, exit_some, opt_some, d_eVar, d_eMov, d_eInt, d_eStr, d_eBl, d_eNon, d_eGlob, x_q1, x_q2, d_eBin, d_eCmp, d_eIx, chB_b, x_c1, x_c2, x_c4, d_eChain, d_eOne, andB_b, orB_b, d_eAnd, d_eOr, notV_b, d_eNot, x_tupV, x_lstV, d_eTup, d_eLst, x_cbV, d_eCB, retV_ret, retV_ex, retIo_own, retIo_io, x_call0, x_call1, d_eCall, x_isiV, d_eIsi, x_negV, d_eNeg, d_eDicK, d_eDicT, x_sl1, x_sl2, x_sl3, d_eSl, x_o1, d_oNone, d_oSome, x_revV, d_eRevL, x_compV, compFin_ok, d_eComp, d_eCompB, d_ePop, x_valA, d_aVal, d_aRef, d_lNil, x_l1, x_l2, d_lCons, blT_b, d_tE, d_tCmp, d_tChain, d_tW, x_notT, d_tNot, d_wOne, x_andT, x_orT, d_wAnd, d_wOr, d_cNil, d_cOne, itV_l, itV_t, itV_s, d_iIt, d_gNm, d_gTup, x_retS, d_sRet, d_sRetN, x_expS, d_sExp, x_ifS, d_sIf, d_sPass, d_sBrk, d_sCnt, x_asgS, d_sSet, x_tupS, d_sTup, x_appS, d_sApp, x_putS, x_putS2, d_sPut, x_forS, d_sFor, d_sWhile, d_sRaise, hand_nx, hand_rt, hand_ex, d_sTry, d_hNil, d_hCons, hands_nil, hands_cons, noEx_nx, noEx_rt, d_bNil, d_bCons, rho0, fCompB, wipeR, unwipe, sv_no, sv_val, sv_own, AV.ct, slCt, Sl.ct, Sl.od, cts, avVals, x_stOk, pl_no, pl_val, pl_own, slOf, tgAll, k_add, k_sub, k_mul, k_div, k_mod, k_pow, k_eq, k_ne, k_lt, k_le, k_gt, k_ge, k_is, k_isn, k_in, k_nin, isi_non, isi_bl, isi_int, isi_str, isi_lst, isi_tup, isi_dic, add_int, sub_int', lt_int', le_int', gt_int', ge_int', eq_int, ne_int, eq_str, ne_str, is_none, isn_none, is_bool, isn_bool, isNoneD, isBoolD, in_lst, in_tup, nin_lst, nin_tup, in_sgn, nin_sgn, len_lst, len_tup, tup_lst, tup_tup, lst_tup, int_int, x_rg1V, d_iRg1, pow18, ix_t0, ix_t1, ix_t2, ix_t3, ix_l0, sSl, Bf.sem, lk, lkD, deOf, lsAt, reOwn, dcAt, putAt, List.mapIdx_cons, List.mapIdx_nil, List.replicate, List.length_cons, List.length_nil, List.map_cons, List.map_nil, List.cons_append, List.nil_append, List.append_nil, List.set, List.getElem?_cons_zero, List.getElem?_cons_succ, List.getElem?_nil, List.getElem?_map, Option.map_some, Option.map_none, Option.getD_some, Option.getD_none, Option.or_some, Option.none_or, Option.some_or, ↓reduceIte, reduceCtorEq, Option.some.injEq, Nat.zero_add, Nat.reduceAdd, Nat.reduceSub, Nat.reduceLeDiff, Nat.reduceEqDiff, Nat.reduceLT, Nat.sub_self, Nat.add_one_sub_one, Bool.not_true, Bool.not_false, Bool.not_not, Bool.and_true, Bool.true_and, Bool.and_false, Bool.false_and, Bool.or_true, Bool.true_or, Bool.or_false, Bool.false_or, Bool.false_eq_true, Bool.not_eq_true', decide_true, decide_false, decide_eq_true_eq]) (by simp; omega)
  rw [map_id_d, List.nil_append, filter_notIn] at h
  exact h
theorem ne_map_nil (ws : List Str) : bNe (PyData.list (List.map PyData.str ws)) (.list []) = some (.bool (!ws.isEmpty), false) := by
  rw [ne_nil (ndcL_str ws)]
  cases ws <;> rfl
theorem law_difference_s (n : Str) (p c p' c' : List Str) (o : Int) (ho : o = 1 ∨ o = -1) (h1 : p.length ≤ 1000) (h2 : c.length ≤ 1000) (h3 : p'.length ≤ 1000) (h4 : c'.length ≤ 1000) :
    m__law_difference [.tuple [.str n, (PyData.tuple (List.map PyData.str p)), (PyData.tuple (List.map PyData.str c)), .int o], .tuple [(PyData.tuple (List.map PyData.str p')), (PyData.tuple (List.map PyData.str c'))]] = .ret (diffO n p c o p' c') false .none := by
  have e7 : den Y__law_difference (.gNm 7) = tgName 7 := rfl
  have hm : ((-1 : Int) = 1) = False := by simp
  have hm2 : ((1 : Int) = -1) = False := by simp
  rcases ho with rfl | rfl
  · cases hA : p.filter (fun w => !decide (w ∈ p')) with
    | cons w r =>
      have k := ne_map_nil (w :: r)
      have f1 := firstO_cons hA
      simp only [List.map_cons, List.isEmpty_cons, Bool.not_false] at k
      simp only [m__law_difference, cd__law_difference, hm2, e7, ldiff_c1, ldiff_c0, h1, h4, hA, k, diffO, swp, f1, bind_ok, bind_ex, fl_ok, fl_ex, seq_nx, seq_rt, seq_bk, seq_ct, seq_ex, x_run, fin_nx, fin_rt, fin_ex, exit_none, exit_some, opt_some, d_eVar, d_eMov, d_eInt, d_eStr, d_eBl, d_eNon, d_eGlob, x_q1, x_q2, d_eBin, d_eCmp, d_eIx, chB_b, x_c1, x_c2, x_c4, d_eChain, d_eOne, andB_b, orB_b, d_eAnd, d_eOr, notV_b, d_eNot, x_tupV, x_lstV, d_eTup, d_eLst, x_cbV, d_eCB, retV_ret, retV_ex, retIo_own, retIo_io, x_call0, x_call1, d_eCall, x_isiV, d_eIsi, x_negV, d_eNeg, d_eDicK, d_eDicT, x_sl1, x_sl2, x_sl3, d_eSl, x_o1, d_oNone, d_oSome, x_revV, d_eRevL, x_compV, compFin_ok, d_eComp, d_eCompB, d_ePop, x_valA, d_aVal, d_aRef, d_lNil, x_l1, x_l2, d_lCons, blT_b, d_tE, d_tCmp, d_tChain, d_tW, x_notT, d_tNot, d_wOne, x_andT, x_orT, d_wAnd, d_wOr, d_cNil, d_cOne, itV_l, itV_t, itV_s, d_iIt, d_gNm, d_gTup, x_retS, d_sRet, d_sRetN, x_expS, d_sExp, x_ifS, d_sIf, d_sPass, d_sBrk, d_sCnt, x_asgS, d_sSet, x_tupS, d_sTup, x_appS, d_sApp, x_putS, x_putS2, d_sPut, x_forS, d_sFor, d_sWhile, d_sRaise, hand_nx, hand_rt, hand_ex, d_sTry, d_hNil, d_hCons, hands_nil, hands_cons, noEx_nx, noEx_rt, d_bNil, d_bCons, rho0, fCompB, wipeR, unwipe, sv_no, sv_val, sv_own, AV.ct, slCt, Sl.ct, Sl.od, cts, avVals, x_stOk, pl_no, pl_val, pl_own, slOf, tgAll, k_add, k_sub, k_mul, k_div, k_mod, k_pow, k_eq, k_ne, k_lt, k_le, k_gt, k_ge, k_is, k_isn, k_in, k_nin, isi_non, isi_bl, isi_int, isi_str, isi_lst, isi_tup, isi_dic, add_int, sub_int', lt_int', le_int', gt_int', ge_int', eq_int, ne_int, eq_str, ne_str, is_none, isn_none, is_bool, isn_bool, isNoneD, isBoolD, in_lst, in_tup, nin_lst, nin_tup, in_sgn, nin_sgn, len_lst, len_tup, tup_lst, tup_tup, lst_tup, int_int, x_rg1V, d_iRg1, pow18, ix_t0, ix_t1, ix_t2, ix_t3, ix_l0, sSl, Bf.sem, lk, lkD, deOf, lsAt, reOwn, dcAt, putAt, List.mapIdx_cons, List.mapIdx_nil, List.replicate, List.length_cons, List.length_nil, List.map_cons, List.map_nil, List.cons_append, List.nil_append, List.append_nil, List.set, List.getElem?_cons_zero, List.getElem?_cons_succ, List.getElem?_nil, List.getElem?_map, Option.map_some, Option.map_none, Option.getD_some, Option.getD_none, Option.or_some, Option.none_or, Option.some_or, ↓reduceIte, reduceCtorEq, Option.some.injEq, Nat.zero_add, Nat.reduceAdd, Nat.reduceSub, Nat.reduceLeDiff, Nat.reduceEqDiff, Nat.reduceLT, Nat.sub_self, Nat.add_one_sub_one, Bool.not_true, Bool.not_false, Bool.not_not, Bool.and_true, Bool.true_and, Bool.and_false, Bool.false_and, Bool.or_true, Bool.true_or, Bool.or_false, Bool.false_or, Bool.false_eq_true, Bool.not_eq_true', decide_true, decide_false, decide_eq_true_eq]
    | nil =>
      have k := ne_map_nil []
      have f1 := firstO_nil hA
      simp only [List.map_nil, List.isEmpty_nil, Bool.not_true] at k
      cases hB : c'.filter (fun w => !decide (w ∈ c)) with
      | cons w r =>
        have k2 := ne_map_nil (w :: r)
        have f2 := firstO_cons hB
        simp only [List.map_cons, List.isEmpty_cons, Bool.not_false] at k2
        simp only [m__law_difference, cd__law_difference, hm2, e7, ldiff_c1, ldiff_c0, h1, h4, hA, hB, k, k2, diffO, swp, f1, f2, bind_ok, bind_ex, fl_ok, fl_ex, seq_nx, seq_rt, seq_bk, seq_ct, seq_ex, x_run, fin_nx, fin_rt, fin_ex, exit_none, exit_some, opt_some, d_eVar, d_eMov, d_eInt, d_eStr, d_eBl, d_eNon, d_eGlob, x_q1, x_q2, d_eBin, d_eCmp, d_eIx, chB_b, x_c1, x_c2, x_c4, d_eChain, d_eOne, andB_b, orB_b, d_eAnd, d_eOr, notV_b, d_eNot, x_tupV, x_lstV, d_eTup, d_eLst, x_cbV, d_eCB, retV_ret, retV_ex, retIo_own, retIo_io, x_call0, x_call1, d_eCall, x_isiV, d_eIsi, x_negV, d_eNeg, d_eDicK, d_eDicT, x_sl1, x_sl2, x_sl3, d_eSl, x_o1, d_oNone, d_oSome, x_revV, d_eRevL, x_compV, compFin_ok, d_eComp, d_eCompB, d_ePop, x_valA, d_aVal, d_aRef, d_lNil, x_l1, x_l2, d_lCons, blT_b, d_tE, d_tCmp, d_tChain, d_tW, x_notT, d_tNot, d_wOne, x_andT, x_orT, d_wAnd, d_wOr, d_cNil, d_cOne, itV_l, itV_t, itV_s, d_iIt, d_gNm, d_gTup, x_retS, d_sRet, d_sRetN, x_expS, d_sExp, x_ifS, d_sIf, d_sPass, d_sBrk, d_sCnt, x_asgS, d_sSet, x_tupS, d_sTup, x_appS, d_sApp, x_putS, x_putS2, d_sPut, x_forS, d_sFor, d_sWhile, d_sRaise, hand_nx, hand_rt, hand_ex, d_sTry, d_hNil, d_hCons, hands_nil, hands_cons, noEx_nx, noEx_rt, d_bNil, d_bCons, rho0, fCompB, wipeR, unwipe, sv_no, sv_val, sv_own, AV.ct, slCt, Sl.ct, Sl.od, cts, avVals, x_stOk, pl_no, pl_val, pl_own, slOf, tgAll, k_add, k_sub, k_mul, k_div, k_mod, k_pow, k_eq, k_ne, k_lt, k_le, k_gt, k_ge, k_is, k_isn, k_in, k_nin, isi_non, isi_bl, isi_int, isi_str, isi_lst, isi_tup, isi_dic, add_int, sub_int', lt_int', le_int', gt_int', ge_int', eq_int, ne_int, eq_str, ne_str, is_none, isn_none, is_bool, isn_bool, isNoneD, isBoolD, in_lst, in_tup, nin_lst, nin_tup, in_sgn, nin_sgn, len_lst, len_tup, tup_lst, tup_tup, lst_tup, int_int, x_rg1V, d_iRg1, pow18, ix_t0, ix_t1, ix_t2, ix_t3, ix_l0, sSl, Bf.sem, lk, lkD, deOf, lsAt, reOwn, dcAt, putAt, List.mapIdx_cons, List.mapIdx_nil, List.replicate, List.length_cons, List.length_nil, List.map_cons, List.map_nil, List.cons_append, List.nil_append, List.append_nil, List.set, List.getElem?_cons_zero, List.getElem?_cons_succ, List.getElem?_nil, List.getElem?_map, Option.map_some, Option.map_none, Option.getD_some, Option.getD_none, Option.or_some, Option.none_or, Option.some_or, ↓reduceIte, reduceCtorEq, Option.some.injEq, Nat.zero_add, Nat.reduceAdd, Nat.reduceSub, Nat.reduceLeDiff, Nat.reduceEqDiff, Nat.reduceLT, Nat.sub_self, Nat.add_one_sub_one, Bool.not_true, Bool.not_false, Bool.not_not, Bool.and_true, Bool.true_and, Bool.and_false, Bool.false_and, Bool.or_true, Bool.true_or, Bool.or_false, Bool.false_or, Bool.false_eq_true, Bool.not_eq_true', decide_true, decide_false, decide_eq_true_eq]
      | nil =>
        have f2 := firstO_nil hB
        simp only [m__law_difference, cd__law_difference, hm2, e7, ldiff_c1, ldiff_c0, h1, h4, hA, hB, k, diffO, swp, f1, f2, bind_ok, bind_ex, fl_ok, fl_ex, seq_nx, seq_rt, seq_bk, seq_ct, seq_ex, x_run, fin_nx, fin_rt, fin_ex, exit_none, exit_some, opt_some, d_eVar, d_eMov, d_eInt, d_eStr, d_eBl, d_eNon, d_eGlob, x_q1, x_q2, d_eBin, d_eCmp, d_eIx, chB_b, x_c1, x_c2, x_c4, d_eChain, d_eOne, andB_b, orB_b, d_eAnd, d_eOr, notV_b, d_eNot, x_tupV, x_lstV, d_eTup, d_eLst, x_cbV, d_eCB, retV_ret, retV_ex, retIo_own, retIo_io, x_call0, x_call1, d_eCall, x_isiV, d_eIsi, x_negV, d_eNeg, d_eDicK, d_eDicT, x_sl1, x_sl2, x_sl3, d_eSl, x_o1, d_oNone, d_oSome, x_revV, d_eRevL, x_compV, compFin_ok, d_eComp, d_eCompB, d_ePop, x_valA, d_aVal, d_aRef, d_lNil, x_l1, x_l2, d_lCons, blT_b, d_tE, d_tCmp, d_tChain, d_tW, x_notT, d_tNot, d_wOne, x_andT, x_orT, d_wAnd, d_wOr, d_cNil, d_cOne, itV_l, itV_t, itV_s, d_iIt, d_gNm, d_gTup, x_retS, d_sRet, d_sRetN, x_expS, d_sExp, x_ifS, d_sIf, d_sPass, d_sBrk, d_sCnt, x_asgS, d_sSet, x_tupS, d_sTup, x_appS, d_sApp, x_putS, x_putS2, d_sPut, x_forS, d_sFor, d_sWhile, d_sRaise, hand_nx, hand_rt, hand_ex, d_sTry, d_hNil, d_hCons, hands_nil, hands_cons, noEx_nx, noEx_rt, d_bNil, d_bCons, rho0, fCompB, wipeR, unwipe, sv_no, sv_val, sv_own, AV.ct, slCt, Sl.ct, Sl.od, cts, avVals, x_stOk, pl_no, pl_val, pl_own, slOf, tgAll, k_add, k_sub, k_mul, k_div, k_mod, k_pow, k_eq, k_ne, k_lt, k_le, k_gt, k_ge, k_is, k_isn, k_in, k_nin, isi_non, isi_bl, isi_int, isi_str, isi_lst, isi_tup, isi_dic, add_int, sub_int', lt_int', le_int', gt_int', ge_int', eq_int, ne_int, eq_str, ne_str, is_none, isn_none, is_bool, isn_bool, isNoneD, isBoolD, in_lst, in_tup, nin_lst, nin_tup, in_sgn, nin_sgn, len_lst, len_tup, tup_lst, tup_tup, lst_tup, int_int, x_rg1V, d_iRg1, pow18, ix_t0, ix_t1, ix_t2, ix_t3, ix_l0, sSl, Bf.sem, lk, lkD, deOf, lsAt, reOwn, dcAt, putAt, List.mapIdx_cons, List.mapIdx_nil, List.replicate, List.length_cons, List.length_nil, List.map_cons, List.map_nil, List.cons_append, List.nil_append, List.append_nil, List.set, List.getElem?_cons_zero, List.getElem?_cons_succ, List.getElem?_nil, List.getElem?_map, Option.map_some, Option.map_none, Option.getD_some, Option.getD_none, Option.or_some, Option.none_or, Option.some_or, ↓reduceIte, reduceCtorEq, Option.some.injEq, Nat.zero_add, Nat.reduceAdd, Nat.reduceSub, Nat.reduceLeDiff, Nat.reduceEqDiff, Nat.reduceLT, Nat.sub_self, Nat.add_one_sub_one, Bool.not_true, Bool.not_false, Bool.not_not, Bool.and_true, Bool.true_and, Bool.and_false, Bool.false_and, Bool.or_true, Bool.true_or, Bool.or_false, Bool.false_or, Bool.false_eq_true, Bool.not_eq_true', decide_true, decide_false, decide_eq_true_eq]
  · cases hA : c.filter (fun w => !decide (w ∈ c')) with
    | cons w r =>
      have k := ne_map_nil (w :: r)
      have f1 := firstO_cons hA
      simp only [List.map_cons, List.isEmpty_cons, Bool.not_false] at k
      simp only [m__law_difference, cd__law_difference, hm, e7, ldiff_c1, ldiff_c0, h2, h3, hA, k, diffO, swp, f1, bind_ok, bind_ex, fl_ok, fl_ex, seq_nx, seq_rt, seq_bk, seq_ct, seq_ex, x_run, fin_nx, fin_rt, fin_ex, exit_none, exit_some, opt_some, d_eVar, d_eMov, d_eInt, d_eStr, d_eBl, d_eNon, d_eGlob, x_q1, x_q2, d_eBin, d_eCmp, d_eIx, chB_b, x_c1, x_c2, x_c4, d_eChain, d_eOne, andB_b, orB_b, d_eAnd, d_eOr, notV_b, d_eNot, x_tupV, x_lstV, d_eTup, d_eLst, x_cbV, d_eCB, retV_ret, retV_ex, retIo_own, retIo_io, x_call0, x_call1, d_eCall, x_isiV, d_eIsi, x_negV, d_eNeg, d_eDicK, d_eDicT, x_sl1, x_sl2, x_sl3, d_eSl, x_o1, d_oNone, d_oSome, x_revV, d_eRevL, x_compV, compFin_ok, d_eComp, d_eCompB, d_ePop, x_valA, d_aVal, d_aRef, d_lNil, x_l1, x_l2, d_lCons, blT_b, d_tE, d_tCmp, d_tChain, d_tW, x_notT, d_tNot, d_wOne, x_andT, x_orT, d_wAnd, d_wOr, d_cNil, d_cOne, itV_l, itV_t, itV_s, d_iIt, d_gNm, d_gTup, x_retS, d_sRet, d_sRetN, x_expS, d_sExp, x_ifS, d_sIf, d_sPass, d_sBrk, d_sCnt, x_asgS, d_sSet, x_tupS, d_sTup, x_appS, d_sApp, x_putS, x_putS2, d_sPut, x_forS, d_sFor, d_sWhile, d_sRaise, hand_nx, hand_rt, hand_ex, d_sTry, d_hNil, d_hCons, hands_nil, hands_cons, noEx_nx, noEx_rt, d_bNil, d_bCons, rho0, fCompB, wipeR, unwipe, sv_no, sv_val, sv_own, AV.ct, slCt, Sl.ct, Sl.od, cts, avVals, x_stOk, pl_no, pl_val, pl_own, slOf, tgAll, k_add, k_sub, k_mul, k_div, k_mod, k_pow, k_eq, k_ne, k_lt, k_le, k_gt, k_ge, k_is, k_isn, k_in, k_nin, isi_non, isi_bl, isi_int, isi_str, isi_lst, isi_tup, isi_dic, add_int, sub_int', lt_int', le_int', gt_int', ge_int', eq_int, ne_int, eq_str, ne_str, is_none, isn_none, is_bool, isn_bool, isNoneD, isBoolD, in_lst, in_tup, nin_lst, nin_tup, in_sgn, nin_sgn, len_lst, len_tup, tup_lst, tup_tup, lst_tup, int_int, x_rg1V, d_iRg1, pow18, ix_t0, ix_t1, ix_t2, ix_t3, ix_l0, sSl, Bf.sem, lk, lkD, deOf, lsAt, reOwn, dcAt, putAt, List.mapIdx_cons, List.mapIdx_nil, List.replicate, List.length_cons, List.length_nil, List.map_cons, List.map_nil, List.cons_append, List.nil_append, List.append_nil, List.set, List.getElem?_cons_zero, List.getElem?_cons_succ, List.getElem?_nil, List.getElem?_map, Option.map_some, Option.map_none, Option.getD_some, Option.getD_none, Option.or_some, Option.none_or, Option.some_or, ↓reduceIte, reduceCtorEq, Option.some.injEq, Nat.zero_add, Nat.reduceAdd, Nat.reduceSub, Nat.reduceLeDiff, Nat.reduceEqDiff, Nat.reduceLT, Nat.sub_self, Nat.add_one_sub_one, Bool.not_true, Bool.not_false, Bool.not_not, Bool.and_true, Bool.true_and, Bool.and_false, Bool.false_and, Bool.or_true, Bool.true_or, Bool.or_false, Bool.false_or, Bool.false_eq_true, Bool.not_eq_true', decide_true, decide_false, decide_eq_true_eq]
    | nil =>
      have k := ne_map_nil []
      have f1 := firstO_nil hA
      simp only [List.map_nil, List.isEmpty_nil, Bool.not_true] at k
      cases hB : p'.filter (fun w => !decide (w ∈ p)) with
      | cons w r =>
        have k2 := ne_map_nil (w :: r)
        have f2 := firstO_cons hB
        simp only [List.map_cons, List.isEmpty_cons, Bool.not_false] at k2
        simp only [m__law_difference, cd__law_difference, hm, e7, ldiff_c1, ldiff_c0, h2, h3, hA, hB, k, k2, diffO, swp, f1, f2, bind_ok, bind_ex, fl_ok, fl_ex, seq_nx, seq_rt, seq_bk, seq_ct, seq_ex, x_run, fin_nx, fin_rt, fin_ex, exit_none, exit_some, opt_some, d_eVar, d_eMov, d_eInt, d_eStr, d_eBl, d_eNon, d_eGlob, x_q1, x_q2, d_eBin, d_eCmp, d_eIx, chB_b, x_c1, x_c2, x_c4, d_eChain, d_eOne, andB_b, orB_b, d_eAnd, d_eOr, notV_b, d_eNot, x_tupV, x_lstV, d_eTup, d_eLst, x_cbV, d_eCB, retV_ret, retV_ex, retIo_own, retIo_io, x_call0, x_call1, d_eCall, x_isiV, d_eIsi, x_negV, d_eNeg, d_eDicK, d_eDicT, x_sl1, x_sl2, x_sl3, d_eSl, x_o1, d_oNone, d_oSome, x_revV, d_eRevL, x_compV, compFin_ok, d_eComp, d_eCompB, d_ePop, x_valA, d_aVal, d_aRef, d_lNil, x_l1, x_l2, d_lCons, blT_b, d_tE, d_tCmp, d_tChain, d_tW, x_notT, d_tNot, d_wOne, x_andT, x_orT, d_wAnd, d_wOr, d_cNil, d_cOne, itV_l, itV_t, itV_s, d_iIt, d_gNm, d_gTup, x_retS, d_sRet, d_sRetN, x_expS, d_sExp, x_ifS, d_sIf, d_sPass, d_sBrk, d_sCnt, x_asgS, d_sSet, x_tupS, d_sTup, x_appS, d_sApp, x_putS, x_putS2, d_sPut, x_forS, d_sFor, d_sWhile, d_sRaise, hand_nx, hand_rt, hand_ex, d_sTry, d_hNil, d_hCons, hands_nil, hands_cons, noEx_nx, noEx_rt, d_bNil, d_bCons, rho0, fCompB, wipeR, unwipe, sv_no, sv_val, sv_own, AV.ct, slCt, Sl.ct, Sl.od, cts, avVals, x_stOk, pl_no, pl_val, pl_own, slOf, tgAll, k_add, k_sub, k_mul, k_div, k_mod, k_pow, k_eq, k_ne, k_lt, k_le, k_gt, k_ge, k_is, k_isn, k_in, k_nin, isi_non, isi_bl, isi_int, isi_str, isi_lst, isi_tup, isi_dic, add_int, sub_int', lt_int', le_int', gt_int', ge_int', eq_int, ne_int, eq_str, ne_str, is_none, isn_none, is_bool, isn_bool, isNoneD, isBoolD, in_lst, in_tup, nin_lst, nin_tup, in_sgn, nin_sgn, len_lst, len_tup, tup_lst, tup_tup, lst_tup, int_int, x_rg1V, d_iRg1, pow18, ix_t0, ix_t1, ix_t2, ix_t3, ix_l0, sSl, Bf.sem, lk, lkD, deOf, lsAt, reOwn, dcAt, putAt, List.mapIdx_cons, List.mapIdx_nil, List.replicate, List.length_cons, List.length_nil, List.map_cons, List.map_nil, List.cons_append, List.nil_append, List.append_nil, List.set, List.getElem?_cons_zero, List.getElem?_cons_succ, List.getElem?_nil, List.getElem?_map, Option.map_some, Option.map_none, Option.getD_some, Option.getD_none, Option.or_some, Option.none_or, Option.some_or, ↓reduceIte, reduceCtorEq, Option.some.injEq, Nat.zero_add, Nat.reduceAdd, Nat.reduceSub, Nat.reduceLeDiff, Nat.reduceEqDiff, Nat.reduceLT, Nat.sub_self, Nat.add_one_sub_one, Bool.not_true, Bool.not_false, Bool.not_not, Bool.and_true, Bool.true_and, Bool.and_false, Bool.false_and, Bool.or_true, Bool.true_or, Bool.or_false, Bool.false_or, Bool.false_eq_true, Bool.not_eq_true', decide_true, decide_false, decide_eq_true_eq]
      | nil =>
        have f2 := firstO_nil hB
        simp only [m__law_difference, cd__law_difference, hm, e7, ldiff_c1, ldiff_c0, h2, h3, hA, hB, k, diffO, swp, f1, f2, bind_ok, bind_ex, fl_ok, fl_ex, seq_nx, seq_rt, seq_bk, seq_ct, seq_ex, x_run, fin_nx, fin_rt, fin_ex, exit_none, exit_some, opt_some, d_eVar, d_eMov, d_eInt, d_eStr, d_eBl, d_eNon, d_eGlob, x_q1, x_q2, d_eBin, d_eCmp, d_eIx, chB_b, x_c1, x_c2, x_c4, d_eChain, d_eOne, andB_b, orB_b, d_eAnd, d_eOr, notV_b, d_eNot, x_tupV, x_lstV, d_eTup, d_eLst, x_cbV, d_eCB, retV_ret, retV_ex, retIo_own, retIo_io, x_call0, x_call1, d_eCall, x_isiV, d_eIsi, x_negV, d_eNeg, d_eDicK, d_eDicT, x_sl1, x_sl2, x_sl3, d_eSl, x_o1, d_oNone, d_oSome, x_revV, d_eRevL, x_compV, compFin_ok, d_eComp, d_eCompB, d_ePop, x_valA, d_aVal, d_aRef, d_lNil, x_l1, x_l2, d_lCons, blT_b, d_tE, d_tCmp, d_tChain, d_tW, x_notT, d_tNot, d_wOne, x_andT, x_orT, d_wAnd, d_wOr, d_cNil, d_cOne, itV_l, itV_t, itV_s, d_iIt, d_gNm, d_gTup, x_retS, d_sRet, d_sRetN, x_expS, d_sExp, x_ifS, d_sIf, d_sPass, d_sBrk, d_sCnt, x_asgS, d_sSet, x_tupS, d_sTup, x_appS, d_sApp, x_putS, x_putS2, d_sPut, x_forS, d_sFor, d_sWhile, d_sRaise, hand_nx, hand_rt, hand_ex, d_sTry, d_hNil, d_hCons, hands_nil, hands_cons, noEx_nx, noEx_rt, d_bNil, d_bCons, rho0, fCompB, wipeR, unwipe, sv_no, sv_val, sv_own, AV.ct, slCt, Sl.ct, Sl.od, cts, avVals, x_stOk, pl_no, pl_val, pl_own, slOf, tgAll, k_add, k_sub, k_mul, k_div, k_mod, k_pow, k_eq, k_ne, k_lt, k_le, k_gt, k_ge, k_is, k_isn, k_in, k_nin, isi_non, isi_bl, isi_int, isi_str, isi_lst, isi_tup, isi_dic, add_int, sub_int', lt_int', le_int', gt_int', ge_int', eq_int, ne_int, eq_str, ne_str, is_none, isn_none, is_bool, isn_bool, isNoneD, isBoolD, in_lst, in_tup, nin_lst, nin_tup, in_sgn, nin_sgn, len_lst, len_tup, tup_lst, tup_tup, lst_tup, int_int, x_rg1V, d_iRg1, pow18, ix_t0, ix_t1, ix_t2, ix_t3, ix_l0, sSl, Bf.sem, lk, lkD, deOf, lsAt, reOwn, dcAt, putAt, List.mapIdx_cons, List.mapIdx_nil, List.replicate, List.length_cons, List.length_nil, List.map_cons, List.map_nil, List.cons_append, List.nil_append, List.append_nil, List.set, List.getElem?_cons_zero, List.getElem?_cons_succ, List.getElem?_nil, List.getElem?_map, Option.map_some, Option.map_none, Option.getD_some, Option.getD_none, Option.or_some, Option.none_or, Option.some_or, ↓reduceIte, reduceCtorEq, Option.some.injEq, Nat.zero_add, Nat.reduceAdd, Nat.reduceSub, Nat.reduceLeDiff, Nat.reduceEqDiff, Nat.reduceLT, Nat.sub_self, Nat.add_one_sub_one, Bool.not_true, Bool.not_false, Bool.not_not, Bool.and_true, Bool.true_and, Bool.and_false, Bool.false_and, Bool.or_true, Bool.true_or, Bool.or_false, Bool.false_or, Bool.false_eq_true, Bool.not_eq_true', decide_true, decide_false, decide_eq_true_eq]
end PV.Lw
namespace PV.Lw
open PySem L2 PV

/-! _law_same: a datum against itself -/
def okS : Nat → D → Bool
  | 0, _ => false
  | n + 1, .tuple ds => decide (ds.length < 1000000) && ds.all (okS n)
  | _ + 1, .list _ => false
  | _ + 1, .dict _ => false
  | _ + 1, _ => true
theorem bls_true (n : Nat) : ∀ (l : List D), blsD (l.map fun _ => PyData.bool true) = some (List.replicate l.length true)
  | [] => rfl
  | _ :: l => by
    rw [List.map_cons]
    show (blsD (l.map fun _ => PyData.bool true)).map _ = _
    rw [bls_true n l]; rfl
theorem all_true (l : List D) : cAll [.list (l.map fun _ => PyData.bool true)] = some (.bool true, false) := by
  show (blsD _).map _ = _
  rw [bls_true 0 l]
  simp
theorem sm_args (Y : DE) (x : D) (ds : List D) : den Y (.lCons (.aVal (.eCB .len (.lCons (.aRef 1) .lNil))) .lNil) [.val x, .val (.tuple ds), .no] = .ok [.v (.int (ds.length : Int))] [.val x, .val (.tuple ds), .no] := by
  simp only [bind_ok, bind_ex, fl_ok, fl_ex, seq_nx, seq_rt, seq_bk, seq_ct, seq_ex, x_run, fin_nx, fin_rt, fin_ex, exit_none, exit_some, opt_some, d_eVar, d_eMov, d_eInt, d_eStr, d_eBl, d_eNon, d_eGlob, x_q1, x_q2, d_eBin, d_eCmp, d_eIx, chB_b, x_c1, x_c2, x_c4, d_eChain, d_eOne, andB_b, orB_b, d_eAnd, d_eOr, notV_b, d_eNot, x_tupV, x_lstV, d_eTup, d_eLst, x_cbV, d_eCB, retV_ret, retV_ex, retIo_own, retIo_io, x_call0, x_call1, d_eCall, x_isiV, d_eIsi, x_negV, d_eNeg, d_eDicK, d_eDicT, x_sl1, x_sl2, x_sl3, d_eSl, x_o1, d_oNone, d_oSome, x_revV, d_eRevL, x_compV, compFin_ok, d_eComp, d_eCompB, d_ePop, x_valA, d_aVal, d_aRef, d_lNil, x_l1, x_l2, d_lCons, blT_b, d_tE, d_tCmp, d_tChain, d_tW, x_notT, d_tNot, d_wOne, x_andT, x_orT, d_wAnd, d_wOr, d_cNil, d_cOne, itV_l, itV_t, itV_s, d_iIt, d_gNm, d_gTup, x_retS, d_sRet, d_sRetN, x_expS, d_sExp, x_ifS, d_sIf, d_sPass, d_sBrk, d_sCnt, x_asgS, d_sSet, x_tupS, d_sTup, x_appS, d_sApp, x_putS, x_putS2, d_sPut, x_forS, d_sFor, d_sWhile, d_sRaise, hand_nx, hand_rt, hand_ex, d_sTry, d_hNil, d_hCons, hands_nil, hands_cons, noEx_nx, noEx_rt, d_bNil, d_bCons, rho0, fCompB, wipeR, unwipe, sv_no, sv_val, sv_own, AV.ct, slCt, Sl.ct, Sl.od, cts, avVals, x_stOk, pl_no, pl_val, pl_own, slOf, tgAll, k_add, k_sub, k_mul, k_div, k_mod, k_pow, k_eq, k_ne, k_lt, k_le, k_gt, k_ge, k_is, k_isn, k_in, k_nin, isi_non, isi_bl, isi_int, isi_str, isi_lst, isi_tup, isi_dic, add_int, sub_int', lt_int', le_int', gt_int', ge_int', eq_int, ne_int, eq_str, ne_str, is_none, isn_none, is_bool, isn_bool, isNoneD, isBoolD, in_lst, in_tup, nin_lst, nin_tup, in_sgn, nin_sgn, len_lst, len_tup, tup_lst, tup_tup, lst_tup, int_int, x_rg1V, d_iRg1, pow18, ix_t0, ix_t1, ix_t2, ix_t3, ix_l0, sSl, Bf.sem, lk, lkD, deOf, lsAt, reOwn, dcAt, putAt, List.mapIdx_cons, List.mapIdx_nil, List.replicate, List.length_cons, List.length_nil, List.map_cons, List.map_nil, List.cons_append, List.nil_append, List.append_nil, List.set, List.getElem?_cons_zero, List.getElem?_cons_succ, List.getElem?_nil, List.getElem?_map, Option.map_some, Option.map_none, Option.getD_some, Option.getD_none, Option.or_some, Option.none_or, Option.some_or, ↓reduceIte, reduceCtorEq, Option.some.injEq, Nat.zero_add, Nat.reduceAdd, Nat.reduceSub, Nat.reduceLeDiff, Nat.reduceEqDiff, Nat.reduceLT, Nat.sub_self, Nat.add_one_sub_one, Bool.not_true, Bool.not_false, Bool.not_not, Bool.and_true, Bool.true_and, Bool.and_false, Bool.false_and, Bool.or_true, Bool.true_or, Bool.or_false, Bool.false_or, Bool.false_eq_true, Bool.not_eq_true', decide_true, decide_false, decide_eq_true_eq]
theorem sm_aux (n : Nat) (ds R out : List D)
    (hit : den (Y__law_same (r__law_same n)) (.iRg1 (.lCons (.aVal (.eCB .len (.lCons (.aRef 1) .lNil))) .lNil)) [.val (.tuple ds), .val (.tuple ds), .no] = .ok R [.val (.tuple ds), .val (.tuple ds), .no])
    (hc : compLoop [2] (tgName 2) (den (k := .C) (Y__law_same (r__law_same n)) .cNil) (den (Y__law_same (r__law_same n)) cd__law_same_e0) R [] [.val (.tuple ds), .val (.tuple ds), .no] = .ok out [.val (.tuple ds), .val (.tuple ds), .no])
    (ha : cAll [.list out] = some (.bool true, false)) : r__law_same (n + 1) [.tuple ds, .tuple ds] = .ret (.bool true) false .none := by
  have e2 : ∀ m, den (Y__law_same m) (.gNm 2) = tgName 2 := fun _ => rfl
  rw [r__law_same.eq_2]
  simp -implicitDefEqProofs only [cd__law_same, ↓hit, e2, hc, ha, bind_ok, bind_ex, fl_ok, fl_ex, seq_nx, seq_rt, seq_bk, seq_ct, seq_ex, x_run, fin_nx, fin_rt, fin_ex, exit_none, exit_some, opt_some, d_eVar, d_eMov, d_eInt, d_eStr, d_eBl, d_eNon, d_eGlob, x_q1, x_q2, d_eBin, d_eCmp, d_eIx, chB_b, x_c1, x_c2, x_c4, d_eChain, d_eOne, andB_b, orB_b, d_eAnd, d_eOr, notV_b, d_eNot, x_tupV, x_lstV, d_eTup, d_eLst, x_cbV, d_eCB, retV_ret, retV_ex, retIo_own, retIo_io, x_call0, x_call1, d_eCall, x_isiV, d_eIsi, x_negV, d_eNeg, d_eDicK, d_eDicT, x_sl1, x_sl2, x_sl3, d_eSl, x_o1, d_oNone, d_oSome, x_revV, d_eRevL, x_compV, compFin_ok, d_eComp, d_eCompB, d_ePop, x_valA, d_aVal, d_aRef, d_lNil, x_l1, x_l2, d_lCons, blT_b, d_tE, d_tCmp, d_tChain, d_tW, x_notT, d_tNot, d_wOne, x_andT, x_orT, d_wAnd, d_wOr, d_cNil, d_cOne, itV_l, itV_t, itV_s, d_iIt, d_gNm, d_gTup, x_retS, d_sRet, d_sRetN, x_expS, d_sExp, x_ifS, d_sIf, d_sPass, d_sBrk, d_sCnt, x_asgS, d_sSet, x_tupS, d_sTup, x_appS, d_sApp, x_putS, x_putS2, d_sPut, x_forS, d_sFor, d_sWhile, d_sRaise, hand_nx, hand_rt, hand_ex, d_sTry, d_hNil, d_hCons, hands_nil, hands_cons, noEx_nx, noEx_rt, d_bNil, d_bCons, rho0, fCompB, wipeR, unwipe, sv_no, sv_val, sv_own, AV.ct, slCt, Sl.ct, Sl.od, cts, avVals, x_stOk, pl_no, pl_val, pl_own, slOf, tgAll, k_add, k_sub, k_mul, k_div, k_mod, k_pow, k_eq, k_ne, k_lt, k_le, k_gt, k_ge, k_is, k_isn, k_in, k_nin, isi_non, isi_bl, isi_int, isi_str, isi_lst, isi_tup, isi_dic, add_int, sub_int', lt_int', le_int', gt_int', ge_int', eq_int, ne_int, eq_str, ne_str, is_none, isn_none, is_bool, isn_bool, isNoneD, isBoolD, in_lst, in_tup, nin_lst, nin_tup, in_sgn, nin_sgn, len_lst, len_tup, tup_lst, tup_tup, lst_tup, int_int, x_rg1V, d_iRg1, pow18, ix_t0, ix_t1, ix_t2, ix_t3, ix_l0, sSl, Bf.sem, lk, lkD, deOf, lsAt, reOwn, dcAt, putAt, List.mapIdx_cons, List.mapIdx_nil, List.replicate, List.length_cons, List.length_nil, List.map_cons, List.map_nil, List.cons_append, List.nil_append, List.append_nil, List.set, List.getElem?_cons_zero, List.getElem?_cons_succ, List.getElem?_nil, List.getElem?_map, Option.map_some, Option.map_none, Option.getD_some, Option.getD_none, Option.or_some, Option.none_or, Option.some_or, ↓reduceIte, reduceCtorEq, Option.some.injEq, Nat.zero_add, Nat.reduceAdd, Nat.reduceSub, Nat.reduceLeDiff, Nat.reduceEqDiff, Nat.reduceLT, Nat.sub_self, Nat.add_one_sub_one, Bool.not_true, Bool.not_false, Bool.not_not, Bool.and_true, Bool.true_and, Bool.and_false, Bool.false_and, Bool.or_true, Bool.true_or, Bool.or_false, Bool.false_or, Bool.false_eq_true, Bool.not_eq_true', decide_true, decide_false, decide_eq_true_eq]
theorem same_refl (n : Nat) : ∀ d : D, okS n d = true → r__law_same n [d, d] = .ret (.bool true) false .none := by
  induction n with
  | zero => intro d h; cases h
  | succ n ih =>
    intro d h
    cases d with
    | none => simp only [r__law_same, m__law_same, cd__law_same, ys__law_same_0, bind_ok, bind_ex, fl_ok, fl_ex, seq_nx, seq_rt, seq_bk, seq_ct, seq_ex, x_run, fin_nx, fin_rt, fin_ex, exit_none, exit_some, opt_some, d_eVar, d_eMov, d_eInt, d_eStr, d_eBl, d_eNon, d_eGlob, x_q1, x_q2, d_eBin, d_eCmp, d_eIx, chB_b, x_c1, x_c2, x_c4, d_eChain, d_eOne, andB_b, orB_b, d_eAnd, d_eOr, notV_b, d_eNot, x_tupV, x_lstV, d_eTup, d_eLst, x_cbV, d_eCB, retV_ret, retV_ex, retIo_own, retIo_io, x_call0, x_call1, d_eCall, x_isiV, d_eIsi, x_negV, d_eNeg, d_eDicK, d_eDicT, x_sl1, x_sl2, x_sl3, d_eSl, x_o1, d_oNone, d_oSome, x_revV, d_eRevL, x_compV, compFin_ok, d_eComp, d_eCompB, d_ePop, x_valA, d_aVal, d_aRef, d_lNil, x_l1, x_l2, d_lCons, blT_b, d_tE, d_tCmp, d_tChain, d_tW, x_notT, d_tNot, d_wOne, x_andT, x_orT, d_wAnd, d_wOr, d_cNil, d_cOne, itV_l, itV_t, itV_s, d_iIt, d_gNm, d_gTup, x_retS, d_sRet, d_sRetN, x_expS, d_sExp, x_ifS, d_sIf, d_sPass, d_sBrk, d_sCnt, x_asgS, d_sSet, x_tupS, d_sTup, x_appS, d_sApp, x_putS, x_putS2, d_sPut, x_forS, d_sFor, d_sWhile, d_sRaise, hand_nx, hand_rt, hand_ex, d_sTry, d_hNil, d_hCons, hands_nil, hands_cons, noEx_nx, noEx_rt, d_bNil, d_bCons, rho0, fCompB, wipeR, unwipe, sv_no, sv_val, sv_own, AV.ct, slCt, Sl.ct, Sl.od, cts, avVals, x_stOk, pl_no, pl_val, pl_own, slOf, tgAll, k_add, k_sub, k_mul, k_div, k_mod, k_pow, k_eq, k_ne, k_lt, k_le, k_gt, k_ge, k_is, k_isn, k_in, k_nin, isi_non, isi_bl, isi_int, isi_str, isi_lst, isi_tup, isi_dic, add_int, sub_int', lt_int', le_int', gt_int', ge_int', eq_int, ne_int, eq_str, ne_str, is_none, isn_none, is_bool, isn_bool, isNoneD, isBoolD, in_lst, in_tup, nin_lst, nin_tup, in_sgn, nin_sgn, len_lst, len_tup, tup_lst, tup_tup, lst_tup, int_int, x_rg1V, d_iRg1, pow18, ix_t0, ix_t1, ix_t2, ix_t3, ix_l0, sSl, Bf.sem, lk, lkD, deOf, lsAt, reOwn, dcAt, putAt, List.mapIdx_cons, List.mapIdx_nil, List.replicate, List.length_cons, List.length_nil, List.map_cons, List.map_nil, List.cons_append, List.nil_append, List.append_nil, List.set, List.getElem?_cons_zero, List.getElem?_cons_succ, List.getElem?_nil, List.getElem?_map, Option.map_some, Option.map_none, Option.getD_some, Option.getD_none, Option.or_some, Option.none_or, Option.some_or, ↓reduceIte, reduceCtorEq, Option.some.injEq, Nat.zero_add, Nat.reduceAdd, Nat.reduceSub, Nat.reduceLeDiff, Nat.reduceEqDiff, Nat.reduceLT, Nat.sub_self, Nat.add_one_sub_one, Bool.not_true, Bool.not_false, Bool.not_not, Bool.and_true, Bool.true_and, Bool.and_false, Bool.false_and, Bool.or_true, Bool.true_or, Bool.or_false, Bool.false_or, Bool.false_eq_true, Bool.not_eq_true', decide_true, decide_false, decide_eq_true_eq]
    | bool b =>
      have b1 : (false == true) = false := rfl
      have b2 : (true == true) = true := rfl
      have b3 : (false == false) = true := rfl
      cases b <;> simp only [r__law_same, m__law_same, cd__law_same, ys__law_same_0, b1, b2, b3, bind_ok, bind_ex, fl_ok, fl_ex, seq_nx, seq_rt, seq_bk, seq_ct, seq_ex, x_run, fin_nx, fin_rt, fin_ex, exit_none, exit_some, opt_some, d_eVar, d_eMov, d_eInt, d_eStr, d_eBl, d_eNon, d_eGlob, x_q1, x_q2, d_eBin, d_eCmp, d_eIx, chB_b, x_c1, x_c2, x_c4, d_eChain, d_eOne, andB_b, orB_b, d_eAnd, d_eOr, notV_b, d_eNot, x_tupV, x_lstV, d_eTup, d_eLst, x_cbV, d_eCB, retV_ret, retV_ex, retIo_own, retIo_io, x_call0, x_call1, d_eCall, x_isiV, d_eIsi, x_negV, d_eNeg, d_eDicK, d_eDicT, x_sl1, x_sl2, x_sl3, d_eSl, x_o1, d_oNone, d_oSome, x_revV, d_eRevL, x_compV, compFin_ok, d_eComp, d_eCompB, d_ePop, x_valA, d_aVal, d_aRef, d_lNil, x_l1, x_l2, d_lCons, blT_b, d_tE, d_tCmp, d_tChain, d_tW, x_notT, d_tNot, d_wOne, x_andT, x_orT, d_wAnd, d_wOr, d_cNil, d_cOne, itV_l, itV_t, itV_s, d_iIt, d_gNm, d_gTup, x_retS, d_sRet, d_sRetN, x_expS, d_sExp, x_ifS, d_sIf, d_sPass, d_sBrk, d_sCnt, x_asgS, d_sSet, x_tupS, d_sTup, x_appS, d_sApp, x_putS, x_putS2, d_sPut, x_forS, d_sFor, d_sWhile, d_sRaise, hand_nx, hand_rt, hand_ex, d_sTry, d_hNil, d_hCons, hands_nil, hands_cons, noEx_nx, noEx_rt, d_bNil, d_bCons, rho0, fCompB, wipeR, unwipe, sv_no, sv_val, sv_own, AV.ct, slCt, Sl.ct, Sl.od, cts, avVals, x_stOk, pl_no, pl_val, pl_own, slOf, tgAll, k_add, k_sub, k_mul, k_div, k_mod, k_pow, k_eq, k_ne, k_lt, k_le, k_gt, k_ge, k_is, k_isn, k_in, k_nin, isi_non, isi_bl, isi_int, isi_str, isi_lst, isi_tup, isi_dic, add_int, sub_int', lt_int', le_int', gt_int', ge_int', eq_int, ne_int, eq_str, ne_str, is_none, isn_none, is_bool, isn_bool, isNoneD, isBoolD, in_lst, in_tup, nin_lst, nin_tup, in_sgn, nin_sgn, len_lst, len_tup, tup_lst, tup_tup, lst_tup, int_int, x_rg1V, d_iRg1, pow18, ix_t0, ix_t1, ix_t2, ix_t3, ix_l0, sSl, Bf.sem, lk, lkD, deOf, lsAt, reOwn, dcAt, putAt, List.mapIdx_cons, List.mapIdx_nil, List.replicate, List.length_cons, List.length_nil, List.map_cons, List.map_nil, List.cons_append, List.nil_append, List.append_nil, List.set, List.getElem?_cons_zero, List.getElem?_cons_succ, List.getElem?_nil, List.getElem?_map, Option.map_some, Option.map_none, Option.getD_some, Option.getD_none, Option.or_some, Option.none_or, Option.some_or, ↓reduceIte, reduceCtorEq, Option.some.injEq, Nat.zero_add, Nat.reduceAdd, Nat.reduceSub, Nat.reduceLeDiff, Nat.reduceEqDiff, Nat.reduceLT, Nat.sub_self, Nat.add_one_sub_one, Bool.not_true, Bool.not_false, Bool.not_not, Bool.and_true, Bool.true_and, Bool.and_false, Bool.false_and, Bool.or_true, Bool.true_or, Bool.or_false, Bool.false_or, Bool.false_eq_true, Bool.not_eq_true', decide_true, decide_false, decide_eq_true_eq]
    | int i => simp only [r__law_same, m__law_same, cd__law_same, ys__law_same_0, bind_ok, bind_ex, fl_ok, fl_ex, seq_nx, seq_rt, seq_bk, seq_ct, seq_ex, x_run, fin_nx, fin_rt, fin_ex, exit_none, exit_some, opt_some, d_eVar, d_eMov, d_eInt, d_eStr, d_eBl, d_eNon, d_eGlob, x_q1, x_q2, d_eBin, d_eCmp, d_eIx, chB_b, x_c1, x_c2, x_c4, d_eChain, d_eOne, andB_b, orB_b, d_eAnd, d_eOr, notV_b, d_eNot, x_tupV, x_lstV, d_eTup, d_eLst, x_cbV, d_eCB, retV_ret, retV_ex, retIo_own, retIo_io, x_call0, x_call1, d_eCall, x_isiV, d_eIsi, x_negV, d_eNeg, d_eDicK, d_eDicT, x_sl1, x_sl2, x_sl3, d_eSl, x_o1, d_oNone, d_oSome, x_revV, d_eRevL, x_compV, compFin_ok, d_eComp, d_eCompB, d_ePop, x_valA, d_aVal, d_aRef, d_lNil, x_l1, x_l2, d_lCons, blT_b, d_tE, d_tCmp, d_tChain, d_tW, x_notT, d_tNot, d_wOne, x_andT, x_orT, d_wAnd, d_wOr, d_cNil, d_cOne, itV_l, itV_t, itV_s, d_iIt, d_gNm, d_gTup, x_retS, d_sRet, d_sRetN, x_expS, d_sExp, x_ifS, d_sIf, d_sPass, d_sBrk, d_sCnt, x_asgS, d_sSet, x_tupS, d_sTup, x_appS, d_sApp, x_putS, x_putS2, d_sPut, x_forS, d_sFor, d_sWhile, d_sRaise, hand_nx, hand_rt, hand_ex, d_sTry, d_hNil, d_hCons, hands_nil, hands_cons, noEx_nx, noEx_rt, d_bNil, d_bCons, rho0, fCompB, wipeR, unwipe, sv_no, sv_val, sv_own, AV.ct, slCt, Sl.ct, Sl.od, cts, avVals, x_stOk, pl_no, pl_val, pl_own, slOf, tgAll, k_add, k_sub, k_mul, k_div, k_mod, k_pow, k_eq, k_ne, k_lt, k_le, k_gt, k_ge, k_is, k_isn, k_in, k_nin, isi_non, isi_bl, isi_int, isi_str, isi_lst, isi_tup, isi_dic, add_int, sub_int', lt_int', le_int', gt_int', ge_int', eq_int, ne_int, eq_str, ne_str, is_none, isn_none, is_bool, isn_bool, isNoneD, isBoolD, in_lst, in_tup, nin_lst, nin_tup, in_sgn, nin_sgn, len_lst, len_tup, tup_lst, tup_tup, lst_tup, int_int, x_rg1V, d_iRg1, pow18, ix_t0, ix_t1, ix_t2, ix_t3, ix_l0, sSl, Bf.sem, lk, lkD, deOf, lsAt, reOwn, dcAt, putAt, List.mapIdx_cons, List.mapIdx_nil, List.replicate, List.length_cons, List.length_nil, List.map_cons, List.map_nil, List.cons_append, List.nil_append, List.append_nil, List.set, List.getElem?_cons_zero, List.getElem?_cons_succ, List.getElem?_nil, List.getElem?_map, Option.map_some, Option.map_none, Option.getD_some, Option.getD_none, Option.or_some, Option.none_or, Option.some_or, ↓reduceIte, reduceCtorEq, Option.some.injEq, Nat.zero_add, Nat.reduceAdd, Nat.reduceSub, Nat.reduceLeDiff, Nat.reduceEqDiff, Nat.reduceLT, Nat.sub_self, Nat.add_one_sub_one, Bool.not_true, Bool.not_false, Bool.not_not, Bool.and_true, Bool.true_and, Bool.and_false, Bool.false_and, Bool.or_true, Bool.true_or, Bool.or_false, Bool.false_or, Bool.false_eq_true, Bool.not_eq_true', decide_true, decide_false, decide_eq_true_eq]
    | str i => simp only [r__law_same, m__law_same, cd__law_same, ys__law_same_0, bind_ok, bind_ex, fl_ok, fl_ex, seq_nx, seq_rt, seq_bk, seq_ct, seq_ex, x_run, fin_nx, fin_rt, fin_ex, exit_none, exit_some, opt_some, d_eVar, d_eMov, d_eInt, d_eStr, d_eBl, d_eNon, d_eGlob, x_q1, x_q2, d_eBin, d_eCmp, d_eIx, chB_b, x_c1, x_c2, x_c4, d_eChain, d_eOne, andB_b, orB_b, d_eAnd, d_eOr, notV_b, d_eNot, x_tupV, x_lstV, d_eTup, d_eLst, x_cbV, d_eCB, retV_ret, retV_ex, retIo_own, retIo_io, x_call0, x_call1, d_eCall, x_isiV, d_eIsi, x_negV, d_eNeg, d_eDicK, d_eDicT, x_sl1, x_sl2, x_sl3, d_eSl, x_o1, d_oNone, d_oSome, x_revV, d_eRevL, x_compV, compFin_ok, d_eComp, d_eCompB, d_ePop, x_valA, d_aVal, d_aRef, d_lNil, x_l1, x_l2, d_lCons, blT_b, d_tE, d_tCmp, d_tChain, d_tW, x_notT, d_tNot, d_wOne, x_andT, x_orT, d_wAnd, d_wOr, d_cNil, d_cOne, itV_l, itV_t, itV_s, d_iIt, d_gNm, d_gTup, x_retS, d_sRet, d_sRetN, x_expS, d_sExp, x_ifS, d_sIf, d_sPass, d_sBrk, d_sCnt, x_asgS, d_sSet, x_tupS, d_sTup, x_appS, d_sApp, x_putS, x_putS2, d_sPut, x_forS, d_sFor, d_sWhile, d_sRaise, hand_nx, hand_rt, hand_ex, d_sTry, d_hNil, d_hCons, hands_nil, hands_cons, noEx_nx, noEx_rt, d_bNil, d_bCons, rho0, fCompB, wipeR, unwipe, sv_no, sv_val, sv_own, AV.ct, slCt, Sl.ct, Sl.od, cts, avVals, x_stOk, pl_no, pl_val, pl_own, slOf, tgAll, k_add, k_sub, k_mul, k_div, k_mod, k_pow, k_eq, k_ne, k_lt, k_le, k_gt, k_ge, k_is, k_isn, k_in, k_nin, isi_non, isi_bl, isi_int, isi_str, isi_lst, isi_tup, isi_dic, add_int, sub_int', lt_int', le_int', gt_int', ge_int', eq_int, ne_int, eq_str, ne_str, is_none, isn_none, is_bool, isn_bool, isNoneD, isBoolD, in_lst, in_tup, nin_lst, nin_tup, in_sgn, nin_sgn, len_lst, len_tup, tup_lst, tup_tup, lst_tup, int_int, x_rg1V, d_iRg1, pow18, ix_t0, ix_t1, ix_t2, ix_t3, ix_l0, sSl, Bf.sem, lk, lkD, deOf, lsAt, reOwn, dcAt, putAt, List.mapIdx_cons, List.mapIdx_nil, List.replicate, List.length_cons, List.length_nil, List.map_cons, List.map_nil, List.cons_append, List.nil_append, List.append_nil, List.set, List.getElem?_cons_zero, List.getElem?_cons_succ, List.getElem?_nil, List.getElem?_map, Option.map_some, Option.map_none, Option.getD_some, Option.getD_none, Option.or_some, Option.none_or, Option.some_or, ↓reduceIte, reduceCtorEq, Option.some.injEq, Nat.zero_add, Nat.reduceAdd, Nat.reduceSub, Nat.reduceLeDiff, Nat.reduceEqDiff, Nat.reduceLT, Nat.sub_self, Nat.add_one_sub_one, Bool.not_true, Bool.not_false, Bool.not_not, Bool.and_true, Bool.true_and, Bool.and_false, Bool.false_and, Bool.or_true, Bool.true_or, Bool.or_false, Bool.false_or, Bool.false_eq_true, Bool.not_eq_true', decide_true, decide_false, decide_eq_true_eq]
    | list _ => cases h
    | dict _ => cases h
    | tuple ds =>
      unfold okS at h
      simp only [Bool.and_eq_true, decide_eq_true_eq, List.all_eq_true] at h
      obtain ⟨h1, h2⟩ := h
      have e2 : ∀ m, den (Y__law_same m) (.gNm 2) = tgName 2 := fun _ => rfl
      have hc := comp_pure (own := [2]) (tgt := tgName 2) (c := den (k := .C) (Y__law_same (r__law_same n)) .cNil) (e := den (Y__law_same (r__law_same n)) cd__law_same_e0) (p := fun _ => true) (v := fun _ => PyData.bool true) (ρ := [.val (.tuple ds), .val (.tuple ds), .no]) (rgD 0 (ds.length : Int)) [] (by
        intro d hd
        obtain ⟨j, hj⟩ := List.getElem?_of_mem hd
        obtain ⟨rfl, h3⟩ := rg_get hj
        have h4 : j < ds.length := by omega
        have h5 := ih ds[j] (h2 _ (List.getElem_mem h4))
        have h6 : bIx (.tuple ds) (.int (0 + (j : Int))) = some (ds[j], false) := by
          rw [Int.zero_add]
          exact ix_tup (List.getElem?_eq_getElem h4)
        refine ⟨[.val (.tuple ds), .val (.tuple ds), .val (.int (0 + (j : Int)))], rfl, rfl, rfl, fun _ => ⟨false, [.val (.tuple ds), .val (.tuple ds), .val (.int (0 + (j : Int)))], ?_, rfl⟩⟩
        simp only [cd__law_same_e0, ys__law_same_0, h6, h5, bind_ok, bind_ex, fl_ok, fl_ex, seq_nx, seq_rt, seq_bk, seq_ct, seq_ex, x_run, fin_nx, fin_rt, fin_ex, exit_none, exit_some, opt_some, d_eVar, d_eMov, d_eInt, d_eStr, d_eBl, d_eNon, d_eGlob, x_q1, x_q2, d_eBin, d_eCmp, d_eIx, chB_b, x_c1, x_c2, x_c4, d_eChain, d_eOne, andB_b, orB_b, d_eAnd, d_eOr, notV_b, d_eNot, x_tupV, x_lstV, d_eTup, d_eLst, x_cbV, d_eCB, retV_ret, retV_ex, retIo_own, retIo_io, x_call0, x_call1, d_eCall, x_isiV, d_eIsi, x_negV, d_eNeg, d_eDicK, d_eDicT, x_sl1, x_sl2, x_sl3, d_eSl, x_o1, d_oNone, d_oSome, x_revV, d_eRevL, x_compV, compFin_ok, d_eComp, d_eCompB, d_ePop, x_valA, d_aVal, d_aRef, d_lNil, x_l1, x_l2, d_lCons, blT_b, d_tE, d_tCmp, d_tChain, d_tW, x_notT, d_tNot, d_wOne, x_andT, x_orT, d_wAnd, d_wOr, d_cNil, d_cOne, itV_l, itV_t, itV_s, d_iIt, d_gNm, d_gTup, x_retS, d_sRet, d_sRetN, x_expS, d_sExp, x_ifS, d_sIf, d_sPass, d_sBrk, d_sCnt, x_asgS, d_sSet, x_tupS, d_sTup, x_appS, d_sApp, x_putS, x_putS2, d_sPut, x_forS, d_sFor, d_sWhile, d_sRaise, hand_nx, hand_rt, hand_ex, d_sTry, d_hNil, d_hCons, hands_nil, hands_cons, noEx_nx, noEx_rt, d_bNil, d_bCons, rho0, fCompB, wipeR, unwipe, sv_no, sv_val, sv_own, AV.ct, slCt, Sl.ct, Sl.od, cts, avVals, x_stOk, pl_no, pl_val, pl_own, slOf, tgAll, k_add, k_sub, k_mul, k_div, k_mod, k_pow, k_eq, k_ne, k_lt, k_le, k_gt, k_ge, k_is, k_isn, k_in, k_nin, isi_non, isi_bl, isi_int, isi_str, isi_lst, isi_tup, isi_dic, add_int, sub_int', lt_int', le_int', gt_int', ge_int', eq_int, ne_int, eq_str, ne_str, is_none, isn_none, is_bool, isn_bool, isNoneD, isBoolD, in_lst, in_tup, nin_lst, nin_tup, in_sgn, nin_sgn, len_lst, len_tup, tup_lst, tup_tup, lst_tup, int_int, x_rg1V, d_iRg1, pow18, ix_t0, ix_t1, ix_t2, ix_t3, ix_l0, sSl, Bf.sem, lk, lkD, deOf, lsAt, reOwn, dcAt, putAt, List.mapIdx_cons, List.mapIdx_nil, List.replicate, List.length_cons, List.length_nil, List.map_cons, List.map_nil, List.cons_append, List.nil_append, List.append_nil, List.set, List.getElem?_cons_zero, List.getElem?_cons_succ, List.getElem?_nil, List.getElem?_map, Option.map_some, Option.map_none, Option.getD_some, Option.getD_none, Option.or_some, Option.none_or, Option.some_or, ↓reduceIte, reduceCtorEq, Option.some.injEq, Nat.zero_add, Nat.reduceAdd, Nat.reduceSub, Nat.reduceLeDiff, Nat.reduceEqDiff, Nat.reduceLT, Nat.sub_self, Nat.add_one_sub_one, Bool.not_true, Bool.not_false, Bool.not_not, Bool.and_true, Bool.true_and, Bool.and_false, Bool.false_and, Bool.or_true, Bool.true_or, Bool.or_false, Bool.false_or, Bool.false_eq_true, Bool.not_eq_true', decide_true, decide_false, decide_eq_true_eq]) (by rw [rg_len]; simp; omega)
      have hf : ∀ l : List D, l.filter (fun _ => true) = l := by intro l; simp
      rw [List.nil_append, hf] at hc
      exact sm_aux n ds _ _ (rg_of (sm_args (Y__law_same (r__law_same n)) (.tuple ds) ds) (rg_nat h1)) hc (all_true (rgD 0 (ds.length : Int)))
theorem same_s (d : D) (h : okS 8 d = true) : m__law_same [d, d] = .ret (.bool true) false .none := same_refl 8 d h
end PV.Lw
namespace PV.Lw
open PySem L2 PV

/-- a list of words as a case may hold it -/
structure Gd (l : List Str) : Prop where
  nd : l.Nodup
  ok : ∀ x ∈ l, wordB x = true
  len : l.length ≤ 12
theorem wordB_len {w : Str} (h : wordB w = true) : w.length ≤ 12 := by
  unfold wordB at h
  simp only [Bool.and_eq_true, decide_eq_true_eq] at h
  exact h.1.1.2
theorem Gd.words {l : List Str} (h : Gd l) : m_is_words [(PyData.tuple (List.map PyData.str l)), .int 0, .int 12] = .ret (.bool true) false .none := by
  rw [is_words_s l 0 12 (by have := h.len; omega) fun w hw => by have := wordB_len (h.ok w hw); omega]
  have : wordsB l 0 12 = true := by
    unfold wordsB
    have h1 := h.len
    have h2 : (0 : Int) ≤ (l.length : Int) := by omega
    have h3 : (l.length : Int) ≤ 12 := by omega
    rw [decide_eq_true h2, decide_eq_true h3, decide_eq_true h.nd, List.all_eq_true.mpr h.ok]; rfl
  rw [this]
theorem words_false {l : List Str} (hl : l.length ≤ 100) (h : ∀ w ∈ l, w.length ≤ 1000) (hb : wordsB l 0 12 = false) : m_is_words [(PyData.tuple (List.map PyData.str l)), .int 0, .int 12] = .ret (.bool false) false .none := by
  rw [is_words_s l 0 12 (by omega) fun w hw => by have := h w hw; omega, hb]
theorem Gd.aa {l : List Str} (h : Gd l) : m_is_words [(PyData.tuple (List.map PyData.str (l ++ [Str.ofString "a", Str.ofString "a"]))), .int 0, .int 12] = .ret (.bool false) false .none := by
  refine words_false (by have := h.len; simp; omega) (fun w hw => ?_) ?_
  · rcases List.mem_append.mp hw with hw | hw
    · have := wordB_len (h.ok w hw); omega
    · have : w = Str.ofString "a" := by simpa using hw
      rw [this]; decide +kernel
  · unfold wordsB
    have : ¬ (l ++ [Str.ofString "a", Str.ofString "a"]).Nodup := by
      intro z
      have := (List.nodup_append.mp z).2.1
      simp at this
    rw [decide_eq_false this, Bool.and_false]
theorem e_words : m_is_words [.tuple [], .int 0, .int 12] = .ret (.bool true) false .none := is_words_s [] 0 12 (by simp) (fun _ h => by cases h)
theorem case_ok (p c : List Str) (hp : Gd p) (hc : Gd c) : m_is_case [.tuple [(PyData.tuple (List.map PyData.str p)), (PyData.tuple (List.map PyData.str c))]] = .ret (.bool true) false .none := is_case_s _ _ true true hp.words hc.words
end PV.Lw
namespace PV.Lw
open PySem L2 PV

/-! precedents -/
structure PR where
  n : Str
  p : List Str
  c : List Str
  o : Int
def PR.d (r : PR) : D := .tuple [.str r.n, (PyData.tuple (List.map PyData.str r.p)), (PyData.tuple (List.map PyData.str r.c)), .int r.o]
structure PR.Ok (r : PR) : Prop where
  n : wordB r.n = true
  p : Gd r.p
  c : Gd r.c
  o : r.o = 1 ∨ r.o = -1
abbrev csD (p c : List Str) : D := .tuple [(PyData.tuple (List.map PyData.str p)), (PyData.tuple (List.map PyData.str c))]
theorem PR.Ok.prec {r : PR} (h : r.Ok) : m_is_precedent [r.d] = .ret (.bool true) false .none := by
  have h1 := is_word_s r.n (by have := wordB_len h.n; omega)
  rw [h.n] at h1
  have h2 := is_case_s _ _ true true h.p.words h.c.words
  have h3 := is_prec_s (.str r.n) (PyData.tuple (List.map PyData.str r.p)) (PyData.tuple (List.map PyData.str r.c)) r.o h1 h2
  rw [decide_eq_true h.o] at h3
  exact h3
def idV (d : D) : D := match d with
  | .tuple (a :: _) => a
  | _ => .none
theorem ids_map (rs : List PR) : (rs.map PR.d).map idV = (rs.map PR.n).map PyData.str := by
  rw [List.map_map, List.map_map]
  rfl
theorem yes_map (l : List D) : l.filter (fun _ => true) = l := by simp
theorem precs_comp (a : Sl) (rs : List PR) (hl : rs.length ≤ 1000) : compLoop [1] (tgName 1) (den (k := .C) Y_is_precedents .cNil) (den Y_is_precedents cd_is_precedents_e0) (rs.map PR.d) [] [a, .no] = .ok ((rs.map PR.n).map PyData.str) [a, .no] := by
  have h := comp_pure (own := [1]) (tgt := tgName 1) (c := den (k := .C) Y_is_precedents .cNil) (e := den Y_is_precedents cd_is_precedents_e0) (p := fun _ => true) (v := idV) (ρ := [a, .no]) (rs.map PR.d) [] (by
    intro d hd
    obtain ⟨r, _, rfl⟩ := List.mem_map.mp hd
    refine ⟨[a, .val r.d], rfl, rfl, rfl, fun _ => ⟨false, [a, .val r.d], ?_, rfl⟩⟩
    simp only [cd_is_precedents_e0, m_is_precedents, cd_is_precedents, ys_is_precedents_0, ys_is_precedents_1, yk_is_precedents_4, PR.d, idV, bind_ok, bind_ex, fl_ok, fl_ex, seq_nx, seq_rt, seq_bk, seq_ct, seq_ex, x_run, fin_nx, fin_rt, fin_ex, exit_none, exit_some, opt_some, d_eVar, d_eMov, d_eInt, d_eStr, d_eBl, d_eNon, d_eGlob, x_q1, x_q2, d_eBin, d_eCmp, d_eIx, chB_b, x_c1, x_c2, x_c4, d_eChain, d_eOne, andB_b, orB_b, d_eAnd, d_eOr, notV_b, d_eNot, x_tupV, x_lstV, d_eTup, d_eLst, x_cbV, d_eCB, retV_ret, retV_ex, retIo_own, retIo_io, x_call0, x_call1, d_eCall, x_isiV, d_eIsi, x_negV, d_eNeg, d_eDicK, d_eDicT, x_sl1, x_sl2, x_sl3, d_eSl, x_o1, d_oNone, d_oSome, x_revV, d_eRevL, x_compV, compFin_ok, d_eComp, d_eCompB, d_ePop, x_valA, d_aVal, d_aRef, d_lNil, x_l1, x_l2, d_lCons, blT_b, d_tE, d_tCmp, d_tChain, d_tW, x_notT, d_tNot, d_wOne, x_andT, x_orT, d_wAnd, d_wOr, d_cNil, d_cOne, itV_l, itV_t, itV_s, d_iIt, d_gNm, d_gTup, x_retS, d_sRet, d_sRetN, x_expS, d_sExp, x_ifS, d_sIf, d_sPass, d_sBrk, d_sCnt, x_asgS, d_sSet, x_tupS, d_sTup, x_appS, d_sApp, x_putS, x_putS2, d_sPut, x_forS, d_sFor, d_sWhile, d_sRaise, hand_nx, hand_rt, hand_ex, d_sTry, d_hNil, d_hCons, hands_nil, hands_cons, noEx_nx, noEx_rt, d_bNil, d_bCons, rho0, fCompB, wipeR, unwipe, sv_no, sv_val, sv_own, AV.ct, slCt, Sl.ct, Sl.od, cts, avVals, x_stOk, pl_no, pl_val, pl_own, slOf, tgAll, k_add, k_sub, k_mul, k_div, k_mod, k_pow, k_eq, k_ne, k_lt, k_le, k_gt, k_ge, k_is, k_isn, k_in, k_nin, isi_non, isi_bl, isi_int, isi_str, isi_lst, isi_tup, isi_dic, add_int, sub_int', lt_int', le_int', gt_int', ge_int', eq_int, ne_int, eq_str, ne_str, is_none, isn_none, is_bool, isn_bool, isNoneD, isBoolD, in_lst, in_tup, nin_lst, nin_tup, in_sgn, nin_sgn, len_lst, len_tup, tup_lst, tup_tup, lst_tup, int_int, x_rg1V, d_iRg1, pow18, ix_t0, ix_t1, ix_t2, ix_t3, ix_l0, sSl, Bf.sem, lk, lkD, deOf, lsAt, reOwn, dcAt, putAt, List.mapIdx_cons, List.mapIdx_nil, List.replicate, List.length_cons, List.length_nil, List.map_cons, List.map_nil, List.cons_append, List.nil_append, List.append_nil, List.set, List.getElem?_cons_zero, List.getElem?_cons_succ, List.getElem?_nil, List.getElem?_map, Option.map_some, Option.map_none, Option.getD_some, Option.getD_none, Option.or_some, Option.none_or, Option.some_or, ↓reduceIte, reduceCtorEq, Option.some.injEq, Nat.zero_add, Nat.reduceAdd, Nat.reduceSub, Nat.reduceLeDiff, Nat.reduceEqDiff, Nat.reduceLT, Nat.sub_self, Nat.add_one_sub_one, Bool.not_true, Bool.not_false, Bool.not_not, Bool.and_true, Bool.true_and, Bool.and_false, Bool.false_and, Bool.or_true, Bool.true_or, Bool.or_false, Bool.false_or, Bool.false_eq_true, Bool.not_eq_true', decide_true, decide_false, decide_eq_true_eq]) (by rw [List.length_map]; simp; omega)
  rw [yes_map, ids_map, List.nil_append] at h
  exact h
theorem is_precs_s (rs : List PR) (hl : rs.length ≤ 60) (ho : ∀ r ∈ rs, r.Ok) : m_is_precedents [.tuple (rs.map PR.d)] = .ret (.bool (decide (rs.map PR.n).Nodup)) false .none := by
  have e9 : den Y_is_precedents (.gNm 1) = tgName 1 := rfl
  have gt : ¬ ((60 : Int) < (rs.length : Int)) := by omega
  have hml : (rs.map PR.d).length = rs.length := List.length_map ..
  obtain ⟨s', h1, h2⟩ := for_find (ρ := [.val (.tuple (rs.map PR.d)), .no]) (i := 1) (body := den (k := .B) Y_is_precedents cd_is_precedents_b0) (p := fun _ => true) (r := fun _ => .bool false) (t := false) (rs.map PR.d) .no rfl (by
    intro d hd
    obtain ⟨r, hr, rfl⟩ := List.mem_map.mp hd
    exact precs_body _ _ true (ho r hr).prec)
  have h2' : forLoop (tgName 1) (den (k := .B) Y_is_precedents cd_is_precedents_b0) (rs.map PR.d) [.val (.tuple (rs.map PR.d)), .no] = _ := h2
  rw [find_none (fun _ _ => rfl)] at h2'
  have h3 := precs_comp (.val (.tuple (rs.map PR.d))) rs (by omega)
  have h4 := are_distinct_s (PyData.list (List.map PyData.str (rs.map PR.n))) (rs.map PR.n) (.inr rfl) (by rw [List.length_map]; omega)
  simp only [m_is_precedents, cd_is_precedents, ys_is_precedents_0, ys_is_precedents_1, yk_is_precedents_4, e9, hml, gt, h2', h3, h4, bind_ok, bind_ex, fl_ok, fl_ex, seq_nx, seq_rt, seq_bk, seq_ct, seq_ex, x_run, fin_nx, fin_rt, fin_ex, exit_none, exit_some, opt_some, d_eVar, d_eMov, d_eInt, d_eStr, d_eBl, d_eNon, d_eGlob, x_q1, x_q2, d_eBin, d_eCmp, d_eIx, chB_b, x_c1, x_c2, x_c4, d_eChain, d_eOne, andB_b, orB_b, d_eAnd, d_eOr, notV_b, d_eNot, x_tupV, x_lstV, d_eTup, d_eLst, x_cbV, d_eCB, retV_ret, retV_ex, retIo_own, retIo_io, x_call0, x_call1, d_eCall, x_isiV, d_eIsi, x_negV, d_eNeg, d_eDicK, d_eDicT, x_sl1, x_sl2, x_sl3, d_eSl, x_o1, d_oNone, d_oSome, x_revV, d_eRevL, x_compV, compFin_ok, d_eComp, d_eCompB, d_ePop, x_valA, d_aVal, d_aRef, d_lNil, x_l1, x_l2, d_lCons, blT_b, d_tE, d_tCmp, d_tChain, d_tW, x_notT, d_tNot, d_wOne, x_andT, x_orT, d_wAnd, d_wOr, d_cNil, d_cOne, itV_l, itV_t, itV_s, d_iIt, d_gNm, d_gTup, x_retS, d_sRet, d_sRetN, x_expS, d_sExp, x_ifS, d_sIf, d_sPass, d_sBrk, d_sCnt, x_asgS, d_sSet, x_tupS, d_sTup, x_appS, d_sApp, x_putS, x_putS2, d_sPut, x_forS, d_sFor, d_sWhile, d_sRaise, hand_nx, hand_rt, hand_ex, d_sTry, d_hNil, d_hCons, hands_nil, hands_cons, noEx_nx, noEx_rt, d_bNil, d_bCons, rho0, fCompB, wipeR, unwipe, sv_no, sv_val, sv_own, AV.ct, slCt, Sl.ct, Sl.od, cts, avVals, x_stOk, pl_no, pl_val, pl_own, slOf, tgAll, k_add, k_sub, k_mul, k_div, k_mod, k_pow, k_eq, k_ne, k_lt, k_le, k_gt, k_ge, k_is, k_isn, k_in, k_nin, isi_non, isi_bl, isi_int, isi_str, isi_lst, isi_tup, isi_dic, add_int, sub_int', lt_int', le_int', gt_int', ge_int', eq_int, ne_int, eq_str, ne_str, is_none, isn_none, is_bool, isn_bool, isNoneD, isBoolD, in_lst, in_tup, nin_lst, nin_tup, in_sgn, nin_sgn, len_lst, len_tup, tup_lst, tup_tup, lst_tup, int_int, x_rg1V, d_iRg1, pow18, ix_t0, ix_t1, ix_t2, ix_t3, ix_l0, sSl, Bf.sem, lk, lkD, deOf, lsAt, reOwn, dcAt, putAt, List.mapIdx_cons, List.mapIdx_nil, List.replicate, List.length_cons, List.length_nil, List.map_cons, List.map_nil, List.cons_append, List.nil_append, List.append_nil, List.set, List.getElem?_cons_zero, List.getElem?_cons_succ, List.getElem?_nil, List.getElem?_map, Option.map_some, Option.map_none, Option.getD_some, Option.getD_none, Option.or_some, Option.none_or, Option.some_or, ↓reduceIte, reduceCtorEq, Option.some.injEq, Nat.zero_add, Nat.reduceAdd, Nat.reduceSub, Nat.reduceLeDiff, Nat.reduceEqDiff, Nat.reduceLT, Nat.sub_self, Nat.add_one_sub_one, Bool.not_true, Bool.not_false, Bool.not_not, Bool.and_true, Bool.true_and, Bool.and_false, Bool.false_and, Bool.or_true, Bool.true_or, Bool.or_false, Bool.false_or, Bool.false_eq_true, Bool.not_eq_true', decide_true, decide_false, decide_eq_true_eq]
theorem is_precs_long (ds : List D) (h : 60 < ds.length) : m_is_precedents [.tuple ds] = .ret (.bool false) false .none := by
  have gt : ((60 : Int) < (ds.length : Int)) := by omega
  simp only [m_is_precedents, cd_is_precedents, ys_is_precedents_0, ys_is_precedents_1, yk_is_precedents_4, gt, bind_ok, bind_ex, fl_ok, fl_ex, seq_nx, seq_rt, seq_bk, seq_ct, seq_ex, x_run, fin_nx, fin_rt, fin_ex, exit_none, exit_some, opt_some, d_eVar, d_eMov, d_eInt, d_eStr, d_eBl, d_eNon, d_eGlob, x_q1, x_q2, d_eBin, d_eCmp, d_eIx, chB_b, x_c1, x_c2, x_c4, d_eChain, d_eOne, andB_b, orB_b, d_eAnd, d_eOr, notV_b, d_eNot, x_tupV, x_lstV, d_eTup, d_eLst, x_cbV, d_eCB, retV_ret, retV_ex, retIo_own, retIo_io, x_call0, x_call1, d_eCall, x_isiV, d_eIsi, x_negV, d_eNeg, d_eDicK, d_eDicT, x_sl1, x_sl2, x_sl3, d_eSl, x_o1, d_oNone, d_oSome, x_revV, d_eRevL, x_compV, compFin_ok, d_eComp, d_eCompB, d_ePop, x_valA, d_aVal, d_aRef, d_lNil, x_l1, x_l2, d_lCons, blT_b, d_tE, d_tCmp, d_tChain, d_tW, x_notT, d_tNot, d_wOne, x_andT, x_orT, d_wAnd, d_wOr, d_cNil, d_cOne, itV_l, itV_t, itV_s, d_iIt, d_gNm, d_gTup, x_retS, d_sRet, d_sRetN, x_expS, d_sExp, x_ifS, d_sIf, d_sPass, d_sBrk, d_sCnt, x_asgS, d_sSet, x_tupS, d_sTup, x_appS, d_sApp, x_putS, x_putS2, d_sPut, x_forS, d_sFor, d_sWhile, d_sRaise, hand_nx, hand_rt, hand_ex, d_sTry, d_hNil, d_hCons, hands_nil, hands_cons, noEx_nx, noEx_rt, d_bNil, d_bCons, rho0, fCompB, wipeR, unwipe, sv_no, sv_val, sv_own, AV.ct, slCt, Sl.ct, Sl.od, cts, avVals, x_stOk, pl_no, pl_val, pl_own, slOf, tgAll, k_add, k_sub, k_mul, k_div, k_mod, k_pow, k_eq, k_ne, k_lt, k_le, k_gt, k_ge, k_is, k_isn, k_in, k_nin, isi_non, isi_bl, isi_int, isi_str, isi_lst, isi_tup, isi_dic, add_int, sub_int', lt_int', le_int', gt_int', ge_int', eq_int, ne_int, eq_str, ne_str, is_none, isn_none, is_bool, isn_bool, isNoneD, isBoolD, in_lst, in_tup, nin_lst, nin_tup, in_sgn, nin_sgn, len_lst, len_tup, tup_lst, tup_tup, lst_tup, int_int, x_rg1V, d_iRg1, pow18, ix_t0, ix_t1, ix_t2, ix_t3, ix_l0, sSl, Bf.sem, lk, lkD, deOf, lsAt, reOwn, dcAt, putAt, List.mapIdx_cons, List.mapIdx_nil, List.replicate, List.length_cons, List.length_nil, List.map_cons, List.map_nil, List.cons_append, List.nil_append, List.append_nil, List.set, List.getElem?_cons_zero, List.getElem?_cons_succ, List.getElem?_nil, List.getElem?_map, Option.map_some, Option.map_none, Option.getD_some, Option.getD_none, Option.or_some, Option.none_or, Option.some_or, ↓reduceIte, reduceCtorEq, Option.some.injEq, Nat.zero_add, Nat.reduceAdd, Nat.reduceSub, Nat.reduceLeDiff, Nat.reduceEqDiff, Nat.reduceLT, Nat.sub_self, Nat.add_one_sub_one, Bool.not_true, Bool.not_false, Bool.not_not, Bool.and_true, Bool.true_and, Bool.and_false, Bool.false_and, Bool.or_true, Bool.true_or, Bool.or_false, Bool.false_or, Bool.false_eq_true, Bool.not_eq_true', decide_true, decide_false, decide_eq_true_eq]
theorem is_precs_not (d : D) (h : isiD .tuple d = false) : m_is_precedents [d] = .ret (.bool false) false .none := by
  simp only [m_is_precedents, cd_is_precedents, ys_is_precedents_0, ys_is_precedents_1, yk_is_precedents_4, h, bind_ok, bind_ex, fl_ok, fl_ex, seq_nx, seq_rt, seq_bk, seq_ct, seq_ex, x_run, fin_nx, fin_rt, fin_ex, exit_none, exit_some, opt_some, d_eVar, d_eMov, d_eInt, d_eStr, d_eBl, d_eNon, d_eGlob, x_q1, x_q2, d_eBin, d_eCmp, d_eIx, chB_b, x_c1, x_c2, x_c4, d_eChain, d_eOne, andB_b, orB_b, d_eAnd, d_eOr, notV_b, d_eNot, x_tupV, x_lstV, d_eTup, d_eLst, x_cbV, d_eCB, retV_ret, retV_ex, retIo_own, retIo_io, x_call0, x_call1, d_eCall, x_isiV, d_eIsi, x_negV, d_eNeg, d_eDicK, d_eDicT, x_sl1, x_sl2, x_sl3, d_eSl, x_o1, d_oNone, d_oSome, x_revV, d_eRevL, x_compV, compFin_ok, d_eComp, d_eCompB, d_ePop, x_valA, d_aVal, d_aRef, d_lNil, x_l1, x_l2, d_lCons, blT_b, d_tE, d_tCmp, d_tChain, d_tW, x_notT, d_tNot, d_wOne, x_andT, x_orT, d_wAnd, d_wOr, d_cNil, d_cOne, itV_l, itV_t, itV_s, d_iIt, d_gNm, d_gTup, x_retS, d_sRet, d_sRetN, x_expS, d_sExp, x_ifS, d_sIf, d_sPass, d_sBrk, d_sCnt, x_asgS, d_sSet, x_tupS, d_sTup, x_appS, d_sApp, x_putS, x_putS2, d_sPut, x_forS, d_sFor, d_sWhile, d_sRaise, hand_nx, hand_rt, hand_ex, d_sTry, d_hNil, d_hCons, hands_nil, hands_cons, noEx_nx, noEx_rt, d_bNil, d_bCons, rho0, fCompB, wipeR, unwipe, sv_no, sv_val, sv_own, AV.ct, slCt, Sl.ct, Sl.od, cts, avVals, x_stOk, pl_no, pl_val, pl_own, slOf, tgAll, k_add, k_sub, k_mul, k_div, k_mod, k_pow, k_eq, k_ne, k_lt, k_le, k_gt, k_ge, k_is, k_isn, k_in, k_nin, isi_non, isi_bl, isi_int, isi_str, isi_lst, isi_tup, isi_dic, add_int, sub_int', lt_int', le_int', gt_int', ge_int', eq_int, ne_int, eq_str, ne_str, is_none, isn_none, is_bool, isn_bool, isNoneD, isBoolD, in_lst, in_tup, nin_lst, nin_tup, in_sgn, nin_sgn, len_lst, len_tup, tup_lst, tup_tup, lst_tup, int_int, x_rg1V, d_iRg1, pow18, ix_t0, ix_t1, ix_t2, ix_t3, ix_l0, sSl, Bf.sem, lk, lkD, deOf, lsAt, reOwn, dcAt, putAt, List.mapIdx_cons, List.mapIdx_nil, List.replicate, List.length_cons, List.length_nil, List.map_cons, List.map_nil, List.cons_append, List.nil_append, List.append_nil, List.set, List.getElem?_cons_zero, List.getElem?_cons_succ, List.getElem?_nil, List.getElem?_map, Option.map_some, Option.map_none, Option.getD_some, Option.getD_none, Option.or_some, Option.none_or, Option.some_or, ↓reduceIte, reduceCtorEq, Option.some.injEq, Nat.zero_add, Nat.reduceAdd, Nat.reduceSub, Nat.reduceLeDiff, Nat.reduceEqDiff, Nat.reduceLT, Nat.sub_self, Nat.add_one_sub_one, Bool.not_true, Bool.not_false, Bool.not_not, Bool.and_true, Bool.true_and, Bool.and_false, Bool.false_and, Bool.or_true, Bool.true_or, Bool.or_false, Bool.false_or, Bool.false_eq_true, Bool.not_eq_true', decide_true, decide_false, decide_eq_true_eq]
end PV.Lw
namespace PV.Lw
open PySem L2 PV

/-! rule -/
abbrev psD (rs : List PR) : D := .tuple (rs.map PR.d)
def dif (r : PR) (p c : List Str) : D := diffO r.n r.p r.c r.o p c
theorem dif_s (r : PR) (p c : List Str) : m_find_difference [r.d, csD p c] = .ret (dif r p c) false .none := find_difference_s _ _ _ _ _ _
abbrev ofO (o : Int) (rs : List PR) : List PR := rs.filter fun r => decide (r.o = o)
theorem with_outcome_s (rs : List PR) (o : Int) (hl : rs.length ≤ 1000) : m_with_outcome [psD rs, .int o] = .ret (psD (ofO o rs)) false .none := by
  have e9 : den Y_with_outcome (.gNm 2) = tgName 2 := rfl
  have h := comp_pureM (own := [2]) (tgt := tgName 2) (c := den (k := .C) Y_with_outcome cd_with_outcome_c0) (e := den Y_with_outcome cd_with_outcome_e0) PR.d (fun r => decide (r.o = o)) PR.d (ρ := [.val (psD rs), .val (.int o), .no]) rs [] (by
    intro r _
    refine ⟨[.val (psD rs), .val (.int o), .val r.d], rfl, ?_, rfl, fun _ => ⟨false, [.val (psD rs), .val (.int o), .val r.d], ?_, rfl⟩⟩
    · simp only [cd_with_outcome_c0, PR.d, bind_ok, bind_ex, fl_ok, fl_ex, seq_nx, seq_rt, seq_bk, seq_ct, seq_ex, x_run, fin_nx, fin_rt, fin_ex, exit_none, exit_some, opt_some, d_eVar, d_eMov, d_eInt, d_eStr, d_eBl, d_eNon, d_eGlob, x_q1, x_q2, d_eBin, d_eCmp, d_eIx, chB_b, x_c1, x_c2, x_c4, d_eChain, d_eOne, andB_b, orB_b, d_eAnd, d_eOr, notV_b, d_eNot, x_tupV, x_lstV, d_eTup, d_eLst, x_cbV, d_eCB, retV_ret, retV_ex, retIo_own, retIo_io, x_call0, x_call1, d_eCall, x_isiV, d_eIsi, x_negV, d_eNeg, d_eDicK, d_eDicT, x_sl1, x_sl2, x_sl3, d_eSl, x_o1, d_oNone, d_oSome, x_revV, d_eRevL, x_compV, compFin_ok, d_eComp, d_eCompB, d_ePop, x_valA, d_aVal, d_aRef, d_lNil, x_l1, x_l2, d_lCons, blT_b, d_tE, d_tCmp, d_tChain, d_tW, x_notT, d_tNot, d_wOne, x_andT, x_orT, d_wAnd, d_wOr, d_cNil, d_cOne, itV_l, itV_t, itV_s, d_iIt, d_gNm, d_gTup, x_retS, d_sRet, d_sRetN, x_expS, d_sExp, x_ifS, d_sIf, d_sPass, d_sBrk, d_sCnt, x_asgS, d_sSet, x_tupS, d_sTup, x_appS, d_sApp, x_putS, x_putS2, d_sPut, x_forS, d_sFor, d_sWhile, d_sRaise, hand_nx, hand_rt, hand_ex, d_sTry, d_hNil, d_hCons, hands_nil, hands_cons, noEx_nx, noEx_rt, d_bNil, d_bCons, rho0, fCompB, wipeR, unwipe, sv_no, sv_val, sv_own, AV.ct, slCt, Sl.ct, Sl.od, cts, avVals, x_stOk, pl_no, pl_val, pl_own, slOf, tgAll, k_add, k_sub, k_mul, k_div, k_mod, k_pow, k_eq, k_ne, k_lt, k_le, k_gt, k_ge, k_is, k_isn, k_in, k_nin, isi_non, isi_bl, isi_int, isi_str, isi_lst, isi_tup, isi_dic, add_int, sub_int', lt_int', le_int', gt_int', ge_int', eq_int, ne_int, eq_str, ne_str, is_none, isn_none, is_bool, isn_bool, isNoneD, isBoolD, in_lst, in_tup, nin_lst, nin_tup, in_sgn, nin_sgn, len_lst, len_tup, tup_lst, tup_tup, lst_tup, int_int, x_rg1V, d_iRg1, pow18, ix_t0, ix_t1, ix_t2, ix_t3, ix_l0, sSl, Bf.sem, lk, lkD, deOf, lsAt, reOwn, dcAt, putAt, List.mapIdx_cons, List.mapIdx_nil, List.replicate, List.length_cons, List.length_nil, List.map_cons, List.map_nil, List.cons_append, List.nil_append, List.append_nil, List.set, List.getElem?_cons_zero, List.getElem?_cons_succ, List.getElem?_nil, List.getElem?_map, Option.map_some, Option.map_none, Option.getD_some, Option.getD_none, Option.or_some, Option.none_or, Option.some_or, ↓reduceIte, reduceCtorEq, Option.some.injEq, Nat.zero_add, Nat.reduceAdd, Nat.reduceSub, Nat.reduceLeDiff, Nat.reduceEqDiff, Nat.reduceLT, Nat.sub_self, Nat.add_one_sub_one, Bool.not_true, Bool.not_false, Bool.not_not, Bool.and_true, Bool.true_and, Bool.and_false, Bool.false_and, Bool.or_true, Bool.true_or, Bool.or_false, Bool.false_or, Bool.false_eq_true, Bool.not_eq_true', decide_true, decide_false, decide_eq_true_eq]
    · simp only [cd_with_outcome_e0, PR.d, bind_ok, bind_ex, fl_ok, fl_ex, seq_nx, seq_rt, seq_bk, seq_ct, seq_ex, x_run, fin_nx, fin_rt, fin_ex, exit_none, exit_some, opt_some, d_eVar, d_eMov, d_eInt, d_eStr, d_eBl, d_eNon, d_eGlob, x_q1, x_q2, d_eBin, d_eCmp, d_eIx, chB_b, x_c1, x_c2, x_c4, d_eChain, d_eOne, andB_b, orB_b, d_eAnd, d_eOr, notV_b, d_eNot, x_tupV, x_lstV, d_eTup, d_eLst, x_cbV, d_eCB, retV_ret, retV_ex, retIo_own, retIo_io, x_call0, x_call1, d_eCall, x_isiV, d_eIsi, x_negV, d_eNeg, d_eDicK, d_eDicT, x_sl1, x_sl2, x_sl3, d_eSl, x_o1, d_oNone, d_oSome, x_revV, d_eRevL, x_compV, compFin_ok, d_eComp, d_eCompB, d_ePop, x_valA, d_aVal, d_aRef, d_lNil, x_l1, x_l2, d_lCons, blT_b, d_tE, d_tCmp, d_tChain, d_tW, x_notT, d_tNot, d_wOne, x_andT, x_orT, d_wAnd, d_wOr, d_cNil, d_cOne, itV_l, itV_t, itV_s, d_iIt, d_gNm, d_gTup, x_retS, d_sRet, d_sRetN, x_expS, d_sExp, x_ifS, d_sIf, d_sPass, d_sBrk, d_sCnt, x_asgS, d_sSet, x_tupS, d_sTup, x_appS, d_sApp, x_putS, x_putS2, d_sPut, x_forS, d_sFor, d_sWhile, d_sRaise, hand_nx, hand_rt, hand_ex, d_sTry, d_hNil, d_hCons, hands_nil, hands_cons, noEx_nx, noEx_rt, d_bNil, d_bCons, rho0, fCompB, wipeR, unwipe, sv_no, sv_val, sv_own, AV.ct, slCt, Sl.ct, Sl.od, cts, avVals, x_stOk, pl_no, pl_val, pl_own, slOf, tgAll, k_add, k_sub, k_mul, k_div, k_mod, k_pow, k_eq, k_ne, k_lt, k_le, k_gt, k_ge, k_is, k_isn, k_in, k_nin, isi_non, isi_bl, isi_int, isi_str, isi_lst, isi_tup, isi_dic, add_int, sub_int', lt_int', le_int', gt_int', ge_int', eq_int, ne_int, eq_str, ne_str, is_none, isn_none, is_bool, isn_bool, isNoneD, isBoolD, in_lst, in_tup, nin_lst, nin_tup, in_sgn, nin_sgn, len_lst, len_tup, tup_lst, tup_tup, lst_tup, int_int, x_rg1V, d_iRg1, pow18, ix_t0, ix_t1, ix_t2, ix_t3, ix_l0, sSl, Bf.sem, lk, lkD, deOf, lsAt, reOwn, dcAt, putAt, List.mapIdx_cons, List.mapIdx_nil, List.replicate, List.length_cons, List.length_nil, List.map_cons, List.map_nil, List.cons_append, List.nil_append, List.append_nil, List.set, List.getElem?_cons_zero, List.getElem?_cons_succ, List.getElem?_nil, List.getElem?_map, Option.map_some, Option.map_none, Option.getD_some, Option.getD_none, Option.or_some, Option.none_or, Option.some_or, ↓reduceIte, reduceCtorEq, Option.some.injEq, Nat.zero_add, Nat.reduceAdd, Nat.reduceSub, Nat.reduceLeDiff, Nat.reduceEqDiff, Nat.reduceLT, Nat.sub_self, Nat.add_one_sub_one, Bool.not_true, Bool.not_false, Bool.not_not, Bool.and_true, Bool.true_and, Bool.and_false, Bool.false_and, Bool.or_true, Bool.true_or, Bool.or_false, Bool.false_or, Bool.false_eq_true, Bool.not_eq_true', decide_true, decide_false, decide_eq_true_eq]) (by simp; omega)
  rw [List.nil_append] at h
  simp only [m_with_outcome, cd_with_outcome, e9, h, bind_ok, bind_ex, fl_ok, fl_ex, seq_nx, seq_rt, seq_bk, seq_ct, seq_ex, x_run, fin_nx, fin_rt, fin_ex, exit_none, exit_some, opt_some, d_eVar, d_eMov, d_eInt, d_eStr, d_eBl, d_eNon, d_eGlob, x_q1, x_q2, d_eBin, d_eCmp, d_eIx, chB_b, x_c1, x_c2, x_c4, d_eChain, d_eOne, andB_b, orB_b, d_eAnd, d_eOr, notV_b, d_eNot, x_tupV, x_lstV, d_eTup, d_eLst, x_cbV, d_eCB, retV_ret, retV_ex, retIo_own, retIo_io, x_call0, x_call1, d_eCall, x_isiV, d_eIsi, x_negV, d_eNeg, d_eDicK, d_eDicT, x_sl1, x_sl2, x_sl3, d_eSl, x_o1, d_oNone, d_oSome, x_revV, d_eRevL, x_compV, compFin_ok, d_eComp, d_eCompB, d_ePop, x_valA, d_aVal, d_aRef, d_lNil, x_l1, x_l2, d_lCons, blT_b, d_tE, d_tCmp, d_tChain, d_tW, x_notT, d_tNot, d_wOne, x_andT, x_orT, d_wAnd, d_wOr, d_cNil, d_cOne, itV_l, itV_t, itV_s, d_iIt, d_gNm, d_gTup, x_retS, d_sRet, d_sRetN, x_expS, d_sExp, x_ifS, d_sIf, d_sPass, d_sBrk, d_sCnt, x_asgS, d_sSet, x_tupS, d_sTup, x_appS, d_sApp, x_putS, x_putS2, d_sPut, x_forS, d_sFor, d_sWhile, d_sRaise, hand_nx, hand_rt, hand_ex, d_sTry, d_hNil, d_hCons, hands_nil, hands_cons, noEx_nx, noEx_rt, d_bNil, d_bCons, rho0, fCompB, wipeR, unwipe, sv_no, sv_val, sv_own, AV.ct, slCt, Sl.ct, Sl.od, cts, avVals, x_stOk, pl_no, pl_val, pl_own, slOf, tgAll, k_add, k_sub, k_mul, k_div, k_mod, k_pow, k_eq, k_ne, k_lt, k_le, k_gt, k_ge, k_is, k_isn, k_in, k_nin, isi_non, isi_bl, isi_int, isi_str, isi_lst, isi_tup, isi_dic, add_int, sub_int', lt_int', le_int', gt_int', ge_int', eq_int, ne_int, eq_str, ne_str, is_none, isn_none, is_bool, isn_bool, isNoneD, isBoolD, in_lst, in_tup, nin_lst, nin_tup, in_sgn, nin_sgn, len_lst, len_tup, tup_lst, tup_tup, lst_tup, int_int, x_rg1V, d_iRg1, pow18, ix_t0, ix_t1, ix_t2, ix_t3, ix_l0, sSl, Bf.sem, lk, lkD, deOf, lsAt, reOwn, dcAt, putAt, List.mapIdx_cons, List.mapIdx_nil, List.replicate, List.length_cons, List.length_nil, List.map_cons, List.map_nil, List.cons_append, List.nil_append, List.append_nil, List.set, List.getElem?_cons_zero, List.getElem?_cons_succ, List.getElem?_nil, List.getElem?_map, Option.map_some, Option.map_none, Option.getD_some, Option.getD_none, Option.or_some, Option.none_or, Option.some_or, ↓reduceIte, reduceCtorEq, Option.some.injEq, Nat.zero_add, Nat.reduceAdd, Nat.reduceSub, Nat.reduceLeDiff, Nat.reduceEqDiff, Nat.reduceLT, Nat.sub_self, Nat.add_one_sub_one, Bool.not_true, Bool.not_false, Bool.not_not, Bool.and_true, Bool.true_and, Bool.and_false, Bool.false_and, Bool.or_true, Bool.true_or, Bool.or_false, Bool.false_or, Bool.false_eq_true, Bool.not_eq_true', decide_true, decide_false, decide_eq_true_eq]
def fb (rs : List PR) (p c : List Str) (o : Int) : Option PR := (ofO o rs).find? fun r => PV.isNoneD (dif r p c)
def fbD (rs : List PR) (p c : List Str) (o : Int) : D := match fb rs p c o with
  | some r => .str r.n
  | none => .none
theorem first_binding_s (rs : List PR) (p c : List Str) (o : Int) (hl : rs.length ≤ 1000) : m_first_binding [psD rs, csD p c, .int o] = .ret (fbD rs p c o) false .none := by
  have e9 : den Y_first_binding (.gNm 3) = tgName 3 := rfl
  obtain ⟨s', h1, h2⟩ := for_findM (ρ := [.val (psD rs), .val (csD p c), .val (.int o), .no]) (i := 3) (body := den (k := .B) Y_first_binding cd_first_binding_b0) PR.d (fun r => !PV.isNoneD (dif r p c)) (fun r => .str r.n) (t := false) (ofO o rs) .no rfl (by
    intro r _
    have hd := dif_s r p c
    cases hn : PV.isNoneD (dif r p c) with
    | true =>
      have hi : bIs (dif r p c) .none = some (.bool true, false) := by rw [is_none, hn]
      simp only [PR.d] at hd
      simp only [cd_first_binding_b0, m_first_binding, cd_first_binding, ys_first_binding_0, ys_first_binding_1, PR.d, hd, hi, bind_ok, bind_ex, fl_ok, fl_ex, seq_nx, seq_rt, seq_bk, seq_ct, seq_ex, x_run, fin_nx, fin_rt, fin_ex, exit_none, exit_some, opt_some, d_eVar, d_eMov, d_eInt, d_eStr, d_eBl, d_eNon, d_eGlob, x_q1, x_q2, d_eBin, d_eCmp, d_eIx, chB_b, x_c1, x_c2, x_c4, d_eChain, d_eOne, andB_b, orB_b, d_eAnd, d_eOr, notV_b, d_eNot, x_tupV, x_lstV, d_eTup, d_eLst, x_cbV, d_eCB, retV_ret, retV_ex, retIo_own, retIo_io, x_call0, x_call1, d_eCall, x_isiV, d_eIsi, x_negV, d_eNeg, d_eDicK, d_eDicT, x_sl1, x_sl2, x_sl3, d_eSl, x_o1, d_oNone, d_oSome, x_revV, d_eRevL, x_compV, compFin_ok, d_eComp, d_eCompB, d_ePop, x_valA, d_aVal, d_aRef, d_lNil, x_l1, x_l2, d_lCons, blT_b, d_tE, d_tCmp, d_tChain, d_tW, x_notT, d_tNot, d_wOne, x_andT, x_orT, d_wAnd, d_wOr, d_cNil, d_cOne, itV_l, itV_t, itV_s, d_iIt, d_gNm, d_gTup, x_retS, d_sRet, d_sRetN, x_expS, d_sExp, x_ifS, d_sIf, d_sPass, d_sBrk, d_sCnt, x_asgS, d_sSet, x_tupS, d_sTup, x_appS, d_sApp, x_putS, x_putS2, d_sPut, x_forS, d_sFor, d_sWhile, d_sRaise, hand_nx, hand_rt, hand_ex, d_sTry, d_hNil, d_hCons, hands_nil, hands_cons, noEx_nx, noEx_rt, d_bNil, d_bCons, rho0, fCompB, wipeR, unwipe, sv_no, sv_val, sv_own, AV.ct, slCt, Sl.ct, Sl.od, cts, avVals, x_stOk, pl_no, pl_val, pl_own, slOf, tgAll, k_add, k_sub, k_mul, k_div, k_mod, k_pow, k_eq, k_ne, k_lt, k_le, k_gt, k_ge, k_is, k_isn, k_in, k_nin, isi_non, isi_bl, isi_int, isi_str, isi_lst, isi_tup, isi_dic, add_int, sub_int', lt_int', le_int', gt_int', ge_int', eq_int, ne_int, eq_str, ne_str, is_none, isn_none, is_bool, isn_bool, isNoneD, isBoolD, in_lst, in_tup, nin_lst, nin_tup, in_sgn, nin_sgn, len_lst, len_tup, tup_lst, tup_tup, lst_tup, int_int, x_rg1V, d_iRg1, pow18, ix_t0, ix_t1, ix_t2, ix_t3, ix_l0, sSl, Bf.sem, lk, lkD, deOf, lsAt, reOwn, dcAt, putAt, List.mapIdx_cons, List.mapIdx_nil, List.replicate, List.length_cons, List.length_nil, List.map_cons, List.map_nil, List.cons_append, List.nil_append, List.append_nil, List.set, List.getElem?_cons_zero, List.getElem?_cons_succ, List.getElem?_nil, List.getElem?_map, Option.map_some, Option.map_none, Option.getD_some, Option.getD_none, Option.or_some, Option.none_or, Option.some_or, ↓reduceIte, reduceCtorEq, Option.some.injEq, Nat.zero_add, Nat.reduceAdd, Nat.reduceSub, Nat.reduceLeDiff, Nat.reduceEqDiff, Nat.reduceLT, Nat.sub_self, Nat.add_one_sub_one, Bool.not_true, Bool.not_false, Bool.not_not, Bool.and_true, Bool.true_and, Bool.and_false, Bool.false_and, Bool.or_true, Bool.true_or, Bool.or_false, Bool.false_or, Bool.false_eq_true, Bool.not_eq_true', decide_true, decide_false, decide_eq_true_eq]
    | false =>
      have hi : bIs (dif r p c) .none = some (.bool false, false) := by rw [is_none, hn]
      simp only [PR.d] at hd
      simp only [cd_first_binding_b0, m_first_binding, cd_first_binding, ys_first_binding_0, ys_first_binding_1, PR.d, hd, hi, bind_ok, bind_ex, fl_ok, fl_ex, seq_nx, seq_rt, seq_bk, seq_ct, seq_ex, x_run, fin_nx, fin_rt, fin_ex, exit_none, exit_some, opt_some, d_eVar, d_eMov, d_eInt, d_eStr, d_eBl, d_eNon, d_eGlob, x_q1, x_q2, d_eBin, d_eCmp, d_eIx, chB_b, x_c1, x_c2, x_c4, d_eChain, d_eOne, andB_b, orB_b, d_eAnd, d_eOr, notV_b, d_eNot, x_tupV, x_lstV, d_eTup, d_eLst, x_cbV, d_eCB, retV_ret, retV_ex, retIo_own, retIo_io, x_call0, x_call1, d_eCall, x_isiV, d_eIsi, x_negV, d_eNeg, d_eDicK, d_eDicT, x_sl1, x_sl2, x_sl3, d_eSl, x_o1, d_oNone, d_oSome, x_revV, d_eRevL, x_compV, compFin_ok, d_eComp, d_eCompB, d_ePop, x_valA, d_aVal, d_aRef, d_lNil, x_l1, x_l2, d_lCons, blT_b, d_tE, d_tCmp, d_tChain, d_tW, x_notT, d_tNot, d_wOne, x_andT, x_orT, d_wAnd, d_wOr, d_cNil, d_cOne, itV_l, itV_t, itV_s, d_iIt, d_gNm, d_gTup, x_retS, d_sRet, d_sRetN, x_expS, d_sExp, x_ifS, d_sIf, d_sPass, d_sBrk, d_sCnt, x_asgS, d_sSet, x_tupS, d_sTup, x_appS, d_sApp, x_putS, x_putS2, d_sPut, x_forS, d_sFor, d_sWhile, d_sRaise, hand_nx, hand_rt, hand_ex, d_sTry, d_hNil, d_hCons, hands_nil, hands_cons, noEx_nx, noEx_rt, d_bNil, d_bCons, rho0, fCompB, wipeR, unwipe, sv_no, sv_val, sv_own, AV.ct, slCt, Sl.ct, Sl.od, cts, avVals, x_stOk, pl_no, pl_val, pl_own, slOf, tgAll, k_add, k_sub, k_mul, k_div, k_mod, k_pow, k_eq, k_ne, k_lt, k_le, k_gt, k_ge, k_is, k_isn, k_in, k_nin, isi_non, isi_bl, isi_int, isi_str, isi_lst, isi_tup, isi_dic, add_int, sub_int', lt_int', le_int', gt_int', ge_int', eq_int, ne_int, eq_str, ne_str, is_none, isn_none, is_bool, isn_bool, isNoneD, isBoolD, in_lst, in_tup, nin_lst, nin_tup, in_sgn, nin_sgn, len_lst, len_tup, tup_lst, tup_tup, lst_tup, int_int, x_rg1V, d_iRg1, pow18, ix_t0, ix_t1, ix_t2, ix_t3, ix_l0, sSl, Bf.sem, lk, lkD, deOf, lsAt, reOwn, dcAt, putAt, List.mapIdx_cons, List.mapIdx_nil, List.replicate, List.length_cons, List.length_nil, List.map_cons, List.map_nil, List.cons_append, List.nil_append, List.append_nil, List.set, List.getElem?_cons_zero, List.getElem?_cons_succ, List.getElem?_nil, List.getElem?_map, Option.map_some, Option.map_none, Option.getD_some, Option.getD_none, Option.or_some, Option.none_or, Option.some_or, ↓reduceIte, reduceCtorEq, Option.some.injEq, Nat.zero_add, Nat.reduceAdd, Nat.reduceSub, Nat.reduceLeDiff, Nat.reduceEqDiff, Nat.reduceLT, Nat.sub_self, Nat.add_one_sub_one, Bool.not_true, Bool.not_false, Bool.not_not, Bool.and_true, Bool.true_and, Bool.and_false, Bool.false_and, Bool.or_true, Bool.true_or, Bool.or_false, Bool.false_or, Bool.false_eq_true, Bool.not_eq_true', decide_true, decide_false, decide_eq_true_eq])
  have h2' : forLoop (tgName 3) (den (k := .B) Y_first_binding cd_first_binding_b0) ((ofO o rs).map PR.d) [.val (psD rs), .val (csD p c), .val (.int o), .no] = _ := h2
  simp only [Bool.not_not] at h2'
  have hw := with_outcome_s rs o hl
  unfold fbD fb
  cases hf : (ofO o rs).find? (fun r => PV.isNoneD (dif r p c)) with
  | none =>
    rw [hf] at h2'
    simp only [m_first_binding, cd_first_binding, ys_first_binding_0, ys_first_binding_1, hw, e9, h2', bind_ok, bind_ex, fl_ok, fl_ex, seq_nx, seq_rt, seq_bk, seq_ct, seq_ex, x_run, fin_nx, fin_rt, fin_ex, exit_none, exit_some, opt_some, d_eVar, d_eMov, d_eInt, d_eStr, d_eBl, d_eNon, d_eGlob, x_q1, x_q2, d_eBin, d_eCmp, d_eIx, chB_b, x_c1, x_c2, x_c4, d_eChain, d_eOne, andB_b, orB_b, d_eAnd, d_eOr, notV_b, d_eNot, x_tupV, x_lstV, d_eTup, d_eLst, x_cbV, d_eCB, retV_ret, retV_ex, retIo_own, retIo_io, x_call0, x_call1, d_eCall, x_isiV, d_eIsi, x_negV, d_eNeg, d_eDicK, d_eDicT, x_sl1, x_sl2, x_sl3, d_eSl, x_o1, d_oNone, d_oSome, x_revV, d_eRevL, x_compV, compFin_ok, d_eComp, d_eCompB, d_ePop, x_valA, d_aVal, d_aRef, d_lNil, x_l1, x_l2, d_lCons, blT_b, d_tE, d_tCmp, d_tChain, d_tW, x_notT, d_tNot, d_wOne, x_andT, x_orT, d_wAnd, d_wOr, d_cNil, d_cOne, itV_l, itV_t, itV_s, d_iIt, d_gNm, d_gTup, x_retS, d_sRet, d_sRetN, x_expS, d_sExp, x_ifS, d_sIf, d_sPass, d_sBrk, d_sCnt, x_asgS, d_sSet, x_tupS, d_sTup, x_appS, d_sApp, x_putS, x_putS2, d_sPut, x_forS, d_sFor, d_sWhile, d_sRaise, hand_nx, hand_rt, hand_ex, d_sTry, d_hNil, d_hCons, hands_nil, hands_cons, noEx_nx, noEx_rt, d_bNil, d_bCons, rho0, fCompB, wipeR, unwipe, sv_no, sv_val, sv_own, AV.ct, slCt, Sl.ct, Sl.od, cts, avVals, x_stOk, pl_no, pl_val, pl_own, slOf, tgAll, k_add, k_sub, k_mul, k_div, k_mod, k_pow, k_eq, k_ne, k_lt, k_le, k_gt, k_ge, k_is, k_isn, k_in, k_nin, isi_non, isi_bl, isi_int, isi_str, isi_lst, isi_tup, isi_dic, add_int, sub_int', lt_int', le_int', gt_int', ge_int', eq_int, ne_int, eq_str, ne_str, is_none, isn_none, is_bool, isn_bool, isNoneD, isBoolD, in_lst, in_tup, nin_lst, nin_tup, in_sgn, nin_sgn, len_lst, len_tup, tup_lst, tup_tup, lst_tup, int_int, x_rg1V, d_iRg1, pow18, ix_t0, ix_t1, ix_t2, ix_t3, ix_l0, sSl, Bf.sem, lk, lkD, deOf, lsAt, reOwn, dcAt, putAt, List.mapIdx_cons, List.mapIdx_nil, List.replicate, List.length_cons, List.length_nil, List.map_cons, List.map_nil, List.cons_append, List.nil_append, List.append_nil, List.set, List.getElem?_cons_zero, List.getElem?_cons_succ, List.getElem?_nil, List.getElem?_map, Option.map_some, Option.map_none, Option.getD_some, Option.getD_none, Option.or_some, Option.none_or, Option.some_or, ↓reduceIte, reduceCtorEq, Option.some.injEq, Nat.zero_add, Nat.reduceAdd, Nat.reduceSub, Nat.reduceLeDiff, Nat.reduceEqDiff, Nat.reduceLT, Nat.sub_self, Nat.add_one_sub_one, Bool.not_true, Bool.not_false, Bool.not_not, Bool.and_true, Bool.true_and, Bool.and_false, Bool.false_and, Bool.or_true, Bool.true_or, Bool.or_false, Bool.false_or, Bool.false_eq_true, Bool.not_eq_true', decide_true, decide_false, decide_eq_true_eq]
  | some r =>
    rw [hf] at h2'
    simp only [m_first_binding, cd_first_binding, ys_first_binding_0, ys_first_binding_1, hw, e9, h2', bind_ok, bind_ex, fl_ok, fl_ex, seq_nx, seq_rt, seq_bk, seq_ct, seq_ex, x_run, fin_nx, fin_rt, fin_ex, exit_none, exit_some, opt_some, d_eVar, d_eMov, d_eInt, d_eStr, d_eBl, d_eNon, d_eGlob, x_q1, x_q2, d_eBin, d_eCmp, d_eIx, chB_b, x_c1, x_c2, x_c4, d_eChain, d_eOne, andB_b, orB_b, d_eAnd, d_eOr, notV_b, d_eNot, x_tupV, x_lstV, d_eTup, d_eLst, x_cbV, d_eCB, retV_ret, retV_ex, retIo_own, retIo_io, x_call0, x_call1, d_eCall, x_isiV, d_eIsi, x_negV, d_eNeg, d_eDicK, d_eDicT, x_sl1, x_sl2, x_sl3, d_eSl, x_o1, d_oNone, d_oSome, x_revV, d_eRevL, x_compV, compFin_ok, d_eComp, d_eCompB, d_ePop, x_valA, d_aVal, d_aRef, d_lNil, x_l1, x_l2, d_lCons, blT_b, d_tE, d_tCmp, d_tChain, d_tW, x_notT, d_tNot, d_wOne, x_andT, x_orT, d_wAnd, d_wOr, d_cNil, d_cOne, itV_l, itV_t, itV_s, d_iIt, d_gNm, d_gTup, x_retS, d_sRet, d_sRetN, x_expS, d_sExp, x_ifS, d_sIf, d_sPass, d_sBrk, d_sCnt, x_asgS, d_sSet, x_tupS, d_sTup, x_appS, d_sApp, x_putS, x_putS2, d_sPut, x_forS, d_sFor, d_sWhile, d_sRaise, hand_nx, hand_rt, hand_ex, d_sTry, d_hNil, d_hCons, hands_nil, hands_cons, noEx_nx, noEx_rt, d_bNil, d_bCons, rho0, fCompB, wipeR, unwipe, sv_no, sv_val, sv_own, AV.ct, slCt, Sl.ct, Sl.od, cts, avVals, x_stOk, pl_no, pl_val, pl_own, slOf, tgAll, k_add, k_sub, k_mul, k_div, k_mod, k_pow, k_eq, k_ne, k_lt, k_le, k_gt, k_ge, k_is, k_isn, k_in, k_nin, isi_non, isi_bl, isi_int, isi_str, isi_lst, isi_tup, isi_dic, add_int, sub_int', lt_int', le_int', gt_int', ge_int', eq_int, ne_int, eq_str, ne_str, is_none, isn_none, is_bool, isn_bool, isNoneD, isBoolD, in_lst, in_tup, nin_lst, nin_tup, in_sgn, nin_sgn, len_lst, len_tup, tup_lst, tup_tup, lst_tup, int_int, x_rg1V, d_iRg1, pow18, ix_t0, ix_t1, ix_t2, ix_t3, ix_l0, sSl, Bf.sem, lk, lkD, deOf, lsAt, reOwn, dcAt, putAt, List.mapIdx_cons, List.mapIdx_nil, List.replicate, List.length_cons, List.length_nil, List.map_cons, List.map_nil, List.cons_append, List.nil_append, List.append_nil, List.set, List.getElem?_cons_zero, List.getElem?_cons_succ, List.getElem?_nil, List.getElem?_map, Option.map_some, Option.map_none, Option.getD_some, Option.getD_none, Option.or_some, Option.none_or, Option.some_or, ↓reduceIte, reduceCtorEq, Option.some.injEq, Nat.zero_add, Nat.reduceAdd, Nat.reduceSub, Nat.reduceLeDiff, Nat.reduceEqDiff, Nat.reduceLT, Nat.sub_self, Nat.add_one_sub_one, Bool.not_true, Bool.not_false, Bool.not_not, Bool.and_true, Bool.true_and, Bool.and_false, Bool.false_and, Bool.or_true, Bool.true_or, Bool.or_false, Bool.false_or, Bool.false_eq_true, Bool.not_eq_true', decide_true, decide_false, decide_eq_true_eq]
theorem find_differences_s (rs : List PR) (p c : List Str) (hl : rs.length ≤ 1000) : m_find_differences [psD rs, csD p c] = .ret (.tuple (rs.map fun r => dif r p c)) false .none := by
  have e9 : den Y_find_differences (.gNm 2) = tgName 2 := rfl
  have h := comp_pureM (own := [2]) (tgt := tgName 2) (c := den (k := .C) Y_find_differences .cNil) (e := den Y_find_differences cd_find_differences_e0) PR.d (fun _ => true) (fun r => dif r p c) (ρ := [.val (psD rs), .val (csD p c), .no]) rs [] (by
    intro r _
    have hd := dif_s r p c
    refine ⟨[.val (psD rs), .val (csD p c), .val r.d], rfl, rfl, rfl, fun _ => ⟨false, [.val (psD rs), .val (csD p c), .val r.d], ?_, rfl⟩⟩
    simp only [cd_find_differences_e0, m_find_differences, cd_find_differences, ys_find_differences_0, hd, bind_ok, bind_ex, fl_ok, fl_ex, seq_nx, seq_rt, seq_bk, seq_ct, seq_ex, x_run, fin_nx, fin_rt, fin_ex, exit_none, exit_some, opt_some, d_eVar, d_eMov, d_eInt, d_eStr, d_eBl, d_eNon, d_eGlob, x_q1, x_q2, d_eBin, d_eCmp, d_eIx, chB_b, x_c1, x_c2, x_c4, d_eChain, d_eOne, andB_b, orB_b, d_eAnd, d_eOr, notV_b, d_eNot, x_tupV, x_lstV, d_eTup, d_eLst, x_cbV, d_eCB, retV_ret, retV_ex, retIo_own, retIo_io, x_call0, x_call1, d_eCall, x_isiV, d_eIsi, x_negV, d_eNeg, d_eDicK, d_eDicT, x_sl1, x_sl2, x_sl3, d_eSl, x_o1, d_oNone, d_oSome, x_revV, d_eRevL, x_compV, compFin_ok, d_eComp, d_eCompB, d_ePop, x_valA, d_aVal, d_aRef, d_lNil, x_l1, x_l2, d_lCons, blT_b, d_tE, d_tCmp, d_tChain, d_tW, x_notT, d_tNot, d_wOne, x_andT, x_orT, d_wAnd, d_wOr, d_cNil, d_cOne, itV_l, itV_t, itV_s, d_iIt, d_gNm, d_gTup, x_retS, d_sRet, d_sRetN, x_expS, d_sExp, x_ifS, d_sIf, d_sPass, d_sBrk, d_sCnt, x_asgS, d_sSet, x_tupS, d_sTup, x_appS, d_sApp, x_putS, x_putS2, d_sPut, x_forS, d_sFor, d_sWhile, d_sRaise, hand_nx, hand_rt, hand_ex, d_sTry, d_hNil, d_hCons, hands_nil, hands_cons, noEx_nx, noEx_rt, d_bNil, d_bCons, rho0, fCompB, wipeR, unwipe, sv_no, sv_val, sv_own, AV.ct, slCt, Sl.ct, Sl.od, cts, avVals, x_stOk, pl_no, pl_val, pl_own, slOf, tgAll, k_add, k_sub, k_mul, k_div, k_mod, k_pow, k_eq, k_ne, k_lt, k_le, k_gt, k_ge, k_is, k_isn, k_in, k_nin, isi_non, isi_bl, isi_int, isi_str, isi_lst, isi_tup, isi_dic, add_int, sub_int', lt_int', le_int', gt_int', ge_int', eq_int, ne_int, eq_str, ne_str, is_none, isn_none, is_bool, isn_bool, isNoneD, isBoolD, in_lst, in_tup, nin_lst, nin_tup, in_sgn, nin_sgn, len_lst, len_tup, tup_lst, tup_tup, lst_tup, int_int, x_rg1V, d_iRg1, pow18, ix_t0, ix_t1, ix_t2, ix_t3, ix_l0, sSl, Bf.sem, lk, lkD, deOf, lsAt, reOwn, dcAt, putAt, List.mapIdx_cons, List.mapIdx_nil, List.replicate, List.length_cons, List.length_nil, List.map_cons, List.map_nil, List.cons_append, List.nil_append, List.append_nil, List.set, List.getElem?_cons_zero, List.getElem?_cons_succ, List.getElem?_nil, List.getElem?_map, Option.map_some, Option.map_none, Option.getD_some, Option.getD_none, Option.or_some, Option.none_or, Option.some_or, ↓reduceIte, reduceCtorEq, Option.some.injEq, Nat.zero_add, Nat.reduceAdd, Nat.reduceSub, Nat.reduceLeDiff, Nat.reduceEqDiff, Nat.reduceLT, Nat.sub_self, Nat.add_one_sub_one, Bool.not_true, Bool.not_false, Bool.not_not, Bool.and_true, Bool.true_and, Bool.and_false, Bool.false_and, Bool.or_true, Bool.true_or, Bool.or_false, Bool.false_or, Bool.false_eq_true, Bool.not_eq_true', decide_true, decide_false, decide_eq_true_eq]) (by simp; omega)
  have hy : rs.filter (fun _ => true) = rs := by simp
  rw [List.nil_append, hy] at h
  simp only [m_find_differences, cd_find_differences, ys_find_differences_0, e9, h, bind_ok, bind_ex, fl_ok, fl_ex, seq_nx, seq_rt, seq_bk, seq_ct, seq_ex, x_run, fin_nx, fin_rt, fin_ex, exit_none, exit_some, opt_some, d_eVar, d_eMov, d_eInt, d_eStr, d_eBl, d_eNon, d_eGlob, x_q1, x_q2, d_eBin, d_eCmp, d_eIx, chB_b, x_c1, x_c2, x_c4, d_eChain, d_eOne, andB_b, orB_b, d_eAnd, d_eOr, notV_b, d_eNot, x_tupV, x_lstV, d_eTup, d_eLst, x_cbV, d_eCB, retV_ret, retV_ex, retIo_own, retIo_io, x_call0, x_call1, d_eCall, x_isiV, d_eIsi, x_negV, d_eNeg, d_eDicK, d_eDicT, x_sl1, x_sl2, x_sl3, d_eSl, x_o1, d_oNone, d_oSome, x_revV, d_eRevL, x_compV, compFin_ok, d_eComp, d_eCompB, d_ePop, x_valA, d_aVal, d_aRef, d_lNil, x_l1, x_l2, d_lCons, blT_b, d_tE, d_tCmp, d_tChain, d_tW, x_notT, d_tNot, d_wOne, x_andT, x_orT, d_wAnd, d_wOr, d_cNil, d_cOne, itV_l, itV_t, itV_s, d_iIt, d_gNm, d_gTup, x_retS, d_sRet, d_sRetN, x_expS, d_sExp, x_ifS, d_sIf, d_sPass, d_sBrk, d_sCnt, x_asgS, d_sSet, x_tupS, d_sTup, x_appS, d_sApp, x_putS, x_putS2, d_sPut, x_forS, d_sFor, d_sWhile, d_sRaise, hand_nx, hand_rt, hand_ex, d_sTry, d_hNil, d_hCons, hands_nil, hands_cons, noEx_nx, noEx_rt, d_bNil, d_bCons, rho0, fCompB, wipeR, unwipe, sv_no, sv_val, sv_own, AV.ct, slCt, Sl.ct, Sl.od, cts, avVals, x_stOk, pl_no, pl_val, pl_own, slOf, tgAll, k_add, k_sub, k_mul, k_div, k_mod, k_pow, k_eq, k_ne, k_lt, k_le, k_gt, k_ge, k_is, k_isn, k_in, k_nin, isi_non, isi_bl, isi_int, isi_str, isi_lst, isi_tup, isi_dic, add_int, sub_int', lt_int', le_int', gt_int', ge_int', eq_int, ne_int, eq_str, ne_str, is_none, isn_none, is_bool, isn_bool, isNoneD, isBoolD, in_lst, in_tup, nin_lst, nin_tup, in_sgn, nin_sgn, len_lst, len_tup, tup_lst, tup_tup, lst_tup, int_int, x_rg1V, d_iRg1, pow18, ix_t0, ix_t1, ix_t2, ix_t3, ix_l0, sSl, Bf.sem, lk, lkD, deOf, lsAt, reOwn, dcAt, putAt, List.mapIdx_cons, List.mapIdx_nil, List.replicate, List.length_cons, List.length_nil, List.map_cons, List.map_nil, List.cons_append, List.nil_append, List.append_nil, List.set, List.getElem?_cons_zero, List.getElem?_cons_succ, List.getElem?_nil, List.getElem?_map, Option.map_some, Option.map_none, Option.getD_some, Option.getD_none, Option.or_some, Option.none_or, Option.some_or, ↓reduceIte, reduceCtorEq, Option.some.injEq, Nat.zero_add, Nat.reduceAdd, Nat.reduceSub, Nat.reduceLeDiff, Nat.reduceEqDiff, Nat.reduceLT, Nat.sub_self, Nat.add_one_sub_one, Bool.not_true, Bool.not_false, Bool.not_not, Bool.and_true, Bool.true_and, Bool.and_false, Bool.false_and, Bool.or_true, Bool.true_or, Bool.or_false, Bool.false_or, Bool.false_eq_true, Bool.not_eq_true', decide_true, decide_false, decide_eq_true_eq]
def ruleO (rs : List PR) (p c : List Str) : D := match fb rs p c 1, fb rs p c (-1) with
  | some u, some d => .tuple [.str (Str.ofString "torn"), .tuple [.str u.n, .str d.n]]
  | some u, none => .tuple [.str (Str.ofString "upheld"), .tuple [.str u.n, .tuple ((ofO (-1) rs).map fun r => dif r p c)]]
  | none, some d => .tuple [.str (Str.ofString "dismissed"), .tuple [.str d.n, .tuple ((ofO 1 rs).map fun r => dif r p c)]]
  | none, none => .tuple [.str (Str.ofString "free"), .tuple [.tuple (rs.map fun r => dif r p c)]]
theorem ofO_len (o : Int) (rs : List PR) : (ofO o rs).length ≤ rs.length := List.length_filter_le ..
theorem rule_s (rs : List PR) (p c : List Str) (hl : rs.length ≤ 60) (ho : ∀ r ∈ rs, r.Ok) (hn : (rs.map PR.n).Nodup) (hp : Gd p) (hc : Gd c) : m_rule [psD rs, csD p c] = .ret (ruleO rs p c) false .none := by
  have h1 := is_precs_s rs hl ho
  rw [decide_eq_true hn] at h1
  have h2 := check_precs_s _ true h1
  have h3 := check_case_s _ true (case_ok p c hp hc)
  simp only [bind_ok, bind_ex, fl_ok, fl_ex, seq_nx, seq_rt, seq_bk, seq_ct, seq_ex, x_run, fin_nx, fin_rt, fin_ex, exit_none, exit_some, opt_some, d_eVar, d_eMov, d_eInt, d_eStr, d_eBl, d_eNon, d_eGlob, x_q1, x_q2, d_eBin, d_eCmp, d_eIx, chB_b, x_c1, x_c2, x_c4, d_eChain, d_eOne, andB_b, orB_b, d_eAnd, d_eOr, notV_b, d_eNot, x_tupV, x_lstV, d_eTup, d_eLst, x_cbV, d_eCB, retV_ret, retV_ex, retIo_own, retIo_io, x_call0, x_call1, d_eCall, x_isiV, d_eIsi, x_negV, d_eNeg, d_eDicK, d_eDicT, x_sl1, x_sl2, x_sl3, d_eSl, x_o1, d_oNone, d_oSome, x_revV, d_eRevL, x_compV, compFin_ok, d_eComp, d_eCompB, d_ePop, x_valA, d_aVal, d_aRef, d_lNil, x_l1, x_l2, d_lCons, blT_b, d_tE, d_tCmp, d_tChain, d_tW, x_notT, d_tNot, d_wOne, x_andT, x_orT, d_wAnd, d_wOr, d_cNil, d_cOne, itV_l, itV_t, itV_s, d_iIt, d_gNm, d_gTup, x_retS, d_sRet, d_sRetN, x_expS, d_sExp, x_ifS, d_sIf, d_sPass, d_sBrk, d_sCnt, x_asgS, d_sSet, x_tupS, d_sTup, x_appS, d_sApp, x_putS, x_putS2, d_sPut, x_forS, d_sFor, d_sWhile, d_sRaise, hand_nx, hand_rt, hand_ex, d_sTry, d_hNil, d_hCons, hands_nil, hands_cons, noEx_nx, noEx_rt, d_bNil, d_bCons, rho0, fCompB, wipeR, unwipe, sv_no, sv_val, sv_own, AV.ct, slCt, Sl.ct, Sl.od, cts, avVals, x_stOk, pl_no, pl_val, pl_own, slOf, tgAll, k_add, k_sub, k_mul, k_div, k_mod, k_pow, k_eq, k_ne, k_lt, k_le, k_gt, k_ge, k_is, k_isn, k_in, k_nin, isi_non, isi_bl, isi_int, isi_str, isi_lst, isi_tup, isi_dic, add_int, sub_int', lt_int', le_int', gt_int', ge_int', eq_int, ne_int, eq_str, ne_str, is_none, isn_none, is_bool, isn_bool, isNoneD, isBoolD, in_lst, in_tup, nin_lst, nin_tup, in_sgn, nin_sgn, len_lst, len_tup, tup_lst, tup_tup, lst_tup, int_int, x_rg1V, d_iRg1, pow18, ix_t0, ix_t1, ix_t2, ix_t3, ix_l0, sSl, Bf.sem, lk, lkD, deOf, lsAt, reOwn, dcAt, putAt, List.mapIdx_cons, List.mapIdx_nil, List.replicate, List.length_cons, List.length_nil, List.map_cons, List.map_nil, List.cons_append, List.nil_append, List.append_nil, List.set, List.getElem?_cons_zero, List.getElem?_cons_succ, List.getElem?_nil, List.getElem?_map, Option.map_some, Option.map_none, Option.getD_some, Option.getD_none, Option.or_some, Option.none_or, Option.some_or, ↓reduceIte, reduceCtorEq, Option.some.injEq, Nat.zero_add, Nat.reduceAdd, Nat.reduceSub, Nat.reduceLeDiff, Nat.reduceEqDiff, Nat.reduceLT, Nat.sub_self, Nat.add_one_sub_one, Bool.not_true, Bool.not_false, Bool.not_not, Bool.and_true, Bool.true_and, Bool.and_false, Bool.false_and, Bool.or_true, Bool.true_or, Bool.or_false, Bool.false_or, Bool.false_eq_true, Bool.not_eq_true', decide_true, decide_false, decide_eq_true_eq] at h2 h3
  have b1 := first_binding_s rs p c 1 (by omega)
  have b2 := first_binding_s rs p c (-1) (by omega)
  have w1 := with_outcome_s rs 1 (by omega)
  have w2 := with_outcome_s rs (-1) (by omega)
  have f1 := find_differences_s (ofO 1 rs) p c (by have := ofO_len 1 rs; omega)
  have f2 := find_differences_s (ofO (-1) rs) p c (by have := ofO_len (-1) rs; omega)
  have f3 := find_differences_s rs p c (by omega)
  unfold fbD at b1 b2
  unfold ruleO
  cases e1 : fb rs p c 1 with
  | some u =>
    rw [e1] at b1
    cases e2 : fb rs p c (-1) with
    | some d => rw [e2] at b2; simp -implicitDefEqProofs only [m_rule, cd_rule, ys_rule_0, ys_rule_1, ys_rule_2, ys_rule_3, ys_rule_4, yk_rule_5, yk_rule_6, h2, h3, b1, b2, bind_ok, bind_ex, fl_ok, fl_ex, seq_nx, seq_rt, seq_bk, seq_ct, seq_ex, x_run, fin_nx, fin_rt, fin_ex, exit_none, exit_some, opt_some, d_eVar, d_eMov, d_eInt, d_eStr, d_eBl, d_eNon, d_eGlob, x_q1, x_q2, d_eBin, d_eCmp, d_eIx, chB_b, x_c1, x_c2, x_c4, d_eChain, d_eOne, andB_b, orB_b, d_eAnd, d_eOr, notV_b, d_eNot, x_tupV, x_lstV, d_eTup, d_eLst, x_cbV, d_eCB, retV_ret, retV_ex, retIo_own, retIo_io, x_call0, x_call1, d_eCall, x_isiV, d_eIsi, x_negV, d_eNeg, d_eDicK, d_eDicT, x_sl1, x_sl2, x_sl3, d_eSl, x_o1, d_oNone, d_oSome, x_revV, d_eRevL, x_compV, compFin_ok, d_eComp, d_eCompB, d_ePop, x_valA, d_aVal, d_aRef, d_lNil, x_l1, x_l2, d_lCons, blT_b, d_tE, d_tCmp, d_tChain, d_tW, x_notT, d_tNot, d_wOne, x_andT, x_orT, d_wAnd, d_wOr, d_cNil, d_cOne, itV_l, itV_t, itV_s, d_iIt, d_gNm, d_gTup, x_retS, d_sRet, d_sRetN, x_expS, d_sExp, x_ifS, d_sIf, d_sPass, d_sBrk, d_sCnt, x_asgS, d_sSet, x_tupS, d_sTup, x_appS, d_sApp, x_putS, x_putS2, d_sPut, x_forS, d_sFor, d_sWhile, d_sRaise, hand_nx, hand_rt, hand_ex, d_sTry, d_hNil, d_hCons, hands_nil, hands_cons, noEx_nx, noEx_rt, d_bNil, d_bCons, rho0, fCompB, wipeR, unwipe, sv_no, sv_val, sv_own, AV.ct, slCt, Sl.ct, Sl.od, cts, avVals, x_stOk, pl_no, pl_val, pl_own, slOf, tgAll, k_add, k_sub, k_mul, k_div, k_mod, k_pow, k_eq, k_ne, k_lt, k_le, k_gt, k_ge, k_is, k_isn, k_in, k_nin, isi_non, isi_bl, isi_int, isi_str, isi_lst, isi_tup, isi_dic, add_int, sub_int', lt_int', le_int', gt_int', ge_int', eq_int, ne_int, eq_str, ne_str, is_none, isn_none, is_bool, isn_bool, isNoneD, isBoolD, in_lst, in_tup, nin_lst, nin_tup, in_sgn, nin_sgn, len_lst, len_tup, tup_lst, tup_tup, lst_tup, int_int, x_rg1V, d_iRg1, pow18, ix_t0, ix_t1, ix_t2, ix_t3, ix_l0, sSl, Bf.sem, lk, lkD, deOf, lsAt, reOwn, dcAt, putAt, List.mapIdx_cons, List.mapIdx_nil, List.replicate, List.length_cons, List.length_nil, List.map_cons, List.map_nil, List.cons_append, List.nil_append, List.append_nil, List.set, List.getElem?_cons_zero, List.getElem?_cons_succ, List.getElem?_nil, List.getElem?_map, Option.map_some, Option.map_none, Option.getD_some, Option.getD_none, Option.or_some, Option.none_or, Option.some_or, ↓reduceIte, reduceCtorEq, Option.some.injEq, Nat.zero_add, Nat.reduceAdd, Nat.reduceSub, Nat.reduceLeDiff, Nat.reduceEqDiff, Nat.reduceLT, Nat.sub_self, Nat.add_one_sub_one, Bool.not_true, Bool.not_false, Bool.not_not, Bool.and_true, Bool.true_and, Bool.and_false, Bool.false_and, Bool.or_true, Bool.true_or, Bool.or_false, Bool.false_or, Bool.false_eq_true, Bool.not_eq_true', decide_true, decide_false, decide_eq_true_eq]
    | none => rw [e2] at b2; simp -implicitDefEqProofs only [m_rule, cd_rule, ys_rule_0, ys_rule_1, ys_rule_2, ys_rule_3, ys_rule_4, yk_rule_5, yk_rule_6, h2, h3, b1, b2, w2, f2, bind_ok, bind_ex, fl_ok, fl_ex, seq_nx, seq_rt, seq_bk, seq_ct, seq_ex, x_run, fin_nx, fin_rt, fin_ex, exit_none, exit_some, opt_some, d_eVar, d_eMov, d_eInt, d_eStr, d_eBl, d_eNon, d_eGlob, x_q1, x_q2, d_eBin, d_eCmp, d_eIx, chB_b, x_c1, x_c2, x_c4, d_eChain, d_eOne, andB_b, orB_b, d_eAnd, d_eOr, notV_b, d_eNot, x_tupV, x_lstV, d_eTup, d_eLst, x_cbV, d_eCB, retV_ret, retV_ex, retIo_own, retIo_io, x_call0, x_call1, d_eCall, x_isiV, d_eIsi, x_negV, d_eNeg, d_eDicK, d_eDicT, x_sl1, x_sl2, x_sl3, d_eSl, x_o1, d_oNone, d_oSome, x_revV, d_eRevL, x_compV, compFin_ok, d_eComp, d_eCompB, d_ePop, x_valA, d_aVal, d_aRef, d_lNil, x_l1, x_l2, d_lCons, blT_b, d_tE, d_tCmp, d_tChain, d_tW, x_notT, d_tNot, d_wOne, x_andT, x_orT, d_wAnd, d_wOr, d_cNil, d_cOne, itV_l, itV_t, itV_s, d_iIt, d_gNm, d_gTup, x_retS, d_sRet, d_sRetN, x_expS, d_sExp, x_ifS, d_sIf, d_sPass, d_sBrk, d_sCnt, x_asgS, d_sSet, x_tupS, d_sTup, x_appS, d_sApp, x_putS, x_putS2, d_sPut, x_forS, d_sFor, d_sWhile, d_sRaise, hand_nx, hand_rt, hand_ex, d_sTry, d_hNil, d_hCons, hands_nil, hands_cons, noEx_nx, noEx_rt, d_bNil, d_bCons, rho0, fCompB, wipeR, unwipe, sv_no, sv_val, sv_own, AV.ct, slCt, Sl.ct, Sl.od, cts, avVals, x_stOk, pl_no, pl_val, pl_own, slOf, tgAll, k_add, k_sub, k_mul, k_div, k_mod, k_pow, k_eq, k_ne, k_lt, k_le, k_gt, k_ge, k_is, k_isn, k_in, k_nin, isi_non, isi_bl, isi_int, isi_str, isi_lst, isi_tup, isi_dic, add_int, sub_int', lt_int', le_int', gt_int', ge_int', eq_int, ne_int, eq_str, ne_str, is_none, isn_none, is_bool, isn_bool, isNoneD, isBoolD, in_lst, in_tup, nin_lst, nin_tup, in_sgn, nin_sgn, len_lst, len_tup, tup_lst, tup_tup, lst_tup, int_int, x_rg1V, d_iRg1, pow18, ix_t0, ix_t1, ix_t2, ix_t3, ix_l0, sSl, Bf.sem, lk, lkD, deOf, lsAt, reOwn, dcAt, putAt, List.mapIdx_cons, List.mapIdx_nil, List.replicate, List.length_cons, List.length_nil, List.map_cons, List.map_nil, List.cons_append, List.nil_append, List.append_nil, List.set, List.getElem?_cons_zero, List.getElem?_cons_succ, List.getElem?_nil, List.getElem?_map, Option.map_some, Option.map_none, Option.getD_some, Option.getD_none, Option.or_some, Option.none_or, Option.some_or, ↓reduceIte, reduceCtorEq, Option.some.injEq, Nat.zero_add, Nat.reduceAdd, Nat.reduceSub, Nat.reduceLeDiff, Nat.reduceEqDiff, Nat.reduceLT, Nat.sub_self, Nat.add_one_sub_one, Bool.not_true, Bool.not_false, Bool.not_not, Bool.and_true, Bool.true_and, Bool.and_false, Bool.false_and, Bool.or_true, Bool.true_or, Bool.or_false, Bool.false_or, Bool.false_eq_true, Bool.not_eq_true', decide_true, decide_false, decide_eq_true_eq]
  | none =>
    rw [e1] at b1
    cases e2 : fb rs p c (-1) with
    | some d => rw [e2] at b2; simp -implicitDefEqProofs only [m_rule, cd_rule, ys_rule_0, ys_rule_1, ys_rule_2, ys_rule_3, ys_rule_4, yk_rule_5, yk_rule_6, h2, h3, b1, b2, w1, f1, bind_ok, bind_ex, fl_ok, fl_ex, seq_nx, seq_rt, seq_bk, seq_ct, seq_ex, x_run, fin_nx, fin_rt, fin_ex, exit_none, exit_some, opt_some, d_eVar, d_eMov, d_eInt, d_eStr, d_eBl, d_eNon, d_eGlob, x_q1, x_q2, d_eBin, d_eCmp, d_eIx, chB_b, x_c1, x_c2, x_c4, d_eChain, d_eOne, andB_b, orB_b, d_eAnd, d_eOr, notV_b, d_eNot, x_tupV, x_lstV, d_eTup, d_eLst, x_cbV, d_eCB, retV_ret, retV_ex, retIo_own, retIo_io, x_call0, x_call1, d_eCall, x_isiV, d_eIsi, x_negV, d_eNeg, d_eDicK, d_eDicT, x_sl1, x_sl2, x_sl3, d_eSl, x_o1, d_oNone, d_oSome, x_revV, d_eRevL, x_compV, compFin_ok, d_eComp, d_eCompB, d_ePop, x_valA, d_aVal, d_aRef, d_lNil, x_l1, x_l2, d_lCons, blT_b, d_tE, d_tCmp, d_tChain, d_tW, x_notT, d_tNot, d_wOne, x_andT, x_orT, d_wAnd, d_wOr, d_cNil, d_cOne, itV_l, itV_t, itV_s, d_iIt, d_gNm, d_gTup, x_retS, d_sRet, d_sRetN, x_expS, d_sExp, x_ifS, d_sIf, d_sPass, d_sBrk, d_sCnt, x_asgS, d_sSet, x_tupS, d_sTup, x_appS, d_sApp, x_putS, x_putS2, d_sPut, x_forS, d_sFor, d_sWhile, d_sRaise, hand_nx, hand_rt, hand_ex, d_sTry, d_hNil, d_hCons, hands_nil, hands_cons, noEx_nx, noEx_rt, d_bNil, d_bCons, rho0, fCompB, wipeR, unwipe, sv_no, sv_val, sv_own, AV.ct, slCt, Sl.ct, Sl.od, cts, avVals, x_stOk, pl_no, pl_val, pl_own, slOf, tgAll, k_add, k_sub, k_mul, k_div, k_mod, k_pow, k_eq, k_ne, k_lt, k_le, k_gt, k_ge, k_is, k_isn, k_in, k_nin, isi_non, isi_bl, isi_int, isi_str, isi_lst, isi_tup, isi_dic, add_int, sub_int', lt_int', le_int', gt_int', ge_int', eq_int, ne_int, eq_str, ne_str, is_none, isn_none, is_bool, isn_bool, isNoneD, isBoolD, in_lst, in_tup, nin_lst, nin_tup, in_sgn, nin_sgn, len_lst, len_tup, tup_lst, tup_tup, lst_tup, int_int, x_rg1V, d_iRg1, pow18, ix_t0, ix_t1, ix_t2, ix_t3, ix_l0, sSl, Bf.sem, lk, lkD, deOf, lsAt, reOwn, dcAt, putAt, List.mapIdx_cons, List.mapIdx_nil, List.replicate, List.length_cons, List.length_nil, List.map_cons, List.map_nil, List.cons_append, List.nil_append, List.append_nil, List.set, List.getElem?_cons_zero, List.getElem?_cons_succ, List.getElem?_nil, List.getElem?_map, Option.map_some, Option.map_none, Option.getD_some, Option.getD_none, Option.or_some, Option.none_or, Option.some_or, ↓reduceIte, reduceCtorEq, Option.some.injEq, Nat.zero_add, Nat.reduceAdd, Nat.reduceSub, Nat.reduceLeDiff, Nat.reduceEqDiff, Nat.reduceLT, Nat.sub_self, Nat.add_one_sub_one, Bool.not_true, Bool.not_false, Bool.not_not, Bool.and_true, Bool.true_and, Bool.and_false, Bool.false_and, Bool.or_true, Bool.true_or, Bool.or_false, Bool.false_or, Bool.false_eq_true, Bool.not_eq_true', decide_true, decide_false, decide_eq_true_eq]
    | none => rw [e2] at b2; simp -implicitDefEqProofs only [m_rule, cd_rule, ys_rule_0, ys_rule_1, ys_rule_2, ys_rule_3, ys_rule_4, yk_rule_5, yk_rule_6, h2, h3, b1, b2, f3, bind_ok, bind_ex, fl_ok, fl_ex, seq_nx, seq_rt, seq_bk, seq_ct, seq_ex, x_run, fin_nx, fin_rt, fin_ex, exit_none, exit_some, opt_some, d_eVar, d_eMov, d_eInt, d_eStr, d_eBl, d_eNon, d_eGlob, x_q1, x_q2, d_eBin, d_eCmp, d_eIx, chB_b, x_c1, x_c2, x_c4, d_eChain, d_eOne, andB_b, orB_b, d_eAnd, d_eOr, notV_b, d_eNot, x_tupV, x_lstV, d_eTup, d_eLst, x_cbV, d_eCB, retV_ret, retV_ex, retIo_own, retIo_io, x_call0, x_call1, d_eCall, x_isiV, d_eIsi, x_negV, d_eNeg, d_eDicK, d_eDicT, x_sl1, x_sl2, x_sl3, d_eSl, x_o1, d_oNone, d_oSome, x_revV, d_eRevL, x_compV, compFin_ok, d_eComp, d_eCompB, d_ePop, x_valA, d_aVal, d_aRef, d_lNil, x_l1, x_l2, d_lCons, blT_b, d_tE, d_tCmp, d_tChain, d_tW, x_notT, d_tNot, d_wOne, x_andT, x_orT, d_wAnd, d_wOr, d_cNil, d_cOne, itV_l, itV_t, itV_s, d_iIt, d_gNm, d_gTup, x_retS, d_sRet, d_sRetN, x_expS, d_sExp, x_ifS, d_sIf, d_sPass, d_sBrk, d_sCnt, x_asgS, d_sSet, x_tupS, d_sTup, x_appS, d_sApp, x_putS, x_putS2, d_sPut, x_forS, d_sFor, d_sWhile, d_sRaise, hand_nx, hand_rt, hand_ex, d_sTry, d_hNil, d_hCons, hands_nil, hands_cons, noEx_nx, noEx_rt, d_bNil, d_bCons, rho0, fCompB, wipeR, unwipe, sv_no, sv_val, sv_own, AV.ct, slCt, Sl.ct, Sl.od, cts, avVals, x_stOk, pl_no, pl_val, pl_own, slOf, tgAll, k_add, k_sub, k_mul, k_div, k_mod, k_pow, k_eq, k_ne, k_lt, k_le, k_gt, k_ge, k_is, k_isn, k_in, k_nin, isi_non, isi_bl, isi_int, isi_str, isi_lst, isi_tup, isi_dic, add_int, sub_int', lt_int', le_int', gt_int', ge_int', eq_int, ne_int, eq_str, ne_str, is_none, isn_none, is_bool, isn_bool, isNoneD, isBoolD, in_lst, in_tup, nin_lst, nin_tup, in_sgn, nin_sgn, len_lst, len_tup, tup_lst, tup_tup, lst_tup, int_int, x_rg1V, d_iRg1, pow18, ix_t0, ix_t1, ix_t2, ix_t3, ix_l0, sSl, Bf.sem, lk, lkD, deOf, lsAt, reOwn, dcAt, putAt, List.mapIdx_cons, List.mapIdx_nil, List.replicate, List.length_cons, List.length_nil, List.map_cons, List.map_nil, List.cons_append, List.nil_append, List.append_nil, List.set, List.getElem?_cons_zero, List.getElem?_cons_succ, List.getElem?_nil, List.getElem?_map, Option.map_some, Option.map_none, Option.getD_some, Option.getD_none, Option.or_some, Option.none_or, Option.some_or, ↓reduceIte, reduceCtorEq, Option.some.injEq, Nat.zero_add, Nat.reduceAdd, Nat.reduceSub, Nat.reduceLeDiff, Nat.reduceEqDiff, Nat.reduceLT, Nat.sub_self, Nat.add_one_sub_one, Bool.not_true, Bool.not_false, Bool.not_not, Bool.and_true, Bool.true_and, Bool.and_false, Bool.false_and, Bool.or_true, Bool.true_or, Bool.or_false, Bool.false_or, Bool.false_eq_true, Bool.not_eq_true', decide_true, decide_false, decide_eq_true_eq]
theorem rule_bad (d c : D) (h : m_is_precedents [d] = .ret (.bool false) false .none) : m_rule [d, c] = .ex 1 .none := by
  have h1 := check_precs_s _ false h
  simp only [bind_ok, bind_ex, fl_ok, fl_ex, seq_nx, seq_rt, seq_bk, seq_ct, seq_ex, x_run, fin_nx, fin_rt, fin_ex, exit_none, exit_some, opt_some, d_eVar, d_eMov, d_eInt, d_eStr, d_eBl, d_eNon, d_eGlob, x_q1, x_q2, d_eBin, d_eCmp, d_eIx, chB_b, x_c1, x_c2, x_c4, d_eChain, d_eOne, andB_b, orB_b, d_eAnd, d_eOr, notV_b, d_eNot, x_tupV, x_lstV, d_eTup, d_eLst, x_cbV, d_eCB, retV_ret, retV_ex, retIo_own, retIo_io, x_call0, x_call1, d_eCall, x_isiV, d_eIsi, x_negV, d_eNeg, d_eDicK, d_eDicT, x_sl1, x_sl2, x_sl3, d_eSl, x_o1, d_oNone, d_oSome, x_revV, d_eRevL, x_compV, compFin_ok, d_eComp, d_eCompB, d_ePop, x_valA, d_aVal, d_aRef, d_lNil, x_l1, x_l2, d_lCons, blT_b, d_tE, d_tCmp, d_tChain, d_tW, x_notT, d_tNot, d_wOne, x_andT, x_orT, d_wAnd, d_wOr, d_cNil, d_cOne, itV_l, itV_t, itV_s, d_iIt, d_gNm, d_gTup, x_retS, d_sRet, d_sRetN, x_expS, d_sExp, x_ifS, d_sIf, d_sPass, d_sBrk, d_sCnt, x_asgS, d_sSet, x_tupS, d_sTup, x_appS, d_sApp, x_putS, x_putS2, d_sPut, x_forS, d_sFor, d_sWhile, d_sRaise, hand_nx, hand_rt, hand_ex, d_sTry, d_hNil, d_hCons, hands_nil, hands_cons, noEx_nx, noEx_rt, d_bNil, d_bCons, rho0, fCompB, wipeR, unwipe, sv_no, sv_val, sv_own, AV.ct, slCt, Sl.ct, Sl.od, cts, avVals, x_stOk, pl_no, pl_val, pl_own, slOf, tgAll, k_add, k_sub, k_mul, k_div, k_mod, k_pow, k_eq, k_ne, k_lt, k_le, k_gt, k_ge, k_is, k_isn, k_in, k_nin, isi_non, isi_bl, isi_int, isi_str, isi_lst, isi_tup, isi_dic, add_int, sub_int', lt_int', le_int', gt_int', ge_int', eq_int, ne_int, eq_str, ne_str, is_none, isn_none, is_bool, isn_bool, isNoneD, isBoolD, in_lst, in_tup, nin_lst, nin_tup, in_sgn, nin_sgn, len_lst, len_tup, tup_lst, tup_tup, lst_tup, int_int, x_rg1V, d_iRg1, pow18, ix_t0, ix_t1, ix_t2, ix_t3, ix_l0, sSl, Bf.sem, lk, lkD, deOf, lsAt, reOwn, dcAt, putAt, List.mapIdx_cons, List.mapIdx_nil, List.replicate, List.length_cons, List.length_nil, List.map_cons, List.map_nil, List.cons_append, List.nil_append, List.append_nil, List.set, List.getElem?_cons_zero, List.getElem?_cons_succ, List.getElem?_nil, List.getElem?_map, Option.map_some, Option.map_none, Option.getD_some, Option.getD_none, Option.or_some, Option.none_or, Option.some_or, ↓reduceIte, reduceCtorEq, Option.some.injEq, Nat.zero_add, Nat.reduceAdd, Nat.reduceSub, Nat.reduceLeDiff, Nat.reduceEqDiff, Nat.reduceLT, Nat.sub_self, Nat.add_one_sub_one, Bool.not_true, Bool.not_false, Bool.not_not, Bool.and_true, Bool.true_and, Bool.and_false, Bool.false_and, Bool.or_true, Bool.true_or, Bool.or_false, Bool.false_or, Bool.false_eq_true, Bool.not_eq_true', decide_true, decide_false, decide_eq_true_eq] at h1
  simp only [m_rule, cd_rule, ys_rule_0, ys_rule_1, ys_rule_2, ys_rule_3, ys_rule_4, yk_rule_5, yk_rule_6, h1, bind_ok, bind_ex, fl_ok, fl_ex, seq_nx, seq_rt, seq_bk, seq_ct, seq_ex, x_run, fin_nx, fin_rt, fin_ex, exit_none, exit_some, opt_some, d_eVar, d_eMov, d_eInt, d_eStr, d_eBl, d_eNon, d_eGlob, x_q1, x_q2, d_eBin, d_eCmp, d_eIx, chB_b, x_c1, x_c2, x_c4, d_eChain, d_eOne, andB_b, orB_b, d_eAnd, d_eOr, notV_b, d_eNot, x_tupV, x_lstV, d_eTup, d_eLst, x_cbV, d_eCB, retV_ret, retV_ex, retIo_own, retIo_io, x_call0, x_call1, d_eCall, x_isiV, d_eIsi, x_negV, d_eNeg, d_eDicK, d_eDicT, x_sl1, x_sl2, x_sl3, d_eSl, x_o1, d_oNone, d_oSome, x_revV, d_eRevL, x_compV, compFin_ok, d_eComp, d_eCompB, d_ePop, x_valA, d_aVal, d_aRef, d_lNil, x_l1, x_l2, d_lCons, blT_b, d_tE, d_tCmp, d_tChain, d_tW, x_notT, d_tNot, d_wOne, x_andT, x_orT, d_wAnd, d_wOr, d_cNil, d_cOne, itV_l, itV_t, itV_s, d_iIt, d_gNm, d_gTup, x_retS, d_sRet, d_sRetN, x_expS, d_sExp, x_ifS, d_sIf, d_sPass, d_sBrk, d_sCnt, x_asgS, d_sSet, x_tupS, d_sTup, x_appS, d_sApp, x_putS, x_putS2, d_sPut, x_forS, d_sFor, d_sWhile, d_sRaise, hand_nx, hand_rt, hand_ex, d_sTry, d_hNil, d_hCons, hands_nil, hands_cons, noEx_nx, noEx_rt, d_bNil, d_bCons, rho0, fCompB, wipeR, unwipe, sv_no, sv_val, sv_own, AV.ct, slCt, Sl.ct, Sl.od, cts, avVals, x_stOk, pl_no, pl_val, pl_own, slOf, tgAll, k_add, k_sub, k_mul, k_div, k_mod, k_pow, k_eq, k_ne, k_lt, k_le, k_gt, k_ge, k_is, k_isn, k_in, k_nin, isi_non, isi_bl, isi_int, isi_str, isi_lst, isi_tup, isi_dic, add_int, sub_int', lt_int', le_int', gt_int', ge_int', eq_int, ne_int, eq_str, ne_str, is_none, isn_none, is_bool, isn_bool, isNoneD, isBoolD, in_lst, in_tup, nin_lst, nin_tup, in_sgn, nin_sgn, len_lst, len_tup, tup_lst, tup_tup, lst_tup, int_int, x_rg1V, d_iRg1, pow18, ix_t0, ix_t1, ix_t2, ix_t3, ix_l0, sSl, Bf.sem, lk, lkD, deOf, lsAt, reOwn, dcAt, putAt, List.mapIdx_cons, List.mapIdx_nil, List.replicate, List.length_cons, List.length_nil, List.map_cons, List.map_nil, List.cons_append, List.nil_append, List.append_nil, List.set, List.getElem?_cons_zero, List.getElem?_cons_succ, List.getElem?_nil, List.getElem?_map, Option.map_some, Option.map_none, Option.getD_some, Option.getD_none, Option.or_some, Option.none_or, Option.some_or, ↓reduceIte, reduceCtorEq, Option.some.injEq, Nat.zero_add, Nat.reduceAdd, Nat.reduceSub, Nat.reduceLeDiff, Nat.reduceEqDiff, Nat.reduceLT, Nat.sub_self, Nat.add_one_sub_one, Bool.not_true, Bool.not_false, Bool.not_not, Bool.and_true, Bool.true_and, Bool.and_false, Bool.false_and, Bool.or_true, Bool.true_or, Bool.or_false, Bool.false_or, Bool.false_eq_true, Bool.not_eq_true', decide_true, decide_false, decide_eq_true_eq]
theorem rule_badcase (d c : D) (h : m_is_precedents [d] = .ret (.bool true) false .none) (h2 : m_is_case [c] = .ret (.bool false) false .none) : m_rule [d, c] = .ex 0 .none := by
  have h1 := check_precs_s _ true h
  have h3 := check_case_s _ false h2
  simp only [bind_ok, bind_ex, fl_ok, fl_ex, seq_nx, seq_rt, seq_bk, seq_ct, seq_ex, x_run, fin_nx, fin_rt, fin_ex, exit_none, exit_some, opt_some, d_eVar, d_eMov, d_eInt, d_eStr, d_eBl, d_eNon, d_eGlob, x_q1, x_q2, d_eBin, d_eCmp, d_eIx, chB_b, x_c1, x_c2, x_c4, d_eChain, d_eOne, andB_b, orB_b, d_eAnd, d_eOr, notV_b, d_eNot, x_tupV, x_lstV, d_eTup, d_eLst, x_cbV, d_eCB, retV_ret, retV_ex, retIo_own, retIo_io, x_call0, x_call1, d_eCall, x_isiV, d_eIsi, x_negV, d_eNeg, d_eDicK, d_eDicT, x_sl1, x_sl2, x_sl3, d_eSl, x_o1, d_oNone, d_oSome, x_revV, d_eRevL, x_compV, compFin_ok, d_eComp, d_eCompB, d_ePop, x_valA, d_aVal, d_aRef, d_lNil, x_l1, x_l2, d_lCons, blT_b, d_tE, d_tCmp, d_tChain, d_tW, x_notT, d_tNot, d_wOne, x_andT, x_orT, d_wAnd, d_wOr, d_cNil, d_cOne, itV_l, itV_t, itV_s, d_iIt, d_gNm, d_gTup, x_retS, d_sRet, d_sRetN, x_expS, d_sExp, x_ifS, d_sIf, d_sPass, d_sBrk, d_sCnt, x_asgS, d_sSet, x_tupS, d_sTup, x_appS, d_sApp, x_putS, x_putS2, d_sPut, x_forS, d_sFor, d_sWhile, d_sRaise, hand_nx, hand_rt, hand_ex, d_sTry, d_hNil, d_hCons, hands_nil, hands_cons, noEx_nx, noEx_rt, d_bNil, d_bCons, rho0, fCompB, wipeR, unwipe, sv_no, sv_val, sv_own, AV.ct, slCt, Sl.ct, Sl.od, cts, avVals, x_stOk, pl_no, pl_val, pl_own, slOf, tgAll, k_add, k_sub, k_mul, k_div, k_mod, k_pow, k_eq, k_ne, k_lt, k_le, k_gt, k_ge, k_is, k_isn, k_in, k_nin, isi_non, isi_bl, isi_int, isi_str, isi_lst, isi_tup, isi_dic, add_int, sub_int', lt_int', le_int', gt_int', ge_int', eq_int, ne_int, eq_str, ne_str, is_none, isn_none, is_bool, isn_bool, isNoneD, isBoolD, in_lst, in_tup, nin_lst, nin_tup, in_sgn, nin_sgn, len_lst, len_tup, tup_lst, tup_tup, lst_tup, int_int, x_rg1V, d_iRg1, pow18, ix_t0, ix_t1, ix_t2, ix_t3, ix_l0, sSl, Bf.sem, lk, lkD, deOf, lsAt, reOwn, dcAt, putAt, List.mapIdx_cons, List.mapIdx_nil, List.replicate, List.length_cons, List.length_nil, List.map_cons, List.map_nil, List.cons_append, List.nil_append, List.append_nil, List.set, List.getElem?_cons_zero, List.getElem?_cons_succ, List.getElem?_nil, List.getElem?_map, Option.map_some, Option.map_none, Option.getD_some, Option.getD_none, Option.or_some, Option.none_or, Option.some_or, ↓reduceIte, reduceCtorEq, Option.some.injEq, Nat.zero_add, Nat.reduceAdd, Nat.reduceSub, Nat.reduceLeDiff, Nat.reduceEqDiff, Nat.reduceLT, Nat.sub_self, Nat.add_one_sub_one, Bool.not_true, Bool.not_false, Bool.not_not, Bool.and_true, Bool.true_and, Bool.and_false, Bool.false_and, Bool.or_true, Bool.true_or, Bool.or_false, Bool.false_or, Bool.false_eq_true, Bool.not_eq_true', decide_true, decide_false, decide_eq_true_eq] at h1 h3
  simp only [m_rule, cd_rule, ys_rule_0, ys_rule_1, ys_rule_2, ys_rule_3, ys_rule_4, yk_rule_5, yk_rule_6, h1, h3, bind_ok, bind_ex, fl_ok, fl_ex, seq_nx, seq_rt, seq_bk, seq_ct, seq_ex, x_run, fin_nx, fin_rt, fin_ex, exit_none, exit_some, opt_some, d_eVar, d_eMov, d_eInt, d_eStr, d_eBl, d_eNon, d_eGlob, x_q1, x_q2, d_eBin, d_eCmp, d_eIx, chB_b, x_c1, x_c2, x_c4, d_eChain, d_eOne, andB_b, orB_b, d_eAnd, d_eOr, notV_b, d_eNot, x_tupV, x_lstV, d_eTup, d_eLst, x_cbV, d_eCB, retV_ret, retV_ex, retIo_own, retIo_io, x_call0, x_call1, d_eCall, x_isiV, d_eIsi, x_negV, d_eNeg, d_eDicK, d_eDicT, x_sl1, x_sl2, x_sl3, d_eSl, x_o1, d_oNone, d_oSome, x_revV, d_eRevL, x_compV, compFin_ok, d_eComp, d_eCompB, d_ePop, x_valA, d_aVal, d_aRef, d_lNil, x_l1, x_l2, d_lCons, blT_b, d_tE, d_tCmp, d_tChain, d_tW, x_notT, d_tNot, d_wOne, x_andT, x_orT, d_wAnd, d_wOr, d_cNil, d_cOne, itV_l, itV_t, itV_s, d_iIt, d_gNm, d_gTup, x_retS, d_sRet, d_sRetN, x_expS, d_sExp, x_ifS, d_sIf, d_sPass, d_sBrk, d_sCnt, x_asgS, d_sSet, x_tupS, d_sTup, x_appS, d_sApp, x_putS, x_putS2, d_sPut, x_forS, d_sFor, d_sWhile, d_sRaise, hand_nx, hand_rt, hand_ex, d_sTry, d_hNil, d_hCons, hands_nil, hands_cons, noEx_nx, noEx_rt, d_bNil, d_bCons, rho0, fCompB, wipeR, unwipe, sv_no, sv_val, sv_own, AV.ct, slCt, Sl.ct, Sl.od, cts, avVals, x_stOk, pl_no, pl_val, pl_own, slOf, tgAll, k_add, k_sub, k_mul, k_div, k_mod, k_pow, k_eq, k_ne, k_lt, k_le, k_gt, k_ge, k_is, k_isn, k_in, k_nin, isi_non, isi_bl, isi_int, isi_str, isi_lst, isi_tup, isi_dic, add_int, sub_int', lt_int', le_int', gt_int', ge_int', eq_int, ne_int, eq_str, ne_str, is_none, isn_none, is_bool, isn_bool, isNoneD, isBoolD, in_lst, in_tup, nin_lst, nin_tup, in_sgn, nin_sgn, len_lst, len_tup, tup_lst, tup_tup, lst_tup, int_int, x_rg1V, d_iRg1, pow18, ix_t0, ix_t1, ix_t2, ix_t3, ix_l0, sSl, Bf.sem, lk, lkD, deOf, lsAt, reOwn, dcAt, putAt, List.mapIdx_cons, List.mapIdx_nil, List.replicate, List.length_cons, List.length_nil, List.map_cons, List.map_nil, List.cons_append, List.nil_append, List.append_nil, List.set, List.getElem?_cons_zero, List.getElem?_cons_succ, List.getElem?_nil, List.getElem?_map, Option.map_some, Option.map_none, Option.getD_some, Option.getD_none, Option.or_some, Option.none_or, Option.some_or, ↓reduceIte, reduceCtorEq, Option.some.injEq, Nat.zero_add, Nat.reduceAdd, Nat.reduceSub, Nat.reduceLeDiff, Nat.reduceEqDiff, Nat.reduceLT, Nat.sub_self, Nat.add_one_sub_one, Bool.not_true, Bool.not_false, Bool.not_not, Bool.and_true, Bool.true_and, Bool.and_false, Bool.false_and, Bool.or_true, Bool.true_or, Bool.or_false, Bool.false_or, Bool.false_eq_true, Bool.not_eq_true', decide_true, decide_false, decide_eq_true_eq]
end PV.Lw
namespace PV.Lw
open PySem L2 PV

/-! _law_rule -/
theorem ldif_s (r : PR) (hr : r.Ok) (p c : List Str) (hp : Gd p) (hc : Gd c) : m__law_difference [r.d, csD p c] = .ret (dif r p c) false .none :=
  law_difference_s _ _ _ _ _ _ hr.o (by have := hr.p.len; omega) (by have := hr.c.len; omega) (by have := hp.len; omega) (by have := hc.len; omega)
theorem lr_c3 (rs : List PR) (a1 a2 a4 a5 a6 : Sl) (hl : rs.length ≤ 1000) : compLoop [3] (tgName 3) (den (k := .C) Y__law_rule cd__law_rule_c3) (den Y__law_rule cd__law_rule_e6) (rs.map PR.d) [] [.val (psD rs), a1, a2, .no, a4, a5, a6] = .ok ((ofO 1 rs).map PR.d) [.val (psD rs), a1, a2, .no, a4, a5, a6] := by
  have h := comp_pureM (own := [3]) (tgt := tgName 3) (c := den (k := .C) Y__law_rule cd__law_rule_c3) (e := den Y__law_rule cd__law_rule_e6) PR.d (fun r => decide (r.o = 1)) PR.d (ρ := [.val (psD rs), a1, a2, .no, a4, a5, a6]) rs [] (by
    intro r _
    refine ⟨[.val (psD rs), a1, a2, .val r.d, a4, a5, a6], rfl, ?_, rfl, fun _ => ⟨false, [.val (psD rs), a1, a2, .val r.d, a4, a5, a6], ?_, rfl⟩⟩
    · simp only [cd__law_rule_c3, PR.d, bind_ok, bind_ex, fl_ok, fl_ex, seq_nx, seq_rt, seq_bk, seq_ct, seq_ex, x_run, fin_nx, fin_rt, fin_ex, exit_none, exit_some, opt_some, d_eVar, d_eMov, d_eInt, d_eStr, d_eBl, d_eNon, d_eGlob, x_q1, x_q2, d_eBin, d_eCmp, d_eIx, chB_b, x_c1, x_c2, x_c4, d_eChain, d_eOne, andB_b, orB_b, d_eAnd, d_eOr, notV_b, d_eNot, x_tupV, x_lstV, d_eTup, d_eLst, x_cbV, d_eCB, retV_ret, retV_ex, retIo_own, retIo_io, x_call0, x_call1, d_eCall, x_isiV, d_eIsi, x_negV, d_eNeg, d_eDicK, d_eDicT, x_sl1, x_sl2, x_sl3, d_eSl, x_o1, d_oNone, d_oSome, x_revV, d_eRevL, x_compV, compFin_ok, d_eComp, d_eCompB, d_ePop, x_valA, d_aVal, d_aRef, d_lNil, x_l1, x_l2, d_lCons, blT_b, d_tE, d_tCmp, d_tChain, d_tW, x_notT, d_tNot, d_wOne, x_andT, x_orT, d_wAnd, d_wOr, d_cNil, d_cOne, itV_l, itV_t, itV_s, d_iIt, d_gNm, d_gTup, x_retS, d_sRet, d_sRetN, x_expS, d_sExp, x_ifS, d_sIf, d_sPass, d_sBrk, d_sCnt, x_asgS, d_sSet, x_tupS, d_sTup, x_appS, d_sApp, x_putS, x_putS2, d_sPut, x_forS, d_sFor, d_sWhile, d_sRaise, hand_nx, hand_rt, hand_ex, d_sTry, d_hNil, d_hCons, hands_nil, hands_cons, noEx_nx, noEx_rt, d_bNil, d_bCons, rho0, fCompB, wipeR, unwipe, sv_no, sv_val, sv_own, AV.ct, slCt, Sl.ct, Sl.od, cts, avVals, x_stOk, pl_no, pl_val, pl_own, slOf, tgAll, k_add, k_sub, k_mul, k_div, k_mod, k_pow, k_eq, k_ne, k_lt, k_le, k_gt, k_ge, k_is, k_isn, k_in, k_nin, isi_non, isi_bl, isi_int, isi_str, isi_lst, isi_tup, isi_dic, add_int, sub_int', lt_int', le_int', gt_int', ge_int', eq_int, ne_int, eq_str, ne_str, is_none, isn_none, is_bool, isn_bool, isNoneD, isBoolD, in_lst, in_tup, nin_lst, nin_tup, in_sgn, nin_sgn, len_lst, len_tup, tup_lst, tup_tup, lst_tup, int_int, x_rg1V, d_iRg1, pow18, ix_t0, ix_t1, ix_t2, ix_t3, ix_l0, sSl, Bf.sem, lk, lkD, deOf, lsAt, reOwn, dcAt, putAt, List.mapIdx_cons, List.mapIdx_nil, List.replicate, List.length_cons, List.length_nil, List.map_cons, List.map_nil, List.cons_append, List.nil_append, List.append_nil, List.set, List.getElem?_cons_zero, List.getElem?_cons_succ, List.getElem?_nil, List.getElem?_map, Option.map_some, Option.map_none, Option.getD_some, Option.getD_none, Option.or_some, Option.none_or, Option.some_or, ↓reduceIte, reduceCtorEq, Option.some.injEq, Nat.zero_add, Nat.reduceAdd, Nat.reduceSub, Nat.reduceLeDiff, Nat.reduceEqDiff, Nat.reduceLT, Nat.sub_self, Nat.add_one_sub_one, Bool.not_true, Bool.not_false, Bool.not_not, Bool.and_true, Bool.true_and, Bool.and_false, Bool.false_and, Bool.or_true, Bool.true_or, Bool.or_false, Bool.false_or, Bool.false_eq_true, Bool.not_eq_true', decide_true, decide_false, decide_eq_true_eq]
    · simp only [cd__law_rule_e6, PR.d, bind_ok, bind_ex, fl_ok, fl_ex, seq_nx, seq_rt, seq_bk, seq_ct, seq_ex, x_run, fin_nx, fin_rt, fin_ex, exit_none, exit_some, opt_some, d_eVar, d_eMov, d_eInt, d_eStr, d_eBl, d_eNon, d_eGlob, x_q1, x_q2, d_eBin, d_eCmp, d_eIx, chB_b, x_c1, x_c2, x_c4, d_eChain, d_eOne, andB_b, orB_b, d_eAnd, d_eOr, notV_b, d_eNot, x_tupV, x_lstV, d_eTup, d_eLst, x_cbV, d_eCB, retV_ret, retV_ex, retIo_own, retIo_io, x_call0, x_call1, d_eCall, x_isiV, d_eIsi, x_negV, d_eNeg, d_eDicK, d_eDicT, x_sl1, x_sl2, x_sl3, d_eSl, x_o1, d_oNone, d_oSome, x_revV, d_eRevL, x_compV, compFin_ok, d_eComp, d_eCompB, d_ePop, x_valA, d_aVal, d_aRef, d_lNil, x_l1, x_l2, d_lCons, blT_b, d_tE, d_tCmp, d_tChain, d_tW, x_notT, d_tNot, d_wOne, x_andT, x_orT, d_wAnd, d_wOr, d_cNil, d_cOne, itV_l, itV_t, itV_s, d_iIt, d_gNm, d_gTup, x_retS, d_sRet, d_sRetN, x_expS, d_sExp, x_ifS, d_sIf, d_sPass, d_sBrk, d_sCnt, x_asgS, d_sSet, x_tupS, d_sTup, x_appS, d_sApp, x_putS, x_putS2, d_sPut, x_forS, d_sFor, d_sWhile, d_sRaise, hand_nx, hand_rt, hand_ex, d_sTry, d_hNil, d_hCons, hands_nil, hands_cons, noEx_nx, noEx_rt, d_bNil, d_bCons, rho0, fCompB, wipeR, unwipe, sv_no, sv_val, sv_own, AV.ct, slCt, Sl.ct, Sl.od, cts, avVals, x_stOk, pl_no, pl_val, pl_own, slOf, tgAll, k_add, k_sub, k_mul, k_div, k_mod, k_pow, k_eq, k_ne, k_lt, k_le, k_gt, k_ge, k_is, k_isn, k_in, k_nin, isi_non, isi_bl, isi_int, isi_str, isi_lst, isi_tup, isi_dic, add_int, sub_int', lt_int', le_int', gt_int', ge_int', eq_int, ne_int, eq_str, ne_str, is_none, isn_none, is_bool, isn_bool, isNoneD, isBoolD, in_lst, in_tup, nin_lst, nin_tup, in_sgn, nin_sgn, len_lst, len_tup, tup_lst, tup_tup, lst_tup, int_int, x_rg1V, d_iRg1, pow18, ix_t0, ix_t1, ix_t2, ix_t3, ix_l0, sSl, Bf.sem, lk, lkD, deOf, lsAt, reOwn, dcAt, putAt, List.mapIdx_cons, List.mapIdx_nil, List.replicate, List.length_cons, List.length_nil, List.map_cons, List.map_nil, List.cons_append, List.nil_append, List.append_nil, List.set, List.getElem?_cons_zero, List.getElem?_cons_succ, List.getElem?_nil, List.getElem?_map, Option.map_some, Option.map_none, Option.getD_some, Option.getD_none, Option.or_some, Option.none_or, Option.some_or, ↓reduceIte, reduceCtorEq, Option.some.injEq, Nat.zero_add, Nat.reduceAdd, Nat.reduceSub, Nat.reduceLeDiff, Nat.reduceEqDiff, Nat.reduceLT, Nat.sub_self, Nat.add_one_sub_one, Bool.not_true, Bool.not_false, Bool.not_not, Bool.and_true, Bool.true_and, Bool.and_false, Bool.false_and, Bool.or_true, Bool.true_or, Bool.or_false, Bool.false_or, Bool.false_eq_true, Bool.not_eq_true', decide_true, decide_false, decide_eq_true_eq]) (by simp; omega)
  rw [List.nil_append] at h
  exact h
theorem lr_c2 (rs : List PR) (a1 a2 a4 a5 a6 : Sl) (hl : rs.length ≤ 1000) : compLoop [3] (tgName 3) (den (k := .C) Y__law_rule cd__law_rule_c2) (den Y__law_rule cd__law_rule_e5) (rs.map PR.d) [] [.val (psD rs), a1, a2, .no, a4, a5, a6] = .ok ((ofO (-1) rs).map PR.d) [.val (psD rs), a1, a2, .no, a4, a5, a6] := by
  have h := comp_pureM (own := [3]) (tgt := tgName 3) (c := den (k := .C) Y__law_rule cd__law_rule_c2) (e := den Y__law_rule cd__law_rule_e5) PR.d (fun r => decide (r.o = -1)) PR.d (ρ := [.val (psD rs), a1, a2, .no, a4, a5, a6]) rs [] (by
    intro r _
    refine ⟨[.val (psD rs), a1, a2, .val r.d, a4, a5, a6], rfl, ?_, rfl, fun _ => ⟨false, [.val (psD rs), a1, a2, .val r.d, a4, a5, a6], ?_, rfl⟩⟩
    · simp only [cd__law_rule_c2, PR.d, bind_ok, bind_ex, fl_ok, fl_ex, seq_nx, seq_rt, seq_bk, seq_ct, seq_ex, x_run, fin_nx, fin_rt, fin_ex, exit_none, exit_some, opt_some, d_eVar, d_eMov, d_eInt, d_eStr, d_eBl, d_eNon, d_eGlob, x_q1, x_q2, d_eBin, d_eCmp, d_eIx, chB_b, x_c1, x_c2, x_c4, d_eChain, d_eOne, andB_b, orB_b, d_eAnd, d_eOr, notV_b, d_eNot, x_tupV, x_lstV, d_eTup, d_eLst, x_cbV, d_eCB, retV_ret, retV_ex, retIo_own, retIo_io, x_call0, x_call1, d_eCall, x_isiV, d_eIsi, x_negV, d_eNeg, d_eDicK, d_eDicT, x_sl1, x_sl2, x_sl3, d_eSl, x_o1, d_oNone, d_oSome, x_revV, d_eRevL, x_compV, compFin_ok, d_eComp, d_eCompB, d_ePop, x_valA, d_aVal, d_aRef, d_lNil, x_l1, x_l2, d_lCons, blT_b, d_tE, d_tCmp, d_tChain, d_tW, x_notT, d_tNot, d_wOne, x_andT, x_orT, d_wAnd, d_wOr, d_cNil, d_cOne, itV_l, itV_t, itV_s, d_iIt, d_gNm, d_gTup, x_retS, d_sRet, d_sRetN, x_expS, d_sExp, x_ifS, d_sIf, d_sPass, d_sBrk, d_sCnt, x_asgS, d_sSet, x_tupS, d_sTup, x_appS, d_sApp, x_putS, x_putS2, d_sPut, x_forS, d_sFor, d_sWhile, d_sRaise, hand_nx, hand_rt, hand_ex, d_sTry, d_hNil, d_hCons, hands_nil, hands_cons, noEx_nx, noEx_rt, d_bNil, d_bCons, rho0, fCompB, wipeR, unwipe, sv_no, sv_val, sv_own, AV.ct, slCt, Sl.ct, Sl.od, cts, avVals, x_stOk, pl_no, pl_val, pl_own, slOf, tgAll, k_add, k_sub, k_mul, k_div, k_mod, k_pow, k_eq, k_ne, k_lt, k_le, k_gt, k_ge, k_is, k_isn, k_in, k_nin, isi_non, isi_bl, isi_int, isi_str, isi_lst, isi_tup, isi_dic, add_int, sub_int', lt_int', le_int', gt_int', ge_int', eq_int, ne_int, eq_str, ne_str, is_none, isn_none, is_bool, isn_bool, isNoneD, isBoolD, in_lst, in_tup, nin_lst, nin_tup, in_sgn, nin_sgn, len_lst, len_tup, tup_lst, tup_tup, lst_tup, int_int, x_rg1V, d_iRg1, pow18, ix_t0, ix_t1, ix_t2, ix_t3, ix_l0, sSl, Bf.sem, lk, lkD, deOf, lsAt, reOwn, dcAt, putAt, List.mapIdx_cons, List.mapIdx_nil, List.replicate, List.length_cons, List.length_nil, List.map_cons, List.map_nil, List.cons_append, List.nil_append, List.append_nil, List.set, List.getElem?_cons_zero, List.getElem?_cons_succ, List.getElem?_nil, List.getElem?_map, Option.map_some, Option.map_none, Option.getD_some, Option.getD_none, Option.or_some, Option.none_or, Option.some_or, ↓reduceIte, reduceCtorEq, Option.some.injEq, Nat.zero_add, Nat.reduceAdd, Nat.reduceSub, Nat.reduceLeDiff, Nat.reduceEqDiff, Nat.reduceLT, Nat.sub_self, Nat.add_one_sub_one, Bool.not_true, Bool.not_false, Bool.not_not, Bool.and_true, Bool.true_and, Bool.and_false, Bool.false_and, Bool.or_true, Bool.true_or, Bool.or_false, Bool.false_or, Bool.false_eq_true, Bool.not_eq_true', decide_true, decide_false, decide_eq_true_eq]
    · simp only [cd__law_rule_e5, PR.d, bind_ok, bind_ex, fl_ok, fl_ex, seq_nx, seq_rt, seq_bk, seq_ct, seq_ex, x_run, fin_nx, fin_rt, fin_ex, exit_none, exit_some, opt_some, d_eVar, d_eMov, d_eInt, d_eStr, d_eBl, d_eNon, d_eGlob, x_q1, x_q2, d_eBin, d_eCmp, d_eIx, chB_b, x_c1, x_c2, x_c4, d_eChain, d_eOne, andB_b, orB_b, d_eAnd, d_eOr, notV_b, d_eNot, x_tupV, x_lstV, d_eTup, d_eLst, x_cbV, d_eCB, retV_ret, retV_ex, retIo_own, retIo_io, x_call0, x_call1, d_eCall, x_isiV, d_eIsi, x_negV, d_eNeg, d_eDicK, d_eDicT, x_sl1, x_sl2, x_sl3, d_eSl, x_o1, d_oNone, d_oSome, x_revV, d_eRevL, x_compV, compFin_ok, d_eComp, d_eCompB, d_ePop, x_valA, d_aVal, d_aRef, d_lNil, x_l1, x_l2, d_lCons, blT_b, d_tE, d_tCmp, d_tChain, d_tW, x_notT, d_tNot, d_wOne, x_andT, x_orT, d_wAnd, d_wOr, d_cNil, d_cOne, itV_l, itV_t, itV_s, d_iIt, d_gNm, d_gTup, x_retS, d_sRet, d_sRetN, x_expS, d_sExp, x_ifS, d_sIf, d_sPass, d_sBrk, d_sCnt, x_asgS, d_sSet, x_tupS, d_sTup, x_appS, d_sApp, x_putS, x_putS2, d_sPut, x_forS, d_sFor, d_sWhile, d_sRaise, hand_nx, hand_rt, hand_ex, d_sTry, d_hNil, d_hCons, hands_nil, hands_cons, noEx_nx, noEx_rt, d_bNil, d_bCons, rho0, fCompB, wipeR, unwipe, sv_no, sv_val, sv_own, AV.ct, slCt, Sl.ct, Sl.od, cts, avVals, x_stOk, pl_no, pl_val, pl_own, slOf, tgAll, k_add, k_sub, k_mul, k_div, k_mod, k_pow, k_eq, k_ne, k_lt, k_le, k_gt, k_ge, k_is, k_isn, k_in, k_nin, isi_non, isi_bl, isi_int, isi_str, isi_lst, isi_tup, isi_dic, add_int, sub_int', lt_int', le_int', gt_int', ge_int', eq_int, ne_int, eq_str, ne_str, is_none, isn_none, is_bool, isn_bool, isNoneD, isBoolD, in_lst, in_tup, nin_lst, nin_tup, in_sgn, nin_sgn, len_lst, len_tup, tup_lst, tup_tup, lst_tup, int_int, x_rg1V, d_iRg1, pow18, ix_t0, ix_t1, ix_t2, ix_t3, ix_l0, sSl, Bf.sem, lk, lkD, deOf, lsAt, reOwn, dcAt, putAt, List.mapIdx_cons, List.mapIdx_nil, List.replicate, List.length_cons, List.length_nil, List.map_cons, List.map_nil, List.cons_append, List.nil_append, List.append_nil, List.set, List.getElem?_cons_zero, List.getElem?_cons_succ, List.getElem?_nil, List.getElem?_map, Option.map_some, Option.map_none, Option.getD_some, Option.getD_none, Option.or_some, Option.none_or, Option.some_or, ↓reduceIte, reduceCtorEq, Option.some.injEq, Nat.zero_add, Nat.reduceAdd, Nat.reduceSub, Nat.reduceLeDiff, Nat.reduceEqDiff, Nat.reduceLT, Nat.sub_self, Nat.add_one_sub_one, Bool.not_true, Bool.not_false, Bool.not_not, Bool.and_true, Bool.true_and, Bool.and_false, Bool.false_and, Bool.or_true, Bool.true_or, Bool.or_false, Bool.false_or, Bool.false_eq_true, Bool.not_eq_true', decide_true, decide_false, decide_eq_true_eq]) (by simp; omega)
  rw [List.nil_append] at h
  exact h
theorem lr_c1 (us : List PR) (p c : List Str) (ho : ∀ r ∈ us, r.Ok) (hp : Gd p) (hc : Gd c) (a0 a2 a4 a5 a6 : Sl) (hl : us.length ≤ 1000) : compLoop [3] (tgName 3) (den (k := .C) Y__law_rule cd__law_rule_c1) (den Y__law_rule cd__law_rule_e4) (us.map PR.d) [] [a0, .val (csD p c), a2, .no, a4, a5, a6] = .ok (((us.filter fun r => PV.isNoneD (dif r p c)).map PR.n).map PyData.str) [a0, .val (csD p c), a2, .no, a4, a5, a6] := by
  have h := comp_pureM (own := [3]) (tgt := tgName 3) (c := den (k := .C) Y__law_rule cd__law_rule_c1) (e := den Y__law_rule cd__law_rule_e4) PR.d (fun r => PV.isNoneD (dif r p c)) (fun r => .str r.n) (ρ := [a0, .val (csD p c), a2, .no, a4, a5, a6]) us [] (by
    intro r hr
    have hd := ldif_s r (ho r hr) p c hp hc
    have hi : bIs (dif r p c) .none = some (.bool (PV.isNoneD (dif r p c)), false) := is_none _
    generalize PV.isNoneD (dif r p c) = b at hi ⊢
    refine ⟨[a0, .val (csD p c), a2, .val r.d, a4, a5, a6], rfl, ?_, rfl, fun _ => ⟨false, [a0, .val (csD p c), a2, .val r.d, a4, a5, a6], ?_, rfl⟩⟩
    · simp only [cd__law_rule_c1, m__law_rule, cd__law_rule, ys__law_rule_0, hd, hi, bind_ok, bind_ex, fl_ok, fl_ex, seq_nx, seq_rt, seq_bk, seq_ct, seq_ex, x_run, fin_nx, fin_rt, fin_ex, exit_none, exit_some, opt_some, d_eVar, d_eMov, d_eInt, d_eStr, d_eBl, d_eNon, d_eGlob, x_q1, x_q2, d_eBin, d_eCmp, d_eIx, chB_b, x_c1, x_c2, x_c4, d_eChain, d_eOne, andB_b, orB_b, d_eAnd, d_eOr, notV_b, d_eNot, x_tupV, x_lstV, d_eTup, d_eLst, x_cbV, d_eCB, retV_ret, retV_ex, retIo_own, retIo_io, x_call0, x_call1, d_eCall, x_isiV, d_eIsi, x_negV, d_eNeg, d_eDicK, d_eDicT, x_sl1, x_sl2, x_sl3, d_eSl, x_o1, d_oNone, d_oSome, x_revV, d_eRevL, x_compV, compFin_ok, d_eComp, d_eCompB, d_ePop, x_valA, d_aVal, d_aRef, d_lNil, x_l1, x_l2, d_lCons, blT_b, d_tE, d_tCmp, d_tChain, d_tW, x_notT, d_tNot, d_wOne, x_andT, x_orT, d_wAnd, d_wOr, d_cNil, d_cOne, itV_l, itV_t, itV_s, d_iIt, d_gNm, d_gTup, x_retS, d_sRet, d_sRetN, x_expS, d_sExp, x_ifS, d_sIf, d_sPass, d_sBrk, d_sCnt, x_asgS, d_sSet, x_tupS, d_sTup, x_appS, d_sApp, x_putS, x_putS2, d_sPut, x_forS, d_sFor, d_sWhile, d_sRaise, hand_nx, hand_rt, hand_ex, d_sTry, d_hNil, d_hCons, hands_nil, hands_cons, noEx_nx, noEx_rt, d_bNil, d_bCons, rho0, fCompB, wipeR, unwipe, sv_no, sv_val, sv_own, AV.ct, slCt, Sl.ct, Sl.od, cts, avVals, x_stOk, pl_no, pl_val, pl_own, slOf, tgAll, k_add, k_sub, k_mul, k_div, k_mod, k_pow, k_eq, k_ne, k_lt, k_le, k_gt, k_ge, k_is, k_isn, k_in, k_nin, isi_non, isi_bl, isi_int, isi_str, isi_lst, isi_tup, isi_dic, add_int, sub_int', lt_int', le_int', gt_int', ge_int', eq_int, ne_int, eq_str, ne_str, is_none, isn_none, is_bool, isn_bool, isNoneD, isBoolD, in_lst, in_tup, nin_lst, nin_tup, in_sgn, nin_sgn, len_lst, len_tup, tup_lst, tup_tup, lst_tup, int_int, x_rg1V, d_iRg1, pow18, ix_t0, ix_t1, ix_t2, ix_t3, ix_l0, sSl, Bf.sem, lk, lkD, deOf, lsAt, reOwn, dcAt, putAt, List.mapIdx_cons, List.mapIdx_nil, List.replicate, List.length_cons, List.length_nil, List.map_cons, List.map_nil, List.cons_append, List.nil_append, List.append_nil, List.set, List.getElem?_cons_zero, List.getElem?_cons_succ, List.getElem?_nil, List.getElem?_map, Option.map_some, Option.map_none, Option.getD_some, Option.getD_none, Option.or_some, Option.none_or, Option.some_or, ↓reduceIte, reduceCtorEq, Option.some.injEq, Nat.zero_add, Nat.reduceAdd, Nat.reduceSub, Nat.reduceLeDiff, Nat.reduceEqDiff, Nat.reduceLT, Nat.sub_self, Nat.add_one_sub_one, Bool.not_true, Bool.not_false, Bool.not_not, Bool.and_true, Bool.true_and, Bool.and_false, Bool.false_and, Bool.or_true, Bool.true_or, Bool.or_false, Bool.false_or, Bool.false_eq_true, Bool.not_eq_true', decide_true, decide_false, decide_eq_true_eq]
    · simp only [cd__law_rule_e4, PR.d, bind_ok, bind_ex, fl_ok, fl_ex, seq_nx, seq_rt, seq_bk, seq_ct, seq_ex, x_run, fin_nx, fin_rt, fin_ex, exit_none, exit_some, opt_some, d_eVar, d_eMov, d_eInt, d_eStr, d_eBl, d_eNon, d_eGlob, x_q1, x_q2, d_eBin, d_eCmp, d_eIx, chB_b, x_c1, x_c2, x_c4, d_eChain, d_eOne, andB_b, orB_b, d_eAnd, d_eOr, notV_b, d_eNot, x_tupV, x_lstV, d_eTup, d_eLst, x_cbV, d_eCB, retV_ret, retV_ex, retIo_own, retIo_io, x_call0, x_call1, d_eCall, x_isiV, d_eIsi, x_negV, d_eNeg, d_eDicK, d_eDicT, x_sl1, x_sl2, x_sl3, d_eSl, x_o1, d_oNone, d_oSome, x_revV, d_eRevL, x_compV, compFin_ok, d_eComp, d_eCompB, d_ePop, x_valA, d_aVal, d_aRef, d_lNil, x_l1, x_l2, d_lCons, blT_b, d_tE, d_tCmp, d_tChain, d_tW, x_notT, d_tNot, d_wOne, x_andT, x_orT, d_wAnd, d_wOr, d_cNil, d_cOne, itV_l, itV_t, itV_s, d_iIt, d_gNm, d_gTup, x_retS, d_sRet, d_sRetN, x_expS, d_sExp, x_ifS, d_sIf, d_sPass, d_sBrk, d_sCnt, x_asgS, d_sSet, x_tupS, d_sTup, x_appS, d_sApp, x_putS, x_putS2, d_sPut, x_forS, d_sFor, d_sWhile, d_sRaise, hand_nx, hand_rt, hand_ex, d_sTry, d_hNil, d_hCons, hands_nil, hands_cons, noEx_nx, noEx_rt, d_bNil, d_bCons, rho0, fCompB, wipeR, unwipe, sv_no, sv_val, sv_own, AV.ct, slCt, Sl.ct, Sl.od, cts, avVals, x_stOk, pl_no, pl_val, pl_own, slOf, tgAll, k_add, k_sub, k_mul, k_div, k_mod, k_pow, k_eq, k_ne, k_lt, k_le, k_gt, k_ge, k_is, k_isn, k_in, k_nin, isi_non, isi_bl, isi_int, isi_str, isi_lst, isi_tup, isi_dic, add_int, sub_int', lt_int', le_int', gt_int', ge_int', eq_int, ne_int, eq_str, ne_str, is_none, isn_none, is_bool, isn_bool, isNoneD, isBoolD, in_lst, in_tup, nin_lst, nin_tup, in_sgn, nin_sgn, len_lst, len_tup, tup_lst, tup_tup, lst_tup, int_int, x_rg1V, d_iRg1, pow18, ix_t0, ix_t1, ix_t2, ix_t3, ix_l0, sSl, Bf.sem, lk, lkD, deOf, lsAt, reOwn, dcAt, putAt, List.mapIdx_cons, List.mapIdx_nil, List.replicate, List.length_cons, List.length_nil, List.map_cons, List.map_nil, List.cons_append, List.nil_append, List.append_nil, List.set, List.getElem?_cons_zero, List.getElem?_cons_succ, List.getElem?_nil, List.getElem?_map, Option.map_some, Option.map_none, Option.getD_some, Option.getD_none, Option.or_some, Option.none_or, Option.some_or, ↓reduceIte, reduceCtorEq, Option.some.injEq, Nat.zero_add, Nat.reduceAdd, Nat.reduceSub, Nat.reduceLeDiff, Nat.reduceEqDiff, Nat.reduceLT, Nat.sub_self, Nat.add_one_sub_one, Bool.not_true, Bool.not_false, Bool.not_not, Bool.and_true, Bool.true_and, Bool.and_false, Bool.false_and, Bool.or_true, Bool.true_or, Bool.or_false, Bool.false_or, Bool.false_eq_true, Bool.not_eq_true', decide_true, decide_false, decide_eq_true_eq]) (by simp; omega)
  rw [List.nil_append] at h
  rw [h, List.map_map]; rfl
theorem lrc0 : cd__law_rule_c0 = cd__law_rule_c1 := rfl
theorem lre3 : cd__law_rule_e3 = cd__law_rule_e4 := rfl
theorem lr_e0 (us : List PR) (p c : List Str) (ho : ∀ r ∈ us, r.Ok) (hp : Gd p) (hc : Gd c) (a0 a2 a4 a5 a6 : Sl) (hl : us.length ≤ 1000) : compLoop [3] (tgName 3) (den (k := .C) Y__law_rule .cNil) (den Y__law_rule cd__law_rule_e0) (us.map PR.d) [] [a0, .val (csD p c), a2, .no, a4, a5, a6] = .ok (us.map fun r => dif r p c) [a0, .val (csD p c), a2, .no, a4, a5, a6] := by
  have h := comp_pureM (own := [3]) (tgt := tgName 3) (c := den (k := .C) Y__law_rule .cNil) (e := den Y__law_rule cd__law_rule_e0) PR.d (fun _ => true) (fun r => dif r p c) (ρ := [a0, .val (csD p c), a2, .no, a4, a5, a6]) us [] (by
    intro r hr
    have hd := ldif_s r (ho r hr) p c hp hc
    refine ⟨[a0, .val (csD p c), a2, .val r.d, a4, a5, a6], rfl, rfl, rfl, fun _ => ⟨false, [a0, .val (csD p c), a2, .val r.d, a4, a5, a6], ?_, rfl⟩⟩
    simp only [cd__law_rule_e0, m__law_rule, cd__law_rule, ys__law_rule_0, hd, bind_ok, bind_ex, fl_ok, fl_ex, seq_nx, seq_rt, seq_bk, seq_ct, seq_ex, x_run, fin_nx, fin_rt, fin_ex, exit_none, exit_some, opt_some, d_eVar, d_eMov, d_eInt, d_eStr, d_eBl, d_eNon, d_eGlob, x_q1, x_q2, d_eBin, d_eCmp, d_eIx, chB_b, x_c1, x_c2, x_c4, d_eChain, d_eOne, andB_b, orB_b, d_eAnd, d_eOr, notV_b, d_eNot, x_tupV, x_lstV, d_eTup, d_eLst, x_cbV, d_eCB, retV_ret, retV_ex, retIo_own, retIo_io, x_call0, x_call1, d_eCall, x_isiV, d_eIsi, x_negV, d_eNeg, d_eDicK, d_eDicT, x_sl1, x_sl2, x_sl3, d_eSl, x_o1, d_oNone, d_oSome, x_revV, d_eRevL, x_compV, compFin_ok, d_eComp, d_eCompB, d_ePop, x_valA, d_aVal, d_aRef, d_lNil, x_l1, x_l2, d_lCons, blT_b, d_tE, d_tCmp, d_tChain, d_tW, x_notT, d_tNot, d_wOne, x_andT, x_orT, d_wAnd, d_wOr, d_cNil, d_cOne, itV_l, itV_t, itV_s, d_iIt, d_gNm, d_gTup, x_retS, d_sRet, d_sRetN, x_expS, d_sExp, x_ifS, d_sIf, d_sPass, d_sBrk, d_sCnt, x_asgS, d_sSet, x_tupS, d_sTup, x_appS, d_sApp, x_putS, x_putS2, d_sPut, x_forS, d_sFor, d_sWhile, d_sRaise, hand_nx, hand_rt, hand_ex, d_sTry, d_hNil, d_hCons, hands_nil, hands_cons, noEx_nx, noEx_rt, d_bNil, d_bCons, rho0, fCompB, wipeR, unwipe, sv_no, sv_val, sv_own, AV.ct, slCt, Sl.ct, Sl.od, cts, avVals, x_stOk, pl_no, pl_val, pl_own, slOf, tgAll, k_add, k_sub, k_mul, k_div, k_mod, k_pow, k_eq, k_ne, k_lt, k_le, k_gt, k_ge, k_is, k_isn, k_in, k_nin, isi_non, isi_bl, isi_int, isi_str, isi_lst, isi_tup, isi_dic, add_int, sub_int', lt_int', le_int', gt_int', ge_int', eq_int, ne_int, eq_str, ne_str, is_none, isn_none, is_bool, isn_bool, isNoneD, isBoolD, in_lst, in_tup, nin_lst, nin_tup, in_sgn, nin_sgn, len_lst, len_tup, tup_lst, tup_tup, lst_tup, int_int, x_rg1V, d_iRg1, pow18, ix_t0, ix_t1, ix_t2, ix_t3, ix_l0, sSl, Bf.sem, lk, lkD, deOf, lsAt, reOwn, dcAt, putAt, List.mapIdx_cons, List.mapIdx_nil, List.replicate, List.length_cons, List.length_nil, List.map_cons, List.map_nil, List.cons_append, List.nil_append, List.append_nil, List.set, List.getElem?_cons_zero, List.getElem?_cons_succ, List.getElem?_nil, List.getElem?_map, Option.map_some, Option.map_none, Option.getD_some, Option.getD_none, Option.or_some, Option.none_or, Option.some_or, ↓reduceIte, reduceCtorEq, Option.some.injEq, Nat.zero_add, Nat.reduceAdd, Nat.reduceSub, Nat.reduceLeDiff, Nat.reduceEqDiff, Nat.reduceLT, Nat.sub_self, Nat.add_one_sub_one, Bool.not_true, Bool.not_false, Bool.not_not, Bool.and_true, Bool.true_and, Bool.and_false, Bool.false_and, Bool.or_true, Bool.true_or, Bool.or_false, Bool.false_or, Bool.false_eq_true, Bool.not_eq_true', decide_true, decide_false, decide_eq_true_eq]) (by simp; omega)
  have hy : us.filter (fun _ => true) = us := by simp
  rw [List.nil_append, hy] at h
  exact h
theorem lre1 : cd__law_rule_e1 = cd__law_rule_e0 := rfl
theorem lre2 : cd__law_rule_e2 = cd__law_rule_e0 := rfl
theorem law_rule_s (rs : List PR) (p c : List Str) (hl : rs.length ≤ 60) (ho : ∀ r ∈ rs, r.Ok) (hp : Gd p) (hc : Gd c) : m__law_rule [psD rs, csD p c] = .ret (ruleO rs p c) false .none := by
  have e9 : den Y__law_rule (.gNm 3) = tgName 3 := rfl
  have l1 : (ofO 1 rs).length ≤ 1000 := by have := ofO_len 1 rs; omega
  have l2 : (ofO (-1) rs).length ≤ 1000 := by have := ofO_len (-1) rs; omega
  have o1 : ∀ r ∈ ofO 1 rs, r.Ok := fun r hr => ho r (List.mem_filter.mp hr).1
  have o2 : ∀ r ∈ ofO (-1) rs, r.Ok := fun r hr => ho r (List.mem_filter.mp hr).1
  have c3 := fun a1 a2 a4 a5 a6 => lr_c3 rs a1 a2 a4 a5 a6 (by omega)
  have c2 := fun a1 a2 a4 a5 a6 => lr_c2 rs a1 a2 a4 a5 a6 (by omega)
  have cu := fun a0 a2 a4 a5 a6 => lr_c1 (ofO 1 rs) p c o1 hp hc a0 a2 a4 a5 a6 l1
  have cd := fun a0 a2 a4 a5 a6 => lr_c1 (ofO (-1) rs) p c o2 hp hc a0 a2 a4 a5 a6 l2
  have d1 := fun a0 a2 a4 a5 a6 => lr_e0 (ofO 1 rs) p c o1 hp hc a0 a2 a4 a5 a6 l1
  have d2 := fun a0 a2 a4 a5 a6 => lr_e0 (ofO (-1) rs) p c o2 hp hc a0 a2 a4 a5 a6 l2
  have d3 := fun a0 a2 a4 a5 a6 => lr_e0 rs p c ho hp hc a0 a2 a4 a5 a6 (by omega)
  unfold ruleO fb
  rw [← List.head?_filter, ← List.head?_filter]
  cases h1 : (ofO 1 rs).filter (fun r => PV.isNoneD (dif r p c)) with
  | cons u r1 =>
    rw [h1] at cu
    have k1 := ne_map_nil ((u :: r1).map PR.n)
    simp only [List.map_cons, List.isEmpty_cons, Bool.not_false] at k1 cu
    cases h2 : (ofO (-1) rs).filter (fun r => PV.isNoneD (dif r p c)) with
    | cons d r2 =>
      rw [h2] at cd
      have k2 := ne_map_nil ((d :: r2).map PR.n)
      simp only [List.map_cons, List.isEmpty_cons, Bool.not_false] at k2 cd
      simp -implicitDefEqProofs only [m__law_rule, cd__law_rule, ys__law_rule_0, e9, lrc0, lre3, lre1, lre2, c3, c2, cu, cd, k1, k2, List.head?_cons, bind_ok, bind_ex, fl_ok, fl_ex, seq_nx, seq_rt, seq_bk, seq_ct, seq_ex, x_run, fin_nx, fin_rt, fin_ex, exit_none, exit_some, opt_some, d_eVar, d_eMov, d_eInt, d_eStr, d_eBl, d_eNon, d_eGlob, x_q1, x_q2, d_eBin, d_eCmp, d_eIx, chB_b, x_c1, x_c2, x_c4, d_eChain, d_eOne, andB_b, orB_b, d_eAnd, d_eOr, notV_b, d_eNot, x_tupV, x_lstV, d_eTup, d_eLst, x_cbV, d_eCB, retV_ret, retV_ex, retIo_own, retIo_io, x_call0, x_call1, d_eCall, x_isiV, d_eIsi, x_negV, d_eNeg, d_eDicK, d_eDicT, x_sl1, x_sl2, x_sl3, d_eSl, x_o1, d_oNone, d_oSome, x_revV, d_eRevL, x_compV, compFin_ok, d_eComp, d_eCompB, d_ePop, x_valA, d_aVal, d_aRef, d_lNil, x_l1, x_l2, d_lCons, blT_b, d_tE, d_tCmp, d_tChain, d_tW, x_notT, d_tNot, d_wOne, x_andT, x_orT, d_wAnd, d_wOr, d_cNil, d_cOne, itV_l, itV_t, itV_s, d_iIt, d_gNm, d_gTup, x_retS, d_sRet, d_sRetN, x_expS, d_sExp, x_ifS, d_sIf, d_sPass, d_sBrk, d_sCnt, x_asgS, d_sSet, x_tupS, d_sTup, x_appS, d_sApp, x_putS, x_putS2, d_sPut, x_forS, d_sFor, d_sWhile, d_sRaise, hand_nx, hand_rt, hand_ex, d_sTry, d_hNil, d_hCons, hands_nil, hands_cons, noEx_nx, noEx_rt, d_bNil, d_bCons, rho0, fCompB, wipeR, unwipe, sv_no, sv_val, sv_own, AV.ct, slCt, Sl.ct, Sl.od, cts, avVals, x_stOk, pl_no, pl_val, pl_own, slOf, tgAll, k_add, k_sub, k_mul, k_div, k_mod, k_pow, k_eq, k_ne, k_lt, k_le, k_gt, k_ge, k_is, k_isn, k_in, k_nin, isi_non, isi_bl, isi_int, isi_str, isi_lst, isi_tup, isi_dic, add_int, sub_int', lt_int', le_int', gt_int', ge_int', eq_int, ne_int, eq_str, ne_str, is_none, isn_none, is_bool, isn_bool, isNoneD, isBoolD, in_lst, in_tup, nin_lst, nin_tup, in_sgn, nin_sgn, len_lst, len_tup, tup_lst, tup_tup, lst_tup, int_int, x_rg1V, d_iRg1, pow18, ix_t0, ix_t1, ix_t2, ix_t3, ix_l0, sSl, Bf.sem, lk, lkD, deOf, lsAt, reOwn, dcAt, putAt, List.mapIdx_cons, List.mapIdx_nil, List.replicate, List.length_cons, List.length_nil, List.map_cons, List.map_nil, List.cons_append, List.nil_append, List.append_nil, List.set, List.getElem?_cons_zero, List.getElem?_cons_succ, List.getElem?_nil, List.getElem?_map, Option.map_some, Option.map_none, Option.getD_some, Option.getD_none, Option.or_some, Option.none_or, Option.some_or, ↓reduceIte, reduceCtorEq, Option.some.injEq, Nat.zero_add, Nat.reduceAdd, Nat.reduceSub, Nat.reduceLeDiff, Nat.reduceEqDiff, Nat.reduceLT, Nat.sub_self, Nat.add_one_sub_one, Bool.not_true, Bool.not_false, Bool.not_not, Bool.and_true, Bool.true_and, Bool.and_false, Bool.false_and, Bool.or_true, Bool.true_or, Bool.or_false, Bool.false_or, Bool.false_eq_true, Bool.not_eq_true', decide_true, decide_false, decide_eq_true_eq]
    | nil =>
      rw [h2] at cd
      have k2 := ne_map_nil (([] : List PR).map PR.n)
      simp only [List.map_nil, List.isEmpty_nil, Bool.not_true] at k2 cd
      simp -implicitDefEqProofs only [m__law_rule, cd__law_rule, ys__law_rule_0, e9, lrc0, lre3, lre1, lre2, c3, c2, cu, cd, k1, k2, d2, List.head?_cons, List.head?_nil, bind_ok, bind_ex, fl_ok, fl_ex, seq_nx, seq_rt, seq_bk, seq_ct, seq_ex, x_run, fin_nx, fin_rt, fin_ex, exit_none, exit_some, opt_some, d_eVar, d_eMov, d_eInt, d_eStr, d_eBl, d_eNon, d_eGlob, x_q1, x_q2, d_eBin, d_eCmp, d_eIx, chB_b, x_c1, x_c2, x_c4, d_eChain, d_eOne, andB_b, orB_b, d_eAnd, d_eOr, notV_b, d_eNot, x_tupV, x_lstV, d_eTup, d_eLst, x_cbV, d_eCB, retV_ret, retV_ex, retIo_own, retIo_io, x_call0, x_call1, d_eCall, x_isiV, d_eIsi, x_negV, d_eNeg, d_eDicK, d_eDicT, x_sl1, x_sl2, x_sl3, d_eSl, x_o1, d_oNone, d_oSome, x_revV, d_eRevL, x_compV, compFin_ok, d_eComp, d_eCompB, d_ePop, x_valA, d_aVal, d_aRef, d_lNil, x_l1, x_l2, d_lCons, blT_b, d_tE, d_tCmp, d_tChain, d_tW, x_notT, d_tNot, d_wOne, x_andT, x_orT, d_wAnd, d_wOr, d_cNil, d_cOne, itV_l, itV_t, itV_s, d_iIt, d_gNm, d_gTup, x_retS, d_sRet, d_sRetN, x_expS, d_sExp, x_ifS, d_sIf, d_sPass, d_sBrk, d_sCnt, x_asgS, d_sSet, x_tupS, d_sTup, x_appS, d_sApp, x_putS, x_putS2, d_sPut, x_forS, d_sFor, d_sWhile, d_sRaise, hand_nx, hand_rt, hand_ex, d_sTry, d_hNil, d_hCons, hands_nil, hands_cons, noEx_nx, noEx_rt, d_bNil, d_bCons, rho0, fCompB, wipeR, unwipe, sv_no, sv_val, sv_own, AV.ct, slCt, Sl.ct, Sl.od, cts, avVals, x_stOk, pl_no, pl_val, pl_own, slOf, tgAll, k_add, k_sub, k_mul, k_div, k_mod, k_pow, k_eq, k_ne, k_lt, k_le, k_gt, k_ge, k_is, k_isn, k_in, k_nin, isi_non, isi_bl, isi_int, isi_str, isi_lst, isi_tup, isi_dic, add_int, sub_int', lt_int', le_int', gt_int', ge_int', eq_int, ne_int, eq_str, ne_str, is_none, isn_none, is_bool, isn_bool, isNoneD, isBoolD, in_lst, in_tup, nin_lst, nin_tup, in_sgn, nin_sgn, len_lst, len_tup, tup_lst, tup_tup, lst_tup, int_int, x_rg1V, d_iRg1, pow18, ix_t0, ix_t1, ix_t2, ix_t3, ix_l0, sSl, Bf.sem, lk, lkD, deOf, lsAt, reOwn, dcAt, putAt, List.mapIdx_cons, List.mapIdx_nil, List.replicate, List.length_cons, List.length_nil, List.map_cons, List.map_nil, List.cons_append, List.nil_append, List.append_nil, List.set, List.getElem?_cons_zero, List.getElem?_cons_succ, List.getElem?_nil, List.getElem?_map, Option.map_some, Option.map_none, Option.getD_some, Option.getD_none, Option.or_some, Option.none_or, Option.some_or, ↓reduceIte, reduceCtorEq, Option.some.injEq, Nat.zero_add, Nat.reduceAdd, Nat.reduceSub, Nat.reduceLeDiff, Nat.reduceEqDiff, Nat.reduceLT, Nat.sub_self, Nat.add_one_sub_one, Bool.not_true, Bool.not_false, Bool.not_not, Bool.and_true, Bool.true_and, Bool.and_false, Bool.false_and, Bool.or_true, Bool.true_or, Bool.or_false, Bool.false_or, Bool.false_eq_true, Bool.not_eq_true', decide_true, decide_false, decide_eq_true_eq]
  | nil =>
    rw [h1] at cu
    have k1 := ne_map_nil (([] : List PR).map PR.n)
    simp only [List.map_nil, List.isEmpty_nil, Bool.not_true] at k1 cu
    cases h2 : (ofO (-1) rs).filter (fun r => PV.isNoneD (dif r p c)) with
    | cons d r2 =>
      rw [h2] at cd
      have k2 := ne_map_nil ((d :: r2).map PR.n)
      simp only [List.map_cons, List.isEmpty_cons, Bool.not_false] at k2 cd
      simp -implicitDefEqProofs only [m__law_rule, cd__law_rule, ys__law_rule_0, e9, lrc0, lre3, lre1, lre2, c3, c2, cu, cd, k1, k2, d1, List.head?_cons, List.head?_nil, bind_ok, bind_ex, fl_ok, fl_ex, seq_nx, seq_rt, seq_bk, seq_ct, seq_ex, x_run, fin_nx, fin_rt, fin_ex, exit_none, exit_some, opt_some, d_eVar, d_eMov, d_eInt, d_eStr, d_eBl, d_eNon, d_eGlob, x_q1, x_q2, d_eBin, d_eCmp, d_eIx, chB_b, x_c1, x_c2, x_c4, d_eChain, d_eOne, andB_b, orB_b, d_eAnd, d_eOr, notV_b, d_eNot, x_tupV, x_lstV, d_eTup, d_eLst, x_cbV, d_eCB, retV_ret, retV_ex, retIo_own, retIo_io, x_call0, x_call1, d_eCall, x_isiV, d_eIsi, x_negV, d_eNeg, d_eDicK, d_eDicT, x_sl1, x_sl2, x_sl3, d_eSl, x_o1, d_oNone, d_oSome, x_revV, d_eRevL, x_compV, compFin_ok, d_eComp, d_eCompB, d_ePop, x_valA, d_aVal, d_aRef, d_lNil, x_l1, x_l2, d_lCons, blT_b, d_tE, d_tCmp, d_tChain, d_tW, x_notT, d_tNot, d_wOne, x_andT, x_orT, d_wAnd, d_wOr, d_cNil, d_cOne, itV_l, itV_t, itV_s, d_iIt, d_gNm, d_gTup, x_retS, d_sRet, d_sRetN, x_expS, d_sExp, x_ifS, d_sIf, d_sPass, d_sBrk, d_sCnt, x_asgS, d_sSet, x_tupS, d_sTup, x_appS, d_sApp, x_putS, x_putS2, d_sPut, x_forS, d_sFor, d_sWhile, d_sRaise, hand_nx, hand_rt, hand_ex, d_sTry, d_hNil, d_hCons, hands_nil, hands_cons, noEx_nx, noEx_rt, d_bNil, d_bCons, rho0, fCompB, wipeR, unwipe, sv_no, sv_val, sv_own, AV.ct, slCt, Sl.ct, Sl.od, cts, avVals, x_stOk, pl_no, pl_val, pl_own, slOf, tgAll, k_add, k_sub, k_mul, k_div, k_mod, k_pow, k_eq, k_ne, k_lt, k_le, k_gt, k_ge, k_is, k_isn, k_in, k_nin, isi_non, isi_bl, isi_int, isi_str, isi_lst, isi_tup, isi_dic, add_int, sub_int', lt_int', le_int', gt_int', ge_int', eq_int, ne_int, eq_str, ne_str, is_none, isn_none, is_bool, isn_bool, isNoneD, isBoolD, in_lst, in_tup, nin_lst, nin_tup, in_sgn, nin_sgn, len_lst, len_tup, tup_lst, tup_tup, lst_tup, int_int, x_rg1V, d_iRg1, pow18, ix_t0, ix_t1, ix_t2, ix_t3, ix_l0, sSl, Bf.sem, lk, lkD, deOf, lsAt, reOwn, dcAt, putAt, List.mapIdx_cons, List.mapIdx_nil, List.replicate, List.length_cons, List.length_nil, List.map_cons, List.map_nil, List.cons_append, List.nil_append, List.append_nil, List.set, List.getElem?_cons_zero, List.getElem?_cons_succ, List.getElem?_nil, List.getElem?_map, Option.map_some, Option.map_none, Option.getD_some, Option.getD_none, Option.or_some, Option.none_or, Option.some_or, ↓reduceIte, reduceCtorEq, Option.some.injEq, Nat.zero_add, Nat.reduceAdd, Nat.reduceSub, Nat.reduceLeDiff, Nat.reduceEqDiff, Nat.reduceLT, Nat.sub_self, Nat.add_one_sub_one, Bool.not_true, Bool.not_false, Bool.not_not, Bool.and_true, Bool.true_and, Bool.and_false, Bool.false_and, Bool.or_true, Bool.true_or, Bool.or_false, Bool.false_or, Bool.false_eq_true, Bool.not_eq_true', decide_true, decide_false, decide_eq_true_eq]
    | nil =>
      rw [h2] at cd
      simp -implicitDefEqProofs only [m__law_rule, cd__law_rule, ys__law_rule_0, e9, lrc0, lre3, lre1, lre2, c3, c2, cu, cd, k1, d3, List.head?_cons, List.head?_nil, bind_ok, bind_ex, fl_ok, fl_ex, seq_nx, seq_rt, seq_bk, seq_ct, seq_ex, x_run, fin_nx, fin_rt, fin_ex, exit_none, exit_some, opt_some, d_eVar, d_eMov, d_eInt, d_eStr, d_eBl, d_eNon, d_eGlob, x_q1, x_q2, d_eBin, d_eCmp, d_eIx, chB_b, x_c1, x_c2, x_c4, d_eChain, d_eOne, andB_b, orB_b, d_eAnd, d_eOr, notV_b, d_eNot, x_tupV, x_lstV, d_eTup, d_eLst, x_cbV, d_eCB, retV_ret, retV_ex, retIo_own, retIo_io, x_call0, x_call1, d_eCall, x_isiV, d_eIsi, x_negV, d_eNeg, d_eDicK, d_eDicT, x_sl1, x_sl2, x_sl3, d_eSl, x_o1, d_oNone, d_oSome, x_revV, d_eRevL, x_compV, compFin_ok, d_eComp, d_eCompB, d_ePop, x_valA, d_aVal, d_aRef, d_lNil, x_l1, x_l2, d_lCons, blT_b, d_tE, d_tCmp, d_tChain, d_tW, x_notT, d_tNot, d_wOne, x_andT, x_orT, d_wAnd, d_wOr, d_cNil, d_cOne, itV_l, itV_t, itV_s, d_iIt, d_gNm, d_gTup, x_retS, d_sRet, d_sRetN, x_expS, d_sExp, x_ifS, d_sIf, d_sPass, d_sBrk, d_sCnt, x_asgS, d_sSet, x_tupS, d_sTup, x_appS, d_sApp, x_putS, x_putS2, d_sPut, x_forS, d_sFor, d_sWhile, d_sRaise, hand_nx, hand_rt, hand_ex, d_sTry, d_hNil, d_hCons, hands_nil, hands_cons, noEx_nx, noEx_rt, d_bNil, d_bCons, rho0, fCompB, wipeR, unwipe, sv_no, sv_val, sv_own, AV.ct, slCt, Sl.ct, Sl.od, cts, avVals, x_stOk, pl_no, pl_val, pl_own, slOf, tgAll, k_add, k_sub, k_mul, k_div, k_mod, k_pow, k_eq, k_ne, k_lt, k_le, k_gt, k_ge, k_is, k_isn, k_in, k_nin, isi_non, isi_bl, isi_int, isi_str, isi_lst, isi_tup, isi_dic, add_int, sub_int', lt_int', le_int', gt_int', ge_int', eq_int, ne_int, eq_str, ne_str, is_none, isn_none, is_bool, isn_bool, isNoneD, isBoolD, in_lst, in_tup, nin_lst, nin_tup, in_sgn, nin_sgn, len_lst, len_tup, tup_lst, tup_tup, lst_tup, int_int, x_rg1V, d_iRg1, pow18, ix_t0, ix_t1, ix_t2, ix_t3, ix_l0, sSl, Bf.sem, lk, lkD, deOf, lsAt, reOwn, dcAt, putAt, List.mapIdx_cons, List.mapIdx_nil, List.replicate, List.length_cons, List.length_nil, List.map_cons, List.map_nil, List.cons_append, List.nil_append, List.append_nil, List.set, List.getElem?_cons_zero, List.getElem?_cons_succ, List.getElem?_nil, List.getElem?_map, Option.map_some, Option.map_none, Option.getD_some, Option.getD_none, Option.or_some, Option.none_or, Option.some_or, ↓reduceIte, reduceCtorEq, Option.some.injEq, Nat.zero_add, Nat.reduceAdd, Nat.reduceSub, Nat.reduceLeDiff, Nat.reduceEqDiff, Nat.reduceLT, Nat.sub_self, Nat.add_one_sub_one, Bool.not_true, Bool.not_false, Bool.not_not, Bool.and_true, Bool.true_and, Bool.and_false, Bool.false_and, Bool.or_true, Bool.true_or, Bool.or_false, Bool.false_or, Bool.false_eq_true, Bool.not_eq_true', decide_true, decide_false, decide_eq_true_eq]
/-! what rule says is of one's own kind -/
theorem okS_str (n : Nat) (s : Str) : okS (n + 1) (.str s) = true := rfl
theorem dif_ok (n : Nat) (r : PR) (p c : List Str) : okS (n + 2) (dif r p c) = true := by
  unfold dif
  unfold diffO
  rcases firstO_is (swp r.o r.p r.c).1 (swp r.o p c).1 with e | ⟨w, e⟩
  · rw [e]
    rcases firstO_is (swp r.o p c).2 (swp r.o r.p r.c).2 with e2 | ⟨w, e2⟩
    · rw [e2]; rfl
    · rw [e2]; rfl
  · rw [e]; rfl
theorem difs_ok (n : Nat) (rs : List PR) (p c : List Str) (hl : rs.length ≤ 1000) : okS (n + 3) (.tuple (rs.map fun r => dif r p c)) = true := by
  show (decide ((rs.map fun r => dif r p c).length < 1000000) && (rs.map fun r => dif r p c).all (okS (n + 2))) = true
  rw [Bool.and_eq_true, decide_eq_true_eq, List.all_eq_true]
  refine ⟨by rw [List.length_map]; omega, fun d hd => ?_⟩
  obtain ⟨r, _, rfl⟩ := List.mem_map.mp hd
  exact dif_ok n r p c
theorem okS_tup (n : Nat) (l : List D) (h : l.length ≤ 10) (ha : ∀ d ∈ l, okS n d = true) : okS (n + 1) (.tuple l) = true := by
  show (decide (l.length < 1000000) && l.all (okS n)) = true
  rw [Bool.and_eq_true, decide_eq_true_eq, List.all_eq_true]
  exact ⟨by omega, ha⟩
theorem ruleO_ok (rs : List PR) (p c : List Str) (hl : rs.length ≤ 60) : okS 8 (ruleO rs p c) = true := by
  have l1 := ofO_len 1 rs
  have l2 := ofO_len (-1) rs
  have k1 := difs_ok 3 (ofO 1 rs) p c (by omega)
  have k2 := difs_ok 3 (ofO (-1) rs) p c (by omega)
  have k3 := difs_ok 3 rs p c (by omega)
  have two : ∀ a b : D, okS 7 a = true → okS 7 b = true → okS 8 (.tuple [a, b]) = true := fun a b ha hb => okS_tup 7 _ (by simp) fun d hd => by
    simp only [List.mem_cons, List.not_mem_nil, or_false] at hd
    rcases hd with rfl | rfl
    · exact ha
    · exact hb
  have two' : ∀ a b : D, okS 6 a = true → okS 6 b = true → okS 7 (.tuple [a, b]) = true := fun a b ha hb => okS_tup 6 _ (by simp) fun d hd => by
    simp only [List.mem_cons, List.not_mem_nil, or_false] at hd
    rcases hd with rfl | rfl
    · exact ha
    · exact hb
  have one' : ∀ a : D, okS 6 a = true → okS 7 (.tuple [a]) = true := fun a ha => okS_tup 6 _ (by simp) fun d hd => by
    simp only [List.mem_cons, List.not_mem_nil, or_false] at hd
    rw [hd]; exact ha
  unfold ruleO
  split
  · exact two _ _ rfl (two' _ _ rfl rfl)
  · exact two _ _ rfl (two' _ _ rfl k2)
  · exact two _ _ rfl (two' _ _ rfl k1)
  · exact two _ _ rfl (one' _ k3)
end PV.Lw
namespace PV.Lw
open PySem L2 PV

/-- chosen from the words -/
structure Among (ws l : List Str) : Prop where
  nd : l.Nodup
  sub : ∀ x ∈ l, x ∈ ws
theorem Among.len {ws l : List Str} (h : Among ws l) : l.length ≤ ws.length := nodup_le h.nd h.sub
theorem Among.sl {ws l m : List Str} (h : Among ws l) (s : m.Sublist l) : Among ws m := ⟨h.nd.sublist s, fun x hx => h.sub x (s.subset hx)⟩
theorem Among.perm {ws l m : List Str} (h : Among ws l) (s : m.Perm l) : Among ws m := ⟨s.symm.nodup h.nd, fun x hx => h.sub x (s.mem_iff.mp hx)⟩
theorem Among.gd {ws l : List Str} (h : Among ws l) (hl : ws.length ≤ 12) (hw : ∀ w ∈ ws, wordB w = true) : Gd l := ⟨h.nd, fun x hx => hw x (h.sub x hx), Nat.le_trans h.len hl⟩
theorem ix_strs {ws : List Str} {i : Int} (h0 : 0 ≤ i) (h1 : i < ws.length) : ∃ w, w ∈ ws ∧ bIx (PyData.list (List.map PyData.str ws)) (.int i) = some (.str w, false) := by
  obtain ⟨n, rfl⟩ : ∃ n : Nat, i = (n : Int) := ⟨i.toNat, by omega⟩
  have hn : n < ws.length := by omega
  refine ⟨ws[n], List.getElem_mem hn, ix_lst ?_⟩
  rw [List.getElem?_map, List.getElem?_eq_getElem hn]; rfl
end PV.Lw
namespace PV.Lw
open PySem L2 PV

/-! _law_side -/
theorem rnd_side (a1 : Sl) (A : List Str) (hl : A.length ≤ 1000) (ps : List Int) : ∃ (out : List Str) (ps' : List Int), compLoop [2] (tgName 2) (den (k := .C) Y__law_side cd__law_side_c0) (den Y__law_side cd__law_side_e0) (A.map PyData.str) [] [.io (PyData.list (List.map PyData.int ps)), a1, .no] = .ok (out.map PyData.str) [.io (PyData.list (List.map PyData.int ps')), a1, .no] ∧ out.Sublist A := by
  obtain ⟨out, ρ', h1, h2, ps', h3⟩ := comp_inv (own := [2]) (tgt := tgName 2) (c := den (k := .C) Y__law_side cd__law_side_c0) (e := den Y__law_side cd__law_side_e0) (fun ρ => ∃ ps : List Int, ρ = [.io (PyData.list (List.map PyData.int ps)), a1, .no]) (A.map PyData.str) [] _ ⟨ps, rfl⟩ (by
    intro d ρ hd hI
    obtain ⟨ps, rfl⟩ := hI
    obtain ⟨r, ps2, t1, t2, t3⟩ := take_s ps 2 (by decide)
    refine ⟨[.io (PyData.list (List.map PyData.int ps)), a1, .val d], decide (r = 1), [.io (PyData.list (List.map PyData.int ps2)), a1, .val d], rfl, ?_, fun _ => ⟨ps2, rfl⟩, fun _ => ⟨false, [.io (PyData.list (List.map PyData.int ps2)), a1, .val d], ?_, ⟨ps2, rfl⟩⟩⟩
    · simp only [cd__law_side_c0, m__law_side, cd__law_side, ys__law_side_0, ys__law_side_1, t1, bind_ok, bind_ex, fl_ok, fl_ex, seq_nx, seq_rt, seq_bk, seq_ct, seq_ex, x_run, fin_nx, fin_rt, fin_ex, exit_none, exit_some, opt_some, d_eVar, d_eMov, d_eInt, d_eStr, d_eBl, d_eNon, d_eGlob, x_q1, x_q2, d_eBin, d_eCmp, d_eIx, chB_b, x_c1, x_c2, x_c4, d_eChain, d_eOne, andB_b, orB_b, d_eAnd, d_eOr, notV_b, d_eNot, x_tupV, x_lstV, d_eTup, d_eLst, x_cbV, d_eCB, retV_ret, retV_ex, retIo_own, retIo_io, x_call0, x_call1, d_eCall, x_isiV, d_eIsi, x_negV, d_eNeg, d_eDicK, d_eDicT, x_sl1, x_sl2, x_sl3, d_eSl, x_o1, d_oNone, d_oSome, x_revV, d_eRevL, x_compV, compFin_ok, d_eComp, d_eCompB, d_ePop, x_valA, d_aVal, d_aRef, d_lNil, x_l1, x_l2, d_lCons, blT_b, d_tE, d_tCmp, d_tChain, d_tW, x_notT, d_tNot, d_wOne, x_andT, x_orT, d_wAnd, d_wOr, d_cNil, d_cOne, itV_l, itV_t, itV_s, d_iIt, d_gNm, d_gTup, x_retS, d_sRet, d_sRetN, x_expS, d_sExp, x_ifS, d_sIf, d_sPass, d_sBrk, d_sCnt, x_asgS, d_sSet, x_tupS, d_sTup, x_appS, d_sApp, x_putS, x_putS2, d_sPut, x_forS, d_sFor, d_sWhile, d_sRaise, hand_nx, hand_rt, hand_ex, d_sTry, d_hNil, d_hCons, hands_nil, hands_cons, noEx_nx, noEx_rt, d_bNil, d_bCons, rho0, fCompB, wipeR, unwipe, sv_no, sv_val, sv_own, AV.ct, slCt, Sl.ct, Sl.od, cts, avVals, x_stOk, pl_no, pl_val, pl_own, slOf, tgAll, k_add, k_sub, k_mul, k_div, k_mod, k_pow, k_eq, k_ne, k_lt, k_le, k_gt, k_ge, k_is, k_isn, k_in, k_nin, isi_non, isi_bl, isi_int, isi_str, isi_lst, isi_tup, isi_dic, add_int, sub_int', lt_int', le_int', gt_int', ge_int', eq_int, ne_int, eq_str, ne_str, is_none, isn_none, is_bool, isn_bool, isNoneD, isBoolD, in_lst, in_tup, nin_lst, nin_tup, in_sgn, nin_sgn, len_lst, len_tup, tup_lst, tup_tup, lst_tup, int_int, x_rg1V, d_iRg1, pow18, ix_t0, ix_t1, ix_t2, ix_t3, ix_l0, sSl, Bf.sem, lk, lkD, deOf, lsAt, reOwn, dcAt, putAt, List.mapIdx_cons, List.mapIdx_nil, List.replicate, List.length_cons, List.length_nil, List.map_cons, List.map_nil, List.cons_append, List.nil_append, List.append_nil, List.set, List.getElem?_cons_zero, List.getElem?_cons_succ, List.getElem?_nil, List.getElem?_map, Option.map_some, Option.map_none, Option.getD_some, Option.getD_none, Option.or_some, Option.none_or, Option.some_or, ↓reduceIte, reduceCtorEq, Option.some.injEq, Nat.zero_add, Nat.reduceAdd, Nat.reduceSub, Nat.reduceLeDiff, Nat.reduceEqDiff, Nat.reduceLT, Nat.sub_self, Nat.add_one_sub_one, Bool.not_true, Bool.not_false, Bool.not_not, Bool.and_true, Bool.true_and, Bool.and_false, Bool.false_and, Bool.or_true, Bool.true_or, Bool.or_false, Bool.false_or, Bool.false_eq_true, Bool.not_eq_true', decide_true, decide_false, decide_eq_true_eq]
    · simp only [cd__law_side_e0, m__law_side, cd__law_side, ys__law_side_0, ys__law_side_1, bind_ok, bind_ex, fl_ok, fl_ex, seq_nx, seq_rt, seq_bk, seq_ct, seq_ex, x_run, fin_nx, fin_rt, fin_ex, exit_none, exit_some, opt_some, d_eVar, d_eMov, d_eInt, d_eStr, d_eBl, d_eNon, d_eGlob, x_q1, x_q2, d_eBin, d_eCmp, d_eIx, chB_b, x_c1, x_c2, x_c4, d_eChain, d_eOne, andB_b, orB_b, d_eAnd, d_eOr, notV_b, d_eNot, x_tupV, x_lstV, d_eTup, d_eLst, x_cbV, d_eCB, retV_ret, retV_ex, retIo_own, retIo_io, x_call0, x_call1, d_eCall, x_isiV, d_eIsi, x_negV, d_eNeg, d_eDicK, d_eDicT, x_sl1, x_sl2, x_sl3, d_eSl, x_o1, d_oNone, d_oSome, x_revV, d_eRevL, x_compV, compFin_ok, d_eComp, d_eCompB, d_ePop, x_valA, d_aVal, d_aRef, d_lNil, x_l1, x_l2, d_lCons, blT_b, d_tE, d_tCmp, d_tChain, d_tW, x_notT, d_tNot, d_wOne, x_andT, x_orT, d_wAnd, d_wOr, d_cNil, d_cOne, itV_l, itV_t, itV_s, d_iIt, d_gNm, d_gTup, x_retS, d_sRet, d_sRetN, x_expS, d_sExp, x_ifS, d_sIf, d_sPass, d_sBrk, d_sCnt, x_asgS, d_sSet, x_tupS, d_sTup, x_appS, d_sApp, x_putS, x_putS2, d_sPut, x_forS, d_sFor, d_sWhile, d_sRaise, hand_nx, hand_rt, hand_ex, d_sTry, d_hNil, d_hCons, hands_nil, hands_cons, noEx_nx, noEx_rt, d_bNil, d_bCons, rho0, fCompB, wipeR, unwipe, sv_no, sv_val, sv_own, AV.ct, slCt, Sl.ct, Sl.od, cts, avVals, x_stOk, pl_no, pl_val, pl_own, slOf, tgAll, k_add, k_sub, k_mul, k_div, k_mod, k_pow, k_eq, k_ne, k_lt, k_le, k_gt, k_ge, k_is, k_isn, k_in, k_nin, isi_non, isi_bl, isi_int, isi_str, isi_lst, isi_tup, isi_dic, add_int, sub_int', lt_int', le_int', gt_int', ge_int', eq_int, ne_int, eq_str, ne_str, is_none, isn_none, is_bool, isn_bool, isNoneD, isBoolD, in_lst, in_tup, nin_lst, nin_tup, in_sgn, nin_sgn, len_lst, len_tup, tup_lst, tup_tup, lst_tup, int_int, x_rg1V, d_iRg1, pow18, ix_t0, ix_t1, ix_t2, ix_t3, ix_l0, sSl, Bf.sem, lk, lkD, deOf, lsAt, reOwn, dcAt, putAt, List.mapIdx_cons, List.mapIdx_nil, List.replicate, List.length_cons, List.length_nil, List.map_cons, List.map_nil, List.cons_append, List.nil_append, List.append_nil, List.set, List.getElem?_cons_zero, List.getElem?_cons_succ, List.getElem?_nil, List.getElem?_map, Option.map_some, Option.map_none, Option.getD_some, Option.getD_none, Option.or_some, Option.none_or, Option.some_or, ↓reduceIte, reduceCtorEq, Option.some.injEq, Nat.zero_add, Nat.reduceAdd, Nat.reduceSub, Nat.reduceLeDiff, Nat.reduceEqDiff, Nat.reduceLT, Nat.sub_self, Nat.add_one_sub_one, Bool.not_true, Bool.not_false, Bool.not_not, Bool.and_true, Bool.true_and, Bool.and_false, Bool.false_and, Bool.or_true, Bool.true_or, Bool.or_false, Bool.false_or, Bool.false_eq_true, Bool.not_eq_true', decide_true, decide_false, decide_eq_true_eq]) (by simp; omega)
  obtain ⟨vs, rfl, h4⟩ := sub_map h2
  rw [List.nil_append] at h1
  rw [h3] at h1
  exact ⟨vs, ps', h1, h4⟩
theorem side_s (ps : List Int) (ws : List Str) (hw : ws.Nodup) (hl : ws.length ≤ 1000) : ∃ (l : List Str) (ps' : List Int), m__law_side [(PyData.list (List.map PyData.int ps)), (PyData.list (List.map PyData.str ws))] = .ret (PyData.tuple (List.map PyData.str l)) false (PyData.list (List.map PyData.int ps')) ∧ Among ws l := by
  have e2 : den Y__law_side (.gNm 2) = tgName 2 := rfl
  obtain ⟨A, ps1, c1, c2⟩ := rnd_side (.val (PyData.list (List.map PyData.str ws))) ws hl ps
  have am : Among ws ws := ⟨hw, fun x hx => hx⟩
  have aA := am.sl c2
  have lA := aA.len
  obtain ⟨l, ps2, t1, t2⟩ := turn_s ps1 A (by omega)
  refine ⟨l, ps2, ?_, aA.perm t2⟩
  simp only [m__law_side, cd__law_side, ys__law_side_0, ys__law_side_1, e2, c1, t1, bind_ok, bind_ex, fl_ok, fl_ex, seq_nx, seq_rt, seq_bk, seq_ct, seq_ex, x_run, fin_nx, fin_rt, fin_ex, exit_none, exit_some, opt_some, d_eVar, d_eMov, d_eInt, d_eStr, d_eBl, d_eNon, d_eGlob, x_q1, x_q2, d_eBin, d_eCmp, d_eIx, chB_b, x_c1, x_c2, x_c4, d_eChain, d_eOne, andB_b, orB_b, d_eAnd, d_eOr, notV_b, d_eNot, x_tupV, x_lstV, d_eTup, d_eLst, x_cbV, d_eCB, retV_ret, retV_ex, retIo_own, retIo_io, x_call0, x_call1, d_eCall, x_isiV, d_eIsi, x_negV, d_eNeg, d_eDicK, d_eDicT, x_sl1, x_sl2, x_sl3, d_eSl, x_o1, d_oNone, d_oSome, x_revV, d_eRevL, x_compV, compFin_ok, d_eComp, d_eCompB, d_ePop, x_valA, d_aVal, d_aRef, d_lNil, x_l1, x_l2, d_lCons, blT_b, d_tE, d_tCmp, d_tChain, d_tW, x_notT, d_tNot, d_wOne, x_andT, x_orT, d_wAnd, d_wOr, d_cNil, d_cOne, itV_l, itV_t, itV_s, d_iIt, d_gNm, d_gTup, x_retS, d_sRet, d_sRetN, x_expS, d_sExp, x_ifS, d_sIf, d_sPass, d_sBrk, d_sCnt, x_asgS, d_sSet, x_tupS, d_sTup, x_appS, d_sApp, x_putS, x_putS2, d_sPut, x_forS, d_sFor, d_sWhile, d_sRaise, hand_nx, hand_rt, hand_ex, d_sTry, d_hNil, d_hCons, hands_nil, hands_cons, noEx_nx, noEx_rt, d_bNil, d_bCons, rho0, fCompB, wipeR, unwipe, sv_no, sv_val, sv_own, AV.ct, slCt, Sl.ct, Sl.od, cts, avVals, x_stOk, pl_no, pl_val, pl_own, slOf, tgAll, k_add, k_sub, k_mul, k_div, k_mod, k_pow, k_eq, k_ne, k_lt, k_le, k_gt, k_ge, k_is, k_isn, k_in, k_nin, isi_non, isi_bl, isi_int, isi_str, isi_lst, isi_tup, isi_dic, add_int, sub_int', lt_int', le_int', gt_int', ge_int', eq_int, ne_int, eq_str, ne_str, is_none, isn_none, is_bool, isn_bool, isNoneD, isBoolD, in_lst, in_tup, nin_lst, nin_tup, in_sgn, nin_sgn, len_lst, len_tup, tup_lst, tup_tup, lst_tup, int_int, x_rg1V, d_iRg1, pow18, ix_t0, ix_t1, ix_t2, ix_t3, ix_l0, sSl, Bf.sem, lk, lkD, deOf, lsAt, reOwn, dcAt, putAt, List.mapIdx_cons, List.mapIdx_nil, List.replicate, List.length_cons, List.length_nil, List.map_cons, List.map_nil, List.cons_append, List.nil_append, List.append_nil, List.set, List.getElem?_cons_zero, List.getElem?_cons_succ, List.getElem?_nil, List.getElem?_map, Option.map_some, Option.map_none, Option.getD_some, Option.getD_none, Option.or_some, Option.none_or, Option.some_or, ↓reduceIte, reduceCtorEq, Option.some.injEq, Nat.zero_add, Nat.reduceAdd, Nat.reduceSub, Nat.reduceLeDiff, Nat.reduceEqDiff, Nat.reduceLT, Nat.sub_self, Nat.add_one_sub_one, Bool.not_true, Bool.not_false, Bool.not_not, Bool.and_true, Bool.true_and, Bool.and_false, Bool.false_and, Bool.or_true, Bool.true_or, Bool.or_false, Bool.false_or, Bool.false_eq_true, Bool.not_eq_true', decide_true, decide_false, decide_eq_true_eq]
end PV.Lw
namespace PV.Lw
open PySem L2 PV

/-! _law_ids -/
abbrev sN (j : Nat) : Str := Str.ofString (toString (Int.ofNat j))
def num (l : List Nat) : Nat := l.foldl (fun a c => a * 10 + (c - 48)) 0
theorem sN_ok : ∀ j : Fin 200, (Int.ofNat j.val).natAbs.log2 < 1920 ∧ (sN j.val).length ≤ 3 ∧ (sN j.val).cps.toList.all okC = true ∧ num (sN j.val).cps.toList = j.val := by decide +kernel
def idnum (w : Str) : Nat := num (w.cps.toList.drop 1)
theorem idn (c j : Nat) (hj : j < 200) : idnum (⟨#[c]⟩ ++ sN j) = j := by
  unfold idnum
  rw [app_list, one_list]
  exact (sN_ok ⟨j, hj⟩).2.2.2
theorem idw {c : Nat} (hc : c ∈ LET) (j : Nat) (hj : j < 200) : wordB (⟨#[c]⟩ ++ sN j) = true := by
  obtain ⟨_, h1, h2, _⟩ := sN_ok ⟨j, hj⟩
  have h1' : (sN j).length ≤ 3 := h1
  have h2' : (sN j).cps.toList.all okC = true := h2
  have w := WP.one hc
  refine WP.wordB (n := 1 + (sN j).length) ⟨by rw [app_len, one_len], ?_, ?_⟩ (by omega) (by omega)
  · rw [app_list]; exact okF_app w.f
  · rw [app_list, List.all_append, w.a, h2']; rfl
theorem ids_s (ps : List Int) (n : Int) (h0 : 0 ≤ n) (hn : n ≤ 60) : ∃ (ids : List Str) (ps' : List Int), m__law_ids [(PyData.list (List.map PyData.int ps)), .int n] = .ret (PyData.list (List.map PyData.str ids)) true (PyData.list (List.map PyData.int ps')) ∧ ids.map idnum = List.range n.toNat ∧ ∀ w ∈ ids, wordB w = true := by
  have e4 : den Y__law_ids (.gNm 4) = tgName 4 := rfl
  have hmr : (n < 1000000 ∧ (-1000000 : Int) < n) := ⟨by omega, by omega⟩
  obtain ⟨ρ', h1, h2⟩ := for_inv (tgt := tgName 4) (body := den (k := .B) Y__law_ids cd__law_ids_b0) (fun k ρ => ∃ (ps : List Int) (ids : List Str) (s4 s5 : Sl), ρ = [.io (PyData.list (List.map PyData.int ps)), .val (.int n), .val (.str zL), .own (PyData.list (List.map PyData.str ids)), s4, s5] ∧ ids.map idnum = List.range k ∧ (∀ w ∈ ids, wordB w = true) ∧ pl s4 = true ∧ pl s5 = true) (rgD 0 n) 0 [.io (PyData.list (List.map PyData.int ps)), .val (.int n), .val (.str zL), .own (.list []), .no, .no] ⟨ps, [], .no, .no, rfl, rfl, fun _ h => (by cases h), rfl, rfl⟩ (by
    intro j d ρ hd hI
    obtain ⟨ps, ids, s4, s5, rfl, i1, i2, i3, i4⟩ := hI
    obtain ⟨rfl, hj⟩ := rg_get hd
    have hj2 : j < 200 := by omega
    obtain ⟨r, ps1, t1, t2, t3⟩ := take_s ps 26 (by decide)
    obtain ⟨c, hc, hix⟩ := ix_str (z := zL) (i := r) (by rw [zL_len]; decide) t2 (by rw [zL_len]; exact t3)
    obtain ⟨f1, f2, _, _⟩ := sN_ok ⟨j, hj2⟩
    have e : (0 : Int) + (j : Int) = Int.ofNat j := by rw [Int.zero_add]; rfl
    have c1 : cStr [.int (Int.ofNat j)] = some (.str (sN j), false) := if_pos f1
    have c2 : bAdd (.str ⟨#[c]⟩) (.str (sN j)) = some (.str (⟨#[c]⟩ ++ sN j), false) := add_str (by rw [one_len]; have : (sN j).length ≤ 3 := f2; omega)
    have wk := idw hc j hj2
    have nk := idn c j hj2
    generalize hu : ((⟨#[c]⟩ : Str) ++ sN j) = u at wk nk c2
    have il : ids.length = 0 + j := by have := congrArg List.length i1; simpa using this
    have happ : (ids.map PyData.str).length < 1000000 := by rw [List.length_map]; omega
    rw [e]
    refine ⟨[.io (PyData.list (List.map PyData.int ps)), .val (.int n), .val (.str zL), .own (PyData.list (List.map PyData.str ids)), .val (.int (Int.ofNat j)), s5], [.io (PyData.list (List.map PyData.int ps1)), .val (.int n), .val (.str zL), .own (PyData.list (List.map PyData.str (ids ++ [u]))), .val (.int (Int.ofNat j)), .val (.str ⟨#[c]⟩)], ?_, ?_, ps1, ids ++ [u], _, _, rfl, ?_, ?_, rfl, rfl⟩
    · simp only [tgName, i3, bind_ok, bind_ex, fl_ok, fl_ex, seq_nx, seq_rt, seq_bk, seq_ct, seq_ex, x_run, fin_nx, fin_rt, fin_ex, exit_none, exit_some, opt_some, d_eVar, d_eMov, d_eInt, d_eStr, d_eBl, d_eNon, d_eGlob, x_q1, x_q2, d_eBin, d_eCmp, d_eIx, chB_b, x_c1, x_c2, x_c4, d_eChain, d_eOne, andB_b, orB_b, d_eAnd, d_eOr, notV_b, d_eNot, x_tupV, x_lstV, d_eTup, d_eLst, x_cbV, d_eCB, retV_ret, retV_ex, retIo_own, retIo_io, x_call0, x_call1, d_eCall, x_isiV, d_eIsi, x_negV, d_eNeg, d_eDicK, d_eDicT, x_sl1, x_sl2, x_sl3, d_eSl, x_o1, d_oNone, d_oSome, x_revV, d_eRevL, x_compV, compFin_ok, d_eComp, d_eCompB, d_ePop, x_valA, d_aVal, d_aRef, d_lNil, x_l1, x_l2, d_lCons, blT_b, d_tE, d_tCmp, d_tChain, d_tW, x_notT, d_tNot, d_wOne, x_andT, x_orT, d_wAnd, d_wOr, d_cNil, d_cOne, itV_l, itV_t, itV_s, d_iIt, d_gNm, d_gTup, x_retS, d_sRet, d_sRetN, x_expS, d_sExp, x_ifS, d_sIf, d_sPass, d_sBrk, d_sCnt, x_asgS, d_sSet, x_tupS, d_sTup, x_appS, d_sApp, x_putS, x_putS2, d_sPut, x_forS, d_sFor, d_sWhile, d_sRaise, hand_nx, hand_rt, hand_ex, d_sTry, d_hNil, d_hCons, hands_nil, hands_cons, noEx_nx, noEx_rt, d_bNil, d_bCons, rho0, fCompB, wipeR, unwipe, sv_no, sv_val, sv_own, AV.ct, slCt, Sl.ct, Sl.od, cts, avVals, x_stOk, pl_no, pl_val, pl_own, slOf, tgAll, k_add, k_sub, k_mul, k_div, k_mod, k_pow, k_eq, k_ne, k_lt, k_le, k_gt, k_ge, k_is, k_isn, k_in, k_nin, isi_non, isi_bl, isi_int, isi_str, isi_lst, isi_tup, isi_dic, add_int, sub_int', lt_int', le_int', gt_int', ge_int', eq_int, ne_int, eq_str, ne_str, is_none, isn_none, is_bool, isn_bool, isNoneD, isBoolD, in_lst, in_tup, nin_lst, nin_tup, in_sgn, nin_sgn, len_lst, len_tup, tup_lst, tup_tup, lst_tup, int_int, x_rg1V, d_iRg1, pow18, ix_t0, ix_t1, ix_t2, ix_t3, ix_l0, sSl, Bf.sem, lk, lkD, deOf, lsAt, reOwn, dcAt, putAt, List.mapIdx_cons, List.mapIdx_nil, List.replicate, List.length_cons, List.length_nil, List.map_cons, List.map_nil, List.cons_append, List.nil_append, List.append_nil, List.set, List.getElem?_cons_zero, List.getElem?_cons_succ, List.getElem?_nil, List.getElem?_map, Option.map_some, Option.map_none, Option.getD_some, Option.getD_none, Option.or_some, Option.none_or, Option.some_or, ↓reduceIte, reduceCtorEq, Option.some.injEq, Nat.zero_add, Nat.reduceAdd, Nat.reduceSub, Nat.reduceLeDiff, Nat.reduceEqDiff, Nat.reduceLT, Nat.sub_self, Nat.add_one_sub_one, Bool.not_true, Bool.not_false, Bool.not_not, Bool.and_true, Bool.true_and, Bool.and_false, Bool.false_and, Bool.or_true, Bool.true_or, Bool.or_false, Bool.false_or, Bool.false_eq_true, Bool.not_eq_true', decide_true, decide_false, decide_eq_true_eq]
    · simp only [cd__law_ids_b0, m__law_ids, cd__law_ids, ys__law_ids_0, t1, hix, c1, c2, i4, happ, snoc_str, bind_ok, bind_ex, fl_ok, fl_ex, seq_nx, seq_rt, seq_bk, seq_ct, seq_ex, x_run, fin_nx, fin_rt, fin_ex, exit_none, exit_some, opt_some, d_eVar, d_eMov, d_eInt, d_eStr, d_eBl, d_eNon, d_eGlob, x_q1, x_q2, d_eBin, d_eCmp, d_eIx, chB_b, x_c1, x_c2, x_c4, d_eChain, d_eOne, andB_b, orB_b, d_eAnd, d_eOr, notV_b, d_eNot, x_tupV, x_lstV, d_eTup, d_eLst, x_cbV, d_eCB, retV_ret, retV_ex, retIo_own, retIo_io, x_call0, x_call1, d_eCall, x_isiV, d_eIsi, x_negV, d_eNeg, d_eDicK, d_eDicT, x_sl1, x_sl2, x_sl3, d_eSl, x_o1, d_oNone, d_oSome, x_revV, d_eRevL, x_compV, compFin_ok, d_eComp, d_eCompB, d_ePop, x_valA, d_aVal, d_aRef, d_lNil, x_l1, x_l2, d_lCons, blT_b, d_tE, d_tCmp, d_tChain, d_tW, x_notT, d_tNot, d_wOne, x_andT, x_orT, d_wAnd, d_wOr, d_cNil, d_cOne, itV_l, itV_t, itV_s, d_iIt, d_gNm, d_gTup, x_retS, d_sRet, d_sRetN, x_expS, d_sExp, x_ifS, d_sIf, d_sPass, d_sBrk, d_sCnt, x_asgS, d_sSet, x_tupS, d_sTup, x_appS, d_sApp, x_putS, x_putS2, d_sPut, x_forS, d_sFor, d_sWhile, d_sRaise, hand_nx, hand_rt, hand_ex, d_sTry, d_hNil, d_hCons, hands_nil, hands_cons, noEx_nx, noEx_rt, d_bNil, d_bCons, rho0, fCompB, wipeR, unwipe, sv_no, sv_val, sv_own, AV.ct, slCt, Sl.ct, Sl.od, cts, avVals, x_stOk, pl_no, pl_val, pl_own, slOf, tgAll, k_add, k_sub, k_mul, k_div, k_mod, k_pow, k_eq, k_ne, k_lt, k_le, k_gt, k_ge, k_is, k_isn, k_in, k_nin, isi_non, isi_bl, isi_int, isi_str, isi_lst, isi_tup, isi_dic, add_int, sub_int', lt_int', le_int', gt_int', ge_int', eq_int, ne_int, eq_str, ne_str, is_none, isn_none, is_bool, isn_bool, isNoneD, isBoolD, in_lst, in_tup, nin_lst, nin_tup, in_sgn, nin_sgn, len_lst, len_tup, tup_lst, tup_tup, lst_tup, int_int, x_rg1V, d_iRg1, pow18, ix_t0, ix_t1, ix_t2, ix_t3, ix_l0, sSl, Bf.sem, lk, lkD, deOf, lsAt, reOwn, dcAt, putAt, List.mapIdx_cons, List.mapIdx_nil, List.replicate, List.length_cons, List.length_nil, List.map_cons, List.map_nil, List.cons_append, List.nil_append, List.append_nil, List.set, List.getElem?_cons_zero, List.getElem?_cons_succ, List.getElem?_nil, List.getElem?_map, Option.map_some, Option.map_none, Option.getD_some, Option.getD_none, Option.or_some, Option.none_or, Option.some_or, ↓reduceIte, reduceCtorEq, Option.some.injEq, Nat.zero_add, Nat.reduceAdd, Nat.reduceSub, Nat.reduceLeDiff, Nat.reduceEqDiff, Nat.reduceLT, Nat.sub_self, Nat.add_one_sub_one, Bool.not_true, Bool.not_false, Bool.not_not, Bool.and_true, Bool.true_and, Bool.and_false, Bool.false_and, Bool.or_true, Bool.true_or, Bool.or_false, Bool.false_or, Bool.false_eq_true, Bool.not_eq_true', decide_true, decide_false, decide_eq_true_eq]
    · rw [List.map_append, i1, List.range_succ]
      simp [nk]
    · intro w hw
      rcases List.mem_append.mp hw with hw | hw
      · exact i2 w hw
      · rw [List.mem_singleton] at hw; rw [hw]; exact wk)
  obtain ⟨ps', ids, s4, s5, rfl, i1, i2, _⟩ := h2
  rw [rg_len, Nat.zero_add, Int.sub_zero] at i1
  refine ⟨ids, ps', ?_, i1, i2⟩
  simp only [m__law_ids, cd__law_ids, ys__law_ids_0, e4, hmr, and_self, h1, bind_ok, bind_ex, fl_ok, fl_ex, seq_nx, seq_rt, seq_bk, seq_ct, seq_ex, x_run, fin_nx, fin_rt, fin_ex, exit_none, exit_some, opt_some, d_eVar, d_eMov, d_eInt, d_eStr, d_eBl, d_eNon, d_eGlob, x_q1, x_q2, d_eBin, d_eCmp, d_eIx, chB_b, x_c1, x_c2, x_c4, d_eChain, d_eOne, andB_b, orB_b, d_eAnd, d_eOr, notV_b, d_eNot, x_tupV, x_lstV, d_eTup, d_eLst, x_cbV, d_eCB, retV_ret, retV_ex, retIo_own, retIo_io, x_call0, x_call1, d_eCall, x_isiV, d_eIsi, x_negV, d_eNeg, d_eDicK, d_eDicT, x_sl1, x_sl2, x_sl3, d_eSl, x_o1, d_oNone, d_oSome, x_revV, d_eRevL, x_compV, compFin_ok, d_eComp, d_eCompB, d_ePop, x_valA, d_aVal, d_aRef, d_lNil, x_l1, x_l2, d_lCons, blT_b, d_tE, d_tCmp, d_tChain, d_tW, x_notT, d_tNot, d_wOne, x_andT, x_orT, d_wAnd, d_wOr, d_cNil, d_cOne, itV_l, itV_t, itV_s, d_iIt, d_gNm, d_gTup, x_retS, d_sRet, d_sRetN, x_expS, d_sExp, x_ifS, d_sIf, d_sPass, d_sBrk, d_sCnt, x_asgS, d_sSet, x_tupS, d_sTup, x_appS, d_sApp, x_putS, x_putS2, d_sPut, x_forS, d_sFor, d_sWhile, d_sRaise, hand_nx, hand_rt, hand_ex, d_sTry, d_hNil, d_hCons, hands_nil, hands_cons, noEx_nx, noEx_rt, d_bNil, d_bCons, rho0, fCompB, wipeR, unwipe, sv_no, sv_val, sv_own, AV.ct, slCt, Sl.ct, Sl.od, cts, avVals, x_stOk, pl_no, pl_val, pl_own, slOf, tgAll, k_add, k_sub, k_mul, k_div, k_mod, k_pow, k_eq, k_ne, k_lt, k_le, k_gt, k_ge, k_is, k_isn, k_in, k_nin, isi_non, isi_bl, isi_int, isi_str, isi_lst, isi_tup, isi_dic, add_int, sub_int', lt_int', le_int', gt_int', ge_int', eq_int, ne_int, eq_str, ne_str, is_none, isn_none, is_bool, isn_bool, isNoneD, isBoolD, in_lst, in_tup, nin_lst, nin_tup, in_sgn, nin_sgn, len_lst, len_tup, tup_lst, tup_tup, lst_tup, int_int, x_rg1V, d_iRg1, pow18, ix_t0, ix_t1, ix_t2, ix_t3, ix_l0, sSl, Bf.sem, lk, lkD, deOf, lsAt, reOwn, dcAt, putAt, List.mapIdx_cons, List.mapIdx_nil, List.replicate, List.length_cons, List.length_nil, List.map_cons, List.map_nil, List.cons_append, List.nil_append, List.append_nil, List.set, List.getElem?_cons_zero, List.getElem?_cons_succ, List.getElem?_nil, List.getElem?_map, Option.map_some, Option.map_none, Option.getD_some, Option.getD_none, Option.or_some, Option.none_or, Option.some_or, ↓reduceIte, reduceCtorEq, Option.some.injEq, Nat.zero_add, Nat.reduceAdd, Nat.reduceSub, Nat.reduceLeDiff, Nat.reduceEqDiff, Nat.reduceLT, Nat.sub_self, Nat.add_one_sub_one, Bool.not_true, Bool.not_false, Bool.not_not, Bool.and_true, Bool.true_and, Bool.and_false, Bool.false_and, Bool.or_true, Bool.true_or, Bool.or_false, Bool.false_or, Bool.false_eq_true, Bool.not_eq_true', decide_true, decide_false, decide_eq_true_eq]
theorem ids_nodup {ids : List Str} {n : Nat} (h : ids.map idnum = List.range n) : ids.Nodup := by
  have h1 : (ids.map idnum).Nodup := by rw [h]; exact List.nodup_range
  exact List.Pairwise.of_map idnum (fun a b hab e => hab (by rw [e])) h1
end PV.Lw
namespace PV.Lw
open PySem L2 PV

/-! _law_precedents -/
theorem ndc_str (ws : List Str) : ndc (PyData.tuple (List.map PyData.str ws)) = true := by unfold ndc; exact ndcL_str ws
theorem ndc_row (r : PR) : ndc r.d = true := by
  have h1 := ndc_str r.p
  have h2 := ndc_str r.c
  unfold PR.d ndc ndcL
  show (ndc (.str r.n) && ndcL [(PyData.tuple (List.map PyData.str r.p)), (PyData.tuple (List.map PyData.str r.c)), .int r.o]) = true
  unfold ndcL
  rw [h1]
  unfold ndcL
  rw [h2]
  rfl
theorem ndcL_rows (rs : List PR) : ndcL (rs.map PR.d) = true := by
  induction rs with
  | nil => rfl
  | cons r rs ih =>
    rw [List.map_cons]
    unfold ndcL
    rw [ndc_row, ih]; rfl
theorem ne_rows (rs : List PR) : bNe (.list (rs.map PR.d)) (.list []) = some (.bool (!rs.isEmpty), false) := by
  rw [ne_nil (ndcL_rows rs)]
  cases rs <;> rfl
theorem ix_rows {rs : List PR} {i : Int} (h0 : 0 ≤ i) (h1 : i < rs.length) : ∃ r, r ∈ rs ∧ bIx (.list (rs.map PR.d)) (.int i) = some (r.d, false) := by
  obtain ⟨n, rfl⟩ : ∃ n : Nat, i = (n : Int) := ⟨i.toNat, by omega⟩
  have hn : n < rs.length := by omega
  refine ⟨rs[n], List.getElem_mem hn, ix_lst ?_⟩
  rw [List.getElem?_map, List.getElem?_eq_getElem hn]; rfl
theorem snoc_row (rs : List PR) (r : PR) : rs.map PR.d ++ [r.d] = (rs ++ [r]).map PR.d := by simp
structure RowsOf (ws ids : List Str) (n : Nat) (rs : List PR) : Prop where
  len : rs.length = n
  nm : rs.map PR.n = ids.take n
  p : ∀ r ∈ rs, Among ws r.p
  c : ∀ r ∈ rs, Among ws r.c
  o : ∀ r ∈ rs, r.o = 1 ∨ r.o = -1
theorem prec_step (ws ids : List Str) (m : Int) (hw : ws.Nodup) (hl : ws.length ≤ 12) (hids : ids.length ≤ 60) (ps : List Int) (rs : List PR) (j : Nat) (hj : j < ids.length) (a6 a7 a8 : Sl) (hR : RowsOf ws ids j rs) (h6 : pl a6 = true) (h7 : pl a7 = true) (h8 : pl a8 = true) :
    ∃ (ps' : List Int) (rs' : List PR) (b6 b7 b8 : Sl), den (k := .B) Y__law_precedents cd__law_precedents_b0 [.io (PyData.list (List.map PyData.int ps)), .val (PyData.list (List.map PyData.str ws)), .val (.int m), .own (PyData.list (List.map PyData.str ids)), .own (.list (rs.map PR.d)), .val (.int (Int.ofNat j)), a6, a7, a8] = .nx [.io (PyData.list (List.map PyData.int ps')), .val (PyData.list (List.map PyData.str ws)), .val (.int m), .own (PyData.list (List.map PyData.str ids)), .own (.list (rs'.map PR.d)), .val (.int (Int.ofNat j)), b6, b7, b8] ∧
      RowsOf ws ids (j + 1) rs' ∧ pl b6 = true ∧ pl b7 = true ∧ pl b8 = true := by
  obtain ⟨p, ps1, s1, a1⟩ := side_s ps ws hw (by omega)
  obtain ⟨c, ps2, s2, a2⟩ := side_s ps1 ws hw (by omega)
  have hix : bIx (PyData.list (List.map PyData.str ids)) (.int (Int.ofNat j)) = some (.str ids[j], false) := ix_lst (by rw [List.getElem?_map, List.getElem?_eq_getElem hj]; rfl)
  have hlen : (rs.map PR.d).length < 1000000 := by rw [List.length_map, hR.len]; omega
  have hlr : (rs.map PR.d).length = rs.length := List.length_map ..
  have hl2 : rs.length < 1000000 := by rw [hR.len]; omega
  have htk : ids.take (j + 1) = ids.take j ++ [ids[j]] := List.take_succ_eq_append_getElem hj
  have k2 : ∀ x : Int, mulOk 2 x = true := fun x => mulOk_l x (by decide)
  -- the row that comes
  have fin : ∀ (p c : List Str) (t : Int), 0 ≤ t → t < 2 → Among ws p → Among ws c → RowsOf ws ids (j + 1) (rs ++ [⟨ids[j], p, c, 1 - 2 * t⟩]) := by
    intro p c t t0 t2 hp hc
    refine ⟨by rw [List.length_append, hR.len]; rfl, by rw [List.map_append, hR.nm, htk]; rfl, ?_, ?_, ?_⟩
    · intro r hr
      rcases List.mem_append.mp hr with hr | hr
      · exact hR.p r hr
      · rw [List.mem_singleton] at hr; rw [hr]; exact hp
    · intro r hr
      rcases List.mem_append.mp hr with hr | hr
      · exact hR.c r hr
      · rw [List.mem_singleton] at hr; rw [hr]; exact hc
    · intro r hr
      rcases List.mem_append.mp hr with hr | hr
      · exact hR.o r hr
      · rw [List.mem_singleton] at hr; rw [hr]
        show (1 - 2 * t = 1 ∨ 1 - 2 * t = -1)
        omega
  have snoc : ∀ (p c : List Str) (o : Int), rs.map PR.d ++ [.tuple [.str ids[j], (PyData.tuple (List.map PyData.str p)), (PyData.tuple (List.map PyData.str c)), .int o]] = (rs ++ [(⟨ids[j], p, c, o⟩ : PR)]).map PR.d := fun p c o => snoc_row rs ⟨ids[j], p, c, o⟩
  have q := ne_rows rs
  by_cases hE : rs = []
  · obtain ⟨t, ps3, t1, t2, t3⟩ := take_s ps2 2 (by decide)
    have e0 : rs.isEmpty = true := by rw [hE]; rfl
    rw [e0] at q
    simp only [Bool.not_true] at q
    refine ⟨ps3, rs ++ [⟨ids[j], p, c, 1 - 2 * t⟩], .val (PyData.tuple (List.map PyData.str p)), .val (PyData.tuple (List.map PyData.str c)), a8, ?_, fin p c t t2 t3 a1 a2, rfl, rfl, h8⟩
    simp -implicitDefEqProofs only [cd__law_precedents_b0, m__law_precedents, cd__law_precedents, ys__law_precedents_0, ys__law_precedents_1, ys__law_precedents_2, ys__law_precedents_3, s1, s2, h6, h7, q, t1, hix, hlen, k2, mul_int', snoc, bind_ok, bind_ex, fl_ok, fl_ex, seq_nx, seq_rt, seq_bk, seq_ct, seq_ex, x_run, fin_nx, fin_rt, fin_ex, exit_none, exit_some, opt_some, d_eVar, d_eMov, d_eInt, d_eStr, d_eBl, d_eNon, d_eGlob, x_q1, x_q2, d_eBin, d_eCmp, d_eIx, chB_b, x_c1, x_c2, x_c4, d_eChain, d_eOne, andB_b, orB_b, d_eAnd, d_eOr, notV_b, d_eNot, x_tupV, x_lstV, d_eTup, d_eLst, x_cbV, d_eCB, retV_ret, retV_ex, retIo_own, retIo_io, x_call0, x_call1, d_eCall, x_isiV, d_eIsi, x_negV, d_eNeg, d_eDicK, d_eDicT, x_sl1, x_sl2, x_sl3, d_eSl, x_o1, d_oNone, d_oSome, x_revV, d_eRevL, x_compV, compFin_ok, d_eComp, d_eCompB, d_ePop, x_valA, d_aVal, d_aRef, d_lNil, x_l1, x_l2, d_lCons, blT_b, d_tE, d_tCmp, d_tChain, d_tW, x_notT, d_tNot, d_wOne, x_andT, x_orT, d_wAnd, d_wOr, d_cNil, d_cOne, itV_l, itV_t, itV_s, d_iIt, d_gNm, d_gTup, x_retS, d_sRet, d_sRetN, x_expS, d_sExp, x_ifS, d_sIf, d_sPass, d_sBrk, d_sCnt, x_asgS, d_sSet, x_tupS, d_sTup, x_appS, d_sApp, x_putS, x_putS2, d_sPut, x_forS, d_sFor, d_sWhile, d_sRaise, hand_nx, hand_rt, hand_ex, d_sTry, d_hNil, d_hCons, hands_nil, hands_cons, noEx_nx, noEx_rt, d_bNil, d_bCons, rho0, fCompB, wipeR, unwipe, sv_no, sv_val, sv_own, AV.ct, slCt, Sl.ct, Sl.od, cts, avVals, x_stOk, pl_no, pl_val, pl_own, slOf, tgAll, k_add, k_sub, k_mul, k_div, k_mod, k_pow, k_eq, k_ne, k_lt, k_le, k_gt, k_ge, k_is, k_isn, k_in, k_nin, isi_non, isi_bl, isi_int, isi_str, isi_lst, isi_tup, isi_dic, add_int, sub_int', lt_int', le_int', gt_int', ge_int', eq_int, ne_int, eq_str, ne_str, is_none, isn_none, is_bool, isn_bool, isNoneD, isBoolD, in_lst, in_tup, nin_lst, nin_tup, in_sgn, nin_sgn, len_lst, len_tup, tup_lst, tup_tup, lst_tup, int_int, x_rg1V, d_iRg1, pow18, ix_t0, ix_t1, ix_t2, ix_t3, ix_l0, sSl, Bf.sem, lk, lkD, deOf, lsAt, reOwn, dcAt, putAt, List.mapIdx_cons, List.mapIdx_nil, List.replicate, List.length_cons, List.length_nil, List.map_cons, List.map_nil, List.cons_append, List.nil_append, List.append_nil, List.set, List.getElem?_cons_zero, List.getElem?_cons_succ, List.getElem?_nil, List.getElem?_map, Option.map_some, Option.map_none, Option.getD_some, Option.getD_none, Option.or_some, Option.none_or, Option.some_or, ↓reduceIte, reduceCtorEq, Option.some.injEq, Nat.zero_add, Nat.reduceAdd, Nat.reduceSub, Nat.reduceLeDiff, Nat.reduceEqDiff, Nat.reduceLT, Nat.sub_self, Nat.add_one_sub_one, Bool.not_true, Bool.not_false, Bool.not_not, Bool.and_true, Bool.true_and, Bool.and_false, Bool.false_and, Bool.or_true, Bool.true_or, Bool.or_false, Bool.false_or, Bool.false_eq_true, Bool.not_eq_true', decide_true, decide_false, decide_eq_true_eq]
  · have e0 : rs.isEmpty = false := by cases rs with | nil => exact absurd rfl hE | cons _ _ => rfl
    rw [e0] at q
    simp only [Bool.not_false] at q
    have hpos : 0 < rs.length := List.length_pos_iff.mpr hE
    obtain ⟨x, ps3, x1, x2, x3⟩ := take_s ps2 4 (by decide)
    by_cases hx : x = 3
    · obtain ⟨i, ps4, i1, i2, i3⟩ := take_s ps3 (rs.length : Int) (by omega)
      obtain ⟨r, hr, hir⟩ := ix_rows i2 i3
      have lp := (hR.p r hr).len
      have lc := (hR.c r hr).len
      obtain ⟨p', ps5, u1, u2⟩ := turn_s ps4 r.p (by omega)
      obtain ⟨c', ps6, u3, u4⟩ := turn_s ps5 r.c (by omega)
      obtain ⟨t, ps7, t1, t2, t3⟩ := take_s ps6 2 (by decide)
      refine ⟨ps7, rs ++ [⟨ids[j], p', c', 1 - 2 * t⟩], .val (PyData.tuple (List.map PyData.str p')), .val (PyData.tuple (List.map PyData.str c')), .val r.d, ?_, fin p' c' t t2 t3 ((hR.p r hr).perm u2) ((hR.c r hr).perm u4), rfl, rfl, rfl⟩
      simp only [PR.d] at hir
      have lt : ∀ ds : List D, cList [.tuple ds] = some (.list ds, true) := fun _ => rfl
      have e8 : (Sl.val r.d) = .val (.tuple [.str r.n, (PyData.tuple (List.map PyData.str r.p)), (PyData.tuple (List.map PyData.str r.c)), .int r.o]) := rfl
      rw [e8]
      have hir2 : bIx (.list (rs.map PR.d)) (.int i) = some (.tuple [.str r.n, (PyData.tuple (List.map PyData.str r.p)), (PyData.tuple (List.map PyData.str r.c)), .int r.o], false) := hir
      simp -implicitDefEqProofs only [cd__law_precedents_b0, m__law_precedents, cd__law_precedents, ys__law_precedents_0, ys__law_precedents_1, ys__law_precedents_2, ys__law_precedents_3, s1, s2, h6, h7, h8, q, x1, hx, hlr, hl2, i1, hir2, lt, u1, u3, t1, hix, hlen, k2, mul_int', snoc, bind_ok, bind_ex, fl_ok, fl_ex, seq_nx, seq_rt, seq_bk, seq_ct, seq_ex, x_run, fin_nx, fin_rt, fin_ex, exit_none, exit_some, opt_some, d_eVar, d_eMov, d_eInt, d_eStr, d_eBl, d_eNon, d_eGlob, x_q1, x_q2, d_eBin, d_eCmp, d_eIx, chB_b, x_c1, x_c2, x_c4, d_eChain, d_eOne, andB_b, orB_b, d_eAnd, d_eOr, notV_b, d_eNot, x_tupV, x_lstV, d_eTup, d_eLst, x_cbV, d_eCB, retV_ret, retV_ex, retIo_own, retIo_io, x_call0, x_call1, d_eCall, x_isiV, d_eIsi, x_negV, d_eNeg, d_eDicK, d_eDicT, x_sl1, x_sl2, x_sl3, d_eSl, x_o1, d_oNone, d_oSome, x_revV, d_eRevL, x_compV, compFin_ok, d_eComp, d_eCompB, d_ePop, x_valA, d_aVal, d_aRef, d_lNil, x_l1, x_l2, d_lCons, blT_b, d_tE, d_tCmp, d_tChain, d_tW, x_notT, d_tNot, d_wOne, x_andT, x_orT, d_wAnd, d_wOr, d_cNil, d_cOne, itV_l, itV_t, itV_s, d_iIt, d_gNm, d_gTup, x_retS, d_sRet, d_sRetN, x_expS, d_sExp, x_ifS, d_sIf, d_sPass, d_sBrk, d_sCnt, x_asgS, d_sSet, x_tupS, d_sTup, x_appS, d_sApp, x_putS, x_putS2, d_sPut, x_forS, d_sFor, d_sWhile, d_sRaise, hand_nx, hand_rt, hand_ex, d_sTry, d_hNil, d_hCons, hands_nil, hands_cons, noEx_nx, noEx_rt, d_bNil, d_bCons, rho0, fCompB, wipeR, unwipe, sv_no, sv_val, sv_own, AV.ct, slCt, Sl.ct, Sl.od, cts, avVals, x_stOk, pl_no, pl_val, pl_own, slOf, tgAll, k_add, k_sub, k_mul, k_div, k_mod, k_pow, k_eq, k_ne, k_lt, k_le, k_gt, k_ge, k_is, k_isn, k_in, k_nin, isi_non, isi_bl, isi_int, isi_str, isi_lst, isi_tup, isi_dic, add_int, sub_int', lt_int', le_int', gt_int', ge_int', eq_int, ne_int, eq_str, ne_str, is_none, isn_none, is_bool, isn_bool, isNoneD, isBoolD, in_lst, in_tup, nin_lst, nin_tup, in_sgn, nin_sgn, len_lst, len_tup, tup_lst, tup_tup, lst_tup, int_int, x_rg1V, d_iRg1, pow18, ix_t0, ix_t1, ix_t2, ix_t3, ix_l0, sSl, Bf.sem, lk, lkD, deOf, lsAt, reOwn, dcAt, putAt, List.mapIdx_cons, List.mapIdx_nil, List.replicate, List.length_cons, List.length_nil, List.map_cons, List.map_nil, List.cons_append, List.nil_append, List.append_nil, List.set, List.getElem?_cons_zero, List.getElem?_cons_succ, List.getElem?_nil, List.getElem?_map, Option.map_some, Option.map_none, Option.getD_some, Option.getD_none, Option.or_some, Option.none_or, Option.some_or, ↓reduceIte, reduceCtorEq, Option.some.injEq, Nat.zero_add, Nat.reduceAdd, Nat.reduceSub, Nat.reduceLeDiff, Nat.reduceEqDiff, Nat.reduceLT, Nat.sub_self, Nat.add_one_sub_one, Bool.not_true, Bool.not_false, Bool.not_not, Bool.and_true, Bool.true_and, Bool.and_false, Bool.false_and, Bool.or_true, Bool.true_or, Bool.or_false, Bool.false_or, Bool.false_eq_true, Bool.not_eq_true', decide_true, decide_false, decide_eq_true_eq]
    · obtain ⟨t, ps4, t1, t2, t3⟩ := take_s ps3 2 (by decide)
      refine ⟨ps4, rs ++ [⟨ids[j], p, c, 1 - 2 * t⟩], .val (PyData.tuple (List.map PyData.str p)), .val (PyData.tuple (List.map PyData.str c)), a8, ?_, fin p c t t2 t3 a1 a2, rfl, rfl, h8⟩
      simp -implicitDefEqProofs only [cd__law_precedents_b0, m__law_precedents, cd__law_precedents, ys__law_precedents_0, ys__law_precedents_1, ys__law_precedents_2, ys__law_precedents_3, s1, s2, h6, h7, q, x1, hx, t1, hix, hlen, k2, mul_int', snoc, bind_ok, bind_ex, fl_ok, fl_ex, seq_nx, seq_rt, seq_bk, seq_ct, seq_ex, x_run, fin_nx, fin_rt, fin_ex, exit_none, exit_some, opt_some, d_eVar, d_eMov, d_eInt, d_eStr, d_eBl, d_eNon, d_eGlob, x_q1, x_q2, d_eBin, d_eCmp, d_eIx, chB_b, x_c1, x_c2, x_c4, d_eChain, d_eOne, andB_b, orB_b, d_eAnd, d_eOr, notV_b, d_eNot, x_tupV, x_lstV, d_eTup, d_eLst, x_cbV, d_eCB, retV_ret, retV_ex, retIo_own, retIo_io, x_call0, x_call1, d_eCall, x_isiV, d_eIsi, x_negV, d_eNeg, d_eDicK, d_eDicT, x_sl1, x_sl2, x_sl3, d_eSl, x_o1, d_oNone, d_oSome, x_revV, d_eRevL, x_compV, compFin_ok, d_eComp, d_eCompB, d_ePop, x_valA, d_aVal, d_aRef, d_lNil, x_l1, x_l2, d_lCons, blT_b, d_tE, d_tCmp, d_tChain, d_tW, x_notT, d_tNot, d_wOne, x_andT, x_orT, d_wAnd, d_wOr, d_cNil, d_cOne, itV_l, itV_t, itV_s, d_iIt, d_gNm, d_gTup, x_retS, d_sRet, d_sRetN, x_expS, d_sExp, x_ifS, d_sIf, d_sPass, d_sBrk, d_sCnt, x_asgS, d_sSet, x_tupS, d_sTup, x_appS, d_sApp, x_putS, x_putS2, d_sPut, x_forS, d_sFor, d_sWhile, d_sRaise, hand_nx, hand_rt, hand_ex, d_sTry, d_hNil, d_hCons, hands_nil, hands_cons, noEx_nx, noEx_rt, d_bNil, d_bCons, rho0, fCompB, wipeR, unwipe, sv_no, sv_val, sv_own, AV.ct, slCt, Sl.ct, Sl.od, cts, avVals, x_stOk, pl_no, pl_val, pl_own, slOf, tgAll, k_add, k_sub, k_mul, k_div, k_mod, k_pow, k_eq, k_ne, k_lt, k_le, k_gt, k_ge, k_is, k_isn, k_in, k_nin, isi_non, isi_bl, isi_int, isi_str, isi_lst, isi_tup, isi_dic, add_int, sub_int', lt_int', le_int', gt_int', ge_int', eq_int, ne_int, eq_str, ne_str, is_none, isn_none, is_bool, isn_bool, isNoneD, isBoolD, in_lst, in_tup, nin_lst, nin_tup, in_sgn, nin_sgn, len_lst, len_tup, tup_lst, tup_tup, lst_tup, int_int, x_rg1V, d_iRg1, pow18, ix_t0, ix_t1, ix_t2, ix_t3, ix_l0, sSl, Bf.sem, lk, lkD, deOf, lsAt, reOwn, dcAt, putAt, List.mapIdx_cons, List.mapIdx_nil, List.replicate, List.length_cons, List.length_nil, List.map_cons, List.map_nil, List.cons_append, List.nil_append, List.append_nil, List.set, List.getElem?_cons_zero, List.getElem?_cons_succ, List.getElem?_nil, List.getElem?_map, Option.map_some, Option.map_none, Option.getD_some, Option.getD_none, Option.or_some, Option.none_or, Option.some_or, ↓reduceIte, reduceCtorEq, Option.some.injEq, Nat.zero_add, Nat.reduceAdd, Nat.reduceSub, Nat.reduceLeDiff, Nat.reduceEqDiff, Nat.reduceLT, Nat.sub_self, Nat.add_one_sub_one, Bool.not_true, Bool.not_false, Bool.not_not, Bool.and_true, Bool.true_and, Bool.and_false, Bool.false_and, Bool.or_true, Bool.true_or, Bool.or_false, Bool.false_or, Bool.false_eq_true, Bool.not_eq_true', decide_true, decide_false, decide_eq_true_eq]
theorem precs_s (ps : List Int) (ws : List Str) (m : Int) (hw : ws.Nodup) (hl : ws.length ≤ 12) (h0 : 0 ≤ m) (hm : m ≤ 60) : ∃ (rs : List PR) (ps' : List Int), m__law_precedents [(PyData.list (List.map PyData.int ps)), (PyData.list (List.map PyData.str ws)), .int m] = .ret (.tuple (rs.map PR.d)) false (PyData.list (List.map PyData.int ps')) ∧ rs.length = m.toNat ∧ (rs.map PR.n).Nodup ∧ (∀ r ∈ rs, wordB r.n = true ∧ idnum r.n < 60) ∧ (∀ r ∈ rs, Among ws r.p) ∧ (∀ r ∈ rs, Among ws r.c) ∧ ∀ r ∈ rs, r.o = 1 ∨ r.o = -1 := by
  obtain ⟨ids, ps1, i1, i2, i3⟩ := ids_s ps m h0 hm
  have il : ids.length = m.toNat := by have := congrArg List.length i2; simpa using this
  have e5 : den Y__law_precedents (.gNm 5) = tgName 5 := rfl
  have hmr : (m < 1000000 ∧ (-1000000 : Int) < m) := ⟨by omega, by omega⟩
  obtain ⟨ρ', h1, h2⟩ := for_inv (tgt := tgName 5) (body := den (k := .B) Y__law_precedents cd__law_precedents_b0) (fun n ρ => ∃ (ps : List Int) (rs : List PR) (a5 a6 a7 a8 : Sl), ρ = [.io (PyData.list (List.map PyData.int ps)), .val (PyData.list (List.map PyData.str ws)), .val (.int m), .own (PyData.list (List.map PyData.str ids)), .own (.list (rs.map PR.d)), a5, a6, a7, a8] ∧ RowsOf ws ids n rs ∧ pl a5 = true ∧ pl a6 = true ∧ pl a7 = true ∧ pl a8 = true) (rgD 0 m) 0 [.io (PyData.list (List.map PyData.int ps1)), .val (PyData.list (List.map PyData.str ws)), .val (.int m), .own (PyData.list (List.map PyData.str ids)), .own (.list []), .no, .no, .no, .no] ⟨ps1, [], .no, .no, .no, .no, rfl, ⟨rfl, rfl, fun _ h => (by cases h), fun _ h => (by cases h), fun _ h => (by cases h)⟩, rfl, rfl, rfl, rfl⟩ (by
    intro j d ρ hd hI
    obtain ⟨ps, rs, a5, a6, a7, a8, rfl, hR, k5, k6, k7, k8⟩ := hI
    obtain ⟨rfl, hj⟩ := rg_get hd
    have e : (0 : Int) + (j : Int) = Int.ofNat j := by rw [Int.zero_add]; rfl
    rw [e]
    rw [Nat.zero_add] at hR ⊢
    obtain ⟨ps', rs', b6, b7, b8, e1, e2, e3, e4, e5⟩ := prec_step ws ids m hw hl (by omega) ps rs j (by omega) a6 a7 a8 hR k6 k7 k8
    refine ⟨_, _, ?_, e1, ps', rs', _, b6, b7, b8, rfl, e2, rfl, e3, e4, e5⟩
    simp only [tgName, k5, bind_ok, bind_ex, fl_ok, fl_ex, seq_nx, seq_rt, seq_bk, seq_ct, seq_ex, x_run, fin_nx, fin_rt, fin_ex, exit_none, exit_some, opt_some, d_eVar, d_eMov, d_eInt, d_eStr, d_eBl, d_eNon, d_eGlob, x_q1, x_q2, d_eBin, d_eCmp, d_eIx, chB_b, x_c1, x_c2, x_c4, d_eChain, d_eOne, andB_b, orB_b, d_eAnd, d_eOr, notV_b, d_eNot, x_tupV, x_lstV, d_eTup, d_eLst, x_cbV, d_eCB, retV_ret, retV_ex, retIo_own, retIo_io, x_call0, x_call1, d_eCall, x_isiV, d_eIsi, x_negV, d_eNeg, d_eDicK, d_eDicT, x_sl1, x_sl2, x_sl3, d_eSl, x_o1, d_oNone, d_oSome, x_revV, d_eRevL, x_compV, compFin_ok, d_eComp, d_eCompB, d_ePop, x_valA, d_aVal, d_aRef, d_lNil, x_l1, x_l2, d_lCons, blT_b, d_tE, d_tCmp, d_tChain, d_tW, x_notT, d_tNot, d_wOne, x_andT, x_orT, d_wAnd, d_wOr, d_cNil, d_cOne, itV_l, itV_t, itV_s, d_iIt, d_gNm, d_gTup, x_retS, d_sRet, d_sRetN, x_expS, d_sExp, x_ifS, d_sIf, d_sPass, d_sBrk, d_sCnt, x_asgS, d_sSet, x_tupS, d_sTup, x_appS, d_sApp, x_putS, x_putS2, d_sPut, x_forS, d_sFor, d_sWhile, d_sRaise, hand_nx, hand_rt, hand_ex, d_sTry, d_hNil, d_hCons, hands_nil, hands_cons, noEx_nx, noEx_rt, d_bNil, d_bCons, rho0, fCompB, wipeR, unwipe, sv_no, sv_val, sv_own, AV.ct, slCt, Sl.ct, Sl.od, cts, avVals, x_stOk, pl_no, pl_val, pl_own, slOf, tgAll, k_add, k_sub, k_mul, k_div, k_mod, k_pow, k_eq, k_ne, k_lt, k_le, k_gt, k_ge, k_is, k_isn, k_in, k_nin, isi_non, isi_bl, isi_int, isi_str, isi_lst, isi_tup, isi_dic, add_int, sub_int', lt_int', le_int', gt_int', ge_int', eq_int, ne_int, eq_str, ne_str, is_none, isn_none, is_bool, isn_bool, isNoneD, isBoolD, in_lst, in_tup, nin_lst, nin_tup, in_sgn, nin_sgn, len_lst, len_tup, tup_lst, tup_tup, lst_tup, int_int, x_rg1V, d_iRg1, pow18, ix_t0, ix_t1, ix_t2, ix_t3, ix_l0, sSl, Bf.sem, lk, lkD, deOf, lsAt, reOwn, dcAt, putAt, List.mapIdx_cons, List.mapIdx_nil, List.replicate, List.length_cons, List.length_nil, List.map_cons, List.map_nil, List.cons_append, List.nil_append, List.append_nil, List.set, List.getElem?_cons_zero, List.getElem?_cons_succ, List.getElem?_nil, List.getElem?_map, Option.map_some, Option.map_none, Option.getD_some, Option.getD_none, Option.or_some, Option.none_or, Option.some_or, ↓reduceIte, reduceCtorEq, Option.some.injEq, Nat.zero_add, Nat.reduceAdd, Nat.reduceSub, Nat.reduceLeDiff, Nat.reduceEqDiff, Nat.reduceLT, Nat.sub_self, Nat.add_one_sub_one, Bool.not_true, Bool.not_false, Bool.not_not, Bool.and_true, Bool.true_and, Bool.and_false, Bool.false_and, Bool.or_true, Bool.true_or, Bool.or_false, Bool.false_or, Bool.false_eq_true, Bool.not_eq_true', decide_true, decide_false, decide_eq_true_eq])
  obtain ⟨ps', rs, a5, a6, a7, a8, rfl, hR, _⟩ := h2
  rw [rg_len, Nat.zero_add, Int.sub_zero] at hR
  have hnm : rs.map PR.n = ids := by rw [hR.nm, List.take_of_length_le (by omega)]
  refine ⟨rs, ps', ?_, hR.len, by rw [hnm]; exact ids_nodup i2, fun r hr => ?_, hR.p, hR.c, hR.o⟩
  · simp only [m__law_precedents, cd__law_precedents, ys__law_precedents_0, ys__law_precedents_1, ys__law_precedents_2, ys__law_precedents_3, cd__law_precedents_s0, cd__law_precedents_s1, cd__law_precedents_s2, cd__law_precedents_s3, i1, e5, hmr, and_self, h1, bind_ok, bind_ex, fl_ok, fl_ex, seq_nx, seq_rt, seq_bk, seq_ct, seq_ex, x_run, fin_nx, fin_rt, fin_ex, exit_none, exit_some, opt_some, d_eVar, d_eMov, d_eInt, d_eStr, d_eBl, d_eNon, d_eGlob, x_q1, x_q2, d_eBin, d_eCmp, d_eIx, chB_b, x_c1, x_c2, x_c4, d_eChain, d_eOne, andB_b, orB_b, d_eAnd, d_eOr, notV_b, d_eNot, x_tupV, x_lstV, d_eTup, d_eLst, x_cbV, d_eCB, retV_ret, retV_ex, retIo_own, retIo_io, x_call0, x_call1, d_eCall, x_isiV, d_eIsi, x_negV, d_eNeg, d_eDicK, d_eDicT, x_sl1, x_sl2, x_sl3, d_eSl, x_o1, d_oNone, d_oSome, x_revV, d_eRevL, x_compV, compFin_ok, d_eComp, d_eCompB, d_ePop, x_valA, d_aVal, d_aRef, d_lNil, x_l1, x_l2, d_lCons, blT_b, d_tE, d_tCmp, d_tChain, d_tW, x_notT, d_tNot, d_wOne, x_andT, x_orT, d_wAnd, d_wOr, d_cNil, d_cOne, itV_l, itV_t, itV_s, d_iIt, d_gNm, d_gTup, x_retS, d_sRet, d_sRetN, x_expS, d_sExp, x_ifS, d_sIf, d_sPass, d_sBrk, d_sCnt, x_asgS, d_sSet, x_tupS, d_sTup, x_appS, d_sApp, x_putS, x_putS2, d_sPut, x_forS, d_sFor, d_sWhile, d_sRaise, hand_nx, hand_rt, hand_ex, d_sTry, d_hNil, d_hCons, hands_nil, hands_cons, noEx_nx, noEx_rt, d_bNil, d_bCons, rho0, fCompB, wipeR, unwipe, sv_no, sv_val, sv_own, AV.ct, slCt, Sl.ct, Sl.od, cts, avVals, x_stOk, pl_no, pl_val, pl_own, slOf, tgAll, k_add, k_sub, k_mul, k_div, k_mod, k_pow, k_eq, k_ne, k_lt, k_le, k_gt, k_ge, k_is, k_isn, k_in, k_nin, isi_non, isi_bl, isi_int, isi_str, isi_lst, isi_tup, isi_dic, add_int, sub_int', lt_int', le_int', gt_int', ge_int', eq_int, ne_int, eq_str, ne_str, is_none, isn_none, is_bool, isn_bool, isNoneD, isBoolD, in_lst, in_tup, nin_lst, nin_tup, in_sgn, nin_sgn, len_lst, len_tup, tup_lst, tup_tup, lst_tup, int_int, x_rg1V, d_iRg1, pow18, ix_t0, ix_t1, ix_t2, ix_t3, ix_l0, sSl, Bf.sem, lk, lkD, deOf, lsAt, reOwn, dcAt, putAt, List.mapIdx_cons, List.mapIdx_nil, List.replicate, List.length_cons, List.length_nil, List.map_cons, List.map_nil, List.cons_append, List.nil_append, List.append_nil, List.set, List.getElem?_cons_zero, List.getElem?_cons_succ, List.getElem?_nil, List.getElem?_map, Option.map_some, Option.map_none, Option.getD_some, Option.getD_none, Option.or_some, Option.none_or, Option.some_or, ↓reduceIte, reduceCtorEq, Option.some.injEq, Nat.zero_add, Nat.reduceAdd, Nat.reduceSub, Nat.reduceLeDiff, Nat.reduceEqDiff, Nat.reduceLT, Nat.sub_self, Nat.add_one_sub_one, Bool.not_true, Bool.not_false, Bool.not_not, Bool.and_true, Bool.true_and, Bool.and_false, Bool.false_and, Bool.or_true, Bool.true_or, Bool.or_false, Bool.false_or, Bool.false_eq_true, Bool.not_eq_true', decide_true, decide_false, decide_eq_true_eq]
  · have hm2 : r.n ∈ ids := by rw [← hnm]; exact List.mem_map.mpr ⟨r, hr, rfl⟩
    refine ⟨i3 _ hm2, ?_⟩
    have : idnum r.n ∈ ids.map idnum := List.mem_map.mpr ⟨_, hm2, rfl⟩
    rw [i2, List.mem_range] at this
    omega
end PV.Lw
namespace PV.Lw
open PySem L2 PV

theorem outcome_p (d c : D) (h : m_rule [d, c] = .ex 1 .none) : m__law_outcome [d, c] = .ret (.str (Str.ofString "precedents")) false .none := by
  simp only [m__law_outcome, cd__law_outcome, ys__law_outcome_0, yc__law_outcome_0, yc__law_outcome_1, h, bind_ok, bind_ex, fl_ok, fl_ex, seq_nx, seq_rt, seq_bk, seq_ct, seq_ex, x_run, fin_nx, fin_rt, fin_ex, exit_none, exit_some, opt_some, d_eVar, d_eMov, d_eInt, d_eStr, d_eBl, d_eNon, d_eGlob, x_q1, x_q2, d_eBin, d_eCmp, d_eIx, chB_b, x_c1, x_c2, x_c4, d_eChain, d_eOne, andB_b, orB_b, d_eAnd, d_eOr, notV_b, d_eNot, x_tupV, x_lstV, d_eTup, d_eLst, x_cbV, d_eCB, retV_ret, retV_ex, retIo_own, retIo_io, x_call0, x_call1, d_eCall, x_isiV, d_eIsi, x_negV, d_eNeg, d_eDicK, d_eDicT, x_sl1, x_sl2, x_sl3, d_eSl, x_o1, d_oNone, d_oSome, x_revV, d_eRevL, x_compV, compFin_ok, d_eComp, d_eCompB, d_ePop, x_valA, d_aVal, d_aRef, d_lNil, x_l1, x_l2, d_lCons, blT_b, d_tE, d_tCmp, d_tChain, d_tW, x_notT, d_tNot, d_wOne, x_andT, x_orT, d_wAnd, d_wOr, d_cNil, d_cOne, itV_l, itV_t, itV_s, d_iIt, d_gNm, d_gTup, x_retS, d_sRet, d_sRetN, x_expS, d_sExp, x_ifS, d_sIf, d_sPass, d_sBrk, d_sCnt, x_asgS, d_sSet, x_tupS, d_sTup, x_appS, d_sApp, x_putS, x_putS2, d_sPut, x_forS, d_sFor, d_sWhile, d_sRaise, hand_nx, hand_rt, hand_ex, d_sTry, d_hNil, d_hCons, hands_nil, hands_cons, noEx_nx, noEx_rt, d_bNil, d_bCons, rho0, fCompB, wipeR, unwipe, sv_no, sv_val, sv_own, AV.ct, slCt, Sl.ct, Sl.od, cts, avVals, x_stOk, pl_no, pl_val, pl_own, slOf, tgAll, k_add, k_sub, k_mul, k_div, k_mod, k_pow, k_eq, k_ne, k_lt, k_le, k_gt, k_ge, k_is, k_isn, k_in, k_nin, isi_non, isi_bl, isi_int, isi_str, isi_lst, isi_tup, isi_dic, add_int, sub_int', lt_int', le_int', gt_int', ge_int', eq_int, ne_int, eq_str, ne_str, is_none, isn_none, is_bool, isn_bool, isNoneD, isBoolD, in_lst, in_tup, nin_lst, nin_tup, in_sgn, nin_sgn, len_lst, len_tup, tup_lst, tup_tup, lst_tup, int_int, x_rg1V, d_iRg1, pow18, ix_t0, ix_t1, ix_t2, ix_t3, ix_l0, sSl, Bf.sem, lk, lkD, deOf, lsAt, reOwn, dcAt, putAt, List.mapIdx_cons, List.mapIdx_nil, List.replicate, List.length_cons, List.length_nil, List.map_cons, List.map_nil, List.cons_append, List.nil_append, List.append_nil, List.set, List.getElem?_cons_zero, List.getElem?_cons_succ, List.getElem?_nil, List.getElem?_map, Option.map_some, Option.map_none, Option.getD_some, Option.getD_none, Option.or_some, Option.none_or, Option.some_or, ↓reduceIte, reduceCtorEq, Option.some.injEq, Nat.zero_add, Nat.reduceAdd, Nat.reduceSub, Nat.reduceLeDiff, Nat.reduceEqDiff, Nat.reduceLT, Nat.sub_self, Nat.add_one_sub_one, Bool.not_true, Bool.not_false, Bool.not_not, Bool.and_true, Bool.true_and, Bool.and_false, Bool.false_and, Bool.or_true, Bool.true_or, Bool.or_false, Bool.false_or, Bool.false_eq_true, Bool.not_eq_true', decide_true, decide_false, decide_eq_true_eq]
theorem outcome_c (d c : D) (h : m_rule [d, c] = .ex 0 .none) : m__law_outcome [d, c] = .ret (.str (Str.ofString "case")) false .none := by
  simp only [m__law_outcome, cd__law_outcome, ys__law_outcome_0, yc__law_outcome_0, yc__law_outcome_1, h, bind_ok, bind_ex, fl_ok, fl_ex, seq_nx, seq_rt, seq_bk, seq_ct, seq_ex, x_run, fin_nx, fin_rt, fin_ex, exit_none, exit_some, opt_some, d_eVar, d_eMov, d_eInt, d_eStr, d_eBl, d_eNon, d_eGlob, x_q1, x_q2, d_eBin, d_eCmp, d_eIx, chB_b, x_c1, x_c2, x_c4, d_eChain, d_eOne, andB_b, orB_b, d_eAnd, d_eOr, notV_b, d_eNot, x_tupV, x_lstV, d_eTup, d_eLst, x_cbV, d_eCB, retV_ret, retV_ex, retIo_own, retIo_io, x_call0, x_call1, d_eCall, x_isiV, d_eIsi, x_negV, d_eNeg, d_eDicK, d_eDicT, x_sl1, x_sl2, x_sl3, d_eSl, x_o1, d_oNone, d_oSome, x_revV, d_eRevL, x_compV, compFin_ok, d_eComp, d_eCompB, d_ePop, x_valA, d_aVal, d_aRef, d_lNil, x_l1, x_l2, d_lCons, blT_b, d_tE, d_tCmp, d_tChain, d_tW, x_notT, d_tNot, d_wOne, x_andT, x_orT, d_wAnd, d_wOr, d_cNil, d_cOne, itV_l, itV_t, itV_s, d_iIt, d_gNm, d_gTup, x_retS, d_sRet, d_sRetN, x_expS, d_sExp, x_ifS, d_sIf, d_sPass, d_sBrk, d_sCnt, x_asgS, d_sSet, x_tupS, d_sTup, x_appS, d_sApp, x_putS, x_putS2, d_sPut, x_forS, d_sFor, d_sWhile, d_sRaise, hand_nx, hand_rt, hand_ex, d_sTry, d_hNil, d_hCons, hands_nil, hands_cons, noEx_nx, noEx_rt, d_bNil, d_bCons, rho0, fCompB, wipeR, unwipe, sv_no, sv_val, sv_own, AV.ct, slCt, Sl.ct, Sl.od, cts, avVals, x_stOk, pl_no, pl_val, pl_own, slOf, tgAll, k_add, k_sub, k_mul, k_div, k_mod, k_pow, k_eq, k_ne, k_lt, k_le, k_gt, k_ge, k_is, k_isn, k_in, k_nin, isi_non, isi_bl, isi_int, isi_str, isi_lst, isi_tup, isi_dic, add_int, sub_int', lt_int', le_int', gt_int', ge_int', eq_int, ne_int, eq_str, ne_str, is_none, isn_none, is_bool, isn_bool, isNoneD, isBoolD, in_lst, in_tup, nin_lst, nin_tup, in_sgn, nin_sgn, len_lst, len_tup, tup_lst, tup_tup, lst_tup, int_int, x_rg1V, d_iRg1, pow18, ix_t0, ix_t1, ix_t2, ix_t3, ix_l0, sSl, Bf.sem, lk, lkD, deOf, lsAt, reOwn, dcAt, putAt, List.mapIdx_cons, List.mapIdx_nil, List.replicate, List.length_cons, List.length_nil, List.map_cons, List.map_nil, List.cons_append, List.nil_append, List.append_nil, List.set, List.getElem?_cons_zero, List.getElem?_cons_succ, List.getElem?_nil, List.getElem?_map, Option.map_some, Option.map_none, Option.getD_some, Option.getD_none, Option.or_some, Option.none_or, Option.some_or, ↓reduceIte, reduceCtorEq, Option.some.injEq, Nat.zero_add, Nat.reduceAdd, Nat.reduceSub, Nat.reduceLeDiff, Nat.reduceEqDiff, Nat.reduceLT, Nat.sub_self, Nat.add_one_sub_one, Bool.not_true, Bool.not_false, Bool.not_not, Bool.and_true, Bool.true_and, Bool.and_false, Bool.false_and, Bool.or_true, Bool.true_or, Bool.or_false, Bool.false_or, Bool.false_eq_true, Bool.not_eq_true', decide_true, decide_false, decide_eq_true_eq]
/-! the rows that are more -/
def zq : Str := Str.ofString "q"
theorem zq_one : zq = ⟨#[113]⟩ := by decide +kernel
theorem q_let : 113 ∈ LET := by decide +kernel
def qn (k : Nat) : Str := zq ++ sN (100 + k)
def qrow (o : Int) (k : Nat) : PR := ⟨qn k, [], [], o⟩
theorem gd_nil : Gd [] := ⟨List.nodup_nil, fun _ h => (by cases h), by simp⟩
theorem qn_num (k : Nat) (hk : k < 100) : idnum (qn k) = 100 + k := by
  unfold qn
  rw [zq_one]
  exact idn 113 (100 + k) (by omega)
theorem qn_ok (k : Nat) (hk : k < 100) : wordB (qn k) = true := by
  unfold qn
  rw [zq_one]
  exact idw q_let (100 + k) (by omega)
theorem q_ok (o : Int) (ho : o = 1 ∨ o = -1) (k : Nat) (hk : k < 100) : (qrow o k).Ok := ⟨qn_ok k hk, gd_nil, gd_nil, ho⟩
theorem more_comp (ns ws cs : D) (m : Int) (hm : 0 ≤ m) (hm2 : m ≤ 61) (pool : Sl) (rs : List PR) (a6 a7 : Sl) : compLoop [9] (tgName 9) (den (k := .C) Y_law .cNil) (den Y_law cd_law_e0) (rgD 0 (61 - m)) [] [.val ns, pool, .val ws, .val (.int m), .val cs, .val (psD rs), a6, a7, .no, .no, .no, .no] = .ok (((List.range (61 - m).toNat).map (qrow 1)).map PR.d) [.val ns, pool, .val ws, .val (.int m), .val cs, .val (psD rs), a6, a7, .no, .no, .no, .no] := by
  have h := comp_pureM (own := [9]) (tgt := tgName 9) (c := den (k := .C) Y_law .cNil) (e := den Y_law cd_law_e0) (fun (i : Nat) => PyData.int (0 + (i : Int))) (fun _ => true) (fun i => (qrow 1 i).d) (ρ := [.val ns, pool, .val ws, .val (.int m), .val cs, .val (psD rs), a6, a7, .no, .no, .no, .no]) (List.range (61 - m).toNat) [] (by
    intro k hk
    rw [List.mem_range] at hk
    have hk2 : k < 100 := by omega
    obtain ⟨f1, f2, _, _⟩ := sN_ok ⟨100 + k, by omega⟩
    have e : (100 : Int) + (0 + (k : Int)) = Int.ofNat (100 + k) := by
      show (100 : Int) + (0 + (k : Int)) = ((100 + k : Nat) : Int)
      omega
    have c1 : cStr [.int (Int.ofNat (100 + k))] = some (.str (sN (100 + k)), false) := if_pos f1
    have c2 : bAdd (.str (Str.ofString "q")) (.str (sN (100 + k))) = some (.str (qn k), false) := add_str (by
      have h1 : (sN (100 + k)).length ≤ 3 := f2
      have h2 : (Str.ofString "q").length = 1 := by decide +kernel
      omega)
    refine ⟨[.val ns, pool, .val ws, .val (.int m), .val cs, .val (psD rs), a6, a7, .no, .val (.int (0 + (k : Int))), .no, .no], rfl, rfl, rfl, fun _ => ⟨false, [.val ns, pool, .val ws, .val (.int m), .val cs, .val (psD rs), a6, a7, .no, .val (.int (0 + (k : Int))), .no, .no], ?_, rfl⟩⟩
    simp only [cd_law_e0, e, c1, c2, PR.d, qrow, bind_ok, bind_ex, fl_ok, fl_ex, seq_nx, seq_rt, seq_bk, seq_ct, seq_ex, x_run, fin_nx, fin_rt, fin_ex, exit_none, exit_some, opt_some, d_eVar, d_eMov, d_eInt, d_eStr, d_eBl, d_eNon, d_eGlob, x_q1, x_q2, d_eBin, d_eCmp, d_eIx, chB_b, x_c1, x_c2, x_c4, d_eChain, d_eOne, andB_b, orB_b, d_eAnd, d_eOr, notV_b, d_eNot, x_tupV, x_lstV, d_eTup, d_eLst, x_cbV, d_eCB, retV_ret, retV_ex, retIo_own, retIo_io, x_call0, x_call1, d_eCall, x_isiV, d_eIsi, x_negV, d_eNeg, d_eDicK, d_eDicT, x_sl1, x_sl2, x_sl3, d_eSl, x_o1, d_oNone, d_oSome, x_revV, d_eRevL, x_compV, compFin_ok, d_eComp, d_eCompB, d_ePop, x_valA, d_aVal, d_aRef, d_lNil, x_l1, x_l2, d_lCons, blT_b, d_tE, d_tCmp, d_tChain, d_tW, x_notT, d_tNot, d_wOne, x_andT, x_orT, d_wAnd, d_wOr, d_cNil, d_cOne, itV_l, itV_t, itV_s, d_iIt, d_gNm, d_gTup, x_retS, d_sRet, d_sRetN, x_expS, d_sExp, x_ifS, d_sIf, d_sPass, d_sBrk, d_sCnt, x_asgS, d_sSet, x_tupS, d_sTup, x_appS, d_sApp, x_putS, x_putS2, d_sPut, x_forS, d_sFor, d_sWhile, d_sRaise, hand_nx, hand_rt, hand_ex, d_sTry, d_hNil, d_hCons, hands_nil, hands_cons, noEx_nx, noEx_rt, d_bNil, d_bCons, rho0, fCompB, wipeR, unwipe, sv_no, sv_val, sv_own, AV.ct, slCt, Sl.ct, Sl.od, cts, avVals, x_stOk, pl_no, pl_val, pl_own, slOf, tgAll, k_add, k_sub, k_mul, k_div, k_mod, k_pow, k_eq, k_ne, k_lt, k_le, k_gt, k_ge, k_is, k_isn, k_in, k_nin, isi_non, isi_bl, isi_int, isi_str, isi_lst, isi_tup, isi_dic, add_int, sub_int', lt_int', le_int', gt_int', ge_int', eq_int, ne_int, eq_str, ne_str, is_none, isn_none, is_bool, isn_bool, isNoneD, isBoolD, in_lst, in_tup, nin_lst, nin_tup, in_sgn, nin_sgn, len_lst, len_tup, tup_lst, tup_tup, lst_tup, int_int, x_rg1V, d_iRg1, pow18, ix_t0, ix_t1, ix_t2, ix_t3, ix_l0, sSl, Bf.sem, lk, lkD, deOf, lsAt, reOwn, dcAt, putAt, List.mapIdx_cons, List.mapIdx_nil, List.replicate, List.length_cons, List.length_nil, List.map_cons, List.map_nil, List.cons_append, List.nil_append, List.append_nil, List.set, List.getElem?_cons_zero, List.getElem?_cons_succ, List.getElem?_nil, List.getElem?_map, Option.map_some, Option.map_none, Option.getD_some, Option.getD_none, Option.or_some, Option.none_or, Option.some_or, ↓reduceIte, reduceCtorEq, Option.some.injEq, Nat.zero_add, Nat.reduceAdd, Nat.reduceSub, Nat.reduceLeDiff, Nat.reduceEqDiff, Nat.reduceLT, Nat.sub_self, Nat.add_one_sub_one, Bool.not_true, Bool.not_false, Bool.not_not, Bool.and_true, Bool.true_and, Bool.and_false, Bool.false_and, Bool.or_true, Bool.true_or, Bool.or_false, Bool.false_or, Bool.false_eq_true, Bool.not_eq_true', decide_true, decide_false, decide_eq_true_eq]) (by simp; omega)
  have hy : (List.range (61 - m).toNat).filter (fun _ => true) = List.range (61 - m).toNat := by simp
  rw [List.nil_append, hy] at h
  rw [List.map_map]
  have e : rgD 0 (61 - m) = (List.range (61 - m).toNat).map fun (i : Nat) => PyData.int (0 + (i : Int)) := by
    unfold rgD
    rw [Int.sub_zero]
  rw [e]
  exact h
/-- all that the law asks of its precedents -/
structure Rs (rs : List PR) : Prop where
  len : rs.length ≤ 60
  ok : ∀ r ∈ rs, r.Ok
  nd : (rs.map PR.n).Nodup
theorem Rs.same {rs : List PR} (h : Rs rs) {p c : List Str} (hp : Gd p) (hc : Gd c) : m_rule [psD rs, csD p c] = .ret (ruleO rs p c) false .none ∧ m__law_rule [psD rs, csD p c] = .ret (ruleO rs p c) false .none ∧ m__law_same [ruleO rs p c, ruleO rs p c] = .ret (.bool true) false .none :=
  ⟨rule_s rs p c h.len h.ok h.nd hp hc, law_rule_s rs p c h.len h.ok hp hc, same_s _ (ruleO_ok rs p c h.len)⟩
theorem body_b0 (a0 a1 a2 a4 a8 a9 a10 a11 : Sl) (m : Int) (rs : List PR) (hR : Rs rs) (r : PR) (hr : r ∈ rs) (s7 : Sl) (h7 : pl s7 = true) : den (k := .B) Y_law cd_law_b0 [a0, a1, a2, .val (.int m), a4, .val (psD rs), .val r.d, s7, a8, a9, a10, a11] = .nx [a0, a1, a2, .val (.int m), a4, .val (psD rs), .val r.d, .val (csD r.p r.c), a8, a9, a10, a11] := by
  obtain ⟨q1, q2, q3⟩ := hR.same (hR.ok r hr).p (hR.ok r hr).c
  have e : (Sl.val r.d) = .val (.tuple [.str r.n, (PyData.tuple (List.map PyData.str r.p)), (PyData.tuple (List.map PyData.str r.c)), .int r.o]) := rfl
  rw [e]
  by_cases hm : m < 60
  · simp -implicitDefEqProofs only [cd_law_b0, m_law, cd_law, ys_law_0, ys_law_1, ys_law_2, ys_law_3, ys_law_4, ys_law_5, ys_law_6, ys_law_7, ys_law_8, h7, hm, q1, q2, q3, bind_ok, bind_ex, fl_ok, fl_ex, seq_nx, seq_rt, seq_bk, seq_ct, seq_ex, x_run, fin_nx, fin_rt, fin_ex, exit_none, exit_some, opt_some, d_eVar, d_eMov, d_eInt, d_eStr, d_eBl, d_eNon, d_eGlob, x_q1, x_q2, d_eBin, d_eCmp, d_eIx, chB_b, x_c1, x_c2, x_c4, d_eChain, d_eOne, andB_b, orB_b, d_eAnd, d_eOr, notV_b, d_eNot, x_tupV, x_lstV, d_eTup, d_eLst, x_cbV, d_eCB, retV_ret, retV_ex, retIo_own, retIo_io, x_call0, x_call1, d_eCall, x_isiV, d_eIsi, x_negV, d_eNeg, d_eDicK, d_eDicT, x_sl1, x_sl2, x_sl3, d_eSl, x_o1, d_oNone, d_oSome, x_revV, d_eRevL, x_compV, compFin_ok, d_eComp, d_eCompB, d_ePop, x_valA, d_aVal, d_aRef, d_lNil, x_l1, x_l2, d_lCons, blT_b, d_tE, d_tCmp, d_tChain, d_tW, x_notT, d_tNot, d_wOne, x_andT, x_orT, d_wAnd, d_wOr, d_cNil, d_cOne, itV_l, itV_t, itV_s, d_iIt, d_gNm, d_gTup, x_retS, d_sRet, d_sRetN, x_expS, d_sExp, x_ifS, d_sIf, d_sPass, d_sBrk, d_sCnt, x_asgS, d_sSet, x_tupS, d_sTup, x_appS, d_sApp, x_putS, x_putS2, d_sPut, x_forS, d_sFor, d_sWhile, d_sRaise, hand_nx, hand_rt, hand_ex, d_sTry, d_hNil, d_hCons, hands_nil, hands_cons, noEx_nx, noEx_rt, d_bNil, d_bCons, rho0, fCompB, wipeR, unwipe, sv_no, sv_val, sv_own, AV.ct, slCt, Sl.ct, Sl.od, cts, avVals, x_stOk, pl_no, pl_val, pl_own, slOf, tgAll, k_add, k_sub, k_mul, k_div, k_mod, k_pow, k_eq, k_ne, k_lt, k_le, k_gt, k_ge, k_is, k_isn, k_in, k_nin, isi_non, isi_bl, isi_int, isi_str, isi_lst, isi_tup, isi_dic, add_int, sub_int', lt_int', le_int', gt_int', ge_int', eq_int, ne_int, eq_str, ne_str, is_none, isn_none, is_bool, isn_bool, isNoneD, isBoolD, in_lst, in_tup, nin_lst, nin_tup, in_sgn, nin_sgn, len_lst, len_tup, tup_lst, tup_tup, lst_tup, int_int, x_rg1V, d_iRg1, pow18, ix_t0, ix_t1, ix_t2, ix_t3, ix_l0, sSl, Bf.sem, lk, lkD, deOf, lsAt, reOwn, dcAt, putAt, List.mapIdx_cons, List.mapIdx_nil, List.replicate, List.length_cons, List.length_nil, List.map_cons, List.map_nil, List.cons_append, List.nil_append, List.append_nil, List.set, List.getElem?_cons_zero, List.getElem?_cons_succ, List.getElem?_nil, List.getElem?_map, Option.map_some, Option.map_none, Option.getD_some, Option.getD_none, Option.or_some, Option.none_or, Option.some_or, ↓reduceIte, reduceCtorEq, Option.some.injEq, Nat.zero_add, Nat.reduceAdd, Nat.reduceSub, Nat.reduceLeDiff, Nat.reduceEqDiff, Nat.reduceLT, Nat.sub_self, Nat.add_one_sub_one, Bool.not_true, Bool.not_false, Bool.not_not, Bool.and_true, Bool.true_and, Bool.and_false, Bool.false_and, Bool.or_true, Bool.true_or, Bool.or_false, Bool.false_or, Bool.false_eq_true, Bool.not_eq_true', decide_true, decide_false, decide_eq_true_eq]
  · simp -implicitDefEqProofs only [cd_law_b0, m_law, cd_law, ys_law_0, ys_law_1, ys_law_2, ys_law_3, ys_law_4, ys_law_5, ys_law_6, ys_law_7, ys_law_8, h7, hm, bind_ok, bind_ex, fl_ok, fl_ex, seq_nx, seq_rt, seq_bk, seq_ct, seq_ex, x_run, fin_nx, fin_rt, fin_ex, exit_none, exit_some, opt_some, d_eVar, d_eMov, d_eInt, d_eStr, d_eBl, d_eNon, d_eGlob, x_q1, x_q2, d_eBin, d_eCmp, d_eIx, chB_b, x_c1, x_c2, x_c4, d_eChain, d_eOne, andB_b, orB_b, d_eAnd, d_eOr, notV_b, d_eNot, x_tupV, x_lstV, d_eTup, d_eLst, x_cbV, d_eCB, retV_ret, retV_ex, retIo_own, retIo_io, x_call0, x_call1, d_eCall, x_isiV, d_eIsi, x_negV, d_eNeg, d_eDicK, d_eDicT, x_sl1, x_sl2, x_sl3, d_eSl, x_o1, d_oNone, d_oSome, x_revV, d_eRevL, x_compV, compFin_ok, d_eComp, d_eCompB, d_ePop, x_valA, d_aVal, d_aRef, d_lNil, x_l1, x_l2, d_lCons, blT_b, d_tE, d_tCmp, d_tChain, d_tW, x_notT, d_tNot, d_wOne, x_andT, x_orT, d_wAnd, d_wOr, d_cNil, d_cOne, itV_l, itV_t, itV_s, d_iIt, d_gNm, d_gTup, x_retS, d_sRet, d_sRetN, x_expS, d_sExp, x_ifS, d_sIf, d_sPass, d_sBrk, d_sCnt, x_asgS, d_sSet, x_tupS, d_sTup, x_appS, d_sApp, x_putS, x_putS2, d_sPut, x_forS, d_sFor, d_sWhile, d_sRaise, hand_nx, hand_rt, hand_ex, d_sTry, d_hNil, d_hCons, hands_nil, hands_cons, noEx_nx, noEx_rt, d_bNil, d_bCons, rho0, fCompB, wipeR, unwipe, sv_no, sv_val, sv_own, AV.ct, slCt, Sl.ct, Sl.od, cts, avVals, x_stOk, pl_no, pl_val, pl_own, slOf, tgAll, k_add, k_sub, k_mul, k_div, k_mod, k_pow, k_eq, k_ne, k_lt, k_le, k_gt, k_ge, k_is, k_isn, k_in, k_nin, isi_non, isi_bl, isi_int, isi_str, isi_lst, isi_tup, isi_dic, add_int, sub_int', lt_int', le_int', gt_int', ge_int', eq_int, ne_int, eq_str, ne_str, is_none, isn_none, is_bool, isn_bool, isNoneD, isBoolD, in_lst, in_tup, nin_lst, nin_tup, in_sgn, nin_sgn, len_lst, len_tup, tup_lst, tup_tup, lst_tup, int_int, x_rg1V, d_iRg1, pow18, ix_t0, ix_t1, ix_t2, ix_t3, ix_l0, sSl, Bf.sem, lk, lkD, deOf, lsAt, reOwn, dcAt, putAt, List.mapIdx_cons, List.mapIdx_nil, List.replicate, List.length_cons, List.length_nil, List.map_cons, List.map_nil, List.cons_append, List.nil_append, List.append_nil, List.set, List.getElem?_cons_zero, List.getElem?_cons_succ, List.getElem?_nil, List.getElem?_map, Option.map_some, Option.map_none, Option.getD_some, Option.getD_none, Option.or_some, Option.none_or, Option.some_or, ↓reduceIte, reduceCtorEq, Option.some.injEq, Nat.zero_add, Nat.reduceAdd, Nat.reduceSub, Nat.reduceLeDiff, Nat.reduceEqDiff, Nat.reduceLT, Nat.sub_self, Nat.add_one_sub_one, Bool.not_true, Bool.not_false, Bool.not_not, Bool.and_true, Bool.true_and, Bool.and_false, Bool.false_and, Bool.or_true, Bool.true_or, Bool.or_false, Bool.false_or, Bool.false_eq_true, Bool.not_eq_true', decide_true, decide_false, decide_eq_true_eq]
theorem loop_b0 (a0 a1 a2 a4 a8 a9 a10 a11 : Sl) (m : Int) (rs : List PR) (hR : Rs rs) : ∃ s6 s7 : Sl, forLoop (tgName 6) (den (k := .B) Y_law cd_law_b0) (rs.map PR.d) [a0, a1, a2, .val (.int m), a4, .val (psD rs), .no, .no, a8, a9, a10, a11] = .nx [a0, a1, a2, .val (.int m), a4, .val (psD rs), s6, s7, a8, a9, a10, a11] ∧ pl s6 = true ∧ pl s7 = true := by
  obtain ⟨ρ', h1, s6, s7, rfl, h2, h3⟩ := for_inv (tgt := tgName 6) (body := den (k := .B) Y_law cd_law_b0) (fun _ ρ => ∃ s6 s7 : Sl, ρ = [a0, a1, a2, .val (.int m), a4, .val (psD rs), s6, s7, a8, a9, a10, a11] ∧ pl s6 = true ∧ pl s7 = true) (rs.map PR.d) 0 _ ⟨.no, .no, rfl, rfl, rfl⟩ (by
    intro j d ρ hd hI
    obtain ⟨s6, s7, rfl, h2, h3⟩ := hI
    obtain ⟨r, hr, rfl⟩ := List.mem_map.mp (List.mem_of_getElem? hd)
    refine ⟨_, _, ?_, body_b0 a0 a1 a2 a4 a8 a9 a10 a11 m rs hR r hr s7 h3, _, _, rfl, rfl, rfl⟩
    simp only [tgName, h2, bind_ok, bind_ex, fl_ok, fl_ex, seq_nx, seq_rt, seq_bk, seq_ct, seq_ex, x_run, fin_nx, fin_rt, fin_ex, exit_none, exit_some, opt_some, d_eVar, d_eMov, d_eInt, d_eStr, d_eBl, d_eNon, d_eGlob, x_q1, x_q2, d_eBin, d_eCmp, d_eIx, chB_b, x_c1, x_c2, x_c4, d_eChain, d_eOne, andB_b, orB_b, d_eAnd, d_eOr, notV_b, d_eNot, x_tupV, x_lstV, d_eTup, d_eLst, x_cbV, d_eCB, retV_ret, retV_ex, retIo_own, retIo_io, x_call0, x_call1, d_eCall, x_isiV, d_eIsi, x_negV, d_eNeg, d_eDicK, d_eDicT, x_sl1, x_sl2, x_sl3, d_eSl, x_o1, d_oNone, d_oSome, x_revV, d_eRevL, x_compV, compFin_ok, d_eComp, d_eCompB, d_ePop, x_valA, d_aVal, d_aRef, d_lNil, x_l1, x_l2, d_lCons, blT_b, d_tE, d_tCmp, d_tChain, d_tW, x_notT, d_tNot, d_wOne, x_andT, x_orT, d_wAnd, d_wOr, d_cNil, d_cOne, itV_l, itV_t, itV_s, d_iIt, d_gNm, d_gTup, x_retS, d_sRet, d_sRetN, x_expS, d_sExp, x_ifS, d_sIf, d_sPass, d_sBrk, d_sCnt, x_asgS, d_sSet, x_tupS, d_sTup, x_appS, d_sApp, x_putS, x_putS2, d_sPut, x_forS, d_sFor, d_sWhile, d_sRaise, hand_nx, hand_rt, hand_ex, d_sTry, d_hNil, d_hCons, hands_nil, hands_cons, noEx_nx, noEx_rt, d_bNil, d_bCons, rho0, fCompB, wipeR, unwipe, sv_no, sv_val, sv_own, AV.ct, slCt, Sl.ct, Sl.od, cts, avVals, x_stOk, pl_no, pl_val, pl_own, slOf, tgAll, k_add, k_sub, k_mul, k_div, k_mod, k_pow, k_eq, k_ne, k_lt, k_le, k_gt, k_ge, k_is, k_isn, k_in, k_nin, isi_non, isi_bl, isi_int, isi_str, isi_lst, isi_tup, isi_dic, add_int, sub_int', lt_int', le_int', gt_int', ge_int', eq_int, ne_int, eq_str, ne_str, is_none, isn_none, is_bool, isn_bool, isNoneD, isBoolD, in_lst, in_tup, nin_lst, nin_tup, in_sgn, nin_sgn, len_lst, len_tup, tup_lst, tup_tup, lst_tup, int_int, x_rg1V, d_iRg1, pow18, ix_t0, ix_t1, ix_t2, ix_t3, ix_l0, sSl, Bf.sem, lk, lkD, deOf, lsAt, reOwn, dcAt, putAt, List.mapIdx_cons, List.mapIdx_nil, List.replicate, List.length_cons, List.length_nil, List.map_cons, List.map_nil, List.cons_append, List.nil_append, List.append_nil, List.set, List.getElem?_cons_zero, List.getElem?_cons_succ, List.getElem?_nil, List.getElem?_map, Option.map_some, Option.map_none, Option.getD_some, Option.getD_none, Option.or_some, Option.none_or, Option.some_or, ↓reduceIte, reduceCtorEq, Option.some.injEq, Nat.zero_add, Nat.reduceAdd, Nat.reduceSub, Nat.reduceLeDiff, Nat.reduceEqDiff, Nat.reduceLT, Nat.sub_self, Nat.add_one_sub_one, Bool.not_true, Bool.not_false, Bool.not_not, Bool.and_true, Bool.true_and, Bool.and_false, Bool.false_and, Bool.or_true, Bool.true_or, Bool.or_false, Bool.false_or, Bool.false_eq_true, Bool.not_eq_true', decide_true, decide_false, decide_eq_true_eq])
  exact ⟨s6, s7, h1, h2, h3⟩
theorem loop_b1 (a0 a1 a2 a3 a5 a6 a7 a8 a9 a10 : Sl) (cs : D) (ds : List D) (h : ∀ d ∈ ds, m_is_precedents [d] = .ret (.bool false) false .none) : ∃ s11 : Sl, forLoop (tgName 11) (den (k := .B) Y_law cd_law_b1) ds [a0, a1, a2, a3, .val cs, a5, a6, a7, a8, a9, a10, .no] = .nx [a0, a1, a2, a3, .val cs, a5, a6, a7, a8, a9, a10, s11] := by
  obtain ⟨ρ', h1, s11, rfl, h2⟩ := for_inv (tgt := tgName 11) (body := den (k := .B) Y_law cd_law_b1) (fun _ ρ => ∃ s11 : Sl, ρ = [a0, a1, a2, a3, .val cs, a5, a6, a7, a8, a9, a10, s11] ∧ pl s11 = true) ds 0 _ ⟨.no, rfl, rfl⟩ (by
    intro j d ρ hd hI
    obtain ⟨s11, rfl, h2⟩ := hI
    have hb := h d (List.mem_of_getElem? hd)
    have q1 := outcome_p d cs (rule_bad d cs hb)
    have q2 := outcome_p d .none (rule_bad d .none hb)
    refine ⟨[a0, a1, a2, a3, .val cs, a5, a6, a7, a8, a9, a10, .val d], [a0, a1, a2, a3, .val cs, a5, a6, a7, a8, a9, a10, .val d], ?_, ?_, _, rfl, rfl⟩
    · simp only [tgName, h2, bind_ok, bind_ex, fl_ok, fl_ex, seq_nx, seq_rt, seq_bk, seq_ct, seq_ex, x_run, fin_nx, fin_rt, fin_ex, exit_none, exit_some, opt_some, d_eVar, d_eMov, d_eInt, d_eStr, d_eBl, d_eNon, d_eGlob, x_q1, x_q2, d_eBin, d_eCmp, d_eIx, chB_b, x_c1, x_c2, x_c4, d_eChain, d_eOne, andB_b, orB_b, d_eAnd, d_eOr, notV_b, d_eNot, x_tupV, x_lstV, d_eTup, d_eLst, x_cbV, d_eCB, retV_ret, retV_ex, retIo_own, retIo_io, x_call0, x_call1, d_eCall, x_isiV, d_eIsi, x_negV, d_eNeg, d_eDicK, d_eDicT, x_sl1, x_sl2, x_sl3, d_eSl, x_o1, d_oNone, d_oSome, x_revV, d_eRevL, x_compV, compFin_ok, d_eComp, d_eCompB, d_ePop, x_valA, d_aVal, d_aRef, d_lNil, x_l1, x_l2, d_lCons, blT_b, d_tE, d_tCmp, d_tChain, d_tW, x_notT, d_tNot, d_wOne, x_andT, x_orT, d_wAnd, d_wOr, d_cNil, d_cOne, itV_l, itV_t, itV_s, d_iIt, d_gNm, d_gTup, x_retS, d_sRet, d_sRetN, x_expS, d_sExp, x_ifS, d_sIf, d_sPass, d_sBrk, d_sCnt, x_asgS, d_sSet, x_tupS, d_sTup, x_appS, d_sApp, x_putS, x_putS2, d_sPut, x_forS, d_sFor, d_sWhile, d_sRaise, hand_nx, hand_rt, hand_ex, d_sTry, d_hNil, d_hCons, hands_nil, hands_cons, noEx_nx, noEx_rt, d_bNil, d_bCons, rho0, fCompB, wipeR, unwipe, sv_no, sv_val, sv_own, AV.ct, slCt, Sl.ct, Sl.od, cts, avVals, x_stOk, pl_no, pl_val, pl_own, slOf, tgAll, k_add, k_sub, k_mul, k_div, k_mod, k_pow, k_eq, k_ne, k_lt, k_le, k_gt, k_ge, k_is, k_isn, k_in, k_nin, isi_non, isi_bl, isi_int, isi_str, isi_lst, isi_tup, isi_dic, add_int, sub_int', lt_int', le_int', gt_int', ge_int', eq_int, ne_int, eq_str, ne_str, is_none, isn_none, is_bool, isn_bool, isNoneD, isBoolD, in_lst, in_tup, nin_lst, nin_tup, in_sgn, nin_sgn, len_lst, len_tup, tup_lst, tup_tup, lst_tup, int_int, x_rg1V, d_iRg1, pow18, ix_t0, ix_t1, ix_t2, ix_t3, ix_l0, sSl, Bf.sem, lk, lkD, deOf, lsAt, reOwn, dcAt, putAt, List.mapIdx_cons, List.mapIdx_nil, List.replicate, List.length_cons, List.length_nil, List.map_cons, List.map_nil, List.cons_append, List.nil_append, List.append_nil, List.set, List.getElem?_cons_zero, List.getElem?_cons_succ, List.getElem?_nil, List.getElem?_map, Option.map_some, Option.map_none, Option.getD_some, Option.getD_none, Option.or_some, Option.none_or, Option.some_or, ↓reduceIte, reduceCtorEq, Option.some.injEq, Nat.zero_add, Nat.reduceAdd, Nat.reduceSub, Nat.reduceLeDiff, Nat.reduceEqDiff, Nat.reduceLT, Nat.sub_self, Nat.add_one_sub_one, Bool.not_true, Bool.not_false, Bool.not_not, Bool.and_true, Bool.true_and, Bool.and_false, Bool.false_and, Bool.or_true, Bool.true_or, Bool.or_false, Bool.false_or, Bool.false_eq_true, Bool.not_eq_true', decide_true, decide_false, decide_eq_true_eq]
    · simp only [cd_law_b1, m_law, cd_law, ys_law_0, ys_law_1, ys_law_2, ys_law_3, ys_law_4, ys_law_5, ys_law_6, ys_law_7, ys_law_8, q1, q2, bind_ok, bind_ex, fl_ok, fl_ex, seq_nx, seq_rt, seq_bk, seq_ct, seq_ex, x_run, fin_nx, fin_rt, fin_ex, exit_none, exit_some, opt_some, d_eVar, d_eMov, d_eInt, d_eStr, d_eBl, d_eNon, d_eGlob, x_q1, x_q2, d_eBin, d_eCmp, d_eIx, chB_b, x_c1, x_c2, x_c4, d_eChain, d_eOne, andB_b, orB_b, d_eAnd, d_eOr, notV_b, d_eNot, x_tupV, x_lstV, d_eTup, d_eLst, x_cbV, d_eCB, retV_ret, retV_ex, retIo_own, retIo_io, x_call0, x_call1, d_eCall, x_isiV, d_eIsi, x_negV, d_eNeg, d_eDicK, d_eDicT, x_sl1, x_sl2, x_sl3, d_eSl, x_o1, d_oNone, d_oSome, x_revV, d_eRevL, x_compV, compFin_ok, d_eComp, d_eCompB, d_ePop, x_valA, d_aVal, d_aRef, d_lNil, x_l1, x_l2, d_lCons, blT_b, d_tE, d_tCmp, d_tChain, d_tW, x_notT, d_tNot, d_wOne, x_andT, x_orT, d_wAnd, d_wOr, d_cNil, d_cOne, itV_l, itV_t, itV_s, d_iIt, d_gNm, d_gTup, x_retS, d_sRet, d_sRetN, x_expS, d_sExp, x_ifS, d_sIf, d_sPass, d_sBrk, d_sCnt, x_asgS, d_sSet, x_tupS, d_sTup, x_appS, d_sApp, x_putS, x_putS2, d_sPut, x_forS, d_sFor, d_sWhile, d_sRaise, hand_nx, hand_rt, hand_ex, d_sTry, d_hNil, d_hCons, hands_nil, hands_cons, noEx_nx, noEx_rt, d_bNil, d_bCons, rho0, fCompB, wipeR, unwipe, sv_no, sv_val, sv_own, AV.ct, slCt, Sl.ct, Sl.od, cts, avVals, x_stOk, pl_no, pl_val, pl_own, slOf, tgAll, k_add, k_sub, k_mul, k_div, k_mod, k_pow, k_eq, k_ne, k_lt, k_le, k_gt, k_ge, k_is, k_isn, k_in, k_nin, isi_non, isi_bl, isi_int, isi_str, isi_lst, isi_tup, isi_dic, add_int, sub_int', lt_int', le_int', gt_int', ge_int', eq_int, ne_int, eq_str, ne_str, is_none, isn_none, is_bool, isn_bool, isNoneD, isBoolD, in_lst, in_tup, nin_lst, nin_tup, in_sgn, nin_sgn, len_lst, len_tup, tup_lst, tup_tup, lst_tup, int_int, x_rg1V, d_iRg1, pow18, ix_t0, ix_t1, ix_t2, ix_t3, ix_l0, sSl, Bf.sem, lk, lkD, deOf, lsAt, reOwn, dcAt, putAt, List.mapIdx_cons, List.mapIdx_nil, List.replicate, List.length_cons, List.length_nil, List.map_cons, List.map_nil, List.cons_append, List.nil_append, List.append_nil, List.set, List.getElem?_cons_zero, List.getElem?_cons_succ, List.getElem?_nil, List.getElem?_map, Option.map_some, Option.map_none, Option.getD_some, Option.getD_none, Option.or_some, Option.none_or, Option.some_or, ↓reduceIte, reduceCtorEq, Option.some.injEq, Nat.zero_add, Nat.reduceAdd, Nat.reduceSub, Nat.reduceLeDiff, Nat.reduceEqDiff, Nat.reduceLT, Nat.sub_self, Nat.add_one_sub_one, Bool.not_true, Bool.not_false, Bool.not_not, Bool.and_true, Bool.true_and, Bool.and_false, Bool.false_and, Bool.or_true, Bool.true_or, Bool.or_false, Bool.false_or, Bool.false_eq_true, Bool.not_eq_true', decide_true, decide_false, decide_eq_true_eq])
  exact ⟨s11, h1⟩
theorem names_apart (rs : List PR) (n : Nat) (hn : n ≤ 100) (h1 : (rs.map PR.n).Nodup) (h2 : ∀ r ∈ rs, idnum r.n < 60) : (((rs ++ (List.range n).map (qrow 1))).map PR.n).Nodup := by
  rw [List.map_append, List.nodup_append]
  refine ⟨h1, ?_, ?_⟩
  · rw [List.map_map]
    refine List.Pairwise.map _ ?_ (List.Pairwise.and_mem.mp List.nodup_range)
    intro a b ⟨ha, hb, hab⟩ e
    rw [List.mem_range] at ha hb
    have e' : qn a = qn b := e
    have := congrArg idnum e'
    rw [qn_num a (by omega), qn_num b (by omega)] at this
    omega
  · intro a ha b hb e
    subst e
    obtain ⟨r, hr, rfl⟩ := List.mem_map.mp ha
    obtain ⟨q, hq, e2⟩ := List.mem_map.mp hb
    obtain ⟨k, hk, rfl⟩ := List.mem_map.mp hq
    rw [List.mem_range] at hk
    have e' : qn k = r.n := e2
    have := h2 r hr
    rw [← e', qn_num k (by omega)] at this
    omega
theorem case_aa : m_is_case [.tuple [.tuple [.str (Str.ofString "a"), .str (Str.ofString "a")], .tuple []]] = .ret (.bool false) false .none := by
  refine is_case_s _ _ false true ?_ e_words
  exact gd_nil.aa
end PV.Lw
namespace PV.Lw
open PySem L2 PV

theorem app_rows (a b : List PR) (h : a.length + b.length ≤ 1000) : bAdd (psD a) (psD b) = some (psD (a ++ b), false) := by
  rw [add_tup (by rw [List.length_map, List.length_map]; omega), ← List.map_append]
theorem law_tail (ns ws : D) (pool : Sl) (m : Int) (hm : 0 ≤ m) (hm2 : m ≤ 60) (p c : List Str) (rs : List PR) (hR : Rs rs) (hl : (rs.length : Int) = m) (hid : ∀ r ∈ rs, idnum r.n < 60) (hp : Gd p) (hc : Gd c) :
    ∃ ρ', den (k := .B) Y_law (.bCons cd_law_s6 (.bCons cd_law_s7 (.bCons cd_law_s8 (.bCons cd_law_s9 (.bCons cd_law_s10 (.bCons cd_law_s11 (.bCons cd_law_s12 .bNil))))))) [.val ns, pool, .val ws, .val (.int m), .val (csD p c), .val (psD rs), .no, .no, .no, .no, .no, .no] = .rt (.bool true) false ρ' := by
  obtain ⟨q1, q2, q3⟩ := hR.same hp hc
  have e6 : den Y_law (.gNm 6) = tgName 6 := rfl
  have e9 : den Y_law (.gNm 9) = tgName 9 := rfl
  have e11 : den Y_law (.gNm 11) = tgName 11 := rfl
  obtain ⟨s6, s7, l1, p6, p7⟩ := loop_b0 (.val ns) pool (.val ws) (.val (csD p c)) .no .no .no .no m rs hR
  have hmr : (61 - m < 1000000 ∧ (-1000000 : Int) < 61 - m) := ⟨by omega, by omega⟩
  have mc := more_comp ns ws (csD p c) m hm (by omega) pool rs s6 s7
  generalize hQ : (List.range (61 - m).toNat).map (qrow 1) = qs at mc
  have ql : qs.length = (61 - m).toNat := by rw [← hQ]; simp
  have rl := hR.len
  have ap := app_rows rs qs (by omega)
  -- the three that are none
  have b1 : m_is_precedents [psD (rs ++ qs)] = .ret (.bool false) false .none := is_precs_long _ (by rw [List.length_map, List.length_append]; omega)
  have tw : m_is_precedents [psD (rs.take 1 ++ [qrow 1 0, qrow (-1) 0])] = .ret (.bool false) false .none := by
    rw [is_precs_s _ (by rw [List.length_append, List.length_take]; simp; omega) (fun r hr => ?_), decide_eq_false]
    · intro z
      rw [List.map_append, List.nodup_append] at z
      have := z.2.1
      simp [qrow] at this
    · rcases List.mem_append.mp hr with hr | hr
      · exact hR.ok r (List.mem_of_mem_take hr)
      · simp only [List.mem_cons, List.not_mem_nil, or_false] at hr
        rcases hr with rfl | rfl
        · exact q_ok 1 (.inl rfl) 0 (by decide)
        · exact q_ok (-1) (.inr rfl) 0 (by decide)
  have nl : m_is_precedents [.list (rs.map PR.d)] = .ret (.bool false) false .none := is_precs_not _ rfl
  have ap2 := app_rows (rs.take 1) [qrow 1 0, qrow (-1) 0] (by rw [List.length_take]; simp; omega)
  have q100 : Str.ofString "q100" = qn 0 := by decide +kernel
  have ap2' : bAdd (.tuple ((rs.take 1).map PR.d)) (.tuple [.tuple [.str (qn 0), .tuple [], .tuple [], .int 1], .tuple [.str (qn 0), .tuple [], .tuple [], .int (-1)]]) = some (psD (rs.take 1 ++ [qrow 1 0, qrow (-1) 0]), false) := ap2
  have ct1 : cutD (rs.map PR.d) none (some 1) = (rs.take 1).map PR.d := by
    rw [List.map_take]; exact cut_hi _ 1
  have ct60 : cutD ((rs ++ qs).map PR.d) none (some 60) = ((rs ++ qs).take 60).map PR.d := by
    rw [List.map_take]; exact cut_hi _ 60
  have hR2 : Rs ((rs ++ qs).take 60) := by
    refine ⟨by rw [List.length_take]; omega, fun r hr => ?_, ?_⟩
    · rcases List.mem_append.mp (List.mem_of_mem_take hr) with hr | hr
      · exact hR.ok r hr
      · rw [← hQ] at hr
        obtain ⟨k, hk, rfl⟩ := List.mem_map.mp hr
        rw [List.mem_range] at hk
        exact q_ok 1 (.inl rfl) k (by omega)
    · have := names_apart rs (61 - m).toNat (by omega) hR.nd hid
      rw [hQ] at this
      rw [List.map_take]
      exact this.sublist (List.take_sublist _ _)
  obtain ⟨r1, r2, r3⟩ := hR2.same hp hc
  obtain ⟨s11, l2⟩ := loop_b1 (.val ns) pool (.val ws) (.val (.int m)) (.val (psD rs)) s6 s7 (.val (psD (rs ++ qs))) (svSl (some .no)) (.val (psD (rs.take 1 ++ [qrow 1 0, qrow (-1) 0]))) (csD p c) [psD (rs ++ qs), psD (rs.take 1 ++ [qrow 1 0, qrow (-1) 0]), .list (rs.map PR.d)] (by
    intro d hd
    simp only [List.mem_cons, List.not_mem_nil, or_false] at hd
    rcases hd with rfl | rfl | rfl
    · exact b1
    · exact tw
    · exact nl)
  simp only [sv_no] at l2
  have hP : m_is_precedents [psD rs] = .ret (.bool true) false .none := by rw [is_precs_s rs hR.len hR.ok, decide_eq_true hR.nd]
  have z1 := outcome_c (psD rs) .none (rule_badcase _ _ hP (is_case_no .none rfl))
  have z2 := outcome_c (psD rs) _ (rule_badcase _ _ hP case_aa)
  have lt : ∀ ds : List D, cList [.tuple ds] = some (.list ds, true) := fun _ => rfl
  refine ⟨[.val ns, pool, .val ws, .val (.int m), .val (csD p c), .val (psD rs), s6, s7, .val (psD (rs ++ qs)), .no, .val (psD (rs.take 1 ++ [qrow 1 0, qrow (-1) 0])), s11], ?_⟩
  simp -implicitDefEqProofs only [cd_law_s6, cd_law_s7, cd_law_s8, cd_law_s9, cd_law_s10, cd_law_s11, cd_law_s12, m_law, cd_law, ys_law_0, ys_law_1, ys_law_2, ys_law_3, ys_law_4, ys_law_5, ys_law_6, ys_law_7, ys_law_8, q1, q2, q3, e6, e9, e11, l1, hmr, and_self, mc, ap, ct1, q100, ap2', lt, l2, ct60, r1, r2, r3, z1, z2, bind_ok, bind_ex, fl_ok, fl_ex, seq_nx, seq_rt, seq_bk, seq_ct, seq_ex, x_run, fin_nx, fin_rt, fin_ex, exit_none, exit_some, opt_some, d_eVar, d_eMov, d_eInt, d_eStr, d_eBl, d_eNon, d_eGlob, x_q1, x_q2, d_eBin, d_eCmp, d_eIx, chB_b, x_c1, x_c2, x_c4, d_eChain, d_eOne, andB_b, orB_b, d_eAnd, d_eOr, notV_b, d_eNot, x_tupV, x_lstV, d_eTup, d_eLst, x_cbV, d_eCB, retV_ret, retV_ex, retIo_own, retIo_io, x_call0, x_call1, d_eCall, x_isiV, d_eIsi, x_negV, d_eNeg, d_eDicK, d_eDicT, x_sl1, x_sl2, x_sl3, d_eSl, x_o1, d_oNone, d_oSome, x_revV, d_eRevL, x_compV, compFin_ok, d_eComp, d_eCompB, d_ePop, x_valA, d_aVal, d_aRef, d_lNil, x_l1, x_l2, d_lCons, blT_b, d_tE, d_tCmp, d_tChain, d_tW, x_notT, d_tNot, d_wOne, x_andT, x_orT, d_wAnd, d_wOr, d_cNil, d_cOne, itV_l, itV_t, itV_s, d_iIt, d_gNm, d_gTup, x_retS, d_sRet, d_sRetN, x_expS, d_sExp, x_ifS, d_sIf, d_sPass, d_sBrk, d_sCnt, x_asgS, d_sSet, x_tupS, d_sTup, x_appS, d_sApp, x_putS, x_putS2, d_sPut, x_forS, d_sFor, d_sWhile, d_sRaise, hand_nx, hand_rt, hand_ex, d_sTry, d_hNil, d_hCons, hands_nil, hands_cons, noEx_nx, noEx_rt, d_bNil, d_bCons, rho0, fCompB, wipeR, unwipe, sv_no, sv_val, sv_own, AV.ct, slCt, Sl.ct, Sl.od, cts, avVals, x_stOk, pl_no, pl_val, pl_own, slOf, tgAll, k_add, k_sub, k_mul, k_div, k_mod, k_pow, k_eq, k_ne, k_lt, k_le, k_gt, k_ge, k_is, k_isn, k_in, k_nin, isi_non, isi_bl, isi_int, isi_str, isi_lst, isi_tup, isi_dic, add_int, sub_int', lt_int', le_int', gt_int', ge_int', eq_int, ne_int, eq_str, ne_str, is_none, isn_none, is_bool, isn_bool, isNoneD, isBoolD, in_lst, in_tup, nin_lst, nin_tup, in_sgn, nin_sgn, len_lst, len_tup, tup_lst, tup_tup, lst_tup, int_int, x_rg1V, d_iRg1, pow18, ix_t0, ix_t1, ix_t2, ix_t3, ix_l0, sSl, Bf.sem, lk, lkD, deOf, lsAt, reOwn, dcAt, putAt, List.mapIdx_cons, List.mapIdx_nil, List.replicate, List.length_cons, List.length_nil, List.map_cons, List.map_nil, List.cons_append, List.nil_append, List.append_nil, List.set, List.getElem?_cons_zero, List.getElem?_cons_succ, List.getElem?_nil, List.getElem?_map, Option.map_some, Option.map_none, Option.getD_some, Option.getD_none, Option.or_some, Option.none_or, Option.some_or, ↓reduceIte, reduceCtorEq, Option.some.injEq, Nat.zero_add, Nat.reduceAdd, Nat.reduceSub, Nat.reduceLeDiff, Nat.reduceEqDiff, Nat.reduceLT, Nat.sub_self, Nat.add_one_sub_one, Bool.not_true, Bool.not_false, Bool.not_not, Bool.and_true, Bool.true_and, Bool.and_false, Bool.false_and, Bool.or_true, Bool.true_or, Bool.or_false, Bool.false_or, Bool.false_eq_true, Bool.not_eq_true', decide_true, decide_false, decide_eq_true_eq]
theorem law_holds (ns : List Int) (hl : ns.length ≤ 63) : ∃ t d', m_law [(PyData.list (List.map PyData.int ns))] = .ret (.bool true) t d' := by
  obtain ⟨ps0, t0⟩ := pool_s 1000 (by decide) (by decide) ns hl
  obtain ⟨n, ps1, t1, t2, t3⟩ := take_s ps0 4 (by decide)
  obtain ⟨ws, ps2, w1, w2, w3, w4⟩ := words_s ps1 (1 + n) (by omega) (by omega)
  obtain ⟨k, ps3, t4, t5, t6⟩ := take_s ps2 7 (by decide)
  obtain ⟨e, ps4, t7, t8, t9⟩ := take_s ps3 8 (by decide)
  obtain ⟨p, ps5, c1, c2⟩ := side_s ps4 ws w2 (by omega)
  obtain ⟨c, ps6, c3, c4⟩ := side_s ps5 ws w2 (by omega)
  have e5 : m_law [(PyData.list (List.map PyData.int ns))] = Fl.fin none (den (k := .B) Y_law cd_law [.val (PyData.list (List.map PyData.int ns)), .no, .no, .no, .no, .no, .no, .no, .no, .no, .no, .no]) := by
    unfold m_law
    rw [x_run]
    exact if_pos rfl
  have gp := c2.gd w3 w4
  have gc := c4.gd w3 w4
  -- the count
  have run : ∀ m : Int, 0 ≤ m → m ≤ 60 → ((e = 7 ∧ m = 60) ∨ (¬ e = 7 ∧ m = k)) → ∃ t d', m_law [(PyData.list (List.map PyData.int ns))] = .ret (.bool true) t d' := by
    intro m h0 h1 hm
    obtain ⟨rs, ps7, r1, r2, r3, r4, r5, r6, r7⟩ := precs_s ps6 ws m w2 w3 h0 h1
    have hR : Rs rs := ⟨by omega, fun r hr => ⟨(r4 r hr).1, (r5 r hr).gd w3 w4, (r6 r hr).gd w3 w4, r7 r hr⟩, r3⟩
    obtain ⟨ρ', f⟩ := law_tail (PyData.list (List.map PyData.int ns)) (PyData.list (List.map PyData.str ws)) (.own (PyData.list (List.map PyData.int ps7))) m h0 h1 p c rs hR (by omega) (fun r hr => (r4 r hr).2) gp gc
    refine ⟨false, .none, ?_⟩
    have e6 : den (k := .B) Y_law cd_law [.val (PyData.list (List.map PyData.int ns)), .no, .no, .no, .no, .no, .no, .no, .no, .no, .no, .no] = den (k := .B) Y_law (.bCons cd_law_s6 (.bCons cd_law_s7 (.bCons cd_law_s8 (.bCons cd_law_s9 (.bCons cd_law_s10 (.bCons cd_law_s11 (.bCons cd_law_s12 .bNil))))))) [.val (PyData.list (List.map PyData.int ns)), .own (PyData.list (List.map PyData.int ps7)), .val (PyData.list (List.map PyData.str ws)), .val (.int m), .val (csD p c), .val (psD rs), .no, .no, .no, .no, .no, .no] := by
      rcases hm with ⟨h2, rfl⟩ | ⟨h2, rfl⟩
      · simp -implicitDefEqProofs only [cd_law_s0, cd_law_s1, cd_law_s2, cd_law_s3, cd_law_s4, cd_law_s5, m_law, cd_law, ys_law_0, ys_law_1, ys_law_2, ys_law_3, ys_law_4, ys_law_5, ys_law_6, ys_law_7, ys_law_8, t0, t1, w1, t4, t7, h2, c1, c3, r1, bind_ok, bind_ex, fl_ok, fl_ex, seq_nx, seq_rt, seq_bk, seq_ct, seq_ex, x_run, fin_nx, fin_rt, fin_ex, exit_none, exit_some, opt_some, d_eVar, d_eMov, d_eInt, d_eStr, d_eBl, d_eNon, d_eGlob, x_q1, x_q2, d_eBin, d_eCmp, d_eIx, chB_b, x_c1, x_c2, x_c4, d_eChain, d_eOne, andB_b, orB_b, d_eAnd, d_eOr, notV_b, d_eNot, x_tupV, x_lstV, d_eTup, d_eLst, x_cbV, d_eCB, retV_ret, retV_ex, retIo_own, retIo_io, x_call0, x_call1, d_eCall, x_isiV, d_eIsi, x_negV, d_eNeg, d_eDicK, d_eDicT, x_sl1, x_sl2, x_sl3, d_eSl, x_o1, d_oNone, d_oSome, x_revV, d_eRevL, x_compV, compFin_ok, d_eComp, d_eCompB, d_ePop, x_valA, d_aVal, d_aRef, d_lNil, x_l1, x_l2, d_lCons, blT_b, d_tE, d_tCmp, d_tChain, d_tW, x_notT, d_tNot, d_wOne, x_andT, x_orT, d_wAnd, d_wOr, d_cNil, d_cOne, itV_l, itV_t, itV_s, d_iIt, d_gNm, d_gTup, x_retS, d_sRet, d_sRetN, x_expS, d_sExp, x_ifS, d_sIf, d_sPass, d_sBrk, d_sCnt, x_asgS, d_sSet, x_tupS, d_sTup, x_appS, d_sApp, x_putS, x_putS2, d_sPut, x_forS, d_sFor, d_sWhile, d_sRaise, hand_nx, hand_rt, hand_ex, d_sTry, d_hNil, d_hCons, hands_nil, hands_cons, noEx_nx, noEx_rt, d_bNil, d_bCons, rho0, fCompB, wipeR, unwipe, sv_no, sv_val, sv_own, AV.ct, slCt, Sl.ct, Sl.od, cts, avVals, x_stOk, pl_no, pl_val, pl_own, slOf, tgAll, k_add, k_sub, k_mul, k_div, k_mod, k_pow, k_eq, k_ne, k_lt, k_le, k_gt, k_ge, k_is, k_isn, k_in, k_nin, isi_non, isi_bl, isi_int, isi_str, isi_lst, isi_tup, isi_dic, add_int, sub_int', lt_int', le_int', gt_int', ge_int', eq_int, ne_int, eq_str, ne_str, is_none, isn_none, is_bool, isn_bool, isNoneD, isBoolD, in_lst, in_tup, nin_lst, nin_tup, in_sgn, nin_sgn, len_lst, len_tup, tup_lst, tup_tup, lst_tup, int_int, x_rg1V, d_iRg1, pow18, ix_t0, ix_t1, ix_t2, ix_t3, ix_l0, sSl, Bf.sem, lk, lkD, deOf, lsAt, reOwn, dcAt, putAt, List.mapIdx_cons, List.mapIdx_nil, List.replicate, List.length_cons, List.length_nil, List.map_cons, List.map_nil, List.cons_append, List.nil_append, List.append_nil, List.set, List.getElem?_cons_zero, List.getElem?_cons_succ, List.getElem?_nil, List.getElem?_map, Option.map_some, Option.map_none, Option.getD_some, Option.getD_none, Option.or_some, Option.none_or, Option.some_or, ↓reduceIte, reduceCtorEq, Option.some.injEq, Nat.zero_add, Nat.reduceAdd, Nat.reduceSub, Nat.reduceLeDiff, Nat.reduceEqDiff, Nat.reduceLT, Nat.sub_self, Nat.add_one_sub_one, Bool.not_true, Bool.not_false, Bool.not_not, Bool.and_true, Bool.true_and, Bool.and_false, Bool.false_and, Bool.or_true, Bool.true_or, Bool.or_false, Bool.false_or, Bool.false_eq_true, Bool.not_eq_true', decide_true, decide_false, decide_eq_true_eq]
      · simp -implicitDefEqProofs only [cd_law_s0, cd_law_s1, cd_law_s2, cd_law_s3, cd_law_s4, cd_law_s5, m_law, cd_law, ys_law_0, ys_law_1, ys_law_2, ys_law_3, ys_law_4, ys_law_5, ys_law_6, ys_law_7, ys_law_8, t0, t1, w1, t4, t7, h2, c1, c3, r1, bind_ok, bind_ex, fl_ok, fl_ex, seq_nx, seq_rt, seq_bk, seq_ct, seq_ex, x_run, fin_nx, fin_rt, fin_ex, exit_none, exit_some, opt_some, d_eVar, d_eMov, d_eInt, d_eStr, d_eBl, d_eNon, d_eGlob, x_q1, x_q2, d_eBin, d_eCmp, d_eIx, chB_b, x_c1, x_c2, x_c4, d_eChain, d_eOne, andB_b, orB_b, d_eAnd, d_eOr, notV_b, d_eNot, x_tupV, x_lstV, d_eTup, d_eLst, x_cbV, d_eCB, retV_ret, retV_ex, retIo_own, retIo_io, x_call0, x_call1, d_eCall, x_isiV, d_eIsi, x_negV, d_eNeg, d_eDicK, d_eDicT, x_sl1, x_sl2, x_sl3, d_eSl, x_o1, d_oNone, d_oSome, x_revV, d_eRevL, x_compV, compFin_ok, d_eComp, d_eCompB, d_ePop, x_valA, d_aVal, d_aRef, d_lNil, x_l1, x_l2, d_lCons, blT_b, d_tE, d_tCmp, d_tChain, d_tW, x_notT, d_tNot, d_wOne, x_andT, x_orT, d_wAnd, d_wOr, d_cNil, d_cOne, itV_l, itV_t, itV_s, d_iIt, d_gNm, d_gTup, x_retS, d_sRet, d_sRetN, x_expS, d_sExp, x_ifS, d_sIf, d_sPass, d_sBrk, d_sCnt, x_asgS, d_sSet, x_tupS, d_sTup, x_appS, d_sApp, x_putS, x_putS2, d_sPut, x_forS, d_sFor, d_sWhile, d_sRaise, hand_nx, hand_rt, hand_ex, d_sTry, d_hNil, d_hCons, hands_nil, hands_cons, noEx_nx, noEx_rt, d_bNil, d_bCons, rho0, fCompB, wipeR, unwipe, sv_no, sv_val, sv_own, AV.ct, slCt, Sl.ct, Sl.od, cts, avVals, x_stOk, pl_no, pl_val, pl_own, slOf, tgAll, k_add, k_sub, k_mul, k_div, k_mod, k_pow, k_eq, k_ne, k_lt, k_le, k_gt, k_ge, k_is, k_isn, k_in, k_nin, isi_non, isi_bl, isi_int, isi_str, isi_lst, isi_tup, isi_dic, add_int, sub_int', lt_int', le_int', gt_int', ge_int', eq_int, ne_int, eq_str, ne_str, is_none, isn_none, is_bool, isn_bool, isNoneD, isBoolD, in_lst, in_tup, nin_lst, nin_tup, in_sgn, nin_sgn, len_lst, len_tup, tup_lst, tup_tup, lst_tup, int_int, x_rg1V, d_iRg1, pow18, ix_t0, ix_t1, ix_t2, ix_t3, ix_l0, sSl, Bf.sem, lk, lkD, deOf, lsAt, reOwn, dcAt, putAt, List.mapIdx_cons, List.mapIdx_nil, List.replicate, List.length_cons, List.length_nil, List.map_cons, List.map_nil, List.cons_append, List.nil_append, List.append_nil, List.set, List.getElem?_cons_zero, List.getElem?_cons_succ, List.getElem?_nil, List.getElem?_map, Option.map_some, Option.map_none, Option.getD_some, Option.getD_none, Option.or_some, Option.none_or, Option.some_or, ↓reduceIte, reduceCtorEq, Option.some.injEq, Nat.zero_add, Nat.reduceAdd, Nat.reduceSub, Nat.reduceLeDiff, Nat.reduceEqDiff, Nat.reduceLT, Nat.sub_self, Nat.add_one_sub_one, Bool.not_true, Bool.not_false, Bool.not_not, Bool.and_true, Bool.true_and, Bool.and_false, Bool.false_and, Bool.or_true, Bool.true_or, Bool.or_false, Bool.false_or, Bool.false_eq_true, Bool.not_eq_true', decide_true, decide_false, decide_eq_true_eq]
    rw [e5, e6, f]; rfl
  by_cases h : e = 7
  · exact run 60 (by decide) (by decide) (.inl ⟨h, rfl⟩)
  · exact run k t5 (by omega) (.inr ⟨h, rfl⟩)
end PV.Lw
namespace PV.Lw
open PySem L2 PV
section
variable {P : Program} {w : World} {K : PySem.W.Frag} {mg : Str → Option Value} {base : Heap} {C : Nat → Addr}
def en__law_pool (a : Addr) (fd : FuncData) : FEnt := ⟨"_law_pool", a, fd, ["script", "count"], m__law_pool, none⟩
theorem ok__law_pool (M : ModK K mg C nm ks (cl.map (·.1))) {a : Addr} {fd : FuncData} (F : Fun K "_law_pool" "_law_pool" st__law_pool a fd) (g : mg "_law_pool" = some (.ref a)) (b : Binds K fd ["script", "count"] []) : EOk P w K mg base C nm 1 (en__law_pool a fd) :=
  ⟨fn_code (k := 0) M (fun _ _ _ => rfl) F sc__law_pool (by intro m h; cases h) (by decide) (es := []) (fun e he => by cases he) rfl rfl cd__law_pool ch__law_pool, g, F.kp, b, (by intro m h; cases h)⟩
def en__law_take (a : Addr) (fd : FuncData) : FEnt := ⟨"_law_take", a, fd, ["pool", "size"], m__law_take, (some 0)⟩
theorem ok__law_take (M : ModK K mg C nm ks (cl.map (·.1))) {a : Addr} {fd : FuncData} (F : Fun K "_law_take" "_law_take" st__law_take a fd) (g : mg "_law_take" = some (.ref a)) (b : Binds K fd ["pool", "size"] []) : EOk P w K mg base C nm 1 (en__law_take a fd) :=
  ⟨fn_code (k := 0) M (fun _ _ _ => rfl) F sc__law_take (by intro m h; cases h; exact (by decide : 0 < 2)) (by decide) (es := []) (fun e he => by cases he) rfl rfl cd__law_take ch__law_take, g, F.kp, b, (by intro m h; cases h; exact (by decide : 0 < 2))⟩
def en__law_words (a : Addr) (fd : FuncData) : FEnt := ⟨"_law_words", a, fd, ["pool", "count"], m__law_words, (some 0)⟩
theorem ok__law_words (M : ModK K mg C nm ks (cl.map (·.1))) {a : Addr} {fd : FuncData} (F : Fun K "_law_words" "_law_words" st__law_words a fd) (g : mg "_law_words" = some (.ref a)) (b : Binds K fd ["pool", "count"] []) {a__law_take : Addr} {fd__law_take : FuncData} (h__law_take : EOk P w K mg base C nm 1 (en__law_take a__law_take fd__law_take)) : EOk P w K mg base C nm 2 (en__law_words a fd) :=
  ⟨fn_code (k := 1) M (fun _ _ _ => rfl) F sc__law_words (by intro m h; cases h; exact (by decide : 0 < 2)) (by decide) (es := [en__law_take a__law_take fd__law_take]) (by
    intro e he
    simp only [List.mem_cons, List.not_mem_nil, or_false] at he
    rcases he with rfl
    · exact eok_up h__law_take (by decide)) rfl rfl cd__law_words ch__law_words, g, F.kp, b, (by intro m h; cases h; exact (by decide : 0 < 2))⟩
def en__law_ids (a : Addr) (fd : FuncData) : FEnt := ⟨"_law_ids", a, fd, ["pool", "count"], m__law_ids, (some 0)⟩
theorem ok__law_ids (M : ModK K mg C nm ks (cl.map (·.1))) {a : Addr} {fd : FuncData} (F : Fun K "_law_ids" "_law_ids" st__law_ids a fd) (g : mg "_law_ids" = some (.ref a)) (b : Binds K fd ["pool", "count"] []) {a__law_take : Addr} {fd__law_take : FuncData} (h__law_take : EOk P w K mg base C nm 1 (en__law_take a__law_take fd__law_take)) : EOk P w K mg base C nm 2 (en__law_ids a fd) :=
  ⟨fn_code (k := 1) M (fun _ _ _ => rfl) F sc__law_ids (by intro m h; cases h; exact (by decide : 0 < 2)) (by decide) (es := [en__law_take a__law_take fd__law_take]) (by
    intro e he
    simp only [List.mem_cons, List.not_mem_nil, or_false] at he
    rcases he with rfl
    · exact eok_up h__law_take (by decide)) rfl rfl cd__law_ids ch__law_ids, g, F.kp, b, (by intro m h; cases h; exact (by decide : 0 < 2))⟩
def en__law_turn (a : Addr) (fd : FuncData) : FEnt := ⟨"_law_turn", a, fd, ["pool", "rows"], m__law_turn, (some 0)⟩
theorem ok__law_turn (M : ModK K mg C nm ks (cl.map (·.1))) {a : Addr} {fd : FuncData} (F : Fun K "_law_turn" "_law_turn" st__law_turn a fd) (g : mg "_law_turn" = some (.ref a)) (b : Binds K fd ["pool", "rows"] []) {a__law_take : Addr} {fd__law_take : FuncData} (h__law_take : EOk P w K mg base C nm 1 (en__law_take a__law_take fd__law_take)) : EOk P w K mg base C nm 2 (en__law_turn a fd) :=
  ⟨fn_code (k := 1) M (fun _ _ _ => rfl) F sc__law_turn (by intro m h; cases h; exact (by decide : 0 < 2)) (by decide) (es := [en__law_take a__law_take fd__law_take]) (by
    intro e he
    simp only [List.mem_cons, List.not_mem_nil, or_false] at he
    rcases he with rfl
    · exact eok_up h__law_take (by decide)) rfl rfl cd__law_turn ch__law_turn, g, F.kp, b, (by intro m h; cases h; exact (by decide : 0 < 2))⟩
def en__law_side (a : Addr) (fd : FuncData) : FEnt := ⟨"_law_side", a, fd, ["pool", "words"], m__law_side, (some 0)⟩
theorem ok__law_side (M : ModK K mg C nm ks (cl.map (·.1))) {a : Addr} {fd : FuncData} (F : Fun K "_law_side" "_law_side" st__law_side a fd) (g : mg "_law_side" = some (.ref a)) (b : Binds K fd ["pool", "words"] []) {a__law_take : Addr} {fd__law_take : FuncData} (h__law_take : EOk P w K mg base C nm 1 (en__law_take a__law_take fd__law_take)) {a__law_turn : Addr} {fd__law_turn : FuncData} (h__law_turn : EOk P w K mg base C nm 2 (en__law_turn a__law_turn fd__law_turn)) : EOk P w K mg base C nm 3 (en__law_side a fd) :=
  ⟨fn_code (k := 2) M (fun _ _ _ => rfl) F sc__law_side (by intro m h; cases h; exact (by decide : 0 < 2)) (by decide) (es := [en__law_take a__law_take fd__law_take, en__law_turn a__law_turn fd__law_turn]) (by
    intro e he
    simp only [List.mem_cons, List.not_mem_nil, or_false] at he
    rcases he with rfl | rfl
    · exact eok_up h__law_take (by decide)
    · exact eok_up h__law_turn (by decide)) rfl rfl cd__law_side ch__law_side, g, F.kp, b, (by intro m h; cases h; exact (by decide : 0 < 2))⟩
def en__law_precedents (a : Addr) (fd : FuncData) : FEnt := ⟨"_law_precedents", a, fd, ["pool", "words", "count"], m__law_precedents, (some 0)⟩
theorem ok__law_precedents (M : ModK K mg C nm ks (cl.map (·.1))) {a : Addr} {fd : FuncData} (F : Fun K "_law_precedents" "_law_precedents" st__law_precedents a fd) (g : mg "_law_precedents" = some (.ref a)) (b : Binds K fd ["pool", "words", "count"] []) {a__law_take : Addr} {fd__law_take : FuncData} (h__law_take : EOk P w K mg base C nm 1 (en__law_take a__law_take fd__law_take)) {a__law_ids : Addr} {fd__law_ids : FuncData} (h__law_ids : EOk P w K mg base C nm 2 (en__law_ids a__law_ids fd__law_ids)) {a__law_turn : Addr} {fd__law_turn : FuncData} (h__law_turn : EOk P w K mg base C nm 2 (en__law_turn a__law_turn fd__law_turn)) {a__law_side : Addr} {fd__law_side : FuncData} (h__law_side : EOk P w K mg base C nm 3 (en__law_side a__law_side fd__law_side)) : EOk P w K mg base C nm 4 (en__law_precedents a fd) :=
  ⟨fn_code (k := 3) M (fun _ _ _ => rfl) F sc__law_precedents (by intro m h; cases h; exact (by decide : 0 < 3)) (by decide) (es := [en__law_take a__law_take fd__law_take, en__law_ids a__law_ids fd__law_ids, en__law_turn a__law_turn fd__law_turn, en__law_side a__law_side fd__law_side]) (by
    intro e he
    simp only [List.mem_cons, List.not_mem_nil, or_false] at he
    rcases he with rfl | rfl | rfl | rfl
    · exact eok_up h__law_take (by decide)
    · exact eok_up h__law_ids (by decide)
    · exact eok_up h__law_turn (by decide)
    · exact eok_up h__law_side (by decide)) rfl rfl cd__law_precedents ch__law_precedents, g, F.kp, b, (by intro m h; cases h; exact (by decide : 0 < 3))⟩
def en__law_same (a : Addr) (fd : FuncData) : FEnt := ⟨"_law_same", a, fd, ["value", "due"], m__law_same, none⟩
def enr__law_same (m : Nat) (a : Addr) (fd : FuncData) : FEnt := ⟨"_law_same", a, fd, ["value", "due"], r__law_same m, none⟩
theorem okr__law_same (M : ModK K mg C nm ks (cl.map (·.1))) {a : Addr} {fd : FuncData} (F : Fun K "_law_same" "_law_same" st__law_same a fd) (g : mg "_law_same" = some (.ref a)) (b : Binds K fd ["value", "due"] []) (m : Nat) : EOk P w K mg base C nm (1 + m) (enr__law_same m a fd) := by
  induction m with
  | zero => exact ⟨fnk_no, g, F.kp, b, (by intro m h; cases h)⟩
  | succ m ih =>
    exact ⟨fn_code (k := 1 + m) M (fun _ _ _ => rfl) F sc__law_same (by intro m h; cases h) (by decide) (es := [enr__law_same m a fd]) (by
      intro e he
      simp only [List.mem_cons, List.not_mem_nil, or_false] at he
      rcases he with rfl
      · exact ih) rfl rfl cd__law_same ch__law_same, g, F.kp, b, (by intro m h; cases h)⟩
theorem ok__law_same (M : ModK K mg C nm ks (cl.map (·.1))) {a : Addr} {fd : FuncData} (F : Fun K "_law_same" "_law_same" st__law_same a fd) (g : mg "_law_same" = some (.ref a)) (b : Binds K fd ["value", "due"] []) : EOk P w K mg base C nm 9 (en__law_same a fd) := okr__law_same M F g b 8
def en_are_distinct (a : Addr) (fd : FuncData) : FEnt := ⟨"are_distinct", a, fd, ["parts"], m_are_distinct, none⟩
theorem ok_are_distinct (M : ModK K mg C nm ks (cl.map (·.1))) {a : Addr} {fd : FuncData} (F : Fun K "are_distinct" "are_distinct" st_are_distinct a fd) (g : mg "are_distinct" = some (.ref a)) (b : Binds K fd ["parts"] []) : EOk P w K mg base C nm 1 (en_are_distinct a fd) :=
  ⟨fn_code (k := 0) M (fun _ _ _ => rfl) F sc_are_distinct (by intro m h; cases h) (by decide) (es := []) (fun e he => by cases he) rfl rfl cd_are_distinct ch_are_distinct, g, F.kp, b, (by intro m h; cases h)⟩
def en_is_tuple (a : Addr) (fd : FuncData) : FEnt := ⟨"is_tuple", a, fd, ["value", "size"], m_is_tuple, none⟩
theorem ok_is_tuple (M : ModK K mg C nm ks (cl.map (·.1))) {a : Addr} {fd : FuncData} (F : Fun K "is_tuple" "is_tuple" st_is_tuple a fd) (g : mg "is_tuple" = some (.ref a)) (b : Binds K fd ["value", "size"] []) : EOk P w K mg base C nm 1 (en_is_tuple a fd) :=
  ⟨fn_code (k := 0) M (fun _ _ _ => rfl) F sc_is_tuple (by intro m h; cases h) (by decide) (es := []) (fun e he => by cases he) rfl rfl cd_is_tuple ch_is_tuple, g, F.kp, b, (by intro m h; cases h)⟩
def en_is_word (a : Addr) (fd : FuncData) : FEnt := ⟨"is_word", a, fd, ["value"], m_is_word, none⟩
theorem ok_is_word (M : ModK K mg C nm ks (cl.map (·.1))) {a : Addr} {fd : FuncData} (F : Fun K "is_word" "is_word" st_is_word a fd) (g : mg "is_word" = some (.ref a)) (b : Binds K fd ["value"] []) : EOk P w K mg base C nm 1 (en_is_word a fd) :=
  ⟨fn_code (k := 0) M (fun _ _ _ => rfl) F sc_is_word (by intro m h; cases h) (by decide) (es := []) (fun e he => by cases he) rfl rfl cd_is_word ch_is_word, g, F.kp, b, (by intro m h; cases h)⟩
def en_is_words (a : Addr) (fd : FuncData) : FEnt := ⟨"is_words", a, fd, ["value", "least", "most"], m_is_words, none⟩
theorem ok_is_words (M : ModK K mg C nm ks (cl.map (·.1))) {a : Addr} {fd : FuncData} (F : Fun K "is_words" "is_words" st_is_words a fd) (g : mg "is_words" = some (.ref a)) (b : Binds K fd ["value", "least", "most"] []) {a_are_distinct : Addr} {fd_are_distinct : FuncData} (h_are_distinct : EOk P w K mg base C nm 1 (en_are_distinct a_are_distinct fd_are_distinct)) {a_is_word : Addr} {fd_is_word : FuncData} (h_is_word : EOk P w K mg base C nm 1 (en_is_word a_is_word fd_is_word)) : EOk P w K mg base C nm 2 (en_is_words a fd) :=
  ⟨fn_code (k := 1) M (fun _ _ _ => rfl) F sc_is_words (by intro m h; cases h) (by decide) (es := [en_are_distinct a_are_distinct fd_are_distinct, en_is_word a_is_word fd_is_word]) (by
    intro e he
    simp only [List.mem_cons, List.not_mem_nil, or_false] at he
    rcases he with rfl | rfl
    · exact eok_up h_are_distinct (by decide)
    · exact eok_up h_is_word (by decide)) rfl rfl cd_is_words ch_is_words, g, F.kp, b, (by intro m h; cases h)⟩
def en_is_case (a : Addr) (fd : FuncData) : FEnt := ⟨"is_case", a, fd, ["value"], m_is_case, none⟩
theorem ok_is_case (M : ModK K mg C nm ks (cl.map (·.1))) {a : Addr} {fd : FuncData} (F : Fun K "is_case" "is_case" st_is_case a fd) (g : mg "is_case" = some (.ref a)) (b : Binds K fd ["value"] []) {a_is_tuple : Addr} {fd_is_tuple : FuncData} (h_is_tuple : EOk P w K mg base C nm 1 (en_is_tuple a_is_tuple fd_is_tuple)) {a_is_words : Addr} {fd_is_words : FuncData} (h_is_words : EOk P w K mg base C nm 2 (en_is_words a_is_words fd_is_words)) : EOk P w K mg base C nm 3 (en_is_case a fd) :=
  ⟨fn_code (k := 2) M (fun _ _ _ => rfl) F sc_is_case (by intro m h; cases h) (by decide) (es := [en_is_tuple a_is_tuple fd_is_tuple, en_is_words a_is_words fd_is_words]) (by
    intro e he
    simp only [List.mem_cons, List.not_mem_nil, or_false] at he
    rcases he with rfl | rfl
    · exact eok_up h_is_tuple (by decide)
    · exact eok_up h_is_words (by decide)) rfl rfl cd_is_case ch_is_case, g, F.kp, b, (by intro m h; cases h)⟩
def en_is_int (a : Addr) (fd : FuncData) : FEnt := ⟨"is_int", a, fd, ["value"], m_is_int, none⟩
theorem ok_is_int (M : ModK K mg C nm ks (cl.map (·.1))) {a : Addr} {fd : FuncData} (F : Fun K "is_int" "is_int" st_is_int a fd) (g : mg "is_int" = some (.ref a)) (b : Binds K fd ["value"] []) : EOk P w K mg base C nm 1 (en_is_int a fd) :=
  ⟨fn_code (k := 0) M (fun _ _ _ => rfl) F sc_is_int (by intro m h; cases h) (by decide) (es := []) (fun e he => by cases he) rfl rfl cd_is_int ch_is_int, g, F.kp, b, (by intro m h; cases h)⟩
def en_is_precedent (a : Addr) (fd : FuncData) : FEnt := ⟨"is_precedent", a, fd, ["value"], m_is_precedent, none⟩
theorem ok_is_precedent (M : ModK K mg C nm ks (cl.map (·.1))) {a : Addr} {fd : FuncData} (F : Fun K "is_precedent" "is_precedent" st_is_precedent a fd) (g : mg "is_precedent" = some (.ref a)) (b : Binds K fd ["value"] []) {a_is_tuple : Addr} {fd_is_tuple : FuncData} (h_is_tuple : EOk P w K mg base C nm 1 (en_is_tuple a_is_tuple fd_is_tuple)) {a_is_word : Addr} {fd_is_word : FuncData} (h_is_word : EOk P w K mg base C nm 1 (en_is_word a_is_word fd_is_word)) {a_is_case : Addr} {fd_is_case : FuncData} (h_is_case : EOk P w K mg base C nm 3 (en_is_case a_is_case fd_is_case)) {a_is_int : Addr} {fd_is_int : FuncData} (h_is_int : EOk P w K mg base C nm 1 (en_is_int a_is_int fd_is_int)) : EOk P w K mg base C nm 4 (en_is_precedent a fd) :=
  ⟨fn_code (k := 3) M (fun _ _ _ => rfl) F sc_is_precedent (by intro m h; cases h) (by decide) (es := [en_is_tuple a_is_tuple fd_is_tuple, en_is_word a_is_word fd_is_word, en_is_case a_is_case fd_is_case, en_is_int a_is_int fd_is_int]) (by
    intro e he
    simp only [List.mem_cons, List.not_mem_nil, or_false] at he
    rcases he with rfl | rfl | rfl | rfl
    · exact eok_up h_is_tuple (by decide)
    · exact eok_up h_is_word (by decide)
    · exact eok_up h_is_case (by decide)
    · exact eok_up h_is_int (by decide)) rfl rfl cd_is_precedent ch_is_precedent, g, F.kp, b, (by intro m h; cases h)⟩
def en_is_precedents (a : Addr) (fd : FuncData) : FEnt := ⟨"is_precedents", a, fd, ["value"], m_is_precedents, none⟩
theorem ok_is_precedents (M : ModK K mg C nm ks (cl.map (·.1))) {a : Addr} {fd : FuncData} (F : Fun K "is_precedents" "is_precedents" st_is_precedents a fd) (g : mg "is_precedents" = some (.ref a)) (b : Binds K fd ["value"] []) {a_are_distinct : Addr} {fd_are_distinct : FuncData} (h_are_distinct : EOk P w K mg base C nm 1 (en_are_distinct a_are_distinct fd_are_distinct)) {a_is_precedent : Addr} {fd_is_precedent : FuncData} (h_is_precedent : EOk P w K mg base C nm 4 (en_is_precedent a_is_precedent fd_is_precedent)) : EOk P w K mg base C nm 5 (en_is_precedents a fd) :=
  ⟨fn_code (k := 4) M (fun _ _ _ => rfl) F sc_is_precedents (by intro m h; cases h) (by decide) (es := [en_are_distinct a_are_distinct fd_are_distinct, en_is_precedent a_is_precedent fd_is_precedent]) (by
    intro e he
    simp only [List.mem_cons, List.not_mem_nil, or_false] at he
    rcases he with rfl | rfl
    · exact eok_up h_are_distinct (by decide)
    · exact eok_up h_is_precedent (by decide)) rfl rfl cd_is_precedents ch_is_precedents, g, F.kp, b, (by intro m h; cases h)⟩
def en_check_precedents (a : Addr) (fd : FuncData) : FEnt := ⟨"check_precedents", a, fd, ["precedents"], m_check_precedents, none⟩
theorem ok_check_precedents (M : ModK K mg C nm ks (cl.map (·.1))) {a : Addr} {fd : FuncData} (F : Fun K "check_precedents" "check_precedents" st_check_precedents a fd) (g : mg "check_precedents" = some (.ref a)) (b : Binds K fd ["precedents"] []) {a_is_precedents : Addr} {fd_is_precedents : FuncData} (h_is_precedents : EOk P w K mg base C nm 5 (en_is_precedents a_is_precedents fd_is_precedents)) : EOk P w K mg base C nm 6 (en_check_precedents a fd) :=
  ⟨fn_code (k := 5) M (fun _ _ _ => rfl) F sc_check_precedents (by intro m h; cases h) (by decide) (es := [en_is_precedents a_is_precedents fd_is_precedents]) (by
    intro e he
    simp only [List.mem_cons, List.not_mem_nil, or_false] at he
    rcases he with rfl
    · exact eok_up h_is_precedents (by decide)) rfl rfl cd_check_precedents ch_check_precedents, g, F.kp, b, (by intro m h; cases h)⟩
def en_check_case (a : Addr) (fd : FuncData) : FEnt := ⟨"check_case", a, fd, ["case"], m_check_case, none⟩
theorem ok_check_case (M : ModK K mg C nm ks (cl.map (·.1))) {a : Addr} {fd : FuncData} (F : Fun K "check_case" "check_case" st_check_case a fd) (g : mg "check_case" = some (.ref a)) (b : Binds K fd ["case"] []) {a_is_case : Addr} {fd_is_case : FuncData} (h_is_case : EOk P w K mg base C nm 3 (en_is_case a_is_case fd_is_case)) : EOk P w K mg base C nm 4 (en_check_case a fd) :=
  ⟨fn_code (k := 3) M (fun _ _ _ => rfl) F sc_check_case (by intro m h; cases h) (by decide) (es := [en_is_case a_is_case fd_is_case]) (by
    intro e he
    simp only [List.mem_cons, List.not_mem_nil, or_false] at he
    rcases he with rfl
    · exact eok_up h_is_case (by decide)) rfl rfl cd_check_case ch_check_case, g, F.kp, b, (by intro m h; cases h)⟩
def en_with_outcome (a : Addr) (fd : FuncData) : FEnt := ⟨"with_outcome", a, fd, ["precedents", "outcome"], m_with_outcome, none⟩
theorem ok_with_outcome (M : ModK K mg C nm ks (cl.map (·.1))) {a : Addr} {fd : FuncData} (F : Fun K "with_outcome" "with_outcome" st_with_outcome a fd) (g : mg "with_outcome" = some (.ref a)) (b : Binds K fd ["precedents", "outcome"] []) : EOk P w K mg base C nm 1 (en_with_outcome a fd) :=
  ⟨fn_code (k := 0) M (fun _ _ _ => rfl) F sc_with_outcome (by intro m h; cases h) (by decide) (es := []) (fun e he => by cases he) rfl rfl cd_with_outcome ch_with_outcome, g, F.kp, b, (by intro m h; cases h)⟩
def en_sides_of (a : Addr) (fd : FuncData) : FEnt := ⟨"sides_of", a, fd, ["case", "outcome"], m_sides_of, none⟩
theorem ok_sides_of (M : ModK K mg C nm ks (cl.map (·.1))) {a : Addr} {fd : FuncData} (F : Fun K "sides_of" "sides_of" st_sides_of a fd) (g : mg "sides_of" = some (.ref a)) (b : Binds K fd ["case", "outcome"] []) : EOk P w K mg base C nm 1 (en_sides_of a fd) :=
  ⟨fn_code (k := 0) M (fun _ _ _ => rfl) F sc_sides_of (by intro m h; cases h) (by decide) (es := []) (fun e he => by cases he) rfl rfl cd_sides_of ch_sides_of, g, F.kp, b, (by intro m h; cases h)⟩
def en_first_missing (a : Addr) (fd : FuncData) : FEnt := ⟨"first_missing", a, fd, ["factors", "others"], m_first_missing, none⟩
theorem ok_first_missing (M : ModK K mg C nm ks (cl.map (·.1))) {a : Addr} {fd : FuncData} (F : Fun K "first_missing" "first_missing" st_first_missing a fd) (g : mg "first_missing" = some (.ref a)) (b : Binds K fd ["factors", "others"] []) : EOk P w K mg base C nm 1 (en_first_missing a fd) :=
  ⟨fn_code (k := 0) M (fun _ _ _ => rfl) F sc_first_missing (by intro m h; cases h) (by decide) (es := []) (fun e he => by cases he) rfl rfl cd_first_missing ch_first_missing, g, F.kp, b, (by intro m h; cases h)⟩
def en_case_of (a : Addr) (fd : FuncData) : FEnt := ⟨"case_of", a, fd, ["precedent"], m_case_of, none⟩
theorem ok_case_of (M : ModK K mg C nm ks (cl.map (·.1))) {a : Addr} {fd : FuncData} (F : Fun K "case_of" "case_of" st_case_of a fd) (g : mg "case_of" = some (.ref a)) (b : Binds K fd ["precedent"] []) : EOk P w K mg base C nm 1 (en_case_of a fd) :=
  ⟨fn_code (k := 0) M (fun _ _ _ => rfl) F sc_case_of (by intro m h; cases h) (by decide) (es := []) (fun e he => by cases he) rfl rfl cd_case_of ch_case_of, g, F.kp, b, (by intro m h; cases h)⟩
def en_find_difference (a : Addr) (fd : FuncData) : FEnt := ⟨"find_difference", a, fd, ["precedent", "case"], m_find_difference, none⟩
theorem ok_find_difference (M : ModK K mg C nm ks (cl.map (·.1))) {a : Addr} {fd : FuncData} (F : Fun K "find_difference" "find_difference" st_find_difference a fd) (g : mg "find_difference" = some (.ref a)) (b : Binds K fd ["precedent", "case"] []) {a_sides_of : Addr} {fd_sides_of : FuncData} (h_sides_of : EOk P w K mg base C nm 1 (en_sides_of a_sides_of fd_sides_of)) {a_first_missing : Addr} {fd_first_missing : FuncData} (h_first_missing : EOk P w K mg base C nm 1 (en_first_missing a_first_missing fd_first_missing)) {a_case_of : Addr} {fd_case_of : FuncData} (h_case_of : EOk P w K mg base C nm 1 (en_case_of a_case_of fd_case_of)) : EOk P w K mg base C nm 2 (en_find_difference a fd) :=
  ⟨fn_code (k := 1) M (fun _ _ _ => rfl) F sc_find_difference (by intro m h; cases h) (by decide) (es := [en_sides_of a_sides_of fd_sides_of, en_first_missing a_first_missing fd_first_missing, en_case_of a_case_of fd_case_of]) (by
    intro e he
    simp only [List.mem_cons, List.not_mem_nil, or_false] at he
    rcases he with rfl | rfl | rfl
    · exact eok_up h_sides_of (by decide)
    · exact eok_up h_first_missing (by decide)
    · exact eok_up h_case_of (by decide)) rfl rfl cd_find_difference ch_find_difference, g, F.kp, b, (by intro m h; cases h)⟩
def en_first_binding (a : Addr) (fd : FuncData) : FEnt := ⟨"first_binding", a, fd, ["precedents", "case", "outcome"], m_first_binding, none⟩
theorem ok_first_binding (M : ModK K mg C nm ks (cl.map (·.1))) {a : Addr} {fd : FuncData} (F : Fun K "first_binding" "first_binding" st_first_binding a fd) (g : mg "first_binding" = some (.ref a)) (b : Binds K fd ["precedents", "case", "outcome"] []) {a_with_outcome : Addr} {fd_with_outcome : FuncData} (h_with_outcome : EOk P w K mg base C nm 1 (en_with_outcome a_with_outcome fd_with_outcome)) {a_find_difference : Addr} {fd_find_difference : FuncData} (h_find_difference : EOk P w K mg base C nm 2 (en_find_difference a_find_difference fd_find_difference)) : EOk P w K mg base C nm 3 (en_first_binding a fd) :=
  ⟨fn_code (k := 2) M (fun _ _ _ => rfl) F sc_first_binding (by intro m h; cases h) (by decide) (es := [en_with_outcome a_with_outcome fd_with_outcome, en_find_difference a_find_difference fd_find_difference]) (by
    intro e he
    simp only [List.mem_cons, List.not_mem_nil, or_false] at he
    rcases he with rfl | rfl
    · exact eok_up h_with_outcome (by decide)
    · exact eok_up h_find_difference (by decide)) rfl rfl cd_first_binding ch_first_binding, g, F.kp, b, (by intro m h; cases h)⟩
def en_find_differences (a : Addr) (fd : FuncData) : FEnt := ⟨"find_differences", a, fd, ["precedents", "case"], m_find_differences, none⟩
theorem ok_find_differences (M : ModK K mg C nm ks (cl.map (·.1))) {a : Addr} {fd : FuncData} (F : Fun K "find_differences" "find_differences" st_find_differences a fd) (g : mg "find_differences" = some (.ref a)) (b : Binds K fd ["precedents", "case"] []) {a_find_difference : Addr} {fd_find_difference : FuncData} (h_find_difference : EOk P w K mg base C nm 2 (en_find_difference a_find_difference fd_find_difference)) : EOk P w K mg base C nm 3 (en_find_differences a fd) :=
  ⟨fn_code (k := 2) M (fun _ _ _ => rfl) F sc_find_differences (by intro m h; cases h) (by decide) (es := [en_find_difference a_find_difference fd_find_difference]) (by
    intro e he
    simp only [List.mem_cons, List.not_mem_nil, or_false] at he
    rcases he with rfl
    · exact eok_up h_find_difference (by decide)) rfl rfl cd_find_differences ch_find_differences, g, F.kp, b, (by intro m h; cases h)⟩
def en_rule (a : Addr) (fd : FuncData) : FEnt := ⟨"rule", a, fd, ["precedents", "case"], m_rule, none⟩
theorem ok_rule (M : ModK K mg C nm ks (cl.map (·.1))) {a : Addr} {fd : FuncData} (F : Fun K "rule" "rule" st_rule a fd) (g : mg "rule" = some (.ref a)) (b : Binds K fd ["precedents", "case"] []) {a_check_precedents : Addr} {fd_check_precedents : FuncData} (h_check_precedents : EOk P w K mg base C nm 6 (en_check_precedents a_check_precedents fd_check_precedents)) {a_check_case : Addr} {fd_check_case : FuncData} (h_check_case : EOk P w K mg base C nm 4 (en_check_case a_check_case fd_check_case)) {a_with_outcome : Addr} {fd_with_outcome : FuncData} (h_with_outcome : EOk P w K mg base C nm 1 (en_with_outcome a_with_outcome fd_with_outcome)) {a_first_binding : Addr} {fd_first_binding : FuncData} (h_first_binding : EOk P w K mg base C nm 3 (en_first_binding a_first_binding fd_first_binding)) {a_find_differences : Addr} {fd_find_differences : FuncData} (h_find_differences : EOk P w K mg base C nm 3 (en_find_differences a_find_differences fd_find_differences)) : EOk P w K mg base C nm 7 (en_rule a fd) :=
  ⟨fn_code (k := 6) M (fun _ _ _ => rfl) F sc_rule (by intro m h; cases h) (by decide) (es := [en_check_precedents a_check_precedents fd_check_precedents, en_check_case a_check_case fd_check_case, en_with_outcome a_with_outcome fd_with_outcome, en_first_binding a_first_binding fd_first_binding, en_find_differences a_find_differences fd_find_differences]) (by
    intro e he
    simp only [List.mem_cons, List.not_mem_nil, or_false] at he
    rcases he with rfl | rfl | rfl | rfl | rfl
    · exact eok_up h_check_precedents (by decide)
    · exact eok_up h_check_case (by decide)
    · exact eok_up h_with_outcome (by decide)
    · exact eok_up h_first_binding (by decide)
    · exact eok_up h_find_differences (by decide)) rfl rfl cd_rule ch_rule, g, F.kp, b, (by intro m h; cases h)⟩
def en__law_difference (a : Addr) (fd : FuncData) : FEnt := ⟨"_law_difference", a, fd, ["precedent", "case"], m__law_difference, none⟩
theorem ok__law_difference (M : ModK K mg C nm ks (cl.map (·.1))) {a : Addr} {fd : FuncData} (F : Fun K "_law_difference" "_law_difference" st__law_difference a fd) (g : mg "_law_difference" = some (.ref a)) (b : Binds K fd ["precedent", "case"] []) : EOk P w K mg base C nm 1 (en__law_difference a fd) :=
  ⟨fn_code (k := 0) M (fun _ _ _ => rfl) F sc__law_difference (by intro m h; cases h) (by decide) (es := []) (fun e he => by cases he) rfl rfl cd__law_difference ch__law_difference, g, F.kp, b, (by intro m h; cases h)⟩
def en__law_rule (a : Addr) (fd : FuncData) : FEnt := ⟨"_law_rule", a, fd, ["precedents", "case"], m__law_rule, none⟩
theorem ok__law_rule (M : ModK K mg C nm ks (cl.map (·.1))) {a : Addr} {fd : FuncData} (F : Fun K "_law_rule" "_law_rule" st__law_rule a fd) (g : mg "_law_rule" = some (.ref a)) (b : Binds K fd ["precedents", "case"] []) {a__law_difference : Addr} {fd__law_difference : FuncData} (h__law_difference : EOk P w K mg base C nm 1 (en__law_difference a__law_difference fd__law_difference)) : EOk P w K mg base C nm 2 (en__law_rule a fd) :=
  ⟨fn_code (k := 1) M (fun _ _ _ => rfl) F sc__law_rule (by intro m h; cases h) (by decide) (es := [en__law_difference a__law_difference fd__law_difference]) (by
    intro e he
    simp only [List.mem_cons, List.not_mem_nil, or_false] at he
    rcases he with rfl
    · exact eok_up h__law_difference (by decide)) rfl rfl cd__law_rule ch__law_rule, g, F.kp, b, (by intro m h; cases h)⟩
def en__law_outcome (a : Addr) (fd : FuncData) : FEnt := ⟨"_law_outcome", a, fd, ["precedents", "case"], m__law_outcome, none⟩
theorem ok__law_outcome (M : ModK K mg C nm ks (cl.map (·.1))) {a : Addr} {fd : FuncData} (F : Fun K "_law_outcome" "_law_outcome" st__law_outcome a fd) (g : mg "_law_outcome" = some (.ref a)) (b : Binds K fd ["precedents", "case"] []) {a_rule : Addr} {fd_rule : FuncData} (h_rule : EOk P w K mg base C nm 7 (en_rule a_rule fd_rule)) : EOk P w K mg base C nm 8 (en__law_outcome a fd) :=
  ⟨fn_code (k := 7) M (fun _ _ _ => rfl) F sc__law_outcome (by intro m h; cases h) (by decide) (es := [en_rule a_rule fd_rule]) (by
    intro e he
    simp only [List.mem_cons, List.not_mem_nil, or_false] at he
    rcases he with rfl
    · exact eok_up h_rule (by decide)) rfl rfl cd__law_outcome ch__law_outcome, g, F.kp, b, (by intro m h; cases h)⟩
def en_law (a : Addr) (fd : FuncData) : FEnt := ⟨"law", a, fd, ["script"], m_law, none⟩
theorem ok_law (M : ModK K mg C nm ks (cl.map (·.1))) {a : Addr} {fd : FuncData} (F : Fun K "law" "law" st_law a fd) (g : mg "law" = some (.ref a)) (b : Binds K fd ["script"] []) {a__law_pool : Addr} {fd__law_pool : FuncData} (h__law_pool : EOk P w K mg base C nm 1 (en__law_pool a__law_pool fd__law_pool)) {a__law_take : Addr} {fd__law_take : FuncData} (h__law_take : EOk P w K mg base C nm 1 (en__law_take a__law_take fd__law_take)) {a__law_words : Addr} {fd__law_words : FuncData} (h__law_words : EOk P w K mg base C nm 2 (en__law_words a__law_words fd__law_words)) {a__law_side : Addr} {fd__law_side : FuncData} (h__law_side : EOk P w K mg base C nm 3 (en__law_side a__law_side fd__law_side)) {a__law_precedents : Addr} {fd__law_precedents : FuncData} (h__law_precedents : EOk P w K mg base C nm 4 (en__law_precedents a__law_precedents fd__law_precedents)) {a__law_same : Addr} {fd__law_same : FuncData} (h__law_same : EOk P w K mg base C nm 9 (en__law_same a__law_same fd__law_same)) {a_rule : Addr} {fd_rule : FuncData} (h_rule : EOk P w K mg base C nm 7 (en_rule a_rule fd_rule)) {a__law_rule : Addr} {fd__law_rule : FuncData} (h__law_rule : EOk P w K mg base C nm 2 (en__law_rule a__law_rule fd__law_rule)) {a__law_outcome : Addr} {fd__law_outcome : FuncData} (h__law_outcome : EOk P w K mg base C nm 8 (en__law_outcome a__law_outcome fd__law_outcome)) : EOk P w K mg base C nm 10 (en_law a fd) :=
  ⟨fn_code (k := 9) M (fun _ _ _ => rfl) F sc_law (by intro m h; cases h) (by decide) (es := [en__law_pool a__law_pool fd__law_pool, en__law_take a__law_take fd__law_take, en__law_words a__law_words fd__law_words, en__law_side a__law_side fd__law_side, en__law_precedents a__law_precedents fd__law_precedents, en__law_same a__law_same fd__law_same, en_rule a_rule fd_rule, en__law_rule a__law_rule fd__law_rule, en__law_outcome a__law_outcome fd__law_outcome]) (by
    intro e he
    simp only [List.mem_cons, List.not_mem_nil, or_false] at he
    rcases he with rfl | rfl | rfl | rfl | rfl | rfl | rfl | rfl | rfl
    · exact eok_up h__law_pool (by decide)
    · exact eok_up h__law_take (by decide)
    · exact eok_up h__law_words (by decide)
    · exact eok_up h__law_side (by decide)
    · exact eok_up h__law_precedents (by decide)
    · exact eok_up h__law_same (by decide)
    · exact eok_up h_rule (by decide)
    · exact eok_up h__law_rule (by decide)
    · exact eok_up h__law_outcome (by decide)) rfl rfl cd_law ch_law, g, F.kp, b, (by intro m h; cases h)⟩
theorem exm_pair {K : PySem.W.Frag} {S D : Addr} {r : Bool} (h1 : PySem.W.subIn K (.ref D) (.type "BaseException") = some true) (h2 : PySem.W.isClsIn K D = true) (h3 : PySem.W.typeIn K (.ref D) = some (.type "type")) (h4 : PySem.W.subIn K (.ref S) (.ref D) = some r) : PySem.W.exmOne K (.ref S) (.ref D) = some r := by
  have e1 : (PySem.W.subIn K (.ref D) (.type "BaseException") == some true) = true := by rw [h1] <;> rfl
  have e2 : ((PySem.W.clsIn K D).isSome && PySem.W.typeIn K (.ref D) == some (.type "type")) = true := by
    have h2' : (PySem.W.clsIn K D).isSome = true := h2
    rw [h2', h3] <;> rfl
  show (if (PySem.W.subIn K (.ref D) (.type "BaseException") == some true) = true then (if ((PySem.W.clsIn K D).isSome && PySem.W.typeIn K (.ref D) == some (.type "type")) = true then PySem.W.subIn K (.ref S) (.ref D) else none) else none) = some r
  rw [if_pos e1, if_pos e2]
  exact h4
theorem all_mk {l : PySem.W.OpenLaw} {w : World} {K : PySem.W.Frag} {h : Heap} {mg : Str → Option Value} {fa : Addr} (LH : ∀ ns : List Int, ns.length ≤ 63 → ∃ t d', m_law [.list (ns.map PySem.PyData.int)] = .ret (.bool true) t d') (X : K.In h) (G : h.Ns mainGlobals mg) (hfa : mg "law" = some (.ref fa))
    {f0 : Addr} {od0 an0 : Option Addr} {sl0 : Array (Option Value)} {oc0 kV0 dc0 pm0 cd0 ct0 : Value}
    {f1 : Addr} {od1 an1 : Option Addr} {sl1 : Array (Option Value)} {oc1 kV1 dc1 pm1 cd1 ct1 : Value}
    {f2 : Addr} {od2 an2 : Option Addr} {sl2 : Array (Option Value)} {oc2 kV2 dc2 pm2 cd2 ct2 : Value}
    {f3 : Addr} {od3 an3 : Option Addr} {sl3 : Array (Option Value)} {oc3 kV3 dc3 pm3 cd3 ct3 : Value}
    {f4 : Addr} {od4 an4 : Option Addr} {sl4 : Array (Option Value)} {oc4 kV4 dc4 pm4 cd4 ct4 : Value}
    {f5 : Addr} {od5 an5 : Option Addr} {sl5 : Array (Option Value)} {oc5 kV5 dc5 pm5 cd5 ct5 : Value}
    {f6 : Addr} {od6 an6 : Option Addr} {sl6 : Array (Option Value)} {oc6 kV6 dc6 pm6 cd6 ct6 : Value}
    {f7 : Addr} {od7 an7 : Option Addr} {sl7 : Array (Option Value)} {oc7 kV7 dc7 pm7 cd7 ct7 : Value}
    {f8 : Addr} {od8 an8 : Option Addr} {sl8 : Array (Option Value)} {oc8 kV8 dc8 pm8 cd8 ct8 : Value}
    {f9 : Addr} {od9 an9 : Option Addr} {sl9 : Array (Option Value)} {oc9 kV9 dc9 pm9 cd9 ct9 : Value}
    {f10 : Addr} {od10 an10 : Option Addr} {sl10 : Array (Option Value)} {oc10 kV10 dc10 pm10 cd10 ct10 : Value}
    {f11 : Addr} {od11 an11 : Option Addr} {sl11 : Array (Option Value)} {oc11 kV11 dc11 pm11 cd11 ct11 : Value}
    {f12 : Addr} {od12 an12 : Option Addr} {sl12 : Array (Option Value)} {oc12 kV12 dc12 pm12 cd12 ct12 : Value}
    {f13 : Addr} {od13 an13 : Option Addr} {sl13 : Array (Option Value)} {oc13 kV13 dc13 pm13 cd13 ct13 : Value}
    {f14 : Addr} {od14 an14 : Option Addr} {sl14 : Array (Option Value)} {oc14 kV14 dc14 pm14 cd14 ct14 : Value}
    {f15 : Addr} {od15 an15 : Option Addr} {sl15 : Array (Option Value)} {oc15 kV15 dc15 pm15 cd15 ct15 : Value}
    {f16 : Addr} {od16 an16 : Option Addr} {sl16 : Array (Option Value)} {oc16 kV16 dc16 pm16 cd16 ct16 : Value}
    {f17 : Addr} {od17 an17 : Option Addr} {sl17 : Array (Option Value)} {oc17 kV17 dc17 pm17 cd17 ct17 : Value}
    {f18 : Addr} {od18 an18 : Option Addr} {sl18 : Array (Option Value)} {oc18 kV18 dc18 pm18 cd18 ct18 : Value}
    {f19 : Addr} {od19 an19 : Option Addr} {sl19 : Array (Option Value)} {oc19 kV19 dc19 pm19 cd19 ct19 : Value}
    {f20 : Addr} {od20 an20 : Option Addr} {sl20 : Array (Option Value)} {oc20 kV20 dc20 pm20 cd20 ct20 : Value}
    {f21 : Addr} {od21 an21 : Option Addr} {sl21 : Array (Option Value)} {oc21 kV21 dc21 pm21 cd21 ct21 : Value}
    {f22 : Addr} {od22 an22 : Option Addr} {sl22 : Array (Option Value)} {oc22 kV22 dc22 pm22 cd22 ct22 : Value}
    {f23 : Addr} {od23 an23 : Option Addr} {sl23 : Array (Option Value)} {oc23 kV23 dc23 pm23 cd23 ct23 : Value}
    {f24 : Addr} {od24 an24 : Option Addr} {sl24 : Array (Option Value)} {oc24 kV24 dc24 pm24 cd24 ct24 : Value}
    {f25 : Addr} {od25 an25 : Option Addr} {sl25 : Array (Option Value)} {oc25 kV25 dc25 pm25 cd25 ct25 : Value}
    {f26 : Addr} {od26 an26 : Option Addr} {sl26 : Array (Option Value)} {oc26 kV26 dc26 pm26 cd26 ct26 : Value}
    {f27 : Addr} {od27 an27 : Option Addr} {sl27 : Array (Option Value)} {oc27 kV27 dc27 pm27 cd27 ct27 : Value}
    {f28 : Addr} {od28 an28 : Option Addr} {sl28 : Array (Option Value)} {oc28 kV28 dc28 pm28 cd28 ct28 : Value}
    {f29 : Addr} {od29 an29 : Option Addr} {sl29 : Array (Option Value)} {oc29 kV29 dc29 pm29 cd29 ct29 : Value}
    {t0 : Tok}
    {t1 : Tok}
    {t2 : Tok}
    {t3 : Tok}
    {t4 : Tok}
    {t5 : Tok}
    {t6 : Tok}
    {C0 : Addr}
    {C1 : Addr}
    (a0 : PySem.W.nsIn K mainGlobals "_law_pool" = some (some (.ref f0)))
    (l0 : K.lookup f0 = some ⟨oc0, od0, .func (PySem.W.fnOf "_law_pool" "_law_pool" (defArgs st__law_pool) (defBody st__law_pool) (defScope st__law_pool) .none kV0 dc0 pm0 an0 cd0 ct0), sl0⟩)
    (c0 : PySem.W.codeIn K cd0 "_law_pool" = true)
    (k0 : PySem.W.keepIn K (.ref f0) = true)
    (a1 : PySem.W.nsIn K mainGlobals "_law_take" = some (some (.ref f1)))
    (l1 : K.lookup f1 = some ⟨oc1, od1, .func (PySem.W.fnOf "_law_take" "_law_take" (defArgs st__law_take) (defBody st__law_take) (defScope st__law_take) .none kV1 dc1 pm1 an1 cd1 ct1), sl1⟩)
    (c1 : PySem.W.codeIn K cd1 "_law_take" = true)
    (k1 : PySem.W.keepIn K (.ref f1) = true)
    (a2 : PySem.W.nsIn K mainGlobals "_law_words" = some (some (.ref f2)))
    (l2 : K.lookup f2 = some ⟨oc2, od2, .func (PySem.W.fnOf "_law_words" "_law_words" (defArgs st__law_words) (defBody st__law_words) (defScope st__law_words) .none kV2 dc2 pm2 an2 cd2 ct2), sl2⟩)
    (c2 : PySem.W.codeIn K cd2 "_law_words" = true)
    (k2 : PySem.W.keepIn K (.ref f2) = true)
    (a3 : PySem.W.nsIn K mainGlobals "_law_ids" = some (some (.ref f3)))
    (l3 : K.lookup f3 = some ⟨oc3, od3, .func (PySem.W.fnOf "_law_ids" "_law_ids" (defArgs st__law_ids) (defBody st__law_ids) (defScope st__law_ids) .none kV3 dc3 pm3 an3 cd3 ct3), sl3⟩)
    (c3 : PySem.W.codeIn K cd3 "_law_ids" = true)
    (k3 : PySem.W.keepIn K (.ref f3) = true)
    (a4 : PySem.W.nsIn K mainGlobals "_law_turn" = some (some (.ref f4)))
    (l4 : K.lookup f4 = some ⟨oc4, od4, .func (PySem.W.fnOf "_law_turn" "_law_turn" (defArgs st__law_turn) (defBody st__law_turn) (defScope st__law_turn) .none kV4 dc4 pm4 an4 cd4 ct4), sl4⟩)
    (c4 : PySem.W.codeIn K cd4 "_law_turn" = true)
    (k4 : PySem.W.keepIn K (.ref f4) = true)
    (a5 : PySem.W.nsIn K mainGlobals "_law_side" = some (some (.ref f5)))
    (l5 : K.lookup f5 = some ⟨oc5, od5, .func (PySem.W.fnOf "_law_side" "_law_side" (defArgs st__law_side) (defBody st__law_side) (defScope st__law_side) .none kV5 dc5 pm5 an5 cd5 ct5), sl5⟩)
    (c5 : PySem.W.codeIn K cd5 "_law_side" = true)
    (k5 : PySem.W.keepIn K (.ref f5) = true)
    (a6 : PySem.W.nsIn K mainGlobals "_law_precedents" = some (some (.ref f6)))
    (l6 : K.lookup f6 = some ⟨oc6, od6, .func (PySem.W.fnOf "_law_precedents" "_law_precedents" (defArgs st__law_precedents) (defBody st__law_precedents) (defScope st__law_precedents) .none kV6 dc6 pm6 an6 cd6 ct6), sl6⟩)
    (c6 : PySem.W.codeIn K cd6 "_law_precedents" = true)
    (k6 : PySem.W.keepIn K (.ref f6) = true)
    (a7 : PySem.W.nsIn K mainGlobals "_law_same" = some (some (.ref f7)))
    (l7 : K.lookup f7 = some ⟨oc7, od7, .func (PySem.W.fnOf "_law_same" "_law_same" (defArgs st__law_same) (defBody st__law_same) (defScope st__law_same) .none kV7 dc7 pm7 an7 cd7 ct7), sl7⟩)
    (c7 : PySem.W.codeIn K cd7 "_law_same" = true)
    (k7 : PySem.W.keepIn K (.ref f7) = true)
    (a8 : PySem.W.nsIn K mainGlobals "are_distinct" = some (some (.ref f8)))
    (l8 : K.lookup f8 = some ⟨oc8, od8, .func (PySem.W.fnOf "are_distinct" "are_distinct" (defArgs st_are_distinct) (defBody st_are_distinct) (defScope st_are_distinct) .none kV8 dc8 pm8 an8 cd8 ct8), sl8⟩)
    (c8 : PySem.W.codeIn K cd8 "are_distinct" = true)
    (k8 : PySem.W.keepIn K (.ref f8) = true)
    (a9 : PySem.W.nsIn K mainGlobals "is_tuple" = some (some (.ref f9)))
    (l9 : K.lookup f9 = some ⟨oc9, od9, .func (PySem.W.fnOf "is_tuple" "is_tuple" (defArgs st_is_tuple) (defBody st_is_tuple) (defScope st_is_tuple) .none kV9 dc9 pm9 an9 cd9 ct9), sl9⟩)
    (c9 : PySem.W.codeIn K cd9 "is_tuple" = true)
    (k9 : PySem.W.keepIn K (.ref f9) = true)
    (a10 : PySem.W.nsIn K mainGlobals "is_word" = some (some (.ref f10)))
    (l10 : K.lookup f10 = some ⟨oc10, od10, .func (PySem.W.fnOf "is_word" "is_word" (defArgs st_is_word) (defBody st_is_word) (defScope st_is_word) .none kV10 dc10 pm10 an10 cd10 ct10), sl10⟩)
    (c10 : PySem.W.codeIn K cd10 "is_word" = true)
    (k10 : PySem.W.keepIn K (.ref f10) = true)
    (a11 : PySem.W.nsIn K mainGlobals "is_words" = some (some (.ref f11)))
    (l11 : K.lookup f11 = some ⟨oc11, od11, .func (PySem.W.fnOf "is_words" "is_words" (defArgs st_is_words) (defBody st_is_words) (defScope st_is_words) .none kV11 dc11 pm11 an11 cd11 ct11), sl11⟩)
    (c11 : PySem.W.codeIn K cd11 "is_words" = true)
    (k11 : PySem.W.keepIn K (.ref f11) = true)
    (a12 : PySem.W.nsIn K mainGlobals "is_case" = some (some (.ref f12)))
    (l12 : K.lookup f12 = some ⟨oc12, od12, .func (PySem.W.fnOf "is_case" "is_case" (defArgs st_is_case) (defBody st_is_case) (defScope st_is_case) .none kV12 dc12 pm12 an12 cd12 ct12), sl12⟩)
    (c12 : PySem.W.codeIn K cd12 "is_case" = true)
    (k12 : PySem.W.keepIn K (.ref f12) = true)
    (a13 : PySem.W.nsIn K mainGlobals "is_int" = some (some (.ref f13)))
    (l13 : K.lookup f13 = some ⟨oc13, od13, .func (PySem.W.fnOf "is_int" "is_int" (defArgs st_is_int) (defBody st_is_int) (defScope st_is_int) .none kV13 dc13 pm13 an13 cd13 ct13), sl13⟩)
    (c13 : PySem.W.codeIn K cd13 "is_int" = true)
    (k13 : PySem.W.keepIn K (.ref f13) = true)
    (a14 : PySem.W.nsIn K mainGlobals "is_precedent" = some (some (.ref f14)))
    (l14 : K.lookup f14 = some ⟨oc14, od14, .func (PySem.W.fnOf "is_precedent" "is_precedent" (defArgs st_is_precedent) (defBody st_is_precedent) (defScope st_is_precedent) .none kV14 dc14 pm14 an14 cd14 ct14), sl14⟩)
    (c14 : PySem.W.codeIn K cd14 "is_precedent" = true)
    (k14 : PySem.W.keepIn K (.ref f14) = true)
    (a15 : PySem.W.nsIn K mainGlobals "is_precedents" = some (some (.ref f15)))
    (l15 : K.lookup f15 = some ⟨oc15, od15, .func (PySem.W.fnOf "is_precedents" "is_precedents" (defArgs st_is_precedents) (defBody st_is_precedents) (defScope st_is_precedents) .none kV15 dc15 pm15 an15 cd15 ct15), sl15⟩)
    (c15 : PySem.W.codeIn K cd15 "is_precedents" = true)
    (k15 : PySem.W.keepIn K (.ref f15) = true)
    (a16 : PySem.W.nsIn K mainGlobals "check_precedents" = some (some (.ref f16)))
    (l16 : K.lookup f16 = some ⟨oc16, od16, .func (PySem.W.fnOf "check_precedents" "check_precedents" (defArgs st_check_precedents) (defBody st_check_precedents) (defScope st_check_precedents) .none kV16 dc16 pm16 an16 cd16 ct16), sl16⟩)
    (c16 : PySem.W.codeIn K cd16 "check_precedents" = true)
    (k16 : PySem.W.keepIn K (.ref f16) = true)
    (a17 : PySem.W.nsIn K mainGlobals "check_case" = some (some (.ref f17)))
    (l17 : K.lookup f17 = some ⟨oc17, od17, .func (PySem.W.fnOf "check_case" "check_case" (defArgs st_check_case) (defBody st_check_case) (defScope st_check_case) .none kV17 dc17 pm17 an17 cd17 ct17), sl17⟩)
    (c17 : PySem.W.codeIn K cd17 "check_case" = true)
    (k17 : PySem.W.keepIn K (.ref f17) = true)
    (a18 : PySem.W.nsIn K mainGlobals "with_outcome" = some (some (.ref f18)))
    (l18 : K.lookup f18 = some ⟨oc18, od18, .func (PySem.W.fnOf "with_outcome" "with_outcome" (defArgs st_with_outcome) (defBody st_with_outcome) (defScope st_with_outcome) .none kV18 dc18 pm18 an18 cd18 ct18), sl18⟩)
    (c18 : PySem.W.codeIn K cd18 "with_outcome" = true)
    (k18 : PySem.W.keepIn K (.ref f18) = true)
    (a19 : PySem.W.nsIn K mainGlobals "sides_of" = some (some (.ref f19)))
    (l19 : K.lookup f19 = some ⟨oc19, od19, .func (PySem.W.fnOf "sides_of" "sides_of" (defArgs st_sides_of) (defBody st_sides_of) (defScope st_sides_of) .none kV19 dc19 pm19 an19 cd19 ct19), sl19⟩)
    (c19 : PySem.W.codeIn K cd19 "sides_of" = true)
    (k19 : PySem.W.keepIn K (.ref f19) = true)
    (a20 : PySem.W.nsIn K mainGlobals "first_missing" = some (some (.ref f20)))
    (l20 : K.lookup f20 = some ⟨oc20, od20, .func (PySem.W.fnOf "first_missing" "first_missing" (defArgs st_first_missing) (defBody st_first_missing) (defScope st_first_missing) .none kV20 dc20 pm20 an20 cd20 ct20), sl20⟩)
    (c20 : PySem.W.codeIn K cd20 "first_missing" = true)
    (k20 : PySem.W.keepIn K (.ref f20) = true)
    (a21 : PySem.W.nsIn K mainGlobals "case_of" = some (some (.ref f21)))
    (l21 : K.lookup f21 = some ⟨oc21, od21, .func (PySem.W.fnOf "case_of" "case_of" (defArgs st_case_of) (defBody st_case_of) (defScope st_case_of) .none kV21 dc21 pm21 an21 cd21 ct21), sl21⟩)
    (c21 : PySem.W.codeIn K cd21 "case_of" = true)
    (k21 : PySem.W.keepIn K (.ref f21) = true)
    (a22 : PySem.W.nsIn K mainGlobals "find_difference" = some (some (.ref f22)))
    (l22 : K.lookup f22 = some ⟨oc22, od22, .func (PySem.W.fnOf "find_difference" "find_difference" (defArgs st_find_difference) (defBody st_find_difference) (defScope st_find_difference) .none kV22 dc22 pm22 an22 cd22 ct22), sl22⟩)
    (c22 : PySem.W.codeIn K cd22 "find_difference" = true)
    (k22 : PySem.W.keepIn K (.ref f22) = true)
    (a23 : PySem.W.nsIn K mainGlobals "first_binding" = some (some (.ref f23)))
    (l23 : K.lookup f23 = some ⟨oc23, od23, .func (PySem.W.fnOf "first_binding" "first_binding" (defArgs st_first_binding) (defBody st_first_binding) (defScope st_first_binding) .none kV23 dc23 pm23 an23 cd23 ct23), sl23⟩)
    (c23 : PySem.W.codeIn K cd23 "first_binding" = true)
    (k23 : PySem.W.keepIn K (.ref f23) = true)
    (a24 : PySem.W.nsIn K mainGlobals "find_differences" = some (some (.ref f24)))
    (l24 : K.lookup f24 = some ⟨oc24, od24, .func (PySem.W.fnOf "find_differences" "find_differences" (defArgs st_find_differences) (defBody st_find_differences) (defScope st_find_differences) .none kV24 dc24 pm24 an24 cd24 ct24), sl24⟩)
    (c24 : PySem.W.codeIn K cd24 "find_differences" = true)
    (k24 : PySem.W.keepIn K (.ref f24) = true)
    (a25 : PySem.W.nsIn K mainGlobals "rule" = some (some (.ref f25)))
    (l25 : K.lookup f25 = some ⟨oc25, od25, .func (PySem.W.fnOf "rule" "rule" (defArgs st_rule) (defBody st_rule) (defScope st_rule) .none kV25 dc25 pm25 an25 cd25 ct25), sl25⟩)
    (c25 : PySem.W.codeIn K cd25 "rule" = true)
    (k25 : PySem.W.keepIn K (.ref f25) = true)
    (a26 : PySem.W.nsIn K mainGlobals "_law_difference" = some (some (.ref f26)))
    (l26 : K.lookup f26 = some ⟨oc26, od26, .func (PySem.W.fnOf "_law_difference" "_law_difference" (defArgs st__law_difference) (defBody st__law_difference) (defScope st__law_difference) .none kV26 dc26 pm26 an26 cd26 ct26), sl26⟩)
    (c26 : PySem.W.codeIn K cd26 "_law_difference" = true)
    (k26 : PySem.W.keepIn K (.ref f26) = true)
    (a27 : PySem.W.nsIn K mainGlobals "_law_rule" = some (some (.ref f27)))
    (l27 : K.lookup f27 = some ⟨oc27, od27, .func (PySem.W.fnOf "_law_rule" "_law_rule" (defArgs st__law_rule) (defBody st__law_rule) (defScope st__law_rule) .none kV27 dc27 pm27 an27 cd27 ct27), sl27⟩)
    (c27 : PySem.W.codeIn K cd27 "_law_rule" = true)
    (k27 : PySem.W.keepIn K (.ref f27) = true)
    (a28 : PySem.W.nsIn K mainGlobals "_law_outcome" = some (some (.ref f28)))
    (l28 : K.lookup f28 = some ⟨oc28, od28, .func (PySem.W.fnOf "_law_outcome" "_law_outcome" (defArgs st__law_outcome) (defBody st__law_outcome) (defScope st__law_outcome) .none kV28 dc28 pm28 an28 cd28 ct28), sl28⟩)
    (c28 : PySem.W.codeIn K cd28 "_law_outcome" = true)
    (k28 : PySem.W.keepIn K (.ref f28) = true)
    (a29 : PySem.W.nsIn K mainGlobals "law" = some (some (.ref f29)))
    (l29 : K.lookup f29 = some ⟨oc29, od29, .func (PySem.W.fnOf "law" "law" (defArgs st_law) (defBody st_law) (defScope st_law) .none kV29 dc29 pm29 an29 cd29 ct29), sl29⟩)
    (c29 : PySem.W.codeIn K cd29 "law" = true)
    (k29 : PySem.W.keepIn K (.ref f29) = true)
    (q0 : PySem.W.nsIn K mainGlobals "LETTERS" = some (some (.str "abcdefghijklmnopqrstuvwxyz" t0)))
    (q1 : PySem.W.nsIn K mainGlobals "DIGITS" = some (some (.str "0123456789" t1)))
    (q2 : PySem.W.nsIn K mainGlobals "LONGEST_WORD" = some (some (.int 12 t2)))
    (q3 : PySem.W.nsIn K mainGlobals "MOST_FACTORS" = some (some (.int 12 t3)))
    (q4 : PySem.W.nsIn K mainGlobals "MOST_PRECEDENTS" = some (some (.int 60 t4)))
    (q5 : PySem.W.nsIn K mainGlobals "UPHELD" = some (some (.int 1 t5)))
    (q6 : PySem.W.nsIn K mainGlobals "DISMISSED" = some (some (.int (-1) t6)))
    (g0 : PySem.W.nsIn K mainGlobals "BadCase" = some (some (.ref C0)))
    (e0 : PySem.W.excIn K C0 veT "ValueError.__new__" = true)
    (x0 : PySem.W.keepIn K (.ref C0) = true)
    (b0 : PySem.W.subIn K (.ref C0) (.type "BaseException") = some true)
    (y0 : PySem.W.typeIn K (.ref C0) = some (.type "type"))
    (i0 : PySem.W.isClsIn K C0 = true)
    (g1 : PySem.W.nsIn K mainGlobals "BadPrecedents" = some (some (.ref C1)))
    (e1 : PySem.W.excIn K C1 veT "ValueError.__new__" = true)
    (x1 : PySem.W.keepIn K (.ref C1) = true)
    (b1 : PySem.W.subIn K (.ref C1) (.type "BaseException") = some true)
    (y1 : PySem.W.typeIn K (.ref C1) = some (.type "type"))
    (i1 : PySem.W.isClsIn K C1 = true)
    (s0_0 : PySem.W.subIn K (.ref C0) (.ref C0) = some true)
    (s0_1 : PySem.W.subIn K (.ref C0) (.ref C1) = some false)
    (s1_0 : PySem.W.subIn K (.ref C1) (.ref C0) = some false)
    (s1_1 : PySem.W.subIn K (.ref C1) (.ref C1) = some true)
    (z0 : PySem.W.nsIn K mainGlobals "len" = some none)
    (z1 : PySem.W.nsIn K mainGlobals "isinstance" = some none)
    (z2 : PySem.W.nsIn K mainGlobals "tuple" = some none)
    (z3 : PySem.W.nsIn K mainGlobals "list" = some none)
    (z4 : PySem.W.nsIn K mainGlobals "int" = some none)
    (z5 : PySem.W.nsIn K mainGlobals "str" = some none)
    (z6 : PySem.W.nsIn K mainGlobals "bool" = some none)
    (z7 : PySem.W.nsIn K mainGlobals "range" = some none)
    (z8 : PySem.W.nsIn K mainGlobals "enumerate" = some none)
    (z9 : PySem.W.nsIn K mainGlobals "zip" = some none)
    (z10 : PySem.W.nsIn K mainGlobals "reversed" = some none)
    (z11 : PySem.W.nsIn K mainGlobals "sorted" = some none)
    (z12 : PySem.W.nsIn K mainGlobals "all" = some none)
    (z13 : PySem.W.nsIn K mainGlobals "any" = some none)
    (z14 : PySem.W.nsIn K mainGlobals "sum" = some none)
    (z15 : PySem.W.nsIn K mainGlobals "abs" = some none)
    (z16 : PySem.W.nsIn K mainGlobals "min" = some none)
    (z17 : PySem.W.nsIn K mainGlobals "max" = some none)
    (z18 : PySem.W.nsIn K mainGlobals "ValueError" = some none)
    (z19 : PySem.W.nsIn K mainGlobals "super" = some none)
    (z20 : PySem.W.nsIn K mainGlobals "dict" = some none) :
    ∃ fd : FuncData, (∀ (s : Shared) (v : Value), BindsTo s fd ⟨[v], []⟩ [("script", v)]) ∧ ∀ base : Heap, K.In base → base.Ns mainGlobals mg → FnOk l.prog w K mg base (L2.CX l.prog w) 10 fa fd ["script"] (spLaw K) := by
  have e := hfa.symm.trans (PySem.W.mg_of X G a29)
  cases e
  have bm : ∀ x ∈ bnames, mg x = none := by
    intro x hx
    simp only [bnames, List.mem_cons, List.not_mem_nil, or_false] at hx
    rcases hx with rfl | rfl | rfl | rfl | rfl | rfl | rfl | rfl | rfl | rfl | rfl | rfl | rfl | rfl | rfl | rfl | rfl | rfl | rfl | rfl | rfl
    · exact PySem.W.mg_none_of X G z0
    · exact PySem.W.mg_none_of X G z1
    · exact PySem.W.mg_none_of X G z2
    · exact PySem.W.mg_none_of X G z3
    · exact PySem.W.mg_none_of X G z4
    · exact PySem.W.mg_none_of X G z5
    · exact PySem.W.mg_none_of X G z6
    · exact PySem.W.mg_none_of X G z7
    · exact PySem.W.mg_none_of X G z8
    · exact PySem.W.mg_none_of X G z9
    · exact PySem.W.mg_none_of X G z10
    · exact PySem.W.mg_none_of X G z11
    · exact PySem.W.mg_none_of X G z12
    · exact PySem.W.mg_none_of X G z13
    · exact PySem.W.mg_none_of X G z14
    · exact PySem.W.mg_none_of X G z15
    · exact PySem.W.mg_none_of X G z16
    · exact PySem.W.mg_none_of X G z17
    · exact PySem.W.mg_none_of X G z18
    · exact PySem.W.mg_none_of X G z19
    · exact PySem.W.mg_none_of X G z20
  have cs : ∀ (j : Nat) (c : Str × D), ks[j]? = some c → ∃ u, mg c.1 = some u ∧ KR K u c.2 := by
    intro j c hj
    match j, hj with
    | 0, hj => cases hj; exact ⟨_, PySem.W.mg_of X G q0, .str _ t0 (by decide +kernel)⟩
    | 1, hj => cases hj; exact ⟨_, PySem.W.mg_of X G q1, .str _ t1 (by decide +kernel)⟩
    | 2, hj => cases hj; exact ⟨_, PySem.W.mg_of X G q2, .int _ t2⟩
    | 3, hj => cases hj; exact ⟨_, PySem.W.mg_of X G q3, .int _ t3⟩
    | 4, hj => cases hj; exact ⟨_, PySem.W.mg_of X G q4, .int _ t4⟩
    | 5, hj => cases hj; exact ⟨_, PySem.W.mg_of X G q5, .int _ t5⟩
    | 6, hj => cases hj; exact ⟨_, PySem.W.mg_of X G q6, .int _ t6⟩
    | j + 7, hj => exact absurd hj (by simp [ks])
  have M : ModK K mg (fun i => ([C0, C1][i]?).getD 0) nm ks (cl.map (·.1)) := by
    refine ⟨bm, cs, ?_, ?_, ?_⟩
    · intro j x hj
      match j, hj with
      | 0, hj => cases hj; exact ⟨PySem.W.mg_of X G g0, x0, b0, y0⟩
      | 1, hj => cases hj; exact ⟨PySem.W.mg_of X G g1, x1, b1, y1⟩
      | j + 2, hj => exact absurd hj (by simp [cl])
    · intro j x hj _
      match j, hj with
      | 0, hj => exact e0
      | 1, hj => exact e1
      | j + 2, hj => exact absurd hj (by simp [cl])
    · intro i j x y hi hj
      match i, j, hi, hj with
      | 0, 0, _, _ => exact exm_pair b0 i0 y0 s0_0
      | 0, 1, _, _ => exact exm_pair b1 i1 y1 s0_1
      | 1, 0, _, _ => exact exm_pair b0 i0 y0 s1_0
      | 1, 1, _, _ => exact exm_pair b1 i1 y1 s1_1
      | i + 2, _, hi, _ => exact absurd hi (by simp [cl])
      | _, j + 2, _, hj => exact absurd hj (by simp [cl])
  have F0 := fun_mk (st := st__law_pool) l0 c0 k0
  have B0 := F0.binds (ps := ["script", "count"]) fun _ _ _ _ _ _ us hl => match us, hl with | [_, _], _ => rfl
  have F1 := fun_mk (st := st__law_take) l1 c1 k1
  have B1 := F1.binds (ps := ["pool", "size"]) fun _ _ _ _ _ _ us hl => match us, hl with | [_, _], _ => rfl
  have F2 := fun_mk (st := st__law_words) l2 c2 k2
  have B2 := F2.binds (ps := ["pool", "count"]) fun _ _ _ _ _ _ us hl => match us, hl with | [_, _], _ => rfl
  have F3 := fun_mk (st := st__law_ids) l3 c3 k3
  have B3 := F3.binds (ps := ["pool", "count"]) fun _ _ _ _ _ _ us hl => match us, hl with | [_, _], _ => rfl
  have F4 := fun_mk (st := st__law_turn) l4 c4 k4
  have B4 := F4.binds (ps := ["pool", "rows"]) fun _ _ _ _ _ _ us hl => match us, hl with | [_, _], _ => rfl
  have F5 := fun_mk (st := st__law_side) l5 c5 k5
  have B5 := F5.binds (ps := ["pool", "words"]) fun _ _ _ _ _ _ us hl => match us, hl with | [_, _], _ => rfl
  have F6 := fun_mk (st := st__law_precedents) l6 c6 k6
  have B6 := F6.binds (ps := ["pool", "words", "count"]) fun _ _ _ _ _ _ us hl => match us, hl with | [_, _, _], _ => rfl
  have F7 := fun_mk (st := st__law_same) l7 c7 k7
  have B7 := F7.binds (ps := ["value", "due"]) fun _ _ _ _ _ _ us hl => match us, hl with | [_, _], _ => rfl
  have F8 := fun_mk (st := st_are_distinct) l8 c8 k8
  have B8 := F8.binds (ps := ["parts"]) fun _ _ _ _ _ _ us hl => match us, hl with | [_], _ => rfl
  have F9 := fun_mk (st := st_is_tuple) l9 c9 k9
  have B9 := F9.binds (ps := ["value", "size"]) fun _ _ _ _ _ _ us hl => match us, hl with | [_, _], _ => rfl
  have F10 := fun_mk (st := st_is_word) l10 c10 k10
  have B10 := F10.binds (ps := ["value"]) fun _ _ _ _ _ _ us hl => match us, hl with | [_], _ => rfl
  have F11 := fun_mk (st := st_is_words) l11 c11 k11
  have B11 := F11.binds (ps := ["value", "least", "most"]) fun _ _ _ _ _ _ us hl => match us, hl with | [_, _, _], _ => rfl
  have F12 := fun_mk (st := st_is_case) l12 c12 k12
  have B12 := F12.binds (ps := ["value"]) fun _ _ _ _ _ _ us hl => match us, hl with | [_], _ => rfl
  have F13 := fun_mk (st := st_is_int) l13 c13 k13
  have B13 := F13.binds (ps := ["value"]) fun _ _ _ _ _ _ us hl => match us, hl with | [_], _ => rfl
  have F14 := fun_mk (st := st_is_precedent) l14 c14 k14
  have B14 := F14.binds (ps := ["value"]) fun _ _ _ _ _ _ us hl => match us, hl with | [_], _ => rfl
  have F15 := fun_mk (st := st_is_precedents) l15 c15 k15
  have B15 := F15.binds (ps := ["value"]) fun _ _ _ _ _ _ us hl => match us, hl with | [_], _ => rfl
  have F16 := fun_mk (st := st_check_precedents) l16 c16 k16
  have B16 := F16.binds (ps := ["precedents"]) fun _ _ _ _ _ _ us hl => match us, hl with | [_], _ => rfl
  have F17 := fun_mk (st := st_check_case) l17 c17 k17
  have B17 := F17.binds (ps := ["case"]) fun _ _ _ _ _ _ us hl => match us, hl with | [_], _ => rfl
  have F18 := fun_mk (st := st_with_outcome) l18 c18 k18
  have B18 := F18.binds (ps := ["precedents", "outcome"]) fun _ _ _ _ _ _ us hl => match us, hl with | [_, _], _ => rfl
  have F19 := fun_mk (st := st_sides_of) l19 c19 k19
  have B19 := F19.binds (ps := ["case", "outcome"]) fun _ _ _ _ _ _ us hl => match us, hl with | [_, _], _ => rfl
  have F20 := fun_mk (st := st_first_missing) l20 c20 k20
  have B20 := F20.binds (ps := ["factors", "others"]) fun _ _ _ _ _ _ us hl => match us, hl with | [_, _], _ => rfl
  have F21 := fun_mk (st := st_case_of) l21 c21 k21
  have B21 := F21.binds (ps := ["precedent"]) fun _ _ _ _ _ _ us hl => match us, hl with | [_], _ => rfl
  have F22 := fun_mk (st := st_find_difference) l22 c22 k22
  have B22 := F22.binds (ps := ["precedent", "case"]) fun _ _ _ _ _ _ us hl => match us, hl with | [_, _], _ => rfl
  have F23 := fun_mk (st := st_first_binding) l23 c23 k23
  have B23 := F23.binds (ps := ["precedents", "case", "outcome"]) fun _ _ _ _ _ _ us hl => match us, hl with | [_, _, _], _ => rfl
  have F24 := fun_mk (st := st_find_differences) l24 c24 k24
  have B24 := F24.binds (ps := ["precedents", "case"]) fun _ _ _ _ _ _ us hl => match us, hl with | [_, _], _ => rfl
  have F25 := fun_mk (st := st_rule) l25 c25 k25
  have B25 := F25.binds (ps := ["precedents", "case"]) fun _ _ _ _ _ _ us hl => match us, hl with | [_, _], _ => rfl
  have F26 := fun_mk (st := st__law_difference) l26 c26 k26
  have B26 := F26.binds (ps := ["precedent", "case"]) fun _ _ _ _ _ _ us hl => match us, hl with | [_, _], _ => rfl
  have F27 := fun_mk (st := st__law_rule) l27 c27 k27
  have B27 := F27.binds (ps := ["precedents", "case"]) fun _ _ _ _ _ _ us hl => match us, hl with | [_, _], _ => rfl
  have F28 := fun_mk (st := st__law_outcome) l28 c28 k28
  have B28 := F28.binds (ps := ["precedents", "case"]) fun _ _ _ _ _ _ us hl => match us, hl with | [_, _], _ => rfl
  have F29 := fun_mk (st := st_law) l29 c29 k29
  have B29 := F29.binds (ps := ["script"]) fun _ _ _ _ _ _ us hl => match us, hl with | [_], _ => rfl
  refine ⟨PySem.W.fnOf "law" "law" (defArgs st_law) (defBody st_law) (defScope st_law) .none kV29 dc29 pm29 an29 cd29 ct29, fun s v => .of_eq rfl, fun base _ _ => ?_⟩
  have O0 := ok__law_pool (P := l.prog) (w := w) (base := base) M F0 (PySem.W.mg_of X G a0) B0
  have O1 := ok__law_take (P := l.prog) (w := w) (base := base) M F1 (PySem.W.mg_of X G a1) B1
  have O2 := ok__law_words (P := l.prog) (w := w) (base := base) M F2 (PySem.W.mg_of X G a2) B2 O1
  have O3 := ok__law_ids (P := l.prog) (w := w) (base := base) M F3 (PySem.W.mg_of X G a3) B3 O1
  have O4 := ok__law_turn (P := l.prog) (w := w) (base := base) M F4 (PySem.W.mg_of X G a4) B4 O1
  have O5 := ok__law_side (P := l.prog) (w := w) (base := base) M F5 (PySem.W.mg_of X G a5) B5 O1 O4
  have O6 := ok__law_precedents (P := l.prog) (w := w) (base := base) M F6 (PySem.W.mg_of X G a6) B6 O1 O3 O4 O5
  have O7 := ok__law_same (P := l.prog) (w := w) (base := base) M F7 (PySem.W.mg_of X G a7) B7
  have O8 := ok_are_distinct (P := l.prog) (w := w) (base := base) M F8 (PySem.W.mg_of X G a8) B8
  have O9 := ok_is_tuple (P := l.prog) (w := w) (base := base) M F9 (PySem.W.mg_of X G a9) B9
  have O10 := ok_is_word (P := l.prog) (w := w) (base := base) M F10 (PySem.W.mg_of X G a10) B10
  have O11 := ok_is_words (P := l.prog) (w := w) (base := base) M F11 (PySem.W.mg_of X G a11) B11 O8 O10
  have O12 := ok_is_case (P := l.prog) (w := w) (base := base) M F12 (PySem.W.mg_of X G a12) B12 O9 O11
  have O13 := ok_is_int (P := l.prog) (w := w) (base := base) M F13 (PySem.W.mg_of X G a13) B13
  have O14 := ok_is_precedent (P := l.prog) (w := w) (base := base) M F14 (PySem.W.mg_of X G a14) B14 O9 O10 O12 O13
  have O15 := ok_is_precedents (P := l.prog) (w := w) (base := base) M F15 (PySem.W.mg_of X G a15) B15 O8 O14
  have O16 := ok_check_precedents (P := l.prog) (w := w) (base := base) M F16 (PySem.W.mg_of X G a16) B16 O15
  have O17 := ok_check_case (P := l.prog) (w := w) (base := base) M F17 (PySem.W.mg_of X G a17) B17 O12
  have O18 := ok_with_outcome (P := l.prog) (w := w) (base := base) M F18 (PySem.W.mg_of X G a18) B18
  have O19 := ok_sides_of (P := l.prog) (w := w) (base := base) M F19 (PySem.W.mg_of X G a19) B19
  have O20 := ok_first_missing (P := l.prog) (w := w) (base := base) M F20 (PySem.W.mg_of X G a20) B20
  have O21 := ok_case_of (P := l.prog) (w := w) (base := base) M F21 (PySem.W.mg_of X G a21) B21
  have O22 := ok_find_difference (P := l.prog) (w := w) (base := base) M F22 (PySem.W.mg_of X G a22) B22 O19 O20 O21
  have O23 := ok_first_binding (P := l.prog) (w := w) (base := base) M F23 (PySem.W.mg_of X G a23) B23 O18 O22
  have O24 := ok_find_differences (P := l.prog) (w := w) (base := base) M F24 (PySem.W.mg_of X G a24) B24 O22
  have O25 := ok_rule (P := l.prog) (w := w) (base := base) M F25 (PySem.W.mg_of X G a25) B25 O16 O17 O18 O23 O24
  have O26 := ok__law_difference (P := l.prog) (w := w) (base := base) M F26 (PySem.W.mg_of X G a26) B26
  have O27 := ok__law_rule (P := l.prog) (w := w) (base := base) M F27 (PySem.W.mg_of X G a27) B27 O26
  have O28 := ok__law_outcome (P := l.prog) (w := w) (base := base) M F28 (PySem.W.mg_of X G a28) B28 O25
  have O29 := ok_law (P := l.prog) (w := w) (base := base) M F29 (PySem.W.mg_of X G a29) B29 O0 O1 O2 O5 O6 O7 O25 O27 O28
  exact O29.ok.imp fun vs H Q E h => law_of LH h
end
end PV.Lw
open PySem PySem.W PyProof.Rows
set_option maxRecDepth 100000 in
set_option maxHeartbeats 0 in
theorem PySem.Challenge.cw_umpirehall_k42_rule_holds : PySem.Challenge.rw_umpirehall_k42_rule.Holds := by
  w_on; o_law; k_head; (case hw => w_witness2)
  k_fill
  refine PV.walk (l := PySem.Challenge.rw_umpirehall_k42_rule) (k := 10) ⟨rfl, by decide, by decide⟩ rfl rfl (fun w h Y => PySem.W.kIn_of Y) ?F
  case F =>
    intro w mg fa h KX G hmg
    refine' PV.Lw.all_mk PV.Lw.law_holds KX G hmg ?pv_a0 ?pv_l0 ?pv_c0 ?pv_k0 ?pv_a1 ?pv_l1 ?pv_c1 ?pv_k1 ?pv_a2 ?pv_l2 ?pv_c2 ?pv_k2 ?pv_a3 ?pv_l3 ?pv_c3 ?pv_k3 ?pv_a4 ?pv_l4 ?pv_c4 ?pv_k4 ?pv_a5 ?pv_l5 ?pv_c5 ?pv_k5 ?pv_a6 ?pv_l6 ?pv_c6 ?pv_k6 ?pv_a7 ?pv_l7 ?pv_c7 ?pv_k7 ?pv_a8 ?pv_l8 ?pv_c8 ?pv_k8 ?pv_a9 ?pv_l9 ?pv_c9 ?pv_k9 ?pv_a10 ?pv_l10 ?pv_c10 ?pv_k10 ?pv_a11 ?pv_l11 ?pv_c11 ?pv_k11 ?pv_a12 ?pv_l12 ?pv_c12 ?pv_k12 ?pv_a13 ?pv_l13 ?pv_c13 ?pv_k13 ?pv_a14 ?pv_l14 ?pv_c14 ?pv_k14 ?pv_a15 ?pv_l15 ?pv_c15 ?pv_k15 ?pv_a16 ?pv_l16 ?pv_c16 ?pv_k16 ?pv_a17 ?pv_l17 ?pv_c17 ?pv_k17 ?pv_a18 ?pv_l18 ?pv_c18 ?pv_k18 ?pv_a19 ?pv_l19 ?pv_c19 ?pv_k19 ?pv_a20 ?pv_l20 ?pv_c20 ?pv_k20 ?pv_a21 ?pv_l21 ?pv_c21 ?pv_k21 ?pv_a22 ?pv_l22 ?pv_c22 ?pv_k22 ?pv_a23 ?pv_l23 ?pv_c23 ?pv_k23 ?pv_a24 ?pv_l24 ?pv_c24 ?pv_k24 ?pv_a25 ?pv_l25 ?pv_c25 ?pv_k25 ?pv_a26 ?pv_l26 ?pv_c26 ?pv_k26 ?pv_a27 ?pv_l27 ?pv_c27 ?pv_k27 ?pv_a28 ?pv_l28 ?pv_c28 ?pv_k28 ?pv_a29 ?pv_l29 ?pv_c29 ?pv_k29 ?pv_q0 ?pv_q1 ?pv_q2 ?pv_q3 ?pv_q4 ?pv_q5 ?pv_q6 ?pv_g0 ?pv_e0 ?pv_x0 ?pv_b0 ?pv_y0 ?pv_i0 ?pv_g1 ?pv_e1 ?pv_x1 ?pv_b1 ?pv_y1 ?pv_i1 ?pv_s0_0 ?pv_s0_1 ?pv_s1_0 ?pv_s1_1 ?pv_z0 ?pv_z1 ?pv_z2 ?pv_z3 ?pv_z4 ?pv_z5 ?pv_z6 ?pv_z7 ?pv_z8 ?pv_z9 ?pv_z10 ?pv_z11 ?pv_z12 ?pv_z13 ?pv_z14 ?pv_z15 ?pv_z16 ?pv_z17 ?pv_z18 ?pv_z19 ?pv_z20
    (case pv_a0 => k_is)
    (case pv_l0 => k_is)
    (case pv_c0 => k_is)
    (case pv_k0 => k_is)
    (case pv_a1 => k_is)
    (case pv_l1 => k_is)
    (case pv_c1 => k_is)
    (case pv_k1 => k_is)
    (case pv_a2 => k_is)
    (case pv_l2 => k_is)
    (case pv_c2 => k_is)
    (case pv_k2 => k_is)
    (case pv_a3 => k_is)
    (case pv_l3 => k_is)
    (case pv_c3 => k_is)
    (case pv_k3 => k_is)
    (case pv_a4 => k_is)
    (case pv_l4 => k_is)
    (case pv_c4 => k_is)
    (case pv_k4 => k_is)
    (case pv_a5 => k_is)
    (case pv_l5 => k_is)
    (case pv_c5 => k_is)
    (case pv_k5 => k_is)
    (case pv_a6 => k_is)
    (case pv_l6 => k_is)
    (case pv_c6 => k_is)
    (case pv_k6 => k_is)
    (case pv_a7 => k_is)
    (case pv_l7 => k_is)
    (case pv_c7 => k_is)
    (case pv_k7 => k_is)
    (case pv_a8 => k_is)
    (case pv_l8 => k_is)
    (case pv_c8 => k_is)
    (case pv_k8 => k_is)
    (case pv_a9 => k_is)
    (case pv_l9 => k_is)
    (case pv_c9 => k_is)
    (case pv_k9 => k_is)
    (case pv_a10 => k_is)
    (case pv_l10 => k_is)
    (case pv_c10 => k_is)
    (case pv_k10 => k_is)
    (case pv_a11 => k_is)
    (case pv_l11 => k_is)
    (case pv_c11 => k_is)
    (case pv_k11 => k_is)
    (case pv_a12 => k_is)
    (case pv_l12 => k_is)
    (case pv_c12 => k_is)
    (case pv_k12 => k_is)
    (case pv_a13 => k_is)
    (case pv_l13 => k_is)
    (case pv_c13 => k_is)
    (case pv_k13 => k_is)
    (case pv_a14 => k_is)
    (case pv_l14 => k_is)
    (case pv_c14 => k_is)
    (case pv_k14 => k_is)
    (case pv_a15 => k_is)
    (case pv_l15 => k_is)
    (case pv_c15 => k_is)
    (case pv_k15 => k_is)
    (case pv_a16 => k_is)
    (case pv_l16 => k_is)
    (case pv_c16 => k_is)
    (case pv_k16 => k_is)
    (case pv_a17 => k_is)
    (case pv_l17 => k_is)
    (case pv_c17 => k_is)
    (case pv_k17 => k_is)
    (case pv_a18 => k_is)
    (case pv_l18 => k_is)
    (case pv_c18 => k_is)
    (case pv_k18 => k_is)
    (case pv_a19 => k_is)
    (case pv_l19 => k_is)
    (case pv_c19 => k_is)
    (case pv_k19 => k_is)
    (case pv_a20 => k_is)
    (case pv_l20 => k_is)
    (case pv_c20 => k_is)
    (case pv_k20 => k_is)
    (case pv_a21 => k_is)
    (case pv_l21 => k_is)
    (case pv_c21 => k_is)
    (case pv_k21 => k_is)
    (case pv_a22 => k_is)
    (case pv_l22 => k_is)
    (case pv_c22 => k_is)
    (case pv_k22 => k_is)
    (case pv_a23 => k_is)
    (case pv_l23 => k_is)
    (case pv_c23 => k_is)
    (case pv_k23 => k_is)
    (case pv_a24 => k_is)
    (case pv_l24 => k_is)
    (case pv_c24 => k_is)
    (case pv_k24 => k_is)
    (case pv_a25 => k_is)
    (case pv_l25 => k_is)
    (case pv_c25 => k_is)
    (case pv_k25 => k_is)
    (case pv_a26 => k_is)
    (case pv_l26 => k_is)
    (case pv_c26 => k_is)
    (case pv_k26 => k_is)
    (case pv_a27 => k_is)
    (case pv_l27 => k_is)
    (case pv_c27 => k_is)
    (case pv_k27 => k_is)
    (case pv_a28 => k_is)
    (case pv_l28 => k_is)
    (case pv_c28 => k_is)
    (case pv_k28 => k_is)
    (case pv_a29 => k_is)
    (case pv_l29 => k_is)
    (case pv_c29 => k_is)
    (case pv_k29 => k_is)
    (case pv_q0 => k_is)
    (case pv_q1 => k_is)
    (case pv_q2 => k_is)
    (case pv_q3 => k_is)
    (case pv_q4 => k_is)
    (case pv_q5 => k_is)
    (case pv_q6 => k_is)
    (case pv_g0 => k_is)
    (case pv_e0 => k_exc)
    (case pv_x0 => k_is)
    (case pv_b0 => k_is)
    (case pv_y0 => k_is)
    (case pv_i0 => k_is)
    (case pv_g1 => k_is)
    (case pv_e1 => k_exc)
    (case pv_x1 => k_is)
    (case pv_b1 => k_is)
    (case pv_y1 => k_is)
    (case pv_i1 => k_is)
    (case pv_s0_0 => first | rfl | k_is)
    (case pv_s0_1 => first | rfl | k_is)
    (case pv_s1_0 => first | rfl | k_is)
    (case pv_s1_1 => first | rfl | k_is)
    (case pv_z0 => k_is)
    (case pv_z1 => k_is)
    (case pv_z2 => k_is)
    (case pv_z3 => k_is)
    (case pv_z4 => k_is)
    (case pv_z5 => k_is)
    (case pv_z6 => k_is)
    (case pv_z7 => k_is)
    (case pv_z8 => k_is)
    (case pv_z9 => k_is)
    (case pv_z10 => k_is)
    (case pv_z11 => k_is)
    (case pv_z12 => k_is)
    (case pv_z13 => k_is)
    (case pv_z14 => k_is)
    (case pv_z15 => k_is)
    (case pv_z16 => k_is)
    (case pv_z17 => k_is)
    (case pv_z18 => k_is)
    (case pv_z19 => k_is)
    (case pv_z20 => k_is)
#print axioms PySem.Challenge.cw_umpirehall_k42_rule_holds
