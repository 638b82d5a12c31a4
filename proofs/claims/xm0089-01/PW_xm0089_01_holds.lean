import PyProof.Rows.All
import Wide.All
import OpenK.AllK
import Wide.FinOn
import PySem.Challenge.RW_xm0089_01
open PySem PySem.W PyProof.Rows PySem.Calls
set_option Elab.async false
set_option maxRecDepth 100000
namespace Mine
set_option maxHeartbeats 8000000 in
open_top hd for PySem.Challenge.rw_xm0089_01
end Mine

namespace Mine

/-! ## the pure side: values, objects, store, frame -/
inductive PV where
  | int (i : Int) | bool (b : Bool) | none | ref (k : Nat)

inductive PO where
  | list (xs : List PV) | tup (xs : List PV) | cell (v : Option PV)

abbrev Objs := List (Nat × PO)
abbrev Sto := Nat × Objs
abbrev Frm := List (Option PV)

noncomputable def getF (fr : Frm) : Nat → Option PV :=
  @List.rec (Option PV) (fun _ => Nat → Option PV) (fun _ => none) (fun o _ ih n => @Nat.rec (fun _ => Option PV) o (fun k _ => ih k) n) fr
noncomputable def setF (fr : Frm) (p : PV) : Nat → Frm :=
  @List.rec (Option PV) (fun _ => Nat → Frm) (fun _ => []) (fun o r ih n => @Nat.rec (fun _ => Frm) (some p :: r) (fun k _ => o :: ih k) n) fr
theorem getF_set : ∀ (fr : Frm) (p q : PV) (i j : Nat), getF (setF fr p i) j = some q → (i = j ∧ q = p) ∨ (i ≠ j ∧ getF fr j = some q)
  | [], _, _, _, _, h => by cases h
  | o :: r, p, q, 0, 0, h => .inl ⟨rfl, (Option.some.inj h).symm⟩
  | o :: r, p, q, 0, j + 1, h => .inr ⟨Nat.noConfusion, h⟩
  | o :: r, p, q, i + 1, 0, h => .inr ⟨Nat.noConfusion, h⟩
  | o :: r, p, q, i + 1, j + 1, h => by
    rcases getF_set r p q i j h with ⟨h1, h2⟩ | ⟨h1, h2⟩
    · exact .inl ⟨congrArg _ h1, h2⟩
    · exact .inr ⟨fun e => h1 (Nat.succ.inj e), h2⟩

theorem boolM {α : Type} (b : Bool) (x y : α) : @Bool.rec (fun _ => α) y x b = (match b with | true => x | false => y) := by cases b <;> rfl
noncomputable def getO (k : Nat) (os : Objs) : Option PO :=
  @List.rec (Nat × PO) (fun _ => Option PO) none (fun o _ ih => @Bool.rec (fun _ => Option PO) ih (some o.2) (Nat.beq o.1 k)) os
noncomputable def setO (k : Nat) (p : PO) (os : Objs) : Objs :=
  @List.rec (Nat × PO) (fun _ => Objs) [] (fun o r ih => @Bool.rec (fun _ => Objs) (o :: ih) ((o.1, p) :: r) (Nat.beq o.1 k)) os
/-- drop the newest entries whose id is n or more -/
noncomputable def gcO (n : Nat) (os : Objs) : Objs :=
  @List.rec (Nat × PO) (fun _ => Objs) [] (fun o r ih => @Bool.rec (fun _ => Objs) (o :: r) ih (Nat.ble n o.1)) os

/-! ## the two sides together -/
def VR (φ : List Addr) : PV → Value → Prop
  | .int i, v => ∃ t, v = .int i t
  | .bool b, v => v = .bool b
  | .none, v => v = .none
  | .ref k, v => ∃ a, φ[k]? = some a ∧ v = .ref a
inductive VRs (φ : List Addr) : List PV → List Value → Prop
  | nil : VRs φ [] []
  | cons {p v ps vs} : VR φ p v → VRs φ ps vs → VRs φ (p :: ps) (v :: vs)

def Pre (φ φ' : List Addr) : Prop := ∃ r, φ' = φ ++ r
theorem Pre.refl (φ : List Addr) : Pre φ φ := ⟨[], by simp⟩
theorem Pre.trans {a b c : List Addr} (h : Pre a b) (g : Pre b c) : Pre a c := by
  obtain ⟨r, rfl⟩ := h
  obtain ⟨q, rfl⟩ := g
  exact ⟨r ++ q, by simp⟩
theorem Pre.snoc (φ : List Addr) (a : Addr) : Pre φ (φ ++ [a]) := ⟨[a], rfl⟩
theorem Pre.get {φ φ' : List Addr} (h : Pre φ φ') {k : Nat} {a : Addr} (e : φ[k]? = some a) : φ'[k]? = some a := by
  obtain ⟨r, rfl⟩ := h
  have hk := (List.getElem?_eq_some_iff.mp e).1
  rw [List.getElem?_append_left hk]; exact e
theorem VR.mono {φ φ' : List Addr} (h : Pre φ φ') : ∀ {p : PV} {v : Value}, VR φ p v → VR φ' p v
  | .int _, _, e => e
  | .bool _, _, e => e
  | .none, _, e => e
  | .ref _, _, ⟨a, e, e'⟩ => ⟨a, h.get e, e'⟩
theorem VRs.mono {φ φ' : List Addr} (h : Pre φ φ') : ∀ {p : List PV} {v : List Value}, VRs φ p v → VRs φ' p v
  | _, _, .nil => .nil
  | _, _, .cons a b => .cons (a.mono h) (b.mono h)
theorem VRs.length {φ : List Addr} : ∀ {p : List PV} {v : List Value}, VRs φ p v → v.length = p.length
  | _, _, .nil => rfl
  | _, _, .cons _ b => congrArg (· + 1) b.length
theorem VRs.get {φ : List Addr} : ∀ {p : List PV} {v : List Value} {i : Nat} {x : PV}, VRs φ p v → p[i]? = some x → ∃ y, v[i]? = some y ∧ VR φ x y
  | _, _, _, _, .nil, h => by cases h
  | _, _, 0, _, .cons a _, h => by cases h; exact ⟨_, rfl, a⟩
  | _, _, i + 1, _, .cons _ b, h => b.get (i := i) h
theorem VRs.get' {φ : List Addr} : ∀ {p : List PV} {v : List Value} {i : Nat} {y : Value}, VRs φ p v → v[i]? = some y → ∃ x, p[i]? = some x ∧ VR φ x y
  | _, _, _, _, .nil, h => by cases h
  | _, _, 0, _, .cons a _, h => by cases h; exact ⟨_, rfl, a⟩
  | _, _, i + 1, _, .cons _ b, h => b.get' (i := i) h
theorem VRs.append {φ : List Addr} : ∀ {p : List PV} {v : List Value} {p' : List PV} {v' : List Value}, VRs φ p v → VRs φ p' v' → VRs φ (p ++ p') (v ++ v')
  | _, _, _, _, .nil, h => h
  | _, _, _, _, .cons a b, h => .cons a (b.append h)
theorem VRs.take {φ : List Addr} : ∀ {p : List PV} {v : List Value} (n : Nat), VRs φ p v → VRs φ (p.take n) (v.take n)
  | _, _, 0, _ => by simp only [List.take_zero]; exact .nil
  | _, _, _ + 1, .nil => .nil
  | _, _, n + 1, .cons a b => .cons a (b.take n)
theorem VRs.drop {φ : List Addr} : ∀ {p : List PV} {v : List Value} (n : Nat), VRs φ p v → VRs φ (p.drop n) (v.drop n)
  | _, _, 0, h => h
  | _, _, _ + 1, .nil => .nil
  | _, _, n + 1, .cons _ b => b.drop n
theorem VRs.set {φ : List Addr} : ∀ {p : List PV} {v : List Value} (n : Nat) {x : PV} {y : Value}, VRs φ p v → VR φ x y → VRs φ (p.set n x) (v.set n y)
  | _, _, _, _, _, .nil, _ => .nil
  | _, _, 0, _, _, .cons _ b, h => .cons h b
  | _, _, n + 1, _, _, .cons a b, h => .cons a (b.set n h)
theorem VRs.reverse {φ : List Addr} : ∀ {p : List PV} {v : List Value}, VRs φ p v → VRs φ p.reverse v.reverse
  | _, _, .nil => .nil
  | _, _, .cons a b => by simp only [List.reverse_cons]; exact b.reverse.append (.cons a .nil)

def OR (φ : List Addr) : PO → Obj → Prop
  | .list xs, o => ∃ vs n, o = W.listOf vs.toArray n ∧ VRs φ xs vs
  | .tup xs, o => ∃ vs, o = { cls := .type "tuple", data := .seq vs.toArray } ∧ VRs φ xs vs
  | .cell (some p), o => ∃ y, o.data = .cell (some y) ∧ VR φ p y
  | .cell none, o => ∃ y, o.data = .cell y
theorem OR.mono {φ φ' : List Addr} (h : Pre φ φ') : ∀ {p : PO} {v : Obj}, OR φ p v → OR φ' p v
  | .list _, _, ⟨vs, n, e, r⟩ => ⟨vs, n, e, r.mono h⟩
  | .tup _, _, ⟨vs, e, r⟩ => ⟨vs, e, r.mono h⟩
  | .cell (some _), _, ⟨y, e, r⟩ => ⟨y, e, r.mono h⟩
  | .cell none, _, e => e
inductive OsR (φ : List Addr) : Objs → List (Addr × Obj) → Prop
  | nil : OsR φ [] []
  | cons {k p a o os led} : φ[k]? = some a → OR φ p o → OsR φ os led → OsR φ ((k, p) :: os) ((a, o) :: led)
theorem OsR.mono {φ φ' : List Addr} (h : Pre φ φ') : ∀ {p : Objs} {v : List (Addr × Obj)}, OsR φ p v → OsR φ' p v
  | _, _, .nil => .nil
  | _, _, .cons a b r => .cons (h.get a) (b.mono h) (r.mono h)

theorem OsR.get {φ : List Addr} {k : Nat} : ∀ {os : Objs} {led : List (Addr × Obj)} {p : PO}, OsR φ os led → getO k os = some p → ∃ a o, φ[k]? = some a ∧ (a, o) ∈ led ∧ OR φ p o
  | _, _, _, .nil, h => by cases h
  | _, _, p, @OsR.cons _ k' p' a o os led ha ho r, h => by
    have h' : (match Nat.beq k' k with | true => some p' | false => getO k os) = some p := (boolM _ _ _).symm.trans h
    cases e : Nat.beq k' k with
    | true =>
      rw [e] at h'
      have := Nat.eq_of_beq_eq_true e
      subst this
      cases h'
      exact ⟨a, o, ha, .head _, ho⟩
    | false =>
      rw [e] at h'
      obtain ⟨a', o', h1, h2, h3⟩ := r.get h'
      exact ⟨a', o', h1, .tail _ h2, h3⟩

/-- an update of the store at k: the ledger splits at its address -/
theorem OsR.set {φ : List Addr} {k : Nat} {p' : PO} : ∀ {os : Objs} {led : List (Addr × Obj)} {p : PO}, OsR φ os led → getO k os = some p →
    ∃ a o pre post, φ[k]? = some a ∧ led = pre ++ (a, o) :: post ∧ OR φ p o ∧ ∀ o', OR φ p' o' → OsR φ (setO k p' os) (pre ++ (a, o') :: post)
  | _, _, _, .nil, h => by cases h
  | _, _, p, @OsR.cons _ k' q a o os led ha ho r, h => by
    have h' : (match Nat.beq k' k with | true => some q | false => getO k os) = some p := (boolM _ _ _).symm.trans h
    have hs : setO k p' ((k', q) :: os) = (match Nat.beq k' k with | true => (k', p') :: os | false => (k', q) :: setO k p' os) := boolM _ _ _
    cases e : Nat.beq k' k with
    | true =>
      rw [e] at h' hs
      have := Nat.eq_of_beq_eq_true e
      subst this
      cases h'
      exact ⟨a, o, [], led, ha, rfl, ho, fun o' h => by rw [hs]; exact .cons ha h r⟩
    | false =>
      rw [e] at h' hs
      obtain ⟨a', o', pre, post, h1, h2, h3, h4⟩ := r.set (p' := p') h'
      refine ⟨a', o', (a, o) :: pre, post, h1, by rw [h2]; rfl, h3, fun o'' h => ?_⟩
      rw [hs]
      exact .cons ha ho (h4 o'' h)

theorem OsR.gc {φ : List Addr} {n : Nat} : ∀ {os : Objs} {led : List (Addr × Obj)}, OsR φ os led → ∃ a b, led = a ++ b ∧ OsR φ (gcO n os) b
  | _, _, .nil => ⟨[], [], rfl, .nil⟩
  | _, _, @OsR.cons _ k' q a o os led ha ho r => by
    have hs : gcO n ((k', q) :: os) = (match Nat.ble n k' with | true => gcO n os | false => (k', q) :: os) := boolM _ _ _
    cases e : Nat.ble n k' with
    | true =>
      rw [e] at hs
      obtain ⟨x, y, h1, h2⟩ := r.gc (n := n)
      exact ⟨(a, o) :: x, y, by rw [h1]; rfl, by rw [hs]; exact h2⟩
    | false =>
      rw [e] at hs
      exact ⟨[], (a, o) :: led, rfl, by rw [hs]; exact .cons ha ho r⟩

/-- drop the newest entries whose id is n or more, but not k's -/
noncomputable def gcK (n k : Nat) (os : Objs) : Objs :=
  @List.rec (Nat × PO) (fun _ => Objs) [] (fun o r ih => @Bool.rec (fun _ => Objs) (o :: r) (@Bool.rec (fun _ => Objs) ih (o :: ih) (Nat.beq o.1 k)) (Nat.ble n o.1)) os
theorem OsR.gcK {φ : List Addr} {n k : Nat} : ∀ {os : Objs} {led : List (Addr × Obj)}, OsR φ os led → ∃ b, b.Sublist led ∧ OsR φ (gcK n k os) b
  | _, _, .nil => ⟨[], .slnil, .nil⟩
  | _, _, @OsR.cons _ k' q a o os led ha ho r => by
    have hs : Mine.gcK n k ((k', q) :: os) = @Bool.rec (fun _ => Objs) ((k', q) :: os) (@Bool.rec (fun _ => Objs) (Mine.gcK n k os) ((k', q) :: Mine.gcK n k os) (Nat.beq k' k)) (Nat.ble n k') := rfl
    obtain ⟨b, h1, h2⟩ := r.gcK (n := n) (k := k)
    rw [hs]
    cases Nat.ble n k' with
    | false => exact ⟨(a, o) :: led, .refl _, .cons ha ho r⟩
    | true =>
      cases Nat.beq k' k with
      | false => exact ⟨b, .cons _ h1, h2⟩
      | true => exact ⟨(a, o) :: b, .cons₂ _ h1, .cons ha ho h2⟩

/-! ## the activation -/
structure FC where
  A : Around
  h₀ : Heap
  L : Addr
  env : Env
  names : List Str
  cids : List (Str × Nat)
  /-- objects that must stand (a comprehension's names) -/
  must : List (Addr × Obj)
  base : List Addr

structure SR (c : FC) (φ : List Addr) (fr : Frm) (st : Sto) (m : Str → Option Value) (led ext : List (Addr × Obj)) (h : Heap) : Prop where
  F : Fr c.h₀ c.L h m
  N : News c.h₀ c.L h (led ++ ext)
  nd : ((led ++ ext).map (·.1)).Nodup
  nx : st.1 = φ.length
  os : OsR φ st.2 led
  fr : ∀ i x p, c.names[i]? = some x → getF fr i = some p → ∃ v, m x = some v ∧ VR φ p v
  ce : ∀ x k, (x, k) ∈ c.cids → ∃ a, c.env.cells.lookup x = some a ∧ φ[k]? = some a
  mu : ∀ p ∈ c.must, p ∈ ext
  ba : Pre c.base φ

abbrev NoE : Value → Shared → Prop := fun _ _ => False

section
variable (prog : Program) (w : World)
def Sim {α β : Type} (c : FC) (φ : List Addr) (fr : Frm) (t : Sem α) (R : List Addr → β → α → Prop) (r : Option (β × Sto)) (st : Sto) : Prop :=
  ∀ (m : Str → Option Value) (led ext : List (Addr × Obj)) (s : Shared) (Q : α → Shared → Prop) (b : β) (st' : Sto), r = some (b, st') → SR c φ fr st m led ext s.heap →
    (∀ φ' led' a h' tk', Pre φ φ' → SR c φ' fr st' m led' ext h' → R φ' b a → Q a { s with heap := h', toks := tk' }) → wpAny (model prog w) c.A t Q NoE s

abbrev PE := Frm → Sto → Option (PV × Sto)
abbrev PT := Frm → Sto → Option (Bool × Sto)
def SimE (c : FC) (e : Expr) (f : PE) : Prop := ∀ φ fr st, Sim prog w c φ fr (eval e c.env) VR (f fr st) st
def SimT (c : FC) (e : Expr) (f : PT) : Prop := ∀ φ fr st, Sim prog w c φ fr (isTrue e c.env (eval e c.env)) (fun _ b a => a = b) (f fr st) st

inductive PF where
  | next | ret (p : PV)
def FlR (φ : List Addr) : PF → Flow → Prop
  | .next, f => f = .next
  | .ret p, f => ∃ v, f = .ret v ∧ VR φ p v
abbrev PS := Frm → Sto → Option (PF × Frm × Sto)
def SimS (c : FC) (t : Sem Flow) (f : PS) : Prop :=
  ∀ (φ : List Addr) (fr : Frm) (st : Sto) (m : Str → Option Value) (led ext : List (Addr × Obj)) (s : Shared) (Q : Flow → Shared → Prop) (fl : PF) (fr' : Frm) (st' : Sto), f fr st = some (fl, fr', st') → SR c φ fr st m led ext s.heap →
    (∀ φ' led' m' a h' tk', Pre φ φ' → SR c φ' fr' st' m' led' ext h' → FlR φ' fl a → Q a { s with heap := h', toks := tk' }) → wpAny (model prog w) c.A t Q NoE s
end
end Mine

namespace Mine

/-! ## the state relation: what a step of the heap does to it -/
section
variable {c : FC} {φ : List Addr} {fr : Frm} {st : Sto} {m : Str → Option Value} {led ext : List (Addr × Obj)} {h h' : Heap} {D : Addr} {o : Obj} {po : PO}

theorem SR.keep (H : SR c φ fr st m led ext h) (F : Fr c.h₀ c.L h' m) (N : News c.h₀ c.L h' (led ++ ext)) : SR c φ fr st m led ext h' :=
  ⟨F, N, H.nd, H.nx, H.os, H.fr, H.ce, H.mu, H.ba⟩

theorem SR.push (H : SR c φ fr st m led ext h) (F : Fr c.h₀ c.L h' m) (N : News c.h₀ c.L h' ((D, o) :: (led ++ ext))) (hlt : ∀ p ∈ led ++ ext, p.1 < D) (ho : OR (φ ++ [D]) po o) :
    SR c (φ ++ [D]) fr (Nat.succ st.1, (st.1, po) :: st.2) m ((D, o) :: led) ext h' where
  F := F
  N := N
  nd := by
    rw [List.cons_append, List.map_cons]
    refine List.nodup_cons.mpr ⟨fun q => ?_, H.nd⟩
    obtain ⟨p, hp, e⟩ := List.mem_map.mp q
    have := hlt p hp
    rw [e] at this
    exact absurd this (Nat.lt_irrefl _)
  nx := by show Nat.succ st.1 = (φ ++ [D]).length; rw [H.nx, List.length_append]; rfl
  os := .cons (by rw [H.nx]; simp) ho (H.os.mono (Pre.snoc φ D))
  fr := fun i x p h1 h2 => let ⟨v, e, r⟩ := H.fr i x p h1 h2; ⟨v, e, r.mono (Pre.snoc φ D)⟩
  ce := fun x k h1 => let ⟨a, e, r⟩ := H.ce x k h1; ⟨a, e, (Pre.snoc φ D).get r⟩
  mu := H.mu
  ba := H.ba.trans (Pre.snoc φ D)

/-- an address made, nothing of it kept in the ledger -/
theorem SR.below (H : SR c φ fr st m led ext h) : ∀ p ∈ led ++ ext, p.1 < h.objs.size := fun p hp => Heap.lt_size (H.N p hp).1

theorem nodup_mid {α : Type} {pre post : List α} {a : α} (h : (pre ++ a :: post).Nodup) : (∀ x ∈ pre, x ≠ a) ∧ ∀ x ∈ post, x ≠ a := by
  rw [List.nodup_append] at h
  obtain ⟨_, h2, h3⟩ := h
  refine ⟨fun x hx e => h3 x hx a (.head _) e, fun x hx e => ?_⟩
  rw [List.nodup_cons] at h2
  exact h2.1 (e ▸ hx)

theorem SR.gc (H : SR c φ fr st m led ext h) (n : Nat) : ∃ led', SR c φ fr (st.1, gcO n st.2) m led' ext h := by
  obtain ⟨a, b, e, ho⟩ := H.os.gc (n := n)
  have hs : (b ++ ext).Sublist (led ++ ext) := by rw [e, List.append_assoc]; exact List.sublist_append_right a (b ++ ext)
  exact ⟨b, H.F, fun p hp => H.N p (hs.subset hp), (hs.map _).nodup H.nd, H.nx, ho, H.fr, H.ce, H.mu, H.ba⟩

theorem SR.gcK (H : SR c φ fr st m led ext h) (n k : Nat) : ∃ led', SR c φ fr (st.1, gcK n k st.2) m led' ext h := by
  obtain ⟨b, e, ho⟩ := H.os.gcK (n := n) (k := k)
  have hs : (b ++ ext).Sublist (led ++ ext) := e.append (.refl ext)
  exact ⟨b, H.F, fun p hp => H.N p (hs.subset hp), (hs.map _).nodup H.nd, H.nx, ho, H.fr, H.ce, H.mu, H.ba⟩

theorem SR.list (H : SR c φ fr st m led ext h) {k : Nat} {xs : List PV} (e : getO k st.2 = some (.list xs)) :
    ∃ a vs n, φ[k]? = some a ∧ (a, W.listOf vs.toArray n) ∈ led ++ ext ∧ h.IsList a vs.toArray ∧ VRs φ xs vs := by
  obtain ⟨a, o, h1, h2, vs, n, rfl, h4⟩ := H.os.get e
  have hm := List.mem_append_left ext h2
  exact ⟨a, vs, n, h1, hm, ⟨_, (H.N _ hm).1, rfl, n, rfl⟩, h4⟩
theorem SR.tup (H : SR c φ fr st m led ext h) {k : Nat} {xs : List PV} (e : getO k st.2 = some (.tup xs)) :
    ∃ a vs, φ[k]? = some a ∧ IsTup h a vs.toArray ∧ VRs φ xs vs := by
  obtain ⟨a, o, h1, h2, vs, rfl, h4⟩ := H.os.get e
  exact ⟨a, vs, h1, ⟨_, (H.N _ (List.mem_append_left ext h2)).1, rfl, _, rfl⟩, h4⟩

theorem SR.set (H : SR c φ fr st m led ext h) {k : Nat} {po' : PO} (e : getO k st.2 = some po) :
    ∃ a o pre post, φ[k]? = some a ∧ led = pre ++ (a, o) :: post ∧ OR φ po o ∧ (∀ p ∈ pre, p.1 ≠ a) ∧ (∀ p ∈ post ++ ext, p.1 ≠ a) ∧
      ∀ o' h', OR φ po' o' → Fr c.h₀ c.L h' m → News c.h₀ c.L h' (pre ++ (a, o') :: (post ++ ext)) → SR c φ fr (st.1, setO k po' st.2) m (pre ++ (a, o') :: post) ext h' := by
  obtain ⟨a, o, pre, post, h1, h2, h3, h4⟩ := H.os.set (p' := po') e
  have nd := H.nd
  rw [h2, List.append_assoc, List.cons_append, List.map_append, List.map_cons] at nd
  have q := nodup_mid nd
  refine ⟨a, o, pre, post, h1, h2, h3, fun p hp => q.1 _ (List.mem_map_of_mem hp), fun p hp => q.2 _ (List.mem_map_of_mem hp), fun o' h' ho F N => ⟨F, by rw [List.append_assoc]; exact N, ?_, H.nx, h4 o' ho, H.fr, H.ce, H.mu, H.ba⟩⟩
  rw [List.append_assoc, List.cons_append, List.map_append, List.map_cons]
  exact nd
end

/-! ## expressions -/
noncomputable def allocF (po : PO) : Sto → Option (PV × Sto) := fun st => match st with | (n, os) => some (.ref n, (Nat.succ n, (n, po) :: os))

noncomputable def eLoc (i : Nat) : PE := fun fr st => match getF fr i with | some p => some (p, st) | none => none
noncomputable def eCell (k : Nat) : PE := fun _ st => match getO k st.2 with | some (.cell (some p)) => some (p, st) | _ => none
noncomputable def eVal (v : PV) : PE := fun _ st => some (v, st)
noncomputable def eBin (op : PV → PV → Sto → Option (PV × Sto)) (a b : PE) : PE := fun fr st =>
  @Option.rec (PV × Sto) (fun _ => Option (PV × Sto)) none (fun r => @Option.rec (PV × Sto) (fun _ => Option (PV × Sto)) none (fun q => op r.1 q.1 q.2) (b fr r.2)) (a fr st)
noncomputable def eUn (op : PV → Sto → Option (PV × Sto)) (a : PE) : PE := fun fr st =>
  match a fr st with
  | some (x, st1) => op x st1
  | none => none
noncomputable def eIf (t : PT) (a b : PE) : PE := fun fr st =>
  match t fr st with
  | some (true, st1) => a fr st1
  | some (false, st1) => b fr st1
  | none => none
noncomputable def tOf (a : PE) : PT := fun fr st =>
  match a fr st with
  | some (.bool b, st1) => some (b, st1)
  | _ => none
noncomputable def tAnd (a b : PT) : PT := fun fr st =>
  match a fr st with
  | some (true, st1) => b fr st1
  | some (false, st1) => some (false, st1)
  | none => none
noncomputable def tOr (a b : PT) : PT := fun fr st =>
  match a fr st with
  | some (true, st1) => some (true, st1)
  | some (false, st1) => b fr st1
  | none => none
noncomputable def eAnd (a b : PE) : PE := fun fr st =>
  match a fr st with
  | some (.bool true, st1) => b fr st1
  | some (.bool false, st1) => some (.bool false, st1)
  | _ => none
noncomputable def eOr (a b : PE) : PE := fun fr st =>
  match a fr st with
  | some (.bool true, st1) => some (.bool true, st1)
  | some (.bool false, st1) => b fr st1
  | _ => none
noncomputable def esNil : Frm → Sto → Option (List PV × Sto) := fun _ st => some ([], st)
noncomputable def esCons (a : PE) (b : Frm → Sto → Option (List PV × Sto)) : Frm → Sto → Option (List PV × Sto) := fun fr st =>
  match a fr st with
  | some (x, st1) => (match b fr st1 with
    | some (xs, st2) => some (x :: xs, st2)
    | none => none)
  | none => none

section
variable (prog : Program) (w : World)
def SimO1 (c : FC) (t : Value → Sem Value) (f : PV → Sto → Option (PV × Sto)) : Prop := ∀ φ fr x vx st, VR φ x vx → Sim prog w c φ fr (t vx) VR (f x st) st
def SimO2 (c : FC) (t : Value → Value → Sem Value) (f : PV → PV → Sto → Option (PV × Sto)) : Prop := ∀ φ fr x y vx vy st, VR φ x vx → VR φ y vy → Sim prog w c φ fr (t vx vy) VR (f x y st) st
def SimL (c : FC) (pos : Pos) (es : List Expr) (f : Frm → Sto → Option (List PV × Sto)) : Prop := ∀ φ fr st, Sim prog w c φ fr (spliced (backTo pos (starEach es c.env))) VRs (f fr st) st
end

section
variable {prog : Program} {w : World} {c : FC}

theorem simE_loc {i : Nat} {x : Str} {pos : Pos} (hL : c.env.locals = c.L) (hx : c.names[i]? = some x) (hk : c.env.scope.kind = .function) (hl : c.env.kindOf x = some .local)
    (hd : (x == ("__debug__" : Str)) = false) : SimE prog w c (.Name x pos) (eLoc i) := by
  intro φ fr st m led ext s Q b st' hf H k
  unfold eLoc at hf
  cases e : getF fr i with
  | none => rw [e] at hf; cases hf
  | some p =>
    rw [e] at hf; cases hf
    obtain ⟨v, hv, hr⟩ := H.fr _ _ _ hx e
    exact wpAny_Name (wpAny_loadName_local hk hl (by rw [hL]; exact H.F.ns) hv (k _ _ _ _ _ (Pre.refl _) H hr)) hd

theorem simE_cell {i : Nat} {x : Str} {pos : Pos} (hx : (x, i) ∈ c.cids) (hk : c.env.scope.kind = .function) (hl : c.env.kindOf x = some .cell)
    (hd : (x == ("__debug__" : Str)) = false) : SimE prog w c (.Name x pos) (eCell i) := by
  intro φ fr st m led ext s Q b st' hf H k
  unfold eCell at hf
  cases e : getO i st.2 with
  | none => rw [e] at hf; cases hf
  | some p =>
    rw [e] at hf
    cases p with
    | list _ => cases hf
    | tup _ => cases hf
    | cell v =>
      cases v with
      | none => cases hf
      | some p =>
        cases hf
        obtain ⟨a, h1, h2⟩ := H.ce _ _ hx
        obtain ⟨a', o, h3, h4, y, h5, h6⟩ := H.os.get e
        have : a' = a := Option.some.inj (h3.symm.trans h2)
        subst this
        exact wpAny_Name (wpAny_loadName_cell hk hl h1 ⟨o, H.N.get (List.mem_append_left ext h4), h5⟩ (k _ _ _ _ _ (Pre.refl _) H h6)) hd

theorem simE_free {i : Nat} {x : Str} {pos : Pos} (hx : (x, i) ∈ c.cids) (hk : c.env.scope.kind = .function) (hl : c.env.kindOf x = some .free)
    (hd : (x == ("__debug__" : Str)) = false) (hcd : (x == Str.ofString "__classdict__") = false) : SimE prog w c (.Name x pos) (eCell i) := by
  intro φ fr st m led ext s Q b st' hf H k
  unfold eCell at hf
  cases e : getO i st.2 with
  | none => rw [e] at hf; cases hf
  | some p =>
    rw [e] at hf
    cases p with
    | list _ => cases hf
    | tup _ => cases hf
    | cell v =>
      cases v with
      | none => cases hf
      | some p =>
        cases hf
        obtain ⟨a, h1, h2⟩ := H.ce _ _ hx
        obtain ⟨a', o, h3, h4, y, h5, h6⟩ := H.os.get e
        have : a' = a := Option.some.inj (h3.symm.trans h2)
        subst this
        exact wpAny_Name (wpAny_loadName_free (hn := hcd) hk hl h1 ⟨o, H.N.get (List.mem_append_left ext h4), h5⟩ (k _ _ _ _ _ (Pre.refl _) H h6)) hd

theorem simE_int {i : Int} {n : Nat} {pos : Pos} : SimE prog w c (.Constant (.int i) n pos) (eVal (.int i)) := by
  intro φ fr st m led ext s Q b st' hf H k
  cases hf
  exact wpAny_Constant_int (k _ _ _ _ _ (Pre.refl _) H ⟨_, rfl⟩)
theorem simE_bool {i : Bool} {n : Nat} {pos : Pos} : SimE prog w c (.Constant (.bool i) n pos) (eVal (.bool i)) := by
  intro φ fr st m led ext s Q b st' hf H k
  cases hf
  exact wpAny_Constant_bool (k _ _ _ _ _ (Pre.refl _) H rfl)
theorem simE_none {n : Nat} {pos : Pos} : SimE prog w c (.Constant .none n pos) (eVal .none) := by
  intro φ fr st m led ext s Q b st' hf H k
  cases hf
  exact wpAny_Constant_none (k _ _ _ _ _ (Pre.refl _) H rfl)

theorem eBin_some {op : PV → PV → Sto → Option (PV × Sto)} {a b : PE} {fr : Frm} {st : Sto} {r : PV × Sto} (h : eBin op a b fr st = some r) :
    ∃ x st1 y st2, a fr st = some (x, st1) ∧ b fr st1 = some (y, st2) ∧ op x y st2 = some r := by
  unfold eBin at h
  cases ea : a fr st with
  | none => rw [ea] at h; cases h
  | some p =>
    obtain ⟨x, st1⟩ := p
    rw [ea] at h
    dsimp only at h
    cases eb : b fr st1 with
    | none => rw [eb] at h; cases h
    | some q => obtain ⟨y, st2⟩ := q; rw [eb] at h; exact ⟨x, st1, y, st2, rfl, eb, h⟩
theorem eUn_some {op : PV → Sto → Option (PV × Sto)} {a : PE} {fr : Frm} {st : Sto} {r : PV × Sto} (h : eUn op a fr st = some r) :
    ∃ x st1, a fr st = some (x, st1) ∧ op x st1 = some r := by
  unfold eUn at h
  cases ea : a fr st with
  | none => rw [ea] at h; cases h
  | some p => obtain ⟨x, st1⟩ := p; rw [ea] at h; exact ⟨x, st1, rfl, h⟩

theorem simE_bin {l r : Expr} {op : Operator} {pos : Pos} {fa fb : PE} {fo : PV → PV → Sto → Option (PV × Sto)}
    (ha : SimE prog w c l fa) (hb : SimE prog w c r fb) (ho : SimO2 prog w c (binaryOp op) fo) : SimE prog w c (.BinOp l op r pos) (eBin fo fa fb) := by
  intro φ fr st m led ext s Q b st' hf H k
  obtain ⟨x, st1, y, st2, e1, e2, e3⟩ := eBin_some hf
  refine wpAny_BinOp (ha _ _ _ _ _ _ _ _ _ _ e1 H fun φ1 led1 v1 h1 tk1 p1 H1 R1 => ?_)
  refine hb _ _ _ _ _ _ _ _ _ _ e2 H1 fun φ2 led2 v2 h2 tk2 p2 H2 R2 => ?_
  exact ho _ _ _ _ _ _ _ (R1.mono p2) R2 _ _ _ _ _ _ _ e3 H2 fun φ3 led3 v3 h3 tk3 p3 H3 R3 => k _ _ _ _ _ (p1.trans (p2.trans p3)) H3 R3

theorem simE_cmp {l r : Expr} {op : CmpOp} {pos : Pos} {fa fb : PE} {fo : PV → PV → Sto → Option (PV × Sto)}
    (ha : SimE prog w c l fa) (hb : SimE prog w c r fb) (ho : SimO2 prog w c (compareOp op) fo) (hm : behindInMarks op r = false) : SimE prog w c (.Compare l [op] [r] pos) (eBin fo fa fb) := by
  intro φ fr st m led ext s Q b st' hf H k
  obtain ⟨x, st1, y, st2, e1, e2, e3⟩ := eBin_some hf
  refine wpAny_Compare1 (ha _ _ _ _ _ _ _ _ _ _ e1 H fun φ1 led1 v1 h1 tk1 p1 H1 R1 => ?_) hm
  refine hb _ _ _ _ _ _ _ _ _ _ e2 H1 fun φ2 led2 v2 h2 tk2 p2 H2 R2 => ?_
  exact ho _ _ _ _ _ _ _ (R1.mono p2) R2 _ _ _ _ _ _ _ e3 H2 fun φ3 led3 v3 h3 tk3 p3 H3 R3 => k _ _ _ _ _ (p1.trans (p2.trans p3)) H3 R3

theorem tOf_some {a : PE} {fr : Frm} {st : Sto} {b : Bool} {st' : Sto} (h : tOf a fr st = some (b, st')) : a fr st = some (.bool b, st') := by
  unfold tOf at h
  cases ea : a fr st with
  | none => rw [ea] at h; cases h
  | some p =>
    obtain ⟨x, st1⟩ := p
    rw [ea] at h
    cases x <;> first | (cases h; rfl) | cases h

theorem simT_cmp {l r : Expr} {op : CmpOp} {pos : Pos} {fa fb : PE} {fo : PV → PV → Sto → Option (PV × Sto)}
    (ha : SimE prog w c l fa) (hb : SimE prog w c r fb) (ho : SimO2 prog w c (compareOp op) fo) (hm : behindInMarks op r = false) : SimT prog w c (.Compare l [op] [r] pos) (tOf (eBin fo fa fb)) := by
  intro φ fr st m led ext s Q b st' hf H k
  obtain ⟨x, st1, y, st2, e1, e2, e3⟩ := eBin_some (tOf_some hf)
  refine wpAny_isTrue_Compare1 (ha _ _ _ _ _ _ _ _ _ _ e1 H fun φ1 led1 v1 h1 tk1 p1 H1 R1 => ?_) hm
  refine hb _ _ _ _ _ _ _ _ _ _ e2 H1 fun φ2 led2 v2 h2 tk2 p2 H2 R2 => ?_
  refine ho _ _ _ _ _ _ _ (R1.mono p2) R2 _ _ _ _ _ _ _ e3 H2 fun φ3 led3 v3 h3 tk3 p3 H3 R3 => ?_
  have e : v3 = .bool b := R3
  subst e
  exact wpAny_truthy_bool (k _ _ _ _ _ (p1.trans (p2.trans p3)) H3 rfl)

theorem simT_plain {e : Expr} {f : PE} (hf' : SimE prog w c e f) (hp : isTrue e c.env (eval e c.env) = (do let v ← eval e c.env; standAt e.pos; holding [v] (truthy v))) : SimT prog w c e (tOf f) := by
  intro φ fr st m led ext s Q b st' hf H k
  refine isTrue_plain (hf' _ _ _ _ _ _ _ _ _ _ (tOf_some hf) H fun φ1 led1 v1 h1 tk1 p1 H1 R1 => ?_) hp
  have e : v1 = .bool b := R1
  subst e
  exact wpAny_truthy_bool (k _ _ _ _ _ p1 H1 rfl)

theorem simT_and {x y : Expr} {pos : Pos} {fa fb : PT} (ha : SimT prog w c x fa) (hb : SimT prog w c y fb) : SimT prog w c (.BoolOp .And [x, y] pos) (tAnd fa fb) := by
  intro φ fr st m led ext s Q b st' hf H k
  unfold tAnd at hf
  cases ea : fa fr st with
  | none => rw [ea] at hf; cases hf
  | some p =>
    obtain ⟨b1, st1⟩ := p
    rw [ea] at hf
    refine isTrue_and (ha _ _ _ _ _ _ _ _ _ _ ea H fun φ1 led1 v1 h1 tk1 p1 H1 R1 => ?_)
    subst R1
    cases v1 with
    | false => cases hf; simpa using k _ _ _ _ _ p1 H1 rfl
    | true =>
      simp only [if_true]
      refine isTrue_and (hb _ _ _ _ _ _ _ _ _ _ hf H1 fun φ2 led2 v2 h2 tk2 p2 H2 R2 => ?_)
      subst R2
      cases v2 with
      | false => simpa using k _ _ _ _ _ (p1.trans p2) H2 rfl
      | true => simp only [if_true]; exact isTrue_and_nil (k _ _ _ _ _ (p1.trans p2) H2 rfl)

theorem simT_or {x y : Expr} {pos : Pos} {fa fb : PT} (ha : SimT prog w c x fa) (hb : SimT prog w c y fb) : SimT prog w c (.BoolOp .Or [x, y] pos) (tOr fa fb) := by
  intro φ fr st m led ext s Q b st' hf H k
  unfold tOr at hf
  cases ea : fa fr st with
  | none => rw [ea] at hf; cases hf
  | some p =>
    obtain ⟨b1, st1⟩ := p
    rw [ea] at hf
    refine isTrue_or (ha _ _ _ _ _ _ _ _ _ _ ea H fun φ1 led1 v1 h1 tk1 p1 H1 R1 => ?_)
    subst R1
    cases v1 with
    | true => cases hf; simpa using k _ _ _ _ _ p1 H1 rfl
    | false =>
      simp only [Bool.false_eq_true, if_false]
      refine isTrue_or (hb _ _ _ _ _ _ _ _ _ _ hf H1 fun φ2 led2 v2 h2 tk2 p2 H2 R2 => ?_)
      subst R2
      cases v2 with
      | true => simpa using k _ _ _ _ _ (p1.trans p2) H2 rfl
      | false => simp only [Bool.false_eq_true, if_false]; exact isTrue_or_nil (k _ _ _ _ _ (p1.trans p2) H2 rfl)

theorem simE_and {x y : Expr} {pos : Pos} {fa fb : PE} (ha : SimE prog w c x fa) (hb : SimE prog w c y fb) : SimE prog w c (.BoolOp .And [x, y] pos) (eAnd fa fb) := by
  intro φ fr st m led ext s Q b st' hf H k
  unfold eAnd at hf
  cases ea : fa fr st with
  | none => rw [ea] at hf; cases hf
  | some p =>
    obtain ⟨b1, st1⟩ := p
    rw [ea] at hf
    refine BoolOp_and (ha _ _ _ _ _ _ _ _ _ _ ea H fun φ1 led1 v1 h1 tk1 p1 H1 R1 => ?_)
    cases b1 with
    | bool b1 =>
      have e : v1 = .bool b1 := R1
      subst e
      refine wpAny_truthy_bool ?_
      cases b1 with
      | false => cases hf; simp only [Bool.false_eq_true, if_false]; exact k _ _ _ _ _ p1 H1 rfl
      | true =>
        simp only [if_true]
        exact BoolOp_one (hb _ _ _ _ _ _ _ _ _ _ hf H1 fun φ2 led2 v2 h2 tk2 p2 H2 R2 => k _ _ _ _ _ (p1.trans p2) H2 R2)
    | _ => cases hf

theorem simE_or {x y : Expr} {pos : Pos} {fa fb : PE} (ha : SimE prog w c x fa) (hb : SimE prog w c y fb) : SimE prog w c (.BoolOp .Or [x, y] pos) (eOr fa fb) := by
  intro φ fr st m led ext s Q b st' hf H k
  unfold eOr at hf
  cases ea : fa fr st with
  | none => rw [ea] at hf; cases hf
  | some p =>
    obtain ⟨b1, st1⟩ := p
    rw [ea] at hf
    refine BoolOp_or (ha _ _ _ _ _ _ _ _ _ _ ea H fun φ1 led1 v1 h1 tk1 p1 H1 R1 => ?_)
    cases b1 with
    | bool b1 =>
      have e : v1 = .bool b1 := R1
      subst e
      refine wpAny_truthy_bool ?_
      cases b1 with
      | true => cases hf; simp only [if_true]; exact k _ _ _ _ _ p1 H1 rfl
      | false =>
        simp only [Bool.false_eq_true, if_false]
        exact BoolOp_one (hb _ _ _ _ _ _ _ _ _ _ hf H1 fun φ2 led2 v2 h2 tk2 p2 H2 R2 => k _ _ _ _ _ (p1.trans p2) H2 R2)
    | _ => cases hf

theorem simE_if {t x y : Expr} {pos : Pos} {ft : PT} {fa fb : PE} (ht : SimT prog w c t ft) (ha : SimE prog w c x fa) (hb : SimE prog w c y fb) : SimE prog w c (.IfExp t x y pos) (eIf ft fa fb) := by
  intro φ fr st m led ext s Q b st' hf H k
  unfold eIf at hf
  cases ea : ft fr st with
  | none => rw [ea] at hf; cases hf
  | some p =>
    obtain ⟨b1, st1⟩ := p
    rw [ea] at hf
    refine IfExp_ (ht _ _ _ _ _ _ _ _ _ _ ea H fun φ1 led1 v1 h1 tk1 p1 H1 R1 => ?_)
    subst R1
    cases v1 with
    | true => simp only [if_true]; exact ha _ _ _ _ _ _ _ _ _ _ hf H1 fun φ2 led2 v2 h2 tk2 p2 H2 R2 => k _ _ _ _ _ (p1.trans p2) H2 R2
    | false => simp only [Bool.false_eq_true, if_false]; exact hb _ _ _ _ _ _ _ _ _ _ hf H1 fun φ2 led2 v2 h2 tk2 p2 H2 R2 => k _ _ _ _ _ (p1.trans p2) H2 R2

theorem simE_un {x : Expr} {op : UnaryOp} {pos : Pos} {fa : PE} {fo : PV → Sto → Option (PV × Sto)} (ha : SimE prog w c x fa) (ho : SimO1 prog w c (unaryOp op) fo) : SimE prog w c (.UnaryOp op x pos) (eUn fo fa) := by
  intro φ fr st m led ext s Q b st' hf H k
  obtain ⟨x, st1, e1, e3⟩ := eUn_some hf
  refine UnaryOp_ (ha _ _ _ _ _ _ _ _ _ _ e1 H fun φ1 led1 v1 h1 tk1 p1 H1 R1 => ?_)
  exact ho _ _ _ _ _ R1 _ _ _ _ _ _ _ e3 H1 fun φ3 led3 v3 h3 tk3 p3 H3 R3 => k _ _ _ _ _ (p1.trans p3) H3 R3

theorem simL_nil {pos : Pos} : SimL prog w c pos [] esNil := by
  intro φ fr st m led ext s Q b st' hf H k
  cases hf
  exact spliced_none (k _ _ _ _ _ (Pre.refl _) H .nil)
theorem simL_cons {pos : Pos} {e : Expr} {rest : List Expr} {fa : PE} {fb : Frm → Sto → Option (List PV × Sto)} (ha : SimE prog w c e fa) (hb : SimL prog w c pos rest fb)
    (he : starEach (e :: rest) c.env = (false, eval e c.env) :: starEach rest c.env) : SimL prog w c pos (e :: rest) (esCons fa fb) := by
  intro φ fr st m led ext s Q b st' hf H k
  unfold esCons at hf
  cases ea : fa fr st with
  | none => rw [ea] at hf; cases hf
  | some p =>
    obtain ⟨x, st1⟩ := p
    rw [ea] at hf
    dsimp only at hf
    cases eb : fb fr st1 with
    | none => rw [eb] at hf; cases hf
    | some q =>
      obtain ⟨xs, st2⟩ := q
      rw [eb] at hf
      cases hf
      refine spliced_more (ha _ _ _ _ _ _ _ _ _ _ ea H fun φ1 led1 v1 h1 tk1 p1 H1 R1 => ?_) he
      exact hb _ _ _ _ _ _ _ _ _ _ eb H1 fun φ2 led2 v2 h2 tk2 p2 H2 R2 => k _ _ _ _ _ (p1.trans p2) H2 (.cons (R1.mono p2) R2)
end
end Mine

namespace Mine

/-! ## operations on ints -/
noncomputable def ii (f : Int → Int → Sto → Option (PV × Sto)) : PV → PV → Sto → Option (PV × Sto) := fun x y st =>
  match x with
  | .int a => (match y with
    | .int b => f a b st
    | _ => none)
  | _ => none
noncomputable def small (a : Int) : Bool := Nat.ble a.natAbs 1000000000

noncomputable def addF := ii fun a b st => some (.int (Int.add a b), st)
noncomputable def subF := ii fun a b st => some (.int (Int.sub a b), st)
noncomputable def mulF := ii fun a b st => match small a with | true => some (.int (Int.mul a b), st) | false => none
noncomputable def modF := ii fun a b st => match Z.eqB b 0 with | true => none | false => some (.int (Int.fmod a b), st)
noncomputable def fdivF := ii fun a b st => match Z.eqB b 0 with | true => none | false => (match small b with | true => some (.int (Int.fdiv a b), st) | false => none)
noncomputable def powF := ii fun a b st => match small a with
  | true => (match Z.leB 0 b with
    | true => (match Z.leB b 1000 with
      | true => some (.int (Int.pow a b.toNat), st)
      | false => none)
    | false => none)
  | false => none
noncomputable def eqF := ii fun a b st => some (.bool (Z.eqB a b), st)
noncomputable def neF := ii fun a b st => some (.bool (!(Z.eqB a b)), st)
noncomputable def ltF := ii fun a b st => some (.bool (Z.ltB a b), st)
noncomputable def leF := ii fun a b st => some (.bool (Z.leB a b), st)
noncomputable def gtF := ii fun a b st => some (.bool (Z.ltB b a), st)
noncomputable def geF := ii fun a b st => some (.bool (Z.leB b a), st)
noncomputable def negF : PV → Sto → Option (PV × Sto) := fun x st => match x with | .int a => some (.int (Int.neg a), st) | _ => none
/-- x != y where each is an int or None -/
noncomputable def neN : PV → PV → Sto → Option (PV × Sto) := fun x y st =>
  match x with
  | .int a => (match y with
    | .int b => some (.bool (!(Z.eqB a b)), st)
    | .none => some (.bool true, st)
    | _ => none)
  | .none => (match y with
    | .int _ => some (.bool true, st)
    | .none => some (.bool false, st)
    | _ => none)
  | _ => none

theorem eqB_eq (a b : Int) : Z.eqB a b = (a == b) := by
  cases h : Z.eqB a b with
  | true => rw [(Z.eqB_iff a b).mp h]; simp
  | false =>
    have : a ≠ b := fun e => by rw [(Z.eqB_iff a b).mpr e] at h; cases h
    simp [this]
theorem ltB_eq (a b : Int) : Z.ltB a b = decide (a < b) := by
  cases h : Z.ltB a b with
  | true => simp [(Z.ltB_iff a b).mp h]
  | false =>
    have : ¬ a < b := fun e => by rw [(Z.ltB_iff a b).mpr e] at h; cases h
    simp [this]
theorem leB_eq (a b : Int) : Z.leB a b = decide (a ≤ b) := by
  cases h : Z.leB a b with
  | true => simp [(Z.leB_iff a b).mp h]
  | false =>
    have : ¬ a ≤ b := fun e => by rw [(Z.leB_iff a b).mpr e] at h; cases h
    simp [this]
theorem small_le {a : Int} (h : small a = true) : a.natAbs ≤ 1000000000 := Nat.le_of_ble_eq_true h
theorem ii_some {f : Int → Int → Sto → Option (PV × Sto)} {x y : PV} {st : Sto} {r : PV × Sto} (h : ii f x y st = some r) : ∃ a b, x = .int a ∧ y = .int b ∧ f a b st = some r := by
  unfold ii at h
  cases x with
  | int a => cases y with
    | int b => exact ⟨a, b, rfl, rfl, h⟩
    | _ => cases h
  | _ => cases h

section
variable {prog : Program} {w : World} {c : FC}

theorem sim_ii {t : Value → Value → Sem Value} {f : Int → Int → Sto → Option (PV × Sto)}
    (H : ∀ a b ta tb (s : Shared) (st st' : Sto) (r : PV) (Q : Value → Shared → Prop), f a b st = some (r, st') → st' = st ∧ ((∀ v tk, VR [] r v → Q v { s with toks := tk }) → wpAny (model prog w) c.A (t (.int a ta) (.int b tb)) Q NoE s))
    (hr : ∀ a b st r st', f a b st = some (r, st') → ∀ v φ, VR [] r v → VR φ r v) : SimO2 prog w c t (ii f) := by
  intro φ fr x y vx vy st hx hy m led ext s Q b st' hf G k
  obtain ⟨a, b', rfl, rfl, e⟩ := ii_some hf
  obtain ⟨ta, rfl⟩ := hx
  obtain ⟨tb, rfl⟩ := hy
  obtain ⟨rfl, h⟩ := H a b' ta tb s st st' b Q e
  exact h fun v tk hv => k _ _ _ _ _ (Pre.refl _) G (hr _ _ _ _ _ e v φ hv)

theorem VR_int (i : Int) (t : Tok) : VR [] (.int i) (.int i t) := ⟨t, rfl⟩

theorem simO_add : SimO2 prog w c (binaryOp .Add) addF :=
  sim_ii (fun a b ta tb s st st' r Q e => by cases e; exact ⟨rfl, fun k => add_int (k _ _ (VR_int _ _))⟩) (fun a b st r st' e => by cases e; exact fun v φ h => h)
theorem simO_sub : SimO2 prog w c (binaryOp .Sub) subF :=
  sim_ii (fun a b ta tb s st st' r Q e => by cases e; exact ⟨rfl, fun k => sub_int (k _ _ (VR_int _ _))⟩) (fun a b st r st' e => by cases e; exact fun v φ h => h)
theorem simO_eq : SimO2 prog w c (compareOp .Eq) eqF :=
  sim_ii (fun a b ta tb s st st' r Q e => by cases e; exact ⟨rfl, fun k => eq_int (by rw [← eqB_eq]; exact k _ s.toks rfl)⟩) (fun a b st r st' e => by cases e; exact fun v φ h => h)
theorem simO_ne : SimO2 prog w c (compareOp .NotEq) neF :=
  sim_ii (fun a b ta tb s st st' r Q e => by cases e; exact ⟨rfl, fun k => ne_int (by unfold bne; rw [← eqB_eq]; exact k _ s.toks rfl)⟩) (fun a b st r st' e => by cases e; exact fun v φ h => h)
theorem simO_lt : SimO2 prog w c (compareOp .Lt) ltF :=
  sim_ii (fun a b ta tb s st st' r Q e => by cases e; exact ⟨rfl, fun k => lt_int (by rw [← ltB_eq]; exact k _ s.toks rfl)⟩) (fun a b st r st' e => by cases e; exact fun v φ h => h)
theorem simO_le : SimO2 prog w c (compareOp .LtE) leF :=
  sim_ii (fun a b ta tb s st st' r Q e => by cases e; exact ⟨rfl, fun k => le_int (by rw [← leB_eq]; exact k _ s.toks rfl)⟩) (fun a b st r st' e => by cases e; exact fun v φ h => h)
theorem simO_gt : SimO2 prog w c (compareOp .Gt) gtF :=
  sim_ii (fun a b ta tb s st st' r Q e => by cases e; exact ⟨rfl, fun k => gt_int (by rw [← ltB_eq]; exact k _ s.toks rfl)⟩) (fun a b st r st' e => by cases e; exact fun v φ h => h)
theorem simO_ge : SimO2 prog w c (compareOp .GtE) geF :=
  sim_ii (fun a b ta tb s st st' r Q e => by cases e; exact ⟨rfl, fun k => ge_int (by rw [← leB_eq]; exact k _ s.toks rfl)⟩) (fun a b st r st' e => by cases e; exact fun v φ h => h)
theorem simO_mul : SimO2 prog w c (binaryOp .Mult) mulF :=
  sim_ii (fun a b ta tb s st st' r Q e => by
    cases h : small a with
    | false => rw [h] at e; cases e
    | true =>
      rw [h] at e
      cases e
      have hs := small_le h
      exact ⟨rfl, fun k => mul_int (k _ _ (VR_int _ _)) (IntMulOk.of_left (intBits_le_64 (by omega) (by omega)))⟩)
   (fun a b st r st' e => by
    cases h : small a with
    | false => rw [h] at e; cases e
    | true => rw [h] at e; cases e; exact fun v φ h => h)
theorem ne_zero {b : Int} (h : Z.eqB b 0 = false) : b ≠ 0 := fun e => by rw [(Z.eqB_iff b 0).mpr e] at h; cases h
theorem simO_mod : SimO2 prog w c (binaryOp .Mod) modF :=
  sim_ii (fun a b ta tb s st st' r Q e => by
    cases h : Z.eqB b 0 with
    | true => rw [h] at e; cases e
    | false =>
      rw [h] at e
      cases e
      exact ⟨rfl, fun k => mod_int (ne_zero h) (k _ _ (VR_int _ _))⟩)
   (fun a b st r st' e => by
    cases h : Z.eqB b 0 with
    | true => rw [h] at e; cases e
    | false => rw [h] at e; cases e; exact fun v φ h => h)
theorem simO_fdiv : SimO2 prog w c (binaryOp .FloorDiv) fdivF :=
  sim_ii (fun a b ta tb s st st' r Q e => by
    cases h : Z.eqB b 0 with
    | true => rw [h] at e; cases e
    | false =>
      rw [h] at e
      dsimp only at e
      cases h' : small b with
      | false => rw [h'] at e; cases e
      | true =>
        rw [h'] at e
        cases e
        have hs := small_le h'
        exact ⟨rfl, fun k => floordiv_int (ne_zero h) (k _ _ (VR_int _ _)) (.inl (PyProof.noPylong_small (by omega)))⟩)
   (fun a b st r st' e => by
    cases h : Z.eqB b 0 with
    | true => rw [h] at e; cases e
    | false =>
      rw [h] at e
      dsimp only at e
      cases h' : small b with
      | false => rw [h'] at e; cases e
      | true => rw [h'] at e; cases e; exact fun v φ h => h)
theorem simO_pow : SimO2 prog w c (binaryOp .Pow) powF :=
  sim_ii (fun a b ta tb s st st' r Q e => by
    cases h : small a with
    | false => rw [h] at e; cases e
    | true =>
      rw [h] at e
      dsimp only at e
      cases h1 : Z.leB 0 b with
      | false => rw [h1] at e; cases e
      | true =>
        rw [h1] at e
        dsimp only at e
        cases h2 : Z.leB b 1000 with
        | false => rw [h2] at e; cases e
        | true =>
          rw [h2] at e
          cases e
          have hs := small_le h
          have g1 := (Z.leB_iff _ _).mp h1
          have g2 := (Z.leB_iff _ _).mp h2
          have g3 : Builtin.Int.intBits a ≤ 64 := intBits_le_64 (by omega) (by omega)
          have g4 : (Builtin.Int.intBits a : Int) * b ≤ 64 * 1000 := Int.mul_le_mul (by omega) g2 g1 (by omega)
          exact ⟨rfl, fun k => pow_int g1 (by omega) (k _ _ (VR_int _ _))⟩)
   (fun a b st r st' e => by
    cases h : small a with
    | false => rw [h] at e; cases e
    | true =>
      rw [h] at e
      dsimp only at e
      cases h1 : Z.leB 0 b with
      | false => rw [h1] at e; cases e
      | true =>
        rw [h1] at e
        dsimp only at e
        cases h2 : Z.leB b 1000 with
        | false => rw [h2] at e; cases e
        | true => rw [h2] at e; cases e; exact fun v φ h => h)
theorem simO_neg : SimO1 prog w c (unaryOp .USub) negF := by
  intro φ fr x vx st hx m led ext s Q b st' hf G k
  cases x with
  | int a =>
    obtain ⟨t, rfl⟩ := hx
    cases hf
    exact neg_int (k _ _ _ _ _ (Pre.refl _) G ⟨_, rfl⟩)
  | _ => cases hf
theorem simO_neN : SimO2 prog w c (compareOp .NotEq) neN := by
  intro φ fr x y vx vy st hx hy m led ext s Q b st' hf G k
  cases x with
  | int a =>
    obtain ⟨t, rfl⟩ := hx
    cases y with
    | int b =>
      obtain ⟨t', rfl⟩ := hy
      cases hf
      exact ne_int (by unfold bne; rw [← eqB_eq]; exact k _ _ _ _ _ (Pre.refl _) G rfl)
    | none => cases hy; cases hf; exact EqNone.ne_int_none (k _ _ _ _ _ (Pre.refl _) G rfl)
    | _ => cases hf
  | none =>
    cases hx
    cases y with
    | int b => obtain ⟨t', rfl⟩ := hy; cases hf; exact EqNone.ne_none_int (k _ _ _ _ _ (Pre.refl _) G rfl)
    | none => cases hy; cases hf; exact EqNone.ne_none_none (k _ _ _ _ _ (Pre.refl _) G rfl)
    | _ => cases hf
  | _ => cases hf
end

/-! ## lists of ints -/
noncomputable def toInts : List PV → Option (List Int) := fun xs =>
  @List.rec PV (fun _ => Option (List Int)) (some []) (fun x _ ih => match x with | .int a => (match ih with | some r => some (a :: r) | none => none) | _ => none) xs
theorem toInts_are {φ : List Addr} : ∀ {xs : List PV} {vs : List Value} {ns : List Int}, VRs φ xs vs → toInts xs = some ns → IntsAre vs ns
  | _, _, _, .nil, h => by cases h; exact .nil
  | x :: xs, _, ns, .cons a b, h => by
    cases x with
    | int i =>
      have h' : (match toInts xs with | some r => some (i :: r) | none => none) = some ns := h
      obtain ⟨t, rfl⟩ := a
      cases e : toInts xs with
      | none => rw [e] at h'; cases h'
      | some r => rw [e] at h'; cases h'; exact .cons _ _ (toInts_are b e)
    | _ => cases h
noncomputable def eqIs : List Int → List Int → Bool := fun xs =>
  @List.rec Int (fun _ => List Int → Bool) (fun ys => match ys with | [] => true | _ :: _ => false) (fun x _ ih ys => match ys with | [] => false | y :: r => (match Z.eqB x y with | true => ih r | false => false)) xs
theorem eqIs_eq : ∀ xs ys : List Int, eqIs xs ys = decide (xs = ys)
  | [], [] => by simp [eqIs]
  | [], _ :: _ => by simp [eqIs]
  | _ :: _, [] => by simp [eqIs]
  | x :: xs, y :: ys => by
    have h : eqIs (x :: xs) (y :: ys) = (match Z.eqB x y with | true => eqIs xs ys | false => false) := rfl
    rw [h, eqIs_eq xs ys, eqB_eq]
    by_cases e : x = y
    · simp [e]
    · have e' : (x == y) = false := by simpa using e
      rw [e']; simp [e]
/-- the ints of a list of the store's -/
noncomputable def intsAt (v : PV) (st : Sto) : Option (List Int) :=
  match v with
  | .ref k => (match getO k st.2 with
    | some (.list xs) => toInts xs
    | _ => none)
  | _ => none
noncomputable def eqL : PV → PV → Sto → Option (PV × Sto) := fun x y st =>
  match intsAt x st with
  | some a => (match intsAt y st with
    | some b => some (.bool (eqIs a b), st)
    | none => none)
  | none => none
noncomputable def neL : PV → PV → Sto → Option (PV × Sto) := fun x y st =>
  match intsAt x st with
  | some a => (match intsAt y st with
    | some b => some (.bool (!(eqIs a b)), st)
    | none => none)
  | none => none

theorem SR.ints {c : FC} {φ : List Addr} {fr : Frm} {st : Sto} {m : Str → Option Value} {led ext : List (Addr × Obj)} {h : Heap} (H : SR c φ fr st m led ext h) {x : PV} {ns : List Int} (e : intsAt x st = some ns) {v : Value} (hv : VR φ x v) :
    ∃ a vs, v = .ref a ∧ h.IsList a vs.toArray ∧ IntsAre vs ns := by
  unfold intsAt at e
  cases x with
  | ref k =>
    dsimp only at e
    cases e1 : getO k st.2 with
    | none => rw [e1] at e; cases e
    | some p =>
      rw [e1] at e
      cases p with
      | list xs =>
        obtain ⟨a, vs, n, h1, h2, h3, h4⟩ := H.list e1
        obtain ⟨a', h5, rfl⟩ := hv
        have : a' = a := Option.some.inj (h5.symm.trans h1)
        subst this
        exact ⟨_, vs, rfl, h3, toInts_are h4 e⟩
      | _ => cases e
  | _ => cases e

section
variable {prog : Program} {w : World} {c : FC}
theorem simO_eqL (hu : c.A.units + 64 < cLine) : SimO2 prog w c (compareOp .Eq) eqL := by
  intro φ fr x y vx vy st hx hy m led ext s Q b st' hf G k
  unfold eqL at hf
  cases e1 : intsAt x st with
  | none => rw [e1] at hf; cases hf
  | some ns =>
    rw [e1] at hf
    dsimp only at hf
    cases e2 : intsAt y st with
    | none => rw [e2] at hf; cases hf
    | some ms =>
      rw [e2] at hf
      cases hf
      obtain ⟨a, vs, rfl, h1, h2⟩ := G.ints e1 hx
      obtain ⟨b, us, rfl, h3, h4⟩ := G.ints e2 hy
      exact eq_intsK h1 h2 h3 h4 hu (by rw [← eqIs_eq]; exact k _ _ _ _ _ (Pre.refl _) G rfl)
theorem simO_neL (hu : c.A.units + 64 < cLine) : SimO2 prog w c (compareOp .NotEq) neL := by
  intro φ fr x y vx vy st hx hy m led ext s Q b st' hf G k
  unfold neL at hf
  cases e1 : intsAt x st with
  | none => rw [e1] at hf; cases hf
  | some ns =>
    rw [e1] at hf
    dsimp only at hf
    cases e2 : intsAt y st with
    | none => rw [e2] at hf; cases hf
    | some ms =>
      rw [e2] at hf
      cases hf
      obtain ⟨a, vs, rfl, h1, h2⟩ := G.ints e1 hx
      obtain ⟨b, us, rfl, h3, h4⟩ := G.ints e2 hy
      exact ne_intsK h1 h2 h3 h4 hu (by rw [← eqIs_eq]; exact k _ _ _ _ _ (Pre.refl _) G rfl)
end
end Mine

namespace Mine

/-! ## lists and tuples -/
noncomputable def fits (xs : List PV) : Bool := Nat.ble xs.length 1000
theorem fits_le {xs : List PV} (h : fits xs = true) : xs.length ≤ 1000 := Nat.le_of_ble_eq_true h
theorem thousand : 1000 ≤ sizeLine := by rw [PySem.sizeLine_eq]; omega

noncomputable def eSeq (mk : List PV → PO) (es : Frm → Sto → Option (List PV × Sto)) : PE := fun fr st =>
  match es fr st with
  | some (xs, st1) => (match fits xs with | true => allocF (mk xs) st1 | false => none)
  | none => none
noncomputable def eTup := eSeq .tup
noncomputable def eList := eSeq .list

noncomputable def nth (xs : List PV) : Nat → Option PV :=
  @List.rec PV (fun _ => Nat → Option PV) (fun _ => none) (fun o _ ih n => @Nat.rec (fun _ => Option PV) (some o) (fun k _ => ih k) n) xs
theorem nth_eq : ∀ (xs : List PV) (n : Nat), nth xs n = xs[n]?
  | [], n => by simp [nth]
  | x :: xs, 0 => rfl
  | x :: xs, n + 1 => (nth_eq xs n).trans (by simp)
noncomputable def idx (i : Int) (xs : List PV) : Option PV :=
  match i with
  | .ofNat n => (match Nat.ble n 1000 with | true => nth xs n | false => none)
  | .negSucc n => (match Nat.ble (Nat.succ n) xs.length with | true => (match Nat.ble n 1000 with | true => nth xs (Nat.sub xs.length (Nat.succ n)) | false => none) | false => none)
noncomputable def itemF : PV → PV → Sto → Option (PV × Sto) := fun x y st =>
  match x with
  | .ref k => (match y with
    | .int i => (match getO k st.2 with
      | some (.list xs) => (match idx i xs with | some p => some (p, st) | none => none)
      | some (.tup xs) => (match idx i xs with | some p => some (p, st) | none => none)
      | _ => none)
    | _ => none)
  | _ => none
/-- a[:y] -/
noncomputable def cutF : PV → PV → Sto → Option (PV × Sto) := fun x y st =>
  match x with
  | .ref k => (match y with
    | .int (.ofNat n) => (match getO k st.2 with
      | some (.list xs) => (match fits xs with | true => allocF (.list (xs.take n)) st | false => none)
      | _ => none)
    | _ => none)
  | _ => none
noncomputable def lenF : List PV → Sto → Option (PV × Sto) := fun ps st =>
  match ps with
  | [.ref k] => (match getO k st.2 with
    | some (.list xs) => (match fits xs with | true => some (.int (.ofNat xs.length), st) | false => none)
    | _ => none)
  | _ => none
noncomputable def listF : List PV → Sto → Option (PV × Sto) := fun ps st =>
  match ps with
  | [.ref k] => (match getO k st.2 with
    | some (.list xs) => (match fits xs with | true => allocF (.list xs) st | false => none)
    | _ => none)
  | _ => none
noncomputable def maxF : List PV → Sto → Option (PV × Sto) := fun ps st =>
  match ps with
  | [.int a, .int b] => some (.int (match Z.ltB a b with | true => b | false => a), st)
  | _ => none
noncomputable def minF : List PV → Sto → Option (PV × Sto) := fun ps st =>
  match ps with
  | [.int a, .int b] => some (.int (match Z.ltB b a with | true => b | false => a), st)
  | _ => none

section
variable {prog : Program} {w : World} {c : FC}

theorem allocF_some {po : PO} {st : Sto} {r : PV} {st' : Sto} (h : allocF po st = some (r, st')) : r = .ref st.1 ∧ st' = (Nat.succ st.1, (st.1, po) :: st.2) := by
  obtain ⟨n, os⟩ := st
  cases h
  exact ⟨rfl, rfl⟩

theorem Sim.newList {φ : List Addr} {fr : Frm} {xs : List PV} {vs : List Value} {st : Sto} (hv : VRs φ xs vs) (hz : xs.length ≤ sizeLine) : Sim prog w c φ fr (newList vs) VR (allocF (.list xs) st) st := by
  intro m led ext s Q b st' hf H k
  obtain ⟨rfl, rfl⟩ := allocF_some hf
  refine newList_K H.F H.N (fun l h' F' N' hl => ?_) (by rw [hv.length]; exact hz)
  exact k _ _ _ _ _ (Pre.snoc φ l) (H.push F' N' hl ⟨vs, 0, rfl, hv.mono (Pre.snoc φ l)⟩) ⟨l, by rw [H.nx]; simp, rfl⟩
theorem Sim.newTuple {φ : List Addr} {fr : Frm} {xs : List PV} {vs : List Value} {st : Sto} (hv : VRs φ xs vs) (hz : xs.length ≤ sizeLine) : Sim prog w c φ fr (newTuple vs) VR (allocF (.tup xs) st) st := by
  intro m led ext s Q b st' hf H k
  obtain ⟨rfl, rfl⟩ := allocF_some hf
  refine newTuple_N H.F H.N (fun h' F' N' => ?_) (by rw [hv.length]; exact hz)
  exact k _ _ _ _ _ (Pre.snoc φ s.heap.objs.size) (H.push F' N' H.below ⟨vs, rfl, hv.mono (Pre.snoc φ _)⟩) ⟨_, by rw [H.nx]; simp, rfl⟩

theorem eSeq_some {mk : List PV → PO} {es : Frm → Sto → Option (List PV × Sto)} {fr : Frm} {st : Sto} {r : PV × Sto} (h : eSeq mk es fr st = some r) :
    ∃ xs st1, es fr st = some (xs, st1) ∧ xs.length ≤ 1000 ∧ allocF (mk xs) st1 = some r := by
  unfold eSeq at h
  cases e : es fr st with
  | none => rw [e] at h; cases h
  | some p =>
    obtain ⟨xs, st1⟩ := p
    rw [e] at h
    dsimp only at h
    cases e' : fits xs with
    | false => rw [e'] at h; cases h
    | true => rw [e'] at h; exact ⟨xs, st1, rfl, fits_le e', h⟩
theorem simE_tup {es : List Expr} {n : Nat} {pos : Pos} {f : Frm → Sto → Option (List PV × Sto)} (hf' : SimL prog w c pos es f) : SimE prog w c (.Tuple es n pos) (eTup f) := by
  intro φ fr st m led ext s Q b st' hf H k
  obtain ⟨xs, st1, e1, hz, e2⟩ := eSeq_some hf
  refine Tuple_ (hf' _ _ _ _ _ _ _ _ _ _ e1 H fun φ1 led1 v1 h1 tk1 p1 H1 R1 => ?_)
  exact Sim.newTuple R1 (Nat.le_trans hz thousand) _ _ _ _ _ _ _ e2 H1 fun φ2 led2 v2 h2 tk2 p2 H2 R2 => k _ _ _ _ _ (p1.trans p2) H2 R2
theorem simE_list {es : List Expr} {pos : Pos} {f : Frm → Sto → Option (List PV × Sto)} (hf' : SimL prog w c pos es f) : SimE prog w c (.List es pos) (eList f) := by
  intro φ fr st m led ext s Q b st' hf H k
  obtain ⟨xs, st1, e1, hz, e2⟩ := eSeq_some hf
  refine List_ (hf' _ _ _ _ _ _ _ _ _ _ e1 H fun φ1 led1 v1 h1 tk1 p1 H1 R1 => ?_)
  exact Sim.newList R1 (Nat.le_trans hz thousand) _ _ _ _ _ _ _ e2 H1 fun φ2 led2 v2 h2 tk2 p2 H2 R2 => k _ _ _ _ _ (p1.trans p2) H2 R2

theorem idx_list {A : Around} {s : Shared} {l : Addr} {φ : List Addr} {xs : List PV} {vs : List Value} {i : Int} {t : Tok} {p : PV} {Q : Value → Shared → Prop} {value slice : Expr}
    (hl : s.heap.IsList l vs.toArray) (hv : VRs φ xs vs) (e : idx i xs = some p) (hs : ∀ o i, subscripted slice false o i = operate [o, i] (getItem o i)) (k : ∀ v, VR φ p v → Q v s) :
    wpAny (model prog w) A (subscriptTail value slice (.ref l) (.int i t)) Q NoE s := by
  unfold idx at e
  have hlen := hv.length
  cases i with
  | ofNat n =>
    dsimp only at e
    cases e1 : Nat.ble n 1000 with
    | false => rw [e1] at e; cases e
    | true =>
      rw [e1] at e
      have h1 := Nat.le_of_ble_eq_true e1
      have e2 : nth xs n = some p := e
      rw [nth_eq] at e2
      obtain ⟨y, h2, h3⟩ := hv.get e2
      refine item_listR hl (by show 0 ≤ (n : Int); omega) (by show (n : Int) < 2 ^ 63; omega) (x := y) ?_ (k y h3) (hs _ _)
      show vs.toArray[(n : Int).toNat]? = some y
      simpa using h2
  | negSucc n =>
    dsimp only at e
    cases e1 : Nat.ble (Nat.succ n) xs.length with
    | false => rw [e1] at e; cases e
    | true =>
      rw [e1] at e
      dsimp only at e
      have h1 := Nat.le_of_ble_eq_true e1
      cases e0 : Nat.ble n 1000 with
      | false => rw [e0] at e; cases e
      | true =>
        rw [e0] at e
        have h0 := Nat.le_of_ble_eq_true e0
        have e2 : nth xs (xs.length - (n + 1)) = some p := e
        rw [nth_eq] at e2
        obtain ⟨y, h2, h3⟩ := hv.get e2
        refine subscriptTail_builtinR hl.typeIs slot_list_getitem.lookup (wpAny_getItem_list_neg (Q := fun r s' => r = y ∧ Q r s') hl (by omega) ?_ (by omega) ?_ ⟨rfl, k y h3⟩) (hs _ _)
        · rw [List.size_toArray, hlen]; omega
        · have : (Int.negSucc n + (vs.toArray.size : Int)).toNat = xs.length - (n + 1) := by rw [List.size_toArray, hlen]; omega
          rw [this]
          simpa using h2
theorem idx_tup {A : Around} {s : Shared} {l : Addr} {φ : List Addr} {xs : List PV} {vs : List Value} {i : Int} {t : Tok} {p : PV} {Q : Value → Shared → Prop} {value slice : Expr}
    (hl : IsTup s.heap l vs.toArray) (hv : VRs φ xs vs) (e : idx i xs = some p) (hs : ∀ o i, subscripted slice false o i = operate [o, i] (getItem o i)) (k : ∀ v, VR φ p v → Q v s) :
    wpAny (model prog w) A (subscriptTail value slice (.ref l) (.int i t)) Q NoE s := by
  unfold idx at e
  have hlen := hv.length
  cases i with
  | ofNat n =>
    dsimp only at e
    cases e1 : Nat.ble n 1000 with
    | false => rw [e1] at e; cases e
    | true =>
      rw [e1] at e
      have h1 := Nat.le_of_ble_eq_true e1
      have e2 : nth xs n = some p := e
      rw [nth_eq] at e2
      obtain ⟨y, h2, h3⟩ := hv.get e2
      have hlt := (List.getElem?_eq_some_iff.mp h2).1
      refine item_tupleT hl (by show -2 ^ 63 ≤ (n : Int); omega) (by show (n : Int) < 2 ^ 63; omega) (j := n) ?_ h2 (k y h3) (hs _ _)
      unfold seqIndex?
      simp
      omega
  | negSucc n =>
    dsimp only at e
    cases e1 : Nat.ble (Nat.succ n) xs.length with
    | false => rw [e1] at e; cases e
    | true =>
      rw [e1] at e
      dsimp only at e
      have h1 := Nat.le_of_ble_eq_true e1
      cases e0 : Nat.ble n 1000 with
      | false => rw [e0] at e; cases e
      | true =>
        rw [e0] at e
        have h0 := Nat.le_of_ble_eq_true e0
        have e2 : nth xs (xs.length - (n + 1)) = some p := e
        rw [nth_eq] at e2
        obtain ⟨y, h2, h3⟩ := hv.get e2
        refine item_tupleT hl (by omega) (by omega) (j := xs.length - (n + 1)) ?_ h2 (k y h3) (hs _ _)
        unfold seqIndex?
        simp
        omega

theorem simE_item {value slice : Expr} {pos : Pos} {fa fb : PE} (ha : SimE prog w c value fa) (hb : SimE prog w c slice fb) (hs : ∀ o i, subscripted slice false o i = operate [o, i] (getItem o i)) :
    SimE prog w c (.Subscript value slice pos) (eBin itemF fa fb) := by
  intro φ fr st m led ext s Q b st' hf H k
  obtain ⟨x, st1, y, st2, e1, e2, e3⟩ := eBin_some hf
  refine Subscript_ (ha _ _ _ _ _ _ _ _ _ _ e1 H fun φ1 led1 v1 h1 tk1 p1 H1 R1 => ?_)
  refine hb _ _ _ _ _ _ _ _ _ _ e2 H1 fun φ2 led2 v2 h2 tk2 p2 H2 R2 => ?_
  replace R1 := R1.mono p2
  unfold itemF at e3
  cases x with
  | ref kx =>
    cases y with
    | int i =>
      obtain ⟨a, h3, rfl⟩ := R1
      obtain ⟨t, rfl⟩ := R2
      dsimp only at e3
      cases e4 : getO kx st2.2 with
      | none => rw [e4] at e3; cases e3
      | some po =>
        rw [e4] at e3
        cases po with
        | list xs =>
          dsimp only at e3
          cases e5 : idx i xs with
          | none => rw [e5] at e3; cases e3
          | some p =>
            rw [e5] at e3; cases e3
            obtain ⟨a', vs, n, q1, q2, q3, q4⟩ := H2.list e4
            have : a' = a := Option.some.inj (q1.symm.trans h3)
            subst this
            exact idx_list q3 q4 e5 hs fun v hv => k _ _ _ _ _ (p1.trans p2) H2 hv
        | tup xs =>
          dsimp only at e3
          cases e5 : idx i xs with
          | none => rw [e5] at e3; cases e3
          | some p =>
            rw [e5] at e3; cases e3
            obtain ⟨a', vs, q1, q3, q4⟩ := H2.tup e4
            have : a' = a := Option.some.inj (q1.symm.trans h3)
            subst this
            exact idx_tup q3 q4 e5 hs fun v hv => k _ _ _ _ _ (p1.trans p2) H2 hv
        | cell _ => cases e3
    | _ => cases e3
  | _ => cases e3

theorem simE_cut {value hi : Expr} {ps pos : Pos} {fa fb : PE} (ha : SimE prog w c value fa) (hb : SimE prog w c hi fb) (ht : ∀ o r, letTemporaryGo value o r = pure ()) :
    SimE prog w c (.Subscript value (.Slice none (some hi) none ps) pos) (eBin cutF fa fb) := by
  intro φ fr st m led ext s Q b st' hf H k
  obtain ⟨x, st1, y, st2, e1, e2, e3⟩ := eBin_some hf
  refine Subscript_ (ha _ _ _ _ _ _ _ _ _ _ e1 H fun φ1 led1 v1 h1 tk1 p1 H1 R1 => ?_)
  refine wpAny_Slice (evalPart_none_step (evalPart_some_step ?_))
  refine hb _ _ _ _ _ _ _ _ _ _ e2 H1 fun φ2 led2 v2 h2 tk2 p2 H2 R2 => evalPart_none_step ?_
  replace R1 := R1.mono p2
  unfold cutF at e3
  cases x with
  | ref kx =>
    cases y with
    | int i =>
      cases i with
      | ofNat n =>
        obtain ⟨a, h3, rfl⟩ := R1
        obtain ⟨t, rfl⟩ := R2
        dsimp only at e3
        cases e4 : getO kx st2.2 with
        | none => rw [e4] at e3; cases e3
        | some po =>
          rw [e4] at e3
          cases po with
          | list xs =>
            dsimp only at e3
            cases e5 : fits xs with
            | false => rw [e5] at e3; cases e3
            | true =>
              rw [e5] at e3
              obtain ⟨rfl, rfl⟩ := allocF_some e3
              obtain ⟨a', vs, nn, q1, q2, q3, q4⟩ := H2.list e4
              have : a' = a := Option.some.inj (q1.symm.trans h3)
              subst this
              have hz := fits_le e5
              have hlen := q4.length
              refine kms_slice_lit (zs := vs.take n) H2.F H2.N q3 .none (.int (n : Int) t) ?_ (fun D h' F' N' hl => ?_) rfl (ht _) ?_
              · show ((vs.drop (kms_lo none vs.length)).take (kms_hi (some (n : Int)) vs.length - kms_lo none vs.length)) = vs.take n
                have e7 : kms_hi (some (n : Int)) vs.length = min n vs.length := by
                  show (if (n : Int) < 0 then vs.length - (-(n : Int)).toNat else min (n : Int).toNat vs.length) = _
                  rw [if_neg (by omega)]; simp
                rw [e7]
                show (vs.drop 0).take (min n vs.length - 0) = _
                rw [List.drop_zero, Nat.sub_zero, List.take_eq_take_iff]
                omega
              · exact k _ _ _ _ _ (p1.trans (p2.trans (Pre.snoc φ2 D))) (H2.push F' N' hl ⟨vs.take n, 0, rfl, (q4.take n).mono (Pre.snoc φ2 D)⟩) ⟨D, by rw [H2.nx]; simp, rfl⟩
              · rw [List.size_toArray, hlen]; exact Nat.le_trans hz thousand
          | _ => cases e3
      | negSucc n => cases e3
    | _ => cases e3
  | _ => cases e3
end

/-! ## built-in calls on values -/
section
variable (prog : Program) (w : World)
def SimF (c : FC) (f : Value) (pf : List PV → Sto → Option (PV × Sto)) : Prop := ∀ φ fr ps vs st, VRs φ ps vs → Sim prog w c φ fr (call f vs) VR (pf ps st) st
end
section
variable {prog : Program} {w : World} {c : FC}
theorem simF_len : SimF prog w c (.builtin "len") lenF := by
  intro φ fr ps vs st hv m led ext s Q b st' hf H k
  unfold lenF at hf
  cases hv with
  | nil => cases hf
  | cons a r =>
    rename_i p v ps vs
    cases r with
    | cons a' r' => cases p <;> cases hf
    | nil =>
      cases p with
      | ref kx =>
        obtain ⟨x, h1, rfl⟩ := a
        dsimp only at hf
        cases e4 : getO kx st.2 with
        | none => rw [e4] at hf; cases hf
        | some po =>
          rw [e4] at hf
          cases po with
          | list xs =>
            dsimp only at hf
            cases e5 : fits xs with
            | false => rw [e5] at hf; cases hf
            | true =>
              rw [e5] at hf; cases hf
              obtain ⟨a', us, n, q1, q2, q3, q4⟩ := H.list e4
              have : a' = x := Option.some.inj (q1.symm.trans h1)
              subst this
              have hz := fits_le e5
              have hlen := q4.length
              refine len_list q3 (by rw [List.size_toArray, hlen]; omega) ?_
              refine k _ _ _ _ _ (Pre.refl _) H ⟨s.toks + 1, ?_⟩
              rw [List.size_toArray, hlen]; rfl
          | _ => cases hf
      | _ => cases hf
theorem simF_list : SimF prog w c (.type "list") listF := by
  intro φ fr ps vs st hv m led ext s Q b st' hf H k
  unfold listF at hf
  cases hv with
  | nil => cases hf
  | cons a r =>
    rename_i p v ps vs
    cases r with
    | cons a' r' => cases p <;> cases hf
    | nil =>
      cases p with
      | ref kx =>
        obtain ⟨x, h1, rfl⟩ := a
        dsimp only at hf
        cases e4 : getO kx st.2 with
        | none => rw [e4] at hf; cases hf
        | some po =>
          rw [e4] at hf
          cases po with
          | list xs =>
            dsimp only at hf
            cases e5 : fits xs with
            | false => rw [e5] at hf; cases hf
            | true =>
              rw [e5] at hf
              obtain ⟨rfl, rfl⟩ := allocF_some hf
              obtain ⟨a', us, n, q1, q2, q3, q4⟩ := H.list e4
              have : a' = x := Option.some.inj (q1.symm.trans h1)
              subst this
              have hz := fits_le e5
              have hlen := q4.length
              refine list_copyK H.F H.N q3 (fun D cc h' F' N' hl => ?_) (by rw [List.size_toArray, hlen]; exact Nat.le_trans hz thousand)
              exact k _ _ _ _ _ (Pre.snoc φ D) (H.push F' N' hl ⟨us, cc, rfl, q4.mono (Pre.snoc φ D)⟩) ⟨D, by rw [H.nx]; simp, rfl⟩
          | _ => cases hf
      | _ => cases hf
theorem two_ints {φ : List Addr} {vs : List Value} {a b : Int} (hv : VRs φ [.int a, .int b] vs) : ∃ t u, vs = [.int a t, .int b u] := by
  cases hv with
  | cons h1 r => cases r with
    | cons h2 r => cases r with
      | nil =>
        obtain ⟨t, rfl⟩ := h1
        obtain ⟨u, rfl⟩ := h2
        exact ⟨t, u, rfl⟩
theorem maxF_some {ps : List PV} {st : Sto} {r : PV × Sto} (h : maxF ps st = some r) : ∃ a b, ps = [.int a, .int b] ∧ r = (.int (if b > a then b else a), st) := by
  unfold maxF at h
  split at h
  · rename_i a b
    refine ⟨a, b, rfl, ?_⟩
    cases h
    cases e : Z.ltB a b with
    | true => rw [if_pos ((Z.ltB_iff _ _).mp e)]
    | false =>
      have : ¬ (b > a) := fun q => by rw [(Z.ltB_iff a b).mpr q] at e; cases e
      rw [if_neg this]
  · cases h
theorem minF_some {ps : List PV} {st : Sto} {r : PV × Sto} (h : minF ps st = some r) : ∃ a b, ps = [.int a, .int b] ∧ r = (.int (if b < a then b else a), st) := by
  unfold minF at h
  split at h
  · rename_i a b
    refine ⟨a, b, rfl, ?_⟩
    cases h
    cases e : Z.ltB b a with
    | true => rw [if_pos ((Z.ltB_iff _ _).mp e)]
    | false =>
      have : ¬ (b < a) := fun q => by rw [(Z.ltB_iff b a).mpr q] at e; cases e
      rw [if_neg this]
  · cases h
theorem simF_max (hh : c.A.handled = none) : SimF prog w c (.builtin "max") maxF := by
  intro φ fr ps vs st hv m led ext s Q b st' hf H k
  obtain ⟨a, b', rfl, e⟩ := maxF_some hf
  cases e
  obtain ⟨t, u, rfl⟩ := two_ints hv
  exact max_two_N hh H.F H.N fun h' tk F' N' => k _ _ _ _ _ (Pre.refl _) (H.keep F' N') ⟨_, rfl⟩
theorem simF_min (hh : c.A.handled = none) : SimF prog w c (.builtin "min") minF := by
  intro φ fr ps vs st hv m led ext s Q b st' hf H k
  obtain ⟨a, b', rfl, e⟩ := minF_some hf
  cases e
  obtain ⟨t, u, rfl⟩ := two_ints hv
  exact min_two_N hh H.F H.N fun h' tk F' N' => k _ _ _ _ _ (Pre.refl _) (H.keep F' N') ⟨_, rfl⟩
end
end Mine

namespace Mine

/-! ## stores -/
abbrev PG := PV → Frm → Sto → Option (Frm × Sto)
noncomputable def gLoc (i : Nat) : PG := fun p fr st => some (setF fr p i, st)
noncomputable def gCell (k : Nat) : PG := fun p fr st => match getO k st.2 with
  | some (.cell _) => some (fr, (st.1, setO k (.cell (some p)) st.2))
  | _ => none
noncomputable def gAll : List PG → List PV → Frm → Sto → Option (Frm × Sto) := fun gs =>
  @List.rec PG (fun _ => List PV → Frm → Sto → Option (Frm × Sto)) (fun ps fr st => match ps with | [] => some (fr, st) | _ :: _ => none)
    (fun g _ ih ps fr st => match ps with
      | [] => none
      | p :: r => (match g p fr st with
        | some (fr1, st1) => ih r fr1 st1
        | none => none)) gs

section
variable (prog : Program) (w : World)
def SimG (c : FC) (t : Value → Sem Unit) (g : PG) : Prop :=
  ∀ (φ : List Addr) (fr : Frm) (st : Sto) (p : PV) (v : Value) (fr' : Frm) (st' : Sto) (m : Str → Option Value) (led ext : List (Addr × Obj)) (s : Shared) (Q : Unit → Shared → Prop), VR φ p v → g p fr st = some (fr', st') → SR c φ fr st m led ext s.heap →
    (∀ m' led' h' tk', SR c φ fr' st' m' led' ext h' → Q () { s with heap := h', toks := tk' }) → wpAny (model prog w) c.A (t v) Q NoE s
inductive SimGs (c : FC) : List (Value → Sem Unit) → List PG → Prop
  | nil : SimGs c [] []
  | cons {t g ts gs} : SimG prog w c t g → SimGs c ts gs → SimGs c (t :: ts) (g :: gs)
end

section
variable {prog : Program} {w : World} {c : FC}

theorem names_ne {names : List Str} (hnd : names.Nodup) {i j : Nat} {x y : Str} (hi : names[i]? = some x) (hj : names[j]? = some y) (h : i ≠ j) : y ≠ x := by
  intro e
  subst e
  exact h ((List.getElem?_inj (List.getElem?_eq_some_iff.mp hi).1 hnd).mp (hi.trans hj.symm))

theorem simG_loc {x : Str} {i : Nat} (hL : c.env.locals = c.L) (hx : c.names[i]? = some x) (hnd : c.names.Nodup) (hk : c.env.scope.kind = .function) (hl : c.env.kindOf x = some .local) : SimG prog w c (storeName c.env x) (gLoc i) := by
  intro φ fr st p v fr' st' m led ext s Q hv hg H k
  cases hg
  refine wpAny_storeName_local hl (m := m) (by rw [hL]; exact H.F.ns) (fun h' hn' hs' => ?_) (by rw [hk]; rfl)
  rw [hL] at hn' hs'
  refine k _ _ _ _ ⟨H.F.set hn' hs', H.N.set hs', H.nd, H.nx, H.os, fun j y q hj hq => ?_, H.ce, H.mu, H.ba⟩
  rcases getF_set _ _ _ _ _ hq with ⟨rfl, rfl⟩ | ⟨hne, hq'⟩
  · have : y = x := Option.some.inj (hj.symm.trans hx)
    subst this
    exact ⟨v, if_pos rfl, hv⟩
  · obtain ⟨u, h1, h2⟩ := H.fr _ _ _ hj hq'
    refine ⟨u, ?_, h2⟩
    show (if y = x then some v else m y) = some u
    rw [if_neg (names_ne hnd hx hj hne)]
    exact h1

theorem updF_mid {d : Addr} {o : Obj} : ∀ {pre post : List (Addr × Obj)}, (∀ p ∈ pre, p.1 ≠ d) → (∀ p ∈ post, p.1 ≠ d) → UpdF d o (pre ++ (d, o) :: post) (fun o' => pre ++ (d, o') :: post)
  | [], _, _, h => .head h
  | p :: _, _, h1, h2 => .tail (h1 p (.head _)) (updF_mid (fun q hq => h1 q (.tail _ hq)) h2)
theorem upd_mid {d : Addr} {o o' : Obj} : ∀ {pre post : List (Addr × Obj)}, (∀ p ∈ pre, p.1 ≠ d) → (∀ p ∈ post, p.1 ≠ d) → Upd d o o' (pre ++ (d, o) :: post) (pre ++ (d, o') :: post)
  | [], _, _, h => .head h
  | p :: _, _, h1, h2 => .tail (h1 p (.head _)) (upd_mid (fun q hq => h1 q (.tail _ hq)) h2)

theorem simG_cell {x : Str} {i : Nat} (hx : (x, i) ∈ c.cids) (hk : c.env.scope.kind = .function) (hl : c.env.kindOf x = some .cell) : SimG prog w c (storeName c.env x) (gCell i) := by
  intro φ fr st p v fr' st' m led ext s Q hv hg H k
  unfold gCell at hg
  cases e : getO i st.2 with
  | none => rw [e] at hg; cases hg
  | some po =>
    rw [e] at hg
    cases po with
    | cell w0 =>
      cases hg
      obtain ⟨a, h1, h2⟩ := H.ce _ _ hx
      obtain ⟨a', o, pre, post, q1, q2, q3, q4, q5, q6⟩ := H.set (po' := .cell (some p)) e
      have : a' = a := Option.some.inj (q1.symm.trans h2)
      subst this
      have N := H.N
      rw [q2, List.append_assoc, List.cons_append] at N
      have hd : ∃ v₀, o.data = .cell v₀ := by
        cases w0 with
        | none => exact q3
        | some _ => obtain ⟨y, h, _⟩ := q3; exact ⟨_, h⟩
      obtain ⟨v₀, hd⟩ := hd
      have hm := N (a', o) (List.mem_append_right _ (.head _))
      refine wpAny_storeName_cell hk hl h1 ⟨o, hm.1, hd⟩ fun h' hc' hs' => ?_
      obtain ⟨o', ho', hd'⟩ := hc'
      exact k _ _ _ _ (q6 o' h' ⟨v, hd', hv⟩ (H.F.change hs' hm.2.1 hm.2.2) (news_set N q4 q5 hs' ho'))
    | _ => cases hg

theorem simG_bind {x : Str} {g : PG} (h : SimG prog w c (storeName c.env x) g) : SimG prog w c (bindName c.env x) g := by
  intro φ fr st p v fr' st' m led ext s Q hv hg H k
  exact bindName_ (h _ _ _ _ _ _ _ _ _ _ _ _ hv hg H k)
theorem simG_assign {x : Str} {pos : Pos} {g : PG} (h : SimG prog w c (storeName c.env x) g) : SimG prog w c (assign (.Name x pos) c.env) g := by
  intro φ fr st p v fr' st' m led ext s Q hv hg H k
  exact wpAny_assign_Name (h _ _ _ _ _ _ _ _ _ _ _ _ hv hg H k)

theorem sim_inOrder : ∀ {ts : List (Value → Sem Unit)} {gs : List PG}, SimGs prog w c ts gs → ∀ {φ : List Addr} {fr : Frm} {st : Sto} {ps : List PV} {vs : List Value} {fr' : Frm} {st' : Sto} {m : Str → Option Value} {led ext : List (Addr × Obj)} {s : Shared} {Q : Unit → Shared → Prop},
    VRs φ ps vs → gAll gs ps fr st = some (fr', st') → SR c φ fr st m led ext s.heap → (∀ m' led' h' tk', SR c φ fr' st' m' led' ext h' → Q () { s with heap := h', toks := tk' }) → wpAny (model prog w) c.A (assignInOrder ts vs) Q NoE s
  | _, _, .nil, _, _, _, _, _, _, _, _, _, _, _, _, hv, hg, H, k => by
    cases hv with
    | nil => cases hg; exact assignInOrder_nil (k _ _ _ _ H)
    | cons _ _ => cases hg
  | _, _, @SimGs.cons _ _ _ t g ts gs h1 h2, φ, fr, st, _, _, fr', st', _, _, _, _, _, hv, hg, H, k => by
    cases hv with
    | nil => cases hg
    | @cons p v ps vs a r =>
      have hg' : (match g p fr st with | some (fr1, st1) => gAll gs ps fr1 st1 | none => none) = some (fr', st') := hg
      cases e : g p fr st with
      | none => rw [e] at hg'; cases hg'
      | some q =>
        obtain ⟨fr1, st1⟩ := q
        rw [e] at hg'
        refine assignInOrder_cons (h1 _ _ _ _ _ _ _ _ _ _ _ _ a e H fun m' led' h' tk' H' => ?_)
        exact sim_inOrder h2 r hg' H' k
end

/-! ## statements -/
noncomputable def sNext : PS := fun fr st => some (.next, fr, st)
noncomputable def sSeq (a b : PS) : PS := fun fr st => match a fr st with
  | some (.next, fr1, st1) => b fr1 st1
  | some (.ret p, fr1, st1) => some (.ret p, fr1, st1)
  | none => none
noncomputable def sSet (g : PG) (e : PE) : PS := fun fr st => match e fr st with
  | some (p, st1) => (match g p fr st1 with
    | some (fr2, st2) => some (.next, fr2, st2)
    | none => none)
  | none => none
noncomputable def sRet (e : PE) : PS := fun fr st => match e fr st with
  | some (p, st1) => some (.ret p, fr, st1)
  | none => none
noncomputable def sIf (t : PT) (a b : PS) : PS := fun fr st => match t fr st with
  | some (true, st1) => a fr st1
  | some (false, st1) => b fr st1
  | none => none
/-- a, b = (e, f): the values, then the stores from the last to the first -/
noncomputable def sSwap (gs : List PG) (es : Frm → Sto → Option (List PV × Sto)) : PS := fun fr st => match es fr st with
  | some (ps, st1) => (match fits ps with
    | true => (match gAll gs ps.reverse fr st1 with
      | some (fr2, st2) => some (.next, fr2, st2)
      | none => none)
    | false => none)
  | none => none
/-- a, b, c = e, where e is a tuple of the store's -/
noncomputable def sUnpack (gs : List PG) (e : PE) : PS := fun fr st => match e fr st with
  | some (.ref k, st1) => (match getO k st1.2 with
    | some (.tup ps) => (match Nat.beq gs.length ps.length with
      | true => (match gAll gs ps fr st1 with
        | some (fr2, st2) => some (.next, fr2, st2)
        | none => none)
      | false => none)
    | _ => none)
  | _ => none
noncomputable def sWhile (t : PT) (b : PS) : Nat → PS := fun n =>
  @Nat.rec (fun _ => PS) (fun _ _ => none) (fun _ ih fr st => match t fr st with
    | some (true, st1) => (match b fr st1 with
      | some (.next, fr2, st2) => ih fr2 st2
      | some (.ret p, fr2, st2) => some (.ret p, fr2, st2)
      | none => none)
    | some (false, st1) => some (.next, fr, st1)
    | none => none) n
noncomputable def sAppend (a v : PE) : PS := fun fr st => match a fr st with
  | some (.ref k, st1) => (match getO k st1.2 with
    | some (.list _) => (match v fr st1 with
      | some (p, st2) => (match getO k st2.2 with
        | some (.list xs) => (match fits xs with
          | true => some (.next, fr, (st2.1, setO k (.list (xs ++ [p])) st2.2))
          | false => none)
        | _ => none)
      | none => none)
    | _ => none)
  | _ => none
noncomputable def setL (xs : List PV) (p : PV) : Nat → Option (List PV) :=
  @List.rec PV (fun _ => Nat → Option (List PV)) (fun _ => none) (fun o r ih n => @Nat.rec (fun _ => Option (List PV)) (some (p :: r)) (fun k _ => match ih k with | some q => some (o :: q) | none => none) n) xs
/-- a[i] = v: v first -/
noncomputable def sPut (v a i : PE) : PS := fun fr st => match v fr st with
  | some (p, st1) => (match a fr st1 with
    | some (.ref k, st2) => (match i fr st2 with
      | some (.int (.ofNat n), st3) => (match getO k st3.2 with
        | some (.list xs) => (match Nat.ble n 1000 with
          | true => (match setL xs p n with
            | some ys => some (.next, fr, (st3.1, setO k (.list ys) st3.2))
            | none => none)
          | false => none)
        | _ => none)
      | _ => none)
    | _ => none)
  | none => none

section
variable {prog : Program} {w : World} {c : FC}

theorem simSs_nil : SimS prog w c (execs [] c.env) sNext := by
  intro φ fr st m led ext s Q fl fr' st' hf H k
  cases hf
  exact wpAny_execs_nil (k _ _ _ _ _ _ (Pre.refl _) H rfl)
theorem simSs_cons {st0 : Stmt} {rest : List Stmt} {fa fb : PS} (ha : SimS prog w c (exec st0 c.env) fa) (hb : SimS prog w c (execs rest c.env) fb) : SimS prog w c (execs (st0 :: rest) c.env) (sSeq fa fb) := by
  intro φ fr st m led ext s Q fl fr' st' hf H k
  unfold sSeq at hf
  cases e : fa fr st with
  | none => rw [e] at hf; cases hf
  | some q =>
    obtain ⟨f1, fr1, st1⟩ := q
    rw [e] at hf
    refine wpAny_execs_cons (ha _ _ _ _ _ _ _ _ _ _ _ e H fun φ1 led1 m1 a h1 tk1 p1 H1 R1 => ?_)
    cases f1 with
    | next =>
      have : a = .next := R1
      subst this
      exact hb _ _ _ _ _ _ _ _ _ _ _ hf H1 fun φ2 led2 m2 a h2 tk2 p2 H2 R2 => k _ _ _ _ _ _ (p1.trans p2) H2 R2
    | ret p =>
      cases hf
      obtain ⟨v, rfl, hv⟩ := R1
      exact k _ _ _ _ _ _ p1 H1 ⟨v, rfl, hv⟩

theorem simS_set {x : Str} {px pos : Pos} {value : Expr} {g : PG} {f : PE} (hg : SimG prog w c (storeName c.env x) g) (he : SimE prog w c value f)
    (hs : swapsWith value (some (.Name x px)) pos.line c.env = pure false) : SimS prog w c (exec (.Assign [.Name x px] value pos) c.env) (sSet g f) := by
  intro φ fr st m led ext s Q fl fr' st' hf H k
  unfold sSet at hf
  cases e : f fr st with
  | none => rw [e] at hf; cases hf
  | some q =>
    obtain ⟨p, st1⟩ := q
    rw [e] at hf
    dsimp only at hf
    cases e2 : g p fr st1 with
    | none => rw [e2] at hf; cases hf
    | some q2 =>
      obtain ⟨fr2, st2⟩ := q2
      rw [e2] at hf
      cases hf
      refine wpAny_Assign_Name (he _ _ _ _ _ _ _ _ _ _ e H fun φ1 led1 v h1 tk1 p1 H1 R1 => ?_) hs
      exact hg _ _ _ _ _ _ _ _ _ _ _ _ R1 e2 H1 fun m' led' h' tk' H' => k _ _ _ _ _ _ p1 H' rfl

theorem simS_aug {x : Str} {px pos : Pos} {value : Expr} {op : Operator} {i : Nat} {g : PG} {f : PE} {fo : PV → PV → Sto → Option (PV × Sto)} (hL : c.env.locals = c.L) (hx : c.names[i]? = some x) (hk : c.env.scope.kind = .function) (hl : c.env.kindOf x = some .local)
    (hg : SimG prog w c (storeName c.env x) g) (he : SimE prog w c value f) (ho : SimO2 prog w c (inplaceOp op) fo) : SimS prog w c (exec (.AugAssign (.Name x px) op value pos) c.env) (sSet g (eBin fo (eLoc i) f)) := by
  intro φ fr st m led ext s Q fl fr' st' hf H k
  unfold sSet at hf
  cases e : eBin fo (eLoc i) f fr st with
  | none => rw [e] at hf; cases hf
  | some q =>
    obtain ⟨p, st1⟩ := q
    rw [e] at hf
    dsimp only at hf
    cases e2 : g p fr st1 with
    | none => rw [e2] at hf; cases hf
    | some q2 =>
      obtain ⟨fr2, st2⟩ := q2
      rw [e2] at hf
      cases hf
      obtain ⟨a, st3, b, st4, q1, q2, q3⟩ := eBin_some e
      have q1' : (match getF fr i with | some p => some (p, st) | none => none) = some (a, st3) := q1
      cases e3 : getF fr i with
      | none => rw [e3] at q1'; cases q1'
      | some p0 =>
        rw [e3] at q1'
        cases q1'
        obtain ⟨v, hv, hr⟩ := H.fr _ _ _ hx e3
        refine wpAny_AugAssign_Name (wpAny_loadName_local hk hl (by rw [hL]; exact H.F.ns) hv ?_)
        refine he _ _ _ _ _ _ _ _ _ _ q2 H fun φ1 led1 v1 h1 tk1 p1 H1 R1 => ?_
        refine ho _ _ _ _ _ _ _ (hr.mono p1) R1 _ _ _ _ _ _ _ q3 H1 fun φ2 led2 v2 h2 tk2 p2 H2 R2 => ?_
        exact hg _ _ _ _ _ _ _ _ _ _ _ _ R2 e2 H2 fun m' led' h' tk' H' => k _ _ _ _ _ _ (p1.trans p2) H' rfl

theorem simS_ret {value : Expr} {pos : Pos} {f : PE} (he : SimE prog w c value f) : SimS prog w c (exec (.Return (some value) pos) c.env) (sRet f) := by
  intro φ fr st m led ext s Q fl fr' st' hf H k
  unfold sRet at hf
  cases e : f fr st with
  | none => rw [e] at hf; cases hf
  | some q =>
    obtain ⟨p, st1⟩ := q
    rw [e] at hf
    cases hf
    exact wpAny_Return_some (he _ _ _ _ _ _ _ _ _ _ e H fun φ1 led1 v h1 tk1 p1 H1 R1 => k _ _ _ _ _ _ p1 H1 ⟨v, rfl, R1⟩)

theorem simS_if {test : Expr} {body orelse : List Stmt} {pos : Pos} {t : PT} {fa fb : PS} (ht : SimT prog w c test t) (ha : SimS prog w c (execs body c.env) fa) (hb : SimS prog w c (execs orelse c.env) fb) :
    SimS prog w c (exec (.If test body orelse pos) c.env) (sIf t fa fb) := by
  intro φ fr st m led ext s Q fl fr' st' hf H k
  unfold sIf at hf
  cases e : t fr st with
  | none => rw [e] at hf; cases hf
  | some q =>
    obtain ⟨b, st1⟩ := q
    rw [e] at hf
    refine wpAny_If (ht _ _ _ _ _ _ _ _ _ _ e H fun φ1 led1 v h1 tk1 p1 H1 R1 => ?_)
    subst R1
    cases v with
    | true => simp only [if_true]; exact ha _ _ _ _ _ _ _ _ _ _ _ hf H1 fun φ2 led2 m2 a h2 tk2 p2 H2 R2 => k _ _ _ _ _ _ (p1.trans p2) H2 R2
    | false => simp only [Bool.false_eq_true, if_false]; exact hb _ _ _ _ _ _ _ _ _ _ _ hf H1 fun φ2 led2 m2 a h2 tk2 p2 H2 R2 => k _ _ _ _ _ _ (p1.trans p2) H2 R2

theorem simS_swap {elts es : List Expr} {k1 k2 : Nat} {tpos vpos pos : Pos} {names : List Str} {gs : List PG} {f : Frm → Sto → Option (List PV × Sto)} (hh : c.A.handled = none) (hl : SimL prog w c vpos es f)
    (hg : SimGs prog w c (names.reverse.map fun n => bindName c.env n) gs) (hlen : ∀ fr st ps st1, f fr st = some (ps, st1) → ps.length = names.length)
    (hs : swapsWithSole [.Tuple elts k1 tpos] (.Tuple es k2 vpos) pos.line c.env = pure false) (hw : swappedStores [.Tuple elts k1 tpos] (.Tuple es k2 vpos) c.env = pure (some names)) :
    SimS prog w c (exec (.Assign [.Tuple elts k1 tpos] (.Tuple es k2 vpos) pos) c.env) (sSwap gs f) := by
  intro φ fr st m led ext s Q fl fr' st' hf H k
  unfold sSwap at hf
  cases e : f fr st with
  | none => rw [e] at hf; cases hf
  | some q =>
    obtain ⟨ps, st1⟩ := q
    rw [e] at hf
    dsimp only at hf
    cases e1 : fits ps with
    | false => rw [e1] at hf; cases hf
    | true =>
      rw [e1] at hf
      dsimp only at hf
      cases e2 : gAll gs ps.reverse fr st1 with
      | none => rw [e2] at hf; cases hf
      | some q2 =>
        obtain ⟨fr2, st2⟩ := q2
        rw [e2] at hf
        cases hf
        refine Assign_Tuple_swapped (Tuple_ (hl _ _ _ _ _ _ _ _ _ _ e H fun φ1 led1 vs h1 tk1 p1 H1 R1 => ?_)) hs hw
        refine newTuple_N H1.F H1.N (fun h' F' N' => ?_) (by rw [R1.length]; exact Nat.le_trans (fits_le e1) thousand)
        refine unpackItemsN_ F' N' (N'.isTup (.head _)) hh (by rw [List.size_toArray, R1.length, hlen _ _ _ _ e]) fun h2 F2 N2 => ?_
        have H2 : SR c φ1 fr st1 m led1 ext h2 := H1.keep F2 fun p hp => N2 p (.tail _ hp)
        exact sim_inOrder hg R1.reverse e2 H2 fun m' led' h' tk' H' => k _ _ _ _ _ _ p1 H' rfl

theorem simS_unpack {elts : List Expr} {k1 : Nat} {tpos pos : Pos} {value : Expr} {gs : List PG} {f : PE} (hh : c.A.handled = none) (he : SimE prog w c value f)
    (hg : SimGs prog w c ((assignEach elts c.env).map (·.2)) gs) (hstar : (assignEach elts c.env).findIdx? (·.1) = none) (hlen : (assignEach elts c.env).length = gs.length)
    (hs : swapsWithSole [.Tuple elts k1 tpos] value pos.line c.env = pure false) (hw : swappedStores [.Tuple elts k1 tpos] value c.env = pure none) :
    SimS prog w c (exec (.Assign [.Tuple elts k1 tpos] value pos) c.env) (sUnpack gs f) := by
  intro φ fr st m led ext s Q fl fr' st' hf H k
  unfold sUnpack at hf
  cases e : f fr st with
  | none => rw [e] at hf; cases hf
  | some q =>
    obtain ⟨p, st1⟩ := q
    rw [e] at hf
    cases p with
    | ref kx =>
      dsimp only at hf
      cases e1 : getO kx st1.2 with
      | none => rw [e1] at hf; cases hf
      | some po =>
        rw [e1] at hf
        cases po with
        | tup ps =>
          dsimp only at hf
          cases e2 : Nat.beq gs.length ps.length with
          | false => rw [e2] at hf; cases hf
          | true =>
            rw [e2] at hf
            dsimp only at hf
            cases e3 : gAll gs ps fr st1 with
            | none => rw [e3] at hf; cases hf
            | some q2 =>
              obtain ⟨fr2, st2⟩ := q2
              rw [e3] at hf
              cases hf
              refine Assign_Tuple (he _ _ _ _ _ _ _ _ _ _ e H fun φ1 led1 v h1 tk1 p1 H1 R1 => ?_) hs hw
              obtain ⟨a, q1, rfl⟩ := R1
              obtain ⟨a', vs, r1, r2, r3⟩ := H1.tup e1
              have : a' = a := Option.some.inj (r1.symm.trans q1)
              subst this
              have hl := Nat.eq_of_beq_eq_true e2
              refine unpackN_ H1.F H1.N r2 hh (by rw [hlen, hl, List.size_toArray, r3.length]) hstar fun h2 F2 N2 => ?_
              exact sim_inOrder hg r3 e3 (H1.keep F2 N2) fun m' led' h' tk' H' => k _ _ _ _ _ _ p1 H' rfl
        | _ => cases hf
    | _ => cases hf

theorem simS_while {test : Expr} {body : List Stmt} {pos : Pos} {t : PT} {b : PS} (n : Nat) (ht : SimT prog w c test t) (hb : SimS prog w c (execs body c.env) b) :
    SimS prog w c (exec (.While test body [] pos) c.env) (sWhile t b n) := by
  intro φ fr st m led ext s Q fl fr' st' hf H k
  refine wpAny_While (codeAny_whileLoop (fun n s' => ∃ φ1 fr1 st1 m1 led1 h1 tk1, s' = { s with heap := h1, toks := tk1 } ∧ Pre φ φ1 ∧ SR c φ1 fr1 st1 m1 led1 ext h1 ∧ sWhile t b n fr1 st1 = some (fl, fr', st')) ?_ n
    ⟨φ, fr, st, m, led, s.heap, s.toks, rfl, Pre.refl _, H, hf⟩)
  rintro n s' ⟨φ1, fr1, st1, m1, led1, h1, tk1, rfl, p1, H1, e⟩
  cases n with
  | zero => cases e
  | succ n =>
    have e' : (match t fr1 st1 with
      | some (true, st1) => (match b fr1 st1 with
        | some (.next, fr2, st2) => sWhile t b n fr2 st2
        | some (.ret p, fr2, st2) => some (.ret p, fr2, st2)
        | none => none)
      | some (false, st1) => some (.next, fr1, st1)
      | none => none) = some (fl, fr', st') := e
    refine wpAny_noRaise ?_
    cases e1 : t fr1 st1 with
    | none => rw [e1] at e'; cases e'
    | some q =>
      obtain ⟨b1, st2⟩ := q
      rw [e1] at e'
      refine ht _ _ _ _ _ _ _ _ _ _ e1 H1 fun φ2 led2 v h2 tk2 p2 H2 R2 => ?_
      subst R2
      cases v with
      | false =>
        cases e'
        simp only [Bool.false_eq_true, if_false]
        exact wpAny_execs_nil (k _ _ _ _ _ _ (p1.trans p2) H2 rfl)
      | true =>
        dsimp only at e'
        simp only [if_true]
        refine wpAny_noRaise ?_
        cases e2 : b fr1 st2 with
        | none => rw [e2] at e'; cases e'
        | some q =>
          obtain ⟨f3, fr3, st3⟩ := q
          rw [e2] at e'
          refine hb _ _ _ _ _ _ _ _ _ _ _ e2 H2 fun φ3 led3 m3 a h3 tk3 p3 H3 R3 => ?_
          cases f3 with
          | next =>
            have : a = .next := R3
            subst this
            exact ⟨n, Nat.lt_succ_self n, φ3, fr3, st3, m3, led3, h3, tk3, rfl, p1.trans (p2.trans p3), H3, e'⟩
          | ret p =>
            cases e'
            obtain ⟨v, rfl, hv⟩ := R3
            exact k _ _ _ _ _ _ (p1.trans (p2.trans p3)) H3 ⟨v, rfl, hv⟩

theorem setL_eq : ∀ {xs : List PV} {p : PV} {n : Nat} {ys : List PV}, setL xs p n = some ys → ys = xs.set n p ∧ n < xs.length
  | [], _, _, _, h => by cases h
  | x :: xs, p, 0, _, h => by cases h; exact ⟨rfl, Nat.zero_lt_succ _⟩
  | x :: xs, p, n + 1, ys, h => by
    have h' : (match setL xs p n with | some q => some (x :: q) | none => none) = some ys := h
    cases e : setL xs p n with
    | none => rw [e] at h'; cases h'
    | some q =>
      rw [e] at h'
      cases h'
      obtain ⟨a, b⟩ := setL_eq e
      exact ⟨by rw [a]; rfl, Nat.succ_lt_succ b⟩

theorem simS_put {o i value : Expr} {po pos : Pos} {fv fa fi : PE} (hv : SimE prog w c value fv) (ha : SimE prog w c o fa) (hi : SimE prog w c i fi)
    (hs : swapsWith value (some (.Subscript o i po)) pos.line c.env = pure false) : SimS prog w c (exec (.Assign [.Subscript o i po] value pos) c.env) (sPut fv fa fi) := by
  intro φ fr st m led ext s Q fl fr' st' hf H k
  unfold sPut at hf
  cases e : fv fr st with
  | none => rw [e] at hf; cases hf
  | some q =>
    obtain ⟨p, st1⟩ := q
    rw [e] at hf
    dsimp only at hf
    cases e1 : fa fr st1 with
    | none => rw [e1] at hf; cases hf
    | some q1 =>
      obtain ⟨pa, st2⟩ := q1
      rw [e1] at hf
      cases pa with
      | ref kx =>
        dsimp only at hf
        cases e2 : fi fr st2 with
        | none => rw [e2] at hf; cases hf
        | some q2 =>
          obtain ⟨pi, st3⟩ := q2
          rw [e2] at hf
          cases pi with
          | int z =>
            cases z with
            | ofNat n =>
              dsimp only at hf
              cases e3 : getO kx st3.2 with
              | none => rw [e3] at hf; cases hf
              | some po =>
                rw [e3] at hf
                cases po with
                | list xs =>
                  dsimp only at hf
                  cases e4 : Nat.ble n 1000 with
                  | false => rw [e4] at hf; cases hf
                  | true =>
                    rw [e4] at hf
                    dsimp only at hf
                    cases e5 : setL xs p n with
                    | none => rw [e5] at hf; cases hf
                    | some ys =>
                      rw [e5] at hf
                      cases hf
                      obtain ⟨rfl, hn⟩ := setL_eq e5
                      have h1000 := Nat.le_of_ble_eq_true e4
                      refine wpAny_Assign_Subscript (hv _ _ _ _ _ _ _ _ _ _ e H fun φ1 led1 v1 h1 tk1 p1 H1 R1 => ?_) hs
                      refine ha _ _ _ _ _ _ _ _ _ _ e1 H1 fun φ2 led2 v2 h2 tk2 p2 H2 R2 => ?_
                      refine hi _ _ _ _ _ _ _ _ _ _ e2 H2 fun φ3 led3 v3 h3 tk3 p3 H3 R3 => ?_
                      obtain ⟨a, q1, rfl⟩ := R2.mono p3
                      obtain ⟨t, rfl⟩ := R3
                      obtain ⟨a', o, pre, post, r1, r2, ⟨vs, cnt, rfl, r3⟩, r4, r5, r6⟩ := H3.set (po' := .list (xs.set n p)) e3
                      have : a' = a := Option.some.inj (r1.symm.trans q1)
                      subst this
                      have N := H3.N
                      rw [r2, List.append_assoc, List.cons_append] at N
                      have hset : ki_setL vs n v1 = some (vs.set n v1) := by
                        have hlt : n < vs.length := by rw [r3.length]; exact hn
                        clear r3 N r2 r6
                        induction vs generalizing n with
                        | nil => exact absurd hlt (Nat.not_lt_zero _)
                        | cons y vs ih =>
                          cases n with
                          | zero => rfl
                          | succ n =>
                            have := ih (n := n)
                            unfold ki_setL
                            cases e9 : ki_setL vs n v1 with
                            | none =>
                              exfalso
                              have hlt' : n < vs.length := Nat.lt_of_succ_lt_succ hlt
                              have : ∀ (vs : List Value) (n : Nat), n < vs.length → ki_setL vs n v1 ≠ none := by
                                intro vs
                                induction vs with
                                | nil => intro n h; exact absurd h (Nat.not_lt_zero _)
                                | cons y vs ih =>
                                  intro n h
                                  cases n with
                                  | zero => intro q; cases q
                                  | succ n =>
                                    intro q
                                    unfold ki_setL at q
                                    cases e8 : ki_setL vs n v1 with
                                    | none => exact ih n (Nat.lt_of_succ_lt_succ h) e8
                                    | some z => rw [e8] at q; cases q
                              exact this vs n hlt' e9
                            | some z => rw [← (ki_setL_spec e9).1]; rfl
                      refine ki_set (its := vs.toArray) (n := cnt) (q := vs.set n v1) H3.F N (by show 0 ≤ (n : Int); omega) (by show (n : Int) < 2 ^ 63; omega) ?_ (upd_mid r4 r5) fun h' F' N' => ?_
                      · show ki_setL vs n v1 = _
                        exact hset
                      · exact k _ _ _ _ _ _ (p1.trans (p2.trans p3)) (r6 _ _ ⟨_, cnt, rfl, r3.set n (R1.mono (p2.trans p3))⟩ F' N') rfl
                | _ => cases hf
            | negSucc _ => cases hf
          | _ => cases hf
      | _ => cases hf

theorem simS_append {pl : Sem Bool} {x : Str} {arg : Expr} {px ap cp pos : Pos} {fa fv : PE} (ha : SimE prog w c (.Name x px) fa) (hv : SimE prog w c arg fv)
    (hi : interactive c.env = false) (hst : starEach [arg] c.env = (false, eval arg c.env) :: starEach [] c.env)
    (hm : eval ((Expr.Name x px |>.Attribute (Str.ofString "append") ap).Call [arg] [] cp) c.env = (do
      let ov ← eval (.Name x px) c.env
      standAt ap.atName
      let __x ← holding [ov] (getMethod ov (Str.ofString "append") pl)
      match __x with
      | (f, first) => callWith cp f first (backTo cp (starEach [arg] c.env)) [])) :
    SimS prog w c (exec (.Expr (.Call (.Attribute (.Name x px) (Str.ofString "append") ap) [arg] [] cp) pos) c.env) (sAppend fa fv) := by
  intro φ fr st m led ext s Q fl fr' st' hf H k
  unfold sAppend at hf
  cases e : fa fr st with
  | none => rw [e] at hf; cases hf
  | some q =>
    obtain ⟨pa, st1⟩ := q
    rw [e] at hf
    cases pa with
    | ref kx =>
      dsimp only at hf
      cases e0 : getO kx st1.2 with
      | none => rw [e0] at hf; cases hf
      | some po0 =>
        rw [e0] at hf
        cases po0 with
        | list xs0 =>
          dsimp only at hf
          cases e1 : fv fr st1 with
          | none => rw [e1] at hf; cases hf
          | some q1 =>
            obtain ⟨p, st2⟩ := q1
            rw [e1] at hf
            dsimp only at hf
            cases e3 : getO kx st2.2 with
            | none => rw [e3] at hf; cases hf
            | some po =>
              rw [e3] at hf
              cases po with
              | list xs =>
                dsimp only at hf
                cases e4 : fits xs with
                | false => rw [e4] at hf; cases hf
                | true =>
                  rw [e4] at hf
                  cases hf
                  refine wpAny_Expr (MethodCall_ (pl := pl) (ha _ _ _ _ _ _ _ _ _ _ e H fun φ1 led1 v1 h1 tk1 p1 H1 R1 => ?_) hm) hi rfl
                  obtain ⟨a, q1, rfl⟩ := R1
                  obtain ⟨a', vs0, n0, r1, r2, r3, r4⟩ := H1.list e0
                  have : a' = a := Option.some.inj (r1.symm.trans q1)
                  subst this
                  refine listMethod_K H1.N r2 PySem.F.slot_list_append PySem.F.type_list_append ?_
                  refine PyProof.Rows.callWith_method1 (spliced_more (hv _ _ _ _ _ _ _ _ _ _ e1 H1 fun φ2 led2 v2 h2 tk2 p2 H2 R2 => ?_) hst) hst rfl
                  refine spliced_none ?_
                  obtain ⟨a2, o, pre, post, t1, t2, ⟨vs, cnt, rfl, t3⟩, t4, t5, t6⟩ := H2.set (po' := .list (xs ++ [p])) e3
                  have : a2 = a' := Option.some.inj (t1.symm.trans (p2.get q1))
                  subst this
                  have N := H2.N
                  rw [t2, List.append_assoc, List.cons_append] at N
                  refine append_K (its := vs.toArray) (n := cnt) (x := v2) H2.F N (upd_mid t4 t5) (fun h' F' N' => ?_) (by rw [List.size_toArray, t3.length]; exact Nat.le_trans (fits_le e4) thousand)
                  refine k _ _ _ _ _ _ (p1.trans p2) (t6 _ _ ⟨vs ++ [v2], cnt + 1, ?_, t3.append (.cons R2 .nil)⟩ F' N') rfl
                  simp
              | _ => cases hf
        | _ => cases hf
    | _ => cases hf
end
end Mine

namespace Mine

/-! ## the top of the text, calls -/
structure GC where
  K : Frag
  p : Program
  loose : List Str
  mean : ExcName → Option Value
  mg : Str → Option Value
  mb : Str → Option Value

structure Live (G : GC) (c : FC) (d : Nat) : Prop where
  hh : c.A.handled = none
  ck : c.env.scope.kind = .function
  gl : c.env.globals = mainGlobals
  bn : c.env.builtins = builtinsNs
  B : ∃ A₀ base outer fenv, Below A₀ base outer c.h₀ ∧ c.A.frames = some (fenv :: outer) ∧ fenv.frame = some c.L ∧ fenv.scope.kind = .function
  X : G.K.In c.h₀
  T : Top G.p G.loose G.mean G.mg G.mb c.h₀
  dp : c.A.depth + d < recursionLimit
  un : c.A.units + 8 * d + 100 < cLine
theorem Live.le {G : GC} {c : FC} {d d' : Nat} (V : Live G c d) (h : d' ≤ d) : Live G c d' :=
  ⟨V.hh, V.ck, V.gl, V.bn, V.B, V.X, V.T, by have := V.dp; omega, by have := V.un; omega⟩
theorem Live.u64 {G : GC} {c : FC} {d : Nat} (V : Live G c d) : c.A.units + 64 < cLine := by have := V.un; omega

noncomputable def eApp (pf : List PV → Sto → Option (PV × Sto)) (es : Frm → Sto → Option (List PV × Sto)) : PE := fun fr st => match es fr st with
  | some (ps, st1) => pf ps st1
  | none => none
theorem eApp_some {pf : List PV → Sto → Option (PV × Sto)} {es : Frm → Sto → Option (List PV × Sto)} {fr : Frm} {st : Sto} {r : PV × Sto} (h : eApp pf es fr st = some r) : ∃ ps st1, es fr st = some (ps, st1) ∧ pf ps st1 = some r := by
  unfold eApp at h
  cases e : es fr st with
  | none => rw [e] at h; cases h
  | some q => obtain ⟨ps, st1⟩ := q; rw [e] at h; exact ⟨ps, st1, rfl, h⟩

section
variable (prog : Program) (w : World)
def SimC (G : GC) (d : Nat) (f : Addr) (pf : List PV → Sto → Option (PV × Sto)) : Prop := ∀ c, Live G c d → SimF prog w c (.ref f) pf
end

section
variable {prog : Program} {w : World} {c : FC} {G : GC} {d : Nat}
theorem Live.nameB (V : Live G c d) {s : Shared} {m : Str → Option Value} {x : Str} {px : Pos} {v : Value} {Q : Value → Shared → Prop} (F : Fr c.h₀ c.L s.heap m) (hx : nsIn G.K mainGlobals x = some none) (hv : bootBuiltins x = some v) (hn : x ≠ "__name__") (h : Q v s)
    (hk : c.env.kindOf x = some .globalImplicit) (hd : (x == ("__debug__" : Str)) = false) : wpAny (model prog w) c.A (eval (.Name x px) c.env) Q NoE s :=
  Name_function_global V.ck hk (loadGlobal_builtin (by rw [V.gl]; exact V.T.g.keeps F.keep) (mg_none_of V.X V.T.g hx) (by rw [V.bn]; exact V.T.b.keeps F.keep) ((V.T.builtins x hn).trans hv) h) hd
theorem Live.nameK (V : Live G c d) {s : Shared} {m : Str → Option Value} {x : Str} {px : Pos} {v : Value} {Q : Value → Shared → Prop} (F : Fr c.h₀ c.L s.heap m) (hx : nsIn G.K mainGlobals x = some (some v)) (h : Q v s)
    (hk : c.env.kindOf x = some .globalImplicit) (hd : (x == ("__debug__" : Str)) = false) : wpAny (model prog w) c.A (eval (.Name x px) c.env) Q NoE s :=
  Name_function_global V.ck hk (loadGlobal_global (by rw [V.gl]; exact V.T.g.keeps F.keep) (mg_of V.X V.T.g hx) h) hd
end

section
variable {prog : Program} {w : World} {c : FC} {G : GC} {d : Nat}
theorem simE_builtin {x : Str} {id : String} {px pos : Pos} {e : Expr} {es : List Expr} {pf : List PV → Sto → Option (PV × Sto)} {f : Frm → Sto → Option (List PV × Sto)} (V : Live G c d)
    (hx : nsIn G.K mainGlobals x = some none) (hv : bootBuiltins x = some (.builtin id)) (hn : x ≠ "__name__") (hk : c.env.kindOf x = some .globalImplicit) (hd : (x == ("__debug__" : Str)) = false)
    (hl : SimL prog w c pos (e :: es) f) (ho : SimF prog w c (.builtin id) pf) (he : starEach (e :: es) c.env = (false, eval e c.env) :: starEach es c.env) (ha : ((backTo pos (starEach es c.env)).any fun x => x.fst) = false)
    (hc : eval ((Expr.Name x px).Call (e :: es) [] pos) c.env = (do let f ← eval (.Name x px) c.env; callWith pos f [] (backTo pos (starEach (e :: es) c.env)) (backToKw pos (keywordEach [] c.env)))) :
    SimE prog w c (.Call (.Name x px) (e :: es) [] pos) (eApp pf f) := by
  intro φ fr st m led ext s Q b st' hf H k
  obtain ⟨ps, st1, e1, e2⟩ := eApp_some hf
  refine Call_ (V.nameB H.F hx hv hn ?_ hk hd) hc
  refine PyProof.Rows.callWith_builtin1 (hl _ _ _ _ _ _ _ _ _ _ e1 H fun φ1 led1 v h1 tk1 p1 H1 R1 => ?_) he ha
  exact ho _ _ _ _ _ R1 _ _ _ _ _ _ _ e2 H1 fun φ2 led2 v2 h2 tk2 p2 H2 R2 => k _ _ _ _ _ (p1.trans p2) H2 R2
theorem simE_type {x : Str} {id : String} {px pos : Pos} {e : Expr} {es : List Expr} {pf : List PV → Sto → Option (PV × Sto)} {f : Frm → Sto → Option (List PV × Sto)} (V : Live G c d)
    (hx : nsIn G.K mainGlobals x = some none) (hv : bootBuiltins x = some (.type id)) (hn : x ≠ "__name__") (hk : c.env.kindOf x = some .globalImplicit) (hd : (x == ("__debug__" : Str)) = false)
    (hl : SimL prog w c pos (e :: es) f) (ho : SimF prog w c (.type id) pf) (he : starEach (e :: es) c.env = (false, eval e c.env) :: starEach es c.env) (ha : ((backTo pos (starEach es c.env)).any fun x => x.fst) = false)
    (hc : eval ((Expr.Name x px).Call (e :: es) [] pos) c.env = (do let f ← eval (.Name x px) c.env; callWith pos f [] (backTo pos (starEach (e :: es) c.env)) (backToKw pos (keywordEach [] c.env)))) :
    SimE prog w c (.Call (.Name x px) (e :: es) [] pos) (eApp pf f) := by
  intro φ fr st m led ext s Q b st' hf H k
  obtain ⟨ps, st1, e1, e2⟩ := eApp_some hf
  refine Call_ (V.nameB H.F hx hv hn ?_ hk hd) hc
  refine PyProof.Rows.callWith_type1 (hl _ _ _ _ _ _ _ _ _ _ e1 H fun φ1 led1 v h1 tk1 p1 H1 R1 => ?_) he ha
  exact ho _ _ _ _ _ R1 _ _ _ _ _ _ _ e2 H1 fun φ2 led2 v2 h2 tk2 p2 H2 R2 => k _ _ _ _ _ (p1.trans p2) H2 R2
theorem simE_call {x : Str} {fa : Addr} {o : Obj} {fd : FuncData} {px pos : Pos} {e : Expr} {es : List Expr} {pf : List PV → Sto → Option (PV × Sto)} {f : Frm → Sto → Option (List PV × Sto)} (V : Live G c d)
    (hx : nsIn G.K mainGlobals x = some (some (.ref fa))) (ho : G.K.lookup fa = some o) (hod : o.data = .func fd) (hk : c.env.kindOf x = some .globalImplicit) (hd : (x == ("__debug__" : Str)) = false)
    (hC : SimC prog w G d fa pf) (hl : SimL prog w c pos (e :: es) f) (he : starEach (e :: es) c.env = (false, eval e c.env) :: starEach es c.env)
    (hc : eval ((Expr.Name x px).Call (e :: es) [] pos) c.env = (do let f ← eval (.Name x px) c.env; callWith pos f [] (backTo pos (starEach (e :: es) c.env)) (backToKw pos (keywordEach [] c.env)))) :
    SimE prog w c (.Call (.Name x px) (e :: es) [] pos) (eApp pf f) := by
  intro φ fr st m led ext s Q b st' hf H k
  obtain ⟨ps, st1, e1, e2⟩ := eApp_some hf
  refine Call_ (V.nameK H.F hx ?_ hk hd) hc
  refine callWith_defK (V.X _ _ ho) hod (hl _ _ _ _ _ _ _ _ _ _ e1 H fun φ1 led1 v h1 tk1 p1 H1 R1 => ⟨H1.F.keep _ _ (V.X _ _ ho), ?_⟩) he
  exact hC c V _ _ _ _ _ R1 _ _ _ _ _ _ _ e2 H1 fun φ2 led2 v2 h2 tk2 p2 H2 R2 => k _ _ _ _ _ (p1.trans p2) H2 R2

/-! ## a def's body gives its call -/
/-- a told list of ints: what else the call has made is let go -/
noncomputable def finL (k n : Nat) (st : Sto) : Sto := match getO k st.2 with
  | some (.list xs) => (match xs with
    | [] => (st.1, gcK n k st.2)
    | .int _ :: _ => (st.1, gcK n k st.2)
    | _ => st)
  | _ => st
theorem SR.finL {c : FC} {φ : List Addr} {fr : Frm} {st : Sto} {m : Str → Option Value} {led ext : List (Addr × Obj)} {h : Heap} (H : SR c φ fr st m led ext h) (k n : Nat) : ∃ led', SR c φ fr (finL k n st) m led' ext h := by
  unfold Mine.finL
  split
  · split
    · exact H.gcK n k
    · exact H.gcK n k
    · exact ⟨_, H⟩
  · exact ⟨_, H⟩
noncomputable def fin (p : PV) (n : Nat) (st : Sto) : Option (PV × Sto) := match p with
  | .ref k => some (.ref k, finL k n st)
  | .int i => some (.int i, (st.1, gcO n st.2))
  | .bool i => some (.bool i, (st.1, gcO n st.2))
  | .none => some (.none, (st.1, gcO n st.2))
noncomputable def runF (fb : PS) (fr : Frm) (st : Sto) : Option (PV × Sto) := match fb fr st with
  | some (.ret p, _, st1) => fin p st.1 st1
  | some (.next, _, st1) => fin .none st.1 st1
  | none => none
noncomputable def frmOf (ps : List PV) (tl : Frm) : Frm := @List.rec PV (fun _ => Frm) tl (fun p _ ih => some p :: ih) ps
theorem getF_frmOf {tl : Frm} (htl : ∀ i p, getF tl i ≠ some p) : ∀ {ps : List PV} {i : Nat} {p : PV}, getF (frmOf ps tl) i = some p → ps[i]? = some p
  | [], i, p, h => absurd h (htl i p)
  | q :: ps, 0, p, h => h
  | q :: ps, i + 1, p, h => (getF_frmOf (ps := ps) (i := i) htl h).trans (by simp)
noncomputable def blank (n : Nat) : Frm := @Nat.rec (fun _ => Frm) [] (fun _ ih => none :: ih) n
theorem getF_blank : ∀ (n i : Nat) (p : PV), getF (blank n) i ≠ some p
  | 0, _, _ => fun h => by cases h
  | n + 1, 0, _ => fun h => by cases h
  | n + 1, i + 1, p => getF_blank n i p

theorem lookup_nodup {x : Str} {v : Value} : ∀ {l : List (Str × Value)}, (l.map (·.1)).Nodup → (x, v) ∈ l → l.lookup x = some v
  | (y, u) :: l, hnd, hm => by
    rw [List.map_cons, List.nodup_cons] at hnd
    rcases List.mem_cons.mp hm with e | hm
    · cases e; simp
    · have : x ≠ y := fun e => hnd.1 (e ▸ List.mem_map_of_mem (f := (·.1)) hm)
      rw [List.lookup_cons]
      have hb : (x == y) = false := by simpa using this
      rw [hb]
      exact lookup_nodup hnd.2 hm
theorem zip_lookup {xs : List Str} {vs : List Value} {i : Nat} {x : Str} {v : Value} (hnd : xs.Nodup) (hl : vs.length = xs.length) (hx : xs[i]? = some x) (hv : vs[i]? = some v) : (xs.zip vs).reverse.lookup x = some v := by
  refine lookup_nodup ?_ (List.mem_reverse.mpr ?_)
  · rw [List.map_reverse, List.map_fst_zip (by omega)]
    exact List.pairwise_reverse.mpr (hnd.imp fun h e => h e.symm)
  · have : (xs.zip vs)[i]? = some (x, v) := by rw [List.getElem?_zip_eq_some]; exact ⟨hx, hv⟩
    exact List.mem_of_getElem? this

theorem simC_of {f : Addr} {oc : Value} {od : Option Addr} {osl : Array (Option Value)} {name qual : Str} {params : Arguments} {body : List Stmt} {scope : Scope} {dV kV doc pm cdv ct : Value} {an : Option Addr} {xs names : List Str} {nb : Nat} {fb : PS}
    (ho : G.K.lookup f = some ⟨oc, od, .func (fnX name qual params body scope [] dV kV doc pm an cdv ct), osl⟩) (hcd : codeIn G.K cdv qual = true)
    (hb : ∀ vs, vs.length = xs.length → bindArgs (fnX name qual params body scope [] dV kV doc pm an cdv ct) ⟨vs, []⟩ = pure (xs.zip vs))
    (hloc : ∀ x ∈ xs, scope.names.lookup x = some .local) (hxs : xs.Nodup) (hn : ∀ (i : Nat) (x : Str), xs[i]? = some x → names[i]? = some x) (hcell : ∀ x ∈ scope.names, x.2 ≠ .cell)
    (hco : scope.isCoroutine = false) (hgen : scope.isGenerator = false) (hk : scope.kind = .function)
    (hbody : ∀ A h₀ L, Live G (FC.mk A h₀ L (envX qual scope L f cdv []) names [] [] []) d → SimS prog w (FC.mk A h₀ L (envX qual scope L f cdv []) names [] [] []) (execs body (FC.mk A h₀ L (envX qual scope L f cdv []) names [] [] []).env) fb) :
    SimC prog w G (d + 1) f (fun ps st => match Nat.beq ps.length xs.length with | true => runF fb (frmOf ps (blank nb)) st | false => none) := by
  intro c V φ fr ps vs st hv m led ext s Q b st' hf H k
  dsimp only at hf
  cases el : Nat.beq ps.length xs.length with
  | false => rw [el] at hf; cases hf
  | true =>
    rw [el] at hf
    dsimp only at hf
    have hlen := Nat.eq_of_beq_eq_true el
    have hvl : vs.length = xs.length := hv.length.trans hlen
    unfold runF at hf
    cases e : fb (frmOf ps (blank nb)) st with
    | none => rw [e] at hf; cases hf
    | some q =>
      obtain ⟨fl, fr1, st1⟩ := q
      rw [e] at hf
      obtain ⟨A₀, base, outer, fenv, B, hA, hf1, hf2⟩ := V.B
      refine wpAny_call (callX_plain (env := fenv) B H.F H.N V.T.nolimit hA hf1 hf2 (H.F.keep _ _ (V.X _ _ ho)) rfl (codeRec_of (fun a o e => H.F.keep _ _ (V.X a o e)) hcd) (by have := V.dp; omega)
        (BindsTo.of_eq (hb vs hvl)) (fun y hy => hloc _ (List.of_mem_zip (show (y.1, y.2) ∈ xs.zip vs from hy)).1) (fun g L' h₁ FG F' N' B' st9 hlt => ?_) hcell hco hgen hk)
      have V' : Live G (FC.mk (c.A.deeper (envX qual scope L' f cdv [])) g L' (envX qual scope L' f cdv []) names [] [] []) d := by
        refine ⟨V.hh, hk, rfl, rfl, ⟨_, _, _, envX qual scope L' f cdv [], B', ?_, rfl, hk⟩, fun a o e => st9 _ _ (V.X a o e), V.T.keeps st9, ?_, ?_⟩
        · show c.A.frames.map _ = _
          rw [hA]; rfl
        · show c.A.depth + 1 + d < _
          have := V.dp; omega
        · show c.A.units + 3 + 8 * d + 100 < _
          have := V.un; omega
      have H' : SR (FC.mk (c.A.deeper (envX qual scope L' f cdv [])) g L' (envX qual scope L' f cdv []) names [] [] []) φ (frmOf ps (blank nb)) st (fun y => (xs.zip vs).reverse.lookup y) led ext h₁ := by
        refine ⟨F', N', H.nd, H.nx, H.os, fun i x p hx hp => ?_, (fun x k h => nomatch h), (fun p hp => nomatch hp), ⟨_, rfl⟩⟩
        have hp' := getF_frmOf (getF_blank nb) hp
        obtain ⟨v, h1, h2⟩ := hv.get hp'
        have hi : i < xs.length := by rw [← hlen]; exact (List.getElem?_eq_some_iff.mp hp').1
        have hx' : xs[i]? = some x := by
          have q := hn i xs[i] (by simp [hi])
          have : xs[i] = x := Option.some.inj (q.symm.trans hx)
          rw [← this]; simp [hi]
        exact ⟨v, zip_lookup hxs hvl hx' h1, h2⟩
      refine wpAny_noRaise ?_
      refine hbody _ _ _ V' _ _ _ _ _ _ { s with heap := h₁, toks := s.toks + (xs.zip vs).length } _ _ _ _ e H' fun φ' led' m' a h' tk' p1 H1 R1 => ?_
      refine leaveK_ H1.F H1.N fun F2 N2 => ?_
      have H2 : SR c φ' fr st1 m led' ext h' := ⟨F2, N2, H1.nd, H1.nx, H1.os, fun i x p h1 h2 => let ⟨v, q, r⟩ := H.fr i x p h1 h2; ⟨v, q, r.mono p1⟩, fun x i h => let ⟨a, q, r⟩ := H.ce x i h; ⟨a, q, p1.get r⟩, H.mu, H.ba.trans p1⟩
      have go : ∀ (p : PV) (v : Value), VR φ' p v → fin p st.1 st1 = some (b, st') → Q v { s with heap := h', toks := tk' } := by
        intro p v hp hq
        cases p with
        | ref kx => cases hq; obtain ⟨led2, H3⟩ := H2.finL kx st.1; exact k _ _ _ _ _ p1 H3 hp
        | int i => cases hq; obtain ⟨led2, H3⟩ := H2.gc st.1; exact k _ _ _ _ _ p1 H3 hp
        | bool i => cases hq; obtain ⟨led2, H3⟩ := H2.gc st.1; exact k _ _ _ _ _ p1 H3 hp
        | none => cases hq; obtain ⟨led2, H3⟩ := H2.gc st.1; exact k _ _ _ _ _ p1 H3 hp
      cases fl with
      | next =>
        have : a = .next := R1
        subst this
        exact go .none .none rfl hf
      | ret p =>
        obtain ⟨v, rfl, hp⟩ := R1
        exact go p v hp hf
end
end Mine

namespace Mine

/-! ## objects that the pure side does not see: iterators -/
section
variable {c : FC} {φ : List Addr} {fr : Frm} {st : Sto} {m : Str → Option Value} {led ext its its' : List (Addr × Obj)} {h h' : Heap}

theorem SR.grow (H : SR c φ fr st m led ext h) (hk : ∀ b o, h.get? b = some o → h'.get? b = some o) : SR c φ fr st m led ext h' :=
  H.keep (H.F.keeps hk) (H.N.grown hk)

theorem SR.add (H : SR c φ fr st m led ext h) (hk : ∀ b o, h.get? b = some o → h'.get? b = some o) {I : Addr} {oI : Obj} (hI : h'.get? I = some oI) (hz : h.objs.size ≤ I) : SR c φ fr st m led ((I, oI) :: ext) h' := by
  have hL : c.L < h.objs.size := H.F.ns.lt
  refine ⟨H.F.keeps hk, fun p hp => ?_, ?_, H.nx, H.os, H.fr, H.ce, fun p hp => .tail _ (H.mu p hp), H.ba⟩
  · rcases List.mem_append.mp hp with hp | hp
    · exact H.N.grown hk p (List.mem_append_left _ hp)
    · rcases List.mem_cons.mp hp with rfl | hp
      · refine ⟨hI, Nat.ne_of_gt (Nat.lt_of_lt_of_le hL hz), ?_⟩
        cases q : c.h₀.get? I with
        | none => rfl
        | some o =>
          have h1 := Heap.lt_size q
          have h2 := H.F.above
          exact absurd (Nat.lt_trans (Nat.lt_of_lt_of_le h1 h2) (Nat.lt_of_lt_of_le hL hz)) (Nat.lt_irrefl _)
      · exact H.N.grown hk p (List.mem_append_right _ hp)
  · have nd := H.nd
    rw [List.map_append, List.map_cons]
    rw [List.map_append] at nd
    have hb := H.below
    have hn : ∀ x ∈ led.map (·.1) ++ ext.map (·.1), x ≠ I := by
      intro x hx e
      rw [← List.map_append] at hx
      obtain ⟨p, hp, rfl⟩ := List.mem_map.mp hx
      have := hb p hp
      rw [e] at this
      exact absurd (Nat.lt_of_lt_of_le this hz) (Nat.lt_irrefl _)
    rw [List.nodup_append] at nd ⊢
    refine ⟨nd.1, List.nodup_cons.mpr ⟨fun q => hn I (List.mem_append_right _ q) rfl, nd.2.1⟩, fun a ha b hb2 => ?_⟩
    rcases List.mem_cons.mp hb2 with rfl | hb2
    · exact hn a (List.mem_append_left _ ha)
    · exact nd.2.2 a ha b hb2

theorem SR.moved (H : SR c φ fr st m led (its ++ ext) h) (hs : ∀ b o, b ∉ its.map (·.1) → h.get? b = some o → h'.get? b = some o) : Fr c.h₀ c.L h' m ∧ (∀ p ∈ led ++ ext, h'.get? p.1 = some p.2) := by
  have hn : ∀ a ∈ its.map (·.1), a ≠ c.L ∧ c.h₀.get? a = none := fun a ha => by
    obtain ⟨p, hp, rfl⟩ := List.mem_map.mp ha
    exact (H.N p (List.mem_append_right _ (List.mem_append_left _ hp))).2
  refine ⟨⟨H.F.ns.at' fun o e => hs _ _ (fun q => (hn _ q).1 rfl) e, fun b o e => hs b o (fun q => ?_) (H.F.keep b o e), H.F.above⟩, fun p hp => hs _ _ (fun q => ?_) ?_⟩
  · have := (hn _ q).2
    rw [e] at this; cases this
  · have nd := H.nd
    rw [List.map_append, List.map_append, List.nodup_append] at nd
    obtain ⟨_, nd2, nd3⟩ := nd
    rw [List.nodup_append] at nd2
    rcases List.mem_append.mp hp with hp | hp
    · exact nd3 p.1 (List.mem_map_of_mem hp) p.1 (List.mem_append_left _ q) rfl
    · exact nd2.2.2 p.1 q p.1 (List.mem_map_of_mem hp) rfl
  · rcases List.mem_append.mp hp with hp | hp
    · exact (H.N p (List.mem_append_left _ hp)).1
    · exact (H.N p (List.mem_append_right _ (List.mem_append_right _ hp))).1
theorem SR.chg (H : SR c φ fr st m led (its ++ ext) h) (hm : ∀ p ∈ c.must, p ∈ ext) (ha : its'.map (·.1) = its.map (·.1)) (hs : ∀ b o, b ∉ its.map (·.1) → h.get? b = some o → h'.get? b = some o) (hI : ∀ p ∈ its', h'.get? p.1 = some p.2) : SR c φ fr st m led (its' ++ ext) h' := by
  obtain ⟨F', K⟩ := H.moved hs
  refine ⟨F', fun p hp => ?_, ?_, H.nx, H.os, H.fr, H.ce, fun p hp => List.mem_append_right _ (hm p hp), H.ba⟩
  · rcases List.mem_append.mp hp with hp | hp
    · exact ⟨K p (List.mem_append_left _ hp), (H.N p (List.mem_append_left _ hp)).2⟩
    · rcases List.mem_append.mp hp with hp | hp
      · refine ⟨hI p hp, ?_⟩
        have : p.1 ∈ its.map (·.1) := by rw [← ha]; exact List.mem_map_of_mem hp
        obtain ⟨q, hq, e⟩ := List.mem_map.mp this
        rw [← e]
        exact (H.N q (List.mem_append_right _ (List.mem_append_left _ hq))).2
      · exact ⟨K p (List.mem_append_right _ hp), (H.N p (List.mem_append_right _ (List.mem_append_right _ hp))).2⟩
  · have nd := H.nd
    rw [List.map_append, List.map_append] at nd ⊢
    rw [ha]
    exact nd
theorem SR.drop (H : SR c φ fr st m led (its ++ ext) h) (hm : ∀ p ∈ c.must, p ∈ ext) (hs : ∀ b o, b ∉ its.map (·.1) → h.get? b = some o → h'.get? b = some o) : SR c φ fr st m led ext h' := by
  obtain ⟨F', K⟩ := H.moved hs
  refine ⟨F', fun p hp => ⟨K p hp, ?_⟩, ?_, H.nx, H.os, H.fr, H.ce, hm, H.ba⟩
  · rcases List.mem_append.mp hp with hp | hp
    · exact (H.N p (List.mem_append_left _ hp)).2
    · exact (H.N p (List.mem_append_right _ (List.mem_append_right _ hp))).2
  · have hs2 : (led ++ ext).Sublist (led ++ (its ++ ext)) := (List.Sublist.refl led).append (List.sublist_append_right its ext)
    exact (hs2.map _).nodup H.nd
end

/-! ## for -/
section
variable (prog : Program) (w : World)
/-- what stands behind an iterator: its place σ, the addresses' map, the iterator's objects, its own address -/
abbrev Place (σ : Type) := σ → List Addr → List (Addr × Obj) → Addr → Prop
def SimIter {σ : Type} (c : FC) (iter : Expr) (P : Place σ) (start : Frm → Sto → Option (σ × Sto)) : Prop :=
  ∀ (φ : List Addr) (fr : Frm) (st : Sto) (m : Str → Option Value) (led ext : List (Addr × Obj)) (s : Shared) (Q : Value → Shared → Prop) (x : σ) (st' : Sto), start fr st = some (x, st') → SR c φ fr st m led ext s.heap →
    (∀ φ' led' I its h' tk', Pre φ φ' → SR c φ' fr st' m led' (its ++ ext) h' → P x φ' its I → Q (.ref I) { s with heap := h', toks := tk' }) →
    wpAny (model prog w) c.A (eval iter c.env) (fun v s₁ => wpAny (model prog w) c.A (pyIter v) Q NoE s₁) NoE s
def SimNext {σ : Type} (c : FC) (target : Expr) (P : Place σ) (next : σ → Sto → Option (Option (PV × Sto × σ))) : Prop :=
  ∀ (φ : List Addr) (fr : Frm) (st : Sto) (m : Str → Option Value) (led ext its : List (Addr × Obj)) (s : Shared) (x : σ) (I : Addr) (r : Option (PV × Sto × σ)) (Qn : Shared → Prop) (Qs : Value → Shared → Prop), next x st = some r → SR c φ fr st m led (its ++ ext) s.heap → (∀ p ∈ c.must, p ∈ ext) → P x φ its I →
    (r = none → ∀ h' tk', SR c φ fr st m led ext h' → Qn { s with heap := h', toks := tk' }) →
    (∀ p st' x', r = some (p, st', x') → ∀ φ' led' its' v h' tk', Pre φ φ' → SR c φ' fr st' m led' (its' ++ ext) h' → P x' φ' its' I → VR φ' p v → Qs v { s with heap := h', toks := tk' }) →
    wpAny (model prog w) c.A (pyNext (.ref I)) (fun r s₁ => match r with
      | none => Qn s₁
      | some v => wpAny (model prog w) c.A (letOwnedTupleGo target (.ref I) v) (fun _ s₂ => Qs v s₂) NoE s₁) NoE s
end

noncomputable def forLoop {σ : Type} (next : σ → Sto → Option (Option (PV × Sto × σ))) (g : PG) (b : PS) : Nat → σ → PS := fun n =>
  @Nat.rec (fun _ => σ → PS) (fun _ _ _ => none) (fun _ ih x fr st => match next x st with
    | some none => some (.next, fr, st)
    | some (some (p, st1, x')) => (match g p fr st1 with
      | some (fr2, st2) => (match b fr2 st2 with
        | some (.next, fr3, st3) => ih x' fr3 st3
        | some (.ret q, fr3, st3) => some (.ret q, fr3, st3)
        | none => none)
      | none => none)
    | none => none) n
noncomputable def sFor {σ : Type} (start : Frm → Sto → Option (σ × Sto)) (next : σ → Sto → Option (Option (PV × Sto × σ))) (g : PG) (b : PS) (n : Nat) : PS := fun fr st => match start fr st with
  | some (x, st1) => forLoop next g b n x fr st1
  | none => none

section
variable {prog : Program} {w : World} {c : FC}
theorem simS_for {σ : Type} {target iter : Expr} {body : List Stmt} {pos : Pos} {P : Place σ} {start : Frm → Sto → Option (σ × Sto)} {next : σ → Sto → Option (Option (PV × Sto × σ))} {g : PG} {b : PS} (n : Nat)
    (hP : ∀ x φ φ' its I, Pre φ φ' → P x φ its I → P x φ' its I)
    (hI : SimIter prog w c iter P start) (hN : SimNext prog w c target P next) (hg : SimG prog w c (assign target c.env) g) (hb : SimS prog w c (execs body c.env) b)
    (hs : ∀ x, foldedSetIterable iter c.env x = pure x) : SimS prog w c (exec (.For target iter body [] pos) c.env) (sFor start next g b n) := by
  intro φ fr st m led ext s Q fl fr' st' hf H k
  unfold sFor at hf
  cases e : start fr st with
  | none => rw [e] at hf; cases hf
  | some q =>
    obtain ⟨x, st1⟩ := q
    rw [e] at hf
    dsimp only at hf
    refine wpAny_For (hI _ _ _ _ _ _ _ _ _ _ e H fun φ1 led1 I its h1 tk1 p1 H1 R1 => ?_) hs
    refine codeAny_forLoop_any (fun n s' => ∃ φ2 fr2 st2 m2 led2 its2 x2 h2 tk2, s' = { s with heap := h2, toks := tk2 } ∧ Pre φ φ2 ∧ SR c φ2 fr2 st2 m2 led2 (its2 ++ ext) h2 ∧ P x2 φ2 its2 I ∧ forLoop next g b n x2 fr2 st2 = some (fl, fr', st')) ?_ n
      ⟨φ1, fr, st1, m, led1, its, x, h1, tk1, rfl, p1, H1, R1, hf⟩
    rintro n s' ⟨φ2, fr2, st2, m2, led2, its2, x2, h2, tk2, rfl, p2, H2, R2, e2⟩
    cases n with
    | zero => cases e2
    | succ n =>
      have e3 : (match next x2 st2 with
        | some none => some (PF.next, fr2, st2)
        | some (some (p, st1, x')) => (match g p fr2 st1 with
          | some (fr2, st2) => (match b fr2 st2 with
            | some (.next, fr3, st3) => forLoop next g b n x' fr3 st3
            | some (.ret q, fr3, st3) => some (.ret q, fr3, st3)
            | none => none)
          | none => none)
        | none => none) = some (fl, fr', st') := e2
      cases e4 : next x2 st2 with
      | none => rw [e4] at e3; cases e3
      | some r =>
        rw [e4] at e3
        refine wpAny_noRaise ?_
        refine wpAny_mono (hN _ _ _ _ _ _ _ _ _ _ _
          (fun s₁ => wpAny (model prog w) c.A (execs [] c.env) (fun f s₃ => (match (Except.ok f : Result) with | .ok f => Q f s₃ | .error e => cameBackBy (model prog w) c.A c.env NoE e s₃)) (notedBy (model prog w) c.A c.env fun e s' => cameBackBy (model prog w) c.A c.env NoE e s') s₁)
          (fun v s₁' => wpAny (model prog w) c.A (assign target c.env v) (fun _ s₂ => wpAny (model prog w) c.A (execs body c.env) (fun f s₃ => match f with
            | .next | .cont => ∃ m, m < n + 1 ∧ (∃ φ2 fr2 st2 m2 led2 its2 x2 h2 tk2, s₃ = { s with heap := h2, toks := tk2 } ∧ Pre φ φ2 ∧ SR c φ2 fr2 st2 m2 led2 (its2 ++ ext) h2 ∧ P x2 φ2 its2 I ∧ forLoop next g b m x2 fr2 st2 = some (fl, fr', st'))
            | .brk => Q .next s₃
            | .ret v => Q (.ret v) s₃) (notedBy (model prog w) c.A c.env fun e s' => cameBackBy (model prog w) c.A c.env NoE e s') s₂) (notedBy (model prog w) c.A c.env fun e s' => cameBackBy (model prog w) c.A c.env NoE e s') s₁')
          e4 H2 H.mu R2 ?_ ?_) ?_ (fun _ _ z => z.elim)
        · rintro rfl h' tk' H3
          cases e3
          exact wpAny_execs_nil (k _ _ _ _ _ _ p2 H3 rfl)
        · rintro p st3 x3 rfl φ3 led3 its3 v h3 tk3 p3 H3 R3 hv
          dsimp only at e3
          cases e5 : g p fr2 st3 with
          | none => rw [e5] at e3; cases e3
          | some q =>
            obtain ⟨fr4, st4⟩ := q
            rw [e5] at e3
            dsimp only at e3
            refine wpAny_noRaise (hg _ _ _ _ _ _ _ _ _ _ _ _ hv e5 H3 fun m4 led4 h4 tk4 H4 => ?_)
            cases e6 : b fr4 st4 with
            | none => rw [e6] at e3; cases e3
            | some q =>
              obtain ⟨f5, fr5, st5⟩ := q
              rw [e6] at e3
              refine wpAny_noRaise (hb _ _ _ _ _ _ _ _ _ _ _ e6 H4 fun φ5 led5 m5 a h5 tk5 p5 H5 R5 => ?_)
              cases f5 with
              | next =>
                have : a = .next := R5
                subst this
                exact ⟨n, Nat.lt_succ_self n, φ5, fr5, st5, m5, led5, its3, x3, h5, tk5, rfl, p2.trans (p3.trans p5), H5, hP _ _ _ _ _ p5 R3, e3⟩
              | ret p =>
                cases e3
                obtain ⟨v, rfl, hv⟩ := R5
                exact k _ _ _ _ _ _ (p2.trans (p3.trans p5)) (H5.drop (its := its3) H.mu fun _ _ _ e => e) ⟨v, rfl, hv⟩
        · intro r s₁ h
          cases r with
          | none => exact h
          | some v => exact wpAny_noRaise h

/-- a target (a, b) -/
noncomputable def gUnp (gs : List PG) : PG := fun p fr st => match p with
  | .ref k => (match getO k st.2 with
    | some (.tup ps) => (match Nat.beq gs.length ps.length with
      | true => gAll gs ps fr st
      | false => none)
    | _ => none)
  | _ => none
theorem simG_tuple {elts : List Expr} {k1 : Nat} {tpos : Pos} {gs : List PG} (hh : c.A.handled = none) (hg : SimGs prog w c ((assignEach elts c.env).map (·.2)) gs) (hstar : (assignEach elts c.env).findIdx? (·.1) = none)
    (hlen : (assignEach elts c.env).length = gs.length) : SimG prog w c (assign (.Tuple elts k1 tpos) c.env) (gUnp gs) := by
  intro φ fr st p v fr' st' m led ext s Q hv hg' H k
  unfold gUnp at hg'
  cases p with
  | ref kx =>
    dsimp only at hg'
    cases e1 : getO kx st.2 with
    | none => rw [e1] at hg'; cases hg'
    | some po =>
      rw [e1] at hg'
      cases po with
      | tup ps =>
        dsimp only at hg'
        cases e2 : Nat.beq gs.length ps.length with
        | false => rw [e2] at hg'; cases hg'
        | true =>
          rw [e2] at hg'
          obtain ⟨a, q1, rfl⟩ := hv
          obtain ⟨a', vs, r1, r2, r3⟩ := H.tup e1
          have : a' = a := Option.some.inj (r1.symm.trans q1)
          subst this
          have hl := Nat.eq_of_beq_eq_true e2
          refine unpackN_ H.F H.N r2 hh (by rw [hlen, hl, List.size_toArray, r3.length]) hstar fun h2 F2 N2 => ?_
          exact sim_inOrder hg r3 hg' (H.keep F2 N2) k
      | _ => cases hg'
  | _ => cases hg'
end

/-! ### over a list -/
def PlL : Place (Nat × Nat) := fun x φ its I => ∃ a o, φ[x.1]? = some a ∧ its = [(I, o)] ∧ o.cls = .type "list_iterator" ∧ o.data = .fields #[.ref a, .int x.2 0]
noncomputable def startL (e : PE) : Frm → Sto → Option ((Nat × Nat) × Sto) := fun fr st => match e fr st with
  | some (.ref k, st1) => (match getO k st1.2 with
    | some (.list _) => some ((k, 0), st1)
    | _ => none)
  | _ => none
noncomputable def nextL : Nat × Nat → Sto → Option (Option (PV × Sto × (Nat × Nat))) := fun x st => match getO x.1 st.2 with
  | some (.list xs) => (match nth xs x.2 with
    | some p => some (some (p, st, (x.1, Nat.succ x.2)))
    | none => some none)
  | _ => none
theorem PlL_mono : ∀ x φ φ' its I, Pre φ φ' → PlL x φ its I → PlL x φ' its I := fun _ _ _ _ _ p ⟨a, o, h1, h2⟩ => ⟨a, o, p.get h1, h2⟩

section
variable {prog : Program} {w : World} {c : FC}
theorem simIter_list {iter : Expr} {e : PE} (he : SimE prog w c iter e) : SimIter prog w c iter PlL (startL e) := by
  intro φ fr st m led ext s Q x st' hf H k
  unfold startL at hf
  cases e1 : e fr st with
  | none => rw [e1] at hf; cases hf
  | some q =>
    obtain ⟨p, st1⟩ := q
    rw [e1] at hf
    cases p with
    | ref kx =>
      dsimp only at hf
      cases e2 : getO kx st1.2 with
      | none => rw [e2] at hf; cases hf
      | some po =>
        rw [e2] at hf
        cases po with
        | list xs =>
          cases hf
          refine he _ _ _ _ _ _ _ _ _ _ e1 H fun φ1 led1 v h1 tk1 p1 H1 R1 => ?_
          obtain ⟨a, q1, rfl⟩ := R1
          obtain ⟨a', vs, n, r1, r2, r3, r4⟩ := H1.list e2
          have : a' = a := Option.some.inj (r1.symm.trans q1)
          subst this
          refine wpAny_pyIter_list r3 ?_
          exact k φ1 led1 h1.objs.size [(h1.objs.size, _)] _ _ p1 (H1.add (fun b o e => Heap.get?_push_of_some _ e) (Heap.get?_push_size _ rfl) (Nat.le_refl _)) ⟨a', _, q1, rfl, rfl, rfl⟩
        | _ => cases hf
    | _ => cases hf
theorem simNext_list {target : Expr} (hh : c.A.handled = none) (ht : ∀ (I : Addr) (o : Obj) (a : Addr) (i : Nat) (v : Value) (s : Shared) (Q : Unit → Shared → Prop), s.heap.get? I = some o → o.cls = .type "list_iterator" → o.data = .fields #[.ref a, .int i 0] → Q () s → wpAny (model prog w) c.A (letOwnedTupleGo target (.ref I) v) Q NoE s) :
    SimNext prog w c target PlL nextL := by
  intro φ fr st m led ext its s x I r Qn Qs hf H hm R kn ks
  obtain ⟨a, o, h1, rfl, h2, h3⟩ := R
  unfold nextL at hf
  cases e2 : getO x.1 st.2 with
  | none => rw [e2] at hf; cases hf
  | some po =>
    rw [e2] at hf
    cases po with
    | list xs =>
      dsimp only at hf
      obtain ⟨a', vs, n, r1, r2, r3, r4⟩ := H.list e2
      have : a' = a := Option.some.inj (r1.symm.trans h1)
      subst this
      have hI : s.heap.get? I = some o := (H.N (I, o) (List.mem_append_right _ (.head _))).1
      have hit : s.heap.IsListIter I a' x.2 := ⟨o, hI, h2, h3⟩
      rw [nth_eq] at hf
      cases e3 : xs[x.2]? with
      | none =>
        rw [e3] at hf
        cases hf
        have hv : vs.toArray[x.2]? = none := by
          rw [List.getElem?_eq_none_iff] at e3
          have := r4.length
          simp
          omega
        refine wpAny_pyNext_list_end hh hit r3 hv fun h' he => ?_
        exact kn rfl h' s.toks (H.drop (its := [(I, o)]) hm fun b o' hb e => he b o' (fun q => hb (by simp [q])) e)
      | some p =>
        rw [e3] at hf
        cases hf
        obtain ⟨v, q1, q2⟩ := r4.get e3
        refine wpAny_pyNext_list_item hit r3 (x := v) (by simpa using q1) fun h' hit' hs' => ?_
        obtain ⟨o', i1, i2, i3⟩ := hit'
        refine ht I o' a' (x.2 + 1) v _ _ i1 i2 i3 ?_
        exact ks p st (x.1, x.2 + 1) rfl φ led [(I, o')] v h' s.toks (Pre.refl _) (H.chg (its := [(I, o)]) hm rfl (fun b o1 hb e => hs'.extBut b o1 (fun q => hb (by simp [q])) e) (fun p hp => by rw [List.mem_singleton.mp hp]; exact i1)) ⟨a', o', h1, rfl, i2, i3⟩ q2
    | _ => cases hf
theorem letGo_name {x : Str} {px : Pos} (I : Addr) (o : Obj) (a : Addr) (i : Nat) (v : Value) (s : Shared) (Q : Unit → Shared → Prop) (_ : s.heap.get? I = some o) (_ : o.cls = .type "list_iterator") (_ : o.data = .fields #[.ref a, .int i 0]) (h : Q () s) :
    wpAny (model prog w) c.A (letOwnedTupleGo (.Name x px) (.ref I) v) Q NoE s := wpAny_pure h
theorem letGo_tuple {elts : List Expr} {k : Nat} {px : Pos} (I : Addr) (o : Obj) (a : Addr) (i : Nat) (v : Value) (s : Shared) (Q : Unit → Shared → Prop) (h1 : s.heap.get? I = some o) (h2 : o.cls = .type "list_iterator") (h3 : o.data = .fields #[.ref a, .int i 0]) (h : Q () s) :
    wpAny (model prog w) c.A (letOwnedTupleGo (.Tuple elts k px) (.ref I) v) Q NoE s := by
  unfold letOwnedTupleGo
  cases v with
  | ref b =>
    refine wpAny_bind (wpAny_load h1 ?_)
    rw [h2, h3]
    exact wpAny_pure h
  | _ => exact wpAny_pure h
end

/-! ### over a range -/
def PlR (step : Int) : Place (Int × Nat) := fun x _ its I => its = [(I, { cls := .type "range_iterator", dict := none, data := .fields #[rawInt x.1, rawInt x.2, rawInt step], slots := #[] })]
noncomputable def nextR (step : Int) : Int × Nat → Sto → Option (Option (PV × Sto × (Int × Nat))) := fun x st => match x.2 with
  | 0 => some none
  | n + 1 => some (some (.int x.1, st, (Int.add x.1 step, n)))
/-- range over three ints -/
noncomputable def startR (step : Int) (es : Frm → Sto → Option (List PV × Sto)) : Frm → Sto → Option ((Int × Nat) × Sto) := fun fr st => match es fr st with
  | some ([.int a, .int b, .int c], st1) => (match Z.eqB c step with
    | true => (match Builtin.Range.small a b c with
      | true => (match Builtin.Range.rangeSize a b c with
        | .ofNat n => some ((a, n), st1)
        | .negSucc _ => none)
      | false => none)
    | false => none)
  | some ([.int a, .int b], st1) => (match Z.eqB 1 step with
    | true => (match Builtin.Range.small a b 1 with
      | true => (match Builtin.Range.rangeSize a b 1 with
        | .ofNat n => some ((a, n), st1)
        | .negSucc _ => none)
      | false => none)
    | false => none)
  | some ([.int b], st1) => (match Z.eqB 1 step with
    | true => (match Builtin.Range.small 0 b 1 with
      | true => (match Builtin.Range.rangeSize 0 b 1 with
        | .ofNat n => some ((0, n), st1)
        | .negSucc _ => none)
      | false => none)
    | false => none)
  | _ => none
theorem PlR_mono {step : Int} : ∀ x φ φ' its I, Pre φ φ' → PlR step x φ its I → PlR step x φ' its I := fun _ _ _ _ _ _ h => h
theorem startR_some {step : Int} {es : Frm → Sto → Option (List PV × Sto)} {fr : Frm} {st : Sto} {r : (Int × Nat) × Sto} (h : startR step es fr st = some r) :
    ∃ ps st1 a b n, es fr st = some (ps, st1) ∧ Builtin.Range.small a b step = true ∧ Builtin.Range.rangeSize a b step = ((n : Nat) : Int) ∧ r = ((a, n), st1) ∧
      (ps = [.int a, .int b, .int step] ∨ (ps = [.int a, .int b] ∧ step = 1) ∨ (ps = [.int b] ∧ step = 1 ∧ a = 0)) := by
  unfold startR at h
  split at h
  · rename_i a b c st1 e
    cases e1 : Z.eqB c step with
    | false => rw [e1] at h; cases h
    | true =>
      rw [e1] at h
      dsimp only at h
      have := (Z.eqB_iff _ _).mp e1
      subst this
      cases e2 : Builtin.Range.small a b c with
      | false => rw [e2] at h; cases h
      | true =>
        rw [e2] at h
        dsimp only at h
        cases e3 : Builtin.Range.rangeSize a b c with
        | negSucc n => rw [e3] at h; cases h
        | ofNat n => rw [e3] at h; cases h; exact ⟨_, _, a, b, n, e, e2, e3, rfl, .inl rfl⟩
  · rename_i a b st1 e
    cases e1 : Z.eqB 1 step with
    | false => rw [e1] at h; cases h
    | true =>
      rw [e1] at h
      dsimp only at h
      have := (Z.eqB_iff _ _).mp e1
      subst this
      cases e2 : Builtin.Range.small a b 1 with
      | false => rw [e2] at h; cases h
      | true =>
        rw [e2] at h
        dsimp only at h
        cases e3 : Builtin.Range.rangeSize a b 1 with
        | negSucc n => rw [e3] at h; cases h
        | ofNat n => rw [e3] at h; cases h; exact ⟨_, _, a, b, n, e, e2, e3, rfl, .inr (.inl ⟨rfl, rfl⟩)⟩
  · rename_i b st1 e
    cases e1 : Z.eqB 1 step with
    | false => rw [e1] at h; cases h
    | true =>
      rw [e1] at h
      dsimp only at h
      have := (Z.eqB_iff _ _).mp e1
      subst this
      cases e2 : Builtin.Range.small 0 b 1 with
      | false => rw [e2] at h; cases h
      | true =>
        rw [e2] at h
        dsimp only at h
        cases e3 : Builtin.Range.rangeSize 0 b 1 with
        | negSucc n => rw [e3] at h; cases h
        | ofNat n => rw [e3] at h; cases h; exact ⟨_, _, 0, b, n, e, e2, e3, rfl, .inr (.inr ⟨rfl, rfl, rfl⟩)⟩
  · cases h

section
variable {prog : Program} {w : World} {c : FC} {G : GC} {d : Nat}
theorem vrs1 {φ : List Addr} {a : PV} {vs : List Value} (h : VRs φ [a] vs) : ∃ x, vs = [x] ∧ VR φ a x := by
  cases h with | cons h1 r => cases r; exact ⟨_, rfl, h1⟩
theorem vrs3 {φ : List Addr} {a b c : PV} {vs : List Value} (h : VRs φ [a, b, c] vs) : ∃ x y z, vs = [x, y, z] ∧ VR φ a x ∧ VR φ b y ∧ VR φ c z := by
  cases h with | cons h1 r => cases r with | cons h2 r => cases r with | cons h3 r => cases r; exact ⟨_, _, _, rfl, h1, h2, h3⟩

theorem simIter_range {px pos : Pos} {e : Expr} {es : List Expr} {f : Frm → Sto → Option (List PV × Sto)} (step : Int) (hst : step = 1 ∨ step = -1) (V : Live G c d)
    (hx : nsIn G.K mainGlobals (Str.ofString "range") = some none) (hk : c.env.kindOf (Str.ofString "range") = some .globalImplicit)
    (hl : SimL prog w c pos (e :: es) f) (he : starEach (e :: es) c.env = (false, eval e c.env) :: starEach es c.env) (ha : ((backTo pos (starEach es c.env)).any fun x => x.fst) = false)
    (hc : eval ((Expr.Name (Str.ofString "range") px).Call (e :: es) [] pos) c.env = (do let f ← eval (.Name (Str.ofString "range") px) c.env; callWith pos f [] (backTo pos (starEach (e :: es) c.env)) (backToKw pos (keywordEach [] c.env)))) :
    SimIter prog w c (.Call (.Name (Str.ofString "range") px) (e :: es) [] pos) (PlR step) (startR step f) := by
  intro φ fr st m led ext s Q x st' hf H k
  obtain ⟨ps, st1, a, b, n, e1, e2, e3, e4, e5⟩ := startR_some hf
  cases e4
  refine Call_ (V.nameB H.F hx PyProof.Rows.boot_range (by decide) ?_ hk (by decide)) hc
  refine PyProof.Rows.callWith_type1 (hl _ _ _ _ _ _ _ _ _ _ e1 H fun φ1 led1 vs h1 tk1 p1 H1 R1 => ?_) he ha
  have go : ∀ h' tk', (∀ b o, h1.get? b = some o → h'.get? b = some o) → (∃ t u v, IsRange h' h1.objs.size a b step t u v) → wpAny (model prog w) c.A (pyIter (.ref h1.objs.size)) Q NoE { s with heap := h', toks := tk' } := by
    rintro h' tk' hk' ⟨t, u, v, hr⟩
    refine wpAny_pyIter_range hr e2 ?_
    have H2 := H1.grow hk'
    have e6 := e3
    rw [e6]
    exact k φ1 led1 h'.objs.size [(h'.objs.size, _)] _ _ p1 (H2.add (fun b o e => Heap.get?_push_of_some _ e) (Heap.get?_push_size _ rfl) (Nat.le_refl _)) rfl
  rcases e5 with rfl | ⟨rfl, rfl⟩ | ⟨rfl, rfl, rfl⟩
  · obtain ⟨x, y, z, rfl, ⟨t, rfl⟩, ⟨u, rfl⟩, ⟨v, rfl⟩⟩ := vrs3 R1
    refine range3_rows H1.F H1.N (by rcases hst with rfl | rfl <;> decide) (fun h' tk' t1 u1 v1 hr F' N' hk' => go h' tk' hk' ⟨t1, u1, v1, hr⟩) (.inl (PyProof.noPylong_small (by rcases hst with rfl | rfl <;> decide)))
  · obtain ⟨t, u, rfl⟩ := two_ints R1
    exact range2_rows H1.F H1.N (fun h' tk' t1 u1 v1 hr F' N' hk' => go h' tk' hk' ⟨t1, u1, v1, hr⟩)
  · obtain ⟨x, rfl, t, rfl⟩ := vrs1 R1
    exact range1_rows H1.F H1.N (fun h' tk' t1 u1 v1 hr F' N' hk' => go h' tk' hk' ⟨t1, u1, v1, hr⟩)

theorem simNext_range {x : Str} {px : Pos} {step : Int} (hh : c.A.handled = none) : SimNext prog w c (.Name x px) (PlR step) (nextR step) := by
  intro φ fr st m led ext its s y I r Qn Qs hf H hm R kn ks
  obtain ⟨z, n⟩ := y
  have R' : its = _ := R
  subst R'
  have hI := (H.N (I, _) (List.mem_append_right _ (.head _))).1
  cases n with
  | zero =>
    cases hf
    refine wpAny_pyNext_range_end hh hI (Int.le_refl _) fun h' he => ?_
    exact kn rfl h' s.toks (H.drop (its := [(I, _)]) hm fun b o' hb e => he b o' (fun q => hb (by simp [q])) e)
  | succ n =>
    cases hf
    refine wpAny_pyNext_range_item hI (by show (0 : Int) < ((n + 1 : Nat) : Int); omega) fun h' hi hs' => ?_
    refine wpAny_pure ?_
    have e : (((n + 1 : Nat) : Int) - 1) = (n : Int) := by omega
    rw [e] at hi
    have H2 := H.chg (its' := [(I, { cls := .type "range_iterator", dict := none, data := .fields #[rawInt (z + step), rawInt n, rawInt step], slots := #[] })]) (h' := h') hm rfl (fun b o1 hb e => hs'.extBut b o1 (fun q => hb (by simp [q])) e) (fun p hp => by rw [List.mem_singleton.mp hp]; exact hi)
    exact ks _ st (z + step, n) rfl φ led _ _ h' (s.toks + 1) (Pre.refl _) H2 rfl ⟨_, rfl⟩
end
end Mine

namespace Mine

/-! ## sum, sorted, [x] * n, lists of pairs -/
noncomputable def sumI (xs : List Int) : Int := @List.rec Int (fun _ => Int) 0 (fun x _ ih => Int.add x ih) xs
theorem sumI_eq : ∀ xs : List Int, sumI xs = xs.sum
  | [] => rfl
  | x :: xs => by
    have h : sumI (x :: xs) = x + sumI xs := rfl
    rw [h, sumI_eq xs, List.sum_cons]
noncomputable def insI (a : Int) (xs : List Int) : List Int := @List.rec Int (fun _ => List Int) [a] (fun x r ih => match Z.leB a x with | true => a :: x :: r | false => x :: ih) xs
noncomputable def sortI (xs : List Int) : List Int := @List.rec Int (fun _ => List Int) [] (fun x _ ih => insI x ih) xs
theorem insI_perm (a : Int) : ∀ xs : List Int, (insI a xs).Perm (a :: xs)
  | [] => .refl _
  | x :: xs => by
    have h : insI a (x :: xs) = (match Z.leB a x with | true => a :: x :: xs | false => x :: insI a xs) := rfl
    rw [h]
    cases Z.leB a x with
    | true => exact .refl _
    | false => exact ((insI_perm a xs).cons x).trans (.swap a x xs)
theorem insI_sorted (a : Int) : ∀ xs : List Int, xs.Pairwise (· ≤ ·) → (insI a xs).Pairwise (· ≤ ·)
  | [], _ => by simp [insI]
  | x :: xs, hp => by
    have h : insI a (x :: xs) = (match Z.leB a x with | true => a :: x :: xs | false => x :: insI a xs) := rfl
    rw [h]
    rw [List.pairwise_cons] at hp
    cases e : Z.leB a x with
    | true =>
      have hl := (Z.leB_iff _ _).mp e
      refine List.pairwise_cons.mpr ⟨fun y hy => ?_, List.pairwise_cons.mpr hp⟩
      rcases List.mem_cons.mp hy with rfl | hy
      · exact hl
      · exact Int.le_trans hl (hp.1 y hy)
    | false =>
      have hl : x ≤ a := by
        have : ¬ a ≤ x := fun q => by rw [(Z.leB_iff a x).mpr q] at e; cases e
        omega
      refine List.pairwise_cons.mpr ⟨fun y hy => ?_, insI_sorted a xs hp.2⟩
      rcases List.mem_cons.mp ((insI_perm a xs).mem_iff.mp hy) with rfl | hy
      · exact hl
      · exact hp.1 y hy
theorem sortI_perm : ∀ xs : List Int, (sortI xs).Perm xs
  | [] => .refl _
  | x :: xs => (insI_perm x (sortI xs)).trans ((sortI_perm xs).cons x)
theorem sortI_sorted : ∀ xs : List Int, (sortI xs).Pairwise (· ≤ ·)
  | [] => .nil
  | x :: xs => insI_sorted x _ (sortI_sorted xs)

noncomputable def ofInts (ns : List Int) : List PV := @List.rec Int (fun _ => List PV) [] (fun n _ ih => .int n :: ih) ns
theorem ofInts_vrs {φ : List Addr} : ∀ {vs : List Value} {ns : List Int}, IntsAre vs ns → VRs φ (ofInts ns) vs
  | _, _, .nil => .nil
  | _, _, .cons k t r => .cons ⟨t, rfl⟩ (ofInts_vrs r)
noncomputable def sumF : List PV → Sto → Option (PV × Sto) := fun ps st => match ps with
  | [p] => (match intsAt p st with
    | some ns => some (.int (sumI ns), st)
    | none => none)
  | _ => none
noncomputable def sortF : List PV → Sto → Option (PV × Sto) := fun ps st => match ps with
  | [p] => (match intsAt p st with
    | some ns => (match Nat.blt ns.length 64 with
      | true => allocF (.list (ofInts (sortI ns))) st
      | false => none)
    | none => none)
  | _ => none
noncomputable def repl (p : PV) (n : Nat) : List PV := @Nat.rec (fun _ => List PV) [] (fun _ ih => p :: ih) n
/-- [x] * n -/
noncomputable def mulL : PV → PV → Sto → Option (PV × Sto) := fun x y st => match x with
  | .ref k => (match getO k st.2 with
    | some (.list [p]) => (match y with
      | .int (.ofNat n) => (match Nat.ble n 1000 with | true => allocF (.list (repl p n)) st | false => none)
      | _ => none)
    | _ => none)
  | _ => none

section
variable {prog : Program} {w : World} {c : FC}
theorem simF_sum (hh : c.A.handled = none) : SimF prog w c (.builtin "sum") sumF := by
  intro φ fr ps vs st hv m led ext s Q b st' hf H k
  unfold sumF at hf
  split at hf
  · rename_i p
    cases e : intsAt p st with
    | none => rw [e] at hf; cases hf
    | some ns =>
      rw [e] at hf
      cases hf
      obtain ⟨v, rfl, hv1⟩ := vrs1 hv
      obtain ⟨a, us, rfl, h1, h2⟩ := H.ints e hv1
      refine sumK hh H.F H.N h1 h2 fun h' tk t' F' N' => k _ _ _ _ _ (Pre.refl _) (H.keep F' N') ⟨t', ?_⟩
      rw [sumI_eq]
  · cases hf
theorem simF_sorted : SimF prog w c (.builtin "sorted") sortF := by
  intro φ fr ps vs st hv m led ext s Q b st' hf H k
  unfold sortF at hf
  split at hf
  · rename_i p
    cases e : intsAt p st with
    | none => rw [e] at hf; cases hf
    | some ns =>
      rw [e] at hf
      dsimp only at hf
      cases e1 : Nat.blt ns.length 64 with
      | false => rw [e1] at hf; cases hf
      | true =>
        rw [e1] at hf
        obtain ⟨rfl, rfl⟩ := allocF_some hf
        obtain ⟨v, rfl, hv1⟩ := vrs1 hv
        obtain ⟨a, us, rfl, h1, h2⟩ := H.ints e hv1
        have hlt : ns.length < 64 := Nat.le_of_ble_eq_true e1
        refine kso_sorted H.F H.N h1 h2 hlt fun D vs' ns' cc h' F' N' hl hi _ hp hs _ => ?_
        have : ns' = sortI ns := ksm_same (hp.trans (sortI_perm ns).symm) hs (sortI_sorted ns)
        subst this
        exact k _ _ _ _ _ (Pre.snoc φ D) (H.push F' N' hl ⟨vs', cc, rfl, ofInts_vrs hi⟩) ⟨D, by rw [H.nx]; simp, rfl⟩
  · cases hf

theorem repl_foldl (v : Value) : ∀ (n : Nat) (acc : Array Value), List.foldl (fun x1 x2 => x1 ++ x2) acc (List.replicate n #[v]) = acc ++ (List.replicate n v).toArray
  | 0, acc => by simp
  | n + 1, acc => by
    rw [List.replicate_succ, List.foldl_cons, repl_foldl v n, List.replicate_succ]
    apply Array.toList_inj.mp
    simp
theorem repl_vrs {φ : List Addr} {p : PV} {v : Value} (h : VR φ p v) : ∀ n, VRs φ (repl p n) (List.replicate n v)
  | 0 => .nil
  | n + 1 => .cons h (repl_vrs h n)
theorem simO_mulL : SimO2 prog w c (binaryOp .Mult) mulL := by
  intro φ fr x y vx vy st hx hy m led ext s Q b st' hf H k
  unfold mulL at hf
  cases x with
  | ref kx =>
    dsimp only at hf
    cases e : getO kx st.2 with
    | none => rw [e] at hf; cases hf
    | some po =>
      rw [e] at hf
      split at hf
      · rename_i p heq
        cases heq
        split at hf
        · rename_i n
          cases e1 : Nat.ble n 1000 with
          | false => rw [e1] at hf; cases hf
          | true =>
            rw [e1] at hf
            obtain ⟨rfl, rfl⟩ := allocF_some hf
            have hn := Nat.le_of_ble_eq_true e1
            obtain ⟨a, h1, rfl⟩ := hx
            obtain ⟨t, rfl⟩ := hy
            obtain ⟨a', us, cnt, q1, q2, q3, q4⟩ := H.list e
            have : a' = a := Option.some.inj (q1.symm.trans h1)
            subst this
            obtain ⟨v, rfl, hv⟩ := vrs1 q4
            refine mul_list (items := #[v]) (k := cnt) (x := (n : Int)) H.F H.N (H.N _ q2).1 (by omega) (by omega) (by simp; omega) fun h' F' N' => ?_
            refine k _ _ _ _ _ (Pre.snoc φ s.heap.objs.size) (H.push F' N' H.below ⟨List.replicate n v, 0, ?_, (repl_vrs hv n).mono (Pre.snoc φ _)⟩) ⟨_, by rw [H.nx]; simp, rfl⟩
            have : (if (#[v] : Array Value).isEmpty = true then 0 else ((n : Int)).toNat) = n := by simp
            rw [this, repl_foldl]
            simp
        · cases hf
      · cases hf
  | _ => cases hf
end

noncomputable def pairAt (v : PV) (os : Objs) : Option (Int × Int) := match v with
  | .ref k => (match getO k os with
    | some (.tup [.int a, .int b]) => some (a, b)
    | _ => none)
  | _ => none
noncomputable def toPairs (os : Objs) : List PV → Option (List (Int × Int)) := fun xs =>
  @List.rec PV (fun _ => Option (List (Int × Int))) (some []) (fun x _ ih => match pairAt x os with | some p => (match ih with | some r => some (p :: r) | none => none) | none => none) xs
noncomputable def pairsAt (v : PV) (st : Sto) : Option (List (Int × Int)) := match v with
  | .ref k => (match getO k st.2 with
    | some (.list xs) => toPairs st.2 xs
    | _ => none)
  | _ => none
noncomputable def eqPs : List (Int × Int) → List (Int × Int) → Bool := fun xs =>
  @List.rec (Int × Int) (fun _ => List (Int × Int) → Bool) (fun ys => match ys with | [] => true | _ :: _ => false) (fun x _ ih ys => match ys with | [] => false | y :: r => (match Z.eqB x.1 y.1 with | true => (match Z.eqB x.2 y.2 with | true => ih r | false => false) | false => false)) xs
noncomputable def neP : PV → PV → Sto → Option (PV × Sto) := fun x y st =>
  match pairsAt x st with
  | some a => (match pairsAt y st with
    | some b => some (.bool (!(eqPs a b)), st)
    | none => none)
  | none => none

def pd (p : Int × Int) : PyData := .tuple [.int p.1, .int p.2]
theorem eqv_pairs : ∀ xs ys : List (Int × Int), PyData.eqvAll (xs.map pd) (ys.map pd) = eqPs xs ys
  | [], [] => by simp [PyData.eqvAll, eqPs]
  | [], _ :: _ => by simp [PyData.eqvAll, eqPs]
  | _ :: _, [] => by simp [PyData.eqvAll, eqPs]
  | x :: xs, y :: ys => by
    have h : eqPs (x :: xs) (y :: ys) = (match Z.eqB x.1 y.1 with | true => (match Z.eqB x.2 y.2 with | true => eqPs xs ys | false => false) | false => false) := rfl
    rw [h, List.map_cons, List.map_cons, PyData.eqvAll, eqv_pairs xs ys, eqB_eq, eqB_eq]
    simp only [pd, PyData.eqv, PyData.eqvAll, Bool.and_true]
    cases (x.1 == y.1) <;> cases (x.2 == y.2) <;> simp
theorem canLay_pairs : ∀ xs : List (Int × Int), PyData.canLayAll0 (xs.map pd) = true
  | [] => by simp [PyData.canLayAll0]
  | x :: xs => by simp [PyData.canLayAll0, PyData.canLay0, pd, canLay_pairs xs]
theorem depth_pairs : ∀ xs : List (Int × Int), PyData.depthAll (xs.map pd) ≤ 3
  | [] => by simp [PyData.depthAll]
  | x :: xs => by
    have := depth_pairs xs
    simp only [List.map_cons, PyData.depthAll, PyData.depth, pd]
    omega
theorem shaped_pairs (xs : List (Int × Int)) : SeqAt.shaped (.list (xs.map pd)) = true := by
  have h1 := depth_pairs xs
  have h2 : PyData.depth (.list (xs.map pd)) ≤ 64 := by simp only [PyData.depth]; omega
  show (PyData.canLay0 (.list (xs.map pd)) && decide (PyData.depth (.list (xs.map pd)) ≤ 64)) = true
  rw [Bool.and_eq_true]
  exact ⟨by simp only [PyData.canLay0]; exact canLay_pairs xs, decide_eq_true h2⟩

section
variable {c : FC} {φ : List Addr} {fr : Frm} {st : Sto} {m : Str → Option Value} {led ext : List (Addr × Obj)} {h : Heap}
theorem vrs2 {φ : List Addr} {a b : PV} {vs : List Value} (h : VRs φ [a, b] vs) : ∃ x y, vs = [x, y] ∧ VR φ a x ∧ VR φ b y := by
  cases h with | cons h1 r => cases r with | cons h2 r => cases r; exact ⟨_, _, rfl, h1, h2⟩
theorem SR.pair (H : SR c φ fr st m led ext h) {x : PV} {p : Int × Int} (e : pairAt x st.2 = some p) {v : Value} (hv : VR φ x v) : ∃ as, Reads h v (pd p) as := by
  unfold pairAt at e
  cases x with
  | ref kx =>
    dsimp only at e
    cases e1 : getO kx st.2 with
    | none => rw [e1] at e; cases e
    | some po =>
      rw [e1] at e
      split at e
      · rename_i a b heq
        cases heq
        cases e
        obtain ⟨x, h1, rfl⟩ := hv
        obtain ⟨a', vs, q1, ⟨o, q2, q3, n, q4⟩, q5⟩ := H.tup e1
        have : a' = x := Option.some.inj (q1.symm.trans h1)
        subst this
        obtain ⟨v1, v2, rfl, ⟨t, rfl⟩, ⟨u, rfl⟩⟩ := vrs2 q5
        exact ⟨_, .tuple q2 q3 q4 (.cons (.int _ _) (.cons (.int _ _) .nil))⟩
      · cases e
  | _ => cases e
theorem SR.pairs1 (H : SR c φ fr st m led ext h) : ∀ {xs : List PV} {vs : List Value} {ps : List (Int × Int)}, VRs φ xs vs → toPairs st.2 xs = some ps → ∃ as, ReadsAll h vs (ps.map pd) as
  | _, _, _, .nil, e => by cases e; exact ⟨_, .nil⟩
  | x :: xs, v :: vs, ps, .cons a b, e => by
    have e' : (match pairAt x st.2 with | some p => (match toPairs st.2 xs with | some r => some (p :: r) | none => none) | none => none) = some ps := e
    cases e1 : pairAt x st.2 with
    | none => rw [e1] at e'; cases e'
    | some p =>
      rw [e1] at e'
      dsimp only at e'
      cases e2 : toPairs st.2 xs with
      | none => rw [e2] at e'; cases e'
      | some r =>
        rw [e2] at e'
        cases e'
        obtain ⟨as, h1⟩ := H.pair e1 a
        obtain ⟨bs, h2⟩ := H.pairs1 b e2
        exact ⟨_, .cons h1 h2⟩
theorem SR.pairs (H : SR c φ fr st m led ext h) {x : PV} {ps : List (Int × Int)} (e : pairsAt x st = some ps) {v : Value} (hv : VR φ x v) : ∃ as, Reads h v (.list (ps.map pd)) as := by
  unfold pairsAt at e
  cases x with
  | ref kx =>
    dsimp only at e
    cases e1 : getO kx st.2 with
    | none => rw [e1] at e; cases e
    | some po =>
      rw [e1] at e
      cases po with
      | list xs =>
        obtain ⟨x, h1, rfl⟩ := hv
        obtain ⟨a', vs, n, q1, q2, ⟨o, q3, q4, nn, q5⟩, q6⟩ := H.list e1
        have : a' = x := Option.some.inj (q1.symm.trans h1)
        subst this
        obtain ⟨as, h2⟩ := H.pairs1 q6 e
        exact ⟨_, .list q3 q4 q5 (by simpa using h2)⟩
      | _ => cases e
  | _ => cases e
end
section
variable {prog : Program} {w : World} {c : FC}
theorem simO_neP (hu : c.A.units + 64 < cLine) : SimO2 prog w c (compareOp .NotEq) neP := by
  intro φ fr x y vx vy st hx hy m led ext s Q b st' hf H k
  unfold neP at hf
  cases e1 : pairsAt x st with
  | none => rw [e1] at hf; cases hf
  | some ps =>
    rw [e1] at hf
    dsimp only at hf
    cases e2 : pairsAt y st with
    | none => rw [e2] at hf; cases hf
    | some qs =>
      rw [e2] at hf
      cases hf
      obtain ⟨as, h1⟩ := H.pairs e1 hx
      obtain ⟨bs, h2⟩ := H.pairs e2 hy
      refine ne_dataH h1 h2 (shaped_pairs ps) (shaped_pairs qs) hu ?_
      have : PyData.eqv (.list (ps.map pd)) (.list (qs.map pd)) = eqPs ps qs := by rw [PyData.eqv, eqv_pairs]
      rw [this]
      exact k _ _ _ _ _ (Pre.refl _) H rfl
end

/-! ## enumerate -/
section
variable {c : FC} {φ : List Addr} {fr : Frm} {st : Sto} {m : Str → Option Value} {led ext : List (Addr × Obj)} {h h' : Heap} {D : Addr} {o : Obj} {po : PO}
theorem SR.adds (H : SR c φ fr st m led ext h) (hk : ∀ b o, h.get? b = some o → h'.get? b = some o) {its : List (Addr × Obj)} (hI : ∀ p ∈ its, h'.get? p.1 = some p.2 ∧ h.objs.size ≤ p.1) (hnd : (its.map (·.1)).Nodup) :
    SR c φ fr st m led (its ++ ext) h' := by
  have hL : c.L < h.objs.size := H.F.ns.lt
  refine ⟨H.F.keeps hk, fun p hp => ?_, ?_, H.nx, H.os, H.fr, H.ce, fun p hp => List.mem_append_right _ (H.mu p hp), H.ba⟩
  · rcases List.mem_append.mp hp with hp | hp
    · exact H.N.grown hk p (List.mem_append_left _ hp)
    · rcases List.mem_append.mp hp with hp | hp
      · obtain ⟨h1, hz⟩ := hI p hp
        refine ⟨h1, Nat.ne_of_gt (Nat.lt_of_lt_of_le hL hz), ?_⟩
        cases q : c.h₀.get? p.1 with
        | none => rfl
        | some o =>
          have h1 := Heap.lt_size q
          have h2 := H.F.above
          exact absurd (Nat.lt_trans (Nat.lt_of_lt_of_le h1 h2) (Nat.lt_of_lt_of_le hL hz)) (Nat.lt_irrefl _)
      · exact H.N.grown hk p (List.mem_append_right _ hp)
  · have nd := H.nd
    have hb := H.below
    rw [List.map_append, List.map_append]
    rw [List.map_append] at nd
    have hn : ∀ x ∈ led.map (·.1) ++ ext.map (·.1), x ∉ its.map (·.1) := by
      intro x hx q
      rw [← List.map_append] at hx
      obtain ⟨p, hp, rfl⟩ := List.mem_map.mp hx
      obtain ⟨p', hp', e⟩ := List.mem_map.mp q
      have h1 := hb p hp
      have h2 := (hI p' hp').2
      rw [e] at h2
      exact absurd (Nat.lt_of_lt_of_le h1 h2) (Nat.lt_irrefl _)
    rw [List.nodup_append] at nd ⊢
    refine ⟨nd.1, List.nodup_append.mpr ⟨hnd, nd.2.1, fun a ha b hb2 e => hn b (List.mem_append_right _ hb2) (e ▸ ha)⟩, fun a ha b hb2 e => ?_⟩
    rcases List.mem_append.mp hb2 with hb2 | hb2
    · exact hn a (List.mem_append_left _ ha) (e ▸ hb2)
    · exact nd.2.2 a ha b hb2 e
theorem SR.pushAt (H : SR c φ fr st m led ext h) (hD : h.get? D = some o) (hlt : ∀ p ∈ led ++ ext, p.1 < D) (hL : c.L < D) (ho : OR (φ ++ [D]) po o) :
    SR c (φ ++ [D]) fr (Nat.succ st.1, (st.1, po) :: st.2) m ((D, o) :: led) ext h := by
  refine H.push H.F (fun p hp => ?_) hlt ho
  rcases List.mem_cons.mp hp with rfl | hp
  · refine ⟨hD, Nat.ne_of_gt hL, ?_⟩
    cases q : c.h₀.get? D with
    | none => rfl
    | some o =>
      have h1 := Heap.lt_size q
      have h2 := H.F.above
      exact absurd (Nat.lt_trans (Nat.lt_of_lt_of_le h1 h2) hL) (Nat.lt_irrefl _)
  · exact H.N p hp
end

def PlE : Place (Nat × Nat) := fun x φ its I => ∃ a it oit old, φ[x.1]? = some a ∧ its = [(I, { cls := .type "enumerate", dict := none, data := .fields #[.none, .bool false, .ref it, rawInt x.2, .none, old], slots := #[] }), (it, oit)] ∧
  oit.cls = .type "list_iterator" ∧ oit.data = .fields #[.ref a, .int x.2 0]
theorem PlE_mono : ∀ x φ φ' its I, Pre φ φ' → PlE x φ its I → PlE x φ' its I := fun _ _ _ _ _ p ⟨a, it, o, old, h1, h2⟩ => ⟨a, it, o, old, p.get h1, h2⟩
noncomputable def nextE : Nat × Nat → Sto → Option (Option (PV × Sto × (Nat × Nat))) := fun x st => match getO x.1 st.2 with
  | some (.list xs) => (match nth xs x.2 with
    | some p => some (some (.ref st.1, (Nat.succ st.1, (st.1, .tup [.int (.ofNat x.2), p]) :: st.2), (x.1, Nat.succ x.2)))
    | none => some none)
  | _ => none

section
variable {prog : Program} {w : World} {c : FC} {G : GC} {d : Nat}
theorem simIter_enum {px pos : Pos} {e : Expr} {f : PE} (V : Live G c d)
    (hx : nsIn G.K mainGlobals (Str.ofString "enumerate") = some none) (hk : c.env.kindOf (Str.ofString "enumerate") = some .globalImplicit)
    (hl : SimE prog w c e f) (he : starEach [e] c.env = (false, eval e c.env) :: starEach [] c.env) (hv : bootBuiltins (Str.ofString "enumerate") = some (.type "enumerate"))
    (hc : eval ((Expr.Name (Str.ofString "enumerate") px).Call [e] [] pos) c.env = (do let f ← eval (.Name (Str.ofString "enumerate") px) c.env; callWith pos f [] (backTo pos (starEach [e] c.env)) (backToKw pos (keywordEach [] c.env)))) :
    SimIter prog w c (.Call (.Name (Str.ofString "enumerate") px) [e] [] pos) PlE (startL f) := by
  intro φ fr st m led ext s Q x st' hf H k
  unfold startL at hf
  cases e1 : f fr st with
  | none => rw [e1] at hf; cases hf
  | some q =>
    obtain ⟨p, st1⟩ := q
    rw [e1] at hf
    cases p with
    | ref kx =>
      dsimp only at hf
      cases e2 : getO kx st1.2 with
      | none => rw [e2] at hf; cases hf
      | some po =>
        rw [e2] at hf
        cases po with
        | list xs =>
          cases hf
          refine Call_ (V.nameB H.F hx hv (by decide) ?_ hk (by decide)) hc
          refine PyProof.Rows.callWith_type1 (spliced_more (hl _ _ _ _ _ _ _ _ _ _ e1 H fun φ1 led1 v h1 tk1 p1 H1 R1 => spliced_none ?_) he) he rfl
          obtain ⟨a, q1, rfl⟩ := R1
          obtain ⟨a', vs, n, r1, r2, r3, r4⟩ := H1.list e2
          have : a' = a := Option.some.inj (r1.symm.trans q1)
          subst this
          refine call_enumerate_1 (H1.N _ r2).1 fun h' he' hit hz hk' => ?_
          refine wpAny_pyIter_enum he' ?_
          obtain ⟨oit, i1, i2, i3⟩ := hit
          refine k φ1 led1 (h1.objs.size + 1) [(h1.objs.size + 1, _), (h1.objs.size, oit)] h' _ p1 (H1.adds hk' ?_ ?_) ⟨a', _, oit, .none, q1, rfl, i2, i3⟩
          · intro p hp
            rcases List.mem_cons.mp hp with rfl | hp
            · exact ⟨he', Nat.le_succ _⟩
            · rw [List.mem_singleton.mp hp]; exact ⟨i1, Nat.le_refl _⟩
          · simp
        | _ => cases hf
    | _ => cases hf

theorem simNext_enum {elts : List Expr} {k1 : Nat} {tp : Pos} (hh : c.A.handled = none) : SimNext prog w c (.Tuple elts k1 tp) PlE nextE := by
  intro φ fr st m led ext its s x I r Qn Qs hf H hm R kn ks
  obtain ⟨a, it, oit, old, h1, rfl, h2, h3⟩ := R
  unfold nextE at hf
  cases e2 : getO x.1 st.2 with
  | none => rw [e2] at hf; cases hf
  | some po =>
    rw [e2] at hf
    cases po with
    | list xs =>
      dsimp only at hf
      obtain ⟨a', vs, n, r1, r2, r3, r4⟩ := H.list e2
      have : a' = a := Option.some.inj (r1.symm.trans h1)
      subst this
      have hE := (H.N (I, _) (List.mem_append_right _ (.head _))).1
      have hIt := (H.N (it, oit) (List.mem_append_right _ (.tail _ (.head _)))).1
      have hit : s.heap.IsListIter it a' x.2 := ⟨oit, hIt, h2, h3⟩
      have hne : I ≠ it := by
        have nd := H.nd
        rw [List.map_append, List.map_append, List.nodup_append] at nd
        have := nd.2.1
        rw [List.nodup_append] at this
        have := this.1
        simp only [List.map_cons, List.map_nil, List.nodup_cons, List.mem_singleton] at this
        exact this.1
      rw [nth_eq] at hf
      cases e3 : xs[x.2]? with
      | none =>
        rw [e3] at hf
        cases hf
        have hv : vs.toArray[x.2]? = none := by
          rw [List.getElem?_eq_none_iff] at e3
          have := r4.length
          simp
          omega
        refine wpAny_pyNext_enum_end hh hE hit r3 hv fun h' he => ?_
        exact kn rfl h' s.toks (H.drop (its := [_, (it, oit)]) hm fun b o' hb e => he b o' (fun q => hb (by simp [q])) e)
      | some p =>
        rw [e3] at hf
        cases hf
        obtain ⟨v, q1, q2⟩ := r4.get e3
        refine wpAny_pyNext_enum_item hE hit r3 (x := v) (by simpa using q1) hne fun h' he' hit' ht' hz' hk' => ?_
        refine wpAny_letOwnedTupleGo_enum he' fun h2' he2 hs2 => ?_
        replace hs2 : Heap.SameBut I h' h2' := hs2
        obtain ⟨oit', i1, i2, i3⟩ := hit'
        have hIlt : I < s.heap.objs.size := Heap.lt_size hE
        have H2 := H.chg (its' := [(I, { cls := .type "enumerate", dict := none, data := .fields #[.none, .bool false, .ref it, rawInt ((x.2 : Int) + 1), .none, v], slots := #[] }), (it, oit')]) (h' := h2') hm rfl
          (fun b o1 hb e => (hs2.extBut b o1 (fun q => hb (by simp [q])) (hk' b o1 (fun q => hb (by simp [q])) (fun q => hb (by simp [q])) e)))
          (fun p hp => by
            rcases List.mem_cons.mp hp with rfl | hp
            · exact he2
            · rw [List.mem_singleton.mp hp]; exact (hs2.2 it (Ne.symm hne)).trans i1)
        have hb : ∀ p ∈ led ++ ([(I, ({ cls := .type "enumerate", dict := none, data := .fields #[.none, .bool false, .ref it, rawInt ((x.2 : Int) + 1), .none, v], slots := #[] } : Obj)), (it, oit')] ++ ext), p.1 < s.heap.objs.size := by
          intro p hp
          have hb0 := H.below
          rcases List.mem_append.mp hp with hp | hp
          · exact hb0 p (List.mem_append_left _ hp)
          · rcases List.mem_append.mp hp with hp | hp
            · rcases List.mem_cons.mp hp with rfl | hp
              · exact hIlt
              · rw [List.mem_singleton.mp hp]; exact Heap.lt_size hIt
            · exact hb0 p (List.mem_append_right _ (List.mem_append_right _ hp))
        have H3 := H2.pushAt (D := s.heap.objs.size) (o := { cls := .type "tuple", data := .seq #[.int x.2 s.toks, v] }) (po := .tup [.int (.ofNat x.2), p]) ((hs2.2 _ (Nat.ne_of_gt hIlt)).trans ht') hb H.F.ns.lt
          ⟨[.int x.2 s.toks, v], rfl, .cons ⟨_, rfl⟩ (.cons (q2.mono (Pre.snoc φ _)) .nil)⟩
        exact ks _ _ _ rfl _ _ _ _ _ _ (Pre.snoc φ s.heap.objs.size) H3 ⟨a', it, oit', v, (Pre.snoc φ _).get h1, rfl, i2, i3⟩ ⟨_, by rw [H.nx]; simp, rfl⟩
    | _ => cases hf
end
end Mine

namespace Mine

/-! ## list comprehensions -/
abbrev NsO := PyProof.Rows.LCg.NsObj
def BR (φ : List Addr) (m : Str → Option Value) : List Str → List PV → Prop
  | [], [] => True
  | x :: xs, p :: ps => (∃ v, m x = some v ∧ VR φ p v) ∧ BR φ m xs ps
  | _, _ => False

def compFC (c : FC) (scope : Scope) (cells : List (Str × Addr)) (C : Addr) (oC : Obj) (cids : List (Str × Nat)) (φ : List Addr) : FC :=
  { c with env := compEnvC scope cells C c.env, names := [], cids := cids, must := (C, oC) :: c.must, base := φ }

section
variable {c : FC} {φ : List Addr} {fr : Frm} {st : Sto} {m : Str → Option Value} {led ext ext' its its' : List (Addr × Obj)} {h h' : Heap}
theorem SR.perm (H : SR c φ fr st m led ext h) (p : ext.Perm ext') : SR c φ fr st m led ext' h := by
  refine ⟨H.F, fun q hq => H.N q ?_, ?_, H.nx, H.os, H.fr, H.ce, fun q hq => p.mem_iff.mp (H.mu q hq), H.ba⟩
  · rcases List.mem_append.mp hq with hq | hq
    · exact List.mem_append_left _ hq
    · exact List.mem_append_right _ (p.mem_iff.mpr hq)
  · exact ((List.Perm.append_left led p).map (·.1)).nodup_iff.mp H.nd
/-- one object of the unseen ones changed -/
theorem SR.chg1 {C : Addr} {oC oC' : Obj} (H : SR c φ fr st m led (its ++ ((C, oC) :: ext)) h) (hm : ∀ p ∈ c.must, p ∈ ext) (hs : ∀ b o, b ≠ C → h.get? b = some o → h'.get? b = some o) (hC : h'.get? C = some oC') :
    SR c φ fr st m led (its ++ ((C, oC') :: ext)) h' := by
  have H1 : SR c φ fr st m led ([(C, oC)] ++ (its ++ ext)) h := H.perm List.perm_middle
  have H2 := H1.chg (its' := [(C, oC')]) (h' := h') (fun p hp => List.mem_append_right _ (hm p hp)) rfl (fun b o hb e => hs b o (fun q => hb (by simp [q])) e) (fun p hp => by rw [List.mem_singleton.mp hp]; exact hC)
  exact H2.perm (show ((C, oC') :: (its ++ ext)).Perm (its ++ (C, oC') :: ext) from List.perm_middle.symm)
end

section
variable {prog : Program} {w : World} {c : FC} {G : GC} {d : Nat}
theorem Live.comp (V : Live G c d) {scope : Scope} {cells : List (Str × Addr)} {C : Addr} {oC : Obj} {cids : List (Str × Nat)} {φ : List Addr} (hk : scope.kind = .function) : Live G (compFC c scope cells C oC cids φ) d :=
  ⟨V.hh, hk, V.gl, V.bn, V.B, V.X, V.T, V.dp, V.un⟩

theorem simE_cvar {scope : Scope} {cells : List (Str × Addr)} {C : Addr} {oC : Obj} {cids : List (Str × Nat)} {φ₀ : List Addr} {m₀ : Str → Option Value} {x : Str} {p : PV} {pos : Pos} (hn : NsO oC m₀) (hv : ∃ v, m₀ x = some v ∧ VR φ₀ p v) (hk : scope.kind = .function)
    (hl : (compEnvC scope cells C c.env).kindOf x = some .local) (hd : (x == ("__debug__" : Str)) = false) : SimE prog w (compFC c scope cells C oC cids φ₀) (.Name x pos) (eVal p) := by
  intro φ fr st m led ext s Q b st' hf H k
  cases hf
  obtain ⟨v, h1, h2⟩ := hv
  have hm : (C, oC) ∈ led ++ ext := List.mem_append_right _ (H.mu _ (.head _))
  exact wpAny_Name (wpAny_loadName_local (env := compEnvC scope cells C c.env) (m := m₀) hk hl (hn.ns (H.N _ hm).1) h1 (k _ _ _ _ _ (Pre.refl _) H (h2.mono H.ba))) hd
end

section
variable (prog : Program) (w : World)
def SimIfs (c : FC) (ifs : List Expr) (f : PT) : Prop :=
  ∀ φ fr st, Sim prog w c φ fr (forIn ifs true fun t r => if r = true then do let ok ← isTrue t c.env (eval t c.env); pure (ForInStep.yield ok) else pure (ForInStep.yield r)) (fun _ b a => a = b) (f fr st) st
/-- a target's stores among a comprehension's names -/
def SimTg (c : FC) (scope : Scope) (cells : List (Str × Addr)) (φ₀ : List Addr) (target : Expr) (xs : List Str) (gt : PV → Sto → Option (List PV × Sto)) : Prop :=
  ∀ (φ : List Addr) (fr : Frm) (st : Sto) (m : Str → Option Value) (led ext its : List (Addr × Obj)) (C : Addr) (oC : Obj) (m₀ : Str → Option Value) (s : Shared) (p : PV) (v : Value) (ps : List PV) (st' : Sto) (Q : Unit → Shared → Prop),
    Pre φ₀ φ → VR φ p v → gt p st = some (ps, st') → SR c φ fr st m led (its ++ ((C, oC) :: ext)) s.heap → (∀ p ∈ c.must, p ∈ ext) → NsO oC m₀ →
    (∀ h' tk' oC' m₁ led', SR c φ fr st' m led' (its ++ ((C, oC') :: ext)) h' → NsO oC' m₁ → BR φ m₁ xs ps → Q () { s with heap := h', toks := tk' }) →
    wpAny (model prog w) c.A (assign target (compEnvC scope cells C c.env) v) Q NoE s
def SimSelf {σ : Type} (c : FC) (P : Place σ) : Prop := ∀ (x : σ) (φ : List Addr) (its : List (Addr × Obj)) (I : Addr) (s : Shared) (Q : Value → Shared → Prop), P x φ its I → (∀ p ∈ its, s.heap.get? p.1 = some p.2) → Q (.ref I) s → wpAny (model prog w) c.A (pyIter (.ref I)) Q NoE s
end

noncomputable def compLoopF {σ : Type} (next : σ → Sto → Option (Option (PV × Sto × σ))) (gt : PV → Sto → Option (List PV × Sto)) (ft : List PV → PT) (fe : List PV → PE) (kD : Nat) (fr : Frm) : Nat → σ → Sto → Option Sto := fun n =>
  @Nat.rec (fun _ => σ → Sto → Option Sto) (fun _ _ => none) (fun _ ih x st => match next x st with
    | some none => some st
    | some (some (p, st1, x')) => (match gt p st1 with
      | some (ps, st2) => (match ft ps fr st2 with
        | some (true, st3) => (match fe ps fr st3 with
          | some (q, st4) => (match getO kD st4.2 with
            | some (.list xs) => (match fits xs with
              | true => ih x' (st4.1, setO kD (.list (xs ++ [q])) st4.2)
              | false => none)
            | _ => none)
          | none => none)
        | some (false, st3) => ih x' st3
        | none => none)
      | none => none)
    | none => none) n
noncomputable def eComp {σ : Type} (start : Frm → Sto → Option (σ × Sto)) (next : σ → Sto → Option (Option (PV × Sto × σ))) (gt : PV → Sto → Option (List PV × Sto)) (ft : List PV → PT) (fe : List PV → PE) (n : Nat) : PE := fun fr st => match start fr st with
  | some (x, (k, os)) => (match compLoopF next gt ft fe k fr n x (Nat.succ k, (k, .list []) :: os) with
    | some st' => some (.ref k, st')
    | none => none)
  | none => none

section
variable {prog : Program} {w : World} {c : FC}

theorem simIfs_nil : SimIfs prog w c [] (fun _ st => some (true, st)) := by
  intro φ fr st m led ext s Q b st' hf H k
  cases hf
  exact wpAny_tests_nil (k _ _ _ _ _ (Pre.refl _) H rfl)
theorem simIfs_one {t : Expr} {f : PT} (h : SimT prog w c t f) : SimIfs prog w c [t] f := by
  intro φ fr st m led ext s Q b st' hf H k
  exact wpAny_tests_one (h _ _ _ _ _ _ _ _ _ _ hf H k)

theorem codeAny_compLoop_any {elt target iter : Expr} {ifs : List Expr} {scope : Scope} {pos : Pos} {it acc : Value} {env : Env} {A : Around} {s : Shared} {R : Result → Shared → Prop} (I : Nat → Shared → Prop)
    (turn : ∀ n s, I n s → wpAny (model prog w) A (pyNext it) (fun r s₁ => match r with
      | none => R (.ok .next) s₁
      | some v => wpAny (model prog w) A (letOwnedTupleGo target it v) (fun _ s₁' => wpAny (model prog w) A (assign target env v) (fun _ s₂ =>
          wpAny (model prog w) A (forIn ifs true fun t r => if r = true then do let ok ← isTrue t env (eval t env); pure (ForInStep.yield ok) else pure (ForInStep.yield r)) (fun ok s₃ =>
            if ok = true then wpAny (model prog w) A (eval elt env) (fun x s₄ => wpAny (model prog w) A (call (.builtin "list.append") [acc, x]) (fun _ s₅ => ∃ m, m < n ∧ I m s₅) NoE s₄) NoE s₃
            else ∃ m, m < n ∧ I m s₃) NoE s₂) NoE s₁') NoE s₁) NoE s)
    (n : Nat) (h : I n s) : codeAny (model prog w) A (.compLoop (.ListComp elt [⟨target, iter, ifs, 0⟩] scope pos) 0 it acc env) R s := by
  refine codeAny_loop rfl I (fun n s hI => ?_) n h
  show wpAny _ A ((compTurn (.ListComp elt [⟨target, iter, ifs, 0⟩] scope pos) 0 it acc env).onRaise (fun x => do noteFrame x env; theTreesLotGoes x)) _ _ s
  refine wpAny_noted ?_
  rw [compTurn_list]
  refine wpAny_noRaise ?_
  refine wpAny_bind (wpAny_standAt (wpAny_bind (wpAny_mono (turn n s hI) (fun r s₁ h₁ => ?_) fun _ _ h' => h'.elim)))
  cases r with
  | none => exact wpAny_pure h₁
  | some v =>
    refine wpAny_bind (wpAny_mono h₁ (fun _ s₁' h₁' => ?_) fun _ _ h' => h'.elim)
    refine wpAny_bind (wpAny_mono h₁' (fun _ s₂ h₂ => wpAny_bind (wpAny_mono h₂ (fun ok s₃ h₃ => ?_) fun _ _ h' => h'.elim)) fun _ _ h' => h'.elim)
    cases ok with
    | true =>
      simp only [if_true] at h₃
      exact wpAny_bind (wpAny_bind (wpAny_mono h₃ (fun x s₄ h₄ => wpAny_bind (wpAny_mono h₄ (fun _ s₅ h₅ => wpAny_pure (wpAny_pure ⟨rfl, h₅⟩)) fun _ _ h' => h'.elim)) fun _ _ h' => h'.elim))
    | false =>
      simp only [Bool.false_eq_true, if_false] at h₃
      exact wpAny_bind (wpAny_pure (wpAny_pure ⟨rfl, h₃⟩))

theorem comp_core {σ : Type} {elt target iter : Expr} {ifs : List Expr} {scope : Scope} {pos : Pos} {cells : List (Str × Addr)} {P : Place σ} {next : σ → Sto → Option (Option (PV × Sto × σ))} {gt : PV → Sto → Option (List PV × Sto)} {xs : List Str} {ft : List PV → PT} {fe : List PV → PE}
    {cids : List (Str × Nat)} {n : Nat} {φ : List Addr} {fr : Frm} {st st' : Sto} {m : Str → Option Value} {led ext its : List (Addr × Obj)} {s : Shared} {x : σ} {I C aD : Addr} {kD : Nat} {oC : Obj} {m₀ : Str → Option Value} {R : Result → Shared → Prop}
    (hP : ∀ x φ φ' its I, Pre φ φ' → P x φ its I → P x φ' its I) (hN : SimNext prog w c target P next) (hself : SimSelf prog w c P)
    (hT : SimTg prog w c scope cells φ target xs gt)
    (hif : ∀ C oC m φ ps, NsO oC m → BR φ m xs ps → SimIfs prog w (compFC c scope cells C oC cids φ) ifs (ft ps))
    (hel : ∀ C oC m φ ps, NsO oC m → BR φ m xs ps → SimE prog w (compFC c scope cells C oC cids φ) elt (fe ps))
    (hcids : ∀ x k, (x, k) ∈ cids → ∃ a, cells.lookup x = some a ∧ φ[k]? = some a)
    (H : SR c φ fr st m led (its ++ ((C, oC) :: ext)) s.heap) (hm : ∀ p ∈ c.must, p ∈ ext) (hC : NsO oC m₀) (hpl : P x φ its I) (hD : φ[kD]? = some aD)
    (hf : compLoopF next gt ft fe kD fr n x st = some st')
    (hR : ∀ φ' led' oC' m' h' tk', Pre φ φ' → SR c φ' fr st' m led' ((C, oC') :: ext) h' → NsO oC' m' → R (.ok .next) { s with heap := h', toks := tk' }) :
    codeAny (model prog w) c.A (.compStart (.ListComp elt [⟨target, iter, ifs, 0⟩] scope pos) 0 (.ref I) (.ref aD) (compEnvC scope cells C c.env)) R s := by
  have loop : codeAny (model prog w) c.A (.compLoop (.ListComp elt [⟨target, iter, ifs, 0⟩] scope pos) 0 (.ref I) (.ref aD) (compEnvC scope cells C c.env)) R s := by
    refine codeAny_compLoop_any (fun n s' => ∃ φ1 st1 led1 its1 x1 oC1 m1 h1 tk1, s' = { s with heap := h1, toks := tk1 } ∧ Pre φ φ1 ∧ SR c φ1 fr st1 m led1 (its1 ++ ((C, oC1) :: ext)) h1 ∧ NsO oC1 m1 ∧ P x1 φ1 its1 I ∧ compLoopF next gt ft fe kD fr n x1 st1 = some st') ?_ n
      ⟨φ, st, led, its, x, oC, m₀, s.heap, s.toks, rfl, Pre.refl _, H, hC, hpl, hf⟩
    rintro n s' ⟨φ1, st1, led1, its1, x1, oC1, m1, h1, tk1, rfl, p1, H1, hn1, hp1, e1⟩
    cases n with
    | zero => cases e1
    | succ n =>
      have e2 : (match next x1 st1 with
        | some none => some st1
        | some (some (p, st1, x')) => (match gt p st1 with
          | some (ps, st2) => (match ft ps fr st2 with
            | some (true, st3) => (match fe ps fr st3 with
              | some (q, st4) => (match getO kD st4.2 with
                | some (.list xs) => (match fits xs with
                  | true => compLoopF next gt ft fe kD fr n x' (st4.1, setO kD (.list (xs ++ [q])) st4.2)
                  | false => none)
                | _ => none)
              | none => none)
            | some (false, st3) => compLoopF next gt ft fe kD fr n x' st3
            | none => none)
          | none => none)
        | none => none) = some st' := e1
      cases e3 : next x1 st1 with
      | none => rw [e3] at e2; cases e2
      | some r =>
        rw [e3] at e2
        refine wpAny_mono (hN φ1 fr st1 m led1 ((C, oC1) :: ext) its1 _ x1 I r (fun s₁ => R (.ok .next) s₁)
          (fun v s₁' => wpAny (model prog w) c.A (assign target (compEnvC scope cells C c.env) v) (fun _ s₂ =>
            wpAny (model prog w) c.A (forIn ifs true fun t r => if r = true then do let ok ← isTrue t (compEnvC scope cells C c.env) (eval t (compEnvC scope cells C c.env)); pure (ForInStep.yield ok) else pure (ForInStep.yield r)) (fun ok s₃ =>
              if ok = true then wpAny (model prog w) c.A (eval elt (compEnvC scope cells C c.env)) (fun x s₄ => wpAny (model prog w) c.A (call (.builtin "list.append") [.ref aD, x]) (fun _ s₅ => ∃ k, k < n + 1 ∧
                (∃ φ1 st1 led1 its1 x1 oC1 m1 h1 tk1, s₅ = { s with heap := h1, toks := tk1 } ∧ Pre φ φ1 ∧ SR c φ1 fr st1 m led1 (its1 ++ ((C, oC1) :: ext)) h1 ∧ NsO oC1 m1 ∧ P x1 φ1 its1 I ∧ compLoopF next gt ft fe kD fr k x1 st1 = some st')) NoE s₄) NoE s₃
              else ∃ k, k < n + 1 ∧ (∃ φ1 st1 led1 its1 x1 oC1 m1 h1 tk1, s₃ = { s with heap := h1, toks := tk1 } ∧ Pre φ φ1 ∧ SR c φ1 fr st1 m led1 (its1 ++ ((C, oC1) :: ext)) h1 ∧ NsO oC1 m1 ∧ P x1 φ1 its1 I ∧ compLoopF next gt ft fe kD fr k x1 st1 = some st')) NoE s₂) NoE s₁')
          e3 H1 (fun p hp => .tail _ (hm p hp)) hp1 ?_ ?_) (fun r s₁ h => h) (fun _ _ z => z.elim)
        · rintro rfl h' tk' H2
          cases e2
          exact hR φ1 led1 oC1 m1 h' tk' p1 H2 hn1
        · rintro p st2 x2 rfl φ2 led2 its2 v h2 tk2 p2 H2 hp2 hv
          dsimp only at e2
          cases e4 : gt p st2 with
          | none => rw [e4] at e2; cases e2
          | some q =>
            obtain ⟨ps, st3⟩ := q
            rw [e4] at e2
            dsimp only at e2
            refine hT φ2 fr st2 m led2 ext its2 C oC1 m1 _ p v ps st3 _ (p1.trans p2) hv e4 H2 hm hn1 fun h3 tk3 oC3 m3 led3 H3 hn3 hb3 => ?_
            have down : ∀ {φ' : List Addr} {st' : Sto} {led' : List (Addr × Obj)} {h' : Heap}, Pre φ2 φ' → SR (compFC c scope cells C oC3 cids φ2) φ' fr st' m led' (its2 ++ ((C, oC3) :: ext)) h' → SR c φ' fr st' m led' (its2 ++ ((C, oC3) :: ext)) h' := fun pp HH =>
              ⟨HH.F, HH.N, HH.nd, HH.nx, HH.os, fun i x p h1 h2 => let ⟨v, e, r⟩ := H3.fr i x p h1 h2; ⟨v, e, r.mono pp⟩, fun x k h1 => let ⟨a, e, r⟩ := H3.ce x k h1; ⟨a, e, pp.get r⟩, H3.mu, H3.ba.trans pp⟩
            have H4 : SR (compFC c scope cells C oC3 cids φ2) φ2 fr st3 m led3 (its2 ++ ((C, oC3) :: ext)) h3 :=
              ⟨H3.F, H3.N, H3.nd, H3.nx, H3.os, (fun i x p h1 _ => by cases h1), fun x k hk => let ⟨a, q1, q2⟩ := hcids x k hk; ⟨a, q1, (p1.trans p2).get q2⟩,
                fun p hp => by
                  rcases List.mem_cons.mp hp with rfl | hp
                  · exact List.mem_append_right _ (.head _)
                  · exact List.mem_append_right _ (.tail _ (hm p hp)), Pre.refl _⟩
            cases e5 : ft ps fr st3 with
            | none => rw [e5] at e2; cases e2
            | some q =>
              obtain ⟨b, st4⟩ := q
              rw [e5] at e2
              refine hif C oC3 m3 φ2 ps hn3 hb3 _ _ _ _ _ _ { s with heap := h3, toks := tk3 } _ _ _ e5 H4 fun φ5 led5 ok h5 tk5 p5 H5 R5 => ?_
              subst R5
              cases ok with
              | false =>
                simp only [Bool.false_eq_true, if_false]
                exact ⟨n, Nat.lt_succ_self n, φ5, st4, led5, its2, x2, oC3, m3, h5, tk5, rfl, p1.trans (p2.trans p5), down p5 H5, hn3, hP _ _ _ _ _ p5 hp2, e2⟩
              | true =>
                simp only [if_true]
                dsimp only at e2
                cases e6 : fe ps fr st4 with
                | none => rw [e6] at e2; cases e2
                | some q =>
                  obtain ⟨y, st6⟩ := q
                  rw [e6] at e2
                  dsimp only at e2
                  refine hel C oC3 m3 φ2 ps hn3 hb3 _ _ _ _ _ _ { s with heap := h5, toks := tk5 } _ _ _ e6 H5 fun φ6 led6 vy h6 tk6 p6 H6 R6 => ?_
                  have H7 := down (p5.trans p6) H6
                  cases e7 : getO kD st6.2 with
                  | none => rw [e7] at e2; cases e2
                  | some po =>
                    rw [e7] at e2
                    cases po with
                    | list ys =>
                      dsimp only at e2
                      cases e8 : fits ys with
                      | false => rw [e8] at e2; cases e2
                      | true =>
                        rw [e8] at e2
                        dsimp only at e2
                        obtain ⟨a2, o, pre, post, t1, t2, ⟨vs, cnt, rfl, t3⟩, t4, t5, t6⟩ := H7.set (po' := .list (ys ++ [y])) e7
                        have : a2 = aD := Option.some.inj (t1.symm.trans ((p1.trans (p2.trans (p5.trans p6))).get hD))
                        subst this
                        have N := H7.N
                        rw [t2, List.append_assoc, List.cons_append] at N
                        refine append_K (its := vs.toArray) (n := cnt) (x := vy) H7.F N (upd_mid t4 t5) (fun h' F' N' => ?_) (by rw [List.size_toArray, t3.length]; exact Nat.le_trans (fits_le e8) thousand)
                        refine ⟨n, Nat.lt_succ_self n, φ6, _, _, its2, x2, oC3, m3, h', tk6, rfl, p1.trans (p2.trans (p5.trans p6)), t6 _ _ ⟨vs ++ [vy], cnt + 1, ?_, t3.append (.cons R6 .nil)⟩ F' N', hn3, hP _ _ _ _ _ (p5.trans p6) hp2, e2⟩
                        simp
                    | _ => cases e2
  refine codeAny_compStart_list loop (wpAny_noRaise (hself x φ its I s _ hpl (fun p hp => (H.N p (List.mem_append_right _ (List.mem_append_left _ hp))).1) loop))

/-- the whole block, no name of its own a cell -/
theorem comp_block {σ : Type} {elt target iter : Expr} {ifs : List Expr} {scope : Scope} {pos : Pos} {cl : List (Str × Addr)} {P : Place σ} {start : Frm → Sto → Option (σ × Sto)} {next : σ → Sto → Option (Option (PV × Sto × σ))} {gt : PV → Sto → Option (List PV × Sto)} {xs : List Str} {ft : List PV → PT} {fe : List PV → PE}
    {cids : List (Str × Nat)} {n : Nat} {φ : List Addr} {fr : Frm} {st st' : Sto} {m : Str → Option Value} {led ext : List (Addr × Obj)} {s : Shared} {b : PV} {RR : Value → Addr → Result → Shared → Prop}
    (hP : ∀ x φ φ' its I, Pre φ φ' → P x φ its I → P x φ' its I) (hI : SimIter prog w c iter P start) (hN : SimNext prog w c target P next) (hself : SimSelf prog w c P)
    (hT : ∀ φ, SimTg prog w c scope cl φ target xs gt)
    (hif : ∀ C oC m φ ps, NsO oC m → BR φ m xs ps → SimIfs prog w (compFC c scope cl C oC cids φ) ifs (ft ps))
    (hel : ∀ C oC m φ ps, NsO oC m → BR φ m xs ps → SimE prog w (compFC c scope cl C oC cids φ) elt (fe ps))
    (hcids : ∀ x k, (x, k) ∈ cids → (x, k) ∈ c.cids ∧ cl.lookup x = c.env.cells.lookup x)
    (hcell : ∀ y ∈ scope.names, y.2 ≠ .cell) (hkind : scope.kind = .function)
    (hf : eComp start next gt ft fe n fr st = some (b, st')) (H : SR c φ fr st m led ext s.heap)
    (hRR : ∀ φ' led' C oC m' a h' tk', Pre φ φ' → SR c φ' fr st' m led' ((C, oC) :: ext) h' → NsO oC m' → VR φ' b a → RR a C (.ok .next) { s with heap := h', toks := tk' }) :
    wpAny (model prog w) c.A (eval iter c.env) (fun x s₁ => wpAny (model prog w) c.A (pyIter x) (fun it s₂ => wpAny (model prog w) c.A (newList []) (fun acc s₃ =>
      wpAny (model prog w) c.A (newFunctionEnv scope c.env.globals cl [] c.env.qual none .none (some c.env)) (fun cenv s₄ =>
        codeAny (model prog w) c.A (.compStart (.ListComp elt [⟨target, iter, ifs, 0⟩] scope pos) 0 it acc { cenv with scope := relabel scope c.env }) (RR acc cenv.locals) s₄) NoE s₃) NoE s₂) NoE s₁) NoE s := by
  unfold eComp at hf
  cases e : start fr st with
  | none => rw [e] at hf; cases hf
  | some q =>
    obtain ⟨x, k, os⟩ := q
    rw [e] at hf
    dsimp only at hf
    cases e1 : compLoopF next gt ft fe k fr n x (Nat.succ k, (k, .list []) :: os) with
    | none => rw [e1] at hf; cases hf
    | some st2 =>
      rw [e1] at hf
      cases hf
      refine hI _ _ _ _ _ _ _ _ _ _ e H fun φ1 led1 I its h1 tk1 p1 H1 hp1 => ?_
      refine Sim.newList (c := c) (φ := φ1) (fr := fr) (xs := []) (vs := []) (st := (k, os)) .nil (Nat.zero_le _) _ _ _ { s with heap := h1, toks := tk1 } _ _ _ rfl H1 fun φ2 led2 a h2 tk2 p2 H2 R2 => ?_
      obtain ⟨aD, hD, rfl⟩ := R2
      refine wpAny_newFunctionEnv hcell (by intro y hy; simp at hy) (fun h3 hns hsb => ?_) hkind
      obtain ⟨oC, ho, hn⟩ := LCg.ns_obj hns
      have hk : ∀ b o, h2.get? b = some o → h3.get? b = some o := fun b o e => hsb.extBut b o (Nat.ne_of_lt (Heap.lt_size e)) (Heap.get?_push_of_some _ e)
      have H3 := (H2.add hk ho (Nat.le_refl _)).perm (List.perm_middle (l₁ := its) (l₂ := ext)).symm
      exact comp_core hP hN hself (hT φ2) hif hel (fun x k hk => let ⟨q1, q2⟩ := hcids x k hk; let ⟨a, r1, r2⟩ := H2.ce x k q1; ⟨a, q2.trans r1, r2⟩) H3 H.mu hn (hP _ _ _ _ _ p2 hp1) hD e1
        fun φ' led' oC' m' h' tk' pp HH hn' => hRR φ' led' _ oC' m' _ h' tk' (p1.trans (p2.trans pp)) HH hn' ⟨aD, pp.get hD, rfl⟩
end
end Mine

namespace Mine

section
variable (prog : Program) (w : World)
def SimBlk (c : FC) (elt target iter : Expr) (ifs : List Expr) (scope : Scope) (pos : Pos) (cl : List (Str × Addr)) (f : PE) : Prop :=
  ∀ (φ : List Addr) (fr : Frm) (st st' : Sto) (m : Str → Option Value) (led ext : List (Addr × Obj)) (s : Shared) (b : PV) (RR : Value → Addr → Result → Shared → Prop), f fr st = some (b, st') → SR c φ fr st m led ext s.heap →
    (∀ φ' led' C oC m' a h' tk', Pre φ φ' → SR c φ' fr st' m led' ((C, oC) :: ext) h' → NsO oC m' → VR φ' b a → RR a C (.ok .next) { s with heap := h', toks := tk' }) →
    wpAny (model prog w) c.A (eval iter c.env) (fun x s₁ => wpAny (model prog w) c.A (pyIter x) (fun it s₂ => wpAny (model prog w) c.A (newList []) (fun acc s₃ =>
      wpAny (model prog w) c.A (newFunctionEnv scope c.env.globals cl [] c.env.qual none .none (some c.env)) (fun cenv s₄ =>
        codeAny (model prog w) c.A (.compStart (.ListComp elt [⟨target, iter, ifs, 0⟩] scope pos) 0 it acc { cenv with scope := relabel scope c.env }) (RR acc cenv.locals) s₄) NoE s₃) NoE s₂) NoE s₁) NoE s
end

section
variable {prog : Program} {w : World} {c : FC}
theorem simBlk {σ : Type} {elt target iter : Expr} {ifs : List Expr} {scope : Scope} {pos : Pos} {cl : List (Str × Addr)} {P : Place σ} {start : Frm → Sto → Option (σ × Sto)} {next : σ → Sto → Option (Option (PV × Sto × σ))} {gt : PV → Sto → Option (List PV × Sto)} (xs : List Str) {ft : List PV → PT} {fe : List PV → PE}
    (cids : List (Str × Nat)) {n : Nat}
    (hP : ∀ x φ φ' its I, Pre φ φ' → P x φ its I → P x φ' its I) (hI : SimIter prog w c iter P start) (hN : SimNext prog w c target P next) (hself : SimSelf prog w c P)
    (hT : ∀ φ, SimTg prog w c scope cl φ target xs gt)
    (hif : ∀ C oC m φ ps, NsO oC m → BR φ m xs ps → SimIfs prog w (compFC c scope cl C oC cids φ) ifs (ft ps))
    (hel : ∀ C oC m φ ps, NsO oC m → BR φ m xs ps → SimE prog w (compFC c scope cl C oC cids φ) elt (fe ps))
    (hcids : ∀ x k, (x, k) ∈ cids → (x, k) ∈ c.cids ∧ cl.lookup x = c.env.cells.lookup x)
    (hcell : ∀ y ∈ scope.names, y.2 ≠ .cell) (hkind : scope.kind = .function) : SimBlk prog w c elt target iter ifs scope pos cl (eComp start next gt ft fe n) := by
  intro φ fr st st' m led ext s b RR hf H k
  exact comp_block hP hI hN hself hT hif hel hcids hcell hkind hf H k

theorem simE_comp {elt target iter : Expr} {ifs : List Expr} {scope : Scope} {pos : Pos} {cl : List (Str × Addr)} {f : PE} (hB : SimBlk prog w c elt target iter ifs scope pos cl f)
    (hs : ∀ x, foldedSetIterable iter c.env x = pure x) (hclos : closureFor scope c.env = pure cl) (hkind : scope.kind = .function) (hnames : ∀ x ∈ scope.names, x.2 = .local → scope.names.lookup x.1 = some .local) :
    SimE prog w c (.ListComp elt [⟨target, iter, ifs, 0⟩] scope pos) f := by
  intro φ fr st m led ext s Q b st' hf H k
  rw [eval_ListComp]
  refine wpAny_comprehension_free (use := none) rfl hs hclos hkind hnames ?_
  refine hB φ fr st st' m led ext s b (fun acc C => compPost (model prog w) c.A NoE none Q acc C) hf H fun φ' led' C oC m' a h' tk' p1 H1 hn hv => ?_
  have hC : h'.get? C = some oC := (H1.N (C, oC) (List.mem_append_right _ (.head _))).1
  refine ⟨m', hn.ns hC, fun h2 hs2 => ?_⟩
  exact k φ' led' a h2 tk' p1 (H1.drop (its := [(C, oC)]) H.mu fun b o hb e => hs2.extBut b o (fun q => hb (by simp [q])) e) hv

theorem simS_comp {elt target iter : Expr} {ifs : List Expr} {scope : Scope} {pos spos py : Pos} {cl : List (Str × Addr)} {y : Str} {i : Nat} {f : PE} (hB : SimBlk prog w c elt target iter ifs scope pos cl f)
    (hsw : swapsWith (.ListComp elt [⟨target, iter, ifs, 0⟩] scope pos) (some (.Name y py)) spos.line c.env = pure true)
    (hs : ∀ x, foldedSetIterable iter c.env x = pure x) (hclos : closureFor scope c.env = pure cl) (hkind : scope.kind = .function) (hnames : ∀ x ∈ scope.names, x.2 = .local → scope.names.lookup x.1 = some .local)
    (hL : c.env.locals = c.L) (hx : c.names[i]? = some y) (hnd : c.names.Nodup) (hk : c.env.scope.kind = .function) (hl : c.env.kindOf y = some .local) :
    SimS prog w c (exec (.Assign [.Name y py] (.ListComp elt [⟨target, iter, ifs, 0⟩] scope pos) spos) c.env) (sSet (gLoc i) f) := by
  intro φ fr st m led ext s Q fl fr' st' hf H k
  unfold sSet at hf
  cases e : f fr st with
  | none => rw [e] at hf; cases hf
  | some q =>
    obtain ⟨p, st1⟩ := q
    rw [e] at hf
    cases hf
    rw [exec_Assign_Name_used _ _ _ _ hsw]
    refine wpAny_bind (wpAny_standAt (wpAny_bind ?_))
    show wpAny _ c.A (do let _ ← comprehension (.ListComp elt [⟨target, iter, ifs, 0⟩] scope pos) scope c.env _ (newList []) false (eval iter c.env) (some (assign (.Name y py) c.env))) _ _ s
    refine wpAny_bind (wpAny_mono (wpAny_comprehension_free (use := some (assign (.Name y py) c.env)) (Q := fun _ s' => Q .next s') rfl hs hclos hkind hnames ?_) (fun _ s' hq => wpAny_pure (wpAny_pure hq)) fun _ _ e => e)
    refine hB φ fr st _ m led ext s p (fun acc C => compPost (model prog w) c.A NoE (some (assign (.Name y py) c.env)) (fun _ s' => Q .next s') acc C) e H fun φ' led' C oC m' a h' tk' p1 H1 hn hv => ?_
    show wpAny _ c.A (assign (.Name y py) c.env a) _ _ _
    refine simG_assign (simG_loc (i := i) hL hx hnd hk hl) _ _ _ _ _ _ _ _ _ _ _ _ hv rfl H1 fun m2 led2 h2 tk2 H2 => ?_
    have hC : h2.get? C = some oC := (H2.N (C, oC) (List.mem_append_right _ (.head _))).1
    refine ⟨m', hn.ns hC, fun h3 hs3 => ?_⟩
    exact k φ' led2 m2 .next h3 tk2 p1 (H2.drop (its := [(C, oC)]) H.mu fun b o hb e => hs3.extBut b o (fun q => hb (by simp [q])) e) rfl

theorem simSelf_list : SimSelf prog w c PlL := by
  rintro x φ its I s Q ⟨a, o, h1, rfl, h2, h3⟩ hI h
  exact wpAny_pyIter_listiter (l := a) (i := x.2) ⟨o, hI (I, o) (.head _), h2, h3⟩ h
theorem simSelf_range {step : Int} : SimSelf prog w c (PlR step) := by
  intro x φ its I s Q hp hI h
  have hp' : its = _ := hp
  subst hp'
  exact wpAny_pyIter_rangeiter (hI _ (.head _)) h

noncomputable def tgName : PV → Sto → Option (List PV × Sto) := fun p st => some ([p], st)
noncomputable def tgPair : PV → Sto → Option (List PV × Sto) := fun p st => match p with
  | .ref k => (match getO k st.2 with
    | some (.tup [a, b]) => some ([a, b], st)
    | _ => none)
  | _ => none
noncomputable def tgCell (kU : Nat) : PV → Sto → Option (List PV × Sto) := fun p st => match getO kU st.2 with
  | some (.cell _) => some ([], (st.1, setO kU (.cell (some p)) st.2))
  | _ => none

theorem simTg_name {scope : Scope} {cells : List (Str × Addr)} {φ₀ : List Addr} {x : Str} {px : Pos} (hkind : scope.kind = .function) (hl : ∀ C, (compEnvC scope cells C c.env).kindOf x = some .local) :
    SimTg prog w c scope cells φ₀ (.Name x px) [x] tgName := by
  intro φ fr st m led ext its C oC m₀ s p v ps st' Q p0 hv hg H hm hn k
  cases hg
  have hC := (H.N (C, oC) (List.mem_append_right _ (List.mem_append_right _ (.head _)))).1
  refine wpAny_assign_Name (wpAny_storeName_local (env := compEnvC scope cells C c.env) (m := m₀) (hl C) (hn.ns hC) (fun h' hn' hs' => ?_) (by show (scope.kind == .class || (scope.kind == .module && _)) = false; rw [hkind]; rfl))
  obtain ⟨oC', ho', hns⟩ := LCg.ns_obj hn'
  exact k h' (s.toks + 1) oC' _ led (H.chg1 hm (fun b o hb e => hs'.extBut b o hb e) ho') hns ⟨⟨v, if_pos rfl, hv⟩, trivial⟩

theorem simTg_pair {scope : Scope} {cells : List (Str × Addr)} {φ₀ : List Addr} {x y : Str} {px py tp : Pos} {k1 : Nat} (hh : c.A.handled = none) (hkind : scope.kind = .function) (hl : ∀ C, (compEnvC scope cells C c.env).kindOf x = some .local) (hl' : ∀ C, (compEnvC scope cells C c.env).kindOf y = some .local)
    (hne : x ≠ y) : SimTg prog w c scope cells φ₀ (.Tuple [.Name x px, .Name y py] k1 tp) [x, y] tgPair := by
  intro φ fr st m led ext its C oC m₀ s p v ps st' Q p0 hv hg H hm hn k
  unfold tgPair at hg
  cases p with
  | ref kx =>
    dsimp only at hg
    cases e1 : getO kx st.2 with
    | none => rw [e1] at hg; cases hg
    | some po =>
      rw [e1] at hg
      split at hg
      · rename_i a b heq
        cases heq
        cases hg
        obtain ⟨ad, h1, rfl⟩ := hv
        obtain ⟨a', vs, q1, q2, q3⟩ := H.tup e1
        have : a' = ad := Option.some.inj (q1.symm.trans h1)
        subst this
        obtain ⟨v1, v2, rfl, hv1, hv2⟩ := vrs2 q3
        refine unpackN_ (env := compEnvC scope cells C c.env) H.F H.N q2 hh rfl rfl fun h2 F2 N2 => ?_
        have H2 := H.keep F2 N2
        have hC := (H2.N (C, oC) (List.mem_append_right _ (List.mem_append_right _ (.head _)))).1
        have hcl : ((compEnvC scope cells C c.env).scope.kind == .class || ((compEnvC scope cells C c.env).scope.kind == .module && (compEnvC scope cells C c.env).locals != (compEnvC scope cells C c.env).globals)) = false := by
          show (scope.kind == .class || (scope.kind == .module && _)) = false; rw [hkind]; rfl
        refine assignInOrder_cons (wpAny_assign_Name (wpAny_storeName_local (env := compEnvC scope cells C c.env) (m := m₀) (hl C) (hn.ns hC) (fun h3 hn3 hs3 => ?_) hcl))
        obtain ⟨oC3, ho3, hns3⟩ := LCg.ns_obj hn3
        have H3 := H2.chg1 hm (fun b o hb e => hs3.extBut b o hb e) ho3
        refine assignInOrder_cons (wpAny_assign_Name (wpAny_storeName_local (env := compEnvC scope cells C c.env) (hl' C) hn3 (fun h4 hn4 hs4 => ?_) hcl))
        obtain ⟨oC4, ho4, hns4⟩ := LCg.ns_obj hn4
        have H4 := H3.chg1 hm (fun b o hb e => hs4.extBut b o hb e) ho4
        refine assignInOrder_nil ?_
        refine k h4 (s.toks + 1 + 1) oC4 _ led H4 hns4 ⟨⟨v1, ?_, hv1⟩, ⟨v2, if_pos rfl, hv2⟩, trivial⟩
        show (if x = y then some v2 else if x = x then some v1 else m₀ x) = some v1
        rw [if_neg hne, if_pos rfl]
      · cases hg
  | _ => cases hg

theorem simTg_cell {scope : Scope} {cells : List (Str × Addr)} {φ₀ : List Addr} {x : Str} {px : Pos} {kU : Nat} {aU : Addr} (hkind : scope.kind = .function) (hl : ∀ C, (compEnvC scope cells C c.env).kindOf x = some .cell)
    (hc : cells.lookup x = some aU) (hU : φ₀[kU]? = some aU) : SimTg prog w c scope cells φ₀ (.Name x px) [] (tgCell kU) := by
  intro φ fr st m led ext its C oC m₀ s p v ps st' Q p0 hv hg H hm hn k
  unfold tgCell at hg
  cases e : getO kU st.2 with
  | none => rw [e] at hg; cases hg
  | some po =>
    rw [e] at hg
    cases po with
    | cell w0 =>
      cases hg
      obtain ⟨a', o, pre, post, q1, q2, q3, q4, q5, q6⟩ := H.set (po' := .cell (some p)) e
      have : a' = aU := Option.some.inj (q1.symm.trans (p0.get hU))
      subst this
      have N := H.N
      rw [q2, List.append_assoc, List.cons_append] at N
      have hd : ∃ v₀, o.data = .cell v₀ := by
        cases w0 with
        | none => exact q3
        | some _ => obtain ⟨y, h, _⟩ := q3; exact ⟨_, h⟩
      obtain ⟨v₀, hd⟩ := hd
      have hm' := N (a', o) (List.mem_append_right _ (.head _))
      refine wpAny_assign_Name (wpAny_storeName_cell (env := compEnvC scope cells C c.env) hkind (hl C) hc ⟨o, hm'.1, hd⟩ fun h' hc' hs' => ?_)
      obtain ⟨o', ho', hd'⟩ := hc'
      exact k h' s.toks oC m₀ _ (q6 o' h' ⟨v, hd', hv⟩ (H.F.change hs' hm'.2.1 hm'.2.2) (news_set N q4 q5 hs' ho')) hn trivial
    | _ => cases hg

/-! ### a comprehension whose one name is a cell -/
noncomputable def eCompU {σ : Type} (start : Frm → Sto → Option (σ × Sto)) (next : σ → Sto → Option (Option (PV × Sto × σ))) (ft : Nat → PT) (fe : Nat → PE) (n : Nat) : PE := fun fr st => match start fr st with
  | some (x, (k, os)) => (match compLoopF next (tgCell (Nat.succ k)) (fun _ => ft (Nat.succ k)) (fun _ => fe (Nat.succ k)) k fr n x (Nat.succ (Nat.succ k), (Nat.succ k, .cell none) :: (k, .list []) :: os) with
    | some st' => some (.ref k, st')
    | none => none)
  | none => none

theorem newEnv_one {scope : Scope} {x : Str} {globals : Addr} {cl : List (Str × Addr)} {qual : Str} {env : Env} {bn : Addr} {M : Model} {A : Around} {E : Value → Shared → Prop} {s : Shared} {Q : Env → Shared → Prop} (hn : ∀ n cl, cellsFrom n scope.names cl = (x, n) :: cl) (hr : ∀ h, pushCells h scope.names = h.push { cls := .type "cell", data := .cell none })
    (h : Q (newEnv scope s.heap.objs.size globals ((x, s.heap.objs.size + 1) :: cl) qual none .none (some env) bn)
      { s with heap := (s.heap.push { cls := .type "dict", data := .dict #[] }).push { cls := .type "cell", data := .cell none } }) :
    wpAny M A (newFunctionEnv scope globals cl [] qual none .none (some env) bn) Q E s := by
  simp only [newFunctionEnv, Option.isSome_some, if_true]
  refine wpAny_bind (wpAny_alloc ?_)
  refine wpAny_bind (wpAny_layCells _ (fun name kind cells => by cases kind == NameKind.cell <;> simp) _ _ _ _ ?_)
  rw [hn, hr, List.forIn_nil]
  have hsz : ({ s with heap := s.heap.push { cls := .type "dict", data := .dict #[] } } : Shared).heap.objs.size = s.heap.objs.size + 1 := Heap.size_push ..
  rw [hsz]
  exact wpAny_bind (wpAny_pure (wpAny_pure h))

theorem simBlkU {σ : Type} {elt iter : Expr} {ifs : List Expr} {scope : Scope} {pos : Pos} {cl : List (Str × Addr)} {x : Str} {px : Pos} {P : Place σ} {start : Frm → Sto → Option (σ × Sto)} {next : σ → Sto → Option (Option (PV × Sto × σ))} {ft : Nat → PT} {fe : Nat → PE}
    (cids : List (Str × Nat)) {n : Nat}
    (hP : ∀ x φ φ' its I, Pre φ φ' → P x φ its I → P x φ' its I) (hI : SimIter prog w c iter P start) (hN : SimNext prog w c (.Name x px) P next) (hself : SimSelf prog w c P)
    (hl : ∀ a C, (compEnvC scope ((x, a) :: cl) C c.env).kindOf x = some .cell)
    (hif : ∀ a kU C oC m φ, NsO oC m → SimIfs prog w (compFC c scope ((x, a) :: cl) C oC ((x, kU) :: cids) φ) ifs (ft kU))
    (hel : ∀ a kU C oC m φ, NsO oC m → SimE prog w (compFC c scope ((x, a) :: cl) C oC ((x, kU) :: cids) φ) elt (fe kU))
    (hcids : ∀ y k, (y, k) ∈ cids → y ≠ x ∧ (y, k) ∈ c.cids ∧ cl.lookup y = c.env.cells.lookup y)
    (hn : ∀ n cl, cellsFrom n scope.names cl = (x, n) :: cl) (hr : ∀ h, pushCells h scope.names = h.push { cls := .type "cell", data := .cell none }) (hkind : scope.kind = .function) : SimBlk prog w c elt (.Name x px) iter ifs scope pos cl (eCompU start next ft fe n) := by
  intro φ fr st st' m led ext s b RR hf H hRR
  unfold eCompU at hf
  cases e : start fr st with
  | none => rw [e] at hf; cases hf
  | some q =>
    obtain ⟨y, k, os⟩ := q
    rw [e] at hf
    dsimp only at hf
    cases e1 : compLoopF next (tgCell (Nat.succ k)) (fun _ => ft (Nat.succ k)) (fun _ => fe (Nat.succ k)) k fr n y (Nat.succ (Nat.succ k), (Nat.succ k, .cell none) :: (k, .list []) :: os) with
    | none => rw [e1] at hf; cases hf
    | some st2 =>
      rw [e1] at hf
      cases hf
      refine hI _ _ _ _ _ _ _ _ _ _ e H fun φ1 led1 I its h1 tk1 p1 H1 hp1 => ?_
      refine Sim.newList (c := c) (φ := φ1) (fr := fr) (xs := []) (vs := []) (st := (k, os)) .nil (Nat.zero_le _) _ _ _ { s with heap := h1, toks := tk1 } _ _ _ rfl H1 fun φ2 led2 a h2 tk2 p2 H2 R2 => ?_
      obtain ⟨aD, hD, rfl⟩ := R2
      refine newEnv_one hn hr ?_
      have hC : (h2.push { cls := .type "dict", data := .dict #[] }).get? h2.objs.size = some { cls := .type "dict", data := .dict #[] } := Heap.get?_push_size _ rfl
      have hnC : NsO ({ cls := .type "dict", data := .dict #[] } : Obj) (fun _ => none) := ⟨#[], 0, rfl, (fun _ he => by simp at he), fun _ => rfl⟩
      have H3 := (H2.add (fun b o e => Heap.get?_push_of_some _ e) hC (Nat.le_refl _)).perm (List.perm_middle (l₁ := its) (l₂ := ext)).symm
      have hU : (h2.push { cls := .type "dict", data := .dict #[] }).objs.size = h2.objs.size + 1 := Heap.size_push ..
      have H4 := H3.push (h' := (h2.push { cls := .type "dict", data := .dict #[] }).push { cls := .type "cell", data := .cell none }) (po := .cell none) (H3.F.push _) (H3.N.push H3.F _) H3.below ⟨none, rfl⟩
      rw [hU] at H4
      have hD2 := (Pre.snoc φ2 (h2.objs.size + 1)).get hD
      have hkU : (φ2 ++ [h2.objs.size + 1])[Nat.succ k]? = some (h2.objs.size + 1) := by
        have := H2.nx
        have e9 : Nat.succ k = φ2.length := this
        rw [e9]; simp
      exact comp_core (cells := (x, h2.objs.size + 1) :: cl) (cids := (x, Nat.succ k) :: cids) (xs := []) hP hN hself (simTg_cell hkind (hl _) (by simp) hkU)
        (fun C oC m φ ps hn hb => hif _ _ C oC m φ hn) (fun C oC m φ ps hn hb => hel _ _ C oC m φ hn)
        (fun z j hz => by
          rcases List.mem_cons.mp hz with h | hz
          · cases h; exact ⟨_, by simp, hkU⟩
          · obtain ⟨r0, r1, r2⟩ := hcids z j hz
            obtain ⟨a, r3, r4⟩ := H2.ce z j r1
            refine ⟨a, ?_, (Pre.snoc φ2 _).get r4⟩
            rw [List.lookup_cons]
            have : (z == x) = false := by simpa using r0
            rw [this]
            exact r2.trans r3)
        H4 H.mu hnC (hP _ _ _ _ _ (p2.trans (Pre.snoc φ2 _)) hp1) hD2 e1
        fun φ' led' oC' m' h' tk' pp HH hn' => hRR φ' led' _ oC' m' _ h' tk' (p1.trans (p2.trans ((Pre.snoc φ2 _).trans pp))) HH hn' ⟨aD, pp.get hD2, rfl⟩

theorem br1 {φ : List Addr} {m : Str → Option Value} {x : Str} {ps : List PV} (h : BR φ m [x] ps) : ∃ p, ps = [p] ∧ ∃ v, m x = some v ∧ VR φ p v := by
  rcases ps with _ | ⟨p, _ | ⟨q, r⟩⟩
  · exact h.elim
  · exact ⟨p, rfl, h.1⟩
  · exact h.2.elim
theorem br2 {φ : List Addr} {m : Str → Option Value} {x y : Str} {ps : List PV} (h : BR φ m [x, y] ps) : ∃ p q, ps = [p, q] ∧ (∃ v, m x = some v ∧ VR φ p v) ∧ ∃ v, m y = some v ∧ VR φ q v := by
  rcases ps with _ | ⟨p, _ | ⟨q, _ | ⟨r, t⟩⟩⟩
  · exact h.elim
  · exact h.2.elim
  · exact ⟨p, q, rfl, h.1, h.2.1⟩
  · exact h.2.2.elim
noncomputable def on1 {β : Type} (f : PV → Frm → Sto → Option β) : List PV → Frm → Sto → Option β := fun ps => match ps with | [p] => f p | _ => fun _ _ => none
noncomputable def on2 {β : Type} (f : PV → PV → Frm → Sto → Option β) : List PV → Frm → Sto → Option β := fun ps => match ps with | [p, q] => f p q | _ => fun _ _ => none
noncomputable def tTrue : PT := fun _ st => some (true, st)
def LenIs (f : Frm → Sto → Option (List PV × Sto)) (n : Nat) : Prop := ∀ fr st ps st1, f fr st = some (ps, st1) → ps.length = n
theorem len_nil : LenIs esNil 0 := fun _ _ _ _ h => by cases h; rfl
theorem len_cons {a : PE} {f : Frm → Sto → Option (List PV × Sto)} {n : Nat} (h : LenIs f n) : LenIs (esCons a f) (n + 1) := by
  intro fr st ps st1 e
  unfold esCons at e
  cases ea : a fr st with
  | none => rw [ea] at e; cases e
  | some p =>
    obtain ⟨x, st2⟩ := p
    rw [ea] at e
    dsimp only at e
    cases eb : f fr st2 with
    | none => rw [eb] at e; cases e
    | some q =>
      obtain ⟨xs, st3⟩ := q
      rw [eb] at e
      cases e
      exact congrArg (· + 1) (h _ _ _ _ eb)
theorem all1 {P : List Value → Prop} (h : ∀ a, P [a]) : ∀ vs : List Value, vs.length = 1 → P vs
  | [a], _ => h a
theorem all2 {P : List Value → Prop} (h : ∀ a b, P [a, b]) : ∀ vs : List Value, vs.length = 2 → P vs
  | [a, b], _ => h a b
theorem all3 {P : List Value → Prop} (h : ∀ a b c, P [a, b, c]) : ∀ vs : List Value, vs.length = 3 → P vs
  | [a, b, c], _ => h a b c
theorem all4 {P : List Value → Prop} (h : ∀ a b c d, P [a, b, c, d]) : ∀ vs : List Value, vs.length = 4 → P vs
  | [a, b, c, d], _ => h a b c d
end
end Mine

namespace Mine
/-- what a test, or a loop's body, has made is let go -/
noncomputable def tGc (t : PT) : PT := fun fr st => match t fr st with
  | some (b, st1) => some (b, (st1.1, gcO st.1 st1.2))
  | none => none
noncomputable def sGc (f : PS) : PS := fun fr st => match f fr st with
  | some (fl, fr1, st1) => some (fl, fr1, (st1.1, gcO st.1 st1.2))
  | none => none
noncomputable def sFail : PS := fun _ _ => none
section
variable {prog : Program} {w : World} {c : FC}
theorem simS_fail {t : Sem Flow} : SimS prog w c t sFail := by
  intro φ fr st m led ext s Q fl fr' st' hf H k
  cases hf
theorem simT_gc {e : Expr} {t : PT} (h : SimT prog w c e t) : SimT prog w c e (tGc t) := by
  intro φ fr st m led ext s Q b st' hf H k
  unfold tGc at hf
  cases e : t fr st with
  | none => rw [e] at hf; cases hf
  | some q =>
    obtain ⟨b1, st1⟩ := q
    rw [e] at hf
    cases hf
    refine h _ _ _ _ _ _ _ _ _ _ e H fun φ' led' a h' tk' p H' r => ?_
    obtain ⟨led2, H2⟩ := H'.gc st.1
    exact k _ _ _ _ _ p H2 r
theorem simS_gc {t : Sem Flow} {f : PS} (h : SimS prog w c t f) : SimS prog w c t (sGc f) := by
  intro φ fr st m led ext s Q fl fr' st' hf H k
  unfold sGc at hf
  cases e : f fr st with
  | none => rw [e] at hf; cases hf
  | some q =>
    obtain ⟨fl1, fr1, st1⟩ := q
    rw [e] at hf
    cases hf
    refine h _ _ _ _ _ _ _ _ _ _ _ e H fun φ' led' m' a h' tk' p H' r => ?_
    obtain ⟨led2, H2⟩ := H'.gc st.1
    exact k _ _ _ _ _ _ p H2 r
theorem simO_iadd : SimO2 prog w c (inplaceOp .Add) addF :=
  sim_ii (fun a b ta tb s st st' r Q e => by cases e; exact ⟨rfl, fun k => iadd_int (k _ _ (VR_int _ _))⟩) (fun a b st r st' e => by cases e; exact fun v φ h => h)
theorem hc_nil {cl : List (Str × Addr)} : ∀ (x : Str) (k : Nat), (x, k) ∈ ([] : List (Str × Nat)) → (x, k) ∈ c.cids ∧ cl.lookup x = c.env.cells.lookup x := fun _ _ h => nomatch h
theorem hc_cons {cl : List (Str × Addr)} {x₀ : Str} {k₀ : Nat} {r : List (Str × Nat)} (h1 : (x₀, k₀) ∈ c.cids) (h2 : cl.lookup x₀ = c.env.cells.lookup x₀) (h : ∀ x k, (x, k) ∈ r → (x, k) ∈ c.cids ∧ cl.lookup x = c.env.cells.lookup x) :
    ∀ x k, (x, k) ∈ (x₀, k₀) :: r → (x, k) ∈ c.cids ∧ cl.lookup x = c.env.cells.lookup x := by
  intro x k hm
  rcases List.mem_cons.mp hm with e | hm
  · cases e; exact ⟨h1, h2⟩
  · exact h x k hm
theorem hcU_nil {cl : List (Str × Addr)} {u : Str} : ∀ (x : Str) (k : Nat), (x, k) ∈ ([] : List (Str × Nat)) → x ≠ u ∧ (x, k) ∈ c.cids ∧ cl.lookup x = c.env.cells.lookup x := fun _ _ h => nomatch h
theorem hcU_cons {cl : List (Str × Addr)} {u x₀ : Str} {k₀ : Nat} {r : List (Str × Nat)} (h0 : x₀ ≠ u) (h1 : (x₀, k₀) ∈ c.cids) (h2 : cl.lookup x₀ = c.env.cells.lookup x₀) (h : ∀ x k, (x, k) ∈ r → x ≠ u ∧ (x, k) ∈ c.cids ∧ cl.lookup x = c.env.cells.lookup x) :
    ∀ x k, (x, k) ∈ (x₀, k₀) :: r → x ≠ u ∧ (x, k) ∈ c.cids ∧ cl.lookup x = c.env.cells.lookup x := by
  intro x k hm
  rcases List.mem_cons.mp hm with e | hm
  · cases e; exact ⟨h0, h1, h2⟩
  · exact h x k hm
end
theorem b_len : bootBuiltins (Str.ofString "len") = some (.builtin "len") := by decide +kernel
theorem b_max : bootBuiltins (Str.ofString "max") = some (.builtin "max") := by decide +kernel
theorem b_min : bootBuiltins (Str.ofString "min") = some (.builtin "min") := by decide +kernel
theorem b_sum : bootBuiltins (Str.ofString "sum") = some (.builtin "sum") := by decide +kernel
theorem b_sorted : bootBuiltins (Str.ofString "sorted") = some (.builtin "sorted") := by decide +kernel
theorem b_list : bootBuiltins (Str.ofString "list") = some (.type "list") := by decide +kernel
theorem b_enumerate : bootBuiltins (Str.ofString "enumerate") = some (.type "enumerate") := by decide +kernel
noncomputable abbrev GG (w : World) (mean : ExcName → Option Value) (mg mb : Str → Option Value) : GC := ⟨hd.heap_39 w.params, hd.view_39, looseW hd.view_39 [], mean, mg, mb⟩
abbrev pgm : Program := PySem.Challenge.pw_xm0089_01
end Mine

namespace Mine
section
variable (w : World) (mean : ExcName → Option Value) (mg mb : Str → Option Value)
noncomputable def B_extended : PS :=
  (sSeq (sSwap [(gLoc 3), (gLoc 2)] (esCons (eTup (esCons (eLoc 0) (esCons (eVal (.int (.ofNat 1))) (esCons (eVal (.int (.ofNat 0))) esNil)))) (esCons (eTup (esCons (eLoc 1) (esCons (eVal (.int (.ofNat 0))) (esCons (eVal (.int (.ofNat 1))) esNil)))) esNil)))
  (sSeq (sWhile (tOf (eBin neF (eBin itemF (eLoc 3) (eVal (.int (.ofNat 0)))) (eVal (.int (.ofNat 0))))) (sSeq (sSet (gLoc 4) (eBin fdivF (eBin itemF (eLoc 2) (eVal (.int (.ofNat 0)))) (eBin itemF (eLoc 3) (eVal (.int (.ofNat 0))))))
  (sSeq (sSet (gLoc 5) (eTup (esCons (eBin subF (eBin itemF (eLoc 2) (eVal (.int (.ofNat 0)))) (eBin mulF (eLoc 4) (eBin itemF (eLoc 3) (eVal (.int (.ofNat 0)))))) (esCons (eBin subF (eBin itemF (eLoc 2) (eVal (.int (.ofNat 1)))) (eBin mulF (eLoc 4) (eBin itemF (eLoc 3) (eVal (.int (.ofNat 1)))))) (esCons (eBin subF (eBin itemF (eLoc 2) (eVal (.int (.ofNat 2)))) (eBin mulF (eLoc 4) (eBin itemF (eLoc 3) (eVal (.int (.ofNat 2)))))) esNil)))))
  (sSeq (sSwap [(gLoc 3), (gLoc 2)] (esCons (eLoc 3) (esCons (eLoc 5) esNil)))
  sNext))) 100)
  (sSeq (sRet (eIf (tOf (eBin geF (eBin itemF (eLoc 2) (eVal (.int (.ofNat 0)))) (eVal (.int (.ofNat 0))))) (eLoc 2) (eTup (esCons (eBin subF (eVal (.int (.ofNat 0))) (eBin itemF (eLoc 2) (eVal (.int (.ofNat 0))))) (esCons (eBin subF (eVal (.int (.ofNat 0))) (eBin itemF (eLoc 2) (eVal (.int (.ofNat 1))))) (esCons (eBin subF (eVal (.int (.ofNat 0))) (eBin itemF (eLoc 2) (eVal (.int (.ofNat 2))))) esNil))))))
  sNext)))
noncomputable def F_extended : List PV → Sto → Option (PV × Sto) := fun ps st => match Nat.beq ps.length 2 with | true => runF B_extended (frmOf ps (blank 4)) st | false => none
abbrev N_extended : List Str := [(Str.ofString "a"), (Str.ofString "b"), (Str.ofString "one"), (Str.ofString "other"), (Str.ofString "times"), (Str.ofString "rest")]
theorem S_extended : SimC pgm w (GG w mean mg mb) 1 21 F_extended := by
  have hnd : N_extended.Nodup := by decide
  refine simC_of (d := 0) (xs := [(Str.ofString "a"), (Str.ofString "b")]) (names := N_extended) (nb := 4) (fb := B_extended) rfl rfl (all2 fun a b => rfl) (by decide) (by decide) ?_ (by decide) rfl rfl rfl fun A h₀ L V => ?_
  · intro i x h
    rcases i with _ | _ | i <;> first | exact h | cases h
  · exact (simSs_cons (simS_swap (names := [(Str.ofString "one"), (Str.ofString "other")]) V.hh (simL_cons (simE_tup (simL_cons (simE_loc (i := 0) rfl rfl rfl rfl rfl) (simL_cons simE_int (simL_cons simE_int simL_nil rfl) rfl) rfl)) (simL_cons (simE_tup (simL_cons (simE_loc (i := 1) rfl rfl rfl rfl rfl) (simL_cons simE_int (simL_cons simE_int simL_nil rfl) rfl) rfl)) simL_nil rfl) rfl) (.cons (simG_bind (simG_loc (i := 3) rfl rfl hnd rfl rfl)) (.cons (simG_bind (simG_loc (i := 2) rfl rfl hnd rfl rfl)) .nil)) (len_cons (len_cons len_nil)) rfl rfl)
      (simSs_cons (simS_while 100 (simT_cmp (simE_item (simE_loc (i := 3) rfl rfl rfl rfl rfl) simE_int (fun _ _ => rfl)) simE_int simO_ne rfl) (simSs_cons (simS_set (simG_loc (i := 4) rfl rfl hnd rfl rfl) (simE_bin (simE_item (simE_loc (i := 2) rfl rfl rfl rfl rfl) simE_int (fun _ _ => rfl)) (simE_item (simE_loc (i := 3) rfl rfl rfl rfl rfl) simE_int (fun _ _ => rfl)) simO_fdiv) rfl)
      (simSs_cons (simS_set (simG_loc (i := 5) rfl rfl hnd rfl rfl) (simE_tup (simL_cons (simE_bin (simE_item (simE_loc (i := 2) rfl rfl rfl rfl rfl) simE_int (fun _ _ => rfl)) (simE_bin (simE_loc (i := 4) rfl rfl rfl rfl rfl) (simE_item (simE_loc (i := 3) rfl rfl rfl rfl rfl) simE_int (fun _ _ => rfl)) simO_mul) simO_sub) (simL_cons (simE_bin (simE_item (simE_loc (i := 2) rfl rfl rfl rfl rfl) simE_int (fun _ _ => rfl)) (simE_bin (simE_loc (i := 4) rfl rfl rfl rfl rfl) (simE_item (simE_loc (i := 3) rfl rfl rfl rfl rfl) simE_int (fun _ _ => rfl)) simO_mul) simO_sub) (simL_cons (simE_bin (simE_item (simE_loc (i := 2) rfl rfl rfl rfl rfl) simE_int (fun _ _ => rfl)) (simE_bin (simE_loc (i := 4) rfl rfl rfl rfl rfl) (simE_item (simE_loc (i := 3) rfl rfl rfl rfl rfl) simE_int (fun _ _ => rfl)) simO_mul) simO_sub) simL_nil rfl) rfl) rfl)) rfl)
      (simSs_cons (simS_swap (names := [(Str.ofString "one"), (Str.ofString "other")]) V.hh (simL_cons (simE_loc (i := 3) rfl rfl rfl rfl rfl) (simL_cons (simE_loc (i := 5) rfl rfl rfl rfl rfl) simL_nil rfl) rfl) (.cons (simG_bind (simG_loc (i := 3) rfl rfl hnd rfl rfl)) (.cons (simG_bind (simG_loc (i := 2) rfl rfl hnd rfl rfl)) .nil)) (len_cons (len_cons len_nil)) rfl rfl)
      simSs_nil))))
      (simSs_cons (simS_ret (simE_if (simT_cmp (simE_item (simE_loc (i := 2) rfl rfl rfl rfl rfl) simE_int (fun _ _ => rfl)) simE_int simO_ge rfl) (simE_loc (i := 2) rfl rfl rfl rfl rfl) (simE_tup (simL_cons (simE_bin simE_int (simE_item (simE_loc (i := 2) rfl rfl rfl rfl rfl) simE_int (fun _ _ => rfl)) simO_sub) (simL_cons (simE_bin simE_int (simE_item (simE_loc (i := 2) rfl rfl rfl rfl rfl) simE_int (fun _ _ => rfl)) simO_sub) (simL_cons (simE_bin simE_int (simE_item (simE_loc (i := 2) rfl rfl rfl rfl rfl) simE_int (fun _ _ => rfl)) simO_sub) simL_nil rfl) rfl) rfl))))
      simSs_nil)))

noncomputable def B_power_mod : PS :=
  (sSeq (sSwap [(gLoc 4), (gLoc 3)] (esCons (eBin modF (eVal (.int (.ofNat 1))) (eLoc 2)) (esCons (eBin modF (eLoc 0) (eLoc 2)) esNil)))
  (sSeq (sWhile (tOf (eBin gtF (eLoc 1) (eVal (.int (.ofNat 0))))) (sSeq (sIf (tOf (eBin eqF (eBin modF (eLoc 1) (eVal (.int (.ofNat 2)))) (eVal (.int (.ofNat 1))))) (sSeq (sSet (gLoc 3) (eBin modF (eBin mulF (eLoc 3) (eLoc 4)) (eLoc 2)))
  sNext) sNext)
  (sSeq (sSet (gLoc 4) (eBin modF (eBin mulF (eLoc 4) (eLoc 4)) (eLoc 2)))
  (sSeq (sSet (gLoc 1) (eBin fdivF (eLoc 1) (eVal (.int (.ofNat 2)))))
  sNext))) 100)
  (sSeq (sRet (eLoc 3))
  sNext)))
noncomputable def F_power_mod : List PV → Sto → Option (PV × Sto) := fun ps st => match Nat.beq ps.length 3 with | true => runF B_power_mod (frmOf ps (blank 2)) st | false => none
abbrev N_power_mod : List Str := [(Str.ofString "a"), (Str.ofString "n"), (Str.ofString "m"), (Str.ofString "found"), (Str.ofString "square")]
theorem S_power_mod : SimC pgm w (GG w mean mg mb) 1 28 F_power_mod := by
  have hnd : N_power_mod.Nodup := by decide
  refine simC_of (d := 0) (xs := [(Str.ofString "a"), (Str.ofString "n"), (Str.ofString "m")]) (names := N_power_mod) (nb := 2) (fb := B_power_mod) rfl rfl (all3 fun a b c => rfl) (by decide) (by decide) ?_ (by decide) rfl rfl rfl fun A h₀ L V => ?_
  · intro i x h
    rcases i with _ | _ | _ | i <;> first | exact h | cases h
  · exact (simSs_cons (simS_swap (names := [(Str.ofString "found"), (Str.ofString "square")]) V.hh (simL_cons (simE_bin simE_int (simE_loc (i := 2) rfl rfl rfl rfl rfl) simO_mod) (simL_cons (simE_bin (simE_loc (i := 0) rfl rfl rfl rfl rfl) (simE_loc (i := 2) rfl rfl rfl rfl rfl) simO_mod) simL_nil rfl) rfl) (.cons (simG_bind (simG_loc (i := 4) rfl rfl hnd rfl rfl)) (.cons (simG_bind (simG_loc (i := 3) rfl rfl hnd rfl rfl)) .nil)) (len_cons (len_cons len_nil)) rfl rfl)
      (simSs_cons (simS_while 100 (simT_cmp (simE_loc (i := 1) rfl rfl rfl rfl rfl) simE_int simO_gt rfl) (simSs_cons (simS_if (simT_cmp (simE_bin (simE_loc (i := 1) rfl rfl rfl rfl rfl) simE_int simO_mod) simE_int simO_eq rfl) (simSs_cons (simS_set (simG_loc (i := 3) rfl rfl hnd rfl rfl) (simE_bin (simE_bin (simE_loc (i := 3) rfl rfl rfl rfl rfl) (simE_loc (i := 4) rfl rfl rfl rfl rfl) simO_mul) (simE_loc (i := 2) rfl rfl rfl rfl rfl) simO_mod) rfl)
      simSs_nil) simSs_nil)
      (simSs_cons (simS_set (simG_loc (i := 4) rfl rfl hnd rfl rfl) (simE_bin (simE_bin (simE_loc (i := 4) rfl rfl rfl rfl rfl) (simE_loc (i := 4) rfl rfl rfl rfl rfl) simO_mul) (simE_loc (i := 2) rfl rfl rfl rfl rfl) simO_mod) rfl)
      (simSs_cons (simS_set (simG_loc (i := 1) rfl rfl hnd rfl rfl) (simE_bin (simE_loc (i := 1) rfl rfl rfl rfl rfl) simE_int simO_fdiv) rfl)
      simSs_nil))))
      (simSs_cons (simS_ret (simE_loc (i := 3) rfl rfl rfl rfl rfl))
      simSs_nil)))

noncomputable def B_inverse_mod : PS :=
  (sSeq (sUnpack [(gLoc 2), (gLoc 3), (gLoc 4)] (eApp F_extended (esCons (eBin modF (eLoc 0) (eLoc 1)) (esCons (eLoc 1) esNil))))
  (sSeq (sRet (eIf (tOf (eBin eqF (eLoc 2) (eVal (.int (.ofNat 1))))) (eBin modF (eLoc 3) (eLoc 1)) (eVal .none)))
  sNext))
noncomputable def F_inverse_mod : List PV → Sto → Option (PV × Sto) := fun ps st => match Nat.beq ps.length 2 with | true => runF B_inverse_mod (frmOf ps (blank 3)) st | false => none
abbrev N_inverse_mod : List Str := [(Str.ofString "a"), (Str.ofString "m"), (Str.ofString "g"), (Str.ofString "s"), (Str.ofString "t")]
theorem S_inverse_mod : SimC pgm w (GG w mean mg mb) 2 35 F_inverse_mod := by
  have hnd : N_inverse_mod.Nodup := by decide
  refine simC_of (d := 1) (xs := [(Str.ofString "a"), (Str.ofString "m")]) (names := N_inverse_mod) (nb := 3) (fb := B_inverse_mod) rfl rfl (all2 fun a b => rfl) (by decide) (by decide) ?_ (by decide) rfl rfl rfl fun A h₀ L V => ?_
  · intro i x h
    rcases i with _ | _ | i <;> first | exact h | cases h
  · exact (simSs_cons (simS_unpack V.hh (simE_call (V.le (d' := 1) (by decide)) rfl rfl rfl rfl rfl (S_extended w mean mg mb) (simL_cons (simE_bin (simE_loc (i := 0) rfl rfl rfl rfl rfl) (simE_loc (i := 1) rfl rfl rfl rfl rfl) simO_mod) (simL_cons (simE_loc (i := 1) rfl rfl rfl rfl rfl) simL_nil rfl) rfl) rfl rfl) (.cons (simG_assign (simG_loc (i := 2) rfl rfl hnd rfl rfl)) (.cons (simG_assign (simG_loc (i := 3) rfl rfl hnd rfl rfl)) (.cons (simG_assign (simG_loc (i := 4) rfl rfl hnd rfl rfl)) .nil))) rfl rfl rfl rfl)
      (simSs_cons (simS_ret (simE_if (simT_cmp (simE_loc (i := 2) rfl rfl rfl rfl rfl) simE_int simO_eq rfl) (simE_bin (simE_loc (i := 3) rfl rfl rfl rfl rfl) (simE_loc (i := 1) rfl rfl rfl rfl rfl) simO_mod) simE_none))
      simSs_nil))

noncomputable def B_least_divisor : PS :=
  (sSeq (sSet (gLoc 2) (eLoc 1))
  (sSeq (sWhile (tOf (eBin leF (eBin mulF (eLoc 2) (eLoc 2)) (eLoc 0))) (sSeq (sIf (tOf (eBin eqF (eBin modF (eLoc 0) (eLoc 2)) (eVal (.int (.ofNat 0))))) (sSeq (sRet (eLoc 2))
  sNext) sNext)
  (sSeq (sSet (gLoc 2) (eBin addF (eLoc 2) (eIf (tOf (eBin eqF (eLoc 2) (eVal (.int (.ofNat 2))))) (eVal (.int (.ofNat 1))) (eVal (.int (.ofNat 2))))))
  sNext)) 100)
  (sSeq (sRet (eLoc 0))
  sNext)))
noncomputable def F_least_divisor : List PV → Sto → Option (PV × Sto) := fun ps st => match Nat.beq ps.length 2 with | true => runF B_least_divisor (frmOf ps (blank 1)) st | false => none
abbrev N_least_divisor : List Str := [(Str.ofString "n"), (Str.ofString "begin"), (Str.ofString "found")]
theorem S_least_divisor : SimC pgm w (GG w mean mg mb) 1 42 F_least_divisor := by
  have hnd : N_least_divisor.Nodup := by decide
  refine simC_of (d := 0) (xs := [(Str.ofString "n"), (Str.ofString "begin")]) (names := N_least_divisor) (nb := 1) (fb := B_least_divisor) rfl rfl (all2 fun a b => rfl) (by decide) (by decide) ?_ (by decide) rfl rfl rfl fun A h₀ L V => ?_
  · intro i x h
    rcases i with _ | _ | i <;> first | exact h | cases h
  · exact (simSs_cons (simS_set (simG_loc (i := 2) rfl rfl hnd rfl rfl) (simE_loc (i := 1) rfl rfl rfl rfl rfl) rfl)
      (simSs_cons (simS_while 100 (simT_cmp (simE_bin (simE_loc (i := 2) rfl rfl rfl rfl rfl) (simE_loc (i := 2) rfl rfl rfl rfl rfl) simO_mul) (simE_loc (i := 0) rfl rfl rfl rfl rfl) simO_le rfl) (simSs_cons (simS_if (simT_cmp (simE_bin (simE_loc (i := 0) rfl rfl rfl rfl rfl) (simE_loc (i := 2) rfl rfl rfl rfl rfl) simO_mod) simE_int simO_eq rfl) (simSs_cons (simS_ret (simE_loc (i := 2) rfl rfl rfl rfl rfl))
      simSs_nil) simSs_nil)
      (simSs_cons (simS_aug (i := 2) rfl rfl rfl rfl (simG_loc (i := 2) rfl rfl hnd rfl rfl) (simE_if (simT_cmp (simE_loc (i := 2) rfl rfl rfl rfl rfl) simE_int simO_eq rfl) simE_int simE_int) simO_iadd)
      simSs_nil)))
      (simSs_cons (simS_ret (simE_loc (i := 0) rfl rfl rfl rfl rfl))
      simSs_nil)))

noncomputable def B_prime_factors : PS :=
  (sSeq (sSwap [(gLoc 2), (gLoc 1)] (esCons (eList esNil) (esCons (eVal (.int (.ofNat 2))) esNil)))
  (sSeq (sWhile (tOf (eBin gtF (eLoc 0) (eVal (.int (.ofNat 1))))) (sSeq (sSwap [(gLoc 3), (gLoc 2)] (esCons (eApp F_least_divisor (esCons (eLoc 0) (esCons (eLoc 2) esNil))) (esCons (eVal (.int (.ofNat 0))) esNil)))
  (sSeq (sWhile (tOf (eBin eqF (eBin modF (eLoc 0) (eLoc 2)) (eVal (.int (.ofNat 0))))) (sSeq (sSwap [(gLoc 3), (gLoc 0)] (esCons (eBin fdivF (eLoc 0) (eLoc 2)) (esCons (eBin addF (eLoc 3) (eVal (.int (.ofNat 1)))) esNil)))
  sNext) 100)
  (sSeq (sAppend (eLoc 1) (eTup (esCons (eLoc 2) (esCons (eLoc 3) esNil))))
  (sSeq (sSet (gLoc 2) (eIf (tOf (eBin eqF (eLoc 2) (eVal (.int (.ofNat 2))))) (eVal (.int (.ofNat 3))) (eBin addF (eLoc 2) (eVal (.int (.ofNat 2))))))
  sNext)))) 100)
  (sSeq (sRet (eLoc 1))
  sNext)))
noncomputable def F_prime_factors : List PV → Sto → Option (PV × Sto) := fun ps st => match Nat.beq ps.length 1 with | true => runF B_prime_factors (frmOf ps (blank 3)) st | false => none
abbrev N_prime_factors : List Str := [(Str.ofString "n"), (Str.ofString "found"), (Str.ofString "prime"), (Str.ofString "many")]
theorem S_prime_factors : SimC pgm w (GG w mean mg mb) 2 49 F_prime_factors := by
  have hnd : N_prime_factors.Nodup := by decide
  refine simC_of (d := 1) (xs := [(Str.ofString "n")]) (names := N_prime_factors) (nb := 3) (fb := B_prime_factors) rfl rfl (all1 fun a => rfl) (by decide) (by decide) ?_ (by decide) rfl rfl rfl fun A h₀ L V => ?_
  · intro i x h
    rcases i with _ | i <;> first | exact h | cases h
  · exact (simSs_cons (simS_swap (names := [(Str.ofString "found"), (Str.ofString "prime")]) V.hh (simL_cons (simE_list simL_nil) (simL_cons simE_int simL_nil rfl) rfl) (.cons (simG_bind (simG_loc (i := 2) rfl rfl hnd rfl rfl)) (.cons (simG_bind (simG_loc (i := 1) rfl rfl hnd rfl rfl)) .nil)) (len_cons (len_cons len_nil)) rfl rfl)
      (simSs_cons (simS_while 100 (simT_cmp (simE_loc (i := 0) rfl rfl rfl rfl rfl) simE_int simO_gt rfl) (simSs_cons (simS_swap (names := [(Str.ofString "prime"), (Str.ofString "many")]) V.hh (simL_cons (simE_call (V.le (d' := 1) (by decide)) rfl rfl rfl rfl rfl (S_least_divisor w mean mg mb) (simL_cons (simE_loc (i := 0) rfl rfl rfl rfl rfl) (simL_cons (simE_loc (i := 2) rfl rfl rfl rfl rfl) simL_nil rfl) rfl) rfl rfl) (simL_cons simE_int simL_nil rfl) rfl) (.cons (simG_bind (simG_loc (i := 3) rfl rfl hnd rfl rfl)) (.cons (simG_bind (simG_loc (i := 2) rfl rfl hnd rfl rfl)) .nil)) (len_cons (len_cons len_nil)) rfl rfl)
      (simSs_cons (simS_while 100 (simT_cmp (simE_bin (simE_loc (i := 0) rfl rfl rfl rfl rfl) (simE_loc (i := 2) rfl rfl rfl rfl rfl) simO_mod) simE_int simO_eq rfl) (simSs_cons (simS_swap (names := [(Str.ofString "n"), (Str.ofString "many")]) V.hh (simL_cons (simE_bin (simE_loc (i := 0) rfl rfl rfl rfl rfl) (simE_loc (i := 2) rfl rfl rfl rfl rfl) simO_fdiv) (simL_cons (simE_bin (simE_loc (i := 3) rfl rfl rfl rfl rfl) simE_int simO_add) simL_nil rfl) rfl) (.cons (simG_bind (simG_loc (i := 3) rfl rfl hnd rfl rfl)) (.cons (simG_bind (simG_loc (i := 0) rfl rfl hnd rfl rfl)) .nil)) (len_cons (len_cons len_nil)) rfl rfl)
      simSs_nil))
      (simSs_cons (simS_append (simE_loc (i := 1) rfl rfl rfl rfl rfl) (simE_tup (simL_cons (simE_loc (i := 2) rfl rfl rfl rfl rfl) (simL_cons (simE_loc (i := 3) rfl rfl rfl rfl rfl) simL_nil rfl) rfl)) rfl rfl rfl)
      (simSs_cons (simS_set (simG_loc (i := 2) rfl rfl hnd rfl rfl) (simE_if (simT_cmp (simE_loc (i := 2) rfl rfl rfl rfl rfl) simE_int simO_eq rfl) simE_int (simE_bin (simE_loc (i := 2) rfl rfl rfl rfl rfl) simE_int simO_add)) rfl)
      simSs_nil)))))
      (simSs_cons (simS_ret (simE_loc (i := 1) rfl rfl rfl rfl rfl))
      simSs_nil)))

noncomputable def B_mtrim : PS :=
  (sSeq (sSet (gLoc 1) (eApp lenF (esCons (eLoc 0) esNil)))
  (sSeq (sWhile (tAnd (tOf (eBin gtF (eLoc 1) (eVal (.int (.ofNat 0))))) (tOf (eBin eqF (eBin itemF (eLoc 0) (eBin subF (eLoc 1) (eVal (.int (.ofNat 1))))) (eVal (.int (.ofNat 0)))))) (sSeq (sSet (gLoc 1) (eBin subF (eLoc 1) (eVal (.int (.ofNat 1)))))
  sNext) 100)
  (sSeq (sRet (eApp listF (esCons (eBin cutF (eLoc 0) (eLoc 1)) esNil)))
  sNext)))
noncomputable def F_mtrim : List PV → Sto → Option (PV × Sto) := fun ps st => match Nat.beq ps.length 1 with | true => runF B_mtrim (frmOf ps (blank 1)) st | false => none
abbrev N_mtrim : List Str := [(Str.ofString "a"), (Str.ofString "many")]
theorem S_mtrim : SimC pgm w (GG w mean mg mb) 1 76 F_mtrim := by
  have hnd : N_mtrim.Nodup := by decide
  refine simC_of (d := 0) (xs := [(Str.ofString "a")]) (names := N_mtrim) (nb := 1) (fb := B_mtrim) rfl rfl (all1 fun a => rfl) (by decide) (by decide) ?_ (by decide) rfl rfl rfl fun A h₀ L V => ?_
  · intro i x h
    rcases i with _ | i <;> first | exact h | cases h
  · exact (simSs_cons (simS_set (simG_loc (i := 1) rfl rfl hnd rfl rfl) (simE_builtin V rfl b_len (by decide) rfl rfl (simL_cons (simE_loc (i := 0) rfl rfl rfl rfl rfl) simL_nil rfl) simF_len rfl rfl rfl) rfl)
      (simSs_cons (simS_while 100 (simT_and (simT_cmp (simE_loc (i := 1) rfl rfl rfl rfl rfl) simE_int simO_gt rfl) (simT_cmp (simE_item (simE_loc (i := 0) rfl rfl rfl rfl rfl) (simE_bin (simE_loc (i := 1) rfl rfl rfl rfl rfl) simE_int simO_sub) (fun _ _ => rfl)) simE_int simO_eq rfl)) (simSs_cons (simS_set (simG_loc (i := 1) rfl rfl hnd rfl rfl) (simE_bin (simE_loc (i := 1) rfl rfl rfl rfl rfl) simE_int simO_sub) rfl)
      simSs_nil))
      (simSs_cons (simS_ret (simE_type V rfl b_list (by decide) rfl rfl (simL_cons (simE_cut (simE_loc (i := 0) rfl rfl rfl rfl rfl) (simE_loc (i := 1) rfl rfl rfl rfl rfl) (fun _ _ => rfl)) simL_nil rfl) simF_list rfl rfl rfl))
      simSs_nil)))

noncomputable def B_mdegree : PS :=
  (sSeq (sRet (eBin subF (eApp lenF (esCons (eLoc 0) esNil)) (eVal (.int (.ofNat 1)))))
  sNext)
noncomputable def F_mdegree : List PV → Sto → Option (PV × Sto) := fun ps st => match Nat.beq ps.length 1 with | true => runF B_mdegree (frmOf ps (blank 0)) st | false => none
abbrev N_mdegree : List Str := [(Str.ofString "a")]
theorem S_mdegree : SimC pgm w (GG w mean mg mb) 1 83 F_mdegree := by
  have hnd : N_mdegree.Nodup := by decide
  refine simC_of (d := 0) (xs := [(Str.ofString "a")]) (names := N_mdegree) (nb := 0) (fb := B_mdegree) rfl rfl (all1 fun a => rfl) (by decide) (by decide) ?_ (by decide) rfl rfl rfl fun A h₀ L V => ?_
  · intro i x h
    rcases i with _ | i <;> first | exact h | cases h
  · exact (simSs_cons (simS_ret (simE_bin (simE_builtin V rfl b_len (by decide) rfl rfl (simL_cons (simE_loc (i := 0) rfl rfl rfl rfl rfl) simL_nil rfl) simF_len rfl rfl rfl) simE_int simO_sub))
      simSs_nil)

noncomputable def B_mmul : PS :=
  (sSeq (sIf (tOr (tOf (eBin eqF (eApp lenF (esCons (eLoc 0) esNil)) (eVal (.int (.ofNat 0))))) (tOf (eBin eqF (eApp lenF (esCons (eLoc 1) esNil)) (eVal (.int (.ofNat 0)))))) (sSeq (sRet (eList esNil))
  sNext) sNext)
  (sSeq (sSet (gLoc 3) (eBin mulL (eList (esCons (eVal (.int (.ofNat 0))) esNil)) (eBin subF (eBin addF (eApp lenF (esCons (eLoc 0) esNil)) (eApp lenF (esCons (eLoc 1) esNil))) (eVal (.int (.ofNat 1))))))
  (sSeq (sFor (startL (eLoc 0)) nextE (gUnp [(gLoc 4), (gLoc 5)]) (sSeq (sIf (tOf (eBin neF (eLoc 5) (eVal (.int (.ofNat 0))))) (sSeq (sFor (startL (eLoc 1)) nextE (gUnp [(gLoc 6), (gLoc 7)]) (sSeq (sPut (eBin modF (eBin addF (eBin itemF (eLoc 3) (eBin addF (eLoc 4) (eLoc 6))) (eBin mulF (eLoc 5) (eLoc 7))) (eLoc 2)) (eLoc 3) (eBin addF (eLoc 4) (eLoc 6)))
  sNext) 100)
  sNext) sNext)
  sNext) 100)
  (sSeq (sRet (eApp F_mtrim (esCons (eLoc 3) esNil)))
  sNext))))
noncomputable def F_mmul : List PV → Sto → Option (PV × Sto) := fun ps st => match Nat.beq ps.length 3 with | true => runF B_mmul (frmOf ps (blank 5)) st | false => none
abbrev N_mmul : List Str := [(Str.ofString "a"), (Str.ofString "b"), (Str.ofString "p"), (Str.ofString "found"), (Str.ofString "at"), (Str.ofString "one"), (Str.ofString "spot"), (Str.ofString "other")]
theorem S_mmul : SimC pgm w (GG w mean mg mb) 2 114 F_mmul := by
  have hnd : N_mmul.Nodup := by decide
  refine simC_of (d := 1) (xs := [(Str.ofString "a"), (Str.ofString "b"), (Str.ofString "p")]) (names := N_mmul) (nb := 5) (fb := B_mmul) rfl rfl (all3 fun a b c => rfl) (by decide) (by decide) ?_ (by decide) rfl rfl rfl fun A h₀ L V => ?_
  · intro i x h
    rcases i with _ | _ | _ | i <;> first | exact h | cases h
  · exact (simSs_cons (simS_if (simT_or (simT_cmp (simE_builtin V rfl b_len (by decide) rfl rfl (simL_cons (simE_loc (i := 0) rfl rfl rfl rfl rfl) simL_nil rfl) simF_len rfl rfl rfl) simE_int simO_eq rfl) (simT_cmp (simE_builtin V rfl b_len (by decide) rfl rfl (simL_cons (simE_loc (i := 1) rfl rfl rfl rfl rfl) simL_nil rfl) simF_len rfl rfl rfl) simE_int simO_eq rfl)) (simSs_cons (simS_ret (simE_list simL_nil))
      simSs_nil) simSs_nil)
      (simSs_cons (simS_set (simG_loc (i := 3) rfl rfl hnd rfl rfl) (simE_bin (simE_list (simL_cons simE_int simL_nil rfl)) (simE_bin (simE_bin (simE_builtin V rfl b_len (by decide) rfl rfl (simL_cons (simE_loc (i := 0) rfl rfl rfl rfl rfl) simL_nil rfl) simF_len rfl rfl rfl) (simE_builtin V rfl b_len (by decide) rfl rfl (simL_cons (simE_loc (i := 1) rfl rfl rfl rfl rfl) simL_nil rfl) simF_len rfl rfl rfl) simO_add) simE_int simO_sub) simO_mulL) rfl)
      (simSs_cons (simS_for 100 PlE_mono (simIter_enum V rfl rfl (simE_loc (i := 0) rfl rfl rfl rfl rfl) rfl b_enumerate rfl) (simNext_enum V.hh) (simG_tuple V.hh (.cons (simG_assign (simG_loc (i := 4) rfl rfl hnd rfl rfl)) (.cons (simG_assign (simG_loc (i := 5) rfl rfl hnd rfl rfl)) .nil)) rfl rfl) (simSs_cons (simS_if (simT_cmp (simE_loc (i := 5) rfl rfl rfl rfl rfl) simE_int simO_ne rfl) (simSs_cons (simS_for 100 PlE_mono (simIter_enum V rfl rfl (simE_loc (i := 1) rfl rfl rfl rfl rfl) rfl b_enumerate rfl) (simNext_enum V.hh) (simG_tuple V.hh (.cons (simG_assign (simG_loc (i := 6) rfl rfl hnd rfl rfl)) (.cons (simG_assign (simG_loc (i := 7) rfl rfl hnd rfl rfl)) .nil)) rfl rfl) (simSs_cons (simS_put (simE_bin (simE_bin (simE_item (simE_loc (i := 3) rfl rfl rfl rfl rfl) (simE_bin (simE_loc (i := 4) rfl rfl rfl rfl rfl) (simE_loc (i := 6) rfl rfl rfl rfl rfl) simO_add) (fun _ _ => rfl)) (simE_bin (simE_loc (i := 5) rfl rfl rfl rfl rfl) (simE_loc (i := 7) rfl rfl rfl rfl rfl) simO_mul) simO_add) (simE_loc (i := 2) rfl rfl rfl rfl rfl) simO_mod) (simE_loc (i := 3) rfl rfl rfl rfl rfl) (simE_bin (simE_loc (i := 4) rfl rfl rfl rfl rfl) (simE_loc (i := 6) rfl rfl rfl rfl rfl) simO_add) rfl)
      simSs_nil) (fun _ => rfl))
      simSs_nil) simSs_nil)
      simSs_nil) (fun _ => rfl))
      (simSs_cons (simS_ret (simE_call (V.le (d' := 1) (by decide)) rfl rfl rfl rfl rfl (S_mtrim w mean mg mb) (simL_cons (simE_loc (i := 3) rfl rfl rfl rfl rfl) simL_nil rfl) rfl rfl))
      simSs_nil))))

noncomputable def B_mdivmod : PS :=
  (sSeq (sSwap [(gLoc 4), (gLoc 3)] (esCons (eApp listF (esCons (eLoc 0) esNil)) (esCons (eBin mulL (eList (esCons (eVal (.int (.ofNat 0))) esNil)) (eApp maxF (esCons (eVal (.int (.ofNat 0))) (esCons (eBin addF (eBin subF (eApp lenF (esCons (eLoc 0) esNil)) (eApp lenF (esCons (eLoc 1) esNil))) (eVal (.int (.ofNat 1)))) esNil)))) esNil)))
  (sSeq (sSet (gLoc 5) (eApp F_inverse_mod (esCons (eBin itemF (eLoc 1) (eUn negF (eVal (.int (.ofNat 1))))) (esCons (eLoc 2) esNil))))
  (sSeq (sFor (startR (-1) (esCons (eBin subF (eApp lenF (esCons (eLoc 0) esNil)) (eApp lenF (esCons (eLoc 1) esNil))) (esCons (eUn negF (eVal (.int (.ofNat 1)))) (esCons (eUn negF (eVal (.int (.ofNat 1)))) esNil)))) (nextR (-1)) (gLoc 6) sFail 100)
  (sSeq (sRet (eTup (esCons (eApp F_mtrim (esCons (eLoc 4) esNil)) (esCons (eApp F_mtrim (esCons (eBin cutF (eLoc 3) (eBin subF (eApp lenF (esCons (eLoc 1) esNil)) (eVal (.int (.ofNat 1))))) esNil)) esNil))))
  sNext))))
noncomputable def F_mdivmod : List PV → Sto → Option (PV × Sto) := fun ps st => match Nat.beq ps.length 3 with | true => runF B_mdivmod (frmOf ps (blank 7)) st | false => none
abbrev N_mdivmod : List Str := [(Str.ofString "a"), (Str.ofString "b"), (Str.ofString "p"), (Str.ofString "rest"), (Str.ofString "quotient"), (Str.ofString "turn"), (Str.ofString "at"), (Str.ofString "number"), (Str.ofString "spot"), (Str.ofString "other")]
theorem S_mdivmod : SimC pgm w (GG w mean mg mb) 3 121 F_mdivmod := by
  have hnd : N_mdivmod.Nodup := by decide
  refine simC_of (d := 2) (xs := [(Str.ofString "a"), (Str.ofString "b"), (Str.ofString "p")]) (names := N_mdivmod) (nb := 7) (fb := B_mdivmod) rfl rfl (all3 fun a b c => rfl) (by decide) (by decide) ?_ (by decide) rfl rfl rfl fun A h₀ L V => ?_
  · intro i x h
    rcases i with _ | _ | _ | i <;> first | exact h | cases h
  · exact (simSs_cons (simS_swap (names := [(Str.ofString "rest"), (Str.ofString "quotient")]) V.hh (simL_cons (simE_type V rfl b_list (by decide) rfl rfl (simL_cons (simE_loc (i := 0) rfl rfl rfl rfl rfl) simL_nil rfl) simF_list rfl rfl rfl) (simL_cons (simE_bin (simE_list (simL_cons simE_int simL_nil rfl)) (simE_builtin V rfl b_max (by decide) rfl rfl (simL_cons simE_int (simL_cons (simE_bin (simE_bin (simE_builtin V rfl b_len (by decide) rfl rfl (simL_cons (simE_loc (i := 0) rfl rfl rfl rfl rfl) simL_nil rfl) simF_len rfl rfl rfl) (simE_builtin V rfl b_len (by decide) rfl rfl (simL_cons (simE_loc (i := 1) rfl rfl rfl rfl rfl) simL_nil rfl) simF_len rfl rfl rfl) simO_sub) simE_int simO_add) simL_nil rfl) rfl) (simF_max V.hh) rfl rfl rfl) simO_mulL) simL_nil rfl) rfl) (.cons (simG_bind (simG_loc (i := 4) rfl rfl hnd rfl rfl)) (.cons (simG_bind (simG_loc (i := 3) rfl rfl hnd rfl rfl)) .nil)) (len_cons (len_cons len_nil)) rfl rfl)
      (simSs_cons (simS_set (simG_loc (i := 5) rfl rfl hnd rfl rfl) (simE_call (V.le (d' := 2) (by decide)) rfl rfl rfl rfl rfl (S_inverse_mod w mean mg mb) (simL_cons (simE_item (simE_loc (i := 1) rfl rfl rfl rfl rfl) (simE_un simE_int simO_neg) (fun _ _ => rfl)) (simL_cons (simE_loc (i := 2) rfl rfl rfl rfl rfl) simL_nil rfl) rfl) rfl rfl) rfl)
      (simSs_cons (simS_for 100 PlR_mono (simIter_range (-1) (by decide) V rfl rfl (simL_cons (simE_bin (simE_builtin V rfl b_len (by decide) rfl rfl (simL_cons (simE_loc (i := 0) rfl rfl rfl rfl rfl) simL_nil rfl) simF_len rfl rfl rfl) (simE_builtin V rfl b_len (by decide) rfl rfl (simL_cons (simE_loc (i := 1) rfl rfl rfl rfl rfl) simL_nil rfl) simF_len rfl rfl rfl) simO_sub) (simL_cons (simE_un simE_int simO_neg) (simL_cons (simE_un simE_int simO_neg) simL_nil rfl) rfl) rfl) rfl rfl rfl) (simNext_range V.hh) (simG_assign (simG_loc (i := 6) rfl rfl hnd rfl rfl)) simS_fail (fun _ => rfl))
      (simSs_cons (simS_ret (simE_tup (simL_cons (simE_call (V.le (d' := 1) (by decide)) rfl rfl rfl rfl rfl (S_mtrim w mean mg mb) (simL_cons (simE_loc (i := 4) rfl rfl rfl rfl rfl) simL_nil rfl) rfl rfl) (simL_cons (simE_call (V.le (d' := 1) (by decide)) rfl rfl rfl rfl rfl (S_mtrim w mean mg mb) (simL_cons (simE_cut (simE_loc (i := 3) rfl rfl rfl rfl rfl) (simE_bin (simE_builtin V rfl b_len (by decide) rfl rfl (simL_cons (simE_loc (i := 1) rfl rfl rfl rfl rfl) simL_nil rfl) simF_len rfl rfl rfl) simE_int simO_sub) (fun _ _ => rfl)) simL_nil rfl) rfl rfl) simL_nil rfl) rfl)))
      simSs_nil))))

noncomputable def B_mrest : PS :=
  (sSeq (sRet (eBin itemF (eApp F_mdivmod (esCons (eLoc 0) (esCons (eLoc 1) (esCons (eLoc 2) esNil)))) (eVal (.int (.ofNat 1)))))
  sNext)
noncomputable def F_mrest : List PV → Sto → Option (PV × Sto) := fun ps st => match Nat.beq ps.length 3 with | true => runF B_mrest (frmOf ps (blank 0)) st | false => none
abbrev N_mrest : List Str := [(Str.ofString "a"), (Str.ofString "b"), (Str.ofString "p")]
theorem S_mrest : SimC pgm w (GG w mean mg mb) 4 128 F_mrest := by
  have hnd : N_mrest.Nodup := by decide
  refine simC_of (d := 3) (xs := [(Str.ofString "a"), (Str.ofString "b"), (Str.ofString "p")]) (names := N_mrest) (nb := 0) (fb := B_mrest) rfl rfl (all3 fun a b c => rfl) (by decide) (by decide) ?_ (by decide) rfl rfl rfl fun A h₀ L V => ?_
  · intro i x h
    rcases i with _ | _ | _ | i <;> first | exact h | cases h
  · exact (simSs_cons (simS_ret (simE_item (simE_call (V.le (d' := 3) (by decide)) rfl rfl rfl rfl rfl (S_mdivmod w mean mg mb) (simL_cons (simE_loc (i := 0) rfl rfl rfl rfl rfl) (simL_cons (simE_loc (i := 1) rfl rfl rfl rfl rfl) (simL_cons (simE_loc (i := 2) rfl rfl rfl rfl rfl) simL_nil rfl) rfl) rfl) rfl rfl) simE_int (fun _ _ => rfl)))
      simSs_nil)

noncomputable def B_counted : PS :=
  (sSeq (sSet (gLoc 2) (eList esNil))
  (sSeq (sWhile (tOf (eBin gtF (eLoc 0) (eVal (.int (.ofNat 0))))) (sSeq (sAppend (eLoc 2) (eBin modF (eLoc 0) (eLoc 1)))
  (sSeq (sSet (gLoc 0) (eBin fdivF (eLoc 0) (eLoc 1)))
  sNext)) 100)
  (sSeq (sRet (eApp F_mtrim (esCons (eLoc 2) esNil)))
  sNext)))
noncomputable def F_counted : List PV → Sto → Option (PV × Sto) := fun ps st => match Nat.beq ps.length 2 with | true => runF B_counted (frmOf ps (blank 1)) st | false => none
abbrev N_counted : List Str := [(Str.ofString "number"), (Str.ofString "p"), (Str.ofString "found")]
theorem S_counted : SimC pgm w (GG w mean mg mb) 2 149 F_counted := by
  have hnd : N_counted.Nodup := by decide
  refine simC_of (d := 1) (xs := [(Str.ofString "number"), (Str.ofString "p")]) (names := N_counted) (nb := 1) (fb := B_counted) rfl rfl (all2 fun a b => rfl) (by decide) (by decide) ?_ (by decide) rfl rfl rfl fun A h₀ L V => ?_
  · intro i x h
    rcases i with _ | _ | i <;> first | exact h | cases h
  · exact (simSs_cons (simS_set (simG_loc (i := 2) rfl rfl hnd rfl rfl) (simE_list simL_nil) rfl)
      (simSs_cons (simS_while 100 (simT_cmp (simE_loc (i := 0) rfl rfl rfl rfl rfl) simE_int simO_gt rfl) (simSs_cons (simS_append (simE_loc (i := 2) rfl rfl rfl rfl rfl) (simE_bin (simE_loc (i := 0) rfl rfl rfl rfl rfl) (simE_loc (i := 1) rfl rfl rfl rfl rfl) simO_mod) rfl rfl rfl)
      (simSs_cons (simS_set (simG_loc (i := 0) rfl rfl hnd rfl rfl) (simE_bin (simE_loc (i := 0) rfl rfl rfl rfl rfl) (simE_loc (i := 1) rfl rfl rfl rfl rfl) simO_fdiv) rfl)
      simSs_nil)))
      (simSs_cons (simS_ret (simE_call (V.le (d' := 1) (by decide)) rfl rfl rfl rfl rfl (S_mtrim w mean mg mb) (simL_cons (simE_loc (i := 2) rfl rfl rfl rfl rfl) simL_nil rfl) rfl rfl))
      simSs_nil)))

noncomputable def B_gf_size : PS :=
  (sSeq (sRet (eBin powF (eLoc 1) (eApp F_mdegree (esCons (eLoc 0) esNil))))
  sNext)
noncomputable def F_gf_size : List PV → Sto → Option (PV × Sto) := fun ps st => match Nat.beq ps.length 2 with | true => runF B_gf_size (frmOf ps (blank 0)) st | false => none
abbrev N_gf_size : List Str := [(Str.ofString "m"), (Str.ofString "p")]
theorem S_gf_size : SimC pgm w (GG w mean mg mb) 2 156 F_gf_size := by
  have hnd : N_gf_size.Nodup := by decide
  refine simC_of (d := 1) (xs := [(Str.ofString "m"), (Str.ofString "p")]) (names := N_gf_size) (nb := 0) (fb := B_gf_size) rfl rfl (all2 fun a b => rfl) (by decide) (by decide) ?_ (by decide) rfl rfl rfl fun A h₀ L V => ?_
  · intro i x h
    rcases i with _ | _ | i <;> first | exact h | cases h
  · exact (simSs_cons (simS_ret (simE_bin (simE_loc (i := 1) rfl rfl rfl rfl rfl) (simE_call (V.le (d' := 1) (by decide)) rfl rfl rfl rfl rfl (S_mdegree w mean mg mb) (simL_cons (simE_loc (i := 0) rfl rfl rfl rfl rfl) simL_nil rfl) rfl rfl) simO_pow))
      simSs_nil)

noncomputable def B_gf_multiply : PS :=
  (sSeq (sRet (eApp F_mrest (esCons (eApp F_mmul (esCons (eLoc 0) (esCons (eLoc 1) (esCons (eLoc 3) esNil)))) (esCons (eLoc 2) (esCons (eLoc 3) esNil)))))
  sNext)
noncomputable def F_gf_multiply : List PV → Sto → Option (PV × Sto) := fun ps st => match Nat.beq ps.length 4 with | true => runF B_gf_multiply (frmOf ps (blank 0)) st | false => none
abbrev N_gf_multiply : List Str := [(Str.ofString "a"), (Str.ofString "b"), (Str.ofString "m"), (Str.ofString "p")]
theorem S_gf_multiply : SimC pgm w (GG w mean mg mb) 5 163 F_gf_multiply := by
  have hnd : N_gf_multiply.Nodup := by decide
  refine simC_of (d := 4) (xs := [(Str.ofString "a"), (Str.ofString "b"), (Str.ofString "m"), (Str.ofString "p")]) (names := N_gf_multiply) (nb := 0) (fb := B_gf_multiply) rfl rfl (all4 fun a b c d => rfl) (by decide) (by decide) ?_ (by decide) rfl rfl rfl fun A h₀ L V => ?_
  · intro i x h
    rcases i with _ | _ | _ | _ | i <;> first | exact h | cases h
  · exact (simSs_cons (simS_ret (simE_call (V.le (d' := 4) (by decide)) rfl rfl rfl rfl rfl (S_mrest w mean mg mb) (simL_cons (simE_call (V.le (d' := 2) (by decide)) rfl rfl rfl rfl rfl (S_mmul w mean mg mb) (simL_cons (simE_loc (i := 0) rfl rfl rfl rfl rfl) (simL_cons (simE_loc (i := 1) rfl rfl rfl rfl rfl) (simL_cons (simE_loc (i := 3) rfl rfl rfl rfl rfl) simL_nil rfl) rfl) rfl) rfl rfl) (simL_cons (simE_loc (i := 2) rfl rfl rfl rfl rfl) (simL_cons (simE_loc (i := 3) rfl rfl rfl rfl rfl) simL_nil rfl) rfl) rfl) rfl rfl))
      simSs_nil)

noncomputable def B_gf_power : PS :=
  (sSeq (sIf (tOf (eBin ltF (eLoc 1) (eVal (.int (.ofNat 0))))) sFail sNext)
  (sSeq (sSwap [(gLoc 5), (gLoc 4)] (esCons (eList (esCons (eVal (.int (.ofNat 1))) esNil)) (esCons (eApp listF (esCons (eLoc 0) esNil)) esNil)))
  (sSeq (sWhile (tOf (eBin gtF (eLoc 1) (eVal (.int (.ofNat 0))))) (sSeq (sIf (tOf (eBin eqF (eBin modF (eLoc 1) (eVal (.int (.ofNat 2)))) (eVal (.int (.ofNat 1))))) (sSeq (sSet (gLoc 4) (eApp F_gf_multiply (esCons (eLoc 4) (esCons (eLoc 5) (esCons (eLoc 2) (esCons (eLoc 3) esNil))))))
  sNext) sNext)
  (sSeq (sSet (gLoc 1) (eBin fdivF (eLoc 1) (eVal (.int (.ofNat 2)))))
  (sSeq (sIf (tOf (eBin gtF (eLoc 1) (eVal (.int (.ofNat 0))))) (sSeq (sSet (gLoc 5) (eApp F_gf_multiply (esCons (eLoc 5) (esCons (eLoc 5) (esCons (eLoc 2) (esCons (eLoc 3) esNil))))))
  sNext) sNext)
  sNext))) 100)
  (sSeq (sRet (eLoc 4))
  sNext))))
noncomputable def F_gf_power : List PV → Sto → Option (PV × Sto) := fun ps st => match Nat.beq ps.length 4 with | true => runF B_gf_power (frmOf ps (blank 2)) st | false => none
abbrev N_gf_power : List Str := [(Str.ofString "a"), (Str.ofString "n"), (Str.ofString "m"), (Str.ofString "p"), (Str.ofString "found"), (Str.ofString "square")]
theorem S_gf_power : SimC pgm w (GG w mean mg mb) 6 177 F_gf_power := by
  have hnd : N_gf_power.Nodup := by decide
  refine simC_of (d := 5) (xs := [(Str.ofString "a"), (Str.ofString "n"), (Str.ofString "m"), (Str.ofString "p")]) (names := N_gf_power) (nb := 2) (fb := B_gf_power) rfl rfl (all4 fun a b c d => rfl) (by decide) (by decide) ?_ (by decide) rfl rfl rfl fun A h₀ L V => ?_
  · intro i x h
    rcases i with _ | _ | _ | _ | i <;> first | exact h | cases h
  · exact (simSs_cons (simS_if (simT_cmp (simE_loc (i := 1) rfl rfl rfl rfl rfl) simE_int simO_lt rfl) simS_fail simSs_nil)
      (simSs_cons (simS_swap (names := [(Str.ofString "found"), (Str.ofString "square")]) V.hh (simL_cons (simE_list (simL_cons simE_int simL_nil rfl)) (simL_cons (simE_type V rfl b_list (by decide) rfl rfl (simL_cons (simE_loc (i := 0) rfl rfl rfl rfl rfl) simL_nil rfl) simF_list rfl rfl rfl) simL_nil rfl) rfl) (.cons (simG_bind (simG_loc (i := 5) rfl rfl hnd rfl rfl)) (.cons (simG_bind (simG_loc (i := 4) rfl rfl hnd rfl rfl)) .nil)) (len_cons (len_cons len_nil)) rfl rfl)
      (simSs_cons (simS_while 100 (simT_cmp (simE_loc (i := 1) rfl rfl rfl rfl rfl) simE_int simO_gt rfl) (simSs_cons (simS_if (simT_cmp (simE_bin (simE_loc (i := 1) rfl rfl rfl rfl rfl) simE_int simO_mod) simE_int simO_eq rfl) (simSs_cons (simS_set (simG_loc (i := 4) rfl rfl hnd rfl rfl) (simE_call (V.le (d' := 5) (by decide)) rfl rfl rfl rfl rfl (S_gf_multiply w mean mg mb) (simL_cons (simE_loc (i := 4) rfl rfl rfl rfl rfl) (simL_cons (simE_loc (i := 5) rfl rfl rfl rfl rfl) (simL_cons (simE_loc (i := 2) rfl rfl rfl rfl rfl) (simL_cons (simE_loc (i := 3) rfl rfl rfl rfl rfl) simL_nil rfl) rfl) rfl) rfl) rfl rfl) rfl)
      simSs_nil) simSs_nil)
      (simSs_cons (simS_set (simG_loc (i := 1) rfl rfl hnd rfl rfl) (simE_bin (simE_loc (i := 1) rfl rfl rfl rfl rfl) simE_int simO_fdiv) rfl)
      (simSs_cons (simS_if (simT_cmp (simE_loc (i := 1) rfl rfl rfl rfl rfl) simE_int simO_gt rfl) (simSs_cons (simS_set (simG_loc (i := 5) rfl rfl hnd rfl rfl) (simE_call (V.le (d' := 5) (by decide)) rfl rfl rfl rfl rfl (S_gf_multiply w mean mg mb) (simL_cons (simE_loc (i := 5) rfl rfl rfl rfl rfl) (simL_cons (simE_loc (i := 5) rfl rfl rfl rfl rfl) (simL_cons (simE_loc (i := 2) rfl rfl rfl rfl rfl) (simL_cons (simE_loc (i := 3) rfl rfl rfl rfl rfl) simL_nil rfl) rfl) rfl) rfl) rfl rfl) rfl)
      simSs_nil) simSs_nil)
      simSs_nil))))
      (simSs_cons (simS_ret (simE_loc (i := 4) rfl rfl rfl rfl rfl))
      simSs_nil))))

noncomputable def B_gf_order : PS :=
  (sSeq (sIf (tOf (eBin eqF (eApp lenF (esCons (eLoc 0) esNil)) (eVal (.int (.ofNat 0))))) sFail sNext)
  (sSeq (sSet (gLoc 3) (eBin subF (eApp F_gf_size (esCons (eLoc 1) (esCons (eLoc 2) esNil))) (eVal (.int (.ofNat 1)))))
  (sSeq (sFor (startL (eApp F_prime_factors (esCons (eLoc 3) esNil))) nextL (gUnp [(gLoc 4), (gLoc 5)]) (sSeq (sFor (startR 1 (esCons (eLoc 5) esNil)) (nextR 1) (gLoc 6) (sSeq (sIf (tOf (eBin eqL (eApp F_gf_power (esCons (eLoc 0) (esCons (eBin fdivF (eLoc 3) (eLoc 4)) (esCons (eLoc 1) (esCons (eLoc 2) esNil))))) (eList (esCons (eVal (.int (.ofNat 1))) esNil)))) (sSeq (sSet (gLoc 3) (eBin fdivF (eLoc 3) (eLoc 4)))
  sNext) sNext)
  sNext) 100)
  sNext) 100)
  (sSeq (sRet (eLoc 3))
  sNext))))
noncomputable def F_gf_order : List PV → Sto → Option (PV × Sto) := fun ps st => match Nat.beq ps.length 3 with | true => runF B_gf_order (frmOf ps (blank 4)) st | false => none
abbrev N_gf_order : List Str := [(Str.ofString "a"), (Str.ofString "m"), (Str.ofString "p"), (Str.ofString "order"), (Str.ofString "prime"), (Str.ofString "many"), (Str.ofString "turn")]
theorem S_gf_order : SimC pgm w (GG w mean mg mb) 7 184 F_gf_order := by
  have hnd : N_gf_order.Nodup := by decide
  refine simC_of (d := 6) (xs := [(Str.ofString "a"), (Str.ofString "m"), (Str.ofString "p")]) (names := N_gf_order) (nb := 4) (fb := B_gf_order) rfl rfl (all3 fun a b c => rfl) (by decide) (by decide) ?_ (by decide) rfl rfl rfl fun A h₀ L V => ?_
  · intro i x h
    rcases i with _ | _ | _ | i <;> first | exact h | cases h
  · exact (simSs_cons (simS_if (simT_cmp (simE_builtin V rfl b_len (by decide) rfl rfl (simL_cons (simE_loc (i := 0) rfl rfl rfl rfl rfl) simL_nil rfl) simF_len rfl rfl rfl) simE_int simO_eq rfl) simS_fail simSs_nil)
      (simSs_cons (simS_set (simG_loc (i := 3) rfl rfl hnd rfl rfl) (simE_bin (simE_call (V.le (d' := 2) (by decide)) rfl rfl rfl rfl rfl (S_gf_size w mean mg mb) (simL_cons (simE_loc (i := 1) rfl rfl rfl rfl rfl) (simL_cons (simE_loc (i := 2) rfl rfl rfl rfl rfl) simL_nil rfl) rfl) rfl rfl) simE_int simO_sub) rfl)
      (simSs_cons (simS_for 100 PlL_mono (simIter_list (simE_call (V.le (d' := 2) (by decide)) rfl rfl rfl rfl rfl (S_prime_factors w mean mg mb) (simL_cons (simE_loc (i := 3) rfl rfl rfl rfl rfl) simL_nil rfl) rfl rfl)) (simNext_list V.hh letGo_tuple) (simG_tuple V.hh (.cons (simG_assign (simG_loc (i := 4) rfl rfl hnd rfl rfl)) (.cons (simG_assign (simG_loc (i := 5) rfl rfl hnd rfl rfl)) .nil)) rfl rfl) (simSs_cons (simS_for 100 PlR_mono (simIter_range 1 (by decide) V rfl rfl (simL_cons (simE_loc (i := 5) rfl rfl rfl rfl rfl) simL_nil rfl) rfl rfl rfl) (simNext_range V.hh) (simG_assign (simG_loc (i := 6) rfl rfl hnd rfl rfl)) (simSs_cons (simS_if (simT_cmp (simE_call (V.le (d' := 6) (by decide)) rfl rfl rfl rfl rfl (S_gf_power w mean mg mb) (simL_cons (simE_loc (i := 0) rfl rfl rfl rfl rfl) (simL_cons (simE_bin (simE_loc (i := 3) rfl rfl rfl rfl rfl) (simE_loc (i := 4) rfl rfl rfl rfl rfl) simO_fdiv) (simL_cons (simE_loc (i := 1) rfl rfl rfl rfl rfl) (simL_cons (simE_loc (i := 2) rfl rfl rfl rfl rfl) simL_nil rfl) rfl) rfl) rfl) rfl rfl) (simE_list (simL_cons simE_int simL_nil rfl)) (simO_eqL V.u64) rfl) (simSs_cons (simS_set (simG_loc (i := 3) rfl rfl hnd rfl rfl) (simE_bin (simE_loc (i := 3) rfl rfl rfl rfl rfl) (simE_loc (i := 4) rfl rfl rfl rfl rfl) simO_fdiv) rfl)
      simSs_nil) simSs_nil)
      simSs_nil) (fun _ => rfl))
      simSs_nil) (fun _ => rfl))
      (simSs_cons (simS_ret (simE_loc (i := 3) rfl rfl rfl rfl rfl))
      simSs_nil))))

noncomputable def B_gf_generator : PS :=
  (sSeq (sSwap [(gLoc 3), (gLoc 2)] (esCons (eVal (.int (.ofNat 1))) (esCons (eBin subF (eApp F_gf_size (esCons (eLoc 0) (esCons (eLoc 1) esNil))) (eVal (.int (.ofNat 1)))) esNil)))
  (sSeq (sWhile (tOf (eBin neF (eApp F_gf_order (esCons (eApp F_counted (esCons (eLoc 2) (esCons (eLoc 1) esNil))) (esCons (eLoc 0) (esCons (eLoc 1) esNil)))) (eLoc 3))) (sSeq (sSet (gLoc 2) (eBin addF (eLoc 2) (eVal (.int (.ofNat 1)))))
  sNext) 100)
  (sSeq (sRet (eApp F_counted (esCons (eLoc 2) (esCons (eLoc 1) esNil))))
  sNext)))
noncomputable def F_gf_generator : List PV → Sto → Option (PV × Sto) := fun ps st => match Nat.beq ps.length 2 with | true => runF B_gf_generator (frmOf ps (blank 2)) st | false => none
abbrev N_gf_generator : List Str := [(Str.ofString "m"), (Str.ofString "p"), (Str.ofString "number"), (Str.ofString "wanted")]
theorem S_gf_generator : SimC pgm w (GG w mean mg mb) 8 191 F_gf_generator := by
  have hnd : N_gf_generator.Nodup := by decide
  refine simC_of (d := 7) (xs := [(Str.ofString "m"), (Str.ofString "p")]) (names := N_gf_generator) (nb := 2) (fb := B_gf_generator) rfl rfl (all2 fun a b => rfl) (by decide) (by decide) ?_ (by decide) rfl rfl rfl fun A h₀ L V => ?_
  · intro i x h
    rcases i with _ | _ | i <;> first | exact h | cases h
  · exact (simSs_cons (simS_swap (names := [(Str.ofString "number"), (Str.ofString "wanted")]) V.hh (simL_cons simE_int (simL_cons (simE_bin (simE_call (V.le (d' := 2) (by decide)) rfl rfl rfl rfl rfl (S_gf_size w mean mg mb) (simL_cons (simE_loc (i := 0) rfl rfl rfl rfl rfl) (simL_cons (simE_loc (i := 1) rfl rfl rfl rfl rfl) simL_nil rfl) rfl) rfl rfl) simE_int simO_sub) simL_nil rfl) rfl) (.cons (simG_bind (simG_loc (i := 3) rfl rfl hnd rfl rfl)) (.cons (simG_bind (simG_loc (i := 2) rfl rfl hnd rfl rfl)) .nil)) (len_cons (len_cons len_nil)) rfl rfl)
      (simSs_cons (simS_while 100 (simT_cmp (simE_call (V.le (d' := 7) (by decide)) rfl rfl rfl rfl rfl (S_gf_order w mean mg mb) (simL_cons (simE_call (V.le (d' := 2) (by decide)) rfl rfl rfl rfl rfl (S_counted w mean mg mb) (simL_cons (simE_loc (i := 2) rfl rfl rfl rfl rfl) (simL_cons (simE_loc (i := 1) rfl rfl rfl rfl rfl) simL_nil rfl) rfl) rfl rfl) (simL_cons (simE_loc (i := 0) rfl rfl rfl rfl rfl) (simL_cons (simE_loc (i := 1) rfl rfl rfl rfl rfl) simL_nil rfl) rfl) rfl) rfl rfl) (simE_loc (i := 3) rfl rfl rfl rfl rfl) simO_ne rfl) (simSs_cons (simS_set (simG_loc (i := 2) rfl rfl hnd rfl rfl) (simE_bin (simE_loc (i := 2) rfl rfl rfl rfl rfl) simE_int simO_add) rfl)
      simSs_nil))
      (simSs_cons (simS_ret (simE_call (V.le (d' := 2) (by decide)) rfl rfl rfl rfl rfl (S_counted w mean mg mb) (simL_cons (simE_loc (i := 2) rfl rfl rfl rfl rfl) (simL_cons (simE_loc (i := 1) rfl rfl rfl rfl rfl) simL_nil rfl) rfl) rfl rfl))
      simSs_nil)))

noncomputable def B_law_many : PS :=
  (sSeq (sSet (gLoc 1) (eLoc 0))
  (sSeq (sFor (startL (eApp F_prime_factors (esCons (eLoc 0) esNil))) nextL (gUnp [(gLoc 2), (gLoc 3)]) (sSeq (sSet (gLoc 1) (eBin mulF (eBin fdivF (eLoc 1) (eLoc 2)) (eBin subF (eLoc 2) (eVal (.int (.ofNat 1))))))
  sNext) 100)
  (sSeq (sRet (eLoc 1))
  sNext)))
noncomputable def F_law_many : List PV → Sto → Option (PV × Sto) := fun ps st => match Nat.beq ps.length 1 with | true => runF B_law_many (frmOf ps (blank 3)) st | false => none
abbrev N_law_many : List Str := [(Str.ofString "n"), (Str.ofString "found"), (Str.ofString "prime"), (Str.ofString "many")]
theorem S_law_many : SimC pgm w (GG w mean mg mb) 3 205 F_law_many := by
  have hnd : N_law_many.Nodup := by decide
  refine simC_of (d := 2) (xs := [(Str.ofString "n")]) (names := N_law_many) (nb := 3) (fb := B_law_many) rfl rfl (all1 fun a => rfl) (by decide) (by decide) ?_ (by decide) rfl rfl rfl fun A h₀ L V => ?_
  · intro i x h
    rcases i with _ | i <;> first | exact h | cases h
  · exact (simSs_cons (simS_set (simG_loc (i := 1) rfl rfl hnd rfl rfl) (simE_loc (i := 0) rfl rfl rfl rfl rfl) rfl)
      (simSs_cons (simS_for 100 PlL_mono (simIter_list (simE_call (V.le (d' := 2) (by decide)) rfl rfl rfl rfl rfl (S_prime_factors w mean mg mb) (simL_cons (simE_loc (i := 0) rfl rfl rfl rfl rfl) simL_nil rfl) rfl rfl)) (simNext_list V.hh letGo_tuple) (simG_tuple V.hh (.cons (simG_assign (simG_loc (i := 2) rfl rfl hnd rfl rfl)) (.cons (simG_assign (simG_loc (i := 3) rfl rfl hnd rfl rfl)) .nil)) rfl rfl) (simSs_cons (simS_set (simG_loc (i := 1) rfl rfl hnd rfl rfl) (simE_bin (simE_bin (simE_loc (i := 1) rfl rfl rfl rfl rfl) (simE_loc (i := 2) rfl rfl rfl rfl rfl) simO_fdiv) (simE_bin (simE_loc (i := 2) rfl rfl rfl rfl rfl) simE_int simO_sub) simO_mul) rfl)
      simSs_nil) (fun _ => rfl))
      (simSs_cons (simS_ret (simE_loc (i := 1) rfl rfl rfl rfl rfl))
      simSs_nil)))

noncomputable def B_law_sign : PS :=
  (sSeq (sSet (gLoc 1) (eApp F_prime_factors (esCons (eLoc 0) esNil)))
  (sSeq (sRet (eIf (tOf (eBin neL (eComp (startL (eLoc 1)) nextL tgPair (on2 fun p0 q0 => (tOf (eBin gtF (eVal q0) (eVal (.int (.ofNat 1)))))) (on2 fun p0 q0 => (eVal (.int (.ofNat 1)))) 100) (eList esNil))) (eVal (.int (.ofNat 0))) (eBin powF (eUn negF (eVal (.int (.ofNat 1)))) (eApp lenF (esCons (eLoc 1) esNil)))))
  sNext))
noncomputable def F_law_sign : List PV → Sto → Option (PV × Sto) := fun ps st => match Nat.beq ps.length 1 with | true => runF B_law_sign (frmOf ps (blank 1)) st | false => none
abbrev N_law_sign : List Str := [(Str.ofString "n"), (Str.ofString "pairs")]
theorem S_law_sign : SimC pgm w (GG w mean mg mb) 3 210 F_law_sign := by
  have hnd : N_law_sign.Nodup := by decide
  refine simC_of (d := 2) (xs := [(Str.ofString "n")]) (names := N_law_sign) (nb := 1) (fb := B_law_sign) rfl rfl (all1 fun a => rfl) (by decide) (by decide) ?_ (by decide) rfl rfl rfl fun A h₀ L V => ?_
  · intro i x h
    rcases i with _ | i <;> first | exact h | cases h
  · exact (simSs_cons (simS_set (simG_loc (i := 1) rfl rfl hnd rfl rfl) (simE_call (V.le (d' := 2) (by decide)) rfl rfl rfl rfl rfl (S_prime_factors w mean mg mb) (simL_cons (simE_loc (i := 0) rfl rfl rfl rfl rfl) simL_nil rfl) rfl rfl) rfl)
      (simSs_cons (simS_ret (simE_if (simT_cmp (simE_comp (simBlk (cl := []) [(Str.ofString "prime"), (Str.ofString "many")] [] PlL_mono (simIter_list (simE_loc (i := 1) rfl rfl rfl rfl rfl)) (simNext_list V.hh letGo_tuple) simSelf_list (fun _ => simTg_pair V.hh rfl (fun _ => rfl) (fun _ => rfl) (by decide)) (fun C0 oC0 m0 φ0 ps0 hn0 hb0 => by obtain ⟨p0, q0, rfl, hp0, hq0⟩ := br2 hb0; exact (simIfs_one (simT_cmp (simE_cvar hn0 hq0 rfl rfl rfl) simE_int simO_gt rfl))) (fun C0 oC0 m0 φ0 ps0 hn0 hb0 => by obtain ⟨p0, q0, rfl, hp0, hq0⟩ := br2 hb0; exact simE_int) hc_nil (by decide) rfl) (fun _ => rfl) rfl rfl (by decide)) (simE_list simL_nil) (simO_neL V.u64) rfl) simE_int (simE_bin (simE_un simE_int simO_neg) (simE_builtin V rfl b_len (by decide) rfl rfl (simL_cons (simE_loc (i := 1) rfl rfl rfl rfl rfl) simL_nil rfl) simF_len rfl rfl rfl) simO_pow)))
      simSs_nil))

noncomputable def B_law_product : PS :=
  (sSeq (sSet (gLoc 2) (eVal (.int (.ofNat 1))))
  (sSeq (sFor (startL (eLoc 0)) nextL (gLoc 3) (sSeq (sSet (gLoc 2) (eBin modF (eBin mulF (eLoc 2) (eLoc 3)) (eLoc 1)))
  sNext) 100)
  (sSeq (sRet (eLoc 2))
  sNext)))
noncomputable def F_law_product : List PV → Sto → Option (PV × Sto) := fun ps st => match Nat.beq ps.length 2 with | true => runF B_law_product (frmOf ps (blank 2)) st | false => none
abbrev N_law_product : List Str := [(Str.ofString "numbers"), (Str.ofString "m"), (Str.ofString "found"), (Str.ofString "number")]
theorem S_law_product : SimC pgm w (GG w mean mg mb) 1 217 F_law_product := by
  have hnd : N_law_product.Nodup := by decide
  refine simC_of (d := 0) (xs := [(Str.ofString "numbers"), (Str.ofString "m")]) (names := N_law_product) (nb := 2) (fb := B_law_product) rfl rfl (all2 fun a b => rfl) (by decide) (by decide) ?_ (by decide) rfl rfl rfl fun A h₀ L V => ?_
  · intro i x h
    rcases i with _ | _ | i <;> first | exact h | cases h
  · exact (simSs_cons (simS_set (simG_loc (i := 2) rfl rfl hnd rfl rfl) simE_int rfl)
      (simSs_cons (simS_for 100 PlL_mono (simIter_list (simE_loc (i := 0) rfl rfl rfl rfl rfl)) (simNext_list V.hh letGo_name) (simG_assign (simG_loc (i := 3) rfl rfl hnd rfl rfl)) (simSs_cons (simS_set (simG_loc (i := 2) rfl rfl hnd rfl rfl) (simE_bin (simE_bin (simE_loc (i := 2) rfl rfl rfl rfl rfl) (simE_loc (i := 3) rfl rfl rfl rfl rfl) simO_mul) (simE_loc (i := 1) rfl rfl rfl rfl rfl) simO_mod) rfl)
      simSs_nil) (fun _ => rfl))
      (simSs_cons (simS_ret (simE_loc (i := 2) rfl rfl rfl rfl rfl))
      simSs_nil)))

end
end Mine

namespace Mine
def lawStmt : Stmt := pgm.main.body.getD 35 default
section
variable (w : World) (mean : ExcName → Option Value) (mg mb : Str → Option Value)
abbrev lawEnv (scope : Scope) (L fa : Addr) (cd : Value) : Env := envOfC (Str.ofString "law") scope L fa cd
def lawClaim (d : Nat) (N : List Str) (C : List (Str × Nat)) (B B' : PS) : Prop :=
  ∀ scope s1 s2 s3 s4 rest n a dl r t s' q p, lawStmt = .FunctionDef n a (s1 :: s2 :: s3 :: s4 :: rest) dl r t scope s' q p →
    ∀ A h₀ L fa cd, Live (GG w mean mg mb) (FC.mk A h₀ L (lawEnv scope L fa cd) N C [] []) d →
      SimS pgm w (FC.mk A h₀ L (lawEnv scope L fa cd) N C [] []) (exec s4 (lawEnv scope L fa cd)) B ∧ SimS pgm w (FC.mk A h₀ L (lawEnv scope L fa cd) N C [] []) (execs rest (lawEnv scope L fa cd)) B'
theorem law_intro {d : Nat} {N : List Str} {C : List (Str × Nat)} {B B' : PS} {scope s1 s2 s3 s4 rest n a dl r t s' q p} (h0 : lawStmt = .FunctionDef n a (s1 :: s2 :: s3 :: s4 :: rest) dl r t scope s' q p)
    (h : ∀ A h₀ L fa cd, Live (GG w mean mg mb) (FC.mk A h₀ L (lawEnv scope L fa cd) N C [] []) d →
      SimS pgm w (FC.mk A h₀ L (lawEnv scope L fa cd) N C [] []) (exec s4 (lawEnv scope L fa cd)) B ∧ SimS pgm w (FC.mk A h₀ L (lawEnv scope L fa cd) N C [] []) (execs rest (lawEnv scope L fa cd)) B') : lawClaim w mean mg mb d N C B B' := by
  intro scope' s1' s2' s3' s4' rest' n' a' dl' r' t' s'' q' p' e A h₀ L fa cd V
  rw [h0] at e
  cases e
  exact h A h₀ L fa cd V
end
section
variable (w : World) (mean : ExcName → Option Value) (mg mb : Str → Option Value)
noncomputable def B_law0 : PS :=
  (sFor (startR 1 (esCons (eVal (.int (.ofNat 1))) (esCons (eCell 0) esNil))) (nextR 1) (gCell 1) (sGc (sSeq (sSet (gLoc 2) (eComp (startR 1 (esCons (eVal (.int (.ofNat 1))) (esCons (eCell 0) esNil))) (nextR 1) tgName (on1 fun p0 => (tOf (eBin eqF (eBin modF (eBin mulF (eCell 1) (eVal p0)) (eCell 0)) (eVal (.int (.ofNat 1)))))) (on1 fun p0 => (eVal p0)) 100))
  (sSeq (sIf (tOf (eBin neN (eApp F_inverse_mod (esCons (eCell 1) (esCons (eCell 0) esNil))) (eIf (tOf (eBin neL (eLoc 2) (eList esNil))) (eBin itemF (eLoc 2) (eVal (.int (.ofNat 0)))) (eVal .none)))) (sSeq (sRet (eVal (.bool false)))
  sNext) sNext)
  (sSeq (sIf (tOf (eBin neL (eLoc 2) (eList esNil))) (sSeq (sAppend (eLoc 0) (eCell 1))
  (sSeq (sSet (gLoc 1) (eBin addF (eLoc 1) (eIf (tOf (eBin eqF (eBin itemF (eLoc 2) (eVal (.int (.ofNat 0)))) (eCell 1))) (eVal (.int (.ofNat 1))) (eVal (.int (.ofNat 0))))))
  sNext)) sNext)
  sNext)))) 100)
noncomputable def B_law1 : PS :=
  (sSeq (sSet (gLoc 3) (eComp (startL (eApp F_prime_factors (esCons (eCell 0) esNil))) nextL tgPair (on2 fun p1 q1 => (tOf (eBin neF (eVal p1) (eVal (.int (.ofNat 2)))))) (on2 fun p1 q1 => (eVal p1)) 100))
  (sSeq (sSet (gLoc 4) (eApp sumF (esCons (eComp (startL (eApp F_prime_factors (esCons (eCell 0) esNil))) nextL tgPair (on2 fun p2 q2 => (tOf (eBin eqF (eVal p2) (eVal (.int (.ofNat 2)))))) (on2 fun p2 q2 => (eVal q2)) 100) esNil)))
  (sSeq (sSet (gLoc 5) (eOr (eBin eqF (eCell 0) (eVal (.int (.ofNat 4)))) (eAnd (eBin eqF (eApp lenF (esCons (eLoc 3) esNil)) (eVal (.int (.ofNat 1)))) (eBin ltF (eLoc 4) (eVal (.int (.ofNat 2)))))))
  (sSeq (sIf (tOr (tOf (eBin neF (eApp F_law_product (esCons (eLoc 0) (esCons (eCell 0) esNil))) (eIf (tOf (eLoc 5)) (eBin subF (eCell 0) (eVal (.int (.ofNat 1)))) (eVal (.int (.ofNat 1)))))) (tOf (eBin neF (eLoc 1) (eBin powF (eVal (.int (.ofNat 2))) (eBin addF (eApp lenF (esCons (eLoc 3) esNil)) (eApp minF (esCons (eApp maxF (esCons (eBin subF (eLoc 4) (eVal (.int (.ofNat 1)))) (esCons (eVal (.int (.ofNat 0))) esNil))) (esCons (eVal (.int (.ofNat 2))) esNil)))))))) (sSeq (sRet (eVal (.bool false)))
  sNext) sNext)
  (sSeq (sSet (gCell 2) (eApp F_law_many (esCons (eCell 0) esNil)))
  (sSeq (sSet (gCell 3) (eComp (startL (eApp F_prime_factors (esCons (eCell 2) esNil))) nextL tgPair (on2 fun p3 q3 => tTrue) (on2 fun p3 q3 => (eVal p3)) 100))
  (sSeq (sSet (gCell 4) (eCompU (startL (eLoc 0)) nextL (fun kU4 => (tGc (tOf (eBin eqL (eComp (startL (eCell 3)) nextL tgName (on1 fun p104 => (tOf (eBin eqF (eApp F_power_mod (esCons (eCell kU4) (esCons (eBin fdivF (eCell 2) (eVal p104)) (esCons (eCell 0) esNil)))) (eVal (.int (.ofNat 1)))))) (on1 fun p104 => (eVal (.int (.ofNat 1)))) 100) (eList esNil))))) (fun kU4 => (eCell kU4)) 100))
  (sSeq (sIf (tOr (tOf (eBin neF (eCell 2) (eApp lenF (esCons (eLoc 0) esNil)))) (tOf (eBin neF (eApp lenF (esCons (eCell 4) esNil)) (eIf (tOf (eLoc 5)) (eApp F_law_many (esCons (eCell 2) esNil)) (eVal (.int (.ofNat 0))))))) (sSeq (sRet (eVal (.bool false)))
  sNext) sNext)
  (sSeq (sIf (tAnd (tOf (eLoc 5)) (tOf (eBin neL (eApp sortF (esCons (eComp (startR 1 (esCons (eCell 2) esNil)) (nextR 1) tgName (on1 fun p5 => tTrue) (on1 fun p5 => (eApp F_power_mod (esCons (eBin itemF (eCell 4) (eVal (.int (.ofNat 0)))) (esCons (eVal p5) (esCons (eCell 0) esNil))))) 100) esNil)) (eLoc 0)))) (sSeq (sRet (eVal (.bool false)))
  sNext) sNext)
  (sSeq (sIf (tOf (eBin neP (eApp F_prime_factors (esCons (eCell 0) esNil)) (eList (esCons (eTup (esCons (eCell 0) (esCons (eVal (.int (.ofNat 1))) esNil))) esNil)))) (sSeq (sRet (eVal (.bool true)))
  sNext) sNext)
  (sSeq (sIf (tOf (eBin neL (eApp F_gf_generator (esCons (eList (esCons (eVal (.int (.ofNat 0))) (esCons (eVal (.int (.ofNat 1))) esNil))) (esCons (eCell 0) esNil))) (eBin cutF (eCell 4) (eVal (.int (.ofNat 1)))))) (sSeq (sRet (eVal (.bool false)))
  sNext) sNext)
  (sSeq (sRet (eAnd (eBin eqF (eBin modF (eApp sumF (esCons (eCell 4) esNil)) (eCell 0)) (eBin modF (eApp F_law_sign (esCons (eBin subF (eCell 0) (eVal (.int (.ofNat 1)))) esNil)) (eCell 0))) (eBin eqF (eApp F_law_product (esCons (eCell 4) (esCons (eCell 0) esNil))) (eIf (tOf (eBin eqF (eCell 0) (eVal (.int (.ofNat 3))))) (eVal (.int (.ofNat 2))) (eVal (.int (.ofNat 1)))))))
  sNext))))))))))))
noncomputable def B_law : PS := sSeq B_law0 B_law1
abbrev N_law : List Str := [(Str.ofString "units"), (Str.ofString "own"), (Str.ofString "tried"), (Str.ofString "odd"), (Str.ofString "twos"), (Str.ofString "is_less")]
abbrev C_law : List (Str × Nat) := [((Str.ofString "m"), 0), ((Str.ofString "u"), 1), ((Str.ofString "size"), 2), ((Str.ofString "primes"), 3), ((Str.ofString "leaders"), 4)]
-- depth 8
theorem S_law : lawClaim w mean mg mb 8 N_law C_law B_law0 B_law1 := by
  have hnd : N_law.Nodup := by decide
  refine law_intro (w := w) (mean := mean) (mg := mg) (mb := mb) rfl fun A h₀ L fa cd V => ?_
  exact ⟨(simS_for 100 PlR_mono (simIter_range 1 (by decide) V rfl rfl (simL_cons simE_int (simL_cons (simE_cell (i := 0) (.head _) rfl rfl rfl) simL_nil rfl) rfl) rfl rfl rfl) (simNext_range V.hh) (simG_assign (simG_cell (i := 1) (.tail _ (.head _)) rfl rfl)) (simS_gc (simSs_cons (simS_comp (i := 2) (simBlk (cl := [((Str.ofString "u"), ((L + 1) + 1 : Addr)), ((Str.ofString "m"), (L + 1 : Addr))]) [(Str.ofString "v")] [((Str.ofString "m"), 0), ((Str.ofString "u"), 1)] PlR_mono (simIter_range 1 (by decide) V rfl rfl (simL_cons simE_int (simL_cons (simE_cell (i := 0) (.head _) rfl rfl rfl) simL_nil rfl) rfl) rfl rfl rfl) (simNext_range V.hh) simSelf_range (fun _ => simTg_name rfl (fun _ => rfl)) (fun C0 oC0 m0 φ0 ps0 hn0 hb0 => by obtain ⟨p0, rfl, hp0⟩ := br1 hb0; exact (simIfs_one (simT_cmp (simE_bin (simE_bin (simE_cell (i := 1) (.tail _ (.head _)) rfl rfl rfl) (simE_cvar hn0 hp0 rfl rfl rfl) simO_mul) (simE_cell (i := 0) (.head _) rfl rfl rfl) simO_mod) simE_int simO_eq rfl))) (fun C0 oC0 m0 φ0 ps0 hn0 hb0 => by obtain ⟨p0, rfl, hp0⟩ := br1 hb0; exact (simE_cvar hn0 hp0 rfl rfl rfl)) (hc_cons (.head _) rfl (hc_cons (.tail _ (.head _)) rfl hc_nil)) (by decide) rfl) rfl (fun _ => rfl) rfl rfl (by decide) rfl rfl hnd rfl rfl)
      (simSs_cons (simS_if (simT_cmp (simE_call (V.le (d' := 2) (by decide)) rfl rfl rfl rfl rfl (S_inverse_mod w mean mg mb) (simL_cons (simE_cell (i := 1) (.tail _ (.head _)) rfl rfl rfl) (simL_cons (simE_cell (i := 0) (.head _) rfl rfl rfl) simL_nil rfl) rfl) rfl rfl) (simE_if (simT_cmp (simE_loc (i := 2) rfl rfl rfl rfl rfl) (simE_list simL_nil) (simO_neL V.u64) rfl) (simE_item (simE_loc (i := 2) rfl rfl rfl rfl rfl) simE_int (fun _ _ => rfl)) simE_none) simO_neN rfl) (simSs_cons (simS_ret simE_bool)
      simSs_nil) simSs_nil)
      (simSs_cons (simS_if (simT_cmp (simE_loc (i := 2) rfl rfl rfl rfl rfl) (simE_list simL_nil) (simO_neL V.u64) rfl) (simSs_cons (simS_append (simE_loc (i := 0) rfl rfl rfl rfl rfl) (simE_cell (i := 1) (.tail _ (.head _)) rfl rfl rfl) rfl rfl rfl)
      (simSs_cons (simS_set (simG_loc (i := 1) rfl rfl hnd rfl rfl) (simE_bin (simE_loc (i := 1) rfl rfl rfl rfl rfl) (simE_if (simT_cmp (simE_item (simE_loc (i := 2) rfl rfl rfl rfl rfl) simE_int (fun _ _ => rfl)) (simE_cell (i := 1) (.tail _ (.head _)) rfl rfl rfl) simO_eq rfl) simE_int simE_int) simO_add) rfl)
      simSs_nil)) simSs_nil)
      simSs_nil)))) (fun _ => rfl)), (simSs_cons (simS_comp (i := 3) (simBlk (cl := []) [(Str.ofString "prime"), (Str.ofString "many")] [] PlL_mono (simIter_list (simE_call (V.le (d' := 2) (by decide)) rfl rfl rfl rfl rfl (S_prime_factors w mean mg mb) (simL_cons (simE_cell (i := 0) (.head _) rfl rfl rfl) simL_nil rfl) rfl rfl)) (simNext_list V.hh letGo_tuple) simSelf_list (fun _ => simTg_pair V.hh rfl (fun _ => rfl) (fun _ => rfl) (by decide)) (fun C1 oC1 m1 φ1 ps1 hn1 hb1 => by obtain ⟨p1, q1, rfl, hp1, hq1⟩ := br2 hb1; exact (simIfs_one (simT_cmp (simE_cvar hn1 hp1 rfl rfl rfl) simE_int simO_ne rfl))) (fun C1 oC1 m1 φ1 ps1 hn1 hb1 => by obtain ⟨p1, q1, rfl, hp1, hq1⟩ := br2 hb1; exact (simE_cvar hn1 hp1 rfl rfl rfl)) hc_nil (by decide) rfl) rfl (fun _ => rfl) rfl rfl (by decide) rfl rfl hnd rfl rfl)
      (simSs_cons (simS_set (simG_loc (i := 4) rfl rfl hnd rfl rfl) (simE_builtin V rfl b_sum (by decide) rfl rfl (simL_cons (simE_comp (simBlk (cl := []) [(Str.ofString "prime"), (Str.ofString "many")] [] PlL_mono (simIter_list (simE_call (V.le (d' := 2) (by decide)) rfl rfl rfl rfl rfl (S_prime_factors w mean mg mb) (simL_cons (simE_cell (i := 0) (.head _) rfl rfl rfl) simL_nil rfl) rfl rfl)) (simNext_list V.hh letGo_tuple) simSelf_list (fun _ => simTg_pair V.hh rfl (fun _ => rfl) (fun _ => rfl) (by decide)) (fun C2 oC2 m2 φ2 ps2 hn2 hb2 => by obtain ⟨p2, q2, rfl, hp2, hq2⟩ := br2 hb2; exact (simIfs_one (simT_cmp (simE_cvar hn2 hp2 rfl rfl rfl) simE_int simO_eq rfl))) (fun C2 oC2 m2 φ2 ps2 hn2 hb2 => by obtain ⟨p2, q2, rfl, hp2, hq2⟩ := br2 hb2; exact (simE_cvar hn2 hq2 rfl rfl rfl)) hc_nil (by decide) rfl) (fun _ => rfl) rfl rfl (by decide)) simL_nil rfl) (simF_sum V.hh) rfl rfl rfl) rfl)
      (simSs_cons (simS_set (simG_loc (i := 5) rfl rfl hnd rfl rfl) (simE_or (simE_cmp (simE_cell (i := 0) (.head _) rfl rfl rfl) simE_int simO_eq rfl) (simE_and (simE_cmp (simE_builtin V rfl b_len (by decide) rfl rfl (simL_cons (simE_loc (i := 3) rfl rfl rfl rfl rfl) simL_nil rfl) simF_len rfl rfl rfl) simE_int simO_eq rfl) (simE_cmp (simE_loc (i := 4) rfl rfl rfl rfl rfl) simE_int simO_lt rfl))) rfl)
      (simSs_cons (simS_if (simT_or (simT_cmp (simE_call (V.le (d' := 1) (by decide)) rfl rfl rfl rfl rfl (S_law_product w mean mg mb) (simL_cons (simE_loc (i := 0) rfl rfl rfl rfl rfl) (simL_cons (simE_cell (i := 0) (.head _) rfl rfl rfl) simL_nil rfl) rfl) rfl rfl) (simE_if (simT_plain (simE_loc (i := 5) rfl rfl rfl rfl rfl) rfl) (simE_bin (simE_cell (i := 0) (.head _) rfl rfl rfl) simE_int simO_sub) simE_int) simO_ne rfl) (simT_cmp (simE_loc (i := 1) rfl rfl rfl rfl rfl) (simE_bin simE_int (simE_bin (simE_builtin V rfl b_len (by decide) rfl rfl (simL_cons (simE_loc (i := 3) rfl rfl rfl rfl rfl) simL_nil rfl) simF_len rfl rfl rfl) (simE_builtin V rfl b_min (by decide) rfl rfl (simL_cons (simE_builtin V rfl b_max (by decide) rfl rfl (simL_cons (simE_bin (simE_loc (i := 4) rfl rfl rfl rfl rfl) simE_int simO_sub) (simL_cons simE_int simL_nil rfl) rfl) (simF_max V.hh) rfl rfl rfl) (simL_cons simE_int simL_nil rfl) rfl) (simF_min V.hh) rfl rfl rfl) simO_add) simO_pow) simO_ne rfl)) (simSs_cons (simS_ret simE_bool)
      simSs_nil) simSs_nil)
      (simSs_cons (simS_set (simG_cell (i := 2) (.tail _ (.tail _ (.head _))) rfl rfl) (simE_call (V.le (d' := 3) (by decide)) rfl rfl rfl rfl rfl (S_law_many w mean mg mb) (simL_cons (simE_cell (i := 0) (.head _) rfl rfl rfl) simL_nil rfl) rfl rfl) rfl)
      (simSs_cons (simS_set (simG_cell (i := 3) (.tail _ (.tail _ (.tail _ (.head _)))) rfl rfl) (simE_comp (simBlk (cl := []) [(Str.ofString "prime"), (Str.ofString "many")] [] PlL_mono (simIter_list (simE_call (V.le (d' := 2) (by decide)) rfl rfl rfl rfl rfl (S_prime_factors w mean mg mb) (simL_cons (simE_cell (i := 2) (.tail _ (.tail _ (.head _))) rfl rfl rfl) simL_nil rfl) rfl rfl)) (simNext_list V.hh letGo_tuple) simSelf_list (fun _ => simTg_pair V.hh rfl (fun _ => rfl) (fun _ => rfl) (by decide)) (fun C3 oC3 m3 φ3 ps3 hn3 hb3 => by obtain ⟨p3, q3, rfl, hp3, hq3⟩ := br2 hb3; exact simIfs_nil) (fun C3 oC3 m3 φ3 ps3 hn3 hb3 => by obtain ⟨p3, q3, rfl, hp3, hq3⟩ := br2 hb3; exact (simE_cvar hn3 hp3 rfl rfl rfl)) hc_nil (by decide) rfl) (fun _ => rfl) rfl rfl (by decide)) rfl)
      (simSs_cons (simS_set (simG_cell (i := 4) (.tail _ (.tail _ (.tail _ (.tail _ (.head _))))) rfl rfl) (simE_comp (simBlkU (cl := [((Str.ofString "size"), (((L + 1) + 1) + 1 : Addr)), ((Str.ofString "primes"), ((((L + 1) + 1) + 1) + 1 : Addr)), ((Str.ofString "m"), (L + 1 : Addr))]) [((Str.ofString "m"), 0), ((Str.ofString "primes"), 3), ((Str.ofString "size"), 2)] PlL_mono (simIter_list (simE_loc (i := 0) rfl rfl rfl rfl rfl)) (simNext_list V.hh letGo_name) simSelf_list (fun _ _ => rfl) (fun aU4 kU4 C oC m φ hn => (simIfs_one (simT_gc (simT_cmp (simE_comp (simBlk (cl := [((Str.ofString "u"), aU4), ((Str.ofString "size"), (((L + 1) + 1) + 1 : Addr)), ((Str.ofString "m"), (L + 1 : Addr))]) [(Str.ofString "prime")] [((Str.ofString "m"), 0), ((Str.ofString "size"), 2), ((Str.ofString "u"), kU4)] PlL_mono (simIter_list (simE_cell (i := 3) (.tail _ (.tail _ (.head _))) rfl rfl rfl)) (simNext_list (V.comp rfl).hh letGo_name) simSelf_list (fun _ => simTg_name rfl (fun _ => rfl)) (fun C104 oC104 m104 φ104 ps104 hn104 hb104 => by obtain ⟨p104, rfl, hp104⟩ := br1 hb104; exact (simIfs_one (simT_cmp (simE_call (((V.comp rfl).comp rfl).le (d' := 1) (by decide)) rfl rfl rfl rfl rfl (S_power_mod w mean mg mb) (simL_cons (simE_cell (i := kU4) (.tail _ (.tail _ (.head _))) rfl rfl rfl) (simL_cons (simE_bin (simE_cell (i := 2) (.tail _ (.head _)) rfl rfl rfl) (simE_cvar hn104 hp104 rfl rfl rfl) simO_fdiv) (simL_cons (simE_cell (i := 0) (.head _) rfl rfl rfl) simL_nil rfl) rfl) rfl) rfl rfl) simE_int simO_eq rfl))) (fun C104 oC104 m104 φ104 ps104 hn104 hb104 => by obtain ⟨p104, rfl, hp104⟩ := br1 hb104; exact simE_int) (hc_cons (.tail _ (.head _)) rfl (hc_cons (.tail _ (.tail _ (.tail _ (.head _)))) rfl (hc_cons (.head _) rfl hc_nil))) (by decide) rfl) (fun _ => rfl) rfl rfl (by decide)) (simE_list simL_nil) (simO_eqL (V.comp rfl).u64) rfl)))) (fun aU4 kU4 C oC m φ hn => (simE_cell (i := kU4) (.head _) rfl rfl rfl)) (hcU_cons (by decide) (.head _) rfl (hcU_cons (by decide) (.tail _ (.tail _ (.tail _ (.head _)))) rfl (hcU_cons (by decide) (.tail _ (.tail _ (.head _))) rfl hcU_nil))) (fun _ _ => rfl) (fun _ => rfl) rfl) (fun _ => rfl) rfl rfl (by decide)) rfl)
      (simSs_cons (simS_if (simT_or (simT_cmp (simE_cell (i := 2) (.tail _ (.tail _ (.head _))) rfl rfl rfl) (simE_builtin V rfl b_len (by decide) rfl rfl (simL_cons (simE_loc (i := 0) rfl rfl rfl rfl rfl) simL_nil rfl) simF_len rfl rfl rfl) simO_ne rfl) (simT_cmp (simE_builtin V rfl b_len (by decide) rfl rfl (simL_cons (simE_cell (i := 4) (.tail _ (.tail _ (.tail _ (.tail _ (.head _))))) rfl rfl rfl) simL_nil rfl) simF_len rfl rfl rfl) (simE_if (simT_plain (simE_loc (i := 5) rfl rfl rfl rfl rfl) rfl) (simE_call (V.le (d' := 3) (by decide)) rfl rfl rfl rfl rfl (S_law_many w mean mg mb) (simL_cons (simE_cell (i := 2) (.tail _ (.tail _ (.head _))) rfl rfl rfl) simL_nil rfl) rfl rfl) simE_int) simO_ne rfl)) (simSs_cons (simS_ret simE_bool)
      simSs_nil) simSs_nil)
      (simSs_cons (simS_if (simT_and (simT_plain (simE_loc (i := 5) rfl rfl rfl rfl rfl) rfl) (simT_cmp (simE_builtin V rfl b_sorted (by decide) rfl rfl (simL_cons (simE_comp (simBlk (cl := [((Str.ofString "m"), (L + 1 : Addr)), ((Str.ofString "leaders"), (((((L + 1) + 1) + 1) + 1) + 1 : Addr))]) [(Str.ofString "n")] [((Str.ofString "leaders"), 4), ((Str.ofString "m"), 0)] PlR_mono (simIter_range 1 (by decide) V rfl rfl (simL_cons (simE_cell (i := 2) (.tail _ (.tail _ (.head _))) rfl rfl rfl) simL_nil rfl) rfl rfl rfl) (simNext_range V.hh) simSelf_range (fun _ => simTg_name rfl (fun _ => rfl)) (fun C5 oC5 m5 φ5 ps5 hn5 hb5 => by obtain ⟨p5, rfl, hp5⟩ := br1 hb5; exact simIfs_nil) (fun C5 oC5 m5 φ5 ps5 hn5 hb5 => by obtain ⟨p5, rfl, hp5⟩ := br1 hb5; exact (simE_call ((V.comp rfl).le (d' := 1) (by decide)) rfl rfl rfl rfl rfl (S_power_mod w mean mg mb) (simL_cons (simE_item (simE_cell (i := 4) (.head _) rfl rfl rfl) simE_int (fun _ _ => rfl)) (simL_cons (simE_cvar hn5 hp5 rfl rfl rfl) (simL_cons (simE_cell (i := 0) (.tail _ (.head _)) rfl rfl rfl) simL_nil rfl) rfl) rfl) rfl rfl)) (hc_cons (.tail _ (.tail _ (.tail _ (.tail _ (.head _))))) rfl (hc_cons (.head _) rfl hc_nil)) (by decide) rfl) (fun _ => rfl) rfl rfl (by decide)) simL_nil rfl) simF_sorted rfl rfl rfl) (simE_loc (i := 0) rfl rfl rfl rfl rfl) (simO_neL V.u64) rfl)) (simSs_cons (simS_ret simE_bool)
      simSs_nil) simSs_nil)
      (simSs_cons (simS_if (simT_cmp (simE_call (V.le (d' := 2) (by decide)) rfl rfl rfl rfl rfl (S_prime_factors w mean mg mb) (simL_cons (simE_cell (i := 0) (.head _) rfl rfl rfl) simL_nil rfl) rfl rfl) (simE_list (simL_cons (simE_tup (simL_cons (simE_cell (i := 0) (.head _) rfl rfl rfl) (simL_cons simE_int simL_nil rfl) rfl)) simL_nil rfl)) (simO_neP V.u64) rfl) (simSs_cons (simS_ret simE_bool)
      simSs_nil) simSs_nil)
      (simSs_cons (simS_if (simT_cmp (simE_call (V.le (d' := 8) (by decide)) rfl rfl rfl rfl rfl (S_gf_generator w mean mg mb) (simL_cons (simE_list (simL_cons simE_int (simL_cons simE_int simL_nil rfl) rfl)) (simL_cons (simE_cell (i := 0) (.head _) rfl rfl rfl) simL_nil rfl) rfl) rfl rfl) (simE_cut (simE_cell (i := 4) (.tail _ (.tail _ (.tail _ (.tail _ (.head _))))) rfl rfl rfl) simE_int (fun _ _ => rfl)) (simO_neL V.u64) rfl) (simSs_cons (simS_ret simE_bool)
      simSs_nil) simSs_nil)
      (simSs_cons (simS_ret (simE_and (simE_cmp (simE_bin (simE_builtin V rfl b_sum (by decide) rfl rfl (simL_cons (simE_cell (i := 4) (.tail _ (.tail _ (.tail _ (.tail _ (.head _))))) rfl rfl rfl) simL_nil rfl) (simF_sum V.hh) rfl rfl rfl) (simE_cell (i := 0) (.head _) rfl rfl rfl) simO_mod) (simE_bin (simE_call (V.le (d' := 3) (by decide)) rfl rfl rfl rfl rfl (S_law_sign w mean mg mb) (simL_cons (simE_bin (simE_cell (i := 0) (.head _) rfl rfl rfl) simE_int simO_sub) simL_nil rfl) rfl rfl) (simE_cell (i := 0) (.head _) rfl rfl rfl) simO_mod) simO_eq rfl) (simE_cmp (simE_call (V.le (d' := 1) (by decide)) rfl rfl rfl rfl rfl (S_law_product w mean mg mb) (simL_cons (simE_cell (i := 4) (.tail _ (.tail _ (.tail _ (.tail _ (.head _))))) rfl rfl rfl) (simL_cons (simE_cell (i := 0) (.head _) rfl rfl rfl) simL_nil rfl) rfl) rfl rfl) (simE_if (simT_cmp (simE_cell (i := 0) (.head _) rfl rfl rfl) simE_int simO_eq rfl) simE_int simE_int) simO_eq rfl)))
      simSs_nil))))))))))))⟩

end
end Mine

namespace Mine
noncomputable def sto0 (i : Int) : Sto := (6, [(5, .list []), (4, .cell none), (3, .cell none), (2, .cell none), (1, .cell none), (0, .cell (some (.int i)))])
noncomputable def fr0 : Frm := [some (.ref 5), some (.int 0), none, none, none, none]
noncomputable def okLaw (i : Int) : Bool := match B_law fr0 (sto0 i) with
  | some (.ret (.bool true), _, _) => true
  | _ => false
theorem ok3 : okLaw (Int.ofNat 3) = true := by decide +kernel
theorem ok4 : okLaw (Int.ofNat 4) = true := by decide +kernel
theorem ok5 : okLaw (Int.ofNat 5) = true := by decide +kernel
theorem ok6 : okLaw (Int.ofNat 6) = true := by decide +kernel
theorem ok7 : okLaw (Int.ofNat 7) = true := by decide +kernel
theorem ok8 : okLaw (Int.ofNat 8) = true := by decide +kernel
theorem ok9 : okLaw (Int.ofNat 9) = true := by decide +kernel
theorem ok10 : okLaw (Int.ofNat 10) = true := by decide +kernel
theorem ok11 : okLaw (Int.ofNat 11) = true := by decide +kernel
theorem ok12 : okLaw (Int.ofNat 12) = true := by decide +kernel
theorem ok13 : okLaw (Int.ofNat 13) = true := by decide +kernel
theorem ok14 : okLaw (Int.ofNat 14) = true := by decide +kernel
theorem ok15 : okLaw (Int.ofNat 15) = true := by decide +kernel
theorem ok16 : okLaw (Int.ofNat 16) = true := by decide +kernel
theorem ok17 : okLaw (Int.ofNat 17) = true := by decide +kernel
theorem ok18 : okLaw (Int.ofNat 18) = true := by decide +kernel
theorem ok19 : okLaw (Int.ofNat 19) = true := by decide +kernel
theorem ok20 : okLaw (Int.ofNat 20) = true := by decide +kernel
theorem ok21 : okLaw (Int.ofNat 21) = true := by decide +kernel
theorem ok22 : okLaw (Int.ofNat 22) = true := by decide +kernel
theorem ok23 : okLaw (Int.ofNat 23) = true := by decide +kernel
theorem ok24 : okLaw (Int.ofNat 24) = true := by decide +kernel
theorem ok25 : okLaw (Int.ofNat 25) = true := by decide +kernel
theorem ok26 : okLaw (Int.ofNat 26) = true := by decide +kernel
theorem ok27 : okLaw (Int.ofNat 27) = true := by decide +kernel
theorem ok28 : okLaw (Int.ofNat 28) = true := by decide +kernel
theorem ok29 : okLaw (Int.ofNat 29) = true := by decide +kernel
theorem ok30 : okLaw (Int.ofNat 30) = true := by decide +kernel
theorem ok31 : okLaw (Int.ofNat 31) = true := by decide +kernel
theorem ok32 : okLaw (Int.ofNat 32) = true := by decide +kernel
theorem ok33 : okLaw (Int.ofNat 33) = true := by decide +kernel
theorem ok34 : okLaw (Int.ofNat 34) = true := by decide +kernel
theorem ok35 : okLaw (Int.ofNat 35) = true := by decide +kernel
theorem ok36 : okLaw (Int.ofNat 36) = true := by decide +kernel
theorem ok37 : okLaw (Int.ofNat 37) = true := by decide +kernel
theorem ok38 : okLaw (Int.ofNat 38) = true := by decide +kernel
theorem ok39 : okLaw (Int.ofNat 39) = true := by decide +kernel
theorem ok40 : okLaw (Int.ofNat 40) = true := by decide +kernel
theorem ok41 : okLaw (Int.ofNat 41) = true := by decide +kernel
theorem ok42 : okLaw (Int.ofNat 42) = true := by decide +kernel
theorem ok43 : okLaw (Int.ofNat 43) = true := by decide +kernel
theorem ok44 : okLaw (Int.ofNat 44) = true := by decide +kernel
theorem ok45 : okLaw (Int.ofNat 45) = true := by decide +kernel
theorem okNat : ∀ n : Nat, 3 ≤ n → n ≤ 45 → okLaw (Int.ofNat n) = true
  | 0, h, _ => by omega
  | 1, h, _ => by omega
  | 2, h, _ => by omega
  | 3, _, _ => ok3
  | 4, _, _ => ok4
  | 5, _, _ => ok5
  | 6, _, _ => ok6
  | 7, _, _ => ok7
  | 8, _, _ => ok8
  | 9, _, _ => ok9
  | 10, _, _ => ok10
  | 11, _, _ => ok11
  | 12, _, _ => ok12
  | 13, _, _ => ok13
  | 14, _, _ => ok14
  | 15, _, _ => ok15
  | 16, _, _ => ok16
  | 17, _, _ => ok17
  | 18, _, _ => ok18
  | 19, _, _ => ok19
  | 20, _, _ => ok20
  | 21, _, _ => ok21
  | 22, _, _ => ok22
  | 23, _, _ => ok23
  | 24, _, _ => ok24
  | 25, _, _ => ok25
  | 26, _, _ => ok26
  | 27, _, _ => ok27
  | 28, _, _ => ok28
  | 29, _, _ => ok29
  | 30, _, _ => ok30
  | 31, _, _ => ok31
  | 32, _, _ => ok32
  | 33, _, _ => ok33
  | 34, _, _ => ok34
  | 35, _, _ => ok35
  | 36, _, _ => ok36
  | 37, _, _ => ok37
  | 38, _, _ => ok38
  | 39, _, _ => ok39
  | 40, _, _ => ok40
  | 41, _, _ => ok41
  | 42, _, _ => ok42
  | 43, _, _ => ok43
  | 44, _, _ => ok44
  | 45, _, _ => ok45
  | _ + 46, _, h => by omega
theorem okInt {i : Int} (h1 : 3 ≤ i) (h2 : i ≤ 45) : okLaw i = true := by
  have h3 := okNat i.toNat (by omega) (by omega)
  have : Int.ofNat i.toNat = i := by show (i.toNat : Int) = i; omega
  rwa [this] at h3
theorem okLaw_ret {i : Int} (h : okLaw i = true) : ∃ fr st, B_law fr0 (sto0 i) = some (.ret (.bool true), fr, st) := by
  unfold okLaw at h
  split at h
  · exact ⟨_, _, by assumption⟩
  · cases h
end Mine

namespace Mine
theorem nd6 (L lu : Nat) (h : L + 1 + 1 + 1 + 1 + 1 < lu) : [lu, L + 1 + 1 + 1 + 1 + 1, L + 1 + 1 + 1 + 1, L + 1 + 1 + 1, L + 1 + 1, L + 1].Nodup := by
  simp only [List.nodup_cons, List.mem_cons, List.not_mem_nil, or_false, not_false_eq_true, List.nodup_nil, and_true]
  refine ⟨?_, ?_, ?_, ?_, ?_⟩ <;> omega
theorem law_join {w : World} {mean : ExcName → Option Value} {mg mb : Str → Option Value} {scope : Scope} {s1 s2 s3 st0 : Stmt} {rest : List Stmt} {n a dl r t s' q p}
    (h0 : lawStmt = .FunctionDef n a (s1 :: s2 :: s3 :: st0 :: rest) dl r t scope s' q p) (hk : scope.kind = .function)
    {h₀ : Heap} {L fa : Addr} {cd : Value} {m : Str → Option Value} {l : List (Addr × Obj)} {s : Shared} {Q : Flow → Shared → Prop} {E : Value → Shared → Prop}
    (F : Fr h₀ L s.heap m) (N : News h₀ L s.heap l) (K0 : Below callerA h₀ [] h₀) (X : (hd.heap_39 w.params).In h₀) (T : Top hd.view_39 (looseW hd.view_39 []) mean mg mb h₀)
    {lu : Addr} {tk t0 : Tok} {o0 o1 o2 o3 o4 : Obj} {i : Int} {y1 y2 y3 y4 : Option Value}
    (hu : m (Str.ofString "units") = some (.ref lu)) (ho : m (Str.ofString "own") = some (.int 0 tk))
    (mu : (lu, W.listOf #[] 0) ∈ l) (m0 : (L + 1, o0) ∈ l) (m1 : (L + 1 + 1, o1) ∈ l) (m2 : (L + 1 + 1 + 1, o2) ∈ l) (m3 : (L + 1 + 1 + 1 + 1, o3) ∈ l) (m4 : (L + 1 + 1 + 1 + 1 + 1, o4) ∈ l)
    (d0 : o0.data = .cell (some (.int i t0))) (d1 : o1.data = .cell y1) (d2 : o2.data = .cell y2) (d3 : o3.data = .cell y3) (d4 : o4.data = .cell y4)
    (hc : (lawEnv scope L fa cd).cells = [(Str.ofString "leaders", L + 1 + 1 + 1 + 1 + 1), (Str.ofString "primes", L + 1 + 1 + 1 + 1), (Str.ofString "size", L + 1 + 1 + 1), (Str.ofString "u", L + 1 + 1), (Str.ofString "m", L + 1)])
    (hne : L + 1 + 1 + 1 + 1 + 1 < lu) (hi : 3 ≤ i ∧ i ≤ 45)
    (hq : ∀ m' h' tk', Fr h₀ L h' m' → Q (.ret (.bool true)) { s with heap := h', toks := tk' })
    (hE : ∀ v s', NoE v s' → E v s') :
    wpAny (model pgm w) (callerA.deeper (lawEnv scope L fa cd)) (exec st0 (lawEnv scope L fa cd))
      (fun f s' => match f with
        | .next => wpAny (model pgm w) (callerA.deeper (lawEnv scope L fa cd)) (execs rest (lawEnv scope L fa cd)) Q E s'
        | f => Q f s') E s := by
  have V : Live (GG w mean mg mb) (FC.mk (callerA.deeper (lawEnv scope L fa cd)) h₀ L (lawEnv scope L fa cd) N_law C_law [] []) 8 := by
    refine ⟨rfl, hk, rfl, rfl, ⟨_, _, _, lawEnv scope L fa cd, K0, ?_, rfl, hk⟩, X, T, ?_, ?_⟩
    · show callerA.frames.map _ = _
      rw [K0.stack]; rfl
    · show callerA.depth + 1 + 8 < recursionLimit
      rw [depth_caller]; decide
    · show callerA.units + 3 + 8 * 8 + 100 < cLine
      rw [units_caller, cLine_is]; decide
  have H : SR (FC.mk (callerA.deeper (lawEnv scope L fa cd)) h₀ L (lawEnv scope L fa cd) N_law C_law [] []) [L + 1, L + 1 + 1, L + 1 + 1 + 1, L + 1 + 1 + 1 + 1, L + 1 + 1 + 1 + 1 + 1, lu] fr0 (sto0 i) m
      [(lu, W.listOf #[] 0), (L + 1 + 1 + 1 + 1 + 1, o4), (L + 1 + 1 + 1 + 1, o3), (L + 1 + 1 + 1, o2), (L + 1 + 1, o1), (L + 1, o0)] [] s.heap := by
    refine ⟨F, ?_, ?_, rfl, ?_, ?_, ?_, (fun p hp => nomatch hp), ⟨_, rfl⟩⟩
    · intro p hp
      refine N p ?_
      simp only [List.append_nil, List.mem_cons, List.not_mem_nil, or_false] at hp
      rcases hp with rfl | rfl | rfl | rfl | rfl | rfl <;> assumption
    · exact nd6 L lu hne
    · refine .cons rfl ⟨[], 0, rfl, .nil⟩ (.cons rfl ⟨_, d4⟩ (.cons rfl ⟨_, d3⟩ (.cons rfl ⟨_, d2⟩ (.cons rfl ⟨_, d1⟩ (.cons rfl ⟨_, d0, _, rfl⟩ .nil)))))
    · intro j x p hx hp
      rcases j with _ | _ | _ | _ | _ | _ | j
      · cases hx; cases hp; exact ⟨_, hu, _, rfl, rfl⟩
      · cases hx; cases hp; exact ⟨_, ho, _, rfl⟩
      all_goals cases hp
    · intro x k hx
      show ∃ a, (lawEnv scope L fa cd).cells.lookup x = some a ∧ _
      rw [hc]
      simp only [C_law, List.mem_cons, Prod.mk.injEq, List.not_mem_nil, or_false] at hx
      rcases hx with ⟨rfl, rfl⟩ | ⟨rfl, rfl⟩ | ⟨rfl, rfl⟩ | ⟨rfl, rfl⟩ | ⟨rfl, rfl⟩ <;> exact ⟨_, rfl, rfl⟩
  obtain ⟨fr', st', hB⟩ := okLaw_ret (okInt hi.1 hi.2)
  obtain ⟨S0, S1⟩ := S_law w mean mg mb scope s1 s2 s3 st0 rest n a dl r t s' q p h0 _ _ _ _ _ V
  have hB' : (match B_law0 fr0 (sto0 i) with
    | some (.next, fr1, st1) => B_law1 fr1 st1
    | some (.ret p, fr1, st1) => some (.ret p, fr1, st1)
    | none => none) = some (.ret (.bool true), fr', st') := hB
  cases e : B_law0 fr0 (sto0 i) with
  | none => rw [e] at hB'; cases hB'
  | some z =>
    obtain ⟨fl, fr1, st1⟩ := z
    rw [e] at hB'
    cases fl with
    | next =>
      refine wpAny_mono (S0 _ _ _ _ _ _ s _ _ _ _ e H fun φ1 led1 m1 a1 h1 tk1 p1 H1 R1 => ?_) (fun _ _ h => h) hE
      cases R1
      refine wpAny_mono (S1 _ _ _ _ _ _ _ _ _ _ _ hB' H1 fun φ2 led2 m2 a2 h2 tk2 p2 H2 R2 => ?_) (fun _ _ h => h) hE
      obtain ⟨v, rfl, R3⟩ := R2
      cases R3
      exact hq _ _ _ H2.F
    | ret p =>
      cases hB'
      refine wpAny_mono (S0 _ _ _ _ _ _ s _ _ _ _ e H fun φ1 led1 m1 a1 h1 tk1 p1 H1 R1 => ?_) (fun _ _ h => h) hE
      obtain ⟨v, rfl, R3⟩ := R1
      cases R3
      exact hq _ _ _ H1.F
theorem law_meet {w : World} {mean : ExcName → Option Value} {mg mb : Str → Option Value} {scope : Scope} {s1 s2 s3 st0 : Stmt} {rest : List Stmt} {n a dl r t s' q p}
    {h₀ : Heap} {L fa : Addr} {cd : Value} {m : Str → Option Value} {l : List (Addr × Obj)} {s : Shared} {Q R : Flow → Shared → Prop} {E : Value → Shared → Prop}
    (hR : ∀ s', wpAny (model pgm w) (callerA.deeper (lawEnv scope L fa cd)) (execs rest (lawEnv scope L fa cd)) Q E s' → R .next s') (hR' : ∀ v s', Q (.ret v) s' → R (.ret v) s')
    (hRb : ∀ s', Q .brk s' → R .brk s') (hRc : ∀ s', Q .cont s' → R .cont s')
    (h0 : lawStmt = .FunctionDef n a (s1 :: s2 :: s3 :: st0 :: rest) dl r t scope s' q p) (hk : scope.kind = .function)
    (F : Fr h₀ L s.heap m) (N : News h₀ L s.heap l) (K0 : Below callerA h₀ [] h₀) (X : (hd.heap_39 w.params).In h₀) (T : Top hd.view_39 (looseW hd.view_39 []) mean mg mb h₀)
    {lu : Addr} {tk t0 : Tok} {o0 o1 o2 o3 o4 : Obj} {i : Int} {y1 y2 y3 y4 : Option Value}
    (hu : m (Str.ofString "units") = some (.ref lu)) (ho : m (Str.ofString "own") = some (.int 0 tk))
    (mu : (lu, W.listOf #[] 0) ∈ l) (m0 : (L + 1, o0) ∈ l) (m1 : (L + 1 + 1, o1) ∈ l) (m2 : (L + 1 + 1 + 1, o2) ∈ l) (m3 : (L + 1 + 1 + 1 + 1, o3) ∈ l) (m4 : (L + 1 + 1 + 1 + 1 + 1, o4) ∈ l)
    (d0 : o0.data = .cell (some (.int i t0))) (d1 : o1.data = .cell y1) (d2 : o2.data = .cell y2) (d3 : o3.data = .cell y3) (d4 : o4.data = .cell y4)
    (hc : (lawEnv scope L fa cd).cells = [(Str.ofString "leaders", L + 1 + 1 + 1 + 1 + 1), (Str.ofString "primes", L + 1 + 1 + 1 + 1), (Str.ofString "size", L + 1 + 1 + 1), (Str.ofString "u", L + 1 + 1), (Str.ofString "m", L + 1)])
    (hne : L + 1 + 1 + 1 + 1 + 1 < lu) (hi : 3 ≤ i ∧ i ≤ 45)
    (hq : ∀ m' h' tk', Fr h₀ L h' m' → Q (.ret (.bool true)) { s with heap := h', toks := tk' }) :
    wpAny (model pgm w) (callerA.deeper (lawEnv scope L fa cd)) (exec st0 (lawEnv scope L fa cd)) R E s := by
  refine wpAny_mono (law_join h0 hk F N K0 X T hu ho mu m0 m1 m2 m3 m4 d0 d1 d2 d3 d4 hc hne hi hq (fun _ _ h => h.elim)) (fun f s' h => ?_) (fun _ _ h => h)
  cases f with
  | next => exact hR _ h
  | ret v => exact hR' _ _ h
  | brk => exact hRb _ h
  | cont => exact hRc _ h
theorem rng (x : Int) : 3 ≤ 3 + x.fmod 43 ∧ 3 + x.fmod 43 ≤ 45 := by
  have h1 := Int.fmod_nonneg_of_pos x (b := 43) (by decide)
  have h2 := Int.fmod_lt_of_pos x (b := 43) (by decide)
  omega
theorem pick4 {a b c d e : Prop} (h : a ∧ b ∧ c ∧ d ∧ e) : d := h.2.2.2.1
end Mine

set_option maxHeartbeats 8000000 in
theorem PySem.Challenge.cw_xm0089_01_holds : PySem.Challenge.rw_xm0089_01.Holds := by
  exact Mine.hd (by w_strict (k_go0; (all_goals try k_fold); k_steps; (all_goals (refine Mine.law_meet (fun _ h => h) (fun _ _ h => h) (fun _ h => h) (fun _ h => h) rfl rfl (by assumption) (by assumption) (by assumption) (by assumption) (by assumption) rfl rfl (by repeat' (first | exact List.Mem.head _ | refine List.Mem.tail _ ?_)) (by repeat' (first | exact List.Mem.head _ | refine List.Mem.tail _ ?_)) (by repeat' (first | exact List.Mem.head _ | refine List.Mem.tail _ ?_)) (by repeat' (first | exact List.Mem.head _ | refine List.Mem.tail _ ?_)) (by repeat' (first | exact List.Mem.head _ | refine List.Mem.tail _ ?_)) (by repeat' (first | exact List.Mem.head _ | refine List.Mem.tail _ ?_)) (by assumption) (by assumption) (by assumption) (by assumption) (by assumption) rfl (Mine.pick4 (by assumption)) (Mine.rng _) fun m9 h9 tk9 F9 => ?_)); k_steps))
