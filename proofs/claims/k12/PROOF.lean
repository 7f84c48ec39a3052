import PyProof.Rows.All
import HandS.ForMost
import HandS.Exc
import HandS.ExcOwn
import HandS.TryOnly
import HandS.WordsExc
import HandS.Defaults
import HandS.TupAny
import HandS.IsInst
import KE.KExcIs
import HandS.ExcValue
import HandS.ExcIs
import HandS.ExcField
import HandS.ExcInit
import HandS.HeadHook4
import HandS.HeadEnd
import PySem.Challenge.RW_findmill_k12_refusals_made
import HandS.Head2
import KE.KStateDown
set_option Elab.async false
set_option linter.all false
set_option maxRecDepth 100000
set_option maxHeartbeats 4000000
set_option autoImplicit false
/-! Fm.A: data, the state of an executor over data, what it means over the abstract heap. -/
namespace Fm
open PySem PySem.Spec PyProof.Rows L2

/-- pure data: trees -/
inductive D where
  | non | bl (b : Bool) | int (i : Int) | str (x : Str)
  | tup (l : List D) | lst (l : List D)
  | dct (ks : List Key) (l : List D) | obj (c : Nat) (ns : List Str) (l : List D) | exc (c : Nat) (ns : List Str) (l : List D)

/-- the written part: its facts, the classes by number -/
structure Cg where
  K : PySem.W.Frag
  cl : Nat → Addr

/-- a list that stays as it is -/
def FzL (K : PySem.W.Frag) (H : Hp) (a : Addr) (xs : List V) : Prop :=
  (∃ o, H a = some (.frz o (.lst xs))) ∨ ∃ (o : Obj) (its : Array Value) (n : Nat), K.lookup a = some o ∧ o.cls = .type "list" ∧ o.dict = none ∧ o.data = .seq its n ∧ its.size ≤ sizeLine ∧ Vals xs its.toList
theorem FzL.sq {K : PySem.W.Frag} {H : Hp} {a : Addr} {xs : List V} (h : FzL K H a xs) : SqL K H a xs := by
  rcases h with ⟨o, h⟩ | h
  · exact .inl (.inr ⟨o, h⟩)
  · exact .inr h
section
variable (G : Cg) (H : Hp)
mutual
def Rep : D → V → Prop
  | .non, v => v = .non
  | .bl b, v => v = .bl b
  | .int i, v => v = .int i
  | .str x, v => v = .str x ∧ PySem.PyData.strOk x = true
  | .tup l, v => ∃ a vs, v = .ref a ∧ SqT G.K H a vs ∧ RepL l vs
  | .lst l, v => ∃ a vs, v = .ref a ∧ FzL G.K H a vs ∧ RepL l vs
  | .dct ks l, v => ∃ a kvs, v = .ref a ∧ (∃ o, H a = some (.frz o (.dK kvs))) ∧ kvs.map (·.1) = ks ∧ RepL l (kvs.map (·.2))
  | .obj c ns l, v => ∃ a dx fs, v = .ref a ∧ (∃ o, H a = some (.frz o (.ins (G.cl c) dx fs))) ∧ fs.map (·.1) = ns ∧ RepL l (fs.map (·.2))
  | .exc c ns l, v => ∃ a o u, v = .ref a ∧ H a = some (.frz o u) ∧ o.cls = .ref (G.cl c) ∧ (∃ fv, o.data = .fields fv) ∧
      ((o.dict = none ∧ ns = [] ∧ l = []) ∨ ∃ dx od fs, o.dict = some dx ∧ H dx = some (.frz od (.xd fs)) ∧ fs.map (·.1) = ns ∧ RepL l (fs.map (·.2)))
def RepL : List D → List V → Prop
  | [], vs => vs = []
  | d :: ds, vs => ∃ v ws, vs = v :: ws ∧ Rep d v ∧ RepL ds ws
end
end

/-- what lasts -/
def Lasts (H H' : Hp) : Prop := (∀ b xs, H b = some (.tup xs) → H' b = some (.tup xs)) ∧ ∀ b o u, H b = some (.frz o u) → H' b = some (.frz o u)
theorem Lasts.refl (H : Hp) : Lasts H H := ⟨fun _ _ h => h, fun _ _ _ h => h⟩
theorem Lasts.trans {H H1 H2 : Hp} (a : Lasts H H1) (b : Lasts H1 H2) : Lasts H H2 := ⟨fun c x h => b.1 c x (a.1 c x h), fun c o u h => b.2 c o u (a.2 c o u h)⟩
theorem Lasts.same {H H' : Hp} (s : Same H H') : Lasts H H' := ⟨fun b x h => s b _ h, fun b o u h => s b _ h⟩
theorem Lasts.tup {K : PySem.W.Frag} {H H' : Hp} (k : Lasts H H') {a : Addr} {xs : List V} (h : SqT K H a xs) : SqT K H' a xs := by
  rcases h with (h | ⟨o, h⟩) | h
  · exact .inl (.inl (k.1 _ _ h))
  · exact .inl (.inr ⟨o, k.2 _ _ _ h⟩)
  · exact .inr h

theorem Lasts.fzl {K : PySem.W.Frag} {H H' : Hp} (k : Lasts H H') {a : Addr} {xs : List V} (h : FzL K H a xs) : FzL K H' a xs := by
  rcases h with ⟨o, h⟩ | h
  · exact .inl ⟨o, k.2 _ _ _ h⟩
  · exact .inr h
section
variable {G : Cg} {H H' : Hp}
mutual
theorem Rep.lasts (k : Lasts H H') : ∀ {d : D} {v : V}, Rep G H d v → Rep G H' d v
  | .non, v, h => by unfold Rep at h ⊢; exact h
  | .bl b, v, h => by unfold Rep at h ⊢; exact h
  | .int i, v, h => by unfold Rep at h ⊢; exact h
  | .str x, v, h => by unfold Rep at h ⊢; exact h
  | .tup l, v, h => by
    unfold Rep at h ⊢
    obtain ⟨a, vs, e, s, r⟩ := h
    exact ⟨a, vs, e, k.tup s, RepL.lasts k r⟩
  | .lst l, v, h => by
    unfold Rep at h ⊢
    obtain ⟨a, vs, e, s, r⟩ := h
    exact ⟨a, vs, e, k.fzl s, RepL.lasts k r⟩
  | .dct ks l, v, h => by
    unfold Rep at h ⊢
    obtain ⟨a, vs, e, ⟨o, s⟩, q, r⟩ := h
    exact ⟨a, vs, e, ⟨o, k.2 _ _ _ s⟩, q, RepL.lasts k r⟩
  | .obj c ns l, v, h => by
    unfold Rep at h ⊢
    obtain ⟨a, dx, fs, e, ⟨o, s⟩, q, r⟩ := h
    exact ⟨a, dx, fs, e, ⟨o, k.2 _ _ _ s⟩, q, RepL.lasts k r⟩
  | .exc c ns l, v, h => by
    unfold Rep at h ⊢
    obtain ⟨a, o, u, e, s, c, f, r⟩ := h
    refine ⟨a, o, u, e, k.2 _ _ _ s, c, f, ?_⟩
    rcases r with r | ⟨dx, od, fs, z1, z2, z3, r⟩
    · exact .inl r
    · exact .inr ⟨dx, od, fs, z1, k.2 _ _ _ z2, z3, RepL.lasts k r⟩
theorem RepL.lasts (k : Lasts H H') : ∀ {l : List D} {vs : List V}, RepL G H l vs → RepL G H' l vs
  | [], vs, h => by unfold RepL at h ⊢; exact h
  | d :: ds, vs, h => by
    unfold RepL at h ⊢
    obtain ⟨v, ws, e, r, t⟩ := h
    exact ⟨v, ws, e, Rep.lasts k r, RepL.lasts k t⟩
end
theorem repL_iff : ∀ {l : List D} {vs : List V}, RepL G H l vs ↔ Paired (Rep G H) l vs
  | [], vs => by
    unfold RepL
    constructor
    · rintro rfl; exact .nil
    · intro h; cases h; rfl
  | d :: ds, vs => by
    unfold RepL
    constructor
    · rintro ⟨v, ws, rfl, r, t⟩; exact .cons r (repL_iff.mp t)
    · intro h; cases h with | cons r t => exact ⟨_, _, rfl, r, repL_iff.mpr t⟩
theorem RepL.nil : RepL G H [] [] := by unfold RepL; rfl
theorem RepL.cons {d : D} {v : V} {l : List D} {vs : List V} (r : Rep G H d v) (t : RepL G H l vs) : RepL G H (d :: l) (v :: vs) := by unfold RepL; exact ⟨_, _, rfl, r, t⟩
theorem RepL.length {l : List D} {vs : List V} (h : RepL G H l vs) : l.length = vs.length := Paired.length (repL_iff.mp h)
theorem RepL.get : ∀ {l : List D} {vs : List V} {i : Nat} {d : D}, RepL G H l vs → l[i]? = some d → ∃ v, vs[i]? = some v ∧ Rep G H d v
  | [], _, _, _, _, e => by simp at e
  | x :: l, vs, 0, d, h, e => by
    unfold RepL at h
    obtain ⟨v, ws, rfl, r, t⟩ := h
    simp at e; subst e
    exact ⟨v, rfl, r⟩
  | x :: l, vs, i + 1, d, h, e => by
    unfold RepL at h
    obtain ⟨v, ws, rfl, r, t⟩ := h
    obtain ⟨u, h1, h2⟩ := RepL.get (i := i) t (by simpa using e)
    exact ⟨u, by simpa using h1, h2⟩
theorem RepL.getV : ∀ {l : List D} {vs : List V} {i : Nat} {v : V}, RepL G H l vs → vs[i]? = some v → ∃ d, l[i]? = some d ∧ Rep G H d v := fun {l vs i v} h e => by
  have hl := h.length
  obtain ⟨hi, _⟩ := List.getElem?_eq_some_iff.mp e
  obtain ⟨u, h1, h2⟩ := h.get (i := i) (d := l[i]'(by omega)) (List.getElem?_eq_getElem _)
  rw [e] at h1; cases h1
  exact ⟨_, List.getElem?_eq_getElem _, h2⟩
theorem RepL.append : ∀ {l m : List D} {vs ws : List V}, RepL G H l vs → RepL G H m ws → RepL G H (l ++ m) (vs ++ ws)
  | [], _, _, _, h, t => by unfold RepL at h; subst h; exact t
  | d :: l, m, vs, ws, h, t => by
    unfold RepL at h
    obtain ⟨v, us, rfl, r, q⟩ := h
    exact .cons r (q.append t)
theorem RepL.one {d : D} {v : V} (r : Rep G H d v) : RepL G H [d] [v] := .cons r .nil
theorem RepL.drop : ∀ {l : List D} {vs : List V} (n : Nat), RepL G H l vs → RepL G H (l.drop n) (vs.drop n)
  | _, _, 0, h => h
  | [], _, n + 1, h => by unfold RepL at h; subst h; exact .nil
  | d :: l, _, n + 1, h => by
    unfold RepL at h
    obtain ⟨v, ws, rfl, r, t⟩ := h
    exact t.drop n
theorem RepL.take : ∀ {l : List D} {vs : List V} (n : Nat), RepL G H l vs → RepL G H (l.take n) (vs.take n)
  | _, _, 0, _ => .nil
  | [], _, n + 1, h => by unfold RepL at h; subst h; exact .nil
  | d :: l, _, n + 1, h => by
    unfold RepL at h
    obtain ⟨v, ws, rfl, r, t⟩ := h
    exact .cons r (t.take n)
theorem RepL.set : ∀ {l : List D} {vs : List V} {d : D} {v : V} (n : Nat), RepL G H l vs → Rep G H d v → RepL G H (l.set n d) (vs.set n v)
  | [], _, _, _, _, h, _ => by unfold RepL at h; subst h; exact .nil
  | x :: l, _, d, v, 0, h, r => by
    unfold RepL at h
    obtain ⟨u, ws, rfl, _, t⟩ := h
    exact .cons r t
  | x :: l, _, d, v, n + 1, h, r => by
    unfold RepL at h
    obtain ⟨u, ws, rfl, q, t⟩ := h
    exact .cons q (t.set n r)
theorem RepL.erase : ∀ {l : List D} {vs : List V} (n : Nat), RepL G H l vs → RepL G H (l.eraseIdx n) (vs.eraseIdx n)
  | [], _, _, h => by unfold RepL at h; subst h; exact .nil
  | x :: l, _, 0, h => by
    unfold RepL at h
    obtain ⟨u, ws, rfl, _, t⟩ := h
    exact t
  | x :: l, _, n + 1, h => by
    unfold RepL at h
    obtain ⟨u, ws, rfl, q, t⟩ := h
    exact .cons q (t.erase n)
theorem RepL.rev {l : List D} {vs : List V} (h : RepL G H l vs) : RepL G H l.reverse vs.reverse := by
  induction l generalizing vs with
  | nil => unfold RepL at h; subst h; exact .nil
  | cons d l ih =>
    unfold RepL at h
    obtain ⟨v, ws, rfl, r, t⟩ := h
    rw [List.reverse_cons, List.reverse_cons]
    exact (ih t).append (.one r)
end

/-- what stands in a slot, in a field, in an argument, or comes of an expression -/
inductive A where
  | val (d : D) | box (n : Nat) | own (l : List D) | bor (i : Nat)
/-- a thing that may change and is known by its number -/
inductive Bx where
  | lst (l : List D) | ins (c : Nat) (ns : List Str) (l : List A)
structure S where
  sl : List (Option A)
  bx : List Bx
/-- how an evaluation ends -/
inductive Res (α : Type) where
  | ok (a : α) (ρ : S) | ex (d : D) (ρ : S)
inductive Out where
  | nx (ρ : S) | rt (a : A) (ρ : S) | bk (ρ : S) | ct (ρ : S) | ex (d : D) (ρ : S)
abbrev Ev := S → Option (Res A)
abbrev Es := S → Option Out

/-- all of a state: the boxes' places, the executor's state, the slots, the abstract heap -/
structure Z where
  T : List Addr
  ρ : S
  σ : List (Option V)
  H : Hp

def FRep (G : Cg) (T : List Addr) (H : Hp) : A → V → Prop
  | .val d, v => Rep G H d v
  | .box n, v => ∃ a, T[n]? = some a ∧ v = .ref a
  | _, _ => False
def BxRep (G : Cg) (T : List Addr) (H : Hp) : Bx → Addr → Prop
  | .lst l, a => ∃ vs, H a = some (.lst vs) ∧ RepL G H l vs
  | .ins c ns l, a => ∃ dx fs, H a = some (.ins (G.cl c) dx fs) ∧ fs.map (·.1) = ns ∧ Paired (FRep G T H) l (fs.map (·.2))
def ARep (G : Cg) (z : Z) : A → V → Prop
  | .val d, v => Rep G z.H d v
  | .box n, v => ∃ a, z.T[n]? = some a ∧ v = .ref a
  | .own l, v => ∃ a vs, v = .ref a ∧ z.H a = some (.lst vs) ∧ RepL G z.H l vs
  | .bor i, v => z.σ[i]? = some (some v)
def OwnAt (z : Z) (p : Addr) : Prop := ∃ (i : Nat) (l : List D), z.ρ.sl[i]? = some (some (.own l)) ∧ z.σ[i]? = some (some (.ref p))
/-- what may change -/
def Fp (z : Z) (p : Addr) : Prop := p ∈ z.T ∨ OwnAt z p
def NotBor : A → Prop
  | .bor _ => False
  | _ => True

structure Sat (G : Cg) (z : Z) : Prop where
  len : z.ρ.sl.length = z.σ.length
  slots : ∀ (i : Nat) (a : A), z.ρ.sl[i]? = some (some a) → NotBor a ∧ ∃ v, z.σ[i]? = some (some v) ∧ ARep G z a v
  blen : z.ρ.bx.length = z.T.length
  boxes : ∀ (n : Nat) (b : Bx) (a : Addr), z.ρ.bx[n]? = some b → z.T[n]? = some a → BxRep G z.T z.H b a
  nd : z.T.Nodup
  sepT : ∀ a, OwnAt z a → a ∉ z.T
  sepO : ∀ (i j : Nat) (l m : List D) (a : Addr), z.ρ.sl[i]? = some (some (.own l)) → z.ρ.sl[j]? = some (some (.own m)) → z.σ[i]? = some (some (.ref a)) → z.σ[j]? = some (some (.ref a)) → i = j

structure After (G : Cg) (z z' : Z) : Prop where
  sat : Sat G z'
  pre : z.T <+: z'.T
  keep : ∀ b o, z.H b = some o → ¬ Fp z b → z'.H b = some o
  lasts : Lasts z.H z'.H
  fp : ∀ b, Fp z' b → Fp z b ∨ z.H b = none

theorem After.refl {G : Cg} {z : Z} (s : Sat G z) : After G z z := ⟨s, List.prefix_refl _, fun _ _ h _ => h, .refl _, fun _ h => .inl h⟩
theorem After.trans {G : Cg} {z z1 z2 : Z} (a : After G z z1) (b : After G z1 z2) : After G z z2 := by
  refine ⟨b.sat, a.pre.trans b.pre, fun c o h n => ?_, a.lasts.trans b.lasts, fun c h => ?_⟩
  · have h1 := a.keep c o h n
    refine b.keep c o h1 fun f => ?_
    rcases a.fp c f with q | q
    · exact n q
    · rw [h] at q; cases q
  · rcases b.fp c h with q | q
    · exact a.fp c q
    · cases e : z.H c with
      | none => exact .inr rfl
      | some o =>
        by_cases f : Fp z c
        · exact .inl f
        · have := a.keep c o e f
          rw [q] at this; cases this

/-- a list of one's own that has come: nobody else has it, and it was one's own ahead or is new -/
def OwnOk (z z' : Z) : A → V → Prop
  | .own _, .ref p => ¬ Fp z' p ∧ (Fp z p ∨ z.H p = none)
  | _, _ => True
structure AR (G : Cg) (z z' : Z) (a : A) (v : V) : Prop where
  rep : ARep G z' a v
  own : OwnOk z z' a v

theorem prefix_get {α : Type} {l m : List α} (h : l <+: m) {n : Nat} {x : α} (e : l[n]? = some x) : m[n]? = some x := by
  obtain ⟨t, rfl⟩ := h
  rw [List.getElem?_append_left (List.getElem?_eq_some_iff.mp e).1]
  exact e
theorem ARep.step {G : Cg} {z1 z2 : Z} {a : A} {v : V} (r : ARep G z1 a v) (n : ∀ l p, a = .own l → v = .ref p → ¬ Fp z1 p) (x : After G z1 z2) (hσ : z2.σ = z1.σ) : ARep G z2 a v := by
  cases a with
  | val d => exact Rep.lasts x.lasts r
  | box n => obtain ⟨p, h, e⟩ := r; exact ⟨p, prefix_get x.pre h, e⟩
  | own l =>
    obtain ⟨p, vs, e, h, t⟩ := r
    exact ⟨p, vs, e, x.keep _ _ h (n l p rfl e), RepL.lasts x.lasts t⟩
  | bor i =>
    show z2.σ[i]? = some (some v)
    rw [hσ]
    exact r
theorem AR.notFp {G : Cg} {z z1 : Z} {a : A} {v : V} (r : AR G z z1 a v) : ∀ l p, a = .own l → v = .ref p → ¬ Fp z1 p := by
  rintro l p rfl rfl
  exact r.own.1
theorem AR.step {G : Cg} {z z1 z2 : Z} {a : A} {v : V} (r : AR G z z1 a v) (x : After G z1 z2) (hσ : z2.σ = z1.σ) : AR G z z2 a v := by
  refine ⟨r.rep.step r.notFp x hσ, ?_⟩
  cases a with
  | own l =>
    cases v with
    | ref p =>
      have h := r.own
      refine ⟨fun f => ?_, h.2⟩
      rcases x.fp p f with q | q
      · exact h.1 q
      · obtain ⟨_, _, e, h1, _⟩ := r.rep
        cases e
        rw [q] at h1; cases h1
    | _ => trivial
  | _ => trivial
/-- seen from an earlier start -/
theorem AR.from {G : Cg} {z0 z z1 : Z} {a : A} {v : V} (r : AR G z z1 a v) (x : After G z0 z) : AR G z0 z1 a v := by
  refine ⟨r.rep, ?_⟩
  cases a with
  | own l =>
    cases v with
    | ref p =>
      have h := r.own
      refine ⟨h.1, ?_⟩
      rcases h.2 with q | q
      · exact x.fp p q
      · cases e : z0.H p with
        | none => exact .inr rfl
        | some o =>
          by_cases f : Fp z0 p
          · exact .inl f
          · have := x.keep p o e f
            rw [q] at this; cases this
    | _ => trivial
  | _ => trivial

/-! ### growing the heap -/
theorem Sat.grow {G : Cg} {T : List Addr} {ρ : S} {σ : List (Option V)} {H H' : Hp} (s : Sat G ⟨T, ρ, σ, H⟩) (e : Same H H') : Sat G ⟨T, ρ, σ, H'⟩ := by
  refine ⟨s.len, fun i a h => ?_, s.blen, fun n b a h1 h2 => ?_, s.nd, s.sepT, s.sepO⟩
  · obtain ⟨nb, v, h1, r⟩ := s.slots i a h
    refine ⟨nb, v, h1, ?_⟩
    cases a with
    | val d => exact Rep.lasts (.same e) r
    | box n => exact r
    | own l =>
      obtain ⟨p, vs, q, h, t⟩ := r
      exact ⟨p, vs, q, e _ _ h, RepL.lasts (.same e) t⟩
    | bor i => exact nb.elim
  · have q := s.boxes n b a h1 h2
    cases b with
    | lst l => obtain ⟨vs, h, t⟩ := q; exact ⟨vs, e _ _ h, RepL.lasts (.same e) t⟩
    | ins c ns l =>
      obtain ⟨dx, fs, h, t, u⟩ := q
      refine ⟨dx, fs, e _ _ h, t, Paired.mapP u fun a b r => ?_⟩
      cases a with
      | val d => exact Rep.lasts (.same e) r
      | box n => exact r
      | own l => exact r
      | bor i => exact r
theorem After.grow {G : Cg} {T : List Addr} {ρ : S} {σ : List (Option V)} {H H' : Hp} (s : Sat G ⟨T, ρ, σ, H⟩) (e : Same H H') : After G ⟨T, ρ, σ, H⟩ ⟨T, ρ, σ, H'⟩ :=
  ⟨s.grow e, List.prefix_refl _, fun b o h _ => e b o h, .same e, fun _ h => .inl h⟩
theorem fp_tag {G : Cg} {z : Z} (s : Sat G z) {b : Addr} (f : Fp z b) : (∃ vs, z.H b = some (.lst vs)) ∨ ∃ C dx fs, z.H b = some (.ins C dx fs) := by
  rcases f with f | ⟨i, l, h1, h2⟩
  · obtain ⟨n, hn⟩ := List.mem_iff_getElem?.mp f
    have hl : n < z.ρ.bx.length := by rw [s.blen]; exact (List.getElem?_eq_some_iff.mp hn).1
    have q := s.boxes n _ b (List.getElem?_eq_getElem hl) hn
    cases e : z.ρ.bx[n] with
    | lst l => rw [e] at q; obtain ⟨vs, h, _⟩ := q; exact .inl ⟨vs, h⟩
    | ins c ns l => rw [e] at q; obtain ⟨dx, fs, h, _⟩ := q; exact .inr ⟨_, dx, fs, h⟩
  · obtain ⟨_, v, e, q⟩ := s.slots i _ h1
    obtain ⟨p, vs, e2, h, _⟩ := q
    rw [h2] at e; cases e; cases e2
    exact .inl ⟨vs, h⟩
/-- what is kept but for what may change lasts -/
theorem lasts_of {G : Cg} {z : Z} {H' : Hp} (s : Sat G z) (k : ∀ b o, z.H b = some o → ¬ Fp z b → H' b = some o) : Lasts z.H H' := by
  refine ⟨fun b xs h => k b _ h fun f => ?_, fun b o u h => k b _ h fun f => ?_⟩
  · rcases fp_tag s f with ⟨vs, q⟩ | ⟨C, dx, fs, q⟩ <;> (rw [h] at q; cases q)
  · rcases fp_tag s f with ⟨vs, q⟩ | ⟨C, dx, fs, q⟩ <;> (rw [h] at q; cases q)
end Fm

/-! Fm.B: the judgements over data, from the layer's; names, constants, two-place operations, tests. -/
namespace Fm
open PySem PySem.Spec PyProof.Rows L2

def bd {α β : Type} (x : Option (Res α)) (k : α → S → Option (Res β)) : Option (Res β) := match x with
  | some (.ok a ρ) => k a ρ
  | some (.ex d ρ) => some (.ex d ρ)
  | none => none
/-- an exception's class and dict, as it flies -/
def ExR (G : Cg) (H : Hp) : D → Value → Option Addr → Prop
  | .exc c ns l, cls, dd => cls = .ref (G.cl c) ∧ ((dd = none ∧ ns = [] ∧ l = []) ∨ ∃ dx fs, dd = some dx ∧ H dx = some (.xd fs) ∧ fs.map (·.1) = ns ∧ RepL G H l (fs.map (·.2)))
  | _, _, _ => False
def Go {α : Type} (G : Cg) (W : WX) (z : Z) (r : Option (Res α)) (P : α → Z → Prop) : Prop := ∃ r', r = some r' ∧ match r' with
  | .ok a ρ' => ∀ z' : Z, z'.ρ = ρ' → z'.σ = z.σ → After G z z' → P a z'
  | .ex d ρ' => ∀ (cls : Value) (dd : Option Addr) (z' : Z), z'.ρ = ρ' → z'.σ = z.σ → After G z z' → ExR G z'.H d cls dd → W cls dd z.σ z'.H
section
variable {G : Cg} {W : WX} {α β : Type}
theorem Go.imp {z : Z} {r : Option (Res α)} {P P' : α → Z → Prop} (h : Go G W z r P) (i : ∀ a z', z'.σ = z.σ → After G z z' → P a z' → P' a z') : Go G W z r P' := by
  obtain ⟨r', e, q⟩ := h
  refine ⟨r', e, ?_⟩
  cases r' with
  | ok a ρ' => exact fun z' e1 e2 x => i a z' e2 x (q z' e1 e2 x)
  | ex d ρ' => exact q
theorem Go.bind {z : Z} {r : Option (Res α)} {k : α → S → Option (Res β)} {P : β → Z → Prop} (h : Go G W z (bd r k) P) : Go G W z r fun a z1 => Go G W z1 (k a z1.ρ) fun b z2 => After G z z2 → P b z2 := by
  obtain ⟨r', e, q⟩ := h
  cases r with
  | none => cases e
  | some x =>
    cases x with
    | ok a ρ1 =>
      refine ⟨_, rfl, fun z1 e1 e2 x1 => ⟨r', by rw [e1]; exact e, ?_⟩⟩
      cases r' with
      | ok b ρ2 => exact fun z2 e3 e4 x2 _ => q z2 e3 (e4.trans e2) (x1.trans x2)
      | ex d ρ2 =>
        intro cls dd z2 e3 e4 x2 xr
        show W cls dd z1.σ z2.H
        rw [e2]
        exact q cls dd z2 e3 (e4.trans e2) (x1.trans x2) xr
    | ex d ρ1 =>
      have e' : some (Res.ex d ρ1) = some r' := e
      cases e'
      exact ⟨_, rfl, q⟩
theorem Go.pure {z : Z} {a : α} {P : α → Z → Prop} (h : Go G W z (some (.ok a z.ρ)) P) (s : Sat G z) : P a z := by
  obtain ⟨r', e, q⟩ := h
  cases e
  exact q z rfl rfl (.refl s)
end

def tD (G : Cg) (W : WX) (f : Ev) : TE := fun σ H Q => ∃ z : Z, z.σ = σ ∧ z.H = H ∧ Sat G z ∧ Go G W z (f z.ρ) fun a z' => ∀ v, AR G z z' a v → Q v z'.H
def tT (G : Cg) (W : WX) (f : S → Option (Res Bool)) : TT := fun σ H Q => ∃ z : Z, z.σ = σ ∧ z.H = H ∧ Sat G z ∧ Go G W z (f z.ρ) fun b z' => Q b z'.H
abbrev gx (X : Cx) (cl : Nat → Addr) : Cg := ⟨X.K, cl⟩
def ClsOk (X : Cx) : Prop := ∃ k, Room (k) X.A
structure DE (X : Cx) (cl : Nat → Addr) (e : Expr) (f : Ev) : Prop where
  run : ∀ W, Takes X W → PE X e (tD (gx X cl) W f)
structure DT (X : Cx) (cl : Nat → Addr) (e : Expr) (f : S → Option (Res Bool)) : Prop where
  run : ∀ W, Takes X W → PT X e (tT (gx X cl) W f)
section
variable {X : Cx} {cl : Nat → Addr}
theorem PE.imp {e : Expr} {t t' : TE} (h : PE X e t) (i : ∀ σ H Q, t' σ H Q → t σ H Q) : PE X e t' := ⟨fun pins s σ H Q I q => h.run pins s σ H Q I (i _ _ _ q)⟩
theorem PT.imp {e : Expr} {t t' : TT} (h : PT X e t) (i : ∀ σ H Q, t' σ H Q → t σ H Q) : PT X e t' := ⟨fun pins s σ H Q I q => h.run pins s σ H Q I (i _ _ _ q)⟩
/-- the next step, seen from the sub-expression -/
theorem tD_go {W : WX} {f : Ev} {z : Z} {Q : VK} (s : Sat (gx X cl) z) (h : Go (gx X cl) W z (f z.ρ) fun a z' => ∀ v, AR (gx X cl) z z' a v → Q v z'.H) : tD (gx X cl) W f z.σ z.H Q := ⟨z, rfl, rfl, s, h⟩
end

/-! ### looking -/
def look : A → S → Option D
  | .val d, _ => some d
  | .own l, _ => some (.lst l)
  | .box n, ρ => match ρ.bx[n]? with
    | some (.lst l) => some (.lst l)
    | _ => none
  | .bor i, ρ => match ρ.sl[i]? with
    | some (some (.val d)) => some d
    | some (some (.own l)) => some (.lst l)
    | some (some (.box n)) => (match ρ.bx[n]? with
      | some (.lst l) => some (.lst l)
      | _ => none)
    | _ => none
/-- a datum that may be read: a list may still be one that changes -/
def VRep (G : Cg) (H : Hp) : D → V → Prop
  | .lst l, v => ∃ a vs, v = .ref a ∧ SqL G.K H a vs ∧ RepL G H l vs
  | d, v => Rep G H d v
theorem VRep.of {G : Cg} {H : Hp} {d : D} {v : V} (r : Rep G H d v) : VRep G H d v := by
  cases d with
  | lst l =>
    unfold Rep at r
    obtain ⟨a, vs, e, h, t⟩ := r
    exact ⟨a, vs, e, h.sq, t⟩
  | _ => exact r
theorem look_rep {G : Cg} {z : Z} {a : A} {v : V} {d : D} (s : Sat G z) (r : ARep G z a v) (h : look a z.ρ = some d) : VRep G z.H d v := by
  have box : ∀ (n : Nat) (v : V), (∃ a, z.T[n]? = some a ∧ v = V.ref a) → (match z.ρ.bx[n]? with
      | some (Bx.lst l) => some (D.lst l)
      | _ => none) = some d → VRep G z.H d v := by
    rintro n v ⟨p, h1, rfl⟩ h
    split at h
    · rename_i l e
      cases h
      obtain ⟨vs, h2, t⟩ := s.boxes n _ p e h1
      exact ⟨p, vs, rfl, .of h2, t⟩
    · cases h
  cases a with
  | val e => cases h; exact VRep.of r
  | own l =>
    cases h
    obtain ⟨p, vs, e, h1, t⟩ := r
    exact ⟨p, vs, e, .of h1, t⟩
  | box n => exact box n v r h
  | bor i =>
    have r : z.σ[i]? = some (some v) := r
    unfold look at h
    simp only at h
    split at h
    · rename_i e q
      cases h
      obtain ⟨_, u, h1, r1⟩ := s.slots i _ q
      rw [r] at h1; cases h1
      exact VRep.of r1
    · rename_i l q
      cases h
      obtain ⟨_, u, h1, r1⟩ := s.slots i _ q
      rw [r] at h1; cases h1
      obtain ⟨p, vs, e, h1, t⟩ := r1
      exact ⟨p, vs, e, .of h1, t⟩
    · rename_i n q
      obtain ⟨_, u, h1, r1⟩ := s.slots i _ q
      rw [r] at h1; cases h1
      exact box n v r1 h
    · cases h

/-! ### what an operation gives -/
def NRep (G : Cg) (H H' : Hp) : A → V → Prop
  | .val d, v => Rep G H' d v
  | .own l, v => ∃ p vs, v = .ref p ∧ H p = none ∧ H' p = some (.lst vs) ∧ RepL G H' l vs
  | _, _ => False
/-- an operation that reads data and makes new things alone is done -/
theorem give {G : Cg} {W : WX} {z0 z : Z} {c : A} {Q : VK} {w : V} {H' : Hp} (x : After G z0 z) (h : Go G W z (some (.ok c z.ρ)) fun c z' => After G z0 z' → ∀ w, AR G z0 z' c w → Q w z'.H)
    (e : Same z.H H') (n : NRep G z.H H' c w) : Q w H' := by
  obtain ⟨r', er, q⟩ := h
  cases er
  have g : After G z ⟨z.T, z.ρ, z.σ, H'⟩ := After.grow x.sat e
  refine q ⟨z.T, z.ρ, z.σ, H'⟩ rfl rfl g (x.trans g) w ⟨?_, ?_⟩
  · cases c with
    | val d => exact n
    | own l =>
      obtain ⟨p, vs, e1, _, e2, t⟩ := n
      exact ⟨p, vs, e1, e2, t⟩
    | box k => exact n.elim
    | bor i => exact n.elim
  · cases c with
    | own l =>
      obtain ⟨p, vs, rfl, np, e2, t⟩ := n
      refine ⟨fun f => ?_, ?_⟩
      · have f' : Fp z p := f
        rcases fp_tag x.sat f' with ⟨vs, q⟩ | ⟨C, dx, fs, q⟩ <;> (rw [np] at q; cases q)
      · cases e0 : z0.H p with
        | none => exact .inr rfl
        | some o =>
          by_cases f : Fp z0 p
          · exact .inl f
          · have := x.keep p o e0 f
            rw [np] at this; cases this
    | _ => trivial

def ret (ρ : S) (c : Option A) : Option (Res A) := match c with
  | some a => some (.ok a ρ)
  | none => none
def l1 (ρ : S) (a : A) (k : D → Option (Res A)) : Option (Res A) := match look a ρ with
  | some x => k x
  | none => none
theorem go_l1 {G : Cg} {W : WX} {z : Z} {a : A} {v : V} {k : D → Option (Res A)} {P : A → Z → Prop} (s : Sat G z) (r : ARep G z a v) (h : Go G W z (l1 z.ρ a k) P) : ∃ x, VRep G z.H x v ∧ Go G W z (k x) P := by
  unfold l1 at h
  cases e : look a z.ρ with
  | none =>
    rw [e] at h
    obtain ⟨r', e', _⟩ := h
    cases e'
  | some x =>
    rw [e] at h
    exact ⟨x, look_rep s r e, h⟩
theorem go_ret {G : Cg} {W : WX} {z : Z} {c : Option A} {P : A → Z → Prop} (h : Go G W z (ret z.ρ c) P) : ∃ a, c = some a ∧ Go G W z (some (.ok a z.ρ)) P := by
  cases c with
  | none =>
    obtain ⟨r', e', _⟩ := h
    cases e'
  | some a => exact ⟨a, rfl, h⟩

/-- one thing read -/
def eU (g : D → Option A) (fa : Ev) : Ev := fun ρ => bd (fa ρ) fun a ρ1 => l1 ρ1 a fun x => ret ρ1 (g x)
/-- two things read -/
def eB (g : D → D → Option A) (fa fb : Ev) : Ev := fun ρ => bd (fa ρ) fun a ρ1 => bd (fb ρ1) fun b ρ2 => l1 ρ2 a fun x => l1 ρ2 b fun y => ret ρ2 (g x y)
def Op1 (G : Cg) (r : V → Hp → VK → Prop) (g : D → Option A) : Prop := ∀ (H : Hp) (x : D) (v : V) (c : A) (Q : VK), VRep G H x v → g x = some c → (∀ w H', Same H H' → NRep G H H' c w → Q w H') → r v H Q
def Op2 (G : Cg) (r : R2) (g : D → D → Option A) : Prop := ∀ (H : Hp) (x y : D) (v u : V) (c : A) (Q : VK), VRep G H x v → VRep G H y u → g x y = some c → (∀ w H', Same H H' → NRep G H H' c w → Q w H') → r v u H Q
section
variable {X : Cx} {cl : Nat → Addr} {W : WX}
theorem tU {r : V → Hp → VK → Prop} {g : D → Option A} {fa : Ev} (hg : Op1 (gx X cl) r g) : ∀ σ H Q, tD (gx X cl) W (eU g fa) σ H Q → tUn r (tD (gx X cl) W fa) σ H Q := by
  rintro σ H Q ⟨z, rfl, rfl, s, h⟩
  refine tD_go s ((Go.bind h).imp fun a z1 e1 x1 h1 v hv => ?_)
  obtain ⟨x, rx, h2⟩ := go_l1 x1.sat hv.rep h1
  obtain ⟨c, hc, h3⟩ := go_ret h2
  exact hg _ x v c Q rx hc fun w H' e n => give x1 h3 e n
theorem tB2 {r : R2} {g : D → D → Option A} {fa fb : Ev} (hg : Op2 (gx X cl) r g) : ∀ σ H Q, tD (gx X cl) W (eB g fa fb) σ H Q → tOp r (tD (gx X cl) W fa) (tD (gx X cl) W fb) σ H Q := by
  rintro σ H Q ⟨z, rfl, rfl, s, h⟩
  refine tD_go s ((Go.bind h).imp fun a z1 e1 x1 h1 v hv => ?_)
  rw [← e1]
  refine tD_go x1.sat ((Go.bind h1).imp fun b z2 e2 x2 h2 u hu => ?_)
  have hv2 := hv.step x2 e2
  obtain ⟨x, rx, h3⟩ := go_l1 x2.sat hv2.rep h2
  obtain ⟨y, ry, h4⟩ := go_l1 x2.sat hu.rep h3
  obtain ⟨c, hc, h5⟩ := go_ret h4
  have x12 := x1.trans x2
  exact hg _ x y v u c Q rx ry hc fun w H' e n => give x12 (h5.imp fun a z' _ x' p q => p (x2.trans x') q) e n
theorem de_bin {op : Operator} {r : R2} {g : D → D → Option A} {fa fb : Ev} {a b : Expr} {pos : Pos} (ho : OpR X (binaryOp op) r) (hg : Op2 (gx X cl) r g) (ha : DE X cl a fa) (hb : DE X cl b fb) : DE X cl (.BinOp a op b pos) (eB g fa fb) :=
  ⟨fun W tk => PE.imp (pe_op ho (ha.run W tk) (hb.run W tk)) (tB2 hg)⟩
theorem de_cmp {op : CmpOp} {r : R2} {g : D → D → Option A} {fa fb : Ev} {a b : Expr} {pos : Pos} (ho : OpR X (compareOp op) r) (hg : Op2 (gx X cl) r g) (hm : behindInMarks op b = false) (ha : DE X cl a fa) (hb : DE X cl b fb) : DE X cl (.Compare a [op] [b] pos) (eB g fa fb) :=
  ⟨fun W tk => PE.imp (pe_cmpR ho (ha.run W tk) (hb.run W tk) hm) (tB2 hg)⟩
theorem de_un {op : UnaryOp} {r : V → Hp → VK → Prop} {g : D → Option A} {fa : Ev} {a : Expr} {pos : Pos} (ho : UnR X (unaryOp op) r) (hg : Op1 (gx X cl) r g) (ha : DE X cl a fa) : DE X cl (.UnaryOp op a pos) (eU g fa) :=
  ⟨fun W tk => PE.imp (pe_un ho (ha.run W tk)) (tU hg)⟩
theorem de_ix {r : R2} {g : D → D → Option A} {fa fb : Ev} {a b : Expr} {pos : Pos} (ho : IxR X r) (hg : Op2 (gx X cl) r g) (hs : PlainIx b) (ha : DE X cl a fa) (hb : DE X cl b fb) : DE X cl (.Subscript a b pos) (eB g fa fb) :=
  ⟨fun W tk => PE.imp (pe_ix ho (ha.run W tk) (hb.run W tk) hs) (tB2 hg)⟩

/-! ### constants, names -/
def eC (d : D) : Ev := fun ρ => some (.ok (.val d) ρ)
theorem go_ok {z : Z} {α : Type} {a : α} {P : α → Z → Prop} {G : Cg} (s : Sat G z) (h : Go G W z (some (.ok a z.ρ)) P) : P a z := h.pure s
theorem de_const {e : Expr} {d : D} {v : V} (h : PE X e (tC v)) (r : ∀ G H, Rep G H d v) : DE X cl e (eC d) := ⟨fun W tk => PE.imp h fun σ H Q => by
  rintro ⟨z, rfl, rfl, s, h⟩
  exact h.pure s v ⟨r _ _, trivial⟩⟩
theorem de_int {i j pos} : DE X cl (.Constant (.int i) j pos) (eC (.int i)) := de_const pe_int fun _ _ => by unfold Rep; rfl
theorem de_bl {b j pos} : DE X cl (.Constant (.bool b) j pos) (eC (.bl b)) := de_const pe_bl fun _ _ => by unfold Rep; rfl
theorem de_non {j pos} : DE X cl (.Constant .none j pos) (eC .non) := de_const pe_non fun _ _ => by unfold Rep; rfl
theorem de_str {x j pos} (hx : PySem.PyData.strOk x = true := by decide +kernel) : DE X cl (.Constant (.str x) j pos) (eC (.str x)) := de_const pe_str fun _ _ => by unfold Rep; exact ⟨rfl, hx⟩
/-- a name that is looked at: what stands in the slot stays one's own -/
def eV (i : Nat) : Ev := fun ρ => match ρ.sl[i]? with
  | some (some (.val d)) => some (.ok (.val d) ρ)
  | some (some (.box n)) => some (.ok (.box n) ρ)
  | some (some (.own _)) => some (.ok (.bor i) ρ)
  | _ => none
theorem de_var {i : Nat} {x : Str} {pos : Pos} (h : PE X (.Name x pos) (tVar i)) : DE X cl (.Name x pos) (eV i) := ⟨fun W tk => PE.imp h fun σ H Q => by
  rintro ⟨z, rfl, rfl, s, r', e, q⟩
  unfold eV at e
  split at e
  · rename_i d hd
    cases e
    obtain ⟨_, v, h1, r1⟩ := s.slots i _ hd
    exact ⟨v, h1, q z rfl rfl (.refl s) v ⟨r1, trivial⟩⟩
  · rename_i n hd
    cases e
    obtain ⟨_, v, h1, r1⟩ := s.slots i _ hd
    exact ⟨v, h1, q z rfl rfl (.refl s) v ⟨r1, trivial⟩⟩
  · rename_i l hd
    cases e
    obtain ⟨_, v, h1, r1⟩ := s.slots i _ hd
    exact ⟨v, h1, q z rfl rfl (.refl s) v ⟨h1, trivial⟩⟩
  · cases e⟩

/-! ### freezing -/
def eZ (f : Ev) : Ev := fun ρ => bd (f ρ) fun a ρ1 => match a with
  | .own l => some (.ok (.val (.lst l)) ρ1)
  | .bor i => (match ρ1.sl[i]? with
    | some (some (.val d)) => some (.ok (.val d) ρ1)
    | some (some (.own l)) => some (.ok (.val (.lst l)) { ρ1 with sl := ρ1.sl.set i (some (.val (.lst l))) })
    | some (some (.box n)) => some (.ok (.box n) ρ1)
    | _ => none)
  | a => some (.ok a ρ1)
end
theorem Inv.freeze {X : Cx} {pins : List (Addr × Obj)} {σ : List (Option V)} {H : Hp} {s : Shared} {a : Addr} {xs : List V} (I : Inv X pins σ H s) (h : H a = some (.lst xs)) : ∃ o, Inv X pins σ (upd H a (.frz o (.lst xs))) s := by
  obtain ⟨hz, its, n, r, e⟩ : ObjOk X.prog X.w H s.heap a (.lst xs) := I.hok a _ h
  refine ⟨_, I.un (t' := s.toks) (h' := s.heap) (H' := upd H a (.frz { cls := .type "list", data := .seq its.toArray n } (.lst xs))) ?_ ?_⟩
  · refine ⟨fun b o q _ _ _ => q, fun b o q _ _ _ => ⟨o.slots, q⟩, fun b o q nn _ => ?_, fun b o q _ => ⟨o, q⟩, fun b ys q => ?_, fun b o u q => ?_, fun b ps q => ⟨#[], ?_⟩⟩
    · rw [upd_ne (fun z => by rw [z, h] at nn; cases nn)]; exact nn
    · rw [upd_ne (fun z => by rw [z, h] at q; cases q)]; exact q
    · rw [upd_ne (fun z => by rw [z, h] at q; cases q)]; exact q
    · rw [upd_ne (fun z => by rw [z, h] at q; cases q), q]; simp
  · intro b o q
    by_cases hb : b = a
    · subst hb
      rw [upd_same] at q
      cases q
      exact ⟨e, hz, its, n, r, e⟩
    · rw [upd_ne hb] at q
      refine (I.hok b o q).stay (fun c u _ z => z) (fun c z => ?_) fun c ys z => ?_
      · rw [upd_ne (fun w => by rw [w, h] at z; cases z)]; exact z
      · rw [upd_ne (fun w => by rw [w, h] at z; cases z)]; exact z
def tFz (t : TE) : TE := fun σ H Q => t σ H fun v H' => Q v H' ∨ ∃ a xs, v = .ref a ∧ H' a = some (.lst xs) ∧ ∀ o, Q v (upd H' a (.frz o (.lst xs)))
theorem pe_fz {X : Cx} {e : Expr} {t : TE} (h : PE X e t) : PE X e (tFz t) := ⟨fun pins s σ H Q I q => by
  refine thn (h.run pins s σ H _ I q) fun u s1 ⟨v, H1, I1, r1, q1⟩ => ?_
  rcases q1 with q1 | ⟨a, xs, rfl, h1, q1⟩
  · exact ⟨v, H1, I1, r1, q1⟩
  · obtain ⟨o, I2⟩ := Inv.freeze I1 h1
    exact ⟨_, _, I2, r1, q1 o⟩⟩
end Fm

/-! Fm.C: states changed; freezing; arguments, displays; statements. -/
namespace Fm
open PySem PySem.Spec PyProof.Rows L2

section
variable {G : Cg} {T : List Addr} {ρ : S} {σ : List (Option V)} {H H' : Hp}
theorem FRep.lasts (k : Lasts H H') {T' : List Addr} (p : T <+: T') {a : A} {v : V} (r : FRep G T H a v) : FRep G T' H' a v := by
  cases a with
  | val d => exact Rep.lasts k r
  | box n => obtain ⟨q, h, e⟩ := r; exact ⟨q, prefix_get p h, e⟩
  | own l => exact r
  | bor i => exact r
theorem BxRep.keep (k : Lasts H H') {T' : List Addr} (p : T <+: T') {b : Bx} {a : Addr} (e : H' a = H a) (r : BxRep G T H b a) : BxRep G T' H' b a := by
  cases b with
  | lst l => obtain ⟨vs, h, t⟩ := r; exact ⟨vs, by rw [e]; exact h, RepL.lasts k t⟩
  | ins c ns l => obtain ⟨dx, fs, h, n, t⟩ := r; exact ⟨dx, fs, by rw [e]; exact h, n, Paired.mapP t fun a b r => FRep.lasts k p r⟩
/-- the heap changes where nothing of ours may change -/
theorem Sat.chg (s : Sat G ⟨T, ρ, σ, H⟩) (k : Lasts H H') (hk : ∀ b, Fp ⟨T, ρ, σ, H⟩ b → H' b = H b) : Sat G ⟨T, ρ, σ, H'⟩ := by
  refine ⟨s.len, fun i a h => ?_, s.blen, fun n b a h1 h2 => ?_, s.nd, s.sepT, s.sepO⟩
  · obtain ⟨nb, v, h1, r⟩ := s.slots i a h
    refine ⟨nb, v, h1, ?_⟩
    cases a with
    | val d => exact Rep.lasts k r
    | box n => exact r
    | own l =>
      obtain ⟨p, vs, rfl, q, t⟩ := r
      exact ⟨p, vs, rfl, (hk p (.inr ⟨i, l, h, h1⟩)).trans q, RepL.lasts k t⟩
    | bor i => exact nb.elim
  · exact (s.boxes n b a h1 h2).keep k (List.prefix_refl _) (hk a (.inl (List.mem_of_getElem? h2)))
theorem get_set_none {α : Type} {l : List (Option α)} {i j : Nat} {a : α} (h : (l.set i none)[j]? = some (some a)) : l[j]? = some (some a) ∧ j ≠ i := by
  by_cases e : i = j
  · subst e
    by_cases hl : i < l.length
    · rw [List.getElem?_set_self hl] at h; cases h
    · rw [List.getElem?_eq_none (by simpa using hl)] at h; cases h
  · rw [List.getElem?_set_ne e] at h
    exact ⟨h, fun z => e z.symm⟩
/-- a slot is let go -/
theorem Sat.clear (s : Sat G ⟨T, ρ, σ, H⟩) (i : Nat) : Sat G ⟨T, { ρ with sl := ρ.sl.set i none }, σ, H⟩ := by
  refine ⟨by show (ρ.sl.set i none).length = _; rw [List.length_set]; exact s.len, fun j a h => ?_, s.blen, s.boxes, s.nd, ?_, fun j k l m a h1 h2 => ?_⟩
  · have h := get_set_none h
    obtain ⟨nb, v, h1, r⟩ := s.slots j a h.1
    refine ⟨nb, v, h1, ?_⟩
    cases a with
    | bor i => exact nb.elim
    | _ => exact r
  · rintro a ⟨j, l, h, h2⟩
    exact s.sepT a ⟨j, l, (get_set_none h).1, h2⟩
  · exact s.sepO j k l m a (get_set_none h1).1 (get_set_none h2).1
theorem fp_clear {i : Nat} {b : Addr} (f : Fp ⟨T, { ρ with sl := ρ.sl.set i none }, σ, H⟩ b) : Fp ⟨T, ρ, σ, H⟩ b := by
  rcases f with f | ⟨j, l, h, h2⟩
  · exact .inl f
  · exact .inr ⟨j, l, (get_set_none h).1, h2⟩
def clr (ρ : S) (is : List Nat) : S := { ρ with sl := is.foldl (fun l i => l.set i none) ρ.sl }
theorem Sat.clrs : ∀ (is : List Nat) {ρ : S}, Sat G ⟨T, ρ, σ, H⟩ → Sat G ⟨T, clr ρ is, σ, H⟩ ∧ ∀ b, Fp ⟨T, clr ρ is, σ, H⟩ b → Fp ⟨T, ρ, σ, H⟩ b
  | [], ρ, s => ⟨s, fun _ h => h⟩
  | i :: is, ρ, s => by
    obtain ⟨h1, h2⟩ := Sat.clrs is (s.clear i)
    exact ⟨h1, fun b f => fp_clear (h2 b f)⟩
theorem After.clrs {z z' : Z} (x : After G z z') (is : List Nat) : After G z ⟨z'.T, clr z'.ρ is, z'.σ, z'.H⟩ := by
  obtain ⟨h1, h2⟩ := Sat.clrs is (show Sat G ⟨z'.T, z'.ρ, z'.σ, z'.H⟩ from x.sat)
  exact ⟨h1, x.pre, x.keep, x.lasts, fun b f => x.fp b (h2 b f)⟩
theorem fp_put {i : Nat} {a : A} {v : V} {b : Addr} (f : Fp ⟨T, { ρ with sl := ρ.sl.set i (some a) }, σ.set i (some v), H⟩ b) (hlen : ρ.sl.length = σ.length) : Fp ⟨T, { ρ with sl := ρ.sl.set i none }, σ, H⟩ b ∨ (∃ l, a = .own l ∧ v = .ref b) := by
  rcases f with f | ⟨j, l, h, h2⟩
  · exact .inl (.inl f)
  · have h : (ρ.sl.set i (some a))[j]? = some (some (.own l)) := h
    have h2 : (σ.set i (some v))[j]? = some (some (.ref b)) := h2
    by_cases e : i = j
    · subst e
      by_cases hl : i < ρ.sl.length
      · rw [List.getElem?_set_self hl] at h
        rw [List.getElem?_set_self (by omega)] at h2
        exact .inr ⟨l, Option.some.inj (Option.some.inj h), Option.some.inj (Option.some.inj h2)⟩
      · rw [List.getElem?_eq_none (by simpa using hl)] at h; cases h
    · rw [List.getElem?_set_ne e] at h h2
      refine .inl (.inr ⟨j, l, ?_, h2⟩)
      show (ρ.sl.set i none)[j]? = _
      rw [List.getElem?_set_ne e]
      exact h
/-- a slot is filled -/
theorem Sat.put {i : Nat} {a : A} {v : V} (s : Sat G ⟨T, ρ, σ, H⟩) (nb : NotBor a) (r : ARep G ⟨T, ρ, σ, H⟩ a v) (n : ∀ l p, a = .own l → v = .ref p → ¬ Fp ⟨T, { ρ with sl := ρ.sl.set i none }, σ, H⟩ p) :
    Sat G ⟨T, { ρ with sl := ρ.sl.set i (some a) }, σ.set i (some v), H⟩ := by
  have hlen : ρ.sl.length = σ.length := s.len
  have c := s.clear i
  have other : ∀ (j : Nat) (b : A), i ≠ j → (ρ.sl.set i (some a))[j]? = some (some b) → (ρ.sl.set i none)[j]? = some (some b) := fun j b e h => by
    rw [List.getElem?_set_ne e] at h ⊢; exact h
  refine ⟨by show (ρ.sl.set i (some a)).length = (σ.set i (some v)).length; rw [List.length_set, List.length_set]; exact hlen, fun j b h => ?_, s.blen, s.boxes, s.nd, fun b h => ?_, fun j k l m p h1 h2 h3 h4 => ?_⟩
  · have h : (ρ.sl.set i (some a))[j]? = some (some b) := h
    by_cases e : i = j
    · subst e
      by_cases hl : i < ρ.sl.length
      · rw [List.getElem?_set_self hl] at h
        have e2 : a = b := Option.some.inj (Option.some.inj h)
        subst e2
        refine ⟨nb, v, ?_, ?_⟩
        · show (σ.set i (some v))[i]? = _
          rw [List.getElem?_set_self (by omega)]
        · cases a with
          | bor _ => exact nb.elim
          | _ => exact r
      · rw [List.getElem?_eq_none (by simpa using hl)] at h; cases h
    · obtain ⟨nb2, u, h1, r1⟩ := c.slots j b (other j b e h)
      refine ⟨nb2, u, ?_, ?_⟩
      · show (σ.set i (some v))[j]? = _
        rw [List.getElem?_set_ne e]; exact h1
      · cases b with
        | bor _ => exact nb2.elim
        | _ => exact r1
  · rcases fp_put (.inr h) hlen with q | ⟨l, e1, e2⟩
    · rcases q with q | q
      · obtain ⟨j, l, h1, h2⟩ := h
        by_cases e : i = j
        · subst e
          intro hb
          have h1 : (ρ.sl.set i (some a))[i]? = some (some (.own l)) := h1
          have h2 : (σ.set i (some v))[i]? = some (some (.ref b)) := h2
          by_cases hl : i < ρ.sl.length
          · rw [List.getElem?_set_self hl] at h1
            rw [List.getElem?_set_self (by omega)] at h2
            exact n l b (Option.some.inj (Option.some.inj h1)) (Option.some.inj (Option.some.inj h2)) (.inl hb)
          · rw [List.getElem?_eq_none (by simpa using hl)] at h1; cases h1
        · have h2 : (σ.set i (some v))[j]? = some (some (.ref b)) := h2
          rw [List.getElem?_set_ne e] at h2
          exact c.sepT b ⟨j, l, other j _ e h1, h2⟩
      · exact c.sepT b q
    · intro hb
      exact n l b e1 e2 (.inl hb)
  · have h1 : (ρ.sl.set i (some a))[j]? = some (some (.own l)) := h1
    have h2 : (ρ.sl.set i (some a))[k]? = some (some (.own m)) := h2
    have h3 : (σ.set i (some v))[j]? = some (some (.ref p)) := h3
    have h4 : (σ.set i (some v))[k]? = some (some (.ref p)) := h4
    have self : ∀ {j l}, i = j → (ρ.sl.set i (some a))[j]? = some (some (.own l)) → (σ.set i (some v))[j]? = some (some (.ref p)) → a = .own l ∧ v = .ref p := fun {j l} e h h' => by
      subst e
      by_cases hl : i < ρ.sl.length
      · rw [List.getElem?_set_self hl] at h
        rw [List.getElem?_set_self (by omega)] at h'
        exact ⟨Option.some.inj (Option.some.inj h), Option.some.inj (Option.some.inj h')⟩
      · rw [List.getElem?_eq_none (by simpa using hl)] at h; cases h
    by_cases e : i = j
    · by_cases e' : i = k
      · exact e.symm.trans e'
      · obtain ⟨q1, q2⟩ := self e h1 h3
        rw [List.getElem?_set_ne e'] at h4
        exact absurd (.inr ⟨k, m, other k _ e' h2, h4⟩) (n l p q1 q2)
    · by_cases e' : i = k
      · obtain ⟨q1, q2⟩ := self e' h2 h4
        rw [List.getElem?_set_ne e] at h3
        exact absurd (.inr ⟨j, l, other j _ e h1, h3⟩) (n m p q1 q2)
      · rw [List.getElem?_set_ne e] at h3
        rw [List.getElem?_set_ne e'] at h4
        exact c.sepO j k l m p (other j _ e h1) (other k _ e' h2) h3 h4
theorem After.put {z z' : Z} {i : Nat} {a : A} {v : V} (x : After G z z') (nb : NotBor a) (r : AR G z z' a v) : After G z ⟨z'.T, { z'.ρ with sl := z'.ρ.sl.set i (some a) }, z'.σ.set i (some v), z'.H⟩ := by
  have s : Sat G ⟨z'.T, z'.ρ, z'.σ, z'.H⟩ := x.sat
  refine ⟨s.put nb r.rep fun l p e1 e2 f => r.notFp l p e1 e2 (fp_clear f), x.pre, x.keep, x.lasts, fun b f => ?_⟩
  rcases fp_put f s.len with q | ⟨l, e1, e2⟩
  · exact x.fp b (fp_clear q)
  · subst e1; subst e2
    exact r.own.2
/-- a list of nobody's is frozen -/
theorem upd_frz_lasts {p : Addr} {vs : List V} {u : HO} (h : H p = some (.lst vs)) : Lasts H (upd H p u) :=
  ⟨fun b xs q => by rw [upd_ne (fun z => by rw [z, h] at q; cases q)]; exact q, fun b o w q => by rw [upd_ne (fun z => by rw [z, h] at q; cases q)]; exact q⟩
end

section
variable {X : Cx} {cl : Nat → Addr} {W : WX}
theorem de_fz {e : Expr} {f : Ev} (h : DE X cl e f) : DE X cl e (eZ f) := ⟨fun W tk => PE.imp (pe_fz (h.run W tk)) fun σ H Q => by
  rintro ⟨z, rfl, rfl, s, r', e, q⟩
  refine tD_go s ?_
  unfold eZ at e
  cases hf : f z.ρ with
  | none => rw [hf] at e; cases e
  | some x =>
    rw [hf] at e
    cases x with
    | ex d ρ1 =>
      have e : some (Res.ex d ρ1) = some r' := e
      cases e
      exact ⟨_, rfl, q⟩
    | ok a ρ1 =>
      refine ⟨_, rfl, fun z1 e1 e2 x1 v hv => ?_⟩
      subst e1
      cases a with
      | val d =>
        have e : some (Res.ok (A.val d) z1.ρ) = some r' := e
        cases e
        exact .inl (q z1 rfl e2 x1 v hv)
      | box n =>
        have e : some (Res.ok (A.box n) z1.ρ) = some r' := e
        cases e
        exact .inl (q z1 rfl e2 x1 v hv)
      | own l =>
        have e : some (Res.ok (A.val (.lst l)) z1.ρ) = some r' := e
        cases e
        obtain ⟨p, vs, rfl, hp, t⟩ := hv.rep
        have np : ¬ Fp z1 p := hv.own.1
        refine .inr ⟨p, vs, rfl, hp, fun o => ?_⟩
        have la : Lasts z1.H (upd z1.H p (.frz o (.lst vs))) := upd_frz_lasts hp
        refine q ⟨z1.T, z1.ρ, z1.σ, upd z1.H p (.frz o (.lst vs))⟩ rfl e2 ⟨?_, x1.pre, fun b ob h1 h2 => ?_, x1.lasts.trans la, x1.fp⟩ _ ⟨?_, trivial⟩
        · exact Sat.chg (show Sat _ ⟨z1.T, z1.ρ, z1.σ, z1.H⟩ from x1.sat) la fun b f => upd_ne fun z => np (z ▸ f)
        · have hb : b ≠ p := fun z => by
            subst z
            rcases hv.own.2 with w | w
            · exact h2 w
            · rw [h1] at w; cases w
          show upd _ _ _ b = _
          rw [upd_ne hb]
          exact x1.keep b ob h1 h2
        · show Rep _ _ _ _
          unfold Rep
          exact ⟨p, vs, rfl, .inl ⟨o, upd_same⟩, RepL.lasts la t⟩
      | bor i =>
        have e : (match z1.ρ.sl[i]? with
          | some (some (.val d)) => some (Res.ok (A.val d) z1.ρ)
          | some (some (.own l)) => some (.ok (.val (.lst l)) { z1.ρ with sl := z1.ρ.sl.set i (some (.val (.lst l))) })
          | some (some (.box n)) => some (.ok (.box n) z1.ρ)
          | _ => none) = some r' := e
        have hr : z1.σ[i]? = some (some v) := hv.rep
        split at e
        · rename_i d hd
          cases e
          obtain ⟨_, u, h1, r1⟩ := x1.sat.slots i _ hd
          rw [hr] at h1; cases h1
          exact .inl (q z1 rfl e2 x1 v ⟨r1, trivial⟩)
        · rename_i l hd
          cases e
          obtain ⟨_, u, h1, r1⟩ := x1.sat.slots i _ hd
          rw [hr] at h1; cases h1
          obtain ⟨p, vs, rfl, hp, t⟩ := r1
          refine .inr ⟨p, vs, rfl, hp, fun o => ?_⟩
          have la : Lasts z1.H (upd z1.H p (.frz o (.lst vs))) := upd_frz_lasts hp
          have s1 : Sat (gx X cl) ⟨z1.T, z1.ρ, z1.σ, z1.H⟩ := x1.sat
          have np : ¬ Fp ⟨z1.T, { z1.ρ with sl := z1.ρ.sl.set i none }, z1.σ, z1.H⟩ p := by
            rintro (f | ⟨j, m, g1, g2⟩)
            · exact s1.sepT p ⟨i, l, hd, hr⟩ f
            · obtain ⟨g1, g3⟩ := get_set_none g1
              exact g3 (s1.sepO j i m l p g1 hd g2 hr)
          have rp : Rep (gx X cl) (upd z1.H p (.frz o (.lst vs))) (.lst l) (.ref p) := by
            unfold Rep
            exact ⟨p, vs, rfl, .inl ⟨o, upd_same⟩, RepL.lasts la t⟩
          have s2 := Sat.put (i := i) (a := .val (.lst l)) (v := .ref p) (Sat.chg (s1.clear i) la fun b f => upd_ne fun z => np (z ▸ f)) trivial rp (fun _ _ w => nomatch w)
          have eσ : z1.σ.set i (some (V.ref p)) = z1.σ := by
            apply List.ext_getElem?
            intro j
            by_cases e : i = j
            · subst e
              rw [List.getElem?_set_self (List.getElem?_eq_some_iff.mp hr).1, hr]
            · rw [List.getElem?_set_ne e]
          have eρ : (z1.ρ.sl.set i none).set i (some (A.val (.lst l))) = z1.ρ.sl.set i (some (A.val (.lst l))) := List.set_set ..
          simp only [eσ, eρ] at s2
          refine q ⟨z1.T, { z1.ρ with sl := z1.ρ.sl.set i (some (.val (.lst l))) }, z1.σ, upd z1.H p (.frz o (.lst vs))⟩ rfl e2 ⟨s2, x1.pre, fun b ob h1 h2 => ?_, x1.lasts.trans la, fun b f => ?_⟩ _ ⟨rp, trivial⟩
          · have hb : b ≠ p := fun z => by
              subst z
              rcases x1.fp b (.inr ⟨i, l, hd, hr⟩) with w | w
              · exact h2 w
              · rw [h1] at w; cases w
            show upd _ _ _ b = _
            rw [upd_ne hb]
            exact x1.keep b ob h1 h2
          · have f' : Fp ⟨z1.T, { z1.ρ with sl := z1.ρ.sl.set i (some (.val (.lst l))) }, z1.σ.set i (some (.ref p)), z1.H⟩ b := by
              rw [eσ]; exact f
            rcases fp_put f' s1.len with w | ⟨_, w, _⟩
            · exact x1.fp b (fp_clear w)
            · cases w
        · rename_i n hd
          cases e
          obtain ⟨_, u, h1, r1⟩ := x1.sat.slots i _ hd
          rw [hr] at h1; cases h1
          exact .inl (q z1 rfl e2 x1 v ⟨r1, trivial⟩)
        · cases e⟩

/-! ### arguments -/
def tA (G : Cg) (W : WX) (f : S → Option (Res (List A))) : TA := fun σ H Q => ∃ z : Z, z.σ = σ ∧ z.H = H ∧ Sat G z ∧ Go G W z (f z.ρ) fun as z' => ∀ vs, Paired (FRep G z'.T z'.H) as vs → Q vs z'.H
structure DA (X : Cx) (cl : Nat → Addr) (es : List Expr) (f : S → Option (Res (List A))) : Prop where
  run : ∀ W, Takes X W → PA X es (tA (gx X cl) W f)
def aNil : S → Option (Res (List A)) := fun ρ => some (.ok [] ρ)
def aCons (f : Ev) (g : S → Option (Res (List A))) : S → Option (Res (List A)) := fun ρ => bd (eZ f ρ) fun a ρ1 => bd (g ρ1) fun as ρ2 => some (.ok (a :: as) ρ2)
theorem PA.imp {es : List Expr} {t t' : TA} (h : PA X es t) (i : ∀ σ H Q, t' σ H Q → t σ H Q) : PA X es t' := ⟨fun pos pins s σ H Q I q => h.run pos pins s σ H Q I (i _ _ _ q)⟩
theorem da_nil : DA X cl [] aNil := ⟨fun W tk => PA.imp pa_nil fun σ H Q => by
  rintro ⟨z, rfl, rfl, s, h⟩
  exact h.pure s [] .nil⟩
/-- what a frozen expression gives is a datum or a box -/
theorem eZ_frep {f : Ev} {ρ ρ' : S} {a : A} (h : eZ f ρ = some (.ok a ρ')) : (∃ d, a = .val d) ∨ ∃ n, a = .box n := by
  unfold eZ at h
  cases e : f ρ with
  | none => rw [e] at h; cases h
  | some x =>
    rw [e] at h
    cases x with
    | ex d ρ1 => cases h
    | ok b ρ1 =>
      cases b with
      | val d => cases h; exact .inl ⟨d, rfl⟩
      | box n => cases h; exact .inr ⟨n, rfl⟩
      | own l => cases h; exact .inl ⟨_, rfl⟩
      | bor i =>
        simp only [bd] at h
        split at h <;> cases h
        · exact .inl ⟨_, rfl⟩
        · exact .inl ⟨_, rfl⟩
        · exact .inr ⟨_, rfl⟩
theorem Go.also {G : Cg} {α : Type} {z : Z} {r : Option (Res α)} {P : α → Z → Prop} {R : α → Prop} (h : Go G W z r P) (hr : ∀ a ρ', r = some (.ok a ρ') → R a) : Go G W z r fun a z' => R a ∧ P a z' := by
  obtain ⟨r', e, q⟩ := h
  refine ⟨r', e, ?_⟩
  cases r' with
  | ok a ρ' => exact fun z' e1 e2 x => ⟨hr a ρ' e, q z' e1 e2 x⟩
  | ex d ρ' => exact q
theorem frep_of {G : Cg} {z z' : Z} {a : A} {v : V} (h : (∃ d, a = .val d) ∨ ∃ n, a = .box n) (r : AR G z z' a v) : FRep G z'.T z'.H a v := by
  rcases h with ⟨d, rfl⟩ | ⟨n, rfl⟩
  · exact r.rep
  · exact r.rep
theorem da_cons {e : Expr} {es : List Expr} {f : Ev} {g : S → Option (Res (List A))} (he : DE X cl e f) (hr : DA X cl es g) (hs : starEach (e :: es) X.env = (false, eval e X.env) :: starEach es X.env := by rfl) : DA X cl (e :: es) (aCons f g) :=
  ⟨fun W tk => PA.imp (pa_cons ((de_fz he).run W tk) (hr.run W tk) hs) fun σ H Q => by
    rintro ⟨z, rfl, rfl, s, h⟩
    refine tD_go s (((Go.bind h).also (R := fun a => (∃ d, a = .val d) ∨ ∃ n, a = .box n) fun a ρ' e => eZ_frep e).imp fun a z1 e1 x1 h1 v hv => ?_)
    obtain ⟨ha, h1⟩ := h1
    rw [← e1]
    refine ⟨z1, rfl, rfl, x1.sat, (Go.bind h1).imp fun as z2 e2 x2 h2 vs hvs => ?_⟩
    have fa := frep_of ha hv
    exact h2.pure x2.sat x2 (x1.trans x2) (v :: vs) (.cons (fa.lasts x2.lasts x2.pre) hvs)⟩
/-- all are data -/
def datas : List A → Option (List D)
  | [] => some []
  | .val d :: r => (match datas r with
    | some l => some (d :: l)
    | none => none)
  | _ => none
theorem datas_rep {G : Cg} {T : List Addr} {H : Hp} : ∀ {as : List A} {vs : List V} {l : List D}, Paired (FRep G T H) as vs → datas as = some l → RepL G H l vs
  | [], _, _, .nil, h => by cases h; exact .nil
  | .val d :: r, _, l, .cons r1 t, h => by
    unfold datas at h
    cases e : datas r with
    | none => rw [e] at h; cases h
    | some m => rw [e] at h; cases h; exact .cons r1 (datas_rep t e)
  | .box n :: r, _, l, _, h => by cases h
  | .own m :: r, _, l, _, h => by cases h
  | .bor m :: r, _, l, _, h => by cases h
/-- things made of data: a tuple, a list -/
def eN (g : List D → Option A) (f : S → Option (Res (List A))) : Ev := fun ρ => bd (f ρ) fun as ρ1 => match datas as with
  | some l => ret ρ1 (g l)
  | none => none
def OpN (G : Cg) (r : List V → Hp → VK → Prop) (g : List D → Option A) : Prop := ∀ (H : Hp) (l : List D) (vs : List V) (c : A) (Q : VK), RepL G H l vs → g l = some c → (∀ w H', Same H H' → NRep G H H' c w → Q w H') → r vs H Q
theorem tN {r : List V → Hp → VK → Prop} {g : List D → Option A} {f : S → Option (Res (List A))} (hg : OpN (gx X cl) r g) : ∀ σ H Q, tD (gx X cl) W (eN g f) σ H Q → tCB r (tA (gx X cl) W f) σ H Q := by
  rintro σ H Q ⟨z, rfl, rfl, s, h⟩
  refine ⟨z, rfl, rfl, s, (Go.bind h).imp fun as z1 e1 x1 h1 vs hvs => ?_⟩
  cases e : datas as with
  | none =>
    rw [e] at h1
    obtain ⟨_, q, _⟩ := h1
    cases q
  | some l =>
    rw [e] at h1
    obtain ⟨c, hc, h3⟩ := go_ret h1
    exact hg _ l vs c Q (datas_rep hvs e) hc fun w H' e n => give x1 h3 e n
theorem same_new {H : Hp} {p : Addr} {o : HO} (h : H p = none) : Same H (upd H p o) := fun b x e => by
  rw [upd_ne (ne_of_none e h)]
  exact e
def gTupD (l : List D) : Option A := if l.length ≤ 1000 then some (.val (.tup l)) else none
def gLstD (l : List D) : Option A := if l.length ≤ 1000 then some (.own l) else none
theorem opN_tup {G : Cg} : OpN G (fun xs H Q => xs.length ≤ sizeLine ∧ ∀ p, H p = none → Q (.ref p) (upd H p (.tup xs))) gTupD := fun H l vs c Q r h q => by
  unfold gTupD at h
  split at h
  · cases h
    rename_i hl
    refine ⟨by rw [← r.length]; exact Nat.le_of_lt (small1000 hl), fun p np => q _ _ (same_new np) ?_⟩
    show Rep _ _ _ _
    unfold Rep
    exact ⟨p, vs, rfl, .of upd_same, RepL.lasts (.same (same_new np)) r⟩
  · cases h
theorem opN_lst {G : Cg} : OpN G (fun xs H Q => xs.length ≤ sizeLine ∧ ∀ p, H p = none → Q (.ref p) (upd H p (.lst xs))) gLstD := fun H l vs c Q r h q => by
  unfold gLstD at h
  split at h
  · cases h
    rename_i hl
    exact ⟨by rw [← r.length]; exact Nat.le_of_lt (small1000 hl), fun p np => q _ _ (same_new np) ⟨p, vs, rfl, np, upd_same, RepL.lasts (.same (same_new np)) r⟩⟩
  · cases h
theorem de_tup {es : List Expr} {f : S → Option (Res (List A))} {k : Nat} {pos : Pos} (h : DA X cl es f) : DE X cl (.Tuple es k pos) (eN gTupD f) := ⟨fun W tk => PE.imp (pe_tup (h.run W tk)) (tN opN_tup)⟩
theorem de_lst {es : List Expr} {f : S → Option (Res (List A))} {pos : Pos} (h : DA X cl es f) : DE X cl (.List es pos) (eN gLstD f) := ⟨fun W tk => PE.imp (pe_lst (h.run W tk)) (tN opN_lst)⟩
end
end Fm

/-! Fm.D: tests, choices, statements. -/
namespace Fm
open PySem PySem.Spec PyProof.Rows L2

/-! ### tests -/
def eTest (f : Ev) : S → Option (Res Bool) := fun ρ => bd (f ρ) fun a ρ1 => match a with
  | .val (.bl b) => some (.ok b ρ1)
  | _ => none
def eAndT (f g : S → Option (Res Bool)) : S → Option (Res Bool) := fun ρ => bd (f ρ) fun b ρ1 => match b with
  | true => g ρ1
  | false => some (.ok false ρ1)
def eOrT (f g : S → Option (Res Bool)) : S → Option (Res Bool) := fun ρ => bd (f ρ) fun b ρ1 => match b with
  | true => some (.ok true ρ1)
  | false => g ρ1
def eNotT (f : S → Option (Res Bool)) : S → Option (Res Bool) := fun ρ => bd (f ρ) fun b ρ1 => some (.ok (!b) ρ1)
def eAndV (f g : Ev) : Ev := fun ρ => bd (eTest f ρ) fun b ρ1 => match b with
  | true => g ρ1
  | false => some (.ok (.val (.bl false)) ρ1)
def eOrV (f g : Ev) : Ev := fun ρ => bd (eTest f ρ) fun b ρ1 => match b with
  | true => some (.ok (.val (.bl true)) ρ1)
  | false => g ρ1
def eNotV (f : S → Option (Res Bool)) : Ev := fun ρ => bd (f ρ) fun b ρ1 => some (.ok (.val (.bl (!b))) ρ1)
def eIf (c : S → Option (Res Bool)) (f g : Ev) : Ev := fun ρ => bd (c ρ) fun b ρ1 => match b with
  | true => f ρ1
  | false => g ρ1
section
variable {X : Cx} {cl : Nat → Addr} {W : WX}
theorem go_none {α : Type} {G : Cg} {z : Z} {P : α → Z → Prop} (h : Go G W z none P) : False := by
  obtain ⟨_, q, _⟩ := h
  cases q
theorem test_of {f : Ev} {σ : List (Option V)} {H : Hp} {Q : Bool → Hp → Prop} (h : tT (gx X cl) W (eTest f) σ H Q) : tD (gx X cl) W f σ H fun x H' => ∃ k, x = .bl k ∧ Q k H' := by
  obtain ⟨z, rfl, rfl, s, h⟩ := h
  refine tD_go s ((Go.bind h).imp fun a z1 e1 x1 h1 v hv => ?_)
  cases a with
  | val d =>
    cases d with
    | bl b =>
      have r : v = V.bl b := by
        have r := hv.rep
        have r : Rep (gx X cl) z1.H (.bl b) v := r
        unfold Rep at r
        exact r
      exact ⟨b, r, h1.pure x1.sat x1⟩
    | _ => exact (go_none h1).elim
  | _ => exact (go_none h1).elim
theorem dt_cmp {op : CmpOp} {r : R2} {g : D → D → Option A} {fa fb : Ev} {a b : Expr} {pos : Pos} (ho : OpR X (compareOp op) r) (hg : Op2 (gx X cl) r g) (hm : behindInMarks op b = false) (ha : DE X cl a fa) (hb : DE X cl b fb) :
    DT X cl (.Compare a [op] [b] pos) (eTest (eB g fa fb)) :=
  ⟨fun W tk => PT.imp (pt_cmpR ho (ha.run W tk) (hb.run W tk) hm) fun σ H Q h => tB2 hg _ _ _ (test_of h)⟩
theorem dt_val {e : Expr} {f : Ev} (h : DE X cl e f) (he : ∀ whole, isTrue e X.env whole = (do let v ← whole; standAt e.pos; holding [v] (truthy v)) := by intro _; rfl) : DT X cl e (eTest f) :=
  ⟨fun W tk => PT.imp (pt_val (h.run W tk) he) fun σ H Q h => test_of h⟩
structure DW (X : Cx) (cl : Nat → Addr) (e : Expr) (f : S → Option (Res Bool)) : Prop where
  run : ∀ W, Takes X W → PW X e (tT (gx X cl) W f)
theorem PW.imp {e : Expr} {t t' : TT} (h : PW X e t) (i : ∀ σ H Q, t' σ H Q → t σ H Q) : PW X e t' := ⟨fun wh pins s σ H Q I q => h.run wh pins s σ H Q I (i _ _ _ q)⟩
theorem DW.dt {e : Expr} {f : S → Option (Res Bool)} (h : DW X cl e f) : DT X cl e f := ⟨fun W tk => (h.run W tk).pt⟩
theorem dw_and1 {a : Expr} {f : S → Option (Res Bool)} {pos : Pos} (h : DT X cl a f) : DW X cl (.BoolOp .And [a] pos) f := ⟨fun W tk => pw_and1 (h.run W tk)⟩
theorem dw_or1 {a : Expr} {f : S → Option (Res Bool)} {pos : Pos} (h : DT X cl a f) : DW X cl (.BoolOp .Or [a] pos) f := ⟨fun W tk => pw_or1 (h.run W tk)⟩
theorem tT_go {f : S → Option (Res Bool)} {z : Z} {Q : Bool → Hp → Prop} {G : Cg} (s : Sat G z) (h : Go G W z (f z.ρ) fun b z' => Q b z'.H) : tT G W f z.σ z.H Q := ⟨z, rfl, rfl, s, h⟩
theorem dw_and {a b : Expr} {rest : List Expr} {f g : S → Option (Res Bool)} {pos : Pos} (h : DT X cl a f) (h2 : DW X cl (.BoolOp .And (b :: rest) pos) g) : DW X cl (.BoolOp .And (a :: b :: rest) pos) (eAndT f g) :=
  ⟨fun W tk => PW.imp (pw_and (h.run W tk) (h2.run W tk)) fun σ H Q => by
    rintro ⟨z, rfl, rfl, s, h⟩
    refine tT_go s ((Go.bind h).imp fun c z1 e1 x1 h1 => ?_)
    cases c with
    | true =>
      refine iteT ?_
      rw [← e1]
      exact tT_go x1.sat (h1.imp fun b z' _ x q => q (x1.trans x))
    | false => exact iteF (h1.pure x1.sat x1)⟩
theorem dw_or {a b : Expr} {rest : List Expr} {f g : S → Option (Res Bool)} {pos : Pos} (h : DT X cl a f) (h2 : DW X cl (.BoolOp .Or (b :: rest) pos) g) : DW X cl (.BoolOp .Or (a :: b :: rest) pos) (eOrT f g) :=
  ⟨fun W tk => PW.imp (pw_or (h.run W tk) (h2.run W tk)) fun σ H Q => by
    rintro ⟨z, rfl, rfl, s, h⟩
    refine tT_go s ((Go.bind h).imp fun c z1 e1 x1 h1 => ?_)
    cases c with
    | true => exact iteT (h1.pure x1.sat x1)
    | false =>
      refine iteF ?_
      rw [← e1]
      exact tT_go x1.sat (h1.imp fun b z' _ x q => q (x1.trans x))⟩
theorem dt_not {a : Expr} {f : S → Option (Res Bool)} {pos : Pos} (h : DT X cl a f) : DT X cl (.UnaryOp .Not a pos) (eNotT f) :=
  ⟨fun W tk => PT.imp (pt_not (h.run W tk)) fun σ H Q => by
    rintro ⟨z, rfl, rfl, s, h⟩
    exact tT_go s ((Go.bind h).imp fun c z1 e1 x1 h1 => h1.pure x1.sat x1)⟩
/-- and, or as values: the left a truth -/
theorem de_one {op : BoolOp} {a : Expr} {f : Ev} {pos : Pos} (h : DE X cl a f) : DE X cl (.BoolOp op [a] pos) f := ⟨fun W tk => pe_one (h.run W tk)⟩
theorem testT {f : Ev} {z : Z} {P : Bool → Z → Prop} {G : Cg} (h : Go G W z (eTest f z.ρ) P) : Go G W z (f z.ρ) fun a z' => ∀ v, AR G z z' a v → ∃ b, v = .bl b ∧ P b z' := by
  obtain ⟨r', e, q⟩ := h
  unfold eTest at e
  cases hf : f z.ρ with
  | none => rw [hf] at e; cases e
  | some x =>
    rw [hf] at e
    cases x with
    | ex d ρ1 =>
      have e : some (Res.ex d ρ1) = some r' := e
      cases e
      exact ⟨_, rfl, q⟩
    | ok a ρ1 =>
      refine ⟨_, rfl, fun z1 e1 e2 x1 v hv => ?_⟩
      cases a with
      | val d =>
        cases d with
        | bl b =>
          have e : some (Res.ok b ρ1) = some r' := e
          cases e
          have r : Rep G z1.H (.bl b) v := hv.rep
          unfold Rep at r
          exact ⟨b, r, q z1 e1 e2 x1⟩
        | _ => cases e
      | _ => cases e
theorem de_and {a b : Expr} {rest : List Expr} {f g : Ev} {pos : Pos} (h : DE X cl a f) (h2 : DE X cl (.BoolOp .And (b :: rest) pos) g) : DE X cl (.BoolOp .And (a :: b :: rest) pos) (eAndV f g) :=
  ⟨fun W tk => PE.imp (pe_and (h.run W tk) (h2.run W tk)) fun σ H Q => by
    rintro ⟨z, rfl, rfl, s, h⟩
    refine tD_go s ((testT (Go.bind h)).imp fun a z1 e1 x1 h1 v hv => ?_)
    obtain ⟨c, rfl, h1⟩ := h1 v hv
    refine ⟨c, rfl, ?_⟩
    cases c with
    | true =>
      refine iteT ?_
      rw [← e1]
      exact tD_go x1.sat (h1.imp fun b z' _ x q v hv => q (x1.trans x) v (hv.from x1))
    | false => exact iteF (h1.pure x1.sat x1 (.bl false) ⟨by show Rep _ _ _ _; unfold Rep; rfl, trivial⟩)⟩
theorem de_or {a b : Expr} {rest : List Expr} {f g : Ev} {pos : Pos} (h : DE X cl a f) (h2 : DE X cl (.BoolOp .Or (b :: rest) pos) g) : DE X cl (.BoolOp .Or (a :: b :: rest) pos) (eOrV f g) :=
  ⟨fun W tk => PE.imp (pe_or (h.run W tk) (h2.run W tk)) fun σ H Q => by
    rintro ⟨z, rfl, rfl, s, h⟩
    refine tD_go s ((testT (Go.bind h)).imp fun a z1 e1 x1 h1 v hv => ?_)
    obtain ⟨c, rfl, h1⟩ := h1 v hv
    refine ⟨c, rfl, ?_⟩
    cases c with
    | false =>
      refine iteF ?_
      rw [← e1]
      exact tD_go x1.sat (h1.imp fun b z' _ x q v hv => q (x1.trans x) v (hv.from x1))
    | true => exact iteT (h1.pure x1.sat x1 (.bl true) ⟨by show Rep _ _ _ _; unfold Rep; rfl, trivial⟩)⟩
theorem de_not {a : Expr} {f : Ev} {pos : Pos} (h : DE X cl a f) : DE X cl (.UnaryOp .Not a pos) (eNotV (eTest f)) :=
  ⟨fun W tk => PE.imp (pe_not (h.run W tk)) fun σ H Q => by
    rintro ⟨z, rfl, rfl, s, h⟩
    refine tD_go s ((testT (Go.bind h)).imp fun a z1 e1 x1 h1 v hv => ?_)
    obtain ⟨c, rfl, h1⟩ := h1 v hv
    exact ⟨c, rfl, h1.pure x1.sat x1 (.bl (!c)) ⟨by show Rep _ _ _ _; unfold Rep; rfl, trivial⟩⟩⟩
theorem de_if {c a b : Expr} {fc : S → Option (Res Bool)} {f g : Ev} {pos : Pos} (hc : DT X cl c fc) (ha : DE X cl a f) (hb : DE X cl b g) : DE X cl (.IfExp c a b pos) (eIf fc f g) :=
  ⟨fun W tk => PE.imp (pe_ifExp (hc.run W tk) (ha.run W tk) (hb.run W tk)) fun σ H Q => by
    rintro ⟨z, rfl, rfl, s, h⟩
    refine tT_go s ((Go.bind h).imp fun c z1 e1 x1 h1 => ?_)
    rw [← e1]
    cases c with
    | true => exact iteT (tD_go x1.sat (h1.imp fun b z' _ x q v hv => q (x1.trans x) v (hv.from x1)))
    | false => exact iteF (tD_go x1.sat (h1.imp fun b z' _ x q v hv => q (x1.trans x) v (hv.from x1)))⟩
end

/-! ### statements -/
def GoS (G : Cg) (W : WX) (z : Z) (o : Option Out) (D : Ends) : Prop := ∃ o', o = some o' ∧ match o' with
  | .nx ρ' => ∀ z' : Z, z'.ρ = ρ' → After G z z' → D.nx z'.σ z'.H
  | .bk ρ' => ∀ z' : Z, z'.ρ = ρ' → After G z z' → D.bk z'.σ z'.H
  | .ct ρ' => ∀ z' : Z, z'.ρ = ρ' → After G z z' → D.ct z'.σ z'.H
  | .rt a ρ' => ∀ (v : V) (z' : Z), z'.ρ = ρ' → After G z z' → AR G z z' a v → D.rt v z'.H
  | .ex d ρ' => ∀ (cls : Value) (dd : Option Addr) (z' : Z), z'.ρ = ρ' → After G z z' → ExR G z'.H d cls dd → W cls dd z'.σ z'.H
def tS (G : Cg) (W : WX) (g : Es) : TS := fun D σ H => ∃ z : Z, z.σ = σ ∧ z.H = H ∧ Sat G z ∧ GoS G W z (g z.ρ) D
structure DS (X : Cx) (cl : Nat → Addr) (st : Stmt) (g : Es) : Prop where
  run : ∀ W, Takes X W → PS X st (tS (gx X cl) W g)
structure DSs (X : Cx) (cl : Nat → Addr) (st : List Stmt) (g : Es) : Prop where
  run : ∀ W, Takes X W → PSs X st (tS (gx X cl) W g)
section
variable {X : Cx} {cl : Nat → Addr} {W : WX}
theorem PS.imp {st : Stmt} {t t' : TS} (h : PS X st t) (i : ∀ D σ H, t' D σ H → t D σ H) : PS X st t' := ⟨fun pins s σ H D I q => h.run pins s σ H D I (i _ _ _ q)⟩
theorem PSs.imp {st : List Stmt} {t t' : TS} (h : PSs X st t) (i : ∀ D σ H, t' D σ H → t D σ H) : PSs X st t' := ⟨fun pins s σ H D I q => h.run pins s σ H D I (i _ _ _ q)⟩
theorem tS_go {G : Cg} {g : Es} {z : Z} {D : Ends} (s : Sat G z) (h : GoS G W z (g z.ρ) D) : tS G W g D z.σ z.H := ⟨z, rfl, rfl, s, h⟩
/-- what follows, seen from an earlier start -/
theorem GoS.from {G : Cg} {z z1 : Z} {o : Option Out} {D : Ends} (h : ∃ o', o = some o' ∧ match o' with
  | .nx ρ' => ∀ z' : Z, z'.ρ = ρ' → After G z z' → D.nx z'.σ z'.H
  | .bk ρ' => ∀ z' : Z, z'.ρ = ρ' → After G z z' → D.bk z'.σ z'.H
  | .ct ρ' => ∀ z' : Z, z'.ρ = ρ' → After G z z' → D.ct z'.σ z'.H
  | .rt a ρ' => ∀ (v : V) (z' : Z), z'.ρ = ρ' → After G z z' → AR G z z' a v → D.rt v z'.H
  | .ex d ρ' => ∀ (cls : Value) (dd : Option Addr) (z' : Z), z'.ρ = ρ' → After G z z' → ExR G z'.H d cls dd → W cls dd z'.σ z'.H) (x : After G z z1) : GoS G W z1 o D := by
  obtain ⟨o', e, q⟩ := h
  refine ⟨o', e, ?_⟩
  cases o' with
  | nx ρ' => exact fun z' e x1 => q z' e (x.trans x1)
  | bk ρ' => exact fun z' e x1 => q z' e (x.trans x1)
  | ct ρ' => exact fun z' e x1 => q z' e (x.trans x1)
  | rt a ρ' => exact fun v z' e x1 r => q v z' e (x.trans x1) (r.from x)
  | ex d ρ' => exact fun cls dd z' e x1 r => q cls dd z' e (x.trans x1) r
/-- an expression, then a statement's end -/
def bs {α : Type} (x : Option (Res α)) (k : α → S → Option Out) : Option Out := match x with
  | some (.ok a ρ) => k a ρ
  | some (.ex d ρ) => some (.ex d ρ)
  | none => none
theorem GoS.bind {G : Cg} {α : Type} {z : Z} {r : Option (Res α)} {k : α → S → Option Out} {D : Ends} (h : GoS G W z (bs r k) D) : Go G W z r fun a z1 => GoS G W z (k a z1.ρ) D := by
  obtain ⟨o', e, q⟩ := h
  cases r with
  | none => cases e
  | some x =>
    cases x with
    | ok a ρ1 => exact ⟨_, rfl, fun z1 e1 e2 x1 => ⟨o', by rw [e1]; exact e, q⟩⟩
    | ex d ρ1 =>
      have e : some (Out.ex d ρ1) = some o' := e
      cases e
      refine ⟨_, rfl, fun cls dd z' e1 e2 x1 xr => ?_⟩
      have w := q cls dd z' e1 x1 xr
      rw [e2] at w
      exact w
def sNil : Es := fun ρ => some (.nx ρ)
def sSeq (f g : Es) : Es := fun ρ => match f ρ with
  | some (.nx ρ1) => g ρ1
  | o => o
theorem GoS.nx {G : Cg} {z z1 : Z} {D : Ends} (h : GoS G W z (some (.nx z1.ρ)) D) (x : After G z z1) : D.nx z1.σ z1.H := by
  obtain ⟨o', e, q⟩ := h
  cases e
  exact q z1 rfl x
theorem dss_nil : DSs X cl [] sNil := ⟨fun W tk => PSs.imp pss_nil fun D σ H => by
  rintro ⟨z, rfl, rfl, s, h⟩
  exact h.nx (.refl s)⟩
theorem dss_one {st : Stmt} {f : Es} (h : DS X cl st f) : DSs X cl [st] f := ⟨fun W tk => pss_one (h.run W tk)⟩
theorem dss_cons {st : Stmt} {rest : List Stmt} {f g : Es} (h1 : DS X cl st f) (h2 : DSs X cl rest g) : DSs X cl (st :: rest) (sSeq f g) :=
  ⟨fun W tk => PSs.imp (pss_cons (h1.run W tk) (h2.run W tk)) fun D σ H => by
    rintro ⟨z, rfl, rfl, s, o', e, q⟩
    refine tS_go s ?_
    unfold sSeq at e
    cases hf : f z.ρ with
    | none => rw [hf] at e; cases e
    | some x =>
      rw [hf] at e
      cases x with
      | nx ρ1 =>
        refine ⟨_, rfl, fun z1 e1 x1 => tS_go x1.sat (GoS.from ⟨o', by rw [e1]; exact e, q⟩ x1)⟩
      | bk ρ1 => cases e; exact ⟨_, rfl, q⟩
      | ct ρ1 => cases e; exact ⟨_, rfl, q⟩
      | rt a ρ1 => cases e; exact ⟨_, rfl, q⟩
      | ex d ρ1 => cases e; exact ⟨_, rfl, q⟩⟩
theorem goS_none {G : Cg} {z : Z} {D : Ends} (h : GoS G W z none D) : False := by
  obtain ⟨_, q, _⟩ := h
  cases q
def putA (i : Nat) (a : A) (ρ1 : S) : Option Out := match a with
  | .bor _ => none
  | a => some (.nx { ρ1 with sl := ρ1.sl.set i (some a) })
theorem put_ok {G : Cg} {z z1 : Z} {i : Nat} {a : A} {v : V} {D : Ends} (x1 : After G z z1) (hv : AR G z z1 a v) (h : GoS G W z (putA i a z1.ρ) D) : D.nx (z1.σ.set i (some v)) z1.H := by
  cases a with
  | bor j => exact (goS_none h).elim
  | val d => exact GoS.nx (z1 := ⟨z1.T, { z1.ρ with sl := z1.ρ.sl.set i (some (.val d)) }, z1.σ.set i (some v), z1.H⟩) h (x1.put trivial hv)
  | box n => exact GoS.nx (z1 := ⟨z1.T, { z1.ρ with sl := z1.ρ.sl.set i (some (.box n)) }, z1.σ.set i (some v), z1.H⟩) h (x1.put trivial hv)
  | own l => exact GoS.nx (z1 := ⟨z1.T, { z1.ρ with sl := z1.ρ.sl.set i (some (.own l)) }, z1.σ.set i (some v), z1.H⟩) h (x1.put trivial hv)
def sSet (i : Nat) (f : Ev) : Es := fun ρ => bs (f ρ) fun a ρ1 => putA i a ρ1
theorem ds_set {i : Nat} {x : Str} {e : Expr} {f : Ev} {pos pos' : Pos} (hN : X.N.Nodup) (he : DE X cl e f) (hi : X.N[i]? = some x := by rfl) (hx : Loc X.env.scope x := by first | exact Or.inl rfl | exact Or.inr rfl)
    (hs : swapsWith e (some (.Name x pos')) pos.line X.env = pure false := by rfl) (hf : X.fn x = true ∨ X.env.scope.names.lookup x = some .local := by first | exact .inl rfl | exact .inr rfl | assumption) :
    DS X cl (.Assign [.Name x pos'] e pos) (sSet i f) :=
  ⟨fun W tk => PS.imp (ps_set hN hi hx (he.run W tk) hs hf) fun D σ H => by
    rintro ⟨z, rfl, rfl, s, h⟩
    refine tD_go s (h.bind.imp fun a z1 e1 x1 h1 v hv => ?_)
    have q := put_ok x1 hv h1
    rw [e1] at q
    exact q⟩
def sExpr (f : Ev) : Es := fun ρ => bs (f ρ) fun _ ρ1 => some (.nx ρ1)
theorem ds_expr {e : Expr} {f : Ev} {pos : Pos} (he : DE X cl e f) (hs : swapsWith e none pos.line X.env = pure false := by rfl) : DS X cl (.Expr e pos) (sExpr f) :=
  ⟨fun W tk => PS.imp (ps_expr (he.run W tk) hs) fun D σ H => by
    rintro ⟨z, rfl, rfl, s, h⟩
    refine tD_go s (h.bind.imp fun a z1 e1 x1 h1 v hv => ?_)
    have q := h1.nx x1
    rw [e1] at q
    exact q⟩
def sRet (f : Ev) : Es := fun ρ => bs (f ρ) fun a ρ1 => match a with
  | .bor i => (match ρ1.sl[i]? with
    | some (some (.own l)) => some (.rt (.own l) { ρ1 with sl := ρ1.sl.set i none })
    | _ => none)
  | a => some (.rt a ρ1)
theorem ds_ret {e : Expr} {f : Ev} {pos : Pos} (he : DE X cl e f) : DS X cl (.Return (some e) pos) (sRet f) :=
  ⟨fun W tk => PS.imp (ps_ret (he.run W tk)) fun D σ H => by
    rintro ⟨z, rfl, rfl, s, h⟩
    refine tD_go s (h.bind.imp fun a z1 e1 x1 h1 v hv => ?_)
    have plain : GoS (gx X cl) W z (some (.rt a z1.ρ)) D → D.rt v z1.H := by
      rintro ⟨o', eo, q⟩
      cases eo
      exact q v z1 rfl x1 hv
    cases a with
    | val d => exact plain h1
    | box n => exact plain h1
    | own l => exact plain h1
    | bor i =>
      have hr : z1.σ[i]? = some (some v) := hv.rep
      have h1 : GoS (gx X cl) W z (match z1.ρ.sl[i]? with
        | some (some (.own l)) => some (.rt (.own l) { z1.ρ with sl := z1.ρ.sl.set i none })
        | _ => none) D := h1
      split at h1
      · rename_i l hd
        have s1 : Sat (gx X cl) ⟨z1.T, z1.ρ, z1.σ, z1.H⟩ := x1.sat
        obtain ⟨_, u, g1, r1⟩ := s1.slots i _ hd
        have g1 : z1.σ[i]? = some (some u) := g1
        rw [hr] at g1; cases g1
        obtain ⟨p, vs, rfl, hp, t⟩ := r1
        obtain ⟨_, e, q⟩ := h1
        cases e
        refine q _ ⟨z1.T, { z1.ρ with sl := z1.ρ.sl.set i none }, z1.σ, z1.H⟩ rfl ⟨s1.clear i, x1.pre, x1.keep, x1.lasts, fun b f => x1.fp b (fp_clear f)⟩ ⟨⟨p, vs, rfl, hp, t⟩, ?_, x1.fp p (.inr ⟨i, l, hd, hr⟩)⟩
        rintro (f | ⟨j, m, g1, g2⟩)
        · exact s1.sepT p ⟨i, l, hd, hr⟩ f
        · obtain ⟨g1, g3⟩ := get_set_none g1
          exact g3 (s1.sepO j i m l p g1 hd g2 hr)
      · exact (goS_none h1).elim⟩
def sRetN : Es := fun ρ => some (.rt (.val .non) ρ)
theorem ds_retN {pos : Pos} : DS X cl (.Return none pos) sRetN := ⟨fun W tk => PS.imp ps_retN fun D σ H => by
  rintro ⟨z, rfl, rfl, s, o', eo, q⟩
  cases eo
  exact q .non z rfl (.refl s) ⟨by show Rep _ _ _ _; unfold Rep; rfl, trivial⟩⟩
def sIf (c : S → Option (Res Bool)) (f g : Es) : Es := fun ρ => bs (c ρ) fun b ρ1 => match b with
  | true => f ρ1
  | false => g ρ1
theorem ds_if {c : Expr} {a b : List Stmt} {fc : S → Option (Res Bool)} {f g : Es} {pos : Pos} (hc : DT X cl c fc) (ha : DSs X cl a f) (hb : DSs X cl b g) : DS X cl (.If c a b pos) (sIf fc f g) :=
  ⟨fun W tk => PS.imp (ps_if (hc.run W tk) (ha.run W tk) (hb.run W tk)) fun D σ H => by
    rintro ⟨z, rfl, rfl, s, h⟩
    refine tT_go s (h.bind.imp fun c z1 e1 x1 h1 => ?_)
    rw [← e1]
    cases c with
    | true => exact iteT (tS_go x1.sat (GoS.from h1 x1))
    | false => exact iteF (tS_go x1.sat (GoS.from h1 x1))⟩
theorem ds_pass {pos : Pos} : DS X cl (.Pass pos) sNil := ⟨fun W tk => PS.imp ps_pass fun D σ H => by
  rintro ⟨z, rfl, rfl, s, h⟩
  exact h.nx (.refl s)⟩
def sBrk : Es := fun ρ => some (.bk ρ)
def sCont : Es := fun ρ => some (.ct ρ)
theorem ds_break {pos : Pos} : DS X cl (.Break pos) sBrk := ⟨fun W tk => PS.imp ps_break fun D σ H => by
  rintro ⟨z, rfl, rfl, s, o', eo, q⟩
  cases eo
  exact q z rfl (.refl s)⟩
theorem ds_cont {pos : Pos} : DS X cl (.Continue pos) sCont := ⟨fun W tk => PS.imp ps_continue fun D σ H => by
  rintro ⟨z, rfl, rfl, s, o', eo, q⟩
  cases eo
  exact q z rfl (.refl s)⟩
end
end Fm

/-! Fm.E: what a def is worth, by data; a def's body; calls. -/
namespace Fm
open PySem PySem.Spec PyProof.Rows L2

inductive FRes where
  | ret (a : A) (B : List Bx) | exc (d : D) (B : List Bx)
/-- what a def gives of its arguments and the boxes -/
abbrev Fn := List A → List Bx → Option FRes
def spD (G : Cg) (n : Nat) (φ : Fn) : Sp := fun vs H Q E => ∃ z : Z, z.ρ.sl = [] ∧ z.σ = [] ∧ z.H = H ∧ Sat G z ∧ ∃ as, as.length = n ∧ Paired (FRep G z.T H) as vs ∧ ∃ r, φ as z.ρ.bx = some r ∧ match r with
  | .ret a B' => ∀ (v : V) (z' : Z), z'.ρ = ⟨[], B'⟩ → z'.σ = [] → After G z z' → AR G z z' a v → Q v z'.H
  | .exc d B' => ∀ (cls : Value) (dd : Option Addr) (z' : Z), z'.ρ = ⟨[], B'⟩ → z'.σ = [] → After G z z' → ExR G z'.H d cls dd → E cls dd z'.H
/-- a body's end as a def's -/
def fnRes : Option Out → Option FRes
  | some (.rt a ρ) => some (.ret a ρ.bx)
  | some (.nx ρ) => some (.ret (.val .non) ρ.bx)
  | some (.ex d ρ) => some (.exc d ρ.bx)
  | _ => none
/-- the slots at a def's entry -/
def slots (n : Nat) (as : List A) : List (Option A) := as.map some ++ List.replicate (n - as.length) none

section
variable {G : Cg}
/-- the callee's view -/
def Z.view (z : Z) : Z := ⟨z.T, ⟨[], z.ρ.bx⟩, [], z.H⟩
theorem no_slot {i : Nat} {a : A} (h : ([] : List (Option A))[i]? = some (some a)) : False := by
  rw [List.getElem?_nil] at h
  cases h
theorem Sat.view {z : Z} (s : Sat G z) : Sat G z.view :=
  ⟨rfl, fun i a h => (no_slot h).elim, s.blen, s.boxes, s.nd, fun a ⟨i, l, h, _⟩ => (no_slot h).elim, fun i j l m a h => (no_slot h).elim⟩
theorem fp_view {z : Z} {b : Addr} : Fp z.view b ↔ b ∈ z.T := by
  constructor
  · rintro (h | ⟨i, l, h, _⟩)
    · exact h
    · exact (no_slot h).elim
  · exact fun h => .inl h
/-- behind a call: the caller's slots again -/
def Z.back (z z' : Z) : Z := ⟨z'.T, ⟨z.ρ.sl, z'.ρ.bx⟩, z.σ, z'.H⟩
theorem own_tag {z : Z} (s : Sat G z) {b : Addr} (f : OwnAt z b) : ∃ vs, z.H b = some (.lst vs) := by
  obtain ⟨i, l, h1, h2⟩ := f
  obtain ⟨_, v, e, q⟩ := s.slots i _ h1
  obtain ⟨p, vs, e2, h, _⟩ := q
  rw [h2] at e; cases e; cases e2
  exact ⟨vs, h⟩
theorem After.back {z z' : Z} (s : Sat G z) (x : After G z.view z') : After G z (z.back z') := by
  have kept : ∀ p, OwnAt z p → z'.H p = z.H p := fun p f => by
    obtain ⟨vs, h⟩ := own_tag s f
    have := x.keep p _ h fun q => s.sepT p f (fp_view.mp q)
    rw [this]; exact h.symm
  have nT : ∀ p, OwnAt z p → p ∉ z'.T := fun p f hm => by
    rcases x.fp p (.inl hm) with q | q
    · exact s.sepT p f (fp_view.mp q)
    · obtain ⟨vs, h⟩ := own_tag s f
      have q : z.H p = none := q
      rw [h] at q; cases q
  refine ⟨⟨s.len, fun i a h => ?_, x.sat.blen, x.sat.boxes, x.sat.nd, fun p f => nT p f, s.sepO⟩, x.pre, fun b o h n => x.keep b o h fun q => n (.inl (fp_view.mp q)), x.lasts, fun b f => ?_⟩
  · obtain ⟨nb, v, h1, r⟩ := s.slots i a h
    refine ⟨nb, v, h1, ?_⟩
    cases a with
    | val d => exact Rep.lasts x.lasts r
    | box n => obtain ⟨p, q, e⟩ := r; exact ⟨p, prefix_get x.pre q, e⟩
    | own l =>
      obtain ⟨p, vs, rfl, q, t⟩ := r
      exact ⟨p, vs, rfl, (kept p ⟨i, l, h, h1⟩).trans q, RepL.lasts x.lasts t⟩
    | bor i => exact nb.elim
  · rcases f with f | f
    · rcases x.fp b (.inl f) with q | q
      · exact .inl (.inl (fp_view.mp q))
      · exact .inr q
    · exact .inl (.inr f)
theorem AR.back {z z' : Z} {a : A} {v : V} (s : Sat G z) (x : After G z.view z') (r : AR G z.view z' a v) (hb : NotBor a) : AR G z (z.back z') a v := by
  refine ⟨?_, ?_⟩
  · cases a with
    | bor i => exact hb.elim
    | val d => exact r.rep
    | box n => exact r.rep
    | own l => exact r.rep
  · cases a with
    | own l =>
      cases v with
      | ref p =>
        have h : ¬ Fp z' p ∧ (Fp z.view p ∨ z.view.H p = none) := r.own
        have np : p ∉ z'.T := fun q => h.1 (.inl q)
        have hn : z.H p = none := by
          rcases h.2 with q | q
          · exact absurd (x.pre.subset (fp_view.mp q)) np
          · exact q
        refine ⟨?_, .inr hn⟩
        rintro (q | q)
        · exact np q
        · obtain ⟨vs, e⟩ := own_tag s q
          rw [hn] at e; cases e
      | _ => trivial
    | _ => trivial
end

section
variable {P : Program} {w : World} {K : PySem.W.Frag} {mg : Str → Option Value} {base : Heap} {cl : Nat → Addr}
theorem paired_len {G : Cg} {T : List Addr} {H : Hp} {as : List A} {vs : List V} (h : Paired (FRep G T H) as vs) : as.length = vs.length := Paired.length h
theorem paired_get {α β : Type} {F : α → β → Prop} : ∀ {as : List α} {vs : List β} {i : Nat} {a : α}, Paired F as vs → as[i]? = some a → ∃ v, vs[i]? = some v ∧ F a v
  | _, _, _, _, .nil, e => by simp at e
  | _, _, 0, _, .cons r _, e => by simp at e; subst e; exact ⟨_, rfl, r⟩
  | _, _, i + 1, a, .cons _ t, e => by
    obtain ⟨u, h1, h2⟩ := paired_get (i := i) t (by simpa using e)
    exact ⟨u, by simpa using h1, h2⟩
theorem slots_get {n : Nat} {as : List A} {i : Nat} {a : A} (h : (slots n as)[i]? = some (some a)) : as[i]? = some a := by
  unfold slots at h
  by_cases hi : i < as.length
  · rw [List.getElem?_append_left (by simpa using hi), List.getElem?_map] at h
    cases e : as[i]? with
    | none => rw [e] at h; cases h
    | some b => rw [e] at h; exact Option.some.inj h
  · rw [List.getElem?_append_right (by simpa using hi)] at h
    have := List.mem_of_getElem? h
    rw [List.mem_replicate] at this
    cases this.2
theorem start_get {N : List Str} {vs : List V} {i : Nat} {v : V} (h : vs[i]? = some v) : (L2.start N vs)[i]? = some (some v) := by
  unfold L2.start
  rw [List.getElem?_append_left (by simpa using (List.getElem?_eq_some_iff.mp h).1), List.getElem?_map, h]
  rfl
theorem frep_nb {G : Cg} {T : List Addr} {H : Hp} {a : A} {v : V} (r : FRep G T H a v) : NotBor a ∧ ∀ l, a ≠ .own l := by
  cases a with
  | bor i => exact r.elim
  | own l => exact r.elim
  | val d => exact ⟨trivial, fun l e => nomatch e⟩
  | box n => exact ⟨trivial, fun l e => nomatch e⟩
theorem sat_start {G : Cg} {z : Z} {N : List Str} {as : List A} {vs : List V} (s : Sat G z) (h : Paired (FRep G z.T z.H) as vs) (hl : as.length ≤ N.length) : Sat G ⟨z.T, ⟨slots N.length as, z.ρ.bx⟩, L2.start N vs, z.H⟩ := by
  have no : ∀ p, ¬ OwnAt ⟨z.T, ⟨slots N.length as, z.ρ.bx⟩, L2.start N vs, z.H⟩ p := by
    rintro p ⟨i, l, h1, h2⟩
    obtain ⟨v, _, r⟩ := paired_get h (slots_get h1)
    exact (frep_nb r).2 l rfl
  have el := paired_len h
  refine ⟨?_, fun i a h1 => ?_, s.blen, s.boxes, s.nd, fun a f => (no a f).elim, fun i j l m a h1 _ h3 => (no a ⟨i, l, h1, h3⟩).elim⟩
  · show (slots N.length as).length = (L2.start N vs).length
    unfold slots L2.start
    simp only [List.length_append, List.length_map, List.length_replicate]
    omega
  · obtain ⟨v, h2, r⟩ := paired_get h (slots_get h1)
    refine ⟨(frep_nb r).1, v, start_get h2, ?_⟩
    cases a with
    | bor i => exact r.elim
    | own l => exact r.elim
    | val d => exact r
    | box n => exact r
theorem no_own {G : Cg} {z : Z} {N : List Str} {as : List A} {vs : List V} (h : Paired (FRep G z.T z.H) as vs) {b : Addr} : Fp ⟨z.T, ⟨slots N.length as, z.ρ.bx⟩, L2.start N vs, z.H⟩ b ↔ b ∈ z.T := by
  constructor
  · rintro (h1 | ⟨i, l, h1, h2⟩)
    · exact h1
    · obtain ⟨v, _, r⟩ := paired_get h (slots_get h1)
      exact ((frep_nb r).2 l rfl).elim
  · exact fun h => .inl h
/-- what a body reaches, as the callee's end -/
theorem After.end {G : Cg} {z z1 : Z} {N : List Str} {as : List A} {vs : List V} (h : Paired (FRep G z.T z.H) as vs) (x : After G ⟨z.T, ⟨slots N.length as, z.ρ.bx⟩, L2.start N vs, z.H⟩ z1) (hz : z.ρ.sl = []) (hs : z.σ = []) : After G z z1.view := by
  have fz : ∀ b, Fp z b ↔ b ∈ z.T := fun b => by
    constructor
    · rintro (q | ⟨i, l, q, _⟩)
      · exact q
      · rw [hz] at q; cases q
    · exact fun q => .inl q
  refine ⟨x.sat.view, x.pre, fun b o e n => x.keep b o e fun q => n ((fz b).mpr ((no_own h).mp q)), x.lasts, fun b f => ?_⟩
  rcases x.fp b (.inl (fp_view.mp f)) with q | q
  · exact .inl ((fz b).mpr ((no_own h).mp q))
  · exact .inr q
theorem AR.end {G : Cg} {z z1 : Z} {N : List Str} {as : List A} {vs : List V} {a : A} {v : V} (h : Paired (FRep G z.T z.H) as vs) (hz : z.ρ.sl = []) (r : AR G ⟨z.T, ⟨slots N.length as, z.ρ.bx⟩, L2.start N vs, z.H⟩ z1 a v) (hb : NotBor a) : AR G z z1.view a v := by
  refine ⟨?_, ?_⟩
  · cases a with
    | bor i => exact hb.elim
    | val d => exact r.rep
    | box n => exact r.rep
    | own l => exact r.rep
  · cases a with
    | own l =>
      cases v with
      | ref p =>
        have q : ¬ Fp z1 p ∧ (Fp ⟨z.T, ⟨slots N.length as, z.ρ.bx⟩, L2.start N vs, z.H⟩ p ∨ z.H p = none) := r.own
        refine ⟨fun f => q.1 (.inl (fp_view.mp f)), ?_⟩
        rcases q.2 with f | f
        · exact .inl (.inl ((no_own h).mp f))
        · exact .inr f
      | _ => trivial
    | _ => trivial
def nbRes : Option Out → Prop
  | some (.rt (.bor _) _) => False
  | _ => True
/-- THE RULE for a def: its body's term g, and what g does of the arguments -/
theorem okD {x qual : Str} {st : Stmt} {f : Addr} {fd : FuncData} {N ps : List Str} {k : Nat} {φ : Fn} {g : Es} {dvs : List V} {kws : List (Str × V)} (F : FunD K x qual (defArgs st) (defBody st) (defScope st) dvs kws f fd) (S : FnScope N ps (defScope st)) (hp : ps.length ≤ N.length)
    (body : ∀ (cdv : Value) (A : Around) (outer : List Env) (s : Shared) (H : Hp) (E : XK), Room k (A.deeper (envOfC qual (defScope st) s.heap.objs.size f cdv)) →
      PassesOwn (model P w) (A.deeper (envOfC qual (defScope st) s.heap.objs.size f cdv)) (envOfC qual (defScope st) s.heap.objs.size f cdv) (cxOf (L2.CX P w) P w K mg base N qual (defScope st) f cdv A outer s H E).xe →
      DSs (cxOf (L2.CX P w) P w K mg base N qual (defScope st) f cdv A outer s H E) cl (defBody st) g)
    (sem : ∀ as B r, as.length = ps.length → φ as B = some r → nbRes (g ⟨slots N.length as, B⟩) ∧ fnRes (g ⟨slots N.length as, B⟩) = some r) :
    FnOk P w K mg base (L2.CX P w) (k + 1) f fd ps (spD ⟨K, cl⟩ ps.length φ) := by
  refine F.ok S (fun vs H Q E h => ?_) (fun cdv A outer s H vs Q E hr h => ?_)
  · obtain ⟨z, _, _, _, _, as, hl, hv, _⟩ := h
    rw [← hl]; exact (paired_len hv).symm
  · obtain ⟨z, hz, hσ, rfl, sz, as, hl, hv, r, hφ, hr2⟩ := h
    have tk : Takes (cxOf (L2.CX P w) P w K mg base N qual (defScope st) f cdv A outer s z.H E) (fun cls d _ H => E cls d H) := takes_of rfl rfl rfl rfl
    have hpass : PassesOwn (model P w) (A.deeper (envOfC qual (defScope st) s.heap.objs.size f cdv)) (envOfC qual (defScope st) s.heap.objs.size f cdv) (cxOf (L2.CX P w) P w K mg base N qual (defScope st) f cdv A outer s z.H E).xe :=
      passes_of (X := cxOf (L2.CX P w) P w K mg base N qual (defScope st) f cdv A outer s z.H E) rfl
    have hg := body cdv A outer s z.H E hr hpass
    obtain ⟨hnb, he⟩ := sem as z.ρ.bx r hl hφ
    have s0 : Sat ⟨K, cl⟩ ⟨z.T, ⟨slots N.length as, z.ρ.bx⟩, L2.start N vs, z.H⟩ := sat_start sz hv (by omega)
    refine ⟨_, hg.run _ tk, ⟨z.T, ⟨slots N.length as, z.ρ.bx⟩, L2.start N vs, z.H⟩, rfl, rfl, s0, ?_⟩
    show GoS _ _ _ (g ⟨slots N.length as, z.ρ.bx⟩) _
    cases ho : g ⟨slots N.length as, z.ρ.bx⟩ with
    | none => rw [ho] at he; cases he
    | some o =>
      rw [ho] at he hnb
      refine ⟨o, rfl, ?_⟩
      cases o with
      | nx ρ' =>
        cases he
        intro z1 e1 x1
        refine hr2 .non z1.view (by subst e1; rfl) rfl (x1.end hv hz hσ) ⟨?_, trivial⟩
        show Rep _ _ _ _
        unfold Rep
        rfl
      | bk ρ' => cases he
      | ct ρ' => cases he
      | rt a ρ' =>
        cases he
        intro v z1 e1 x1 ra
        have nb : NotBor a := by
          cases a with
          | bor i => exact hnb.elim
          | _ => trivial
        exact hr2 v z1.view (by subst e1; rfl) rfl (x1.end hv hz hσ) (ra.end hv hz nb)
      | ex d ρ' =>
        cases he
        intro cls dd z1 e1 x1 xr
        exact hr2 cls dd z1.view (by subst e1; rfl) rfl (x1.end hv hz hσ) xr
end

/-! ### calls -/
def nbA : A → Bool
  | .bor _ => false
  | _ => true
def fin (ρ : S) : Option FRes → Option (Res A)
  | some (.ret a B') => if nbA a then some (.ok a ⟨ρ.sl, B'⟩) else none
  | some (.exc d B') => some (.ex d ⟨ρ.sl, B'⟩)
  | none => none
def eCall (φ : Fn) (f : S → Option (Res (List A))) : Ev := fun ρ => bd (f ρ) fun as ρ1 => fin ρ1 (φ as ρ1.bx)
section
variable {X : Cx} {cl : Nat → Addr} {W : WX}
/-- a callee's promise, where the caller stands -/
theorem sp_of {n : Nat} {φ : Fn} {z : Z} {as : List A} {vs : List V} {Q : VK} (s : Sat (gx X cl) z) (hn : as.length = n) (hv : Paired (FRep (gx X cl) z.T z.H) as vs)
    (h : Go (gx X cl) W z (fin z.ρ (φ as z.ρ.bx)) fun a z' => ∀ v, AR (gx X cl) z z' a v → Q v z'.H) : spD (gx X cl) n φ vs z.H Q (WE W z.σ) := by
  refine ⟨z.view, rfl, rfl, rfl, s.view, as, hn, hv, ?_⟩
  show ∃ r, φ as z.ρ.bx = some r ∧ _
  obtain ⟨r', e, q⟩ := h
  cases hf : φ as z.ρ.bx with
  | none => rw [hf] at e; cases e
  | some r =>
    rw [hf] at e
    refine ⟨r, rfl, ?_⟩
    cases r with
    | ret a B' =>
      have e : (if nbA a then some (Res.ok a ⟨z.ρ.sl, B'⟩) else none) = some r' := e
      split at e
      · rename_i hb
        cases e
        intro v z1 e1 e2 x1 ra
        have nb : NotBor a := by
          cases a with
          | bor i => cases hb
          | _ => trivial
        have eb : z1.ρ.bx = B' := by rw [e1]
        exact q (z.back z1) (by show (⟨z.ρ.sl, z1.ρ.bx⟩ : S) = _; rw [eb]) rfl (x1.back s) v (ra.back s x1 nb)
      · cases e
    | exc d B' =>
      have e : some (Res.ex d ⟨z.ρ.sl, B'⟩) = some r' := e
      cases e
      intro cls dd z1 e1 e2 x1 xr
      have eb : z1.ρ.bx = B' := by rw [e1]
      exact q cls dd (z.back z1) (by show (⟨z.ρ.sl, z1.ρ.bx⟩ : S) = _; rw [eb]) rfl (x1.back s) xr
/-- what a def of the text is, for a caller -/
structure Def (X : Cx) (cl : Nat → Addr) (x : Str) (n : Nat) (φ : Fn) : Prop where
  ex : ∃ (k : Nat) (f : Addr) (fd : FuncData) (ps : List Str), FnOk X.prog X.w X.K X.mg X.base (L2.CX X.prog X.w) k f fd ps (spD (gx X cl) n φ) ∧ ps.length = n ∧ Room k X.A ∧ X.mg x = some (.ref f) ∧ PySem.W.keepIn X.K (.ref f) = true ∧ Binds X.K fd ps []
/-- how many arguments a term gives -/
theorem de_call {x : Str} {n : Nat} {φ : Fn} {e : Expr} {es : List Expr} {f : S → Option (Res (List A))} {p pos : Pos} (F : Def X cl x n φ) (ha : DA X cl (e :: es) f) (hl : ∀ ρ as ρ', f ρ = some (.ok as ρ') → as.length = n) (hg : Gl X x := by rfl)
    (hdb : (x == ("__debug__" : Str)) = false := by decide) (he : starEach (e :: es) X.env = (false, eval e X.env) :: starEach es X.env := by rfl) (hpl : (backTo pos (starEach es X.env)).any (·.1) = false := by rfl) :
    DE X cl (.Call (.Name x p) (e :: es) [] pos) (eCall φ f) := ⟨fun W tk => by
  obtain ⟨k, fa, fd, ps, F1, hn, hr, hm, hk, hb⟩ := F.ex
  refine PE.imp (pe_callS F1 hr hg hm hk hb (fun σ => passAt tk σ) (ha.run W tk) hdb he hpl) fun σ H Q => ?_
  rintro ⟨z, rfl, rfl, s, h⟩
  refine ⟨z, rfl, rfl, s, ((Go.bind h).also (R := fun as => as.length = n) fun as ρ' e => hl _ _ _ e).imp fun as z1 e1 x1 ⟨h0, h1⟩ vs hv => ?_⟩
  rw [← e1]
  exact sp_of x1.sat h0 hv (h1.imp fun a z' _ x q v hv => q (x1.trans x) v (hv.from x1))⟩
theorem len_nil {ρ : S} {as : List A} {ρ' : S} (h : aNil ρ = some (.ok as ρ')) : as.length = 0 := by cases h; rfl
theorem len_cons {n : Nat} {f : Ev} {g : S → Option (Res (List A))} (hg : ∀ ρ as ρ', g ρ = some (.ok as ρ') → as.length = n) (ρ : S) (as : List A) (ρ' : S) (h : aCons f g ρ = some (.ok as ρ')) : as.length = n + 1 := by
  unfold aCons at h
  cases e1 : eZ f ρ with
  | none => rw [e1] at h; cases h
  | some x =>
    rw [e1] at h
    cases x with
    | ex d ρ1 => cases h
    | ok a ρ1 =>
      have h : bd (g ρ1) (fun as ρ2 => some (.ok (a :: as) ρ2)) = some (.ok as ρ') := h
      cases e2 : g ρ1 with
      | none => rw [e2] at h; cases h
      | some y =>
        rw [e2] at h
        cases y with
        | ex d ρ2 => cases h
        | ok bs ρ2 =>
          have := hg _ _ _ e2
          cases h
          rw [List.length_cons, this]
end
end Fm

/-! Fm.F: targets, what is walked, for, list comprehensions. -/
namespace Fm
open PySem PySem.Spec PyProof.Rows L2

/-! ### targets -/
/-- a datum put into targets; is: the slots that are touched -/
def tGd (G : Cg) (t : D → S → Option S) (is : List Nat) : TG := fun v σ H Q => ∃ (z : Z) (d : D) (ρ' : S), z.σ = σ ∧ z.H = H ∧ Sat G z ∧ Rep G H d v ∧ t d z.ρ = some ρ' ∧
  ∀ z' : Z, z'.ρ = ρ' → After G z z' → z'.σ.length = z.σ.length → (∀ j, j ∉ is → z'.σ[j]? = z.σ[j]?) → Q z'.σ z'.H
def tGds (G : Cg) (t : List D → S → Option S) (is : List Nat) : TGs := fun vs σ H Q => ∃ (z : Z) (l : List D) (ρ' : S), z.σ = σ ∧ z.H = H ∧ Sat G z ∧ RepL G H l vs ∧ t l z.ρ = some ρ' ∧
  ∀ z' : Z, z'.ρ = ρ' → After G z z' → z'.σ.length = z.σ.length → (∀ j, j ∉ is → z'.σ[j]? = z.σ[j]?) → Q z'.σ z'.H
structure DG (X : Cx) (cl : Nat → Addr) (tg : Expr) (t : D → S → Option S) (is : List Nat) : Prop where
  run : PG X tg (tGd (gx X cl) t is)
structure DGs (X : Cx) (cl : Nat → Addr) (tgs : List Expr) (t : List D → S → Option S) (is : List Nat) : Prop where
  run : PGs X tgs (tGds (gx X cl) t is)
def gN (i : Nat) (d : D) (ρ : S) : Option S := some { ρ with sl := ρ.sl.set i (some (.val d)) }
def gNil (l : List D) (ρ : S) : Option S := match l with
  | [] => some ρ
  | _ => none
def gCons (t : D → S → Option S) (u : List D → S → Option S) (l : List D) (ρ : S) : Option S := match l with
  | d :: r => (match t d ρ with
    | some ρ1 => u r ρ1
    | none => none)
  | [] => none
def gT (t : List D → S → Option S) (d : D) (ρ : S) : Option S := match d with
  | .tup l => t l ρ
  | _ => none
section
variable {X : Cx} {cl : Nat → Addr} {W : WX}
theorem PG.imp {e : Expr} {t t' : TG} (h : PG X e t) (i : ∀ v σ H Q, t' v σ H Q → t v σ H Q) : PG X e t' := ⟨fun pins s σ H v u Q I r q => h.run pins s σ H v u Q I r (i _ _ _ _ q)⟩
theorem PGs.imp {e : List Expr} {t t' : TGs} (h : PGs X e t) (i : ∀ v σ H Q, t' v σ H Q → t v σ H Q) : PGs X e t' := ⟨fun pins s σ H v u Q I r q => h.run pins s σ H v u Q I r (i _ _ _ _ q)⟩
theorem dg_name {i : Nat} {x : Str} {pos : Pos} (hN : X.N.Nodup) (hi : X.N[i]? = some x := by rfl) (hx : Loc X.env.scope x := by first | exact Or.inl rfl | exact Or.inr rfl) (hf : X.fn x = true ∨ X.env.scope.names.lookup x = some .local := by first | exact .inl rfl | exact .inr rfl | assumption) :
    DG X cl (.Name x pos) (gN i) [i] := ⟨PG.imp (pg_name hN hi hx hf) fun v σ H Q => by
  rintro ⟨z, d, ρ', rfl, rfl, s, r, e, q⟩
  cases e
  exact q ⟨z.T, { z.ρ with sl := z.ρ.sl.set i (some (.val d)) }, z.σ.set i (some v), z.H⟩ rfl ((After.refl s).put trivial ⟨r, trivial⟩) (List.length_set ..) fun j hj => List.getElem?_set_ne fun e => hj (by simp [e])⟩
theorem dgs_nil : DGs X cl [] gNil [] := ⟨PGs.imp pgs_nil fun v σ H Q => by
  rintro ⟨z, l, ρ', rfl, rfl, s, r, e, q⟩
  cases l with
  | cons d l => cases e
  | nil =>
    cases e
    unfold RepL at r
    exact ⟨r, q z rfl (.refl s) rfl fun _ _ => rfl⟩⟩
theorem dgs_cons {e : Expr} {es : List Expr} {t : D → S → Option S} {u : List D → S → Option S} {is js : List Nat} (h1 : DG X cl e t is) (h2 : DGs X cl es u js)
    (hs : (assignEach (e :: es) X.env).map (·.2) = assign e X.env :: (assignEach es X.env).map (·.2) := by rfl) : DGs X cl (e :: es) (gCons t u) (is ++ js) := ⟨PGs.imp (pgs_cons h1.run h2.run hs) fun v σ H Q => by
  rintro ⟨z, l, ρ', rfl, rfl, s, r, e, q⟩
  cases l with
  | nil => cases e
  | cons d l =>
    unfold RepL at r
    obtain ⟨v1, vs, rfl, r1, r2⟩ := r
    refine ⟨v1, vs, rfl, ?_⟩
    have e : (match t d z.ρ with
      | some ρ1 => u l ρ1
      | none => none) = some ρ' := e
    cases ht : t d z.ρ with
    | none => rw [ht] at e; cases e
    | some ρ1 =>
      rw [ht] at e
      refine ⟨z, d, ρ1, rfl, rfl, s, r1, ht, fun z1 e1 x1 l1 k1 => ⟨z1, l, ρ', rfl, rfl, x1.sat, RepL.lasts x1.lasts r2, by rw [e1]; exact e, fun z2 e2 x2 l2 k2 => ?_⟩⟩
      exact q z2 e2 (x1.trans x2) (l2.trans l1) fun j hj => by
        rw [List.mem_append, not_or] at hj
        rw [k2 j hj.2, k1 j hj.1]⟩
theorem dg_tup {es : List Expr} {k : Nat} {pos : Pos} {t : List D → S → Option S} {is : List Nat} {n : Nat} (hc : X.calm = true) (h : DGs X cl es t is) (ht : ∀ l ρ ρ', t l ρ = some ρ' → l.length = n)
    (hn : (assignEach es X.env).length = n := by rfl) (hst : (assignEach es X.env).findIdx? (·.1) = none := by rfl) : DG X cl (.Tuple es k pos) (gT t) is := ⟨PG.imp (pg_tup hc h.run hn hst) fun v σ H Q => by
  rintro ⟨z, d, ρ', rfl, rfl, s, r, e, q⟩
  cases d with
  | tup l =>
    unfold Rep at r
    obtain ⟨a, vs, rfl, h1, r1⟩ := r
    have e : t l z.ρ = some ρ' := e
    exact ⟨a, vs, rfl, h1, by rw [← r1.length]; exact ht _ _ _ e, z, l, ρ', rfl, rfl, s, r1, e, q⟩
  | _ => cases e⟩
theorem gNil_len {l : List D} {ρ ρ' : S} (h : gNil l ρ = some ρ') : l.length = 0 := by
  cases l with
  | nil => rfl
  | cons _ _ => cases h
theorem gCons_len {n : Nat} {t : D → S → Option S} {u : List D → S → Option S} (hu : ∀ l ρ ρ', u l ρ = some ρ' → l.length = n) (l : List D) (ρ ρ' : S) (h : gCons t u l ρ = some ρ') : l.length = n + 1 := by
  cases l with
  | nil => cases h
  | cons d l =>
    have h : (match t d ρ with
      | some ρ1 => u l ρ1
      | none => none) = some ρ' := h
    cases ht : t d ρ with
    | none => rw [ht] at h; cases h
    | some ρ1 => rw [ht] at h; rw [List.length_cons, hu _ _ _ h]
end

/-! ### what is walked -/
structure ItOk (G : Cg) (J : It) (H0 : Hp) (ds : List D) : Prop where
  go : ∀ H, Lasts H0 H → ∀ i, i < ds.length → J.go i H ∧ ∀ x H', J.yld i H x H' → Same H H' ∧ ∃ d, ds[i]? = some d ∧ Rep G H' d x
  stop : ∀ H, Lasts H0 H → ∀ i, ds.length ≤ i → J.stop i H
def tI (G : Cg) (W : WX) (f : S → Option (Res (List D))) : TI := fun σ H R => ∃ z : Z, z.σ = σ ∧ z.H = H ∧ Sat G z ∧ Go G W z (f z.ρ) fun ds z' => ∀ J H', Same z'.H H' → ItOk G J H' ds → R J H'
structure DI (X : Cx) (cl : Nat → Addr) (tg e : Expr) (f : S → Option (Res (List D))) : Prop where
  run : ∀ W, Takes X W → PI X tg e (tI (gx X cl) W f)
def iL (f : Ev) : S → Option (Res (List D)) := fun ρ => bd (eZ f ρ) fun a ρ1 => match a with
  | .val (.lst l) => some (.ok l ρ1)
  | _ => none
def iT (f : Ev) : S → Option (Res (List D)) := fun ρ => bd (eZ f ρ) fun a ρ1 => match a with
  | .val (.tup l) => some (.ok l ρ1)
  | _ => none
section
variable {X : Cx} {cl : Nat → Addr} {W : WX}
theorem PI.imp {tg e : Expr} {t t' : TI} (h : PI X tg e t) (i : ∀ σ H R, t' σ H R → t σ H R) : PI X tg e t' := ⟨fun pins s σ H R I q => h.run pins s σ H R I (i _ _ _ q)⟩
theorem itl_ok {G : Cg} {a : Addr} {H0 : Hp} {vs : List V} {l : List D} (h : FzL G.K H0 a vs) (r : RepL G H0 l vs) : ItOk G (Itl G.K a) H0 l := by
  have rd : ∀ H, Lasts H0 H → SqL G.K H a vs := fun H k => (k.fzl h).sq
  refine ⟨fun H k i hi => ?_, fun H k i hi => ⟨vs, rd H k, by rw [← r.length]; exact hi⟩⟩
  obtain ⟨v, h1, r1⟩ := r.get (List.getElem?_eq_getElem hi)
  refine ⟨⟨vs, v, rd H k, h1⟩, ?_⟩
  rintro x H' ⟨rfl, hx⟩
  have := hx vs (rd _ k)
  rw [h1] at this; cases this
  exact ⟨Same.refl _, _, List.getElem?_eq_getElem hi, Rep.lasts k r1⟩
theorem itt_ok {G : Cg} {a : Addr} {H0 : Hp} {vs : List V} {l : List D} (h : SqT G.K H0 a vs) (r : RepL G H0 l vs) : ItOk G (Itt G.K a) H0 l := by
  have rd : ∀ H, Lasts H0 H → SqT G.K H a vs := fun H k => k.tup h
  refine ⟨fun H k i hi => ?_, fun H k i hi => ⟨vs, rd H k, by rw [← r.length]; exact hi⟩⟩
  obtain ⟨v, h1, r1⟩ := r.get (List.getElem?_eq_getElem hi)
  refine ⟨⟨vs, v, rd H k, h1⟩, ?_⟩
  rintro x H' ⟨rfl, hx⟩
  have := hx vs (rd _ k)
  rw [h1] at this; cases this
  exact ⟨Same.refl _, _, List.getElem?_eq_getElem hi, Rep.lasts k r1⟩
theorem di_list {tg e : Expr} {f : Ev} (h : DE X cl e f) : DI X cl tg e (iL f) := ⟨fun W tk => PI.imp (pi_list ((de_fz h).run W tk)) fun σ H R => by
  rintro ⟨z, rfl, rfl, s, h⟩
  refine tD_go s ((Go.bind h).imp fun a z1 e1 x1 h1 v hv => ?_)
  cases a with
  | val d =>
    cases d with
    | lst l =>
      have r : Rep (gx X cl) z1.H (.lst l) v := hv.rep
      unfold Rep at r
      obtain ⟨a, vs, rfl, q, t⟩ := r
      exact ⟨a, rfl, ⟨vs, q.sq⟩, h1.pure x1.sat x1 _ _ (Same.refl _) (itl_ok q t)⟩
    | _ => exact (go_none h1).elim
  | _ => exact (go_none h1).elim⟩
theorem di_tup {tg e : Expr} {f : Ev} (h : DE X cl e f) : DI X cl tg e (iT f) := ⟨fun W tk => PI.imp (pi_tup ((de_fz h).run W tk)) fun σ H R => by
  rintro ⟨z, rfl, rfl, s, h⟩
  refine tD_go s ((Go.bind h).imp fun a z1 e1 x1 h1 v hv => ?_)
  cases a with
  | val d =>
    cases d with
    | tup l =>
      have r : Rep (gx X cl) z1.H (.tup l) v := hv.rep
      unfold Rep at r
      obtain ⟨a, vs, rfl, q, t⟩ := r
      exact ⟨a, rfl, ⟨vs, q⟩, h1.pure x1.sat x1 _ _ (Same.refl _) (itt_ok q t)⟩
    | _ => exact (go_none h1).elim
  | _ => exact (go_none h1).elim⟩
/-- range -/
def irg (lo : Int) (n : Nat) : List D := (List.range n).map fun k => .int (lo + (k : Nat))
theorem itr_ok {G : Cg} {lo : Int} {n : Nat} {H0 : Hp} : ItOk G (Itr lo n) H0 (irg lo n) := by
  have el : (irg lo n).length = n := by simp [irg]
  refine ⟨fun H k i hi => ?_, fun H k i hi => by rw [el] at hi; exact hi⟩
  rw [el] at hi
  refine ⟨hi, ?_⟩
  rintro x H' ⟨rfl, rfl⟩
  refine ⟨Same.refl _, .int (lo + i), by simp [irg, hi], ?_⟩
  unfold Rep
  rfl
def iR1 (f : S → Option (Res (List A))) : S → Option (Res (List D)) := fun ρ => bd (f ρ) fun as ρ1 => match as with
  | [.val (.int j)] => if j < 2 ^ 62 ∧ -(2 ^ 62) ≤ j then some (.ok (irg 0 j.toNat) ρ1) else none
  | _ => none
def iR2 (f : S → Option (Res (List A))) : S → Option (Res (List D)) := fun ρ => bd (f ρ) fun as ρ1 => match as with
  | [.val (.int i), .val (.int j)] => if -(2 ^ 62) ≤ i ∧ i < 2 ^ 62 ∧ -(2 ^ 62) ≤ j ∧ j < 2 ^ 62 then some (.ok (irg i (j - i).toNat) ρ1) else none
  | _ => none
theorem rep_int {G : Cg} {H : Hp} {i : Int} {v : V} (r : Rep G H (.int i) v) : v = .int i := by unfold Rep at r; exact r
theorem di_range1 {tg a : Expr} {f : S → Option (Res (List A))} {p pos : Pos} (hm : X.mg "range" = none) (ha : DA X cl [a] f) (hg : Gl X "range" := by rfl) (hs : starEach [a] X.env = [(false, eval a X.env)] := by rfl) : DI X cl tg (.Call (.Name "range" p) [a] [] pos) (iR1 f) :=
  ⟨fun W tk => PI.imp (pi_range1 hg hm (ha.run W tk) hs) fun σ H R => by
    rintro ⟨z, rfl, rfl, s, h⟩
    refine ⟨z, rfl, rfl, s, (Go.bind h).imp fun as z1 e1 x1 h1 vs hv => ?_⟩
    split at h1
    · rename_i j
      split at h1
      · rename_i hj
        cases hv with
        | cons r t =>
          cases t
          exact ⟨j, by rw [rep_int (G := gx X cl) (H := z1.H) r], hj.2, hj.1, h1.pure x1.sat x1 _ _ (Same.refl _) itr_ok⟩
      · exact (go_none h1).elim
    · exact (go_none h1).elim⟩
theorem di_range2 {tg a b : Expr} {f : S → Option (Res (List A))} {p pos : Pos} (hm : X.mg "range" = none) (ha : DA X cl [a, b] f) (hg : Gl X "range" := by rfl) (hs : starEach [a, b] X.env = [(false, eval a X.env), (false, eval b X.env)] := by rfl)
    (hs2 : starEach [b] X.env = [(false, eval b X.env)] := by rfl) : DI X cl tg (.Call (.Name "range" p) [a, b] [] pos) (iR2 f) :=
  ⟨fun W tk => PI.imp (pi_range2 hg hm (ha.run W tk) hs hs2) fun σ H R => by
    rintro ⟨z, rfl, rfl, s, h⟩
    refine ⟨z, rfl, rfl, s, (Go.bind h).imp fun as z1 e1 x1 h1 vs hv => ?_⟩
    split at h1
    · rename_i i j
      split at h1
      · rename_i hj
        cases hv with
        | cons r t =>
          cases t with
          | cons r2 t =>
            cases t
            exact ⟨i, j, by rw [rep_int (G := gx X cl) (H := z1.H) r, rep_int (G := gx X cl) (H := z1.H) r2], hj, h1.pure x1.sat x1 _ _ (Same.refl _) itr_ok⟩
      · exact (go_none h1).elim
    · exact (go_none h1).elim⟩
end

/-! ### for -/
def forT (k : S → Option Out) (cs : List Nat) (o : Option Out) : Option Out := match o with
  | some (.nx ρ2) => k (clr ρ2 cs)
  | some (.ct ρ2) => k (clr ρ2 cs)
  | some (.bk ρ2) => some (.nx (clr ρ2 cs))
  | some (.rt a ρ2) => some (.rt a ρ2)
  | some (.ex d ρ2) => some (.ex d ρ2)
  | none => none
def forG (k : S → Option Out) (o : Option S) : Option Out := match o with
  | none => none
  | some ρ1 => k ρ1
def forL (tg : D → S → Option S) (cs : List Nat) (body : Es) : List D → S → Option Out
  | [], ρ => some (.nx (clr ρ cs))
  | d :: ds, ρ => forG (fun ρ1 => forT (fun ρ2 => forL tg cs body ds ρ2) cs (body ρ1)) (tg d ρ)
def sFor (it : S → Option (Res (List D))) (tg : D → S → Option S) (cs : List Nat) (body : Es) : Es := fun ρ => bs (it ρ) fun ds ρ1 => forL tg cs body ds ρ1
section
variable {X : Cx} {cl : Nat → Addr} {W : WX}
theorem ds_for {iter tg : Expr} {body : List Stmt} {it : S → Option (Res (List D))} {g : D → S → Option S} {is : List Nat} {b : Es} {pos : Pos} (cs : List Nat) (hp : PassesOwn (model X.prog X.w) X.A X.env X.xe) (hc : X.calm = true) (hi : DI X cl tg iter it) (hg : DG X cl tg g is) (hb : DSs X cl body b) (hs : ∀ x, foldedSetIterable iter X.env x = pure x := by intro _; rfl) :
    DS X cl (.For tg iter body [] pos) (sFor it g cs b) := ⟨fun W tk => PS.imp (ps_for hp hc (hi.run W tk) hg.run (hb.run W tk) hs) fun D σ H => by
  rintro ⟨z, rfl, rfl, s, h⟩
  refine ⟨z, rfl, rfl, s, h.bind.imp fun ds z1 e1 x1 h1 J H' sm hit => ?_⟩
  have xg : After (gx X cl) z ⟨z1.T, z1.ρ, z1.σ, H'⟩ := x1.trans (After.grow x1.sat sm)
  refine ⟨fun i m σ H => ∃ zi : Z, zi.σ = σ ∧ zi.H = H ∧ After (gx X cl) z zi ∧ Lasts H' zi.H ∧ m = ds.length - i ∧ i ≤ ds.length ∧ GoS (gx X cl) W z (forL g cs b (ds.drop i) zi.ρ) D,
    ⟨ds.length, ⟨z1.T, z1.ρ, z1.σ, H'⟩, e1, rfl, xg, .refl _, rfl, Nat.zero_le _, h1⟩, ?_⟩
  rintro i m σ H ⟨zi, rfl, rfl, xi, la, rfl, hi, hh⟩
  by_cases hlt : i < ds.length
  · obtain ⟨hgo, hy⟩ := hit.go zi.H la i hlt
    refine .inr ⟨hgo, fun σ' H'' => ∃ zn : Z, zn.σ = σ' ∧ zn.H = H'' ∧ After (gx X cl) z zn ∧ Lasts H' zn.H ∧ GoS (gx X cl) W z (forL g cs b (ds.drop (i + 1)) zn.ρ) D, ?_, fun x Hy hyl => ?_⟩
    · rintro σ' H'' ⟨zn, rfl, rfl, xn, ln, hn⟩
      exact ⟨ds.length - (i + 1), by omega, zn, rfl, rfl, xn, ln, rfl, hlt, hn⟩
    · obtain ⟨smy, d, hd, rd⟩ := hy x Hy hyl
      have ed : ds.drop i = d :: ds.drop (i + 1) := by
        rw [List.drop_eq_getElem_cons hlt]
        have := List.getElem?_eq_getElem hlt
        rw [hd] at this
        rw [Option.some.inj this]
      rw [ed] at hh
      have gy : After (gx X cl) zi ⟨zi.T, zi.ρ, zi.σ, Hy⟩ := After.grow xi.sat smy
      have hh : GoS (gx X cl) W z (forG (fun ρ1 => forT (fun ρ2 => forL g cs b (ds.drop (i + 1)) ρ2) cs (b ρ1)) (g d zi.ρ)) D := hh
      cases ht : g d zi.ρ with
      | none => rw [ht] at hh; exact (goS_none hh).elim
      | some ρ1 =>
        rw [ht] at hh
        have hh : GoS (gx X cl) W z (forT (fun ρ2 => forL g cs b (ds.drop (i + 1)) ρ2) cs (b ρ1)) D := hh
        refine ⟨⟨zi.T, zi.ρ, zi.σ, Hy⟩, d, ρ1, rfl, rfl, gy.sat, rd, ht, fun z2 e2 x2 _ _ => tS_go x2.sat ?_⟩
        have x02 := xi.trans (gy.trans x2)
        have l02 := la.trans (gy.trans x2).lasts
        rw [e2]
        cases hbr : b ρ1 with
        | none => rw [hbr] at hh; exact (goS_none hh).elim
        | some o =>
          rw [hbr] at hh
          refine ⟨o, rfl, ?_⟩
          cases o with
          | nx ρ2 =>
            intro z3 e3 x3
            exact ⟨⟨z3.T, clr z3.ρ cs, z3.σ, z3.H⟩, rfl, rfl, (x02.trans x3).clrs cs, l02.trans x3.lasts, by show GoS _ _ _ (forL g cs b _ (clr z3.ρ cs)) _; rw [e3]; exact hh⟩
          | ct ρ2 =>
            intro z3 e3 x3
            exact ⟨⟨z3.T, clr z3.ρ cs, z3.σ, z3.H⟩, rfl, rfl, (x02.trans x3).clrs cs, l02.trans x3.lasts, by show GoS _ _ _ (forL g cs b _ (clr z3.ρ cs)) _; rw [e3]; exact hh⟩
          | bk ρ2 =>
            intro z3 e3 x3
            obtain ⟨o', eo, q⟩ := hh
            cases eo
            exact q ⟨z3.T, clr z3.ρ cs, z3.σ, z3.H⟩ (by rw [← e3]) ((x02.trans x3).clrs cs)
          | rt a ρ2 =>
            intro v z3 e3 x3 r3
            obtain ⟨o', eo, q⟩ := hh
            cases eo
            exact q v z3 e3 (x02.trans x3) (r3.from x02)
          | ex d ρ2 =>
            intro cls dd z3 e3 x3 r3
            obtain ⟨o', eo, q⟩ := hh
            cases eo
            exact q cls dd z3 e3 (x02.trans x3) r3
  · refine .inl ⟨hit.stop zi.H la i (by omega), ?_⟩
    rw [List.drop_of_length_le (by omega)] at hh
    obtain ⟨o', eo, q⟩ := hh
    cases eo
    exact q ⟨zi.T, clr zi.ρ cs, zi.σ, zi.H⟩ rfl (xi.clrs cs)⟩
end
end Fm

/-! Fm.G: list comprehensions. -/
namespace Fm
open PySem PySem.Spec PyProof.Rows L2

def compK (k : S → Option (Res (List D))) (x : D) (ρ : S) : Option (Res (List D)) := match k ρ with
  | some (.ok xs ρ2) => some (.ok (x :: xs) ρ2)
  | _ => none
def compE (k : S → Option (Res (List D))) (cs : List Nat) (r : Option (Res A)) : Option (Res (List D)) := match r with
  | some (.ok (.val x) ρ3) => compK k x (clr ρ3 cs)
  | _ => none
def compT (k : S → Option (Res (List D))) (e : Ev) (cs : List Nat) (r : Option (Res Bool)) : Option (Res (List D)) := match r with
  | some (.ok true ρ2) => compE k cs (eZ e ρ2)
  | some (.ok false ρ2) => k (clr ρ2 cs)
  | _ => none
def compG (k : S → Option (Res (List D))) (o : Option S) : Option (Res (List D)) := match o with
  | none => none
  | some ρ1 => k ρ1
/-- the turns of a comprehension -/
def compL (tg : D → S → Option S) (c : S → Option (Res Bool)) (e : Ev) (cs : List Nat) : List D → S → Option (Res (List D))
  | [], ρ => some (.ok [] ρ)
  | d :: ds, ρ => compG (fun ρ1 => compT (fun ρ2 => compL tg c e cs ds ρ2) e cs (c ρ1)) (tg d ρ)
def compR (r : Option (Res (List D))) : Option (Res A) := match r with
  | some (.ok xs ρ2) => if xs.length ≤ 1000000 then some (.ok (.own xs) ρ2) else none
  | _ => none
def eComp (it : S → Option (Res (List D))) (tg : D → S → Option S) (c : S → Option (Res Bool)) (e : Ev) (cs : List Nat) : Ev := fun ρ => bd (it ρ) fun ds ρ1 => compR (compL tg c e cs ds (clr ρ1 cs))
def eYes : S → Option (Res Bool) := fun ρ => some (.ok true ρ)

theorem clr_get {ρ : S} {a : A} : ∀ {cs : List Nat} {i : Nat}, (clr ρ cs).sl[i]? = some (some a) → ρ.sl[i]? = some (some a) ∧ i ∉ cs := by
  intro cs
  unfold clr
  generalize ρ.sl = l
  induction cs generalizing l with
  | nil => exact fun h => ⟨h, by simp⟩
  | cons c cs ih =>
    intro i h
    obtain ⟨h1, h2⟩ := ih (l.set c none) h
    obtain ⟨h3, h4⟩ := get_set_none h1
    exact ⟨h3, by simp [h2, h4]⟩
theorem wipe_get {σ : List (Option V)} {i : Nat} : ∀ {cs : List Nat}, i ∉ cs → (wipe σ cs)[i]? = σ[i]?
  | [], _ => rfl
  | c :: cs, h => by
    simp only [List.mem_cons, not_or] at h
    unfold wipe
    rw [List.getElem?_set_ne (fun e => h.1 e.symm)]
    exact wipe_get h.2
theorem wipe_in {σ : List (Option V)} {i : Nat} : ∀ {cs : List Nat}, i ∈ cs → (wipe σ cs)[i]? = if i < σ.length then some none else none
  | c :: cs, h => by
    unfold wipe
    by_cases e : c = i
    · subst e
      by_cases hl : c < σ.length
      · rw [List.getElem?_set_self (by rw [wipe_length]; exact hl), if_pos hl]
      · rw [if_neg hl, List.getElem?_eq_none (by rw [List.length_set, wipe_length]; omega)]
    · rw [List.getElem?_set_ne e]
      exact wipe_in ((List.mem_cons.mp h).resolve_left (fun z => e z.symm))
theorem wipe_eq {σ τ : List (Option V)} {cs : List Nat} (hl : τ.length = σ.length) (h : ∀ j, j ∉ cs → τ[j]? = σ[j]?) : wipe τ cs = wipe σ cs := by
  apply List.ext_getElem?
  intro i
  by_cases hi : i ∈ cs
  · rw [wipe_in hi, wipe_in hi, hl]
  · rw [wipe_get hi, wipe_get hi, h i hi]
section
variable {G : Cg} {T : List Addr} {ρ : S} {H : Hp} {σ τ : List (Option V)}
/-- slots that nothing is known of don't matter -/
theorem Sat.other (s : Sat G ⟨T, ρ, σ, H⟩) (hl : τ.length = σ.length) (h : ∀ (i : Nat) (a : A), ρ.sl[i]? = some (some a) → τ[i]? = σ[i]?) : Sat G ⟨T, ρ, τ, H⟩ := by
  refine ⟨s.len.trans hl.symm, fun i a e => ?_, s.blen, s.boxes, s.nd, fun a ⟨i, l, e1, e2⟩ => ?_, fun i j l m a e1 e2 e3 e4 => ?_⟩
  · obtain ⟨nb, v, e1, r⟩ := s.slots i a e
    refine ⟨nb, v, (h i a e).trans e1, ?_⟩
    cases a with
    | bor _ => exact nb.elim
    | _ => exact r
  · exact s.sepT a ⟨i, l, e1, (h i _ e1).symm.trans e2⟩
  · exact s.sepO i j l m a e1 e2 ((h i _ e1).symm.trans e3) ((h j _ e2).symm.trans e4)
theorem fp_other {b : Addr} (h : ∀ (i : Nat) (a : A), ρ.sl[i]? = some (some a) → τ[i]? = σ[i]?) (f : Fp ⟨T, ρ, τ, H⟩ b) : Fp ⟨T, ρ, σ, H⟩ b := by
  rcases f with f | ⟨i, l, e1, e2⟩
  · exact .inl f
  · exact .inr ⟨i, l, e1, (h i _ e1).symm.trans e2⟩
end
section
variable {X : Cx} {cl : Nat → Addr} {W : WX}
abbrev W0 : WX := fun _ _ _ _ => False
structure DTs (X : Cx) (cl : Nat → Addr) (es : List Expr) (f : S → Option (Res Bool)) : Prop where
  run : ∀ W, Takes X W → PTs X es (tT (gx X cl) W f)
theorem dts_nil : DTs X cl [] eYes := ⟨fun W tk => ⟨fun pins s σ H Q I h => by
  obtain ⟨z, rfl, rfl, sz, h⟩ := h
  exact pts_nil.run pins s z.σ z.H Q I (h.pure sz)⟩⟩
theorem dts_one {e : Expr} {f : S → Option (Res Bool)} (h : DT X cl e f) : DTs X cl [e] f := ⟨fun W tk => pts_one (h.run W tk)⟩
theorem go_mono {α : Type} {G : Cg} {z : Z} {r : Option (Res α)} {P : α → Z → Prop} {a : α} {ρ' : S} (h : r = some (.ok a ρ')) (hP : ∀ z' : Z, z'.ρ = ρ' → z'.σ = z.σ → After G z z' → P a z') : Go G W z r P := ⟨_, h, hP⟩

theorem lc_ok {it : S → Option (Res (List Fm.D))} {g : Fm.D → S → Option S} {is cs : List Nat} {c : S → Option (Res Bool)} {e : Ev} (his : ∀ i ∈ is, i ∈ cs) :
    ∀ σ H Q, tD (gx X cl) W (eComp it g c e cs) σ H Q → tLc (tI (gx X cl) W it) (tGd (gx X cl) g is) (tT (gx X cl) W0 c) (tD (gx X cl) W0 (eZ e)) cs σ H Q := by
  rintro σ H Q ⟨z, rfl, rfl, s, h⟩
  refine ⟨z, rfl, rfl, s, (Go.bind h).imp fun ds z1 e1 x1 h1 J H' sm hit D0 nD => ?_⟩
  have xg : After (gx X cl) z ⟨z1.T, z1.ρ, z1.σ, H'⟩ := x1.trans (After.grow x1.sat sm)
  -- what comes
  obtain ⟨r', e', q⟩ := h1
  cases hL : compL g c e cs ds (clr z1.ρ cs) with
  | none => rw [hL] at e'; cases e'
  | some rr =>
    rw [hL] at e'
    cases rr with
    | ex d ρ2 => cases e'
    | ok total ρF =>
      have e' : (if total.length ≤ 1000000 then some (Res.ok (A.own total) ρF) else none) = some r' := e'
      split at e'
      · rename_i hlen
        cases e'
        have s1 : Sat (gx X cl) ⟨z1.T, clr z1.ρ cs, z1.σ, H'⟩ := (Sat.clrs cs (Sat.grow (show Sat _ ⟨z1.T, z1.ρ, z1.σ, z1.H⟩ from x1.sat) sm)).1
        have xb : After (gx X cl) z1 ⟨z1.T, clr z1.ρ cs, z1.σ, H'⟩ := (After.grow (show Sat _ ⟨z1.T, z1.ρ, z1.σ, z1.H⟩ from x1.sat) sm).clrs cs
        have nW : ∀ {ρ : S} {i : Nat} {a : A}, (∀ (i : Nat) (a : A), ρ.sl[i]? = some (some a) → i ∉ cs) → ρ.sl[i]? = some (some a) → (wipe z.σ cs)[i]? = z1.σ[i]? := fun {ρ i a} hρ e => by rw [wipe_get (hρ i a e), e1]
        let St : Nat → Hp → Prop := fun i Hc => ∃ (zi : Z) (acc : List Fm.D), zi.σ = wipe z.σ cs ∧ zi.H = Hc ∧ After (gx X cl) ⟨z1.T, clr z1.ρ cs, z1.σ, H'⟩ zi ∧ (∃ vs, Hc D0 = some (.lst vs) ∧ RepL (gx X cl) Hc acc vs) ∧ ¬ Fp zi D0 ∧ (∀ (j : Nat) (a : A), zi.ρ.sl[j]? = some (some a) → j ∉ cs) ∧
          ∃ rest, compL g c e cs (ds.drop i) zi.ρ = some (.ok rest ρF) ∧ acc ++ rest = total
        have nFp : ¬ Fp ⟨z1.T, clr z1.ρ cs, z1.σ, H'⟩ D0 := fun f => by
          rcases fp_tag s1 f with ⟨vs, w⟩ | ⟨C, dx, fs, w⟩
          · have w : H' D0 = _ := w
            rw [nD] at w; cases w
          · have w : H' D0 = _ := w
            rw [nD] at w; cases w
        have st0 : St 0 (upd H' D0 (.lst [])) := by
          have hcl : ∀ (j : Nat) (a : A), (clr z1.ρ cs).sl[j]? = some (some a) → j ∉ cs := fun j a h => (clr_get h).2
          have s2 : Sat (gx X cl) ⟨z1.T, clr z1.ρ cs, wipe z.σ cs, upd H' D0 (.lst [])⟩ := Sat.other (s1.grow (same_new nD)) (by rw [wipe_length, e1]) fun i a h => nW hcl h
          refine ⟨⟨z1.T, clr z1.ρ cs, wipe z.σ cs, upd H' D0 (.lst [])⟩, [], rfl, rfl, ⟨s2, List.prefix_refl _, fun b o h _ => same_new nD b o h, .same (same_new nD), fun b f => .inl (fp_other (fun i a h => nW hcl h) f)⟩, ⟨[], upd_same, .nil⟩, fun f => ?_, hcl, total, hL, rfl⟩
          exact nFp (fp_other (fun i a h => nW hcl h) f)
        refine ⟨fun i m Hc => m = ds.length - i ∧ i ≤ ds.length ∧ St i Hc, ⟨ds.length, rfl, Nat.zero_le _, st0⟩, ?_⟩
        rintro i m Hc ⟨rfl, hi, zi, acc, es, rfl, xi, ⟨vs, hv, rv⟩, nf, hcs, rest, hr, htot⟩
        have la : Lasts H' zi.H := xi.lasts
        by_cases hlt : i < ds.length
        · obtain ⟨hgo, hy⟩ := hit.go zi.H la i hlt
          refine .inr ⟨hgo, fun Hn => St (i + 1) Hn, fun Hn hn => ⟨ds.length - (i + 1), by omega, rfl, hlt, hn⟩, fun x Hy hyl => ?_⟩
          obtain ⟨smy, d, hd, rd⟩ := hy x Hy hyl
          have ed : ds.drop i = d :: ds.drop (i + 1) := by
            rw [List.drop_eq_getElem_cons hlt]
            have := List.getElem?_eq_getElem hlt
            rw [hd] at this
            rw [Option.some.inj this]
          rw [ed] at hr
          have hr : compG (fun ρ1 => compT (fun ρ2 => compL g c e cs (ds.drop (i + 1)) ρ2) e cs (c ρ1)) (g d zi.ρ) = some (.ok rest ρF) := hr
          cases ht : g d zi.ρ with
          | none => rw [ht] at hr; cases hr
          | some ρ1 =>
            rw [ht] at hr
            have hr : compT (fun ρ2 => compL g c e cs (ds.drop (i + 1)) ρ2) e cs (c ρ1) = some (.ok rest ρF) := hr
            have gy : After (gx X cl) zi ⟨zi.T, zi.ρ, zi.σ, Hy⟩ := After.grow xi.sat smy
            refine ⟨⟨zi.T, zi.ρ, zi.σ, Hy⟩, d, ρ1, es, rfl, gy.sat, rd, ht, fun z2 e2 x2 hl2 hk2 => ?_⟩
            have ew : wipe z2.σ cs = wipe z.σ cs := by
              refine wipe_eq (by rw [hl2]; show zi.σ.length = _; rw [es, wipe_length]) fun j hj => ?_
              rw [hk2 j fun h => hj (his j h)]
              show zi.σ[j]? = _
              rw [es, wipe_get hj]
            have x02 : After (gx X cl) zi z2 := gy.trans x2
            -- the next turn's state, from any state behind the element
            have next : ∀ (z4 : Z) (ρn : S) (Hn : Hp) (acc' rest' : List Fm.D) (vs' : List V), After (gx X cl) zi z4 → z4.σ = z2.σ → ρn = clr z4.ρ cs → Lasts z4.H Hn → (∀ b, b ≠ D0 → Hn b = z4.H b) → Hn D0 = some (.lst vs') → RepL (gx X cl) Hn acc' vs' → compL g c e cs (ds.drop (i + 1)) ρn = some (.ok rest' ρF) → acc' ++ rest' = total → St (i + 1) Hn := by
              rintro z4 ρn Hn acc' rest' vs' x4 eσ rfl ln kn hn rn hL' ht'
              have n4 : ¬ Fp z4 D0 := fun f => by
                rcases x4.fp D0 f with w | w
                · exact nf w
                · rw [hv] at w; cases w
              have hcl : ∀ (j : Nat) (a : A), (clr z4.ρ cs).sl[j]? = some (some a) → j ∉ cs := fun j a h => (clr_get h).2
              obtain ⟨sc, fc⟩ := Sat.clrs cs (show Sat (gx X cl) ⟨z4.T, z4.ρ, z4.σ, z4.H⟩ from x4.sat)
              have eo : ∀ (j : Nat) (a : A), (clr z4.ρ cs).sl[j]? = some (some a) → (wipe z.σ cs)[j]? = z4.σ[j]? := fun j a h => by
                rw [← ew, wipe_get (hcl j a h), eσ]
              have s4 : Sat (gx X cl) ⟨z4.T, clr z4.ρ cs, wipe z.σ cs, Hn⟩ := Sat.other (Sat.chg sc ln fun b f => kn b fun w => n4 (by rw [← w]; exact fc b f)) (by rw [← ew, wipe_length, eσ]) eo
              have fo : ∀ b, Fp ⟨z4.T, clr z4.ρ cs, wipe z.σ cs, Hn⟩ b → Fp z4 b := fun b f => fc b (fp_other (H := Hn) eo f)
              refine ⟨⟨z4.T, clr z4.ρ cs, wipe z.σ cs, Hn⟩, acc', rfl, rfl, ⟨s4, xi.pre.trans x4.pre, fun b o h n => ?_, xi.lasts.trans (x4.lasts.trans ln), fun b f => (xi.trans x4).fp b (fo b f)⟩, ⟨vs', hn, rn⟩, fun f => n4 (fo D0 f), hcl, rest', hL', ht'⟩
              have hb : b ≠ D0 := fun w => by
                rw [w] at h
                have h : H' D0 = some o := h
                rw [nD] at h; cases h
              show Hn b = some o
              rw [kn b hb]
              exact (xi.trans x4).keep b o h n
            refine ⟨ew, ?_⟩
            cases hc : c ρ1 with
            | none => rw [hc] at hr; cases hr
            | some rb =>
              rw [hc] at hr
              cases rb with
              | ex _ _ => cases hr
              | ok b ρ2 =>
                refine tT_go x2.sat (go_mono (by rw [e2]; exact hc) fun z3 e3 es3 x3 => ?_)
                cases b with
                | false =>
                  refine iteF ?_
                  have hr : compL g c e cs (ds.drop (i + 1)) (clr ρ2 cs) = some (.ok rest ρF) := hr
                  have x03 := x02.trans x3
                  refine next z3 _ z3.H acc rest vs x03 es3 rfl (.refl _) (fun _ _ => rfl) (x03.keep _ _ hv nf) (RepL.lasts x03.lasts rv) (by rw [e3]; exact hr) htot
                | true =>
                  refine iteT ?_
                  have hr : compE (fun ρ2 => compL g c e cs (ds.drop (i + 1)) ρ2) cs (eZ e ρ2) = some (.ok rest ρF) := hr
                  cases he : eZ e ρ2 with
                  | none => rw [he] at hr; cases hr
                  | some re =>
                    rw [he] at hr
                    cases re with
                    | ex _ _ => cases hr
                    | ok a ρ3 =>
                      cases a with
                      | val xd =>
                        have hr : compK (fun ρ2 => compL g c e cs (ds.drop (i + 1)) ρ2) xd (clr ρ3 cs) = some (.ok rest ρF) := hr
                        unfold compK at hr
                        split at hr
                        · rename_i xs ρ4 hxs
                          cases hr
                          rw [← es3]
                          refine tD_go x3.sat (go_mono (by rw [e3]; exact he) fun z4 e4 es4 x4 y hyv => ?_)
                          have x04 := (x02.trans x3).trans x4
                          have hv4 := x04.keep _ _ hv nf
                          have ry : Rep (gx X cl) z4.H xd y := hyv.rep
                          have lz : Lasts z4.H (upd z4.H D0 (.lst (vs ++ [y]))) := upd_frz_lasts hv4
                          refine ⟨vs, hv4, ?_, next z4 _ _ (acc ++ [xd]) xs (vs ++ [y]) x04 (es4.trans es3) rfl lz (fun b hb => upd_ne hb) upd_same (RepL.lasts lz ((RepL.lasts x04.lasts rv).append (.one ry))) (by rw [e4]; exact hxs) (by rw [← htot, List.append_assoc]; rfl)⟩
                          have := rv.length
                          have h2 : acc.length < total.length := by rw [← htot, List.length_append, List.length_cons]; omega
                          rw [← this, sizeLine_eq]
                          omega
                        · cases hr
                      | _ => cases hr
        · refine .inl ⟨hit.stop zi.H la i (by omega), ?_⟩
          rw [List.drop_of_length_le (by omega)] at hr
          have hr : some (Res.ok ([] : List Fm.D) zi.ρ) = some (.ok rest ρF) := hr
          injection hr with hr
          injection hr with hr1 hr2
          subst hr1
          rw [List.append_nil] at htot
          subst htot
          have eo : ∀ (j : Nat) (a : A), zi.ρ.sl[j]? = some (some a) → z1.σ[j]? = zi.σ[j]? := fun j a h => by rw [es, wipe_get (hcs j a h), e1]
          have sF : Sat (gx X cl) ⟨zi.T, ρF, z1.σ, zi.H⟩ := by
            rw [← hr2]
            exact Sat.other (show Sat _ ⟨zi.T, zi.ρ, zi.σ, zi.H⟩ from xi.sat) (by rw [es, wipe_length, e1]) eo
          have fF : ∀ b, Fp ⟨zi.T, ρF, z1.σ, zi.H⟩ b → Fp zi b := fun b f => by
            rw [← hr2] at f
            exact fp_other (σ := zi.σ) eo f
          have xF : After (gx X cl) z1 ⟨zi.T, ρF, z1.σ, zi.H⟩ := ⟨sF, xb.pre.trans xi.pre, (xb.trans xi).keep, (xb.trans xi).lasts, fun b f => (xb.trans xi).fp b (fF b f)⟩
          refine q ⟨zi.T, ρF, z1.σ, zi.H⟩ rfl rfl xF (x1.trans xF) (.ref D0) ⟨⟨D0, vs, rfl, hv, rv⟩, fun f => nf (fF D0 f), ?_⟩
          have n1 : z1.H D0 = none := sm.free nD
          cases w : z.H D0 with
          | none => exact .inr rfl
          | some o =>
            by_cases f : Fp z D0
            · exact .inl f
            · have := x1.keep D0 o w f
              rw [n1] at this; cases this
      · cases e'
/-- [elt for target in iter if ..] -/
theorem de_comp {elt tg iter : Expr} {ifs : List Expr} {scope : Scope} {pos : Pos} {it : S → Option (Res (List Fm.D))} {g : Fm.D → S → Option S} {is : List Nat} {c : S → Option (Res Bool)} {e : Ev} (hc : X.calm = true) (hN : X.N.Nodup) (own : List (Str × Nat)) (hi : DI X cl tg iter it)
    (ok : blkC X.N X.env.scope scope own = true) (hg : ∀ (s : Shared) (H : Hp) (C : Addr) (cc : List (Str × Addr)) (fp : List Addr), DG (X.blk s H scope (compEnvC scope cc C X.env) fp) cl tg g is)
    (ht : ∀ (s : Shared) (H : Hp) (C : Addr) (cc : List (Str × Addr)) (fp : List Addr), DTs (X.blk s H scope (compEnvC scope cc C X.env) fp) cl ifs c)
    (he : ∀ (s : Shared) (H : Hp) (C : Addr) (cc : List (Str × Addr)) (fp : List Addr), DE (X.blk s H scope (compEnvC scope cc C X.env) fp) cl elt e) (his : ∀ i ∈ is, i ∈ own.map (·.2) := by decide) (hs : ∀ x, foldedSetIterable iter X.env x = pure x := by intro _; rfl) :
    DE X cl (.ListComp elt [⟨tg, iter, ifs, 0⟩] scope pos) (eComp it g c e (own.map (·.2))) := ⟨fun W tk => PE.imp (pe_lc hc hN (hi.run W tk) (blkOk_by ok) (fun s H C cc fp => (hg s H C cc fp).run) (fun s H C cc fp => (ht s H C cc fp).run W0 takes0) (fun s H C cc fp => (de_fz (he s H C cc fp)).run W0 takes0) hs) fun σ H Q h => lc_ok his σ H Q h⟩
/-- name = [..], on one line -/
theorem ds_setComp {i : Nat} {y : Str} {py : Pos} {elt tg iter : Expr} {ifs : List Expr} {scope : Scope} {pos spos : Pos} {it : S → Option (Res (List Fm.D))} {g : Fm.D → S → Option S} {is : List Nat} {c : S → Option (Res Bool)} {e : Ev} (hc : X.calm = true) (hN : X.N.Nodup) (own : List (Str × Nat)) (hi : DI X cl tg iter it)
    (ok : blkC X.N X.env.scope scope own = true) (hg : ∀ (s : Shared) (H : Hp) (C : Addr) (cc : List (Str × Addr)) (fp : List Addr), DG (X.blk s H scope (compEnvC scope cc C X.env) fp) cl tg g is)
    (ht : ∀ (s : Shared) (H : Hp) (C : Addr) (cc : List (Str × Addr)) (fp : List Addr), DTs (X.blk s H scope (compEnvC scope cc C X.env) fp) cl ifs c)
    (he : ∀ (s : Shared) (H : Hp) (C : Addr) (cc : List (Str × Addr)) (fp : List Addr), DE (X.blk s H scope (compEnvC scope cc C X.env) fp) cl elt e)
    (hsw : swapsWith (.ListComp elt [⟨tg, iter, ifs, 0⟩] scope pos) (some (.Name y py)) spos.line X.env = pure true) (hyl : X.env.scope.names.lookup y = some .local := by rfl) (hy : X.N[i]? = some y := by rfl)
    (his : ∀ i ∈ is, i ∈ own.map (·.2) := by decide) (hs : ∀ x, foldedSetIterable iter X.env x = pure x := by intro _; rfl) :
    DS X cl (.Assign [.Name y py] (.ListComp elt [⟨tg, iter, ifs, 0⟩] scope pos) spos) (sSet i (eComp it g c e (own.map (·.2)))) := ⟨fun W tk => PS.imp (ps_setLc hc hN hy hyl hsw (hi.run W tk) (blkOk_by ok) (fun s H C cc fp => (hg s H C cc fp).run) (fun s H C cc fp => (ht s H C cc fp).run W0 takes0) (fun s H C cc fp => (de_fz (he s H C cc fp)).run W0 takes0) hs) fun D σ H => by
  rintro ⟨z, rfl, rfl, s, h⟩
  refine lc_ok his z.σ z.H _ (tD_go s (h.bind.imp fun a z1 e1 x1 h1 v hv => ?_))
  have q := put_ok x1 hv h1
  rw [e1] at q
  exact q⟩
end
end Fm

/-! Fm.H: operations on data. -/
namespace Fm
open PySem PySem.Spec PyProof.Rows L2

/-! ### arguments that are looked at -/
def tAB (G : Cg) (W : WX) (f : S → Option (Res (List A))) : TA := fun σ H Q => ∃ z : Z, z.σ = σ ∧ z.H = H ∧ Sat G z ∧ Go G W z (f z.ρ) fun as z' => ∀ vs, Paired (AR G z z') as vs → Q vs z'.H
structure DB (X : Cx) (cl : Nat → Addr) (es : List Expr) (f : S → Option (Res (List A))) : Prop where
  run : ∀ W, Takes X W → PA X es (tAB (gx X cl) W f)
def bCons (f : Ev) (g : S → Option (Res (List A))) : S → Option (Res (List A)) := fun ρ => bd (f ρ) fun a ρ1 => bd (g ρ1) fun as ρ2 => some (.ok (a :: as) ρ2)
def looks : List A → S → Option (List D)
  | [], _ => some []
  | a :: as, ρ => match look a ρ, looks as ρ with
    | some d, some l => some (d :: l)
    | _, _ => none
section
variable {X : Cx} {cl : Nat → Addr} {W : WX}
theorem db_nil : DB X cl [] aNil := ⟨fun W tk => PA.imp pa_nil fun σ H Q => by
  rintro ⟨z, rfl, rfl, s, h⟩
  exact h.pure s [] .nil⟩
theorem paired_from {G : Cg} {z0 z z1 : Z} (x : After G z0 z) : ∀ {as : List A} {vs : List V}, Paired (AR G z z1) as vs → Paired (AR G z0 z1) as vs
  | _, _, .nil => .nil
  | _, _, .cons r t => .cons (r.from x) (paired_from x t)
theorem db_cons {e : Expr} {es : List Expr} {f : Ev} {g : S → Option (Res (List A))} (he : DE X cl e f) (hr : DB X cl es g) (hs : starEach (e :: es) X.env = (false, eval e X.env) :: starEach es X.env := by rfl) : DB X cl (e :: es) (bCons f g) :=
  ⟨fun W tk => PA.imp (pa_cons (he.run W tk) (hr.run W tk) hs) fun σ H Q => by
    rintro ⟨z, rfl, rfl, s, h⟩
    refine tD_go s ((Go.bind h).imp fun a z1 e1 x1 h1 v hv => ?_)
    rw [← e1]
    refine ⟨z1, rfl, rfl, x1.sat, (Go.bind h1).imp fun as z2 e2 x2 h2 vs hvs => ?_⟩
    exact h2.pure x2.sat x2 (x1.trans x2) (v :: vs) (.cons (hv.step x2 e2) (paired_from x1 hvs))⟩
theorem looks_rep {G : Cg} {z0 z : Z} (s : Sat G z) : ∀ {as : List A} {vs : List V} {l : List D}, Paired (AR G z0 z) as vs → looks as z.ρ = some l → Paired (VRep G z.H) l vs
  | _, _, _, .nil, h => by cases h; exact .nil
  | a :: as, _, l, .cons r t, h => by
    unfold looks at h
    split at h
    · rename_i d l' h1 h2
      cases h
      exact .cons (look_rep s r.rep h1) (looks_rep s t h2)
    · cases h
def eNB (g : List D → Option A) (f : S → Option (Res (List A))) : Ev := fun ρ => bd (f ρ) fun as ρ1 => match looks as ρ1 with
  | some l => ret ρ1 (g l)
  | none => none
def OpV (G : Cg) (r : List V → Hp → VK → Prop) (g : List D → Option A) : Prop := ∀ (H : Hp) (l : List D) (vs : List V) (c : A) (Q : VK), Paired (VRep G H) l vs → g l = some c → (∀ w H', Same H H' → NRep G H H' c w → Q w H') → r vs H Q
theorem tNB {r : List V → Hp → VK → Prop} {g : List D → Option A} {f : S → Option (Res (List A))} (hg : OpV (gx X cl) r g) : ∀ σ H Q, tD (gx X cl) W (eNB g f) σ H Q → tCB r (tAB (gx X cl) W f) σ H Q := by
  rintro σ H Q ⟨z, rfl, rfl, s, h⟩
  refine ⟨z, rfl, rfl, s, (Go.bind h).imp fun as z1 e1 x1 h1 vs hvs => ?_⟩
  cases e : looks as z1.ρ with
  | none =>
    rw [e] at h1
    exact (go_none h1).elim
  | some l =>
    rw [e] at h1
    obtain ⟨c, hc, h3⟩ := go_ret h1
    exact hg _ l vs c Q (looks_rep x1.sat hvs e) hc fun w H' e n => give x1 h3 e n
/-- a built-in function, a type, called with things that are looked at -/
theorem de_callB {x : Str} {id : String} {r : List V → Hp → VK → Prop} {g : List D → Option A} {e : Expr} {es : List Expr} {f : S → Option (Res (List A))} {p pos : Pos} (hc : CallR X (.builtin id) r) (hg : OpV (gx X cl) r g) (hm : X.mg x = none) (ha : DB X cl (e :: es) f) (hgl : Gl X x := by rfl) (hv : bootBuiltins x = some (.builtin id) := by decide)
    (hn : x ≠ "__name__" := by decide) (hdb : (x == ("__debug__" : Str)) = false := by decide) (he : starEach (e :: es) X.env = (false, eval e X.env) :: starEach es X.env := by rfl) (hpl : (backTo pos (starEach es X.env)).any (·.1) = false := by rfl) : DE X cl (.Call (.Name x p) (e :: es) [] pos) (eNB g f) :=
  ⟨fun W tk => PE.imp (pe_callB hc hgl hm hv (ha.run W tk) hn hdb he hpl) (tNB hg)⟩
theorem de_callTy {x : Str} {T : String} {r : List V → Hp → VK → Prop} {g : List D → Option A} {e : Expr} {es : List Expr} {f : S → Option (Res (List A))} {p pos : Pos} (hc : CallR X (.type T) r) (hg : OpV (gx X cl) r g) (hm : X.mg x = none) (ha : DB X cl (e :: es) f) (hgl : Gl X x := by rfl) (hv : bootBuiltins x = some (.type T) := by decide)
    (hn : x ≠ "__name__" := by decide) (hdb : (x == ("__debug__" : Str)) = false := by decide) (he : starEach (e :: es) X.env = (false, eval e X.env) :: starEach es X.env := by rfl) (hpl : (backTo pos (starEach es X.env)).any (·.1) = false := by rfl) : DE X cl (.Call (.Name x p) (e :: es) [] pos) (eNB g f) :=
  ⟨fun W tk => PE.imp (pe_callTy hc hgl hm hv (ha.run W tk) hn hdb he hpl) (tNB hg)⟩
end

/-! ### flat data -/
section
variable {G : Cg} {H H' : Hp} {v : V}
theorem vint {i : Int} (r : VRep G H (.int i) v) : v = .int i := by
  have r : Rep G H (.int i) v := r
  unfold Rep at r; exact r
theorem vbl {b : Bool} (r : VRep G H (.bl b) v) : v = .bl b := by
  have r : Rep G H (.bl b) v := r
  unfold Rep at r; exact r
theorem vnon (r : VRep G H .non v) : v = .non := by
  have r : Rep G H .non v := r
  unfold Rep at r; exact r
theorem vstr {x : Str} (r : VRep G H (.str x) v) : v = .str x ∧ PyData.strOk x = true := by
  have r : Rep G H (.str x) v := r
  unfold Rep at r; exact r
theorem vlst {l : List D} (r : VRep G H (.lst l) v) : ∃ a vs, v = .ref a ∧ SqL G.K H a vs ∧ RepL G H l vs := r
theorem vtup {l : List D} (r : VRep G H (.tup l) v) : ∃ a vs, v = .ref a ∧ SqT G.K H a vs ∧ RepL G H l vs := by
  have r : Rep G H (.tup l) v := r
  unfold Rep at r; exact r
theorem nint {i : Int} : NRep G H H' (.val (.int i)) (.int i) := by
  show Rep _ _ _ _
  unfold Rep; rfl
theorem nbl {b : Bool} : NRep G H H' (.val (.bl b)) (.bl b) := by
  show Rep _ _ _ _
  unfold Rep; rfl
theorem nstr {x : Str} (h : PyData.strOk x = true) : NRep G H H' (.val (.str x)) (.str x) := by
  show Rep _ _ _ _
  unfold Rep; exact ⟨rfl, h⟩
theorem strOk_append {x y : Str} (h1 : PyData.strOk x = true) (h2 : PyData.strOk y = true) : PyData.strOk (x ++ y) = true := by
  unfold PyData.strOk at *
  show (x.cps ++ y.cps).all _ = true
  rw [Array.all_append, h1, h2]; rfl
end

/-! ### + -/
def gAdd : D → D → Option A
  | .int i, .int j => some (.val (.int (i + j)))
  | .str x, .str y => if x.length + y.length ≤ 1000000 then some (.val (.str (x ++ y))) else none
  | .lst l, .lst m => if l.length + m.length ≤ 1000000 then some (.own (l ++ m)) else none
  | .tup l, .tup m => if l.length + m.length ≤ 1000000 then some (.val (.tup (l ++ m))) else none
  | _, _ => none
theorem line_ge : 1000000 < sizeLine := by rw [sizeLine_eq]; decide
def rCatS (K : PySem.W.Frag) : R2 := fun x y H Q => ∃ l b xs zs, x = .ref l ∧ y = .ref b ∧ SqL K H l xs ∧ SqL K H b zs ∧ xs.length + zs.length ≤ sizeLine ∧ ∀ p, H p = none → Q (.ref p) (upd H p (.lst (xs ++ zs)))
theorem op_catS {X : Cx} : OpR X (binaryOp .Add) (rCatS X.K) := by
  intro pins s σ H x y v u Q I rx ry h
  obtain ⟨l, b, xs, zs, rfl, rfl, hH, hB, hz, q⟩ := h
  cases rx
  cases ry
  obtain ⟨its, r, p1, _⟩ := I.list hH
  obtain ⟨its2, r2, p2, _⟩ := I.list hB
  have l1 := r.length
  have l2 := r2.length
  obtain ⟨⟨cls, dd, data, sl⟩, ho, hc, n, hd⟩ := id p1.isList
  obtain ⟨⟨cls2, dd2, data2, sl2⟩, ho2, hc2, n2, hd2⟩ := id p2.isList
  simp only at hc hd hc2 hd2
  subst hc hd hc2 hd2
  have e : its.toArray ++ its2.toArray = (its ++ its2).toArray := by simp
  refine concat_meets ⟨_, ho, rfl⟩ ⟨_, ho2, rfl⟩ noFill_list_add seq_list_add PySem.F.slot_list_add PySem.F.entry_list_add (PySem.F.args_list_add_2 _ _) (list_addW l b its.toArray its2.toArray n n2 dd dd2 sl sl2 (by simp; omega)) ⟨ho, ho2, ?_⟩
  rw [e]
  exact ⟨.ref _, _, I.lnew (t' := s.toks) (r.append r2) (by rw [List.length_append]; omega), rfl, q _ I.fresh⟩
def rAdd (K : PySem.W.Frag) : R2 := fun x y H Q => (rI0 (fun i j => .int (i + j))) x y H Q ∨ (∃ i j, x = .str i ∧ y = .str j ∧ i.length + j.length ≤ sizeLine ∧ Q (.str (i ++ j)) H) ∨ rCatS K x y H Q ∨ rCatA K x y H Q
section
variable {X : Cx} {cl : Nat → Addr}
theorem op_addD : OpR X (binaryOp .Add) (rAdd X.K) := op_add.or (op_add_str.or (op_catS.or op_catA))
theorem gAdd_ok {G : Cg} : Op2 G (rAdd G.K) gAdd := by
  intro H x y v u c Q rx ry h q
  unfold gAdd at h
  split at h
  · cases h
    rw [vint rx, vint ry]
    exact .inl ⟨_, _, rfl, rfl, q _ _ (Same.refl _) nint⟩
  · rename_i x y
    split at h
    · rename_i hl
      cases h
      obtain ⟨rfl, o1⟩ := vstr rx
      obtain ⟨rfl, o2⟩ := vstr ry
      exact .inr (.inl ⟨_, _, rfl, rfl, Nat.le_trans hl (Nat.le_of_lt line_ge), q _ _ (Same.refl _) (nstr (strOk_append o1 o2))⟩)
    · cases h
  · rename_i l m
    split at h
    · rename_i hl
      cases h
      obtain ⟨a, vs, rfl, h1, r1⟩ := vlst rx
      obtain ⟨b, ws, rfl, h2, r2⟩ := vlst ry
      have e1 := r1.length
      have e2 := r2.length
      exact .inr (.inr (.inl ⟨a, b, vs, ws, rfl, rfl, h1, h2, by have := line_ge; omega, fun p np => q _ _ (same_new np) ⟨p, vs ++ ws, rfl, np, upd_same, RepL.lasts (.same (same_new np)) (r1.append r2)⟩⟩))
    · cases h
  · rename_i l m
    split at h
    · rename_i hl
      cases h
      obtain ⟨a, vs, rfl, h1, r1⟩ := vtup rx
      obtain ⟨b, ws, rfl, h2, r2⟩ := vtup ry
      have e1 := r1.length
      have e2 := r2.length
      refine .inr (.inr (.inr ⟨a, b, vs, ws, rfl, rfl, h1, h2, by have := line_ge; omega, fun e => ?_, fun _ e => ?_, fun _ _ p np => ?_⟩))
      · subst e
        have el : l = [] := List.eq_nil_of_length_eq_zero e1
        subst el
        exact q _ _ (Same.refl _) (by show Rep _ _ _ _; unfold Rep; exact ⟨b, ws, rfl, h2, r2⟩)
      · subst e
        have el : m = [] := List.eq_nil_of_length_eq_zero e2
        subst el
        exact q _ _ (Same.refl _) (by show Rep _ _ _ _; unfold Rep; rw [List.append_nil]; exact ⟨a, vs, rfl, h1, r1⟩)
      · exact q _ _ (same_new np) (by show Rep _ _ _ _; unfold Rep; exact ⟨p, _, rfl, .of upd_same, RepL.lasts (.same (same_new np)) (r1.append r2)⟩)
    · cases h
  · cases h
theorem de_add {a b : Expr} {fa fb : Ev} {pos : Pos} (ha : DE X cl a fa) (hb : DE X cl b fb) : DE X cl (.BinOp a .Add b pos) (eB gAdd fa fb) := de_bin op_addD (gAdd_ok (G := gx X cl)) ha hb

/-! ### other arithmetic -/
def gSub : D → D → Option A
  | .int i, .int j => some (.val (.int (i - j)))
  | _, _ => none
def gMul : D → D → Option A
  | .int i, .int j => if (-(2 ^ 64) < i ∧ i < 2 ^ 64) ∨ (-(2 ^ 64) < j ∧ j < 2 ^ 64) then some (.val (.int (i * j))) else none
  | _, _ => none
def gMod : D → D → Option A
  | .int i, .int j => if 0 < j then some (.val (.int (i % j))) else none
  | _, _ => none
def gDiv : D → D → Option A
  | .int i, .int j => if 0 < j ∧ j < 1073741824 then some (.val (.int (i / j))) else none
  | _, _ => none
theorem gSub_ok {G : Cg} : Op2 G (rI0 fun i j => .int (i - j)) gSub := by
  intro H x y v u c Q rx ry h q
  unfold gSub at h
  split at h
  · cases h
    rw [vint rx, vint ry]
    exact ⟨_, _, rfl, rfl, q _ _ (Same.refl _) nint⟩
  · cases h
theorem gMul_ok {G : Cg} : Op2 G (rI CMul fun i j => .int (i * j)) gMul := by
  intro H x y v u c Q rx ry h q
  unfold gMul at h
  split at h
  · split at h
    · rename_i hc
      cases h
      rw [vint rx, vint ry]
      exact ⟨_, _, rfl, rfl, hc, q _ _ (Same.refl _) nint⟩
    · cases h
  · cases h
theorem gMod_ok {G : Cg} : Op2 G (rI (fun _ j => 0 < j) fun i j => .int (i % j)) gMod := by
  intro H x y v u c Q rx ry h q
  unfold gMod at h
  split at h
  · split at h
    · rename_i hc
      cases h
      rw [vint rx, vint ry]
      exact ⟨_, _, rfl, rfl, hc, q _ _ (Same.refl _) nint⟩
    · cases h
  · cases h
theorem gDiv_ok {G : Cg} : Op2 G (rI CDiv fun i j => .int (i / j)) gDiv := by
  intro H x y v u c Q rx ry h q
  unfold gDiv at h
  split at h
  · split at h
    · rename_i hc
      cases h
      rw [vint rx, vint ry]
      exact ⟨_, _, rfl, rfl, hc, q _ _ (Same.refl _) nint⟩
    · cases h
  · cases h
theorem de_sub {a b : Expr} {fa fb : Ev} {pos : Pos} (ha : DE X cl a fa) (hb : DE X cl b fb) : DE X cl (.BinOp a .Sub b pos) (eB gSub fa fb) := de_bin op_sub gSub_ok ha hb
theorem de_mul {a b : Expr} {fa fb : Ev} {pos : Pos} (ha : DE X cl a fa) (hb : DE X cl b fb) : DE X cl (.BinOp a .Mult b pos) (eB gMul fa fb) := de_bin op_mul gMul_ok ha hb
theorem de_mod {a b : Expr} {fa fb : Ev} {pos : Pos} (ha : DE X cl a fa) (hb : DE X cl b fb) : DE X cl (.BinOp a .Mod b pos) (eB gMod fa fb) := de_bin op_mod gMod_ok ha hb
theorem de_fdiv {a b : Expr} {fa fb : Ev} {pos : Pos} (ha : DE X cl a fa) (hb : DE X cl b fb) : DE X cl (.BinOp a .FloorDiv b pos) (eB gDiv fa fb) := de_bin op_fdiv gDiv_ok ha hb
def gNeg : D → Option A
  | .int i => some (.val (.int (-i)))
  | _ => none
theorem de_neg {a : Expr} {fa : Ev} {pos : Pos} (ha : DE X cl a fa) : DE X cl (.UnaryOp .USub a pos) (eU gNeg fa) := de_un un_neg (by
  intro H x v c Q rx h q
  unfold gNeg at h
  split at h
  · cases h
    rw [vint rx]
    exact ⟨_, rfl, q _ _ (Same.refl _) nint⟩
  · cases h) ha

/-! ### order -/
def gCmp (f : Int → Int → Bool) (g : Str → Str → Bool) : D → D → Option A
  | .int i, .int j => some (.val (.bl (f i j)))
  | .str x, .str y => some (.val (.bl (g x y)))
  | _, _ => none
def rCmp (f : Int → Int → Bool) (g : Str → Str → Bool) : R2 := fun x y H Q => (rI0 (fun i j => .bl (f i j))) x y H Q ∨ ∃ i j, x = .str i ∧ y = .str j ∧ Q (.bl (g i j)) H
theorem gCmp_ok {G : Cg} {f : Int → Int → Bool} {g : Str → Str → Bool} : Op2 G (rCmp f g) (gCmp f g) := by
  intro H x y v u c Q rx ry h q
  unfold gCmp at h
  split at h
  · cases h
    rw [vint rx, vint ry]
    exact .inl ⟨_, _, rfl, rfl, q _ _ (Same.refl _) nbl⟩
  · cases h
    rw [(vstr rx).1, (vstr ry).1]
    exact .inr ⟨_, _, rfl, rfl, q _ _ (Same.refl _) nbl⟩
  · cases h
def strLt (x y : Str) : Bool := decide (x.cps.toList < y.cps.toList)
abbrev gLt := gCmp (fun i j => decide (i < j)) strLt
abbrev gLe := gCmp (fun i j => decide (i ≤ j)) (fun x y => !strLt y x)
abbrev gGt := gCmp (fun i j => decide (j < i)) (fun x y => strLt y x)
abbrev gGe := gCmp (fun i j => decide (j ≤ i)) (fun x y => !strLt x y)
theorem op_ltD : OpR X (compareOp .Lt) (rCmp (fun i j => decide (i < j)) strLt) := op_lt.or op_lt_str
theorem op_leD : OpR X (compareOp .LtE) (rCmp (fun i j => decide (i ≤ j)) (fun x y => !strLt y x)) := op_le.or op_le_str
theorem op_gtD : OpR X (compareOp .Gt) (rCmp (fun i j => decide (j < i)) (fun x y => strLt y x)) := op_gt.or op_gt_str
theorem op_geD : OpR X (compareOp .GtE) (rCmp (fun i j => decide (j ≤ i)) (fun x y => !strLt x y)) := op_ge.or op_ge_str
theorem de_lt {a b : Expr} {fa fb : Ev} {pos : Pos} (ha : DE X cl a fa) (hb : DE X cl b fb) : DE X cl (.Compare a [.Lt] [b] pos) (eB gLt fa fb) := de_cmp op_ltD gCmp_ok (nomark _) ha hb
theorem de_le {a b : Expr} {fa fb : Ev} {pos : Pos} (ha : DE X cl a fa) (hb : DE X cl b fb) : DE X cl (.Compare a [.LtE] [b] pos) (eB gLe fa fb) := de_cmp op_leD gCmp_ok (nomark _) ha hb
theorem de_gt {a b : Expr} {fa fb : Ev} {pos : Pos} (ha : DE X cl a fa) (hb : DE X cl b fb) : DE X cl (.Compare a [.Gt] [b] pos) (eB gGt fa fb) := de_cmp op_gtD gCmp_ok (nomark _) ha hb
theorem de_ge {a b : Expr} {fa fb : Ev} {pos : Pos} (ha : DE X cl a fa) (hb : DE X cl b fb) : DE X cl (.Compare a [.GtE] [b] pos) (eB gGe fa fb) := de_cmp op_geD gCmp_ok (nomark _) ha hb
theorem dt_lt {a b : Expr} {fa fb : Ev} {pos : Pos} (ha : DE X cl a fa) (hb : DE X cl b fb) : DT X cl (.Compare a [.Lt] [b] pos) (eTest (eB gLt fa fb)) := dt_cmp op_ltD gCmp_ok (nomark _) ha hb
theorem dt_le {a b : Expr} {fa fb : Ev} {pos : Pos} (ha : DE X cl a fa) (hb : DE X cl b fb) : DT X cl (.Compare a [.LtE] [b] pos) (eTest (eB gLe fa fb)) := dt_cmp op_leD gCmp_ok (nomark _) ha hb
theorem dt_gt {a b : Expr} {fa fb : Ev} {pos : Pos} (ha : DE X cl a fa) (hb : DE X cl b fb) : DT X cl (.Compare a [.Gt] [b] pos) (eTest (eB gGt fa fb)) := dt_cmp op_gtD gCmp_ok (nomark _) ha hb
theorem dt_ge {a b : Expr} {fa fb : Ev} {pos : Pos} (ha : DE X cl a fa) (hb : DE X cl b fb) : DT X cl (.Compare a [.GtE] [b] pos) (eTest (eB gGe fa fb)) := dt_cmp op_geD gCmp_ok (nomark _) ha hb
end

/-! ### == -/
mutual
def toP : D → PyData
  | .non => .none
  | .bl b => .bool b
  | .int i => .int i
  | .str x => .str x
  | .tup l => .tuple (toPs l)
  | .lst l => .list (toPs l)
  | .dct _ _ => .dict []
  | .obj _ _ _ => .dict []
  | .exc _ _ _ => .dict []
def toPs : List D → List PyData
  | [] => []
  | d :: l => toP d :: toPs l
end
mutual
def plain : D → Bool
  | .tup l => plains l
  | .lst l => plains l
  | .dct _ _ => false
  | .obj _ _ _ => false
  | .exc _ _ _ => false
  | _ => true
def plains : List D → Bool
  | [] => true
  | d :: l => plain d && plains l
end
mutual
def dep : D → Nat
  | .tup l => deps l + 1
  | .lst l => deps l + 1
  | _ => 0
def deps : List D → Nat
  | [] => 0
  | d :: l => max (dep d) (deps l)
end
mutual
def eqD : D → D → Bool
  | .non, .non => true
  | .bl a, .bl b => a == b
  | .bl a, .int j => (if a then 1 else 0) == j
  | .int i, .bl b => i == (if b then 1 else 0)
  | .int i, .int j => i == j
  | .str x, .str y => x == y
  | .lst xs, .lst ys => eqDs xs ys
  | .tup xs, .tup ys => eqDs xs ys
  | _, _ => false
def eqDs : List D → List D → Bool
  | [], [] => true
  | x :: xs, y :: ys => eqD x y && eqDs xs ys
  | _, _ => false
end
mutual
theorem dep_toP : ∀ {d : D}, plain d = true → (toP d).depth = dep d
  | .non, _ => by simp [toP, PyData.depth, dep]
  | .bl _, _ => by simp [toP, PyData.depth, dep]
  | .int _, _ => by simp [toP, PyData.depth, dep]
  | .str _, _ => by simp [toP, PyData.depth, dep]
  | .tup l, h => by
    unfold plain at h
    simp [toP, PyData.depth, dep, deps_toPs h]
  | .lst l, h => by
    unfold plain at h
    simp [toP, PyData.depth, dep, deps_toPs h]
  | .dct _ _, h => by simp [plain] at h
  | .obj _ _ _, h => by simp [plain] at h
  | .exc _ _ _, h => by simp [plain] at h
theorem deps_toPs : ∀ {l : List D}, plains l = true → PyData.depthAll (toPs l) = deps l
  | [], _ => by simp [toPs, PyData.depthAll, deps]
  | d :: l, h => by
    unfold plains at h
    rw [Bool.and_eq_true] at h
    simp [toPs, PyData.depthAll, deps, dep_toP h.1, deps_toPs h.2]
end
mutual
theorem eqv_toP : ∀ {d e : D}, plain d = true → plain e = true → PyData.eqv (toP d) (toP e) = eqD d e
  | .tup xs, .tup ys, h, k => by
    unfold plain at h k
    simp [toP, PyData.eqv, eqD, eqvs_toPs h k]
  | .lst xs, .lst ys, h, k => by
    unfold plain at h k
    simp [toP, PyData.eqv, eqD, eqvs_toPs h k]
  | .dct _ _, _, h, _ => by simp [plain] at h
  | .obj _ _ _, _, h, _ => by simp [plain] at h
  | .exc _ _ _, _, h, _ => by simp [plain] at h
  | _, .dct _ _, _, h => by simp [plain] at h
  | _, .obj _ _ _, _, h => by simp [plain] at h
  | _, .exc _ _ _, _, h => by simp [plain] at h
  | .non, .non, _, _ => by simp [toP, PyData.eqv, eqD]
  | .non, .bl _, _, _ => by simp [toP, PyData.eqv, eqD]
  | .non, .int _, _, _ => by simp [toP, PyData.eqv, eqD]
  | .non, .str _, _, _ => by simp [toP, PyData.eqv, eqD]
  | .non, .lst _, _, _ => by simp [toP, PyData.eqv, eqD]
  | .non, .tup _, _, _ => by simp [toP, PyData.eqv, eqD]
  | .bl _, .non, _, _ => by simp [toP, PyData.eqv, eqD]
  | .bl _, .bl _, _, _ => by simp [toP, PyData.eqv, eqD]
  | .bl _, .int _, _, _ => by simp [toP, PyData.eqv, eqD]
  | .bl _, .str _, _, _ => by simp [toP, PyData.eqv, eqD]
  | .bl _, .lst _, _, _ => by simp [toP, PyData.eqv, eqD]
  | .bl _, .tup _, _, _ => by simp [toP, PyData.eqv, eqD]
  | .int _, .non, _, _ => by simp [toP, PyData.eqv, eqD]
  | .int _, .bl _, _, _ => by simp [toP, PyData.eqv, eqD]
  | .int _, .int _, _, _ => by simp [toP, PyData.eqv, eqD]
  | .int _, .str _, _, _ => by simp [toP, PyData.eqv, eqD]
  | .int _, .lst _, _, _ => by simp [toP, PyData.eqv, eqD]
  | .int _, .tup _, _, _ => by simp [toP, PyData.eqv, eqD]
  | .str _, .non, _, _ => by simp [toP, PyData.eqv, eqD]
  | .str _, .bl _, _, _ => by simp [toP, PyData.eqv, eqD]
  | .str _, .int _, _, _ => by simp [toP, PyData.eqv, eqD]
  | .str _, .str _, _, _ => by simp [toP, PyData.eqv, eqD]
  | .str _, .lst _, _, _ => by simp [toP, PyData.eqv, eqD]
  | .str _, .tup _, _, _ => by simp [toP, PyData.eqv, eqD]
  | .lst _, .non, _, _ => by simp [toP, PyData.eqv, eqD]
  | .lst _, .bl _, _, _ => by simp [toP, PyData.eqv, eqD]
  | .lst _, .int _, _, _ => by simp [toP, PyData.eqv, eqD]
  | .lst _, .str _, _, _ => by simp [toP, PyData.eqv, eqD]
  | .lst _, .tup _, _, _ => by simp [toP, PyData.eqv, eqD]
  | .tup _, .non, _, _ => by simp [toP, PyData.eqv, eqD]
  | .tup _, .bl _, _, _ => by simp [toP, PyData.eqv, eqD]
  | .tup _, .int _, _, _ => by simp [toP, PyData.eqv, eqD]
  | .tup _, .str _, _, _ => by simp [toP, PyData.eqv, eqD]
  | .tup _, .lst _, _, _ => by simp [toP, PyData.eqv, eqD]
theorem eqvs_toPs : ∀ {l m : List D}, plains l = true → plains m = true → PyData.eqvAll (toPs l) (toPs m) = eqDs l m
  | [], [], _, _ => by simp [toPs, PyData.eqvAll, eqDs]
  | [], _ :: _, _, _ => by simp [toPs, PyData.eqvAll, eqDs]
  | _ :: _, [], _, _ => by simp [toPs, PyData.eqvAll, eqDs]
  | d :: l, e :: m, h, k => by
    unfold plains at h k
    rw [Bool.and_eq_true] at h k
    simp [toPs, PyData.eqvAll, eqDs, eqv_toP h.1 k.1, eqvs_toPs h.2 k.2]
end
section
variable {G : Cg} {H : Hp}
mutual
theorem dp_of : ∀ {d : D} {v : V}, Rep G H d v → plain d = true → Dp G.K H v (toP d) ∧ (toP d).canLay0 = true
  | .non, v, h, _ => by
    unfold Rep at h; subst h; unfold toP
    exact ⟨.non, by simp [PyData.canLay0]⟩
  | .bl b, v, h, _ => by
    unfold Rep at h; subst h; unfold toP
    exact ⟨.bl b, by simp [PyData.canLay0]⟩
  | .int i, v, h, _ => by
    unfold Rep at h; subst h; unfold toP
    exact ⟨.int i, by simp [PyData.canLay0]⟩
  | .str x, v, h, _ => by
    unfold Rep at h
    obtain ⟨rfl, o⟩ := h
    unfold toP
    exact ⟨.str x, by simp [PyData.canLay0, o]⟩
  | .tup l, v, h, p => by
    unfold Rep at h
    obtain ⟨a, vs, rfl, q, r⟩ := h
    unfold plain at p
    obtain ⟨h1, h2⟩ := dps_of r p
    unfold toP
    exact ⟨.tup q h1, by simp [PyData.canLay0, h2]⟩
  | .lst l, v, h, p => by
    unfold Rep at h
    obtain ⟨a, vs, rfl, q, r⟩ := h
    unfold plain at p
    obtain ⟨h1, h2⟩ := dps_of r p
    unfold toP
    exact ⟨.lst q.sq h1, by simp [PyData.canLay0, h2]⟩
  | .dct _ _, _, _, p => by simp [plain] at p
  | .obj _ _ _, _, _, p => by simp [plain] at p
  | .exc _ _ _, _, _, p => by simp [plain] at p
theorem dps_of : ∀ {l : List D} {vs : List V}, RepL G H l vs → plains l = true → DpAll G.K H vs (toPs l) ∧ PyData.canLayAll0 (toPs l) = true
  | [], vs, h, _ => by
    unfold RepL at h; subst h; unfold toPs
    exact ⟨.nil, by simp [PyData.canLayAll0]⟩
  | d :: l, vs, h, p => by
    unfold RepL at h
    obtain ⟨v, ws, rfl, r, t⟩ := h
    unfold plains at p
    rw [Bool.and_eq_true] at p
    obtain ⟨h1, h2⟩ := dp_of r p.1
    obtain ⟨h3, h4⟩ := dps_of t p.2
    unfold toPs
    exact ⟨.cons h1 h3, by simp [PyData.canLayAll0, h2, h4]⟩
end
theorem dpv_of {d : D} {v : V} (h : VRep G H d v) (p : plain d = true) : Dp G.K H v (toP d) ∧ (toP d).canLay0 = true := by
  cases d with
  | lst l =>
    obtain ⟨a, vs, rfl, q, r⟩ := h
    unfold plain at p
    obtain ⟨h1, h2⟩ := dps_of r p
    unfold toP
    exact ⟨.lst q h1, by simp [PyData.canLay0, h2]⟩
  | _ => exact dp_of h p
end
def gEq : D → D → Option A := fun x y => if plain x && plain y && decide (min (dep x) (dep y) ≤ 60) then some (.val (.bl (eqD x y))) else none
def gNe : D → D → Option A := fun x y => if plain x && plain y && decide (min (dep x) (dep y) ≤ 60) then some (.val (.bl (!eqD x y))) else none
def rEqM (K : PySem.W.Frag) (neg : Bool) : R2 := fun x y H Q => ∃ d e, Dp K H x d ∧ Dp K H y e ∧ d.canLay0 = true ∧ e.canLay0 = true ∧ min d.depth e.depth ≤ 60 ∧ Q (.bl (if neg then !PyData.eqv d e else PyData.eqv d e)) H
section
variable {X : Cx} {cl : Nat → Addr}
theorem op_eqM (hu : X.A.units + 64 < cLine) : OpR X (compareOp .Eq) (rEqM X.K false) := by
  intro pins s σ H x y v u Q I rx ry h
  obtain ⟨d, e, hd, he, sd, se, hl, q⟩ := h
  obtain ⟨as, r1⟩ := Dp.reads I d x v hd rx
  obtain ⟨bs, r2⟩ := Dp.reads I e y u he ry
  exact SeqAt.compareEq_reads r1 r2 sd se (by omega) ⟨.bl _, H, I, rfl, q⟩
theorem op_neM (hu : X.A.units + 64 < cLine) : OpR X (compareOp .NotEq) (rEqM X.K true) := by
  intro pins s σ H x y v u Q I rx ry h
  obtain ⟨d, e, hd, he, sd, se, hl, q⟩ := h
  obtain ⟨as, r1⟩ := Dp.reads I d x v hd rx
  obtain ⟨bs, r2⟩ := Dp.reads I e y u he ry
  exact SeqAt.compareNe_reads r1 r2 sd se (by omega) ⟨.bl _, H, I, rfl, q⟩
theorem gEq_ok {G : Cg} : Op2 G (rEqM G.K false) gEq := by
  intro H x y v u c Q rx ry h q
  unfold gEq at h
  split at h
  · rename_i hc
    cases h
    simp only [Bool.and_eq_true, decide_eq_true_eq] at hc
    obtain ⟨h1, c1⟩ := dpv_of rx hc.1.1
    obtain ⟨h2, c2⟩ := dpv_of ry hc.1.2
    refine ⟨_, _, h1, h2, c1, c2, by rw [dep_toP hc.1.1, dep_toP hc.1.2]; exact hc.2, ?_⟩
    rw [eqv_toP hc.1.1 hc.1.2]
    exact q _ _ (Same.refl _) nbl
  · cases h
theorem gNe_ok {G : Cg} : Op2 G (rEqM G.K true) gNe := by
  intro H x y v u c Q rx ry h q
  unfold gNe at h
  split at h
  · rename_i hc
    cases h
    simp only [Bool.and_eq_true, decide_eq_true_eq] at hc
    obtain ⟨h1, c1⟩ := dpv_of rx hc.1.1
    obtain ⟨h2, c2⟩ := dpv_of ry hc.1.2
    refine ⟨_, _, h1, h2, c1, c2, by rw [dep_toP hc.1.1, dep_toP hc.1.2]; exact hc.2, ?_⟩
    rw [eqv_toP hc.1.1 hc.1.2]
    exact q _ _ (Same.refl _) nbl
  · cases h
theorem de_eq {a b : Expr} {fa fb : Ev} {pos : Pos} (hu : X.A.units + 64 < cLine) (ha : DE X cl a fa) (hb : DE X cl b fb) : DE X cl (.Compare a [.Eq] [b] pos) (eB gEq fa fb) := de_cmp (op_eqM hu) gEq_ok (nomark _) ha hb
theorem de_ne {a b : Expr} {fa fb : Ev} {pos : Pos} (hu : X.A.units + 64 < cLine) (ha : DE X cl a fa) (hb : DE X cl b fb) : DE X cl (.Compare a [.NotEq] [b] pos) (eB gNe fa fb) := de_cmp (op_neM hu) gNe_ok (nomark _) ha hb
theorem dt_eq {a b : Expr} {fa fb : Ev} {pos : Pos} (hu : X.A.units + 64 < cLine) (ha : DE X cl a fa) (hb : DE X cl b fb) : DT X cl (.Compare a [.Eq] [b] pos) (eTest (eB gEq fa fb)) := dt_cmp (op_eqM hu) gEq_ok (nomark _) ha hb
theorem dt_ne {a b : Expr} {fa fb : Ev} {pos : Pos} (hu : X.A.units + 64 < cLine) (ha : DE X cl a fa) (hb : DE X cl b fb) : DT X cl (.Compare a [.NotEq] [b] pos) (eTest (eB gNe fa fb)) := dt_cmp (op_neM hu) gNe_ok (nomark _) ha hb

/-! ### in -/
def inS (x y : Str) : Bool := !(Builtin.Str.occurrences y x 0 y.length 1).isEmpty
def gIn : D → D → Option A := fun x y => match y with
  | .str b => (match x with
    | .str a => some (.val (.bl (inS a b)))
    | _ => none)
  | .lst l => if plain x && plains l && decide (min (deps l) (dep x) ≤ 60) then some (.val (.bl (l.any (eqD · x)))) else none
  | .tup l => if plain x && plains l && decide (min (deps l) (dep x) ≤ 60) then some (.val (.bl (l.any (eqD · x)))) else none
  | _ => none
def gNotIn : D → D → Option A := fun x y => match y with
  | .str b => (match x with
    | .str a => some (.val (.bl (!inS a b)))
    | _ => none)
  | .lst l => if plain x && plains l && decide (min (deps l) (dep x) ≤ 60) then some (.val (.bl (!l.any (eqD · x)))) else none
  | .tup l => if plain x && plains l && decide (min (deps l) (dep x) ≤ 60) then some (.val (.bl (!l.any (eqD · x)))) else none
  | _ => none
def rInM (K : PySem.W.Frag) (f : Bool → Bool) : R2 := fun x y H Q => (∃ i j, x = .str i ∧ y = .str j ∧ Q (.bl (f (inS i j))) H) ∨
  ∃ d ds, (Dp K H y (.list ds) ∨ Dp K H y (.tuple ds)) ∧ Dp K H x d ∧ d.canLay0 = true ∧ PyData.canLayAll0 ds = true ∧ min (PyData.depthAll ds) d.depth ≤ 60 ∧ Q (.bl (f (ds.any fun z => PyData.eqv z d))) H
theorem op_inM (hu : X.A.units + 64 < cLine) : OpR X (compareOp .In) (rInM X.K id) := by
  intro pins s σ H x y v u Q I rx ry h
  rcases h with ⟨i, j, rfl, rfl, q⟩ | ⟨d, ds, hy, hx, c1, c2, hl, q⟩
  · exact op_in_str pins s σ H _ _ v u Q I rx ry ⟨i, j, rfl, rfl, q⟩
  · obtain ⟨as, r1⟩ := Dp.reads I d x v hx rx
    rcases hy with hy | hy
    · obtain ⟨bs, r2⟩ := Dp.reads I _ y u hy ry
      exact SeqAt.in_list_reads r2 r1 (by simp [PyData.canLay0, c2]) c1 (by omega) ⟨.bl _, H, I, rfl, q⟩
    · obtain ⟨bs, r2⟩ := Dp.reads I _ y u hy ry
      exact SeqAt.in_tuple_reads r2 r1 (by simp [PyData.canLay0, c2]) c1 (by omega) ⟨.bl _, H, I, rfl, q⟩
theorem op_notInM (hu : X.A.units + 64 < cLine) : OpR X (compareOp .NotIn) (rInM X.K not) := by
  intro pins s σ H x y v u Q I rx ry h
  rcases h with ⟨i, j, rfl, rfl, q⟩ | ⟨d, ds, hy, hx, c1, c2, hl, q⟩
  · exact op_notIn_str pins s σ H _ _ v u Q I rx ry ⟨i, j, rfl, rfl, q⟩
  · obtain ⟨as, r1⟩ := Dp.reads I d x v hx rx
    rcases hy with hy | hy
    · obtain ⟨bs, r2⟩ := Dp.reads I _ y u hy ry
      exact SeqAt.notIn_list_reads r2 r1 (by simp [PyData.canLay0, c2]) c1 (by omega) ⟨.bl _, H, I, rfl, q⟩
    · obtain ⟨bs, r2⟩ := Dp.reads I _ y u hy ry
      exact SeqAt.notIn_tuple_reads r2 r1 (by simp [PyData.canLay0, c2]) c1 (by omega) ⟨.bl _, H, I, rfl, q⟩
theorem any_toPs {d : D} (p : plain d = true) : ∀ {l : List D}, plains l = true → ((toPs l).any fun z => PyData.eqv z (toP d)) = l.any (eqD · d)
  | [], _ => rfl
  | x :: l, h => by
    unfold plains at h
    rw [Bool.and_eq_true] at h
    unfold toPs
    rw [List.any_cons, List.any_cons, eqv_toP h.1 p, any_toPs p h.2]
theorem in_of {G : Cg} {H : Hp} {f : Bool → Bool} {x : D} {l : List D} {v u : V} {Q : VK} (rx : VRep G H x v) (hy : (∃ a vs, u = V.ref a ∧ SqL G.K H a vs ∧ RepL G H l vs) ∨ ∃ a vs, u = V.ref a ∧ SqT G.K H a vs ∧ RepL G H l vs)
    (hc : (plain x && plains l && decide (min (deps l) (dep x) ≤ 60)) = true) (q : Q (.bl (f (l.any (eqD · x)))) H) : rInM G.K f v u H Q := by
  simp only [Bool.and_eq_true, decide_eq_true_eq] at hc
  obtain ⟨h1, c1⟩ := dpv_of rx hc.1.1
  refine .inr ⟨toP x, toPs l, ?_, h1, c1, ?_, by rw [dep_toP hc.1.1, deps_toPs hc.1.2]; exact hc.2, by rw [any_toPs hc.1.1 hc.1.2]; exact q⟩
  · rcases hy with ⟨a, vs, rfl, h2, r⟩ | ⟨a, vs, rfl, h2, r⟩
    · exact .inl (.lst h2 (dps_of r hc.1.2).1)
    · exact .inr (.tup h2 (dps_of r hc.1.2).1)
  · rcases hy with ⟨a, vs, rfl, h2, r⟩ | ⟨a, vs, rfl, h2, r⟩ <;> exact (dps_of r hc.1.2).2
theorem gIn_ok {G : Cg} : Op2 G (rInM G.K id) gIn := by
  intro H x y v u c Q rx ry h q
  unfold gIn at h
  split at h
  · split at h
    · cases h
      rw [(vstr rx).1, (vstr ry).1]
      exact .inl ⟨_, _, rfl, rfl, q _ _ (Same.refl _) nbl⟩
    · cases h
  · split at h
    · rename_i hc
      cases h
      exact in_of rx (.inl (vlst ry)) hc (q _ _ (Same.refl _) nbl)
    · cases h
  · split at h
    · rename_i hc
      cases h
      exact in_of rx (.inr (vtup ry)) hc (q _ _ (Same.refl _) nbl)
    · cases h
  · cases h
theorem gNotIn_ok {G : Cg} : Op2 G (rInM G.K not) gNotIn := by
  intro H x y v u c Q rx ry h q
  unfold gNotIn at h
  split at h
  · split at h
    · cases h
      rw [(vstr rx).1, (vstr ry).1]
      exact .inl ⟨_, _, rfl, rfl, q _ _ (Same.refl _) nbl⟩
    · cases h
  · split at h
    · rename_i hc
      cases h
      exact in_of rx (.inl (vlst ry)) hc (q _ _ (Same.refl _) nbl)
    · cases h
  · split at h
    · rename_i hc
      cases h
      exact in_of rx (.inr (vtup ry)) hc (q _ _ (Same.refl _) nbl)
    · cases h
  · cases h
theorem de_in {a b : Expr} {fa fb : Ev} {pos : Pos} (hu : X.A.units + 64 < cLine) (ha : DE X cl a fa) (hb : DE X cl b fb) (hm : behindInMarks .In b = false := by rfl) : DE X cl (.Compare a [.In] [b] pos) (eB gIn fa fb) := de_cmp (op_inM hu) gIn_ok hm ha hb
theorem de_notIn {a b : Expr} {fa fb : Ev} {pos : Pos} (hu : X.A.units + 64 < cLine) (ha : DE X cl a fa) (hb : DE X cl b fb) (hm : behindInMarks .NotIn b = false := by rfl) : DE X cl (.Compare a [.NotIn] [b] pos) (eB gNotIn fa fb) := de_cmp (op_notInM hu) gNotIn_ok hm ha hb
theorem dt_in {a b : Expr} {fa fb : Ev} {pos : Pos} (hu : X.A.units + 64 < cLine) (ha : DE X cl a fa) (hb : DE X cl b fb) (hm : behindInMarks .In b = false := by rfl) : DT X cl (.Compare a [.In] [b] pos) (eTest (eB gIn fa fb)) := dt_cmp (op_inM hu) gIn_ok hm ha hb
theorem dt_notIn {a b : Expr} {fa fb : Ev} {pos : Pos} (hu : X.A.units + 64 < cLine) (ha : DE X cl a fa) (hb : DE X cl b fb) (hm : behindInMarks .NotIn b = false := by rfl) : DT X cl (.Compare a [.NotIn] [b] pos) (eTest (eB gNotIn fa fb)) := dt_cmp (op_notInM hu) gNotIn_ok hm ha hb

/-! ### is None -/
def isNon : D → Bool
  | .non => true
  | _ => false
def gIsN : D → D → Option A := fun x y => match y with
  | .non => some (.val (.bl (isNon x)))
  | _ => none
def gNotN : D → D → Option A := fun x y => match y with
  | .non => some (.val (.bl (!isNon x)))
  | _ => none
theorem rep_non {G : Cg} {H : Hp} {x : D} {v : V} (r : VRep G H x v) : decide (v = .non) = isNon x := by
  cases x with
  | non => rw [vnon r]; rfl
  | bl b => rw [vbl r]; rfl
  | int i => rw [vint r]; rfl
  | str y => rw [(vstr r).1]; rfl
  | lst l => obtain ⟨a, vs, rfl, _⟩ := vlst r; rfl
  | tup l => obtain ⟨a, vs, rfl, _⟩ := vtup r; rfl
  | dct ks l =>
    have r : Rep G H (.dct ks l) v := r
    unfold Rep at r
    obtain ⟨a, _, rfl, _⟩ := r; rfl
  | obj c ns l =>
    have r : Rep G H (.obj c ns l) v := r
    unfold Rep at r
    obtain ⟨a, _, _, rfl, _⟩ := r; rfl
  | exc c ns l =>
    have r : Rep G H (.exc c ns l) v := r
    unfold Rep at r
    obtain ⟨a, _, _, rfl, _⟩ := r; rfl
theorem gIsN_ok {G : Cg} : Op2 G (fun x y H Q => y = .non ∧ Q (.bl (decide (x = .non))) H) gIsN := by
  intro H x y v u c Q rx ry h q
  unfold gIsN at h
  split at h
  · cases h
    refine ⟨vnon ry, ?_⟩
    rw [rep_non rx]
    exact q _ _ (Same.refl _) nbl
  · cases h
theorem gNotN_ok {G : Cg} : Op2 G (fun x y H Q => y = .non ∧ Q (.bl (!decide (x = .non))) H) gNotN := by
  intro H x y v u c Q rx ry h q
  unfold gNotN at h
  split at h
  · cases h
    refine ⟨vnon ry, ?_⟩
    rw [rep_non rx]
    exact q _ _ (Same.refl _) nbl
  · cases h
theorem de_isN {a b : Expr} {fa fb : Ev} {pos : Pos} (ha : DE X cl a fa) (hb : DE X cl b fb) : DE X cl (.Compare a [.Is] [b] pos) (eB gIsN fa fb) := de_cmp op_isN gIsN_ok (nomark _) ha hb
theorem de_notN {a b : Expr} {fa fb : Ev} {pos : Pos} (ha : DE X cl a fa) (hb : DE X cl b fb) : DE X cl (.Compare a [.IsNot] [b] pos) (eB gNotN fa fb) := de_cmp op_notN gNotN_ok (nomark _) ha hb
theorem dt_isN {a b : Expr} {fa fb : Ev} {pos : Pos} (ha : DE X cl a fa) (hb : DE X cl b fb) : DT X cl (.Compare a [.Is] [b] pos) (eTest (eB gIsN fa fb)) := dt_cmp op_isN gIsN_ok (nomark _) ha hb
theorem dt_notN {a b : Expr} {fa fb : Ev} {pos : Pos} (ha : DE X cl a fa) (hb : DE X cl b fb) : DT X cl (.Compare a [.IsNot] [b] pos) (eTest (eB gNotN fa fb)) := dt_cmp op_notN gNotN_ok (nomark _) ha hb

/-! ### items -/
def gIx : D → D → Option A := fun x y => match y with
  | .int i => (match x with
    | .lst l => (match atI l i with
      | some d => some (.val d)
      | none => none)
    | .tup l => (match atI l i with
      | some d => some (.val d)
      | none => none)
    | .str z => if z.length ≤ 1000000 then (match atI z.cps.toList i with
      | some c => some (.val (.str ⟨#[c]⟩))
      | none => none) else none
    | _ => none)
  | _ => none
theorem repL_atI {G : Cg} {H : Hp} {l : List D} {vs : List V} {i : Int} {d : D} (r : RepL G H l vs) (h : atI l i = some d) : ∃ v, atI vs i = some v ∧ Rep G H d v := by
  unfold atI at h ⊢
  rw [← r.length]
  cases e : ixN l.length i with
  | none => rw [e] at h; cases h
  | some j =>
    rw [e] at h
    obtain ⟨v, h1, h2⟩ := r.get (show l[j]? = some d from h)
    exact ⟨v, h1, h2⟩
theorem strOk_at {z : Str} {i : Int} {c : Nat} (o : PyData.strOk z = true) (h : atI z.cps.toList i = some c) : PyData.strOk ⟨#[c]⟩ = true := by
  unfold atI at h
  cases e : ixN z.cps.toList.length i with
  | none => rw [e] at h; cases h
  | some j =>
    rw [e] at h
    have hm : c ∈ z.cps.toList := List.mem_of_getElem? (show z.cps.toList[j]? = some c from h)
    unfold PyData.strOk at o ⊢
    have o2 : z.cps.toList.all (· < 0x110000) = true := by simpa using o
    have := List.all_eq_true.mp o2 c hm
    simpa using this
theorem gIx_ok {G : Cg} : Op2 G (rIx G.K) gIx := by
  intro H x y v u c Q rx ry h q
  unfold gIx at h
  split at h
  · rename_i i
    split at h
    · rename_i l
      split at h
      · rename_i d hd
        cases h
        obtain ⟨a, vs, rfl, h1, r⟩ := vlst rx
        obtain ⟨w, h2, r2⟩ := repL_atI r hd
        exact .inl ⟨a, vs, i, w, rfl, vint ry, h1, h2, q _ _ (Same.refl _) r2⟩
      · cases h
    · rename_i l
      split at h
      · rename_i d hd
        cases h
        obtain ⟨a, vs, rfl, h1, r⟩ := vtup rx
        obtain ⟨w, h2, r2⟩ := repL_atI r hd
        exact .inr (.inl ⟨a, vs, i, w, rfl, vint ry, h1, h2, q _ _ (Same.refl _) r2⟩)
      · cases h
    · rename_i z
      split at h
      · rename_i hl
        split at h
        · rename_i k hk
          cases h
          obtain ⟨rfl, o⟩ := vstr rx
          exact .inr (.inr ⟨z, i, k, rfl, vint ry, Nat.le_trans hl (Nat.le_of_lt line_ge), hk, q _ _ (Same.refl _) (nstr (strOk_at o hk))⟩)
        · cases h
      · cases h
    · cases h
  · cases h
theorem de_item {a b : Expr} {fa fb : Ev} {pos : Pos} (ha : DE X cl a fa) (hb : DE X cl b fb) (hs : PlainIx b := by intro _ _; rfl) : DE X cl (.Subscript a b pos) (eB gIx fa fb) := de_ix ix_seq gIx_ok hs ha hb

/-! ### len -/
def gLen : List D → Option A
  | [.lst l] => some (.val (.int l.length))
  | [.tup l] => some (.val (.int l.length))
  | [.str z] => if z.length ≤ 1000000 then some (.val (.int z.length)) else none
  | _ => none
def rLenM (K : PySem.W.Frag) : List V → Hp → VK → Prop := fun xs H Q => (∃ p ys, xs = [.ref p] ∧ (SqL K H p ys ∨ SqT K H p ys) ∧ Q (.int ys.length) H) ∨ ∃ z, xs = [.str z] ∧ z.length ≤ sizeLine ∧ Q (.int z.length) H
theorem call_lenM : CallR X (.builtin "len") (rLenM X.K) := call_len_seq.or call_len_str
theorem gLen_ok {G : Cg} : OpV G (rLenM G.K) gLen := by
  intro H l vs c Q r h q
  unfold gLen at h
  split at h
  · cases h
    cases r with
    | cons r1 t =>
      cases t
      obtain ⟨a, vs, rfl, h1, r2⟩ := vlst r1
      exact .inl ⟨a, vs, rfl, .inl h1, by rw [← r2.length]; exact q _ _ (Same.refl _) nint⟩
  · cases h
    cases r with
    | cons r1 t =>
      cases t
      obtain ⟨a, vs, rfl, h1, r2⟩ := vtup r1
      exact .inl ⟨a, vs, rfl, .inr h1, by rw [← r2.length]; exact q _ _ (Same.refl _) nint⟩
  · split at h
    · rename_i hl
      cases h
      cases r with
      | cons r1 t =>
        cases t
        obtain ⟨rfl, o⟩ := vstr r1
        exact .inr ⟨_, rfl, Nat.le_trans hl (Nat.le_of_lt line_ge), q _ _ (Same.refl _) nint⟩
    · cases h
  · cases h
theorem de_len {e : Expr} {f : S → Option (Res (List A))} {p pos : Pos} (hm : X.mg "len" = none) (ha : DB X cl [e] f) (hgl : Gl X "len" := by rfl) (he : starEach [e] X.env = [(false, eval e X.env)] := by rfl) (hpl : (backTo pos (starEach [] X.env)).any (·.1) = false := by rfl) : DE X cl (.Call (.Name "len" p) [e] [] pos) (eNB gLen f) :=
  de_callB call_lenM gLen_ok hm ha hgl PySem.boot_len (by decide) (by decide) he hpl
end
end Fm

/-! Fm.I: boxes and lists of one's own changed. -/
namespace Fm
open PySem PySem.Spec PyProof.Rows L2

section
variable {G : Cg}
/-- a box that is a list is changed -/
theorem After.setBox {z z' : Z} (x : After G z z') {n : Nat} {p : Addr} {vs vs' : List V} {l' : List D} (hn : z'.T[n]? = some p) (hp : z'.H p = some (.lst vs)) (r : RepL G z'.H l' vs') :
    After G z ⟨z'.T, { z'.ρ with bx := z'.ρ.bx.set n (.lst l') }, z'.σ, upd z'.H p (.lst vs')⟩ := by
  have la : Lasts z'.H (upd z'.H p (.lst vs')) := upd_frz_lasts hp
  have s := x.sat
  have pT : p ∈ z'.T := List.mem_of_getElem? hn
  refine ⟨⟨s.len, fun i a h => ?_, ?_, fun m b a h1 h2 => ?_, s.nd, s.sepT, s.sepO⟩, x.pre, fun b o h n => ?_, x.lasts.trans la, fun b f => x.fp b f⟩
  · obtain ⟨nb, v, h1, r1⟩ := s.slots i a h
    refine ⟨nb, v, h1, ?_⟩
    cases a with
    | val d => exact Rep.lasts la r1
    | box m => exact r1
    | own l =>
      obtain ⟨q, ws, rfl, h2, t⟩ := r1
      have hq : q ≠ p := fun e => s.sepT q ⟨i, l, h, h1⟩ (e ▸ pT)
      exact ⟨q, ws, rfl, by show upd _ _ _ q = _; rw [upd_ne hq]; exact h2, RepL.lasts la t⟩
    | bor j => exact nb.elim
  · show (z'.ρ.bx.set n (.lst l')).length = _
    rw [List.length_set]
    exact s.blen
  · have h1 : (z'.ρ.bx.set n (.lst l'))[m]? = some b := h1
    by_cases e : n = m
    · subst e
      have h2 : z'.T[n]? = some a := h2
      rw [hn] at h2
      cases h2
      have hl : n < z'.ρ.bx.length := by rw [s.blen]; exact (List.getElem?_eq_some_iff.mp hn).1
      rw [List.getElem?_set_self hl] at h1
      cases h1
      exact ⟨vs', upd_same, RepL.lasts la r⟩
    · rw [List.getElem?_set_ne e] at h1
      refine (s.boxes m b a h1 h2).keep la (List.prefix_refl _) ?_
      show upd _ _ _ a = _
      refine upd_ne fun e2 => e ?_
      subst e2
      have i1 := (List.getElem?_eq_some_iff.mp hn)
      exact (List.getElem?_inj i1.1 s.nd).mp (hn.trans (show z'.T[m]? = some a from h2).symm)
  · have hb : b ≠ p := fun e => by
      subst e
      rcases x.fp b (.inl pT) with q | q
      · exact n q
      · rw [h] at q; cases q
    show upd _ _ _ b = _
    rw [upd_ne hb]
    exact x.keep b o h n
/-- a list of one's own is changed -/
theorem After.setOwn {z z' : Z} (x : After G z z') {i : Nat} {p : Addr} {vs vs' : List V} {l l' : List D} (hi : z'.ρ.sl[i]? = some (some (.own l))) (hσ : z'.σ[i]? = some (some (.ref p))) (hp : z'.H p = some (.lst vs)) (r : RepL G z'.H l' vs') :
    After G z ⟨z'.T, { z'.ρ with sl := z'.ρ.sl.set i (some (.own l')) }, z'.σ, upd z'.H p (.lst vs')⟩ := by
  have la : Lasts z'.H (upd z'.H p (.lst vs')) := upd_frz_lasts hp
  have s : Sat G ⟨z'.T, z'.ρ, z'.σ, z'.H⟩ := x.sat
  have np : ¬ Fp ⟨z'.T, { z'.ρ with sl := z'.ρ.sl.set i none }, z'.σ, z'.H⟩ p := by
    rintro (f | ⟨j, m, g1, g2⟩)
    · exact s.sepT p ⟨i, l, hi, hσ⟩ f
    · obtain ⟨g1, g3⟩ := get_set_none g1
      exact g3 (s.sepO j i m l p g1 hi g2 hσ)
  have eσ : z'.σ.set i (some (V.ref p)) = z'.σ := by
    apply List.ext_getElem?
    intro j
    by_cases e : i = j
    · subst e
      rw [List.getElem?_set_self (List.getElem?_eq_some_iff.mp hσ).1, hσ]
    · rw [List.getElem?_set_ne e]
  have s1 : Sat G ⟨z'.T, { z'.ρ with sl := z'.ρ.sl.set i none }, z'.σ, upd z'.H p (.lst vs')⟩ := Sat.chg (s.clear i) la fun b f => upd_ne fun e => np (e ▸ f)
  have s2 := Sat.put (i := i) (a := .own l') (v := .ref p) s1 trivial ⟨p, vs', rfl, upd_same, RepL.lasts la r⟩ fun m q e1 e2 f => by
    cases e2
    have f : Fp ⟨z'.T, { z'.ρ with sl := (z'.ρ.sl.set i none).set i none }, z'.σ, z'.H⟩ p := f
    rw [List.set_set] at f
    exact np f
  rw [eσ] at s2
  have s2 : Sat G ⟨z'.T, { z'.ρ with sl := (z'.ρ.sl.set i none).set i (some (.own l')) }, z'.σ, upd z'.H p (.lst vs')⟩ := s2
  rw [List.set_set] at s2
  refine ⟨s2, x.pre, fun b o h n => ?_, x.lasts.trans la, fun b f => ?_⟩
  · have hb : b ≠ p := fun e => by
      subst e
      rcases x.fp b (.inr ⟨i, l, hi, hσ⟩) with q | q
      · exact n q
      · rw [h] at q; cases q
    show upd _ _ _ b = _
    rw [upd_ne hb]
    exact x.keep b o h n
  · have f' : Fp ⟨z'.T, { z'.ρ with sl := z'.ρ.sl.set i (some (.own l')) }, z'.σ.set i (some (.ref p)), z'.H⟩ b := by rw [eσ]; exact f
    rcases fp_put f' s.len with q | ⟨m, _, e⟩
    · exact x.fp b (fp_clear q)
    · cases e
      exact x.fp p (.inr ⟨i, l, hi, hσ⟩)
end

/-! ### box[i] op= e, of ints -/
def sAugBox (f : Int → Int → Int) (fo fi fe : Ev) : Es := fun ρ => bs (fo ρ) fun o ρ1 => bs (fi ρ1) fun i ρ2 => match o, i with
  | .box n, .val (.int k) => (match look (.box n) ρ2 with
    | some (.lst l) => (match (if 0 ≤ k ∧ k < 2 ^ 62 then atI l k else none) with
      | some (.int x) => bs (fe ρ2) fun e ρ3 => (match e, look (.box n) ρ3 with
        | .val (.int y), some (.lst m) => (match ixN m.length k with
          | some j => some (.nx { ρ3 with bx := ρ3.bx.set n (.lst (m.set j (.int (f x y)))) })
          | none => none)
        | _, _ => none)
      | _ => none)
    | _ => none)
  | _, _ => none
section
variable {X : Cx} {cl : Nat → Addr}
theorem pget_list : PGet X fun o i H Q => ∃ p xs k v, o = .ref p ∧ i = .int k ∧ 0 ≤ k ∧ k < 2 ^ 62 ∧ SqL X.K H p xs ∧ atI xs k = some v ∧ Q v H := by
  intro pins s σ H o i ov iv Q I ro ri h
  obtain ⟨p, xs, k, v, rfl, rfl, h0, hk, hq, he, q⟩ := h
  cases ro
  obtain ⟨t, rfl⟩ := ri
  obtain ⟨its, r, pl, hz⟩ := I.list hq
  obtain ⟨j, h1, h2, h3, h4, h5⟩ := atI_get he
  obtain ⟨w, ew, rw'⟩ := r.get h2
  have hj : k.toNat = j := by
    rw [seqIndex_of h0 h5] at h1
    exact Option.some.inj h1
  exact wpAny_getItem_list pl.isList h0 (by omega) (by rw [hj]; simpa using ew) ⟨v, H, I, rw', q⟩
theorem box_look {G : Cg} {z : Z} {n : Nat} {d : D} (s : Sat G z) (h : look (.box n) z.ρ = some d) : ∃ l p vs, d = .lst l ∧ z.ρ.bx[n]? = some (.lst l) ∧ z.T[n]? = some p ∧ z.H p = some (.lst vs) ∧ RepL G z.H l vs := by
  unfold look at h
  simp only at h
  split at h
  · rename_i l hl
    cases h
    have hlt : n < z.T.length := by rw [← s.blen]; exact (List.getElem?_eq_some_iff.mp hl).1
    obtain ⟨vs, h1, h2⟩ := s.boxes n _ _ hl (List.getElem?_eq_getElem hlt)
    exact ⟨l, _, vs, rfl, hl, List.getElem?_eq_getElem hlt, h1, h2⟩
  · cases h
theorem ds_augBox {op : Operator} {f : Int → Int → Int} {o i e : Expr} {fo fi fe : Ev} {tpos pos : Pos} (hop : PIp X op (ipI f)) (ho : DE X cl o fo) (hi : DE X cl i fi) (he : DE X cl e fe)
    (ha : ∀ ov iv new, augStore i ov iv new = (do holding [new, ov, iv] (setItem ov iv new); release [new, ov, iv] []; pure .next) := by intros; rfl) : DS X cl (.AugAssign (.Subscript o i tpos) op e pos) (sAugBox f fo fi fe) :=
  ⟨fun W tk => PS.imp (ps_augS (ho.run W tk) (hi.run W tk) pget_list (he.run W tk) hop set_list ha) fun D σ H => by
    rintro ⟨z, rfl, rfl, s, h⟩
    refine tD_go s (h.bind.imp fun a z1 e1 x1 h1 v hv => ?_)
    rw [← e1]
    refine tD_go x1.sat ((GoS.from h1 x1).bind.imp fun b z2 e2 x2 h2 u hu => ?_)
    have hv2 := hv.step x2 e2
    cases a with
    | box n =>
      cases b with
      | val d =>
        cases d with
        | int k =>
          have h2 : GoS (gx X cl) W z1 (match look (.box n) z2.ρ with
            | some (.lst l) => (match (if 0 ≤ k ∧ k < 2 ^ 62 then atI l k else none) with
              | some (.int x) => bs (fe z2.ρ) fun e ρ3 => (match e, look (.box n) ρ3 with
                | .val (.int y), some (.lst m) => (match ixN m.length k with
                  | some j => some (.nx { ρ3 with bx := ρ3.bx.set n (.lst (m.set j (.int (f x y)))) })
                  | none => none)
                | _, _ => none)
              | _ => none)
            | _ => none) D := h2
          split at h2
          · rename_i l hl
            split at h2
            · rename_i x hx
              split at hx
              · rename_i hk
                obtain ⟨l', p, vs, el, hb, hT, hp, r⟩ := box_look x2.sat hl
                cases el
                obtain ⟨p2, hT2, rfl⟩ := hv2.rep
                rw [hT] at hT2
                cases hT2
                obtain ⟨w, hw, rw⟩ := repL_atI r hx
                have ew : w = .int x := rep_int rw
                subst ew
                have eu : u = .int k := vint (VRep.of (show Rep (gx X cl) z2.H (.int k) u from hu.rep))
                refine ⟨p, vs, k, .int x, rfl, eu, hk.1, hk.2, .of hp, hw, ?_⟩
                show tD (gx X cl) W fe z1.σ z2.H _
                rw [← e2]
                refine tD_go x2.sat ((GoS.from h2 x2).bind.imp fun c z3 e3 x3 h3 y hy => ?_)
                split at h3
                · rename_i y' m hm
                  split at h3
                  · rename_i j hj
                    obtain ⟨m', p3, ws, el, hb3, hT3, hp3, r3⟩ := box_look x3.sat hm
                    cases el
                    rw [prefix_get x3.pre hT] at hT3
                    cases hT3
                    have ey : y = .int y' := vint (VRep.of (show Rep (gx X cl) z3.H (.int y') y from hy.rep))
                    refine ⟨x, y', rfl, ey, p, ws, k, j, rfl, eu, hp3, by rw [← r3.length]; exact hj, ?_⟩
                    have rn : RepL (gx X cl) z3.H (m.set j (.int (f x y'))) (ws.set j (.int (f x y'))) := r3.set j (by unfold Rep; rfl)
                    have xb := After.setBox x3 (prefix_get x3.pre hT) hp3 rn
                    have q := GoS.nx (z1 := ⟨z3.T, { z3.ρ with bx := z3.ρ.bx.set n (.lst (m.set j (.int (f x y')))) }, z3.σ, upd z3.H p (.lst (ws.set j (.int (f x y'))))⟩) h3 xb
                    rw [show z3.σ = z2.σ from e3] at q
                    exact q
                  · exact (goS_none h3).elim
                · exact (goS_none h3).elim
              · cases hx
            · exact (goS_none h2).elim
          · exact (goS_none h2).elim
        | _ => exact (goS_none h2).elim
      | _ => exact (goS_none h2).elim
    | _ => exact (goS_none h2).elim⟩
end

/-! ### a list display that is a box -/
/-- a new list becomes a box -/
def eBox (f : Ev) : Ev := fun ρ => bd (f ρ) fun a ρ1 => match a with
  | .own l => some (.ok (.box ρ1.bx.length) { ρ1 with bx := ρ1.bx ++ [.lst l] })
  | _ => none
theorem After.newBox {G : Cg} {z z' : Z} (x : After G z z') {p : Addr} {vs : List V} {l : List D} (hp : z'.H p = some (.lst vs)) (r : RepL G z'.H l vs) (nf : ¬ Fp z' p) (hz : Fp z p ∨ z.H p = none) :
    After G z ⟨z'.T ++ [p], { z'.ρ with bx := z'.ρ.bx ++ [.lst l] }, z'.σ, z'.H⟩ := by
  have s := x.sat
  have nT : p ∉ z'.T := fun h => nf (.inl h)
  refine ⟨⟨s.len, fun i a h => ?_, ?_, fun m b a h1 h2 => ?_, ?_, fun a f h => ?_, s.sepO⟩, x.pre.trans (List.prefix_append _ _), x.keep, x.lasts, fun b f => ?_⟩
  · obtain ⟨nb, v, h1, r1⟩ := s.slots i a h
    refine ⟨nb, v, h1, ?_⟩
    cases a with
    | val d => exact r1
    | box m => obtain ⟨q, h2, e⟩ := r1; exact ⟨q, prefix_get (List.prefix_append _ _) h2, e⟩
    | own l => exact r1
    | bor j => exact nb.elim
  · show (z'.ρ.bx ++ [Bx.lst l]).length = (z'.T ++ [p]).length
    rw [List.length_append, List.length_append, s.blen]
    rfl
  · have h1 : (z'.ρ.bx ++ [Bx.lst l])[m]? = some b := h1
    have h2 : (z'.T ++ [p])[m]? = some a := h2
    by_cases hm : m < z'.T.length
    · rw [List.getElem?_append_left hm] at h2
      rw [List.getElem?_append_left (by rw [s.blen]; exact hm)] at h1
      exact (s.boxes m b a h1 h2).keep (.refl _) (List.prefix_append _ _) rfl
    · have hm2 : m < (z'.T ++ [p]).length := (List.getElem?_eq_some_iff.mp h2).1
      have em : m = z'.T.length := by rw [List.length_append, List.length_singleton] at hm2; omega
      subst em
      rw [List.getElem?_append_right (by rw [s.blen]; exact Nat.le_refl _), s.blen, Nat.sub_self] at h1
      rw [List.getElem?_append_right (Nat.le_refl _), Nat.sub_self] at h2
      cases h1
      cases h2
      exact ⟨vs, hp, r⟩
  · show (z'.T ++ [p]).Nodup
    rw [List.nodup_append]
    exact ⟨s.nd, by simp, fun a ha b hb => by rw [List.mem_singleton] at hb; subst hb; exact fun e => nT (e ▸ ha)⟩
  · have h : a ∈ z'.T ++ [p] := h
    rcases List.mem_append.mp h with h | h
    · exact s.sepT a f h
    · rw [List.mem_singleton] at h
      subst h
      exact nf (.inr f)
  · rcases f with f | f
    · have f : b ∈ z'.T ++ [p] := f
      rcases List.mem_append.mp f with f | f
      · exact x.fp b (.inl f)
      · rw [List.mem_singleton] at f
        subst f
        exact hz
    · exact x.fp b (.inr f)
section
variable {X : Cx} {cl : Nat → Addr}
theorem de_box {e : Expr} {f : Ev} (h : DE X cl e f) : DE X cl e (eBox f) := ⟨fun W tk => PE.imp (h.run W tk) fun σ H Q => by
  rintro ⟨z, rfl, rfl, s, r', e, q⟩
  refine tD_go s ?_
  unfold eBox at e
  cases hf : f z.ρ with
  | none => rw [hf] at e; cases e
  | some x =>
    rw [hf] at e
    cases x with
    | ex d ρ1 =>
      have e : some (Res.ex d ρ1) = some r' := e
      cases e
      exact ⟨_, rfl, q⟩
    | ok a ρ1 =>
      refine ⟨_, rfl, fun z1 e1 e2 x1 v hv => ?_⟩
      subst e1
      cases a with
      | own l =>
        have e : some (Res.ok (A.box z1.ρ.bx.length) { z1.ρ with bx := z1.ρ.bx ++ [.lst l] }) = some r' := e
        cases e
        obtain ⟨p, vs, rfl, hp, t⟩ := hv.rep
        have xb := After.newBox x1 hp t hv.own.1 hv.own.2
        refine q ⟨z1.T ++ [p], { z1.ρ with bx := z1.ρ.bx ++ [.lst l] }, z1.σ, z1.H⟩ rfl e2 xb _ ⟨⟨p, ?_, rfl⟩, trivial⟩
        show (z1.T ++ [p])[z1.ρ.bx.length]? = some p
        rw [x1.sat.blen, List.getElem?_append_right (Nat.le_refl _), Nat.sub_self]
        rfl
      | _ => cases e⟩
end
end Fm

/-! Fm.S: how the executor's terms run, as rewriting. -/
namespace Fm
open PySem PySem.Spec PyProof.Rows L2

section
variable {α β : Type}
@[simp] theorem bd_ok (a : α) (ρ : S) (k : α → S → Option (Res β)) : bd (some (.ok a ρ)) k = k a ρ := rfl
@[simp] theorem bd_ex (d : D) (ρ : S) (k : α → S → Option (Res β)) : bd (some (.ex d ρ)) k = some (.ex d ρ) := rfl
@[simp] theorem bs_ok (a : α) (ρ : S) (k : α → S → Option Out) : bs (some (.ok a ρ)) k = k a ρ := rfl
@[simp] theorem bs_ex (d : D) (ρ : S) (k : α → S → Option Out) : bs (some (Res.ex (α := α) d ρ)) k = some (.ex d ρ) := rfl
end
def sq (o : Option Out) (g : Es) : Option Out := match o with
  | some (.nx ρ1) => g ρ1
  | o => o
@[simp] theorem sSeq_at (f g : Es) (ρ : S) : sSeq f g ρ = sq (f ρ) g := rfl
@[simp] theorem sq_nx (ρ : S) (g : Es) : sq (some (.nx ρ)) g = g ρ := rfl
@[simp] theorem sq_rt (a : A) (ρ : S) (g : Es) : sq (some (.rt a ρ)) g = some (.rt a ρ) := rfl
@[simp] theorem sq_bk (ρ : S) (g : Es) : sq (some (.bk ρ)) g = some (.bk ρ) := rfl
@[simp] theorem sq_ct (ρ : S) (g : Es) : sq (some (.ct ρ)) g = some (.ct ρ) := rfl
@[simp] theorem sq_ex (d : D) (ρ : S) (g : Es) : sq (some (.ex d ρ)) g = some (.ex d ρ) := rfl
@[simp] theorem sNil_at (ρ : S) : sNil ρ = some (.nx ρ) := rfl
@[simp] theorem sBrk_at (ρ : S) : sBrk ρ = some (.bk ρ) := rfl
@[simp] theorem sCont_at (ρ : S) : sCont ρ = some (.ct ρ) := rfl
@[simp] theorem sSet_at (i : Nat) (f : Ev) (ρ : S) : sSet i f ρ = bs (f ρ) fun a ρ1 => putA i a ρ1 := rfl
@[simp] theorem putA_val (i : Nat) (d : D) (ρ : S) : putA i (.val d) ρ = some (.nx ⟨ρ.sl.set i (some (.val d)), ρ.bx⟩) := rfl
@[simp] theorem putA_box (i n : Nat) (ρ : S) : putA i (.box n) ρ = some (.nx ⟨ρ.sl.set i (some (.box n)), ρ.bx⟩) := rfl
@[simp] theorem putA_own (i : Nat) (l : List D) (ρ : S) : putA i (.own l) ρ = some (.nx ⟨ρ.sl.set i (some (.own l)), ρ.bx⟩) := rfl
@[simp] theorem sExpr_at (f : Ev) (ρ : S) : sExpr f ρ = bs (f ρ) fun _ ρ1 => some (.nx ρ1) := rfl
def retA (a : A) (ρ1 : S) : Option Out := match a with
  | .bor i => (match ρ1.sl[i]? with
    | some (some (.own l)) => some (.rt (.own l) { ρ1 with sl := ρ1.sl.set i none })
    | _ => none)
  | a => some (.rt a ρ1)
@[simp] theorem sRet_at (f : Ev) (ρ : S) : sRet f ρ = bs (f ρ) fun a ρ1 => retA a ρ1 := rfl
@[simp] theorem retA_val (d : D) (ρ : S) : retA (.val d) ρ = some (.rt (.val d) ρ) := rfl
@[simp] theorem retA_own (l : List D) (ρ : S) : retA (.own l) ρ = some (.rt (.own l) ρ) := rfl
@[simp] theorem retA_box (n : Nat) (ρ : S) : retA (.box n) ρ = some (.rt (.box n) ρ) := rfl
def retB (x : Option (Option A)) (i : Nat) (ρ1 : S) : Option Out := match x with
  | some (some (.own l)) => some (.rt (.own l) { ρ1 with sl := ρ1.sl.set i none })
  | _ => none
@[simp] theorem retA_bor (i : Nat) (ρ : S) : retA (.bor i) ρ = retB ρ.sl[i]? i ρ := rfl
@[simp] theorem retB_own (l : List D) (i : Nat) (ρ : S) : retB (some (some (.own l))) i ρ = some (.rt (.own l) ⟨ρ.sl.set i none, ρ.bx⟩) := rfl
@[simp] theorem sRetN_at (ρ : S) : sRetN ρ = some (.rt (.val .non) ρ) := rfl
def br {α : Type} (b : Bool) (x y : α) : α := match b with
  | true => x
  | false => y
@[simp] theorem br_t {α : Type} (x y : α) : br true x y = x := rfl
@[simp] theorem br_f {α : Type} (x y : α) : br false x y = y := rfl
theorem br_if {α : Type} (b : Bool) (x y : α) : br b x y = if b = true then x else y := by cases b <;> rfl
@[simp] theorem sIf_at (c : S → Option (Res Bool)) (f g : Es) (ρ : S) : sIf c f g ρ = bs (c ρ) fun b ρ1 => br b (f ρ1) (g ρ1) := by
  rfl
@[simp] theorem eC_at (d : D) (ρ : S) : eC d ρ = some (.ok (.val d) ρ) := rfl
def evA (x : Option (Option A)) (i : Nat) (ρ : S) : Option (Res A) := match x with
  | some (some (.val d)) => some (.ok (.val d) ρ)
  | some (some (.box n)) => some (.ok (.box n) ρ)
  | some (some (.own _)) => some (.ok (.bor i) ρ)
  | _ => none
@[simp] theorem eV_at (i : Nat) (ρ : S) : eV i ρ = evA ρ.sl[i]? i ρ := rfl
@[simp] theorem evA_val (d : D) (i : Nat) (ρ : S) : evA (some (some (.val d))) i ρ = some (.ok (.val d) ρ) := rfl
@[simp] theorem evA_box (n i : Nat) (ρ : S) : evA (some (some (.box n))) i ρ = some (.ok (.box n) ρ) := rfl
@[simp] theorem evA_own (l : List D) (i : Nat) (ρ : S) : evA (some (some (.own l))) i ρ = some (.ok (.bor i) ρ) := rfl
def ob {α β : Type} (x : Option α) (k : α → Option β) : Option β := match x with
  | some a => k a
  | none => none
@[simp] theorem ob_some {α β : Type} (a : α) (k : α → Option β) : ob (some a) k = k a := rfl
@[simp] theorem l1_at (ρ : S) (a : A) (k : D → Option (Res A)) : l1 ρ a k = ob (look a ρ) k := by unfold l1 ob; cases look a ρ <;> rfl
@[simp] theorem ret_some (ρ : S) (a : A) : ret ρ (some a) = some (.ok a ρ) := rfl
theorem ret_at (ρ : S) (c : Option A) : ret ρ c = ob c fun a => some (.ok a ρ) := by cases c <;> rfl
@[simp] theorem eU_at (g : D → Option A) (f : Ev) (ρ : S) : eU g f ρ = bd (f ρ) fun a ρ1 => ob (look a ρ1) fun x => ret ρ1 (g x) := by unfold eU; simp only [l1_at]
@[simp] theorem eB_at (g : D → D → Option A) (fa fb : Ev) (ρ : S) : eB g fa fb ρ = bd (fa ρ) fun a ρ1 => bd (fb ρ1) fun b ρ2 => ob (look a ρ2) fun x => ob (look b ρ2) fun y => ret ρ2 (g x y) := by unfold eB; simp only [l1_at]
@[simp] theorem look_val (d : D) (ρ : S) : look (.val d) ρ = some d := rfl
@[simp] theorem look_own (l : List D) (ρ : S) : look (.own l) ρ = some (.lst l) := rfl
def bxD (b : Option Bx) : Option D := match b with
  | some (.lst l) => some (.lst l)
  | _ => none
@[simp] theorem look_box (n : Nat) (ρ : S) : look (.box n) ρ = bxD ρ.bx[n]? := rfl
@[simp] theorem bxD_lst (l : List D) : bxD (some (.lst l)) = some (.lst l) := rfl
def lookB (x : Option (Option A)) (ρ : S) : Option D := match x with
  | some (some (.val d)) => some d
  | some (some (.own l)) => some (.lst l)
  | some (some (.box n)) => bxD ρ.bx[n]?
  | _ => none
@[simp] theorem look_bor (i : Nat) (ρ : S) : look (.bor i) ρ = lookB ρ.sl[i]? ρ := by
  unfold look lookB
  rfl
@[simp] theorem lookB_val (d : D) (ρ : S) : lookB (some (some (.val d))) ρ = some d := rfl
@[simp] theorem lookB_own (l : List D) (ρ : S) : lookB (some (some (.own l))) ρ = some (.lst l) := rfl
@[simp] theorem lookB_box (n : Nat) (ρ : S) : lookB (some (some (.box n))) ρ = bxD ρ.bx[n]? := rfl

def zA (a : A) (ρ1 : S) : Option (Res A) := match a with
  | .own l => some (.ok (.val (.lst l)) ρ1)
  | .bor i => (match ρ1.sl[i]? with
    | some (some (.val d)) => some (.ok (.val d) ρ1)
    | some (some (.own l)) => some (.ok (.val (.lst l)) { ρ1 with sl := ρ1.sl.set i (some (.val (.lst l))) })
    | some (some (.box n)) => some (.ok (.box n) ρ1)
    | _ => none)
  | a => some (.ok a ρ1)
@[simp] theorem eZ_at (f : Ev) (ρ : S) : eZ f ρ = bd (f ρ) zA := rfl
@[simp] theorem zA_val (d : D) (ρ : S) : zA (.val d) ρ = some (.ok (.val d) ρ) := rfl
@[simp] theorem zA_own (l : List D) (ρ : S) : zA (.own l) ρ = some (.ok (.val (.lst l)) ρ) := rfl
@[simp] theorem zA_box (n : Nat) (ρ : S) : zA (.box n) ρ = some (.ok (.box n) ρ) := rfl
def zB (x : Option (Option A)) (i : Nat) (ρ1 : S) : Option (Res A) := match x with
  | some (some (.val d)) => some (.ok (.val d) ρ1)
  | some (some (.own l)) => some (.ok (.val (.lst l)) { ρ1 with sl := ρ1.sl.set i (some (.val (.lst l))) })
  | some (some (.box n)) => some (.ok (.box n) ρ1)
  | _ => none
@[simp] theorem zA_bor (i : Nat) (ρ : S) : zA (.bor i) ρ = zB ρ.sl[i]? i ρ := rfl
@[simp] theorem zB_own (l : List D) (i : Nat) (ρ : S) : zB (some (some (.own l))) i ρ = some (.ok (.val (.lst l)) ⟨ρ.sl.set i (some (.val (.lst l))), ρ.bx⟩) := rfl
@[simp] theorem zB_val (d : D) (i : Nat) (ρ : S) : zB (some (some (.val d))) i ρ = some (.ok (.val d) ρ) := rfl
@[simp] theorem aNil_at (ρ : S) : aNil ρ = some (.ok [] ρ) := rfl
@[simp] theorem aCons_at (f : Ev) (g : S → Option (Res (List A))) (ρ : S) : aCons f g ρ = bd (eZ f ρ) fun a ρ1 => bd (g ρ1) fun as ρ2 => some (.ok (a :: as) ρ2) := rfl
@[simp] theorem bCons_at (f : Ev) (g : S → Option (Res (List A))) (ρ : S) : bCons f g ρ = bd (f ρ) fun a ρ1 => bd (g ρ1) fun as ρ2 => some (.ok (a :: as) ρ2) := rfl
@[simp] theorem eN_at (g : List D → Option A) (f : S → Option (Res (List A))) (ρ : S) : eN g f ρ = bd (f ρ) fun as ρ1 => ob (datas as) fun l => ret ρ1 (g l) := by unfold eN; congr 1; funext as ρ1; cases datas as <;> rfl
@[simp] theorem eNB_at (g : List D → Option A) (f : S → Option (Res (List A))) (ρ : S) : eNB g f ρ = bd (f ρ) fun as ρ1 => ob (looks as ρ1) fun l => ret ρ1 (g l) := by unfold eNB; congr 1; funext as ρ1; cases looks as ρ1 <;> rfl
@[simp] theorem datas_nil : datas [] = some [] := rfl
@[simp] theorem datas_cons (d : D) (r : List A) : datas (.val d :: r) = ob (datas r) fun l => some (d :: l) := by rw [datas.eq_2]; cases datas r <;> rfl
@[simp] theorem looks_nil (ρ : S) : looks [] ρ = some [] := rfl
@[simp] theorem looks_cons (a : A) (r : List A) (ρ : S) : looks (a :: r) ρ = ob (look a ρ) fun d => ob (looks r ρ) fun l => some (d :: l) := by
  show (match look a ρ, looks r ρ with
    | some d, some l => some (d :: l)
    | _, _ => none) = _
  cases look a ρ <;> cases looks r ρ <;> rfl
theorem gTupD_ok (l : List D) (h : l.length ≤ 1000) : gTupD l = some (.val (.tup l)) := if_pos h
theorem gLstD_ok (l : List D) (h : l.length ≤ 1000) : gLstD l = some (.own l) := if_pos h
@[simp] theorem gTupD_nil : gTupD [] = some (.val (.tup [])) := rfl
@[simp] theorem gLstD_nil : gLstD [] = some (.own []) := rfl
@[simp] theorem gTup1 (a : D) : gTupD [a] = some (.val (.tup [a])) := rfl
@[simp] theorem gTup2 (a b : D) : gTupD [a, b] = some (.val (.tup [a, b])) := rfl
@[simp] theorem gTup3 (a b c : D) : gTupD [a, b, c] = some (.val (.tup [a, b, c])) := rfl
@[simp] theorem gTup4 (a b c d : D) : gTupD [a, b, c, d] = some (.val (.tup [a, b, c, d])) := rfl
@[simp] theorem gTup5 (a b c d e : D) : gTupD [a, b, c, d, e] = some (.val (.tup [a, b, c, d, e])) := rfl
@[simp] theorem gLst1 (a : D) : gLstD [a] = some (.own [a]) := rfl
@[simp] theorem gLst2 (a b : D) : gLstD [a, b] = some (.own [a, b]) := rfl
@[simp] theorem gLst3 (a b c : D) : gLstD [a, b, c] = some (.own [a, b, c]) := rfl
@[simp] theorem gLst4 (a b c d : D) : gLstD [a, b, c, d] = some (.own [a, b, c, d]) := rfl
@[simp] theorem gLst5 (a b c d e : D) : gLstD [a, b, c, d, e] = some (.own [a, b, c, d, e]) := rfl
@[simp] theorem gLst6 (a b c d e f : D) : gLstD [a, b, c, d, e, f] = some (.own [a, b, c, d, e, f]) := rfl
/-! tests -/
def bA (a : A) (ρ : S) : Option (Res Bool) := match a with
  | .val (.bl b) => some (.ok b ρ)
  | _ => none
@[simp] theorem eTest_at (f : Ev) (ρ : S) : eTest f ρ = bd (f ρ) bA := rfl
@[simp] theorem bA_bl (b : Bool) (ρ : S) : bA (.val (.bl b)) ρ = some (.ok b ρ) := rfl
@[simp] theorem eAndT_at (f g : S → Option (Res Bool)) (ρ : S) : eAndT f g ρ = bd (f ρ) fun b ρ1 => br b (g ρ1) (some (.ok false ρ1)) := rfl
@[simp] theorem eOrT_at (f g : S → Option (Res Bool)) (ρ : S) : eOrT f g ρ = bd (f ρ) fun b ρ1 => br b (some (.ok true ρ1)) (g ρ1) := rfl
@[simp] theorem eNotT_at (f : S → Option (Res Bool)) (ρ : S) : eNotT f ρ = bd (f ρ) fun b ρ1 => some (.ok (!b) ρ1) := rfl
@[simp] theorem eAndV_at (f g : Ev) (ρ : S) : eAndV f g ρ = bd (eTest f ρ) fun b ρ1 => br b (g ρ1) (some (.ok (.val (.bl false)) ρ1)) := rfl
@[simp] theorem eOrV_at (f g : Ev) (ρ : S) : eOrV f g ρ = bd (eTest f ρ) fun b ρ1 => br b (some (.ok (.val (.bl true)) ρ1)) (g ρ1) := rfl
@[simp] theorem eNotV_at (f : S → Option (Res Bool)) (ρ : S) : eNotV f ρ = bd (f ρ) fun b ρ1 => some (.ok (.val (.bl (!b))) ρ1) := rfl
@[simp] theorem eIf_at (c : S → Option (Res Bool)) (f g : Ev) (ρ : S) : eIf c f g ρ = bd (c ρ) fun b ρ1 => br b (f ρ1) (g ρ1) := rfl
@[simp] theorem eYes_at (ρ : S) : eYes ρ = some (.ok true ρ) := rfl
/-! operations -/
@[simp] theorem gAdd_int (i j : Int) : gAdd (.int i) (.int j) = some (.val (.int (i + j))) := rfl
theorem gAdd_str (x y : Str) (h : x.length + y.length ≤ 1000000) : gAdd (.str x) (.str y) = some (.val (.str (x ++ y))) := if_pos h
theorem gAdd_lst (x y : List D) (h : x.length + y.length ≤ 1000000) : gAdd (.lst x) (.lst y) = some (.own (x ++ y)) := if_pos h
theorem gAdd_tup (x y : List D) (h : x.length + y.length ≤ 1000000) : gAdd (.tup x) (.tup y) = some (.val (.tup (x ++ y))) := if_pos h
@[simp] theorem gSub_int (i j : Int) : gSub (.int i) (.int j) = some (.val (.int (i - j))) := rfl
theorem gMul_l (i j : Int) (h : -18446744073709551616 < i ∧ i < 18446744073709551616) : gMul (.int i) (.int j) = some (.val (.int (i * j))) := if_pos (.inl h)
theorem gMul_r (i j : Int) (h : -18446744073709551616 < j ∧ j < 18446744073709551616) : gMul (.int i) (.int j) = some (.val (.int (i * j))) := if_pos (.inr h)
theorem gMod_int (i j : Int) (h : 0 < j) : gMod (.int i) (.int j) = some (.val (.int (i % j))) := if_pos h
theorem gDiv_int (i j : Int) (h : 0 < j ∧ j < 1073741824) : gDiv (.int i) (.int j) = some (.val (.int (i / j))) := if_pos h
@[simp] theorem gNeg_int (i : Int) : gNeg (.int i) = some (.val (.int (-i))) := rfl
@[simp] theorem gCmp_int (f : Int → Int → Bool) (g : Str → Str → Bool) (i j : Int) : gCmp f g (.int i) (.int j) = some (.val (.bl (f i j))) := rfl
@[simp] theorem gCmp_str (f : Int → Int → Bool) (g : Str → Str → Bool) (i j : Str) : gCmp f g (.str i) (.str j) = some (.val (.bl (g i j))) := rfl
@[simp] theorem gIsN_non (x : D) : gIsN x .non = some (.val (.bl (isNon x))) := rfl
@[simp] theorem gNotN_non (x : D) : gNotN x .non = some (.val (.bl (!isNon x))) := rfl
@[simp] theorem isNon_non : isNon .non = true := rfl
@[simp] theorem isNon_bl (b : Bool) : isNon (.bl b) = false := rfl
@[simp] theorem isNon_int (b : Int) : isNon (.int b) = false := rfl
@[simp] theorem isNon_str (b : Str) : isNon (.str b) = false := rfl
@[simp] theorem isNon_tup (b : List D) : isNon (.tup b) = false := rfl
@[simp] theorem isNon_lst (b : List D) : isNon (.lst b) = false := rfl
@[simp] theorem gLen_lst (l : List D) : gLen [.lst l] = some (.val (.int l.length)) := rfl
@[simp] theorem gLen_tup (l : List D) : gLen [.tup l] = some (.val (.int l.length)) := rfl
theorem gLen_str (z : Str) (h : z.length ≤ 1000000) : gLen [.str z] = some (.val (.int z.length)) := if_pos h
def oV (x : Option D) : Option A := x.map .val
@[simp] theorem oV_some (d : D) : oV (some d) = some (.val d) := rfl
@[simp] theorem gIx_lst (l : List D) (i : Int) : gIx (.lst l) (.int i) = oV (atI l i) := by unfold gIx oV; simp only []; cases atI l i <;> rfl
@[simp] theorem gIx_tup (l : List D) (i : Int) : gIx (.tup l) (.int i) = oV (atI l i) := by unfold gIx oV; simp only []; cases atI l i <;> rfl
/-! the ends -/
@[simp] theorem fnRes_rt (a : A) (ρ : S) : fnRes (some (.rt a ρ)) = some (.ret a ρ.bx) := rfl
@[simp] theorem fnRes_nx (ρ : S) : fnRes (some (.nx ρ)) = some (.ret (.val .non) ρ.bx) := rfl
@[simp] theorem fnRes_ex (d : D) (ρ : S) : fnRes (some (.ex d ρ)) = some (.exc d ρ.bx) := rfl
@[simp] theorem nbRes_nx (ρ : S) : nbRes (some (.nx ρ)) = True := rfl
@[simp] theorem nbRes_ex (d : D) (ρ : S) : nbRes (some (.ex d ρ)) = True := rfl
@[simp] theorem nbRes_val (d : D) (ρ : S) : nbRes (some (.rt (.val d) ρ)) = True := rfl
@[simp] theorem nbRes_own (l : List D) (ρ : S) : nbRes (some (.rt (.own l) ρ)) = True := rfl
@[simp] theorem nbRes_box (n : Nat) (ρ : S) : nbRes (some (.rt (.box n) ρ)) = True := rfl
@[simp] theorem slots_at (n : Nat) (as : List A) : slots n as = as.map some ++ List.replicate (n - as.length) none := rfl
@[simp] theorem eCall_at (φ : Fn) (f : S → Option (Res (List A))) (ρ : S) : eCall φ f ρ = bd (f ρ) fun as ρ1 => fin ρ1 (φ as ρ1.bx) := rfl
@[simp] theorem fin_val (ρ : S) (d : D) (B : List Bx) : fin ρ (some (.ret (.val d) B)) = some (.ok (.val d) ⟨ρ.sl, B⟩) := rfl
@[simp] theorem fin_own (ρ : S) (l : List D) (B : List Bx) : fin ρ (some (.ret (.own l) B)) = some (.ok (.own l) ⟨ρ.sl, B⟩) := rfl
@[simp] theorem fin_box (ρ : S) (n : Nat) (B : List Bx) : fin ρ (some (.ret (.box n) B)) = some (.ok (.box n) ⟨ρ.sl, B⟩) := rfl
@[simp] theorem fin_exc (ρ : S) (d : D) (B : List Bx) : fin ρ (some (.exc d B)) = some (.ex d ⟨ρ.sl, B⟩) := rfl
def bxA (a : A) (ρ1 : S) : Option (Res A) := match a with
  | .own l => some (.ok (.box ρ1.bx.length) { ρ1 with bx := ρ1.bx ++ [.lst l] })
  | _ => none
@[simp] theorem eBox_at (f : Ev) (ρ : S) : eBox f ρ = bd (f ρ) bxA := rfl
@[simp] theorem bxA_own (l : List D) (ρ : S) : bxA (.own l) ρ = some (.ok (.box ρ.bx.length) ⟨ρ.sl, ρ.bx ++ [.lst l]⟩) := rfl
/-! loops -/
@[simp] theorem sFor_at (it : S → Option (Res (List D))) (tg : D → S → Option S) (cs : List Nat) (body : Es) (ρ : S) : sFor it tg cs body ρ = bs (it ρ) fun ds ρ1 => forL tg cs body ds ρ1 := rfl
@[simp] theorem forL_nil (tg : D → S → Option S) (cs : List Nat) (body : Es) (ρ : S) : forL tg cs body [] ρ = some (.nx (clr ρ cs)) := rfl
theorem forL_cons (tg : D → S → Option S) (cs : List Nat) (body : Es) (d : D) (ds : List D) (ρ : S) : forL tg cs body (d :: ds) ρ = forG (fun ρ1 => forT (fun ρ2 => forL tg cs body ds ρ2) cs (body ρ1)) (tg d ρ) := rfl
@[simp] theorem forG_some (k : S → Option Out) (ρ : S) : forG k (some ρ) = k ρ := rfl
@[simp] theorem forT_nx (k : S → Option Out) (cs : List Nat) (ρ : S) : forT k cs (some (.nx ρ)) = k (clr ρ cs) := rfl
@[simp] theorem forT_ct (k : S → Option Out) (cs : List Nat) (ρ : S) : forT k cs (some (.ct ρ)) = k (clr ρ cs) := rfl
@[simp] theorem forT_bk (k : S → Option Out) (cs : List Nat) (ρ : S) : forT k cs (some (.bk ρ)) = some (.nx (clr ρ cs)) := rfl
@[simp] theorem forT_rt (k : S → Option Out) (cs : List Nat) (a : A) (ρ : S) : forT k cs (some (.rt a ρ)) = some (.rt a ρ) := rfl
@[simp] theorem forT_ex (k : S → Option Out) (cs : List Nat) (d : D) (ρ : S) : forT k cs (some (.ex d ρ)) = some (.ex d ρ) := rfl
@[simp] theorem gN_at (i : Nat) (d : D) (ρ : S) : gN i d ρ = some ⟨ρ.sl.set i (some (.val d)), ρ.bx⟩ := rfl
@[simp] theorem gT_tup (t : List D → S → Option S) (l : List D) (ρ : S) : gT t (.tup l) ρ = t l ρ := rfl
@[simp] theorem gNil_nil (ρ : S) : gNil [] ρ = some ρ := rfl
@[simp] theorem gCons_cons (t : D → S → Option S) (u : List D → S → Option S) (d : D) (l : List D) (ρ : S) : gCons t u (d :: l) ρ = ob (t d ρ) fun ρ1 => u l ρ1 := by unfold gCons; simp only []; cases t d ρ <;> rfl
@[simp] theorem clr_nil (ρ : S) : clr ρ [] = ρ := rfl
@[simp] theorem clr_cons (ρ : S) (i : Nat) (is : List Nat) : clr ρ (i :: is) = clr ⟨ρ.sl.set i none, ρ.bx⟩ is := rfl
def iLA (a : A) (ρ1 : S) : Option (Res (List D)) := match a with
  | .val (.lst l) => some (.ok l ρ1)
  | _ => none
@[simp] theorem iL_at (f : Ev) (ρ : S) : iL f ρ = bd (eZ f ρ) iLA := rfl
@[simp] theorem iLA_lst (l : List D) (ρ : S) : iLA (.val (.lst l)) ρ = some (.ok l ρ) := rfl
def iTA (a : A) (ρ1 : S) : Option (Res (List D)) := match a with
  | .val (.tup l) => some (.ok l ρ1)
  | _ => none
@[simp] theorem iT_at (f : Ev) (ρ : S) : iT f ρ = bd (eZ f ρ) iTA := rfl
@[simp] theorem iTA_tup (l : List D) (ρ : S) : iTA (.val (.tup l)) ρ = some (.ok l ρ) := rfl
def r1A (as : List A) (ρ1 : S) : Option (Res (List D)) := match as with
  | [.val (.int j)] => if j < 2 ^ 62 ∧ -(2 ^ 62) ≤ j then some (.ok (irg 0 j.toNat) ρ1) else none
  | _ => none
@[simp] theorem iR1_at (f : S → Option (Res (List A))) (ρ : S) : iR1 f ρ = bd (f ρ) r1A := rfl
theorem r1A_ok (j : Int) (ρ : S) (h : j < 4611686018427387904 ∧ -4611686018427387904 ≤ j) : r1A [.val (.int j)] ρ = some (.ok (irg 0 j.toNat) ρ) := if_pos h
def r2A (as : List A) (ρ1 : S) : Option (Res (List D)) := match as with
  | [.val (.int i), .val (.int j)] => if -(2 ^ 62) ≤ i ∧ i < 2 ^ 62 ∧ -(2 ^ 62) ≤ j ∧ j < 2 ^ 62 then some (.ok (irg i (j - i).toNat) ρ1) else none
  | _ => none
@[simp] theorem iR2_at (f : S → Option (Res (List A))) (ρ : S) : iR2 f ρ = bd (f ρ) r2A := rfl
theorem r2A_ok (i j : Int) (ρ : S) (h : -4611686018427387904 ≤ i ∧ i < 4611686018427387904 ∧ -4611686018427387904 ≤ j ∧ j < 4611686018427387904) : r2A [.val (.int i), .val (.int j)] ρ = some (.ok (irg i (j - i).toNat) ρ) := if_pos h
/-! comprehensions -/
@[simp] theorem eComp_at (it : S → Option (Res (List D))) (tg : D → S → Option S) (c : S → Option (Res Bool)) (e : Ev) (cs : List Nat) (ρ : S) : eComp it tg c e cs ρ = bd (it ρ) fun ds ρ1 => compR (compL tg c e cs ds (clr ρ1 cs)) := rfl
@[simp] theorem compL_nil (tg : D → S → Option S) (c : S → Option (Res Bool)) (e : Ev) (cs : List Nat) (ρ : S) : compL tg c e cs [] ρ = some (.ok [] ρ) := rfl
theorem compL_cons (tg : D → S → Option S) (c : S → Option (Res Bool)) (e : Ev) (cs : List Nat) (d : D) (ds : List D) (ρ : S) : compL tg c e cs (d :: ds) ρ = compG (fun ρ1 => compT (fun ρ2 => compL tg c e cs ds ρ2) e cs (c ρ1)) (tg d ρ) := rfl
@[simp] theorem compG_some (k : S → Option (Res (List D))) (ρ : S) : compG k (some ρ) = k ρ := rfl
@[simp] theorem compT_t (k : S → Option (Res (List D))) (e : Ev) (cs : List Nat) (ρ : S) : compT k e cs (some (.ok true ρ)) = compE k cs (eZ e ρ) := rfl
@[simp] theorem compT_f (k : S → Option (Res (List D))) (e : Ev) (cs : List Nat) (ρ : S) : compT k e cs (some (.ok false ρ)) = k (clr ρ cs) := rfl
@[simp] theorem compE_ok (k : S → Option (Res (List D))) (cs : List Nat) (x : D) (ρ : S) : compE k cs (some (.ok (.val x) ρ)) = compK k x (clr ρ cs) := rfl
theorem compK_ok {k : S → Option (Res (List D))} {x : D} {ρ ρ2 : S} {xs : List D} (h : k ρ = some (.ok xs ρ2)) : compK k x ρ = some (.ok (x :: xs) ρ2) := by unfold compK; rw [h]
theorem compR_ok (xs : List D) (ρ : S) (h : xs.length ≤ 1000000) : compR (some (.ok xs ρ)) = some (.ok (.own xs) ρ) := if_pos h
/-! boxes -/
def augB (f : Int → Int → Int) (fe : Ev) (o i : A) (ρ2 : S) : Option Out := match o, i with
  | .box n, .val (.int k) => (match look (.box n) ρ2 with
    | some (.lst l) => (match (if 0 ≤ k ∧ k < 2 ^ 62 then atI l k else none) with
      | some (.int x) => bs (fe ρ2) fun e ρ3 => (match e, look (.box n) ρ3 with
        | .val (.int y), some (.lst m) => (match ixN m.length k with
          | some j => some (.nx { ρ3 with bx := ρ3.bx.set n (.lst (m.set j (.int (f x y)))) })
          | none => none)
        | _, _ => none)
      | _ => none)
    | _ => none)
  | _, _ => none
@[simp] theorem sAugBox_at (f : Int → Int → Int) (fo fi fe : Ev) (ρ : S) : sAugBox f fo fi fe ρ = bs (fo ρ) fun o ρ1 => bs (fi ρ1) fun i ρ2 => augB f fe o i ρ2 := rfl
theorem augB_1 (f : Int → Int → Int) (y c k : Int) (n : Nat) (ρ : S) (h : ρ.bx[n]? = some (.lst [.int c, .int k])) :
    augB f (eC (.int y)) (.box n) (.val (.int 1)) ρ = some (.nx ⟨ρ.sl, ρ.bx.set n (.lst [.int c, .int (f k y)])⟩) := by
  simp [augB, h, atI, ixN]
theorem augB_0 (f : Int → Int → Int) (y k : Int) (n : Nat) (ρ : S) (h : ρ.bx[n]? = some (.lst [.int k])) :
    augB f (eC (.int y)) (.box n) (.val (.int 0)) ρ = some (.nx ⟨ρ.sl, ρ.bx.set n (.lst [.int (f k y)])⟩) := by
  simp [augB, h, atI, ixN]
/-! items of what is written out -/
section
variable {α : Type}
@[simp] theorem atI_0 (a : α) (l : List α) : atI (a :: l) 0 = some a := atI_nat (j := 0) rfl
@[simp] theorem atI_1 (a b : α) (l : List α) : atI (a :: b :: l) 1 = some b := atI_nat (j := 1) rfl
@[simp] theorem atI_2 (a b c : α) (l : List α) : atI (a :: b :: c :: l) 2 = some c := atI_nat (j := 2) rfl
@[simp] theorem atI_3 (a b c d : α) (l : List α) : atI (a :: b :: c :: d :: l) 3 = some d := atI_nat (j := 3) rfl
@[simp] theorem atI_4 (a b c d e : α) (l : List α) : atI (a :: b :: c :: d :: e :: l) 4 = some e := atI_nat (j := 4) rfl
@[simp] theorem set_at0 (a b : α) (l : List α) : (a :: l).set 0 b = b :: l := rfl
@[simp] theorem set_at1 (a b x : α) (l : List α) : (a :: b :: l).set 1 x = a :: x :: l := rfl
end
end Fm

/-! Fm.J: isinstance, exceptions held as data, built-in calls and methods. -/
namespace Fm
open PySem PySem.Spec PyProof.Rows L2

/-! ### isinstance -/
/-- a class that is asked for: a built-in type, one of the program's by its number -/
inductive Kl where
  | ty (n : String) | own (c : Nat)
def klV (cl : Nat → Addr) : Kl → Value
  | .ty n => .type n
  | .own c => .ref (cl c)
def klW (cl : Nat → Addr) : Kl → V
  | .ty n => .ty n
  | .own c => .ref (cl c)
/-- the exceptions' classes: who is under whom -/
structure ExcTab (K : PySem.W.Frag) (cl : Nat → Addr) (n : Nat) (sub : Nat → Nat → Bool) : Prop where
  kit : ∀ c c', c < n → c' < n → PySem.W.kitOne K (.ref (cl c)) (.ref (cl c')) = some (sub c c')
  kitV : ∀ c, c < n → PySem.W.kitOne K (.ref (cl c)) (.type "ValueError") = some true
  kitB : ∀ c, c < n → PySem.W.kitOne K (.ref (cl c)) (.type "bool") = some false
  exc : ∀ c, c < n → ExcC K (cl c)
  cls : ∀ c, c < n → (PySem.W.clsIn K (cl c)).isSome = true
  fld : ∀ c, c < n → XfC K (cl c)
def ktD : D → Option String
  | .non => some "NoneType"
  | .bl _ => some "bool"
  | .int _ => some "int"
  | .str _ => some "str"
  | .tup _ => some "tuple"
  | .lst _ => some "list"
  | _ => none
/-- the answer of isinstance -/
def isiD (n : Nat) (sub : Nat → Nat → Bool) : D → Kl → Option Bool
  | .exc c _ _, .own c' => if c < n ∧ c' < n then some (sub c c') else none
  | .exc c _ _, .ty t => if c < n then (if t = "ValueError" then some true else if t = "bool" then some false else none) else none
  | d, .ty t => (match ktD d with
    | some a => L2.kitB a t
    | none => none)
  | _, _ => none
/-- what isinstance needs to know of a value -/
def Kit (X : Cx) (H : Hp) (v : V) (t : Value) : Prop := ∀ (pins : List (Addr × Obj)) (σ : List (Option V)) (s : Shared) (u : Value), Inv X pins σ H s → RelV v u → ∃ P : Heap → Prop, PySem.W.KitX X.K u t P ∧ P s.heap ∧ u ≠ .builtin "__main__.__loader__#opaque"
section
variable {X : Cx} {cl : Nat → Addr} {W : WX}
theorem kit_plain {H : Hp} {d : D} {v : V} {a : String} (r : VRep (gx X cl) H d v) (h : ktD d = some a) : Kit X H v (.type a) := by
  intro pins σ s u I ru
  cases d with
  | non => cases h; rw [vnon r] at ru; exact kit_of I ru (.base .non)
  | bl b => cases h; rw [vbl r] at ru; exact kit_of I ru (.base (.bl b))
  | int i => cases h; rw [vint r] at ru; exact kit_of I ru (.base (.int i))
  | str x => cases h; rw [(vstr r).1] at ru; exact kit_of I ru (.base (.str x))
  | tup l =>
    cases h
    obtain ⟨p, vs, rfl, q, _⟩ := vtup r
    rcases q with (q | ⟨o, q⟩) | ⟨o, its, n, q, c, _⟩
    · exact kit_of I ru (.base (.tup q))
    · exact kit_of I ru (.fTuple q)
    · exact kit_of I ru (.kTuple q c)
  | lst l =>
    cases h
    obtain ⟨p, vs, rfl, q, _⟩ := vlst r
    rcases q with (q | ⟨o, q⟩) | ⟨o, its, n, q, c, _⟩
    · exact kit_of I ru (.base (.lst q))
    · exact kit_of I ru (.base (.frz q))
    · exact kit_of I ru (.kList q c)
  | _ => cases h
theorem exc_inst {H : Hp} {c : Nat} {ns : List Str} {l : List D} {v : V} {pins : List (Addr × Obj)} {σ : List (Option V)} {s : Shared} (r : Rep (gx X cl) H (.exc c ns l) v) (I : Inv X pins σ H s) :
    ∃ (a : Addr) (o : Obj) (od : Option Obj), v = .ref a ∧ PySem.W.InstAt s.heap a o (cl c) od ∧ ((od = none ∧ ns = [] ∧ l = []) ∨ ∃ (ob : Obj) (mA : Str → Option Value) (fs : List (Str × V)), od = some ob ∧ (∀ n, PySem.W.lookIn n ob = some (mA n)) ∧ (∀ f, RelO (fs.lookup f) (mA f)) ∧ fs.map (·.1) = ns ∧ RepL (gx X cl) H l (fs.map (·.2))) := by
  unfold Rep at r
  obtain ⟨a, o, u, rfl, h1, hc, ⟨fv, hf⟩, r⟩ := r
  have nc : PySem.W.notCls o = true := by unfold PySem.W.notCls; rw [hf] <;> rfl
  obtain ⟨e1, _⟩ := I.hok a _ h1
  rcases r with ⟨hd, rfl, rfl⟩ | ⟨dx, od, fs, hd, h2, rfl, t⟩
  · exact ⟨a, o, none, rfl, ⟨e1, hc, nc, by rw [hd] <;> trivial⟩, .inl ⟨rfl, rfl, rfl⟩⟩
  · obtain ⟨e2, hx⟩ := I.hok dx _ h2
    obtain ⟨mA, hns, hr⟩ : ∃ mA, s.heap.Ns1 dx mA ∧ ∀ f, RelO (fs.lookup f) (mA f) := hx
    obtain ⟨ob, ho, hl⟩ := lookIn_ns hns
    exact ⟨a, o, some ob, rfl, ⟨e1, hc, nc, by rw [hd] <;> exact ho⟩, .inr ⟨ob, mA, fs, rfl, hl, hr, rfl, t⟩⟩
theorem kit_exc {n : Nat} {sub : Nat → Nat → Bool} {H : Hp} {c : Nat} {ns : List Str} {l : List D} {v : V} (E : ExcTab X.K cl n sub) (hc : c < n) (r : VRep (gx X cl) H (.exc c ns l) v) : Kit X H v (.ref (cl c)) := by
  intro pins σ s u I ru
  obtain ⟨a, o, od, rfl, J, _⟩ := exc_inst (show Rep (gx X cl) H (.exc c ns l) v from r) I
  cases (show u = Value.ref a from ru)
  have x := E.exc c hc
  exact ⟨_, PySem.W.kitx_exc (E.cls c hc) x.hg x.hk x.hs x.ha x.hn x.ht x.hm, J, fun z => nomatch z⟩
def rIsiM (X : Cx) (cl : Nat → Addr) : List V → Hp → VK → Prop := fun xs H Q => ∃ (x : V) (k : Kl) (t : Value) (b : Bool), xs = [x, klW cl k] ∧ Kit X H x t ∧ PySem.W.kitOne X.K t (klV cl k) = some b ∧ Q (.bl b) H
theorem call_isiM : CallR X (.builtin "isinstance") (rIsiM X cl) := by
  intro pins s σ H xs us Q I r h
  obtain ⟨x, k, t, b, rfl, hk, e, q⟩ := h
  obtain ⟨u1, u2, rfl, r1, r2⟩ := vals2 r
  have e2 : u2 = klV cl k := by cases k <;> exact r2
  subst e2
  obtain ⟨P, Z, p, hx⟩ := hk pins σ s u1 I r1
  exact PySem.W.kia_one Z I.kIn p e hx fun tk => ⟨.bl b, H, I.tok tk, rfl, q⟩
theorem isi_kit {n : Nat} {sub : Nat → Nat → Bool} {H : Hp} {d : D} {v : V} {k : Kl} {b : Bool} (E : ExcTab X.K cl n sub) (r : VRep (gx X cl) H d v) (h : isiD n sub d k = some b) : ∃ t, Kit X H v t ∧ PySem.W.kitOne X.K t (klV cl k) = some b := by
  cases d with
  | exc c ns l =>
    cases k with
    | own c' =>
      have h : (if c < n ∧ c' < n then some (sub c c') else none) = some b := h
      split at h
      · rename_i hc
        cases h
        exact ⟨_, kit_exc E hc.1 r, E.kit c c' hc.1 hc.2⟩
      · cases h
    | ty t =>
      have h : (if c < n then (if t = "ValueError" then some true else if t = "bool" then some false else none) else none) = some b := h
      split at h
      · rename_i hc
        split at h
        · rename_i ht
          cases h
          exact ⟨_, kit_exc E hc r, by rw [ht]; exact E.kitV c hc⟩
        · split at h
          · rename_i ht
            cases h
            exact ⟨_, kit_exc E hc r, by rw [ht]; exact E.kitB c hc⟩
          · cases h
      · cases h
  | dct ks l => cases k <;> cases h
  | obj c ns l => cases k <;> cases h
  | non =>
    cases k with
    | own c => cases h
    | ty t => exact ⟨_, kit_plain r rfl, kit_ty h⟩
  | bl b =>
    cases k with
    | own c => cases h
    | ty t => exact ⟨_, kit_plain r rfl, kit_ty h⟩
  | int b =>
    cases k with
    | own c => cases h
    | ty t => exact ⟨_, kit_plain r rfl, kit_ty h⟩
  | str b =>
    cases k with
    | own c => cases h
    | ty t => exact ⟨_, kit_plain r rfl, kit_ty h⟩
  | tup b =>
    cases k with
    | own c => cases h
    | ty t => exact ⟨_, kit_plain r rfl, kit_ty h⟩
  | lst b =>
    cases k with
    | own c => cases h
    | ty t => exact ⟨_, kit_plain r rfl, kit_ty h⟩
/-- a class named in the text -/
def NamesK (X : Cx) (cl : Nat → Addr) (e : Expr) (k : Kl) : Prop := PE X e (tC (klW cl k))
theorem kl_ty {x : Str} {n : String} {pos : Pos} (hm : X.mg x = none) (hv : bootBuiltins x = some (.type n)) (hg : Gl X x := by rfl) (hn : x ≠ "__name__" := by decide) (hd : (x == ("__debug__" : Str)) = false := by decide) : NamesK X cl (.Name x pos) (.ty n) := pe_bltn hg hm hv rfl hn hd
theorem kl_own {x : Str} {c : Nat} {pos : Pos} (hm : X.mg x = some (.ref (cl c))) (hg : Gl X x := by rfl) (hd : (x == ("__debug__" : Str)) = false := by decide) : NamesK X cl (.Name x pos) (.own c) := pe_glob hg hm rfl hd
def gIsi (n : Nat) (sub : Nat → Nat → Bool) (k : Kl) (d : D) : Option A := match isiD n sub d k with
  | some b => some (.val (.bl b))
  | none => none
def eIsi (n : Nat) (sub : Nat → Nat → Bool) (k : Kl) (f : Ev) : Ev := eU (gIsi n sub k) f
theorem de_isi {n : Nat} {sub : Nat → Nat → Bool} {e c : Expr} {k : Kl} {f : Ev} {p pos : Pos} (E : ExcTab X.K cl n sub) (hm : X.mg "isinstance" = none) (he : DE X cl e f) (hc : NamesK X cl c k) (hg : Gl X "isinstance" := by rfl)
    (hs : starEach [e, c] X.env = (false, eval e X.env) :: starEach [c] X.env := by rfl) (hs2 : starEach [c] X.env = (false, eval c X.env) :: starEach [] X.env := by rfl) (hpl : (backTo pos (starEach [c] X.env)).any (·.1) = false := by rfl) :
    DE X cl (.Call (.Name "isinstance" p) [e, c] [] pos) (eIsi n sub k f) := ⟨fun W tk => by
  refine PE.imp (pe_callB (call_isiM (cl := cl)) hg hm PyProof.Rows.boot_isinstance (pa_cons (he.run W tk) (pa_cons hc pa_nil hs2) hs) (by decide) (by decide) hs hpl) fun σ H Q => ?_
  rintro ⟨z, rfl, rfl, s, h⟩
  refine tD_go s ((Go.bind h).imp fun a z1 e1 x1 h1 v hv => ?_)
  obtain ⟨x, rx, h2⟩ := go_l1 x1.sat hv.rep h1
  obtain ⟨c, hc, h3⟩ := go_ret h2
  unfold gIsi at hc
  cases hi : isiD n sub x k with
  | none => rw [hi] at hc; cases hc
  | some b =>
    rw [hi] at hc
    cases hc
    obtain ⟨t, k1, k2⟩ := isi_kit E rx hi
    exact ⟨v, k, t, b, rfl, k1, k2, give x1 h3 (Same.refl _) nbl⟩⟩
end
end Fm

/-! Fm.K: exceptions made as values; their fields; max, min, join. -/
namespace Fm
open PySem PySem.Spec PyProof.Rows L2

theorem Inv.frzExt {X : Cx} {pins : List (Addr × Obj)} {σ : List (Option V)} {H : Hp} {s : Shared} {a : Addr} {φ : Heap → Prop} {o : Obj} {u : HO} (I : Inv X pins σ H s) (h : H a = some (.ext φ)) (ho : s.heap.get? a = some o)
    (hu : ObjOk X.prog X.w (upd H a (.frz o u)) s.heap a u) : Inv X pins σ (upd H a (.frz o u)) s := by
  have ne : ∀ {b : Addr} {w : HO}, H b = some w → (∀ ψ, w ≠ .ext ψ) → b ≠ a := fun {b w} q n e => by
    subst e
    rw [h] at q
    exact n φ (Option.some.inj q).symm
  refine I.un (t' := s.toks) (h' := s.heap) (H' := upd H a (.frz o u)) ⟨fun b ob q _ _ _ => q, fun b ob q _ _ _ => ⟨ob.slots, q⟩, fun b ob q nn _ => ?_, fun b ob q _ => ⟨ob, q⟩, fun b ys q => ?_, fun b ob w q => ?_, fun b ps q => ⟨#[], ?_⟩⟩ fun b w q => ?_
  · rw [upd_ne (fun z => by rw [z, h] at nn; cases nn)]; exact nn
  · rw [upd_ne (ne q fun ψ z => by cases z)]; exact q
  · rw [upd_ne (ne q fun ψ z => by cases z)]; exact q
  · rw [upd_ne (ne q fun ψ z => by cases z), q]; simp
  · by_cases hb : b = a
    · subst hb
      rw [upd_same] at q
      cases q
      exact ⟨ho, hu⟩
    · rw [upd_ne hb] at q
      refine (I.hok b w q).stay (fun c v _ z => z) (fun c z => ?_) fun c ys z => ?_
      · rw [upd_ne (ne z fun ψ y => by cases y)]; exact z
      · rw [upd_ne (ne z fun ψ y => by cases y)]; exact z
/-- an exception just made is kept as it is -/
def tFx (C : Addr) (t : TE) : TE := fun σ H Q => t σ H fun v H' => ∃ a, v = .ref a ∧ H' a = some (ExO (.ref C) a) ∧ ∀ oe u, oe.cls = .ref C → oe.dict = none → (∃ fv, oe.data = .fields fv) → Q v (upd H' a (.frz oe u))
theorem pe_fx {X : Cx} {C : Addr} {e : Expr} {t : TE} (h : PE X e t) : PE X e (tFx C t) := ⟨fun pins s σ H Q I q => by
  refine thn (h.run pins s σ H _ I q) fun u s1 ⟨v, H1, I1, r1, q0⟩ => ?_
  obtain ⟨a, rfl, ha, q1⟩ := q0
  obtain ⟨⟨oe, vs, e1, ⟨z1, z2⟩, e2, e3, e4, e5⟩, _, _⟩ := I1.hok a _ ha
  refine ⟨_, _, Inv.frzExt I1 ha e1 (u := ExO (.ref C) a) ?_, r1, q1 oe _ z1 z2 ⟨vs, e2⟩⟩
  exact exO_ok e1 ⟨z1, z2⟩ e2 e3 e4 e5⟩
/-- C(e) as a value, C without an __init__ of its own -/
def eMkE (c : Nat) (f : Ev) : Ev := fun ρ => bd (f ρ) fun _ ρ1 => some (.ok (.val (.exc c [] [])) ρ1)
section
variable {X : Cx} {cl : Nat → Addr} {W : WX}
theorem de_mkE {c : Nat} {x : Str} {e : Expr} {f : Ev} {p pos : Pos} (q : PySem.W.excIn X.K (cl c) [.type "ValueError", .type "Exception", .type "BaseException", .type "object"] "ValueError.__new__" = true) (gC : X.mg x = some (.ref (cl c))) (kC : PySem.W.keepIn X.K (.ref (cl c)) = true) (he : DE X cl e f) (hg : Gl X x := by rfl)
    (hs : starEach [e] X.env = (false, eval e X.env) :: starEach [] X.env := by rfl) (hdb : (x == ("__debug__" : Str)) = false := by decide) : DE X cl (.Call (.Name x p) [e] [] pos) (eMkE c f) := ⟨fun W tk => by
  refine PE.imp (pe_fx (C := cl c) (pe_exc1 PySem.F.excBase_ValueError q gC kC hg (he.run W tk) hs hdb)) fun σ H Q => ?_
  rintro ⟨z, rfl, rfl, s, h⟩
  show tD (gx X cl) W f z.σ z.H (fun _ H1 => ∀ b, H1 b = none → ∃ a, V.ref b = .ref a ∧ upd H1 b (ExO (.ref (cl c)) b) a = some (ExO (.ref (cl c)) a) ∧ ∀ oe u, oe.cls = .ref (cl c) → oe.dict = none → (∃ fv, oe.data = .fields fv) → Q (.ref b) (upd (upd H1 b (ExO (.ref (cl c)) b)) a (.frz oe u)))
  refine tD_go s ((Go.bind h).imp fun a z1 e1 x1 h1 v hv => ?_)
  intro b nb
  refine ⟨b, rfl, upd_same, fun oe u h1' h2' h3' => ?_⟩
  have eH : upd (upd z1.H b (ExO (.ref (cl c)) b)) b (.frz oe u) = upd z1.H b (.frz oe u) := upd_upd
  rw [eH]
  refine give x1 h1 (same_new nb) ?_
  show Rep _ _ _ _
  unfold Rep
  exact ⟨b, oe, u, rfl, upd_same, h1', h3', .inl ⟨h2', rfl, rfl⟩⟩⟩

/-! ### an exception class whose __init__ keeps one field -/
def spIni (C : Addr) (n : Str) : Sp := fun vs H Q _ => ∃ (a : Addr) (v : V), vs = [.ref a, v] ∧ H a = some (exo a C none) ∧ ∀ dx, H dx = none → dx ≠ a → Q .non (upd (upd H dx (exd dx [(n, v)])) a (exo a C (some dx)))
def tFx2 (C : Addr) (t : TE) : TE := fun σ H Q => t σ H fun v H' => ∃ a dx fs, v = .ref a ∧ a ≠ dx ∧ H' a = some (exo a C (some dx)) ∧ H' dx = some (exd dx fs) ∧ ∀ oe od u, oe.cls = .ref C → oe.dict = some dx → (∃ fv, oe.data = .fields fv) → Q v (upd (upd H' a (.frz oe u)) dx (.frz od (.xd fs)))
theorem pe_fx2 {C : Addr} {e : Expr} {t : TE} (h : PE X e t) : PE X e (tFx2 C t) := ⟨fun pins s σ H Q I q => by
  refine thn (h.run pins s σ H _ I q) fun u s1 ⟨v, H1, I1, r1, q0⟩ => ?_
  obtain ⟨a, dx, fs, rfl, ne, ha, hd, q1⟩ := q0
  obtain ⟨t1, e1⟩ := exo_at I1.hok ha
  obtain ⟨mA, hns, hr⟩ := exd_at I1.hok hd
  have I2 := Inv.frzExt I1 ha e1 (u := exo a C (some dx)) (exo_ok e1)
  obtain ⟨o, es, ep, e2, rest⟩ := id hns
  have I3 := Inv.frzExt I2 (by rw [upd_ne (fun z => ne z.symm)]; exact hd) e2 (u := .xd fs) ⟨mA, hns, hr⟩
  exact ⟨_, _, I3, r1, q1 _ _ _ rfl rfl ⟨_, rfl⟩⟩⟩
structure IniOk (X : Cx) (C : Addr) (n : Str) : Prop where
  ex : ∃ (k : Nat) (fI : Addr) (fd : FuncData) (ps : List Str), FnOk X.prog X.w X.K X.mg X.base (L2.CX X.prog X.w) k fI fd ps (spIni C n) ∧ Room (k + 1) X.A ∧ Binds X.K fd ps [] ∧ OexC X.K C ∧ PySem.W.findIn X.K (.ref C) "__init__" = some (some (.ref fI)) ∧ PySem.W.typeIn X.K (.ref fI) = some (.type "function")
theorem pe_mkI {C : Addr} {n x : Str} {e : Expr} {ta : TE} {p pos : Pos} (T : IniOk X C n) (hm : X.mg x = some (.ref C)) (he : PE X e ta) (hg : Gl X x) (hx : ∀ (σ : List (Option V)), PassesAt (L2.CX X.prog X.w) X σ (fun _ _ _ => False))
    (hs : starEach [e] X.env = (false, eval e X.env) :: starEach [] X.env) (hpl : (backTo pos (starEach [] X.env)).any (·.1) = false) (hdb : (x == ("__debug__" : Str)) = false) :
    PE X (.Call (.Name x p) [e] [] pos) (fun σ H Q => ta σ H fun v H1 => ∀ a dx, H1 a = none → H1 dx = none → dx ≠ a → Q (.ref a) (upd (upd (upd H1 a (exo a C none)) dx (exd dx [(n, v)])) a (exo a C (some dx)))) := by
  obtain ⟨k, fI, fd, ps, F1, hr, hb, O, iC, tI⟩ := T.ex
  refine ⟨fun pins s σ H Q I h => ?_⟩
  obtain ⟨nm, qn, N, bs, bm, sn, sub, ab, col, dd, k0, k1, k2, k3, k5, hC, hbm⟩ := O.cls
  refine wpAny_Call_Name_kw (ld_glob I hg hm ?_ hdb)
  refine PySem.W.callWith_K (h₀ := X.base) I.ok.mod.kin O.kC (thn ((pa_cons he pa_nil hs).run pos pins s σ H (fun vs H1 => match vs with
    | [v] => ∀ a dx, H1 a = none → H1 dx = none → dx ≠ a → Q (.ref a) (upd (upd (upd H1 a (exo a C none)) dx (exd dx [(n, v)])) a (exo a C (some dx)))
    | _ => False) I ?_) fun us s1 hus => ?_) hs hpl
  · exact h
  · obtain ⟨vs, H1, I1, rv, q⟩ := hus
    obtain ⟨v, rfl⟩ : ∃ v, vs = [v] := by
      cases vs with
      | nil => exact q.elim
      | cons v r =>
        cases r with
        | nil => exact ⟨v, rfl⟩
        | cons _ _ => exact q.elim
    refine ⟨I1.kIn, ?_⟩
    obtain ⟨u, rfl, ru⟩ := vals1 rv
    obtain ⟨hp, g, dr, tk, os⟩ := s1
    have sz : hp.objs.size ≤ (hp.objs.size + 1) := Nat.le_succ _
    have na : H1 (hp.objs.size + 1) = none := I1.hok.fresh sz
    have grow : ∀ b o, hp.get? b = some o → ((hp.push (PySem.W.kdv_tup [u])).push (PySem.HandSPX.excO C hp.objs.size)).get? b = some o := fun b o e => Heap.get?_push_of_some _ (Heap.get?_push_of_some _ e)
    have there : ((hp.push (PySem.W.kdv_tup [u])).push (PySem.HandSPX.excO C hp.objs.size)).get? (hp.objs.size + 1) = some (PySem.HandSPX.excO C hp.objs.size) := by heap_get
    have I2 : Inv X pins σ (upd H1 (hp.objs.size + 1) (exo (hp.objs.size + 1) C none)) ⟨(hp.push (PySem.W.kdv_tup [u])).push (PySem.HandSPX.excO C hp.objs.size), g, dr, tk, os⟩ :=
      I1.laid (t' := tk) (a := hp.objs.size + 1) (o := exo (hp.objs.size + 1) C none) (h' := (hp.push (PySem.W.kdv_tup [u])).push (PySem.HandSPX.excO C hp.objs.size)) grow sz (exo_ok there)
    have sp : spIni C n [.ref (hp.objs.size + 1), v] (upd H1 (hp.objs.size + 1) (exo (hp.objs.size + 1) C none)) (fun w H2 => w = .non ∧ Q (.ref (hp.objs.size + 1)) H2) (fun _ _ _ => False) :=
      ⟨(hp.objs.size + 1), v, rfl, upd_same, fun dx nd ne => ⟨rfl, q (hp.objs.size + 1) dx na (by rw [upd_ne ne] at nd; exact nd) ne⟩⟩
    have rr : Vals [V.ref (hp.objs.size + 1), v] [Value.ref (hp.objs.size + 1), u] := .cons rfl (.cons ru .nil)
    have hl : ([Value.ref (hp.objs.size + 1), u] ++ []).length = ps.length := by
      have e := rr.length
      rw [F1.len _ _ _ _ sp] at e
      exact e.symm
    have bb := hb ⟨(hp.push (PySem.W.kdv_tup [u])).push (PySem.HandSPX.excO C hp.objs.size), g, dr, tk, os⟩ [Value.ref (hp.objs.size + 1), u] I2.kIn hl
    rw [List.append_nil] at bb
    refine wpAny_call (PySem.HandSPX.call_own F.excBase_ValueError (fun Y => PySem.HandSPX.refsVE_contains Y bm hbm) (I1.kIn _ _ hC) (PySem.W.looks_findIn I1.kIn iC) (fun self => PySem.W.bind_fn I1.kIn self tI) (by show 1 ≤ sizeLine; rw [sizeLine_eq]; omega)
      (codeAny_mono (F1.run _ X.stack _ _ ⟨[Value.ref (hp.objs.size + 1), u], []⟩ [Value.ref (hp.objs.size + 1), u] _ _ _ (hr.make C [u] []) (I2.env0.make C [u] []) bb rr sp) fun r s' hq => ?_))
    cases r with
    | error er => exact hx σ pins _ _ er s' I2 hq
    | ok fl =>
      cases fl with
      | ret w =>
        obtain ⟨w', H2, I3, rw', ew, q3⟩ := I2.after hq
        subst ew
        exact ⟨rw', ⟨.ref (hp.objs.size + 1), H2, I3, rfl, q3⟩⟩
      | next => exact False.elim hq
      | brk => exact False.elim hq
      | cont => exact False.elim hq
/-- C(e) as a value, C's __init__ keeping the field n -/
def eMkI (c : Nat) (n : Str) (f : Ev) : Ev := fun ρ => bd (eZ f ρ) fun a ρ1 => match a with
  | .val d => some (.ok (.val (.exc c [n] [d])) ρ1)
  | _ => none
theorem de_mkI {c : Nat} {n x : Str} {e : Expr} {f : Ev} {p pos : Pos} (T : IniOk X (cl c) n) (hm : X.mg x = some (.ref (cl c))) (he : DE X cl e f) (hg : Gl X x := by rfl) (hs : starEach [e] X.env = (false, eval e X.env) :: starEach [] X.env := by rfl)
    (hpl : (backTo pos (starEach [] X.env)).any (·.1) = false := by rfl) (hdb : (x == ("__debug__" : Str)) = false := by decide) : DE X cl (.Call (.Name x p) [e] [] pos) (eMkI c n f) := ⟨fun W tk => by
  have no : ∀ (σ : List (Option V)), PassesAt (L2.CX X.prog X.w) X σ (fun _ _ _ => False) := fun σ pins H s e s' I h => by
    obtain ⟨_, _, _, _, _, _, _, _, _, _, _, _, w⟩ := h
    exact w.elim
  refine PE.imp (pe_fx2 (C := cl c) (pe_mkI T hm ((de_fz he).run W tk) hg no hs hpl hdb)) fun σ H Q => ?_
  rintro ⟨z, rfl, rfl, s, h⟩
  show tD (gx X cl) W (eZ f) z.σ z.H (fun v H1 => ∀ b dx, H1 b = none → H1 dx = none → dx ≠ b → ∃ a dy fs, V.ref b = .ref a ∧ a ≠ dy ∧ upd (upd (upd H1 b (exo b (cl c) none)) dx (exd dx [(n, v)])) b (exo b (cl c) (some dx)) a = some (exo a (cl c) (some dy)) ∧
    upd (upd (upd H1 b (exo b (cl c) none)) dx (exd dx [(n, v)])) b (exo b (cl c) (some dx)) dy = some (exd dy fs) ∧ ∀ oe od u, oe.cls = .ref (cl c) → oe.dict = some dy → (∃ fv, oe.data = .fields fv) →
      Q (.ref b) (upd (upd (upd (upd (upd H1 b (exo b (cl c) none)) dx (exd dx [(n, v)])) b (exo b (cl c) (some dx))) a (.frz oe u)) dy (.frz od (.xd fs))))
  refine tD_go s ((Go.bind h).imp fun a z1 e1 x1 h1 v hv => ?_)
  intro b dx nb nd ne
  cases a with
  | val d =>
    refine ⟨b, dx, [(n, v)], rfl, fun e => ne e.symm, upd_same, by rw [upd_ne ne, upd_same], fun oe od u h1' h2' h3' => ?_⟩
    have hd : Rep (gx X cl) z1.H d v := hv.rep
    have sm : Same z1.H (upd (upd (upd (upd (upd z1.H b (exo b (cl c) none)) dx (exd dx [(n, v)])) b (exo b (cl c) (some dx))) b (.frz oe u)) dx (.frz od (.xd [(n, v)]))) := fun q o hq => by
      have q1 : q ≠ b := ne_of_none hq nb
      have q2 : q ≠ dx := ne_of_none hq nd
      rw [upd_ne q2, upd_ne q1, upd_ne q1, upd_ne q2, upd_ne q1]
      exact hq
    refine give x1 h1 sm ?_
    show Rep _ _ _ _
    unfold Rep
    exact ⟨b, oe, u, rfl, by rw [upd_ne (fun e => ne e.symm), upd_same], h1', h3', .inr ⟨dx, od, [(n, v)], h2', upd_same, rfl, .one (Rep.lasts (.same sm) hd)⟩⟩
  | _ => exact (go_none h1).elim⟩
/-- a field of an exception -/
def gXf (n : Str) : D → Option A
  | .exc _ ns l => (match (ns.zip l).lookup n with
    | some d => some (.val d)
    | none => none)
  | _ => none
theorem lookup_zip {n : Str} {G : Cg} {H : Hp} {d : D} : ∀ {fs : List (Str × V)} {l : List D}, RepL G H l (fs.map (·.2)) → ((fs.map (·.1)).zip l).lookup n = some d → ∃ v, fs.lookup n = some v ∧ Rep G H d v
  | [], _, _, h => by cases h
  | (m, v) :: fs, l, r, h => by
    cases l with
    | nil => cases h
    | cons e l =>
      unfold RepL at r
      obtain ⟨w, ws, e1, r1, r2⟩ := r
      cases e1
      have h : (match n == m with
        | true => some e
        | false => ((fs.map (·.1)).zip l).lookup n) = some d := h
      show ∃ v', (match n == m with
        | true => some v
        | false => fs.lookup n) = some v' ∧ _
      cases q : n == m with
      | true =>
        rw [q] at h
        cases h
        exact ⟨v, rfl, r1⟩
      | false =>
        rw [q] at h
        exact lookup_zip r2 h
theorem de_xf {n : Nat} {sub : Nat → Nat → Bool} {nm : Str} {e : Expr} {f : Ev} {pos : Pos} (E : ExcTab X.K cl n sub) (hno : ∀ c, c < n → PySem.W.findIn X.K (.ref (cl c)) nm = some none) (he : DE X cl e f) (hb : attributeBase e nm X.env (eval e X.env) = eval e X.env := by rfl) :
    DE X cl (.Attribute e nm pos) (eU (fun d => match d with
      | .exc c ns l => if c < n then gXf nm (.exc c ns l) else none
      | _ => none) f) := ⟨fun W tk => ⟨fun pins s σ H Q I h => by
  obtain ⟨z, rfl, rfl, sz, h⟩ := h
  refine attr_of hb (thn ((he.run W tk).run pins s z.σ z.H (fun v H1 => ∃ c ns l d, c < n ∧ VRep (gx X cl) H1 (.exc c ns l) v ∧ gXf nm (.exc c ns l) = some (.val d) ∧ ∀ w, Rep (gx X cl) H1 d w → Q w H1) I ?_) fun u s1 hu => ?_)
  · refine tD_go sz ((Go.bind h).imp fun a z1 e1 x1 h1 v hv => ?_)
    obtain ⟨x, rx, h2⟩ := go_l1 x1.sat hv.rep h1
    obtain ⟨k, hk, h3⟩ := go_ret h2
    cases x with
    | exc c ns l =>
      have hk : (if c < n then gXf nm (.exc c ns l) else none) = some k := hk
      split at hk
      · rename_i hc
        have hk2 := hk
        unfold gXf at hk2
        simp only at hk2
        split at hk2
        · rename_i d hd
          cases hk2
          exact ⟨c, ns, l, d, hc, rx, hk, fun w r => give x1 h3 (Same.refl _) r⟩
        · cases hk2
      · cases hk
    | _ => cases hk
  · obtain ⟨v, H1, I1, rv, c, ns, l, d, hc, rx, hd, q⟩ := hu
    obtain ⟨a, o, od, rfl, J, hod⟩ := exc_inst (show Rep (gx X cl) H1 (.exc c ns l) v from rx) I1
    obtain rfl : u = Value.ref a := rv
    rcases hod with ⟨_, rfl, rfl⟩ | ⟨ob, mA, fs, rfl, hl, hr, rfl, rl⟩
    · cases hd
    · unfold gXf at hd
      simp only at hd
      split at hd
      · rename_i d' hd'
        cases hd
        obtain ⟨w, e1, r1⟩ := lookup_zip rl hd'
        obtain ⟨u1, e2, ru⟩ := RelO.some_of (v := w) (o := mA nm) (by rw [← e1]; exact hr nm)
        have T := E.fld c hc
        exact HandSPX.exc_get I1.kIn J T.ga T.gg T.exC (PySem.W.findObj_own T.hdC (hno c hc) rfl (by rw [hl, e2])) (handed_of ru) ⟨w, H1, I1.tok _, ru, q w r1⟩
      · cases hd⟩⟩
/-! ### max, min, join -/
def gMax : List D → Option A
  | [.int i, .int j] => some (.val (.int (if j > i then j else i)))
  | _ => none
def gMin : List D → Option A
  | [.int i, .int j] => some (.val (.int (if j < i then j else i)))
  | _ => none
theorem gMax_ok {G : Cg} : OpV G (fun xs H Q => ∃ i j, xs = [.int i, .int j] ∧ Q (.int (if j > i then j else i)) H) gMax := by
  intro H l vs c Q r h q
  unfold gMax at h
  split at h
  · cases h
    cases r with
    | cons r1 t =>
      cases t with
      | cons r2 t =>
        cases t
        exact ⟨_, _, by rw [vint r1, vint r2], q _ _ (Same.refl _) nint⟩
  · cases h
theorem gMin_ok {G : Cg} : OpV G (fun xs H Q => ∃ i j, xs = [.int i, .int j] ∧ Q (.int (if j < i then j else i)) H) gMin := by
  intro H l vs c Q r h q
  unfold gMin at h
  split at h
  · cases h
    cases r with
    | cons r1 t =>
      cases t with
      | cons r2 t =>
        cases t
        exact ⟨_, _, by rw [vint r1, vint r2], q _ _ (Same.refl _) nint⟩
  · cases h
theorem de_max {a b : Expr} {f : S → Option (Res (List A))} {p pos : Pos} (hc : X.calm = true) (hm : X.mg "max" = none) (ha : DB X cl [a, b] f) (hgl : Gl X "max" := by rfl) (he : starEach [a, b] X.env = (false, eval a X.env) :: starEach [b] X.env := by rfl) (hpl : (backTo pos (starEach [b] X.env)).any (·.1) = false := by rfl) :
    DE X cl (.Call (.Name "max" p) [a, b] [] pos) (eNB gMax f) := de_callB (call_max2 hc) gMax_ok hm ha hgl PyProof.Rows.boot_max (by decide) (by decide) he hpl
theorem de_min {a b : Expr} {f : S → Option (Res (List A))} {p pos : Pos} (hc : X.calm = true) (hm : X.mg "min" = none) (ha : DB X cl [a, b] f) (hgl : Gl X "min" := by rfl) (he : starEach [a, b] X.env = (false, eval a X.env) :: starEach [b] X.env := by rfl) (hpl : (backTo pos (starEach [b] X.env)).any (·.1) = false := by rfl) :
    DE X cl (.Call (.Name "min" p) [a, b] [] pos) (eNB gMin f) := de_callB (call_min2 hc) gMin_ok hm ha hgl PyProof.Rows.boot_min (by decide) (by decide) he hpl
/-- a text's method -/
def eSM (g : Str → List D → Option A) (fo : Ev) (fa : S → Option (Res (List A))) : Ev := fun ρ => bd (fo ρ) fun a ρ1 => match a with
  | .val (.str z) => bd (fa ρ1) fun as ρ2 => (match looks as ρ2 with
    | some l => ret ρ2 (g z l)
    | none => none)
  | _ => none
def OpS (G : Cg) (r : V → List V → Hp → VK → Prop) (g : Str → List D → Option A) : Prop := ∀ (H : Hp) (z : Str) (l : List D) (vs : List V) (c : A) (Q : VK), PyData.strOk z = true → Paired (VRep G H) l vs → g z l = some c → (∀ w H', Same H H' → NRep G H H' c w → Q w H') → r (.str z) vs H Q
theorem de_sm {o e : Expr} {es : List Expr} {name : Str} {apos cpos : Pos} {id : String} {r : V → List V → Hp → VK → Prop} {g : Str → List D → Option A} {fo : Ev} {fa : S → Option (Res (List A))} (slot : Slot "str" name id) (hty : typeOf (.builtin id) = pure (.type "method_descriptor")) (hm : MtR X id r) (hg : OpS (gx X cl) r g) (ho : DE X cl o fo) (ha : DB X cl (e :: es) fa)
    (hbase : attributeBase o name X.env (eval o X.env) = eval o X.env := by rfl)
    (hfew : ((backTo cpos (starEach (e :: es) X.env)).all (fun x => !x.1) && (backToKw cpos (keywordEach [] X.env)).all (fun x => x.1.isSome)
      && decide ((e :: es).length + ([] : List Keyword).length + (if ([] : List Keyword).isEmpty then 0 else 1) < 30)) = true := by rfl)
    (hline : (apos.endLine == cpos.line) = true := by rfl) (hs : starEach (e :: es) X.env = (false, eval e X.env) :: starEach es X.env := by rfl) (hplain : (backTo cpos (starEach es X.env)).any (·.1) = false := by rfl) :
    DE X cl (.Call (.Attribute o name apos) (e :: es) [] cpos) (eSM g fo fa) := ⟨fun W tk => PE.imp (pe_bm PySem.F.plainAttrs_str slot hty hm (ho.run W tk) (ha.run W tk) hbase hfew hline hs hplain) fun σ H Q => by
  rintro ⟨z, rfl, rfl, s, h⟩
  refine tD_go s ((Go.bind h).imp fun a z1 e1 x1 h1 v hv => ?_)
  cases a with
  | val d =>
    cases d with
    | str x =>
      obtain ⟨rfl, ok⟩ := vstr (VRep.of (show Rep (gx X cl) z1.H (.str x) v from hv.rep))
      refine ⟨rfl, ?_⟩
      rw [← e1]
      refine ⟨z1, rfl, rfl, x1.sat, (Go.bind h1).imp fun as z2 e2 x2 h2 vs hvs => ?_⟩
      cases e : looks as z2.ρ with
      | none =>
        rw [e] at h2
        exact (go_none h2).elim
      | some l =>
        rw [e] at h2
        obtain ⟨c, hc, h3⟩ := go_ret h2
        exact hg _ x l vs c Q ok (looks_rep x2.sat hvs e) hc fun w H' sm n => give (x1.trans x2) (h3.imp fun a z' _ x' p q => p (x2.trans x') q) sm n
    | _ => exact (go_none h1).elim
  | _ => exact (go_none h1).elim⟩
/-- all are texts -/
def txs : List D → Option (List Str)
  | [] => some []
  | .str x :: r => (match txs r with
    | some l => some (x :: l)
    | none => none)
  | _ => none
theorem txs_rep {G : Cg} {H : Hp} : ∀ {l : List D} {vs : List V} {ys : List Str}, RepL G H l vs → txs l = some ys → vs = ys.map V.str ∧ ∀ y ∈ ys, PyData.strOk y = true
  | [], vs, ys, r, h => by
    cases h
    unfold RepL at r
    subst r
    exact ⟨rfl, fun y hy => by cases hy⟩
  | d :: l, vs, ys, r, h => by
    cases d with
    | str x =>
      unfold RepL at r
      obtain ⟨v, ws, rfl, r1, r2⟩ := r
      unfold txs at h
      cases e : txs l with
      | none => rw [e] at h; cases h
      | some m =>
        rw [e] at h
        cases h
        obtain ⟨h1, h2⟩ := txs_rep r2 e
        unfold Rep at r1
        refine ⟨by rw [r1.1, h1]; rfl, fun y hy => ?_⟩
        rcases List.mem_cons.mp hy with rfl | hy
        · exact r1.2
        · exact h2 y hy
    | _ => cases h
def gJoin (z : Str) : List D → Option A
  | [.lst l] => (match txs l with
    | some ys => if (ys.map (·.length)).sum + ys.length * z.length ≤ 16777216 ∧ PyData.strOk (Txt.join z ys) = true then some (.val (.str (Txt.join z ys))) else none
    | none => none)
  | _ => none
theorem gJoin_ok {X : Cx} {cl : Nat → Addr} : OpS (gx X cl) (fun x xs H Q => ∃ a p, ∃ ys : List Str, x = .str a ∧ xs = [.ref p] ∧ (SqL X.K H p (ys.map V.str) ∨ SqT X.K H p (ys.map V.str)) ∧
    (ys.map (·.length)).sum + ys.length * a.length ≤ 16777216 ∧ Q (.str (Txt.join a ys)) H) gJoin := by
  intro H z l vs c Q ok r h q
  unfold gJoin at h
  split at h
  · rename_i m
    cases r with
    | cons r1 t =>
      cases t
      obtain ⟨p, ws, rfl, h1, r2⟩ := vlst r1
      split at h
      · rename_i ys hy
        split at h
        · rename_i hc
          cases h
          obtain ⟨rfl, _⟩ := txs_rep r2 hy
          exact ⟨z, p, ys, rfl, rfl, .inl h1, hc.1, q _ _ (Same.refl _) (nstr hc.2)⟩
        · cases h
      · cases h
  · cases h
theorem de_join {o e : Expr} {apos cpos : Pos} {fo : Ev} {fa : S → Option (Res (List A))} (ho : DE X cl o fo) (ha : DB X cl [e] fa)
    (hbase : attributeBase o "join" X.env (eval o X.env) = eval o X.env := by rfl)
    (hfew : ((backTo cpos (starEach [e] X.env)).all (fun x => !x.1) && (backToKw cpos (keywordEach [] X.env)).all (fun x => x.1.isSome)
      && decide ([e].length + ([] : List Keyword).length + (if ([] : List Keyword).isEmpty then 0 else 1) < 30)) = true := by rfl)
    (hline : (apos.endLine == cpos.line) = true := by rfl) (hs : starEach [e] X.env = (false, eval e X.env) :: starEach [] X.env := by rfl) (hplain : (backTo cpos (starEach [] X.env)).any (·.1) = false := by rfl) :
    DE X cl (.Call (.Attribute o "join" apos) [e] [] cpos) (eSM gJoin fo fa) := de_sm PySem.F.slot_str_join PySem.F.type_str_join mt_join gJoin_ok ho ha hbase hfew hline hs hplain
end
end Fm

/-! Fm.L: the head's facts, defs by names, the law's end. -/
namespace Fm
open PySem PySem.Spec PyProof.Rows L2

/-! ### what the head tells -/
/-- the classes by number -/
def clK (cs : List Str) (K : PySem.W.Frag) (c : Nat) : Addr := He.ga K (cs.getD c Str.empty)
structure Fx (fa : List He.Fa) (fn : List He.DefD) (exs : List (PySem.W.Frag → Bool)) (K : PySem.W.Frag) (mg : Str → Option Value) : Prop where
  d : He.SaysD fa fn K
  more : (exs.all fun b => b K) = true
  glo : ∀ x, (He.Fa.glo x).ok K = true → mg x = some (.ref (He.ga K x))
  free : ∀ x, (He.Fa.free x).ok K = true → mg x = none
  int : ∀ x i, (He.Fa.int x i).ok K = true → ∃ t, mg x = some (.int i t)
  str : ∀ x z, (He.Fa.str x z).ok K = true → ∃ t, mg x = some (.str z t)
section
variable {fa : List He.Fa} {fn : List He.DefD} {exs : List (PySem.W.Frag → Bool)} {K : PySem.W.Frag} {mg : Str → Option Value}
theorem Fx.of {h : Heap} (X : K.In h) (G : h.Ns mainGlobals mg) (c : He.SaysD fa fn K) (m : (exs.all fun b => b K) = true) : Fx fa fn exs K mg :=
  ⟨c, m, fun _ q => He.glo_ok X G q, fun _ q => He.free_ok X G q, fun _ _ q => He.int_ok X G q, fun _ _ q => He.str_ok X G q⟩
theorem Fx.g (F : Fx fa fn exs K mg) (i : Nat) {x : Str} (h : fa[i]? = some (.glo x) := by rfl) : mg x = some (.ref (He.ga K x)) := F.glo x (F.d.fact i h)
theorem Fx.fr (F : Fx fa fn exs K mg) (i : Nat) {x : Str} (h : fa[i]? = some (.free x) := by rfl) : mg x = none := F.free x (F.d.fact i h)
theorem Fx.i (F : Fx fa fn exs K mg) (i : Nat) {x : Str} {n : Int} (h : fa[i]? = some (.int x n) := by rfl) : ∃ t, mg x = some (.int n t) := F.int x n (F.d.fact i h)
theorem Fx.s (F : Fx fa fn exs K mg) (i : Nat) {x z : Str} (h : fa[i]? = some (.str x z) := by rfl) : ∃ t, mg x = some (.str z t) := F.str x z (F.d.fact i h)
theorem Fx.ex (F : Fx fa fn exs K mg) (i : Nat) {b : PySem.W.Frag → Bool} (h : exs[i]? = some b := by rfl) : b K = true := List.all_eq_true.mp F.more b (List.mem_of_getElem? h)
theorem Fx.def_ (F : Fx fa fn exs K mg) (i : Nat) {d : He.DefD} (h : fn[i]? = some d := by rfl) : ∃ fd, FunD K d.name d.qual d.params d.body d.scope (d.dvs K) (d.kws K) (He.fAd K d.at_) fd := F.d.def_ i h
end
/-! ### the exceptions' table, from a Bool -/
def excB (cs : List Str) (n : Nat) (sub : Nat → Nat → Bool) (K : PySem.W.Frag) : Bool :=
  ((List.range n).all fun c => (List.range n).all fun c' => decide (PySem.W.kitOne K (.ref (clK cs K c)) (.ref (clK cs K c')) = some (sub c c'))) &&
  ((List.range n).all fun c => decide (PySem.W.kitOne K (.ref (clK cs K c)) (.type "ValueError") = some true)) &&
  ((List.range n).all fun c => decide (PySem.W.kitOne K (.ref (clK cs K c)) (.type "bool") = some false)) &&
  ((List.range n).all fun c => (PySem.W.clsIn K (clK cs K c)).isSome) &&
  ((List.range n).all fun c => xfB K (clK cs K c)) &&
  ((List.range n).all fun c => decide (PySem.W.findIn K (.ref (clK cs K c)) "__class__" = some (some (.builtin "object.__class__"))) && decide (PySem.W.mroIn K (clK cs K c) (.type "object") = some true)) &&
  (decide (PySem.W.specialIn K (.builtin "object.__class__") "__get__" = some (some (.builtin "getset_descriptor.__get__"))) && decide (PySem.W.takesIn K (.builtin "object.__class__") = some true))
theorem range_all {n : Nat} {p : Nat → Bool} (h : (List.range n).all p = true) {c : Nat} (hc : c < n) : p c = true := List.all_eq_true.mp h c (List.mem_range.mpr hc)
theorem excB_ok {cs : List Str} {n : Nat} {sub : Nat → Nat → Bool} {K : PySem.W.Frag} (h : excB cs n sub K = true) : ExcTab K (clK cs K) n sub := by
  unfold excB at h
  obtain ⟨h, h8⟩ := Bool.and_eq_true_iff.mp h
  obtain ⟨h, h6⟩ := Bool.and_eq_true_iff.mp h
  obtain ⟨h, h5⟩ := Bool.and_eq_true_iff.mp h
  obtain ⟨h, h4⟩ := Bool.and_eq_true_iff.mp h
  obtain ⟨h, h3⟩ := Bool.and_eq_true_iff.mp h
  obtain ⟨h1, h2⟩ := Bool.and_eq_true_iff.mp h
  obtain ⟨h8, h9⟩ := Bool.and_eq_true_iff.mp h8
  refine ⟨fun c c' a b => of_decide_eq_true (range_all (range_all h1 a) b), fun c a => of_decide_eq_true (range_all h2 a), fun c a => of_decide_eq_true (range_all h3 a), fun c a => ?_, fun c a => range_all h4 a, fun c a => xfB_ok (range_all h5 a)⟩
  obtain ⟨ga, gg, ex, hd⟩ := xfB_ok (range_all h5 a)
  obtain ⟨k1, k2⟩ := Bool.and_eq_true_iff.mp (range_all h6 a)
  exact ⟨ga, gg, ex, hd, of_decide_eq_true k1, of_decide_eq_true h8, of_decide_eq_true h9, of_decide_eq_true k2⟩

/-! ### a def of the text -/
structure FnT (P : Program) (w : World) (K : PySem.W.Frag) (mg : Str → Option Value) (base : Heap) (cl : Nat → Addr) (k : Nat) (x : Str) (n : Nat) (φ : Fn) : Prop where
  ex : ∃ (f : Addr) (fd : FuncData) (ps : List Str), FnOk P w K mg base (L2.CX P w) k f fd ps (spD ⟨K, cl⟩ n φ) ∧ ps.length = n ∧ mg x = some (.ref f) ∧ PySem.W.keepIn K (.ref f) = true ∧ Binds K fd ps []
section
variable {P : Program} {w : World} {K : PySem.W.Frag} {mg : Str → Option Value} {base : Heap} {cl : Nat → Addr}
theorem FnT.at {k j : Nat} {x : Str} {n : Nat} {φ : Fn} {N : List Str} {q : Str} {sc : Scope} {f : Addr} {cdv : Value} {A : Around} {outer : List Env} {s : Shared} {H : Hp} {E : XK} (T : FnT P w K mg base cl k x n φ) (hr : Room j (A.deeper (envOfC q sc s.heap.objs.size f cdv))) (hk : k ≤ j := by decide) :
    Def (cxOf (L2.CX P w) P w K mg base N q sc f cdv A outer s H E) cl x n φ := by
  obtain ⟨f', fd, ps, h1, h2, h3, h4, h5⟩ := T.ex
  exact ⟨⟨k, f', fd, ps, h1, h2, hr.mono hk, h3, h4, h5⟩⟩
theorem FnT.on {X : Cx} {k j : Nat} {x : Str} {n : Nat} {φ : Fn} (T : FnT X.prog X.w X.K X.mg X.base cl k x n φ) (hr : Room j X.A) (hk : k ≤ j := by decide) : Def X cl x n φ := by
  obtain ⟨f', fd, ps, h1, h2, h3, h4, h5⟩ := T.ex
  exact ⟨⟨k, f', fd, ps, h1, h2, hr.mono hk, h3, h4, h5⟩⟩
theorem fnT {x : Str} {st : Stmt} {N ps : List Str} {k : Nat} {φ : Fn} {g : Es} {dvs : List V} {kws : List (Str × V)} {f : Addr} (F : ∃ fd, FunD K x x (defArgs st) (defBody st) (defScope st) dvs kws f fd) (gm : mg x = some (.ref f)) (S : FnScope N ps (defScope st)) (hp : ps.length ≤ N.length)
    (hb : ∀ fd, FunD K x x (defArgs st) (defBody st) (defScope st) dvs kws f fd → Binds K fd ps [])
    (body : ∀ (cdv : Value) (A : Around) (outer : List Env) (s : Shared) (H : Hp) (E : XK), Room k (A.deeper (envOfC x (defScope st) s.heap.objs.size f cdv)) →
      PassesOwn (model P w) (A.deeper (envOfC x (defScope st) s.heap.objs.size f cdv)) (envOfC x (defScope st) s.heap.objs.size f cdv) (cxOf (L2.CX P w) P w K mg base N x (defScope st) f cdv A outer s H E).xe →
      DSs (cxOf (L2.CX P w) P w K mg base N x (defScope st) f cdv A outer s H E) cl (defBody st) g)
    (sem : ∀ as B r, as.length = ps.length → φ as B = some r → nbRes (g ⟨slots N.length as, B⟩) ∧ fnRes (g ⟨slots N.length as, B⟩) = some r) :
    FnT P w K mg base cl (k + 1) x ps.length φ := by
  obtain ⟨fd, F⟩ := F
  exact ⟨f, fd, ps, okD F S hp body sem, rfl, gm, F.kp, hb fd F⟩
/-! ### the law -/
def spLaw (K : PySem.W.Frag) : Sp := fun vs H Q _ => ∃ (a : Addr) (ns : List Int), vs = [.ref a] ∧ ns.length ≤ 63 ∧ Only H ∧ SqL K H a (ns.map V.int) ∧ ∀ H', Q (.bl true) H'
theorem repL_ints {G : Cg} {H : Hp} : ∀ ns : List Int, RepL G H (ns.map D.int) (ns.map V.int)
  | [] => RepL.nil
  | n :: ns => RepL.cons (by unfold Rep; rfl) (repL_ints ns)
theorem no_bx {i : Nat} {a : Bx} (h : ([] : List Bx)[i]? = some a) : False := by
  rw [List.getElem?_nil] at h
  cases h
theorem no_ownAt {T : List Addr} {B : List Bx} {σ : List (Option V)} {H : Hp} {a : Addr} (h : OwnAt ⟨T, ⟨[], B⟩, σ, H⟩ a) : False := by
  obtain ⟨i, l, h, _⟩ := h
  exact no_slot h
theorem law_end {k : Nat} {f : Addr} {fd : FuncData} {ps : List Str} {φ : Fn} (F : FnOk P w K mg base (L2.CX P w) k f fd ps (spD ⟨K, cl⟩ 1 φ)) (h : ∀ ns : List Int, ns.length ≤ 63 → ∃ B, φ [.val (.lst (ns.map D.int))] [] = some (.ret (.val (.bl true)) B)) :
    FnOk P w K mg base (L2.CX P w) k f fd ps (spLaw K) := by
  refine F.imp fun vs H Q E => ?_
  rintro ⟨a, ns, rfl, hl, hO, hS, q⟩
  obtain ⟨B, hB⟩ := h ns hl
  refine ⟨⟨[], ⟨[], []⟩, [], H⟩, rfl, rfl, rfl, ⟨rfl, fun i a h => (no_slot h).elim, rfl, fun i b a h => (no_bx h).elim, List.nodup_nil, fun a f => (no_ownAt f).elim, fun i j l m a h => (no_slot h).elim⟩, [.val (.lst (ns.map D.int))], rfl, .cons ?_ .nil, _, hB, ?_⟩
  · show Rep _ _ _ _
    unfold Rep
    refine ⟨a, _, rfl, ?_, repL_ints ns⟩
    rcases hS with (hS | hS) | hS
    · rcases hO a with e | ⟨o, xs, e⟩
      · rw [e] at hS; cases hS
      · rw [e] at hS; cases hS
    · exact .inl hS
    · exact .inr hS
  · intro v z' _ _ _ ra
    have e := ra.rep
    have e : Rep ⟨K, cl⟩ z'.H (.bl true) v := e
    unfold Rep at e
    rw [e]
    exact q _
end
/-! ### global names -/
section
variable {X : Cx} {cl : Nat → Addr}
def eG (d : D) : Ev := eC d
theorem de_gint {x : Str} {i : Int} {pos : Pos} (hm : ∃ t, X.mg x = some (.int i t)) (hg : Gl X x := by rfl) (hd : (x == ("__debug__" : Str)) = false := by decide) : DE X cl (.Name x pos) (eC (.int i)) := ⟨fun W tk => by
  obtain ⟨t, hm⟩ := hm
  exact (de_const (pe_glob (v := .int i) hg hm ⟨t, rfl⟩ hd) fun _ _ => by unfold Rep; rfl).run W tk⟩
theorem de_gstr {x z : Str} {pos : Pos} (ok : PySem.PyData.strOk z = true) (hm : ∃ t, X.mg x = some (.str z t)) (hg : Gl X x := by rfl) (hd : (x == ("__debug__" : Str)) = false := by decide) : DE X cl (.Name x pos) (eC (.str z)) := ⟨fun W tk => by
  obtain ⟨t, hm⟩ := hm
  exact (de_const (pe_glob (v := .str z) hg hm ⟨t, rfl⟩ hd) fun _ _ => by unfold Rep; exact ⟨rfl, ok⟩).run W tk⟩
/-- a value of the text's own (a tuple at the top, ..) -/
theorem de_gref {x : Str} {a : Addr} {d : D} {pos : Pos} (hr : ∀ H, Rep (gx X cl) H d (.ref a)) (hm : X.mg x = some (.ref a)) (hg : Gl X x := by rfl) (hd : (x == ("__debug__" : Str)) = false := by decide) : DE X cl (.Name x pos) (eC d) :=
  ⟨fun W tk => PE.imp (pe_glob (v := .ref a) hg hm rfl hd) fun σ H Q => by
    rintro ⟨z, rfl, rfl, s, h⟩
    exact h.pure s (.ref a) ⟨hr _, trivial⟩⟩
end
end Fm

/-! Fm.M: chains, iterables of any kind, the __init__ of an exception; loops with an invariant. -/
namespace Fm
open PySem PySem.Spec PyProof.Rows L2

theorem Go.later {α : Type} {G : Cg} {W : WX} {z z2 : Z} {r : Option (Res α)} {P : α → Z → Prop} (h : Go G W z r P) (x : After G z z2) (e : z2.σ = z.σ) : Go G W z2 r P := by
  obtain ⟨r', er, q⟩ := h
  refine ⟨r', er, ?_⟩
  cases r' with
  | ok a ρ' => exact fun z' e1 e2 x' => q z' e1 (e2.trans e) (x.trans x')
  | ex d ρ' =>
    intro cls dd z' e1 e2 x' xr
    have := q cls dd z' e1 (e2.trans e) (x.trans x') xr
    rw [e]
    exact this
/-- a <= b < c: both comparisons of data -/
def chA (g' : D → D → Option A) (fc : Ev) (b : A) (ρ2 : S) : Option A → Option (Res A)
  | some (.val (.bl true)) => bd (fc ρ2) fun c ρ3 => l1 ρ3 b fun y => l1 ρ3 c fun w => ret ρ3 (g' y w)
  | some (.val (.bl false)) => some (.ok (.val (.bl false)) ρ2)
  | _ => none
def eCh (g g' : D → D → Option A) (fa fb fc : Ev) : Ev := fun ρ => bd (fa ρ) fun a ρ1 => bd (fb ρ1) fun b ρ2 => l1 ρ2 a fun x => l1 ρ2 b fun y => chA g' fc b ρ2 (g x y)
section
variable {X : Cx} {cl : Nat → Addr} {W : WX}
theorem tCh {r r' : R2} {g g' : D → D → Option A} {fa fb fc : Ev} (hg : Op2 (gx X cl) r g) (hg' : Op2 (gx X cl) r' g') : ∀ σ H Q, tD (gx X cl) W (eCh g g' fa fb fc) σ H Q → tChain r r' (tD (gx X cl) W fa) (tD (gx X cl) W fb) (tD (gx X cl) W fc) σ H Q := by
  rintro σ H Q ⟨z, rfl, rfl, s, h⟩
  refine tD_go s ((Go.bind h).imp fun a z1 e1 x1 h1 v hv => ?_)
  rw [← e1]
  refine tD_go x1.sat ((Go.bind h1).imp fun b z2 e2 x2 h2 u hu => ?_)
  have hv2 := hv.step x2 e2
  obtain ⟨x, rx, h3⟩ := go_l1 x2.sat hv2.rep h2
  obtain ⟨y, ry, h4⟩ := go_l1 x2.sat hu.rep h3
  have x12 := x1.trans x2
  cases hc : g x y with
  | none => rw [hc] at h4; exact (go_none h4).elim
  | some c =>
    rw [hc] at h4
    cases c with
    | val d =>
      cases d with
      | bl k =>
        refine hg _ x y v u _ _ rx ry hc fun w H' e n => ?_
        have n : Rep (gx X cl) H' (.bl k) w := n
        unfold Rep at n
        refine ⟨k, n, ?_⟩
        have sg : After (gx X cl) z2 ⟨z2.T, z2.ρ, z2.σ, H'⟩ := After.grow x2.sat e
        cases k with
        | false => exact iteF (give x12 (h4.imp fun a z' _ x' p q => p (x2.trans x') q) e nbl)
        | true =>
          refine iteT ?_
          have h4 : Go (gx X cl) W z2 (bd (fc z2.ρ) fun c ρ3 => l1 ρ3 b fun y => l1 ρ3 c fun w => ret ρ3 (g' y w)) _ := h4
          have h5 := Go.later h4 sg rfl
          show tD (gx X cl) W fc z1.σ H' _
          have es : z1.σ = (⟨z2.T, z2.ρ, z2.σ, H'⟩ : Z).σ := e2.symm
          rw [es]
          refine tD_go sg.sat ((Go.bind h5).imp fun c z3 e3 x3 h6 w' hw => ?_)
          have hu3 := (hu.step sg rfl).step x3 e3
          obtain ⟨y', ry', h7⟩ := go_l1 x3.sat hu3.rep h6
          obtain ⟨w2, rw2, h8⟩ := go_l1 x3.sat hw.rep h7
          obtain ⟨c2, hc2, h9⟩ := go_ret h8
          have x13 := x12.trans (sg.trans x3)
          exact hg' _ y' w2 u w' c2 Q ry' rw2 hc2 fun w3 H3 e4 n4 => give x13 (h9.imp fun a z' _ x' p q => p (x3.trans x') (x2.trans (sg.trans (x3.trans x'))) q) e4 n4
      | _ => exact (go_none h4).elim
    | _ => exact (go_none h4).elim
theorem de_chain {op op' : CmpOp} {r r' : R2} {g g' : D → D → Option A} {fa fb fc : Ev} {a b c : Expr} {pos : Pos} (ho : OpR X (compareOp op) r) (ho' : OpR X (compareOp op') r') (hg : Op2 (gx X cl) r g) (hg' : Op2 (gx X cl) r' g') (ha : DE X cl a fa) (hb : DE X cl b fb) (hc : DE X cl c fc)
    (hm : lastMarks [op, op'] [b, c] = false) : DE X cl (.Compare a [op, op'] [b, c] pos) (eCh g g' fa fb fc) := ⟨fun W tk => PE.imp (pe_chain ho ho' (ha.run W tk) (hb.run W tk) (hc.run W tk) hm) (tCh hg hg')⟩
theorem dt_chain {op op' : CmpOp} {r r' : R2} {g g' : D → D → Option A} {fa fb fc : Ev} {a b c : Expr} {pos : Pos} (ho : OpR X (compareOp op) r) (ho' : OpR X (compareOp op') r') (hg : Op2 (gx X cl) r g) (hg' : Op2 (gx X cl) r' g') (ha : DE X cl a fa) (hb : DE X cl b fb) (hc : DE X cl c fc)
    (hm : lastMarks [op, op'] [b, c] = false) : DT X cl (.Compare a [op, op'] [b, c] pos) (eTest (eCh g g' fa fb fc)) := ⟨fun W tk => PT.imp (pt_chain ho ho' (ha.run W tk) (hb.run W tk) (hc.run W tk) hm) fun σ H Q => by
  rintro ⟨z, rfl, rfl, s, h⟩
  exact tCh hg hg' _ _ _ (tD_go s (testT h))⟩
theorem de_ch_le_le {fa fb fc : Ev} {a b c : Expr} {pos : Pos} (ha : DE X cl a fa) (hb : DE X cl b fb) (hc : DE X cl c fc) (hm : lastMarks [.LtE, .LtE] [b, c] = false := by with_unfolding_all rfl) : DE X cl (.Compare a [.LtE, .LtE] [b, c] pos) (eCh gLe gLe fa fb fc) := de_chain op_leD op_leD gCmp_ok gCmp_ok ha hb hc hm
theorem de_ch_le_lt {fa fb fc : Ev} {a b c : Expr} {pos : Pos} (ha : DE X cl a fa) (hb : DE X cl b fb) (hc : DE X cl c fc) (hm : lastMarks [.LtE, .Lt] [b, c] = false := by with_unfolding_all rfl) : DE X cl (.Compare a [.LtE, .Lt] [b, c] pos) (eCh gLe gLt fa fb fc) := de_chain op_leD op_ltD gCmp_ok gCmp_ok ha hb hc hm
theorem dt_ch_le_le {fa fb fc : Ev} {a b c : Expr} {pos : Pos} (ha : DE X cl a fa) (hb : DE X cl b fb) (hc : DE X cl c fc) (hm : lastMarks [.LtE, .LtE] [b, c] = false := by with_unfolding_all rfl) : DT X cl (.Compare a [.LtE, .LtE] [b, c] pos) (eTest (eCh gLe gLe fa fb fc)) := dt_chain op_leD op_leD gCmp_ok gCmp_ok ha hb hc hm
theorem dt_ch_le_lt {fa fb fc : Ev} {a b c : Expr} {pos : Pos} (ha : DE X cl a fa) (hb : DE X cl b fb) (hc : DE X cl c fc) (hm : lastMarks [.LtE, .Lt] [b, c] = false := by with_unfolding_all rfl) : DT X cl (.Compare a [.LtE, .Lt] [b, c] pos) (eTest (eCh gLe gLt fa fb fc)) := dt_chain op_leD op_ltD gCmp_ok gCmp_ok ha hb hc hm
/-! ### iterables -/
def chrs (x : Str) : List D := x.cps.toList.map fun c => .str ⟨#[c]⟩
/-- a list, a tuple, a text -/
def iAA (a : A) (ρ1 : S) : Option (Res (List D)) := match a with
  | .val (.lst l) => some (.ok l ρ1)
  | .val (.tup l) => some (.ok l ρ1)
  | .val (.str x) => some (.ok (chrs x) ρ1)
  | _ => none
def iA (f : Ev) : S → Option (Res (List D)) := fun ρ => bd (eZ f ρ) iAA
theorem strOk_nth {x : Str} {i : Nat} {c : Nat} (h : PySem.PyData.strOk x = true) (e : x.cps[i]? = some c) : PySem.PyData.strOk ⟨#[c]⟩ = true := by
  unfold PySem.PyData.strOk at h ⊢
  have h : x.cps.all _ = true := h
  rw [Array.all_eq_true] at h
  obtain ⟨hi, e⟩ := Array.getElem?_eq_some_iff.mp e
  have := h i hi
  rw [e] at this
  simpa using this
theorem its_ok {G : Cg} {x : Str} {H0 : Hp} (ok : PySem.PyData.strOk x = true) : ItOk G (Its x) H0 (chrs x) := by
  have el : (chrs x).length = x.cps.size := by simp [chrs]
  refine ⟨fun H k i hi => ?_, fun H k i hi => by rw [el] at hi; exact hi⟩
  rw [el] at hi
  have hc : x.cps[i]? = some x.cps[i] := Array.getElem?_eq_getElem hi
  refine ⟨hi, ?_⟩
  rintro y H' ⟨rfl, c, hc', rfl⟩
  rw [hc] at hc'
  cases hc'
  refine ⟨Same.refl _, .str ⟨#[x.cps[i]]⟩, ?_, ?_⟩
  · unfold chrs
    rw [List.getElem?_map, Array.getElem?_toList, hc]
    rfl
  · unfold Rep
    exact ⟨rfl, strOk_nth ok hc⟩
theorem di_any {tg e : Expr} {f : Ev} (h : DE X cl e f) : DI X cl tg e (iA f) := ⟨fun W tk => ⟨fun pins s σ H R I q => by
  obtain ⟨z, rfl, rfl, sz, hz⟩ := q
  have hb := Go.bind hz
  obtain ⟨r', e1, q1⟩ := hb
  cases r' with
  | ex d ρ' =>
    refine (pi_list (tg := tg) ((de_fz h).run W tk)).run pins s z.σ z.H R I (tD_go sz ⟨_, e1, ?_⟩)
    exact q1
  | ok a ρ' =>
    cases a with
    | val d =>
      cases d with
      | lst l =>
        refine (pi_list (tg := tg) ((de_fz h).run W tk)).run pins s z.σ z.H R I (tD_go sz ⟨_, e1, fun z1 e2 e3 x1 v hv => ?_⟩)
        have h1 := q1 z1 e2 e3 x1
        have r : Rep (gx X cl) z1.H (.lst l) v := hv.rep
        unfold Rep at r
        obtain ⟨a, vs, rfl, q, t⟩ := r
        exact ⟨a, rfl, ⟨vs, q.sq⟩, h1.pure x1.sat x1 _ _ (Same.refl _) (itl_ok q t)⟩
      | tup l =>
        refine (pi_tup (tg := tg) ((de_fz h).run W tk)).run pins s z.σ z.H R I (tD_go sz ⟨_, e1, fun z1 e2 e3 x1 v hv => ?_⟩)
        have h1 := q1 z1 e2 e3 x1
        have r : Rep (gx X cl) z1.H (.tup l) v := hv.rep
        unfold Rep at r
        obtain ⟨a, vs, rfl, q, t⟩ := r
        exact ⟨a, rfl, ⟨vs, q⟩, h1.pure x1.sat x1 _ _ (Same.refl _) (itt_ok q t)⟩
      | str x =>
        refine (pi_str (tg := tg) ((de_fz h).run W tk)).run pins s z.σ z.H R I (tD_go sz ⟨_, e1, fun z1 e2 e3 x1 v hv => ?_⟩)
        have h1 := q1 z1 e2 e3 x1
        have r : Rep (gx X cl) z1.H (.str x) v := hv.rep
        unfold Rep at r
        exact ⟨x, r.1, h1.pure x1.sat x1 _ _ (Same.refl _) (its_ok r.2)⟩
      | _ =>
        refine (pi_list (tg := tg) ((de_fz h).run W tk)).run pins s z.σ z.H R I (tD_go sz ⟨_, e1, fun z1 e2 e3 x1 v hv => ?_⟩)
        exact (go_none (q1 z1 e2 e3 x1)).elim
    | _ =>
      refine (pi_list (tg := tg) ((de_fz h).run W tk)).run pins s z.σ z.H R I (tD_go sz ⟨_, e1, fun z1 e2 e3 x1 v hv => ?_⟩)
      exact (go_none (q1 z1 e2 e3 x1)).elim⟩⟩
end
/-! ### an exception class with an __init__ of one field -/
structure IniT (P : Program) (w : World) (K : PySem.W.Frag) (mg : Str → Option Value) (base : Heap) (C : Addr) (n : Str) : Prop where
  ex : ∃ (fI : Addr) (fd : FuncData) (ps : List Str), FnOk P w K mg base (L2.CX P w) 1 fI fd ps (spIni C n) ∧ Binds K fd ps [] ∧ OexC K C ∧ PySem.W.findIn K (.ref C) "__init__" = some (some (.ref fI)) ∧ PySem.W.typeIn K (.ref fI) = some (.type "function")
section
variable {P : Program} {w : World} {K : PySem.W.Frag} {mg : Str → Option Value} {base : Heap} {cl : Nat → Addr}
theorem IniT.at {j : Nat} {C : Addr} {n : Str} {N : List Str} {q : Str} {sc : Scope} {f : Addr} {cdv : Value} {A : Around} {outer : List Env} {s : Shared} {H : Hp} {E : XK} (T : IniT P w K mg base C n) (hr : Room j (A.deeper (envOfC q sc s.heap.objs.size f cdv))) (hk : 2 ≤ j := by decide) :
    IniOk (cxOf (L2.CX P w) P w K mg base N q sc f cdv A outer s H E) C n := by
  obtain ⟨fI, fd, ps, h1, h2, h3, h4, h5⟩ := T.ex
  exact ⟨1, fI, fd, ps, h1, hr.mono hk, h2, h3, h4, h5⟩
theorem IniT.on {X : Cx} {j : Nat} {C : Addr} {n : Str} (T : IniT X.prog X.w X.K X.mg X.base C n) (hr : Room j X.A) (hk : 2 ≤ j := by decide) : IniOk X C n := by
  obtain ⟨fI, fd, ps, h1, h2, h3, h4, h5⟩ := T.ex
  exact ⟨1, fI, fd, ps, h1, hr.mono hk, h2, h3, h4, h5⟩
def oexB (K : PySem.W.Frag) (C : Addr) : Bool :=
  (match K.lookup C with
    | some ⟨.type t, _, .cls ⟨_, _, .ref C' :: bm, _, _, hd, _, _, _, _, del⟩, sl⟩ => (match sl.toList with
      | [_, _, _, _, some (.builtin n), _] => decide (t = "type") && (decide (C' = C) && (hd && (!del && (decide (n = "ValueError.__new__") && PySem.HandSPX.refsVE bm))))
      | _ => false)
    | _ => false) &&
  (decide (PySem.W.findIn K (.ref C) "__setattr__" = some (some (.builtin "object.__setattr__"))) && (decide (PySem.W.subIn K (.ref C) (.type "BaseException") = some true) && (decide (PySem.W.typeIn K (.ref C) = some (.type "type")) && PySem.W.keepIn K (.ref C))))
theorem oexB_ok {C : Addr} (h : oexB K C = true) : OexC K C := by
  unfold oexB at h
  obtain ⟨h1, h⟩ := Bool.and_eq_true_iff.mp h
  obtain ⟨h2, h⟩ := Bool.and_eq_true_iff.mp h
  obtain ⟨h3, h⟩ := Bool.and_eq_true_iff.mp h
  obtain ⟨h4, h5⟩ := Bool.and_eq_true_iff.mp h
  refine ⟨?_, of_decide_eq_true h2, of_decide_eq_true h3, of_decide_eq_true h4, h5⟩
  split at h1
  · rename_i t dd nm bs C' bm N qn hd sn sb ab col del sl hl
    split at h1
    · rename_i k0 k1 k2 k3 n k5 hs
      obtain ⟨a1, h⟩ := Bool.and_eq_true_iff.mp h1
      obtain ⟨a2, h⟩ := Bool.and_eq_true_iff.mp h
      obtain ⟨a3, h⟩ := Bool.and_eq_true_iff.mp h
      obtain ⟨a4, h⟩ := Bool.and_eq_true_iff.mp h
      obtain ⟨a5, a6⟩ := Bool.and_eq_true_iff.mp h
      have e1 := of_decide_eq_true a1
      have e2 := of_decide_eq_true a2
      have e5 := of_decide_eq_true a5
      have e4 : del = false := by cases del <;> first | rfl | cases a4
      refine ⟨nm, qn, N, bs, bm, sn, sb, ab, col, dd, k0, k1, k2, k3, k5, ?_, a6⟩
      rw [hl]
      have es : sl = #[k0, k1, k2, k3, some (.builtin n), k5] := by
        apply Array.ext'
        rw [hs]
      subst e1 e2 e5 e4
      rw [a3, es]
    · cases h1
  · cases h1
/-- the class's own facts -/
def iniB (cs : List Str) (c : Nat) (n : Str) (K : PySem.W.Frag) : Bool := oexB K (clK cs K c) && decide (PySem.W.findIn K (.ref (clK cs K c)) n = some none)
theorem ini_ok {qual n a : Str} {st : Stmt} {f : Addr} {c : Nat} {cs : List Str} {dvs : List V} {kws : List (Str × V)} {p1 p2 p3 p4 : Pos} (F : ∃ fd, FunD K "__init__" qual (defArgs st) (defBody st) (defScope st) dvs kws f fd) (hb : iniB cs c n K = true) (m : Meth K (clK cs K c) "__init__" f)
    (hB : ∀ fd, FunD K "__init__" qual (defArgs st) (defBody st) (defScope st) dvs kws f fd → Binds K fd ["self", a] []) (S : FnScope ["self", a] ["self", a] (defScope st)) (hbd : defBody st = [.Assign [.Attribute (.Name "self" p1) n p2] (.Name a p3) p4])
    (hs : ∀ f cdv sz, swapsWith (.Name a p3) (some (.Attribute (.Name "self" p1) n p2)) p4.line (envOfC qual (defScope st) sz f cdv) = pure false)
    (v1 : Vis (defScope st) "self") (v2 : Vis (defScope st) a) (da : (a == ("__debug__" : Str)) = false) (db : (a == ("__classdict__" : Str)) = false) : IniT P w K mg base (clK cs K c) n := by
  obtain ⟨fd, F⟩ := F
  obtain ⟨h1, h2⟩ := Bool.and_eq_true_iff.mp hb
  have O := oexB_ok h1
  refine ⟨f, fd, ["self", a], ?_, hB fd F, O, m.at_, eq_of_beq m.fn⟩
  refine F.ok S (fun vs H Q E h => ?_) (fun cdv A outer s H vs Q E hr h => ?_)
  · obtain ⟨a, v, rfl, _⟩ := h
    rfl
  · obtain ⟨x, v, rfl, hx, q⟩ := h
    rw [hbd]
    refine ⟨_, pss_one (ps_ost (f := n) (pe_var (i := 0) rfl v1) (pe_var (i := 1) rfl v2 da db) (hs _ _ _)), ?_⟩
    refine ⟨v, rfl, .ref x, rfl, x, clK cs K c, rfl, O, of_decide_eq_true h2, .inl ⟨hx, fun dx nd ne => q dx nd ne⟩⟩
/-- a field that no class has of its own -/
def noB (cs : List Str) (n : Nat) (nm : Str) (K : PySem.W.Frag) : Bool := (List.range n).all fun c => decide (PySem.W.findIn K (.ref (clK cs K c)) nm = some none)
theorem noB_ok {cs : List Str} {n : Nat} {nm : Str} (h : noB cs n nm K = true) : ∀ c, c < n → PySem.W.findIn K (.ref (clK cs K c)) nm = some none := fun c hc => of_decide_eq_true (range_all h hc)
end
end Fm

/-! Fm.N: more rewriting; loops with an invariant. -/
namespace Fm
open PySem PySem.Spec PyProof.Rows L2

theorem eIsi_at (n : Nat) (sub : Nat → Nat → Bool) (k : Kl) (f : Ev) (ρ : S) : eIsi n sub k f ρ = bd (f ρ) fun a ρ1 => ob (look a ρ1) fun x => ret ρ1 (gIsi n sub k x) := by unfold eIsi; rw [eU_at]
def isiO (o : Option Bool) : Option A := o.map fun b => .val (.bl b)
theorem isiO_some (b : Bool) : isiO (some b) = some (.val (.bl b)) := rfl
theorem gIsi_eq (n : Nat) (sub : Nat → Nat → Bool) (k : Kl) (d : D) : gIsi n sub k d = isiO (isiD n sub d k) := by unfold gIsi isiO; cases isiD n sub d k <;> rfl
theorem gIsi_non (n : Nat) (sub : Nat → Nat → Bool) (t : String) : gIsi n sub (.ty t) .non = isiO (L2.kitB "NoneType" t) := by rw [gIsi_eq]; rfl
theorem gIsi_bl (n : Nat) (sub : Nat → Nat → Bool) (t : String) (i : Bool) : gIsi n sub (.ty t) (.bl i) = isiO (L2.kitB "bool" t) := by rw [gIsi_eq]; rfl
theorem gIsi_int (n : Nat) (sub : Nat → Nat → Bool) (t : String) (i : Int) : gIsi n sub (.ty t) (.int i) = isiO (L2.kitB "int" t) := by rw [gIsi_eq]; rfl
theorem gIsi_str (n : Nat) (sub : Nat → Nat → Bool) (t : String) (i : Str) : gIsi n sub (.ty t) (.str i) = isiO (L2.kitB "str" t) := by rw [gIsi_eq]; rfl
theorem gIsi_tup (n : Nat) (sub : Nat → Nat → Bool) (t : String) (i : List D) : gIsi n sub (.ty t) (.tup i) = isiO (L2.kitB "tuple" t) := by rw [gIsi_eq]; rfl
theorem gIsi_lst (n : Nat) (sub : Nat → Nat → Bool) (t : String) (i : List D) : gIsi n sub (.ty t) (.lst i) = isiO (L2.kitB "list" t) := by rw [gIsi_eq]; rfl
theorem gIsi_exc (n : Nat) (sub : Nat → Nat → Bool) (c c' : Nat) (ns : List Str) (l : List D) (h : c < n ∧ c' < n) : gIsi n sub (.own c') (.exc c ns l) = some (.val (.bl (sub c c'))) := by rw [gIsi_eq]; unfold isiD; simp only [h, and_self, if_true]; rfl
theorem gIsi_excV (n : Nat) (sub : Nat → Nat → Bool) (c : Nat) (ns : List Str) (l : List D) (h : c < n) : gIsi n sub (.ty "ValueError") (.exc c ns l) = some (.val (.bl true)) := by rw [gIsi_eq]; unfold isiD; simp only [h, if_true]; rfl
theorem kb_nb : L2.kitB "NoneType" "bool" = some false := by decide
theorem kb_ni : L2.kitB "NoneType" "int" = some false := by decide
theorem kb_ns : L2.kitB "NoneType" "str" = some false := by decide
theorem kb_nt : L2.kitB "NoneType" "tuple" = some false := by decide
theorem kb_nl : L2.kitB "NoneType" "list" = some false := by decide
theorem kb_bb : L2.kitB "bool" "bool" = some true := by decide
theorem kb_bi : L2.kitB "bool" "int" = some true := by decide
theorem kb_bs : L2.kitB "bool" "str" = some false := by decide
theorem kb_bt : L2.kitB "bool" "tuple" = some false := by decide
theorem kb_bL : L2.kitB "bool" "list" = some false := by decide
theorem kb_ib : L2.kitB "int" "bool" = some false := by decide
theorem kb_ii : L2.kitB "int" "int" = some true := by decide
theorem kb_is : L2.kitB "int" "str" = some false := by decide
theorem kb_it : L2.kitB "int" "tuple" = some false := by decide
theorem kb_il : L2.kitB "int" "list" = some false := by decide
theorem kb_sb : L2.kitB "str" "bool" = some false := by decide
theorem kb_si : L2.kitB "str" "int" = some false := by decide
theorem kb_ss : L2.kitB "str" "str" = some true := by decide
theorem kb_st : L2.kitB "str" "tuple" = some false := by decide
theorem kb_sl : L2.kitB "str" "list" = some false := by decide
theorem kb_tb : L2.kitB "tuple" "bool" = some false := by decide
theorem kb_ti : L2.kitB "tuple" "int" = some false := by decide
theorem kb_ts : L2.kitB "tuple" "str" = some false := by decide
theorem kb_tt : L2.kitB "tuple" "tuple" = some true := by decide
theorem kb_tl : L2.kitB "tuple" "list" = some false := by decide
theorem kb_lb : L2.kitB "list" "bool" = some false := by decide
theorem kb_li : L2.kitB "list" "int" = some false := by decide
theorem kb_ls : L2.kitB "list" "str" = some false := by decide
theorem kb_lt : L2.kitB "list" "tuple" = some false := by decide
theorem kb_ll : L2.kitB "list" "list" = some true := by decide
theorem eMkE_at (c : Nat) (f : Ev) (ρ : S) : eMkE c f ρ = bd (f ρ) fun _ ρ1 => some (.ok (.val (.exc c [] [])) ρ1) := rfl
def mkIA (c : Nat) (n : Str) (a : A) (ρ1 : S) : Option (Res A) := match a with
  | .val d => some (.ok (.val (.exc c [n] [d])) ρ1)
  | _ => none
theorem eMkI_at (c : Nat) (n : Str) (f : Ev) (ρ : S) : eMkI c n f ρ = bd (eZ f ρ) (mkIA c n) := rfl
theorem mkIA_val (c : Nat) (n : Str) (d : D) (ρ : S) : mkIA c n (.val d) ρ = some (.ok (.val (.exc c [n] [d])) ρ) := rfl
def eXf (n : Nat) (nm : Str) (f : Ev) : Ev := eU (fun d => match d with
      | .exc c ns l => if c < n then gXf nm (.exc c ns l) else none
      | _ => none) f
def xfA (n : Nat) (nm : Str) (d : D) : Option A := match d with
      | .exc c ns l => if c < n then gXf nm (.exc c ns l) else none
      | _ => none
theorem eXf_at (n : Nat) (nm : Str) (f : Ev) (ρ : S) : eXf n nm f ρ = bd (f ρ) fun a ρ1 => ob (look a ρ1) fun x => ret ρ1 (xfA n nm x) := by unfold eXf; rw [eU_at]; rfl
theorem xfA_one (n : Nat) (nm : Str) (c : Nat) (d : D) (h : c < n) : xfA n nm (.exc c [nm] [d]) = some (.val d) := by unfold xfA gXf; simp [h, List.lookup]
def smA (g : Str → List D → Option A) (fa : S → Option (Res (List A))) (a : A) (ρ1 : S) : Option (Res A) := match a with
  | .val (.str z) => bd (fa ρ1) fun as ρ2 => ob (looks as ρ2) fun l => ret ρ2 (g z l)
  | _ => none
theorem eSM_at (g : Str → List D → Option A) (fo : Ev) (fa : S → Option (Res (List A))) (ρ : S) : eSM g fo fa ρ = bd (fo ρ) (smA g fa) := by
  unfold eSM
  congr 1
  funext a ρ1
  cases a with
  | val d =>
    cases d with
    | str z =>
      show bd (fa ρ1) _ = bd (fa ρ1) _
      congr 1
      funext as ρ2
      cases looks as ρ2 <;> rfl
    | _ => rfl
  | _ => rfl
theorem smA_str (g : Str → List D → Option A) (fa : S → Option (Res (List A))) (z : Str) (ρ : S) : smA g fa (.val (.str z)) ρ = bd (fa ρ) fun as ρ2 => ob (looks as ρ2) fun l => ret ρ2 (g z l) := rfl
theorem gMax_int (i j : Int) : gMax [.int i, .int j] = some (.val (.int (if j > i then j else i))) := rfl
theorem gMin_int (i j : Int) : gMin [.int i, .int j] = some (.val (.int (if j < i then j else i))) := rfl
theorem eCh_at (g g' : D → D → Option A) (fa fb fc : Ev) (ρ : S) : eCh g g' fa fb fc ρ = bd (fa ρ) fun a ρ1 => bd (fb ρ1) fun b ρ2 => ob (look a ρ2) fun x => ob (look b ρ2) fun y => chA g' fc b ρ2 (g x y) := by unfold eCh; simp only [l1_at]
theorem chA_bl (g' : D → D → Option A) (fc : Ev) (b : A) (ρ : S) (k : Bool) : chA g' fc b ρ (some (.val (.bl k))) = br k (bd (fc ρ) fun c ρ3 => ob (look b ρ3) fun y => ob (look c ρ3) fun w => ret ρ3 (g' y w)) (some (.ok (.val (.bl false)) ρ)) := by
  cases k
  · rfl
  · unfold chA; simp only [l1_at, br_t]
theorem iA_at (f : Ev) (ρ : S) : iA f ρ = bd (eZ f ρ) iAA := rfl
theorem iAA_lst (l : List D) (ρ : S) : iAA (.val (.lst l)) ρ = some (.ok l ρ) := rfl
theorem iAA_tup (l : List D) (ρ : S) : iAA (.val (.tup l)) ρ = some (.ok l ρ) := rfl
theorem iAA_str (x : Str) (ρ : S) : iAA (.val (.str x)) ρ = some (.ok (chrs x) ρ) := rfl
/-! ### loops -/
/-- every turn goes on, or skips; I holds at each head -/
theorem forL_inv {tg : D → S → Option S} {cs : List Nat} {body : Es} (I : S → Prop) : ∀ (ds : List D) (ρ : S), (∀ d ∈ ds, ∀ ρ, I ρ → ∃ ρ1, tg d ρ = some ρ1 ∧ ∃ ρ2, (body ρ1 = some (.nx ρ2) ∨ body ρ1 = some (.ct ρ2)) ∧ I (clr ρ2 cs)) → (∀ ρ, I ρ → I (clr ρ cs)) → I ρ →
    ∃ ρ', forL tg cs body ds ρ = some (.nx ρ') ∧ I ρ'
  | [], ρ, _, hc, h => ⟨_, rfl, hc ρ h⟩
  | d :: ds, ρ, hs, hc, h => by
    obtain ⟨ρ1, e1, ρ2, e2, h2⟩ := hs d List.mem_cons_self ρ h
    obtain ⟨ρ', e3, h3⟩ := forL_inv I ds (clr ρ2 cs) (fun d hd => hs d (List.mem_cons_of_mem _ hd)) hc h2
    refine ⟨ρ', ?_, h3⟩
    rw [forL_cons, e1, forG_some]
    rcases e2 with e2 | e2
    · rw [e2]; exact e3
    · rw [e2]; exact e3
/-- a comprehension over things, each told by its place: F what comes out, I the state at each head (ρ out of it) -/
theorem compL_map {tg : D → S → Option S} {c : S → Option (Res Bool)} {e : Ev} {cs : List Nat} (I : S → Prop) : ∀ (ds : List D) (ρ : S), (∀ d ∈ ds, ∀ ρ, I ρ → ∃ ρ1, tg d ρ = some ρ1 ∧ ∃ (b : Bool) (ρ2 : S), c ρ1 = some (.ok b ρ2) ∧ (match b with
      | true => ∃ x ρ3, eZ e ρ2 = some (.ok (.val x) ρ3) ∧ I (clr ρ3 cs)
      | false => I (clr ρ2 cs))) → I ρ → ∃ xs ρ', compL tg c e cs ds ρ = some (.ok xs ρ') ∧ I ρ' ∧ xs.length ≤ ds.length
  | [], ρ, _, h => ⟨_, _, rfl, h, Nat.le_refl _⟩
  | d :: ds, ρ, hs, h => by
    obtain ⟨ρ1, e1, b, ρ2, e2, h2⟩ := hs d List.mem_cons_self ρ h
    cases b with
    | true =>
      obtain ⟨x, ρ3, e3, h3⟩ := h2
      obtain ⟨xs, ρ', e4, h4, h5⟩ := compL_map I ds (clr ρ3 cs) (fun d hd => hs d (List.mem_cons_of_mem _ hd)) h3
      refine ⟨x :: xs, ρ', ?_, h4, by simp; omega⟩
      rw [compL_cons, e1, compG_some, e2, compT_t, e3, compE_ok]
      exact compK_ok e4
    | false =>
      obtain ⟨xs, ρ', e4, h4, h5⟩ := compL_map I ds (clr ρ2 cs) (fun d hd => hs d (List.mem_cons_of_mem _ hd)) h2
      refine ⟨xs, ρ', ?_, h4, by simp; omega⟩
      rw [compL_cons, e1, compG_some, e2, compT_f]
      exact e4
/-- a comprehension without a condition whose state stays -/
theorem compL_pure {tg : D → S → Option S} {e : Ev} {cs : List Nat} {ρ : S} (F : D → D) : ∀ (ds : List D), (∀ d ∈ ds, ∃ ρ1 ρ3, tg d ρ = some ρ1 ∧ eZ e ρ1 = some (.ok (.val (F d)) ρ3) ∧ clr ρ3 cs = ρ) → compL tg eYes e cs ds ρ = some (.ok (ds.map F) ρ)
  | [], _ => rfl
  | d :: ds, hs => by
    obtain ⟨ρ1, ρ3, e1, e2, e3⟩ := hs d List.mem_cons_self
    rw [compL_cons, e1, compG_some, eYes_at, compT_t, e2, compE_ok, e3]
    exact compK_ok (compL_pure F ds fun d hd => hs d (List.mem_cons_of_mem _ hd))
/-- .. with a condition -/
theorem compL_filter {tg : D → S → Option S} {c : S → Option (Res Bool)} {e : Ev} {cs : List Nat} {ρ : S} (p : D → Bool) (F : D → D) : ∀ (ds : List D), (∀ d ∈ ds, ∃ ρ1 ρ2, tg d ρ = some ρ1 ∧ c ρ1 = some (.ok (p d) ρ2) ∧ (p d = true → ∃ ρ3, eZ e ρ2 = some (.ok (.val (F d)) ρ3) ∧ clr ρ3 cs = ρ) ∧ (p d = false → clr ρ2 cs = ρ)) →
    compL tg c e cs ds ρ = some (.ok ((ds.filter p).map F) ρ)
  | [], _ => rfl
  | d :: ds, hs => by
    obtain ⟨ρ1, ρ2, e1, e2, h1, h2⟩ := hs d List.mem_cons_self
    have ih := compL_filter p F ds fun d hd => hs d (List.mem_cons_of_mem _ hd)
    rw [compL_cons, e1, compG_some, e2]
    cases hp : p d with
    | true =>
      obtain ⟨ρ3, e3, e4⟩ := h1 hp
      rw [compT_t, e3, compE_ok, e4, List.filter_cons_of_pos hp]
      exact compK_ok ih
    | false =>
      rw [compT_f, h2 hp, List.filter_cons_of_neg (by simp [hp])]
      exact ih
theorem compR_ok' {x : Option (Res (List D))} {xs : List D} {ρ : S} (h : x = some (.ok xs ρ)) (hl : xs.length ≤ 1000000) : compR x = some (.ok (.own xs) ρ) := by rw [h]; exact compR_ok xs ρ hl
end Fm
namespace Fm
open PySem PySem.Spec PyProof.Rows L2
/-! ### a def's worth, from its term -/
def rawR : Option Out → Option FRes
  | some (.rt (.bor _) _) => none
  | o => fnRes o
/-- a def of m slots whose body is g -/
def raw (m : Nat) (g : Es) : Fn := fun as B => rawR (g ⟨slots m as, B⟩)
theorem sem_raw (n m : Nat) (g : Es) : ∀ as B r, as.length = n → raw m g as B = some r → nbRes (g ⟨slots m as, B⟩) ∧ fnRes (g ⟨slots m as, B⟩) = some r := by
  intro as B r _ h
  unfold raw at h
  cases e : g ⟨slots m as, B⟩ with
  | none => rw [e] at h; cases h
  | some o =>
    rw [e] at h
    cases o with
    | rt a ρ =>
      cases a with
      | bor i => cases h
      | _ => exact ⟨trivial, h⟩
    | _ => exact ⟨trivial, h⟩
theorem raw_at (m : Nat) (g : Es) (as : List A) (B : List Bx) : raw m g as B = rawR (g ⟨slots m as, B⟩) := rfl
theorem rawR_val (d : D) (ρ : S) : rawR (some (.rt (.val d) ρ)) = some (.ret (.val d) ρ.bx) := rfl
theorem rawR_own (d : List D) (ρ : S) : rawR (some (.rt (.own d) ρ)) = some (.ret (.own d) ρ.bx) := rfl
theorem rawR_box (n : Nat) (ρ : S) : rawR (some (.rt (.box n) ρ)) = some (.ret (.box n) ρ.bx) := rfl
theorem rawR_nx (ρ : S) : rawR (some (.nx ρ)) = some (.ret (.val .non) ρ.bx) := rfl
theorem rawR_ex (d : D) (ρ : S) : rawR (some (.ex d ρ)) = some (.exc d ρ.bx) := rfl
end Fm
namespace Fm
open PySem PySem.Spec PyProof.Rows L2
theorem law_cx0 {P : Program} {w : World} {K : PySem.W.Frag} {mg : Str → Option Value} {base : Heap} {k : Nat} {f : Addr} {fd : FuncData} {ps : List Str} (F : FnOk P w K mg base (L2.CX P w) k f fd ps (Fm.spLaw K)) : FnOk P w K mg base CX0 k f fd ps (Fm.spLaw K) :=
  ⟨fun vs H Q E h => F.len vs H Q E h, fun A outer s H args us vs Q E hr he hb hv hs => codeAny_mono (F.run A outer s H args us vs Q (fun _ _ _ => False) hr he hb hv hs) fun r s' h => by
    cases r with
    | ok fl => cases fl <;> exact h
    | error e =>
      obtain ⟨_, _, _, _, _, _, _, _, _, _, _, _, q⟩ := h
      exact q.elim⟩
end Fm

/-! Fm.O: equality of data, by rewriting. -/
namespace Fm
open PySem PySem.Spec PyProof.Rows L2

theorem eq_non_non : eqD .non .non = true := by first | rfl | (unfold eqD; rfl) | simp [eqD]
theorem eq_non_bl (b : Bool) : eqD .non (.bl b) = false := by first | rfl | (unfold eqD; rfl) | simp [eqD]
theorem eq_non_int (b : Int) : eqD .non (.int b) = false := by first | rfl | (unfold eqD; rfl) | simp [eqD]
theorem eq_non_str (b : Str) : eqD .non (.str b) = false := by first | rfl | (unfold eqD; rfl) | simp [eqD]
theorem eq_non_tup (b : List D) : eqD .non (.tup b) = false := by first | rfl | (unfold eqD; rfl) | simp [eqD]
theorem eq_non_lst (b : List D) : eqD .non (.lst b) = false := by first | rfl | (unfold eqD; rfl) | simp [eqD]
theorem eq_bl_non (a : Bool) : eqD (.bl a) .non = false := by first | rfl | (unfold eqD; rfl) | simp [eqD]
theorem eq_bl_bl (a : Bool) (b : Bool) : eqD (.bl a) (.bl b) = (a == b) := by first | rfl | (unfold eqD; rfl) | simp [eqD]
theorem eq_bl_int (a : Bool) (b : Int) : eqD (.bl a) (.int b) = ((if a then 1 else 0) == b) := by first | rfl | (unfold eqD; rfl) | simp [eqD]
theorem eq_bl_str (a : Bool) (b : Str) : eqD (.bl a) (.str b) = false := by first | rfl | (unfold eqD; rfl) | simp [eqD]
theorem eq_bl_tup (a : Bool) (b : List D) : eqD (.bl a) (.tup b) = false := by first | rfl | (unfold eqD; rfl) | simp [eqD]
theorem eq_bl_lst (a : Bool) (b : List D) : eqD (.bl a) (.lst b) = false := by first | rfl | (unfold eqD; rfl) | simp [eqD]
theorem eq_int_non (a : Int) : eqD (.int a) .non = false := by first | rfl | (unfold eqD; rfl) | simp [eqD]
theorem eq_int_bl (a : Int) (b : Bool) : eqD (.int a) (.bl b) = (a == (if b then 1 else 0)) := by first | rfl | (unfold eqD; rfl) | simp [eqD]
theorem eq_int_int (a : Int) (b : Int) : eqD (.int a) (.int b) = (a == b) := by first | rfl | (unfold eqD; rfl) | simp [eqD]
theorem eq_int_str (a : Int) (b : Str) : eqD (.int a) (.str b) = false := by first | rfl | (unfold eqD; rfl) | simp [eqD]
theorem eq_int_tup (a : Int) (b : List D) : eqD (.int a) (.tup b) = false := by first | rfl | (unfold eqD; rfl) | simp [eqD]
theorem eq_int_lst (a : Int) (b : List D) : eqD (.int a) (.lst b) = false := by first | rfl | (unfold eqD; rfl) | simp [eqD]
theorem eq_str_non (a : Str) : eqD (.str a) .non = false := by first | rfl | (unfold eqD; rfl) | simp [eqD]
theorem eq_str_bl (a : Str) (b : Bool) : eqD (.str a) (.bl b) = false := by first | rfl | (unfold eqD; rfl) | simp [eqD]
theorem eq_str_int (a : Str) (b : Int) : eqD (.str a) (.int b) = false := by first | rfl | (unfold eqD; rfl) | simp [eqD]
theorem eq_str_str (a : Str) (b : Str) : eqD (.str a) (.str b) = (a == b) := by first | rfl | (unfold eqD; rfl) | simp [eqD]
theorem eq_str_tup (a : Str) (b : List D) : eqD (.str a) (.tup b) = false := by first | rfl | (unfold eqD; rfl) | simp [eqD]
theorem eq_str_lst (a : Str) (b : List D) : eqD (.str a) (.lst b) = false := by first | rfl | (unfold eqD; rfl) | simp [eqD]
theorem eq_tup_non (a : List D) : eqD (.tup a) .non = false := by first | rfl | (unfold eqD; rfl) | simp [eqD]
theorem eq_tup_bl (a : List D) (b : Bool) : eqD (.tup a) (.bl b) = false := by first | rfl | (unfold eqD; rfl) | simp [eqD]
theorem eq_tup_int (a : List D) (b : Int) : eqD (.tup a) (.int b) = false := by first | rfl | (unfold eqD; rfl) | simp [eqD]
theorem eq_tup_str (a : List D) (b : Str) : eqD (.tup a) (.str b) = false := by first | rfl | (unfold eqD; rfl) | simp [eqD]
theorem eq_tup_tup (a : List D) (b : List D) : eqD (.tup a) (.tup b) = eqDs a b := by first | rfl | (unfold eqD; rfl) | simp [eqD]
theorem eq_tup_lst (a : List D) (b : List D) : eqD (.tup a) (.lst b) = false := by first | rfl | (unfold eqD; rfl) | simp [eqD]
theorem eq_lst_non (a : List D) : eqD (.lst a) .non = false := by first | rfl | (unfold eqD; rfl) | simp [eqD]
theorem eq_lst_bl (a : List D) (b : Bool) : eqD (.lst a) (.bl b) = false := by first | rfl | (unfold eqD; rfl) | simp [eqD]
theorem eq_lst_int (a : List D) (b : Int) : eqD (.lst a) (.int b) = false := by first | rfl | (unfold eqD; rfl) | simp [eqD]
theorem eq_lst_str (a : List D) (b : Str) : eqD (.lst a) (.str b) = false := by first | rfl | (unfold eqD; rfl) | simp [eqD]
theorem eq_lst_tup (a : List D) (b : List D) : eqD (.lst a) (.tup b) = false := by first | rfl | (unfold eqD; rfl) | simp [eqD]
theorem eq_lst_lst (a : List D) (b : List D) : eqD (.lst a) (.lst b) = eqDs a b := by first | rfl | (unfold eqD; rfl) | simp [eqD]
theorem pl_non : plain .non = true := by first | rfl | (unfold plain; rfl)
theorem dp_non : dep .non = 0 := by first | rfl | (unfold dep; rfl)
theorem pl_bl (a : Bool) : plain (.bl a) = true := by first | rfl | (unfold plain; rfl)
theorem dp_bl (a : Bool) : dep (.bl a) = 0 := by first | rfl | (unfold dep; rfl)
theorem pl_int (a : Int) : plain (.int a) = true := by first | rfl | (unfold plain; rfl)
theorem dp_int (a : Int) : dep (.int a) = 0 := by first | rfl | (unfold dep; rfl)
theorem pl_str (a : Str) : plain (.str a) = true := by first | rfl | (unfold plain; rfl)
theorem dp_str (a : Str) : dep (.str a) = 0 := by first | rfl | (unfold dep; rfl)
theorem pl_tup (a : List D) : plain (.tup a) = plains a := by first | rfl | (unfold plain; rfl)
theorem dp_tup (a : List D) : dep (.tup a) = deps a + 1 := by first | rfl | (unfold dep; rfl)
theorem pl_lst (a : List D) : plain (.lst a) = plains a := by first | rfl | (unfold plain; rfl)
theorem dp_lst (a : List D) : dep (.lst a) = deps a + 1 := by first | rfl | (unfold dep; rfl)
theorem eqs_nil : eqDs [] [] = true := by unfold eqDs; rfl
theorem eqs_cons (a b : D) (l m : List D) : eqDs (a :: l) (b :: m) = (eqD a b && eqDs l m) := by rw [eqDs]
theorem eqs_nc (b : D) (m : List D) : eqDs [] (b :: m) = false := by first | rfl | simp [eqDs]
theorem eqs_cn (a : D) (l : List D) : eqDs (a :: l) [] = false := by first | rfl | simp [eqDs]
theorem pls_nil : plains [] = true := by unfold plains; rfl
theorem pls_cons (a : D) (l : List D) : plains (a :: l) = (plain a && plains l) := by rw [plains]
theorem dps_nil : deps [] = 0 := by unfold deps; rfl
theorem dps_cons (a : D) (l : List D) : deps (a :: l) = max (dep a) (deps l) := by rw [deps]
theorem pls_all : ∀ l : List D, plains l = l.all plain
  | [] => by rw [pls_nil]; rfl
  | a :: l => by rw [pls_cons, pls_all l]; rfl
theorem pls_map {α : Type} (f : α → D) (l : List α) (h : ∀ a ∈ l, plain (f a) = true) : plains (l.map f) = true := by
  rw [pls_all, List.all_eq_true]
  intro x hx
  obtain ⟨a, ha, rfl⟩ := List.mem_map.mp hx
  exact h a ha
theorem dps_le {l : List D} {n : Nat} (h : ∀ a ∈ l, dep a ≤ n) : deps l ≤ n := by
  induction l with
  | nil => rw [dps_nil]; exact Nat.zero_le _
  | cons a l ih =>
    rw [dps_cons]
    exact Nat.max_le.mpr ⟨h a List.mem_cons_self, ih fun b hb => h b (List.mem_cons_of_mem _ hb)⟩
theorem pls_ints (l : List Int) : plains (l.map D.int) = true := pls_map _ _ fun _ _ => pl_int _
theorem dps_ints (l : List Int) : deps (l.map D.int) = 0 := Nat.le_zero.mp (dps_le fun d hd => by
  obtain ⟨i, _, rfl⟩ := List.mem_map.mp hd
  rw [dp_int]
  exact Nat.le_refl _)
theorem pls_bls (l : List Bool) : plains (l.map D.bl) = true := pls_map _ _ fun _ _ => pl_bl _
theorem dps_bls (l : List Bool) : deps (l.map D.bl) = 0 := Nat.le_zero.mp (dps_le fun d hd => by
  obtain ⟨i, _, rfl⟩ := List.mem_map.mp hd
  rw [dp_bl]
  exact Nat.le_refl _)
/-- the condition under which == is told -/
def eqOk (x y : D) : Bool := plain x && plain y && decide (min (dep x) (dep y) ≤ 60)
theorem gEq_of (x y : D) (h : eqOk x y = true) : gEq x y = some (.val (.bl (eqD x y))) := if_pos h
theorem gNe_of (x y : D) (h : eqOk x y = true) : gNe x y = some (.val (.bl (!eqD x y))) := if_pos h
theorem gEq_at (x y : D) : gEq x y = br (eqOk x y) (some (.val (.bl (eqD x y)))) none := by rw [br_if]; rfl
theorem gNe_at (x y : D) : gNe x y = br (eqOk x y) (some (.val (.bl (!eqD x y)))) none := by rw [br_if]; rfl
theorem eqOk_at (x y : D) : eqOk x y = (plain x && plain y && decide (min (dep x) (dep y) ≤ 60)) := rfl
theorem gEq_ii (i j : Int) : gEq (.int i) (.int j) = some (.val (.bl (i == j))) := rfl
theorem gNe_ii (i j : Int) : gNe (.int i) (.int j) = some (.val (.bl (!(i == j)))) := rfl
theorem gEq_ss (i j : Str) : gEq (.str i) (.str j) = some (.val (.bl (i == j))) := rfl
theorem gNe_ss (i j : Str) : gNe (.str i) (.str j) = some (.val (.bl (!(i == j)))) := rfl
theorem gEq_bb (i j : Bool) : gEq (.bl i) (.bl j) = some (.val (.bl (i == j))) := rfl
theorem gNe_bb (i j : Bool) : gNe (.bl i) (.bl j) = some (.val (.bl (!(i == j)))) := rfl
def inOk (x : D) (l : List D) : Bool := plain x && plains l && decide (min (deps l) (dep x) ≤ 60)
theorem gIn_lst (x : D) (l : List D) : gIn x (.lst l) = br (inOk x l) (some (.val (.bl (l.any (eqD · x))))) none := by rw [br_if]; rfl
theorem gIn_tup (x : D) (l : List D) : gIn x (.tup l) = br (inOk x l) (some (.val (.bl (l.any (eqD · x))))) none := by rw [br_if]; rfl
theorem gIn_str (x y : Str) : gIn (.str x) (.str y) = some (.val (.bl (inS x y))) := rfl
theorem gNotIn_lst (x : D) (l : List D) : gNotIn x (.lst l) = br (inOk x l) (some (.val (.bl (!l.any (eqD · x))))) none := by rw [br_if]; rfl
theorem gNotIn_tup (x : D) (l : List D) : gNotIn x (.tup l) = br (inOk x l) (some (.val (.bl (!l.any (eqD · x))))) none := by rw [br_if]; rfl
theorem gNotIn_str (x y : Str) : gNotIn (.str x) (.str y) = some (.val (.bl (!inS x y))) := rfl
theorem inOk_at (x : D) (l : List D) : inOk x l = (plain x && plains l && decide (min (deps l) (dep x) ≤ 60)) := rfl
theorem any_nil' (p : D → Bool) : ([] : List D).any p = false := rfl
theorem any_cons' (p : D → Bool) (a : D) (l : List D) : (a :: l).any p = (p a || l.any p) := List.any_cons
end Fm

/-! Fm.P: texts joined; items by place. -/
namespace Fm
open PySem PySem.Spec PyProof.Rows L2

theorem strOk_iff {x : Str} : PyData.strOk x = true ↔ ∀ c ∈ x.cps.toList, c < 0x110000 := by
  unfold PyData.strOk
  rw [← Array.all_toList, List.all_eq_true]
  simp
theorem glue_fold (g : Array Nat) : ∀ (l : List Str) (a : Array Nat), (l.foldl (fun acc p => acc ++ g ++ p.cps) a).toList = a.toList ++ (l.map fun p => g.toList ++ p.cps.toList).flatten
  | [], a => by simp
  | p :: l, a => by
    rw [List.foldl_cons, glue_fold g l]
    simp
theorem join_codes (x : Str) (ys : List Str) : (Txt.join x ys).cps.toList = (match ys with
    | [] => []
    | y :: r => y.cps.toList ++ (r.map fun p => x.cps.toList ++ p.cps.toList).flatten) := by
  unfold Txt.join Builtin.Str.glued
  rw [glue_fold]
  cases ys with
  | nil => simp [Str.empty]
  | cons y r => simp
theorem strOk_join {x : Str} {ys : List Str} (hx : PyData.strOk x = true) (h : ∀ y ∈ ys, PyData.strOk y = true) : PyData.strOk (Txt.join x ys) = true := by
  rw [strOk_iff]
  intro c hc
  rw [join_codes] at hc
  cases ys with
  | nil => cases hc
  | cons y r =>
    rcases List.mem_append.mp hc with hc | hc
    · exact strOk_iff.mp (h y List.mem_cons_self) c hc
    · obtain ⟨q, hq, hc⟩ := List.mem_flatten.mp hc
      obtain ⟨p, hp, rfl⟩ := List.mem_map.mp hq
      rcases List.mem_append.mp hc with hc | hc
      · exact strOk_iff.mp hx c hc
      · exact strOk_iff.mp (h p (List.mem_cons_of_mem _ hp)) c hc
theorem txs_map (ys : List Str) : txs (ys.map D.str) = some ys := by
  induction ys with
  | nil => rfl
  | cons y ys ih => rw [List.map_cons]; unfold txs; rw [ih]
theorem gJoin_ok' {x : Str} {ys : List Str} (h1 : (ys.map (·.length)).sum + ys.length * x.length ≤ 16777216) (hx : PyData.strOk x = true) (h : ∀ y ∈ ys, PyData.strOk y = true) : gJoin x [.lst (ys.map D.str)] = some (.val (.str (Txt.join x ys))) := by
  unfold gJoin
  simp only [txs_map]
  exact if_pos ⟨h1, strOk_join hx h⟩
/-! ### items -/
theorem atI_5 {α : Type} (a b c d e f : α) (l : List α) : atI (a :: b :: c :: d :: e :: f :: l) 5 = some f := atI_nat (j := 5) rfl
theorem atI_6 {α : Type} (a b c d e f g : α) (l : List α) : atI (a :: b :: c :: d :: e :: f :: g :: l) 6 = some g := atI_nat (j := 6) rfl
theorem atI_7 {α : Type} (a b c d e f g h : α) (l : List α) : atI (a :: b :: c :: d :: e :: f :: g :: h :: l) 7 = some h := atI_nat (j := 7) rfl
theorem atI_8 {α : Type} (a b c d e f g h i : α) (l : List α) : atI (a :: b :: c :: d :: e :: f :: g :: h :: i :: l) 8 = some i := atI_nat (j := 8) rfl
theorem atI_9 {α : Type} (a b c d e f g h i j : α) (l : List α) : atI (a :: b :: c :: d :: e :: f :: g :: h :: i :: j :: l) 9 = some j := atI_nat (j := 9) rfl
theorem atI_map {α β : Type} (f : α → β) (l : List α) (i : Int) : atI (l.map f) i = (atI l i).map f := by
  unfold atI
  rw [List.length_map]
  cases ixN l.length i with
  | none => rfl
  | some j => simp
theorem atI_in {α : Type} {l : List α} {i : Int} (h : 0 ≤ i ∧ i < l.length) : ∃ a, atI l i = some a ∧ l[i.toNat]? = some a := by
  have hn : i.toNat < l.length := by omega
  have e : ((i.toNat : Nat) : Int) = i := Int.toNat_of_nonneg h.1
  have := atI_nat (j := i.toNat) (List.getElem?_eq_getElem hn)
  rw [e] at this
  exact ⟨_, this, List.getElem?_eq_getElem hn⟩
theorem mem_irg {lo : Int} {n : Nat} {d : D} (h : d ∈ irg lo n) : ∃ i : Int, d = .int i ∧ lo ≤ i ∧ i < lo + n := by
  unfold irg at h
  obtain ⟨k, hk, rfl⟩ := List.mem_map.mp h
  have := List.mem_range.mp hk
  exact ⟨_, rfl, by omega, by omega⟩
theorem irg_len (lo : Int) (n : Nat) : (irg lo n).length = n := by simp [irg]
/-- what comes out of a comprehension, each of R -/
theorem compL_all {tg : D → S → Option S} {e : Ev} {cs : List Nat} (I : S → Prop) (R : D → Prop) : ∀ (ds : List D) (ρ : S), (∀ d ∈ ds, ∀ ρ, I ρ → ∃ ρ1 x ρ3, tg d ρ = some ρ1 ∧ eZ e ρ1 = some (.ok (.val x) ρ3) ∧ R x ∧ I (clr ρ3 cs)) → I ρ → ∃ xs ρ', compL tg eYes e cs ds ρ = some (.ok xs ρ') ∧ I ρ' ∧ xs.length = ds.length ∧ ∀ x ∈ xs, R x
  | [], ρ, _, h => ⟨_, _, rfl, h, rfl, fun x hx => by cases hx⟩
  | d :: ds, ρ, hs, h => by
    obtain ⟨ρ1, x, ρ3, e1, e2, r, h2⟩ := hs d List.mem_cons_self ρ h
    obtain ⟨xs, ρ', e4, h4, h5, h6⟩ := compL_all I R ds (clr ρ3 cs) (fun d hd => hs d (List.mem_cons_of_mem _ hd)) h2
    refine ⟨x :: xs, ρ', ?_, h4, by simp [h5], fun y hy => ?_⟩
    · rw [compL_cons, e1, compG_some, eYes_at, compT_t, e2, compE_ok]
      exact compK_ok e4
    · rcases List.mem_cons.mp hy with rfl | hy
      · exact r
      · exact h6 y hy
theorem all_map {α : Type} {R : D → Prop} (f : α → D) (hR : ∀ d, R d → ∃ a, d = f a) : ∀ l : List D, (∀ d ∈ l, R d) → ∃ m : List α, l = m.map f ∧ ∀ a ∈ m, R (f a)
  | [], _ => ⟨[], rfl, fun a h => by cases h⟩
  | d :: l, h => by
    obtain ⟨a, rfl⟩ := hR d (h d List.mem_cons_self)
    obtain ⟨m, rfl, hm⟩ := all_map f hR l fun d hd => h d (List.mem_cons_of_mem _ hd)
    exact ⟨a :: m, rfl, fun b hb => by
      rcases List.mem_cons.mp hb with rfl | hb
      · exact h _ List.mem_cons_self
      · exact hm b hb⟩
end Fm

namespace K12
open PySem PySem.Spec PyProof.Rows L2 Fm
def subC (a b : Nat) : Bool := ([[true, false, false, false, false, false, false, false, false], [true, true, false, false, false, false, false, false, false], [true, false, true, false, false, false, false, false, false], [true, false, false, true, false, false, false, false, false], [true, false, false, false, true, false, false, false, false], [true, false, false, false, false, true, false, false, false], [true, false, false, false, false, false, true, false, false], [true, false, false, false, false, false, false, true, false], [true, false, false, false, false, false, false, false, true]].getD a []).getD b false
/-- _law_mixed(cell, k, number) -/
def g_law_mixed : Es := (sSeq (sSet 2 (eB gMod (eB gMul (eB gAdd (eB gMod (eV 0) (eC (.int 2147483647))) (eB gMul (eC (.int 104729)) (eB gAdd (eV 1) (eC (.int 1))))) (eC (.int 48271))) (eC (.int 2147483647))))
  (sRet (eB gMod (eB gAdd (eB gAdd (eB gMul (eV 2) (eV 2)) (eB gMul (eC (.int 40692)) (eV 2))) (eV 1)) (eC (.int 2147483629)))))
def φ_law_mixed : Fn := raw 3 g_law_mixed
/-- _law_cell_at(script, k, cell) -/
def g_law_cell_at : Es := (sSeq (sSet 2 (eC (.int 0)))
  (sSeq (sIf (eTest (eB gLt (eV 1) (eNB gLen (bCons (eV 0) aNil)))) (sSet 2 (eB gIx (eV 0) (eV 1))) (sIf (eTest (eB gNe (eV 0) (eN gLstD aNil))) (sSet 2 (eB gIx (eV 0) (eB gMod (eV 1) (eNB gLen (bCons (eV 0) aNil))))) sNil))
  (sRet (eCall φ_law_mixed (aCons (eV 2) (aCons (eV 1) aNil))))))
def φ_law_cell_at : Fn := raw 3 g_law_cell_at
/-- _law_next(draw, many) -/
def g_law_next : Es := (sSeq (sAugBox (· + ·) (eV 0) (eC (.int 1)) (eC (.int 1)))
  (sRet (eB gMod (eB gDiv (eCall φ_law_mixed (aCons (eB gIx (eV 0) (eC (.int 0))) (aCons (eB gIx (eV 0) (eC (.int 1))) aNil))) (eC (.int 11))) (eV 1))))
def φ_law_next : Fn := raw 2 g_law_next
/-- _law_classes(e, found) -/
def g_law_classes : Es := (sSeq (sSet 1 (eN gLstD (aCons (eIsi 9 subC (.own 1) (eV 0)) (aCons (eIsi 9 subC (.own 2) (eV 0)) aNil))))
  (sSeq (sSet 1 (eB gAdd (eV 1) (eN gLstD (aCons (eIsi 9 subC (.own 3) (eV 0)) (aCons (eIsi 9 subC (.own 4) (eV 0)) aNil)))))
  (sSeq (sSet 1 (eB gAdd (eV 1) (eN gLstD (aCons (eIsi 9 subC (.own 5) (eV 0)) (aCons (eIsi 9 subC (.own 6) (eV 0)) aNil)))))
  (sRet (eB gAdd (eV 1) (eN gLstD (aCons (eIsi 9 subC (.own 7) (eV 0)) (aCons (eIsi 9 subC (.own 8) (eV 0)) aNil))))))))
def φ_law_classes : Fn := raw 2 g_law_classes
/-- law(script, k, draw, at, text, made, place, e, turn, one) -/
def g_law : Es := (sSeq (sFor (iR1 (aCons (eNB gMax (bCons (eC (.int 1)) (bCons (eNB gMin (bCons (eC (.int 10)) (bCons (eNB gLen (bCons (eV 0) aNil)) aNil))) aNil))) aNil)) (gN 1) [] (sSeq (sSet 2 (eBox (eN gLstD (aCons (eCall φ_law_cell_at (aCons (eV 0) (aCons (eV 1) aNil))) (aCons (eV 1) aNil)))))
  (sSeq (sSet 3 (eCall φ_law_next (aCons (eV 2) (aCons (eB gIx (eN gLstD (aCons (eC (.int 25)) (aCons (eC (.int 5000)) aNil))) (eCall φ_law_next (aCons (eV 2) (aCons (eC (.int 2)) aNil)))) aNil))))
  (sSeq (sSet 4 (eSM gJoin (eC (.str "")) (bCons (eComp (iR1 (aCons (eCall φ_law_next (aCons (eV 2) (aCons (eC (.int 9)) aNil))) aNil)) (gN 8) eYes (eB gIx (eC (.str "abc xyz019")) (eCall φ_law_next (aCons (eV 2) (aCons (eC (.int 10)) aNil)))) [8]) aNil)))
  (sSeq (sSet 5 (eN gLstD (aCons (eMkE 1 (eV 4)) (aCons (eMkE 2 (eV 4)) (aCons (eMkE 3 (eV 4)) (aCons (eMkE 4 (eV 4)) aNil))))))
  (sSeq (sSet 5 (eB gAdd (eV 5) (eN gLstD (aCons (eMkE 5 (eV 4)) (aCons (eMkE 6 (eV 4)) (aCons (eMkE 7 (eV 4)) (aCons (eMkI 8 "at" (eV 3)) aNil)))))))
  (sSeq (sFor (iR1 (aCons (eC (.int 8)) aNil)) (gN 6) [] (sSeq (sSet 7 (eB gIx (eV 5) (eV 6)))
  (sSeq (sIf (eTest (eB gNe (eCall φ_law_classes (aCons (eV 7) aNil)) (eComp (iR1 (aCons (eC (.int 8)) aNil)) (gN 9) eYes (eB gEq (eV 6) (eV 9)) [9]))) (sRet (eC (.bl false))) sNil)
  (sIf (eOrT (eNotT (eTest (eIsi 9 subC (.own 0) (eV 7)))) (eNotT (eTest (eIsi 9 subC (.ty "ValueError") (eV 7))))) (sRet (eC (.bl false))) sNil))))
  (sSeq (sIf (eOrT (eTest (eB gNe (eXf 9 "at" (eB gIx (eV 5) (eC (.int 7)))) (eV 3))) (eTest (eIsi 9 subC (.ty "bool") (eXf 9 "at" (eB gIx (eV 5) (eC (.int 7))))))) (sRet (eC (.bl false))) sNil)
  (sIf (eOrT (eTest (eB gIn (eC (.bl true)) (eCall φ_law_classes (aCons (eMkE 0 (eV 4)) aNil)))) (eNotT (eTest (eIsi 9 subC (.ty "ValueError") (eMkE 0 (eV 4)))))) (sRet (eC (.bl false))) sNil)))))))))
  (sRet (eC (.bl true))))
def φ_law : Fn := raw 10 g_law
end K12

namespace K12
open PySem PySem.Spec PyProof.Rows L2 Fm
local macro_rules | `(tactic| walk_at "ev") => `(tactic| simp (disch := first | omega | exact Nat.le_of_ble_eq_true rfl | decide) only [bd_ok, bd_ex, bs_ok, bs_ex, sSeq_at, sq_nx, sq_rt, sq_bk, sq_ct, sq_ex, sNil_at, sBrk_at, sCont_at, sSet_at, putA_val, putA_box, putA_own, sExpr_at, sRet_at, retA_val, retA_own, retA_box, retA_bor, retB_own, sRetN_at, br_t, br_f, sIf_at, eC_at, eV_at, evA_val, evA_box, evA_own, ob_some, l1_at, ret_some, eU_at, eB_at, look_val, look_own, look_box, bxD_lst, look_bor, lookB_val, lookB_own, lookB_box, eZ_at, zA_val, zA_own, zA_box, zA_bor, zB_own, zB_val, aNil_at, aCons_at, bCons_at, eN_at, eNB_at, datas_nil, datas_cons, looks_nil, looks_cons, gTupD_nil, gLstD_nil, gTup1, gTup2, gTup3, gTup4, gTup5, gLst1, gLst2, gLst3, gLst4, gLst5, gLst6, eTest_at, bA_bl, eAndT_at, eOrT_at, eNotT_at, eAndV_at, eOrV_at, eNotV_at, eIf_at, eYes_at, gAdd_int, gSub_int, gNeg_int, gCmp_int, gCmp_str, gIsN_non, gNotN_non, isNon_non, isNon_bl, isNon_int, isNon_str, isNon_tup, isNon_lst, gLen_lst, gLen_tup, oV_some, gIx_lst, gIx_tup, fnRes_rt, fnRes_nx, fnRes_ex, nbRes_nx, nbRes_ex, nbRes_val, nbRes_own, nbRes_box, slots_at, eCall_at, fin_val, fin_own, fin_box, fin_exc, eBox_at, bxA_own, forL_nil, forG_some, forT_nx, forT_ct, forT_bk, forT_rt, forT_ex, gN_at, gT_tup, gNil_nil, gCons_cons, clr_nil, clr_cons, iL_at, iLA_lst, iT_at, iTA_tup, iR1_at, iR2_at, compL_nil, compG_some, compT_t, compT_f, compE_ok, sAugBox_at, atI_0, atI_1, atI_2, atI_3, atI_4, set_at0, set_at1, List.getElem?_cons_zero, List.getElem?_cons_succ, List.set_cons_zero, List.set_cons_succ, List.length_cons, List.length_nil, List.map_cons, List.map_nil, List.cons_append, List.nil_append, List.append_nil, List.replicate_succ, List.replicate_zero, Nat.reduceAdd, Nat.reduceSub, Nat.zero_add, Nat.sub_self, and_self, and_true, true_and, List.getElem?_set_self, gMod_int, gDiv_int, gMul_l, gMul_r, r1A_ok, r2A_ok, gTupD_ok, gLstD_ok, eIsi_at, isiO_some, gIsi_non, gIsi_bl, gIsi_int, gIsi_str, gIsi_tup, gIsi_lst, gIsi_exc, gIsi_excV, kb_nb, kb_ni, kb_ns, kb_nt, kb_nl, kb_bb, kb_bi, kb_bs, kb_bt, kb_bL, kb_ib, kb_ii, kb_is, kb_it, kb_il, kb_sb, kb_si, kb_ss, kb_st, kb_sl, kb_tb, kb_ti, kb_ts, kb_tt, kb_tl, kb_lb, kb_li, kb_ls, kb_lt, kb_ll, eMkE_at, eMkI_at, mkIA_val, eXf_at, xfA_one, eSM_at, smA_str, gMax_int, gMin_int, eCh_at, chA_bl, iA_at, iAA_lst, iAA_tup, iAA_str, raw_at, rawR_val, rawR_own, rawR_box, rawR_nx, rawR_ex, eq_non_non, eq_non_bl, eq_non_int, eq_non_str, eq_non_tup, eq_non_lst, eq_bl_non, eq_bl_bl, eq_bl_int, eq_bl_str, eq_bl_tup, eq_bl_lst, eq_int_non, eq_int_bl, eq_int_int, eq_int_str, eq_int_tup, eq_int_lst, eq_str_non, eq_str_bl, eq_str_int, eq_str_str, eq_str_tup, eq_str_lst, eq_tup_non, eq_tup_bl, eq_tup_int, eq_tup_str, eq_tup_tup, eq_tup_lst, eq_lst_non, eq_lst_bl, eq_lst_int, eq_lst_str, eq_lst_tup, eq_lst_lst, pl_non, dp_non, pl_bl, dp_bl, pl_int, dp_int, pl_str, dp_str, pl_tup, dp_tup, pl_lst, dp_lst, eqs_nil, eqs_cons, eqs_nc, eqs_cn, pls_nil, pls_cons, dps_nil, dps_cons, pls_ints, dps_ints, pls_bls, dps_bls, gEq_ii, gNe_ii, gEq_ss, gNe_ss, gEq_bb, gNe_bb, gEq_at, gNe_at, eqOk_at, gIn_lst, gIn_tup, gIn_str, gNotIn_lst, gNotIn_tup, gNotIn_str, inOk_at, any_nil', any_cons', gAdd_lst, gAdd_tup, gAdd_str, gLen_str, Bool.and_true, Bool.true_and, Bool.and_self, Bool.and_false, Bool.false_and, Bool.or_false, Bool.false_or, Bool.or_true, Bool.true_or, Nat.zero_min, Nat.min_zero, Nat.min_self, Nat.max_self, Nat.zero_max, Nat.max_zero, Nat.zero_le, decide_true, decide_false, Bool.not_true, Bool.not_false, beq_self_eq_true, Nat.reduceLeDiff, atI_5, atI_6, atI_7, atI_8, atI_9])
def mixed (cell k : Int) : Int :=
  let number := (cell % 2147483647 + 104729 * (k + 1)) * 48271 % 2147483647
  (number * number + 40692 * number + k) % 2147483629
theorem e_mixed (c k : Int) (B : List Bx) : φ_law_mixed [.val (.int c), .val (.int k)] B = some (.ret (.val (.int (mixed c k))) B) := by
  unfold φ_law_mixed g_law_mixed mixed
  walk_at "ev"
theorem e_cell_at (ns : List Int) (k : Int) (hk : 0 ≤ k) (B : List Bx) : ∃ c, φ_law_cell_at [.val (.lst (ns.map D.int)), .val (.int k)] B = some (.ret (.val (.int c)) B) := by
  unfold φ_law_cell_at g_law_cell_at
  walk_at "ev"
  simp only [List.length_map]
  by_cases h : k < ns.length
  · rw [decide_eq_true h]
    obtain ⟨c, hc, _⟩ := atI_in (l := ns) (i := k) ⟨hk, h⟩
    rw [atI_map, hc]
    refine ⟨mixed c k, ?_⟩
    simp only [Option.map_some]
    walk_at "ev"
    simp only [e_mixed]
    walk_at "ev"
  · rw [decide_eq_false h]
    cases ns with
    | nil =>
      refine ⟨mixed 0 k, ?_⟩
      simp only [List.map_nil]
      walk_at "ev"
      simp only [e_mixed]
      walk_at "ev"
    | cons n ns =>
      have hl : (0 : Int) < ((n :: ns).length : Nat) := by simp only [List.length_cons]; omega
      obtain ⟨c, hc, _⟩ := atI_in (l := n :: ns) (i := k % ((n :: ns).length : Nat)) ⟨Int.emod_nonneg _ (by omega), Int.emod_lt_of_pos _ hl⟩
      refine ⟨mixed c k, ?_⟩
      rw [List.map_cons, eqs_cn, ← List.map_cons]
      walk_at "ev"
      rw [← List.map_cons, ← List.length_cons (a := n), atI_map, hc]
      simp only [Option.map_some]
      walk_at "ev"
      simp only [e_mixed]
      walk_at "ev"
def nxt (c k many : Int) : Int := mixed c (k + 1) / 11 % many
theorem nxt_in (c k many : Int) (h : 0 < many) : 0 ≤ nxt c k many ∧ nxt c k many < many := ⟨Int.emod_nonneg _ (by omega), Int.emod_lt_of_pos _ h⟩
theorem e_next (n : Nat) (c k many : Int) (hm : 0 < many) (B : List Bx) (hb : B[n]? = some (.lst [.int c, .int k])) : φ_law_next [.box n, .val (.int many)] B = some (.ret (.val (.int (nxt c k many))) (B.set n (.lst [.int c, .int (k + 1)]))) := by
  have hn : n < B.length := (List.getElem?_eq_some_iff.mp hb).1
  unfold φ_law_next g_law_next
  walk_at "ev"
  simp only [augB_1 _ _ _ _ _ _ (show (⟨[some (A.box n), some (A.val (D.int many))], B⟩ : Fm.S).bx[n]? = _ from hb)]
  walk_at "ev"
  simp only [e_mixed]
  walk_at "ev"
  rfl
theorem e_classes (c : Nat) (hc : c < 9) (ns : List Str) (l : List D) (B : List Bx) : φ_law_classes [.val (.exc c ns l)] B = some (.ret (.own ([1, 2, 3, 4, 5, 6, 7, 8].map fun k => .bl (subC c k))) B) := by
  unfold φ_law_classes g_law_classes
  walk_at "ev"
/-- what the draws give -/
theorem draw_at (B : List Bx) (c k : Int) : (B ++ [Bx.lst [.int c, .int k]])[B.length]? = some (.lst [.int c, .int k]) := by simp
theorem draw_set (B : List Bx) (c k c' k' : Int) : (B ++ [Bx.lst [.int c, .int k]]).set B.length (.lst [.int c', .int k']) = B ++ [.lst [.int c', .int k']] := by simp
theorem e_next' (c k many : Int) (hm : 0 < many) (B : List Bx) : φ_law_next [.box B.length, .val (.int many)] (B ++ [.lst [.int c, .int k]]) = some (.ret (.val (.int (nxt c k many))) (B ++ [.lst [.int c, .int (k + 1)]])) := by
  rw [e_next _ c k many hm _ (draw_at B c k), draw_set]
def sg : List D := "abc xyz019".toList.map fun c => .str ⟨#[c.toNat]⟩
theorem e_two (c k : Int) : ∃ m : Int, atI [D.int 25, D.int 5000] (nxt c k 2) = some (.int m) ∧ 0 < m := by
  have h := nxt_in c k 2 (by omega)
  have h2 : nxt c k 2 = 0 ∨ nxt c k 2 = 1 := by omega
  rcases h2 with e | e <;> rw [e]
  · exact ⟨25, rfl, by omega⟩
  · exact ⟨5000, rfl, by omega⟩
theorem e_sign (i : Int) (h : 0 ≤ i ∧ i < 10) : ∃ z : Str, gIx (.str "abc xyz019") (.int i) = some (.val (.str z)) ∧ PyData.strOk z = true ∧ z.length = 1 := by
  have h2 : i = 0 ∨ i = 1 ∨ i = 2 ∨ i = 3 ∨ i = 4 ∨ i = 5 ∨ i = 6 ∨ i = 7 ∨ i = 8 ∨ i = 9 := by omega
  rcases h2 with rfl | rfl | rfl | rfl | rfl | rfl | rfl | rfl | rfl | rfl <;> exact ⟨_, by first | rfl | kernel_rfl, by decide +kernel, rfl⟩
theorem e_text (sl : List (Option A)) (hl : sl.length = 10) (B : List Bx) (c k : Int) (h2 : sl[2]? = some (some (.box B.length))) (h8 : sl[8]? = some none) :
    ∃ (ys : List Str) (k' : Int), eComp (iR1 (aCons (eCall φ_law_next (aCons (eV 2) (aCons (eC (.int 9)) aNil))) aNil)) (gN 8) eYes (eB gIx (eC (.str "abc xyz019")) (eCall φ_law_next (aCons (eV 2) (aCons (eC (.int 10)) aNil)))) [8] ⟨sl, B ++ [.lst [.int c, .int k]]⟩ =
      some (.ok (.own (ys.map D.str)) ⟨sl, B ++ [.lst [.int c, .int k']]⟩) ∧ ∃ t, gJoin "" [.lst (ys.map D.str)] = some (.val (.str t)) := by
  have hn := nxt_in c k 9 (by omega)
  obtain ⟨xs, ρ', e1, ⟨k', rfl⟩, e3, e4⟩ := compL_all (tg := gN 8) (e := eB gIx (eC (.str "abc xyz019")) (eCall φ_law_next (aCons (eV 2) (aCons (eC (.int 10)) aNil)))) (cs := [8]) (fun ρ => ∃ k', ρ = ⟨sl, B ++ [.lst [.int c, .int k']]⟩) (fun d => ∃ z : Str, d = .str z ∧ PyData.strOk z = true ∧ z.length = 1) (irg 0 (nxt c k 9).toNat) ⟨sl, B ++ [.lst [.int c, .int (k + 1)]]⟩
    (fun d hd ρ ⟨k', hρ⟩ => by
      subst hρ
      obtain ⟨z, hz, ok, hz1⟩ := e_sign _ (nxt_in c k' 10 (by omega))
      have h2' : (sl.set 8 (some (.val d)))[2]? = some (some (.box B.length)) := by rw [List.getElem?_set_ne (by decide)]; exact h2
      refine ⟨_, .str z, ⟨sl.set 8 (some (.val d)), B ++ [.lst [.int c, .int (k' + 1)]]⟩, gN_at _ _ _, ?_, ⟨z, rfl, ok, hz1⟩, k' + 1, ?_⟩
      · walk_at "ev"
        rw [h2']
        walk_at "ev"
        rw [e_next' c k' 10 (by omega)]
        walk_at "ev"
        rw [hz]
        walk_at "ev"
      · have hs : (sl.set 8 (some (.val d))).set 8 none = sl := by
          rw [List.set_set]
          apply List.ext_getElem?
          intro i
          by_cases hi : i = 8
          · subst hi; rw [List.getElem?_set_self (by omega), h8]
          · rw [List.getElem?_set_ne (Ne.symm hi)]
        walk_at "ev"
        rw [hs])
    ⟨k + 1, rfl⟩
  obtain ⟨ys, rfl, hy⟩ := all_map D.str (fun d ⟨z, h, _⟩ => ⟨z, h⟩) xs e4
  have hlen : ys.length ≤ 9 := by
    have := e3
    rw [List.length_map, irg_len] at this
    omega
  have hys : ∀ y ∈ ys, PyData.strOk y = true ∧ y.length = 1 := fun y hy' => by
    obtain ⟨z, e, a, b⟩ := hy y hy'
    cases e
    exact ⟨a, b⟩
  have hsum : (ys.map (·.length)).sum = ys.length := by
    clear hy e1 e3 e4 hlen
    induction ys with
    | nil => rfl
    | cons y ys ih => rw [List.map_cons, List.sum_cons, ih fun z hz => hys z (List.mem_cons_of_mem _ hz), (hys y List.mem_cons_self).2, List.length_cons]; omega
  refine ⟨ys, k', ?_, Txt.join "" ys, gJoin_ok' (by rw [hsum]; have : (Str.ofString "").length = 0 := rfl; rw [this]; omega) (by decide +kernel) fun y h => (hys y h).1⟩
  simp only [eComp_at]
  walk_at "ev"
  rw [h2]
  walk_at "ev"
  rw [e_next' c k 9 (by omega)]
  walk_at "ev"
  have hs : sl.set 8 none = sl := by
    apply List.ext_getElem?
    intro i
    by_cases hi : i = 8
    · subst hi; rw [List.getElem?_set_self (by omega), h8]
    · rw [List.getElem?_set_ne (Ne.symm hi)]
  rw [hs, e1, compR_ok _ _ (by rw [List.length_map]; omega)]
def made (t : Str) (at_ : Int) : List D := [.exc 1 [] [], .exc 2 [] [], .exc 3 [] [], .exc 4 [] [], .exc 5 [] [], .exc 6 [] [], .exc 7 [] [], .exc 8 ["at"] [.int at_]]
def g_in : Es := (sSeq (sSet 7 (eB gIx (eV 5) (eV 6)))
  (sSeq (sIf (eTest (eB gNe (eCall φ_law_classes (aCons (eV 7) aNil)) (eComp (iR1 (aCons (eC (.int 8)) aNil)) (gN 9) eYes (eB gEq (eV 6) (eV 9)) [9]))) (sRet (eC (.bl false))) sNil)
  (sIf (eOrT (eNotT (eTest (eIsi 9 subC (.own 0) (eV 7)))) (eNotT (eTest (eIsi 9 subC (.ty "ValueError") (eV 7))))) (sRet (eC (.bl false))) sNil)))
theorem e_places (sl : List (Option A)) (p : Int) (B : List Bx) (hl : sl.length = 10) (h6 : sl[6]? = some (some (.val (.int p)))) (h9 : sl[9]? = some none) :
    eComp (iR1 (aCons (eC (.int 8)) aNil)) (gN 9) eYes (eB gEq (eV 6) (eV 9)) [9] ⟨sl, B⟩ = some (.ok (.own ((irg 0 8).map fun d => match d with | .int i => .bl (p == i) | _ => .non)) ⟨sl, B⟩) := by
  have hs : sl.set 9 none = sl := by
    apply List.ext_getElem?
    intro i
    by_cases hi : i = 9
    · subst hi; rw [List.getElem?_set_self (by omega), h9]
    · rw [List.getElem?_set_ne (Ne.symm hi)]
  simp only [eComp_at]
  walk_at "ev"
  rw [hs]
  rw [compR_ok' (compL_pure (fun d => match d with | .int i => D.bl (p == i) | _ => D.non) (irg 0 (Int.toNat 8)) fun d hd => ?_) (by rw [List.length_map, irg_len]; decide)]
  · rfl
  · obtain ⟨i, rfl, _, _⟩ := mem_irg hd
    have h6' : (sl.set 9 (some (.val (.int i))))[6]? = some (some (.val (.int p))) := by rw [List.getElem?_set_ne (by decide)]; exact h6
    have h9' : (sl.set 9 (some (.val (.int i))))[9]? = some (some (.val (.int i))) := by rw [List.getElem?_set_self (by omega)]
    refine ⟨_, ⟨sl.set 9 (some (.val (.int i))), B⟩, gN_at _ _ _, ?_, ?_⟩
    · walk_at "ev"
      rw [h6']
      walk_at "ev"
    · walk_at "ev"
      rw [List.set_set, hs]
theorem e_in (p : Int) (hp : 0 ≤ p ∧ p < 8) (a0 a1 a2 a3 a4 a7 : Option A) (t : Str) (at_ : Int) (B : List Bx) :
    ∃ a7', g_in ⟨[a0, a1, a2, a3, a4, some (.own (made t at_)), some (.val (.int p)), a7, none, none], B⟩ = some (.nx ⟨[a0, a1, a2, a3, a4, some (.own (made t at_)), some (.val (.int p)), a7', none, none], B⟩) := by
  have h2 : p = 0 ∨ p = 1 ∨ p = 2 ∨ p = 3 ∨ p = 4 ∨ p = 5 ∨ p = 6 ∨ p = 7 := by omega
  unfold g_in made
  rcases h2 with rfl | rfl | rfl | rfl | rfl | rfl | rfl | rfl <;>
  · refine ⟨?_, ?_⟩
    rotate_left
    walk_at "ev"
    try simp only [show ∀ (a b c d e f g h : D), atI [a, b, c, d, e, f, g, h] 5 = some f from fun _ _ _ _ _ _ _ _ => rfl, show ∀ (a b c d e f g h : D), atI [a, b, c, d, e, f, g, h] 6 = some g from fun _ _ _ _ _ _ _ _ => rfl, show ∀ (a b c d e f g h : D), atI [a, b, c, d, e, f, g, h] 7 = some h from fun _ _ _ _ _ _ _ _ => rfl]
    try walk_at "ev"
    rw [e_classes _ (by decide)]
    walk_at "ev"
    rw [e_places _ _ _ (by rfl) rfl rfl]
    walk_at "ev"
    rfl
def g_turn : Es := (sSeq (sSet 2 (eBox (eN gLstD (aCons (eCall φ_law_cell_at (aCons (eV 0) (aCons (eV 1) aNil))) (aCons (eV 1) aNil)))))
  (sSeq (sSet 3 (eCall φ_law_next (aCons (eV 2) (aCons (eB gIx (eN gLstD (aCons (eC (.int 25)) (aCons (eC (.int 5000)) aNil))) (eCall φ_law_next (aCons (eV 2) (aCons (eC (.int 2)) aNil)))) aNil))))
  (sSeq (sSet 4 (eSM gJoin (eC (.str "")) (bCons (eComp (iR1 (aCons (eCall φ_law_next (aCons (eV 2) (aCons (eC (.int 9)) aNil))) aNil)) (gN 8) eYes (eB gIx (eC (.str "abc xyz019")) (eCall φ_law_next (aCons (eV 2) (aCons (eC (.int 10)) aNil)))) [8]) aNil)))
  (sSeq (sSet 5 (eN gLstD (aCons (eMkE 1 (eV 4)) (aCons (eMkE 2 (eV 4)) (aCons (eMkE 3 (eV 4)) (aCons (eMkE 4 (eV 4)) aNil))))))
  (sSeq (sSet 5 (eB gAdd (eV 5) (eN gLstD (aCons (eMkE 5 (eV 4)) (aCons (eMkE 6 (eV 4)) (aCons (eMkE 7 (eV 4)) (aCons (eMkI 8 "at" (eV 3)) aNil)))))))
  (sSeq (sFor (iR1 (aCons (eC (.int 8)) aNil)) (gN 6) [] (sSeq (sSet 7 (eB gIx (eV 5) (eV 6)))
  (sSeq (sIf (eTest (eB gNe (eCall φ_law_classes (aCons (eV 7) aNil)) (eComp (iR1 (aCons (eC (.int 8)) aNil)) (gN 9) eYes (eB gEq (eV 6) (eV 9)) [9]))) (sRet (eC (.bl false))) sNil)
  (sIf (eOrT (eNotT (eTest (eIsi 9 subC (.own 0) (eV 7)))) (eNotT (eTest (eIsi 9 subC (.ty "ValueError") (eV 7))))) (sRet (eC (.bl false))) sNil))))
  (sSeq (sIf (eOrT (eTest (eB gNe (eXf 9 "at" (eB gIx (eV 5) (eC (.int 7)))) (eV 3))) (eTest (eIsi 9 subC (.ty "bool") (eXf 9 "at" (eB gIx (eV 5) (eC (.int 7))))))) (sRet (eC (.bl false))) sNil)
  (sIf (eOrT (eTest (eB gIn (eC (.bl true)) (eCall φ_law_classes (aCons (eMkE 0 (eV 4)) aNil)))) (eNotT (eTest (eIsi 9 subC (.ty "ValueError") (eMkE 0 (eV 4)))))) (sRet (eC (.bl false))) sNil))))))))
theorem e_inner (t : Str) (at_ : Int) (a0 a1 a2 a3 a4 a6 a7 : Option A) (B : List Bx) : ∃ a6' a7', sFor (iR1 (aCons (eC (.int 8)) aNil)) (gN 6) [] g_in ⟨[a0, a1, a2, a3, a4, some (.own (made t at_)), a6, a7, none, none], B⟩ = some (.nx ⟨[a0, a1, a2, a3, a4, some (.own (made t at_)), a6', a7', none, none], B⟩) := by
  obtain ⟨ρ', e, a6', a7', rfl⟩ := forL_inv (tg := gN 6) (cs := []) (body := g_in) (fun ρ => ∃ a6 a7, ρ = ⟨[a0, a1, a2, a3, a4, some (.own (made t at_)), a6, a7, none, none], B⟩) (irg 0 (Int.toNat 8)) ⟨[a0, a1, a2, a3, a4, some (.own (made t at_)), a6, a7, none, none], B⟩
    (fun d hd ρ ⟨a6, a7, hρ⟩ => by
      subst hρ
      obtain ⟨i, rfl, h1, h2⟩ := mem_irg hd
      obtain ⟨a7', e⟩ := e_in i ⟨h1, by have : (Int.toNat 8 : Int) = 8 := rfl; omega⟩ a0 a1 a2 a3 a4 a7 t at_ B
      exact ⟨_, gN_at _ _ _, _, .inl e, _, _, rfl⟩)
    (fun ρ h => h) ⟨a6, a7, rfl⟩
  refine ⟨a6', a7', ?_⟩
  simp only [sFor_at]
  walk_at "ev"
  exact e
theorem e_turn (ns : List Int) (k : Int) (hk : 0 ≤ k) (B : List Bx) (a2 a3 a4 a5 a6 a7 : Option A) :
    ∃ a2' a3' a4' a5' a6' a7' B', g_turn ⟨[some (.val (.lst (ns.map D.int))), some (.val (.int k)), a2, a3, a4, a5, a6, a7, none, none], B⟩ = some (.nx ⟨[some (.val (.lst (ns.map D.int))), some (.val (.int k)), a2', a3', a4', a5', a6', a7', none, none], B'⟩) := by
  obtain ⟨c, hc⟩ := e_cell_at ns k hk B
  obtain ⟨m, hm, hm0⟩ := e_two c k
  obtain ⟨ys, k', ht, t, hj⟩ := e_text [some (.val (.lst (ns.map D.int))), some (.val (.int k)), some (.box B.length), some (.val (.int (nxt c (k + 1) m))), a4, a5, a6, a7, none, none] rfl B c (k + 1 + 1) rfl rfl
  obtain ⟨a6', a7', hi⟩ := e_inner t (nxt c (k + 1) m) (some (.val (.lst (ns.map D.int)))) (some (.val (.int k))) (some (.box B.length)) (some (.val (.int (nxt c (k + 1) m)))) (some (.val (.str t))) a6 a7 (B ++ [.lst [.int c, .int k']])
  refine ⟨?_, ?_, ?_, ?_, ?_, ?_, ?_, ?_⟩
  rotate_left 7
  unfold g_turn
  walk_at "ev"
  rw [hc]
  walk_at "ev"
  rw [e_next' c k 2 (by omega)]
  walk_at "ev"
  rw [hm]
  walk_at "ev"
  rw [e_next' c (k + 1) m hm0]
  walk_at "ev"
  rw [ht]
  walk_at "ev"
  rw [hj]
  walk_at "ev"
  rw [show ∀ (a b c d e f g h : D), (a :: b :: c :: d :: [e, f, g, h]) = [a, b, c, d, e, f, g, h] from fun _ _ _ _ _ _ _ _ => rfl]
  have hi' := hi
  unfold g_in made at hi'
  rw [hi']
  walk_at "ev"
  rw [e_classes _ (by decide)]
  walk_at "ev"
  rfl
theorem plain_law (ns : List Int) (hl : ns.length ≤ 63) : ∃ B, φ_law [.val (.lst (ns.map D.int))] [] = some (.ret (.val (.bl true)) B) := by
  have hmx : ∃ n : Nat, ∀ ρ : Fm.S, ρ.sl[0]? = some (some (.val (.lst (ns.map D.int)))) → iR1 (aCons (eNB gMax (bCons (eC (.int 1)) (bCons (eNB gMin (bCons (eC (.int 10)) (bCons (eNB gLen (bCons (eV 0) aNil)) aNil))) aNil))) aNil) ρ = some (.ok (irg 0 n) ρ) := by
    refine ⟨Int.toNat (if (if (ns.length : Int) < 10 then (ns.length : Int) else 10) > 1 then (if (ns.length : Int) < 10 then (ns.length : Int) else 10) else 1), fun ρ h => ?_⟩
    walk_at "ev"
    rw [h]
    walk_at "ev"
    simp only [List.length_map]
  obtain ⟨n, hn⟩ := hmx
  obtain ⟨ρ', e, a1, a2, a3, a4, a5, a6, a7, B, rfl⟩ := forL_inv (tg := gN 1) (cs := []) (body := g_turn) (fun ρ => ∃ a1 a2 a3 a4 a5 a6 a7 B, ρ = ⟨[some (.val (.lst (ns.map D.int))), a1, a2, a3, a4, a5, a6, a7, none, none], B⟩) (irg 0 n) ⟨[some (.val (.lst (ns.map D.int))), none, none, none, none, none, none, none, none, none], []⟩
    (fun d hd ρ ⟨a1, a2, a3, a4, a5, a6, a7, B, hρ⟩ => by
      subst hρ
      obtain ⟨i, rfl, h1, h2⟩ := mem_irg hd
      obtain ⟨a2', a3', a4', a5', a6', a7', B', e⟩ := e_turn ns i h1 B a2 a3 a4 a5 a6 a7
      exact ⟨_, gN_at _ _ _, _, .inl e, _, _, _, _, _, _, _, _, rfl⟩)
    (fun ρ h => h) ⟨_, _, _, _, _, _, _, _, rfl⟩
  refine ⟨B, ?_⟩
  have eg : g_law = sSeq (sFor (iR1 (aCons (eNB gMax (bCons (eC (.int 1)) (bCons (eNB gMin (bCons (eC (.int 10)) (bCons (eNB gLen (bCons (eV 0) aNil)) aNil))) aNil))) aNil)) (gN 1) [] g_turn) (sRet (eC (.bl true))) := rfl
  unfold φ_law
  rw [eg, raw_at, sSeq_at, sFor_at, hn _ rfl, bs_ok]
  have es : slots 10 [A.val (D.lst (ns.map D.int))] = [some (.val (.lst (ns.map D.int))), none, none, none, none, none, none, none, none, none] := rfl
  rw [es, e]
  rfl
end K12

namespace K12
open PySem PySem.Spec PyProof.Rows L2 Fm
def topS (i : Nat) : Stmt := PySem.Challenge.pw_findmill_k12_refusals_made.main.body.getD i (.Pass ⟨0, 0, 0, 0⟩)
def clsB : Stmt → List Stmt
  | .ClassDef (body := b) .. => b
  | _ => []
def mthS (i j : Nat) : Stmt := (clsB (topS i)).getD j (.Pass ⟨0, 0, 0, 0⟩)
theorem sc_law_mixed : FnScope ["cell", "k", "number"] ["cell", "k"] (defScope (topS 12)) := ⟨rfl, rfl, rfl, by decide +kernel, rfl, by decide +kernel, by decide +kernel⟩
theorem sc_law_cell_at : FnScope ["script", "k", "cell"] ["script", "k"] (defScope (topS 11)) := ⟨rfl, rfl, rfl, by decide +kernel, rfl, by decide +kernel, by decide +kernel⟩
theorem sc_law_next : FnScope ["draw", "many"] ["draw", "many"] (defScope (topS 13)) := ⟨rfl, rfl, rfl, by decide +kernel, rfl, by decide +kernel, by decide +kernel⟩
theorem sc_law_classes : FnScope ["e", "found"] ["e"] (defScope (topS 14)) := ⟨rfl, rfl, rfl, by decide +kernel, rfl, by decide +kernel, by decide +kernel⟩
theorem sc_law : FnScope ["script", "k", "draw", "at", "text", "made", "place", "e", "turn", "one"] ["script"] (defScope (topS 15)) := ⟨rfl, rfl, rfl, by decide +kernel, rfl, by decide +kernel, by decide +kernel⟩
def cs : List Str := ["FindError", "NoValue", "NoTask", "NoBook", "NoRule", "NoExample", "NoRow", "TooMany", "NoTerm"]
def d_law_mixed : He.DefD := ⟨("_law_mixed", none), "_law_mixed", "_law_mixed", defArgs (topS 12), defBody (topS 12), defScope (topS 12), [], []⟩
def d_law_cell_at : He.DefD := ⟨("_law_cell_at", none), "_law_cell_at", "_law_cell_at", defArgs (topS 11), defBody (topS 11), defScope (topS 11), [], []⟩
def d_law_next : He.DefD := ⟨("_law_next", none), "_law_next", "_law_next", defArgs (topS 13), defBody (topS 13), defScope (topS 13), [], []⟩
def d_law_classes : He.DefD := ⟨("_law_classes", none), "_law_classes", "_law_classes", defArgs (topS 14), defBody (topS 14), defScope (topS 14), [], []⟩
def d_law : He.DefD := ⟨("law", none), "law", "law", defArgs (topS 15), defBody (topS 15), defScope (topS 15), [], []⟩
def d_NoTerm_init : He.DefD := ⟨("NoTerm", some "__init__"), "__init__", "NoTerm.__init__", defArgs (mthS 9 0), defBody (mthS 9 0), defScope (mthS 9 0), [], []⟩
def fn : List He.DefD := [d_law_mixed, d_law_cell_at, d_law_next, d_law_classes, d_law, d_NoTerm_init]
def fa : List He.Fa := [.free "len", .glo "NoTerm", .free "isinstance", .glo "TooMany", .glo "NoRow", .glo "NoExample", .glo "NoRule", .glo "NoBook", .glo "NoTask", .glo "NoValue", .free "min", .free "max", .free "range", .glo "FindError", .free "ValueError", .free "bool", .glo "_law_mixed", .glo "_law_cell_at", .glo "_law_next", .glo "_law_classes", .glo "law", .exc "FindError", .exc "NoValue", .exc "NoTask", .exc "NoBook", .exc "NoRule", .exc "NoExample", .exc "NoRow", .exc "TooMany", .meth "NoTerm" "__init__"]
def exs : List (PySem.W.Frag → Bool) := [excB cs 9 subC, iniB cs 8 "at", noB cs 9 "at"]
abbrev FX (K : PySem.W.Frag) (mg : Str → Option Value) : Prop := Fx fa fn exs K mg
section
variable {P : Program} {w : World} {K : PySem.W.Frag} {mg : Str → Option Value} {base : Heap}
theorem ft_exc (fx : FX K mg) : ExcTab K (clK cs K) 9 subC := excB_ok (fx.ex 0)
theorem ft_mk_FindError (fx : FX K mg) : PySem.W.excIn K (clK cs K 0) He.veBase "ValueError.__new__" = true ∧ PySem.W.keepIn K (.ref (clK cs K 0)) = true := by
  have h := He.exc_ok (fx.d.fact 21 (f := .exc "FindError") rfl)
  exact ⟨h.1, h.2.1⟩
theorem ft_mk_NoValue (fx : FX K mg) : PySem.W.excIn K (clK cs K 1) He.veBase "ValueError.__new__" = true ∧ PySem.W.keepIn K (.ref (clK cs K 1)) = true := by
  have h := He.exc_ok (fx.d.fact 22 (f := .exc "NoValue") rfl)
  exact ⟨h.1, h.2.1⟩
theorem ft_mk_NoTask (fx : FX K mg) : PySem.W.excIn K (clK cs K 2) He.veBase "ValueError.__new__" = true ∧ PySem.W.keepIn K (.ref (clK cs K 2)) = true := by
  have h := He.exc_ok (fx.d.fact 23 (f := .exc "NoTask") rfl)
  exact ⟨h.1, h.2.1⟩
theorem ft_mk_NoBook (fx : FX K mg) : PySem.W.excIn K (clK cs K 3) He.veBase "ValueError.__new__" = true ∧ PySem.W.keepIn K (.ref (clK cs K 3)) = true := by
  have h := He.exc_ok (fx.d.fact 24 (f := .exc "NoBook") rfl)
  exact ⟨h.1, h.2.1⟩
theorem ft_mk_NoRule (fx : FX K mg) : PySem.W.excIn K (clK cs K 4) He.veBase "ValueError.__new__" = true ∧ PySem.W.keepIn K (.ref (clK cs K 4)) = true := by
  have h := He.exc_ok (fx.d.fact 25 (f := .exc "NoRule") rfl)
  exact ⟨h.1, h.2.1⟩
theorem ft_mk_NoExample (fx : FX K mg) : PySem.W.excIn K (clK cs K 5) He.veBase "ValueError.__new__" = true ∧ PySem.W.keepIn K (.ref (clK cs K 5)) = true := by
  have h := He.exc_ok (fx.d.fact 26 (f := .exc "NoExample") rfl)
  exact ⟨h.1, h.2.1⟩
theorem ft_mk_NoRow (fx : FX K mg) : PySem.W.excIn K (clK cs K 6) He.veBase "ValueError.__new__" = true ∧ PySem.W.keepIn K (.ref (clK cs K 6)) = true := by
  have h := He.exc_ok (fx.d.fact 27 (f := .exc "NoRow") rfl)
  exact ⟨h.1, h.2.1⟩
theorem ft_mk_TooMany (fx : FX K mg) : PySem.W.excIn K (clK cs K 7) He.veBase "ValueError.__new__" = true ∧ PySem.W.keepIn K (.ref (clK cs K 7)) = true := by
  have h := He.exc_ok (fx.d.fact 28 (f := .exc "TooMany") rfl)
  exact ⟨h.1, h.2.1⟩
theorem sc_NoTerm_init : FnScope ["self", "at"] ["self", "at"] (defScope (mthS 9 0)) := ⟨rfl, rfl, rfl, by decide +kernel, rfl, by decide +kernel, by decide +kernel⟩
theorem t_NoTerm_init (fx : FX K mg) : IniT P w K mg base (clK cs K 8) "at" := ini_ok (st := (mthS 9 0)) (qual := "NoTerm.__init__") (c := 8) (a := "at") (cs := cs) (fx.def_ 5 (d := d_NoTerm_init)) (fx.ex 1) (He.meth_ok (x := "NoTerm") (m := "__init__") (fx.d.fact 29 (f := .meth "NoTerm" "__init__") rfl)) (fun _ F => F.bindsN fun _ _ _ _ _ _ us hl => match us, hl with | [_, _], _ => rfl) sc_NoTerm_init rfl (fun _ _ _ => rfl) (Or.inl rfl) (Or.inl rfl) (by decide) (by decide)
theorem ft_no_at (fx : FX K mg) : ∀ c, c < 9 → PySem.W.findIn K (.ref (clK cs K c)) "at" = some none := noB_ok (fx.ex 2)
theorem t_law_mixed (fx : FX K mg) : FnT P w K mg base (clK cs K) 1 "_law_mixed" 2 φ_law_mixed :=
  fnT (x := "_law_mixed") (st := (topS 12)) (ps := ["cell", "k"]) (k := 0) (g := g_law_mixed) (fx.def_ 0 (d := d_law_mixed)) (fx.g 16) sc_law_mixed (by decide) (fun _ F => F.bindsN fun _ _ _ _ _ _ us hl => match us, hl with | [_, _], _ => rfl)
    (fun cdv A outer s H E hr hp => (dss_cons (ds_set (i := 2) sc_law_mixed.nd (de_mod (de_mul (de_add (de_mod (de_var (pv 0)) de_int) (de_mul de_int (de_add (de_var (pv 1)) de_int))) de_int) de_int))
      (dss_one (ds_ret (de_mod (de_add (de_add (de_mul (de_var (pv 2)) (de_var (pv 2))) (de_mul de_int (de_var (pv 2)))) (de_var (pv 1))) de_int))))) (sem_raw _ 3 _)
theorem t_law_cell_at (fx : FX K mg) : FnT P w K mg base (clK cs K) 2 "_law_cell_at" 2 φ_law_cell_at :=
  fnT (x := "_law_cell_at") (st := (topS 11)) (ps := ["script", "k"]) (k := 1) (g := g_law_cell_at) (fx.def_ 1 (d := d_law_cell_at)) (fx.g 17) sc_law_cell_at (by decide) (fun _ F => F.bindsN fun _ _ _ _ _ _ us hl => match us, hl with | [_, _], _ => rfl)
    (fun cdv A outer s H E hr hp => (dss_cons (ds_set (i := 2) sc_law_cell_at.nd de_int)
      (dss_cons (ds_if (dt_lt (de_var (pv 1)) (de_len (fx.fr 0) (db_cons (de_var (pv 0)) db_nil))) (dss_one (ds_set (i := 2) sc_law_cell_at.nd (de_item (de_var (pv 0)) (de_var (pv 1))))) (dss_one (ds_if (dt_ne hr.units (de_var (pv 0)) (de_lst da_nil)) (dss_one (ds_set (i := 2) sc_law_cell_at.nd (de_item (de_var (pv 0)) (de_mod (de_var (pv 1)) (de_len (fx.fr 0) (db_cons (de_var (pv 0)) db_nil)))))) dss_nil)))
      (dss_one (ds_ret (de_call (n := 2) (φ := φ_law_mixed) (FnT.on (t_law_mixed fx) hr) (da_cons (de_var (pv 2)) (da_cons (de_var (pv 1)) da_nil)) (len_cons (len_cons (fun _ _ _ h => len_nil h))))))))) (sem_raw _ 3 _)
theorem t_law_next (fx : FX K mg) : FnT P w K mg base (clK cs K) 2 "_law_next" 2 φ_law_next :=
  fnT (x := "_law_next") (st := (topS 13)) (ps := ["draw", "many"]) (k := 1) (g := g_law_next) (fx.def_ 2 (d := d_law_next)) (fx.g 18) sc_law_next (by decide) (fun _ F => F.bindsN fun _ _ _ _ _ _ us hl => match us, hl with | [_, _], _ => rfl)
    (fun cdv A outer s H E hr hp => (dss_cons (ds_augBox ip_add (de_var (pv 0)) de_int de_int)
      (dss_one (ds_ret (de_mod (de_fdiv (de_call (n := 2) (φ := φ_law_mixed) (FnT.on (t_law_mixed fx) hr) (da_cons (de_item (de_var (pv 0)) de_int) (da_cons (de_item (de_var (pv 0)) de_int) da_nil)) (len_cons (len_cons (fun _ _ _ h => len_nil h)))) de_int) (de_var (pv 1))))))) (sem_raw _ 2 _)
theorem t_law_classes (fx : FX K mg) : FnT P w K mg base (clK cs K) 1 "_law_classes" 1 φ_law_classes :=
  fnT (x := "_law_classes") (st := (topS 14)) (ps := ["e"]) (k := 0) (g := g_law_classes) (fx.def_ 3 (d := d_law_classes)) (fx.g 19) sc_law_classes (by decide) (fun _ F => F.bindsN fun _ _ _ _ _ _ us hl => match us, hl with | [_], _ => rfl)
    (fun cdv A outer s H E hr hp => (dss_cons (ds_set (i := 1) sc_law_classes.nd (de_lst (da_cons (de_isi (ft_exc fx) (fx.fr 2) (de_var (pv 0)) (kl_own (c := 1) (fx.g 9))) (da_cons (de_isi (ft_exc fx) (fx.fr 2) (de_var (pv 0)) (kl_own (c := 2) (fx.g 8))) da_nil))))
      (dss_cons (ds_set (i := 1) sc_law_classes.nd (de_add (de_var (pv 1)) (de_lst (da_cons (de_isi (ft_exc fx) (fx.fr 2) (de_var (pv 0)) (kl_own (c := 3) (fx.g 7))) (da_cons (de_isi (ft_exc fx) (fx.fr 2) (de_var (pv 0)) (kl_own (c := 4) (fx.g 6))) da_nil)))))
      (dss_cons (ds_set (i := 1) sc_law_classes.nd (de_add (de_var (pv 1)) (de_lst (da_cons (de_isi (ft_exc fx) (fx.fr 2) (de_var (pv 0)) (kl_own (c := 5) (fx.g 5))) (da_cons (de_isi (ft_exc fx) (fx.fr 2) (de_var (pv 0)) (kl_own (c := 6) (fx.g 4))) da_nil)))))
      (dss_one (ds_ret (de_add (de_var (pv 1)) (de_lst (da_cons (de_isi (ft_exc fx) (fx.fr 2) (de_var (pv 0)) (kl_own (c := 7) (fx.g 3))) (da_cons (de_isi (ft_exc fx) (fx.fr 2) (de_var (pv 0)) (kl_own (c := 8) (fx.g 1))) da_nil)))))))))) (sem_raw _ 2 _)
theorem ok_law (fx : FX K mg) {fd : FuncData} {f : Addr} {dvs : List V} {kws : List (Str × V)} (F : FunD K "law" "law" (defArgs (topS 15)) (defBody (topS 15)) (defScope (topS 15)) dvs kws f fd) : FnOk P w K mg base (L2.CX P w) 3 f fd ["script"] (spD ⟨K, clK cs K⟩ 1 φ_law) :=
  okD (x := "law") (qual := "law") (st := (topS 15)) (ps := ["script"]) (k := 2) (g := g_law) (φ := φ_law) F sc_law (by decide)
    (fun cdv A outer s H E hr hp => (dss_cons (ds_for [] hp (by rfl) (di_range1 (fx.fr 12) (da_cons (de_max (by rfl) (fx.fr 11) (db_cons de_int (db_cons (de_min (by rfl) (fx.fr 10) (db_cons de_int (db_cons (de_len (fx.fr 0) (db_cons (de_var (pv 0)) db_nil)) db_nil))) db_nil))) da_nil)) (dg_name (i := 1) sc_law.nd) (dss_cons (ds_set (i := 2) sc_law.nd (de_box (de_lst (da_cons (de_call (n := 2) (φ := φ_law_cell_at) (FnT.on (t_law_cell_at fx) hr) (da_cons (de_var (pv 0)) (da_cons (de_var (pv 1)) da_nil)) (len_cons (len_cons (fun _ _ _ h => len_nil h)))) (da_cons (de_var (pv 1)) da_nil)))))
      (dss_cons (ds_set (i := 3) sc_law.nd (de_call (n := 2) (φ := φ_law_next) (FnT.on (t_law_next fx) hr) (da_cons (de_var (pv 2)) (da_cons (de_item (de_lst (da_cons de_int (da_cons de_int da_nil))) (de_call (n := 2) (φ := φ_law_next) (FnT.on (t_law_next fx) hr) (da_cons (de_var (pv 2)) (da_cons de_int da_nil)) (len_cons (len_cons (fun _ _ _ h => len_nil h))))) da_nil)) (len_cons (len_cons (fun _ _ _ h => len_nil h)))))
      (dss_cons (ds_set (i := 4) sc_law.nd (de_join de_str (db_cons (de_comp (by rfl) sc_law.nd [("turn", 8)] (di_range1 (fx.fr 12) (da_cons (de_call (n := 2) (φ := φ_law_next) (FnT.on (t_law_next fx) hr) (da_cons (de_var (pv 2)) (da_cons de_int da_nil)) (len_cons (len_cons (fun _ _ _ h => len_nil h)))) da_nil)) (by rfl) (fun _ _ _ _ _ => (dg_name (i := 8) sc_law.nd)) (fun _ _ _ _ _ => dts_nil) (fun _ _ _ _ _ => (de_item de_str (de_call (n := 2) (φ := φ_law_next) (FnT.on (t_law_next fx) hr) (da_cons (de_var (pv 2)) (da_cons de_int da_nil)) (len_cons (len_cons (fun _ _ _ h => len_nil h))))))) db_nil)))
      (dss_cons (ds_set (i := 5) sc_law.nd (de_lst (da_cons (de_mkE (c := 1) (ft_mk_NoValue fx).1 (fx.g 9) (ft_mk_NoValue fx).2 (de_var (pv 4))) (da_cons (de_mkE (c := 2) (ft_mk_NoTask fx).1 (fx.g 8) (ft_mk_NoTask fx).2 (de_var (pv 4))) (da_cons (de_mkE (c := 3) (ft_mk_NoBook fx).1 (fx.g 7) (ft_mk_NoBook fx).2 (de_var (pv 4))) (da_cons (de_mkE (c := 4) (ft_mk_NoRule fx).1 (fx.g 6) (ft_mk_NoRule fx).2 (de_var (pv 4))) da_nil))))))
      (dss_cons (ds_set (i := 5) sc_law.nd (de_add (de_var (pv 5)) (de_lst (da_cons (de_mkE (c := 5) (ft_mk_NoExample fx).1 (fx.g 5) (ft_mk_NoExample fx).2 (de_var (pv 4))) (da_cons (de_mkE (c := 6) (ft_mk_NoRow fx).1 (fx.g 4) (ft_mk_NoRow fx).2 (de_var (pv 4))) (da_cons (de_mkE (c := 7) (ft_mk_TooMany fx).1 (fx.g 3) (ft_mk_TooMany fx).2 (de_var (pv 4))) (da_cons (de_mkI (c := 8) (n := "at") (IniT.on (t_NoTerm_init fx) hr) (fx.g 1) (de_var (pv 3))) da_nil)))))))
      (dss_cons (ds_for [] hp (by rfl) (di_range1 (fx.fr 12) (da_cons de_int da_nil)) (dg_name (i := 6) sc_law.nd) (dss_cons (ds_set (i := 7) sc_law.nd (de_item (de_var (pv 5)) (de_var (pv 6))))
      (dss_cons (ds_if (dt_ne hr.units (de_call (n := 1) (φ := φ_law_classes) (FnT.on (t_law_classes fx) hr) (da_cons (de_var (pv 7)) da_nil) (len_cons (fun _ _ _ h => len_nil h))) (de_comp (by rfl) sc_law.nd [("one", 9)] (di_range1 (fx.fr 12) (da_cons de_int da_nil)) (by rfl) (fun _ _ _ _ _ => (dg_name (i := 9) sc_law.nd)) (fun _ _ _ _ _ => dts_nil) (fun _ _ _ _ _ => (de_eq hr.units (de_var (pv 6)) (de_var (pv 9)))))) (dss_one (ds_ret de_bl)) dss_nil)
      (dss_one (ds_if (dw_or (dt_not (dt_val (de_isi (ft_exc fx) (fx.fr 2) (de_var (pv 7)) (kl_own (c := 0) (fx.g 13))))) (dw_or1 (dt_not (dt_val (de_isi (ft_exc fx) (fx.fr 2) (de_var (pv 7)) (kl_ty (n := "ValueError") (fx.fr 14) rfl)))))).dt (dss_one (ds_ret de_bl)) dss_nil)))))
      (dss_cons (ds_if (dw_or (dt_ne hr.units (de_xf (ft_exc fx) (ft_no_at fx) (de_item (de_var (pv 5)) de_int)) (de_var (pv 3))) (dw_or1 (dt_val (de_isi (ft_exc fx) (fx.fr 2) (de_xf (ft_exc fx) (ft_no_at fx) (de_item (de_var (pv 5)) de_int)) (kl_ty (n := "bool") (fx.fr 15) rfl))))).dt (dss_one (ds_ret de_bl)) dss_nil)
      (dss_one (ds_if (dw_or (dt_in hr.units de_bl (de_call (n := 1) (φ := φ_law_classes) (FnT.on (t_law_classes fx) hr) (da_cons (de_mkE (c := 0) (ft_mk_FindError fx).1 (fx.g 13) (ft_mk_FindError fx).2 (de_var (pv 4))) da_nil) (len_cons (fun _ _ _ h => len_nil h)))) (dw_or1 (dt_not (dt_val (de_isi (ft_exc fx) (fx.fr 2) (de_mkE (c := 0) (ft_mk_FindError fx).1 (fx.g 13) (ft_mk_FindError fx).2 (de_var (pv 4))) (kl_ty (n := "ValueError") (fx.fr 14) rfl)))))).dt (dss_one (ds_ret de_bl)) dss_nil))))))))))
      (dss_one (ds_ret de_bl)))) (sem_raw _ 10 _)
theorem i_law (fx : FX K mg) : mg ("law" : Str) = some (.ref (He.ga K "law")) := (fx.g 20)
theorem f_law (fx : FX K mg) : ∃ fd, FunD K d_law.name d_law.qual d_law.params d_law.body d_law.scope (d_law.dvs K) (d_law.kws K) (He.fAd K d_law.at_) fd := fx.def_ 4 (d := d_law)
end
end K12

namespace K12
open PySem PySem.Spec PyProof.Rows L2 Fm
theorem plain : ∀ ns : List Int, ns.length ≤ 63 → ∃ B, φ_law [.val (.lst (ns.map D.int))] [] = some (.ret (.val (.bl true)) B) := plain_law
abbrev R : PySem.W.OpenRow := PySem.W.OpenLaw.row PySem.Challenge.rw_findmill_k12_refusals_made
def exK (K : PySem.W.Frag) : Bool := exs.all fun b => b K
abbrev hk : PySem.W.Hook := He.hookX 4 fa fn [] [] exK
def ob (s : PySem.W.SharedT) : He.AlX := He.obsX 4 fa fn [] [] exK (HandSHeadRun.getT s)
theorem ob_eq (s : PySem.W.SharedT) : ob s = hk.obs s.abs := He.obsX_eq (HandSHeadRun.getT_eq s)
set_option maxHeartbeats 0 in
theorem run (w : World) : HandSHeadRun.RunEq R (PySem.W.view R.prog [15]) hk ob 4000 ["FindError", "NoValue", "NoTask", "NoBook", "NoRule", "NoExample", "NoRow", "TooMany", "NoTerm", "_law_mixed", "_law_cell_at", "_law_next", "_law_classes"] w := by
  intro os
  kernel_rfl
end K12
namespace K12
open PySem PySem.Spec PyProof.Rows L2 Fm
theorem facts {P : Program} {w : World} {K : PySem.W.Frag} {h : Heap} {mg : Str → Option Value} {f : Addr} (X : K.In h) (G : h.Ns mainGlobals mg) (hfa : mg ("law" : Str) = some (.ref f)) (c : He.SaysX fa fn [] [] exK w h K) :
    ∃ fd : FuncData, (∀ (s : Shared) (v : Value), BindsTo s fd ⟨[v], []⟩ [("script", v)]) ∧ ∀ base : Heap, FnOk P w K mg base CX0 3 f fd ["script"] (Fm.spLaw K) := by
  have fx : FX K mg := Fx.of X G c.t.d c.more
  obtain ⟨fd, F⟩ := f_law fx
  have e := hfa.symm.trans (i_law fx)
  cases e
  have b := FunD.bindsA (ps := ["script"]) F fun _ _ _ _ _ _ us hl => match us, hl with | [_], _ => rfl
  refine ⟨fd, fun s v => b s [v] rfl, fun base => ?_⟩
  exact law_cx0 (law_end (ok_law fx F) plain)
end K12
open PySem PySem.W PySem.Calls PyProof.Rows
theorem PySem.Challenge.cw_findmill_k12_refusals_made_holds : PySem.Challenge.rw_findmill_k12_refusals_made.Holds := by
  w_on; o_law
  refine HandSHeadRun.head_any (r := OpenLaw.row PySem.Challenge.rw_findmill_k12_refusals_made) (q := view (OpenLaw.row PySem.Challenge.rw_findmill_k12_refusals_made).prog [15]) (H := K12.hk) (ob := K12.ob) (M := 4000) (d := HandSHeadRun.topDef (OpenLaw.row PySem.Challenge.rw_findmill_k12_refusals_made).prog 15) (kwd := []) K12.ob_eq
    (by kernel_rfl) (fun s => by kernel_rfl) K12.run (by kernel_rfl) (by kernel_rfl) (by kernel_rfl) (by rfl) (by first | assumption | decide +kernel) (by decide +kernel) ⟨rfl, rfl, rfl, rfl, rfl, by decide +kernel⟩ ?hw ?hc
  case hw => w_witness2
  case hc =>
    refine L2.walk_ofE (l := PySem.Challenge.rw_findmill_k12_refusals_made) (n := 63) (k := 3) (x := "script") (CX := L2.CX0) rfl (by decide) (by kernel_rfl) ⟨rfl, by decide, by decide⟩ ?F (fun _ _ _ _ z => z)
    intro w mg fa h Y G hmg0
    obtain ⟨K, KX, c⟩ := Y
    have hmg : mg ("law" : PySem.Str) = some (.ref fa) := by
        have e : (HandSHeadRun.topDef (OpenLaw.row PySem.Challenge.rw_findmill_k12_refusals_made).prog 15).name = ("law" : PySem.Str) := by kernel_rfl
        rw [← e]
        exact hmg0
    obtain ⟨fd, hb, hF⟩ := K12.facts (P := (PySem.Challenge.rw_findmill_k12_refusals_made).prog) (w := w) KX G hmg c
    exact ⟨K, fd, Fm.spLaw K, KX, hb, fun H a ns hl hO hS => ⟨a, ns, rfl, hl, hO, hS, fun _ => rfl⟩, fun base _ _ => hF base⟩

