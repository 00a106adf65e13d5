import PyProof.Rows.All
import Wide.All
import OpenK.AllK
import Wide.FinOn
import KE.KStateDown
import HandS.ForMost
import HandS.ForExc
import HandS.Wide
import HandS.WideBits
import HandS.Defaults
import HandS.CallSlots
import HandS.TryMany
import HandS.SuiteRaise
import HandS.ExcField
import HandS.ExcIs
import HandS.HotCalls
import HandS.IsInst
import HandS.Evl
import HandS.Head3
import HandS.HeadEnd
import HandS.HeadHook4
import HandS.Gcd
import HandS.Property
import HandS.FStr
import KE.KExcSuper
import HandS.ExcInit
import HandS.ReplaceDef
import HandS.ExcOwn
import KE.KOpsOwn
import KE.KCallOwn
import OpenK.KOps
import PyProof.Conv_bool
import PyProof.NeKinds
import PyProof.Rows.RuleN_abs
import HandS.HeadWalk
import HandS.EndBits
import PySem.Challenge.RW_roottower_k01_fracs_are_exact
set_option Elab.async false
set_option linter.all false
set_option maxRecDepth 100000
set_option maxHeartbeats 2000000
/-! The tree walk, part 1: plain data, owned data, how they lie in the abstract heap. -/
namespace Tw
open PySem PySem.Spec PyProof.Rows L2 Evl

/-- a value that is never changed any more -/
inductive D where
  | non | bl (b : Bool) | int (i : Int) | str (x : Str)
  | tup (xs : List D) | lst (xs : List D) | kls (xs : List D)
  | ins (c : Nat) (ns : List Nat) (xs : List D)
  | exc (c : Nat) (ns : List Nat) (xs : List D)
  | typ (c : Nat) | dct (ks : List (List Key)) (xs : List D)
/-- a value that may be changed in place by whoever holds it -/
inductive O where
  | val (d : D) | lst (xs : List O) | ins (c : Nat) (ns : List Nat) (xs : List O) | dct (ks : List (List Key)) (xs : List D)

/-- the names behind the numbers of classes and fields -/
structure Nm where
  cad : Nat → Addr
  fn : Nat → Str
  fi : ∀ a b, fn a = fn b → a = b
  /-- the exception that the suite holds, its class, its dict -/
  exa : Option (Addr × Value × Option Addr)

variable {K : PySem.W.Frag} {N : Nm}

def flds (N : Nm) (ns : List Nat) (vs : List V) : List (Str × V) := (ns.map N.fn).zip vs

mutual
def Rep (K : PySem.W.Frag) (N : Nm) (G : Hp) : D → V → Prop
  | .non, v => v = .non
  | .bl b, v => v = .bl b
  | .int i, v => v = .int i
  | .str x, v => v = .str x
  | .tup ds, v => ∃ a vs, v = .ref a ∧ SqT K G a vs ∧ RepL K N G ds vs
  | .lst ds, v => ∃ a vs, v = .ref a ∧ G a = some (.lst vs) ∧ RepL K N G ds vs
  | .kls ds, v => ∃ a vs, v = .ref a ∧ SqL K G a vs ∧ RepL K N G ds vs
  | .ins c ns ds, v => ∃ a dx vs, v = .ref a ∧ G a = some (.ins (N.cad c) dx (flds N ns vs)) ∧ ns.length = vs.length ∧ RepL K N G ds vs
  | .exc c ns ds, v => ∃ b, v = .ref b ∧ ∀ a cls d, N.exa = some (a, cls, d) → b = a ∧ cls = .ref (N.cad c) ∧ ∃ vs, RepL K N G ds vs ∧ ns.length = vs.length ∧ ((ns = [] ∧ d = none) ∨ ∃ dd, ns ≠ [] ∧ d = some dd ∧ G dd = some (.xd (flds N ns vs)))
  | .typ c, v => v = .ref (N.cad c)
  | .dct ks ds, v => ∃ a vs, v = .ref a ∧ G a = some (.dT (ks.zip vs)) ∧ ks.length = vs.length ∧ RepL K N G ds vs
def RepL (K : PySem.W.Frag) (N : Nm) (G : Hp) : List D → List V → Prop
  | [], vs => vs = []
  | d :: ds, vs => ∃ v r, vs = v :: r ∧ Rep K N G d v ∧ RepL K N G ds r
end

abbrev Cl := List (Addr × HO)
mutual
def Own (K : PySem.W.Frag) (N : Nm) (G : Hp) : O → V → Cl → Prop
  | .val d, v, L => L = [] ∧ Rep K N G d v
  | .lst os, v, L => ∃ a vs L1, v = .ref a ∧ L = (a, .lst vs) :: L1 ∧ OwnL K N G os vs L1
  | .ins c ns os, v, L => ∃ a dx vs L1, v = .ref a ∧ L = (a, .ins (N.cad c) dx (flds N ns vs)) :: L1 ∧ ns.length = vs.length ∧ OwnL K N G os vs L1
  | .dct ks ds, v, L => ∃ a vs, v = .ref a ∧ L = [(a, .dT (ks.zip vs))] ∧ ks.length = vs.length ∧ RepL K N G ds vs
def OwnL (K : PySem.W.Frag) (N : Nm) (G : Hp) : List O → List V → Cl → Prop
  | [], vs, L => vs = [] ∧ L = []
  | o :: os, vs, L => ∃ v r L1 L2, vs = v :: r ∧ L = L1 ++ L2 ∧ Own K N G o v L1 ∧ OwnL K N G os r L2
end

mutual
theorem Rep.mono {G G' : Hp} (e : Ex G G') : ∀ {d : D} {v : V}, Rep K N G d v → Rep K N G' d v
  | .non, _, h => h
  | .bl _, _, h => h
  | .int _, _, h => h
  | .str _, _, h => h
  | .tup ds, v, h => by
    obtain ⟨a, vs, h1, h2, h3⟩ := h
    exact ⟨a, vs, h1, ex_t e h2, RepL.mono e h3⟩
  | .lst ds, v, h => by
    obtain ⟨a, vs, h1, h2, h3⟩ := h
    exact ⟨a, vs, h1, e _ _ h2, RepL.mono e h3⟩
  | .kls ds, v, h => by
    obtain ⟨a, vs, h1, h2, h3⟩ := h
    exact ⟨a, vs, h1, ex_l e h2, RepL.mono e h3⟩
  | .ins c ns ds, v, h => by
    obtain ⟨a, dx, vs, h1, h2, h4, h3⟩ := h
    exact ⟨a, dx, vs, h1, e _ _ h2, h4, RepL.mono e h3⟩
  | .exc c ns ds, v, h => by
    obtain ⟨b, h1, h2⟩ := h
    refine ⟨b, h1, fun a cls d ea => ?_⟩
    obtain ⟨k1, k2, vs, k3, k4, k5⟩ := h2 a cls d ea
    exact ⟨k1, k2, vs, RepL.mono e k3, k4, k5.elim .inl fun ⟨dd, q1, q2, q3⟩ => .inr ⟨dd, q1, q2, e _ _ q3⟩⟩
  | .typ _, _, h => h
  | .dct ks ds, v, h => by
    obtain ⟨a, vs, h1, h2, h4, h3⟩ := h
    exact ⟨a, vs, h1, e _ _ h2, h4, RepL.mono e h3⟩
theorem RepL.mono {G G' : Hp} (e : Ex G G') : ∀ {ds : List D} {vs : List V}, RepL K N G ds vs → RepL K N G' ds vs
  | [], _, h => h
  | d :: ds, vs, h => by
    obtain ⟨v, r, h1, h2, h3⟩ := h
    exact ⟨v, r, h1, Rep.mono e h2, RepL.mono e h3⟩
end
mutual
theorem Own.mono {G G' : Hp} (e : Ex G G') : ∀ {o : O} {v : V} {L : Cl}, Own K N G o v L → Own K N G' o v L
  | .val d, _, _, h => ⟨h.1, h.2.mono e⟩
  | .lst os, v, L, h => by
    obtain ⟨a, vs, L1, h1, h2, h3⟩ := h
    exact ⟨a, vs, L1, h1, h2, OwnL.mono e h3⟩
  | .ins c ns os, v, L, h => by
    obtain ⟨a, dx, vs, L1, h1, h2, h4, h3⟩ := h
    exact ⟨a, dx, vs, L1, h1, h2, h4, OwnL.mono e h3⟩
  | .dct ks ds, v, L, h => by
    obtain ⟨a, vs, h1, h2, h4, h3⟩ := h
    exact ⟨a, vs, h1, h2, h4, RepL.mono e h3⟩
theorem OwnL.mono {G G' : Hp} (e : Ex G G') : ∀ {os : List O} {vs : List V} {L : Cl}, OwnL K N G os vs L → OwnL K N G' os vs L
  | [], _, _, h => h
  | o :: os, vs, L, h => by
    obtain ⟨v, r, L1, L2, h1, h2, h3, h4⟩ := h
    exact ⟨v, r, L1, L2, h1, h2, Own.mono e h3, OwnL.mono e h4⟩
end

/-! to set free: nobody changes it any more -/
mutual
def frz : O → D
  | .val d => d
  | .lst os => .lst (frzL os)
  | .ins c ns os => .ins c ns (frzL os)
  | .dct ks ds => .dct ks ds
def frzL : List O → List D
  | [] => []
  | o :: os => frz o :: frzL os
end
theorem frzL_eq : ∀ os : List O, frzL os = os.map frz
  | [] => rfl
  | o :: os => by rw [frzL, frzL_eq os, List.map_cons]
@[simp] theorem frzL_val (ds : List D) : frzL (ds.map O.val) = ds := by
  rw [frzL_eq, List.map_map]
  induction ds with
  | nil => rfl
  | cons d ds ih => simp only [List.map_cons, Function.comp_apply, frz, ih]

/-- the heap G with the cells L -/
def addC (G : Hp) (L : Cl) : Hp := fun a => match L.lookup a with
  | some o => some o
  | none => G a
theorem lookup_app {α : Type} {a : Addr} : ∀ (L M : List (Addr × α)), (L ++ M).lookup a = (L.lookup a).or (M.lookup a)
  | [], M => by simp
  | (b, o) :: L, M => by
    rw [List.cons_append, List.lookup_cons, List.lookup_cons]
    cases h : a == b with
    | true => simp
    | false => simpa using lookup_app L M
theorem addC_app (G : Hp) (L M : Cl) : addC G (L ++ M) = addC (addC G M) L := by
  funext a
  unfold addC
  rw [lookup_app]
  cases h : L.lookup a <;> simp
theorem addC_nil (G : Hp) : addC G [] = G := rfl
theorem lookup_mem {α : Type} {a : Addr} {o : α} : ∀ {L : List (Addr × α)}, L.lookup a = some o → (a, o) ∈ L
  | [], h => by simp at h
  | (b, u) :: r, h => by
    rw [List.lookup_cons] at h
    cases q : (a == b) with
    | true =>
      rw [q] at h
      have e : u = o := Option.some.inj h
      rw [beq_iff_eq.mp q, e]
      exact List.mem_cons_self
    | false =>
      rw [q] at h
      exact List.mem_cons_of_mem _ (lookup_mem h)
theorem lookup_of_mem {α : Type} {a : Addr} {o : α} : ∀ {L : List (Addr × α)}, (L.map (·.1)).Nodup → (a, o) ∈ L → L.lookup a = some o
  | [], _, h => by simp at h
  | (b, u) :: r, nd, h => by
    rw [List.map_cons, List.nodup_cons] at nd
    rcases List.mem_cons.mp h with e | h
    · cases e
      rw [List.lookup_cons, beq_self_eq_true]
    · rw [List.lookup_cons]
      have ne : a ≠ b := fun e => nd.1 (List.mem_map.mpr ⟨(a, o), h, e⟩)
      rw [beq_eq_false_iff_ne.mpr ne]
      exact lookup_of_mem nd.2 h

/-- the cells L lie in H, apart from one another and from G -/
structure Cells (G : Hp) (L : Cl) (H : Hp) : Prop where
  nd : (L.map (·.1)).Nodup
  at_ : ∀ a o, (a, o) ∈ L → H a = some o
  out : ∀ a o, (a, o) ∈ L → G a = none
  sub : Ex G H
theorem Cells.ex {G : Hp} {L : Cl} {H : Hp} (c : Cells G L H) : Ex (addC G L) H := fun a o h => by
  unfold addC at h
  cases e : L.lookup a with
  | none => rw [e] at h; exact c.sub a o h
  | some u =>
    rw [e] at h
    cases h
    exact c.at_ a _ (lookup_mem e)
theorem Cells.ex1 {G : Hp} {L : Cl} {H : Hp} (c : Cells G L H) : Ex G (addC G L) := fun a o h => by
  unfold addC
  cases e : L.lookup a with
  | none => exact h
  | some u =>
    have := c.out a _ (lookup_mem e)
    rw [h] at this
    cases this
/-- part of the cells -/
theorem Cells.left {G : Hp} {L M : Cl} {H : Hp} (c : Cells G (L ++ M) H) : Cells G L H where
  nd := by
    have := c.nd
    rw [List.map_append] at this
    exact (List.nodup_append.mp this).1
  at_ := fun a o h => c.at_ a o (List.mem_append_left _ h)
  out := fun a o h => c.out a o (List.mem_append_left _ h)
  sub := c.sub
theorem Cells.right {G : Hp} {L M : Cl} {H : Hp} (c : Cells G (L ++ M) H) : Cells G M H where
  nd := by
    have := c.nd
    rw [List.map_append] at this
    exact (List.nodup_append.mp this).2.1
  at_ := fun a o h => c.at_ a o (List.mem_append_right _ h)
  out := fun a o h => c.out a o (List.mem_append_right _ h)
  sub := c.sub
theorem Cells.apart {G : Hp} {L M : Cl} {H : Hp} (c : Cells G (L ++ M) H) {a : Addr} {o u : HO} (h : (a, o) ∈ L) (h' : (a, u) ∈ M) : False := by
  have := c.nd
  rw [List.map_append] at this
  exact (List.nodup_append.mp this).2.2 a (List.mem_map.mpr ⟨_, h, rfl⟩) a (List.mem_map.mpr ⟨_, h', rfl⟩) rfl
theorem Cells.perm {G : Hp} {L M : Cl} {H : Hp} (c : Cells G L H) (p : L.Perm M) : Cells G M H where
  nd := (p.map _).nodup_iff.mp c.nd
  at_ := fun a o h => c.at_ a o (p.mem_iff.mpr h)
  out := fun a o h => c.out a o (p.mem_iff.mpr h)
  sub := c.sub
/-- the cells L go over to G -/
theorem Cells.give {G : Hp} {L M : Cl} {H : Hp} (c : Cells G (L ++ M) H) : Cells (addC G L) M H where
  nd := c.right.nd
  at_ := c.right.at_
  out := fun a o h => by
    unfold addC
    cases e : L.lookup a with
    | none => exact c.right.out a o h
    | some u => exact (c.apart (lookup_mem e) h).elim
  sub := c.left.ex

mutual
theorem Own.frz {G : Hp} : ∀ {o : O} {v : V} {L : Cl}, Own K N G o v L → (L.map (·.1)).Nodup → (∀ a u, (a, u) ∈ L → G a = none) → Rep K N (addC G L) (frz o) v
  | .val d, v, L, h, _, _ => by
    obtain ⟨rfl, h⟩ := h
    exact h
  | .lst os, v, L, h, nd, no => by
    obtain ⟨a, vs, L1, rfl, rfl, h3⟩ := h
    refine ⟨a, vs, rfl, ?_, ?_⟩
    · unfold addC
      rw [List.lookup_cons, beq_self_eq_true]
    · rw [List.map_cons, List.nodup_cons] at nd
      refine (OwnL.frz h3 nd.2 fun b u h => no b u (List.mem_cons_of_mem _ h)).mono fun b u h => ?_
      rw [show ((a, HO.lst vs) :: L1) = [(a, HO.lst vs)] ++ L1 from rfl, addC_app]
      have nb : b ≠ a := fun e => by
        subst e
        unfold addC at h
        cases q : L1.lookup b with
        | none => rw [q] at h; rw [no b _ List.mem_cons_self] at h; cases h
        | some _ => exact nd.1 (List.mem_map.mpr ⟨_, lookup_mem q, rfl⟩)
      show (match [(a, HO.lst vs)].lookup b with | some o => some o | none => addC G L1 b) = _
      rw [List.lookup_cons, beq_eq_false_iff_ne.mpr nb]
      exact h
  | .ins c ns os, v, L, h, nd, no => by
    obtain ⟨a, dx, vs, L1, rfl, rfl, h4, h3⟩ := h
    refine ⟨a, dx, vs, rfl, ?_, h4, ?_⟩
    · unfold addC
      rw [List.lookup_cons, beq_self_eq_true]
    · rw [List.map_cons, List.nodup_cons] at nd
      refine (OwnL.frz h3 nd.2 fun b u h => no b u (List.mem_cons_of_mem _ h)).mono fun b u h => ?_
      rw [show ((a, HO.ins (N.cad c) dx (flds N ns vs)) :: L1) = [(a, HO.ins (N.cad c) dx (flds N ns vs))] ++ L1 from rfl, addC_app]
      have nb : b ≠ a := fun e => by
        subst e
        unfold addC at h
        cases q : L1.lookup b with
        | none => rw [q] at h; rw [no b _ List.mem_cons_self] at h; cases h
        | some _ => exact nd.1 (List.mem_map.mpr ⟨_, lookup_mem q, rfl⟩)
      show (match [(a, HO.ins (N.cad c) dx (flds N ns vs))].lookup b with | some o => some o | none => addC G L1 b) = _
      rw [List.lookup_cons, beq_eq_false_iff_ne.mpr nb]
      exact h
  | .dct ks ds, v, L, h, nd, no => by
    obtain ⟨a, vs, rfl, rfl, h4, h3⟩ := h
    refine ⟨a, vs, rfl, ?_, h4, ?_⟩
    · unfold addC
      rw [List.lookup_cons, beq_self_eq_true]
    · refine h3.mono fun b u h => ?_
      have nb : b ≠ a := fun e => by
        subst e
        rw [no b _ List.mem_cons_self] at h
        cases h
      unfold addC
      rw [List.lookup_cons, beq_eq_false_iff_ne.mpr nb]
      exact h
theorem OwnL.frz {G : Hp} : ∀ {os : List O} {vs : List V} {L : Cl}, OwnL K N G os vs L → (L.map (·.1)).Nodup → (∀ a u, (a, u) ∈ L → G a = none) → RepL K N (addC G L) (frzL os) vs
  | [], vs, L, h, _, _ => h.1
  | o :: os, vs, L, h, nd, no => by
    obtain ⟨v, r, L1, L2, rfl, rfl, h3, h4⟩ := h
    rw [List.map_append, List.nodup_append] at nd
    have ap : ∀ a u w, (a, u) ∈ L1 → (a, w) ∈ L2 → False := fun a u w h1 h2 => nd.2.2 a (List.mem_map.mpr ⟨_, h1, rfl⟩) a (List.mem_map.mpr ⟨_, h2, rfl⟩) rfl
    refine ⟨v, r, rfl, (Own.frz h3 nd.1 fun b u h => no b u (List.mem_append_left _ h)).mono fun b u h => ?_, (OwnL.frz h4 nd.2.1 fun b u h => no b u (List.mem_append_right _ h)).mono fun b u h => ?_⟩
    · unfold addC at h ⊢
      rw [lookup_app]
      cases q : L1.lookup b with
      | some z => rw [q] at h; simpa using h
      | none =>
        rw [q] at h
        cases q2 : L2.lookup b with
        | some z =>
          have := no b z (List.mem_append_right _ (lookup_mem q2))
          rw [this] at h; cases h
        | none => simpa using h
    · unfold addC at h ⊢
      rw [lookup_app]
      cases q : L1.lookup b with
      | some z =>
        cases q2 : L2.lookup b with
        | some y => exact (ap b z y (lookup_mem q) (lookup_mem q2)).elim
        | none =>
          rw [q2] at h
          have := no b z (List.mem_append_left _ (lookup_mem q))
          rw [this] at h; cases h
      | none =>
        simpa using h
end

/-! ### the store of a def's names -/
abbrev Sto := List (Option O)
def StoR (K : PySem.W.Frag) (N : Nm) (G : Hp) : Sto → L2.St → Cl → Prop
  | [], σ, L => σ = [] ∧ L = []
  | none :: τ, σ, L => ∃ x r, σ = x :: r ∧ StoR K N G τ r L
  | some o :: τ, σ, L => ∃ v r L1 L2, σ = some v :: r ∧ L = L1 ++ L2 ∧ Own K N G o v L1 ∧ StoR K N G τ r L2
theorem StoR.mono {G G' : Hp} (e : Ex G G') : ∀ {τ : Sto} {σ : L2.St} {L : Cl}, StoR K N G τ σ L → StoR K N G' τ σ L
  | [], _, _, h => h
  | none :: τ, σ, L, h => by
    obtain ⟨x, r, h1, h2⟩ := h
    exact ⟨x, r, h1, h2.mono e⟩
  | some o :: τ, σ, L, h => by
    obtain ⟨v, r, L1, L2, h1, h2, h3, h4⟩ := h
    exact ⟨v, r, L1, L2, h1, h2, h3.mono e, h4.mono e⟩
theorem StoR.len {G : Hp} : ∀ {τ : Sto} {σ : L2.St} {L : Cl}, StoR K N G τ σ L → τ.length = σ.length
  | [], _, _, h => by simp [h.1]
  | none :: τ, σ, L, h => by
    obtain ⟨x, r, rfl, h2⟩ := h
    simp [h2.len]
  | some o :: τ, σ, L, h => by
    obtain ⟨v, r, L1, L2, rfl, rfl, h3, h4⟩ := h
    simp [h4.len]
/-- a slot's own cells: taken out, put back in -/
theorem StoR.at {G : Hp} : ∀ {τ : Sto} {σ : L2.St} {L : Cl} {i : Nat} {o : O}, StoR K N G τ σ L → τ[i]? = some (some o) →
    ∃ A B C v, L = A ++ (B ++ C) ∧ σ[i]? = some (some v) ∧ Own K N G o v B ∧ StoR K N G (τ.set i none) σ (A ++ C) ∧
      ∀ {G' : Hp} {o' : O} {v' : V} {B' : Cl}, Ex G G' → Own K N G' o' v' B' → StoR K N G' (τ.set i (some o')) (σ.set i (some v')) (A ++ (B' ++ C))
  | [], _, _, _, _, _, e => by simp at e
  | none :: τ, σ, L, 0, o, h, e => by simp at e
  | some o :: τ, σ, L, 0, o', h, e => by
    obtain ⟨v, r, L1, L2, rfl, rfl, h3, h4⟩ := h
    simp only [List.getElem?_cons_zero, Option.some.injEq] at e
    subst e
    exact ⟨[], L1, L2, v, rfl, rfl, h3, ⟨_, r, rfl, h4⟩, fun {G' o' v' B'} eG ho => ⟨v', r, B', L2, rfl, rfl, ho, h4.mono eG⟩⟩
  | none :: τ, σ, L, i + 1, o, h, e => by
    obtain ⟨x, r, rfl, h2⟩ := h
    obtain ⟨A, B, C, v, rfl, e2, ho, h3, hp⟩ := h2.at (i := i) (o := o) (by simpa using e)
    exact ⟨A, B, C, v, rfl, by simpa using e2, ho, ⟨x, r, rfl, h3⟩, fun {G' o' v' B'} eG ho' => ⟨x, _, rfl, hp eG ho'⟩⟩
  | some o1 :: τ, σ, L, i + 1, o, h, e => by
    obtain ⟨v1, r, L1, L2, rfl, rfl, h3, h4⟩ := h
    obtain ⟨A, B, C, v, rfl, e2, ho, h5, hp⟩ := h4.at (i := i) (o := o) (by simpa using e)
    refine ⟨L1 ++ A, B, C, v, by simp, by simpa using e2, ho, ⟨v1, r, L1, A ++ C, rfl, by simp, h3, h5⟩, fun {G' o' v' B'} eG ho' => ?_⟩
    exact ⟨v1, _, L1, A ++ (B' ++ C), rfl, by simp, h3.mono eG, hp eG ho'⟩
/-- a slot without cells is set; what it held goes -/
theorem StoR.drop {G : Hp} : ∀ {τ : Sto} {σ : L2.St} {L : Cl} {i : Nat}, StoR K N G τ σ L → ∃ A B C, L = A ++ (B ++ C) ∧ StoR K N G (τ.set i none) σ (A ++ C) ∧
      ∀ {o' : Option V}, StoR K N G (τ.set i none) (σ.set i o') (A ++ C)
  | [], _, _, i, h => by
    obtain ⟨rfl, rfl⟩ := h
    exact ⟨[], [], [], rfl, ⟨rfl, rfl⟩, ⟨by simp, rfl⟩⟩
  | none :: τ, σ, L, 0, h => by
    obtain ⟨x, r, rfl, h2⟩ := h
    exact ⟨[], [], L, rfl, ⟨x, r, rfl, h2⟩, fun {o'} => ⟨o', r, rfl, h2⟩⟩
  | some o :: τ, σ, L, 0, h => by
    obtain ⟨v, r, L1, L2, rfl, rfl, h3, h4⟩ := h
    exact ⟨[], L1, L2, rfl, ⟨_, r, rfl, h4⟩, fun {o'} => ⟨o', r, rfl, h4⟩⟩
  | none :: τ, σ, L, i + 1, h => by
    obtain ⟨x, r, rfl, h2⟩ := h
    obtain ⟨A, B, C, rfl, h3, h4⟩ := h2.drop (i := i)
    exact ⟨A, B, C, rfl, ⟨x, r, rfl, h3⟩, fun {o'} => ⟨x, _, rfl, h4⟩⟩
  | some o1 :: τ, σ, L, i + 1, h => by
    obtain ⟨v1, r, L1, L2, rfl, rfl, h3, h4⟩ := h
    obtain ⟨A, B, C, rfl, h5, h6⟩ := h4.drop (i := i)
    exact ⟨L1 ++ A, B, C, by simp, ⟨v1, r, L1, A ++ C, rfl, by simp, h3, h5⟩, fun {o'} => ⟨v1, _, L1, A ++ C, rfl, by simp, h3, h6⟩⟩
/-- an empty slot is filled -/
theorem StoR.fill {G : Hp} : ∀ {τ : Sto} {σ : L2.St} {L : Cl} {i : Nat} {o : O} {v : V} {B : Cl}, StoR K N G τ σ L → i < τ.length → τ[i]? = some none → Own K N G o v B →
    ∃ A C, L = A ++ C ∧ StoR K N G (τ.set i (some o)) (σ.set i (some v)) (A ++ (B ++ C))
  | [], _, _, i, _, _, _, h, hi, _, _ => by simp at hi
  | some o :: τ, σ, L, 0, _, _, _, h, hi, e, _ => by simp at e
  | none :: τ, σ, L, 0, o, v, B, h, hi, e, ho => by
    obtain ⟨x, r, rfl, h2⟩ := h
    exact ⟨[], L, rfl, ⟨v, r, B, L, rfl, rfl, ho, h2⟩⟩
  | none :: τ, σ, L, i + 1, o, v, B, h, hi, e, ho => by
    obtain ⟨x, r, rfl, h2⟩ := h
    obtain ⟨A, C, rfl, h3⟩ := h2.fill (i := i) (by simpa using hi) (by simpa using e) ho
    exact ⟨A, C, rfl, x, _, rfl, h3⟩
  | some o1 :: τ, σ, L, i + 1, o, v, B, h, hi, e, ho => by
    obtain ⟨v1, r, L1, L2, rfl, rfl, h3, h4⟩ := h
    obtain ⟨A, C, rfl, h5⟩ := h4.fill (i := i) (by simpa using hi) (by simpa using e) ho
    exact ⟨L1 ++ A, C, by simp, v1, _, L1, A ++ (B ++ C), rfl, by simp, h3, h5⟩

/-! ### lists of free values -/
theorem RepL.len {G : Hp} : ∀ {ds : List D} {vs : List V}, RepL K N G ds vs → ds.length = vs.length
  | [], _, h => by rw [show _ = [] from h]; rfl
  | d :: ds, vs, h => by
    obtain ⟨v, r, rfl, _, h3⟩ := h
    simp [h3.len]
theorem RepL.get {G : Hp} : ∀ {ds : List D} {vs : List V} {i : Nat} {d : D}, RepL K N G ds vs → ds[i]? = some d → ∃ v, vs[i]? = some v ∧ Rep K N G d v
  | [], _, _, _, _, e => by simp at e
  | d :: ds, vs, 0, d', h, e => by
    obtain ⟨v, r, rfl, h2, _⟩ := h
    simp only [List.getElem?_cons_zero, Option.some.injEq] at e
    subst e
    exact ⟨v, rfl, h2⟩
  | d :: ds, vs, i + 1, d', h, e => by
    obtain ⟨v, r, rfl, _, h3⟩ := h
    exact h3.get (i := i) (by simpa using e)
theorem RepL.app {G : Hp} : ∀ {ds es : List D} {vs us : List V}, RepL K N G ds vs → RepL K N G es us → RepL K N G (ds ++ es) (vs ++ us)
  | [], _, _, _, h, h' => by rw [show _ = [] from h]; exact h'
  | d :: ds, es, vs, us, h, h' => by
    obtain ⟨v, r, rfl, h2, h3⟩ := h
    exact ⟨v, r ++ us, rfl, h2, h3.app h'⟩
theorem RepL.take {G : Hp} : ∀ {ds : List D} {vs : List V} (n : Nat), RepL K N G ds vs → RepL K N G (ds.take n) (vs.take n)
  | _, _, 0, _ => by simp [RepL]
  | [], _, _ + 1, h => by rw [show _ = [] from h]; simp [RepL]
  | d :: ds, vs, n + 1, h => by
    obtain ⟨v, r, rfl, h2, h3⟩ := h
    exact ⟨v, r.take n, rfl, h2, h3.take n⟩
theorem RepL.drop {G : Hp} : ∀ {ds : List D} {vs : List V} (n : Nat), RepL K N G ds vs → RepL K N G (ds.drop n) (vs.drop n)
  | _, _, 0, h => h
  | [], _, _ + 1, h => by rw [show _ = [] from h]; simp [RepL]
  | d :: ds, vs, n + 1, h => by
    obtain ⟨v, r, rfl, h2, h3⟩ := h
    exact h3.drop n
theorem RepL.rep {G : Hp} {ds : List D} {vs : List V} (h : RepL K N G ds vs) : ∀ n : Nat, RepL K N G (List.replicate n ds).flatten (List.replicate n vs).flatten
  | 0 => by simp [RepL]
  | n + 1 => by
    rw [List.replicate_succ, List.replicate_succ, List.flatten_cons, List.flatten_cons]
    exact h.app (h.rep n)
theorem RepL.ints {G : Hp} : ∀ (ns : List Int), RepL K N G (ns.map D.int) (ns.map V.int)
  | [] => rfl
  | n :: ns => ⟨_, _, rfl, rfl, RepL.ints ns⟩
theorem OwnL.vals {G : Hp} : ∀ {ds : List D} {vs : List V} {L : Cl}, OwnL K N G (ds.map .val) vs L → L = [] ∧ RepL K N G ds vs
  | [], _, _, h => ⟨h.2, h.1⟩
  | d :: ds, vs, L, h => by
    obtain ⟨v, r, L1, L2, rfl, rfl, h3, h4⟩ := h
    obtain ⟨e, h5⟩ := h4.vals
    exact ⟨by rw [h3.1, e]; rfl, v, r, rfl, h3.2, h5⟩
theorem OwnL.of {G : Hp} : ∀ {ds : List D} {vs : List V}, RepL K N G ds vs → OwnL K N G (ds.map .val) vs []
  | [], _, h => ⟨h, rfl⟩
  | d :: ds, vs, h => by
    obtain ⟨v, r, rfl, h2, h3⟩ := h
    exact ⟨v, r, [], [], rfl, rfl, ⟨rfl, h2⟩, OwnL.of h3⟩
theorem OwnL.len {G : Hp} : ∀ {os : List O} {vs : List V} {L : Cl}, OwnL K N G os vs L → os.length = vs.length
  | [], _, _, h => by rw [h.1]; rfl
  | o :: os, vs, L, h => by
    obtain ⟨v, r, L1, L2, rfl, rfl, h3, h4⟩ := h
    simp [h4.len]
end Tw
set_option maxHeartbeats 2000000
/-! The tree walk, part 2: the own syntax and what it means. -/
namespace Tw
open PySem PySem.Spec PyProof.Rows L2 Evl

/-- an exception of an own class -/
structure Exn where
  c : Nat
  ns : List Nat
  ds : List D
inductive R (α : Type) where
  | ok (a : α) (τ : Sto) | ex (x : Exn) (τ : Sto) | bad
abbrev M (α : Type) := Sto → R α
/-- what an expression hands on: a name (read when it is used), or a value -/
inductive Rv where
  | slot (i : Nat) | own (o : O)
inductive RF where
  | ok (o : O) (os : List O) | ex (x : Exn) (os : List O) | bad
abbrev CallT := Nat → List O → RF

inductive Op where | add | sub | mul | fdiv | mod | pow | lsh | rsh | band
  deriving DecidableEq
inductive Cm where | eq | ne | lt | le | gt | ge | isN | notN | isB | notB | inn | nin
  deriving DecidableEq
/-- the classes that isinstance asks for -/
inductive Ty where | int | bool | str | list | tuple | non | own (c : Nat) | valueError
  deriving DecidableEq
/-- the type of a value -/
inductive Tk where | non | bl | int | str | list | tuple | own (c : Nat)
  deriving DecidableEq
/-- built-in functions -/
inductive Bi where | len | abs | int | bool | str | max2 | min2 | sum | list | tuple | isqrt | gcd
  deriving DecidableEq

/-- operations of one operand that a class may have -/
inductive Un where | neg | abs | bool | str | len
  deriving DecidableEq
/-- the parameters' arguments: an argument by its place, a default -/
inductive Ar where
  | a (j : Nat) | d (d : D)
mutual
inductive E where
  | never
  | var (i : Nat) | fv (i : Nat) | mov (i : Nat)
  | int (i : Int) | bl (b : Bool) | non | str (x : Str)
  | con (x : Nat)
  | bin (op : Op) (a b : E) | neg (a : E)
  | cmp (op : Cm) (a b : E) | chain (o1 o2 : Cm) (a b c : E)
  | and (a b : E) | or (a b : E) | not (a : E) | ite (t a b : E)
  | call (f : Nat) (as : Es) | new (c : Nat) (as : Es) | meth (a : E) (m : Nat) (as : Es)
  | callK (f : Nat) (as ks : Es) (ar : List Ar) | newK (c : Nat) (as ks : Es) (ar : List Ar)
  | attr (a : E) (f : Nat) | prop (a : E) (f : Nat)
  | sub (a i : E) | slice (a lo hi : E)
  | tup (as : Es) | lst (as : Es)
  | blt (b : Bi) (as : Es) | isin (a : E) (ts : List Ty)
  | comp (own : List Nat) (it : It) (tg : List Nat) (c : E) (e : E)
  | hcall (f : Nat) (as : Es)
  | fstr (as : Es)
  | smeth (m : Nat) (a : E) (as : Es)
  | stat (c m : Nat) (as : Es)
inductive Es where | nil | cons (e : E) (es : Es)
/-- what a loop goes over -/
inductive It where
  | rng1 (a : E) | rng2 (a b : E) | rng3 (a b c : E) | seq (a : E) | enum (a : E) | zip (a b : E) | rev (a : E) | bor (i : Nat)
end
mutual
inductive S where
  | never | pass | brk | cont
  | asg (i : Nat) (e : E) | asgT (is : List Nat) (e : E) | asgF (i : Nat) (e : E)
  | aug (i : Nat) (op : Op) (e : E) | augO (i : Nat) (op : Op) (e : E)
  | app (i : Nat) (e : E) | setI (i : Nat) (ix e : E) | setA (i f : Nat) (e : E)
  | expr (e : E)
  | ret (e : E) | retN
  | raise (c : Nat) (as : Es)
  | ite (t : E) (a b : B) | whl (t : E) (b : B) | for (it : It) (tg : List Nat) (b : B)
  | try (b : B) (hs : Hs)
inductive B where | nil | cons (s : S) (b : B)
inductive Hs where | nil | cons (c : Nat) (i : Option Nat) (b : B) (hs : Hs)
end

/-- the tables of the program -/
structure Tb where
  mth : Nat → Nat → Option Nat
  prp : Nat → Nat → Option Nat
  ini : Nat → Option Nat
  dun : Nat → Op → Option Nat
  rdn : Nat → Op → Option Nat
  noi : Nat → Op → Bool
  una : Nat → Un → Option Nat
  smt : Nat → Nat → Option Nat
  exm : Nat → Ty → Option Bool
  con : Nat → D
  deq : Nat → Option Nat
  isa : Tk → Ty → Option Bool
  fok : Nat → Nat → Bool
  exf : Nat → Option (List Nat)
  xok : Nat → Nat → Bool

/-! ### plain operations -/
def ldiv (a b : Int) : Int := a.fdiv b
/-- every list is at most so long -/
abbrev lim : Nat := 100000
/-! the values that == tells apart as data does -/
mutual
def toP : D → PyData
  | .non => .none
  | .bl b => .bool b
  | .int i => .int i
  | .str x => .str x
  | .tup ds => .tuple (toPL ds)
  | .lst ds => .list (toPL ds)
  | .kls ds => .list (toPL ds)
  | .ins _ _ _ => .dict []
  | .exc _ _ _ => .dict []
  | .typ _ => .dict []
  | .dct _ _ => .dict []
def toPL : List D → List PyData
  | [] => []
  | d :: ds => toP d :: toPL ds
end
def eqD (a b : D) : Option Bool := match a, b with
  | .int i, .int j => some (decide (i = j))
  | .bl i, .bl j => some (decide (i = j))
  | .str x, .str y => some (decide (x = y))
  | a, b => if SeqAt.shaped (toP a) = true ∧ SeqAt.shaped (toP b) = true then some (PyData.eqv (toP a) (toP b)) else none
/-- the items of a list or a tuple whose items are free -/
def vals : List O → Option (List D)
  | [] => some []
  | .val d :: r => (vals r).map (d :: ·)
  | _ :: _ => none
@[simp] theorem vals_map (ds : List D) : vals (ds.map O.val) = some ds := by
  induction ds with
  | nil => rfl
  | cons d ds ih => simp [vals, ih]
/-- a list that is no one else's table -/
def listOf : O → Option (List D)
  | .val (.lst xs) => some xs
  | .lst os => vals os
  | _ => none
def binI (op : Op) (i j : Int) : Option O := match op with
  | .add => some (.val (.int (i + j)))
  | .sub => some (.val (.int (i - j)))
  | .mul => if i.natAbs.log2 + j.natAbs.log2 < 134000000 then some (.val (.int (i * j))) else none
  | .fdiv => if 0 < j ∧ j.natAbs.log2 < 9000 then some (.val (.int (i / j))) else if j < 0 ∧ j.natAbs.log2 < 9000 then some (.val (.int (i.fdiv j))) else none
  | .mod => if 0 < j then some (.val (.int (i % j))) else none
  | .pow => if 0 ≤ j ∧ j ≤ 1000 ∧ i.natAbs.log2 < 100000 then some (.val (.int (i ^ j.toNat))) else none
  | _ => none
def binL (op : Op) (a b : O) : Option O := match op with
  | .add => match listOf a, listOf b with
    | some xs, some ys => if xs.length + ys.length ≤ lim then some (.lst ((xs ++ ys).map .val)) else none
    | _, _ => none
  | .mul => match listOf a, b with
    | some xs, .val (.int k) => if -(2 ^ 62) < k ∧ k < 2 ^ 62 ∧ xs.length * k.toNat ≤ lim then some (.lst ((List.replicate k.toNat xs).flatten.map .val)) else none
    | _, _ => none
  | _ => none
def binF (op : Op) (a b : O) : Option O := match a, b with
  | .val (.int i), .val (.int j) => binI op i j
  | .val (.str x), .val (.str y) => if op = .add ∧ x.length + y.length ≤ lim then some (.val (.str (x ++ y))) else none
  | .val (.tup xs), .val (.tup ys) => if op = .add ∧ xs ≠ [] ∧ xs.length + ys.length ≤ lim then some (.val (.tup (xs ++ ys))) else none
  | a, b => binL op a b
def cmpI (op : Cm) (i j : Int) : Option Bool := match op with
  | .lt => some (decide (i < j))
  | .le => some (decide (i ≤ j))
  | .gt => some (decide (j < i))
  | .ge => some (decide (j ≤ i))
  | _ => none
def cmpII (op : Cm) (a b : O) : Option Bool := match a, b with
  | .val (.int i), .val (.int j) => cmpI op i j
  | _, _ => none
def isNon : O → Bool
  | .val .non => true
  | _ => false
def blO : O → Option Bool
  | .val (.bl k) => some k
  | _ => none
/-- it is this truth value -/
def isBl (a : O) (k : Bool) : Bool := match a with
  | .val (.bl j) => j == k
  | _ => false
/-- one sign in a text -/
def inF (a b : O) : Option Bool := match a, b with
  | .val (.str x), .val (.str z) => match x.cps.toList with
    | [c] => some (decide (c ∈ z.cps.toList))
    | _ => none
  | _, _ => none
def cmpF (op : Cm) (a b : O) : Option Bool := match op with
  | .inn => inF a b
  | .nin => (inF a b).map (!·)
  | .eq => eqD (frz a) (frz b)
  | .ne => (eqD (frz a) (frz b)).map (!·)
  | .isN => if isNon b then some (isNon a) else none
  | .notN => if isNon b then some (!isNon a) else none
  | .isB => (blO b).map (isBl a)
  | .notB => (blO b).map (!isBl a ·)
  | _ => cmpII op a b
def truF : O → Option Bool
  | .val .non => some false
  | .val (.bl b) => some b
  | .val (.int i) => some (i != 0)
  | .val (.str x) => if x.length ≤ lim then some ((x.length : Int) != 0) else none
  | .val (.lst xs) => some (!xs.isEmpty)
  | .val (.tup xs) => some (!xs.isEmpty)
  | .lst xs => some (!xs.isEmpty)
  | _ => none
def items : O → Option (List D)
  | .val (.lst xs) => some xs
  | .val (.tup xs) => some xs
  | .val (.kls xs) => some xs
  | .lst xs => vals xs
  | _ => none
def subF (a i : O) : Option O := match i with
  | .val (.int k) => match a with
    | .val (.str z) => if z.length ≤ lim then (L2.atI z.cps.toList k).map fun c => .val (.str ⟨#[c]⟩) else none
    | a => match items a with
      | some xs => (L2.atI xs k).map .val
      | none => none
  | _ => none
def attrF (T : Tb) (hot : Bool) (a : O) (f : Nat) : Option O := match a with
  | .val (.exc c ns xs) => if hot && T.xok c f then ((ns.zip xs).lookup f).map .val else none
  | .val (.ins c ns xs) => if T.fok c f then ((ns.zip xs).lookup f).map .val else none
  | .ins c ns xs => if T.fok c f then (match (ns.zip xs).lookup f with
    | some (.val d) => some (.val d)
    | _ => none) else none
  | _ => none
def optI : O → Option Int
  | .val (.int i) => some i
  | _ => none
def cutL {α : Type} (xs : List α) (lo hi : Option Int) : List α := (xs.drop (HT.sIx xs.length 0 lo)).take (HT.sIx xs.length xs.length hi - HT.sIx xs.length 0 lo)
def sliF (l h : Option Int) (a : O) : Option O := match a with
  | .val (.str z) => if z.length ≤ lim then some (.val (.str (L2.cutS z l h))) else none
  | .val (.lst xs) => some (.lst ((cutL xs l h).map .val))
  | .val (.kls xs) => some (.lst ((cutL xs l h).map .val))
  | .lst os => (vals os).map fun xs => .lst ((cutL xs l h).map .val)
  | _ => none
def tkO : O → Option Tk
  | .val .non => some .non
  | .val (.bl _) => some .bl
  | .val (.int _) => some .int
  | .val (.str _) => some .str
  | .val (.tup _) => some .tuple
  | .val (.lst _) => some .list
  | .val (.kls _) => some .list
  | .val (.ins c _ _) => some (.own c)
  | .val (.exc _ _ _) => none
  | .val (.typ _) => none
  | .val (.dct _ _) => none
  | .dct _ _ => none
  | .lst _ => some .list
  | .ins c _ _ => some (.own c)
def isaL (T : Tb) (t : Tk) : List Ty → Option Bool
  | [] => some false
  | y :: ys => match T.isa t y with
    | some true => some true
    | some false => isaL T t ys
    | none => none
def exL (T : Tb) (c : Nat) : List Ty → Option Bool
  | [] => some false
  | y :: ys => match T.exm c y with
    | some true => some true
    | some false => exL T c ys
    | none => none
/-- the class of a caught exception -/
def excOf : O → Option Nat
  | .val (.exc c _ _) => some c
  | _ => none
def isTys (T : Tb) (hot : Bool) (a : O) (ts : List Ty) : Option Bool := match excOf a with
  | some c => if hot then exL T c ts else none
  | none => match tkO a with
    | some t => isaL T t ts
    | none => none
def intsD : List D → Option (List Int)
  | [] => some []
  | .int i :: r => (intsD r).map (i :: ·)
  | _ :: _ => none
def biF (b : Bi) (os : List O) : Option O := match b, os with
  | .len, [.val (.str x)] => if x.length ≤ lim then some (.val (.int x.length)) else none
  | .len, [.val (.lst xs)] => some (.val (.int xs.length))
  | .len, [.val (.kls xs)] => some (.val (.int xs.length))
  | .len, [.val (.tup xs)] => some (.val (.int xs.length))
  | .len, [.lst xs] => some (.val (.int xs.length))
  | .abs, [.val (.int i)] => some (.val (.int i.natAbs))
  | .int, [.val (.int i)] => some (.val (.int i))
  | .int, [.val (.bl b)] => some (.val (.int (if b then 1 else 0)))
  | .int, [.val (.str x)] => if x.length ≤ 640 then (PySem.intText? x).map fun n => .val (.int n) else none
  | .bool, [.val (.int i)] => some (.val (.bl (i != 0)))
  | .bool, [.val (.bl b)] => some (.val (.bl b))
  | .max2, [.val (.int i), .val (.int j)] => some (.val (.int (if j > i then j else i)))
  | .min2, [.val (.int i), .val (.int j)] => some (.val (.int (if j < i then j else i)))
  | .sum, [a] => match a with
    | .val (.tup _) => none
    | a => match items a with
      | some xs => (intsD xs).map fun is => .val (.int is.sum)
      | none => none
  | .str, [.val (.int i)] => if i.natAbs.log2 < 1920 then some (.val (.str (toString i))) else none
  | .list, [a] => (items a).map fun xs => .lst (xs.map .val)
  | .tuple, [a] => match a with
    | .val (.tup xs) => some (.val (.tup xs))
    | a => (items a).map fun xs => .val (.tup xs)
  | .isqrt, [.val (.int i)] => if 0 ≤ i ∧ i.toNat.log2 < 13000 then some (.val (.int ((Float64.isqrt i.toNat : Nat) : Int))) else none
  | .gcd, [.val (.int i), .val (.int j)] => some (.val (.int ((Nat.gcd i.natAbs j.natAbs : Nat) : Int)))
  | _, _ => none

/-! ### the store -/
def put (τ : Sto) (i : Nat) (o : O) : Option Sto := if i < τ.length then some (τ.set i (some o)) else none
def res (τ : Sto) : Rv → Option O
  | .own o => some o
  | .slot i => match τ[i]? with
    | some (some o) => some o
    | _ => none
def ress (τ : Sto) : List Rv → Option (List O)
  | [] => some []
  | r :: rs => match res τ r, ress τ rs with
    | some o, some os => some (o :: os)
    | _, _ => none
/-- the arguments of a call: what is owned goes along -/
def take (τ : Sto) : List Rv → Option (List O × Sto)
  | [] => some ([], τ)
  | .own o :: rs => (take τ rs).map fun p => (o :: p.1, p.2)
  | .slot i :: rs => match τ[i]? with
    | some (some (.val d)) => (take τ rs).map fun p => (.val d :: p.1, p.2)
    | some (some o) => (take (τ.set i none) rs).map fun p => (o :: p.1, p.2)
    | _ => none
/-- and comes back -/
def back (τ : Sto) : List Rv → List O → List O → Option Sto
  | [], [], [] => some τ
  | .own _ :: rs, _ :: os, _ :: os' => back τ rs os os'
  | .slot i :: rs, o :: os, o' :: os' => match o with
    | .val _ => back τ rs os os'
    | _ => match τ[i]? with
      | some none => back (τ.set i (some o')) rs os os'
      | _ => none
  | _, _, _ => none
def dV : D → Option V
  | .non => some .non
  | .bl b => some (.bl b)
  | .int i => some (.int i)
  | .str x => some (.str x)
  | _ => none
def arrR (rs : List Rv) : List Ar → Option (List Rv)
  | [] => some []
  | .a j :: as => match rs[j]?, arrR rs as with
    | some r, some l => some (r :: l)
    | _, _ => none
  | .d d :: as => match dV d, arrR rs as with
    | some _, some l => some (.own (.val d) :: l)
    | _, _ => none
def arrV (vs : List V) : List Ar → Option (List V)
  | [] => some []
  | .a j :: as => match vs[j]?, arrV vs as with
    | some r, some l => some (r :: l)
    | _, _ => none
  | .d d :: as => match dV d, arrV vs as with
    | some v, some l => some (v :: l)
    | _, _ => none
def bnd {α β : Type} (m : M α) (f : α → M β) : M β := fun τ => match m τ with
  | .ok a τ' => f a τ'
  | .ex x τ' => .ex x τ'
  | .bad => .bad
def lift {α : Type} (o : Option α) : M α := fun τ => match o with
  | some a => .ok a τ
  | none => .bad
/-- as an operand: a name stays a name, what is made is set free -/
def opd (m : M Rv) : M Rv := bnd m fun r τ => match r with
  | .slot i => .ok (.slot i) τ
  | .own o => .ok (.own (.val (frz o))) τ
/-- as a value to be kept: a name's thing is set free -/
def own (m : M Rv) : M O := bnd m fun r τ => match r with
  | .own o => .ok o τ
  | .slot i => match τ[i]? with
    | some (some o) => .ok (.val (frz o)) (τ.set i (some (.val (frz o))))
    | _ => .bad
def doCall (cl : CallT) (f : Nat) (rs : List Rv) : M Rv := fun τ => match take τ rs with
  | none => .bad
  | some (os, τ1) => match cl f os with
    | .ok o os' => match back τ1 rs os os' with
      | some τ2 => .ok (.own o) τ2
      | none => .bad
    | .ex x os' => match back τ1 rs os os' with
      | some τ2 => .ex x τ2
      | none => .bad
    | .bad => .bad
def doCallK (cl : CallT) (f : Nat) (ar : List Ar) (rs : List Rv) : M Rv := fun τ => match arrR rs ar with
  | some l => doCall cl f l τ
  | none => .bad
def clsOf : O → Option Nat
  | .val (.ins c _ _) => some c
  | .ins c _ _ => some c
  | _ => none
/-- what may stand at the right of an own class's operator -/
def okR (c : Nat) (y : O) : Bool := match y with
  | .val (.int _) => true
  | y => decide (clsOf y = some c)
def isInt : O → Bool
  | .val (.int _) => true
  | _ => false
def doBin (T : Tb) (cl : CallT) (op : Op) (a b : Rv) : M Rv := fun τ => match res τ a, res τ b with
  | some x, some y => match clsOf x with
    | some c => match T.dun c op, okR c y with
      | some f, true => doCall cl f [a, b] τ
      | _, _ => .bad
    | none => match clsOf y with
      | some d => match T.rdn d op, isInt x with
        | some f, true => doCall cl f [b, a] τ
        | _, _ => .bad
      | none => match binF op x y with
        | some z => .ok (.own z) τ
        | none => .bad
  | _, _ => .bad
def isB (m : M Rv) : M Bool := bnd m fun a τ => match res τ a with
  | some (.val (.bl b)) => .ok b τ
  | _ => .bad
def neg? (op : Cm) (b : Bool) : M Rv := fun τ => .ok (.own (.val (.bl (match op with
  | .ne => !b
  | _ => b)))) τ
/-- what may be compared with an own class by its == -/
def okE (c : Nat) (y : O) : Bool := match y with
  | .val .non => true
  | .val (.bl _) => true
  | .val (.int _) => true
  | .val (.str _) => true
  | y => decide (clsOf y = some c)
def isEq (op : Cm) : Bool := match op with
  | .eq => true
  | .ne => true
  | _ => false
def doCmp (T : Tb) (cl : CallT) (op : Cm) (a b : Rv) : M Rv := fun τ => match res τ a, res τ b with
  | some x, some y => match clsOf x with
    | some c => match T.deq c, isEq op && okE c y with
      | some f, true => bnd (isB (doCall cl f [a, b])) (neg? op) τ
      | _, _ => .bad
    | none => match clsOf y with
      | some c => match T.deq c, isEq op && isInt x with
        | some f, true => bnd (isB (doCall cl f [b, a])) (neg? op) τ
        | _, _ => .bad
      | none => match cmpF op x y with
        | some z => .ok (.own (.val (.bl z))) τ
        | none => .bad
  | _, _ => .bad
def un (f : O → Option O) (a : Rv) : M Rv := fun τ => match res τ a with
  | some x => match f x with
    | some z => .ok (.own z) τ
    | none => .bad
  | none => .bad
def two (f : O → O → Option O) (a b : Rv) : M Rv := fun τ => match res τ a, res τ b with
  | some x, some y => match f x y with
    | some z => .ok (.own z) τ
    | none => .bad
  | _, _ => .bad
def optM (m : M Rv) : M (Option Int) := bnd (opd m) fun r τ => match res τ r with
  | some o => match optI o with
    | some i => .ok (some i) τ
    | none => .bad
  | none => .bad
def noPart : M (Option Int) := fun τ => .ok none τ
def isNonE : E → Bool
  | .non => true
  | _ => false
/-- a value to be kept, set free -/
def ownD (m : M Rv) : M D := bnd (own m) fun o τ => .ok (frz o) τ
def many (f : List O → Option O) (rs : List Rv) : M Rv := fun τ => match ress τ rs with
  | some os => match f os with
    | some z => .ok (.own z) τ
    | none => .bad
  | none => .bad
def tru (m : M Rv) : M Bool := bnd m fun a τ => match res τ a with
  | some x => match truF x with
    | some z => .ok z τ
    | none => .bad
  | none => .bad
def negF (o : O) : Option O := match o with
  | .val (.int i) => some (.val (.int (-i)))
  | _ => none
def ofB (m : M Bool) : M Rv := bnd m fun b τ => .ok (.own (.val (.bl b))) τ
def insOf : O → Option (Nat × List Nat)
  | .val (.ins c ns _) => some (c, ns)
  | .ins c ns _ => some (c, ns)
  | _ => none
def doMeth (tab : Nat → Nat → Option Nat) (cl : CallT) (m : Nat) (rs : List Rv) : M Rv := fun τ => match rs with
  | r :: _ => match res τ r with
    | some o => match insOf o with
      | some (c, ns) => match tab c m with
        | some f => if ns.contains m then .bad else doCall cl f rs τ
        | none => .bad
      | none => .bad
    | none => .bad
  | [] => .bad
/-- nothing may be raised -/
def noEx {α : Type} (m : M α) : M α := fun τ => match m τ with
  | .ex _ _ => .bad
  | r => r
/-- which def a method's name means: asked ahead of the arguments -/
def methI (tab : Nat → Nat → Option Nat) (m : Nat) (r : Rv) : M Nat := fun τ => match res τ r with
  | some o => match insOf o with
    | some (c, ns) => match tab c m with
      | some f => if ns.contains m then .bad else .ok f τ
      | none => .bad
    | none => .bad
  | none => .bad
/-- what a built-in asks of what an own class's def hands back -/
def unaOk (u : Un) (o : O) : Bool := match u, o with
  | .neg, _ => true
  | .abs, _ => true
  | .bool, .val (.bl _) => true
  | .str, .val (.str _) => true
  | .len, .val (.int i) => decide (0 ≤ i ∧ i ≤ (lim : Int))
  | _, _ => false
def doUna (T : Tb) (cl : CallT) (u : Un) (c : Nat) (r : Rv) : M Rv := fun τ => match T.una c u with
  | some f => match doCall cl f [r] τ with
    | .ok (.own o) τ1 => if unaOk u o then .ok (.own o) τ1 else .bad
    | .ok _ _ => .bad
    | .ex x τ1 => .ex x τ1
    | .bad => .bad
  | none => .bad
def unB : Bi → Option Un
  | .abs => some .abs
  | .bool => some .bool
  | .str => some .str
  | .len => some .len
  | _ => none
def doNeg (T : Tb) (cl : CallT) (r : Rv) : M Rv := fun τ => match res τ r with
  | some o => match clsOf o with
    | some c => doUna T cl .neg c r τ
    | none => un negF r τ
  | none => .bad
/-- a built-in of one argument: an own class's def may answer -/
def doBlt (T : Tb) (cl : CallT) (b : Bi) (rs : List Rv) : M Rv := fun τ => match rs with
  | [r] => match res τ r with
    | some o => match clsOf o with
      | some c => match unB b with
        | some u => doUna T cl u c r τ
        | none => .bad
      | none => many (biF b) rs τ
    | none => .bad
  | rs => many (biF b) rs τ
def doNew (T : Tb) (cl : CallT) (c : Nat) (rs : List Rv) : M Rv := fun τ => match T.ini c with
  | none => .bad
  | some f => match take τ rs with
    | none => .bad
    | some (os, τ1) => match cl f (.ins c [] [] :: os) with
      | .ok (.val .non) (o :: os') => match back τ1 rs os os' with
        | some τ2 => .ok (.own o) τ2
        | none => .bad
      | .ok _ _ => .bad
      | .ex x (_ :: os') => match back τ1 rs os os' with
        | some τ2 => .ex x τ2
        | none => .bad
      | .ex _ [] => .bad
      | .bad => .bad
def doNewK (T : Tb) (cl : CallT) (c : Nat) (ar : List Ar) (rs : List Rv) : M Rv := fun τ => match arrR rs ar with
  | some l => doNew T cl c l τ
  | none => .bad
/-- targets, one or several -/
def setAll (τ : Sto) : List Nat → List D → Option Sto
  | [], [] => some τ
  | i :: is, d :: ds => match put τ i (.val d) with
    | some τ1 => setAll τ1 is ds
    | none => none
  | _, _ => none
def setTup (τ : Sto) (tg : List Nat) (d : D) : Option Sto := match d with
  | .tup ds => setAll τ tg ds
  | _ => none
def setTg (τ : Sto) (tg : List Nat) (d : D) : Option Sto := match tg with
  | [i] => put τ i (.val d)
  | is => setTup τ is d
def wipeS (τ : Sto) : List Nat → Sto
  | [] => τ
  | i :: is => (wipeS τ is).set i none
def compM (tg : List Nat) (ow : List Nat) (c : M Bool) (e : M D) : List D → List D → M (List D)
  | [], acc => fun τ => .ok acc τ
  | d :: ds, acc => fun τ => match setTg τ tg d with
    | none => .bad
    | some τ1 => match c τ1 with
      | .ok true τ2 => match e τ2 with
        | .ok d2 τ3 => if acc.length < lim then compM tg ow c e ds (acc ++ [d2]) (wipeS τ3 ow) else .bad
        | _ => .bad
      | .ok false τ2 => compM tg ow c e ds acc (wipeS τ2 ow)
      | _ => .bad
def restS (τe τ : Sto) : List Nat → Sto
  | [] => τe
  | i :: is => match τ[i]? with
    | some (some (.val d)) => restS (τe.set i (some (.val d))) τ is
    | _ => restS τe τ is
def rngL (lo hi : Int) : List D := (List.range (hi - lo).toNat).map fun (k : Nat) => D.int (lo + (k : Int))
def enumL : Nat → List D → List D
  | _, [] => []
  | k, d :: ds => .tup [.int k, d] :: enumL (k + 1) ds
/-- an operand that is to be walked: it is set free -/
def walk (m : M Rv) : M (List D) := bnd (own m) fun o τ => match items o with
  | some xs => .ok xs τ
  | none => .bad
def intM (m : M Rv) : M Int := bnd (opd m) fun r τ => match res τ r with
  | some (.val (.int i)) => if -(2 ^ 62) < i ∧ i < 2 ^ 62 then .ok i τ else .bad
  | _ => .bad
/-- is there an exception in hand -/
def inH : Option (CallT × Bool) → Bool
  | some h => h.2
  | none => false
/-- methods of a text: 0 isdigit, 1 split by a sign -/
def isStrM (r : Rv) : M Unit := fun τ => match res τ r with
  | some (.val (.str _)) => .ok () τ
  | _ => .bad
def digF (o : O) : Option O := match o with
  | .val (.str z) => some (.val (.bl (PySem.Txt.isdigit z)))
  | _ => none
def splF (o p : O) : Option O := match o, p with
  | .val (.str z), .val (.str b) => if (b.length == 0) = false ∧ z.length + 2 ≤ lim then some (.lst (((PySem.Txt.split z b).map D.str).map .val)) else none
  | _, _ => none
/-- a part of an f-string as a text -/
def fmtO (o : Option O) : Option Str := match o with
  | some (.val (.str y)) => some y
  | some (.val (.int i)) => if i.natAbs.log2 < 1920 then some (toString i) else none
  | _ => none
def catM (m : M Rv) (f : Str → M Rv) (acc : Str) : M Rv := bnd (opd m) fun r τ => match fmtO (res τ r) with
  | some y => if y.length ≤ lim ∧ (acc ++ y).length ≤ lim then f (acc ++ y) τ else .bad
  | none => .bad
def smR (m : Nat) (x : Rv) (rs : List Rv) : M Rv := match m, rs with
  | 0, [] => un digF x
  | 1, [y] => two splF x y
  | _, _ => fun _ => .bad
mutual
def dn (T : Tb) (cl : CallT) (cur : Option (CallT × Bool)) : E → M Rv × M Bool
  | .never => (fun _ => .bad, fun _ => .bad)
  | .var i => let m : M Rv := fun τ => match τ[i]? with
      | some (some _) => .ok (.slot i) τ
      | _ => .bad
    (m, tru m)
  | .fv i => let m : M Rv := fun τ => match τ[i]? with
      | some (some o) => .ok (.own (.val (frz o))) (τ.set i (some (.val (frz o))))
      | _ => .bad
    (m, tru m)
  | .mov i => (fun τ => match τ[i]? with
      | some (some o) => .ok (.own o) (τ.set i none)
      | _ => .bad, fun _ => .bad)
  | .int i => (fun τ => .ok (.own (.val (.int i))) τ, fun _ => .bad)
  | .bl b => (fun τ => .ok (.own (.val (.bl b))) τ, fun τ => .ok b τ)
  | .non => (fun τ => .ok (.own (.val .non)) τ, fun _ => .bad)
  | .str x => (fun τ => .ok (.own (.val (.str x))) τ, fun _ => .bad)
  | .con x => (fun τ => .ok (.own (.val (T.con x))) τ, fun _ => .bad)
  | .bin op a b => let m := bnd (opd (dn T cl cur a).1) fun x => bnd (opd (dn T cl cur b).1) fun y => doBin T cl op x y
    (m, tru m)
  | .neg a => let m := bnd (opd (dn T cl cur a).1) fun x => doNeg T cl x
    (m, tru m)
  | .cmp op a b => let m := bnd (opd (dn T cl cur a).1) fun x => bnd (opd (dn T cl cur b).1) fun y => doCmp T cl op x y
    (m, isB m)
  | .chain o1 o2 a b c => let m := bnd (opd (dn T cl cur a).1) fun x => bnd (opd (dn T cl cur b).1) fun y => bnd (isB (doCmp T cl o1 x y)) fun k => match k with
      | true => bnd (opd (dn T cl cur c).1) fun z => doCmp T cl o2 y z
      | false => fun τ => .ok (.own (.val (.bl false))) τ
    (m, isB m)
  | .and a b => (bnd (isB (opd (dn T cl cur a).1)) fun k => match k with
      | true => opd (dn T cl cur b).1
      | false => fun τ => .ok (.own (.val (.bl false))) τ,
    bnd (dn T cl cur a).2 fun k => match k with
      | true => (dn T cl cur b).2
      | false => fun τ => .ok false τ)
  | .or a b => (bnd (isB (opd (dn T cl cur a).1)) fun k => match k with
      | true => fun τ => .ok (.own (.val (.bl true))) τ
      | false => opd (dn T cl cur b).1,
    bnd (dn T cl cur a).2 fun k => match k with
      | true => fun τ => .ok true τ
      | false => (dn T cl cur b).2)
  | .not a => (bnd (isB (opd (dn T cl cur a).1)) fun k τ => .ok (.own (.val (.bl (!k)))) τ, bnd (dn T cl cur a).2 fun k τ => .ok (!k) τ)
  | .ite t a b => (bnd (dn T cl cur t).2 fun k => match k with
      | true => (dn T cl cur a).1
      | false => (dn T cl cur b).1, fun _ => .bad)
  | .call f as => let m := bnd (dns T cl cur as) fun rs => doCall cl f rs
    (m, tru m)
  | .new c as => let m := bnd (dns T cl cur as) fun rs => doNew T cl c rs
    (m, tru m)
  | .callK f as ks ar => let m := bnd (dns T cl cur as) fun rs => bnd (dns T cl cur ks) fun qs => doCallK cl f ar (rs ++ qs)
    (m, tru m)
  | .newK c as ks ar => let m := bnd (dns T cl cur as) fun rs => bnd (dns T cl cur ks) fun qs => doNewK T cl c ar (rs ++ qs)
    (m, tru m)
  | .meth a m as => let m := bnd (opd (dn T cl cur a).1) fun r => bnd (methI T.mth m r) fun f => bnd (dns T cl cur as) fun rs => doCall cl f (r :: rs)
    (m, tru m)
  | .stat c m as => let m := bnd (dns T cl cur as) fun rs => match T.smt c m with
      | some f => doCall cl f rs
      | none => fun _ => .bad
    (m, tru m)
  | .attr a f => let m := bnd (opd (dn T cl cur a).1) fun x => un (attrF T (inH cur) · f) x
    (m, tru m)
  | .prop a f => let m := bnd (opd (dn T cl cur a).1) fun r => bnd (methI T.prp f r) fun g => noEx (doCall cl g [r])
    (m, tru m)
  | .sub a i => let m := bnd (opd (dn T cl cur a).1) fun x => bnd (opd (dn T cl cur i).1) fun y => two subF x y
    (m, tru m)
  | .slice a lo hi => let m := bnd (opd (dn T cl cur a).1) fun x => bnd (if isNonE lo then noPart else optM (dn T cl cur lo).1) fun l => bnd (if isNonE hi then noPart else optM (dn T cl cur hi).1) fun h => un (sliF l h) x
    (m, tru m)
  | .tup as => let m := bnd (dnk T cl cur as) fun ds τ => if ds.length ≤ lim then .ok (.own (.val (.tup ds))) τ else .bad
    (m, tru m)
  | .lst as => let m := bnd (dnk T cl cur as) fun ds τ => if ds.length ≤ lim then .ok (.own (.lst (ds.map .val))) τ else .bad
    (m, tru m)
  | .blt b as => let m := bnd (dns T cl cur as) fun rs => doBlt T cl b rs
    (m, tru m)
  | .isin a ts => let m := bnd (opd (dn T cl cur a).1) fun x => un (fun o => (isTys T (inH cur) o ts).map fun b => .val (.bl b)) x
    (m, tru m)
  | .comp ow it tg c e => let m := bnd (dnI T cl cur it) fun ds τ => match compM tg ow (dn T cl cur c).2 (ownD (dn T cl cur e).1) ds [] (wipeS τ ow) with
      | .ok os τ1 => .ok (.own (.lst (os.map .val))) (restS τ1 τ ow)
      | _ => .bad
    (m, tru m)
  | .hcall f as => let m := bnd (dns T cl cur as) fun rs => match cur with
      | some h => doCall h.1 f rs
      | none => fun _ => .bad
    (m, tru m)
  | .fstr as => let m := dnj T cl cur as Str.empty
    (m, tru m)
  | .smeth m a as => let m := bnd (opd (dn T cl cur a).1) fun x => bnd (isStrM x) fun _ => bnd (dns T cl cur as) fun rs => smR m x rs
    (m, tru m)
/-- operands -/
def dns (T : Tb) (cl : CallT) (cur : Option (CallT × Bool)) : Es → M (List Rv)
  | .nil => fun τ => .ok [] τ
  | .cons e es => bnd (opd (dn T cl cur e).1) fun r => bnd (dns T cl cur es) fun rs τ => .ok (r :: rs) τ
/-- an f-string's parts -/
def dnj (T : Tb) (cl : CallT) (cur : Option (CallT × Bool)) : Es → Str → M Rv
  | .nil => fun acc τ => .ok (.own (.val (.str acc))) τ
  | .cons e es => fun acc => catM (dn T cl cur e).1 (dnj T cl cur es) acc
/-- items to be kept -/
def dnk (T : Tb) (cl : CallT) (cur : Option (CallT × Bool)) : Es → M (List D)
  | .nil => fun τ => .ok [] τ
  | .cons e es => bnd (ownD (dn T cl cur e).1) fun d => bnd (dnk T cl cur es) fun ds τ => .ok (d :: ds) τ
def dnI (T : Tb) (cl : CallT) (cur : Option (CallT × Bool)) : It → M (List D)
  | .rng1 a => bnd (intM (dn T cl cur a).1) fun n τ => .ok (rngL 0 n) τ
  | .rng2 a b => bnd (intM (dn T cl cur a).1) fun l => bnd (intM (dn T cl cur b).1) fun n τ => .ok (rngL l n) τ
  | .rng3 _ _ _ => fun _ => .bad
  | .seq a => walk (dn T cl cur a).1
  | .enum a => bnd (walk (dn T cl cur a).1) fun ds τ => .ok (enumL 0 ds) τ
  | .zip a b => fun _ => .bad
  | .rev a => fun _ => .bad
  | .bor i => fun _ => .bad
end
abbrev ev (T : Tb) (cl : CallT) (cur : Option (CallT × Bool)) (e : E) : M Rv := (dn T cl cur e).1
abbrev tst (T : Tb) (cl : CallT) (cur : Option (CallT × Bool)) (e : E) : M Bool := (dn T cl cur e).2

/-! ### statements -/
inductive Fl where
  | nx | rt (o : O) | bk | ct
def seq2 (m : M Fl) (k : M Fl) : M Fl := fun τ => match m τ with
  | .ok .nx τ1 => k τ1
  | r => r
def forM (tg : List Nat) (body : M Fl) : List D → M Fl
  | [] => fun τ => .ok .nx τ
  | d :: ds => fun τ => match setTg τ tg d with
    | none => .bad
    | some τ1 => match body τ1 with
      | .ok .nx τ2 => forM tg body ds τ2
      | .ok .ct τ2 => forM tg body ds τ2
      | .ok .bk τ2 => .ok .nx τ2
      | .ok (.rt o) τ2 => .ok (.rt o) τ2
      | .ex x τ2 => .ex x τ2
      | .bad => .bad
/-- a loop over a name's list: nobody else has it meanwhile -/
def backB (i : Nat) (o : O) (τ : Sto) (k : Sto → R Fl) : R Fl := match τ[i]? with
  | some none => k (τ.set i (some o))
  | _ => .bad
def borM (i : Nat) (tg : List Nat) (m : M Fl) : M Fl := fun τ => match τ[i]? with
  | some (some (.lst os)) => match vals os with
    | some ds => match forM tg m ds (τ.set i none) with
      | .ok f τ1 => backB i (.lst os) τ1 fun τ2 => .ok f τ2
      | .ex x τ1 => backB i (.lst os) τ1 fun τ2 => .ex x τ2
      | .bad => .bad
    | none => .bad
  | some (some (.val d)) => match items (.val d) with
    | some ds => forM tg m ds τ
    | none => .bad
  | _ => .bad
inductive WhR (t : M Bool) (b : M Fl) : Nat → Sto → R Fl → Prop where
  | stop {n τ τ1} : t τ = .ok false τ1 → WhR t b n τ (.ok .nx τ1)
  | next {n τ τ1 τ2 r} : t τ = .ok true τ1 → b τ1 = .ok .nx τ2 → WhR t b n τ2 r → WhR t b (n + 1) τ r
  | cont {n τ τ1 τ2 r} : t τ = .ok true τ1 → b τ1 = .ok .ct τ2 → WhR t b n τ2 r → WhR t b (n + 1) τ r
  | brk {n τ τ1 τ2} : t τ = .ok true τ1 → b τ1 = .ok .bk τ2 → WhR t b n τ (.ok .nx τ2)
  | ret {n τ τ1 τ2 o} : t τ = .ok true τ1 → b τ1 = .ok (.rt o) τ2 → WhR t b n τ (.ok (.rt o) τ2)
  | ext {n τ τ1 x} : t τ = .ex x τ1 → WhR t b n τ (.ex x τ1)
  | exb {n τ τ1 τ2 x} : t τ = .ok true τ1 → b τ1 = .ex x τ2 → WhR t b n τ (.ex x τ2)
open Classical in
noncomputable def whl (t : M Bool) (b : M Fl) : M Fl := fun τ => if h : ∃ r n, WhR t b n τ r then Classical.choose h else .bad

def appF (o : O) (d : O) : Option O := match o with
  | .lst xs => if xs.length < lim then some (.lst (xs ++ [d])) else none
  | _ => none
def setIF (o : O) (k : Int) (d : O) : Option O := match o with
  | .lst xs => (L2.ixN xs.length k).map fun j => .lst (xs.set j d)
  | _ => none
def lstSlot (τ : Sto) (i : Nat) : Bool := match τ[i]? with
  | some (some (.lst _)) => true
  | _ => false
def putFld (ns : List Nat) (xs : List O) (f : Nat) (d : O) : List Nat × List O := match ns, xs with
  | n :: ns, x :: xs => if f = n then (n :: ns, d :: xs) else let p := putFld ns xs f d; (n :: p.1, x :: p.2)
  | _, _ => ([f], [d])
def setAF (T : Tb) (o : O) (f : Nat) (d : O) : Option O := match o with
  | .ins c ns xs => if T.fok c f = true ∧ ns.length < 100 ∧ ns.length = xs.length then some (.ins c (putFld ns xs f d).1 (putFld ns xs f d).2) else none
  | _ => none
def onSlot (i : Nat) (f : O → Option O) : M Fl := fun τ => match τ[i]? with
  | some (some o) => match f o with
    | some o' => .ok .nx (τ.set i (some o'))
    | none => .bad
  | _ => .bad
/-- name op= value -/
def augF (op : Op) (a b : O) : Option O := match a, b with
  | .val (.int i), .val (.int j) => match op with
    | .add => binI op i j
    | .sub => binI op i j
    | _ => none
  | .val (.str x), .val (.str y) => if op = .add ∧ x.length + y.length ≤ lim then some (.val (.str (x ++ y))) else none
  | _, _ => none
def doAug (i : Nat) (op : Op) (r : Rv) : M Fl := fun τ => match res τ (.slot i), res τ r with
  | some a, some b => match augF op a b with
    | some z => match put τ i z with
      | some τ1 => .ok .nx τ1
      | none => .bad
    | none => .bad
  | _, _ => .bad
/-- .. what the name holds is of an own class without in-place methods -/
def putR (i : Nat) (z : Rv) : M Fl := fun τ => match z with
  | .own o => match put τ i o with
    | some τ1 => .ok .nx τ1
    | none => .bad
  | _ => .bad
def noiS (T : Tb) (op : Op) (τ : Sto) (i : Nat) : Bool := match res τ (.slot i) with
  | some a => match clsOf a with
    | some c => T.noi c op
    | none => false
  | none => false
def doAugO (T : Tb) (cl : CallT) (i : Nat) (op : Op) (r : Rv) : M Fl := fun τ => if noiS T op τ i then bnd (doBin T cl op (.slot i) r) (putR i) τ else .bad
/-! no exception in it -/
mutual
def noXD : D → Bool
  | .exc _ _ _ => false
  | .tup ds => noXL ds
  | .lst ds => noXL ds
  | .kls ds => noXL ds
  | .ins _ _ ds => noXL ds
  | .dct _ ds => noXL ds
  | _ => true
def noXL : List D → Bool
  | [] => true
  | d :: ds => noXD d && noXL ds
end
mutual
def noXO : O → Bool
  | .val d => noXD d
  | .lst os => noXOL os
  | .ins _ _ os => noXOL os
  | .dct _ ds => noXL ds
def noXOL : List O → Bool
  | [] => true
  | o :: os => noXO o && noXOL os
end
def noXS : Sto → Bool
  | [] => true
  | some o :: τ => noXO o && noXS τ
  | none :: τ => noXS τ
/-- in a suite no plain def is called -/
def badCl : CallT := fun _ _ => .bad
/-- a try's handlers, asked in order -/
inductive Hd where
  | mk (c : Nat) (i : Option Nat) (m : M Fl)
/-- a suite with a name -/
def handAs (x : Exn) (j : Nat) (m : M Fl) : M Fl := fun τ => if j < τ.length ∧ (noXS τ && noXL x.ds) = true then (match m (τ.set j (some (.val (.exc x.c x.ns x.ds)))) with
        | .ok f τ1 => .ok f (τ1.set j none)
        | _ => .bad) else .bad
def handNo (m : M Fl) : M Fl := fun τ => match m τ with
  | .ok f τ1 => .ok f τ1
  | _ => .bad
def handle (T : Tb) (x : Exn) : List Hd → M Fl
  | [] => fun τ => .ex x τ
  | .mk c i m :: hs => match T.exm x.c (.own c) with
    | some true => match i with
      | some j => handAs x j m
      | none => handNo m
    | some false => handle T x hs
    | none => fun _ => .bad

mutual
noncomputable def dnS (T : Tb) (cl : CallT) (cur : Option (CallT × Bool)) : S → M Fl
  | .never => fun _ => .bad
  | .pass => fun τ => .ok .nx τ
  | .brk => fun τ => .ok .bk τ
  | .cont => fun τ => .ok .ct τ
  | .asg i e => bnd (own (ev T cl cur e)) fun o τ => match put τ i o with
      | some τ1 => .ok .nx τ1
      | none => .bad
  | .asgF i e => bnd (ownD (ev T cl cur e)) fun d τ => match put τ i (.val d) with
      | some τ1 => .ok .nx τ1
      | none => .bad
  | .asgT is e => bnd (ownD (ev T cl cur e)) fun d τ => match setTg τ is d with
      | some τ1 => .ok .nx τ1
      | none => .bad
  | .aug i op e => fun τ => match τ[i]? with
    | some (some _) => bnd (opd (ev T cl cur e)) (fun r => doAug i op r) τ
    | _ => .bad
  | .augO i op e => fun τ => match τ[i]? with
    | some (some _) => bnd (opd (ev T cl cur e)) (fun r => doAugO T cl i op r) τ
    | _ => .bad
  | .app i e => fun τ => if lstSlot τ i then bnd (own (ev T cl cur e)) (fun o => onSlot i (appF · o)) τ else .bad
  | .setI i ix e => bnd (own (ev T cl cur e)) fun o τ => if lstSlot τ i then bnd (intM (ev T cl cur ix)) (fun k => onSlot i (setIF · k o)) τ else .bad
  | .setA i f e => bnd (own (ev T cl cur e)) fun o => onSlot i (setAF T · f o)
  | .expr e => bnd (opd (ev T cl cur e)) fun _ τ => .ok .nx τ
  | .ret e => bnd (own (ev T cl cur e)) fun o τ => .ok (.rt o) τ
  | .retN => fun τ => .ok (.rt (.val .non)) τ
  | .raise c as => bnd (dnk T cl cur as) fun ds τ => match T.exf c with
      | some ns => if ns.length = ds.length then .ex ⟨c, ns, ds.reverse⟩ τ else .bad
      | none => .bad
  | .ite t a b => bnd (tst T cl cur t) fun k => match k with
      | true => dnB T cl cur a
      | false => dnB T cl cur b
  | .whl t b => whl (tst T cl cur t) (dnB T cl cur b)
  | .for it tg b => match it with
    | .bor i => borM i tg (dnB T cl cur b)
    | it => bnd (dnI T cl cur it) fun ds => forM tg (dnB T cl cur b) ds
  | .try b hs => fun τ => match dnB T cl cur b τ with
      | .ex x τ1 => handle T x (dnH T cl hs) τ1
      | r => r
noncomputable def dnB (T : Tb) (cl : CallT) (cur : Option (CallT × Bool)) : B → M Fl
  | .nil => fun τ => .ok .nx τ
  | .cons s b => seq2 (dnS T cl cur s) (dnB T cl cur b)
noncomputable def dnH (T : Tb) (cl : CallT) : Hs → List Hd
  | .nil => []
  | .cons c i b hs => .mk c i (dnB T badCl (some (cl, i.isSome)) b) :: dnH T cl hs
end

/-! ### calls -/
structure FD where
  np : Nat
  nn : Nat
  own : List Nat
  hot : Bool
  body : B
/-- what has become of the arguments -/
def fins (τ : Sto) : Nat → List O → Option (List O)
  | _, [] => some []
  | j, .val d :: os => (fins τ (j + 1) os).map (.val d :: ·)
  | j, _ :: os => match τ[j]? with
    | some (some o) => (fins τ (j + 1) os).map (o :: ·)
    | _ => none
def isVal : O → Bool
  | .val _ => true
  | _ => false
def ownOk (own : List Nat) : Nat → List O → Bool
  | _, [] => true
  | j, o :: os => (isVal o || own.contains j) && ownOk own (j + 1) os
noncomputable def runF (T : Tb) (cl : CallT) (fd : FD) (os : List O) : RF :=
  if os.length = fd.np ∧ ownOk fd.own 0 os = true then
    match (if fd.hot then dnB T badCl (some (cl, false)) fd.body else dnB T cl none fd.body) (os.map some ++ List.replicate (fd.nn - fd.np) none) with
    | .ok (.rt o) τ => match fins τ 0 os with
      | some os' => .ok o os'
      | none => .bad
    | .ok .nx τ => match fins τ 0 os with
      | some os' => .ok (.val .non) os'
      | none => .bad
    | .ok _ _ => .bad
    | .ex x τ => match fins τ 0 os with
      | some os' => .ex x os'
      | none => .bad
    | .bad => .bad
  else .bad
noncomputable def callN (T : Tb) (ft : Nat → Option FD) : Nat → CallT
  | 0 => fun _ _ => .bad
  | k + 1 => fun f os => match ft f with
    | some fd => runF T (callN T ft k) fd os
    | none => .bad
end Tw
set_option maxHeartbeats 2000000
/-! The tree walk, part 3: how a step of the tree walk answers a reading of the layer. -/
namespace Tw
open PySem PySem.Spec PyProof.Rows L2 Evl

/-- from a state (frozen G, cells L, heap H) to a later one -/
structure Step (G : Hp) (L : Cl) (H : Hp) (G' : Hp) (L' : Cl) (H' : Hp) : Prop where
  ex : Ex G G'
  frame : ∀ a o, H a = some o → (∀ u, (a, u) ∉ L) → H' a = some o
  loc : ∀ a u, (a, u) ∈ L' → (∃ w, (a, w) ∈ L) ∨ H a = none
  new : ∀ a, G' a ≠ none → G a ≠ none ∨ (∃ w, (a, w) ∈ L) ∨ H a = none
theorem Step.refl {G : Hp} {L : Cl} {H : Hp} : Step G L H G L H :=
  ⟨Ex.refl G, fun _ _ h _ => h, fun _ u h => .inl ⟨u, h⟩, fun _ h => .inl h⟩
theorem Step.trans {G G1 G2 : Hp} {L L1 L2 : Cl} {H H1 H2 : Hp} (s : Step G L H G1 L1 H1) (t : Step G1 L1 H1 G2 L2 H2) : Step G L H G2 L2 H2 := by
  have back : ∀ a, H1 a = none → (∃ w, (a, w) ∈ L) ∨ H a = none := fun a h => by
    cases e : H a with
    | none => exact .inr rfl
    | some o =>
      by_cases hl : ∃ w, (a, w) ∈ L
      · exact .inl hl
      · have := s.frame a o e fun u hu => hl ⟨u, hu⟩
        rw [h] at this
        cases this
  refine ⟨s.ex.trans t.ex, fun a o h hl => ?_, fun a u h => ?_, fun a h => ?_⟩
  · refine t.frame a o (s.frame a o h hl) fun u hu => ?_
    rcases s.loc a u hu with ⟨w, hw⟩ | hn
    · exact hl w hw
    · rw [h] at hn; cases hn
  · rcases t.loc a u h with ⟨w, hw⟩ | hn
    · exact s.loc a w hw
    · exact back a hn
  · rcases t.new a h with h1 | ⟨w, hw⟩ | hn
    · exact s.new a h1
    · exact .inr (s.loc a w hw)
    · exact .inr (back a hn)
theorem Step.sub {G G1 : Hp} {L L1 L2 : Cl} {H H1 : Hp} (s : Step G L H G1 L1 H1) (h : ∀ p ∈ L2, p ∈ L1) : Step G L H G1 L2 H1 :=
  ⟨s.ex, s.frame, fun a u hu => s.loc a u (h _ hu), s.new⟩
theorem Step.give {G G1 : Hp} {L Lv L1 : Cl} {H H1 : Hp} (s : Step G L H G1 (Lv ++ L1) H1) (c : Cells G1 (Lv ++ L1) H1) : Step G L H (addC G1 Lv) L1 H1 := by
  refine ⟨s.ex.trans c.left.ex1, s.frame, fun a u hu => s.loc a u (List.mem_append_right _ hu), fun a h => ?_⟩
  unfold addC at h
  cases e : Lv.lookup a with
  | none => rw [e] at h; exact s.new a h
  | some u => exact .inr (s.loc a u (List.mem_append_left _ (lookup_mem e)))
/-- what stands aside -/
theorem Step.aside {G G1 : Hp} {L L1 F : Cl} {H H1 : Hp} (s : Step G L H G1 L1 H1) (c : Cells G (L ++ F) H) (c1 : Cells G1 L1 H1) : Step G (L ++ F) H G1 (L1 ++ F) H1 ∧ Cells G1 (L1 ++ F) H1 := by
  have apart : ∀ a u w, (a, u) ∈ L1 → (a, w) ∈ F → False := fun a u w h1 h2 => by
    rcases s.loc a u h1 with ⟨z, hz⟩ | hn
    · exact c.apart hz h2
    · have := c.at_ a w (List.mem_append_right _ h2)
      rw [hn] at this; cases this
  refine ⟨⟨s.ex, fun a o h hl => s.frame a o h fun u hu => hl u (List.mem_append_left _ hu), fun a u h => ?_, fun a h => ?_⟩, ⟨?_, fun a o h => ?_, fun a o h => ?_, c1.sub⟩⟩
  · rcases List.mem_append.mp h with h | h
    · rcases s.loc a u h with ⟨z, hz⟩ | hn
      · exact .inl ⟨z, List.mem_append_left _ hz⟩
      · exact .inr hn
    · exact .inl ⟨u, List.mem_append_right _ h⟩
  · rcases s.new a h with h1 | ⟨w, hw⟩ | hn
    · exact .inl h1
    · exact .inr (.inl ⟨w, List.mem_append_left _ hw⟩)
    · exact .inr (.inr hn)
  · rw [List.map_append]
    refine List.nodup_append.mpr ⟨c1.nd, c.right.nd, fun a ha b hb e => ?_⟩
    obtain ⟨⟨a', u⟩, hu, rfl⟩ := List.mem_map.mp ha
    obtain ⟨⟨b', w⟩, hw, rfl⟩ := List.mem_map.mp hb
    cases e
    exact apart _ u w hu hw
  · rcases List.mem_append.mp h with h | h
    · exact c1.at_ a o h
    · exact s.frame a o (c.at_ a o (List.mem_append_right _ h)) fun u hu => c.apart hu h
  · rcases List.mem_append.mp h with h | h
    · exact c1.out a o h
    · cases e : G1 a with
      | none => rfl
      | some z =>
        rcases s.new a (by rw [e]; exact fun z => nomatch z) with h1 | ⟨w, hw⟩ | hn
        · exact absurd (c.out a o (List.mem_append_right _ h)) h1
        · exact (c.apart hw h).elim
        · have := c.at_ a o (List.mem_append_right _ h)
          rw [hn] at this; cases this
/-- a new cell -/
theorem Cells.new {G : Hp} {L : Cl} {H : Hp} {p : Addr} {o : HO} (c : Cells G L H) (hp : H p = none) : Cells G ((p, o) :: L) (upd H p o) where
  nd := by
    rw [List.map_cons, List.nodup_cons]
    refine ⟨fun h => ?_, c.nd⟩
    obtain ⟨⟨a, u⟩, hu, e⟩ := List.mem_map.mp h
    cases e
    have := c.at_ p u hu
    rw [hp] at this; cases this
  at_ := fun a u h => by
    rcases List.mem_cons.mp h with e | h
    · cases e; exact upd_same
    · rw [upd_ne (ne_of_none (c.at_ a u h) hp)]
      exact c.at_ a u h
  out := fun a u h => by
    rcases List.mem_cons.mp h with e | h
    · cases e
      cases q : G p with
      | none => rfl
      | some z =>
        have := c.sub p z q
        rw [hp] at this; cases this
    · exact c.out a u h
  sub := c.sub.trans (Ex.new hp)
theorem Step.new1 {G : Hp} {L : Cl} {H : Hp} {p : Addr} {o : HO} (hp : H p = none) : Step G L H G ((p, o) :: L) (upd H p o) where
  ex := Ex.refl G
  frame := fun a u h _ => by
    rw [upd_ne (ne_of_none h hp)]
    exact h
  loc := fun a u h => by
    rcases List.mem_cons.mp h with e | h
    · cases e; exact .inr hp
    · exact .inl ⟨u, h⟩
  new := fun a h => .inl h
/-- a cell is written -/
theorem Cells.write {G : Hp} {L : Cl} {H : Hp} {p : Addr} {o o' : HO} (c : Cells G ((p, o) :: L) H) : Cells G ((p, o') :: L) (upd H p o') where
  nd := c.nd
  at_ := fun a u h => by
    rcases List.mem_cons.mp h with e | h2
    · cases e; exact upd_same
    · have nd := c.nd
      rw [List.map_cons, List.nodup_cons] at nd
      have ne : a ≠ p := fun e => nd.1 (List.mem_map.mpr ⟨(a, u), h2, e⟩)
      rw [upd_ne ne]
      exact c.at_ a u (List.mem_cons_of_mem _ h2)
  out := fun a u h => by
    rcases List.mem_cons.mp h with e | h
    · cases e; exact c.out p o List.mem_cons_self
    · exact c.out a u (List.mem_cons_of_mem _ h)
  sub := c.sub.mut (c.out p o List.mem_cons_self)
theorem Step.write {G : Hp} {L : Cl} {H : Hp} {p : Addr} {o o' : HO} : Step G ((p, o) :: L) H G ((p, o') :: L) (upd H p o') where
  ex := Ex.refl G
  frame := fun a u h hl => by
    rw [upd_ne (fun e => hl o (by rw [e]; exact List.mem_cons_self))]
    exact h
  loc := fun a u h => by
    rcases List.mem_cons.mp h with e | h
    · cases e; exact .inl ⟨o, List.mem_cons_self⟩
    · exact .inl ⟨u, List.mem_cons_of_mem _ h⟩
  new := fun a h => .inl h
theorem Step.perm {G G1 : Hp} {L L' L1 L1' : Cl} {H H1 : Hp} (s : Step G L H G1 L1 H1) (p : L.Perm L') (q : L1.Perm L1') : Step G L' H G1 L1' H1 where
  ex := s.ex
  frame := fun a o h hl => s.frame a o h fun u hu => hl u (p.mem_iff.mp hu)
  loc := fun a u h => by
    rcases s.loc a u (q.mem_iff.mpr h) with ⟨w, hw⟩ | hn
    · exact .inl ⟨w, p.mem_iff.mp hw⟩
    · exact .inr hn
  new := fun a h => by
    rcases s.new a h with h1 | ⟨w, hw⟩ | hn
    · exact .inl h1
    · exact .inr (.inl ⟨w, p.mem_iff.mp hw⟩)
    · exact .inr (.inr hn)

variable {K : PySem.W.Frag} {N : Nm}
def RvR (K : PySem.W.Frag) (N : Nm) (G : Hp) (σ : L2.St) : Rv → V → Cl → Prop
  | .slot i, v, Lv => Lv = [] ∧ σ[i]? = some (some v)
  | .own o, v, Lv => Own K N G o v Lv
/-- an operand: a name, or a value that is free -/
def OpR1 (K : PySem.W.Frag) (N : Nm) (G : Hp) (σ : L2.St) (r : Rv) (v : V) (Lv : Cl) : Prop := Lv = [] ∧ match r with
  | .slot i => σ[i]? = some (some v)
  | .own (.val d) => Rep K N G d v
  | .own _ => False
theorem OpR1.mono {G G' : Hp} {σ : L2.St} {r : Rv} {v : V} {Lv : Cl} (e : Ex G G') (h : OpR1 K N G σ r v Lv) : OpR1 K N G' σ r v Lv := by
  obtain ⟨h1, h2⟩ := h
  refine ⟨h1, ?_⟩
  cases r with
  | slot i => exact h2
  | own o =>
    cases o with
    | val d => exact Rep.mono e h2
    | _ => exact h2
def OpsR (K : PySem.W.Frag) (N : Nm) (G : Hp) (σ : L2.St) : List Rv → List V → Cl → Prop
  | [], vs, Lv => vs = [] ∧ Lv = []
  | r :: rs, vs, Lv => Lv = [] ∧ ∃ v r', vs = v :: r' ∧ OpR1 K N G σ r v [] ∧ OpsR K N G σ rs r' []
theorem OpsR.mono {G G' : Hp} {σ : L2.St} (e : Ex G G') : ∀ {rs : List Rv} {vs : List V} {Lv : Cl}, OpsR K N G σ rs vs Lv → OpsR K N G' σ rs vs Lv
  | [], _, _, h => h
  | r :: rs, vs, Lv, h => by
    obtain ⟨h1, v, r', h2, h3, h4⟩ := h
    exact ⟨h1, v, r', h2, h3.mono e, h4.mono e⟩
theorem OpsR.nil {G : Hp} {σ : L2.St} : ∀ {rs : List Rv} {vs : List V} {Lv : Cl}, OpsR K N G σ rs vs Lv → Lv = []
  | [], _, _, h => h.2
  | _ :: _, _, _, h => h.1
def OwR (K : PySem.W.Frag) (N : Nm) (G : Hp) (_ : L2.St) (o : O) (v : V) (Lv : Cl) : Prop := Own K N G o v Lv
def BoR (_ : Hp) (_ : L2.St) (a : Bool) (b : Bool) (Lv : Cl) : Prop := a = b ∧ Lv = []
/-- a free value as an operand -/
def DsR (K : PySem.W.Frag) (N : Nm) (G : Hp) (_ : L2.St) (ds : List D) (vs : List V) (Lv : Cl) : Prop := Lv = [] ∧ RepL K N G ds vs
def ExR (K : PySem.W.Frag) (N : Nm) (x : Exn) (cls : Value) (d : Option Addr) (G : Hp) : Prop :=
  cls = .ref (N.cad x.c) ∧ ∃ vs, RepL K N G x.ds vs ∧ x.ns.length = vs.length ∧ ((x.ns = [] ∧ d = none) ∨ ∃ dd, x.ns ≠ [] ∧ d = some dd ∧ G dd = some (.xd (flds N x.ns vs)))
section
variable {α β γ δ : Type}
def Out (K : PySem.W.Frag) (N : Nm) (W : WX) (rel : Hp → L2.St → α → β → Cl → Prop) (σ : L2.St) (G : Hp) (L : Cl) (H : Hp) (Q : β → Hp → Prop) : R α → Prop
  | .ok a τ' => ∀ b G' Lv L' H', rel G' σ a b Lv → StoR K N G' τ' σ L' → Cells G' (Lv ++ L') H' → Step G L H G' (Lv ++ L') H' → Q b H'
  | .ex x τ' => ∀ cls d G' L' H', ExR K N x cls d G' → StoR K N G' τ' σ L' → Cells G' L' H' → Step G L H G' L' H' → W cls d σ H'
  | .bad => False
theorem Out.later {W : WX} {rel : Hp → L2.St → α → β → Cl → Prop} {σ : L2.St} {G G1 : Hp} {L L1 : Cl} {H H1 : Hp} {Q : β → Hp → Prop} {r : R α} (h : Out K N W rel σ G L H Q r) (s : Step G L H G1 L1 H1) : Out K N W rel σ G1 L1 H1 Q r := by
  cases r with
  | ok a τ => exact fun b G' Lv L' H' hr st ce sp => h b G' Lv L' H' hr st ce (s.trans sp)
  | ex x τ => exact fun cls d G' L' H' hr st ce sp => h cls d G' L' H' hr st ce (s.trans sp)
  | bad => exact h
def tM (K : PySem.W.Frag) (N : Nm) (W : WX) (rel : Hp → L2.St → α → β → Cl → Prop) (m : M α) : L2.St → Hp → (β → Hp → Prop) → Prop :=
  fun σ H Q => ∃ τ G L, StoR K N G τ σ L ∧ Cells G L H ∧ Out K N W rel σ G L H Q (m τ)
/-- first m, then what follows -/
theorem split {W : WX} {rel1 : Hp → L2.St → α → β → Cl → Prop} {rel2 : Hp → L2.St → γ → δ → Cl → Prop} {m : M α} {f : α → M γ} {σ : L2.St} {G : Hp} {L : Cl} {H : Hp} {τ : Sto} {Q : δ → Hp → Prop}
    (st : StoR K N G τ σ L) (ce : Cells G L H) (out : Out K N W rel2 σ G L H Q (bnd m f τ)) :
    tM K N W rel1 m σ H (fun b H1 => ∃ a τ1 G1 Lv L1, Ex G G1 ∧ rel1 G1 σ a b Lv ∧ StoR K N G1 τ1 σ L1 ∧ Cells G1 (Lv ++ L1) H1 ∧ Out K N W rel2 σ G1 (Lv ++ L1) H1 Q (f a τ1)) := by
  refine ⟨τ, G, L, st, ce, ?_⟩
  unfold bnd at out
  cases e : m τ with
  | ok a τ1 =>
    rw [e] at out
    exact fun b G' Lv L' H' hr st' ce' sp => ⟨a, τ1, G', Lv, L', sp.ex, hr, st', ce', out.later sp⟩
  | ex x τ1 =>
    rw [e] at out
    exact out
  | bad =>
    rw [e] at out
    exact out
end
theorem _root_.L2.PE.imp {X : Cx} {e : Expr} {t t' : TE} (h : PE X e t) (i : ∀ σ H Q, t' σ H Q → t σ H Q) : PE X e t' := ⟨fun pins s σ H Q I q => h.run pins s σ H Q I (i σ H Q q)⟩
theorem _root_.L2.PT.imp {X : Cx} {e : Expr} {t t' : TT} (h : PT X e t) (i : ∀ σ H Q, t' σ H Q → t σ H Q) : PT X e t' := ⟨fun pins s σ H Q I q => h.run pins s σ H Q I (i σ H Q q)⟩
theorem _root_.L2.PW.imp {X : Cx} {e : Expr} {t t' : TT} (h : PW X e t) (i : ∀ σ H Q, t' σ H Q → t σ H Q) : PW X e t' := ⟨fun wh pins s σ H Q I q => h.run wh pins s σ H Q I (i σ H Q q)⟩
theorem _root_.L2.PA.imp {X : Cx} {es : List Expr} {t t' : TA} (h : PA X es t) (i : ∀ σ H Q, t' σ H Q → t σ H Q) : PA X es t' := ⟨fun pos pins s σ H Q I q => h.run pos pins s σ H Q I (i σ H Q q)⟩
theorem _root_.L2.PS.imp {X : Cx} {s : Stmt} {t t' : TS} (h : PS X s t) (i : ∀ D σ H, t' D σ H → t D σ H) : PS X s t' := ⟨fun pins s σ H D I q => h.run pins s σ H D I (i D σ H q)⟩
theorem _root_.L2.PSs.imp {X : Cx} {s : List Stmt} {t t' : TS} (h : PSs X s t) (i : ∀ D σ H, t' D σ H → t D σ H) : PSs X s t' := ⟨fun pins s σ H D I q => h.run pins s σ H D I (i D σ H q)⟩

/-! ### the readings of the parts -/
abbrev tE (K : PySem.W.Frag) (N : Nm) (W : WX) (m : M Rv) : TE := tM K N W (RvR K N) m
abbrev tD (K : PySem.W.Frag) (N : Nm) (W : WX) (m : M Rv) : TE := tM K N W (OpR1 K N) m
abbrev tO (K : PySem.W.Frag) (N : Nm) (W : WX) (m : M O) : TE := tM K N W (OwR K N) m
abbrev tB (K : PySem.W.Frag) (N : Nm) (W : WX) (m : M Bool) : TT := tM K N W BoR m
abbrev tAs (K : PySem.W.Frag) (N : Nm) (W : WX) (m : M (List Rv)) : TA := tM K N W (OpsR K N) m
abbrev tKs (K : PySem.W.Frag) (N : Nm) (W : WX) (m : M (List D)) : TA := tM K N W (DsR K N) m

section
variable {X : Cx} {W : WX}
/-- what is made is set free -/
theorem pe_opd {e : Expr} {m : M Rv} (h : PE X e (tE K N W m)) : PE X e (tD K N W (opd m)) := by
  refine h.imp fun σ H Q => ?_
  rintro ⟨τ, G, L, st, ce, out⟩
  refine ⟨τ, G, L, st, ce, ?_⟩
  unfold opd bnd at out
  cases q : m τ with
  | bad => rw [q] at out; exact out
  | ex x τ1 => rw [q] at out; exact out
  | ok r τ1 =>
    rw [q] at out
    intro v G' Lv L' H' hr st' ce' sp
    cases r with
    | slot i => exact out v G' Lv L' H' ⟨hr.1, hr.2⟩ st' ce' sp
    | own o =>
      have hO : Own K N G' o v Lv := hr
      exact out v (addC G' Lv) [] L' H' ⟨rfl, hO.frz ce'.left.nd ce'.left.out⟩ (st'.mono ce'.left.ex1) ce'.give (sp.give ce')
/-- a name's thing is set free -/
theorem pe_own {e : Expr} {m : M Rv} (h : PE X e (tE K N W m)) : PE X e (tO K N W (own m)) := by
  refine h.imp fun σ H Q => ?_
  rintro ⟨τ, G, L, st, ce, out⟩
  refine ⟨τ, G, L, st, ce, ?_⟩
  unfold own bnd at out
  cases q : m τ with
  | bad => rw [q] at out; exact out
  | ex x τ1 => rw [q] at out; exact out
  | ok r τ1 =>
    rw [q] at out
    intro v G' Lv L' H' hr st' ce' sp
    cases r with
    | own o => exact out v G' Lv L' H' hr st' ce' sp
    | slot i =>
      obtain ⟨rfl, hv⟩ := hr
      cases e1 : τ1[i]? with
      | none =>
        simp only [e1] at out
        exact out.elim
      | some oo =>
        cases oo with
        | none =>
          simp only [e1] at out
          exact out.elim
        | some o =>
          simp only [e1] at out
          obtain ⟨A, B, C, v', rfl, hv', hO, _, hput⟩ := st'.at e1
          rw [hv] at hv'
          cases hv'
          have pm : (A ++ (B ++ C)).Perm (B ++ (A ++ C)) := by
            rw [← List.append_assoc, ← List.append_assoc]
            exact List.Perm.append_right _ List.perm_append_comm
          have ce2 := Cells.perm (show Cells G' (A ++ (B ++ C)) H' from ce') pm
          have sp2 := sp.perm (List.Perm.refl L) pm
          have hR := hO.frz ce2.left.nd ce2.left.out
          have hs : σ.set i (some v) = σ := by
            apply List.ext_getElem?
            intro j
            by_cases hj : i = j
            · subst hj
              by_cases hl : i < σ.length
              · rw [List.getElem?_set_self hl, hv]
              · rw [List.getElem?_eq_none (by simpa using hl), List.getElem?_eq_none (by simpa using hl)]
            · rw [List.getElem?_set_ne hj]
          have st2 := hput (G' := addC G' B) (o' := .val (frz o)) (v' := v) (B' := []) ce2.left.ex1 ⟨rfl, hR⟩
          rw [hs] at st2
          exact out v (addC G' B) [] (A ++ C) H' ⟨rfl, hR⟩ st2 ce2.give (sp2.give ce2)
end
end Tw
set_option maxHeartbeats 2000000
/-! The tree walk, part 4: plain operations. -/
namespace Tw
open PySem PySem.Spec PyProof.Rows L2 Evl
section
variable {X : Cx} {N : Nm} {W : WX} {σ : L2.St} {G : Hp} {L : Cl} {H : Hp} {τ : Sto} {pins : List (Addr × Obj)} {s : Shared} {Q : VK}

theorem out_val {o : O} {v : V} (st : StoR X.K N G τ σ L) (ce : Cells G L H) (out : Out X.K N W (RvR X.K N) σ G L H Q (.ok (.own o) τ)) (h : Own X.K N G o v []) : Q v H :=
  out v G [] L H h st ce Step.refl
theorem out_new {ds : List D} {vs : List V} {p : Addr} (st : StoR X.K N G τ σ L) (ce : Cells G L H) (out : Out X.K N W (RvR X.K N) σ G L H Q (.ok (.own (.lst (ds.map .val))) τ)) (h : RepL X.K N G ds vs) (hp : H p = none) :
    Q (.ref p) (upd H p (.lst vs)) :=
  out (.ref p) G [(p, .lst vs)] L _ ⟨p, vs, [], rfl, rfl, OwnL.of h⟩ st (ce.new hp) (Step.new1 hp)
theorem cells_tup {ds : List D} {vs : List V} {p : Addr} (ce : Cells G L H) (h : RepL X.K N G ds vs) (hp : H p = none) :
    Cells (addC G [(p, .tup vs)]) L (upd H p (.tup vs)) ∧ Step G L H (addC G [(p, .tup vs)]) L (upd H p (.tup vs)) ∧ Rep X.K N (addC G [(p, .tup vs)]) (.tup ds) (.ref p) := by
  have c1 : Cells G ([(p, HO.tup vs)] ++ L) (upd H p (.tup vs)) := ce.new hp
  have s1 : Step G L H G ([(p, HO.tup vs)] ++ L) (upd H p (.tup vs)) := Step.new1 hp
  refine ⟨c1.give, s1.give c1, p, vs, rfl, st_of ?_, h.mono c1.left.ex1⟩
  unfold addC
  rw [List.lookup_cons, beq_self_eq_true]
theorem out_tup {ds : List D} {vs : List V} {p : Addr} (st : StoR X.K N G τ σ L) (ce : Cells G L H) (out : Out X.K N W (RvR X.K N) σ G L H Q (.ok (.own (.val (.tup ds))) τ)) (h : RepL X.K N G ds vs) (hp : H p = none) :
    Q (.ref p) (upd H p (.tup vs)) := by
  obtain ⟨c, sp, r⟩ := cells_tup (N := N) ce h hp
  exact out (.ref p) _ [] L _ ⟨rfl, r⟩ (st.mono sp.ex) c sp
/-- what an operand is -/
theorem res_own {r : Rv} {o : O} {x : V} (st : StoR X.K N G τ σ L) (h : OpR1 X.K N G σ r x []) (e : res τ r = some o) : ∃ Lr R, Own X.K N G o x Lr ∧ L.Perm (Lr ++ R) := by
  cases r with
  | own o' =>
    cases e
    cases o with
    | val d => exact ⟨[], L, ⟨rfl, h.2⟩, List.Perm.refl _⟩
    | lst _ => exact h.2.elim
    | ins _ _ _ => exact h.2.elim
    | dct _ _ => exact h.2.elim
  | slot i =>
    simp only [res] at e
    cases q : τ[i]? with
    | none => rw [q] at e; cases e
    | some oo =>
      cases oo with
      | none => rw [q] at e; cases e
      | some o' =>
        rw [q] at e
        cases e
        obtain ⟨A, B, C, v, rfl, hv, ho, _⟩ := st.at q
        have h2 : σ[i]? = some (some x) := h.2
        rw [hv] at h2
        cases h2
        refine ⟨B, A ++ C, ho, ?_⟩
        rw [← List.append_assoc, ← List.append_assoc]
        exact List.Perm.append_right _ List.perm_append_comm
theorem own_int {i : Int} {x : V} {Lr : Cl} (h : Own X.K N G (.val (.int i)) x Lr) : x = .int i := h.2
theorem vals_eq : ∀ {os : List O} {ds : List D}, vals os = some ds → os = ds.map .val
  | [], ds, h => by
    have e : ([] : List D) = ds := Option.some.inj h
    subst e; rfl
  | .val d :: r, ds, h => by
    unfold vals at h
    cases q : vals r with
    | none => rw [q] at h; cases h
    | some es =>
      rw [q] at h
      have e : d :: es = ds := Option.some.inj h
      subst e
      rw [vals_eq q]; rfl
  | .lst _ :: r, _, h => by cases h
  | .ins _ _ _ :: r, _, h => by cases h
  | .dct _ _ :: r, _, h => by cases h
theorem listOf_at {o : O} {x : V} {Lr R : Cl} {ds : List D} (ce : Cells G L H) (ho : Own X.K N G o x Lr) (pm : L.Perm (Lr ++ R)) (e : listOf o = some ds) : ∃ p vs, x = .ref p ∧ H p = some (.lst vs) ∧ RepL X.K N G ds vs := by
  cases o with
  | val d =>
    cases d with
    | lst xs =>
      cases e
      obtain ⟨a, vs, rfl, h2, h3⟩ := ho.2
      exact ⟨a, vs, rfl, ce.sub _ _ h2, h3⟩
    | _ => cases e
  | lst os =>
    obtain ⟨a, vs, L1, rfl, rfl, h3⟩ := ho
    have e1 := vals_eq e
    subst e1
    obtain ⟨rfl, h4⟩ := h3.vals
    exact ⟨a, vs, rfl, (ce.perm pm).at_ a _ List.mem_cons_self, h4⟩
  | ins _ _ _ => cases e
  | dct _ _ => cases e
/-- lists and tuples, to be read -/
theorem items_at {o : O} {x : V} {Lr R : Cl} {ds : List D} (ce : Cells G L H) (ho : Own X.K N G o x Lr) (pm : L.Perm (Lr ++ R)) (e : items o = some ds) :
    ∃ p vs, x = .ref p ∧ (SqL X.K H p vs ∨ SqT X.K H p vs) ∧ RepL X.K N G ds vs := by
  cases o with
  | val d =>
    cases d with
    | lst xs =>
      cases e
      obtain ⟨a, vs, rfl, h2, h3⟩ := ho.2
      exact ⟨a, vs, rfl, .inl (sq_of (ce.sub _ _ h2)), h3⟩
    | kls xs =>
      cases e
      obtain ⟨a, vs, rfl, h2, h3⟩ := ho.2
      exact ⟨a, vs, rfl, .inl (ex_l ce.sub h2), h3⟩
    | tup xs =>
      cases e
      obtain ⟨a, vs, rfl, h2, h3⟩ := ho.2
      exact ⟨a, vs, rfl, .inr (ex_t ce.sub h2), h3⟩
    | _ => cases e
  | lst os =>
    obtain ⟨a, vs, L1, rfl, rfl, h3⟩ := ho
    have e1 := vals_eq e
    subst e1
    obtain ⟨rfl, h4⟩ := h3.vals
    exact ⟨a, vs, rfl, .inl (sq_of ((ce.perm pm).at_ a _ List.mem_cons_self)), h4⟩
  | ins _ _ _ => cases e
  | dct _ _ => cases e

def pyOp : Op → Operator
  | .add => .Add | .sub => .Sub | .mul => .Mult | .fdiv => .FloorDiv | .mod => .Mod | .pow => .Pow | .lsh => .LShift | .rsh => .RShift | .band => .BitAnd
theorem op_powW : OpR X (binaryOp .Pow) (rI (fun i j => 0 ≤ j ∧ j ≤ 1000 ∧ i.natAbs.log2 < 100000) fun i j => .int (i ^ j.toNat)) := opI fun i j _ _ _ _ _ hc q => by
  obtain ⟨h1, h2, h3⟩ := hc
  refine PyProof.Rows.pow_int h1 ?_ q
  have b : Builtin.Int.intBits i ≤ i.natAbs.log2 + 1 := by
    unfold Builtin.Int.intBits
    split <;> omega
  have h4 : (Builtin.Int.intBits i : Int) ≤ 100000 := by omega
  have h5 : (Builtin.Int.intBits i : Int) * j ≤ 100000 * 1000 := Int.mul_le_mul h4 h2 h1 (by decide)
  have h6 : (100000 : Int) * 1000 ≤ 2 ^ 27 := by decide
  omega
theorem binI_ok {op : Op} {i j : Int} {z : O} {v u : Value} (I : Inv X pins σ H s) (rx : RelV (.int i) v) (ry : RelV (.int j) u) (e : binI op i j = some z) (hq : ∀ w, z = .val (.int w) → Q (.int w) H) :
    wpAny (model X.prog X.w) X.A (binaryOp (pyOp op) v u) (EP X pins σ Q) X.xe s := by
  cases op with
  | add => exact op_add pins s σ H _ _ v u Q I rx ry ⟨i, j, rfl, rfl, hq _ (Option.some.inj e).symm⟩
  | sub => exact op_sub pins s σ H _ _ v u Q I rx ry ⟨i, j, rfl, rfl, hq _ (Option.some.inj e).symm⟩
  | mul =>
    unfold binI at e
    simp only at e
    split at e
    · rename_i h
      have hb : ∀ k : Int, Builtin.Int.intBits k ≤ k.natAbs.log2 + 1 := fun k => by
        unfold Builtin.Int.intBits
        split <;> omega
      have hx : CMulX i j := by
        have h1 := hb i
        have h2 := hb j
        unfold CMulX
        omega
      exact op_mulX pins s σ H _ _ v u Q I rx ry ⟨i, j, rfl, rfl, hx, hq _ (Option.some.inj e).symm⟩
    · cases e
  | fdiv =>
    unfold binI at e
    simp only at e
    split at e
    · rename_i h
      exact op_fdivW pins s σ H _ _ v u Q I rx ry ⟨i, j, rfl, rfl, h, hq _ (Option.some.inj e).symm⟩
    · split at e
      · rename_i h
        obtain ⟨t, rfl⟩ := rx
        obtain ⟨t', rfl⟩ := ry
        have hq' := hq _ (Option.some.inj e).symm
        exact floordiv_int (by omega) ⟨.int (i.fdiv j), H, I.tok _, ⟨_, rfl⟩, hq'⟩ (.inl (PyProof.noPylong_of_log2 h.2))
      · cases e
  | mod =>
    unfold binI at e
    simp only at e
    split at e
    · rename_i h
      exact op_mod pins s σ H _ _ v u Q I rx ry ⟨i, j, rfl, rfl, h, hq _ (Option.some.inj e).symm⟩
    · cases e
  | pow =>
    unfold binI at e
    simp only at e
    split at e
    · rename_i h
      exact op_powW pins s σ H _ _ v u Q I rx ry ⟨i, j, rfl, rfl, h, hq _ (Option.some.inj e).symm⟩
    · cases e
  | _ => cases e
theorem lim_le {n : Nat} (h : n ≤ lim) : n ≤ sizeLine := Nat.le_trans h (by decide)
theorem lim_lt {n : Nat} (h : n < lim) : n < sizeLine := Nat.lt_of_lt_of_le h (by decide)
theorem binL_ok {op : Op} {a b z : O} {x y : V} {v u : Value} {La Lb Ra Rb : Cl} (I : Inv X pins σ H s) (rx : RelV x v) (ry : RelV y u) (st : StoR X.K N G τ σ L) (ce : Cells G L H) (ha : Own X.K N G a x La) (pa : L.Perm (La ++ Ra)) (hb : Own X.K N G b y Lb) (pb : L.Perm (Lb ++ Rb))
    (e : binL op a b = some z) (out : Out X.K N W (RvR X.K N) σ G L H Q (.ok (.own z) τ)) : wpAny (model X.prog X.w) X.A (binaryOp (pyOp op) v u) (EP X pins σ Q) X.xe s := by
  unfold binL at e
  cases op with
  | add =>
    simp only at e
    cases h1 : listOf a with
    | none => rw [h1] at e; cases e
    | some xs =>
      cases h2 : listOf b with
      | none => rw [h1, h2] at e; cases e
      | some ys =>
        rw [h1, h2] at e
        simp only at e
        split at e
        · rename_i hl
          cases e
          obtain ⟨p, vs, rfl, hp, r1⟩ := listOf_at ce ha pa h1
          obtain ⟨q, us, rfl, hq, r2⟩ := listOf_at ce hb pb h2
          exact op_cat pins s σ H _ _ v u Q I rx ry ⟨p, q, vs, us, rfl, rfl, hp, hq, by rw [← r1.len, ← r2.len]; exact lim_le hl, fun p hp => out_new st ce out (r1.app r2) hp⟩
        · cases e
  | mul =>
    simp only at e
    cases h1 : listOf a with
    | none => rw [h1] at e; cases e
    | some xs =>
      rw [h1] at e
      cases b with
      | val d =>
        cases d with
        | int k =>
          simp only at e
          split at e
          · rename_i hl
            cases e
            obtain ⟨p, vs, rfl, hp, r1⟩ := listOf_at ce ha pa h1
            have e2 := own_int hb
            subst e2
            exact op_rep pins s σ H _ _ v u Q I rx ry ⟨p, k, vs, rfl, rfl, hp, by omega, by omega, by rw [← r1.len]; exact lim_le hl.2.2, fun p hp => out_new st ce out (r1.rep k.toNat) hp⟩
          · cases e
        | _ => cases e
      | _ => cases e
  | _ => cases e
theorem binF_ok {op : Op} {a b z : O} {x y : V} {v u : Value} {La Lb Ra Rb : Cl} (I : Inv X pins σ H s) (rx : RelV x v) (ry : RelV y u) (st : StoR X.K N G τ σ L) (ce : Cells G L H) (ha : Own X.K N G a x La) (pa : L.Perm (La ++ Ra)) (hb : Own X.K N G b y Lb) (pb : L.Perm (Lb ++ Rb))
    (e : binF op a b = some z) (out : Out X.K N W (RvR X.K N) σ G L H Q (.ok (.own z) τ)) : wpAny (model X.prog X.w) X.A (binaryOp (pyOp op) v u) (EP X pins σ Q) X.xe s := by
  unfold binF at e
  split at e
  · rename_i i j
    have e1 := own_int ha
    have e2 := own_int hb
    subst e1 e2
    exact binI_ok I rx ry e fun w ew => by
      subst ew
      exact out_val st ce out ⟨rfl, rfl⟩
  · rename_i i j
    have e1 : x = .str i := ha.2
    have e2 : y = .str j := hb.2
    subst e1 e2
    split at e
    · rename_i h
      obtain ⟨rfl, hl⟩ := h
      cases e
      exact op_add_str pins s σ H _ _ v u Q I rx ry ⟨i, j, rfl, rfl, lim_le hl, out_val st ce out ⟨rfl, rfl⟩⟩
    · cases e
  · rename_i xs ys
    split at e
    · rename_i h
      obtain ⟨rfl, hn, hl⟩ := h
      cases e
      obtain ⟨p, vs, rfl, h2, r1⟩ := ha.2
      obtain ⟨q, us, rfl, h4, r2⟩ := hb.2
      refine op_catT pins s σ H _ _ v u Q I rx ry ⟨p, q, vs, us, rfl, rfl, ex_t ce.sub h2, ex_t ce.sub h4, fun z => hn ?_, by rw [← r1.len, ← r2.len]; exact lim_le hl, fun z => ?_, fun z p hp => out_tup st ce out (r1.app r2) hp⟩
      · have := r1.len
        rw [z] at this
        exact List.length_eq_zero_iff.mp this
      · have := r2.len
        rw [z] at this
        have e3 : ys = [] := List.length_eq_zero_iff.mp this
        subst e3
        rw [List.append_nil] at out
        exact out_val st ce out ⟨rfl, p, vs, rfl, h2, r1⟩
    · cases e
  · exact binL_ok I rx ry st ce ha pa hb pb e out
end
end Tw
set_option maxHeartbeats 2000000
/-! The tree walk, part 5: expressions. -/
namespace Tw
open PySem PySem.Spec PyProof.Rows L2 Evl
/-- what a plain operand expression's test is -/
def PlainT (X : Cx) (e : Expr) : Prop := ∀ whole, isTrue e X.env whole = (do let v ← whole; standAt e.pos; holding [v] (truthy v))
section
variable {X : Cx} {N : Nm} {W : WX}

theorem pe_slot {i : Nat} {x : Str} {pos : Pos} (hN : X.N[i]? = some x) (hv : Vis X.env.scope x) (hd : (x == ("__debug__" : Str)) = false) (hcd : (x == ("__classdict__" : Str)) = false) :
    PE X (.Name x pos) (tE X.K N W fun τ => match τ[i]? with
      | some (some _) => .ok (.slot i) τ
      | _ => .bad) := by
  refine (pe_var hN hv hd hcd).imp fun σ H Q => ?_
  rintro ⟨τ, G, L, st, ce, out⟩
  cases e : τ[i]? with
  | none => simp only [e] at out; exact out.elim
  | some oo =>
    cases oo with
    | none => simp only [e] at out; exact out.elim
    | some o =>
      simp only [e] at out
      obtain ⟨A, B, C, v, rfl, hv, _⟩ := st.at e
      exact ⟨v, hv, out v G [] _ H ⟨rfl, hv⟩ st ce Step.refl⟩
/-- a name's thing, set free -/
theorem pe_fv {i : Nat} {x : Str} {pos : Pos} (hN : X.N[i]? = some x) (hv : Vis X.env.scope x) (hd : (x == ("__debug__" : Str)) = false) (hcd : (x == ("__classdict__" : Str)) = false) :
    PE X (.Name x pos) (tE X.K N W fun τ => match τ[i]? with
      | some (some o) => .ok (.own (.val (frz o))) (τ.set i (some (.val (frz o))))
      | _ => .bad) := by
  refine (pe_own (pe_slot (N := N) (W := W) hN hv hd hcd)).imp fun σ H Q => ?_
  rintro ⟨τ, G, L, st, ce, out⟩
  refine ⟨τ, G, L, st, ce, ?_⟩
  unfold own bnd
  cases e : τ[i]? with
  | none => simp only [e] at out; exact out.elim
  | some oo =>
    cases oo with
    | none => simp only [e] at out; exact out.elim
    | some o =>
      simp only [e] at out ⊢
      exact out
/-- a name that is handed on and not used again -/
theorem pe_mov {i : Nat} {x : Str} {pos : Pos} (hN : X.N[i]? = some x) (hv : Vis X.env.scope x) (hd : (x == ("__debug__" : Str)) = false) (hcd : (x == ("__classdict__" : Str)) = false) :
    PE X (.Name x pos) (tE X.K N W fun τ => match τ[i]? with
      | some (some o) => .ok (.own o) (τ.set i none)
      | _ => .bad) := by
  refine (pe_var hN hv hd hcd).imp fun σ H Q => ?_
  rintro ⟨τ, G, L, st, ce, out⟩
  cases e : τ[i]? with
  | none => simp only [e] at out; exact out.elim
  | some oo =>
    cases oo with
    | none => simp only [e] at out; exact out.elim
    | some o =>
      simp only [e] at out
      obtain ⟨A, B, C, v, rfl, hv, ho, st2, _⟩ := st.at e
      have pm : (A ++ (B ++ C)).Perm (B ++ (A ++ C)) := by
        rw [← List.append_assoc, ← List.append_assoc]
        exact List.Perm.append_right _ List.perm_append_comm
      exact ⟨v, hv, out v G B (A ++ C) H ho st2 (ce.perm pm) (Step.refl.perm (List.Perm.refl _) pm)⟩
theorem pe_lit {e : Expr} {d : D} {v : V} (h : PE X e (tC v)) (hr : ∀ G, Rep X.K N G d v) : PE X e (tE X.K N W fun τ => .ok (.own (.val d)) τ) := by
  refine h.imp fun σ H Q => ?_
  rintro ⟨τ, G, L, st, ce, out⟩
  exact out v G [] L H ⟨rfl, hr G⟩ st ce Step.refl

/-- the state between two operands -/
def Mid (K : PySem.W.Frag) (N : Nm) (W : WX) (σ : L2.St) (Q : VK) (f : Rv → M Rv) (G0 : Hp) (x : V) (H : Hp) : Prop :=
  ∃ a τ G L, Ex G0 G ∧ OpR1 K N G σ a x [] ∧ StoR K N G τ σ L ∧ Cells G L H ∧ Out K N W (RvR K N) σ G L H Q (f a τ)
theorem split_op {m : M Rv} {f : Rv → M Rv} {σ : L2.St} {G : Hp} {L : Cl} {H : Hp} {τ : Sto} {Q : VK}
    (st : StoR X.K N G τ σ L) (ce : Cells G L H) (out : Out X.K N W (RvR X.K N) σ G L H Q (bnd (opd m) f τ)) : tD X.K N W (opd m) σ H (fun x H1 => Mid X.K N W σ Q f G x H1) := by
  obtain ⟨τ', G', L', st', ce', out'⟩ := split (rel1 := OpR1 X.K N) st ce out
  refine ⟨τ', G', L', st', ce', ?_⟩
  cases e : opd m τ' with
  | bad => rw [e] at out'; exact out'
  | ex x τ1 => rw [e] at out'; exact out'
  | ok a τ1 =>
    rw [e] at out'
    intro b G1 Lv L1 H1 hr st1 ce1 sp
    obtain ⟨a2, τ2, G2, Lv2, L2, eG, hr2, st2, ce2, o2⟩ := out' b G1 Lv L1 H1 hr st1 ce1 sp
    have e0 : Lv2 = [] := hr2.1
    subst e0
    exact ⟨a2, τ2, G2, L2, eG, hr2, st2, ce2, o2⟩
/-- two operands, then an operation on their values -/
theorem pe_two {a b e : Expr} {ma mb : M Rv} {f : Rv → Rv → M Rv} {g : Value → Value → Sem Value} (ha : PE X a (tE X.K N W ma)) (hb : PE X b (tE X.K N W mb))
    (hw : ∀ {Q : Value → Shared → Prop} {s : Shared}, wpAny (model X.prog X.w) X.A (eval a X.env) (fun v s₁ => wpAny (model X.prog X.w) X.A (eval b X.env) (fun u s₂ => wpAny (model X.prog X.w) X.A (g v u) Q X.xe s₂) X.xe s₁) X.xe s → wpAny (model X.prog X.w) X.A (eval e X.env) Q X.xe s)
    (hf : ∀ (pins : List (Addr × Obj)) (s : Shared) (σ : L2.St) (G : Hp) (L : Cl) (H : Hp) (τ : Sto) (Q : VK) (ra rb : Rv) (x y : V) (v u : Value), Inv X pins σ H s → RelV x v → RelV y u → StoR X.K N G τ σ L → Cells G L H → OpR1 X.K N G σ ra x [] → OpR1 X.K N G σ rb y [] →
      Out X.K N W (RvR X.K N) σ G L H Q (f ra rb τ) → wpAny (model X.prog X.w) X.A (g v u) (EP X pins σ Q) X.xe s) :
    PE X e (tE X.K N W (bnd (opd ma) fun x => bnd (opd mb) fun y => f x y)) := by
  refine ⟨fun pins s σ H Q I h => ?_⟩
  obtain ⟨τ, G, L, st, ce, out⟩ := h
  have h1 := split_op st ce out
  refine hw (thn ((pe_opd ha).run pins s σ H _ I h1) fun v s1 ⟨x, H1, I1, r1, q1⟩ => ?_)
  obtain ⟨ra, τ1, G1, L1, e1, hr1, st1, ce1, o1⟩ := q1
  have h2 := split_op st1 ce1 o1
  refine thn ((pe_opd hb).run pins s1 σ H1 _ I1 h2) fun u s2 ⟨y, H2, I2, r2, q2⟩ => ?_
  obtain ⟨rb, τ2, G2, L2, e2, hr2, st2, ce2, o2⟩ := q2
  exact hf pins s2 σ G2 L2 H2 τ2 Q ra rb x y v u I2 r1 r2 st2 ce2 (hr1.mono e2) hr2 o2
/-- one operand -/
theorem pe_one' {a e : Expr} {ma : M Rv} {f : Rv → M Rv} {g : Value → Sem Value} (ha : PE X a (tE X.K N W ma))
    (hw : ∀ {Q : Value → Shared → Prop} {s : Shared}, wpAny (model X.prog X.w) X.A (eval a X.env) (fun v s₁ => wpAny (model X.prog X.w) X.A (g v) Q X.xe s₁) X.xe s → wpAny (model X.prog X.w) X.A (eval e X.env) Q X.xe s)
    (hf : ∀ (pins : List (Addr × Obj)) (s : Shared) (σ : L2.St) (G : Hp) (L : Cl) (H : Hp) (τ : Sto) (Q : VK) (ra : Rv) (x : V) (v : Value), Inv X pins σ H s → RelV x v → StoR X.K N G τ σ L → Cells G L H → OpR1 X.K N G σ ra x [] →
      Out X.K N W (RvR X.K N) σ G L H Q (f ra τ) → wpAny (model X.prog X.w) X.A (g v) (EP X pins σ Q) X.xe s) :
    PE X e (tE X.K N W (bnd (opd ma) f)) := by
  refine ⟨fun pins s σ H Q I h => ?_⟩
  obtain ⟨τ, G, L, st, ce, out⟩ := h
  have h1 := split_op st ce out
  refine hw (thn ((pe_opd ha).run pins s σ H _ I h1) fun v s1 ⟨x, H1, I1, r1, q1⟩ => ?_)
  obtain ⟨ra, τ1, G1, L1, e1, hr1, st1, ce1, o1⟩ := q1
  exact hf pins s1 σ G1 L1 H1 τ1 Q ra x v I1 r1 st1 ce1 hr1 o1
end

/-! ### what is known of the program where the code stands -/
/-- an operator of an own class -/
def BinOk (X : Cx) (N : Nm) (T : Tb) (cl : CallT) (W : WX) : Prop :=
  ∀ (op : Op) (pins : List (Addr × Obj)) (s : Shared) (σ : L2.St) (G : Hp) (L : Cl) (H : Hp) (τ : Sto) (Q : VK) (ra rb : Rv) (x y : V) (v u : Value) (oa ob : O), (clsOf oa).isSome = true ∨ (clsOf ob).isSome = true → Inv X pins σ H s → RelV x v → RelV y u →
    StoR X.K N G τ σ L → Cells G L H → OpR1 X.K N G σ ra x [] → OpR1 X.K N G σ rb y [] → res τ ra = some oa → res τ rb = some ob → Out X.K N W (RvR X.K N) σ G L H Q (doBin T cl op ra rb τ) → wpAny (model X.prog X.w) X.A (binaryOp (pyOp op) v u) (EP X pins σ Q) X.xe s
def unPy : Un → Value → Sem Value
  | .neg, v => unaryOp .USub v
  | .abs, v => call (.builtin "abs") [v]
  | .bool, v => call (.type "bool") [v]
  | .str, v => call (.type "str") [v]
  | .len, v => call (.builtin "len") [v]
/-- an operation of one operand, of an own class -/
def UnaOk (X : Cx) (N : Nm) (T : Tb) (cl : CallT) (W : WX) : Prop :=
  ∀ (op : Un) (c : Nat) (pins : List (Addr × Obj)) (s : Shared) (σ : L2.St) (G : Hp) (L : Cl) (H : Hp) (τ : Sto) (Q : VK) (r : Rv) (x : V) (v : Value) (o : O), clsOf o = some c → Inv X pins σ H s → RelV x v →
    StoR X.K N G τ σ L → Cells G L H → OpR1 X.K N G σ r x [] → res τ r = some o → Out X.K N W (RvR X.K N) σ G L H Q (doUna T cl op c r τ) → wpAny (model X.prog X.w) X.A (unPy op v) (EP X pins σ Q) X.xe s
structure Facts (X : Cx) (N : Nm) (T : Tb) (cl : CallT) (W : WX) : Prop where
  nd : X.N.Nodup
  units : X.A.units + 64 < cLine
  tk : Takes X W
  po : PassesOwn (model X.prog X.w) X.A X.env X.xe
  bin : BinOk X N T cl W
  una : UnaOk X N T cl W

section
variable {X : Cx} {N : Nm} {T : Tb} {cl : CallT} {W : WX}
theorem bin_run (F : Facts X N T cl W) {op : Op} {pins : List (Addr × Obj)} {s : Shared} {σ : L2.St} {G : Hp} {L : Cl} {H : Hp} {τ : Sto} {Q : VK} {ra rb : Rv} {x y : V} {v u : Value} (I : Inv X pins σ H s) (rx : RelV x v) (ry : RelV y u) (st : StoR X.K N G τ σ L) (ce : Cells G L H)
    (h1 : OpR1 X.K N G σ ra x []) (h2 : OpR1 X.K N G σ rb y []) (out : Out X.K N W (RvR X.K N) σ G L H Q (doBin T cl op ra rb τ)) : wpAny (model X.prog X.w) X.A (binaryOp (pyOp op) v u) (EP X pins σ Q) X.xe s := by
  have out0 := out
  unfold doBin at out
  cases e1 : res τ ra with
  | none => simp only [e1] at out; exact out.elim
  | some oa =>
    cases e2 : res τ rb with
    | none => simp only [e1, e2] at out; exact out.elim
    | some ob =>
      simp only [e1, e2] at out
      cases e3 : clsOf oa with
      | some c => exact F.bin op pins s σ G L H τ Q ra rb x y v u oa ob (.inl (by rw [e3]; rfl)) I rx ry st ce h1 h2 e1 e2 out0
      | none =>
        cases e5 : clsOf ob with
        | some c => exact F.bin op pins s σ G L H τ Q ra rb x y v u oa ob (.inr (by rw [e5]; rfl)) I rx ry st ce h1 h2 e1 e2 out0
        | none =>
          simp only [e3, e5] at out
          cases e4 : binF op oa ob with
          | none => simp only [e4] at out; exact out.elim
          | some z =>
            simp only [e4] at out
            obtain ⟨La, Ra, ha, pa⟩ := res_own st h1 e1
            obtain ⟨Lb, Rb, hb, pb⟩ := res_own st h2 e2
            exact binF_ok I rx ry st ce ha pa hb pb e4 out
theorem pe_bin {op : Op} {a b : Expr} {ma mb : M Rv} {pos : Pos} (F : Facts X N T cl W) (ha : PE X a (tE X.K N W ma)) (hb : PE X b (tE X.K N W mb)) :
    PE X (.BinOp a (pyOp op) b pos) (tE X.K N W (bnd (opd ma) fun x => bnd (opd mb) fun y => doBin T cl op x y)) :=
  pe_two ha hb (g := binaryOp (pyOp op)) wpAny_BinOp fun pins s σ G L H τ Q ra rb x y v u I rx ry st ce h1 h2 out => bin_run F I rx ry st ce h1 h2 out
theorem pe_neg {a : Expr} {ma : M Rv} {pos : Pos} (F : Facts X N T cl W) (ha : PE X a (tE X.K N W ma)) : PE X (.UnaryOp .USub a pos) (tE X.K N W (bnd (opd ma) fun x => doNeg T cl x)) := by
  refine pe_one' ha (g := unaryOp .USub) UnaryOp_ fun pins s σ G L H τ Q ra x v I rx st ce h1 out0 => ?_
  have out := out0
  unfold doNeg at out
  cases e0 : res τ ra with
  | none => simp only [e0] at out; exact out.elim
  | some o0 =>
    simp only [e0] at out
    cases e9 : clsOf o0 with
    | some c =>
      simp only [e9] at out
      exact F.una .neg c pins s σ G L H τ Q ra x v o0 e9 I rx st ce h1 e0 out
    | none =>
      simp only [e9] at out
      unfold negF at out
      unfold un at out
      simp only [e0] at out
      split at out
      · rename_i z e2
        split at e2
        · rename_i i
          cases e2
          obtain ⟨La, Ra, ho, pa⟩ := res_own st h1 e0
          have ex := own_int ho
          subst ex
          exact un_neg pins s σ H _ v Q I rx ⟨i, rfl, out_val st ce out ⟨rfl, rfl⟩⟩
        · cases e2
      · exact out.elim
/-- an expression whose test is its value's truth -/
theorem pt_tru {e : Expr} {m : M Rv} (h : PE X e (tE X.K N W m)) (hp : PlainT X e) : PT X e (tB X.K N W (tru m)) := by
  refine (pt_truth h hp).imp fun σ H Q => ?_
  rintro ⟨τ, G, L, st, ce, out⟩
  obtain ⟨τ', G', L', st', ce', out'⟩ := split (rel1 := RvR X.K N) st ce out
  refine ⟨τ', G', L', st', ce', ?_⟩
  cases e : m τ' with
  | bad => rw [e] at out'; exact out'
  | ex x τ1 => rw [e] at out'; exact out'
  | ok a τ1 =>
    rw [e] at out'
    intro b G1 Lv L1 H1 hr st1 ce1 sp
    obtain ⟨r, τ2, G2, Lv2, L2, eG, hr2, st2, ce2, o2⟩ := out' b G1 Lv L1 H1 hr st1 ce1 sp
    cases e1 : res τ2 r with
    | none => simp only [e1] at o2; exact o2.elim
    | some o =>
      simp only [e1] at o2
      cases e2 : truF o with
      | none => simp only [e2] at o2; exact o2.elim
      | some k =>
        simp only [e2] at o2
        have fin : Q k H1 := o2 k G2 [] L2 H1 ⟨rfl, rfl⟩ st2 ce2.right (Step.refl.sub fun p hp => List.mem_append_right _ hp)
        -- the thing itself
        obtain ⟨Lr, R, ho, pm⟩ : ∃ Lr R, Own X.K N G2 o b Lr ∧ (Lv2 ++ L2).Perm (Lr ++ R) := by
          cases r with
          | own o' =>
            cases e1
            exact ⟨Lv2, L2, hr2, List.Perm.refl _⟩
          | slot i =>
            obtain ⟨rfl, hv⟩ := hr2
            exact res_own st2 ⟨rfl, hv⟩ e1
        have lst : ∀ {p vs ds}, b = .ref p → (SqL X.K H1 p vs ∨ SqT X.K H1 p vs) → RepL X.K N G2 ds vs → k = !ds.isEmpty → TruV X.K b H1 k := by
          intro p vs ds eb h1 h2 h3
          subst eb
          have e4 : vs.isEmpty = ds.isEmpty := by
            have := h2.len
            cases vs <;> cases ds <;> simp_all
          rcases h1 with h1 | h1
          · exact .inl ⟨vs, h1, by rw [e4]; exact h3⟩
          · exact .inr (.inl ⟨vs, h1, by rw [e4]; exact h3⟩)
        refine ⟨k, ?_, fin⟩
        unfold truF at e2
        split at e2
        · have eb : b = .non := ho.2
          subst eb
          exact (Option.some.inj e2).symm
        · have eb := ho.2
          simp only [Rep] at eb
          subst eb
          exact (Option.some.inj e2).symm
        · have eb := ho.2
          simp only [Rep] at eb
          subst eb
          exact (Option.some.inj e2).symm
        · have eb := ho.2
          simp only [Rep] at eb
          subst eb
          split at e2
          · rename_i hl
            exact ⟨lim_le hl, (Option.some.inj e2).symm⟩
          · cases e2
        · obtain ⟨p, vs, rfl, h1, h2⟩ := ho.2
          exact lst rfl (.inl (sq_of (ce2.sub _ _ h1))) h2 (Option.some.inj e2).symm
        · obtain ⟨p, vs, rfl, h1, h2⟩ := ho.2
          exact lst rfl (.inr (ex_t ce2.sub h1)) h2 (Option.some.inj e2).symm
        · rename_i xs
          obtain ⟨p, vs, L3, rfl, rfl, h3⟩ := ho
          have h1 : H1 p = some (.lst vs) := (ce2.perm pm).at_ p _ List.mem_cons_self
          refine .inl ⟨vs, sq_of h1, ?_⟩
          have e4 : vs.isEmpty = xs.isEmpty := by
            have := h3.len
            cases vs <;> cases xs <;> simp_all
          rw [e4]
          exact (Option.some.inj e2).symm
        · cases e2
/-- a test that is a bool -/
theorem tB_isB {m : M Rv} {σ : L2.St} {H : Hp} {Q : Bool → Hp → Prop} (h : tB X.K N W (isB m) σ H Q) : tE X.K N W m σ H (fun x H1 => ∃ c, x = .bl c ∧ Q c H1) := by
  obtain ⟨τ, G, L, st, ce, out⟩ := h
  obtain ⟨τ', G', L', st', ce', out'⟩ := split (rel1 := RvR X.K N) st ce out
  refine ⟨τ', G', L', st', ce', ?_⟩
  cases e : m τ' with
  | bad => rw [e] at out'; exact out'
  | ex x τ1 => rw [e] at out'; exact out'
  | ok a τ1 =>
    rw [e] at out'
    intro b G1 Lv L1 H1 hr st1 ce1 sp
    obtain ⟨r, τ2, G2, Lv2, L2, eG, hr2, st2, ce2, o2⟩ := out' b G1 Lv L1 H1 hr st1 ce1 sp
    split at o2
    · rename_i c e1
      have fin : Q c H1 := o2 c G2 [] L2 H1 ⟨rfl, rfl⟩ st2 ce2.right (Step.refl.sub fun p hp => List.mem_append_right _ hp)
      refine ⟨c, ?_, fin⟩
      cases r with
      | own o' =>
        cases e1
        exact hr2.2
      | slot i =>
        obtain ⟨rfl, hv⟩ := hr2
        obtain ⟨_, _, ho, _⟩ := res_own (x := b) st2 ⟨rfl, hv⟩ e1
        exact ho.2
    · exact o2.elim
end
end Tw
set_option maxHeartbeats 2000000
/-! The tree walk, part 6: comparisons, tests. -/
namespace Tw
open PySem PySem.Spec PyProof.Rows L2 Evl
def pyCm : Cm → CmpOp
  | .eq => .Eq | .ne => .NotEq | .lt => .Lt | .le => .LtE | .gt => .Gt | .ge => .GtE
  | .isN => .Is | .notN => .IsNot | .isB => .Is | .notB => .IsNot | .inn => .In | .nin => .NotIn
theorem sh_list {ds : List PyData} (h : (PyData.list ds).canLay0 = true) : PyData.canLayAll0 ds = true := by simpa [PyData.canLay0] using h
theorem sh_tup {ds : List PyData} (h : (PyData.tuple ds).canLay0 = true) : PyData.canLayAll0 ds = true := by simpa [PyData.canLay0] using h
theorem sh_cons {d : PyData} {ds : List PyData} (h : PyData.canLayAll0 (d :: ds) = true) : d.canLay0 = true ∧ PyData.canLayAll0 ds = true := by simpa [PyData.canLayAll0] using h
section
variable {K : PySem.W.Frag} {N : Nm}
mutual
theorem Rep.dp {G H : Hp} (e : Ex G H) : ∀ {d : D} {v : V}, Rep K N G d v → (toP d).canLay0 = true → Dp K H v (toP d)
  | .non, v, h, _ => by
    have : v = .non := h
    subst this; exact .non
  | .bl b, v, h, _ => by
    have : v = .bl b := h
    subst this; exact .bl b
  | .int i, v, h, _ => by
    have : v = .int i := h
    subst this; exact .int i
  | .str x, v, h, _ => by
    have : v = .str x := h
    subst this; exact .str x
  | .tup ds, v, h, c => by
    obtain ⟨a, vs, rfl, h2, h3⟩ := h
    exact .tup (ex_t e h2) (h3.dp e (sh_tup c))
  | .lst ds, v, h, c => by
    obtain ⟨a, vs, rfl, h2, h3⟩ := h
    exact .lst (sq_of (e _ _ h2)) (h3.dp e (sh_list c))
  | .kls ds, v, h, c => by
    obtain ⟨a, vs, rfl, h2, h3⟩ := h
    exact .lst (ex_l e h2) (h3.dp e (sh_list c))
  | .ins _ _ _, _, _, c => by simp [toP, PyData.canLay0] at c
  | .exc _ _ _, _, _, c => by simp [toP, PyData.canLay0] at c
theorem RepL.dp {G H : Hp} (e : Ex G H) : ∀ {ds : List D} {vs : List V}, RepL K N G ds vs → PyData.canLayAll0 (toPL ds) = true → DpAll K H vs (toPL ds)
  | [], vs, h, _ => by
    have : vs = [] := h
    subst this; exact .nil
  | d :: ds, vs, h, c => by
    obtain ⟨v, r, rfl, h2, h3⟩ := h
    obtain ⟨c1, c2⟩ := sh_cons c
    exact .cons (h2.dp e c1) (h3.dp e c2)
end
end
section
variable {X : Cx} {N : Nm} {W : WX} {T : Tb} {cl : CallT} {σ : L2.St} {G : Hp} {L : Cl} {H : Hp} {τ : Sto} {pins : List (Addr × Obj)} {s : Shared} {Q : VK}
theorem own_rep {o : O} {x : V} {Lr R : Cl} (ce : Cells G L H) (ho : Own X.K N G o x Lr) (pm : L.Perm (Lr ++ R)) : ∃ G', Ex G' H ∧ Rep X.K N G' (frz o) x := by
  have c := (ce.perm pm).left
  exact ⟨addC G Lr, c.ex, ho.frz c.nd c.out⟩
theorem eqD_ok {a b : O} {x y : V} {v u : Value} {La Lb Ra Rb : Cl} {k : Bool} (hu : X.A.units + 64 < cLine) (I : Inv X pins σ H s) (rx : RelV x v) (ry : RelV y u) (ce : Cells G L H) (ha : Own X.K N G a x La) (pa : L.Perm (La ++ Ra)) (hb : Own X.K N G b y Lb) (pb : L.Perm (Lb ++ Rb))
    (e : eqD (frz a) (frz b) = some k) : (Q (.bl k) H → wpAny (model X.prog X.w) X.A (compareOp .Eq v u) (EP X pins σ Q) X.xe s) ∧ (Q (.bl (!k)) H → wpAny (model X.prog X.w) X.A (compareOp .NotEq v u) (EP X pins σ Q) X.xe s) := by
  obtain ⟨G1, e1, r1⟩ := own_rep ce ha pa
  obtain ⟨G2, e2, r2⟩ := own_rep ce hb pb
  revert e r1 r2
  generalize frz a = d1
  generalize frz b = d2
  intro e r1 r2
  have sc : ∀ {x y : V} {v u : Value}, RelV x v → RelV y u → scal x y = true → decide (x = y) = k → (Q (.bl k) H → wpAny (model X.prog X.w) X.A (compareOp .Eq v u) (EP X pins σ Q) X.xe s) ∧ (Q (.bl (!k)) H → wpAny (model X.prog X.w) X.A (compareOp .NotEq v u) (EP X pins σ Q) X.xe s) := by
    intro x y v u rx ry h1 h2
    subst h2
    exact ⟨fun q => op_eq pins s σ H x y v u Q I rx ry ⟨h1, q⟩, fun q => op_ne pins s σ H x y v u Q I rx ry ⟨h1, q⟩⟩
  unfold eqD at e
  split at e
  · have ex : x = _ := r1
    have ey : y = _ := r2
    subst ex ey
    refine sc rx ry rfl ?_
    rw [← Option.some.inj e]
    simp
  · have ex : x = _ := r1
    have ey : y = _ := r2
    subst ex ey
    refine sc rx ry rfl ?_
    rw [← Option.some.inj e]
    simp
  · have ex : x = _ := r1
    have ey : y = _ := r2
    subst ex ey
    refine sc rx ry rfl ?_
    rw [← Option.some.inj e]
    simp
  · split at e
    · rename_i h
      cases e
      have p1 := r1.dp e1 (SeqAt.canLay_of_shaped h.1)
      have p2 := r2.dp e2 (SeqAt.canLay_of_shaped h.2)
      exact ⟨fun q => op_eqD hu pins s σ H x y v u Q I rx ry ⟨_, _, p1, p2, h.1, h.2, q⟩, fun q => op_neD hu pins s σ H x y v u Q I rx ry ⟨_, _, p1, p2, h.1, h.2, q⟩⟩
    · cases e
theorem isNon_iff {a : O} {x : V} {La : Cl} (ha : Own X.K N G a x La) : isNon a = decide (x = .non) := by
  cases a with
  | val d =>
    obtain ⟨_, h⟩ := ha
    cases d with
    | non =>
      have : x = .non := h
      subst this; rfl
    | bl b =>
      have : x = .bl b := h
      subst this; rfl
    | int b =>
      have : x = .int b := h
      subst this; rfl
    | str b =>
      have : x = .str b := h
      subst this; rfl
    | tup _ => obtain ⟨a, vs, rfl, _⟩ := h; rfl
    | lst _ => obtain ⟨a, vs, rfl, _⟩ := h; rfl
    | kls _ => obtain ⟨a, vs, rfl, _⟩ := h; rfl
    | ins _ _ _ => obtain ⟨a, dx, vs, rfl, _⟩ := h; rfl
    | exc _ _ _ => obtain ⟨a, rfl, _⟩ := h; rfl
    | typ c =>
      have : x = .ref (N.cad c) := h
      subst this; rfl
    | dct _ _ => obtain ⟨a, vs, rfl, _⟩ := h; rfl
  | lst _ => obtain ⟨a, vs, L1, rfl, _⟩ := ha; rfl
  | ins _ _ _ => obtain ⟨a, dx, vs, L1, rfl, _⟩ := ha; rfl
  | dct _ _ => obtain ⟨a, vs, rfl, _⟩ := ha; rfl
theorem isBl_iff {a : O} {x : V} {La : Cl} {k : Bool} (ha : Own X.K N G a x La) : isBl a k = decide (x = .bl k) := by
  cases a with
  | val d =>
    obtain ⟨_, h⟩ := ha
    cases d with
    | non =>
      have : x = .non := h
      subst this; rfl
    | bl b =>
      have : x = .bl b := h
      subst this
      show (b == k) = _
      cases b <;> cases k <;> rfl
    | int b =>
      have : x = .int b := h
      subst this; rfl
    | str b =>
      have : x = .str b := h
      subst this; rfl
    | tup _ => obtain ⟨a, vs, rfl, _⟩ := h; rfl
    | lst _ => obtain ⟨a, vs, rfl, _⟩ := h; rfl
    | kls _ => obtain ⟨a, vs, rfl, _⟩ := h; rfl
    | ins _ _ _ => obtain ⟨a, dx, vs, rfl, _⟩ := h; rfl
    | exc _ _ _ => obtain ⟨a, rfl, _⟩ := h; rfl
    | typ c =>
      have : x = .ref (N.cad c) := h
      subst this; rfl
    | dct _ _ => obtain ⟨a, vs, rfl, _⟩ := h; rfl
  | lst _ => obtain ⟨a, vs, L1, rfl, _⟩ := ha; rfl
  | ins _ _ _ => obtain ⟨a, dx, vs, L1, rfl, _⟩ := ha; rfl
  | dct _ _ => obtain ⟨a, vs, rfl, _⟩ := ha; rfl
theorem blO_val {b : O} {y : V} {Lb : Cl} {k : Bool} (hb : Own X.K N G b y Lb) (e : blO b = some k) : y = .bl k := by
  unfold blO at e
  split at e
  · cases e; exact hb.2
  · cases e
theorem rel_isB {M : Model} {A : Around} {E : Value → Shared → Prop} {s : Shared} {Q : Value → Shared → Prop} {x : V} {v : Value} {k : Bool} (rx : RelV x v) (h : Q (.bool (decide (x = .bl k))) s) : wpAny M A (compareOp .Is v (.bool k)) Q E s := by
  cases x with
  | bl b =>
    cases (show v = Value.bool b from rx)
    cases b <;> cases k <;> exact wpAny_pure h
  | non => cases (show v = Value.none from rx); exact wpAny_pure h
  | int i => obtain ⟨t, rfl⟩ := rx; exact wpAny_pure h
  | str i => obtain ⟨t, rfl⟩ := rx; exact wpAny_pure h
  | byt i => obtain ⟨t, rfl⟩ := rx; exact wpAny_pure h
  | flt i => obtain ⟨t, rfl⟩ := rx; exact wpAny_pure h
  | ref a => cases (show v = Value.ref a from rx); exact wpAny_pure h
  | ty n => cases (show v = Value.type n from rx); exact wpAny_pure h
theorem rel_notB {M : Model} {A : Around} {E : Value → Shared → Prop} {s : Shared} {Q : Value → Shared → Prop} {x : V} {v : Value} {k : Bool} (rx : RelV x v) (h : Q (.bool (!decide (x = .bl k))) s) : wpAny M A (compareOp .IsNot v (.bool k)) Q E s := by
  cases x with
  | bl b =>
    cases (show v = Value.bool b from rx)
    cases b <;> cases k <;> exact wpAny_pure h
  | non => cases (show v = Value.none from rx); exact wpAny_pure h
  | int i => obtain ⟨t, rfl⟩ := rx; exact wpAny_pure h
  | str i => obtain ⟨t, rfl⟩ := rx; exact wpAny_pure h
  | byt i => obtain ⟨t, rfl⟩ := rx; exact wpAny_pure h
  | flt i => obtain ⟨t, rfl⟩ := rx; exact wpAny_pure h
  | ref a => cases (show v = Value.ref a from rx); exact wpAny_pure h
  | ty n => cases (show v = Value.type n from rx); exact wpAny_pure h
theorem op_isBv : OpR X (compareOp .Is) (fun x y H Q => ∃ k, y = .bl k ∧ Q (.bl (decide (x = .bl k))) H) := by
  intro pins s σ H x y v u Q I rx ry h
  obtain ⟨k, rfl, q⟩ := h
  cases (show u = Value.bool k from ry)
  exact rel_isB rx ⟨.bl _, H, I, rfl, q⟩
theorem op_notBv : OpR X (compareOp .IsNot) (fun x y H Q => ∃ k, y = .bl k ∧ Q (.bl (!decide (x = .bl k))) H) := by
  intro pins s σ H x y v u Q I rx ry h
  obtain ⟨k, rfl, q⟩ := h
  cases (show u = Value.bool k from ry)
  exact rel_notB rx ⟨.bl _, H, I, rfl, q⟩
theorem cmpF_ok {op : Cm} {a b : O} {x y : V} {v u : Value} {La Lb Ra Rb : Cl} {k : Bool} (hu : X.A.units + 64 < cLine) (I : Inv X pins σ H s) (rx : RelV x v) (ry : RelV y u) (ce : Cells G L H) (ha : Own X.K N G a x La) (pa : L.Perm (La ++ Ra)) (hb : Own X.K N G b y Lb) (pb : L.Perm (Lb ++ Rb))
    (e : cmpF op a b = some k) (q : Q (.bl k) H) : wpAny (model X.prog X.w) X.A (compareOp (pyCm op) v u) (EP X pins σ Q) X.xe s := by
  have ord : ∀ {op : Cm}, op = .lt ∨ op = .le ∨ op = .gt ∨ op = .ge → cmpII op a b = some k → wpAny (model X.prog X.w) X.A (compareOp (pyCm op) v u) (EP X pins σ Q) X.xe s := by
    intro op ho e
    unfold cmpII at e
    split at e
    · have ex := own_int ha
      have ey := own_int hb
      subst ex ey
      rcases ho with rfl | rfl | rfl | rfl
      · cases e; exact op_lt pins s σ H _ _ v u Q I rx ry ⟨_, _, rfl, rfl, q⟩
      · cases e; exact op_le pins s σ H _ _ v u Q I rx ry ⟨_, _, rfl, rfl, q⟩
      · cases e; exact op_gt pins s σ H _ _ v u Q I rx ry ⟨_, _, rfl, rfl, q⟩
      · cases e; exact op_ge pins s σ H _ _ v u Q I rx ry ⟨_, _, rfl, rfl, q⟩
    · cases e
  have inn : ∀ {k : Bool}, inF a b = some k → ∃ c z, x = .str ⟨#[c]⟩ ∧ y = .str z ∧ k = decide (c ∈ z.cps.toList) := by
    intro k e
    unfold inF at e
    split at e
    · rename_i x' z' e0
      split at e
      · rename_i c hc
        cases e
        have ex : x = .str x' := ha.2
        have ey : y = .str z' := hb.2
        refine ⟨c, z', ?_, ey, rfl⟩
        rw [ex]
        congr 1
        obtain ⟨cps⟩ := x'
        obtain ⟨l⟩ := cps
        simp only at hc
        rw [hc]
      · cases e
    · cases e
  cases op with
  | eq => exact (eqD_ok hu I rx ry ce ha pa hb pb e).1 q
  | ne =>
    have e' : (eqD (frz a) (frz b)).map (!·) = some k := e
    cases e1 : eqD (frz a) (frz b) with
    | none => rw [e1] at e'; cases e'
    | some k' =>
      rw [e1] at e'
      cases e'
      exact (eqD_ok hu I rx ry ce ha pa hb pb e1).2 q
  | lt => exact ord (.inl rfl) e
  | le => exact ord (.inr (.inl rfl)) e
  | gt => exact ord (.inr (.inr (.inl rfl))) e
  | ge => exact ord (.inr (.inr (.inr rfl))) e
  | isN =>
    have e' : (if isNon b then some (isNon a) else none) = some k := e
    rw [isNon_iff ha, isNon_iff hb] at e'
    split at e'
    · rename_i h
      cases e'
      exact op_isN pins s σ H x y v u Q I rx ry ⟨of_decide_eq_true h, q⟩
    · cases e'
  | notN =>
    have e' : (if isNon b then some (!isNon a) else none) = some k := e
    rw [isNon_iff ha, isNon_iff hb] at e'
    split at e'
    · rename_i h
      cases e'
      exact op_notN pins s σ H x y v u Q I rx ry ⟨of_decide_eq_true h, q⟩
    · cases e'
  | isB =>
    have e' : (blO b).map (isBl a) = some k := e
    obtain ⟨j, e1, e2⟩ := Option.map_eq_some_iff.mp e'
    have ey := blO_val hb e1
    subst ey
    rw [isBl_iff ha] at e2
    subst e2
    exact op_isBv pins s σ H x _ v u Q I rx ry ⟨j, rfl, q⟩
  | notB =>
    have e' : (blO b).map (!isBl a ·) = some k := e
    obtain ⟨j, e1, e2⟩ := Option.map_eq_some_iff.mp e'
    have ey := blO_val hb e1
    subst ey
    rw [isBl_iff ha] at e2
    subst e2
    exact op_notBv pins s σ H x _ v u Q I rx ry ⟨j, rfl, q⟩
  | inn =>
    obtain ⟨c, z, rfl, rfl, rfl⟩ := inn (show inF a b = some k from e)
    exact op_in_sign pins s σ H _ _ v u Q I rx ry ⟨c, z, rfl, rfl, q⟩
  | nin =>
    obtain ⟨j, e1, rfl⟩ := Option.map_eq_some_iff.mp (show (inF a b).map (!·) = some k from e)
    obtain ⟨c, z, rfl, rfl, rfl⟩ := inn e1
    exact op_notIn_sign pins s σ H _ _ v u Q I rx ry ⟨c, z, rfl, rfl, q⟩
end

/-- == of an own class -/
def DeqOk (X : Cx) (N : Nm) (T : Tb) (cl : CallT) (W : WX) : Prop :=
  ∀ (op : Cm) (pins : List (Addr × Obj)) (s : Shared) (σ : L2.St) (G : Hp) (L : Cl) (H : Hp) (τ : Sto) (Q : VK) (ra rb : Rv) (x y : V) (v u : Value) (oa ob : O), (clsOf oa).isSome = true ∨ (clsOf ob).isSome = true → Inv X pins σ H s → RelV x v → RelV y u →
    StoR X.K N G τ σ L → Cells G L H → OpR1 X.K N G σ ra x [] → OpR1 X.K N G σ rb y [] → res τ ra = some oa → res τ rb = some ob → Out X.K N W (RvR X.K N) σ G L H Q (doCmp T cl op ra rb τ) → wpAny (model X.prog X.w) X.A (compareOp (pyCm op) v u) (EP X pins σ Q) X.xe s
section
variable {X : Cx} {N : Nm} {T : Tb} {cl : CallT} {W : WX}
theorem cmp_run (F : Facts X N T cl W) (E : DeqOk X N T cl W) {op : Cm} {σ : L2.St} {G : Hp} {L : Cl} {H : Hp} {τ : Sto} {pins : List (Addr × Obj)} {s : Shared} {Q : VK} {ra rb : Rv} {x y : V} {v u : Value} (I : Inv X pins σ H s) (rx : RelV x v) (ry : RelV y u)
    (st : StoR X.K N G τ σ L) (ce : Cells G L H) (h1 : OpR1 X.K N G σ ra x []) (h2 : OpR1 X.K N G σ rb y []) (out : Out X.K N W (RvR X.K N) σ G L H Q (doCmp T cl op ra rb τ)) : wpAny (model X.prog X.w) X.A (compareOp (pyCm op) v u) (EP X pins σ Q) X.xe s := by
  have out0 := out
  unfold doCmp at out
  cases e1 : res τ ra with
  | none => simp only [e1] at out; exact out.elim
  | some oa =>
    cases e2 : res τ rb with
    | none => simp only [e1, e2] at out; exact out.elim
    | some ob =>
      simp only [e1, e2] at out
      cases e3 : clsOf oa with
      | some c => exact E op pins s σ G L H τ Q ra rb x y v u oa ob (.inl (by rw [e3]; rfl)) I rx ry st ce h1 h2 e1 e2 out0
      | none =>
        cases e4 : clsOf ob with
        | some c => exact E op pins s σ G L H τ Q ra rb x y v u oa ob (.inr (by rw [e4]; rfl)) I rx ry st ce h1 h2 e1 e2 out0
        | none =>
          simp only [e3, e4] at out
          cases e5 : cmpF op oa ob with
          | none => simp only [e5] at out; exact out.elim
          | some k =>
            simp only [e5] at out
            obtain ⟨La, Ra, ha, pa⟩ := res_own st h1 e1
            obtain ⟨Lb, Rb, hb, pb⟩ := res_own st h2 e2
            exact cmpF_ok F.units I rx ry ce ha pa hb pb e5 (out_val st ce out ⟨rfl, rfl⟩)
theorem pe_cmp' {op : Cm} {a b : Expr} {ma mb : M Rv} {pos : Pos} (F : Facts X N T cl W) (E : DeqOk X N T cl W) (ha : PE X a (tE X.K N W ma)) (hb : PE X b (tE X.K N W mb)) (hm : behindInMarks (pyCm op) b = false) :
    PE X (.Compare a [pyCm op] [b] pos) (tE X.K N W (bnd (opd ma) fun x => bnd (opd mb) fun y => doCmp T cl op x y)) :=
  pe_two ha hb (g := compareOp (pyCm op)) (fun h => wpAny_Compare1 h hm) fun pins s σ G L H τ Q ra rb x y v u I rx ry st ce h1 h2 out => cmp_run F E I rx ry st ce h1 h2 out
theorem pt_cmp' {op : Cm} {a b : Expr} {ma mb : M Rv} {pos : Pos} (F : Facts X N T cl W) (E : DeqOk X N T cl W) (ha : PE X a (tE X.K N W ma)) (hb : PE X b (tE X.K N W mb)) (hm : behindInMarks (pyCm op) b = false) :
    PT X (.Compare a [pyCm op] [b] pos) (tB X.K N W (isB (bnd (opd ma) fun x => bnd (opd mb) fun y => doCmp T cl op x y))) := by
  refine ⟨fun pins s σ H Q I h => ?_⟩
  have h' := tB_isB h
  obtain ⟨τ, G, L, st, ce, out⟩ := h'
  have h1 := split_op st ce out
  refine wpAny_isTrue_Compare1 (thn ((pe_opd ha).run pins s σ H _ I h1) fun v s1 ⟨x, H1, I1, r1, q1⟩ => ?_) hm
  obtain ⟨ra, τ1, G1, L1, e1, hr1, st1, ce1, o1⟩ := q1
  have h2 := split_op st1 ce1 o1
  refine thn ((pe_opd hb).run pins s1 σ H1 _ I1 h2) fun u s2 ⟨y, H2, I2, r2, q2⟩ => ?_
  obtain ⟨rb, τ2, G2, L2, e2, hr2, st2, ce2, o2⟩ := q2
  refine thn (cmp_run F E I2 r1 r2 st2 ce2 (hr1.mono e2) hr2 o2) fun c s3 ⟨z, H3, I3, r3, k, e, q3⟩ => ?_
  subst e
  cases r3
  exact wpAny_truthy_bool ⟨H3, I3, q3⟩

/-- a bool behind an operation, then more: how the state goes on -/
theorem split_b' {α : Type} {m : M Rv} {f : Bool → M α} {β : Type} {rel : Hp → L2.St → α → β → Cl → Prop} {σ : L2.St} {G : Hp} {L : Cl} {H : Hp} {τ : Sto} {Q : β → Hp → Prop}
    (st : StoR X.K N G τ σ L) (ce : Cells G L H) (out : Out X.K N W rel σ G L H Q (bnd (isB m) f τ)) :
    Out X.K N W (RvR X.K N) σ G L H (fun x H1 => ∃ k, x = .bl k ∧ ∃ τ1 G1 L1, Ex G G1 ∧ StoR X.K N G1 τ1 σ L1 ∧ Cells G1 L1 H1 ∧ Out X.K N W rel σ G1 L1 H1 Q (f k τ1)) (m τ) := by
  unfold isB at out
  unfold bnd at out
  cases e : m τ with
  | bad => simp only [e] at out; exact out
  | ex x τ1 => simp only [e] at out; exact out
  | ok r τ1 =>
    simp only [e] at out
    intro b G1 Lv L1 H1 hr st1 ce1 sp
    split at out
    · rename_i a τ2 e1
      split at e1
      · rename_i c e2
        cases e1
        have ceR := ce1.right
        have spR := sp.sub (L2 := L1) fun p hp => List.mem_append_right _ hp
        refine ⟨_, ?_, τ1, G1, L1, sp.ex, st1, ceR, out.later spR⟩
        cases r with
        | own o' =>
          cases e2
          exact hr.2
        | slot i =>
          obtain ⟨rfl, hv⟩ := hr
          obtain ⟨_, _, ho, _⟩ := res_own (x := b) st1 ⟨rfl, hv⟩ e2
          exact ho.2
      · cases e1
    · rename_i e1
      split at e1
      · cases e1
      · cases e1
    · exact out.elim
theorem split_b {α : Type} {m : M Rv} {f : Bool → M α} {β : Type} {rel : Hp → L2.St → α → β → Cl → Prop} {σ : L2.St} {G : Hp} {L : Cl} {H : Hp} {τ : Sto} {Q : β → Hp → Prop}
    (st : StoR X.K N G τ σ L) (ce : Cells G L H) (out : Out X.K N W rel σ G L H Q (bnd (isB m) f τ)) :
    tE X.K N W m σ H (fun x H1 => ∃ k, x = .bl k ∧ ∃ τ1 G1 L1, Ex G G1 ∧ StoR X.K N G1 τ1 σ L1 ∧ Cells G1 L1 H1 ∧ Out X.K N W rel σ G1 L1 H1 Q (f k τ1)) := ⟨τ, G, L, st, ce, split_b' st ce out⟩
/-- the same of a test -/
theorem split_t {α β : Type} {m : M Bool} {f : Bool → M α} {rel : Hp → L2.St → α → β → Cl → Prop} {σ : L2.St} {G : Hp} {L : Cl} {H : Hp} {τ : Sto} {Q : β → Hp → Prop}
    (st : StoR X.K N G τ σ L) (ce : Cells G L H) (out : Out X.K N W rel σ G L H Q (bnd m f τ)) :
    tB X.K N W m σ H (fun k H1 => ∃ τ1 G1 L1, Ex G G1 ∧ StoR X.K N G1 τ1 σ L1 ∧ Cells G1 L1 H1 ∧ Out X.K N W rel σ G1 L1 H1 Q (f k τ1)) := by
  refine ⟨τ, G, L, st, ce, ?_⟩
  unfold bnd at out
  cases e : m τ with
  | bad => simp only [e] at out; exact out
  | ex x τ1 => simp only [e] at out; exact out
  | ok k τ1 =>
    simp only [e] at out
    intro b G1 Lv L1 H1 hr st1 ce1 sp
    obtain ⟨rfl, rfl⟩ := hr
    exact ⟨τ1, G1, L1, sp.ex, st1, ce1, out.later sp⟩
theorem tB_tT {m : M Rv} {σ : L2.St} {H : Hp} {Q : Bool → Hp → Prop} (h : tB X.K N W (isB m) σ H Q) : tTest (tE X.K N W m) σ H Q := tB_isB h

/-! and, or, not, if -/
theorem pw_and' {a b : Expr} {rest : List Expr} {pos : Pos} {ma mb : M Bool} (ha : PT X a (tB X.K N W ma)) (hb : PW X (.BoolOp .And (b :: rest) pos) (tB X.K N W mb)) :
    PW X (.BoolOp .And (a :: b :: rest) pos) (tB X.K N W (bnd ma fun k => match k with
      | true => mb
      | false => fun τ => .ok false τ)) := by
  refine (pw_and ha hb).imp fun σ H Q => ?_
  rintro ⟨τ, G, L, st, ce, out⟩
  obtain ⟨τ', G', L', st', ce', o'⟩ := split_t st ce out
  refine ⟨τ', G', L', st', ce', ?_⟩
  cases e : ma τ' with
  | bad => rw [e] at o'; exact o'
  | ex x τ1 => rw [e] at o'; exact o'
  | ok k τ1 =>
    rw [e] at o'
    intro k' G1 Lv L1 H1 hr st1 ce1 sp
    obtain ⟨τ2, G2, L2, eG, st2, ce2, o2⟩ := o' k' G1 Lv L1 H1 hr st1 ce1 sp
    cases k' with
    | true => exact ⟨τ2, G2, L2, st2, ce2, o2⟩
    | false => exact o2 false G2 [] L2 H1 ⟨rfl, rfl⟩ st2 ce2 Step.refl
theorem pw_or' {a b : Expr} {rest : List Expr} {pos : Pos} {ma mb : M Bool} (ha : PT X a (tB X.K N W ma)) (hb : PW X (.BoolOp .Or (b :: rest) pos) (tB X.K N W mb)) :
    PW X (.BoolOp .Or (a :: b :: rest) pos) (tB X.K N W (bnd ma fun k => match k with
      | true => fun τ => .ok true τ
      | false => mb)) := by
  refine (pw_or ha hb).imp fun σ H Q => ?_
  rintro ⟨τ, G, L, st, ce, out⟩
  obtain ⟨τ', G', L', st', ce', o'⟩ := split_t st ce out
  refine ⟨τ', G', L', st', ce', ?_⟩
  cases e : ma τ' with
  | bad => rw [e] at o'; exact o'
  | ex x τ1 => rw [e] at o'; exact o'
  | ok k τ1 =>
    rw [e] at o'
    intro k' G1 Lv L1 H1 hr st1 ce1 sp
    obtain ⟨τ2, G2, L2, eG, st2, ce2, o2⟩ := o' k' G1 Lv L1 H1 hr st1 ce1 sp
    cases k' with
    | true => exact o2 true G2 [] L2 H1 ⟨rfl, rfl⟩ st2 ce2 Step.refl
    | false => exact ⟨τ2, G2, L2, st2, ce2, o2⟩
theorem pt_not' {a : Expr} {pos : Pos} {ma : M Bool} (ha : PT X a (tB X.K N W ma)) : PT X (.UnaryOp .Not a pos) (tB X.K N W (bnd ma fun k τ => .ok (!k) τ)) := by
  refine (pt_not ha).imp fun σ H Q => ?_
  rintro ⟨τ, G, L, st, ce, out⟩
  obtain ⟨τ', G', L', st', ce', o'⟩ := split_t st ce out
  refine ⟨τ', G', L', st', ce', ?_⟩
  cases e : ma τ' with
  | bad => rw [e] at o'; exact o'
  | ex x τ1 => rw [e] at o'; exact o'
  | ok k τ1 =>
    rw [e] at o'
    intro k' G1 Lv L1 H1 hr st1 ce1 sp
    obtain ⟨τ2, G2, L2, eG, st2, ce2, o2⟩ := o' k' G1 Lv L1 H1 hr st1 ce1 sp
    exact o2 (!k') G2 [] L2 H1 ⟨rfl, rfl⟩ st2 ce2 Step.refl
theorem pe_dE {e : Expr} {m : M Rv} (h : PE X e (tD X.K N W m)) : PE X e (tE X.K N W m) := h.imp fun σ H Q ⟨τ, G, L, st, ce, out⟩ => ⟨τ, G, L, st, ce, by
  cases e : m τ with
  | bad => rw [e] at out; exact out
  | ex x τ1 => rw [e] at out; exact out
  | ok r τ1 =>
    rw [e] at out
    intro v G' Lv L' H' hr st' ce' sp
    obtain ⟨rfl, hr2⟩ := hr
    refine out v G' [] L' H' ?_ st' ce' sp
    cases r with
    | slot i => exact ⟨rfl, hr2⟩
    | own o =>
      cases o with
      | val d => exact ⟨rfl, hr2⟩
      | _ => exact hr2.elim⟩
/-- a reading, read further -/
theorem tE_mono {m : M Rv} {σ : L2.St} {H : Hp} {Q Q' : VK} (h : tE X.K N W m σ H Q) (hq : ∀ v H', Q v H' → Q' v H') : tE X.K N W m σ H Q' := by
  obtain ⟨τ, G, L, st, ce, out⟩ := h
  refine ⟨τ, G, L, st, ce, ?_⟩
  cases e : m τ with
  | bad => rw [e] at out; exact out
  | ex x τ1 => rw [e] at out; exact out
  | ok r τ1 =>
    rw [e] at out
    exact fun v G' Lv L' H' hr st' ce' sp => hq _ _ (out v G' Lv L' H' hr st' ce' sp)
theorem tB_mono {m : M Bool} {σ : L2.St} {H : Hp} {Q Q' : Bool → Hp → Prop} (h : tB X.K N W m σ H Q) (hq : ∀ v H', Q v H' → Q' v H') : tB X.K N W m σ H Q' := by
  obtain ⟨τ, G, L, st, ce, out⟩ := h
  refine ⟨τ, G, L, st, ce, ?_⟩
  cases e : m τ with
  | bad => rw [e] at out; exact out
  | ex x τ1 => rw [e] at out; exact out
  | ok r τ1 =>
    rw [e] at out
    exact fun v G' Lv L' H' hr st' ce' sp => hq _ _ (out v G' Lv L' H' hr st' ce' sp)
theorem pe_and' {a b : Expr} {rest : List Expr} {pos : Pos} {ma mb : M Rv} (ha : PE X a (tE X.K N W ma)) (hb : PE X (.BoolOp .And (b :: rest) pos) (tE X.K N W mb)) :
    PE X (.BoolOp .And (a :: b :: rest) pos) (tE X.K N W (bnd (isB (opd ma)) fun k => match k with
      | true => opd mb
      | false => fun τ => .ok (.own (.val (.bl false))) τ)) := by
  refine (pe_and (pe_dE (pe_opd ha)) (pe_dE (pe_opd hb))).imp fun σ H Q => ?_
  rintro ⟨τ, G, L, st, ce, out⟩
  refine tE_mono (split_b st ce out) fun v H1 => ?_
  rintro ⟨k, rfl, τ1, G1, L1, eG, st1, ce1, o1⟩
  refine ⟨k, rfl, ?_⟩
  cases k with
  | true => exact ⟨τ1, G1, L1, st1, ce1, o1⟩
  | false => exact out_val st1 ce1 o1 ⟨rfl, rfl⟩
theorem pe_or' {a b : Expr} {rest : List Expr} {pos : Pos} {ma mb : M Rv} (ha : PE X a (tE X.K N W ma)) (hb : PE X (.BoolOp .Or (b :: rest) pos) (tE X.K N W mb)) :
    PE X (.BoolOp .Or (a :: b :: rest) pos) (tE X.K N W (bnd (isB (opd ma)) fun k => match k with
      | true => fun τ => .ok (.own (.val (.bl true))) τ
      | false => opd mb)) := by
  refine (pe_or (pe_dE (pe_opd ha)) (pe_dE (pe_opd hb))).imp fun σ H Q => ?_
  rintro ⟨τ, G, L, st, ce, out⟩
  refine tE_mono (split_b st ce out) fun v H1 => ?_
  rintro ⟨k, rfl, τ1, G1, L1, eG, st1, ce1, o1⟩
  refine ⟨k, rfl, ?_⟩
  cases k with
  | true => exact out_val st1 ce1 o1 ⟨rfl, rfl⟩
  | false => exact ⟨τ1, G1, L1, st1, ce1, o1⟩
theorem pe_not' {a : Expr} {pos : Pos} {ma : M Rv} (ha : PE X a (tE X.K N W ma)) : PE X (.UnaryOp .Not a pos) (tE X.K N W (bnd (isB (opd ma)) fun k τ => .ok (.own (.val (.bl (!k)))) τ)) := by
  refine (pe_not (pe_dE (pe_opd ha))).imp fun σ H Q => ?_
  rintro ⟨τ, G, L, st, ce, out⟩
  refine tE_mono (split_b st ce out) fun v H1 => ?_
  rintro ⟨k, rfl, τ1, G1, L1, eG, st1, ce1, o1⟩
  exact ⟨k, rfl, out_val st1 ce1 o1 ⟨rfl, rfl⟩⟩
theorem pe_if' {t a b : Expr} {pos : Pos} {mt : M Bool} {ma mb : M Rv} (ht : PT X t (tB X.K N W mt)) (ha : PE X a (tE X.K N W ma)) (hb : PE X b (tE X.K N W mb)) :
    PE X (.IfExp t a b pos) (tE X.K N W (bnd mt fun k => match k with
      | true => ma
      | false => mb)) := by
  refine (pe_ifExp ht ha hb).imp fun σ H Q => ?_
  rintro ⟨τ, G, L, st, ce, out⟩
  refine tB_mono (split_t st ce out) fun k H1 => ?_
  rintro ⟨τ1, G1, L1, eG, st1, ce1, o1⟩
  cases k with
  | true => exact ⟨τ1, G1, L1, st1, ce1, o1⟩
  | false => exact ⟨τ1, G1, L1, st1, ce1, o1⟩
/-- a <= b <= c -/
theorem chain_run (F : Facts X N T cl W) (E : DeqOk X N T cl W) {o1 o2 : Cm} {a b c : Expr} {ma mb mc : M Rv} {pos : Pos} (ha : PE X a (tE X.K N W ma)) (hb : PE X b (tE X.K N W mb)) (hc : PE X c (tE X.K N W mc)) (hm : lastMarks [pyCm o1, pyCm o2] [b, c] = false) :
    PE X (.Compare a [pyCm o1, pyCm o2] [b, c] pos) (tE X.K N W (bnd (opd ma) fun x => bnd (opd mb) fun y => bnd (isB (doCmp T cl o1 x y)) fun k => match k with
      | true => bnd (opd mc) fun z => doCmp T cl o2 y z
      | false => fun τ => .ok (.own (.val (.bl false))) τ)) := by
  refine ⟨fun pins s σ H Q I h => ?_⟩
  obtain ⟨τ, G, L, st, ce, out⟩ := h
  have h1 := split_op st ce out
  refine Compare_chain (thn ((pe_opd ha).run pins s σ H _ I h1) fun v s1 ⟨x, H1, I1, r1, q1⟩ => chain_link ?_) hm
  obtain ⟨ra, τ1, G1, L1, e1, hr1, st1, ce1, p1⟩ := q1
  have h2 := split_op st1 ce1 p1
  refine thn ((pe_opd hb).run pins s1 σ H1 _ I1 h2) fun u s2 ⟨y, H2, I2, r2, q2⟩ => ?_
  obtain ⟨rb, τ2, G2, L2, e2, hr2, st2, ce2, p2⟩ := q2
  refine thn (cmp_run F E I2 r1 r2 st2 ce2 (hr1.mono e2) hr2 (Q := fun x H1 => ∃ k, x = .bl k ∧ ∃ τ1 G1 L1, Ex G2 G1 ∧ StoR X.K N G1 τ1 σ L1 ∧ Cells G1 L1 H1 ∧ Out X.K N W (RvR X.K N) σ G1 L1 H1 Q ((match k with
      | true => bnd (opd mc) fun z => doCmp T cl o2 rb z
      | false => fun τ => .ok (.own (.val (.bl false))) τ) τ1)) (split_b' st2 ce2 p2)) fun d s3 ⟨z, H3, I3, r3, k, e, q3⟩ => ?_
  subst e
  cases r3
  refine wpAny_truthy_bool ?_
  obtain ⟨τ4, G4, L4, e4, st4, ce4, p4⟩ := q3
  cases k with
  | false => exact ite_ff ⟨.bl false, H3, I3, rfl, out_val st4 ce4 p4 ⟨rfl, rfl⟩⟩
  | true =>
    have h4 := split_op st4 ce4 p4
    refine ite_tt (chain_last (thn ((pe_opd hc).run pins s3 σ H3 _ I3 h4) fun w' s4 ⟨z', H4, I4, r4, q4⟩ => ?_))
    obtain ⟨rc, τ5, G5, L5, e5, hr5, st5, ce5, p5⟩ := q4
    exact cmp_run F E I4 r2 r4 st5 ce5 (hr2.mono (e4.trans e5)) hr5 p5
end
end Tw
set_option maxHeartbeats 2000000
/-! The tree walk, part 6b: a caught exception as a value: its fields, its class. -/
namespace Tw
open PySem PySem.Spec PyProof.Rows L2 Evl
theorem ite_ff' {M : Model} {A : Around} {α : Type} {a b : Sem α} {Q : α → Shared → Prop} {E : Value → Shared → Prop} {s : Shared} (h : wpAny M A b Q E s) : wpAny M A (if (false : Bool) = true then a else b) Q E s := h
theorem ite_tt' {M : Model} {A : Around} {α : Type} {a b : Sem α} {Q : α → Shared → Prop} {E : Value → Shared → Prop} {s : Shared} (h : wpAny M A a Q E s) : wpAny M A (if (true : Bool) = true then a else b) Q E s := h
section
open PySem.W
variable {prog : Program} {w : World} {A : Around} {E : Value → Shared → Prop} {s : Shared} {K : Frag} {x D : Addr} {ox : Obj} {od : Option Obj}
/-- e.__class__, with or without a dict -/
theorem kit_cls {Q : Option Value → Shared → Prop} (C : ExcC K D) (X : K.In s.heap) (I : InstAt s.heap x ox D od) (h : Q (some (.ref D)) { s with toks := s.toks + 1 }) : wpAny (model prog w) A (getAttr? (.ref x) "__class__") Q E s := by
  have isc : (clsIn K D).isSome = true := by
    obtain ⟨cd, hc, _⟩ := any_some C.hd
    rw [hc]; rfl
  have hf : findObj K D od "__class__" = some (.bind (.builtin "getset_descriptor.__get__") (.builtin "object.__class__")) := by
    cases od with
    | none => exact findObj_dataN isc C.ha C.hn C.ht
    | some o => exact findObj_data isc C.ha C.hn C.ht
  obtain ⟨hp, g, dr, tk, os⟩ := s
  have ty : Looks (model prog w) hp (typeOf (.ref x)) (.ref D) := I.type
  have la := looks_findIn (M := model prog w) X C.hg
  have lb := looks_findIn (M := model prog w) X C.hk
  have lc := looks_find (M := model prog w) X I hf
  have isE : Looks (model prog w) hp (isInstance (.ref x) (.type "BaseException")) true := ty.andThen (looks_subIn X C.hs)
  have n2 : (Value.builtin "BaseException.__getattribute__" == Value.builtin "object.__getattribute__") = false := by decide +kernel
  have n1 : (onTheHeap (Value.ref D) && Value.builtin "BaseException.__getattribute__" == Value.builtin "object.__getattribute__") = false := by rw [n2, Bool.and_false]
  unfold getAttr? getAttrBy? getAttrBy
  refine wpAny_bind (wpAny_mkText (wpAny_bind (wpAny_attempt (wpAny_holding (wpAny_bind (ty.at (wpAny_bind (la.at ?_))))))))
  dsimp only
  rw [n1]
  refine ite_ff' ?_
  unfold getAttrByItsOwn hookBefore
  refine wpAny_bind ?_
  rw [show onTheHeap (Value.ref D) = true from rfl]
  refine ite_tt' (lb.at ?_)
  refine wpAny_bind (wpAny_attempt (wpAny_holding ?_))
  unfold callGetattribute
  rw [show (false && onTheHeap (Value.builtin "BaseException.__getattribute__")) = false from rfl]
  refine ite_ff' ?_
  unfold boundAndCalled
  rw [PySem.F.excAttr_ValueError.ga.bind (.ref x)]
  refine wpAny_bind (wpAny_pure (wpAny_call (codeAny_call_builtin PySem.F.excAttr_ValueError.ga.plain PySem.F.entry_bexc_ga ?_)))
  refine @check_slot (model prog w) _ _ ⟨hp, g, dr, tk + 1, os⟩ "BaseException.__getattribute__" "BaseException" "__getattribute__" (.ref x) [.str "__class__" tk] [] _ (by decide +kernel) (by decide +kernel) isE (PySem.F.args_bexc_ga _ _) ?_
  unfold Builtin.«object.__getattribute__»
  refine wpAny_bind (wpAny_of_eq (a := ((Value.ref x : Value), [Value.str "__class__" tk])) (by first | rfl | (simp only [slotArgs]; rfl)) (wpAny_bind (wpAny_pure (wpAny_bind (ty.at (wpAny_bind (lc.at ?_)))))))
  refine wpAny_bind (m := holding [Value.builtin "object.__class__"] _) (wpAny_holding (wpAny_call (class_get (s := ⟨hp, g, dr, tk + 1, os⟩) X I C.hm ?_)))
  refine wpAny_pure ?_
  show wpAny _ _ (handedOut (.ref D)) _ _ _
  rw [handedOut_of (v := .ref D) rfl]
  first
    | exact wpAny_pure (wpAny_pure h)
    | exact wpAny_pure h
    | exact wpAny_pure (wpAny_bind (wpAny_pure (wpAny_pure h)))
theorem kitx_e (C : ExcC K D) : KitX K (.ref x) (.ref D) (fun h => InstAt h x ox D od) where
  ty := fun _ _ _ I => I.type
  it := fun _ _ X _ => by
    obtain ⟨cd, hc, _⟩ := any_some C.hd
    unfold clsIn at hc
    split at hc
    · rename_i c1 d1 cd1 sl1 ho
      intro A1 Q1 E1 s1 k q
      unfold isType loadHead
      exact wpAny_bind (wpAny_loadPart (k _ _ (X _ _ ho)) (wpAny_pure q))
    · cases hc
  ne := (handS_kitx_exc (x := x) (ox := ox) C.hg C.hk C.hs C.hd C.ha C.hn C.ht C.hm).ne
  ca := fun X I k => kit_cls C X I k
end
def XokOk (K : PySem.W.Frag) (N : Nm) (T : Tb) : Prop := ∀ c f, T.xok c f = true → XfC K (N.cad c) ∧ PySem.W.findIn K (.ref (N.cad c)) (N.fn f) = some none
/-- the context bears the exception in hand -/
def HasE (X : Cx) (N : Nm) : Prop := ∃ (a : Addr) (cls : Value) (d : Option Addr) (oe : Obj) (vs : Array Value), N.exa = some (a, cls, d) ∧ (a, oe) ∈ X.pn ∧ Zc cls d oe ∧ oe.data = .fields vs
section
variable {X : Cx} {N : Nm} {pins : List (Addr × Obj)} {s : Shared} {σ : L2.St} {H : Hp}
theorem exc_at (h : HasE X N) {c : Nat} {ns : List Nat} {ds : List D} {G : Hp} {x : V} (hR : Rep X.K N G (.exc c ns ds) x) (hs : Ex G H) (I : Inv X pins σ H s) :
    ∃ a oe od, x = .ref a ∧ PySem.W.InstAt s.heap a oe (N.cad c) od ∧ ∃ vs, RepL X.K N G ds vs ∧ ns.length = vs.length ∧ ((ns = [] ∧ od = none) ∨ ∃ o, ns ≠ [] ∧ od = some o ∧ ∃ mA : Str → Option Value, (∀ name, PySem.W.lookIn name o = some (mA name)) ∧ ∀ f, RelO ((flds N ns vs).lookup f) (mA f)) := by
  obtain ⟨a, cls, d, oe, fv, ea, hp, hz, hd⟩ := h
  obtain ⟨b, rfl, k⟩ := hR
  obtain ⟨rfl, rfl, vs, k1, k2, k3⟩ := k a cls d ea
  have hget := (I.pin (b, oe) (List.mem_append_left _ hp)).1
  have nc : PySem.W.notCls oe = true := by unfold PySem.W.notCls; rw [hd] <;> rfl
  rcases k3 with ⟨e1, rfl⟩ | ⟨dd, e1, rfl, hG⟩
  · exact ⟨b, oe, none, rfl, ⟨hget, hz.1, nc, by rw [hz.2]; trivial⟩, vs, k1, k2, .inl ⟨e1, rfl⟩⟩
  · have hx : ObjOk X.prog X.w H s.heap dd (.xd (flds N ns vs)) := I.hok dd _ (hs _ _ hG)
    obtain ⟨mA, hns, hr⟩ := hx
    obtain ⟨od, ho, hl⟩ := lookIn_ns hns
    exact ⟨b, oe, some od, rfl, ⟨hget, hz.1, nc, by rw [hz.2]; exact ho⟩, vs, k1, k2, .inr ⟨od, e1, rfl, mA, hl, hr⟩⟩
end
end Tw
set_option maxHeartbeats 2000000
/-! The tree walk, part 7: arguments, displays, fields, items, parts, built-in functions. -/
namespace Tw
open PySem PySem.Spec PyProof.Rows L2 Evl
section
variable {X : Cx} {N : Nm} {T : Tb} {cl : CallT} {W : WX}
theorem tM_mono {α β : Type} {rel : Hp → L2.St → α → β → Cl → Prop} {m : M α} {σ : L2.St} {H : Hp} {Q Q' : β → Hp → Prop} (h : tM X.K N W rel m σ H Q) (hq : ∀ v H', Q v H' → Q' v H') : tM X.K N W rel m σ H Q' := by
  obtain ⟨τ, G, L, st, ce, out⟩ := h
  refine ⟨τ, G, L, st, ce, ?_⟩
  cases e : m τ with
  | bad => rw [e] at out; exact out
  | ex x τ1 => rw [e] at out; exact out
  | ok r τ1 =>
    rw [e] at out
    exact fun v G' Lv L' H' hr st' ce' sp => hq _ _ (out v G' Lv L' H' hr st' ce' sp)
/-- split, the first part without cells -/
theorem split0 {α β γ δ : Type} {rel1 : Hp → L2.St → α → β → Cl → Prop} {rel2 : Hp → L2.St → γ → δ → Cl → Prop} {m : M α} {f : α → M γ} {σ : L2.St} {G : Hp} {L : Cl} {H : Hp} {τ : Sto} {Q : δ → Hp → Prop}
    (hr0 : ∀ {G a b Lv}, rel1 G σ a b Lv → Lv = []) (st : StoR X.K N G τ σ L) (ce : Cells G L H) (out : Out X.K N W rel2 σ G L H Q (bnd m f τ)) :
    tM X.K N W rel1 m σ H (fun b H1 => ∃ a τ1 G1 L1, Ex G G1 ∧ rel1 G1 σ a b [] ∧ StoR X.K N G1 τ1 σ L1 ∧ Cells G1 L1 H1 ∧ Out X.K N W rel2 σ G1 L1 H1 Q (f a τ1)) := by
  refine tM_mono (split (rel1 := rel1) st ce out) fun b H1 => ?_
  rintro ⟨a, τ1, G1, Lv, L1, eG, hr, st1, ce1, o1⟩
  have e := hr0 hr
  subst e
  exact ⟨a, τ1, G1, L1, eG, hr, st1, ce1, o1⟩
def DR (K : PySem.W.Frag) (N : Nm) (G : Hp) (_ : L2.St) (d : D) (v : V) (Lv : Cl) : Prop := Lv = [] ∧ Rep K N G d v
theorem pe_ownD {e : Expr} {m : M Rv} (h : PE X e (tE X.K N W m)) : PE X e (tM X.K N W (DR X.K N) (ownD m)) := by
  refine (pe_own h).imp fun σ H Q => ?_
  rintro ⟨τ, G, L, st, ce, out⟩
  refine ⟨τ, G, L, st, ce, ?_⟩
  unfold ownD bnd at out
  cases q : own m τ with
  | bad => rw [q] at out; exact out
  | ex x τ1 => rw [q] at out; exact out
  | ok o τ1 =>
    rw [q] at out
    intro v G' Lv L' H' hr st' ce' sp
    have hO : Own X.K N G' o v Lv := hr
    exact out v (addC G' Lv) [] L' H' ⟨rfl, hO.frz ce'.left.nd ce'.left.out⟩ (st'.mono ce'.left.ex1) ce'.give (sp.give ce')

/-! ### argument lists -/
def NoStar (X : Cx) (e : Expr) : Prop := ∀ es : List Expr, starEach (e :: es) X.env = (false, eval e X.env) :: starEach es X.env
theorem pa_ops0 : PA X [] (tAs X.K N W fun τ => .ok [] τ) := pa_nil.imp fun σ H Q ⟨τ, G, L, st, ce, out⟩ => out [] G [] L H ⟨rfl, rfl⟩ st ce Step.refl
theorem pa_ops {e : Expr} {es : List Expr} {m : M Rv} {ms : M (List Rv)} (he : PE X e (tE X.K N W m)) (hs : PA X es (tAs X.K N W ms)) (hn : NoStar X e) :
    PA X (e :: es) (tAs X.K N W (bnd (opd m) fun r => bnd ms fun rs τ => .ok (r :: rs) τ)) := by
  refine (pa_cons (pe_opd he) hs (hn es)).imp fun σ H Q => ?_
  rintro ⟨τ, G, L, st, ce, out⟩
  refine tM_mono (split0 (rel1 := OpR1 X.K N) (fun h => h.1) st ce out) fun x H1 => ?_
  rintro ⟨r, τ1, G1, L1, eG, hr, st1, ce1, o1⟩
  refine tM_mono (split0 (rel1 := OpsR X.K N) (fun h => h.nil) st1 ce1 o1) fun xs H2 => ?_
  rintro ⟨rs, τ2, G2, L2, eG2, hrs, st2, ce2, o2⟩
  exact o2 (x :: xs) G2 [] L2 H2 ⟨rfl, x, xs, rfl, hr.mono eG2, hrs⟩ st2 ce2 Step.refl
theorem pa_keep0 : PA X [] (tKs X.K N W fun τ => .ok [] τ) := pa_nil.imp fun σ H Q ⟨τ, G, L, st, ce, out⟩ => out [] G [] L H ⟨rfl, rfl⟩ st ce Step.refl
theorem pa_keep {e : Expr} {es : List Expr} {m : M Rv} {ms : M (List D)} (he : PE X e (tE X.K N W m)) (hs : PA X es (tKs X.K N W ms)) (hn : NoStar X e) :
    PA X (e :: es) (tKs X.K N W (bnd (ownD m) fun d => bnd ms fun ds τ => .ok (d :: ds) τ)) := by
  refine (pa_cons (pe_ownD he) hs (hn es)).imp fun σ H Q => ?_
  rintro ⟨τ, G, L, st, ce, out⟩
  refine tM_mono (split0 (rel1 := DR X.K N) (fun h => h.1) st ce out) fun x H1 => ?_
  rintro ⟨r, τ1, G1, L1, eG, hr, st1, ce1, o1⟩
  refine tM_mono (split0 (rel1 := DsR X.K N) (fun h => h.1) st1 ce1 o1) fun xs H2 => ?_
  rintro ⟨rs, τ2, G2, L2, eG2, hrs, st2, ce2, o2⟩
  exact o2 (x :: xs) G2 [] L2 H2 ⟨rfl, x, xs, rfl, hr.2.mono eG2, hrs.2⟩ st2 ce2 Step.refl
theorem pe_tup' {es : List Expr} {x1} {pos : Pos} {ms : M (List D)} (h : PA X es (tKs X.K N W ms)) : PE X (.Tuple es x1 pos) (tE X.K N W (bnd ms fun ds τ => if ds.length ≤ lim then .ok (.own (.val (.tup ds))) τ else .bad)) := by
  refine (pe_tup h).imp fun σ H Q => ?_
  rintro ⟨τ, G, L, st, ce, out⟩
  refine tM_mono (split0 (rel1 := DsR X.K N) (fun h => h.1) st ce out) fun xs H1 => ?_
  rintro ⟨ds, τ1, G1, L1, eG, hr, st1, ce1, o1⟩
  by_cases hl : ds.length ≤ lim
  · simp only [hl, if_true] at o1
    exact ⟨by rw [← hr.2.len]; exact lim_le hl, fun p hp => out_tup st1 ce1 o1 hr.2 hp⟩
  · simp only [hl, if_false] at o1
    exact o1.elim
theorem pe_lst' {es : List Expr} {pos : Pos} {ms : M (List D)} (h : PA X es (tKs X.K N W ms)) : PE X (.List es pos) (tE X.K N W (bnd ms fun ds τ => if ds.length ≤ lim then .ok (.own (.lst (ds.map .val))) τ else .bad)) := by
  refine (pe_lst h).imp fun σ H Q => ?_
  rintro ⟨τ, G, L, st, ce, out⟩
  refine tM_mono (split0 (rel1 := DsR X.K N) (fun h => h.1) st ce out) fun xs H1 => ?_
  rintro ⟨ds, τ1, G1, L1, eG, hr, st1, ce1, o1⟩
  by_cases hl : ds.length ≤ lim
  · simp only [hl, if_true] at o1
    exact ⟨by rw [← hr.2.len]; exact lim_le hl, fun p hp => out_new st1 ce1 o1 hr.2 hp⟩
  · simp only [hl, if_false] at o1
    exact o1.elim

/-! ### fields -/
theorem flds_look {ns : List Nat} : ∀ {vs : List V} {ds : List D} {G : Hp} {f : Nat} {d : D}, RepL X.K N G ds vs → (ns.zip ds).lookup f = some d → ∃ v, (flds N ns vs).lookup (N.fn f) = some v ∧ Rep X.K N G d v := by
  induction ns with
  | nil => intro vs ds G f d _ e; simp at e
  | cons n ns ih =>
    intro vs ds G f d h e
    cases ds with
    | nil => simp at e
    | cons d0 ds =>
      obtain ⟨v, r, rfl, h2, h3⟩ := h
      rw [List.zip_cons_cons, List.lookup_cons] at e
      unfold flds
      rw [List.map_cons, List.zip_cons_cons, List.lookup_cons]
      cases q : f == n with
      | true =>
        rw [q] at e
        cases e
        have : f = n := by simpa using q
        subst this
        exact ⟨v, by simp, h2⟩
      | false =>
        rw [q] at e
        have ne : f ≠ n := by simpa using q
        have ne2 : (N.fn f == N.fn n) = false := beq_eq_false_iff_ne.mpr fun z => ne (N.fi _ _ z)
        rw [ne2]
        exact ih h3 e
theorem flds_lookO {ns : List Nat} : ∀ {vs : List V} {os : List O} {G : Hp} {Lc : Cl} {f : Nat} {d : D}, OwnL X.K N G os vs Lc → (ns.zip os).lookup f = some (.val d) → ∃ v, (flds N ns vs).lookup (N.fn f) = some v ∧ Rep X.K N G d v := by
  induction ns with
  | nil => intro vs ds G Lc f d _ e; simp at e
  | cons n ns ih =>
    intro vs ds G Lc f d h e
    cases ds with
    | nil => simp at e
    | cons d0 ds =>
      obtain ⟨v, r, L1, L2, rfl, rfl, h2, h3⟩ := h
      rw [List.zip_cons_cons, List.lookup_cons] at e
      unfold flds
      rw [List.map_cons, List.zip_cons_cons, List.lookup_cons]
      cases q : f == n with
      | true =>
        rw [q] at e
        cases e
        have : f = n := by simpa using q
        subst this
        exact ⟨v, by simp, h2.2⟩
      | false =>
        rw [q] at e
        have ne : f ≠ n := by simpa using q
        have ne2 : (N.fn f == N.fn n) = false := beq_eq_false_iff_ne.mpr fun z => ne (N.fi _ _ z)
        rw [ne2]
        exact ih h3 e
def FldOk (X : Cx) (N : Nm) (T : Tb) : Prop := ∀ c f, T.fok c f = true → Cls X.K (N.cad c) ∧ NoAttr X.K (N.cad c) (N.fn f)
theorem pe_attr {hot : Bool} {a : Expr} {f : Nat} {ma : M Rv} {pos : Pos} (FO : FldOk X N T) (XO : XokOk X.K N T) (hx : hot = true → HasE X N) (ha : PE X a (tE X.K N W ma)) (hb : attributeBase a (N.fn f) X.env (eval a X.env) = eval a X.env) :
    PE X (.Attribute a (N.fn f) pos) (tE X.K N W (bnd (opd ma) fun x => un (attrF T hot · f) x)) := by
  refine ⟨fun pins s σ H Q I h => ?_⟩
  obtain ⟨τ, G, L, st, ce, out⟩ := h
  have h1 := split_op st ce out
  refine attr_of hb (thn ((pe_opd ha).run pins s σ H _ I h1) fun u s1 ⟨x, H1, I1, rx, r, τ1, G1, L1, eG, hr, st1, ce1, o1⟩ => ?_)
  unfold un at o1
  cases e1 : res τ1 r with
  | none => simp only [e1] at o1; exact o1.elim
  | some o =>
    simp only [e1] at o1
    cases e2 : attrF T hot o f with
    | none => simp only [e2] at o1; exact o1.elim
    | some z =>
      simp only [e2] at o1
      obtain ⟨La, Ra, hO, pm⟩ := res_own st1 hr e1
      have done : ∀ {p : Addr} {C : Addr} {dx : Addr} {fs : List (Str × V)} {v : V}, x = .ref p → H1 p = some (.ins C dx fs) → Cls X.K C → NoAttr X.K C (N.fn f) → fs.lookup (N.fn f) = some v → Q v H1 → wpAny (model X.prog X.w) X.A (getAttr u (N.fn f) true) (EP X pins σ Q) X.xe s1 := by
        intro p C dx fs v ex hH k1 k2 hv q
        subst ex
        obtain rfl : u = Value.ref p := rx
        exact getattr_ok I1 hH k1 k2 hv fun u' s2 I2 ru => ⟨v, H1, I2, ru, q⟩
      cases o with
      | val d =>
        cases d with
        | ins c ns ds =>
          have e3 : (if T.fok c f then ((ns.zip ds).lookup f).map .val else none) = some z := e2
          split at e3
          · rename_i hok
            obtain ⟨p, dx, vs, rfl, h1, h2, h3⟩ := hO.2
            cases e4 : (ns.zip ds).lookup f with
            | none => rw [e4] at e3; cases e3
            | some d1 =>
              rw [e4] at e3
              cases e3
              obtain ⟨v, hv, hr1⟩ := flds_look h3 e4
              obtain ⟨k1, k2⟩ := FO c f hok
              exact done rfl (ce1.sub _ _ h1) k1 k2 hv (out_val st1 ce1 o1 ⟨rfl, hr1⟩)
          · cases e3
        | exc c ns ds =>
          have e3 : (if hot && T.xok c f then ((ns.zip ds).lookup f).map .val else none) = some z := e2
          split at e3
          · rename_i hok
            rw [Bool.and_eq_true] at hok
            cases e4 : (ns.zip ds).lookup f with
            | none => rw [e4] at e3; cases e3
            | some d1 =>
              rw [e4] at e3
              cases e3
              obtain ⟨xc, hno⟩ := XO c f hok.2
              obtain ⟨p, oe, od, rfl, J, vs, h2, h3, h4⟩ := exc_at (hx hok.1) hO.2 ce1.sub I1
              obtain ⟨v, hv, hr1⟩ := flds_look h2 e4
              obtain rfl : u = Value.ref p := rx
              rcases h4 with ⟨e5, _⟩ | ⟨ob, e5, rfl, mA, hl, hrl⟩
              · rw [e5] at e4
                cases e4
              · obtain ⟨uv, hu, ru⟩ := RelO.some_of (v := v) (o := mA (N.fn f)) (by rw [← hv]; exact hrl _)
                exact HandSPX.exc_get I1.kIn J xc.ga xc.gg xc.exC (PySem.W.findObj_own xc.hdC hno rfl (by rw [hl, hu])) (handed_of ru) ⟨v, H1, I1.tok _, ru, out_val st1 ce1 o1 ⟨rfl, hr1⟩⟩
          · cases e3
        | _ => cases e2
      | ins c ns os =>
        have e3 : (if T.fok c f then (match (ns.zip os).lookup f with
          | some (.val d) => some (.val d)
          | _ => none) else none) = some z := e2
        split at e3
        · rename_i hok
          obtain ⟨p, dx, vs, L2, rfl, rfl, h2, h3⟩ := hO
          split at e3
          · rename_i d1 e4
            cases e3
            obtain ⟨v, hv, hr1⟩ := flds_lookO h3 e4
            obtain ⟨k1, k2⟩ := FO c f hok
            exact done rfl ((ce1.perm pm).at_ p _ List.mem_cons_self) k1 k2 hv (out_val st1 ce1 o1 ⟨rfl, hr1⟩)
          · cases e3
        · cases e3
      | lst _ => cases e2
      | dct _ _ => cases e2

/-! ### items -/
theorem atI_rel {G : Hp} {ds : List D} {vs : List V} {k : Int} {d : D} (h : RepL X.K N G ds vs) (e : atI ds k = some d) : ∃ v, atI vs k = some v ∧ Rep X.K N G d v := by
  unfold atI at e ⊢
  rw [← h.len]
  cases q : ixN ds.length k with
  | none => rw [q] at e; cases e
  | some j =>
    rw [q] at e
    exact h.get e
theorem pe_sub' {a i : Expr} {ma mi : M Rv} {pos : Pos} (ha : PE X a (tE X.K N W ma)) (hi : PE X i (tE X.K N W mi)) (hs : PlainIx i) :
    PE X (.Subscript a i pos) (tE X.K N W (bnd (opd ma) fun x => bnd (opd mi) fun y => two subF x y)) := by
  refine pe_two ha hi (g := fun v u => subscriptTail a i v u) Subscript_ fun pins s σ G L H τ Q ra rb x y v u I rx ry st ce h1 h2 out => ?_
  unfold two at out
  cases e1 : res τ ra with
  | none => simp only [e1] at out; exact out.elim
  | some oa =>
    cases e2 : res τ rb with
    | none => simp only [e1, e2] at out; exact out.elim
    | some ob =>
      simp only [e1, e2] at out
      cases e3 : subF oa ob with
      | none => simp only [e3] at out; exact out.elim
      | some z =>
        simp only [e3] at out
        obtain ⟨La, Ra, ha, pa⟩ := res_own st h1 e1
        obtain ⟨Lb, Rb, hb, pb⟩ := res_own st h2 e2
        unfold subF at e3
        split at e3
        · rename_i k
          have ey := own_int hb
          subst ey
          split at e3
          · rename_i zz
            have ex : x = .str zz := ha.2
            subst ex
            split at e3
            · rename_i hl
              cases e4 : atI zz.cps.toList k with
              | none => rw [e4] at e3; cases e3
              | some c =>
                rw [e4] at e3
                cases e3
                exact ix_str a i pins s σ H _ _ v u Q I rx ry ⟨zz, k, c, rfl, rfl, lim_le hl, e4, out_val st ce out ⟨rfl, rfl⟩⟩ (hs _ _)
            · cases e3
          · cases e4 : items oa with
            | none => rw [e4] at e3; cases e3
            | some ds =>
              rw [e4] at e3
              obtain ⟨p, vs, rfl, hq, hr⟩ := items_at ce ha pa e4
              cases e5 : atI ds k with
              | none => simp only [e4, e5] at e3; cases e3
              | some d =>
                simp only [e4, e5] at e3
                cases e3
                obtain ⟨w, hw, hrw⟩ := atI_rel hr e5
                rcases hq with hq | hq
                · exact ix_list a i pins s σ H _ _ v u Q I rx ry ⟨p, vs, k, w, rfl, rfl, hq, hw, out_val st ce out ⟨rfl, hrw⟩⟩ (hs _ _)
                · exact ix_tup a i pins s σ H _ _ v u Q I rx ry ⟨p, vs, k, w, rfl, rfl, hq, hw, out_val st ce out ⟨rfl, hrw⟩⟩ (hs _ _)
        · cases e3

/-! ### parts -/
def OptR (_ : Hp) (_ : L2.St) (a b : Option Int) (Lv : Cl) : Prop := a = b ∧ Lv = []
theorem po_of {e : Expr} {m : M Rv} (h : PE X e (tE X.K N W m)) : PO X (some e) (tM X.K N W OptR (optM m)) := by
  have h1 : PO X (some e) (tPart (tD X.K N W (opd m))) := po_some (pe_opd h)
  refine ⟨fun pins s σ H Q I q => h1.run pins s σ H Q I ?_⟩
  obtain ⟨τ, G, L, st, ce, out⟩ := q
  refine tM_mono (split0 (rel1 := OpR1 X.K N) (fun h => h.1) st ce out) fun x H1 => ?_
  rintro ⟨r, τ1, G1, L1, eG, hr, st1, ce1, o1⟩
  cases e1 : res τ1 r with
  | none => simp only [e1] at o1; exact o1.elim
  | some o =>
    simp only [e1] at o1
    cases e2 : optI o with
    | none => simp only [e2] at o1; exact o1.elim
    | some i =>
      simp only [e2] at o1
      obtain ⟨La, Ra, hO, pm⟩ := res_own st1 hr e1
      unfold optI at e2
      split at e2
      · cases e2
        exact ⟨_, own_int hO, o1 _ G1 [] L1 H1 ⟨rfl, rfl⟩ st1 ce1 Step.refl⟩
      · cases e2
theorem po_no : PO X none (tM X.K N W OptR noPart) := by
  refine ⟨fun pins s σ H Q I q => po_none.run pins s σ H Q I ?_⟩
  obtain ⟨τ, G, L, st, ce, out⟩ := q
  exact out none G [] L H ⟨rfl, rfl⟩ st ce Step.refl
theorem RepL.cut {G : Hp} {ds : List D} {vs : List V} (h : RepL X.K N G ds vs) (lo hi : Option Int) : RepL X.K N G (cutL ds lo hi) (L2.cutV vs lo hi) := by
  unfold cutL L2.cutV
  rw [← h.len]
  exact (h.drop _).take _
/-- an operand behind another one: its own state -/
theorem pe_slice' {a : Expr} {lo hi : Option Expr} {ma : M Rv} {ml mh : M (Option Int)} {pos p2 : Pos} (ha : PE X a (tE X.K N W ma)) (hl : PO X lo (tM X.K N W OptR ml)) (hh : PO X hi (tM X.K N W OptR mh)) :
    PE X (.Subscript a (.Slice lo hi none p2) pos) (tE X.K N W (bnd (opd ma) fun x => bnd ml fun l => bnd mh fun h => un (sliF l h) x)) := by
  refine (pe_slice (sl_list.or sl_str) (pe_opd ha) hl hh).imp fun σ H Q => ?_
  rintro ⟨τ, G, L, st, ce, out⟩
  refine tM_mono (split_op st ce out) fun x H1 => ?_
  rintro ⟨r, τ1, G1, L1, e0, hr, st1, ce1, o1⟩
  refine tM_mono (split0 (rel1 := OptR) (fun h => h.2) st1 ce1 o1) fun l H2 => ?_
  rintro ⟨l', τ2, G2, L2, e2, hl2, st2, ce2, o2⟩
  have el : l' = l := hl2.1
  subst el
  refine tM_mono (split0 (rel1 := OptR) (fun h => h.2) st2 ce2 o2) fun h H3 => ?_
  rintro ⟨h', τ3, G3, L3, e3, hh3, st3, ce3, o3⟩
  have eh : h' = h := hh3.1
  subst eh
  have hr3 := hr.mono (e2.trans e3)
  unfold un at o3
  cases q1 : res τ3 r with
  | none => simp only [q1] at o3; exact o3.elim
  | some o =>
    simp only [q1] at o3
    cases q2 : sliF l' h' o with
    | none => simp only [q2] at o3; exact o3.elim
    | some z =>
      simp only [q2] at o3
      obtain ⟨La, Ra, hO, pm⟩ := res_own st3 hr3 q1
      unfold sliF at q2
      split at q2
      · have ex : x = .str _ := hO.2
        subst ex
        split at q2
        · rename_i hlm
          cases q2
          exact .inr ⟨_, rfl, lim_le hlm, out_val st3 ce3 o3 ⟨rfl, rfl⟩⟩
        · cases q2
      · cases q2
        obtain ⟨p, vs, rfl, h1, h2⟩ := hO.2
        exact .inl ⟨p, vs, rfl, sq_of (ce3.sub _ _ h1), fun p hp => out_new st3 ce3 o3 (h2.cut _ _) hp⟩
      · cases q2
        obtain ⟨p, vs, rfl, h1, h2⟩ := hO.2
        exact .inl ⟨p, vs, rfl, ex_l ce3.sub h1, fun p hp => out_new st3 ce3 o3 (h2.cut _ _) hp⟩
      · rename_i os
        cases q3 : vals os with
        | none => simp only [q3] at q2; cases q2
        | some ds =>
          simp only [q3] at q2
          cases q2
          obtain ⟨p, vs, L4, rfl, rfl, h3⟩ := hO
          have e4 := vals_eq q3
          subst e4
          obtain ⟨rfl, h4⟩ := h3.vals
          exact .inl ⟨p, vs, rfl, sq_of ((ce3.perm pm).at_ p _ List.mem_cons_self), fun p hp => out_new st3 ce3 o3 (h4.cut _ _) hp⟩
      · cases q2

/-! ### isinstance -/
def tkV (N : Nm) : Tk → Value
  | .non => .type "NoneType" | .bl => .type "bool" | .int => .type "int" | .str => .type "str" | .list => .type "list" | .tuple => .type "tuple" | .own c => .ref (N.cad c)
def tyV (N : Nm) : Ty → Value
  | .int => .type "int" | .bool => .type "bool" | .str => .type "str" | .list => .type "list" | .tuple => .type "tuple" | .non => .type "NoneType" | .own c => .ref (N.cad c) | .valueError => .type "ValueError"
def tyW (N : Nm) : Ty → V
  | .int => .ty "int" | .bool => .ty "bool" | .str => .ty "str" | .list => .ty "list" | .tuple => .ty "tuple" | .non => .ty "NoneType" | .own c => .ref (N.cad c) | .valueError => .ty "ValueError"
theorem tyW_cls (t : Ty) : ClsV (tyW N t) (tyV N t) := by cases t <;> constructor
/-- an own class whose instances isinstance may be asked of -/
structure InsC (K : PySem.W.Frag) (C : Addr) : Prop where
  cl : Cls K C
  ha : PySem.W.findIn K (.ref C) "__class__" = some (some (.builtin "object.__class__"))
  hn : PySem.W.specialIn K (.builtin "object.__class__") "__get__" = some (some (.builtin "getset_descriptor.__get__"))
  ht : PySem.W.takesIn K (.builtin "object.__class__") = some true
  hm : PySem.W.mroIn K C (.type "object") = some true
structure IsaOk (X : Cx) (N : Nm) (T : Tb) : Prop where
  kit : ∀ t y b, T.isa t y = some b → PySem.W.kitOne X.K (tkV N t) (tyV N y) = some b
  ins : ∀ c y b, T.isa (.own c) y = some b → InsC X.K (N.cad c)
theorem isaL_any {t : Tk} (IO : IsaOk X N T) : ∀ {ts : List Ty} {b : Bool}, isaL T t ts = some b → PySem.W.kitAny X.K (tkV N t) (ts.map (tyV N)) = some b
  | [], b, h => by
    have e : false = b := Option.some.inj h
    subst e; rfl
  | y :: ys, b, h => by
    unfold isaL at h
    rw [List.map_cons]
    cases q : T.isa t y with
    | none => rw [q] at h; cases h
    | some k =>
      rw [q] at h
      cases k with
      | true =>
        cases h
        exact kitAny_cons (IO.kit _ _ _ q) (fun z => nomatch z) (fun _ => rfl)
      | false => exact kitAny_cons (IO.kit _ _ _ q) (fun _ => isaL_any IO h) (fun z => nomatch z)
theorem tk_ty {σ : L2.St} {G : Hp} {L : Cl} {H : Hp} {o : O} {x : V} {t : Tk} {Lr R : Cl} (ce : Cells G L H) (ho : Own X.K N G o x Lr) (pm : L.Perm (Lr ++ R)) (e : tkO o = some t) (hc : ∀ c, t = .own c → InsC X.K (N.cad c)) : TyX X.K H x (tkV N t) := by
  cases o with
  | val d =>
    obtain ⟨_, h⟩ := ho
    cases d with
    | non => cases e; have : x = .non := h; subst this; exact .base .non
    | bl b => cases e; have : x = .bl b := h; subst this; exact .base (.bl b)
    | int b => cases e; have : x = .int b := h; subst this; exact .base (.int b)
    | str b => cases e; have : x = .str b := h; subst this; exact .base (.str b)
    | tup ds =>
      cases e
      obtain ⟨a, vs, rfl, h1, _⟩ := h
      rcases ex_t ce.sub h1 with (h1 | ⟨o, h1⟩) | ⟨o, its, n, h1, h2, _⟩
      · exact .base (.tup h1)
      · exact .fTuple h1
      · exact .kTuple h1 h2
    | lst ds =>
      cases e
      obtain ⟨a, vs, rfl, h1, _⟩ := h
      exact .base (.lst (ce.sub _ _ h1))
    | kls ds =>
      cases e
      obtain ⟨a, vs, rfl, h1, _⟩ := h
      rcases ex_l ce.sub h1 with (h1 | ⟨o, h1⟩) | ⟨o, its, n, h1, h2, _⟩
      · exact .base (.lst h1)
      · exact .base (.frz h1)
      · exact .kList h1 h2
    | ins c ns ds =>
      cases e
      obtain ⟨a, dx, vs, rfl, h1, _⟩ := h
      have C := hc c rfl
      exact .base (.ins (ce.sub _ _ h1) C.cl C.ha C.hn C.ht C.hm)
    | exc _ _ _ => cases e
    | typ _ => cases e
    | dct _ _ => cases e
  | lst os =>
    cases e
    obtain ⟨a, vs, L1, rfl, rfl, _⟩ := ho
    exact .base (.lst ((ce.perm pm).at_ a _ List.mem_cons_self))
  | ins c ns os =>
    cases e
    obtain ⟨a, dx, vs, L1, rfl, rfl, _⟩ := ho
    have C := hc c rfl
    exact .base (.ins ((ce.perm pm).at_ a _ List.mem_cons_self) C.cl C.ha C.hn C.ht C.hm)
  | dct _ _ => cases e
/-- the class argument: one name, or a tuple of names -/
def TyE (X : Cx) (N : Nm) (e : Expr) (t : Ty) : Prop := PE X e (tC (tyW N t))
/-- what isinstance may be asked of: a value of a known type, or the exception in hand -/
def KV (X : Cx) (N : Nm) (x : V) (H : Hp) (t : Value) : Prop := TyX X.K H x t ∨ (HasE X N ∧ ∃ c ns ds G, Ex G H ∧ Rep X.K N G (.exc c ns ds) x ∧ ExcC X.K (N.cad c) ∧ t = .ref (N.cad c))
theorem KV.kit {pins : List (Addr × Obj)} {s : Shared} {σ : L2.St} {H : Hp} {x : V} {u t : Value} (I : Inv X pins σ H s) (r : RelV x u) (k : KV X N x H t) : ∃ (P : Heap → Prop) (_ : PySem.W.KitX X.K u t P), P s.heap ∧ u ≠ .builtin "__main__.__loader__#opaque" := by
  rcases k with k | ⟨hE, c, ns, ds, G, ex, hR, C, rfl⟩
  · obtain ⟨P, Z, p, hx⟩ := kit_of I r k
    exact ⟨P, Z, p, hx⟩
  · obtain ⟨a, oe, od, rfl, J, _⟩ := exc_at hE hR ex I
    cases (show u = Value.ref a from r)
    exact ⟨_, kitx_e C, J, fun z => nomatch z⟩
def rIs1 (X : Cx) (N : Nm) : List V → Hp → VK → Prop := fun xs H Q => ∃ (x c : V) (t u : Value) (b : Bool), xs = [x, c] ∧ ClsV c u ∧ KV X N x H t ∧ PySem.W.kitOne X.K t u = some b ∧ Q (.bl b) H
def rIsT (X : Cx) (N : Nm) : List V → Hp → VK → Prop := fun xs H Q => ∃ (x : V) (tp : Addr) (cs : List V) (t : Value) (us : List Value) (b : Bool), xs = [x, .ref tp] ∧ H tp = some (.tup cs) ∧ Paired ClsV cs us ∧ KV X N x H t ∧ PySem.W.kitAny X.K t us = some b ∧ Q (.bl b) H
theorem call_is1 : CallR X (.builtin "isinstance") (rIs1 X N) := by
  intro pins s σ H xs us Q I r h
  obtain ⟨x, c, t, u, b, rfl, k, ty, e, q⟩ := h
  obtain ⟨u1, u2, rfl, r1, r2⟩ := vals2 r
  cases k.eq r2
  obtain ⟨P, Z, p, hx⟩ := ty.kit I r1
  exact PySem.W.kia_one Z I.kIn p e hx fun tk => ⟨.bl b, H, I.tok tk, rfl, q⟩
theorem call_isT : CallR X (.builtin "isinstance") (rIsT X N) := by
  intro pins s σ H xs us Q I r h
  obtain ⟨x, tp, cs, t, ws, b, rfl, hT, k, ty, e, q⟩ := h
  obtain ⟨u1, u2, rfl, r1, r2⟩ := vals2 r
  cases (show u2 = Value.ref tp from r2)
  obtain ⟨P, Z, p, hx⟩ := ty.kit I r1
  obtain ⟨_, its, rv, ⟨oc, od, dt, sl⟩, h1, h2, n, h3⟩ := (show ObjOk X.prog X.w H s.heap tp (.tup cs) from I.hok tp _ hT)
  cases ClsV.all k rv
  simp only at h2 h3
  subst h2 h3
  exact PySem.W.kia_tup Z I.kIn p h1 e hx fun tk => ⟨.bl b, H, I.tok tk, rfl, q⟩
def ExmOk (K : PySem.W.Frag) (N : Nm) (T : Tb) : Prop := ∀ c y b, T.exm c y = some b → PySem.W.exmOne K (.ref (N.cad c)) (tyV N y) = some b ∧ PySem.W.kitOne K (.ref (N.cad c)) (tyV N y) = some b ∧ ExcC K (N.cad c)
theorem exL_any {K : PySem.W.Frag} (EO : ExmOk K N T) {c : Nat} : ∀ {ts : List Ty} {b : Bool}, exL T c ts = some b → PySem.W.kitAny K (.ref (N.cad c)) (ts.map (tyV N)) = some b
  | [], b, h => by
    have e : some false = some b := h
    cases e; rfl
  | y :: ys, b, h => by
    unfold exL at h
    cases q : T.exm c y with
    | none => rw [q] at h; cases h
    | some k =>
      rw [q] at h
      cases k with
      | true =>
        cases h
        exact kitAny_cons (EO c y true q).2.1 (fun z => nomatch z) fun _ => rfl
      | false => exact kitAny_cons (EO c y false q).2.1 (fun _ => exL_any EO h) fun z => nomatch z
theorem isin_core {hot : Bool} (IO : IsaOk X N T) (EO : ExmOk X.K N T) (hx : hot = true → HasE X N) {ts : List Ty} {τ : Sto} {r : Rv} {σ : L2.St} {G : Hp} {L : Cl} {H : Hp} {x : V} {Q : VK} (hr : OpR1 X.K N G σ r x []) (st : StoR X.K N G τ σ L) (ce : Cells G L H)
    (out : Out X.K N W (RvR X.K N) σ G L H Q (un (fun o => (isTys T hot o ts).map fun b => .val (.bl b)) r τ)) (hne : ts ≠ []) :
    ∃ t b, KV X N x H t ∧ PySem.W.kitAny X.K t (ts.map (tyV N)) = some b ∧ (∀ y, ts = [y] → PySem.W.kitOne X.K t (tyV N y) = some b) ∧ Q (.bl b) H := by
  unfold un at out
  cases e1 : res τ r with
  | none => simp only [e1] at out; exact out.elim
  | some o =>
    simp only [e1] at out
    unfold isTys at out
    obtain ⟨La, Ra, hO, pm⟩ := res_own st hr e1
    cases e0 : excOf o with
    | some c =>
      simp only [e0] at out
      cases hot with
      | false => simp only [Bool.false_eq_true, if_false] at out; exact out.elim
      | true =>
        simp only [if_true] at out
        cases e3 : exL T c ts with
        | none => simp only [e3] at out; exact out.elim
        | some b =>
          simp only [e3] at out
          obtain ⟨ns, ds, rfl⟩ : ∃ ns ds, o = .val (.exc c ns ds) := by
            cases o with
            | val d => cases d <;> first | (cases e0; exact ⟨_, _, rfl⟩) | cases e0
            | _ => cases e0
          cases ts with
          | nil => exact absurd rfl hne
          | cons y ys =>
            obtain ⟨k, hk⟩ : ∃ k, T.exm c y = some k := by
              unfold exL at e3
              cases q : T.exm c y with
              | none => rw [q] at e3; cases e3
              | some k => exact ⟨k, rfl⟩
            refine ⟨_, b, .inr ⟨hx rfl, c, ns, ds, G, ce.sub, hO.2, (EO c y k hk).2.2, rfl⟩, exL_any EO e3, fun y' ey => ?_, out_val st ce out ⟨rfl, rfl⟩⟩
            cases ey
            unfold exL at e3
            rw [hk] at e3
            cases k with
            | true => cases e3; exact (EO c y true hk).2.1
            | false => cases e3; exact (EO c y false hk).2.1
    | none =>
      simp only [e0] at out
      cases e2 : tkO o with
      | none => simp only [e2] at out; exact out.elim
      | some t =>
        simp only [e2] at out
        cases e3 : isaL T t ts with
        | none => simp only [e3] at out; exact out.elim
        | some b =>
          simp only [e3] at out
          refine ⟨tkV N t, b, .inl (tk_ty (σ := σ) ce hO pm e2 fun c ec => ?_), isaL_any IO e3, fun y ey => ?_, out_val st ce out ⟨rfl, rfl⟩⟩
          · subst ec
            cases ts with
            | nil => exact absurd rfl hne
            | cons y ys =>
              unfold isaL at e3
              cases q : T.isa (.own c) y with
              | none => rw [q] at e3; cases e3
              | some k => exact IO.ins c y k q
          · subst ey
            unfold isaL at e3
            cases q : T.isa t y with
            | none => rw [q] at e3; cases e3
            | some k =>
              rw [q] at e3
              cases k with
              | true => cases e3; exact IO.kit _ _ _ q
              | false => cases e3; exact IO.kit _ _ _ q
theorem pe_isin1 {hot : Bool} (IO : IsaOk X N T) (EO : ExmOk X.K N T) (hx : hot = true → HasE X N) {a c : Expr} {t : Ty} {ma : M Rv} {p pos : Pos} (hg : Gl X "isinstance") (hm : X.mg "isinstance" = none) (ha : PE X a (tE X.K N W ma)) (hc : PE X c (tC (tyW N t))) (na : NoStar X a) (nc : NoStar X c)
    (hpl : (backTo pos (starEach [c] X.env)).any (·.1) = false) :
    PE X (.Call (.Name "isinstance" p) [a, c] [] pos) (tE X.K N W (bnd (opd ma) fun x => un (fun o => (isTys T hot o [t]).map fun b => .val (.bl b)) x)) := by
  refine (pe_callB (call_is1 (N := N)) hg hm (by rfl) (pa_cons (pe_opd ha) (pa_cons hc pa_nil (nc [])) (na [c])) (he := na [c]) (hpl := hpl)).imp fun σ H Q => ?_
  rintro ⟨τ, G, L, st, ce, out⟩
  refine tM_mono (split_op st ce out) fun x H1 => ?_
  rintro ⟨r, τ1, G1, L1, e0, hr, st1, ce1, o1⟩
  obtain ⟨tv, b, h1, _, h3, h4⟩ := isin_core IO EO hx hr st1 ce1 o1 (List.cons_ne_nil _ _)
  exact ⟨x, tyW N t, tv, tyV N t, b, rfl, tyW_cls t, h1, h3 t rfl, h4⟩
end
end Tw
set_option maxHeartbeats 2000000
/-! The tree walk, part 8: built-in functions, isinstance of several classes. -/
namespace Tw
open PySem PySem.Spec PyProof.Rows L2 Evl
theorem Cells.junk {G : Hp} {L : Cl} {H : Hp} {p : Addr} {o : HO} (c : Cells G L H) (hp : H p = none) : Cells G L (upd H p o) where
  nd := c.nd
  at_ := fun a u h => by
    rw [upd_ne (ne_of_none (c.at_ a u h) hp)]
    exact c.at_ a u h
  out := c.out
  sub := c.sub.trans (Ex.new hp)
theorem Step.junk {G : Hp} {L : Cl} {H : Hp} {p : Addr} {o : HO} (hp : H p = none) : Step G L H G L (upd H p o) where
  ex := Ex.refl G
  frame := fun a u h _ => by
    rw [upd_ne (ne_of_none h hp)]
    exact h
  loc := fun a u h => .inl ⟨u, h⟩
  new := fun a h => .inl h
section
variable {X : Cx} {N : Nm} {T : Tb} {cl : CallT} {W : WX}
theorem pa_tys : ∀ {cs : List Expr} {ts : List Ty}, (∀ c ∈ cs, NoStar X c) → Paired (fun c t => PE X c (tC (tyW N t))) cs ts → PA X cs (fun _ H Q => Q (ts.map (tyW N)) H)
  | _, _, _, .nil => pa_nil
  | c :: cs, t :: ts, hn, .cons h r => (pa_cons h (pa_tys (fun c hc => hn c (List.mem_cons_of_mem _ hc)) r) (hn c List.mem_cons_self cs)).imp fun σ H Q q => q
theorem cls_all : ∀ ts : List Ty, Paired ClsV (ts.map (tyW N)) (ts.map (tyV N))
  | [] => .nil
  | t :: ts => .cons (tyW_cls t) (cls_all ts)
theorem pe_isinT {hot : Bool} (IO : IsaOk X N T) (EO : ExmOk X.K N T) (hx : hot = true → HasE X N) {a : Expr} {cs : List Expr} {x1} {ts : List Ty} {ma : M Rv} {p pos pos2 : Pos} (hg : Gl X "isinstance") (hm : X.mg "isinstance" = none) (ha : PE X a (tE X.K N W ma)) (hcs : Paired (fun c t => PE X c (tC (tyW N t))) cs ts)
    (na : NoStar X a) (nc : ∀ c ∈ cs, NoStar X c) (nt : NoStar X (.Tuple cs x1 pos2)) (hpl : (backTo pos (starEach [.Tuple cs x1 pos2] X.env)).any (·.1) = false) (hl : ts.length ≤ lim) (hne : ts ≠ []) :
    PE X (.Call (.Name "isinstance" p) [a, .Tuple cs x1 pos2] [] pos) (tE X.K N W (bnd (opd ma) fun x => un (fun o => (isTys T hot o ts).map fun b => .val (.bl b)) x)) := by
  refine (pe_callB (call_isT (N := N)) hg hm (by rfl) (pa_cons (pe_opd ha) (pa_cons (pe_tup (pa_tys nc hcs)) pa_nil (nt [])) (na [_])) (he := na [_]) (hpl := hpl)).imp fun σ H Q => ?_
  rintro ⟨τ, G, L, st, ce, out⟩
  refine tM_mono (split_op st ce out) fun x H1 => ?_
  rintro ⟨r, τ1, G1, L1, e0, hr, st1, ce1, o1⟩
  refine ⟨by rw [List.length_map]; exact lim_le hl, fun q hq => ?_⟩
  obtain ⟨tv, b, h1, h2, _, h4⟩ := isin_core IO EO hx hr st1 (ce1.junk (o := .tup (ts.map (tyW N))) hq) (o1.later (Step.junk (o := .tup (ts.map (tyW N))) hq)) hne
  exact ⟨x, q, ts.map (tyW N), tv, ts.map (tyV N), b, rfl, upd_same, cls_all ts, h1, h2, h4⟩

/-! ### built-in functions -/
def biN : Bi → String
  | .len => "len" | .abs => "abs" | .int => "int" | .bool => "bool" | .str => "str" | .max2 => "max" | .min2 => "min" | .sum => "sum" | .list => "list" | .tuple => "tuple" | .isqrt => "math.isqrt" | .gcd => "math.gcd"
theorem call_isqrt : CallR X (.builtin "math.isqrt") (fun vs H Q => ∃ a : Int, vs = [.int a] ∧ 0 ≤ a ∧ a.toNat.log2 < 13000 ∧ Q (.int ((Float64.isqrt a.toNat : Nat) : Int)) H) := by
  intro pins s σ H vs us Q I r h
  obtain ⟨a, rfl, h0, h1, q⟩ := h
  obtain ⟨u, rfl, t, rfl⟩ := vals1 r
  exact PySem.call_function_meets PySem.W.MGF.kind_isqrt PySem.W.MGF.plain_isqrt PySem.W.MGF.entry_isqrt (PySem.W.MGF.args_isqrt _) (PySem.W.mg_run_isqrt a t (by omega) (by omega) (by omega)).meets ⟨.int _, H, I.tok _, ⟨_, rfl⟩, q⟩
theorem intsD_eq : ∀ {ds : List D} {is : List Int}, intsD ds = some is → ds = is.map .int
  | [], is, h => by
    have e : ([] : List Int) = is := Option.some.inj h
    subst e; rfl
  | .int i :: r, is, h => by
    unfold intsD at h
    cases q : intsD r with
    | none => rw [q] at h; cases h
    | some es =>
      rw [q] at h
      have e : i :: es = is := Option.some.inj h
      subst e
      rw [intsD_eq q]; rfl
  | .non :: _, _, h => by cases h
  | .bl _ :: _, _, h => by cases h
  | .str _ :: _, _, h => by cases h
  | .tup _ :: _, _, h => by cases h
  | .lst _ :: _, _, h => by cases h
  | .kls _ :: _, _, h => by cases h
  | .ins _ _ _ :: _, _, h => by cases h
  | .exc _ _ _ :: _, _, h => by cases h
theorem repL_ints {G : Hp} : ∀ {is : List Int} {vs : List V}, RepL X.K N G (is.map .int) vs → vs = is.map V.int
  | [], vs, h => h
  | i :: is, vs, h => by
    obtain ⟨v, r, rfl, h2, h3⟩ := h
    rw [repL_ints h3, show v = .int i from h2]; rfl
theorem items_list {o : O} {x : V} {G : Hp} {L : Cl} {H : Hp} {Lr R : Cl} {ds : List D} (ce : Cells G L H) (ho : Own X.K N G o x Lr) (pm : L.Perm (Lr ++ R)) (e : items o = some ds) (hn : ∀ xs, o ≠ .val (.tup xs)) :
    ∃ p vs, x = .ref p ∧ SqL X.K H p vs ∧ RepL X.K N G ds vs := by
  cases o with
  | val d =>
    cases d with
    | lst xs =>
      cases e
      obtain ⟨a, vs, rfl, h2, h3⟩ := ho.2
      exact ⟨a, vs, rfl, sq_of (ce.sub _ _ h2), h3⟩
    | kls xs =>
      cases e
      obtain ⟨a, vs, rfl, h2, h3⟩ := ho.2
      exact ⟨a, vs, rfl, ex_l ce.sub h2, h3⟩
    | tup xs => exact absurd rfl (hn xs)
    | _ => cases e
  | lst os =>
    obtain ⟨a, vs, L1, rfl, rfl, h3⟩ := ho
    have e1 := vals_eq e
    subst e1
    obtain ⟨rfl, h4⟩ := h3.vals
    exact ⟨a, vs, rfl, sq_of ((ce.perm pm).at_ a _ List.mem_cons_self), h4⟩
  | ins _ _ _ => cases e
  | dct _ _ => cases e
/-- what a call of it must be -/
def biV (b : Bi) : Value := match b with
  | .int => .type "int" | .bool => .type "bool" | .str => .type "str" | .list => .type "list" | .tuple => .type "tuple"
  | b => .builtin (biN b)
def BiOk (X : Cx) (N : Nm) (W : WX) (b : Bi) : Prop := CallR X (biV b) (fun vs H Q => ∃ (rs : List Rv) (τ : Sto) (σ : L2.St) (G : Hp) (L : Cl), OpsR X.K N G σ rs vs [] ∧ StoR X.K N G τ σ L ∧ Cells G L H ∧ Out X.K N W (RvR X.K N) σ G L H Q (many (biF b) rs τ))
theorem CallR.imp {f : Value} {r r' : List V → Hp → VK → Prop} (h : CallR X f r) (i : ∀ vs H Q, r' vs H Q → r vs H Q) : CallR X f r' := fun pins s σ H xs us Q I rv q => h pins s σ H xs us Q I rv (i _ _ _ q)
theorem CallR.or {f : Value} {r r' : List V → Hp → VK → Prop} (h : CallR X f r) (h' : CallR X f r') : CallR X f (fun vs H Q => r vs H Q ∨ r' vs H Q) := fun pins s σ H xs us Q I rv q => q.elim (h pins s σ H xs us Q I rv) (h' pins s σ H xs us Q I rv)
theorem ress1 {τ : Sto} {rs : List Rv} {a : O} {σ : L2.St} {G : Hp} {L : Cl} {vs : List V} (st : StoR X.K N G τ σ L) (h : OpsR X.K N G σ rs vs []) (e : ress τ rs = some [a]) : ∃ x Lr R, vs = [x] ∧ Own X.K N G a x Lr ∧ L.Perm (Lr ++ R) := by
  cases rs with
  | nil => simp [ress] at e
  | cons r rs =>
    obtain ⟨_, x, xs, rfl, h2, h3⟩ := h
    unfold ress at e
    cases q : res τ r with
    | none => rw [q] at e; simp at e
    | some o =>
      cases q2 : ress τ rs with
      | none => rw [q, q2] at e; simp at e
      | some os =>
        rw [q, q2] at e
        simp only [Option.some.injEq, List.cons.injEq] at e
        obtain ⟨rfl, rfl⟩ := e
        obtain ⟨Lr, R, ho, pm⟩ := res_own st h2 q
        cases rs with
        | nil =>
          obtain ⟨rfl, _⟩ := h3
          exact ⟨x, Lr, R, rfl, ho, pm⟩
        | cons r2 rs =>
          unfold ress at q2
          split at q2 <;> cases q2
theorem ress2 {τ : Sto} {rs : List Rv} {a b : O} {σ : L2.St} {G : Hp} {L : Cl} {vs : List V} (st : StoR X.K N G τ σ L) (h : OpsR X.K N G σ rs vs []) (e : ress τ rs = some [a, b]) :
    ∃ x y La Ra Lb Rb, vs = [x, y] ∧ Own X.K N G a x La ∧ L.Perm (La ++ Ra) ∧ Own X.K N G b y Lb ∧ L.Perm (Lb ++ Rb) := by
  cases rs with
  | nil => simp [ress] at e
  | cons r rs =>
    obtain ⟨_, x, xs, rfl, h2, h3⟩ := h
    unfold ress at e
    cases q : res τ r with
    | none => rw [q] at e; simp at e
    | some o =>
      cases q2 : ress τ rs with
      | none => rw [q, q2] at e; simp at e
      | some os =>
        rw [q, q2] at e
        simp only [Option.some.injEq, List.cons.injEq] at e
        obtain ⟨rfl, rfl⟩ := e
        obtain ⟨La, Ra, ho, pm⟩ := res_own st h2 q
        obtain ⟨y, Lb, Rb, rfl, hb, pb⟩ := ress1 st h3 q2
        exact ⟨x, y, La, Ra, Lb, Rb, rfl, ho, pm, hb, pb⟩
theorem many_cases {b : Bi} {rs : List Rv} {τ : Sto} {σ : L2.St} {G : Hp} {L : Cl} {H : Hp} {Q : VK} (out : Out X.K N W (RvR X.K N) σ G L H Q (many (biF b) rs τ)) : ∃ os z, ress τ rs = some os ∧ biF b os = some z ∧ Out X.K N W (RvR X.K N) σ G L H Q (.ok (.own z) τ) := by
  unfold many at out
  cases e1 : ress τ rs with
  | none => simp only [e1] at out; exact out.elim
  | some os =>
    simp only [e1] at out
    cases e2 : biF b os with
    | none => simp only [e2] at out; exact out.elim
    | some z =>
      simp only [e2] at out
      exact ⟨os, z, rfl, e2, out⟩
theorem bi_ok (hc : X.calm = true) (b : Bi) : BiOk X N W b := by
  cases b with
  | len =>
    refine CallR.imp call_len fun vs H Q => ?_
    rintro ⟨rs, τ, σ, G, L, hr, st, ce, out⟩
    obtain ⟨os, z, e1, e2, o2⟩ := many_cases out
    unfold biF at e2
    split at e2 <;> try (rename_i hb; cases hb)
    · obtain ⟨x, La, Ra, rfl, ha, pa⟩ := ress1 st hr e1
      split at e2
      · rename_i hl
        cases e2
        have ex : x = .str _ := ha.2
        subst ex
        exact ⟨_, _, rfl, ⟨lim_le hl, rfl⟩, out_val st ce o2 ⟨rfl, rfl⟩⟩
      · cases e2
    · obtain ⟨x, La, Ra, rfl, ha, pa⟩ := ress1 st hr e1
      cases e2
      obtain ⟨p, vs, rfl, h1, h2⟩ := items_list ce ha pa rfl (fun _ z => nomatch z)
      exact ⟨_, _, rfl, .inl ⟨vs, h1, h2.len⟩, out_val st ce o2 ⟨rfl, rfl⟩⟩
    · obtain ⟨x, La, Ra, rfl, ha, pa⟩ := ress1 st hr e1
      cases e2
      obtain ⟨p, vs, rfl, h1, h2⟩ := items_list ce ha pa rfl (fun _ z => nomatch z)
      exact ⟨_, _, rfl, .inl ⟨vs, h1, h2.len⟩, out_val st ce o2 ⟨rfl, rfl⟩⟩
    · obtain ⟨x, La, Ra, rfl, ha, pa⟩ := ress1 st hr e1
      cases e2
      obtain ⟨p, vs, rfl, h1, h2⟩ := ha.2
      exact ⟨_, _, rfl, .inr ⟨vs, ex_t ce.sub h1, h2.len⟩, out_val st ce o2 ⟨rfl, rfl⟩⟩
    · obtain ⟨x, La, Ra, rfl, ha, pa⟩ := ress1 st hr e1
      cases e2
      obtain ⟨p, vs, L1, rfl, rfl, h3⟩ := ha
      exact ⟨_, _, rfl, .inl ⟨vs, sq_of ((ce.perm pa).at_ p _ List.mem_cons_self), h3.len⟩, out_val st ce o2 ⟨rfl, rfl⟩⟩
    · cases e2
  | abs =>
    refine CallR.imp call_abs fun vs H Q => ?_
    rintro ⟨rs, τ, σ, G, L, hr, st, ce, out⟩
    obtain ⟨os, z, e1, e2, o2⟩ := many_cases out
    unfold biF at e2
    split at e2 <;> try (rename_i hb; cases hb)
    · obtain ⟨x, La, Ra, rfl, ha, pa⟩ := ress1 st hr e1
      cases e2
      rename_i i
      refine ⟨i, by rw [own_int ha], out_val st ce o2 ⟨rfl, ?_⟩⟩
      show V.int _ = V.int _
      congr 1
      split <;> omega
    · cases e2
  | int =>
    refine CallR.imp (CallR.or call_int1 call_int_str) fun vs H Q => ?_
    rintro ⟨rs, τ, σ, G, L, hr, st, ce, out⟩
    obtain ⟨os, z, e1, e2, o2⟩ := many_cases out
    unfold biF at e2
    split at e2 <;> try (rename_i hb; cases hb)
    · obtain ⟨x, La, Ra, rfl, ha, pa⟩ := ress1 st hr e1
      cases e2
      exact .inl (.inl ⟨_, by rw [own_int ha], out_val st ce o2 ⟨rfl, rfl⟩⟩)
    · obtain ⟨x, La, Ra, rfl, ha, pa⟩ := ress1 st hr e1
      cases e2
      exact .inl (.inr ⟨_, by rw [show x = .bl _ from ha.2], out_val st ce o2 ⟨rfl, rfl⟩⟩)
    · obtain ⟨x, La, Ra, rfl, ha, pa⟩ := ress1 st hr e1
      split at e2
      · rename_i hl
        obtain ⟨n, hn, rfl⟩ := Option.map_eq_some_iff.mp e2
        exact .inr ⟨_, n, by rw [show x = .str _ from ha.2], hn, hl, out_val st ce o2 ⟨rfl, rfl⟩⟩
      · cases e2
    · cases e2
  | bool =>
    refine CallR.imp call_bool1 fun vs H Q => ?_
    rintro ⟨rs, τ, σ, G, L, hr, st, ce, out⟩
    obtain ⟨os, z, e1, e2, o2⟩ := many_cases out
    unfold biF at e2
    split at e2 <;> try (rename_i hb; cases hb)
    · obtain ⟨x, La, Ra, rfl, ha, pa⟩ := ress1 st hr e1
      cases e2
      exact .inl ⟨_, by rw [own_int ha], out_val st ce o2 ⟨rfl, rfl⟩⟩
    · obtain ⟨x, La, Ra, rfl, ha, pa⟩ := ress1 st hr e1
      cases e2
      exact .inr ⟨_, by rw [show x = .bl _ from ha.2], out_val st ce o2 ⟨rfl, rfl⟩⟩
    · cases e2
  | str =>
    refine CallR.imp call_str_int fun vs H Q => ?_
    rintro ⟨rs, τ, σ, G, L, hr, st, ce, out⟩
    obtain ⟨os, z, e1, e2, o2⟩ := many_cases out
    unfold biF at e2
    split at e2 <;> try (rename_i hb; cases hb)
    · obtain ⟨x, La, Ra, rfl, ha, pa⟩ := ress1 st hr e1
      split at e2
      · rename_i hl
        cases e2
        exact ⟨_, by rw [own_int ha], hl, out_val st ce o2 ⟨rfl, rfl⟩⟩
      · cases e2
    · cases e2
  | max2 =>
    refine CallR.imp (call_max2 hc) fun vs H Q => ?_
    rintro ⟨rs, τ, σ, G, L, hr, st, ce, out⟩
    obtain ⟨os, z, e1, e2, o2⟩ := many_cases out
    unfold biF at e2
    split at e2 <;> try (rename_i hb; cases hb)
    · obtain ⟨x, y, La, Ra, Lb, Rb, rfl, ha, pa, hb, pb⟩ := ress2 st hr e1
      cases e2
      exact ⟨_, _, by rw [own_int ha, own_int hb], out_val st ce o2 ⟨rfl, rfl⟩⟩
    · cases e2
  | min2 =>
    refine CallR.imp (call_min2 hc) fun vs H Q => ?_
    rintro ⟨rs, τ, σ, G, L, hr, st, ce, out⟩
    obtain ⟨os, z, e1, e2, o2⟩ := many_cases out
    unfold biF at e2
    split at e2 <;> try (rename_i hb; cases hb)
    · obtain ⟨x, y, La, Ra, Lb, Rb, rfl, ha, pa, hb, pb⟩ := ress2 st hr e1
      cases e2
      exact ⟨_, _, by rw [own_int ha, own_int hb], out_val st ce o2 ⟨rfl, rfl⟩⟩
    · cases e2
  | sum =>
    refine CallR.imp (cr_sum hc) fun vs H Q => ?_
    rintro ⟨rs, τ, σ, G, L, hr, st, ce, out⟩
    obtain ⟨os, z, e1, e2, o2⟩ := many_cases out
    unfold biF at e2
    split at e2 <;> try (rename_i hb; cases hb)
    · obtain ⟨x, La, Ra, rfl, ha, pa⟩ := ress1 st hr e1
      split at e2
      · cases e2
      · rename_i hn
        split at e2
        · rename_i xs e3
          cases e4 : intsD xs with
          | none => rw [e4] at e2; cases e2
          | some is =>
            rw [e4] at e2
            cases e2
            obtain ⟨p, vs, rfl, h1, h2⟩ := items_list ce ha pa e3 (fun ys z => hn ys z)
            rw [intsD_eq e4] at h2
            rw [repL_ints h2] at h1
            exact ⟨p, is, rfl, h1, out_val st ce o2 ⟨rfl, rfl⟩⟩
        · cases e2
    · cases e2
  | list =>
    refine CallR.imp call_list_of fun vs H Q => ?_
    rintro ⟨rs, τ, σ, G, L, hr, st, ce, out⟩
    obtain ⟨os, z, e1, e2, o2⟩ := many_cases out
    unfold biF at e2
    split at e2 <;> try (rename_i hb; cases hb)
    · obtain ⟨x, La, Ra, rfl, ha, pa⟩ := ress1 st hr e1
      rename_i a
      cases e3 : items a with
      | none => rw [e3] at e2; cases e2
      | some xs =>
        rw [e3] at e2
        cases e2
        obtain ⟨p, vs, rfl, h1, h2⟩ := items_at ce ha pa e3
        exact ⟨p, vs, rfl, h1, fun q hq => out_new st ce o2 h2 hq⟩
    · cases e2
  | tuple =>
    refine CallR.imp call_tuple_of fun vs H Q => ?_
    rintro ⟨rs, τ, σ, G, L, hr, st, ce, out⟩
    obtain ⟨os, z, e1, e2, o2⟩ := many_cases out
    unfold biF at e2
    split at e2 <;> try (rename_i hb; cases hb)
    · obtain ⟨x, La, Ra, rfl, ha, pa⟩ := ress1 st hr e1
      split at e2
      · cases e2
        obtain ⟨p, vs, rfl, h1, h2⟩ := ha.2
        exact ⟨p, vs, rfl, .inr ⟨ex_t ce.sub h1, out_val st ce o2 ⟨rfl, p, vs, rfl, h1, h2⟩⟩⟩
      · obtain ⟨xs, e3, rfl⟩ := Option.map_eq_some_iff.mp e2
        rename_i hn
        obtain ⟨p, vs, rfl, h1, h2⟩ := items_list ce ha pa e3 (fun ys z => hn ys z)
        exact ⟨p, vs, rfl, .inl ⟨h1, fun q hq => out_tup st ce o2 h2 hq⟩⟩
    · cases e2
  | isqrt =>
    refine CallR.imp call_isqrt fun vs H Q => ?_
    rintro ⟨rs, τ, σ, G, L, hr, st, ce, out⟩
    obtain ⟨os, z, e1, e2, o2⟩ := many_cases out
    unfold biF at e2
    split at e2 <;> try (rename_i hb; cases hb)
    · obtain ⟨x, La, Ra, rfl, ha, pa⟩ := ress1 st hr e1
      split at e2
      · rename_i hl
        cases e2
        exact ⟨_, by rw [own_int ha], hl.1, hl.2, out_val st ce o2 ⟨rfl, rfl⟩⟩
      · cases e2
    · cases e2
  | gcd =>
    refine CallR.imp cr_gcd fun vs H Q => ?_
    rintro ⟨rs, τ, σ, G, L, hr, st, ce, out⟩
    obtain ⟨os, z, e1, e2, o2⟩ := many_cases out
    unfold biF at e2
    split at e2 <;> try (rename_i hb; cases hb)
    · obtain ⟨x, y, La, Ra, Lb, Rb, rfl, ha, pa, hb, pb⟩ := ress2 st hr e1
      cases e2
      exact ⟨_, _, by rw [own_int ha, own_int hb], out_val st ce o2 ⟨rfl, rfl⟩⟩
    · cases e2
theorem un_biV {b : Bi} {u : Un} {v : Value} (h : unB b = some u) : unPy u v = call (biV b) [v] := by
  cases b <;> cases h <;> rfl
end
end Tw
set_option maxHeartbeats 2000000
/-! The tree walk, part 9: calls. -/
namespace Tw
open PySem PySem.Spec PyProof.Rows L2 Evl
/-- what a def promises: what its tree walk says -/
def spF (K : PySem.W.Frag) (N : Nm) (cl : CallT) (f n : Nat) : Sp := fun vs H Q E => vs.length = n ∧ ∃ (G : Hp) (L : Cl) (os : List O), OwnL K N G os vs L ∧ Cells G L H ∧ match cl f os with
  | .ok o os' => ∀ v G' Lv L' H', Own K N G' o v Lv → OwnL K N G' os' vs L' → Cells G' (Lv ++ L') H' → Step G L H G' (Lv ++ L') H' → Q v H'
  | .ex x os' => ∀ cls d G' L' H', ExR K N x cls d G' → OwnL K N G' os' vs L' → Cells G' L' H' → Step G L H G' L' H' → E cls d H'
  | .bad => False
theorem perm3 {α : Type} (A B C : List α) : (A ++ (B ++ C)).Perm (B ++ (A ++ C)) := by
  rw [← List.append_assoc, ← List.append_assoc]
  exact List.Perm.append_right _ List.perm_append_comm
theorem set_same {σ : L2.St} {i : Nat} {v : V} (h : σ[i]? = some (some v)) : σ.set i (some v) = σ := by
  apply List.ext_getElem?
  intro j
  by_cases hj : i = j
  · subst hj
    by_cases hl : i < σ.length
    · rw [List.getElem?_set_self hl, h]
    · rw [List.getElem?_eq_none (by simpa using hl), List.getElem?_eq_none (by simpa using hl)]
  · rw [List.getElem?_set_ne hj]
section
variable {K : PySem.W.Frag} {N : Nm}
theorem take_rel {σ : L2.St} {G : Hp} : ∀ {rs : List Rv} {vs : List V} {τ τ1 : Sto} {L : Cl} {os : List O}, OpsR K N G σ rs vs [] → StoR K N G τ σ L → take τ rs = some (os, τ1) →
    ∃ La Lr, L.Perm (La ++ Lr) ∧ OwnL K N G os vs La ∧ StoR K N G τ1 σ Lr
  | [], vs, τ, τ1, L, os, h, st, e => by
    obtain ⟨rfl, _⟩ := h
    have e' : some (([] : List O), τ) = some (os, τ1) := e
    cases e'
    exact ⟨[], L, List.Perm.refl _, ⟨rfl, rfl⟩, st⟩
  | r :: rs, vs, τ, τ1, L, os, h, st, e => by
    obtain ⟨_, v, r', rfl, h2, h3⟩ := h
    cases r with
    | own o =>
      have e' : (take τ rs).map (fun p => (o :: p.1, p.2)) = some (os, τ1) := e
      obtain ⟨⟨os2, τ2⟩, e1, e2⟩ := Option.map_eq_some_iff.mp e'
      cases e2
      obtain ⟨La, Lr, pm, hO, st2⟩ := take_rel h3 st e1
      cases o with
      | val d => exact ⟨La, Lr, pm, ⟨v, r', [], La, rfl, rfl, ⟨rfl, h2.2⟩, hO⟩, st2⟩
      | lst _ => exact h2.2.elim
      | ins _ _ _ => exact h2.2.elim
      | dct _ _ => exact h2.2.elim
    | slot i =>
      simp only [take] at e
      cases q : τ[i]? with
      | none => simp only [q] at e; cases e
      | some oo =>
        cases oo with
        | none => simp only [q] at e; cases e
        | some o =>
          obtain ⟨A, B, C, v', rfl, hv, hO, st2, _⟩ := st.at q
          have h2' : σ[i]? = some (some v) := h2.2
          rw [hv] at h2'
          cases h2'
          have own : ∀ {o}, Own K N G o v B → (take (τ.set i none) rs).map (fun p => (o :: p.1, p.2)) = some (os, τ1) → ∃ La Lr, (A ++ (B ++ C)).Perm (La ++ Lr) ∧ OwnL K N G os (v :: r') La ∧ StoR K N G τ1 σ Lr := by
            intro o hO e
            obtain ⟨⟨os2, τ2⟩, e1, e2⟩ := Option.map_eq_some_iff.mp e
            cases e2
            obtain ⟨La, Lr, pm, hO2, st3⟩ := take_rel h3 st2 e1
            refine ⟨B ++ La, Lr, ?_, ⟨v, r', B, La, rfl, rfl, hO, hO2⟩, st3⟩
            refine (perm3 A B C).trans ?_
            rw [List.append_assoc]
            exact List.Perm.append_left _ pm
          cases o with
          | val d =>
            simp only [q] at e
            obtain ⟨⟨os2, τ2⟩, e1, e2⟩ := Option.map_eq_some_iff.mp e
            cases e2
            obtain ⟨La, Lr, pm, hO2, st3⟩ := take_rel h3 st e1
            exact ⟨La, Lr, pm, ⟨v, r', [], La, rfl, rfl, ⟨rfl, hO.2⟩, hO2⟩, st3⟩
          | lst xs =>
            simp only [q] at e
            exact own hO e
          | ins c ns xs =>
            simp only [q] at e
            exact own hO e
          | dct ks xs =>
            simp only [q] at e
            exact own hO e
theorem back_rel {σ : L2.St} {G : Hp} : ∀ {rs : List Rv} {vs : List V} {τ τ2 : Sto} {Lr L' : Cl} {os os' : List O} {G0 : Hp}, OpsR K N G0 σ rs vs [] → StoR K N G τ σ Lr → OwnL K N G os' vs L' → back τ rs os os' = some τ2 →
    ∃ Lx Ly, (L' ++ Lr).Perm (Lx ++ Ly) ∧ StoR K N G τ2 σ Lx
  | [], vs, τ, τ2, Lr, L', os, os', G0, h, st, hO, e => by
    cases os with
    | nil =>
      cases os' with
      | nil =>
        have e' : some τ = some τ2 := e
        cases e'
        exact ⟨Lr, L', List.perm_append_comm, st⟩
      | cons _ _ => simp [back] at e
    | cons _ _ => simp [back] at e
  | r :: rs, vs, τ, τ2, Lr, L', os, os', G0, h, st, hO, e => by
    obtain ⟨_, v, r', rfl, h2, h3⟩ := h
    cases os with
    | nil => cases r <;> simp [back] at e
    | cons o os =>
      cases os' with
      | nil => cases r <;> simp [back] at e
      | cons o' os' =>
        obtain ⟨v2, r2, L1, L2, e1, rfl, hO1, hO2⟩ := hO
        cases e1
        have skip : back τ rs os os' = some τ2 → ∃ Lx Ly, (L1 ++ L2 ++ Lr).Perm (Lx ++ Ly) ∧ StoR K N G τ2 σ Lx := by
          intro e
          obtain ⟨Lx, Ly, pm, st2⟩ := back_rel h3 st hO2 e
          refine ⟨Lx, L1 ++ Ly, ?_, st2⟩
          rw [List.append_assoc]
          exact (List.Perm.append_left L1 pm).trans (perm3 L1 Lx Ly)
        cases r with
        | own _ => exact skip e
        | slot i =>
          have hv : σ[i]? = some (some v) := h2.2
          have fill : (match τ[i]? with
              | some none => back (τ.set i (some o')) rs os os'
              | _ => none) = some τ2 → ∃ Lx Ly, (L1 ++ L2 ++ Lr).Perm (Lx ++ Ly) ∧ StoR K N G τ2 σ Lx := by
            intro e
            cases q : τ[i]? with
            | none => simp only [q] at e; cases e
            | some oo =>
              cases oo with
              | some _ => simp only [q] at e; cases e
              | none =>
                simp only [q] at e
                obtain ⟨A, C, rfl, st2⟩ := st.fill (i := i) (List.getElem?_eq_some_iff.mp q).1 q hO1
                rw [set_same hv] at st2
                obtain ⟨Lx, Ly, pm, st3⟩ := back_rel h3 st2 hO2 e
                refine ⟨Lx, Ly, List.Perm.trans ?_ pm, st3⟩
                -- L1 ++ L2 ++ (A ++ C) ~ L2 ++ (A ++ (L1 ++ C))
                rw [List.append_assoc]
                refine (perm3 L1 L2 (A ++ C)).trans ?_
                exact List.Perm.append_left L2 (perm3 L1 A C)
          cases o with
          | val _ => exact skip e
          | lst _ => exact fill e
          | ins _ _ _ => exact fill e
          | dct _ _ => exact fill e
theorem perm_cells {G G' : Hp} {L La Lr Lx Ly Lv L' : Cl} {H H' : Hp} (p0 : L.Perm (La ++ Lr)) (c0 : Cells G L H) (sp : Step G La H G' (Lv ++ L') H') (c1 : Cells G' (Lv ++ L') H') (p1 : (L' ++ Lr).Perm (Lx ++ Ly)) :
    Cells G' (Lv ++ Lx) H' ∧ Step G L H G' (Lv ++ Lx) H' := by
  obtain ⟨s2, c2⟩ := sp.aside (c0.perm p0) c1
  have p2 : (Lv ++ L' ++ Lr).Perm ((Lv ++ Lx) ++ Ly) := by
    rw [List.append_assoc, List.append_assoc]
    exact List.Perm.append_left Lv p1
  exact ⟨(c2.perm p2).left, (s2.perm p0.symm p2).sub fun p hp => List.mem_append_left _ hp⟩
end
section
variable {X : Cx} {N : Nm} {T : Tb} {cl : CallT} {W : WX}
/-- from a call's tree walk to the def's promise -/
theorem call_core {f : Nat} {rs : List Rv} {vs : List V} {σ : L2.St} {G : Hp} {L : Cl} {H : Hp} {τ : Sto} {Q : VK} (hr : OpsR X.K N G σ rs vs []) (st : StoR X.K N G τ σ L) (ce : Cells G L H)
    (out : Out X.K N W (RvR X.K N) σ G L H Q (doCall cl f rs τ)) {n : Nat} (hn : ∀ os, cl f os ≠ .bad → os.length = n) : spF X.K N cl f n vs H Q (fun cls d H' => W cls d σ H') := by
  unfold doCall at out
  cases e1 : take τ rs with
  | none => simp only [e1] at out; exact out.elim
  | some p =>
    obtain ⟨os, τ1⟩ := p
    simp only [e1] at out
    obtain ⟨La, Lr, pm, hO, st1⟩ := take_rel hr st e1
    cases e2 : cl f os with
    | bad => simp only [e2] at out; exact out.elim
    | ok o os' =>
      simp only [e2] at out
      refine ⟨by rw [← hO.len]; exact hn os (by rw [e2]; exact fun z => nomatch z), G, La, os, hO, (ce.perm pm).left, ?_⟩
      simp only [e2]
      intro v G' Lv L' H' hv hO' ce' sp
      cases e3 : back τ1 rs os os' with
      | none => simp only [e3] at out; exact out.elim
      | some τ2 =>
        simp only [e3] at out
        obtain ⟨Lx, Ly, p1, st2⟩ := back_rel hr (st1.mono sp.ex) hO' e3
        obtain ⟨c2, s2⟩ := perm_cells pm ce sp ce' p1
        exact out v G' Lv Lx H' hv st2 c2 s2
    | ex x os' =>
      simp only [e2] at out
      refine ⟨by rw [← hO.len]; exact hn os (by rw [e2]; exact fun z => nomatch z), G, La, os, hO, (ce.perm pm).left, ?_⟩
      simp only [e2]
      intro cls d G' L' H' hv hO' ce' sp
      cases e3 : back τ1 rs os os' with
      | none => simp only [e3] at out; exact out.elim
      | some τ2 =>
        simp only [e3] at out
        obtain ⟨Lx, Ly, p1, st2⟩ := back_rel hr (st1.mono sp.ex) hO' e3
        obtain ⟨c2, s2⟩ := perm_cells (Lv := []) pm ce sp ce' p1
        exact out cls d G' Lx H' hv st2 c2 s2
/-- the same of a new object's __init__ -/
theorem new_core {c f : Nat} {rs : List Rv} {vs : List V} {σ : L2.St} {G : Hp} {L : Cl} {H : Hp} {τ : Sto} {Q : VK} (hi : T.ini c = some f) (hr : OpsR X.K N G σ rs vs []) (st : StoR X.K N G τ σ L) (ce : Cells G L H)
    (out : Out X.K N W (RvR X.K N) σ G L H Q (doNew T cl c rs τ)) {n : Nat} (hn : ∀ os, cl f os ≠ .bad → os.length = n) :
    ∀ x dx, H x = none → H dx = none → dx ≠ x → spF X.K N cl f n (.ref x :: vs) (upd (upd H dx (.own x)) x (.ins (N.cad c) dx [])) (fun v H2 => v = .non ∧ Q (.ref x) H2) (fun cls d H' => W cls d σ H') := by
  intro x dx hx hdx hne
  unfold doNew at out
  simp only [hi] at out
  have hx1 : upd H dx (.own x) x = none := by
    rw [upd_ne (Ne.symm hne)]; exact hx
  cases e1 : take τ rs with
  | none => simp only [e1] at out; exact out.elim
  | some p =>
    obtain ⟨os, τ1⟩ := p
    simp only [e1] at out
    obtain ⟨La, Lr, pm, hO, st1⟩ := take_rel hr st e1
    -- the heap with the new object
    have ce1 : Cells G ((x, HO.ins (N.cad c) dx []) :: L) (upd (upd H dx (.own x)) x (.ins (N.cad c) dx [])) := (ce.junk hdx).new hx1
    have sp1 : Step G L H G ((x, HO.ins (N.cad c) dx []) :: L) (upd (upd H dx (.own x)) x (.ins (N.cad c) dx [])) := (Step.junk (o := .own x) hdx).trans (Step.new1 hx1)
    have pm1 : ((x, HO.ins (N.cad c) dx []) :: L).Perm (((x, HO.ins (N.cad c) dx []) :: La) ++ Lr) := List.Perm.cons _ pm
    have hO1 : OwnL X.K N G (.ins c [] [] :: os) (.ref x :: vs) ((x, HO.ins (N.cad c) dx []) :: La) := ⟨.ref x, vs, [(x, HO.ins (N.cad c) dx [])], La, rfl, rfl, ⟨x, dx, [], [], rfl, rfl, rfl, rfl, rfl⟩, hO⟩
    have fin : ∀ (r : RF), r = cl f (.ins c [] [] :: os) → Out X.K N W (RvR X.K N) σ G L H Q (match r with
        | .ok (.val .non) (o :: os') => match back τ1 rs os os' with
          | some τ2 => .ok (.own o) τ2
          | none => .bad
        | .ok _ _ => .bad
        | .ex x (_ :: os') => match back τ1 rs os os' with
          | some τ2 => .ex x τ2
          | none => .bad
        | .ex _ [] => .bad
        | .bad => .bad) → (r ≠ .bad ∧ match r with
        | .ok o os' => ∀ v G' Lv L' H', Own X.K N G' o v Lv → OwnL X.K N G' os' (.ref x :: vs) L' → Cells G' (Lv ++ L') H' → Step G ((x, HO.ins (N.cad c) dx []) :: La) (upd (upd H dx (.own x)) x (.ins (N.cad c) dx [])) G' (Lv ++ L') H' → v = .non ∧ Q (.ref x) H'
        | .ex y os' => ∀ cls d G' L' H', ExR X.K N y cls d G' → OwnL X.K N G' os' (.ref x :: vs) L' → Cells G' L' H' → Step G ((x, HO.ins (N.cad c) dx []) :: La) (upd (upd H dx (.own x)) x (.ins (N.cad c) dx [])) G' L' H' → W cls d σ H'
        | .bad => False) := by
      intro r _ o1
      split at o1
      · rename_i o os'
        refine ⟨fun z => (nomatch z), ?_⟩
        intro v G' Lv L' H' hv hO' ce' sp
        obtain ⟨e0, hv⟩ := hv
        subst e0
        refine ⟨hv, ?_⟩
        obtain ⟨v0, r0, L1, L2, e9, rfl, hs, hO2⟩ := hO'
        cases e9
        split at o1
        · rename_i τ2 e3
          obtain ⟨Lx, Ly, p1, st2⟩ := back_rel hr (st1.mono sp.ex) hO2 e3
          obtain ⟨c2, s2⟩ := perm_cells (L := (x, HO.ins (N.cad c) dx []) :: L) (Lv := L1) (L' := L2) pm1 ce1 sp ce' p1
          exact o1 (.ref x) G' L1 Lx H' hs st2 c2 (sp1.trans s2)
        · exact o1.elim
      · exact o1.elim
      · rename_i y _ os'
        refine ⟨fun z => (nomatch z), ?_⟩
        intro cls d G' L' H' hv hO' ce' sp
        obtain ⟨v0, r0, L1, L2, e9, rfl, hs, hO2⟩ := hO'
        cases e9
        split at o1
        · rename_i τ2 e3
          obtain ⟨Lx, Ly, p1, st2⟩ := back_rel hr (st1.mono sp.ex) hO2 e3
          obtain ⟨c2, s2⟩ := perm_cells (L := (x, HO.ins (N.cad c) dx []) :: L) (Lv := L1) (L' := L2) pm1 ce1 sp ce' p1
          exact o1 cls d G' Lx H' hv st2 c2.right ((sp1.trans s2).sub fun p hp => List.mem_append_right _ hp)
        · exact o1.elim
      · exact o1.elim
      · exact o1.elim
    obtain ⟨h1, h2⟩ := fin _ rfl out
    exact ⟨by rw [← hn _ h1]; simp [hO.len], G, _, _, hO1, (ce1.perm pm1).left, h2⟩
/-- a def that may be called from here -/
structure FnAt (X : Cx) (N : Nm) (cl : CallT) (f : Nat) (fa : Addr) (n : Nat) : Prop where
  ex : ∃ fd k ps, FnOk X.prog X.w X.K X.mg X.base (L2.CX X.prog X.w) k fa fd ps (spF X.K N cl f n) ∧ Room (k + 1) X.A ∧ Binds X.K fd ps []
  kp : PySem.W.keepIn X.K (.ref fa) = true
  len : ∀ os, cl f os ≠ .bad → os.length = n
theorem run_at {f : Nat} {fa : Addr} {n : Nat} {pins : List (Addr × Obj)} {s : Shared} {rs : List Rv} {vs : List V} {us : List Value} {σ : L2.St} {G : Hp} {L : Cl} {H : Hp} {τ : Sto} {Q : VK} (F : FnAt X N cl f fa n) (tk : Takes X W) (I : Inv X pins σ H s) (rv : Vals vs us)
    (hr : OpsR X.K N G σ rs vs []) (st : StoR X.K N G τ σ L) (ce : Cells G L H) (out : Out X.K N W (RvR X.K N) σ G L H Q (doCall cl f rs τ)) : wpAny (model X.prog X.w) X.A (call (.ref fa) us) (EP X pins σ Q) X.xe s := by
  obtain ⟨fd, k, ps, hF, hroom, hb⟩ := F.ex
  exact run_fnS hF (hroom.mono (Nat.le_succ k)) hb (passAt tk σ) I rv (call_core hr st ce out F.len)
/-- a new object, from here -/
theorem run_new {c f : Nat} {fa : Addr} {n : Nat} {pins : List (Addr × Obj)} {s : Shared} {rs : List Rv} {vs : List V} {us : List Value} {σ : L2.St} {G : Hp} {L : Cl} {H : Hp} {τ : Sto} {Q : VK} (F : FnAt X N cl f fa n) (M : Mk X.K (N.cad c) fa) (tk : Takes X W) (I : Inv X pins σ H s) (rv : Vals vs us)
    (hi : T.ini c = some f) (hr : OpsR X.K N G σ rs vs []) (st : StoR X.K N G τ σ L) (ce : Cells G L H) (out : Out X.K N W (RvR X.K N) σ G L H Q (doNew T cl c rs τ)) : wpAny (model X.prog X.w) X.A (call (.ref (N.cad c)) us) (EP X pins σ Q) X.xe s := by
  obtain ⟨fd, k, ps, hF, hroom, hb⟩ := F.ex
  have h := new_core hi hr st ce out F.len
  have hq := h (s.heap.objs.size + 1) s.heap.objs.size (I.hok.fresh (Nat.le_succ _)) (I.hok.fresh (Nat.le_refl _)) (Nat.ne_of_lt (Nat.lt_succ_self _))
  have I2 := Inv.made (C := N.cad c) I
  have r2 : Vals (V.ref (s.heap.objs.size + 1) :: vs) (Value.ref (s.heap.objs.size + 1) :: us) := .cons rfl rv
  have hl : (Value.ref (s.heap.objs.size + 1) :: us).length = ps.length := by
    have e := r2.length
    rw [hF.len _ _ _ _ hq] at e
    exact e.symm
  have hb2 := hb { s with heap := (s.heap.push PySem.W.emptyDict).push (PySem.W.instObj (N.cad c) s.heap.objs.size) } (Value.ref (s.heap.objs.size + 1) :: us) I2.kIn (by rw [List.append_nil]; exact hl)
  rw [List.append_nil] at hb2
  refine wpAny_call (make_map (f := fa) I.kIn M.makes M.init (beq_iff_eq.mp M.fn) (codeAny_mono (hF.run _ X.stack _ _ ⟨Value.ref (s.heap.objs.size + 1) :: us, []⟩ (Value.ref (s.heap.objs.size + 1) :: us) _ _ _ (hroom.make (N.cad c) us [])
    (I2.env0.make (N.cad c) us []) hb2 r2 hq) fun r s' hq' => ?_))
  cases r with
  | error e => exact passAt tk σ pins _ _ e s' I2 hq'
  | ok fl =>
    cases fl with
    | ret u =>
      obtain ⟨v, H', I3, rv, ev, q3⟩ := I2.after hq'
      subst ev
      exact ⟨rv, ⟨V.ref (s.heap.objs.size + 1), H', I3, rfl, q3⟩⟩
    | next => exact False.elim hq'
    | brk => exact False.elim hq'
    | cont => exact False.elim hq'
/-- from a list of arguments to what is called with them -/
theorem split_as {ms : M (List Rv)} {f : List Rv → M Rv} {σ : L2.St} {G : Hp} {L : Cl} {H : Hp} {τ : Sto} {Q : VK} (st : StoR X.K N G τ σ L) (ce : Cells G L H) (out : Out X.K N W (RvR X.K N) σ G L H Q (bnd ms f τ)) :
    tAs X.K N W ms σ H (fun vs H1 => ∃ rs τ1 G1 L1, Ex G G1 ∧ OpsR X.K N G1 σ rs vs [] ∧ StoR X.K N G1 τ1 σ L1 ∧ Cells G1 L1 H1 ∧ Out X.K N W (RvR X.K N) σ G1 L1 H1 Q (f rs τ1)) := split0 (rel1 := OpsR X.K N) (fun h => h.nil) st ce out
/-- a plain argument list -/
def Plain (X : Cx) (pos : Pos) (es : List Expr) : Prop := ∀ e es', es = e :: es' → starEach es X.env = (false, eval e X.env) :: starEach es' X.env ∧ (backTo pos (starEach es' X.env)).any (·.1) = false
/-- the tree walk of no arguments -/
theorem as_nil {ms : M (List Rv)} {σ : L2.St} {H : Hp} {Q : List V → Hp → Prop} (h : tAs X.K N W ms σ H Q) (e : ms = fun τ => .ok [] τ) : Q [] H := by
  obtain ⟨τ, G, L, st, ce, out⟩ := h
  subst e
  exact out [] G [] L H ⟨rfl, rfl⟩ st ce Step.refl
theorem pe_callA {f : Value} {g : List Rv → M Rv} {x : Str} {p pos : Pos} {es : List Expr} {ms : M (List Rv)} (hk : PySem.W.keepIn X.K f = true) (hg : Gl X x) (hm : X.mg x = some f) (hd : (x == ("__debug__" : Str)) = false) (ha : PA X es (tAs X.K N W ms)) (hst : Plain X pos es)
    (h0 : es = [] → ms = fun τ => .ok [] τ)
    (run : ∀ (pins : List (Addr × Obj)) (s : Shared) (rs : List Rv) (vs : List V) (us : List Value) (σ : L2.St) (G : Hp) (L : Cl) (H : Hp) (τ : Sto) (Q : VK), Inv X pins σ H s → Vals vs us → OpsR X.K N G σ rs vs [] → StoR X.K N G τ σ L → Cells G L H → Out X.K N W (RvR X.K N) σ G L H Q (g rs τ) →
      wpAny (model X.prog X.w) X.A (call f us) (EP X pins σ Q) X.xe s) : PE X (.Call (.Name x p) es [] pos) (tE X.K N W (bnd ms g)) := by
  refine ⟨fun pins s σ H Q I h => ?_⟩
  obtain ⟨τ, G, L, st, ce, out⟩ := h
  have h1 := split_as st ce out
  refine wpAny_Call_Name_kw (ld_glob I hg hm ?_ hd)
  cases es with
  | nil =>
    refine PySem.W.callWith_K0 I.kIn hk ?_
    obtain ⟨rs, τ1, G1, L1, _, hr, st1, ce1, o1⟩ := as_nil h1 (h0 rfl)
    exact run pins s rs [] [] σ G1 L1 H τ1 Q I .nil hr st1 ce1 o1
  | cons e es' =>
    obtain ⟨s1, s2⟩ := hst e es' rfl
    refine PySem.W.callWith_K (h₀ := X.base) I.ok.mod.kin hk (thn (ha.run pos pins s σ H _ I h1) fun us s1 ⟨vs, H1, I1, r, q⟩ => ⟨I1.kIn, ?_⟩) s1 s2
    obtain ⟨rs, τ1, G1, L1, _, hr, st1, ce1, o1⟩ := q
    exact run pins _ rs vs us σ G1 L1 H1 τ1 Q I1 r hr st1 ce1 o1
theorem pe_call' {f : Nat} {fa : Addr} {n : Nat} {x : Str} {p pos : Pos} {es : List Expr} {ms : M (List Rv)} (F : FnAt X N cl f fa n) (tk : Takes X W) (hg : Gl X x) (hm : X.mg x = some (.ref fa)) (hd : (x == ("__debug__" : Str)) = false) (ha : PA X es (tAs X.K N W ms)) (hst : Plain X pos es)
    (h0 : es = [] → ms = fun τ => .ok [] τ) : PE X (.Call (.Name x p) es [] pos) (tE X.K N W (bnd ms fun rs => doCall cl f rs)) :=
  pe_callA F.kp hg hm hd ha hst h0 fun pins s rs vs us σ G L H τ Q I rv hr st ce out => run_at F tk I rv hr st ce out
theorem pe_new' {c f : Nat} {fa : Addr} {n : Nat} {x : Str} {p pos : Pos} {es : List Expr} {ms : M (List Rv)} (hi : T.ini c = some f) (F : FnAt X N cl f fa n) (M : Mk X.K (N.cad c) fa) (tk : Takes X W) (hg : Gl X x) (hm : X.mg x = some (.ref (N.cad c))) (hd : (x == ("__debug__" : Str)) = false)
    (ha : PA X es (tAs X.K N W ms)) (hst : Plain X pos es) (h0 : es = [] → ms = fun τ => .ok [] τ) : PE X (.Call (.Name x p) es [] pos) (tE X.K N W (bnd ms fun rs => doNew T cl c rs)) :=
  pe_callA M.kp hg hm hd ha hst h0 fun pins s rs vs us σ G L H τ Q I rv hr st ce out => run_new F M tk I rv hi hr st ce out
end
end Tw
set_option maxHeartbeats 2000000
/-! The tree walk, part 9b: defs that may be called where an exception is handled. -/
namespace Tw
open PySem PySem.Spec PyProof.Rows L2 L2H Evl
/-- a def's promise, whatever is handled -/
structure FnL (P : Program) (w : World) (K : PySem.W.Frag) (mg : Str → Option Value) (base : Heap) (k : Nat) (f : Addr) (fd : FuncData) (ps : List Str) (sp : Sp) : Prop where
  len : ∀ vs H Q E, sp vs H Q E → vs.length = ps.length
  go : ∀ {A : Around} {outer : List Env} {s : Shared} {H : Hp} {args : Args} {us : List Value} {vs : List V} {Q : VK} {E : XK}, RoomH k A → Env0 P w K mg base A outer s H → BindsTo s fd args (ps.zip us) → Vals vs us → sp vs H Q E → codeAny (model P w) A (.call (.ref f) args) (CR (L2.CX P w) outer P w H s Q E) s
/-- the context of such a body -/
def cxL (P : Program) (w : World) (K : PySem.W.Frag) (mg : Str → Option Value) (base : Heap) (N : List Str) (qual : Str) (scope : Scope) (f : Addr) (cd : Value) (A : Around) (outer : List Env) (s : Shared) (H : Hp) (E : XK) : Cx :=
  { cxOf (L2.CX P w) P w K mg base N qual scope f cd A outer s H E with calm := false }
/-- the same place with nothing handled -/
def coldA (A : Around) : Around := { A with handled := none }
section
variable {P : Program} {w : World} {K : PySem.W.Frag} {mg : Str → Option Value} {base : Heap} {N ps : List Str} {qual : Str} {scope : Scope} {f : Addr} {cd : Value} {A : Around} {outer : List Env} {s s1 : Shared} {H : Hp} {E : XK} {us : List Value} {vs : List V}
theorem env_cold (e : Env0 P w K mg base A outer s H) : Env0 P w K mg base (coldA A) outer s H := ⟨e.frames, e.mod, e.bs, e.bsz, e.funs, e.frf, e.hok, e.bare⟩
theorem inv_hot (I : Inv (cxOf (L2.CX P w) P w K mg base N qual scope f cd (coldA A) outer s H E) [] (L2.start N vs) H s1) : Inv (cxL P w K mg base N qual scope f cd A outer s H E) [] (L2.start N vs) H s1 :=
  { I with ok := { I.ok with hd := fun z => Bool.noConfusion (show false = true from z), frames := I.ok.frames } }
theorem fn_hot {k : Nat} {name : Str} {params : Arguments} {body : List Stmt} {dV kV doc pm ct oc : Value} {an od : Option Addr} {osl : Array (Option Value)} {sp : Sp} (at_ : K.lookup f = some ⟨oc, od, .func (PySem.W.fnOf name qual params body scope dV kV doc pm an cd ct), osl⟩) (code : PySem.W.codeIn K cd qual = true) (S : FnScope N ps scope)
    (len : ∀ vs H Q E, sp vs H Q E → vs.length = ps.length)
    (inside : ∀ (A : Around) (outer : List Env) (s : Shared) (H : Hp) (vs : List V) (Q : VK) (E : XK), RoomH k (A.deeper (envOfC qual scope s.heap.objs.size f cd)) → sp vs H Q E → ∃ t, PSs (cxL P w K mg base N qual scope f cd A outer s H E) body t ∧ t { nx := fun _ H' => Q .non H', rt := Q } (L2.start N vs) H) :
    FnL P w K mg base (k + 1) f (PySem.W.fnOf name qual params body scope dV kV doc pm an cd ct) ps sp where
  len := len
  go := by
    intro A outer s H args us vs Q E room e0 bind rel ask
    have kin : K.In s.heap := e0.mod.kin.keeps fun b o e => (e0.bs b o e).1
    have ends : s.heap.NoLimit := e0.mod.nolimit.keeps fun b o e => (e0.bs b o e).1
    have par : ∀ y ∈ ps.zip us, scope.names.lookup y.1 = some .local ∨ (scope.names.lookup y.1 = some .cell ∧ ((cellsFrom (s.heap.objs.size + 1) scope.names []).lookup y.1).isSome = true) := by
      rintro ⟨n, v⟩ hy
      exact (S.par n (List.of_mem_zip hy).1).elim .inl fun q => .inr ⟨q, PySem.W.cellsFrom_some _ _ _ (.inl q)⟩
    refine codeAny_call_function room.depth (kin _ _ at_) rfl S.co S.gen rfl (PySem.W.codeRec_of kin code) (bind _ _ _ _ (wpAny_newFunctionEnv_cells S.kind par ?_))
    rintro env rfl s1 x
    obtain ⟨t, ht, hq⟩ := inside A outer s H vs Q E (room.deeper _) ask
    have I := inv_hot (inv_start (E := E) (A := coldA A) S rfl (env_cold e0) (len _ _ _ _ ask) rel x)
    refine ⟨ends.keeps x.toInCall.keep, codeAny_func (wpAny_mono (ht.run [] s1 _ H _ I hq) ?_ fun e s' hs => hs)⟩
    rintro fl s' hs
    cases fl with
    | ret u => exact let ⟨v, _, H', J, rv, q⟩ := hs; ⟨v, H', J.os, J.bare, J.base, J.hok, rv, q⟩
    | next => exact let ⟨_, H', J, q⟩ := hs; ⟨V.non, H', J.os, J.bare, J.base, J.hok, rfl, q⟩
    | brk => exact let ⟨_, _, _, q⟩ := hs; False.elim q
    | cont => exact let ⟨_, _, _, q⟩ := hs; False.elim q
end
/-! ### a few steps deeper in the machine -/
structure Lo (X : Cx) (j : Nat) (A : Around) : Prop where
  hd : A.handled = X.A.handled
  dp : A.depth = X.A.depth
  un : A.units = X.A.units + j
  fr : A.frames = X.A.frames
theorem Lo.refl {X : Cx} : Lo X 0 X.A := ⟨rfl, rfl, rfl, rfl⟩
theorem Lo.in1 {X : Cx} {j : Nat} {A : Around} (h : Lo X j A) : Lo X (j + 1) A.in1 := ⟨h.hd, h.dp, by show A.units + 1 = _; rw [h.un]; rfl, h.fr⟩
theorem Lo.room {X : Cx} {j k : Nat} {A : Around} (h : Lo X j A) (hj : j ≤ 16) (r : Room (k + 1) X.A) : Room k A :=
  ⟨h.hd.trans r.hd, by have := r.dp; rw [h.dp]; omega, by have := r.un; rw [h.un]; omega⟩
theorem Lo.roomH {X : Cx} {j k : Nat} {A : Around} (h : Lo X j A) (hj : j ≤ 16) (r : RoomH (k + 1) X.A) : RoomH k A :=
  ⟨by have := r.dp; rw [h.dp]; omega, by have := r.un; rw [h.un]; omega⟩
theorem Lo.env0 {X : Cx} {j : Nat} {A : Around} (lo : Lo X j A) {pins : List (Addr × Obj)} {σ : L2.St} {H : Hp} {s : Shared} (I : Inv X pins σ H s) : Env0 X.prog X.w X.K X.mg X.base A X.stack s H := by
  have e := I.env0
  exact ⟨by rw [lo.fr]; exact e.frames, e.mod, e.bs, e.bsz, e.funs, e.frf, e.hok, e.bare⟩
/-- a def that may be run from here -/
structure FnRun (X : Cx) (N : Nm) (cl : CallT) (f : Nat) (fa : Addr) : Prop where
  run : ∀ {W : WX} {j : Nat} {A : Around} {pins : List (Addr × Obj)} {s : Shared} {rs : List Rv} {vs : List V} {us : List Value} {σ : L2.St} {G : Hp} {L : Cl} {H : Hp} {τ : Sto} {Q : VK}, Lo X j A → j ≤ 16 → Takes X W → Inv X pins σ H s → Vals vs us →
    OpsR X.K N G σ rs vs [] → StoR X.K N G τ σ L → Cells G L H → Out X.K N W (RvR X.K N) σ G L H Q (doCall cl f rs τ) → wpAny (model X.prog X.w) A (call (.ref fa) us) (EP X pins σ Q) X.xe s
section
variable {X : Cx} {N : Nm} {cl : CallT} {W : WX}
theorem behind {pins : List (Addr × Obj)} {σ : L2.St} {H : Hp} {s : Shared} {Q : VK} {c : Code} {A : Around} (tk : Takes X W) (I : Inv X pins σ H s) (h : codeAny (model X.prog X.w) A c (CR (L2.CX X.prog X.w) X.stack X.prog X.w H s Q (fun cls d H' => W cls d σ H')) s) :
    codeAny (model X.prog X.w) A c (fun r s' => match r with | .ok (.ret v) => EP X pins σ Q v s' | .ok _ => False | .error e => X.xe e s') s := by
  refine codeAny_mono h fun r s' hq => ?_
  cases r with
  | error e => exact passAt tk σ pins H s e s' I hq
  | ok fl =>
    cases fl with
    | ret u => exact I.after hq
    | next => exact False.elim hq
    | brk => exact False.elim hq
    | cont => exact False.elim hq
theorem FnAt.toRun {f : Nat} {fa : Addr} {n : Nat} (F : FnAt X N cl f fa n) : FnRun X N cl f fa where
  run := by
    intro W j A pins s rs vs us σ G L H τ Q lo hj tk I rv hr st ce out
    obtain ⟨fd, k, ps, hF, room, hb⟩ := F.ex
    have ask := call_core hr st ce out F.len
    have b := hb s us I.kIn (by rw [List.append_nil, ← rv.length]; exact hF.len _ _ _ _ ask)
    rw [List.append_nil] at b
    exact wpAny_call (behind tk I (hF.run A X.stack s H ⟨us, []⟩ us vs Q _ (lo.room hj room) (lo.env0 I) b rv ask))
theorem FnL.toRun {f : Nat} {fa : Addr} {n k : Nat} {fd : FuncData} {ps : List Str} (F : FnL X.prog X.w X.K X.mg X.base k fa fd ps (spF X.K N cl f n)) (room : RoomH (k + 1) X.A) (hb : Binds X.K fd ps []) (len : ∀ os, cl f os ≠ .bad → os.length = n) : FnRun X N cl f fa where
  run := by
    intro W j A pins s rs vs us σ G L H τ Q lo hj tk I rv hr st ce out
    have ask := call_core hr st ce out len
    have b := hb s us I.kIn (by rw [List.append_nil, ← rv.length]; exact F.len _ _ _ _ ask)
    rw [List.append_nil] at b
    exact wpAny_call (behind tk I (F.go (lo.roomH hj room) (lo.env0 I) b rv ask))
theorem FnRun.never {f : Nat} {fa : Addr} : FnRun X N badCl f fa where
  run := by
    intro W j A pins s rs vs us σ G L H τ Q lo hj tk I rv hr st ce out
    unfold doCall at out
    cases e : take τ rs with
    | none => simp only [e] at out; exact out.elim
    | some p => simp only [e, badCl] at out; exact out.elim
end
end Tw
set_option maxHeartbeats 2000000
/-! The tree walk, part 10: calls by keywords and with defaults, methods. -/
namespace Tw
open PySem PySem.Spec PyProof.Rows L2 Evl
section
variable {X : Cx} {N : Nm} {T : Tb} {cl : CallT} {W : WX}
theorem OpsR.get {G : Hp} {σ : L2.St} : ∀ {rs : List Rv} {vs : List V} {j : Nat} {r : Rv}, OpsR X.K N G σ rs vs [] → rs[j]? = some r → ∃ v, vs[j]? = some v ∧ OpR1 X.K N G σ r v []
  | [], _, _, _, _, e => by simp at e
  | r :: rs, vs, 0, r', h, e => by
    obtain ⟨_, v, r', rfl, h2, h3⟩ := h
    simp only [List.getElem?_cons_zero, Option.some.injEq] at e
    subst e
    exact ⟨v, rfl, h2⟩
  | r :: rs, vs, j + 1, r', h, e => by
    obtain ⟨_, v, r', rfl, h2, h3⟩ := h
    exact h3.get (j := j) (by simpa using e)
theorem OpsR.app {G : Hp} {σ : L2.St} : ∀ {rs qs : List Rv} {vs us : List V}, OpsR X.K N G σ rs vs [] → OpsR X.K N G σ qs us [] → OpsR X.K N G σ (rs ++ qs) (vs ++ us) []
  | [], _, _, _, h, h' => by rw [h.1]; exact h'
  | r :: rs, qs, vs, us, h, h' => by
    obtain ⟨_, v, r', rfl, h2, h3⟩ := h
    exact ⟨rfl, v, r' ++ us, rfl, h2, h3.app h'⟩
theorem dV_rep {G : Hp} {d : D} {v : V} (e : dV d = some v) : Rep X.K N G d v := by
  cases d <;> cases e <;> rfl
theorem arr_rel {G : Hp} {σ : L2.St} {rs : List Rv} {vs : List V} (h : OpsR X.K N G σ rs vs []) : ∀ {ar : List Ar} {l : List Rv}, arrR rs ar = some l → ∃ us, arrV vs ar = some us ∧ OpsR X.K N G σ l us []
  | [], l, e => by
    have e' : ([] : List Rv) = l := Option.some.inj e
    subst e'
    exact ⟨[], rfl, rfl, rfl⟩
  | .a j :: as, l, e => by
    simp only [arrR] at e
    cases q : rs[j]? with
    | none => simp only [q] at e; cases e
    | some r =>
      cases q2 : arrR rs as with
      | none => simp only [q, q2] at e; cases e
      | some l2 =>
        simp only [q, q2] at e
        cases e
        obtain ⟨us, e2, h2⟩ := arr_rel h q2
        obtain ⟨v, e3, h3⟩ := h.get q
        exact ⟨v :: us, by simp only [arrV, e3, e2], rfl, v, us, rfl, h3, h2⟩
  | .d d :: as, l, e => by
    simp only [arrR] at e
    cases q : dV d with
    | none => simp only [q] at e; cases e
    | some v =>
      cases q2 : arrR rs as with
      | none => simp only [q, q2] at e; cases e
      | some l2 =>
        simp only [q, q2] at e
        cases e
        obtain ⟨us, e2, h2⟩ := arr_rel h q2
        exact ⟨v :: us, by simp only [arrV, q, e2], rfl, v, us, rfl, ⟨rfl, dV_rep q⟩, h2⟩
/-- how a call binds: pre values ahead, np positional ones, keywords ks; ar puts them in the parameters' order -/
def KB (K : PySem.W.Frag) (fd : FuncData) (ps : List Str) (pre np : Nat) (ks : List Str) (ar : List Ar) : Prop :=
  ∀ (s : Shared) (first us ws : List Value) (vs zs vs' : List V), K.In s.heap → first.length = pre → us.length = np → ws.length = ks.length → Vals vs us → Vals zs ws → arrV (vs ++ zs) ar = some vs' → ∃ full, BindsTo s fd ⟨first ++ us, ks.zip ws⟩ (ps.zip (first ++ full)) ∧ Vals vs' full
structure FnK (X : Cx) (N : Nm) (cl : CallT) (f : Nat) (fa : Addr) (n pre np : Nat) (ks : List Str) (ar : List Ar) : Prop where
  ex : ∃ fd k ps, FnOk X.prog X.w X.K X.mg X.base (L2.CX X.prog X.w) k fa fd ps (spF X.K N cl f n) ∧ Room (k + 1) X.A ∧ KB X.K fd ps pre np ks ar
  kp : PySem.W.keepIn X.K (.ref fa) = true
  len : ∀ os, cl f os ≠ .bad → os.length = n
theorem run_atK {f : Nat} {fa : Addr} {n np : Nat} {ks : List Str} {ar : List Ar} {pins : List (Addr × Obj)} {s : Shared} {rs : List Rv} {vs zs : List V} {us ws : List Value} {σ : L2.St} {G : Hp} {L : Cl} {H : Hp} {τ : Sto} {Q : VK} (F : FnK X N cl f fa n 0 np ks ar) (tk : Takes X W) (I : Inv X pins σ H s)
    (rv : Vals vs us) (rz : Vals zs ws) (hu : us.length = np) (hw : ws.length = ks.length) (hr : OpsR X.K N G σ rs (vs ++ zs) []) (st : StoR X.K N G τ σ L) (ce : Cells G L H) (out : Out X.K N W (RvR X.K N) σ G L H Q (doCallK cl f ar rs τ)) :
    wpAny (model X.prog X.w) X.A (call (.ref fa) us (ks.zip ws)) (EP X pins σ Q) X.xe s := by
  obtain ⟨fd, k, ps, hF, hroom, hb⟩ := F.ex
  unfold doCallK at out
  cases e : arrR rs ar with
  | none => simp only [e] at out; exact out.elim
  | some l =>
    simp only [e] at out
    obtain ⟨vs', e2, h2⟩ := arr_rel hr e
    obtain ⟨full, hB, hV⟩ := hb s [] us ws vs zs vs' I.kIn rfl hu hw rv rz e2
    have h := call_core h2 st ce out F.len
    refine wpAny_call (codeAny_mono (hF.run X.A X.stack s H ⟨us, ks.zip ws⟩ full vs' Q _ (hroom.mono (Nat.le_succ k)) I.env0 hB hV h) fun r s' hq => ?_)
    cases r with
    | error e => exact passAt tk σ pins H s e s' I hq
    | ok fl =>
      cases fl with
      | ret u => exact I.after hq
      | next => exact False.elim hq
      | brk => exact False.elim hq
      | cont => exact False.elim hq
theorem run_newK {c f : Nat} {fa : Addr} {n np : Nat} {ks : List Str} {ar : List Ar} {pins : List (Addr × Obj)} {s : Shared} {rs : List Rv} {vs zs : List V} {us ws : List Value} {σ : L2.St} {G : Hp} {L : Cl} {H : Hp} {τ : Sto} {Q : VK} (F : FnK X N cl f fa n 1 np ks ar) (M : Mk X.K (N.cad c) fa) (tk : Takes X W)
    (I : Inv X pins σ H s) (rv : Vals vs us) (rz : Vals zs ws) (hu : us.length = np) (hw : ws.length = ks.length) (hi : T.ini c = some f) (hr : OpsR X.K N G σ rs (vs ++ zs) []) (st : StoR X.K N G τ σ L) (ce : Cells G L H) (out : Out X.K N W (RvR X.K N) σ G L H Q (doNewK T cl c ar rs τ)) :
    wpAny (model X.prog X.w) X.A (call (.ref (N.cad c)) us (ks.zip ws)) (EP X pins σ Q) X.xe s := by
  obtain ⟨fd, k, ps, hF, hroom, hb⟩ := F.ex
  unfold doNewK at out
  cases e : arrR rs ar with
  | none => simp only [e] at out; exact out.elim
  | some l =>
    simp only [e] at out
    obtain ⟨vs', e2, h2⟩ := arr_rel hr e
    have h := new_core hi h2 st ce out F.len
    have hq := h (s.heap.objs.size + 1) s.heap.objs.size (I.hok.fresh (Nat.le_succ _)) (I.hok.fresh (Nat.le_refl _)) (Nat.ne_of_lt (Nat.lt_succ_self _))
    have I2 := Inv.made (C := N.cad c) I
    obtain ⟨full, hB, hV⟩ := hb { s with heap := (s.heap.push PySem.W.emptyDict).push (PySem.W.instObj (N.cad c) s.heap.objs.size) } [Value.ref (s.heap.objs.size + 1)] us ws vs zs vs' I2.kIn rfl hu hw rv rz e2
    have r2 : Vals (V.ref (s.heap.objs.size + 1) :: vs') (Value.ref (s.heap.objs.size + 1) :: full) := .cons rfl hV
    refine wpAny_call (make_map (f := fa) I.kIn M.makes M.init (beq_iff_eq.mp M.fn) (codeAny_mono (hF.run _ X.stack _ _ ⟨Value.ref (s.heap.objs.size + 1) :: us, ks.zip ws⟩ (Value.ref (s.heap.objs.size + 1) :: full) _ _ _ (hroom.make (N.cad c) us _)
      (I2.env0.make (N.cad c) us _) hB r2 hq) fun r s' hq' => ?_))
    cases r with
    | error e => exact passAt tk σ pins _ _ e s' I2 hq'
    | ok fl =>
      cases fl with
      | ret u =>
        obtain ⟨v, H', I3, rv, ev, q3⟩ := I2.after hq'
        subst ev
        exact ⟨rv, ⟨V.ref (s.heap.objs.size + 1), H', I3, rfl, q3⟩⟩
      | next => exact False.elim hq'
      | brk => exact False.elim hq'
      | cont => exact False.elim hq'
/-! ### keywords -/
def tKw (K : PySem.W.Frag) (N : Nm) (W : WX) (ms : M (List Rv)) : TA := tAs K N W ms
theorem PK.imp {kws : List Keyword} {t t' : TA} (h : PK X kws t) (i : ∀ σ H Q, t' σ H Q → t σ H Q) : PK X kws t' := ⟨fun pos pins s σ H Q I q => h.run pos pins s σ H Q I (i σ H Q q)⟩
theorem pk_ops0 : PK X [] (tAs X.K N W fun τ => .ok [] τ) := PK.imp pk_nil fun σ H Q ⟨τ, G, L, st, ce, out⟩ => out [] G [] L H ⟨rfl, rfl⟩ st ce Step.refl
theorem pk_ops {nm : Option Str} {kpos : Pos} {e : Expr} {kws : List Keyword} {m : M Rv} {ms : M (List Rv)} (he : PE X e (tE X.K N W m)) (hs : PK X kws (tAs X.K N W ms)) : PK X (⟨nm, e, kpos⟩ :: kws) (tAs X.K N W (bnd (opd m) fun r => bnd ms fun rs τ => .ok (r :: rs) τ)) := by
  refine PK.imp (pk_cons (pe_opd he) hs) fun σ H Q => ?_
  rintro ⟨τ, G, L, st, ce, out⟩
  refine tM_mono (split0 (rel1 := OpR1 X.K N) (fun h => h.1) st ce out) fun x H1 => ?_
  rintro ⟨r, τ1, G1, L1, eG, hr, st1, ce1, o1⟩
  refine tM_mono (split0 (rel1 := OpsR X.K N) (fun h => h.nil) st1 ce1 o1) fun xs H2 => ?_
  rintro ⟨rs, τ2, G2, L2, eG2, hrs, st2, ce2, o2⟩
  exact o2 (x :: xs) G2 [] L2 H2 ⟨rfl, x, xs, rfl, hr.mono eG2, hrs⟩ st2 ce2 Step.refl
/-- the names of keywords; none is a double star -/
def kwN : List Keyword → Option (List Str)
  | [] => some []
  | ⟨some n, _, _⟩ :: r => (kwN r).map (n :: ·)
  | ⟨none, _, _⟩ :: _ => none
theorem kwN_ok {pos : Pos} : ∀ {kws : List Keyword} {ks : List Str}, kwN kws = some ks → (backToKw pos (keywordEach kws X.env)).all (·.1.isSome) = true ∧ (backToKw pos (keywordEach kws X.env)).filterMap (·.1) = ks ∧ (backToKw pos (keywordEach kws X.env)).any (·.1.isNone) = false
  | [], ks, h => by
    have e : ([] : List Str) = ks := Option.some.inj h
    subst e; exact ⟨rfl, rfl, rfl⟩
  | ⟨some n, e, p⟩ :: r, ks, h => by
    obtain ⟨l, e1, rfl⟩ := Option.map_eq_some_iff.mp (show (kwN r).map (n :: ·) = some ks from h)
    obtain ⟨h1, h2, h3⟩ := kwN_ok (pos := pos) e1
    refine ⟨?_, ?_, ?_⟩
    · show (((some n : Option Str), _) :: backToKw pos (keywordEach r X.env)).all (·.1.isSome) = true
      rw [List.all_cons, h1]; rfl
    · show (((some n : Option Str), _) :: backToKw pos (keywordEach r X.env)).filterMap (·.1) = _
      rw [List.filterMap_cons]
      simp only [h2]
    · show (((some n : Option Str), _) :: backToKw pos (keywordEach r X.env)).any (·.1.isNone) = false
      rw [List.any_cons, h3]; rfl
  | ⟨none, _, _⟩ :: _, _, h => by cases h
theorem opsR_len {G : Hp} {σ : L2.St} : ∀ {rs : List Rv} {vs : List V} {Lv : Cl}, OpsR X.K N G σ rs vs Lv → rs.length = vs.length
  | [], _, _, h => by rw [h.1]; rfl
  | _ :: _, _, _, h => by
    obtain ⟨_, v, r', rfl, _, h3⟩ := h
    simp [opsR_len h3]
theorem opsR_vlen {G : Hp} {σ : L2.St} {rs : List Rv} {vs : List V} (h : OpsR X.K N G σ rs vs []) {n : Nat} (e : rs.length = n) : vs.length = n := by rw [← opsR_len h]; exact e
theorem pe_callKA {f : Value} {g : List Rv → M Rv} {x : Str} {p pos : Pos} {es : List Expr} {kws : List Keyword} {ks : List Str} {ms mk : M (List Rv)} {np : Nat} (hkp : PySem.W.keepIn X.K f = true) (hg : Gl X x) (hm : X.mg x = some f) (hd : (x == ("__debug__" : Str)) = false)
    (ha : PA X es (tAs X.K N W ms)) (hk : PK X kws (tAs X.K N W mk)) (hst : Plain X pos es) (h0 : es = [] → ms = fun τ => .ok [] τ) (hn : es.length = np) (hks : kwN kws = some ks) (hany : (backTo pos (starEach es X.env)).any (·.1) = false)
    (hms : ∀ τ rs τ1, ms τ = .ok rs τ1 → rs.length = es.length) (hmk : ∀ τ rs τ1, mk τ = .ok rs τ1 → rs.length = ks.length)
    (run : ∀ (pins : List (Addr × Obj)) (s : Shared) (rs : List Rv) (vs zs : List V) (us ws : List Value) (σ : L2.St) (G : Hp) (L : Cl) (H : Hp) (τ : Sto) (Q : VK), Inv X pins σ H s → Vals vs us → Vals zs ws → us.length = np → ws.length = ks.length → OpsR X.K N G σ rs (vs ++ zs) [] → StoR X.K N G τ σ L → Cells G L H →
      Out X.K N W (RvR X.K N) σ G L H Q (g rs τ) → wpAny (model X.prog X.w) X.A (call f us (ks.zip ws)) (EP X pins σ Q) X.xe s) :
    PE X (.Call (.Name x p) es kws pos) (tE X.K N W (bnd ms fun rs => bnd mk fun qs => g (rs ++ qs))) := by
  refine ⟨fun pins s σ H Q I h => ?_⟩
  obtain ⟨τ, G, L, st, ce, out⟩ := h
  obtain ⟨k1, k2, k3⟩ := kwN_ok (X := X) (pos := pos) hks
  -- the keywords' part, from a state behind the positional ones
  have part2 : ∀ {rs : List Rv} {vs : List V} {us : List Value} {τ1 : Sto} {G1 : Hp} {L1 : Cl} {H1 : Hp} {s1 : Shared}, Inv X pins σ H1 s1 → Vals vs us → us.length = np → OpsR X.K N G1 σ rs vs [] → StoR X.K N G1 τ1 σ L1 → Cells G1 L1 H1 → Out X.K N W (RvR X.K N) σ G1 L1 H1 Q (bnd mk (fun qs => g (rs ++ qs)) τ1) →
      wpAny (model X.prog X.w) X.A (evalAll ((backToKw pos (keywordEach kws X.env)).map (·.2))) (fun ws s2 => X.K.In s2.heap ∧ wpAny (model X.prog X.w) X.A (call f us (((backToKw pos (keywordEach kws X.env)).filterMap (·.1)).zip ws)) (EP X pins σ Q) X.xe s2) X.xe s1 := by
    intro rs vs us τ1 G1 L1 H1 s1 I1 rv hu hr st1 ce1 o1
    have h2 : tAs X.K N W mk σ H1 (fun zs H2 => ∃ qs τ2 G2 L2, zs.length = ks.length ∧ Ex G1 G2 ∧ OpsR X.K N G2 σ qs zs [] ∧ StoR X.K N G2 τ2 σ L2 ∧ Cells G2 L2 H2 ∧ Out X.K N W (RvR X.K N) σ G2 L2 H2 Q (g (rs ++ qs) τ2)) := by
      refine ⟨τ1, G1, L1, st1, ce1, ?_⟩
      unfold bnd at o1
      cases e : mk τ1 with
      | bad => simp only [e] at o1; exact o1
      | ex x τ2 => simp only [e] at o1; exact o1
      | ok qs τ2 =>
        simp only [e] at o1
        intro zs G' Lv L' H' hr' st' ce' sp
        have e0 := hr'.nil
        subst e0
        exact ⟨qs, τ2, G', L', opsR_vlen hr' (hmk _ _ _ e), sp.ex, hr', st', ce', o1.later sp⟩
    refine thn (hk.run pos pins s1 σ H1 _ I1 h2) fun ws s2 ⟨zs, H2, I2, rz, q2⟩ => ⟨I2.kIn, ?_⟩
    obtain ⟨qs, τ2, G2, L2, hz, eG, hq, st2, ce2, o2⟩ := q2
    rw [k2]
    exact run pins s2 (rs ++ qs) vs zs us ws σ G2 L2 H2 τ2 Q I2 rv rz hu (by rw [← rz.length]; exact hz) ((hr.mono eG).app hq) st2 ce2 o2
  refine wpAny_Call_Name_kw (ld_glob I hg hm ?_ hd)
  cases es with
  | nil =>
    refine PySem.W.callWith_KW0 (h₀ := X.base) I.ok.mod.kin hkp k1 ?_ (by rw [k3, hany]; rfl)
    have e0 := h0 rfl
    subst e0
    exact part2 (rs := []) (vs := []) (us := []) I .nil hn ⟨rfl, rfl⟩ st ce out
  | cons e es' =>
    obtain ⟨s1, s2⟩ := hst e es' rfl
    have h1 : tAs X.K N W ms σ H (fun vs H1 => ∃ rs τ1 G1 L1, vs.length = np ∧ OpsR X.K N G1 σ rs vs [] ∧ StoR X.K N G1 τ1 σ L1 ∧ Cells G1 L1 H1 ∧ Out X.K N W (RvR X.K N) σ G1 L1 H1 Q (bnd mk (fun qs => g (rs ++ qs)) τ1)) := by
      refine ⟨τ, G, L, st, ce, ?_⟩
      unfold bnd at out
      cases e1 : ms τ with
      | bad => simp only [e1] at out; exact out
      | ex x τ1 => simp only [e1] at out; exact out
      | ok rs τ1 =>
        simp only [e1] at out
        intro vs G' Lv L' H' hr st' ce' sp
        have e0 := hr.nil
        subst e0
        exact ⟨rs, τ1, G', L', (opsR_vlen hr (hms _ _ _ e1)).trans hn, hr, st', ce', out.later sp⟩
    refine PySem.W.callWith_KW (h₀ := X.base) I.ok.mod.kin hkp k1 (thn (ha.run pos pins s σ H _ I h1) fun us s1 ⟨vs, H1, I1, r, q⟩ => ?_) (by rw [k3, hany]; rfl) s1
    obtain ⟨rs, τ1, G1, L1, hv, hr, st1, ce1, o1⟩ := q
    exact part2 I1 r (by show us.length = np; rw [← r.length]; exact hv) hr st1 ce1 o1
/-! ### methods -/
structure MethAt (X : Cx) (N : Nm) (cl : CallT) (c m f : Nat) (n : Nat) : Prop where
  cls : Cls X.K (N.cad c)
  ex : ∃ fa, FnAt X N cl f fa n ∧ Meth X.K (N.cad c) (N.fn m) fa
theorem look_none {m : Nat} : ∀ {ns : List Nat} {vs : List V}, ns.contains m = false → (flds N ns vs).lookup (N.fn m) = none
  | [], _, _ => rfl
  | n :: ns, [], _ => rfl
  | n :: ns, v :: vs, h => by
    have h2 : m ≠ n ∧ ns.contains m = false := by
      have : ¬ (m = n ∨ m ∈ ns) := by simpa using h
      exact ⟨fun e => this (.inl e), by simpa using fun e => this (.inr e)⟩
    show ((N.fn n, v) :: flds N ns vs).lookup (N.fn m) = none
    rw [List.lookup_cons, beq_eq_false_iff_ne.mpr fun e => h2.1 (N.fi _ _ e)]
    exact look_none h2.2
theorem ins_at {o : O} {x : V} {c : Nat} {ns : List Nat} {G : Hp} {L : Cl} {H : Hp} {Lr R : Cl} (ce : Cells G L H) (ho : Own X.K N G o x Lr) (pm : L.Perm (Lr ++ R)) (e : insOf o = some (c, ns)) : ∃ p dx vs, x = .ref p ∧ H p = some (.ins (N.cad c) dx (flds N ns vs)) := by
  cases o with
  | val d =>
    cases d with
    | ins c' ns' ds =>
      cases e
      obtain ⟨p, dx, vs, rfl, h1, _⟩ := ho.2
      exact ⟨p, dx, vs, rfl, ce.sub _ _ h1⟩
    | _ => cases e
  | lst _ => cases e
  | ins c' ns' os =>
    cases e
    obtain ⟨p, dx, vs, L1, rfl, rfl, _⟩ := ho
    exact ⟨p, dx, vs, rfl, (ce.perm pm).at_ p _ List.mem_cons_self⟩
  | dct _ _ => cases e
/-- an own object's method, asked ahead of the arguments -/
theorem methI_at {m : Nat} {r : Rv} {α : Type} {rel : Hp → L2.St → α → β → Cl → Prop} {f : Nat → M α} {τ : Sto} {σ : L2.St} {G : Hp} {L : Cl} {H : Hp} {Q : β → Hp → Prop} {x : V} {tab : Nat → Nat → Option Nat} (hr : OpR1 X.K N G σ r x []) (st : StoR X.K N G τ σ L) (ce : Cells G L H) (out : Out X.K N W rel σ G L H Q (bnd (methI tab m r) f τ)) :
    ∃ c ns g p dx vs, tab c m = some g ∧ ns.contains m = false ∧ x = .ref p ∧ H p = some (.ins (N.cad c) dx (flds N ns vs)) ∧ Out X.K N W rel σ G L H Q (f g τ) := by
  unfold bnd methI at out
  cases e1 : res τ r with
  | none => simp only [e1] at out; exact out.elim
  | some o =>
    simp only [e1] at out
    cases e2 : insOf o with
    | none => simp only [e2] at out; exact out.elim
    | some cn =>
      obtain ⟨c, ns⟩ := cn
      simp only [e2] at out
      cases e3 : tab c m with
      | none => simp only [e3] at out; exact out.elim
      | some f =>
        simp only [e3] at out
        cases e4 : ns.contains m with
        | true => simp only [e4, if_true] at out; exact out.elim
        | false =>
          simp only [e4, Bool.false_eq_true, if_false] at out
          obtain ⟨La, Ra, hO, pm⟩ := res_own st hr e1
          obtain ⟨p, dx, vs, rfl, h1⟩ := ins_at ce hO pm e2
          exact ⟨c, ns, f, p, dx, vs, e3, e4, rfl, h1, out⟩
end
end Tw
set_option maxHeartbeats 2000000
/-! The tree walk, part 10b: methods, properties, built-ins that an own class may answer. -/
namespace Tw
open PySem PySem.Spec PyProof.Rows L2 Evl
section
variable {X : Cx} {N : Nm} {T : Tb} {cl : CallT} {W : WX}
/-- o.m(e, ..) -/
theorem pe_meth' {m : Nat} {o : Expr} {ma : M Rv} {apos pos : Pos} {es : List Expr} {ms : M (List Rv)} {pl : Sem Bool} (hT : ∀ c f, T.mth c m = some f → ∃ n, MethAt X N cl c m f n) (tk : Takes X W) (ho : PE X o (tE X.K N W ma)) (ha : PA X es (tAs X.K N W ms)) (hst : Plain X pos es)
    (h0 : es = [] → ms = fun τ => .ok [] τ)
    (ht : eval (.Call (.Attribute o (N.fn m) apos) es [] pos) X.env = (do
      let ov ← eval o X.env
      standAt apos.atName
      let (f, first) ← holding [ov] (getMethod ov (N.fn m) pl)
      callWith pos f first (backTo pos (starEach es X.env)) (backToKw pos (keywordEach [] X.env)))) :
    PE X (.Call (.Attribute o (N.fn m) apos) es [] pos) (tE X.K N W (bnd (opd ma) fun r => bnd (methI T.mth m r) fun f => bnd ms fun rs => doCall cl f (r :: rs))) := by
  refine ⟨fun pins s σ H Q I h => ?_⟩
  obtain ⟨τ, G, L, st, ce, out⟩ := h
  have h1 := split_op st ce out
  refine PySem.W.methodCall_KW (pl := pl) (thn ((pe_opd ho).run pins s σ H _ I h1) fun u s1 ⟨x, H1, I1, rx, q1⟩ => ?_) ht
  obtain ⟨r, τ1, G1, L1, e1, hr1, st1, ce1, o1⟩ := q1
  obtain ⟨c, ns, f, p, dx, vs0, hc, hns, rfl, hH, o2⟩ := methI_at hr1 st1 ce1 o1
  obtain ⟨n, A⟩ := hT c f hc
  obtain ⟨fa, F, Mt⟩ := A.ex
  obtain rfl : u = Value.ref p := rx
  refine getmeth_ok I1 hH A.cls Mt (look_none hns) ?_
  have h2 := split_as st1 ce1 o2
  cases es with
  | nil =>
    obtain ⟨rs, τ2, G2, L2, e2, hrs, st2, ce2, o3⟩ := as_nil h2 (h0 rfl)
    exact PySem.W.callWith_K0 (first := [.ref p]) I1.kIn Mt.kp (run_at (rs := r :: rs) (vs := [.ref p]) F tk I1 (.cons rfl .nil) ⟨rfl, _, _, rfl, hr1.mono e2, hrs⟩ st2 ce2 o3)
  | cons e es' =>
    obtain ⟨s1', s2'⟩ := hst e es' rfl
    refine PySem.W.callWith_K (first := [.ref p]) (h₀ := X.base) I1.ok.mod.kin Mt.kp (thn (ha.run pos pins s1 σ H1 _ I1 h2) fun us s2 ⟨vs, H2, I2, rv, q2⟩ => ⟨I2.kIn, ?_⟩) s1' s2'
    obtain ⟨rs, τ2, G2, L2, e2, hrs, st2, ce2, o3⟩ := q2
    exact run_at (rs := r :: rs) (vs := .ref p :: vs) F tk I2 (.cons rfl rv) ⟨rfl, _, _, rfl, hr1.mono e2, hrs⟩ st2 ce2 o3
/-- a property of a class -/
structure PropAt (X : Cx) (N : Nm) (cl : CallT) (c f g : Nat) : Prop where
  cls : Cls X.K (N.cad c)
  ex : ∃ fa p, FnAt X N cl g fa 1 ∧ PropOf X.K (N.cad c) (N.fn f) p fa
theorem no_cx {P : Program} {w : World} {l : List Env} {H : Hp} {s : Shared} {e : Value} {s' : Shared} (h : L2.CX P w l H s (fun _ _ _ => False) e s') : False := by
  obtain ⟨_, _, _, _, _, _, _, _, _, _, _, _, z⟩ := h
  exact z
theorem out_noEx {α β : Type} {rel : Hp → L2.St → α → β → Cl → Prop} {m : M α} {σ : L2.St} {G : Hp} {L : Cl} {H : Hp} {τ : Sto} {Q : β → Hp → Prop} (out : Out X.K N W rel σ G L H Q (noEx m τ)) : Out X.K N (fun _ _ _ _ => False) rel σ G L H Q (m τ) := by
  unfold noEx at out
  cases e : m τ with
  | ok a τ1 => rw [e] at out; exact out
  | ex x τ1 => rw [e] at out; exact out.elim
  | bad => rw [e] at out; exact out
/-- o.f, a property -/
theorem pe_prop' {f : Nat} {o : Expr} {ma : M Rv} {pos : Pos} (hT : ∀ c g, T.prp c f = some g → PropAt X N cl c f g) (ho : PE X o (tE X.K N W ma)) (hab : attributeBase o (N.fn f) X.env (eval o X.env) = eval o X.env) :
    PE X (.Attribute o (N.fn f) pos) (tE X.K N W (bnd (opd ma) fun r => bnd (methI T.prp f r) fun g => noEx (doCall cl g [r]))) := by
  refine ⟨fun pins s σ H Q I h => ?_⟩
  obtain ⟨τ, G, L, st, ce, out⟩ := h
  have h1 := split_op st ce out
  refine attr_of hab (thn ((pe_opd ho).run pins s σ H _ I h1) fun u s1 ⟨x, H1, I1, rx, q1⟩ => ?_)
  obtain ⟨r, τ1, G1, L1, e1, hr1, st1, ce1, o1⟩ := q1
  obtain ⟨c, ns, g, p, dx, vs0, hc, hns, rfl, hH, o2⟩ := methI_at hr1 st1 ce1 o1
  obtain ⟨fa, pp, F, hp⟩ := (hT c g hc).ex
  obtain ⟨fd, k, ps, hF, hroom, hb⟩ := F.ex
  obtain rfl : u = Value.ref p := rx
  exact getprop_ok I1 hH (hT c g hc).cls hp hF hroom hb .nil (E := fun _ _ _ => False) (fun _ _ _ _ _ _ _ c => (no_cx c).elim) (call_core (rs := [r]) (vs := [.ref p]) ⟨rfl, _, _, rfl, hr1, rfl, rfl⟩ st1 ce1 (out_noEx o2) F.len)
/-- a built-in function or type, whatever it does with its arguments -/
theorem pe_bltA {f : Value} {g : List Rv → M Rv} {x : Str} {p pos : Pos} {e : Expr} {es : List Expr} {ms : M (List Rv)} (hf : (∃ id, f = .builtin id) ∨ ∃ t, f = .type t) (hg : Gl X x) (hm : X.mg x = none) (hv : bootBuiltins x = some f) (hn : x ≠ "__name__") (hd : (x == ("__debug__" : Str)) = false)
    (ha : PA X (e :: es) (tAs X.K N W ms)) (hst : Plain X pos (e :: es))
    (run : ∀ (pins : List (Addr × Obj)) (s : Shared) (rs : List Rv) (vs : List V) (us : List Value) (σ : L2.St) (G : Hp) (L : Cl) (H : Hp) (τ : Sto) (Q : VK), Inv X pins σ H s → Vals vs us → OpsR X.K N G σ rs vs [] → StoR X.K N G τ σ L → Cells G L H → Out X.K N W (RvR X.K N) σ G L H Q (g rs τ) →
      wpAny (model X.prog X.w) X.A (call f us) (EP X pins σ Q) X.xe s) : PE X (.Call (.Name x p) (e :: es) [] pos) (tE X.K N W (bnd ms g)) := by
  refine ⟨fun pins s σ H Q I h => ?_⟩
  obtain ⟨τ, G, L, st, ce, out⟩ := h
  have h1 := split_as st ce out
  obtain ⟨s1, s2⟩ := hst e es rfl
  rcases hf with ⟨id, rfl⟩ | ⟨t, rfl⟩
  · refine wpAny_Call_Name_kw (ld_blt I hg hm hv ?_ hn hd)
    exact PyProof.Rows.callWith_builtin1 (thn (ha.run pos pins s σ H _ I h1) fun us s1 ⟨vs, H1, I1, r, q⟩ => (by
      obtain ⟨rs, τ1, G1, L1, _, hr, st1, ce1, o1⟩ := q
      exact run pins _ rs vs us σ G1 L1 H1 τ1 Q I1 r hr st1 ce1 o1)) s1 s2
  · refine wpAny_Call_Name_kw (ld_blt I hg hm hv ?_ hn hd)
    exact PyProof.Rows.callWith_type1 (thn (ha.run pos pins s σ H _ I h1) fun us s1 ⟨vs, H1, I1, r, q⟩ => (by
      obtain ⟨rs, τ1, G1, L1, _, hr, st1, ce1, o1⟩ := q
      exact run pins _ rs vs us σ G1 L1 H1 τ1 Q I1 r hr st1 ce1 o1)) s1 s2
/-- .. one that is imported -/
theorem pe_bltB {id : String} {g : List Rv → M Rv} {x : Str} {p pos : Pos} {e : Expr} {es : List Expr} {ms : M (List Rv)} (hg : Gl X x) (hm : X.mg x = some (.builtin id)) (hd : (x == ("__debug__" : Str)) = false)
    (ha : PA X (e :: es) (tAs X.K N W ms)) (hst : Plain X pos (e :: es))
    (run : ∀ (pins : List (Addr × Obj)) (s : Shared) (rs : List Rv) (vs : List V) (us : List Value) (σ : L2.St) (G : Hp) (L : Cl) (H : Hp) (τ : Sto) (Q : VK), Inv X pins σ H s → Vals vs us → OpsR X.K N G σ rs vs [] → StoR X.K N G τ σ L → Cells G L H → Out X.K N W (RvR X.K N) σ G L H Q (g rs τ) →
      wpAny (model X.prog X.w) X.A (call (.builtin id) us) (EP X pins σ Q) X.xe s) : PE X (.Call (.Name x p) (e :: es) [] pos) (tE X.K N W (bnd ms g)) := by
  refine ⟨fun pins s σ H Q I h => ?_⟩
  obtain ⟨τ, G, L, st, ce, out⟩ := h
  have h1 := split_as st ce out
  obtain ⟨s1, s2⟩ := hst e es rfl
  refine wpAny_Call_Name_kw (ld_glob I hg hm ?_ hd)
  exact PyProof.Rows.callWith_builtin1 (thn (ha.run pos pins s σ H _ I h1) fun us s1 ⟨vs, H1, I1, r, q⟩ => (by
    obtain ⟨rs, τ1, G1, L1, _, hr, st1, ce1, o1⟩ := q
    exact run pins _ rs vs us σ G1 L1 H1 τ1 Q I1 r hr st1 ce1 o1)) s1 s2
/-- what a built-in does, an own class's def may answer -/
theorem blt_run (F : UnaOk X N T cl W) (hc : X.calm = true) {b : Bi} {pins : List (Addr × Obj)} {s : Shared} {rs : List Rv} {vs : List V} {us : List Value} {σ : L2.St} {G : Hp} {L : Cl} {H : Hp} {τ : Sto} {Q : VK} (I : Inv X pins σ H s) (rv : Vals vs us) (hr : OpsR X.K N G σ rs vs []) (st : StoR X.K N G τ σ L) (ce : Cells G L H)
    (out : Out X.K N W (RvR X.K N) σ G L H Q (doBlt T cl b rs τ)) : wpAny (model X.prog X.w) X.A (call (biV b) us) (EP X pins σ Q) X.xe s := by
  have plain : Out X.K N W (RvR X.K N) σ G L H Q (many (biF b) rs τ) → wpAny (model X.prog X.w) X.A (call (biV b) us) (EP X pins σ Q) X.xe s := fun o => bi_ok (X := X) (N := N) (W := W) hc b pins s σ H vs us Q I rv ⟨rs, τ, σ, G, L, hr, st, ce, o⟩
  unfold doBlt at out
  split at out
  · rename_i r
    obtain ⟨_, x, xs, rfl, h2, h3, _⟩ := hr
    subst h3
    cases rv with
    | cons rx rr =>
      cases rr
      cases e1 : res τ r with
      | none => simp only [e1] at out; exact out.elim
      | some o =>
        simp only [e1] at out
        cases e2 : clsOf o with
        | none => simp only [e2] at out; exact plain out
        | some c =>
          simp only [e2] at out
          cases e3 : unB b with
          | none => simp only [e3] at out; exact out.elim
          | some u =>
            simp only [e3] at out
            rw [← un_biV e3]
            exact F u c pins s σ G L H τ Q r x _ o e2 I rx st ce h2 e1 out
  · exact plain out
end
end Tw
set_option maxHeartbeats 2000000
/-! The tree walk, part 10c: methods of a text. -/
namespace Tw
open PySem PySem.Spec PyProof.Rows L2 Evl
section
variable {X : Cx} {N : Nm} {W : WX}
theorem str_at {r : Rv} {α β : Type} {rel : Hp → L2.St → α → β → Cl → Prop} {f : Unit → M α} {τ : Sto} {σ : L2.St} {G : Hp} {L : Cl} {H : Hp} {Q : β → Hp → Prop} {x : V} (hr : OpR1 X.K N G σ r x []) (st : StoR X.K N G τ σ L) (out : Out X.K N W rel σ G L H Q (bnd (isStrM r) f τ)) :
    ∃ z, x = .str z ∧ res τ r = some (.val (.str z)) ∧ Out X.K N W rel σ G L H Q (f () τ) := by
  unfold bnd isStrM at out
  cases e : res τ r with
  | none => simp only [e] at out; exact out.elim
  | some o =>
    simp only [e] at out
    split at out
    · rename_i u τ1 e1
      split at e1
      · rename_i z ez
        cases e1
        cases ez
        obtain ⟨La, Ra, ho, pm⟩ := res_own st hr e
        exact ⟨z, ho.2, rfl, out⟩
      · cases e1
    · rename_i y τ1 e1
      split at e1 <;> cases e1
    · exact out.elim
theorem pe_dig {o : Expr} {ma : M Rv} {apos cpos : Pos} (ho : PE X o (tE X.K N W ma)) (hb : attributeBase o "isdigit" X.env (eval o X.env) = eval o X.env) (hl : (apos.endLine == cpos.line) = true) :
    PE X (.Call (.Attribute o "isdigit" apos) [] [] cpos) (tE X.K N W (bnd (opd ma) fun x => bnd (isStrM x) fun _ => bnd (fun τ => .ok [] τ) fun rs => smR 0 x rs)) := by
  refine (pe_bm0 PySem.F.plainAttrs_str PySem.F.slot_str_isdigit PySem.F.type_str_isdigit mt_isdigit (pe_opd ho) hb hl).imp fun σ H Q => ?_
  rintro ⟨τ, G, L, st, ce, out⟩
  refine tM_mono (split_op st ce out) fun x H1 => ?_
  rintro ⟨r, τ1, G1, L1, e0, hr, st1, ce1, o1⟩
  obtain ⟨z, rfl, e1, o2⟩ := str_at hr st1 o1
  refine ⟨rfl, z, rfl, rfl, trivial, ?_⟩
  have o3 : Out X.K N W (RvR X.K N) σ G1 L1 H1 Q (un digF r τ1) := o2
  unfold un at o3
  simp only [e1, digF] at o3
  exact out_val st1 ce1 o3 ⟨rfl, rfl⟩
theorem pe_spl {o e : Expr} {ma : M Rv} {ms : M (List Rv)} {apos cpos : Pos} (ho : PE X o (tE X.K N W ma)) (ha : PA X [e] (tAs X.K N W ms)) (hb : attributeBase o "split" X.env (eval o X.env) = eval o X.env) (hl : (apos.endLine == cpos.line) = true)
    (hfew : ((backTo cpos (starEach [e] X.env)).all (fun x => !x.1) && (backToKw cpos (keywordEach [] X.env)).all (fun x => x.1.isSome) && decide ([e].length + ([] : List Keyword).length + (if ([] : List Keyword).isEmpty then 0 else 1) < 30)) = true) (hst : Plain X cpos [e]) :
    PE X (.Call (.Attribute o "split" apos) [e] [] cpos) (tE X.K N W (bnd (opd ma) fun x => bnd (isStrM x) fun _ => bnd ms fun rs => smR 1 x rs)) := by
  obtain ⟨s1, s2⟩ := hst e [] rfl
  refine (pe_bm PySem.F.plainAttrs_str PySem.F.slot_str_split PySem.F.type_str_split mt_split (pe_opd ho) ha hb hfew hl s1 s2).imp fun σ H Q => ?_
  rintro ⟨τ, G, L, st, ce, out⟩
  refine tM_mono (split_op st ce out) fun x H1 => ?_
  rintro ⟨r, τ1, G1, L1, e0, hr, st1, ce1, o1⟩
  obtain ⟨z, rfl, e1, o2⟩ := str_at hr st1 o1
  refine ⟨rfl, ?_⟩
  refine tM_mono (split_as st1 ce1 o2) fun xs H2 => ?_
  rintro ⟨rs, τ2, G2, L2, eG, hrs, st2, ce2, o3⟩
  rcases rs with _ | ⟨y, _ | ⟨y2, rs⟩⟩
  · exact o3.elim
  · obtain ⟨_, v, xs', rfl, h2, h3⟩ := hrs
    obtain ⟨rfl, _⟩ := h3
    replace o3 : Out X.K N W (RvR X.K N) σ G2 L2 H2 Q (two splF r y τ2) := o3
    unfold two at o3
    cases q1 : res τ2 r with
    | none => simp only [q1] at o3; exact o3.elim
    | some oa =>
      cases q2 : res τ2 y with
      | none => simp only [q1, q2] at o3; exact o3.elim
      | some ob =>
        simp only [q1, q2] at o3
        obtain ⟨La, Ra, hoa, pa⟩ := res_own st2 (hr.mono eG) q1
        obtain ⟨Lb, Rb, hob, pb⟩ := res_own st2 h2 q2
        cases q3 : splF oa ob with
        | none => simp only [q3] at o3; exact o3.elim
        | some w =>
          simp only [q3] at o3
          unfold splF at q3
          split at q3
          · rename_i z' b
            have ez : V.str z = .str z' := hoa.2
            have eb : v = .str b := hob.2
            cases ez
            subst eb
            split at q3
            · rename_i hl2
              cases q3
              refine ⟨z, b, rfl, rfl, hl2.1, lim_le hl2.2, fun p hp => ?_⟩
              have rep : RepL X.K N G2 ((Txt.split z b).map D.str) ((Txt.split z b).map V.str) := by
                generalize Txt.split z b = ys
                induction ys with
                | nil => exact rfl
                | cons y ys ih => exact ⟨.str y, ys.map V.str, rfl, rfl, ih⟩
              exact o3 (.ref p) G2 [(p, HO.lst ((Txt.split z b).map V.str))] L2 _ ⟨p, _, [], rfl, rfl, OwnL.of rep⟩ st2 (ce2.new hp) (Step.new1 hp)
            · cases q3
          · cases q3
  · exact o3.elim
/-- an f-string's parts -/
def PM (X : Cx) (N : Nm) (W : WX) (es : List Expr) (mj : Str → M Rv) : Prop := ∃ ts, PJ X es ts ∧ ∀ (acc : Str) (σ : L2.St) (H : Hp) (Q : V → Hp → Prop), tE X.K N W (mj acc) σ H Q → tJs ts acc σ H fun out H1 => Q (.str out) H1
theorem pm_nil : PM X N W [] (fun acc τ => .ok (.own (.val (.str acc))) τ) := by
  refine ⟨[], .nil, ?_⟩
  rintro acc σ H Q ⟨τ, G, L, st, ce, out⟩
  exact out_val st ce out ⟨rfl, rfl⟩
theorem pm_con {e : Expr} {k : Str} {es : List Expr} {mj : Str → M Rv} (he : PE X e (fun _ H Q => Q (.str k) H)) (hs : PM X N W es mj) :
    PM X N W (e :: es) (fun acc => catM (fun τ => .ok (.own (.val (.str k))) τ) mj acc) := by
  obtain ⟨ts, hj, h⟩ := hs
  refine ⟨_ :: ts, .cons he hj, ?_⟩
  rintro acc σ H Q ⟨τ, G, L, st, ce, out⟩
  replace out : Out X.K N W (RvR X.K N) σ G L H Q (if k.length ≤ lim ∧ (acc ++ k).length ≤ lim then mj (acc ++ k) τ else .bad) := out
  split at out
  · rename_i hl
    exact ⟨k, rfl, lim_le hl.2, h _ _ _ _ ⟨τ, G, L, st, ce, out⟩⟩
  · exact out.elim
theorem pm_fmt {e : Expr} {ma : M Rv} {pos : Pos} {es : List Expr} {mj : Str → M Rv} (he : PE X e (tE X.K N W ma)) (hs : PM X N W es mj) :
    PM X N W (.FormattedValue e (-1) none pos :: es) (fun acc => catM ma mj acc) := by
  obtain ⟨ts, hj, h⟩ := hs
  refine ⟨_ :: ts, .cons (pe_fmt (pe_opd he)) hj, ?_⟩
  rintro acc σ H Q ⟨τ, G, L, st, ce, out⟩
  refine tM_mono (split_op st ce out) fun x H1 => ?_
  rintro ⟨r, τ1, G1, L1, e0, hr, st1, ce1, o1⟩
  cases e : res τ1 r with
  | none => simp only [e, fmtO] at o1; exact o1.elim
  | some o =>
    obtain ⟨La, Ra, hoa, pa⟩ := res_own st1 hr e
    simp only [e] at o1
    cases e2 : fmtO (some o) with
    | none => simp only [e2] at o1; exact o1.elim
    | some y =>
      simp only [e2] at o1
      split at o1
      · rename_i hl
        have nx := h _ _ _ _ ⟨τ1, G1, L1, st1, ce1, o1⟩
        unfold fmtO at e2
        split at e2
        · rename_i z ez
          cases ez
          cases e2
          exact .inl ⟨y, hoa.2, lim_le hl.1, y, rfl, lim_le hl.2, nx⟩
        · rename_i i ei
          cases ei
          split at e2
          · rename_i hi
            cases e2
            exact .inr ⟨i, hoa.2, hi, _, rfl, lim_le hl.2, nx⟩
          · cases e2
        · cases e2
      · exact o1.elim
theorem pe_fst {v1 v2 : Expr} {es : List Expr} {mj : Str → M Rv} {pos : Pos} (h : PM X N W (v1 :: v2 :: es) mj) : PE X (.JoinedStr (v1 :: v2 :: es) pos) (tE X.K N W (mj Str.empty)) := by
  obtain ⟨ts, hj, hq⟩ := h
  exact (pe_joined hj).imp fun σ H Q q => hq _ _ _ _ q
end
end Tw
set_option maxHeartbeats 2000000
/-! The tree walk, part 11: statements. -/
namespace Tw
open PySem PySem.Spec PyProof.Rows L2 Evl
/-- the slots B stand as at the entry -/
def Fx (B : List Nat) (σ0 σ : L2.St) : Prop := ∀ j ∈ B, σ[j]? = σ0[j]?
theorem Fx.set {B : List Nat} {σ0 σ : L2.St} {i : Nat} {v : Option V} (h : Fx B σ0 σ) (hi : i ∉ B) : Fx B σ0 (σ.set i v) := fun j hj => by
  rw [List.getElem?_set_ne (fun e => hi (by rw [e]; exact hj))]
  exact h j hj
section
variable {K : PySem.W.Frag} {N : Nm}
def OutS (K : PySem.W.Frag) (N : Nm) (W : WX) (B : List Nat) (σ0 : L2.St) (G : Hp) (L : Cl) (H : Hp) (D : Ends) : R Fl → Prop
  | .ok .nx τ' => ∀ σ' G' L' H', StoR K N G' τ' σ' L' → Cells G' L' H' → Step G L H G' L' H' → Fx B σ0 σ' → D.nx σ' H'
  | .ok .bk τ' => ∀ σ' G' L' H', StoR K N G' τ' σ' L' → Cells G' L' H' → Step G L H G' L' H' → Fx B σ0 σ' → D.bk σ' H'
  | .ok .ct τ' => ∀ σ' G' L' H', StoR K N G' τ' σ' L' → Cells G' L' H' → Step G L H G' L' H' → Fx B σ0 σ' → D.ct σ' H'
  | .ok (.rt o) τ' => ∀ v σ' G' Lv L' H', Own K N G' o v Lv → StoR K N G' τ' σ' L' → Cells G' (Lv ++ L') H' → Step G L H G' (Lv ++ L') H' → Fx B σ0 σ' → D.rt v H'
  | .ex x τ' => ∀ cls d σ' G' L' H', ExR K N x cls d G' → StoR K N G' τ' σ' L' → Cells G' L' H' → Step G L H G' L' H' → Fx B σ0 σ' → W cls d σ' H'
  | .bad => False
theorem OutS.later {W : WX} {B : List Nat} {σ0 : L2.St} {G G1 : Hp} {L L1 : Cl} {H H1 : Hp} {D : Ends} {r : R Fl} (h : OutS K N W B σ0 G L H D r) (s : Step G L H G1 L1 H1) : OutS K N W B σ0 G1 L1 H1 D r := by
  cases r with
  | ok f τ =>
    cases f with
    | nx => exact fun σ' G' L' H' st ce sp fx => h σ' G' L' H' st ce (s.trans sp) fx
    | bk => exact fun σ' G' L' H' st ce sp fx => h σ' G' L' H' st ce (s.trans sp) fx
    | ct => exact fun σ' G' L' H' st ce sp fx => h σ' G' L' H' st ce (s.trans sp) fx
    | rt o => exact fun v σ' G' Lv L' H' ho st ce sp fx => h v σ' G' Lv L' H' ho st ce (s.trans sp) fx
  | ex x τ => exact fun cls d σ' G' L' H' hr st ce sp fx => h cls d σ' G' L' H' hr st ce (s.trans sp) fx
  | bad => exact h
def tSt (K : PySem.W.Frag) (N : Nm) (W : WX) (B : List Nat) (σ0 : L2.St) (m : M Fl) : TS := fun D σ H => ∃ τ G L, StoR K N G τ σ L ∧ Cells G L H ∧ Fx B σ0 σ ∧ OutS K N W B σ0 G L H D (m τ)
theorem splitS {α β : Type} {W : WX} {B : List Nat} {σ0 σ : L2.St} {rel1 : Hp → L2.St → α → β → Cl → Prop} {m : M α} {f : α → M Fl} {G : Hp} {L : Cl} {H : Hp} {τ : Sto} {D : Ends}
    (st : StoR K N G τ σ L) (ce : Cells G L H) (fx : Fx B σ0 σ) (out : OutS K N W B σ0 G L H D (bnd m f τ)) :
    tM K N W rel1 m σ H (fun b H1 => ∃ a τ1 G1 Lv L1, Ex G G1 ∧ rel1 G1 σ a b Lv ∧ StoR K N G1 τ1 σ L1 ∧ Cells G1 (Lv ++ L1) H1 ∧ OutS K N W B σ0 G1 (Lv ++ L1) H1 D (f a τ1)) := by
  refine ⟨τ, G, L, st, ce, ?_⟩
  unfold bnd at out
  cases e : m τ with
  | ok a τ1 =>
    rw [e] at out
    exact fun b G' Lv L' H' hr st' ce' sp => ⟨a, τ1, G', Lv, L', sp.ex, hr, st', ce', out.later sp⟩
  | ex x τ1 =>
    rw [e] at out
    exact fun cls d G' L' H' hr st' ce' sp => out cls d σ G' L' H' hr st' ce' sp fx
  | bad =>
    rw [e] at out
    exact out
theorem splitS0 {α β : Type} {W : WX} {B : List Nat} {σ0 σ : L2.St} {rel1 : Hp → L2.St → α → β → Cl → Prop} {m : M α} {f : α → M Fl} {G : Hp} {L : Cl} {H : Hp} {τ : Sto} {D : Ends}
    (hr0 : ∀ {G a b Lv}, rel1 G σ a b Lv → Lv = []) (st : StoR K N G τ σ L) (ce : Cells G L H) (fx : Fx B σ0 σ) (out : OutS K N W B σ0 G L H D (bnd m f τ)) :
    tM K N W rel1 m σ H (fun b H1 => ∃ a τ1 G1 L1, Ex G G1 ∧ rel1 G1 σ a b [] ∧ StoR K N G1 τ1 σ L1 ∧ Cells G1 L1 H1 ∧ OutS K N W B σ0 G1 L1 H1 D (f a τ1)) := by
  obtain ⟨τ', G', L', st', ce', o'⟩ := splitS (rel1 := rel1) st ce fx out
  refine ⟨τ', G', L', st', ce', ?_⟩
  cases e : m τ' with
  | bad => rw [e] at o'; exact o'
  | ex x τ1 => rw [e] at o'; exact o'
  | ok r τ1 =>
    rw [e] at o'
    intro v G' Lv L' H' hr st' ce' sp
    obtain ⟨a, τ1, G1, Lv, L1, eG, hr, st1, ce1, o1⟩ := o' v G' Lv L' H' hr st' ce' sp
    have e0 := hr0 hr
    subst e0
    exact ⟨a, τ1, G1, L1, eG, hr, st1, ce1, o1⟩
/-- a slot is set, whatever it held -/
theorem StoR.put {G : Hp} {τ : Sto} {σ : L2.St} {L : Cl} {i : Nat} {o : O} {v : V} {B : Cl} (h : StoR K N G τ σ L) (hi : i < τ.length) (ho : Own K N G o v B) :
    ∃ Lx Ly, (B ++ L).Perm (Lx ++ Ly) ∧ StoR K N G (τ.set i (some o)) (σ.set i (some v)) Lx := by
  obtain ⟨A, Bx, C, rfl, h1, _⟩ := h.drop (i := i)
  obtain ⟨A2, C2, e, h3⟩ := h1.fill (i := i) (by simpa using hi) (by simp [hi]) ho
  rw [List.set_set] at h3
  refine ⟨A2 ++ (B ++ C2), Bx, ?_, h3⟩
  have p1 : (A ++ (Bx ++ C)).Perm (Bx ++ (A ++ C)) := perm3 A Bx C
  have p2 : (A2 ++ (B ++ C2)).Perm (B ++ (A2 ++ C2)) := perm3 A2 B C2
  -- B ++ (A ++ (Bx ++ C)) ~ B ++ (Bx ++ (A ++ C)) = B ++ (Bx ++ (A2 ++ C2))
  refine (List.Perm.append_left B p1).trans ?_
  rw [e]
  refine (perm3 B Bx (A2 ++ C2)).trans ?_
  refine (List.Perm.append_left Bx p2.symm).trans ?_
  exact List.perm_append_comm
end
section
variable {X : Cx} {N : Nm} {T : Tb} {cl : CallT} {W : WX} {B : List Nat} {σ0 : L2.St}
theorem pss_nil' : PSs X [] (tSt X.K N W B σ0 fun τ => .ok .nx τ) := pss_nil.imp fun D σ H ⟨τ, G, L, st, ce, fx, out⟩ => out σ G L H st ce Step.refl fx
theorem pss_cons' {s : Stmt} {rest : List Stmt} {m k : M Fl} (h1 : PS X s (tSt X.K N W B σ0 m)) (h2 : PSs X rest (tSt X.K N W B σ0 k)) : PSs X (s :: rest) (tSt X.K N W B σ0 (seq2 m k)) := by
  refine (pss_cons h1 h2).imp fun D σ H => ?_
  rintro ⟨τ, G, L, st, ce, fx, out⟩
  refine ⟨τ, G, L, st, ce, fx, ?_⟩
  unfold seq2 at out
  cases e : m τ with
  | bad => rw [e] at out; exact out
  | ex x τ1 => rw [e] at out; exact out
  | ok f τ1 =>
    rw [e] at out
    cases f with
    | nx => exact fun σ' G' L' H' st' ce' sp fx' => ⟨τ1, G', L', st', ce', fx', out.later sp⟩
    | bk => exact out
    | ct => exact out
    | rt o => exact out
theorem ps_pass' {pos : Pos} : PS X (.Pass pos) (tSt X.K N W B σ0 fun τ => .ok .nx τ) := ps_pass.imp fun D σ H ⟨τ, G, L, st, ce, fx, out⟩ => out σ G L H st ce Step.refl fx
theorem ps_brk' {pos : Pos} : PS X (.Break pos) (tSt X.K N W B σ0 fun τ => .ok .bk τ) := ps_break.imp fun D σ H ⟨τ, G, L, st, ce, fx, out⟩ => out σ G L H st ce Step.refl fx
theorem ps_cont' {pos : Pos} : PS X (.Continue pos) (tSt X.K N W B σ0 fun τ => .ok .ct τ) := ps_continue.imp fun D σ H ⟨τ, G, L, st, ce, fx, out⟩ => out σ G L H st ce Step.refl fx
theorem ps_retN' {pos : Pos} : PS X (.Return none pos) (tSt X.K N W B σ0 fun τ => .ok (.rt (.val .non)) τ) := ps_retN.imp fun D σ H ⟨τ, G, L, st, ce, fx, out⟩ => out .non σ G [] L H ⟨rfl, rfl⟩ st ce Step.refl fx
theorem ps_ret' {e : Expr} {m : M Rv} {pos : Pos} (he : PE X e (tE X.K N W m)) : PS X (.Return (some e) pos) (tSt X.K N W B σ0 (bnd (own m) fun o τ => .ok (.rt o) τ)) := by
  refine (ps_ret (pe_own he)).imp fun D σ H => ?_
  rintro ⟨τ, G, L, st, ce, fx, out⟩
  refine tM_mono (splitS (rel1 := OwR X.K N) st ce fx out) fun v H1 => ?_
  rintro ⟨o, τ1, G1, Lv, L1, eG, hr, st1, ce1, o1⟩
  exact o1 v σ G1 Lv L1 H1 hr st1 ce1 Step.refl fx
theorem ps_expr' {e : Expr} {m : M Rv} {pos : Pos} (he : PE X e (tE X.K N W m)) (hs : swapsWith e none pos.line X.env = pure false) : PS X (.Expr e pos) (tSt X.K N W B σ0 (bnd (opd m) fun _ τ => .ok .nx τ)) := by
  refine (ps_expr (pe_opd he) hs).imp fun D σ H => ?_
  rintro ⟨τ, G, L, st, ce, fx, out⟩
  refine tM_mono (splitS0 (rel1 := OpR1 X.K N) (fun h => h.1) st ce fx out) fun v H1 => ?_
  rintro ⟨o, τ1, G1, L1, eG, hr, st1, ce1, o1⟩
  exact o1 σ G1 L1 H1 st1 ce1 Step.refl fx
theorem ps_if' {c : Expr} {a b : List Stmt} {mt : M Bool} {ma mb : M Fl} {pos : Pos} (hc : PT X c (tB X.K N W mt)) (ha : PSs X a (tSt X.K N W B σ0 ma)) (hb : PSs X b (tSt X.K N W B σ0 mb)) :
    PS X (.If c a b pos) (tSt X.K N W B σ0 (bnd mt fun k => match k with
      | true => ma
      | false => mb)) := by
  refine (ps_if hc ha hb).imp fun D σ H => ?_
  rintro ⟨τ, G, L, st, ce, fx, out⟩
  refine tM_mono (splitS0 (rel1 := BoR) (fun h => h.2) st ce fx out) fun k H1 => ?_
  rintro ⟨k', τ1, G1, L1, eG, hr, st1, ce1, o1⟩
  have e : k' = k := hr.1
  subst e
  cases k' with
  | true => exact ⟨τ1, G1, L1, st1, ce1, fx, o1⟩
  | false => exact ⟨τ1, G1, L1, st1, ce1, fx, o1⟩
/-- name = value -/
theorem asg_out {i : Nat} {o : O} {v : V} {τ : Sto} {σ : L2.St} {G : Hp} {Lv L : Cl} {H : Hp} {D : Ends} (st : StoR X.K N G τ σ L) (ce : Cells G (Lv ++ L) H) (fx : Fx B σ0 σ) (hi : i ∉ B) (ho : Own X.K N G o v Lv)
    (out : OutS X.K N W B σ0 G (Lv ++ L) H D (match put τ i o with
      | some τ1 => .ok .nx τ1
      | none => .bad)) : D.nx (σ.set i (some v)) H := by
  unfold put at out
  by_cases h : i < τ.length
  · simp only [h, if_true] at out
    obtain ⟨Lx, Ly, pm, st2⟩ := st.put h ho
    exact out _ G Lx H st2 (ce.perm pm).left ((Step.refl.perm (List.Perm.refl _) pm).sub fun p hp => List.mem_append_left _ hp) (fx.set hi)
  · simp only [h, if_false] at out
    exact out.elim
theorem ps_asg' {i : Nat} {x : Str} {e : Expr} {m : M Rv} {pos pos' : Pos} (hN : X.N.Nodup) (hi : X.N[i]? = some x) (hx : Loc X.env.scope x) (hf : X.fn x = true ∨ X.env.scope.names.lookup x = some .local) (hB : i ∉ B) (he : PE X e (tE X.K N W m)) (hs : swapsWith e (some (.Name x pos')) pos.line X.env = pure false) :
    PS X (.Assign [.Name x pos'] e pos) (tSt X.K N W B σ0 (bnd (own m) fun o τ => match put τ i o with
      | some τ1 => .ok .nx τ1
      | none => .bad)) := by
  refine (ps_set hN hi hx (pe_own he) hs hf).imp fun D σ H => ?_
  rintro ⟨τ, G, L, st, ce, fx, out⟩
  refine tM_mono (splitS (rel1 := OwR X.K N) st ce fx out) fun v H1 => ?_
  rintro ⟨o, τ1, G1, Lv, L1, eG, hr, st1, ce1, o1⟩
  exact asg_out st1 ce1 fx hB hr o1
theorem ps_asgF {i : Nat} {x : Str} {e : Expr} {m : M Rv} {pos pos' : Pos} (hN : X.N.Nodup) (hi : X.N[i]? = some x) (hx : Loc X.env.scope x) (hf : X.fn x = true ∨ X.env.scope.names.lookup x = some .local) (hB : i ∉ B) (he : PE X e (tE X.K N W m)) (hs : swapsWith e (some (.Name x pos')) pos.line X.env = pure false) :
    PS X (.Assign [.Name x pos'] e pos) (tSt X.K N W B σ0 (bnd (ownD m) fun d τ => match put τ i (.val d) with
      | some τ1 => .ok .nx τ1
      | none => .bad)) := by
  refine (ps_set hN hi hx (pe_ownD he) hs hf).imp fun D σ H => ?_
  rintro ⟨τ, G, L, st, ce, fx, out⟩
  refine tM_mono (splitS (rel1 := DR X.K N) st ce fx out) fun v H1 => ?_
  rintro ⟨d, τ1, G1, Lv, L1, eG, hr, st1, ce1, o1⟩
  obtain ⟨rfl, hr⟩ := hr
  exact asg_out (o := .val d) (Lv := []) st1 ce1 fx hB ⟨rfl, hr⟩ o1
/-! targets -/
/-- d is laid at the names tg -/
def TgOk (X : Cx) (N : Nm) (g : TG) (tg : List Nat) : Prop := ∀ (d : D) (x : V) (G : Hp) (L : Cl) (H : Hp) (τ τ1 : Sto) (σ : L2.St) (Q : L2.St → Hp → Prop), setTg τ tg d = some τ1 → Rep X.K N G d x → StoR X.K N G τ σ L → Cells G L H →
  (∀ σ1 L1 L2, L.Perm (L1 ++ L2) → StoR X.K N G τ1 σ1 L1 → (∀ j, j ∉ tg → σ1[j]? = σ[j]?) → Q σ1 H) → g x σ H Q
theorem tg_one {i : Nat} : TgOk X N (gName i) [i] := by
  intro d x G L H τ τ1 σ Q e hr st ce k
  have e' : put τ i (.val d) = some τ1 := e
  unfold put at e'
  split at e'
  · rename_i hi
    cases e'
    obtain ⟨Lx, Ly, pm, st2⟩ := st.put (o := .val d) (B := []) hi ⟨rfl, hr⟩
    exact k _ Lx Ly pm st2 fun j hj => by rw [List.getElem?_set_ne (fun e => hj (by simp [e]))]
  · cases e'
theorem tgs_all : ∀ {tg : List Nat} {ds : List D} {xs : List V} {G : Hp} {L : Cl} {H : Hp} {τ τ1 : Sto} {σ : L2.St} {Q : L2.St → Hp → Prop}, setAll τ tg ds = some τ1 → RepL X.K N G ds xs → StoR X.K N G τ σ L → Cells G L H →
    (∀ σ1 L1 L2, L.Perm (L1 ++ L2) → StoR X.K N G τ1 σ1 L1 → (∀ j, j ∉ tg → σ1[j]? = σ[j]?) → Q σ1 H) → (tg.foldr (fun i u => gCons (gName i) u) gNil) xs σ H Q
  | [], ds, xs, G, L, H, τ, τ1, σ, Q, e, hr, st, ce, k => by
    cases ds with
    | nil =>
      have e' : some τ = some τ1 := e
      cases e'
      exact ⟨hr, k σ L [] (by simp) st fun _ _ => rfl⟩
    | cons _ _ => cases e
  | i :: is, ds, xs, G, L, H, τ, τ1, σ, Q, e, hr, st, ce, k => by
    cases ds with
    | nil => cases e
    | cons d ds =>
      obtain ⟨v, r, rfl, h2, h3⟩ := hr
      simp only [setAll] at e
      cases q : put τ i (.val d) with
      | none => simp only [q] at e; cases e
      | some τ2 =>
        simp only [q] at e
        unfold put at q
        split at q
        · rename_i hi
          cases q
          obtain ⟨Lx, Ly, pm, st2⟩ := st.put (o := .val d) (B := []) hi ⟨rfl, h2⟩
          have pm' : L.Perm (Lx ++ Ly) := pm
          refine ⟨v, r, rfl, tgs_all e h3 st2 (ce.perm pm').left fun σ1 L1 L2 pm2 st3 hj => ?_⟩
          refine k σ1 L1 (L2 ++ Ly) ?_ st3 fun j hn => ?_
          · refine pm'.trans ?_
            rw [← List.append_assoc]
            exact List.Perm.append_right Ly pm2
          · rw [hj j fun z => hn (List.mem_cons_of_mem _ z), List.getElem?_set_ne (fun e => hn (by simp [e]))]
        · cases q
theorem setAll_len : ∀ {tg : List Nat} {ds : List D} {τ τ1 : Sto}, setAll τ tg ds = some τ1 → ds.length = tg.length
  | [], [], _, _, _ => rfl
  | [], _ :: _, _, _, e => by cases e
  | _ :: _, [], _, _, e => by cases e
  | i :: is, d :: ds, τ, τ1, e => by
    simp only [setAll] at e
    cases q : put τ i (.val d) with
    | none => simp only [q] at e; cases e
    | some τ2 =>
      simp only [q] at e
      simp [setAll_len e]
theorem tg_tup {tg : List Nat} (h : tg.length ≠ 1) : TgOk X N (gTup X.K tg.length (tg.foldr (fun i u => gCons (gName i) u) gNil)) tg := by
  intro d x G L H τ τ1 σ Q e hr st ce k
  have e' : setTup τ tg d = some τ1 := by
    unfold setTg at e
    split at e
    · exact absurd rfl h
    · exact e
  cases d with
  | tup ds =>
    obtain ⟨a, vs, rfl, h1, h2⟩ := hr
    exact ⟨a, vs, rfl, ex_t ce.sub h1, by rw [← h2.len]; exact setAll_len e', tgs_all e' h2 st ce k⟩
  | _ => cases e'
/-- the target as the text has it -/
theorem pgs_names : ∀ {ts : List Expr} {tg : List Nat}, Paired (fun t i => ∃ (x : Str) (p : Pos), t = .Name x p ∧ X.N[i]? = some x ∧ Loc X.env.scope x ∧ (X.fn x = true ∨ X.env.scope.names.lookup x = some .local)) ts tg → X.N.Nodup → PGs X ts (tg.foldr (fun i u => gCons (gName i) u) gNil)
  | _, _, .nil, _ => pgs_nil
  | _, _, .cons h r, nd => by
    obtain ⟨x, p, rfl, h1, h2, h3⟩ := h
    exact pgs_cons (pg_name nd h1 h2 h3) (pgs_names r nd)
theorem each_names : ∀ {ts : List Expr} {tg : List Nat}, Paired (fun t i => ∃ (x : Str) (p : Pos), t = .Name x p ∧ X.N[i]? = some x ∧ Loc X.env.scope x ∧ (X.fn x = true ∨ X.env.scope.names.lookup x = some .local)) ts tg → (assignEach ts X.env).length = tg.length ∧ (assignEach ts X.env).findIdx? (·.1) = none
  | _, _, .nil => ⟨rfl, rfl⟩
  | _, _, .cons h r => by
    obtain ⟨x, p, rfl, h1, h2, h3⟩ := h
    obtain ⟨l1, l2⟩ := each_names r
    refine ⟨?_, ?_⟩
    · show ((false, assign (.Name x p) X.env) :: assignEach _ X.env).length = _
      simp [l1]
    · show ((false, assign (.Name x p) X.env) :: assignEach _ X.env).findIdx? (·.1) = none
      rw [List.findIdx?_cons]
      simp [l2]
theorem ps_asgT {ts : List Expr} {tg : List Nat} {k : Nat} {e : Expr} {m : M Rv} {pos tpos : Pos} (hc : X.calm = true) (nd : X.N.Nodup) (hp : Paired (fun t i => ∃ (x : Str) (p : Pos), t = .Name x p ∧ X.N[i]? = some x ∧ Loc X.env.scope x ∧ (X.fn x = true ∨ X.env.scope.names.lookup x = some .local)) ts tg) (hl : tg.length ≠ 1)
    (hB : ∀ i ∈ tg, i ∉ B) (he : PE X e (tE X.K N W m)) (hs : swapsWithSole [.Tuple ts k tpos] e pos.line X.env = pure false) (hw : swappedStores [.Tuple ts k tpos] e X.env = pure none) :
    PS X (.Assign [.Tuple ts k tpos] e pos) (tSt X.K N W B σ0 (bnd (ownD m) fun d τ => match setTg τ tg d with
      | some τ1 => .ok .nx τ1
      | none => .bad)) := by
  obtain ⟨l1, l2⟩ := each_names hp
  refine (ps_asg (pe_ownD he) (pg_tup hc (pgs_names hp nd) l1 l2) hs hw).imp fun D σ H => ?_
  rintro ⟨τ, G, L, st, ce, fx, out⟩
  refine tM_mono (splitS0 (rel1 := DR X.K N) (fun h => h.1) st ce fx out) fun v H1 => ?_
  rintro ⟨d, τ1, G1, L1, eG, hr, st1, ce1, o1⟩
  cases q : setTg τ1 tg d with
  | none => simp only [q] at o1; exact o1.elim
  | some τ2 =>
    simp only [q] at o1
    refine tg_tup hl d v G1 L1 H1 τ1 τ2 σ _ q hr.2 st1 ce1 fun σ1 La Lb pm st2 hj => ?_
    exact o1 σ1 G1 La H1 st2 (ce1.perm pm).left ((Step.refl.perm (List.Perm.refl _) pm).sub fun p hp => List.mem_append_left _ hp) fun j hjB => by
      rw [hj j fun z => hB j z hjB]
      exact fx j hjB

/-! ### loops -/
/-- what is walked: the items ds -/
structure ItOk (K : PySem.W.Frag) (N : Nm) (J : L2.It) (G : Hp) (ds : List D) : Prop where
  go : ∀ i H, Ex G H → i < ds.length → J.go i H
  stop : ∀ i H, Ex G H → ds.length ≤ i → J.stop i H
  yld : ∀ i H x H' (d : D), Ex G H → ds[i]? = some d → J.yld i H x H' → ∀ G1 L, Ex G G1 → Cells G1 L H → ∃ G2, Cells G2 L H' ∧ Step G1 L H G2 L H' ∧ Rep K N G2 d x
def ItR (K : PySem.W.Frag) (N : Nm) (G : Hp) (_ : L2.St) (ds : List D) (J : L2.It) (Lv : Cl) : Prop := Lv = [] ∧ ItOk K N J G ds
theorem it_list {G : Hp} {a : Addr} {ds : List D} {vs : List V} (h : SqL X.K G a vs) (hr : RepL X.K N G ds vs) : ItOk X.K N (Itl X.K a) G ds where
  go := fun i H e hi => by
    obtain ⟨v, hv⟩ : ∃ v, vs[i]? = some v := by
      rw [hr.len] at hi
      exact ⟨vs[i], by simp [hi]⟩
    exact ⟨vs, v, ex_l e h, hv⟩
  stop := fun i H e hi => ⟨vs, ex_l e h, by rw [← hr.len]; exact hi⟩
  yld := fun i H x H' d e hd hy G1 L e1 ce => by
    obtain ⟨rfl, hy⟩ := hy
    obtain ⟨v, hv, hrv⟩ := hr.get hd
    have e2 := hy vs (ex_l e h)
    rw [hv] at e2
    cases e2
    exact ⟨G1, ce, Step.refl, hrv.mono e1⟩
theorem it_tup {G : Hp} {a : Addr} {ds : List D} {vs : List V} (h : SqT X.K G a vs) (hr : RepL X.K N G ds vs) : ItOk X.K N (Itt X.K a) G ds where
  go := fun i H e hi => by
    obtain ⟨v, hv⟩ : ∃ v, vs[i]? = some v := by
      rw [hr.len] at hi
      exact ⟨vs[i], by simp [hi]⟩
    exact ⟨vs, v, ex_t e h, hv⟩
  stop := fun i H e hi => ⟨vs, ex_t e h, by rw [← hr.len]; exact hi⟩
  yld := fun i H x H' d e hd hy G1 L e1 ce => by
    obtain ⟨rfl, hy⟩ := hy
    obtain ⟨v, hv, hrv⟩ := hr.get hd
    have e2 := hy vs (ex_t e h)
    rw [hv] at e2
    cases e2
    exact ⟨G1, ce, Step.refl, hrv.mono e1⟩
theorem rngL_len (lo hi : Int) : (rngL lo hi).length = (hi - lo).toNat := by simp [rngL]
theorem it_rng {G : Hp} {lo hi : Int} : ItOk X.K N (Itr lo (hi - lo).toNat) G (rngL lo hi) where
  go := fun i H e h => by
    rw [rngL_len] at h
    exact h
  stop := fun i H e h => by
    rw [rngL_len] at h
    exact h
  yld := fun i H x H' d e hd hy G1 L e1 ce => by
    obtain ⟨rfl, rfl⟩ := hy
    have e2 : d = .int (lo + (i : Int)) := by
      unfold rngL at hd
      rw [List.getElem?_map] at hd
      obtain ⟨k, hk, rfl⟩ := Option.map_eq_some_iff.mp hd
      rw [List.getElem?_range] at hk
      · cases hk; rfl
      · by_cases hlt : i < (hi - lo).toNat
        · exact hlt
        · rw [List.getElem?_eq_none (by simpa using hlt)] at hk
          cases hk
    subst e2
    exact ⟨G1, ce, Step.refl, rfl⟩
abbrev tI (K : PySem.W.Frag) (N : Nm) (W : WX) (m : M (List D)) : TI := tM K N W (ItR K N) m
theorem _root_.L2.PI.imp {tg iter : Expr} {t t' : TI} (h : PI X tg iter t) (i : ∀ σ H R, t' σ H R → t σ H R) : PI X tg iter t' := ⟨fun pins s σ H R I q => h.run pins s σ H R I (i σ H R q)⟩
/-- a list or a tuple, walked -/
theorem pi_seq {tg e : Expr} {m : M Rv} (he : PE X e (tE X.K N W m)) : PI X tg e (tI X.K N W (walk m)) := by
  refine ⟨fun pins s σ H R I h => ?_⟩
  obtain ⟨τ, G, L, st, ce, out⟩ := h
  have h1 : tM X.K N W (DR X.K N) (ownD m) σ H (fun x H1 => ∃ d τ1 G1 L1, Rep X.K N G1 d x ∧ StoR X.K N G1 τ1 σ L1 ∧ Cells G1 L1 H1 ∧ ∃ ds, items (.val d) = some ds ∧ Out X.K N W (ItR X.K N) σ G1 L1 H1 R (.ok ds τ1)) := by
    refine ⟨τ, G, L, st, ce, ?_⟩
    unfold walk bnd at out
    unfold ownD bnd
    cases e1 : own m τ with
    | bad => simp only [e1] at out; exact out
    | ex x τ1 => simp only [e1] at out; exact out
    | ok o τ1 =>
      simp only [e1] at out
      intro v G' Lv L' H' hr st' ce' sp
      obtain ⟨rfl, hr⟩ := hr
      cases e2 : items o with
      | none => simp only [e2] at out; exact out.elim
      | some ds =>
        simp only [e2] at out
        refine ⟨frz o, τ1, G', L', hr, st', ce', ds, ?_, out.later sp⟩
        cases o with
        | val d => exact e2
        | lst os =>
          have := vals_eq e2
          subst this
          show (match D.lst (frzL (ds.map O.val)) with | .lst xs => some xs | .tup xs => some xs | .kls xs => some xs | _ => none) = some ds
          rw [frzL_val]
        | ins _ _ _ => cases e2
        | dct _ _ => cases e2
  refine thn ((pe_ownD he).run pins s σ H _ I h1) fun v s1 ⟨x, H1, I1, rx, d, τ1, G1, L1, hr, st1, ce1, ds, e2, o1⟩ => ?_
  have lst : ∀ {a vs}, x = .ref a → SqL X.K G1 a vs → RepL X.K N G1 ds vs → wpAny (model X.prog X.w) X.A (pyIter v) (PIE X pins σ tg R) X.xe s1 := by
    intro a vs ex hq h3
    subst ex
    cases rx
    obtain ⟨its, rv, p, hz⟩ := I1.list (ex_l ce1.sub hq)
    refine wpAny_pyIter_list p.isList ?_
    refine ⟨s1.heap.objs.size, [s1.heap.objs.size], _, _, H1, rfl, I1.kept (t' := s1.toks) fun b o e => Heap.get?_push_of_some _ e, turn_list a _, ⟨_, Heap.get?_push_size _ rfl, rfl, rfl⟩, fun b hb => ?_, o1 _ G1 [] L1 H1 ⟨rfl, it_list hq h3⟩ st1 ce1 Step.refl⟩
    have e : b = s1.heap.objs.size := by simpa using hb
    subst e
    exact I1.fpOk (Nat.le_refl _) (I1.hok.fresh (Nat.le_refl _))
  cases d with
  | lst xs =>
    cases e2
    obtain ⟨a, vs, ex, hq, h3⟩ := hr
    exact lst ex (sq_of hq) h3
  | kls xs =>
    cases e2
    obtain ⟨a, vs, ex, hq, h3⟩ := hr
    exact lst ex hq h3
  | tup xs =>
    cases e2
    obtain ⟨a, vs, rfl, hq, h3⟩ := hr
    cases rx
    obtain ⟨its, rv, p, hz⟩ := I1.tuple (ex_t ce1.sub hq)
    refine wpAny_pyIter_tuple (show s1.heap.IsTuple a its.toArray from p) ?_
    refine ⟨s1.heap.objs.size, [s1.heap.objs.size], _, _, H1, rfl, I1.kept (t' := s1.toks) fun b o e => Heap.get?_push_of_some _ e, turn_tuple a _, ⟨_, Heap.get?_push_size _ rfl, rfl, rfl⟩, fun b hb => ?_, o1 _ G1 [] L1 H1 ⟨rfl, it_tup hq h3⟩ st1 ce1 Step.refl⟩
    have e : b = s1.heap.objs.size := by simpa using hb
    subst e
    exact I1.fpOk (Nat.le_refl _) (I1.hok.fresh (Nat.le_refl _))
  | _ => cases e2
def IntR (_ : Hp) (_ : L2.St) (a : Int) (v : V) (Lv : Cl) : Prop := v = .int a ∧ -(2 ^ 62) < a ∧ a < 2 ^ 62 ∧ Lv = []
theorem pe_int' {e : Expr} {m : M Rv} (he : PE X e (tE X.K N W m)) : PE X e (tM X.K N W IntR (intM m)) := by
  refine (pe_opd he).imp fun σ H Q => ?_
  rintro ⟨τ, G, L, st, ce, out⟩
  refine tM_mono (split0 (rel1 := OpR1 X.K N) (fun h => h.1) st ce out) fun x H1 => ?_
  rintro ⟨r, τ1, G1, L1, eG, hr, st1, ce1, o1⟩
  split at o1
  · rename_i i e1
    split at o1
    · rename_i hb
      obtain ⟨_, _, ho, _⟩ := res_own st1 hr e1
      exact o1 x G1 [] L1 H1 ⟨own_int ho, hb.1, hb.2, rfl⟩ st1 ce1 Step.refl
    · exact o1.elim
  · exact o1.elim
theorem pi_rng1 {tg a : Expr} {m : M Rv} {p pos : Pos} (hg : Gl X "range") (hm : X.mg "range" = none) (ha : PE X a (tE X.K N W m)) (hn : NoStar X a) : PI X tg (.Call (.Name "range" p) [a] [] pos) (tI X.K N W (bnd (intM m) fun n τ => .ok (rngL 0 n) τ)) := by
  refine (pi_range1 hg hm (pa_cons (pe_int' ha) pa_nil (hn [])) (hn [])).imp fun σ H R => ?_
  rintro ⟨τ, G, L, st, ce, out⟩
  refine tM_mono (split0 (rel1 := IntR) (fun h => h.2.2.2) st ce out) fun x H1 => ?_
  rintro ⟨i, τ1, G1, L1, eG, ⟨rfl, h1, h2, _⟩, st1, ce1, o1⟩
  refine ⟨i, rfl, by omega, by omega, ?_⟩
  have := it_rng (X := X) (N := N) (G := G1) (lo := 0) (hi := i)
  rw [Int.sub_zero] at this
  exact o1 _ G1 [] L1 H1 ⟨rfl, this⟩ st1 ce1 Step.refl
theorem pi_rng2 {tg a b : Expr} {ma mb : M Rv} {p pos : Pos} (hg : Gl X "range") (hm : X.mg "range" = none) (ha : PE X a (tE X.K N W ma)) (hb : PE X b (tE X.K N W mb)) (na : NoStar X a) (nb : NoStar X b) :
    PI X tg (.Call (.Name "range" p) [a, b] [] pos) (tI X.K N W (bnd (intM ma) fun l => bnd (intM mb) fun n τ => .ok (rngL l n) τ)) := by
  refine (pi_range2 hg hm (pa_cons (pe_int' ha) (pa_cons (pe_int' hb) pa_nil (nb [])) (na [b])) (by rw [na [b], nb []]; rfl) (by rw [nb []]; rfl)).imp fun σ H R => ?_
  rintro ⟨τ, G, L, st, ce, out⟩
  refine tM_mono (split0 (rel1 := IntR) (fun h => h.2.2.2) st ce out) fun x H1 => ?_
  rintro ⟨i, τ1, G1, L1, eG, ⟨rfl, h1, h2, _⟩, st1, ce1, o1⟩
  refine tM_mono (split0 (rel1 := IntR) (fun h => h.2.2.2) st1 ce1 o1) fun y H2 => ?_
  rintro ⟨j, τ2, G2, L2, eG2, ⟨rfl, h3, h4, _⟩, st2, ce2, o2⟩
  exact ⟨i, j, rfl, ⟨by omega, by omega, by omega, by omega⟩, o2 _ G2 [] L2 H2 ⟨rfl, it_rng⟩ st2 ce2 Step.refl⟩
/-- for -/
theorem ps_for' {tge iter : Expr} {body : List Stmt} {g : TG} {tg : List Nat} {mi : M (List D)} {mb : M Fl} {pos : Pos} (po : PassesOwn (model X.prog X.w) X.A X.env X.xe) (hc : X.calm = true) (hi : PI X tge iter (tI X.K N W mi)) (hg : PG X tge g) (ht : TgOk X N g tg) (hB : ∀ i ∈ tg, i ∉ B)
    (hb : PSs X body (tSt X.K N W B σ0 mb)) (hs : ∀ x, foldedSetIterable iter X.env x = pure x) : PS X (.For tge iter body [] pos) (tSt X.K N W B σ0 (bnd mi fun ds => forM tg mb ds)) := by
  refine (ps_for po hc hi hg hb hs).imp fun D σ H => ?_
  rintro ⟨τ, G, L, st, ce, fx, out⟩
  refine tM_mono (splitS0 (rel1 := ItR X.K N) (fun h => h.1) st ce fx out) fun J H1 => ?_
  rintro ⟨ds, τ1, G1, L1, eG, ⟨_, hJ⟩, st1, ce1, o1⟩
  refine ⟨fun i m σ H => m = ds.length - i ∧ i ≤ ds.length ∧ ∃ τ G L, StoR X.K N G τ σ L ∧ Cells G L H ∧ Ex G1 G ∧ Fx B σ0 σ ∧ OutS X.K N W B σ0 G L H D (forM tg mb (ds.drop i) τ), ⟨_, rfl, Nat.zero_le _, τ1, G1, L1, st1, ce1, Ex.refl G1, fx, o1⟩, ?_⟩
  rintro i m σ2 H2 ⟨rfl, hi, τ2, G2, L2, st2, ce2, e2, fx2, o2⟩
  by_cases hlt : i < ds.length
  · refine .inr ⟨hJ.go i H2 (e2.trans ce2.sub) hlt, fun σ' H' => i + 1 ≤ ds.length ∧ ∃ τ G L, StoR X.K N G τ σ' L ∧ Cells G L H' ∧ Ex G1 G ∧ Fx B σ0 σ' ∧ OutS X.K N W B σ0 G L H' D (forM tg mb (ds.drop (i + 1)) τ), fun σ' H' h => ⟨ds.length - (i + 1), by omega, rfl, h.1, h.2⟩, fun x H3 hy => ?_⟩
    have hd : ds[i]? = some ds[i] := by simp [hlt]
    obtain ⟨G3, ce3, sp3, hr3⟩ := hJ.yld i H2 x H3 ds[i] (e2.trans ce2.sub) hd hy G2 L2 e2 ce2
    rw [List.drop_eq_getElem_cons hlt] at o2
    simp only [forM] at o2
    cases q : setTg τ2 tg ds[i] with
    | none => simp only [q] at o2; exact o2.elim
    | some τ3 =>
      simp only [q] at o2
      refine ht ds[i] x G3 L2 H3 τ2 τ3 σ2 _ q hr3 (st2.mono sp3.ex) ce3 fun σ4 La Lb pm st4 hj => ?_
      have ce4 := (ce3.perm pm).left
      have sp4 : Step G2 L2 H2 G3 La H3 := (sp3.perm (List.Perm.refl _) pm).sub fun p hp => List.mem_append_left _ hp
      have fx4 : Fx B σ0 σ4 := fun j hjB => by
        rw [hj j fun z => hB j z hjB]
        exact fx2 j hjB
      refine ⟨τ3, G3, La, st4, ce4, fx4, ?_⟩
      cases e : mb τ3 with
      | bad => simp only [e] at o2; exact o2
      | ex y τ4 =>
        simp only [e] at o2
        exact fun cls d σ' G' L' H' hr st ce sp fx => o2 cls d σ' G' L' H' hr st ce (sp4.trans sp) fx
      | ok f τ4 =>
        simp only [e] at o2
        cases f with
        | nx => exact fun σ' G' L' H' st ce sp fx => ⟨hlt, τ4, G', L', st, ce, e2.trans (sp4.ex.trans sp.ex), fx, o2.later (sp4.trans sp)⟩
        | ct => exact fun σ' G' L' H' st ce sp fx => ⟨hlt, τ4, G', L', st, ce, e2.trans (sp4.ex.trans sp.ex), fx, o2.later (sp4.trans sp)⟩
        | bk => exact fun σ' G' L' H' st ce sp fx => o2 σ' G' L' H' st ce (sp4.trans sp) fx
        | rt o => exact fun v σ' G' Lv L' H' ho st ce sp fx => o2 v σ' G' Lv L' H' ho st ce (sp4.trans sp) fx
  · have e : i = ds.length := by omega
    subst e
    rw [List.drop_length] at o2
    exact .inl ⟨hJ.stop _ H2 (e2.trans ce2.sub) (Nat.le_refl _), o2 σ2 G2 L2 H2 st2 ce2 Step.refl fx2⟩
/-- while -/
theorem ps_whl' {c : Expr} {body : List Stmt} {mt : M Bool} {mb : M Fl} {pos : Pos} (po : PassesOwn (model X.prog X.w) X.A X.env X.xe) (hc : PT X c (tB X.K N W mt)) (hb : PSs X body (tSt X.K N W B σ0 mb)) :
    PS X (.While c body [] pos) (tSt X.K N W B σ0 (whl mt mb)) := by
  refine (ps_while po hc hb).imp fun D σ H => ?_
  rintro ⟨τ, G, L, st, ce, fx, out⟩
  unfold whl at out
  by_cases hx : ∃ r n, WhR mt mb n τ r
  · rw [dif_pos hx] at out
    obtain ⟨n, hn⟩ := Classical.choose_spec hx
    revert out hn
    generalize Classical.choose hx = r
    intro out hn
    refine ⟨fun n σ H => ∃ τ G L r, StoR X.K N G τ σ L ∧ Cells G L H ∧ Fx B σ0 σ ∧ WhR mt mb n τ r ∧ OutS X.K N W B σ0 G L H D r, ⟨n, τ, G, L, r, st, ce, fx, hn, out⟩, ?_⟩
    rintro n σ1 H1 ⟨τ1, G1, L1, r1, st1, ce1, fx1, h1, o1⟩
    refine ⟨τ1, G1, L1, st1, ce1, ?_⟩
    have body : ∀ {τ2 : Sto} {σ' : L2.St} {G' : Hp} {L' : Cl} {H' : Hp} {Nx : L2.St → Hp → Prop}, StoR X.K N G' τ2 σ1 L' → Cells G' L' H' → (OutS X.K N W B σ0 G' L' H' { D with nx := Nx, ct := Nx, bk := D.nx } (mb τ2)) → tSt X.K N W B σ0 mb { D with nx := Nx, ct := Nx, bk := D.nx } σ1 H' :=
      fun {τ2 σ' G' L' H' Nx} st ce o => ⟨τ2, G', L', st, ce, fx1, o⟩
    cases h1 with
    | stop e =>
      rw [e]
      intro k G' Lv L' H' hk st' ce' sp
      obtain ⟨rfl, rfl⟩ := hk
      exact o1 σ1 G' L' H' st' ce' sp fx1
    | @next n' _ τ2 τ3 _ e1 e2 h2 =>
      rw [e1]
      intro k G' Lv L' H' hk st' ce' sp
      obtain ⟨rfl, rfl⟩ := hk
      refine ⟨fun σ' H' => ∃ τ G L r, StoR X.K N G τ σ' L ∧ Cells G L H' ∧ Fx B σ0 σ' ∧ WhR mt mb n' τ r ∧ OutS X.K N W B σ0 G L H' D r, fun σ' H' h => ⟨n', Nat.lt_succ_self _, h⟩, τ2, G', L', st', ce', fx1, ?_⟩
      rw [e2]
      exact fun σ2 G2 L2 H2 st2 ce2 sp2 fx2 => ⟨τ3, G2, L2, r1, st2, ce2, fx2, h2, o1.later (sp.trans sp2)⟩
    | @cont n' _ τ2 τ3 _ e1 e2 h2 =>
      rw [e1]
      intro k G' Lv L' H' hk st' ce' sp
      obtain ⟨rfl, rfl⟩ := hk
      refine ⟨fun σ' H' => ∃ τ G L r, StoR X.K N G τ σ' L ∧ Cells G L H' ∧ Fx B σ0 σ' ∧ WhR mt mb n' τ r ∧ OutS X.K N W B σ0 G L H' D r, fun σ' H' h => ⟨n', Nat.lt_succ_self _, h⟩, τ2, G', L', st', ce', fx1, ?_⟩
      rw [e2]
      exact fun σ2 G2 L2 H2 st2 ce2 sp2 fx2 => ⟨τ3, G2, L2, r1, st2, ce2, fx2, h2, o1.later (sp.trans sp2)⟩
    | @brk _ _ τ2 τ3 e1 e2 =>
      rw [e1]
      intro k G' Lv L' H' hk st' ce' sp
      obtain ⟨rfl, rfl⟩ := hk
      refine ⟨fun _ _ => False, fun _ _ h => h.elim, τ2, G', L', st', ce', fx1, ?_⟩
      rw [e2]
      exact fun σ2 G2 L2 H2 st2 ce2 sp2 fx2 => o1 σ2 G2 L2 H2 st2 ce2 (sp.trans sp2) fx2
    | @ret _ _ τ2 τ3 o e1 e2 =>
      rw [e1]
      intro k G' Lv L' H' hk st' ce' sp
      obtain ⟨rfl, rfl⟩ := hk
      refine ⟨fun _ _ => False, fun _ _ h => h.elim, τ2, G', L', st', ce', fx1, ?_⟩
      rw [e2]
      exact fun v σ2 G2 Lv L2 H2 ho st2 ce2 sp2 fx2 => o1 v σ2 G2 Lv L2 H2 ho st2 ce2 (sp.trans sp2) fx2
    | @ext _ _ τ2 y e1 =>
      rw [e1]
      exact fun cls d G' L' H' hr st' ce' sp => o1 cls d σ1 G' L' H' hr st' ce' sp fx1
    | @exb _ _ τ2 τ3 y e1 e2 =>
      rw [e1]
      intro k G' Lv L' H' hk st' ce' sp
      obtain ⟨rfl, rfl⟩ := hk
      refine ⟨fun _ _ => False, fun _ _ h => h.elim, τ2, G', L', st', ce', fx1, ?_⟩
      rw [e2]
      exact fun cls d σ2 G2 L2 H2 hr st2 ce2 sp2 fx2 => o1 cls d σ2 G2 L2 H2 hr st2 ce2 (sp.trans sp2) fx2
  · rw [dif_neg hx] at out
    exact out.elim
end
end Tw
set_option maxHeartbeats 2000000
/-! The tree walk, part 12: stores into lists and objects, op=, comprehensions. -/
namespace Tw
open PySem PySem.Spec PyProof.Rows L2 Evl
section
variable {K : PySem.W.Frag} {N : Nm}
theorem OwnL.app {G : Hp} : ∀ {os ps : List O} {vs us : List V} {L M : Cl}, OwnL K N G os vs L → OwnL K N G ps us M → OwnL K N G (os ++ ps) (vs ++ us) (L ++ M)
  | [], _, _, _, _, _, h, h' => by
    obtain ⟨rfl, rfl⟩ := h
    exact h'
  | o :: os, ps, vs, us, L, M, h, h' => by
    obtain ⟨v, r, L1, L2, rfl, rfl, h3, h4⟩ := h
    exact ⟨v, r ++ us, L1, L2 ++ M, rfl, by simp, h3, h4.app h'⟩
theorem OwnL.set {G : Hp} {o : O} {v : V} {Lv : Cl} (ho : Own K N G o v Lv) : ∀ {os : List O} {vs : List V} {L : Cl} {j : Nat}, OwnL K N G os vs L → j < os.length → ∃ L' J, (Lv ++ L).Perm (L' ++ J) ∧ OwnL K N G (os.set j o) (vs.set j v) L'
  | [], _, _, _, _, h => by simp at h
  | o1 :: os, vs, L, 0, h, _ => by
    obtain ⟨v1, r, L1, L2, rfl, rfl, h3, h4⟩ := h
    refine ⟨Lv ++ L2, L1, ?_, v, r, Lv, L2, rfl, rfl, ho, h4⟩
    rw [List.append_assoc]
    exact List.Perm.append_left Lv List.perm_append_comm
  | o1 :: os, vs, L, j + 1, h, hj => by
    obtain ⟨v1, r, L1, L2, rfl, rfl, h3, h4⟩ := h
    obtain ⟨L', J, pm, h5⟩ := OwnL.set ho h4 (j := j) (by simpa using hj)
    refine ⟨L1 ++ L', J, ?_, v1, _, L1, L', rfl, rfl, h3, h5⟩
    rw [List.append_assoc]
    exact (perm3 Lv L1 L2).trans (List.Perm.append_left L1 pm)
/-- a slot's own object is rewritten -/
theorem slot_write {G : Hp} {τ : Sto} {σ : L2.St} {L Lv : Cl} {H : Hp} {i : Nat} {o o' : O} {a : Addr} {h h' : HO} {L1 L1' J : Cl} {v : V} {A C : Cl} (ce : Cells G (Lv ++ L) H) (eL : L = A ++ (((a, h) :: L1) ++ C)) (pm : (Lv ++ L1).Perm (L1' ++ J))
    (hp : StoR K N G (τ.set i (some o')) σ (A ++ (((a, h') :: L1') ++ C))) : Cells G (A ++ (((a, h') :: L1') ++ C)) (upd H a h') ∧ Step G (Lv ++ L) H G (A ++ (((a, h') :: L1') ++ C)) (upd H a h') := by
  subst eL
  have p1 : (Lv ++ (A ++ (((a, h) :: L1) ++ C))).Perm ((a, h) :: (Lv ++ (L1 ++ (A ++ C)))) := by
    have q1 : (A ++ (((a, h) :: L1) ++ C)).Perm ((a, h) :: (L1 ++ (A ++ C))) := by
      refine (perm3 A ((a, h) :: L1) C).trans ?_
      exact List.Perm.refl _
    refine (List.Perm.append_left Lv q1).trans ?_
    exact List.perm_middle
  have c1 := ce.perm p1
  have c2 : Cells G ((a, h') :: (Lv ++ (L1 ++ (A ++ C)))) (upd H a h') := c1.write
  have s2 : Step G ((a, h) :: (Lv ++ (L1 ++ (A ++ C)))) H G ((a, h') :: (Lv ++ (L1 ++ (A ++ C)))) (upd H a h') := Step.write
  have p2 : ((a, h') :: (Lv ++ (L1 ++ (A ++ C)))).Perm ((A ++ (((a, h') :: L1') ++ C)) ++ J) := by
    have q1 : (A ++ (((a, h') :: L1') ++ C)).Perm ((a, h') :: (L1' ++ (A ++ C))) := (perm3 A ((a, h') :: L1') C).trans (List.Perm.refl _)
    refine List.Perm.trans ?_ (List.Perm.append_right J q1.symm)
    show ((a, h') :: (Lv ++ (L1 ++ (A ++ C)))).Perm ((a, h') :: ((L1' ++ (A ++ C)) ++ J))
    refine List.Perm.cons _ ?_
    rw [← List.append_assoc]
    refine (List.Perm.append_right (A ++ C) pm).trans ?_
    rw [List.append_assoc, List.append_assoc]
    exact List.Perm.append_left L1' List.perm_append_comm
  exact ⟨(c2.perm p2).left, (s2.perm p1.symm p2).sub fun p hp => List.mem_append_left _ hp⟩
end
section
variable {X : Cx} {N : Nm} {T : Tb} {cl : CallT} {W : WX} {B : List Nat} {σ0 : L2.St}
/-- the value o at v goes into the list of slot i -/
theorem lst_write {f : List O → Option (List O)} {fv : List V → List V} {i : Nat} {o : O} {v : V} {τ : Sto} {σ : L2.St} {G : Hp} {Lv L : Cl} {H : Hp} {D : Ends} {os : List O} (st : StoR X.K N G τ σ L) (ce : Cells G (Lv ++ L) H) (fx : Fx B σ0 σ) (e : τ[i]? = some (some (.lst os)))
    {os' : List O} (out : OutS X.K N W B σ0 G (Lv ++ L) H D (.ok .nx (τ.set i (some (.lst os')))))
    (hf : ∀ vs L1, OwnL X.K N G os vs L1 → ∃ L1' J, (Lv ++ L1).Perm (L1' ++ J) ∧ OwnL X.K N G os' (fv vs) L1') :
    ∃ a vs, σ[i]? = some (some (.ref a)) ∧ H a = some (.lst vs) ∧ os.length = vs.length ∧ D.nx σ (upd H a (.lst (fv vs))) := by
  obtain ⟨A, Bc, C, v', rfl, hv, hO, _, hput⟩ := st.at e
  obtain ⟨a, vs, L1, rfl, rfl, h3⟩ := hO
  obtain ⟨L1', J, pm, h4⟩ := hf vs L1 h3
  have hp := hput (o' := .lst os') (v' := .ref a) (B' := (a, .lst (fv vs)) :: L1') (Ex.refl G) ⟨a, fv vs, L1', rfl, rfl, h4⟩
  rw [set_same hv] at hp
  obtain ⟨c2, s2⟩ := slot_write (o := o) (v := v) ce rfl pm hp
  refine ⟨a, vs, hv, ?_, h3.len, out σ G _ _ hp c2 s2 fx⟩
  refine ce.right.at_ a _ ?_
  exact List.mem_append_right _ (List.mem_append_left _ List.mem_cons_self)
theorem ps_app {i : Nat} {x : Str} {e : Expr} {m : M Rv} {pos apos cpos npos : Pos} (hN : X.N[i]? = some x) (hv : Vis X.env.scope x) (hd : (x == ("__debug__" : Str)) = false) (hcd : (x == ("__classdict__" : Str)) = false) (he : PE X e (tE X.K N W m)) (hn : NoStar X e)
    (hbase : attributeBase (.Name x npos) "append" X.env (eval (.Name x npos) X.env) = eval (.Name x npos) X.env)
    (hfew : ((backTo cpos (starEach [e] X.env)).all (fun x => !x.1) && (backToKw cpos (keywordEach [] X.env)).all (fun x => x.1.isSome)
      && decide ([e].length + ([] : List Keyword).length + (if ([] : List Keyword).isEmpty then 0 else 1) < 30)) = true)
    (hline : (apos.endLine == cpos.line) = true) : PS X (.Expr (.Call (.Attribute (.Name x npos) "append" apos) [e] [] cpos) pos) (tSt X.K N W B σ0 (fun τ => if lstSlot τ i then bnd (own m) (fun o => onSlot i (appF · o)) τ else .bad)) := by
  refine (ps_expr (pe_bm PySem.F.plainAttrs_list PySem.F.slot_list_append PySem.F.type_list_append mt_append (pe_var hN hv hd hcd) (pa_cons (pe_own he) pa_nil (hn [])) hbase hfew hline (hn []) (by rfl)) (by rfl)).imp fun D σ H => ?_
  rintro ⟨τ, G, L, st, ce, fx, out⟩
  cases e1 : lstSlot τ i with
  | false => simp only [e1, Bool.false_eq_true, if_false] at out; exact out.elim
  | true =>
    simp only [e1, if_true] at out
    unfold lstSlot at e1
    split at e1
    · rename_i os0 e2
      obtain ⟨A, Bc, C, v', eL, hv', hO, _, _⟩ := st.at e2
      obtain ⟨a0, vs0, L10, rfl, rfl, _⟩ := hO
      have hH0 : H a0 = some (.lst vs0) := ce.at_ a0 _ (by rw [eL]; exact List.mem_append_right _ (List.mem_append_left _ List.mem_cons_self))
      refine ⟨.ref a0, hv', ?_, ?_⟩
      · exact .inl ⟨rfl, vs0, sq_of hH0⟩
      · refine tM_mono (splitS (rel1 := OwR X.K N) st ce fx out) fun v H1 => ?_
        rintro ⟨o, τ1, G1, Lv, L1, eG, hr, st1, ce1, o1⟩
        simp only [onSlot] at o1
        cases q : τ1[i]? with
        | none => simp only [q] at o1; exact o1.elim
        | some oo =>
          cases oo with
          | none => simp only [q] at o1; exact o1.elim
          | some ol =>
            simp only [q] at o1
            cases ol with
            | lst os =>
              simp only [appF] at o1
              by_cases hl : os.length < lim
              · simp only [hl, if_true] at o1
                obtain ⟨a, vs, ha, hH, hlen, k⟩ := lst_write (f := fun _ => none) (fv := fun vs => vs ++ [v]) (o := o) (v := v) st1 ce1 fx q o1 fun vs L1 h => ⟨L1 ++ Lv, [], by rw [List.append_nil]; exact List.perm_append_comm, h.app ⟨v, [], Lv, [], rfl, by simp, hr, rfl, rfl⟩⟩
                rw [hv'] at ha
                cases ha
                exact ⟨_, vs, v, rfl, rfl, hH, by rw [← hlen]; exact lim_lt hl, k⟩
              · simp only [hl, if_false] at o1
                exact o1.elim
            | val _ => simp only [appF] at o1; exact o1.elim
            | ins _ _ _ => simp only [appF] at o1; exact o1.elim
            | dct _ _ => simp only [appF] at o1; exact o1.elim
    · cases e1
/-- first m, what is held (F) aside -/
theorem splitA {α β : Type} {rel1 : Hp → L2.St → α → β → Cl → Prop} {m : M α} {f : α → M Fl} {σ : L2.St} {G : Hp} {F L : Cl} {H : Hp} {τ : Sto} {D : Ends}
    (hr0 : ∀ {G a b Lv}, rel1 G σ a b Lv → Lv = []) (st : StoR X.K N G τ σ L) (ce : Cells G (F ++ L) H) (fx : Fx B σ0 σ) (out : OutS X.K N W B σ0 G (F ++ L) H D (bnd m f τ)) :
    tM X.K N W rel1 m σ H (fun b H1 => ∃ a τ1 G1 L1, Ex G G1 ∧ rel1 G1 σ a b [] ∧ StoR X.K N G1 τ1 σ L1 ∧ Cells G1 (F ++ L1) H1 ∧ OutS X.K N W B σ0 G1 (F ++ L1) H1 D (f a τ1)) := by
  have pm : (F ++ L).Perm (L ++ F) := List.perm_append_comm
  refine ⟨τ, G, L, st, ce.right, ?_⟩
  unfold bnd at out
  cases e : m τ with
  | ok a τ1 =>
    rw [e] at out
    intro b G' Lv L' H' hr st' ce' sp
    have e0 := hr0 hr
    subst e0
    obtain ⟨s2, c2⟩ := Step.aside (F := F) sp (ce.perm pm) ce'
    have q : (L' ++ F).Perm (F ++ L') := List.perm_append_comm
    exact ⟨a, τ1, G', L', sp.ex, hr, st', c2.perm q, out.later (s2.perm pm.symm q)⟩
  | ex x τ1 =>
    rw [e] at out
    intro cls d G' L' H' hr st' ce' sp
    obtain ⟨s2, c2⟩ := Step.aside (F := F) sp (ce.perm pm) ce'
    exact out cls d σ G' L' H' hr st' ce' ((s2.perm pm.symm (List.Perm.refl _)).sub fun p hp => List.mem_append_left _ hp) fx
  | bad =>
    rw [e] at out
    exact out
theorem ps_setI {i : Nat} {x : Str} {ix e : Expr} {m mi : M Rv} {pos spos npos : Pos} (hN : X.N[i]? = some x) (hv : Vis X.env.scope x) (hd : (x == ("__debug__" : Str)) = false) (hcd : (x == ("__classdict__" : Str)) = false) (he : PE X e (tE X.K N W m)) (hi : PE X ix (tE X.K N W mi))
    (ha : ∀ v, assign (.Subscript (.Name x npos) ix spos) X.env v = (do
      let ov ← holding [v] (eval (.Name x npos) X.env)
      let iv ← holding [v, ov] (eval ix X.env)
      standAt spos
      holding [v, ov, iv] (setItem ov iv v)
      release [v, ov, iv] [])) (hs : swapsWithSole [.Subscript (.Name x npos) ix spos] e pos.line X.env = pure false) (hw : swappedStores [.Subscript (.Name x npos) ix spos] e X.env = pure none) :
    PS X (.Assign [.Subscript (.Name x npos) ix spos] e pos) (tSt X.K N W B σ0 (bnd (own m) fun o τ => if lstSlot τ i then bnd (intM mi) (fun k => onSlot i (setIF · k o)) τ else .bad)) := by
  refine (ps_asg (pe_own he) (pg_sub (pe_var hN hv hd hcd) (pe_int' hi) set_list ha) hs hw (by rfl)).imp fun D σ H => ?_
  rintro ⟨τ, G, L, st, ce, fx, out⟩
  refine tM_mono (splitS (rel1 := OwR X.K N) st ce fx out) fun v H1 => ?_
  rintro ⟨o, τ1, G1, Lv, L1, eG, hr, st1, ce1, o1⟩
  cases e1 : lstSlot τ1 i with
  | false => simp only [e1, Bool.false_eq_true, if_false] at o1; exact o1.elim
  | true =>
    simp only [e1, if_true] at o1
    unfold lstSlot at e1
    split at e1
    · rename_i os0 e2
      obtain ⟨A, Bc, C, v', eL, hv', hO, _, _⟩ := st1.at e2
      refine ⟨v', hv', tM_mono (splitA (rel1 := IntR) (fun h => h.2.2.2) st1 ce1 fx o1) fun kv H2 => ?_⟩
      rintro ⟨k, τ2, G2, L2, eG2, ⟨rfl, hk1, hk2, _⟩, st2, ce2, o2⟩
      have hr2 : Own X.K N G2 o v Lv := Own.mono eG2 hr
      simp only [onSlot] at o2
      cases q : τ2[i]? with
      | none => simp only [q] at o2; exact o2.elim
      | some oo =>
        cases oo with
        | none => simp only [q] at o2; exact o2.elim
        | some ol =>
          simp only [q] at o2
          cases ol with
          | lst os =>
            simp only [setIF] at o2
            cases q2 : ixN os.length k with
            | none => simp only [q2, Option.map_none] at o2; exact o2.elim
            | some j =>
              simp only [q2, Option.map_some] at o2
              obtain ⟨_, hj, _, _⟩ := ixN_seq q2
              obtain ⟨a, vs, ha2, hH, hlen, kk⟩ := lst_write (f := fun _ => none) (fv := fun vs => vs.set j v) (o := o) (v := v) st2 ce2 fx q o2 fun vs L1 h => OwnL.set hr2 h hj
              rw [hv'] at ha2
              cases ha2
              exact ⟨a, vs, k, j, rfl, rfl, hH, by rw [← hlen]; exact q2, kk⟩
          | val _ => simp only [setIF] at o2; exact o2.elim
          | ins _ _ _ => simp only [setIF] at o2; exact o2.elim
          | dct _ _ => simp only [setIF] at o2; exact o2.elim
    · cases e1
/-! x.f = value -/
theorem putF_flds {G : Hp} {f : Nat} {o : O} {v : V} {Lv : Cl} (ho : Own X.K N G o v Lv) : ∀ {ns : List Nat} {os : List O} {vs : List V} {L : Cl}, ns.length = os.length → OwnL X.K N G os vs L →
    ∃ vs' L' J, putF (N.fn f) v (flds N ns vs) = flds N (putFld ns os f o).1 vs' ∧ (putFld ns os f o).1.length = vs'.length ∧ (Lv ++ L).Perm (L' ++ J) ∧ OwnL X.K N G (putFld ns os f o).2 vs' L'
  | [], [], vs, L, _, h => by
    obtain ⟨rfl, rfl⟩ := h
    exact ⟨[v], Lv, [], rfl, rfl, List.Perm.refl _, v, [], Lv, [], rfl, by simp, ho, rfl, rfl⟩
  | [], _ :: _, _, _, e, _ => by simp at e
  | _ :: _, [], _, _, e, _ => by simp at e
  | n :: ns, o1 :: os, vs, L, e, h => by
    obtain ⟨v1, r, L1, L2, rfl, rfl, h3, h4⟩ := h
    have e' : ns.length = os.length := by simpa using e
    simp only [putFld]
    by_cases q : f = n
    · subst q
      simp only [if_true]
      refine ⟨v :: r, Lv ++ L2, L1, ?_, ?_, ?_, v, r, Lv, L2, rfl, rfl, ho, h4⟩
      · show (if N.fn f = N.fn f then (N.fn f, v) :: flds N ns r else (N.fn f, v1) :: putF (N.fn f) v (flds N ns r)) = (N.fn f, v) :: flds N ns r
        rw [if_pos rfl]
      · simp [e', h4.len]
      · rw [List.append_assoc]
        exact List.Perm.append_left Lv List.perm_append_comm
    · simp only [q, if_false]
      obtain ⟨vs', L', J, h5, h6, h7, h8⟩ := putF_flds ho e' h4
      refine ⟨v1 :: vs', L1 ++ L', J, ?_, by simp [h6], ?_, v1, vs', L1, L', rfl, rfl, h3, h8⟩
      · have e9 : putF (N.fn f) v ((N.fn n, v1) :: flds N ns r) = (N.fn n, v1) :: putF (N.fn f) v (flds N ns r) := by
          show (if N.fn n = N.fn f then (N.fn n, v) :: flds N ns r else (N.fn n, v1) :: putF (N.fn f) v (flds N ns r)) = _
          exact if_neg (fun z => q (N.fi _ _ z).symm)
        exact e9.trans (by rw [h5]; rfl)
      · rw [List.append_assoc]
        exact (perm3 Lv L1 L2).trans (List.Perm.append_left L1 h7)
theorem ps_setA {i f : Nat} {x : Str} {e : Expr} {m : M Rv} {pos apos npos : Pos} (FO : FldOk X N T) (hN : X.N[i]? = some x) (hv : Vis X.env.scope x) (hd : (x == ("__debug__" : Str)) = false) (hcd : (x == ("__classdict__" : Str)) = false) (he : PE X e (tE X.K N W m))
    (hs : swapsWith e (some (.Attribute (.Name x npos) (N.fn f) apos)) pos.line X.env = pure false) :
    PS X (.Assign [.Attribute (.Name x npos) (N.fn f) apos] e pos) (tSt X.K N W B σ0 (bnd (own m) fun o => onSlot i (setAF T · f o))) := by
  refine (ps_fld (pe_var hN hv hd hcd) (pe_own he) hs).imp fun D σ H => ?_
  rintro ⟨τ, G, L, st, ce, fx, out⟩
  refine tM_mono (splitS (rel1 := OwR X.K N) st ce fx out) fun v H1 => ?_
  rintro ⟨o, τ1, G1, Lv, L1, eG, hr, st1, ce1, o1⟩
  simp only [onSlot] at o1
  cases q : τ1[i]? with
  | none => simp only [q] at o1; exact o1.elim
  | some oo =>
    cases oo with
    | none => simp only [q] at o1; exact o1.elim
    | some ol =>
      simp only [q] at o1
      cases ol with
      | ins c ns os =>
        simp only [setAF] at o1
        by_cases hl : T.fok c f = true ∧ ns.length < 100 ∧ ns.length = os.length
        · simp only [hl.1, hl.2.1, hl.2.2, and_self, if_true] at o1
          have h100 := hl.2.1
          rw [hl.2.2] at h100
          simp only [h100, if_true] at o1
          obtain ⟨A, Bc, C, v', rfl, hv', hO, _, hput⟩ := st1.at q
          obtain ⟨a, dx, vs, Lc, rfl, rfl, h4, h3⟩ := hO
          obtain ⟨vs', L', J, h5, h6, h7, h8⟩ := putF_flds (f := f) hr hl.2.2 h3
          have hp := hput (o' := .ins c (putFld ns os f o).1 (putFld ns os f o).2) (v' := .ref a) (B' := (a, .ins (N.cad c) dx (flds N (putFld ns os f o).1 vs')) :: L') (Ex.refl G1) ⟨a, dx, vs', L', rfl, rfl, h6, h8⟩
          rw [set_same hv'] at hp
          obtain ⟨c2, s2⟩ := slot_write (o := o) (v := v) ce1 rfl h7 hp
          obtain ⟨k1, k2⟩ := FO c f hl.1
          refine ⟨.ref a, hv', a, N.cad c, dx, _, rfl, ce1.right.at_ a _ (List.mem_append_right _ (List.mem_append_left _ List.mem_cons_self)), k1, k2, ?_, ?_⟩
          · have : (flds N ns vs).length ≤ ns.length := by
              unfold flds
              rw [List.length_zip, List.length_map]
              exact Nat.min_le_left _ _
            omega
          · rw [h5]
            exact o1 σ G1 _ _ hp c2 s2 fx
        · have hl2 : ¬ (T.fok c f = true ∧ ns.length < 100 ∧ ns.length = os.length) := hl
          simp only [hl2, if_false] at o1
          exact o1.elim
      | val _ => simp only [setAF] at o1; exact o1.elim
      | lst _ => simp only [setAF] at o1; exact o1.elim
      | dct _ _ => simp only [setAF] at o1; exact o1.elim
/-! name op= value -/
def rAug (op : Op) (K : PySem.W.Frag) (N : Nm) : V → V → Hp → VK → Prop := fun x y H Q => (∃ i j z, x = .int i ∧ y = .int j ∧ augF op (.val (.int i)) (.val (.int j)) = some (.val (.int z)) ∧ Q (.int z) H) ∨ (∃ i j, op = .add ∧ x = .str i ∧ y = .str j ∧ i.length + j.length ≤ lim ∧ Q (.str (i ++ j)) H)
theorem ip_aug {op : Op} : PIp X (pyOp op) (rAug op X.K N) := by
  intro pins s σ H x y v u Q I rx ry h
  rcases h with ⟨i, j, z, rfl, rfl, e, q⟩ | ⟨i, j, rfl, rfl, rfl, hl, q⟩
  · cases op with
    | add =>
      have e' : some (O.val (.int (i + j))) = some (.val (.int z)) := e
      cases e'
      exact iop_add pins s σ H _ _ v u Q I rx ry ⟨i, j, rfl, rfl, q⟩
    | sub =>
      have e' : some (O.val (.int (i - j))) = some (.val (.int z)) := e
      cases e'
      exact iop_sub pins s σ H _ _ v u Q I rx ry ⟨i, j, rfl, rfl, q⟩
    | _ => cases e
  · exact iop_add_str pins s σ H _ _ v u Q I rx ry ⟨i, j, rfl, rfl, lim_le hl, q⟩
theorem ps_aug' {i : Nat} {op : Op} {x : Str} {e : Expr} {m : M Rv} {pos npos : Pos} (nd : X.N.Nodup) (hN : X.N[i]? = some x) (hx : Loc X.env.scope x) (hf : X.fn x = true ∨ X.env.scope.names.lookup x = some .local) (hB : i ∉ B) (he : PE X e (tE X.K N W m)) :
    PS X (.AugAssign (.Name x npos) (pyOp op) e pos) (tSt X.K N W B σ0 (fun τ => match τ[i]? with
      | some (some _) => bnd (opd m) (fun r => doAug i op r) τ
      | _ => .bad)) := by
  refine (ps_aug nd hN hx (pe_opd he) (ip_aug (N := N)) hf).imp fun D σ H => ?_
  rintro ⟨τ, G, L, st, ce, fx, out⟩
  cases q : τ[i]? with
  | none => simp only [q] at out; exact out.elim
  | some oo =>
    cases oo with
    | none => simp only [q] at out; exact out.elim
    | some o =>
      simp only [q] at out
      obtain ⟨A, Bc, C, v, eL, hv, hO, _, _⟩ := st.at q
      refine ⟨v, hv, tM_mono (splitS0 (rel1 := OpR1 X.K N) (fun h => h.1) st ce fx out) fun y H1 => ?_⟩
      rintro ⟨r, τ1, G1, L1, eG, hr, st1, ce1, o1⟩
      unfold doAug at o1
      cases e1 : res τ1 (.slot i) with
      | none => simp only [e1] at o1; exact o1.elim
      | some a =>
        cases e2 : res τ1 r with
        | none => simp only [e1, e2] at o1; exact o1.elim
        | some b =>
          simp only [e1, e2] at o1
          obtain ⟨La, Ra, ha, pa⟩ := res_own (x := v) st1 (show OpR1 X.K N G1 σ (.slot i) v [] from ⟨rfl, hv⟩) e1
          obtain ⟨Lb, Rb, hb, pb⟩ := res_own st1 hr e2
          cases e3 : augF op a b with
          | none => simp only [e3] at o1; exact o1.elim
          | some z =>
            simp only [e3] at o1
            have fin : ∀ {w}, Own X.K N G1 z w [] → D.nx (σ.set i (some w)) H1 := fun {w} hw => asg_out (Lv := []) st1 ce1 fx hB hw o1
            unfold augF at e3
            split at e3
            · rename_i i1 j1
              have ex := own_int ha
              have ey := own_int hb
              subst ex ey
              cases op with
              | add => cases e3; exact .inl ⟨_, _, _, rfl, rfl, rfl, fin ⟨rfl, rfl⟩⟩
              | sub => cases e3; exact .inl ⟨_, _, _, rfl, rfl, rfl, fin ⟨rfl, rfl⟩⟩
              | _ => cases e3
            · have ex : v = .str _ := ha.2
              have ey : y = .str _ := hb.2
              subst ex ey
              split at e3
              · rename_i hl
                cases e3
                exact .inr ⟨_, _, hl.1, rfl, rfl, hl.2, fin ⟨rfl, rfl⟩⟩
              · cases e3
            · cases e3
end
end Tw
set_option maxHeartbeats 2000000
/-! The tree walk, part 13: comprehensions. -/
namespace Tw
open PySem PySem.Spec PyProof.Rows L2 Evl
theorem wipe_get {σ : L2.St} {j : Nat} : ∀ {vs : List Nat}, j ∉ vs → (wipe σ vs)[j]? = σ[j]?
  | [], _ => rfl
  | v :: vs, h => by
    show ((wipe σ vs).set v none)[j]? = σ[j]?
    rw [List.getElem?_set_ne (fun e => h (by simp [e]))]
    exact wipe_get fun z => h (List.mem_cons_of_mem _ z)
theorem wipe_in {σ : L2.St} {j : Nat} (hj : j < σ.length) : ∀ {vs : List Nat}, j ∈ vs → (wipe σ vs)[j]? = some none
  | v :: vs, h => by
    show ((wipe σ vs).set v none)[j]? = some none
    by_cases e : v = j
    · subst e
      rw [List.getElem?_set_self (by rw [wipe_length]; exact hj)]
    · rw [List.getElem?_set_ne e]
      rcases List.mem_cons.mp h with z | z
      · exact absurd z.symm e
      · exact wipe_in hj z
theorem wipe_eq {σ σ' : L2.St} {vs : List Nat} (hl : σ'.length = σ.length) (h : ∀ j, j ∉ vs → σ'[j]? = σ[j]?) : wipe σ' vs = wipe σ vs := by
  apply List.ext_getElem?
  intro j
  by_cases hj : j ∈ vs
  · by_cases hlt : j < σ.length
    · rw [wipe_in hlt hj, wipe_in (by omega) hj]
    · rw [List.getElem?_eq_none (by rw [wipe_length]; omega), List.getElem?_eq_none (by rw [wipe_length]; omega)]
  · rw [wipe_get hj, wipe_get hj]
    exact h j hj
section
variable {K : PySem.W.Frag} {N : Nm}
theorem StoR.congr {G : Hp} : ∀ {τ : Sto} {σ σ' : L2.St} {L : Cl}, StoR K N G τ σ L → σ'.length = σ.length → (∀ (i : Nat) (o : O), τ[i]? = some (some o) → σ'[i]? = σ[i]?) → StoR K N G τ σ' L
  | [], σ, σ', L, h, hl, _ => by
    obtain ⟨rfl, rfl⟩ := h
    exact ⟨List.length_eq_zero_iff.mp hl, rfl⟩
  | none :: τ, σ, σ', L, h, hl, hg => by
    obtain ⟨x, r, rfl, h2⟩ := h
    cases σ' with
    | nil => simp at hl
    | cons y r' => exact ⟨y, r', rfl, h2.congr (by simpa using hl) fun i o e => by simpa using hg (i + 1) o (by simpa using e)⟩
  | some o :: τ, σ, σ', L, h, hl, hg => by
    obtain ⟨v, r, L1, L2, rfl, rfl, h3, h4⟩ := h
    cases σ' with
    | nil => simp at hl
    | cons y r' =>
      have e0 := hg 0 o rfl
      simp only [List.getElem?_cons_zero, Option.some.injEq] at e0
      subst e0
      exact ⟨v, r', L1, L2, rfl, rfl, h3, h4.congr (by simpa using hl) fun i o e => by simpa using hg (i + 1) o (by simpa using e)⟩
theorem StoR.wipe {G : Hp} : ∀ {ow : List Nat} {τ : Sto} {σ : L2.St} {L : Cl}, StoR K N G τ σ L → ∃ L' J, L.Perm (L' ++ J) ∧ StoR K N G (wipeS τ ow) (L2.wipe σ ow) L'
  | [], τ, σ, L, h => ⟨L, [], by simp, h⟩
  | i :: ow, τ, σ, L, h => by
    obtain ⟨L', J, pm, h2⟩ := StoR.wipe (ow := ow) h
    obtain ⟨A, Bc, C, rfl, _, h3⟩ := h2.drop (i := i)
    refine ⟨A ++ C, Bc ++ J, ?_, h3⟩
    refine pm.trans ?_
    rw [← List.append_assoc (A ++ C)]
    refine List.Perm.append_right J ?_
    refine (perm3 A Bc C).trans ?_
    exact List.perm_append_comm
theorem wipeS_get {τ : Sto} {j : Nat} {o : O} : ∀ {ow : List Nat}, (wipeS τ ow)[j]? = some (some o) → j ∉ ow
  | [], _ => by simp
  | i :: ow, h => by
    have h' : ((wipeS τ ow).set i none)[j]? = some (some o) := h
    by_cases e : i = j
    · subst e
      by_cases hl : i < (wipeS τ ow).length
      · rw [List.getElem?_set_self hl] at h'; cases h'
      · rw [List.getElem?_eq_none (by simpa using hl)] at h'; cases h'
    · rw [List.getElem?_set_ne e] at h'
      intro z
      rcases List.mem_cons.mp z with z | z
      · exact e z.symm
      · exact wipeS_get h' z
/-- the names' own values again -/
theorem StoR.rest {G G0 : Hp} {σ : L2.St} {τ : Sto} {L0 : Cl} (e0 : Ex G0 G) (h0 : StoR K N G0 τ σ L0) : ∀ {ow : List Nat} {τe : Sto} {L : Cl}, StoR K N G τe σ L → ∃ L' J, L.Perm (L' ++ J) ∧ StoR K N G (restS τe τ ow) σ L'
  | [], τe, L, h => ⟨L, [], by simp, h⟩
  | i :: ow, τe, L, h => by
    unfold restS
    split
    · rename_i d e
      obtain ⟨A, Bc, C, v, _, hv, hO, _, _⟩ := h0.at e
      have hi : i < τe.length := by
        rw [h.len, ← h0.len]
        exact (List.getElem?_eq_some_iff.mp e).1
      obtain ⟨Lx, Ly, pm, h2⟩ := h.put (o := .val d) (B := []) hi ⟨rfl, hO.2.mono e0⟩
      rw [set_same hv] at h2
      obtain ⟨L', J, pm2, h3⟩ := StoR.rest e0 h0 (ow := ow) h2
      refine ⟨L', J ++ Ly, ?_, h3⟩
      have pm' : L.Perm (Lx ++ Ly) := pm
      refine pm'.trans ?_
      rw [← List.append_assoc]
      exact List.Perm.append_right Ly pm2
    · exact StoR.rest e0 h0 h
end
section
variable {X : Cx} {N : Nm} {W : WX}
abbrev W0 : WX := fun _ _ _ _ => False
theorem tg_len {g : TG} {tg : List Nat} : True := trivial
/-- a comprehension's tree walk, as the rule's reading -/
def compE (mi : M (List D)) (tg ow : List Nat) (mc : M Bool) (me : M D) : M Rv := bnd mi fun ds τ => match compM tg ow mc me ds [] (wipeS τ ow) with
  | .ok os τ1 => .ok (.own (.lst (os.map .val))) (restS τ1 τ ow)
  | _ => .bad
theorem comp_read {own : List (Str × Nat)} {g : TG} {tg : List Nat} {mi : M (List D)} {mc : M Bool} {me : M D} (ht : TgOk X N g tg) (htg : ∀ i ∈ tg, i ∈ own.map (·.2)) {σ : L2.St} {H : Hp} {Q : VK} :
    tE X.K N W (compE mi tg (own.map (·.2)) mc me) σ H Q → tLc (tI X.K N W mi) g (tB X.K N W0 mc) (tM X.K N W0 (DR X.K N) me) (own.map (·.2)) σ H Q := by
  rintro ⟨τ, G, L, st, ce, out⟩
  refine tM_mono (split0 (rel1 := ItR X.K N) (fun h => h.1) st ce out) fun J H1 => ?_
  rintro ⟨ds, τ1, G1, L1, eG, ⟨_, hJ⟩, st1, ce1, o1⟩
  intro Dl hD
  generalize hvs : own.map (·.2) = vs at *
  cases e0 : compM tg vs mc me ds [] (wipeS τ1 vs) with
  | bad => simp only [e0] at o1; exact o1.elim
  | ex x τ2 => simp only [e0] at o1; exact o1.elim
  | ok os τ2 =>
    simp only [e0] at o1
    obtain ⟨Lw, Jw, pmw, stw⟩ := StoR.wipe (ow := vs) st1
    have cew : Cells G1 Lw H1 := (ce1.perm pmw).left
    have spw : Step G1 L1 H1 G1 Lw H1 := (Step.refl.perm (List.Perm.refl _) pmw).sub fun p hp => List.mem_append_left _ hp
    -- the rest of the turns, from a list so far
    refine ⟨fun i m H => m = ds.length - i ∧ i ≤ ds.length ∧ ∃ τ G L acc av, StoR X.K N G τ (wipe σ vs) L ∧ Cells G ((Dl, .lst av) :: L) H ∧ RepL X.K N G acc av ∧ Step G1 L1 H1 G ((Dl, .lst av) :: L) H ∧ (∀ (i : Nat) (o : O), τ[i]? = some (some o) → i ∉ vs) ∧ compM tg vs mc me (ds.drop i) acc τ = .ok os τ2,
      ⟨_, rfl, Nat.zero_le _, wipeS τ1 vs, G1, Lw, [], [], stw, cew.new hD, rfl, spw.trans (Step.new1 hD), fun i o e => wipeS_get e, e0⟩, ?_⟩
    rintro i m H2 ⟨rfl, hi, τ3, G3, L3, acc, av, st3, ce3, hr3, sp3, hv3, e3⟩
    have eJ : Ex G1 H2 := sp3.ex.trans ce3.sub
    by_cases hlt : i < ds.length
    · refine .inr ⟨hJ.go i H2 eJ hlt, fun H' => i + 1 ≤ ds.length ∧ ∃ τ G L acc av, StoR X.K N G τ (wipe σ vs) L ∧ Cells G ((Dl, .lst av) :: L) H' ∧ RepL X.K N G acc av ∧ Step G1 L1 H1 G ((Dl, .lst av) :: L) H' ∧ (∀ (i : Nat) (o : O), τ[i]? = some (some o) → i ∉ vs) ∧ compM tg vs mc me (ds.drop (i + 1)) acc τ = .ok os τ2,
        fun H' h => ⟨ds.length - (i + 1), by omega, rfl, h.1, h.2⟩, fun x H3 hy => ?_⟩
      have hd : ds[i]? = some ds[i] := by simp [hlt]
      obtain ⟨G4, ce4, sp4, hr4⟩ := hJ.yld i H2 x H3 ds[i] eJ hd hy G3 _ sp3.ex ce3
      rw [List.drop_eq_getElem_cons hlt] at e3
      simp only [compM] at e3
      cases q : setTg τ3 tg ds[i] with
      | none => simp only [q] at e3; cases e3
      | some τ4 =>
        simp only [q] at e3
        -- the cells without the new list
        have ceR : Cells G4 L3 H3 := Cells.right (L := [(Dl, HO.lst av)]) ce4
        refine ht ds[i] x G4 L3 H3 τ3 τ4 (wipe σ vs) _ q hr4 (st3.mono sp4.ex) ceR fun σ5 La Lb pm5 st5 hj5 => ?_
        have hlen5 : σ5.length = (wipe σ vs).length := by
          rw [← st5.len, ← st3.len]
          have : ∀ {tg : List Nat} {d : D} {τ τ1 : Sto}, setTg τ tg d = some τ1 → τ1.length = τ.length := by
            have one : ∀ {i : Nat} {o : O} {τ τ1 : Sto}, put τ i o = some τ1 → τ1.length = τ.length := by
              intro i o τ τ1 e
              unfold put at e
              split at e
              · cases e; simp
              · cases e
            have all : ∀ {tg : List Nat} {ds : List D} {τ τ1 : Sto}, setAll τ tg ds = some τ1 → τ1.length = τ.length := by
              intro tg
              induction tg with
              | nil =>
                intro ds τ τ1 e
                cases ds with
                | nil => cases e; rfl
                | cons _ _ => cases e
              | cons i is ih =>
                intro ds τ τ1 e
                cases ds with
                | nil => cases e
                | cons d ds =>
                  simp only [setAll] at e
                  cases q : put τ i (.val d) with
                  | none => simp only [q] at e; cases e
                  | some τ2 =>
                    simp only [q] at e
                    rw [ih e, one q]
            intro tg d τ τ1 e
            unfold setTg at e
            split at e
            · exact one e
            · cases d with
              | tup ds => exact all e
              | _ => cases e
          exact this q
        have hw5 : wipe σ5 vs = wipe σ vs := by
          have h1 : wipe σ5 vs = wipe (wipe σ vs) vs := wipe_eq hlen5 fun j hj => hj5 j fun z => hj (htg j z)
          rw [h1]
          exact wipe_eq (wipe_length _ _) fun j hj => wipe_get hj
        refine ⟨hw5, ?_⟩
        -- the cells in use, and those aside: the new list, what the target let go
        have ce5 : Cells G4 (La ++ ((Dl, HO.lst av) :: Lb)) H3 := by
          refine ce4.perm ?_
          refine (List.Perm.cons _ pm5).trans ?_
          exact List.perm_middle.symm
        have ceA : Cells G4 La H3 := ce5.left
        -- a state later than this one
        have later : ∀ {G' : Hp} {L' : Cl} {H' : Hp}, Step G4 La H3 G' L' H' → Cells G' L' H' → Cells G' ((Dl, .lst av) :: L') H' ∧ Step G1 L1 H1 G' ((Dl, .lst av) :: L') H' := by
          intro G' L' H' sp ce'
          obtain ⟨s2, c2⟩ := sp.aside ce5 ce'
          have p2 : (L' ++ ((Dl, HO.lst av) :: Lb)).Perm (((Dl, HO.lst av) :: L') ++ Lb) := by
            refine List.perm_middle.trans ?_
            exact List.Perm.refl _
          have s0 : Step G1 L1 H1 G4 (La ++ ((Dl, HO.lst av) :: Lb)) H3 := (sp3.trans sp4).perm (List.Perm.refl _) ((List.Perm.cons _ pm5).trans List.perm_middle.symm)
          exact ⟨(c2.perm p2).left, ((s0.trans s2).perm (List.Perm.refl _) p2).sub fun p hp => List.mem_append_left _ hp⟩
        have keepv : ∀ {τ' : Sto} (i : Nat) (o : O), (wipeS τ' vs)[i]? = some (some o) → i ∉ vs := fun i o e => wipeS_get e
        -- the turn's end
        have fin : ∀ {τ' : Sto} {G' : Hp} {L' : Cl} {H' : Hp} {acc' : List D} {av' : List V}, StoR X.K N G' τ' σ5 L' → Cells G' ((Dl, .lst av') :: L') H' → RepL X.K N G' acc' av' → Step G1 L1 H1 G' ((Dl, .lst av') :: L') H' → compM tg vs mc me (ds.drop (i + 1)) acc' (wipeS τ' vs) = .ok os τ2 →
            i + 1 ≤ ds.length ∧ ∃ τ G L acc av, StoR X.K N G τ (wipe σ vs) L ∧ Cells G ((Dl, .lst av) :: L) H' ∧ RepL X.K N G acc av ∧ Step G1 L1 H1 G ((Dl, .lst av) :: L) H' ∧ (∀ (i : Nat) (o : O), τ[i]? = some (some o) → i ∉ vs) ∧ compM tg vs mc me (ds.drop (i + 1)) acc τ = .ok os τ2 := by
          intro τ' G' L' H' acc' av' st' ce' hr' sp' e'
          obtain ⟨Lw2, Jw2, pw2, sw2⟩ := StoR.wipe (ow := vs) st'
          rw [hw5] at sw2
          have pc : ((Dl, HO.lst av') :: L').Perm (((Dl, HO.lst av') :: Lw2) ++ Jw2) := List.Perm.cons _ pw2
          exact ⟨hlt, wipeS τ' vs, G', Lw2, acc', av', sw2, (ce'.perm pc).left, hr', (sp'.perm (List.Perm.refl _) pc).sub fun p hp => List.mem_append_left _ hp, keepv, e'⟩
        refine ⟨τ4, G4, La, st5, ceA, ?_⟩
        cases ec : mc τ4 with
        | bad => simp only [ec] at e3; cases e3
        | ex y τ5 => simp only [ec] at e3; cases e3
        | ok k τ5 =>
          intro k' G5 Lv L5 H5 hk st6 ce6 sp6
          obtain ⟨rfl, rfl⟩ := hk
          cases k with
          | false =>
            simp only [ec] at e3
            show (if false = true then _ else _)
            rw [if_neg Bool.false_ne_true]
            obtain ⟨c7, s7⟩ := later sp6 ce6
            exact fin st6 c7 (hr3.mono (sp4.ex.trans sp6.ex)) s7 e3
          | true =>
            simp only [ec] at e3
            show (if true = true then _ else _)
            rw [if_pos rfl]
            refine ⟨τ5, G5, L5, st6, ce6, ?_⟩
            cases ee : me τ5 with
            | bad => simp only [ee] at e3; cases e3
            | ex y τ6 => simp only [ee] at e3; cases e3
            | ok d2 τ6 =>
              simp only [ee] at e3
              intro v G6 Lv6 L6 H6 hd6 st7 ce7 sp7
              obtain ⟨rfl, hd6⟩ := hd6
              have sp67 := sp6.trans sp7
              obtain ⟨c8, s8⟩ := later sp67 ce7
              by_cases hl : acc.length < lim
              · simp only [hl, if_true] at e3
                refine ⟨av, c8.at_ Dl _ List.mem_cons_self, by rw [← hr3.len]; exact lim_lt hl, ?_⟩
                refine fin (acc' := acc ++ [d2]) (av' := av ++ [v]) st7 c8.write ?_ (s8.trans Step.write) e3
                exact (hr3.mono (sp4.ex.trans sp67.ex)).app ⟨v, [], rfl, hd6, rfl⟩
              · simp only [hl, if_false] at e3
                cases e3
    · have e : i = ds.length := by omega
      subst e
      rw [List.drop_length] at e3
      have e4 : R.ok acc τ3 = R.ok os τ2 := e3
      cases e4
      have st9 : StoR X.K N G3 τ2 σ L3 := st3.congr (wipe_length _ _).symm fun j o eo => by
        exact (wipe_get (hv3 j o eo)).symm
      obtain ⟨L', J', pm9, st10⟩ := StoR.rest (τ := τ1) sp3.ex st1 (ow := vs) st9
      have pc : ((Dl, HO.lst av) :: L3).Perm (((Dl, HO.lst av) :: L') ++ J') := List.Perm.cons _ pm9
      exact .inl ⟨hJ.stop _ H2 eJ (Nat.le_refl _), o1 (.ref Dl) G3 [(Dl, .lst av)] L' H2 ⟨Dl, av, [], rfl, rfl, OwnL.of hr3⟩ st10 (ce3.perm pc).left ((sp3.perm (List.Perm.refl _) pc).sub fun p hp => List.mem_append_left _ hp)⟩
theorem pe_comp {elt tge iter : Expr} {ifs : List Expr} {scope : Scope} {own : List (Str × Nat)} {pos : Pos} {g : TG} {tg : List Nat} {mi : M (List D)} {mc : M Bool} {me : M D} (hc : X.calm = true) (nd : X.N.Nodup) (hi : PI X tge iter (tI X.K N W mi)) (ok : BlkOk X.N X.env.scope scope own)
    (ht : TgOk X N g tg) (htg : ∀ i ∈ tg, i ∈ own.map (·.2))
    (hg : ∀ (s : Shared) (H : Hp) (C : Addr) (cl : List (Str × Addr)) (fp : List Addr), PG (X.blk s H scope (compEnvC scope cl C X.env) fp) tge g)
    (hts : ∀ (s : Shared) (H : Hp) (C : Addr) (cl : List (Str × Addr)) (fp : List Addr), PTs (X.blk s H scope (compEnvC scope cl C X.env) fp) ifs (tB X.K N W0 mc))
    (he : ∀ (s : Shared) (H : Hp) (C : Addr) (cl : List (Str × Addr)) (fp : List Addr), PE (X.blk s H scope (compEnvC scope cl C X.env) fp) elt (tM X.K N W0 (DR X.K N) me)) (hs : ∀ x, foldedSetIterable iter X.env x = pure x) :
    PE X (.ListComp elt [⟨tge, iter, ifs, 0⟩] scope pos) (tE X.K N W (compE mi tg (own.map (·.2)) mc me)) :=
  (pe_lc hc nd hi ok hg hts he hs).imp fun σ H Q => comp_read ht htg
variable {B : List Nat} {σ0 : L2.St}
theorem compE_own {mi : M (List D)} {tg ow : List Nat} {mc : M Bool} {me : M D} {τ τ' : Sto} {r : Rv} (h : compE mi tg ow mc me τ = .ok r τ') : ∃ o, r = .own o := by
  unfold compE bnd at h
  cases e : mi τ with
  | bad => rw [e] at h; cases h
  | ex x τ1 => rw [e] at h; cases h
  | ok ds τ1 =>
    rw [e] at h
    simp only at h
    split at h
    · cases h
      exact ⟨_, rfl⟩
    · cases h
theorem tE_of_own {m : M Rv} {σ : L2.St} {H : Hp} {Q : VK} (hm : ∀ τ r τ', m τ = .ok r τ' → ∃ o, r = .own o) (h : tM X.K N W (OwR X.K N) (Tw.own m) σ H Q) : tE X.K N W m σ H Q := by
  obtain ⟨τ, G, L, st, ce, out⟩ := h
  refine ⟨τ, G, L, st, ce, ?_⟩
  unfold Tw.own bnd at out
  cases e : m τ with
  | bad => rw [e] at out; exact out
  | ex x τ1 => rw [e] at out; exact out
  | ok r τ1 =>
    obtain ⟨o, rfl⟩ := hm _ _ _ e
    rw [e] at out
    exact out
/-- name = [..] on one line -/
theorem ps_asgC {i : Nat} {y : Str} {py : Pos} {elt tge iter : Expr} {ifs : List Expr} {scope : Scope} {own : List (Str × Nat)} {pos spos : Pos} {g : TG} {tg : List Nat} {mi : M (List D)} {mc : M Bool} {me : M D} (hc : X.calm = true) (nd : X.N.Nodup) (hy : X.N[i]? = some y) (hyl : X.env.scope.names.lookup y = some .local) (hB : i ∉ B)
    (hsw : swapsWith (.ListComp elt [⟨tge, iter, ifs, 0⟩] scope pos) (some (.Name y py)) spos.line X.env = pure true) (hi : PI X tge iter (tI X.K N W mi)) (ok : BlkOk X.N X.env.scope scope own)
    (ht : TgOk X N g tg) (htg : ∀ i ∈ tg, i ∈ own.map (·.2))
    (hg : ∀ (s : Shared) (H : Hp) (C : Addr) (cl : List (Str × Addr)) (fp : List Addr), PG (X.blk s H scope (compEnvC scope cl C X.env) fp) tge g)
    (hts : ∀ (s : Shared) (H : Hp) (C : Addr) (cl : List (Str × Addr)) (fp : List Addr), PTs (X.blk s H scope (compEnvC scope cl C X.env) fp) ifs (tB X.K N W0 mc))
    (he : ∀ (s : Shared) (H : Hp) (C : Addr) (cl : List (Str × Addr)) (fp : List Addr), PE (X.blk s H scope (compEnvC scope cl C X.env) fp) elt (tM X.K N W0 (DR X.K N) me)) (hs : ∀ x, foldedSetIterable iter X.env x = pure x) :
    PS X (.Assign [.Name y py] (.ListComp elt [⟨tge, iter, ifs, 0⟩] scope pos) spos) (tSt X.K N W B σ0 (bnd (Tw.own (compE mi tg (own.map (·.2)) mc me)) fun o τ => match put τ i o with
      | some τ1 => .ok .nx τ1
      | none => .bad)) := by
  refine (ps_setLc hc nd hy hyl hsw hi ok hg hts he hs).imp fun D σ H => ?_
  rintro ⟨τ, G, L, st, ce, fx, out⟩
  refine comp_read (X := X) (W := W) ht htg (tE_of_own (fun τ r τ' e => compE_own e) ?_)
  refine tM_mono (splitS (rel1 := OwR X.K N) st ce fx out) fun v H1 => ?_
  rintro ⟨o, τ1, G1, Lv, L1, eG, hr, st1, ce1, o1⟩
  exact asg_out st1 ce1 fx hB hr o1
end
end Tw
set_option maxHeartbeats 2000000
/-! The tree walk, part 14: an own exception's __init__, which says super().__init__('..') first. -/
namespace Tw
open PySem PySem.Spec PyProof.Rows L2 Evl
open PySem.W (ksFn ksEnv kxs_mw ks_superObj ks_superIn)
/-- the def's names: parameters first, locals, and __class__ -/
structure ScS (N P : List Str) (sc : Scope) : Prop where
  kind : sc.kind = .function
  co : sc.isCoroutine = false
  gen : sc.isGenerator = false
  nd : N.Nodup
  pre : N.take P.length = P
  par : ∀ x ∈ P, sc.names.lookup x = some .local
  nocell : ∀ y ∈ sc.names, y.2 ≠ .cell
  sup : sc.names.lookup ("super" : Str) = some .globalImplicit
  cls : sc.names.lookup ("__class__" : Str) = some .free
  only : ∀ x, sc.names.lookup x = some .free → x = ("__class__" : Str)
/-- the context of such a body -/
def cxS (P : Program) (w : World) (K : PySem.W.Frag) (mg : Str → Option Value) (base : Heap) (N : List Str) (qual : Str) (scope : Scope) (f cc : Addr) (cd : Value) (A : Around) (outer : List Env) (s : Shared) (H : Hp) (E : XK) : Cx where
  prog := P
  w := w
  K := K
  mg := mg
  base := base
  A := A.deeper (ksEnv qual scope s.heap.objs.size f cd cc)
  N := N
  s_0 := s
  H_0 := H
  env := ksEnv qual scope s.heap.objs.size f cd cc
  outer := outer
  stack := ksEnv qual scope s.heap.objs.size f cd cc :: outer
  ex := []
  calm := true
  fn := fun _ => false
  pn := []
  xe := fun e s' => wpAny (model P w) (A.deeper (ksEnv qual scope s.heap.objs.size f cd cc)) (leaving (ksEnv qual scope s.heap.objs.size f cd cc) e) (fun _ s'' => L2.CX P w outer H s E e s'') (fun e' s'' => L2.CX P w outer H s E e' s'') s'
theorem startS {P : Program} {w : World} {K : PySem.W.Frag} {mg : Str → Option Value} {base : Heap} {N ps : List Str} {qual : Str} {scope : Scope} {f cc : Addr} {cd : Value} {A : Around} {outer : List Env} {s : Shared} {h1 : Heap} {tk : Nat} {H : Hp} {E : XK} {us : List Value} {vs : List V} {oc : Obj} {vc : Option Value}
    (S : ScS N ps scope) (hcc : K.lookup cc = some oc) (hoc : oc.data = .cell vc) (hd : A.handled = none) (e0 : Env0 P w K mg base A outer s H) (hl : vs.length = ps.length) (r : Vals vs us)
    (hns : h1.Ns s.heap.objs.size (fun x => (ps.zip us).reverse.lookup x)) (keep : ∀ b o, s.heap.get? b = some o → h1.get? b = some o) :
    Inv (cxS P w K mg base N qual scope f cc cd A outer s H E) [] (L2.start N vs) H { s with heap := h1, toks := tk } := by
  have hpl : ps.length ≤ N.length := by have := congrArg List.length S.pre; rw [List.length_take] at this; omega
  have noA : ∀ b : Addr, b ∉ (cxS P w K mg base N qual scope f cc cd A outer s H E).ex := fun b z => absurd (show b ∈ ([] : List Addr) from z) (by simp)
  have only : ∀ {x : Str} {c : Addr}, ([(("__class__" : Str), cc)] : List (Str × Addr)).lookup x = some c → x = ("__class__" : Str) ∧ c = cc := by
    intro x c h
    rw [List.lookup_cons] at h
    split at h
    · rename_i e
      cases h
      exact ⟨by simpa using e, rfl⟩
    · cases h
  have kb := e0.mod.kin _ _ hcc
  refine ⟨⟨e0.mod, S.kind, rfl, rfl, Nat.le_refl _, fun y z c h1 h2 => ?_, fun y hy => ?_, fun y c hf _ => ?_, fun _ => hd, Around.frames_deeper e0.frames, .inr ⟨rfl, rfl⟩, fun b z => absurd z (noA b), e0.bs, e0.bsz, fun b _ _ => noA b, fun b z => absurd z (noA b), e0.funs, e0.frf⟩,
    rfl, e0.bare, Un.kept keep, ⟨_, hns, fun i y v h1 h2 h3 => ?_⟩, fun y c h => ?_, e0.hok.fresh (Nat.le_refl _), fun y c h => ?_, fun p hp => absurd (show p ∈ ([] : List (Addr × Obj)) from hp) (by simp), e0.hok.kept keep, ?_⟩
  · exact (only h1).1.trans (only h2).1.symm
  · have hy : scope.names.lookup y = some .cell ∨ scope.names.lookup y = some .free := hy
    rcases hy with hy | hy
    · exact absurd rfl (S.nocell _ (PySem.mem_of_lookup hy))
    · rw [S.only y hy]
      exact ⟨cc, rfl⟩
  · exact absurd (show false = true from hf) Bool.false_ne_true
  · have hi : i < vs.length := by
      unfold L2.start at h2
      by_cases hi : i < vs.length
      · exact hi
      · rw [List.getElem?_append_right (by simpa using hi)] at h2
        rw [List.getElem?_replicate] at h2
        split at h2 <;> cases h2
    have ha : vs[i]? = some v := by
      unfold L2.start at h2
      rw [List.getElem?_append_left (by simpa using hi), List.getElem?_map] at h2
      cases e : vs[i]? with
      | none => rw [e] at h2; cases h2
      | some a => rw [e] at h2; cases h2; rfl
    obtain ⟨u, hu, rv⟩ := r.get ha
    have hp : ps[i]? = some y := by
      rw [← S.pre, List.getElem?_take_of_lt (by omega)]; exact h1
    have ndP : ps.Nodup := by rw [← S.pre]; exact S.nd.sublist (List.take_sublist _ _)
    have k := S.par y (List.mem_of_getElem? hp)
    refine ⟨u, rv, .inl ⟨k, ?_⟩⟩
    have kl : ∀ x ∈ ps.zip us, (fun y : Str => scope.names.lookup y) x.1 = some .local := fun ⟨n, v⟩ hx => S.par n (List.of_mem_zip hx).1
    have e1 := bindL_get (m := fun _ => none) (kindOf := fun y => scope.names.lookup y) ndP hp hu k
    rw [bindL_loc _ _ kl] at e1
    have e2 : ((ps.zip us).reverse.lookup y).or none = some u := e1
    rw [Option.or_none] at e2
    exact e2
  · obtain ⟨rfl, rfl⟩ := only h
    exact ⟨vc, oc, keep _ _ (e0.bs _ _ kb).1, hoc⟩
  · obtain ⟨rfl, rfl⟩ := only h
    exact (e0.bs _ _ kb).2
  · unfold L2.start
    show _ = N.length
    rw [List.length_append, List.length_map, List.length_replicate]
    omega
/-- what super().__init__ wants of the class C of the object, and of the def's own class D -/
structure SupC (K : PySem.W.Frag) (C D : Addr) : Prop where
  own : OexC K C
  cd : ∃ cd, PySem.W.clsIn K C = some cd
  cdD : ∃ cd, PySem.W.clsIn K D = some cd
  sub : PySem.W.mroIn K C (.ref D) = some true
  ini : ks_superIn K C D "__init__" = some (some (.builtin "ValueError.__init__"))
  ve : PySem.W.subIn K (.ref C) (.type "ValueError") = some true
  opq : PySem.W.nsIn K cStatics "thirdparty.any" = some none
section
variable {P : Program} {w : World} {K : PySem.W.Frag} {mg : Str → Option Value} {base : Heap} {N ps : List Str} {qual : Str} {scope : Scope} {f cda cc : Addr} {A : Around} {outer : List Env} {s0 : Shared} {H0 : Hp} {E : XK}
/-- super().__init__(msg), from the entry -/
theorem sup_run {name : Str} {params : Arguments} {body : List Stmt} {dV kV doc pm ct oc : Value} {an od : Option Addr} {osl : Array (Option Value)} {p0 p1 p2 p3 pc : Pos} {j : Nat} {msg : Str} {ar : Arg} {vs : Array Value} {file : Str} {tf : Tok} {ccl cl : Value} {cdd cld : Option Addr} {ccs csl : Array (Option Value)}
    {D C a : Addr} {B0 : List Stmt} {σ : L2.St} {H : Hp} {s : Shared} {Q : Value → Shared → Prop}
    (lk : K.lookup f = some ⟨oc, od, .func (ksFn name qual params body scope dV kV doc pm an (.ref cda) ct cc), osl⟩)
    (S : ScS N ps scope) (hp : (params.posonlyargs ++ params.args).head? = some ar) (h0 : N[0]? = some ar.arg) (har : ar.arg ∈ ps)
    (hcode : K.lookup cda = some ⟨ccl, cdd, .fields vs, ccs⟩) (hvs : vs[2]? = some (.str file tf)) (hfile : ((P.main.file : Str) == file) = true)
    (hcell : K.lookup cc = some ⟨cl, cld, .cell (some (.ref D)), csl⟩) (hms : mg "super" = none) (htop : (P.main.scope.names.lookup ("super" : Str)).isSome = false)
    (hline : (p2.endLine == p3.line) = true) (T : SupC K C D) (I : Inv (cxS P w K mg base N qual scope f cc (.ref cda) A outer s0 H0 E) [] σ H s) (ha : σ[0]? = some (some (.ref a))) (hx : H a = some (exo a C none))
    (hq : ∀ u s', Inv (cxS P w K mg base N qual scope f cc (.ref cda) A outer s0 H0 E) [] σ H s' → Q u s') :
    PySem.wpAt (model P w) (A.deeper (ksEnv qual scope s0.heap.objs.size f (.ref cda) cc)) (.func B0 (ksEnv qual scope s0.heap.objs.size f (.ref cda) cc))
      (eval (.Call (.Attribute (.Call (.Name "super" p0) [] [] p1) "__init__" p2) [.Constant (.str msg) j pc] [] p3) (ksEnv qual scope s0.heap.objs.size f (.ref cda) cc)) Q
      (fun e s' => wpAny (model P w) (A.deeper (ksEnv qual scope s0.heap.objs.size f (.ref cda) cc)) (leaving (ksEnv qual scope s0.heap.objs.size f (.ref cda) cc) e) (fun _ s'' => L2.CX P w outer H0 s0 E e s'') (fun e' s'' => L2.CX P w outer H0 s0 E e' s'') s') s := by
  obtain ⟨nm, q, Nn, bs, bm, sn, sub, ab, col, dd, k0, k1, k2, k3, k5, hC, hbm⟩ := T.own.cls
  obtain ⟨cd, hcd⟩ := T.cd
  obtain ⟨cdD, hD⟩ := T.cdD
  have ini := T.ini
  have KI : K.In s.heap := I.kIn
  obtain ⟨t1, ho⟩ := exo_at I.hok hx
  refine PySem.ks_wpAt_MethodCall (env := ksEnv qual scope s0.heap.objs.size f (.ref cda) cc) (pl := (do return (← importBound (.Call (.Name "super" p0) [] [] p1) (ksEnv qual scope s0.heap.objs.size f (.ref cda) cc)).getD true)) ?_ (by
    have e : methodCallPos true (.Call (.Name "super" p0) [] [] p1) (ksEnv qual scope s0.heap.objs.size f (.ref cda) cc) p2 p3 = pure p3 := by
      unfold methodCallPos
      rw [hline]
      rfl
    rw [eval]
    unfold methodCall
    show (_ >>= fun ov => standAt p2.atName >>= fun _ => holding [ov] _ >>= fun x => methodCallPos true (.Call (.Name "super" p0) [] [] p1) (ksEnv qual scope s0.heap.objs.size f (.ref cda) cc) p2 p3 >>= fun cp => _) = _
    rw [e]
    simp only [pure_bind]
    rfl)
  -- super()
  obtain ⟨oD, hD1, hD2⟩ : ∃ oD, s.heap.get? D = some oD ∧ oD.data = .cls cdD := by
    unfold PySem.W.clsIn at hD
    split at hD
    · rename_i c d cd' sl ho
      cases hD
      exact ⟨_, KI _ _ ho, rfl⟩
    · cases hD
  have kl : scope.names.lookup ar.arg = some .local := S.par _ har
  obtain ⟨m, hns, hlk⟩ := id I.loc
  obtain ⟨u, ru, hu⟩ := hlk 0 ar.arg (.ref a) h0 ha (.inl kl)
  obtain rfl : u = Value.ref a := ru
  have hm : m ar.arg = some (.ref a) := by
    rcases hu with ⟨_, e⟩ | ⟨e, _⟩
    · exact e
    · have e' : scope.names.lookup ar.arg = some .cell ∨ scope.names.lookup ar.arg = some .free := e
      rw [kl] at e'
      rcases e' with e' | e' <;> cases e'
  obtain ⟨mb, hb1, hb2⟩ := I.mod.blt
  refine PySem.ks_wpAt_super_base (env := ksEnv qual scope s0.heap.objs.size f (.ref cda) cc) S.sup S.cls (by decide) rfl (KI _ _ lk) rfl hp rfl (KI _ _ hcode) rfl hvs hfile htop ?_
  refine PySem.W.ks_loadName_global (env := ksEnv qual scope s0.heap.objs.size f (.ref cda) cc) S.kind S.sup (Calls.loadGlobal_builtin (env := ksEnv qual scope s0.heap.objs.size f (.ref cda) cc) (I.mod.glob.keeps I.bk) hms (hb1.keeps I.bk) ((hb2 _ (by decide)).trans Boot.«super») ⟨rfl, ?_⟩)
  refine wpAny_loadName_free (env := ksEnv qual scope s0.heap.objs.size f (.ref cda) cc) S.kind S.cls rfl ⟨_, KI _ _ hcell, rfl⟩ ?_
  refine wpAny_loadName_local (env := ksEnv qual scope s0.heap.objs.size f (.ref cda) cc) S.kind kl hns hm ?_
  obtain ⟨hh, g, d, t, os⟩ := s
  refine PySem.ks_wpAny_isType_cls hD1 hD2 ⟨rfl, ?_⟩
  refine PySem.ks_wpAny_call_super hD1 hD2 ho rfl (fun c e => by cases e) (PySem.W.looks_mroIn KI T.sub) (fun h1 e1 kp1 => ?_)
  -- .__init__
  have I1 : Inv (cxS P w K mg base N qual scope f cc (.ref cda) A outer s0 H0 E) [] σ H ⟨h1, g, d, t, os⟩ := I.kept (t' := t) kp1
  have K1 : K.In h1 := I1.kIn
  have ia : PySem.W.InstAt h1 a { cls := .ref C, dict := none, data := .fields #[.ref t1, .none, .none, .none, .bool false, .none] } C none := ⟨kp1 _ _ ho, rfl, rfl, trivial⟩
  unfold ks_superIn at ini
  rw [hcd] at ini
  refine PySem.W.kxs_getMethod PySem.W.kxs_ValueError e1 (PySem.W.looks_opaque K1 T.opq) (l₀ := cd.mro) (fun A Q E s k q => wpAny_bind ((PySem.W.looks_clsIn K1 hcd) A _ E s k (wpAny_pure q))) rfl K1 ini (ia.type.andThen (PySem.W.looks_subIn K1 T.ve)) (PySem.W.ks_ne K1 ia hcd) (by decide) ?_
  have I2 : Inv (cxS P w K mg base N qual scope f cc (.ref cda) A outer s0 H0 E) [] σ H ⟨h1.push (kxs_mw "ValueError.__init__" a), g, d, t + 1, os⟩ := I1.kept (t' := t + 1) fun b o e => Heap.get?_push_of_some _ e
  have hu : (h1.push (kxs_mw "ValueError.__init__" a)).get? h1.objs.size = some (kxs_mw "ValueError.__init__" a) := Heap.get?_push_at rfl rfl
  have he : starEach [.Constant (.str msg) j pc] (ksEnv qual scope s0.heap.objs.size f (.ref cda) cc) = (false, eval (.Constant (.str msg) j pc) (ksEnv qual scope s0.heap.objs.size f (.ref cda) cc)) :: starEach [] (ksEnv qual scope s0.heap.objs.size f (.ref cda) cc) := rfl
  have rest0 : (backTo p3 (starEach [] (ksEnv qual scope s0.heap.objs.size f (.ref cda) cc))).any (·.1) = false := rfl
  rw [he]
  refine PySem.W.kxs_callWith (i := "ValueError.__init__") (x := a) rfl (Calls.evalArgs_plain ?_)
  refine Calls.spliced_cons (Calls.Constant_str (k := j) (pos := pc) (Calls.spliced_nil ⟨hu, ?_⟩))
  -- the call of the bound built-in
  have I3 : Inv (cxS P w K mg base N qual scope f cc (.ref cda) A outer s0 H0 E) [] σ H ⟨h1.push (kxs_mw "ValueError.__init__" a), g, d, t + 1 + 1, os⟩ := I2.tok _
  have h9 : (h1.push (kxs_mw "ValueError.__init__" a)).get? a = some ({ cls := .ref C, dict := none, data := .fields #[.ref t1, .none, .none, .none, .bool false, .none] } : Obj) := Heap.get?_push_of_some _ (kp1 _ _ ho)
  refine wpAny_call (codeAny_of_tree ?_)
  show wpAny _ (A.deeper (ksEnv qual scope s0.heap.objs.size f (.ref cda) cc)).in1 (callAny (.ref h1.objs.size) ⟨[] ++ [Value.str msg (t + 1)], []⟩) _ _ _
  simp only [callAny]
  refine wpAny_bind (wpAny_load hu ?_)
  simp only [kxs_mw, show (Value.type "method-wrapper" == Value.type "method" || Value.type "method-wrapper" == Value.type "builtin_function_or_method" || Value.type "method-wrapper" == Value.type "method-wrapper") = true by decide, if_true]
  refine PySem.W.KFB.if_so (by decide) ?_
  refine wpAny_bind (PySem.W.check_bound_init F.excBase_ValueError.toExcCallFacts (I3.kIn _ _ hC) h9 rfl ?_)
  refine wpAny_bind (wpAny_pure (wpAny_pure ?_))
  refine ⟨plainId_quiet F.excBase_ValueError.init.plain _, codeAny_builtin F.excBase_ValueError.initEntry ?_⟩
  refine PySem.W.exc_init_tree (cls := .ref C) (t0 := t1) (dv := none) (c2 := .none) (c3 := .none) (b4 := .bool false) h9 (by simp [sizeLine_eq]) fun h' k' e' t' => ?_
  have J := I3.write (t' := t + 1 + 1) (x := a) (e := a) (o := exo a C none) (by rw [hx]; exact True.intro) (.inl rfl) k' ⟨_, e'⟩ (exo_ok e')
  have eu : upd H a (exo a C none) = H := by
    funext b
    by_cases hb : b = a
    · rw [hb, upd_same, hx]
    · rw [upd_ne hb]
  rw [eu] at J
  exact hq _ _ J
end
/-- an exception and its dict -/
def setx (H : Hp) (a C dx : Addr) (fs : List (Str × V)) : Hp := upd (upd H dx (exd dx fs)) a (exo a C (some dx))
/-- the fields, the last one first -/
def fsOf (vs : List V) : List (Str × Nat) → List (Str × V) → List (Str × V)
  | [], fs => fs
  | (f, j) :: l, fs => match vs[j]? with
    | some v => fsOf vs l ((f, v) :: fs)
    | none => []
def nmOk (x : Str) : Bool := !(x == ("__debug__" : Str)) && !(x == ("__classdict__" : Str))
/-- self.f = x, .. -/
def stChk (K : PySem.W.Frag) (C : Addr) (N : List Str) (sc : Scope) (self : Str) : List Stmt → List (Str × Nat) → Bool
  | [], [] => true
  | .Assign [.Attribute (.Name s _) f _] (.Name x _) _ :: b, (f', j) :: l => decide (s = self) && (decide (f = f') && (decide (N[j]? = some x) && (decide (sc.names.lookup x = some .local) && (nmOk x && (decide (PySem.W.findIn K (.ref C) f = some none) && stChk K C N sc self b l)))))
  | _, _ => false
theorem upd_twice {H : Hp} {a : Addr} {o o' : HO} : upd (upd H a o) a o' = upd H a o' := by
  funext b
  by_cases h : b = a
  · rw [h, upd_same, upd_same]
  · rw [upd_ne h, upd_ne h, upd_ne h]
theorem upd_swap {H : Hp} {a b : Addr} {o u : HO} (h : a ≠ b) : upd (upd H a o) b u = upd (upd H b u) a o := by
  funext c
  by_cases hb : c = b
  · subst hb
    rw [upd_same, upd_ne (Ne.symm h), upd_same]
  · rw [upd_ne hb]
    by_cases ha : c = a
    · subst ha
      rw [upd_same, upd_same]
    · rw [upd_ne ha, upd_ne ha, upd_ne hb]
theorem st_more {X : Cx} {C : Addr} {self : Str} (T : OexC X.K C) (h0 : X.N[0]? = some self) (hk : X.env.scope.names.lookup self = some .local) (hself : nmOk self = true) : ∀ {b : List Stmt} {l : List (Str × Nat)}, stChk X.K C X.N X.env.scope self b l = true →
    ∃ t, PSs X b t ∧ ∀ (D : Ends) (σ : L2.St) (H : Hp) (a dx : Addr) (vs : List V) (fs : List (Str × V)), dx ≠ a → σ[0]? = some (some (.ref a)) → (∀ (j : Nat) (v : V), vs[j]? = some v → σ[j]? = some (some v)) → (∀ p ∈ l, p.2 < vs.length) → fs.length + l.length ≤ 900 →
      D.nx σ (setx H a C dx (fsOf vs l fs)) → t D σ (setx H a C dx fs) := by
  have d1 : (self == ("__debug__" : Str)) = false := by
    unfold nmOk at hself
    simp only [Bool.and_eq_true, Bool.not_eq_true'] at hself
    exact hself.1
  have d2 : (self == ("__classdict__" : Str)) = false := by
    unfold nmOk at hself
    simp only [Bool.and_eq_true, Bool.not_eq_true'] at hself
    exact hself.2
  intro b
  induction b with
  | nil =>
    intro l h
    cases l with
    | nil => exact ⟨_, pss_nil, fun D σ H a dx vs fs _ _ _ _ _ q => q⟩
    | cons _ _ => exact absurd h (by simp [stChk])
  | cons s b ih =>
    intro l h
    unfold stChk at h
    split at h
    · contradiction
    · rename_i s' sp f ap x xp pos b' f' j l' e1
      cases e1
      simp only [Bool.and_eq_true, decide_eq_true_eq] at h
      obtain ⟨rfl, rfl, hj, hx, hn, hno, hr⟩ := h
      unfold nmOk at hn
      simp only [Bool.and_eq_true, Bool.not_eq_true'] at hn
      obtain ⟨t, ht, hq⟩ := ih hr
      refine ⟨_, pss_cons (ps_ost (pe_var h0 (.inl hk) d1 d2) (pe_var hj (.inl hx) hn.1 hn.2)) ht, ?_⟩
      intro D σ H a dx vs fs hne h1 h2 h3 h4 q
      have hlt := h3 _ List.mem_cons_self
      have hv := List.getElem?_eq_getElem hlt
      refine ⟨_, h2 _ _ hv, _, h1, a, C, rfl, T, hno, .inr ⟨dx, fs, ?_, ?_, ?_, ?_⟩⟩
      · unfold setx
        rw [upd_same]
      · unfold setx
        rw [upd_ne hne, upd_same]
      · simp only [List.length_cons] at h4
        omega
      · have e : upd (setx H a C dx fs) dx (exd dx ((f, vs[j]) :: fs)) = setx H a C dx ((f, vs[j]) :: fs) := by
          unfold setx
          rw [upd_swap (Ne.symm hne), upd_twice]
        show t D σ (upd (setx H a C dx fs) dx (exd dx ((f, vs[j]) :: fs)))
        rw [e]
        refine hq D σ H a dx vs _ hne h1 h2 (fun p hp => h3 p (List.mem_cons_of_mem _ hp)) ?_ ?_
        · simp only [List.length_cons] at h4 ⊢
          omega
        · have q' := q
          unfold fsOf at q'
          rw [hv] at q'
          exact q'
    · exact absurd h (by simp)
/-- from an exception without a dict -/
theorem st_all {X : Cx} {C : Addr} {self : Str} (T : OexC X.K C) (h0 : X.N[0]? = some self) (hk : X.env.scope.names.lookup self = some .local) (hself : nmOk self = true) {b : List Stmt} {f : Str} {j : Nat} {l : List (Str × Nat)} (h : stChk X.K C X.N X.env.scope self b ((f, j) :: l) = true) :
    ∃ t, PSs X b t ∧ ∀ (D : Ends) (σ : L2.St) (H : Hp) (a : Addr) (vs : List V), H a = some (exo a C none) → σ[0]? = some (some (.ref a)) → (∀ (j : Nat) (v : V), vs[j]? = some v → σ[j]? = some (some v)) → (∀ p ∈ (f, j) :: l, p.2 < vs.length) → l.length ≤ 800 →
      (∀ dx, H dx = none → dx ≠ a → D.nx σ (setx H a C dx (fsOf vs ((f, j) :: l) []))) → t D σ H := by
  have d1 : (self == ("__debug__" : Str)) = false := by
    unfold nmOk at hself
    simp only [Bool.and_eq_true, Bool.not_eq_true'] at hself
    exact hself.1
  have d2 : (self == ("__classdict__" : Str)) = false := by
    unfold nmOk at hself
    simp only [Bool.and_eq_true, Bool.not_eq_true'] at hself
    exact hself.2
  unfold stChk at h
  split at h
  · rename_i e
    cases e
  · rename_i s' sp f ap x xp pos b' f' j l' e1
    cases e1
    simp only [Bool.and_eq_true, decide_eq_true_eq] at h
    obtain ⟨rfl, rfl, hj, hx, hn, hno, hr⟩ := h
    unfold nmOk at hn
    simp only [Bool.and_eq_true, Bool.not_eq_true'] at hn
    obtain ⟨t, ht, hq⟩ := st_more T h0 hk hself hr
    refine ⟨_, pss_cons (ps_ost (pe_var h0 (.inl hk) d1 d2) (pe_var hj (.inl hx) hn.1 hn.2)) ht, ?_⟩
    intro D σ H a vs ha h1 h2 h3 h4 q
    have hlt := h3 _ List.mem_cons_self
    have hv := List.getElem?_eq_getElem hlt
    refine ⟨_, h2 _ _ hv, _, h1, a, C, rfl, T, hno, .inl ⟨ha, fun dx hd hne => ?_⟩⟩
    refine hq D σ H a dx vs [(f, vs[j])] hne h1 h2 (fun p hp => h3 p (List.mem_cons_of_mem _ hp)) ?_ ?_
    · simp only [List.length_cons, List.length_nil]
      omega
    · have q' := q dx hd hne
      unfold fsOf at q'
      rw [hv] at q'
      exact q'
  · exact absurd h (by simp)
/-- what such an __init__ promises -/
def spI (C : Addr) (l : List (Str × Nat)) (n : Nat) : Sp := fun vs H Q _ => vs.length = n ∧ ∃ a r, vs = .ref a :: r ∧ H a = some (exo a C none) ∧ ∀ dx, H dx = none → dx ≠ a → Q .non (setx H a C dx (fsOf vs l []))
theorem start_get {N : List Str} {vs : List V} {j : Nat} {v : V} (h : vs[j]? = some v) : (L2.start N vs)[j]? = some (some v) := by
  unfold L2.start
  have hj : j < vs.length := (List.getElem?_eq_some_iff.mp h).1
  rw [List.getElem?_append_left (by simpa using hj), List.getElem?_map, h]
  rfl
/-- THE RULE for such an __init__ -/
theorem ini_fn {P : Program} {w : World} {K : PySem.W.Frag} {mg : Str → Option Value} {base : Heap} {N ps : List Str} {qual : Str} {scope : Scope} {f cda cc : Addr} {name : Str} {params : Arguments} {body : List Stmt} {dV kV doc pm ct oc : Value} {an od : Option Addr} {osl : Array (Option Value)} {p0 p1 p2 p3 p4 pc : Pos} {j : Nat} {msg : Str} {ar : Arg} {vs : Array Value} {file : Str} {tf : Tok} {ccl cl : Value} {cdd cld : Option Addr} {ccs csl : Array (Option Value)}
    {C : Addr} {k : Nat} {fl : Str} {jl : Nat} {l : List (Str × Nat)}
    (lk : K.lookup f = some ⟨oc, od, .func (ksFn name qual params (.Expr (.Call (.Attribute (.Call (.Name "super" p0) [] [] p1) "__init__" p2) [.Constant (.str msg) j pc] [] p3) p4 :: body) scope dV kV doc pm an (.ref cda) ct cc), osl⟩)
    (hcdr : PySem.W.codeIn K (.ref cda) qual = true)
    (S : ScS N ps scope) (hp : (params.posonlyargs ++ params.args).head? = some ar) (h0 : N[0]? = some ar.arg) (har : ar.arg ∈ ps) (hself : nmOk ar.arg = true)
    (hcode : K.lookup cda = some ⟨ccl, cdd, .fields vs, ccs⟩) (hvs : vs[2]? = some (.str file tf)) (hfile : ((P.main.file : Str) == file) = true)
    (hcell : K.lookup cc = some ⟨cl, cld, .cell (some (.ref C)), csl⟩) (hms : mg "super" = none) (htop : (P.main.scope.names.lookup ("super" : Str)).isSome = false)
    (hline : (p2.endLine == p3.line) = true) (T : SupC K C C) (hst : stChk K C N scope ar.arg body ((fl, jl) :: l) = true) (hl : l.length ≤ 800) (hsmall : ∀ p ∈ (fl, jl) :: l, p.2 < ps.length) :
    FnOk P w K mg base (L2.CX P w) (k + 1) f (ksFn name qual params (.Expr (.Call (.Attribute (.Call (.Name "super" p0) [] [] p1) "__init__" p2) [.Constant (.str msg) j pc] [] p3) p4 :: body) scope dV kV doc pm an (.ref cda) ct cc) ps (spI C ((fl, jl) :: l) ps.length) := by
  refine ⟨fun us H Q E h => h.1, fun A outer s H args us ws Q E hr e0 hb r hsp => ?_⟩
  obtain ⟨hwl, a, r', ew, ha, hq⟩ := hsp
  have hul : us.length = ps.length := by rw [← r.length, hwl]
  have KX : K.In s.heap := e0.mod.kin.keeps fun b o e => (e0.bs b o e).1
  have lim : s.heap.NoLimit := e0.mod.nolimit.keeps fun b o e => (e0.bs b o e).1
  have hloc : ∀ y ∈ ps.zip us, scope.names.lookup y.1 = some .local := fun ⟨n, v⟩ hy => S.par n (List.of_mem_zip hy).1
  refine codeAny_call_function hr.depth (KX _ _ lk) rfl S.co S.gen rfl (PySem.W.codeRec_of KX hcdr) (hb _ _ _ _ ?_)
  refine wpAny_newFunctionEnv S.nocell hloc (fun h1 hns hsb => ?_) S.kind
  have keep : ∀ b o, s.heap.get? b = some o → h1.get? b = some o := fun b o e => hsb.extBut b o (Nat.ne_of_lt (Heap.lt_size e)) (Heap.get?_push_of_some _ e)
  have I : Inv (cxS P w K mg base N qual scope f cc (.ref cda) A outer s H E) [] (L2.start N ws) H { s with heap := h1, toks := s.toks + (ps.zip us).length } :=
    startS S hcell rfl hr.hd e0 hwl r hns keep
  refine ⟨lim.keeps keep, ?_⟩
  show codeAny (model P w) A (.func _ (ksEnv qual scope s.heap.objs.size f (.ref cda) cc)) _ _
  refine PySem.ks_codeAny_funcAt (PySem.ks_wpAt_execs_cons (PySem.ks_wpAt_Expr_any ?_ (by simp [interactive, ksEnv, PySem.W.envX, S.kind]) rfl))
  have hs0 : (L2.start N ws)[0]? = some (some (.ref a)) := start_get (by rw [ew]; rfl)
  refine sup_run lk S hp h0 har hcode hvs hfile hcell hms htop hline T I hs0 ha fun u s' J => ?_
  obtain ⟨t, ht, hq2⟩ := st_all (X := cxS P w K mg base N qual scope f cc (.ref cda) A outer s H E) (self := ar.arg) T.own h0 (S.par _ har) hself hst
  refine PySem.wpAt_of_wpAny (wpAny_mono (ht.run [] s' (L2.start N ws) H { nx := fun _ H' => Q .non H', rt := Q } J (hq2 _ _ _ a ws ha hs0 (fun j v e => start_get e) (fun p hp => by rw [hwl]; exact hsmall p hp) hl (fun dx hd hne => ?_))) (fun fl s' hs => ?_) fun e s' hs => hs)
  · exact hq dx hd hne
  · have fin : ∀ {σ' : L2.St} {H' : Hp} {v : V} {u : Value}, Inv (cxS P w K mg base N qual scope f cc (.ref cda) A outer s H E) [] σ' H' s' → RelV v u → Q v H' → CE outer P w H s Q u s' :=
      fun {σ' H' v u} J rv q => ⟨v, H', J.os, J.bare, J.base, J.hok, rv, q⟩
    cases fl with
    | ret u =>
      obtain ⟨v, σ', H', J, rv, q⟩ := hs
      exact fin J rv q
    | next =>
      obtain ⟨σ', H', J, q⟩ := hs
      exact fin (v := V.non) (u := Value.none) J rfl q
    | brk =>
      obtain ⟨_, _, _, q⟩ := hs
      exact False.elim q
    | cont =>
      obtain ⟨_, _, _, q⟩ := hs
      exact False.elim q
end Tw
set_option maxHeartbeats 2000000
/-! The tree walk, part 15: raise. -/
namespace Tw
open PySem PySem.Spec PyProof.Rows L2 Evl
section
variable {K : PySem.W.Frag} {N : Nm}
theorem RepL.rev {G : Hp} : ∀ {ds : List D} {vs : List V}, RepL K N G ds vs → RepL K N G ds.reverse vs.reverse
  | [], vs, h => by
    have e : vs = [] := h
    subst e
    exact rfl
  | d :: ds, vs, h => by
    obtain ⟨v, r, rfl, h1, h2⟩ := h
    rw [List.reverse_cons, List.reverse_cons]
    exact (h2.rev).app ⟨v, [], rfl, h1, rfl⟩
/-- the fields f, .. are the parameters, in order -/
def lOf (N : Nm) : List Nat → Nat → List (Str × Nat)
  | [], _ => []
  | f :: fs, k => (N.fn f, k) :: lOf N fs (k + 1)
theorem fsOf_lOf : ∀ {fs : List Nat} {pre vs : List V} {acc : List (Str × V)}, fs.length = vs.length → fsOf (pre ++ vs) (lOf N fs pre.length) acc = (flds N fs vs).reverse ++ acc
  | [], pre, vs, acc, h => by
    cases vs with
    | nil => rfl
    | cons _ _ => cases h
  | f :: fs, pre, vs, acc, h => by
    cases vs with
    | nil => cases h
    | cons v vs =>
      have e : (pre ++ v :: vs)[pre.length]? = some v := by simp
      show fsOf (pre ++ v :: vs) ((N.fn f, pre.length) :: lOf N fs (pre.length + 1)) acc = _
      unfold fsOf
      rw [e]
      have e2 := fsOf_lOf (fs := fs) (pre := pre ++ [v]) (vs := vs) (acc := (N.fn f, v) :: acc) (by simpa using h)
      simp only [List.append_assoc, List.singleton_append, List.length_append, List.length_singleton] at e2
      show fsOf (pre ++ v :: vs) (lOf N fs (pre.length + 1)) ((N.fn f, v) :: acc) = _
      rw [e2]
      simp [flds]
theorem flds_rev : ∀ {fs : List Nat} {vs : List V}, fs.length = vs.length → (flds N fs vs).reverse = flds N fs.reverse vs.reverse
  | [], [], _ => rfl
  | [], _ :: _, h => by cases h
  | _ :: _, [], h => by cases h
  | f :: fs, v :: vs, h => by
    have ih := flds_rev (fs := fs) (vs := vs) (by simpa using h)
    show ((N.fn f, v) :: flds N fs vs).reverse = _
    rw [List.reverse_cons, ih, List.reverse_cons, List.reverse_cons]
    unfold flds
    rw [List.map_append, List.zip_append (by simpa using h)]
    rfl
end
section
variable {X : Cx} {N : Nm} {T : Tb} {cl : CallT} {W : WX} {B : List Nat} {σ0 : L2.St}
/-- a class whose __init__ keeps its parameters as fields, callable from here -/
structure InitAt (X : Cx) (N : Nm) (c : Nat) (ns : List Nat) : Prop where
  own : OexC X.K (N.cad c)
  f : ∃ fI fd k ps, PySem.W.findIn X.K (.ref (N.cad c)) "__init__" = some (some (.ref fI)) ∧ PySem.W.typeIn X.K (.ref fI) = some (.type "function") ∧
    FnOk X.prog X.w X.K X.mg X.base (L2.CX X.prog X.w) k fI fd ps (spI (N.cad c) (lOf N ns.reverse 1) (ns.length + 1)) ∧ Room (k + 1) X.A ∧ Binds X.K fd ps []
theorem ps_raiseI {c : Nat} {ns : List Nat} {x : Str} {e : Expr} {es : List Expr} {p pos pos' : Pos} {ms : M (List D)} (IA : InitAt X N c ns) (hc : X.calm = true) (tk : Takes X W) (hn : ns.length ≤ 1000) (hne0 : ns ≠ []) (hg : Gl X x) (hm : X.mg x = some (.ref (N.cad c))) (hd : (x == ("__debug__" : Str)) = false)
    (ha : PA X (e :: es) (tKs X.K N W ms)) (hst : Plain X pos (e :: es)) (hx : T.exf c = some ns) :
    PS X (.Raise (some (.Call (.Name x p) (e :: es) [] pos)) none pos') (tSt X.K N W B σ0 (bnd ms fun ds τ => match T.exf c with
      | some ns => if ns.length = ds.length then .ex ⟨c, ns, ds.reverse⟩ τ else .bad
      | none => .bad)) := by
  obtain ⟨fI, fd, k, ps, h1, h2, F1, hr, hb⟩ := IA.f
  obtain ⟨s1, s2⟩ := hst e es rfl
  refine ⟨fun pins s σ H D I h => ?_⟩
  obtain ⟨τ, G, L, st, ce, fx, out⟩ := h
  refine (ps_raise (W := W) hc tk (pmk_oex (CX := L2.CX X.prog X.w) (dvs := []) (ds := []) IA.own h1 h2 F1 hr hb .nil (passes_call (W := W) (E := fun _ _ _ => False) tk (fun _ _ _ _ z => z.elim)) hg hm ha hd s1 s2)).run pins s σ H D I ?_
  refine tM_mono (splitS0 (rel1 := DsR X.K N) (fun h => h.1) st ce fx out) fun vs H1 => ?_
  rintro ⟨ds, τ1, G1, L1, eG, ⟨_, hr1⟩, st1, ce1, o1⟩
  rw [hx] at o1
  simp only at o1
  split at o1
  · rename_i hl
    have hvl : ns.length = vs.length := by rw [hl]; exact hr1.len
    refine ⟨?_, fun a ha => ?_⟩
    · omega
    · refine ⟨by simp [hvl], a, vs ++ [], rfl, upd_same, fun dx hdx hne => ⟨rfl, dx, fsOf (.ref a :: (vs ++ [])) (lOf N ns.reverse 1) [], ?_, ?_, ?_, ?_⟩⟩
      · unfold setx
        rw [upd_same]
      · unfold setx
        rw [upd_ne hne, upd_same]
      · rw [upd_ne hne] at hdx
        exact hdx
      · rw [upd_ne hne] at hdx
        have ef : fsOf (.ref a :: (vs ++ [])) (lOf N ns.reverse 1) [] = flds N ns vs.reverse := by
          have e := fsOf_lOf (N := N) (fs := ns.reverse) (pre := [.ref a]) (vs := vs) (acc := []) (by simpa using hvl)
          rw [List.append_nil] at e ⊢
          refine Eq.trans e ?_
          rw [flds_rev (by simpa using hvl), List.reverse_reverse]
        rw [ef]
        have eH : upd (del (setx (upd H1 a (exo a (N.cad c) none)) a (N.cad c) dx (flds N ns vs.reverse)) a) dx (.xd (flds N ns vs.reverse)) = upd H1 dx (.xd (flds N ns vs.reverse)) := by
          funext b
          by_cases hb1 : b = dx
          · subst hb1
            rw [upd_same, upd_same]
          · rw [upd_ne hb1, upd_ne hb1]
            by_cases hb2 : b = a
            · subst hb2
              rw [del_same, ha]
            · rw [del_ne hb2]
              unfold setx
              rw [upd_ne hb2, upd_ne hb1, upd_ne hb2]
        rw [eH]
        have ce2 : Cells G1 ((dx, HO.xd (flds N ns vs.reverse)) :: L1) (upd H1 dx (.xd (flds N ns vs.reverse))) := ce1.new hdx
        have sp2 : Step G1 L1 H1 G1 ((dx, HO.xd (flds N ns vs.reverse)) :: L1) (upd H1 dx (.xd (flds N ns vs.reverse))) := Step.new1 hdx
        have sp3 := sp2.give (Lv := [(dx, HO.xd (flds N ns vs.reverse))]) ce2
        have ce3 := Cells.give (L := [(dx, HO.xd (flds N ns vs.reverse))]) ce2
        refine o1 _ _ σ _ _ _ ⟨rfl, vs.reverse, ?_, by simpa using hvl, .inr ⟨dx, hne0, rfl, ?_⟩⟩ (st1.mono sp3.ex) ce3 sp3 fx
        · exact (hr1.rev).mono sp3.ex
        · simp [addC, List.lookup]
  · exact o1.elim
/-- X() of a class without own __init__ -/
theorem pmk_own0 {C : Addr} {bmB : List Value} {Bn newId initId : String} {x : Str} {p pos : Pos} (F : ExcBaseFacts Bn newId initId bmB) (q : PySem.W.excIn X.K C bmB newId = true) (gC : X.mg x = some (.ref C)) (kC : PySem.W.keepIn X.K (.ref C) = true) (r : Raises X (.ref C)) (hg : Gl X x)
    (hdb : (x == ("__debug__" : Str)) = false) : PMk X (.Call (.Name x p) [] [] pos) (fun _ H Q => Q (.ref C) none H) := by
  intro pins s σ H Q I h
  refine wpAny_Call_Name_kw (ld_glob I hg gC ?_ hdb)
  refine PySem.W.callWith_K0 I.kIn kC ?_
  show wpAny _ _ (call (.ref C) []) _ _ _
  obtain ⟨bm, N, nm, qn, bs, hdct, sn, sub, ab, col, dd, k0, k1, k2, k3, k5, mN, hC, hN, hni, T⟩ := exc_obj I.kIn q
  refine wpAny_call_exc_subT F T hC hN hni (fun h' e hm => ?_) (by show 0 ≤ sizeLine; omega)
  exact mk_of I hm r h (I.hok.gone hm.new)
/-- a class without own __init__, made from here -/
structure BareAt (K : PySem.W.Frag) (C : Addr) : Prop where
  q : PySem.W.excIn K C [.type "ValueError", .type "Exception", .type "BaseException", .type "object"] "ValueError.__new__" = true
  kC : PySem.W.keepIn K (.ref C) = true
  exC : PySem.W.subIn K (.ref C) (.type "BaseException") = some true
  tyC : PySem.W.typeIn K (.ref C) = some (.type "type")
theorem ps_raise0 {c : Nat} {x : Str} {p pos pos' : Pos} (BA : BareAt X.K (N.cad c)) (hc : X.calm = true) (tk : Takes X W) (hg : Gl X x) (hm : X.mg x = some (.ref (N.cad c))) (hd : (x == ("__debug__" : Str)) = false) (hx : T.exf c = some []) :
    PS X (.Raise (some (.Call (.Name x p) [] [] pos)) none pos') (tSt X.K N W B σ0 (bnd (fun τ => .ok [] τ) fun ds τ => match T.exf c with
      | some ns => if ns.length = ds.length then .ex ⟨c, ns, ds.reverse⟩ τ else .bad
      | none => .bad)) := by
  refine (ps_raise (W := W) hc tk (pmk_own0 F.excBase_ValueError BA.q hm BA.kC (raises_own BA.exC BA.tyC) hg hd)).imp fun D σ H => ?_
  rintro ⟨τ, G, L, st, ce, fx, out⟩
  simp only [bnd, hx] at out
  exact out _ _ σ G L H ⟨rfl, [], rfl, rfl, .inl ⟨rfl, rfl⟩⟩ st ce Step.refl fx
end
end Tw
set_option maxHeartbeats 2000000
/-! The tree walk, part 16: try with several clauses, with or without a name. -/
namespace Tw
open PySem PySem.Spec PyProof.Rows L2 Evl
/-- a clause: its class, its name's slot, its suite's reading -/
structure Cz where
  c : Value
  i : Option Nat
  ts : Addr → Value → Option Addr → TS
def endsAs (D : Ends) (i : Nat) : Ends := { nx := fun σ' H' => D.nx (σ'.set i none) H', rt := D.rt, bk := fun σ' H' => D.bk (σ'.set i none) H', ct := fun σ' H' => D.ct (σ'.set i none) H' }
def wAll (K : PySem.W.Frag) (Wout : WX) (D : Ends) : List Cz → WX
  | [] => Wout
  | z :: r => fun cls d σ H => ∃ b, PySem.W.exmOne K cls z.c = some b ∧ (b = true → ∀ a, H a = none → match z.i with
      | some i => z.ts a cls d (endsAs D i) (σ.set i (some (.ref a))) H
      | none => z.ts a cls d D σ H) ∧ (b = false → wAll K Wout D r cls d σ H)
inductive HzOk (X : Cx) : List ExceptHandler → List Cz → Prop
  | nil : HzOk X [] []
  | one {x : Str} {z : Cz} {b₀ : Stmt} {suite : List Stmt} {np pos' : Pos} {hds : List ExceptHandler} {l : List Cz} (hc : Names X x z.c) (hi : z.i = none)
      (hsu : ∀ (a : Addr) (oe : Obj) (cls : Value) (d : Option Addr) (pn : List (Addr × Obj)), Zc cls d oe → (∃ vs, oe.data = .fields vs) → PSs (X.suite a ((a, oe) :: pn)) (b₀ :: suite) (z.ts a cls d)) (r : HzOk X hds l) :
      HzOk X (.ExceptHandler (some (.Name x np)) none (b₀ :: suite) pos' :: hds) (z :: l)
  | as {x n : Str} {z : Cz} {i : Nat} {b₀ : Stmt} {suite : List Stmt} {np pos' : Pos} {hds : List ExceptHandler} {l : List Cz} (hc : Names X x z.c) (hi : z.i = some i) (hn : X.N[i]? = some n) (hln : X.env.kindOf n = some .local)
      (hsu : ∀ (a : Addr) (oe : Obj) (cls : Value) (d : Option Addr) (pn : List (Addr × Obj)), Zc cls d oe → (∃ vs, oe.data = .fields vs) → PSs (X.suite a ((a, oe) :: pn)) (b₀ :: suite) (z.ts a cls d)) (r : HzOk X hds l) :
      HzOk X (.ExceptHandler (some (.Name x np)) (some n) (b₀ :: suite) pos' :: hds) (z :: l)
section
variable {X : Cx} {pins : List (Addr × Obj)}
/-- from a suite's end to the end of the whole statement -/
theorem suite_out {a : Addr} {q : Addr × Obj} {D : Ends} {fl : Flow} {s : Shared} (ok : X.Ok) (h : SP (X.suite a (q :: (X.pn ++ pins))) [] D fl s) : SP X pins D fl s := by
  cases fl with
  | ret u => exact let ⟨v, σ1, H1, J, rv, k⟩ := h; ⟨v, σ1, H1, J.unsuite ok, rv, k⟩
  | next => exact let ⟨σ1, H1, J, k⟩ := h; ⟨σ1, H1, J.unsuite ok, k⟩
  | brk => exact let ⟨σ1, H1, J, k⟩ := h; ⟨σ1, H1, J.unsuite ok, k⟩
  | cont => exact let ⟨σ1, H1, J, k⟩ := h; ⟨σ1, H1, J.unsuite ok, k⟩
/-- the same where the clause's name goes -/
theorem suite_out_as {a : Addr} {q : Addr × Obj} {D : Ends} {fl : Flow} {s : Shared} {i : Nat} {n : Str} {p : Pos} {M : Model} {A : Around} {E : Value → Shared → Prop} (ok : X.Ok) (nd : X.N.Nodup) (hn : X.N[i]? = some n) (hl : X.env.kindOf n = some .local)
    (h : SP (X.suite a (q :: (X.pn ++ pins))) [] (endsAs D i) fl s) : wpAny M A (do bindName X.env n .none; unbindBehindTheSuite X.env n p) (fun _ s' => SP X pins D fl s') E s := by
  cases fl with
  | ret u =>
    obtain ⟨v, σ1, H1, J, rv, k⟩ := h
    exact gone_ok (J.unsuite ok) nd hn hl fun s' J' => ⟨v, _, H1, J', rv, k⟩
  | next =>
    obtain ⟨σ1, H1, J, k⟩ := h
    exact gone_ok (J.unsuite ok) nd hn hl fun s' J' => ⟨_, H1, J', k⟩
  | brk =>
    obtain ⟨σ1, H1, J, k⟩ := h
    exact gone_ok (J.unsuite ok) nd hn hl fun s' J' => ⟨_, H1, J', k⟩
  | cont =>
    obtain ⟨σ1, H1, J, k⟩ := h
    exact gone_ok (J.unsuite ok) nd hn hl fun s' J' => ⟨_, H1, J', k⟩
/-- what stands at a caught exception -/
structure Caught (X : Cx) (pins : List (Addr × Obj)) (B : Heap) (a : Addr) (cls : Value) (d : Option Addr) (sI : Shared) (σ : L2.St) (H : Hp) (h0 : Heap) (s : Shared) : Prop where
  I : Inv X pins σ H sI
  nb : ∀ b o, sI.heap.get? b = some o → b ∉ frs X.stack → B.get? b = some o
  up : sI.heap.UpToSlots h0
  na : H a = none
  os : s.os = sI.os
  ag : AllBare s.gens
  hs : X.stack = X.env :: X.outer
  hf : X.env.frame = some X.env.locals
/-- .. in a heap in which it has landed: the suite's state -/
theorem Caught.in_suite {B : Heap} {a : Addr} {cls : Value} {d : Option Addr} {sI s : Shared} {σ : L2.St} {H : Hp} {h0 h1 : Heap} (c : Caught X pins B a cls d sI σ H h0 s) (up1 : h0.UpToSlots h1) (fl : HandSPX.FlyingZ B (X.env :: X.outer) a (Zc cls d) h1) :
    ∃ oe, Zc cls d oe ∧ (∃ vs, oe.data = .fields vs) ∧ h1.get? a = some oe ∧ Inv (X.suite a ((a, oe) :: (X.pn ++ pins))) [] σ H { s with heap := h1 } := by
  have J : Inv X pins σ H { s with heap := h1 } := c.I.landed c.nb fl.1 (c.up.trans up1) c.os c.ag
  obtain ⟨oe, vs, he, hz, hd⟩ := fl.there
  have out : ∀ {l : Addr}, (∃ o, h1.get? l = some o ∧ ∀ vs, o.data ≠ .fields vs) → a ≠ l := fun ⟨o, e1, e2⟩ z => by
    rw [← z, he] at e1
    cases e1
    exact e2 _ hd
  have fr : ∀ l ∈ frs (X.env :: X.outer), a ≠ l := fun l hl => out (let ⟨_, o, e1, e2⟩ := fl.2.2.1.mem hl; ⟨o, e1, e2⟩)
  have l0 : X.env.locals ∈ frs (X.env :: X.outer) := List.mem_filterMap.mpr ⟨X.env, List.mem_cons_self, c.hf⟩
  have l1 : ∀ l ∈ X.fs, l ∈ frs (X.env :: X.outer) := fun l hl => let ⟨e, he, q⟩ := List.mem_filterMap.mp hl; List.mem_filterMap.mpr ⟨e, List.mem_cons_of_mem _ he, q⟩
  exact ⟨oe, hz, ⟨vs, hd⟩, he, J.suite he hd c.na (fr _ l0) fun m => fr a (l1 a m) rfl⟩
/-- a clause's class is looked at: it is the exception's or not -/
theorem Caught.ask {B : Heap} {a : Addr} {cls v : Value} {d : Option Addr} {sI s : Shared} {σ : L2.St} {H : Hp} {h0 h1 : Heap} {x : Str} {np : Pos} {b : Bool} {E : Value → Shared → Prop} {Q : Bool → Shared → Prop} (c : Caught X pins B a cls d sI σ H h0 s) (up1 : h0.UpToSlots h1)
    (fl : HandSPX.FlyingZ B (X.env :: X.outer) a (Zc cls d) h1) (hx : Names X x v) (hb : PySem.W.exmOne X.K cls v = some b) (k : Q b { s with heap := h1 }) :
    wpAny (model X.prog X.w) (X.A.mark (some (.ref a))) (eval (.Name x np) X.env) (fun w s' => wpAny (model X.prog X.w) (X.A.mark (some (.ref a))) (excMatches (.ref a) w) Q E s') E { s with heap := h1 } := by
  obtain ⟨oe, hz, _, he, J⟩ := c.in_suite up1 fl
  have ty : PySem.W.Looks (model X.prog X.w) h1 (typeOf (.ref a)) cls := fun A Q E s k q => wpAny_typeOf_ref (k _ _ he) (by rw [hz.1]; exact q)
  have yes := (PySem.W.exm_one (M := model X.prog X.w) J.kIn ty hb).here (A := X.A.mark (some (.ref a))) (E := E) k
  rcases hx with ⟨g, gd, m | ⟨m, bv, nn⟩⟩
  · exact ld_glob J g m yes gd
  · exact ld_blt J g m bv yes nn gd
/-- a try's clauses, behind its body -/
theorem Caught.clauses {B : Heap} {a : Addr} {cls : Value} {d : Option Addr} {sI s : Shared} {σ : L2.St} {H : Hp} {h0 h1 : Heap} {D : Ends} {W : WX} (c : Caught X pins B a cls d sI σ H h0 s) (up1 : h0.UpToSlots h1) (fl : HandSPX.FlyingZ B (X.env :: X.outer) a (Zc cls d) h1) (nd : X.N.Nodup) (tk : Takes X W) :
    ∀ {hds : List ExceptHandler} {l : List Cz}, HzOk X hds l → wAll X.K W D l cls d σ H → wpAny (model X.prog X.w) X.A (handleBy (.ref a) X.env hds) (SP X pins D) X.xe { s with heap := h1 } := by
  have ok := c.I.ok
  -- a suite, begun
  have begin_ : ∀ {t : Sem Unit} {Q : Shared → Prop} {E : Value → Shared → Prop}, (t = setFlight (.ref a) none) → (∀ h2, h0.UpToSlots h2 → HandSPX.FlyingZ B (X.env :: X.outer) a (Zc cls d) h2 → Q { s with heap := h2 }) →
      wpAny (model X.prog X.w) (X.A.mark (some (.ref a))) t (fun _ s2 => Q s2) E { s with heap := h1 } := by
    intro t Q E e k
    subst e
    exact HandSPX.lands_againZ fl fun h2 fl2 up2 => k h2 (up1.trans up2) fl2
  intro hds l hk
  induction hk with
  | nil =>
    intro w
    obtain ⟨_, _, _, oe, vs, T, _, _, he, _, hd, hv, _⟩ := id fl
    refine wpAny_handleBy_nil ?_
    unfold PySem.passOn
    refine wpAny_bind (wpAny_field he hd hv ?_)
    rw [if_neg (by simp : ¬ (Value.ref T == Value.none) = true), c.hf]
    have on : wpAny (model X.prog X.w) X.A (setFlight (.ref a) (some X.env.locals)) (fun _ s4 => wpAny (model X.prog X.w) X.A (throw (.ref a) : Sem Flow) (SP X pins D) X.xe s4) X.xe { s with heap := h1 } :=
      HandSPX.setFlight_upZ fl fun h2 held up2 => wpAny_throw (tk _ _ ⟨a, B, sI, pins, σ, H, cls, d, rfl, c.I, c.nb, (c.up.trans up1).trans up2, .inr (.inr (by rw [c.hs]; exact held)), c.na, c.os, c.ag, w⟩)
    first
      | exact wpAny_bind on
      | exact wpAny_bind (wpAny_pure (wpAny_bind on))
  | @one x z b₀ body np p' hs2 l2 hc hi hsu r ih =>
    rintro ⟨b, hb, yes, no⟩
    rw [hi] at yes
    refine wpAny_handleBy_cons (codeAny_handlers_test (c.ask up1 fl hc hb ?_)) (fun q => by cases q)
    cases b with
    | false => exact ih (no rfl)
    | true =>
      refine codeAny_handlers_suite (begin_ rfl fun h2 up2 fl2 => ?_)
      obtain ⟨oe, hz, hd, _, J⟩ := c.in_suite up2 fl2
      exact wpAny_mono ((hsu a oe cls d (X.pn ++ pins) hz hd).run [] _ σ H D J (yes rfl a c.na)) (fun f s2 h => by
        cases f with
        | next => exact suite_out ok h
        | brk => exact suite_out ok h
        | cont => exact suite_out ok h
        | ret u => exact suite_out ok h) fun _ _ z => False.elim z
  | @as x n z i b₀ body np p' hs2 l2 hc hi hn hl hsu r ih =>
    rintro ⟨b, hb, yes, no⟩
    rw [hi] at yes
    refine wpAny_handleBy_cons (codeAny_handlers_test (c.ask up1 fl hc hb ?_)) (fun q => by cases q)
    cases b with
    | false => exact ih (no rfl)
    | true =>
      refine codeAny_handlers_suite_as (begin_ rfl fun h2 up2 fl2 => ?_)
      obtain ⟨oe, hz, hd, _, J⟩ := c.in_suite up2 fl2
      refine store_ok (X := X.suite a ((a, oe) :: (X.pn ++ pins))) (v := .ref a) J nd hn (.inl hl) rfl (fun s2 J2 => ?_) (.inr hl)
      exact wpAny_mono ((hsu a oe cls d (X.pn ++ pins) hz hd).run [] s2 _ H (endsAs D i) J2 (yes rfl a c.na)) (fun f s3 h => by
        cases f with
        | next => exact suite_out_as ok nd hn hl h
        | brk => exact suite_out_as ok nd hn hl h
        | cont => exact suite_out_as ok nd hn hl h
        | ret u => exact suite_out_as ok nd hn hl h) fun _ _ z => False.elim z
/-- try: .. except C: .. except D as n: .. -/
theorem ps_try_all {body : List Stmt} {h₀ : ExceptHandler} {hds : List ExceptHandler} {l : List Cz} {pos : Pos} {tb : WX → TS} {W : WX} (hs : X.stack = X.env :: X.outer) (hf : X.env.frame = some X.env.locals) (nd : X.N.Nodup) (tk : Takes X W)
    (hb : ∀ (W : WX) (pn : List (Addr × Obj)) (xe : Value → Shared → Prop), Takes (X.tr pn xe) W → PassesOwn (model X.prog X.w) X.A X.env xe → PSs (X.tr pn xe) body (tb W)) (hh : HzOk X (h₀ :: hds) l) :
    PS X (.Try body (h₀ :: hds) [] [] pos) (fun D σ H => tb (wAll X.K W D l) D σ H) := by
  constructor
  intro pins s σ H D I h
  have ok := I.ok
  let xe : Value → Shared → Prop := fun e s₁ => wpAny (model X.prog X.w) X.A (noteFrame e X.env) (fun _ s₂ => wpAny (model X.prog X.w) X.A (setFlight e none) (fun _ s₃ => wpAny (model X.prog X.w) X.A (handleBy e X.env (h₀ :: hds)) (SP X pins D) X.xe s₃) X.xe s₂) X.xe s₁
  have took : Takes (X.tr (X.pn ++ pins) xe) (wAll X.K W D l) := by
    rintro u s1 ⟨a, B, sI, p1, σ1, H1, cls, d, rfl, J, nb, up, sky, na, os, ag, w⟩
    rw [show (X.tr (X.pn ++ pins) xe).stack = X.env :: X.outer from hs] at sky
    exact Sky.land Zc.steady (by rw [ok.frames, hs]) hf sky fun h1 fl up1 =>
      Caught.clauses (h0 := s1.heap) ⟨J.ofTry ok, nb, up, na, os, ag, hs, hf⟩ up1 fl nd tk hh w
  refine wpAny_Try_except (wpAny_mono ((hb _ _ xe took PassesOwn.looking).run [] s σ H D (I.toTry _) h) (fun f s1 hsp => ?_) fun e s1 he => he)
  cases f with
  | ret u => exact let ⟨v, σ1, H1, J, rv, k⟩ := hsp; ⟨v, σ1, H1, J.ofTry ok, rv, k⟩
  | next => exact let ⟨σ1, H1, J, k⟩ := hsp; wpAny_execs_nil ⟨σ1, H1, J.ofTry ok, k⟩
  | brk => exact let ⟨σ1, H1, J, k⟩ := hsp; ⟨σ1, H1, J.ofTry ok, k⟩
  | cont => exact let ⟨σ1, H1, J, k⟩ := hsp; ⟨σ1, H1, J.ofTry ok, k⟩
end
end Tw
set_option maxHeartbeats 2000000
/-! The tree walk, part 17: the clauses of a try. -/
namespace Tw
open PySem PySem.Spec PyProof.Rows L2 Evl
/-- the names, with another exception in hand -/
def Nm.at_ (N : Nm) (e : Option (Addr × Value × Option Addr)) : Nm := { N with exa := e }
theorem Nm.at_none {N : Nm} (h : N.exa = none) : N.at_ none = N := by
  obtain ⟨a, b, c, d⟩ := N
  cases h
  rfl
section
variable {K : PySem.W.Frag} {N : Nm} {G : Hp} {e : Option (Addr × Value × Option Addr)}
/-! out of the suite: less is known -/
mutual
theorem Rep.cold (h0 : N.exa = none) : ∀ {d : D} {v : V}, Rep K (N.at_ e) G d v → Rep K N G d v
  | .non, _, h => h
  | .bl _, _, h => h
  | .int _, _, h => h
  | .str _, _, h => h
  | .tup ds, v, h => let ⟨a, vs, h1, h2, h3⟩ := h; ⟨a, vs, h1, h2, RepL.cold h0 h3⟩
  | .lst ds, v, h => let ⟨a, vs, h1, h2, h3⟩ := h; ⟨a, vs, h1, h2, RepL.cold h0 h3⟩
  | .kls ds, v, h => let ⟨a, vs, h1, h2, h3⟩ := h; ⟨a, vs, h1, h2, RepL.cold h0 h3⟩
  | .ins c ns ds, v, h => let ⟨a, dx, vs, h1, h2, h4, h3⟩ := h; ⟨a, dx, vs, h1, h2, h4, RepL.cold h0 h3⟩
  | .exc c ns ds, v, h => let ⟨b, h1, _⟩ := h; ⟨b, h1, fun a cls d ea => by rw [h0] at ea; cases ea⟩
  | .typ _, _, h => h
  | .dct ks ds, v, h => let ⟨a, vs, h1, h2, h4, h3⟩ := h; ⟨a, vs, h1, h2, h4, RepL.cold h0 h3⟩
theorem RepL.cold (h0 : N.exa = none) : ∀ {ds : List D} {vs : List V}, RepL K (N.at_ e) G ds vs → RepL K N G ds vs
  | [], _, h => h
  | d :: ds, vs, h => let ⟨v, r, h1, h2, h3⟩ := h; ⟨v, r, h1, Rep.cold h0 h2, RepL.cold h0 h3⟩
end
mutual
theorem Own.cold (h0 : N.exa = none) : ∀ {o : O} {v : V} {L : Cl}, Own K (N.at_ e) G o v L → Own K N G o v L
  | .val d, _, _, h => ⟨h.1, h.2.cold h0⟩
  | .lst os, v, L, h => let ⟨a, vs, L1, h1, h2, h3⟩ := h; ⟨a, vs, L1, h1, h2, OwnL.cold h0 h3⟩
  | .ins c ns os, v, L, h => let ⟨a, dx, vs, L1, h1, h2, h4, h3⟩ := h; ⟨a, dx, vs, L1, h1, h2, h4, OwnL.cold h0 h3⟩
  | .dct ks ds, v, L, h => let ⟨a, vs, h1, h2, h4, h3⟩ := h; ⟨a, vs, h1, h2, h4, h3.cold h0⟩
theorem OwnL.cold (h0 : N.exa = none) : ∀ {os : List O} {vs : List V} {L : Cl}, OwnL K (N.at_ e) G os vs L → OwnL K N G os vs L
  | [], _, _, h => h
  | o :: os, vs, L, h => let ⟨v, r, L1, L2, h1, h2, h3, h4⟩ := h; ⟨v, r, L1, L2, h1, h2, Own.cold h0 h3, OwnL.cold h0 h4⟩
end
theorem StoR.cold (h0 : N.exa = none) : ∀ {τ : Sto} {σ : L2.St} {L : Cl}, StoR K (N.at_ e) G τ σ L → StoR K N G τ σ L
  | [], σ, L, h => h
  | none :: τ, σ, L, h => let ⟨x, r, h1, h2⟩ := h; ⟨x, r, h1, StoR.cold h0 h2⟩
  | some o :: τ, σ, L, h => let ⟨v, r, L1, L2, h1, h2, h3, h4⟩ := h; ⟨v, r, L1, L2, h1, h2, h3.cold h0, StoR.cold h0 h4⟩
/-! into the suite: no exception in it -/
mutual
theorem Rep.warm : ∀ {d : D} {v : V}, noXD d = true → Rep K N G d v → Rep K (N.at_ e) G d v
  | .non, _, _, h => h
  | .bl _, _, _, h => h
  | .int _, _, _, h => h
  | .str _, _, _, h => h
  | .tup ds, v, n, h => let ⟨a, vs, h1, h2, h3⟩ := h; ⟨a, vs, h1, h2, RepL.warm (by simpa [noXD] using n) h3⟩
  | .lst ds, v, n, h => let ⟨a, vs, h1, h2, h3⟩ := h; ⟨a, vs, h1, h2, RepL.warm (by simpa [noXD] using n) h3⟩
  | .kls ds, v, n, h => let ⟨a, vs, h1, h2, h3⟩ := h; ⟨a, vs, h1, h2, RepL.warm (by simpa [noXD] using n) h3⟩
  | .ins c ns ds, v, n, h => let ⟨a, dx, vs, h1, h2, h4, h3⟩ := h; ⟨a, dx, vs, h1, h2, h4, RepL.warm (by simpa [noXD] using n) h3⟩
  | .exc c ns ds, v, n, h => by simp [noXD] at n
  | .typ _, _, _, h => h
  | .dct ks ds, v, n, h => let ⟨a, vs, h1, h2, h4, h3⟩ := h; ⟨a, vs, h1, h2, h4, RepL.warm (by simpa [noXD] using n) h3⟩
theorem RepL.warm : ∀ {ds : List D} {vs : List V}, noXL ds = true → RepL K N G ds vs → RepL K (N.at_ e) G ds vs
  | [], _, _, h => h
  | d :: ds, vs, n, h => by
    simp only [noXL, Bool.and_eq_true] at n
    exact let ⟨v, r, h1, h2, h3⟩ := h; ⟨v, r, h1, Rep.warm n.1 h2, RepL.warm n.2 h3⟩
end
mutual
theorem Own.warm : ∀ {o : O} {v : V} {L : Cl}, noXO o = true → Own K N G o v L → Own K (N.at_ e) G o v L
  | .val d, _, _, n, h => ⟨h.1, h.2.warm (by simpa [noXO] using n)⟩
  | .lst os, v, L, n, h => let ⟨a, vs, L1, h1, h2, h3⟩ := h; ⟨a, vs, L1, h1, h2, OwnL.warm (by simpa [noXO] using n) h3⟩
  | .ins c ns os, v, L, n, h => let ⟨a, dx, vs, L1, h1, h2, h4, h3⟩ := h; ⟨a, dx, vs, L1, h1, h2, h4, OwnL.warm (by simpa [noXO] using n) h3⟩
  | .dct ks ds, v, L, n, h => let ⟨a, vs, h1, h2, h4, h3⟩ := h; ⟨a, vs, h1, h2, h4, h3.warm (by simpa [noXO] using n)⟩
theorem OwnL.warm : ∀ {os : List O} {vs : List V} {L : Cl}, noXOL os = true → OwnL K N G os vs L → OwnL K (N.at_ e) G os vs L
  | [], _, _, _, h => h
  | o :: os, vs, L, n, h => by
    simp only [noXOL, Bool.and_eq_true] at n
    exact let ⟨v, r, L1, L2, h1, h2, h3, h4⟩ := h; ⟨v, r, L1, L2, h1, h2, Own.warm n.1 h3, OwnL.warm n.2 h4⟩
end
theorem StoR.warm : ∀ {τ : Sto} {σ : L2.St} {L : Cl}, noXS τ = true → StoR K N G τ σ L → StoR K (N.at_ e) G τ σ L
  | [], σ, L, _, h => h
  | none :: τ, σ, L, n, h => let ⟨x, r, h1, h2⟩ := h; ⟨x, r, h1, StoR.warm (by simpa [noXS] using n) h2⟩
  | some o :: τ, σ, L, n, h => by
    simp only [noXS, Bool.and_eq_true] at n
    exact let ⟨v, r, L1, L2, h1, h2, h3, h4⟩ := h; ⟨v, r, L1, L2, h1, h2, h3.warm n.1, StoR.warm n.2 h4⟩
end
theorem ExR.mono {K : PySem.W.Frag} {N : Nm} {x : Exn} {cls : Value} {d : Option Addr} {G G' : Hp} (e : Ex G G') (h : ExR K N x cls d G) : ExR K N x cls d G' := by
  obtain ⟨h1, vs, h2, h3, h4⟩ := h
  refine ⟨h1, vs, h2.mono e, h3, ?_⟩
  rcases h4 with h4 | ⟨dd, e0, e1, e2⟩
  · exact .inl h4
  · exact .inr ⟨dd, e0, e1, e _ _ e2⟩
/-! ### the clauses -/
section
variable {X : Cx} {N : Nm} {T : Tb} {cl : CallT} {i : Option Nat} {a : Addr} {oe : Obj} {cls : Value} {d : Option Addr} {pn : List (Addr × Obj)} {B : List Nat} {σ0 : L2.St}
inductive HsOk (X : Cx) (N : Nm) (T : Tb) (cl : CallT) (B : List Nat) (σ0 : L2.St) : List ExceptHandler → Hs → Prop
  | nil : HsOk X N T cl B σ0 [] .nil
  | one {x : Str} {c : Nat} {b₀ : Stmt} {suite : List Stmt} {np pos' : Pos} {hds : List ExceptHandler} {bt : Tw.B} {hs : Hs} (hc : Names X x (.ref (N.cad c)))
      (hz : ∀ (a : Addr) (oe : Obj) (cls : Value) (d : Option Addr) (pn : List (Addr × Obj)), Zc cls d oe → (∃ vs, oe.data = .fields vs) → PSs (X.suite a ((a, oe) :: pn)) (b₀ :: suite) (tSt X.K N W0 B σ0 (dnB T badCl (some (cl, false)) bt))) (r : HsOk X N T cl B σ0 hds hs) :
      HsOk X N T cl B σ0 (.ExceptHandler (some (.Name x np)) none (b₀ :: suite) pos' :: hds) (.cons c none bt hs)
  | as {x n : Str} {c i : Nat} {b₀ : Stmt} {suite : List Stmt} {np pos' : Pos} {hds : List ExceptHandler} {bt : Tw.B} {hs : Hs} (hc : Names X x (.ref (N.cad c))) (hn : X.N[i]? = some n) (hln : X.env.kindOf n = some .local) (hB : i ∉ B)
      (hz : ∀ (a : Addr) (oe : Obj) (cls : Value) (d : Option Addr) (pn : List (Addr × Obj)), Zc cls d oe → (∃ vs, oe.data = .fields vs) → PSs (X.suite a ((a, oe) :: pn)) (b₀ :: suite) (tSt X.K (N.at_ (some (a, cls, d))) W0 B σ0 (dnB T badCl (some (cl, true)) bt))) (r : HsOk X N T cl B σ0 hds hs) :
      HsOk X N T cl B σ0 (.ExceptHandler (some (.Name x np)) (some n) (b₀ :: suite) pos' :: hds) (.cons c (some i) bt hs)
def czOf (K : PySem.W.Frag) (N : Nm) (T : Tb) (cl : CallT) (B : List Nat) (σ0 : L2.St) : Hs → List Cz
  | .nil => []
  | .cons c none bt hs => ⟨.ref (N.cad c), none, fun _ _ _ => tSt K N W0 B σ0 (dnB T badCl (some (cl, false)) bt)⟩ :: czOf K N T cl B σ0 hs
  | .cons c (some i) bt hs => ⟨.ref (N.cad c), some i, fun a cls d => tSt K (N.at_ (some (a, cls, d))) W0 B σ0 (dnB T badCl (some (cl, true)) bt)⟩ :: czOf K N T cl B σ0 hs
theorem hz_of {hds : List ExceptHandler} {hs : Hs} (h : HsOk X N T cl B σ0 hds hs) : HzOk X hds (czOf X.K N T cl B σ0 hs) := by
  induction h with
  | nil => exact .nil
  | one hc hz r ih => exact .one hc rfl hz ih
  | as hc hn hln hB hz r ih => exact .as hc rfl hn hln hz ih
theorem set_self {σ : L2.St} {i : Nat} {v : Option V} (h : i < σ.length) : (σ.set i v)[i]? = some v := by
  rw [List.getElem?_set_self h]
/-- from the tree walk of the clauses to what they wish -/
theorem w_all {W : WX} {D : Ends} (EO : ExmOk X.K N T) (h0 : N.exa = none) {hds : List ExceptHandler} {hs : Hs} (h : HsOk X N T cl B σ0 hds hs) {x : Exn} {τ : Sto} {σ : L2.St} {G0 G : Hp} {L0 L : Cl} {H0 H : Hp}
    (ex : ExR X.K N x cls d G) (st : StoR X.K N G τ σ L) (ce : Cells G L H) (sp : Step G0 L0 H0 G L H) (fx : Fx B σ0 σ)
    (out : OutS X.K N W B σ0 G0 L0 H0 D (handle T x (dnH T cl hs) τ)) : wAll X.K W D (czOf X.K N T cl B σ0 hs) cls d σ H := by
  induction h with
  | nil =>
    simp only [dnH, handle] at out
    exact out cls d σ G L H ex st ce sp fx
  | @one x0 c b₀ suite np pos' hds bt hs hc hz r ih =>
    simp only [dnH, handle] at out
    cases q : T.exm x.c (.own c) with
    | none => simp only [q] at out; exact out.elim
    | some b =>
      obtain ⟨k1, _, _⟩ := EO _ _ _ q
      rw [← ex.1] at k1
      refine ⟨b, k1, fun hb a ha => ?_, fun hb => ?_⟩
      · subst hb
        simp only [q, handNo, Option.isSome_none] at out
        refine ⟨τ, G, L, st, ce, fx, ?_⟩
        cases e : dnB T badCl (some (cl, false)) bt τ with
        | bad => simp only [e] at out; exact out.elim
        | ex y τ1 => simp only [e] at out; exact out.elim
        | ok f τ1 =>
          simp only [e] at out ⊢
          have o2 := out.later sp
          cases f <;> exact o2
      · subst hb
        simp only [q] at out
        exact ih out
  | @as x0 n c i b₀ suite np pos' hds bt hs hc hn hln hB hz r ih =>
    simp only [dnH, handle] at out
    cases q : T.exm x.c (.own c) with
    | none => simp only [q] at out; exact out.elim
    | some b =>
      obtain ⟨k1, _, _⟩ := EO _ _ _ q
      rw [← ex.1] at k1
      refine ⟨b, k1, fun hb a ha => ?_, fun hb => ?_⟩
      · subst hb
        simp only [q, handAs, Option.isSome_some] at out
        by_cases hi : i < τ.length ∧ (noXS τ && noXL x.ds) = true
        case neg =>
          rw [if_neg hi] at out
          exact out.elim
        rw [if_pos hi] at out
        obtain ⟨hi, hx⟩ := hi
        rw [Bool.and_eq_true] at hx
        have hiσ : i < σ.length := by rw [← st.len]; exact hi
        -- the exception as a value
        have ow : Own X.K (N.at_ (some (a, cls, d))) G (.val (.exc x.c x.ns x.ds)) (.ref a) [] := by
          obtain ⟨e1, vs, e2, e3, e4⟩ := ex
          refine ⟨rfl, a, rfl, fun a' cls' d' ea => ?_⟩
          cases ea
          exact ⟨rfl, e1, vs, e2.warm hx.2, e3, e4⟩
        have st1 : StoR X.K (N.at_ (some (a, cls, d))) G τ σ L := st.warm hx.1
        obtain ⟨Lx, Ly, pm, st3⟩ := st1.put hi ow
        rw [List.nil_append] at pm
        have ce3 : Cells G Lx H := (ce.perm pm).left
        have sp3 : Step G0 L0 H0 G Lx H := (sp.perm (List.Perm.refl _) pm).sub fun p hp => List.mem_append_left _ hp
        refine ⟨τ.set i (some (.val (.exc x.c x.ns x.ds))), G, Lx, st3, ce3, fx.set hB, ?_⟩
        cases e : dnB T badCl (some (cl, true)) bt (τ.set i (some (.val (.exc x.c x.ns x.ds)))) with
        | bad => simp only [e] at out; exact out.elim
        | ex y τ1 => simp only [e] at out; exact out.elim
        | ok f τ1 =>
          simp only [e] at out ⊢
          have o2 := out.later sp3
          -- the name goes
          have gone : ∀ {σ' : L2.St} {G' : Hp} {L' : Cl} {H' : Hp} {P : Prop}, StoR X.K (N.at_ (some (a, cls, d))) G' τ1 σ' L' → Cells G' L' H' → Step G Lx H G' L' H' → (∀ L2, StoR X.K N G' (τ1.set i none) (σ'.set i none) L2 → Cells G' L2 H' → Step G Lx H G' L2 H' → P) → P := by
            intro σ' G' L' H' P s1 c1 p1 k
            obtain ⟨A1, B1, C1, e2, s2, _⟩ := (s1.cold h0).drop (i := i)
            have s3 : StoR X.K N G' (τ1.set i none) (σ'.set i none) (A1 ++ C1) := s2.congr (by simp) fun j o ej => by
              rw [List.getElem?_set_ne]
              intro z
              subst z
              by_cases hl : i < τ1.length
              · rw [List.getElem?_set_self hl] at ej
                cases ej
              · rw [List.getElem?_eq_none (by simpa using hl)] at ej
                cases ej
            have pm1 : L'.Perm ((A1 ++ C1) ++ B1) := by
              rw [e2]
              refine (perm3 A1 B1 C1).trans ?_
              exact List.perm_append_comm
            exact k _ s3 (c1.perm pm1).left ((p1.perm (List.Perm.refl _) pm1).sub fun p hp => List.mem_append_left _ hp)
          cases f with
          | nx => exact fun σ' G' L' H' s1 c1 p1 f1 => gone s1 c1 p1 fun L2 s3 c3 p3 => o2 _ G' L2 H' s3 c3 p3 (f1.set hB)
          | bk => exact fun σ' G' L' H' s1 c1 p1 f1 => gone s1 c1 p1 fun L2 s3 c3 p3 => o2 _ G' L2 H' s3 c3 p3 (f1.set hB)
          | ct => exact fun σ' G' L' H' s1 c1 p1 f1 => gone s1 c1 p1 fun L2 s3 c3 p3 => o2 _ G' L2 H' s3 c3 p3 (f1.set hB)
          | rt o =>
            intro v σ' G' Lv L' H' ho s1 c1 p1 f1
            obtain ⟨A1, B1, C1, e2, s2, _⟩ := (s1.cold h0).drop (i := i)
            have s3 : StoR X.K N G' (τ1.set i none) (σ'.set i none) (A1 ++ C1) := s2.congr (by simp) fun j o ej => by
              rw [List.getElem?_set_ne]
              intro z
              subst z
              by_cases hl : i < τ1.length
              · rw [List.getElem?_set_self hl] at ej
                cases ej
              · rw [List.getElem?_eq_none (by simpa using hl)] at ej
                cases ej
            have pm1 : (Lv ++ L').Perm ((Lv ++ (A1 ++ C1)) ++ B1) := by
              rw [e2, List.append_assoc]
              refine List.Perm.append_left Lv ?_
              refine (perm3 A1 B1 C1).trans ?_
              exact List.perm_append_comm
            exact o2 v _ G' Lv (A1 ++ C1) H' (ho.cold h0) s3 (c1.perm pm1).left ((p1.perm (List.Perm.refl _) pm1).sub fun p hp => List.mem_append_left _ hp) (f1.set hB)
      · subst hb
        simp only [q] at out
        exact ih out
theorem ps_try' {W : WX} {body : List Stmt} {h₀ : ExceptHandler} {hds : List ExceptHandler} {hs : Hs} {mb : M Fl} {pos : Pos} (EO : ExmOk X.K N T) (h0 : N.exa = none) (hst : X.stack = X.env :: X.outer) (hf : X.env.frame = some X.env.locals) (nd : X.N.Nodup) (tk : Takes X W)
    (hb : ∀ (W : WX) (pn : List (Addr × Obj)) (xe : Value → Shared → Prop), Takes (X.tr pn xe) W → PassesOwn (model X.prog X.w) X.A X.env xe → PSs (X.tr pn xe) body (tSt X.K N W B σ0 mb)) (hh : HsOk X N T cl B σ0 (h₀ :: hds) hs) :
    PS X (.Try body (h₀ :: hds) [] [] pos) (tSt X.K N W B σ0 fun τ => match mb τ with
      | .ex x τ1 => handle T x (dnH T cl hs) τ1
      | r => r) := by
  refine ⟨fun pins s σ H D I h => (ps_try_all (tb := fun W => tSt X.K N W B σ0 mb) hst hf nd tk hb (hz_of hh)).run pins s σ H D I ?_⟩
  obtain ⟨τ, G, L, st, ce, fx, out⟩ := h
  refine ⟨τ, G, L, st, ce, fx, ?_⟩
  cases e : mb τ with
  | bad => simp only [e] at out; exact out
  | ok f τ1 =>
    simp only [e] at out
    cases f <;> exact out
  | ex x τ1 =>
    simp only [e] at out
    intro cls d σ' G' L' H' ex st' ce' sp fx'
    exact w_all EO h0 hh ex st' ce' sp fx' out
end
end Tw
set_option maxHeartbeats 2000000
/-! The tree walk, part 17b: what an own class says of operators and built-ins. -/
namespace Tw
open PySem PySem.Spec PyProof.Rows L2 Evl
section
variable {X : Cx} {N : Nm} {T : Tb} {cl : CallT} {W : WX}
theorem ep_back {pins : List (Addr × Obj)} {σ : L2.St} {Q : VK} {v : Value} {s' : Shared} (h : EP X pins σ Q v s') : PySem.W.CmpBack (EP X pins σ Q) v s' := by
  obtain ⟨x, H', I, r, q⟩ := id h
  cases v <;> first | exact h | (cases x <;> first | (obtain ⟨_, r⟩ := r; cases r; done) | (cases r; done))
/-- an instance of an own class in hand -/
theorem inst_of {c : Nat} {pins : List (Addr × Obj)} {s : Shared} {σ : L2.St} {G : Hp} {L : Cl} {H : Hp} {τ : Sto} {r : Rv} {x : V} {v : Value} {o : O} (hc : clsOf o = some c) (I : Inv X pins σ H s) (rx : RelV x v) (st : StoR X.K N G τ σ L) (ce : Cells G L H) (h : OpR1 X.K N G σ r x []) (e : res τ r = some o) :
    ∃ p dx od, x = .ref p ∧ v = .ref p ∧ PySem.W.InstAt s.heap p (PySem.W.instObj (N.cad c) dx) (N.cad c) (some od) := by
  obtain ⟨La, Ra, ho, pm⟩ := res_own st h e
  have hi : ∃ ns, insOf o = some (c, ns) := by
    cases o with
    | val d => cases d <;> first | (cases hc; exact ⟨_, rfl⟩) | cases hc
    | lst _ => cases hc
    | ins _ _ _ => cases hc; exact ⟨_, rfl⟩
    | dct _ _ => cases hc
  obtain ⟨ns, hi⟩ := hi
  obtain ⟨p, dx, vs, rfl, hH⟩ := ins_at ce ho pm hi
  obtain ⟨mA, J, _⟩ := ins_get I.hok hH
  obtain ⟨od, J, _⟩ := J.look
  cases rx
  exact ⟨p, _, od, rfl, rfl, J⟩
end
/-! ### what must be found at a class -/
/-- its def of this name -/
structure DefAt (K : PySem.W.Frag) (C : Addr) (name : Str) (fa : Addr) : Prop where
  find : PySem.W.findIn K (.ref C) name = some (some (.ref fa))
  fn : PySem.W.isFn K (.ref fa) = true
/-- .. of an operator, what stands at the other side an instance or an int -/
structure BinAt (K : PySem.W.Frag) (C : Addr) (nm : String) (fa : Addr) : Prop where
  d : DefAt K C (PySem.dunder nm) fa
  self : PySem.W.selfFirst K C = true
  rc : ∃ rc, PySem.W.findIn K (.ref C) (dunderR nm) = some rc ∧ (rc = none ∨ ∃ g : Addr, rc = some (.ref g))
  int : ∃ fo ro, PySem.W.findIn K (.type "int") (PySem.dunder nm) = some fo ∧ PySem.W.findIn K (.type "int") (dunderR nm) = some ro
  sub : PySem.W.subIn K (.type "int") (.ref C) = some false
/-- .. of an operator with an int at the left -/
structure RbinAt (K : PySem.W.Frag) (C : Addr) (nm : String) (fa : Addr) : Prop where
  d : DefAt K C (dunderR nm) fa
  self : PySem.W.selfFirst K C = true
  lf : ∃ g : Addr, PySem.W.findIn K (.ref C) (PySem.dunder nm) = some (some (.ref g))
  sub : PySem.W.subIn K (.ref C) (.type "int") = some false
def unNm : Un → Str
  | .neg => "__neg__"
  | .abs => "__abs__"
  | .bool => "__bool__"
  | .str => "__str__"
  | .len => "__len__"
section
variable {X : Cx} {N : Nm} {T : Tb} {cl : CallT} {W : WX}
theorem unaOk_bool {o : O} (h : unaOk .bool o = true) : ∃ b, o = .val (.bl b) := by
  cases o with
  | val d => cases d <;> first | exact ⟨_, rfl⟩ | cases h
  | _ => cases h
theorem unaOk_str {o : O} (h : unaOk .str o = true) : ∃ b, o = .val (.str b) := by
  cases o with
  | val d => cases d <;> first | exact ⟨_, rfl⟩ | cases h
  | _ => cases h
theorem unaOk_len {o : O} (h : unaOk .len o = true) : ∃ i : Int, o = .val (.int i) ∧ 0 ≤ i ∧ i ≤ (lim : Int) := by
  cases o with
  | val d =>
    cases d with
    | int i => exact ⟨i, rfl, of_decide_eq_true h⟩
    | _ => cases h
  | _ => cases h
/-- .. and what the built-in asks of the result -/
theorem out_una {u : Un} {c f : Nat} {r : Rv} {σ : L2.St} {G : Hp} {L : Cl} {H : Hp} {τ : Sto} {Q : VK} (hf : T.una c u = some f) (out : Out X.K N W (RvR X.K N) σ G L H Q (doUna T cl u c r τ)) :
    Out X.K N W (RvR X.K N) σ G L H (fun v H' => Q v H' ∧ (u = .bool → ∃ b, v = .bl b) ∧ (u = .str → ∃ b, v = .str b) ∧ (u = .len → ∃ i : Int, v = .int i ∧ 0 ≤ i ∧ i ≤ (lim : Int))) (doCall cl f [r] τ) := by
  unfold doUna at out
  simp only [hf] at out
  cases e : doCall cl f [r] τ with
  | bad => simp only [e] at out; exact out
  | ex x τ1 => simp only [e] at out; exact out
  | ok a τ1 =>
    simp only [e] at out
    cases a with
    | slot i => simp only at out; exact out.elim
    | own o =>
      simp only at out
      cases q : unaOk u o with
      | false => simp only [q, Bool.false_eq_true, if_false] at out; exact out.elim
      | true =>
        simp only [q, if_true] at out
        intro b G' Lv L' H' hr st ce sp
        refine ⟨out b G' Lv L' H' hr st ce sp, fun hu => ?_, fun hu => ?_, fun hu => ?_⟩
        · subst hu
          obtain ⟨k, rfl⟩ := unaOk_bool q
          exact ⟨_, hr.2⟩
        · subst hu
          obtain ⟨k, rfl⟩ := unaOk_str q
          exact ⟨_, hr.2⟩
        · subst hu
          obtain ⟨k, rfl, h⟩ := unaOk_len q
          exact ⟨_, hr.2, h⟩

theorem opsR1 {G : Hp} {σ : L2.St} {r : Rv} {x : V} (h : OpR1 X.K N G σ r x []) : OpsR X.K N G σ [r] [x] [] := ⟨rfl, _, _, rfl, h, rfl, rfl⟩
theorem opsR2 {G : Hp} {σ : L2.St} {r q : Rv} {x y : V} (h : OpR1 X.K N G σ r x []) (g : OpR1 X.K N G σ q y []) : OpsR X.K N G σ [r, q] [x, y] [] := ⟨rfl, _, _, rfl, h, opsR1 g⟩
theorem clsOf_int {o : O} {x : V} {La : Cl} {G : Hp} (h : isInt o = true) (ho : Own X.K N G o x La) : ∃ i, x = .int i := by
  cases o with
  | val d => cases d <;> first | exact ⟨_, ho.2⟩ | cases h
  | _ => cases h
/-- an int's own method declines an instance -/
theorem int_declines {A : Around} {E : Value → Shared → Prop} {s : Shared} {prog : Program} {w : World} {name : String} {nm : Str} {id : String} {f : Int → Int → Sem Fin} {i : Int} {t : Tok} {p : Addr} {ox : Obj} {Q : Value → Shared → Prop} (S : Slot "int" nm id)
    (he : entryFor table id = some (Builtin.Int.intBinary name f)) (ha : argsOk id ⟨[.int i t, .ref p], []⟩) (hp : s.heap.get? p = some ox) (hd : ox.data = .plain) (h : Q .notImplemented s) :
    wpAny (model prog w) A (call (.builtin id) [.int i t, .ref p]) Q E s := by
  refine wpAny_call_entry S (typeIs_int s i t) he ?_ ha
  unfold Builtin.Int.intBinary
  refine wpAny_bind (m := slotArgs name 1 _) (wpAny_pure ?_)
  refine wpAny_bind (m := Builtin.Int.intOfSelf _) (wpAny_pure ?_)
  refine wpAny_bind (m := asInt? _) (wpAny_bind (wpAny_load hp ?_))
  rw [hd]
  refine wpAny_pure ?_
  exact wpAny_bind (wpAny_rule (wpAny_pure ⟨_, rfl, h⟩))

/-- an int operator whose built-in method is a plain one -/
def IntOp (nm : String) : Prop := fillsNumberSlot (.type "int") nm = pure true ∧ ∃ name id f, Slot "int" (PySem.dunder nm) id ∧ entryFor table id = some (Builtin.Int.intBinary name f) ∧ ∀ a b, argsOk id ⟨[a, b], []⟩
theorem intOp_add : IntOp "add" := ⟨F.fills_int_add, _, _, _, F.slot_int_add, F.entry_int_add, F.args_int_add_2⟩
theorem intOp_sub : IntOp "sub" := ⟨F.fills_int_sub, _, _, _, F.slot_int_sub, F.entry_int_sub, F.args_int_sub_2⟩
theorem intOp_mul : IntOp "mul" := ⟨F.fills_int_mul, _, _, _, F.slot_int_mul, F.entry_int_mul, F.args_int_mul_2⟩
/-- int op instance -/
theorem rbin_run {prog : Program} {w : World} {A : Around} {E : Value → Shared → Prop} {s : Shared} {K : PySem.W.Frag} {x C f : Addr} {ox : Obj} {od : Option Obj} {op : Operator} {i : Int} {t : Tok} {Q : Value → Shared → Prop} (X : K.In s.heap) (I : PySem.W.InstAt s.heap x ox C od) (hd : ox.data = .plain) (io : IntOp op.info.2)
    (B : RbinAt K C op.info.2 f) (h : wpAny (model prog w) A (call (.ref f) [.ref x, .int i t]) (PySem.W.CmpBack Q) E s) : wpAny (model prog w) A (binaryOp op (.int i t) (.ref x)) Q E s := by
  obtain ⟨cd, rest, hcd, hm⟩ := PySem.W.ksp_first B.self
  obtain ⟨g, hg⟩ := B.lf
  rcases hi : op.info with ⟨sym, nm'⟩
  obtain ⟨⟨hfd, hfn⟩, _, _, hsub⟩ := B
  obtain ⟨hfill, name, id, fI, S, he, ha⟩ := io
  rw [hi] at hfd hg hfill S
  dsimp only at hfd hg hfill S
  have one := PySem.W.ksp_try X I hfd hfn h
  obtain ⟨hh, gg, d, tt, os⟩ := s
  have L1 : PySem.W.Looks (model prog w) hh (typeOf (.ref x)) (.ref C) := I.type
  have L3 : PySem.W.Looks (model prog w) hh (fillsNumberSlot (.ref C) nm') true := PySem.W.fills_K X hcd hm hg
  have L5 : PySem.W.Looks (model prog w) hh (isSubtype (.ref C) (.type "int")) false := PySem.W.looks_subIn X hsub
  have hne : (Value.type "int" == Value.ref C) = false := Bool.eq_false_iff.mpr fun q => by cases beq_iff_eq.mp q
  simp only [binaryOp, hi]
  refine wpAny_holding (wpAny_bind ?_)
  unfold binaryOp1
  refine wpAny_bind (wpAny_typeOf (typeIs_int _ i t) (wpAny_bind (L1.at (wpAny_bind (wpAny_of_eq hfill ?_)))))
  simp only [hne, Bool.false_eq_true, if_false]
  refine wpAny_bind (L3.at ?_)
  simp only [Bool.and_self, if_true]
  refine wpAny_bind (L5.at ?_)
  have hpy : numberSlotInPython (.type "int") nm' = pure false := rfl
  simp only [Bool.false_eq_true, if_false, pure_bind, Bool.not_false, Bool.and_self, if_true, hpy]
  refine wpAny_bind (wpAny_tryMethod_declines (typeIs_int _ i t) S (int_declines S he (ha _ _) I.at_ hd ⟨rfl, ?_⟩))
  refine wpAny_bind (wpAny_mono one (fun r s' hr' => ?_) fun _ _ e => e)
  obtain ⟨v, rfl, hq⟩ := hr'
  exact wpAny_bind (wpAny_rule (wpAny_pure (wpAny_pure hq)))

/-! ### == and != -/
structure EqOf (K : PySem.W.Frag) (C : Addr) (fa : Addr) : Prop where
  d : DefAt K C "__eq__" fa
  sub : ∀ t ∈ ["NoneType", "bool", "int", "str"], PySem.W.subIn K (.type t) (.ref C) = some false
  subi : PySem.W.subIn K (.ref C) (.type "int") = some false
  ne : PySem.W.findIn K (.ref C) "__ne__" = some (some (.builtin "object.__ne__"))
  obj : PySem.W.mroIn K C (.type "object") = some true
section
variable {prog : Program} {w : World} {A : Around} {E : Value → Shared → Prop} {s : Shared} {K : PySem.W.Frag} {x C f : Addr} {ox : Obj} {od : Option Obj} {b : Value}
open Builtin in
theorem ne_run (hu : A.in1.units < cLine) {Q : Value → Shared → Prop} (X : K.In s.heap) (I : PySem.W.InstAt s.heap x ox C od) (e : EqOf K C f) (h : wpAny (model prog w) A.in1 (call (.ref f) [.ref x, b]) (fun v s' => ∃ k, v = .bool k ∧ Q (.bool (!k)) s') E s) :
    wpAny (model prog w) A (call (.builtin "object.__ne__") [.ref x, b]) Q E s := by
  refine wpAny_call (codeAny_call_builtin F.cmp_object.ne.plain F.cmpEntry_ne (PySem.W.check_slot (i := "object.__ne__") (owner := "object") (n := "__ne__") F.cmpKind_ne F.cmpSplit_ne (I.type.andThen (PySem.W.looks_mroIn X e.obj)) (F.cmpArgs_ne _ _) ?_))
  unfold Builtin.«object.__ne__»
  refine wpAny_bind (m := slotArgs "__ne__" 1 _) (wpAny_pure ?_)
  refine wpAny_bind (m := cRoomFor _ _) (wpAny_cRoomFor hu ?_)
  refine wpAny_bind (m := callSpecialIfBound? (.ref x) (Str.ofString "__eq__") [b]) (PySem.W.ifBound_K X I e.d.find e.d.fn (wpAny_mono h (fun v s' hq => ?_) fun _ _ y => y))
  obtain ⟨k, rfl, q⟩ := hq
  refine wpAny_bind (m := truthy (.bool k)) (wpAny_truthy_bool ?_)
  exact wpAny_pure q
theorem try_eq {Q : Value → Shared → Prop} (X : K.In s.heap) (I : PySem.W.InstAt s.heap x ox C od) (e : EqOf K C f) (h : wpAny (model prog w) A (call (.ref f) [.ref x, b]) (fun v s' => ∃ k, v = .bool k ∧ Q (.bool k) s') E s) :
    wpAny (model prog w) A (tryCompare (.ref x) "__eq__" b) (fun r s' => ∃ v, r = some v ∧ Q v s') E s := by
  unfold tryCompare
  refine wpAny_bind (PySem.W.ifBound_K X I e.d.find e.d.fn (wpAny_mono h (fun v s' hv => ?_) fun _ _ y => y))
  obtain ⟨k, rfl, q⟩ := hv
  exact wpAny_pure ⟨_, rfl, q⟩
theorem try_ne (hu : A.in1.units < cLine) {Q : Value → Shared → Prop} (X : K.In s.heap) (I : PySem.W.InstAt s.heap x ox C od) (e : EqOf K C f) (h : wpAny (model prog w) A.in1 (call (.ref f) [.ref x, b]) (fun v s' => ∃ k, v = .bool k ∧ Q (.bool (!k)) s') E s) :
    wpAny (model prog w) A (tryCompare (.ref x) "__ne__" b) (fun r s' => ∃ v, r = some v ∧ Q v s') E s := by
  unfold tryCompare
  refine wpAny_bind (m := callSpecialIfBound? (.ref x) (Str.ofString "__ne__") [b]) ?_
  refine wpAny_mono (Q := fun r s' => ∃ k : Bool, r = some (Value.bool k) ∧ Q (.bool k) s') ?_ (fun r s' hr => by obtain ⟨k, rfl, q⟩ := hr; exact wpAny_pure ⟨_, rfl, q⟩) fun _ _ y => y
  have fin := ne_run (Q := fun v s' => ∃ k : Bool, v = .bool k ∧ Q (.bool k) s') hu X I e (wpAny_mono h (fun v s' ⟨k, hv, q⟩ => ⟨k, hv, _, rfl, q⟩) fun _ _ y => y)
  have fin2 : wpAny (model prog w) A (call (.builtin "object.__ne__") ([.ref x] ++ [b]) >>= fun v => pure (some v)) (fun r s' => ∃ k : Bool, r = some (Value.bool k) ∧ Q (.bool k) s') E s :=
    wpAny_bind (wpAny_mono fin (fun v s' ⟨k, hv, q⟩ => wpAny_pure ⟨k, by rw [hv], q⟩) fun _ _ y => y)
  simp only [callSpecialIfBound?, bindSpecialIfBound?]
  refine wpAny_holding (wpAny_bind (wpAny_bind (wpAny_bind (I.type.here ((PySem.W.looks_findIn X e.ne).here ?_)))))
  refine wpAny_bind (wpAny_askSetting (wpAny_ite ?_))
  have L := PySem.W.Looks.of_pure (M := model prog w) (h := s.heap) (F.cmp_object.ne.bind (.ref x))
  split
  · exact wpAny_bind (L.here (wpAny_pure (by exact fin2)))
  · exact wpAny_tryCatch (wpAny_bind (L.here (wpAny_pure (by exact fin2))))
/-- the instance stands at the left -/
theorem rc_left {op : CmpOp} {Q : Value → Shared → Prop} {tb : Value} (hu : A.units < cLine) (X : K.In s.heap) (I : PySem.W.InstAt s.heap x ox C od) (hb : PySem.W.Looks (model prog w) s.heap (typeOf b) tb) (hn : tb = .ref C ∨ PySem.W.subIn K tb (.ref C) = some false)
    (one : wpAny (model prog w) A (tryCompare (.ref x) (cmpInfo op).2.1 b) (fun r s' => ∃ v, r = some v ∧ Q v s') E s) : wpAny (model prog w) A (richCompare op (.ref x) b) Q E s := by
  unfold richCompare
  simp only [oneThing_ref]
  refine wpAny_holding (wpAny_bind (wpAny_cRoomFor hu (wpAny_bind (I.type.here (wpAny_bind (hb.here ?_))))))
  by_cases q : tb = .ref C
  · subst q
    rw [show (Value.ref C != Value.ref C) = false by simp]
    refine wpAny_bind (wpAny_pure ?_)
    simp only [Bool.false_eq_true, if_false]
    refine wpAny_bind (wpAny_mono one (fun r s' ⟨v, hv, z⟩ => ?_) fun _ _ y => y)
    subst hv
    exact wpAny_pure z
  · rw [show (Value.ref C != tb) = true by simpa using fun e => q e.symm]
    have hs := hn.resolve_left q
    simp only [if_true]
    refine wpAny_bind ((PySem.W.looks_subIn X hs).here ?_)
    simp only [Bool.false_eq_true, if_false]
    refine wpAny_bind (wpAny_mono one (fun r s' ⟨v, hv, z⟩ => ?_) fun _ _ y => y)
    subst hv
    exact wpAny_pure z
/-- an int at the left -/
theorem rc_right {op : CmpOp} {Q : Value → Shared → Prop} {i : Int} {t : Tok} {name id : String} {g : Int → Int → Sem Fin} (hu : A.units < cLine) (X : K.In s.heap) (I : PySem.W.InstAt s.heap x ox C od) (hd : ox.data = .plain) (hs : PySem.W.subIn K (.ref C) (.type "int") = some false)
    (S : Slot "int" (cmpInfo op).2.1 id) (he : entryFor table id = some (Builtin.Int.intBinary name g)) (ha : argsOk id ⟨[.int i t, .ref x], []⟩)
    (one : wpAny (model prog w) A (tryCompare (.ref x) (cmpInfo op).2.2 (.int i t)) (fun r s' => ∃ v, r = some v ∧ Q v s') E s) : wpAny (model prog w) A (richCompare op (.int i t) (.ref x)) Q E s := by
  unfold richCompare
  have ot : oneThing? op (.int i t) (.ref x) = none := by cases op <;> rfl
  simp only [ot]
  refine wpAny_holding (wpAny_bind (wpAny_cRoomFor hu (wpAny_bind (wpAny_typeOf (typeIs_int _ i t) (wpAny_bind (I.type.here ?_))))))
  rw [show (Value.type "int" != Value.ref C) = true by simp]
  simp only [if_true]
  refine wpAny_bind ((PySem.W.looks_subIn X hs).here ?_)
  simp only [Bool.false_eq_true, if_false]
  refine wpAny_bind (wpAny_tryCompare_declines (typeIs_int _ i t) S (int_declines S he ha I.at_ hd ⟨rfl, ?_⟩))
  simp only [Bool.not_false, if_true]
  refine wpAny_bind (wpAny_mono one (fun r s' ⟨v, hv, z⟩ => ?_) fun _ _ y => y)
  subst hv
  exact wpAny_pure z
end
end
end Tw
set_option maxHeartbeats 2000000
/-! The tree walk, part 17c: operators, built-ins and == of own classes. -/
namespace Tw
open PySem PySem.Spec PyProof.Rows L2 Evl
section
variable {prog : Program} {w : World} {A : Around} {E : Value → Shared → Prop} {s : Shared} {K : PySem.W.Frag} {x C f : Addr} {ox : Obj} {od : Option Obj} {b : Value}
open Builtin in
theorem bool_new_own {Q : Fin → Shared → Prop} {h₀ : Heap} {L : Addr} {m : Str → Option Value} (Fx : Fr h₀ L s.heap m) (X₀ : K.In h₀) (I : PySem.W.InstAt s.heap x ox C od) (hs : PySem.W.findIn K (.ref C) "__bool__" = some (some (.ref f))) (hf : PySem.W.isFn K (.ref f) = true)
    (h : wpAny (model prog w) A (call (.ref f) [.ref x]) (PySem.W.BoolBack fun k => Q (.done (.ret (.bool k)))) E s) : wpAny (model prog w) A (Builtin.«bool.__new__» ⟨[.type "bool", .ref x], []⟩) Q E s := by
  unfold Builtin.«bool.__new__»
  refine wpAny_bind (m := isType (.type "bool")) (wpAny_pure ?_)
  refine wpAny_bind (wpAny_of_eq F.conv_sub_bool ?_)
  refine wpAny_bind (m := someArgs "bool" 0 1 _) (wpAny_pure ?_)
  exact wpAny_bind (m := truthy (.ref x)) (PySem.W.truthy_K Fx X₀ I hs hf (wpAny_mono h (fun v s' hv => by cases v <;> first | exact hv.elim | exact wpAny_pure hv) fun _ _ y => y))
theorem bool_own {Q : Value → Shared → Prop} {h₀ : Heap} {L : Addr} {m : Str → Option Value} (Fx : Fr h₀ L s.heap m) (X₀ : K.In h₀) (I : PySem.W.InstAt s.heap x ox C od) (hs : PySem.W.findIn K (.ref C) "__bool__" = some (some (.ref f))) (hf : PySem.W.isFn K (.ref f) = true)
    (h : wpAny (model prog w) A.in1.in1 (call (.ref f) [.ref x]) (PySem.W.BoolBack fun k => Q (.bool k)) E s) : wpAny (model prog w) A (call (.type "bool") [.ref x]) Q E s := by
  refine callType_codes (T := "bool") (Bi := Builtin.«object.__init__») (Q₁ := fun r s₁ => ∃ k, r = .bool k ∧ Q r s₁) F.called_bool (F.typeCall_bool_1 _) PySem.F.entry_object_init ?_ ?_
  · refine codeAny_of_tree ?_
    show wpAny _ A.in1.in1 (do checkBuiltinCall "bool.__new__" ⟨[.type "bool", .ref x], []⟩; again (.builtin "bool.__new__" ⟨[.type "bool", .ref x], []⟩)) _ _ s
    refine wpAny_bind (wpAny_of_eq (F.newCall_bool_1 _) (wpAny_pure ⟨plainId_quiet (by decide +kernel) _, codeAny_builtin F.entry_bool_new ?_⟩))
    rw [Around.under_plainId (by decide +kernel) _]
    refine bool_new_own Fx X₀ I hs hf (wpAny_mono h (fun v s' hv => ?_) fun _ _ y => y)
    cases v <;> first | exact hv.elim | exact ⟨_, rfl, hv⟩
  · rintro obj s₁ ⟨k, rfl, hq⟩
    exact ⟨rfl, PySem.F.args_object_init_2 _ _, object_init_meets F.called_bool.init.lookup F.called_bool.made (by decide) prog w A.in1 _ s₁ ⟨rfl, rfl, hq⟩⟩
theorem abs_own {Q : Value → Shared → Prop} (X : K.In s.heap) (I : PySem.W.InstAt s.heap x ox C od) (hs : PySem.W.findIn K (.ref C) "__abs__" = some (some (.ref f))) (hf : PySem.W.isFn K (.ref f) = true)
    (h : wpAny (model prog w) A.in1 (call (.ref f) [.ref x]) Q E s) : wpAny (model prog w) A (call (.builtin "abs") [.ref x]) Q E s := by
  refine Calls.call_function_entry PyProof.Rows.kind_abs PyProof.Rows.plain_abs PyProof.Rows.entry_abs (PyProof.Rows.args_abs _) ?_
  unfold Builtin.«abs»
  refine wpAny_bind (m := oneArg "abs" _) (wpAny_pure ?_)
  refine wpAny_bind (m := callSpecial? (.ref x) (Str.ofString "__abs__")) (PySem.W.special_fn X I hs (beq_iff_eq.mp hf) (wpAny_mono h (fun r s' hr => ?_) fun _ _ y => y))
  exact wpAny_pure ⟨_, rfl, hr⟩
end
section
variable {X : Cx} {N : Nm} {T : Tb} {cl : CallT} {W : WX}
structure ClsFacts (X : Cx) (N : Nm) (T : Tb) (cl : CallT) : Prop where
  una : ∀ c u f, T.una c u = some f → ∃ fa, FnRun X N cl f fa ∧ DefAt X.K (N.cad c) (unNm u) fa
  bin : ∀ c op f, T.dun c op = some f → ∃ fa, FnRun X N cl f fa ∧ BinAt X.K (N.cad c) (pyOp op).info.2 fa
  rbin : ∀ c op f, T.rdn c op = some f → IntOp (pyOp op).info.2 ∧ ∃ fa, FnRun X N cl f fa ∧ RbinAt X.K (N.cad c) (pyOp op).info.2 fa
  eq : ∀ c f, T.deq c = some f → ∃ fa, FnRun X N cl f fa ∧ EqOf X.K (N.cad c) fa
theorem una_ok (CF : ClsFacts X N T cl) (hu : X.A.units + 64 < cLine) (tk : Takes X W) : UnaOk X N T cl W := by
  intro op c pins s σ G L H τ Q r x v o hc I rx st ce h1 e out
  cases hf : T.una c op with
  | none => unfold doUna at out; simp only [hf] at out; exact out.elim
  | some f =>
    have o2 := out_una hf out
    obtain ⟨fa, F, D⟩ := CF.una c op f hf
    obtain ⟨p, dx, od, rfl, rfl, J⟩ := inst_of hc I rx st ce h1 e
    have rv : Vals [V.ref p] [Value.ref p] := .cons rfl .nil
    have go : ∀ {j : Nat} {A : Around}, Lo X j A → j ≤ 16 → wpAny (model X.prog X.w) A (call (.ref fa) [.ref p]) (EP X pins σ _) X.xe s := fun lo hj => F.run lo hj tk I rv (opsR1 h1) st ce o2
    obtain ⟨m, hF⟩ := I.fr
    cases op with
    | neg => exact PySem.W.ksp_neg hF I.ok.mod.kin J D.find D.fn (wpAny_mono (go Lo.refl (by decide)) (fun v s' ⟨x, H', I', r, q⟩ => ⟨x, H', I', r, q.1⟩) fun _ _ y => y)
    | abs => exact abs_own I.kIn J D.find D.fn (wpAny_mono (go Lo.refl.in1 (by decide)) (fun v s' ⟨x, H', I', r, q⟩ => ⟨x, H', I', r, q.1⟩) fun _ _ y => y)
    | bool =>
      refine bool_own hF I.ok.mod.kin J D.find D.fn (wpAny_mono (go Lo.refl.in1.in1 (by decide)) (fun v s' ⟨x, H', I', r, q⟩ => ?_) fun _ _ y => y)
      obtain ⟨k, rfl⟩ := q.2.1 rfl
      cases r
      exact ⟨.bl k, H', I', rfl, q.1⟩
    | str =>
      refine PySem.W.kso_call (by show X.A.units + 1 + 1 < _; omega) I.kIn J D.find D.fn (wpAny_mono (go Lo.refl.in1.in1 (by decide)) (fun v s' ⟨x, H', I', r, q⟩ => ?_) fun _ _ y => y)
      obtain ⟨k, rfl⟩ := q.2.2.1 rfl
      obtain ⟨t, rfl⟩ := r
      exact ⟨.str k, H', I', ⟨t, rfl⟩, q.1⟩
    | len =>
      refine PySem.W.len_K hF I.ok.mod.kin J D.find D.fn (wpAny_mono (go Lo.refl.in1 (by decide)) (fun v s' ⟨x, H', I', r, q⟩ => ?_) fun _ _ y => y)
      obtain ⟨k, rfl, h0, h9⟩ := q.2.2.2 rfl
      obtain ⟨t, rfl⟩ := r
      have hl : (lim : Int) < 2 ^ 63 := by decide
      exact ⟨⟨h0, by omega⟩, .int k, H', I'.tok _, ⟨_, rfl⟩, q.1⟩
end
end Tw
set_option maxHeartbeats 2000000
/-! The tree walk, part 17d: operators and == of own classes. -/
namespace Tw
open PySem PySem.Spec PyProof.Rows L2 Evl
section
variable {X : Cx} {N : Nm} {T : Tb} {cl : CallT} {W : WX}
theorem bin_ok (CF : ClsFacts X N T cl) (tk : Takes X W) : BinOk X N T cl W := by
  intro op pins s σ G L H τ Q ra rb x y v u oa ob hcls I rx ry st ce h1 h2 e1 e2 out
  simp only [doBin, e1, e2] at out
  cases q1 : clsOf oa with
  | some c =>
    simp only [q1] at out
    cases q2 : T.dun c op with
    | none => simp only [q2] at out; exact out.elim
    | some f =>
      cases q3 : okR c ob with
      | false => simp only [q2, q3] at out; exact out.elim
      | true =>
        simp only [q2, q3] at out
        obtain ⟨fa, F, B⟩ := CF.bin c op f q2
        obtain ⟨p, dx, od, rfl, rfl, J⟩ := inst_of q1 I rx st ce h1 e1
        obtain ⟨m, hF⟩ := I.fr
        have rv : Vals [V.ref p, y] [Value.ref p, u] := .cons rfl (.cons ry .nil)
        have go := wpAny_mono (F.run Lo.refl (by decide) tk I rv (opsR2 h1 h2) st ce out) (fun v s' h => ep_back h) fun _ _ y => y
        cases q4 : clsOf ob with
        | some d =>
          have ed : d = c := by
            cases ob with
            | val o => cases o <;> first | (cases q4; done) | (cases q4; simpa [okR, clsOf] using q3)
            | ins _ _ _ => cases q4; simpa [okR, clsOf] using q3
            | _ => cases q4
          subst ed
          obtain ⟨p', dx', od', rfl, rfl, J'⟩ := inst_of q4 I ry st ce h2 e2
          exact PySem.W.binop_K hF I.ok.mod.kin J J'.type B.self B.d.find B.d.fn go
        | none =>
          obtain ⟨La, Ra, ho, pm⟩ := res_own st h2 e2
          have hi : isInt ob = true := by
            unfold okR at q3
            split at q3
            · rfl
            · rw [q4] at q3; simp at q3
          obtain ⟨i, rfl⟩ := clsOf_int hi ho
          obtain ⟨t, rfl⟩ := ry
          obtain ⟨rc, hr1, hr2⟩ := B.rc
          obtain ⟨fo, ro, hi1, hi2⟩ := B.int
          exact PySem.W.ksp_binT (T := "int") hF I.ok.mod.kin J rfl B.self B.d.find B.d.fn hr1 hr2 hi1 hi2 B.sub go
  | none =>
    simp only [q1] at out
    cases q2 : clsOf ob with
    | none => rw [q1, q2] at hcls; rcases hcls with h | h <;> exact absurd h Bool.false_ne_true
    | some d =>
      simp only [q2] at out
      cases q3 : T.rdn d op with
      | none => simp only [q3] at out; exact out.elim
      | some f =>
        cases q5 : isInt oa with
        | false => simp only [q3, q5] at out; exact out.elim
        | true =>
          simp only [q3, q5] at out
          obtain ⟨io, fa, F, B⟩ := CF.rbin d op f q3
          obtain ⟨p, dx, od, rfl, rfl, J⟩ := inst_of q2 I ry st ce h2 e2
          obtain ⟨La, Ra, ho, pm⟩ := res_own st h1 e1
          obtain ⟨i, rfl⟩ := clsOf_int q5 ho
          obtain ⟨t, rfl⟩ := rx
          have rv : Vals [V.ref p, .int i] [Value.ref p, .int i t] := .cons rfl (.cons ⟨t, rfl⟩ .nil)
          have go := wpAny_mono (F.run Lo.refl (by decide) tk I rv (opsR2 h2 h1) st ce out) (fun v s' h => ep_back h) fun _ _ y => y
          exact rbin_run I.kIn J rfl io B go
def negB (op : Cm) (k : Bool) : Bool := match op with
  | .ne => !k
  | _ => k
theorem neg_eq (op : Cm) (k : Bool) (τ : Sto) : neg? op k τ = .ok (.own (.val (.bl (negB op k)))) τ := by cases op <;> rfl
theorem out_isB {m : M Rv} {op : Cm} {σ : L2.St} {G : Hp} {L : Cl} {H : Hp} {τ : Sto} {Q : VK} (out : Out X.K N W (RvR X.K N) σ G L H Q (bnd (isB m) (neg? op) τ)) :
    Out X.K N W (RvR X.K N) σ G L H (fun v H' => ∃ k, v = .bl k ∧ Q (.bl (negB op k)) H') (m τ) := by
  unfold bnd isB bnd at out
  cases e : m τ with
  | bad => simp only [e] at out; exact out
  | ex x τ1 => simp only [e] at out; exact out
  | ok a τ1 =>
    simp only [e] at out
    intro b G1 Lv L1 H1 hr st1 ce1 sp
    split at out
    · rename_i k τ2 e5
      split at e5
      · rename_i c e1
        cases e5
        rw [neg_eq] at out
        have fin := out (.bl (negB op k)) G1 [] L1 H1 ⟨rfl, rfl⟩ st1 ce1.right (sp.sub fun p hp => List.mem_append_right _ hp)
        refine ⟨k, ?_, fin⟩
        cases a with
        | own o' =>
          cases e1
          exact hr.2
        | slot i =>
          obtain ⟨rfl, hv⟩ := hr
          obtain ⟨_, _, ho, _⟩ := res_own (x := b) st1 ⟨rfl, hv⟩ e1
          exact ho.2
      · cases e5
    · rename_i x τ2 e5
      split at e5 <;> cases e5
    · exact out.elim
theorem ep_bool {pins : List (Addr × Obj)} {σ : L2.St} {Q : VK} {v : Value} {s' : Shared} (h : EP X pins σ (fun v H' => ∃ k, v = .bl k ∧ Q (.bl k) H') v s') : ∃ k, v = .bool k ∧ EP X pins σ Q (.bool k) s' := by
  obtain ⟨x, H', I, r, k, rfl, q⟩ := h
  cases r
  exact ⟨k, rfl, .bl k, H', I, rfl, q⟩
theorem ep_boolN {pins : List (Addr × Obj)} {σ : L2.St} {Q : VK} {v : Value} {s' : Shared} (h : EP X pins σ (fun v H' => ∃ k, v = .bl k ∧ Q (.bl (!k)) H') v s') : ∃ k, v = .bool k ∧ EP X pins σ Q (.bool (!k)) s' := by
  obtain ⟨x, H', I, r, k, rfl, q⟩ := h
  cases r
  exact ⟨k, rfl, .bl (!k), H', I, rfl, q⟩
/-- the types of what may stand beside an instance -/
theorem okE_type {c : Nat} {K : PySem.W.Frag} {fa : Addr} {pins : List (Addr × Obj)} {s : Shared} {σ : L2.St} {G : Hp} {L : Cl} {H : Hp} {τ : Sto} {r : Rv} {y : V} {u : Value} {o : O} (hE : EqOf X.K (N.cad c) fa) (h : okE c o = true) (I : Inv X pins σ H s) (ry : RelV y u) (st : StoR X.K N G τ σ L) (ce : Cells G L H) (h2 : OpR1 X.K N G σ r y []) (e : res τ r = some o) :
    ∃ tb, PySem.W.Looks (model X.prog X.w) s.heap (typeOf u) tb ∧ (tb = .ref (N.cad c) ∨ PySem.W.subIn X.K tb (.ref (N.cad c)) = some false) := by
  cases q4 : clsOf o with
  | some d =>
    have ed : d = c := by
      cases o with
      | val o => cases o <;> first | (cases q4; done) | (cases q4; simpa [okE, clsOf] using h)
      | ins _ _ _ => cases q4; simpa [okE, clsOf] using h
      | _ => cases q4
    subst ed
    obtain ⟨p', dx', od', rfl, rfl, J'⟩ := inst_of q4 I ry st ce h2 e
    exact ⟨_, J'.type, .inl rfl⟩
  | none =>
    obtain ⟨La, Ra, ho, pm⟩ := res_own st h2 e
    unfold okE at h
    split at h
    · have : y = .non := ho.2
      subst this; cases ry
      exact ⟨_, PySem.W.Looks.of_pure rfl, .inr (hE.sub "NoneType" (by decide))⟩
    · obtain ⟨_, ho⟩ := ho
      simp only [Rep] at ho
      subst ho; cases ry
      exact ⟨_, PySem.W.Looks.of_pure rfl, .inr (hE.sub "bool" (by decide))⟩
    · obtain ⟨_, ho⟩ := ho
      simp only [Rep] at ho
      subst ho; obtain ⟨t, rfl⟩ := ry
      exact ⟨_, PySem.W.Looks.of_pure rfl, .inr (hE.sub "int" (by decide))⟩
    · obtain ⟨_, ho⟩ := ho
      simp only [Rep] at ho
      subst ho; obtain ⟨t, rfl⟩ := ry
      exact ⟨_, PySem.W.Looks.of_pure rfl, .inr (hE.sub "str" (by decide))⟩
    · rw [q4] at h; simp at h
theorem deq_ok (CF : ClsFacts X N T cl) (hu : X.A.units + 64 < cLine) (tk : Takes X W) : DeqOk X N T cl W := by
  intro op pins s σ G L H τ Q ra rb x y v u oa ob hcls I rx ry st ce h1 h2 e1 e2 out
  simp only [doCmp, e1, e2] at out
  have hop : ∀ {b : Bool}, (isEq op && b) = true → (op = .eq ∨ op = .ne) ∧ b = true := by
    intro b h
    rw [Bool.and_eq_true] at h
    refine ⟨?_, h.2⟩
    have := h.1
    cases op <;> first | exact .inl rfl | exact .inr rfl | cases this
  cases q1 : clsOf oa with
  | some c =>
    simp only [q1] at out
    cases q2 : T.deq c with
    | none => simp only [q2] at out; exact out.elim
    | some f =>
      cases q3 : (isEq op && okE c ob) with
      | false => simp only [q2, q3] at out; exact out.elim
      | true =>
        simp only [q2, q3] at out
        obtain ⟨ho, hk⟩ := hop q3
        obtain ⟨fa, F, B⟩ := CF.eq c f q2
        obtain ⟨p, dx, od, rfl, rfl, J⟩ := inst_of q1 I rx st ce h1 e1
        obtain ⟨tb, hb, hn⟩ := okE_type (K := X.K) B hk I ry st ce h2 e2
        have rv : Vals [V.ref p, y] [Value.ref p, u] := .cons rfl (.cons ry .nil)
        have o2 := out_isB out
        have go : ∀ {j : Nat} {A : Around}, Lo X j A → j ≤ 16 → wpAny (model X.prog X.w) A (call (.ref fa) [.ref p, u]) (EP X pins σ _) X.xe s := fun lo hj => F.run lo hj tk I rv (opsR2 h1 h2) st ce o2
        rcases ho with rfl | rfl
        · exact rc_left (op := .Eq) (by omega) I.kIn J hb hn (try_eq I.kIn J B (wpAny_mono (go Lo.refl (by decide)) (fun v s' h => ep_bool h) fun _ _ y => y))
        · exact rc_left (op := .NotEq) (by omega) I.kIn J hb hn (try_ne (by show X.A.units + 1 < _; omega) I.kIn J B (wpAny_mono (go Lo.refl.in1 (by decide)) (fun v s' h => ep_boolN h) fun _ _ y => y))
  | none =>
    simp only [q1] at out
    cases q2 : clsOf ob with
    | none => rw [q1, q2] at hcls; rcases hcls with h | h <;> exact absurd h Bool.false_ne_true
    | some d =>
      simp only [q2] at out
      cases q3 : T.deq d with
      | none => simp only [q3] at out; exact out.elim
      | some f =>
        cases q5 : (isEq op && isInt oa) with
        | false => simp only [q3, q5] at out; exact out.elim
        | true =>
          simp only [q3, q5] at out
          obtain ⟨ho, hk⟩ := hop q5
          obtain ⟨fa, F, B⟩ := CF.eq d f q3
          obtain ⟨p, dx, od, rfl, rfl, J⟩ := inst_of q2 I ry st ce h2 e2
          obtain ⟨La, Ra, hoa, pm⟩ := res_own st h1 e1
          obtain ⟨i, rfl⟩ := clsOf_int hk hoa
          obtain ⟨t, rfl⟩ := rx
          have rv : Vals [V.ref p, .int i] [Value.ref p, .int i t] := .cons rfl (.cons ⟨t, rfl⟩ .nil)
          have o2 := out_isB out
          have go : ∀ {j : Nat} {A : Around}, Lo X j A → j ≤ 16 → wpAny (model X.prog X.w) A (call (.ref fa) [.ref p, .int i t]) (EP X pins σ _) X.xe s := fun lo hj => F.run lo hj tk I rv (opsR2 h2 h1) st ce o2
          rcases ho with rfl | rfl
          · exact rc_right (op := .Eq) (by omega) I.kIn J rfl B.subi PySem.F.slot_int_eq PySem.F.entry_int_eq (PySem.F.args_int_eq_2 _ _) (try_eq I.kIn J B (wpAny_mono (go Lo.refl (by decide)) (fun v s' h => ep_bool h) fun _ _ y => y))
          · exact rc_right (op := .NotEq) (by omega) I.kIn J rfl B.subi PySem.F.slot_int_ne PySem.F.entry_int_ne (PySem.F.args_int_ne_2 _ _) (try_ne (by show X.A.units + 1 < _; omega) I.kIn J B (wpAny_mono (go Lo.refl.in1 (by decide)) (fun v s' h => ep_boolN h) fun _ _ y => y))
end
end Tw
set_option maxHeartbeats 2000000
/-! The tree walk, part 17e: static methods, asked of the class by its name. -/
namespace Tw
open PySem PySem.Spec PyProof.Rows L2 Evl
structure StatOf (K : PySem.W.Frag) (C : Addr) (m : Str) (g : Addr) : Prop where
  ga : PySem.W.specialIn K (.ref C) "__getattribute__" = some (some (.builtin "type.__getattribute__"))
  kp : PySem.W.keepIn K (.ref g) = true
  ex : ∃ mc p rest, PySem.W.readsIn K C mc = true ∧ PySem.W.findCls K (.ref C) mc m = some (.get (.builtin "staticmethod.__get__") (.ref p) .none (.ref C)) ∧ PySem.W.recIn K p "staticmethod" = some (.ref g :: rest)
section
variable {X : Cx} {N : Nm} {T : Tb} {cl : CallT} {W : WX}
theorem getstat_ok {pins : List (Addr × Obj)} {σ : L2.St} {H : Hp} {s : Shared} {C g : Addr} {m : Str} {A : Around} {E : Value → Shared → Prop} {pl : Sem Bool} {Q : Value × List Value → Shared → Prop} (I : Inv X pins σ H s) (k : StatOf X.K C m g) (h : ∀ s', Inv X pins σ H s' → Q (.ref g, []) s') :
    wpAny (model X.prog X.w) A (getMethod (.ref C) m pl) Q E s := by
  obtain ⟨mc, p, rest, k1, k2, k3⟩ := k.ex
  refine PySem.W.method_cls I.kIn k.ga (PySem.W.cls_bind I.kIn k1 k2 (wpAny_call (PySem.W.sm_get (s := { s with toks := s.toks + 1 }) I.kIn k3 (PySem.W.handed_on rfl ?_))))
  exact h _ (I.tok _)
theorem pe_stat' {c m f : Nat} {fa : Addr} {n : Nat} {o : Expr} {apos pos : Pos} {es : List Expr} {ms : M (List Rv)} {pl : Sem Bool} (hf : T.smt c m = some f) (F : FnAt X N cl f fa n) (S : StatOf X.K (N.cad c) (N.fn m) fa) (tk : Takes X W) (ho : PE X o (tC (.ref (N.cad c)))) (ha : PA X es (tAs X.K N W ms)) (hst : Plain X pos es)
    (h0 : es = [] → ms = fun τ => .ok [] τ)
    (ht : eval (.Call (.Attribute o (N.fn m) apos) es [] pos) X.env = (do
      let ov ← eval o X.env
      standAt apos.atName
      let (f, first) ← holding [ov] (getMethod ov (N.fn m) pl)
      callWith pos f first (backTo pos (starEach es X.env)) (backToKw pos (keywordEach [] X.env)))) :
    PE X (.Call (.Attribute o (N.fn m) apos) es [] pos) (tE X.K N W (bnd ms fun rs => match T.smt c m with
      | some f => doCall cl f rs
      | none => fun _ => .bad)) := by
  simp only [hf]
  refine ⟨fun pins s σ H Q I h => ?_⟩
  obtain ⟨τ, G, L, st, ce, out⟩ := h
  refine PySem.W.methodCall_KW (pl := pl) (thn (ho.run pins s σ H (fun x H1 => x = .ref (N.cad c) ∧ H1 = H) I ⟨rfl, rfl⟩) fun u s1 ⟨x, H1, I1, rx, q1⟩ => ?_) ht
  obtain ⟨rfl, rfl⟩ := q1
  obtain rfl : u = Value.ref (N.cad c) := rx
  refine getstat_ok I1 S fun s2 I2 => ?_
  have h2 := split_as st ce out
  cases es with
  | nil =>
    obtain ⟨rs, τ2, G2, L2, e2, hrs, st2, ce2, o3⟩ := as_nil h2 (h0 rfl)
    exact PySem.W.callWith_K0 (first := []) I2.kIn S.kp (run_at (rs := rs) (vs := []) F tk I2 .nil hrs st2 ce2 o3)
  | cons e es' =>
    obtain ⟨s1', s2'⟩ := hst e es' rfl
    refine PySem.W.callWith_K (first := []) (h₀ := X.base) I2.ok.mod.kin S.kp (thn (ha.run pos pins s2 σ _ _ I2 h2) fun us s3 ⟨vs, H2, I3, rv, q2⟩ => ⟨I3.kIn, ?_⟩) s1' s2'
    obtain ⟨rs, τ2, G2, L2, e2, hrs, st2, ce2, o3⟩ := q2
    exact run_at (rs := rs) (vs := vs) F tk I3 rv hrs st2 ce2 o3
end
end Tw
set_option maxHeartbeats 2000000
/-! The tree walk, part 17f: name op= value where an own class answers by its plain operator. -/
namespace Tw
open PySem PySem.Spec PyProof.Rows L2 Evl
/-- no own in-place method anywhere -/
structure NoIn (K : PySem.W.Frag) (C : Addr) (nm : String) : Prop where
  mro : ∃ cd, PySem.W.clsIn K C = some cd ∧ cd.mro = [.ref C, .type "object"]
  own : PySem.W.findIn K (.ref C) (dunderI nm) = some none
  obj : PySem.W.findIn K (.type "object") (dunderI nm) = some none
section
variable {prog : Program} {w : World} {A : Around} {E : Value → Shared → Prop} {s : Shared} {K : PySem.W.Frag} {x C f : Addr} {ox : Obj} {od : Option Obj} {b : Value}
theorem noIn_fills {M : Model} {h : Heap} {nm : String} {add : Bool} (X : K.In h) (n : NoIn K C nm) : PySem.W.Looks M h (fillsInplaceSlot (.ref C) nm add) false := by
  intro A Q E s k q
  obtain ⟨cd, hc, hm⟩ := n.mro
  have Lm : PySem.W.Looks M h (mroOf (.ref C)) cd.mro := (PySem.W.looks_clsIn X hc).andThen (f := fun cd => pure cd.mro) .now
  have L1 : PySem.W.Looks M h (typeLookup (.ref C) (dunderI nm)) none := PySem.W.looks_findIn X n.own
  have L2 : PySem.W.Looks M h (typeLookup (.type "object") (dunderI nm)) none := PySem.W.looks_findIn X n.obj
  unfold fillsInplaceSlot
  refine wpAny_bind (Lm A _ E s k ?_)
  rw [hm, List.anyM_cons]
  refine wpAny_bind (wpAny_bind (L1 A _ E s k ?_))
  refine wpAny_pure ?_
  simp only [Bool.false_eq_true, if_false]
  rw [List.anyM_cons]
  refine wpAny_bind (wpAny_bind (L2 A _ E s k ?_))
  refine wpAny_pure ?_
  simp only [Bool.false_eq_true, if_false]
  rw [List.anyM_nil]
  exact wpAny_pure q
/-- the operator itself, at the left an instance -/
theorem one_left {nm : String} {Q : Value → Shared → Prop} {right : Bool} {tb : Value} (X : K.In s.heap) (I : PySem.W.InstAt s.heap x ox C od) (B : BinAt K C nm f) (hb : PySem.W.Looks (model prog w) s.heap (typeOf b) tb) (ht : tb = .ref C ∨ tb = .type "int")
    (h : wpAny (model prog w) A (call (.ref f) [.ref x, b]) (PySem.W.CmpBack Q) E s) : wpAny (model prog w) A (binaryOp1 nm (.ref x) b) (fun r s' => ∃ v, r = some v ∧ Q v s') E s := by
  obtain ⟨cd, rest, hcd, hm⟩ := PySem.W.ksp_first B.self
  have one := PySem.W.ksp_try X I B.d.find B.d.fn h
  have L3 : PySem.W.Looks (model prog w) s.heap (fillsNumberSlot (.ref C) nm) true := PySem.W.fills_K X hcd hm B.d.find
  have done : wpAny (model prog w) A (tryMethod (.ref x) (PySem.dunder nm) b) (fun r s' => (∃ v, r = some v ∧ Q v s')) E s := one
  unfold binaryOp1
  refine wpAny_bind (I.type.here (wpAny_bind (hb.here (wpAny_bind (L3.here ?_)))))
  rcases ht with rfl | rfl
  · simp only [beq_self_eq_true, if_true]
    refine wpAny_bind (wpAny_pure ?_)
    simp only [Bool.and_false, Bool.false_eq_true, if_false, Bool.false_and]
    refine wpAny_bind (wpAny_pure ?_)
    simp only [Bool.false_eq_true, if_false]
    refine wpAny_bind (m := tryMethod (.ref x) (PySem.dunder nm) b) (wpAny_mono done (fun r s' ⟨v, hv, z⟩ => ?_) fun _ _ y => y)
    subst hv
    exact wpAny_pure ⟨v, rfl, z⟩
  · obtain ⟨fo, ro, hi1, hi2⟩ := B.int
    obtain ⟨rc, hr1, hr2⟩ := B.rc
    have L4 : PySem.W.Looks (model prog w) s.heap (fillsNumberSlot (.type "int") nm) ((fo.isSome && !isSeqSlot fo) || (ro.isSome && !isSeqSlot ro)) := PySem.W.ksp_fillsT X hi1 hi2
    have L5 : PySem.W.Looks (model prog w) s.heap (isSubtype (.type "int") (.ref C)) false := PySem.W.looks_subIn X B.sub
    have L6 : PySem.W.Looks (model prog w) s.heap (numberSlotInPython (.ref C) nm) true := PySem.W.ksp_inPy X B.d.find hr1 hr2
    have L8 : PySem.W.Looks (model prog w) s.heap (typeLookup (.type "int") (dunderR nm)) ro := PySem.W.looks_findIn X hi2
    generalize ((fo.isSome && !isSeqSlot fo) || (ro.isSome && !isSeqSlot ro)) = right at L4
    have hne : (Value.ref C == Value.type "int") = false := Bool.eq_false_iff.mpr fun q => by cases beq_iff_eq.mp q
    have hpy : numberSlotInPython (.type "int") nm = pure false := rfl
    simp only [hne, Bool.false_eq_true, if_false]
    refine wpAny_bind (L4.here ?_)
    cases right with
    | false =>
      simp only [Bool.and_false, Bool.false_eq_true, if_false, Bool.false_and, pure_bind]
      refine wpAny_bind (m := tryMethod (.ref x) (PySem.dunder nm) b) (wpAny_mono done (fun r s' ⟨v, hv, z⟩ => ?_) fun _ _ y => y)
      subst hv
      exact wpAny_pure ⟨v, rfl, z⟩
    | true =>
      simp only [Bool.and_self, if_true]
      refine wpAny_bind (L5.here ?_)
      simp only [Bool.false_eq_true, if_false, pure_bind, Bool.not_false, Bool.and_self, if_true]
      refine wpAny_bind (L6.here ?_)
      simp only [if_true, hpy, pure_bind, Bool.not_false]
      refine wpAny_bind (L8.here ?_)
      refine wpAny_bind (m := tryMethod (.ref x) (PySem.dunder nm) b) (wpAny_mono done (fun r s' ⟨v, hv, z⟩ => ?_) fun _ _ y => y)
      subst hv
      exact wpAny_pure ⟨v, rfl, z⟩
theorem inp_own {op : Operator} {Q : Value → Shared → Prop} {tb : Value} (X : K.In s.heap) (I : PySem.W.InstAt s.heap x ox C od) (n : NoIn K C op.info.2) (B : BinAt K C op.info.2 f) (hb : PySem.W.Looks (model prog w) s.heap (typeOf b) tb) (ht : tb = .ref C ∨ tb = .type "int")
    (h : wpAny (model prog w) A (call (.ref f) [.ref x, b]) (PySem.W.CmpBack Q) E s) : wpAny (model prog w) A (inplaceOp op (.ref x) b) Q E s := by
  unfold inplaceOp
  refine wpAny_holding (wpAny_bind (I.type.here (wpAny_bind ((noIn_fills X n).here ?_))))
  simp only [Bool.false_eq_true, if_false, pure_bind]
  refine wpAny_bind (wpAny_mono (one_left (right := true) X I B hb ht h) (fun r s' ⟨v, hv, z⟩ => ?_) fun _ _ y => y)
  subst hv
  exact wpAny_pure z
end
section
variable {X : Cx} {N : Nm} {T : Tb} {cl : CallT} {W : WX} {B : List Nat} {σ0 : L2.St}
/-- name op= e, an instance in the name -/
theorem ps_augO {i : Nat} {op : Op} {x : Str} {e : Expr} {m : M Rv} {pos npos : Pos} (CF : ClsFacts X N T cl) (hno : ∀ c op, T.noi c op = true → NoIn X.K (N.cad c) (pyOp op).info.2) (tk : Takes X W) (nd : X.N.Nodup) (hN : X.N[i]? = some x) (hx : Loc X.env.scope x)
    (hf : X.fn x = true ∨ X.env.scope.names.lookup x = some .local) (hB : i ∉ B) (he : PE X e (tE X.K N W m)) :
    PS X (.AugAssign (.Name x npos) (pyOp op) e pos) (tSt X.K N W B σ0 (fun τ => match τ[i]? with
      | some (some _) => bnd (opd m) (fun r => doAugO T cl i op r) τ
      | _ => .bad)) := by
  refine ⟨fun pins s σ H D I h => ?_⟩
  obtain ⟨τ, G, L, st, ce, fx, out⟩ := h
  cases q : τ[i]? with
  | none => simp only [q] at out; exact out.elim
  | some oo =>
    cases oo with
    | none => simp only [q] at out; exact out.elim
    | some o =>
      simp only [q] at out
      obtain ⟨A, Bc, C, v, eL, hv, hO, _, _⟩ := st.at q
      obtain ⟨mm, hn, hl⟩ := I.loc
      have vis : Vis X.env.scope x := hx.elim .inl fun k => .inr (.inl k)
      obtain ⟨u, ru, lu⟩ := hl i x v hN hv vis
      refine wpAny_AugAssign_Name ?_
      have main : wpAny (model X.prog X.w) X.A (eval e X.env) (fun w s₂ => wpAny (model X.prog X.w) X.A (inplaceOp (pyOp op) u w) (fun r s₃ => wpAny (model X.prog X.w) X.A (storeName X.env x r) (fun _ => SP X pins D .next) X.xe s₃) X.xe s₂) X.xe s := by
        have h1 := splitS0 (rel1 := OpR1 X.K N) (fun h => h.1) st ce fx out
        refine thn ((pe_opd he).run pins s σ H _ I h1) fun w s1 ⟨y, H1, I1, ry, q1⟩ => ?_
        obtain ⟨r, τ1, G1, L1, eG, hr, st1, ce1, o1⟩ := q1
        unfold doAugO at o1
        cases qn : noiS T op τ1 i with
        | false => rw [qn] at o1; exact o1.elim
        | true =>
          rw [qn] at o1
          simp only [if_true] at o1
          -- the operands
          unfold noiS at qn
          cases e1 : res τ1 (.slot i) with
          | none => simp only [e1] at qn; cases qn
          | some oa =>
            simp only [e1] at qn
            cases e3 : clsOf oa with
            | none => simp only [e3] at qn; cases qn
            | some c =>
              simp only [e3] at qn
              have h1 : OpR1 X.K N G1 σ (.slot i) v [] := ⟨rfl, hv⟩
              obtain ⟨p, dx, od, rfl, rfl, J⟩ := inst_of e3 I1 ru st1 ce1 h1 e1
              unfold bnd doBin at o1
              cases e2 : res τ1 r with
              | none => simp only [e1, e2] at o1; exact o1.elim
              | some ob =>
                simp only [e1, e2, e3] at o1
                cases q2 : T.dun c op with
                | none => simp only [q2] at o1; exact o1.elim
                | some f =>
                  cases q3 : okR c ob with
                  | false => simp only [q2, q3] at o1; exact o1.elim
                  | true =>
                    simp only [q2, q3] at o1
                    obtain ⟨fa, F, Bn⟩ := CF.bin c op f q2
                    have rv : Vals [V.ref p, y] [Value.ref p, w] := .cons rfl (.cons ry .nil)
                    -- what the call hands on
                    have out2 : Out X.K N W (RvR X.K N) σ G1 L1 H1 (fun z H2 => D.nx (σ.set i (some z)) H2) (doCall cl f [.slot i, r] τ1) := by
                      cases e5 : doCall cl f [.slot i, r] τ1 with
                      | bad => simp only [e5] at o1; exact o1
                      | ex x τ2 =>
                        simp only [e5] at o1
                        exact fun cls d G' L' H' hx st' ce' sp => o1 cls d σ G' L' H' hx st' ce' sp fx
                      | ok a τ2 =>
                        simp only [e5] at o1
                        intro z G2 Lv L2 H2 hz st2 ce2 sp2
                        cases a with
                        | slot j => simp only [putR] at o1; exact o1.elim
                        | own oz =>
                          simp only [putR] at o1
                          exact asg_out (Lv := Lv) st2 ce2 fx hB hz (o1.later sp2)
                    have go := wpAny_mono (F.run Lo.refl (by decide) tk I1 rv (opsR2 h1 hr) st1 ce1 out2) (fun v s' h => ep_back h) fun _ _ y => y
                    have ty : ∃ tb, PySem.W.Looks (model X.prog X.w) s1.heap (typeOf w) tb ∧ (tb = .ref (N.cad c) ∨ tb = .type "int") := by
                      cases q4 : clsOf ob with
                      | some d =>
                        have ed : d = c := by
                          cases ob with
                          | val o => cases o <;> first | (cases q4; done) | (cases q4; simpa [okR, clsOf] using q3)
                          | ins _ _ _ => cases q4; simpa [okR, clsOf] using q3
                          | _ => cases q4
                        subst ed
                        obtain ⟨p', dx', od', rfl, rfl, J'⟩ := inst_of q4 I1 ry st1 ce1 hr e2
                        exact ⟨_, J'.type, .inl rfl⟩
                      | none =>
                        obtain ⟨La, Ra, ho, pm⟩ := res_own st1 hr e2
                        have hi : isInt ob = true := by
                          unfold okR at q3
                          split at q3
                          · rfl
                          · rw [q4] at q3; simp at q3
                        obtain ⟨i, rfl⟩ := clsOf_int hi ho
                        obtain ⟨t, rfl⟩ := ry
                        exact ⟨_, PySem.W.Looks.of_pure rfl, .inr rfl⟩
                    obtain ⟨tb, hb, htb⟩ := ty
                    refine thn (inp_own I1.kIn J (hno c op qn) Bn hb htb go) fun z s2 ⟨zv, H2, I2, rz, q5⟩ => ?_
                    exact store_ok I2 nd hN hx rz (fun s3 I3 => ⟨_, H2, I3, q5⟩) hf
      rcases lu with ⟨hk, hm⟩ | ⟨hk, c, hc, hcell⟩
      · exact wpAny_loadName_local I.ok.kind hk hn hm main
      · rcases hk with hk | hk
        · exact wpAny_loadName_cell I.ok.kind hk hc hcell main
        · rcases hx with k | k
          · have bad : X.env.scope.names.lookup x = some .free := hk
            rw [k] at bad; cases bad
          · have bad : X.env.scope.names.lookup x = some .free := hk
            rw [k] at bad; cases bad
end
end Tw
set_option maxHeartbeats 2000000
/-! The tree walk, part 18: what is asked of the text's form. -/
namespace Tw
open PySem PySem.Spec PyProof.Rows L2 Evl
/-! ### forms -/
def noStar : Expr → Bool
  | .Starred _ _ => false
  | _ => true
theorem noStar_ok {X : Cx} {e : Expr} (h : noStar e = true) : NoStar X e := by
  intro es
  cases e <;> first | rfl | (exact absurd h (by simp [noStar]))
def noSet : Expr → Bool
  | .Set _ _ _ => false
  | _ => true
theorem noSet_fold {e : Expr} (h : noSet e = true) (env : Env) : ∀ x, foldedSetIterable e env x = pure x := by
  intro x
  cases e <;> first | rfl | (exact absurd h (by simp [noSet]))
theorem noSet_in {e : Expr} (h : noSet e = true) (op : CmpOp) : behindInMarks op e = false := by
  cases e <;> first | rfl | (exact absurd h (by simp [noSet]))
theorem noSet_last {a e : Expr} {o1 o2 : CmpOp} (h : noSet e = true) : lastMarks [o1, o2] [a, e] = false := noSet_in h o2
def noComp : Expr → Bool
  | .ListComp _ _ _ _ => false
  | .SetComp _ _ _ _ => false
  | .DictComp _ _ _ _ _ => false
  | _ => true
theorem noComp_sw {e : Expr} (h : noComp e = true) (t : Option Expr) (l : Nat) (env : Env) : swapsWith e t l env = pure false := by
  cases e <;> first | rfl | (exact absurd h (by simp [noComp]))
def plainT : Expr → Bool
  | .UnaryOp .Not _ _ => false
  | .BoolOp _ _ _ => false
  | .IfExp _ _ _ _ => false
  | .Compare _ _ _ _ => false
  | _ => true
theorem plainT_ok {X : Cx} {e : Expr} (h : plainT e = true) : PlainT X e := by
  intro whole
  cases e with
  | UnaryOp op a p =>
    cases op <;> first | rfl | (exact absurd h (by simp [plainT]))
  | BoolOp _ _ _ => exact absurd h (by simp [plainT])
  | IfExp _ _ _ _ => exact absurd h (by simp [plainT])
  | Compare _ _ _ _ => exact absurd h (by simp [plainT])
  | _ => rfl
def noSlice : Expr → Bool
  | .Slice _ _ _ _ => false
  | _ => true
theorem noSlice_ok {e : Expr} (h : noSlice e = true) : PlainIx e := by
  intro o i
  cases e <;> first | rfl | (exact absurd h (by simp [noSlice]))
/-- not a call without arguments (super()) -/
def noCall0 : Expr → Bool
  | .Call _ [] _ _ => false
  | _ => true
theorem noCall0_ok {e : Expr} (h : noCall0 e = true) (n : Str) (env : Env) : attributeBase e n env (eval e env) = eval e env := by
  cases e with
  | Call f as ks p =>
    cases as with
    | nil => exact absurd h (by simp [noCall0])
    | cons a as => cases f <;> rfl
  | _ => rfl
/-- a method's call on one line, few arguments -/
def mForm (es : List Expr) (apos pos : Pos) : Bool := es.all noStar && (decide (es.length < 30) && (apos.endLine == pos.line))
theorem backTo_all {pos : Pos} {env : Env} : ∀ {es : List Expr}, es.all noStar = true → (backTo pos (starEach es env)).all (!·.1) = true
  | [], _ => rfl
  | e :: es, h => by
    rw [List.all_cons, Bool.and_eq_true] at h
    have e1 : starEach (e :: es) env = (false, eval e env) :: starEach es env := by
      have h1 := h.1
      cases e <;> first | rfl | (exact absurd h1 (by simp [noStar]))
    rw [e1]
    show ((false, _) :: backTo pos (starEach es env)).all (!·.1) = true
    rw [List.all_cons, backTo_all h.2]
    rfl
theorem mForm_ok {o : Expr} {m : Str} {es : List Expr} {apos pos : Pos} {env : Env} (h0 : noCall0 o = true) (h : mForm es apos pos = true) :
    eval (.Call (.Attribute o m apos) es [] pos) env = (do
      let ov ← eval o env
      standAt apos.atName
      let (f, first) ← holding [ov] (getMethod ov m (plainOf o env))
      callWith pos f first (backTo pos (starEach es env)) (backToKw pos (keywordEach [] env))) := by
  unfold mForm at h
  simp only [Bool.and_eq_true, decide_eq_true_eq] at h
  obtain ⟨h1, h2, h3⟩ := h
  have hf : methodCallForm (es.length + ([] : List Keyword).length) (backTo pos (starEach es env)) (backToKw pos (keywordEach [] env)) = true := by
    unfold methodCallForm
    rw [backTo_all h1]
    show (true && true && decide (es.length + 0 + 0 < 30)) = true
    simpa using h2
  show (do
    let ov ← attributeBase o m env (eval o env)
    standAt apos.atName
    methodCall o m apos pos env ov (es.length + ([] : List Keyword).length) (backTo pos (starEach es env)) (backToKw pos (keywordEach [] env))) = _
  rw [noCall0_ok h0]
  simp only [mcall_line hf h3]
def isBoolOp : Expr → Bool
  | .BoolOp _ _ _ => true
  | _ => false
theorem any_backTo {pos : Pos} {env : Env} : ∀ {es : List Expr}, es.all noStar = true → (backTo pos (starEach es env)).any (·.1) = false
  | [], _ => rfl
  | e :: es, h => by
    rw [List.all_cons, Bool.and_eq_true] at h
    have e1 : starEach (e :: es) env = (false, eval e env) :: starEach es env := by
      have h1 := h.1
      cases e <;> first | rfl | (exact absurd h1 (by simp [noStar]))
    rw [e1]
    show ((false, _) :: backTo pos (starEach es env)).any (·.1) = false
    rw [List.any_cons, any_backTo h.2]
    rfl
theorem plain_ok {X : Cx} {pos : Pos} {es : List Expr} (h : es.all noStar = true) : Plain X pos es := by
  rintro e es' rfl
  rw [List.all_cons, Bool.and_eq_true] at h
  exact ⟨noStar_ok h.1 es', any_backTo h.2⟩
/-! ### the program's names -/
structure Pg where
  fnm : Nat → Option (Str × Nat)
  kbs : Nat → Nat → List Str → List Ar → Bool
  hfn : Nat → Option (Str × Nat)
  cin : Nat → Bool
  kbi : Nat → Nat → List Str → List Ar → Bool
  stt : Nat → Nat → Bool
  cnm : Nat → Option Str
  con : Nat → Option Str
  free : Str → Bool
  imp : Bi → Option Str
  fld : Nat → Str
/-- the names that a piece of text sees -/
structure Sc where
  N : List Str
  nm : List (Str × NameKind)
  fn : Str → Bool
  hot : Bool
def nmG (x : Str) : Bool := !(x == ("__debug__" : Str))
theorem nmG_ok {x : Str} (h : nmG x = true) : (x == ("__debug__" : Str)) = false := by
  unfold nmG at h
  simpa using h
/-- a name that is read -/
def rd (c : Sc) (i : Nat) (x : Str) : Bool := decide (c.N[i]? = some x) && (nmOk x && (match c.nm.lookup x with
  | some .local => true
  | some .cell => true
  | some .free => true
  | _ => false))
/-- a global name -/
def gl (c : Sc) (x : Str) : Bool := decide (c.nm.lookup x = some .globalImplicit) && nmG x
/-- a name that is set -/
def wr (c : Sc) (i : Nat) (x : Str) : Bool := decide (c.N[i]? = some x) && (match c.nm.lookup x with
  | some .local => true
  | some .cell => c.fn x
  | _ => false)
/-- a def, at a level of calls -/
structure GFn (P : Program) (w : World) (K : PySem.W.Frag) (mg : Str → Option Value) (base : Heap) (N : Nm) (cl : CallT) (k : Nat) (f : Nat) (fa : Addr) (n : Nat) : Prop where
  kp : PySem.W.keepIn K (.ref fa) = true
  len : ∀ os, cl f os ≠ .bad → os.length = n
  ex : ∃ fd ps, FnOk P w K mg base (L2.CX P w) k fa fd ps (spF K N cl f n) ∧ Binds K fd ps []
/-- what holds of the program, at a level of calls -/
structure GOk (P : Program) (w : World) (K : PySem.W.Frag) (mg : Str → Option Value) (base : Heap) (N : Nm) (T : Tb) (cl : CallT) (Q : Pg) (k : Nat) : Prop where
  fn : ∀ f x n, Q.fnm f = some (x, n) → ∃ fa fd ps, mg x = some (.ref fa) ∧ PySem.W.keepIn K (.ref fa) = true ∧ (∀ os, cl f os ≠ .bad → os.length = n) ∧ FnOk P w K mg base (L2.CX P w) k fa fd ps (spF K N cl f n) ∧ Binds K fd ps [] ∧
    ∀ np ks ar, Q.kbs f np ks ar = true → KB K fd ps 0 np ks ar
  hot : ∀ e f x n, Q.hfn f = some (x, n) → ∃ fa fd ps, mg x = some (.ref fa) ∧ PySem.W.keepIn K (.ref fa) = true ∧ (∀ os, cl f os ≠ .bad → os.length = n) ∧ FnL P w K mg base k fa fd ps (spF K (N.at_ e) cl f n) ∧ Binds K fd ps []
  cls : ∀ c x, Q.cnm c = some x → mg x = some (.ref (N.cad c))
  con : ∀ i x, Q.con i = some x → ∃ u v, mg x = some u ∧ RelV v u ∧ ∀ e G, Rep K (N.at_ e) G (T.con i) v
  free : ∀ x, Q.free x = true → mg x = none
  imp : ∀ b x, Q.imp b = some x → mg x = some (biV b) ∧ ∃ id, biV b = .builtin id
  fld : ∀ f, Q.fld f = N.fn f
  isa : ∀ t y b, T.isa t y = some b → PySem.W.kitOne K (tkV N t) (tyV N y) = some b
  ins : ∀ c y b, T.isa (.own c) y = some b → InsC K (N.cad c)
  fok : ∀ c f, T.fok c f = true → Cls K (N.cad c) ∧ NoAttr K (N.cad c) (N.fn f)
  xok : XokOk K N T
  exm : ExmOk K N T
  mth : ∀ c m f, T.mth c m = some f → Cls K (N.cad c) ∧ ∃ fa n, GFn P w K mg base N cl k f fa n ∧ Meth K (N.cad c) (N.fn m) fa
  prp : ∀ c m f, T.prp c m = some f → Cls K (N.cad c) ∧ ∃ fa p, GFn P w K mg base N cl k f fa 1 ∧ PropOf K (N.cad c) (N.fn m) p fa
  una : ∀ c u f, T.una c u = some f → ∃ fa, GFn P w K mg base N cl k f fa 1 ∧ DefAt K (N.cad c) (unNm u) fa
  dun : ∀ c op f, T.dun c op = some f → ∃ fa, GFn P w K mg base N cl k f fa 2 ∧ BinAt K (N.cad c) (pyOp op).info.2 fa
  rdn : ∀ c op f, T.rdn c op = some f → IntOp (pyOp op).info.2 ∧ ∃ fa, GFn P w K mg base N cl k f fa 2 ∧ RbinAt K (N.cad c) (pyOp op).info.2 fa
  deq : ∀ c f, T.deq c = some f → ∃ fa, GFn P w K mg base N cl k f fa 2 ∧ EqOf K (N.cad c) fa
  noi : ∀ c op, T.noi c op = true → NoIn K (N.cad c) (pyOp op).info.2
  smt : ∀ c m, Q.stt c m = true → ∃ f fa n, T.smt c m = some f ∧ GFn P w K mg base N cl k f fa n ∧ StatOf K (N.cad c) (N.fn m) fa
  ini : ∀ c, Q.cin c = true → ∃ f fa n, T.ini c = some f ∧ GFn P w K mg base N cl k f fa n ∧ Mk K (N.cad c) fa
  kbi : ∀ c np ks ar, Q.kbi c np ks ar = true → ∃ f fa n fd ps, T.ini c = some f ∧ PySem.W.keepIn K (.ref fa) = true ∧ (∀ os, cl f os ≠ .bad → os.length = n) ∧ FnOk P w K mg base (L2.CX P w) k fa fd ps (spF K N cl f n) ∧ Mk K (N.cad c) fa ∧ KB K fd ps 1 np ks ar
  exI : ∀ c ns, T.exf c = some ns → ns ≠ [] → ns.length ≤ 1000 ∧ OexC K (N.cad c) ∧ ∃ fI fd ps, PySem.W.findIn K (.ref (N.cad c)) "__init__" = some (some (.ref fI)) ∧ PySem.W.typeIn K (.ref fI) = some (.type "function") ∧
    FnOk P w K mg base (L2.CX P w) k fI fd ps (spI (N.cad c) (lOf N ns.reverse 1) (ns.length + 1)) ∧ Binds K fd ps []
  exB : ∀ c, T.exf c = some [] → BareAt K (N.cad c)
/-- a context in which the text stands -/
structure XOk (X : Cx) (N : Nm) (T : Tb) (rcl cl : CallT) (cur : Option (CallT × Bool)) (Q : Pg) (k : Nat) (c : Sc) (W : WX) : Prop where
  g : GOk X.prog X.w X.K X.mg X.base (N.at_ none) T rcl Q k
  room : L2H.RoomH (k + 1) X.A
  md : (c.hot = false ∧ cl = rcl ∧ cur = none ∧ X.calm = true ∧ X.A.handled = none ∧ N.exa = none) ∨ (c.hot = true ∧ cl = badCl ∧ ∃ b, cur = some (rcl, b) ∧ (b = true → HasE X N))
  tk : Takes X W
  po : PassesOwn (model X.prog X.w) X.A X.env X.xe
  nd : X.N.Nodup
  hN : X.N = c.N
  hs : X.env.scope.names = c.nm
  kd : X.env.scope.kind = .function
  hfn : ∀ x, c.fn x = true → X.fn x = true
section
variable {X : Cx} {N : Nm} {T : Tb} {rcl cl : CallT} {cur : Option (CallT × Bool)} {Q : Pg} {k m : Nat} {c : Sc} {W : WX}
theorem XOk.rd (o : XOk X N T rcl cl cur Q k c W) {i : Nat} {x : Str} (h : rd c i x = true) : X.N[i]? = some x ∧ Vis X.env.scope x ∧ (x == ("__debug__" : Str)) = false ∧ (x == ("__classdict__" : Str)) = false := by
  unfold Tw.rd at h
  simp only [Bool.and_eq_true, decide_eq_true_eq] at h
  obtain ⟨h1, h2, h3⟩ := h
  unfold nmOk at h2
  simp only [Bool.and_eq_true, Bool.not_eq_true'] at h2
  refine ⟨by rw [o.hN]; exact h1, ?_, h2.1, h2.2⟩
  unfold Vis
  rw [o.hs]
  cases q : c.nm.lookup x with
  | none => rw [q] at h3; exact absurd h3 Bool.false_ne_true
  | some kd =>
    rw [q] at h3
    cases kd with
    | «local» => exact .inl rfl
    | cell => exact .inr (.inl rfl)
    | free => exact .inr (.inr rfl)
    | globalExplicit => exact absurd h3 Bool.false_ne_true
    | globalImplicit => exact absurd h3 Bool.false_ne_true
theorem XOk.gl (o : XOk X N T rcl cl cur Q k c W) {x : Str} (h : gl c x = true) : Gl X x ∧ (x == ("__debug__" : Str)) = false := by
  unfold Tw.gl at h
  simp only [Bool.and_eq_true, decide_eq_true_eq] at h
  refine ⟨?_, nmG_ok h.2⟩
  show X.env.scope.names.lookup x = _
  rw [o.hs]
  exact h.1
theorem XOk.wr (o : XOk X N T rcl cl cur Q k c W) {i : Nat} {x : Str} (h : wr c i x = true) : X.N[i]? = some x ∧ Loc X.env.scope x ∧ (X.fn x = true ∨ X.env.scope.names.lookup x = some .local) := by
  unfold Tw.wr at h
  simp only [Bool.and_eq_true, decide_eq_true_eq] at h
  obtain ⟨h1, h3⟩ := h
  refine ⟨by rw [o.hN]; exact h1, ?_⟩
  unfold L2.Loc
  rw [o.hs]
  cases q : c.nm.lookup x with
  | none => rw [q] at h3; exact absurd h3 Bool.false_ne_true
  | some kd =>
    rw [q] at h3
    cases kd with
    | «local» => exact ⟨.inl rfl, .inr rfl⟩
    | cell => exact ⟨.inr rfl, .inl (o.hfn x h3)⟩
    | free => exact absurd h3 Bool.false_ne_true
    | globalExplicit => exact absurd h3 Bool.false_ne_true
    | globalImplicit => exact absurd h3 Bool.false_ne_true
theorem Nm.at_self {N : Nm} : (N.at_ N.exa) = N := by cases N; rfl
/-- what is so where nothing is handled -/
structure Cold (X : Cx) (N : Nm) (rcl cl : CallT) (cur : Option (CallT × Bool)) : Prop where
  cl : cl = rcl
  cur : cur = none
  calm : X.calm = true
  hd : X.A.handled = none
  exa : N.exa = none
theorem XOk.cold (o : XOk X N T rcl cl cur Q k c W) (h : (!c.hot) = true) : Cold X N rcl cl cur := by
  rcases o.md with ⟨h1, h2, h3, h4, h5, h6⟩ | ⟨h1, _⟩
  · exact ⟨h2, h3, h4, h5, h6⟩
  · rw [h1] at h; cases h
theorem XOk.roomC (o : XOk X N T rcl cl cur Q k c W) (h : (!c.hot) = true) : Room (k + 1) X.A := ⟨(o.cold h).hd, o.room.dp, o.room.un⟩
theorem XOk.at_ (o : XOk X N T rcl cl cur Q k c W) (hc : (!c.hot) = true) {f n : Nat} {fa : Addr} (h : GFn X.prog X.w X.K X.mg X.base (N.at_ none) rcl k f fa n) : FnAt X N cl f fa n := by
  have C := o.cold hc
  obtain ⟨h1, h2, fd, ps, h3, h4⟩ := h
  rw [Nm.at_none C.exa, ← C.cl] at h3
  rw [← C.cl] at h2
  exact ⟨⟨fd, k, ps, h3, o.roomC hc, h4⟩, h1, h2⟩
theorem XOk.run (o : XOk X N T rcl cl cur Q k c W) {f n : Nat} {fa : Addr} (h : GFn X.prog X.w X.K X.mg X.base (N.at_ none) rcl k f fa n) : FnRun X N cl f fa := by
  cases hc : c.hot with
  | false => exact (o.at_ (by rw [hc]; rfl) h).toRun
  | true =>
    rcases o.md with ⟨h1, _⟩ | ⟨_, h2, _⟩
    · rw [hc] at h1; cases h1
    · rw [h2]
      exact .never
theorem XOk.cf (o : XOk X N T rcl cl cur Q k c W) : ClsFacts X N T cl where
  una := fun c u f h => let ⟨fa, g, d⟩ := o.g.una c u f h; ⟨fa, o.run g, d⟩
  bin := fun c u f h => let ⟨fa, g, d⟩ := o.g.dun c u f h; ⟨fa, o.run g, d⟩
  rbin := fun c u f h => let ⟨i, fa, g, d⟩ := o.g.rdn c u f h; ⟨i, fa, o.run g, d⟩
  eq := fun c f h => let ⟨fa, g, d⟩ := o.g.deq c f h; ⟨fa, o.run g, d⟩
theorem XOk.units (o : XOk X N T rcl cl cur Q k c W) : X.A.units + 64 < cLine := by
  have := o.room.un
  omega
theorem XOk.facts (o : XOk X N T rcl cl cur Q k c W) : Facts X N T cl W where
  nd := o.nd
  units := o.units
  tk := o.tk
  po := o.po
  bin := bin_ok o.cf o.tk
  una := una_ok o.cf o.units o.tk
theorem XOk.deqs (o : XOk X N T rcl cl cur Q k c W) : DeqOk X N T cl W := deq_ok o.cf o.units o.tk
theorem XOk.hasE (o : XOk X N T rcl cl cur Q k c W) : inH cur = true → HasE X N := by
  intro h
  rcases o.md with ⟨_, _, h3, _⟩ | ⟨_, _, b, h3, h4⟩
  · rw [h3] at h; cases h
  · rw [h3] at h; exact h4 h
theorem XOk.meths (o : XOk X N T rcl cl cur Q k c W) (hc : (!c.hot) = true) : ∀ c f, T.mth c m = some f → ∃ n, MethAt X N cl c m f n := fun c f h => let ⟨h1, fa, n, g, d⟩ := o.g.mth c m f h; ⟨n, h1, fa, o.at_ hc g, d⟩
theorem XOk.props (o : XOk X N T rcl cl cur Q k c W) (hc : (!c.hot) = true) : ∀ c g, T.prp c m = some g → PropAt X N cl c m g := fun c f h => let ⟨h1, fa, p, g, d⟩ := o.g.prp c m f h; ⟨h1, fa, p, o.at_ hc g, d⟩
theorem XOk.isa (o : XOk X N T rcl cl cur Q k c W) : IsaOk X N T := ⟨o.g.isa, o.g.ins⟩
theorem XOk.exm (o : XOk X N T rcl cl cur Q k c W) : ExmOk X.K N T := o.g.exm
theorem XOk.xok (o : XOk X N T rcl cl cur Q k c W) : XokOk X.K N T := o.g.xok
theorem XOk.flds (o : XOk X N T rcl cl cur Q k c W) : FldOk X N T := o.g.fok
theorem XOk.fld (o : XOk X N T rcl cl cur Q k c W) (f : Nat) : Q.fld f = N.fn f := o.g.fld f
theorem XOk.fnAt (o : XOk X N T rcl cl cur Q k c W) (hc : (!c.hot) = true) {f n : Nat} {x : Str} (h : Q.fnm f = some (x, n)) : ∃ fa, X.mg x = some (.ref fa) ∧ FnAt X N cl f fa n ∧ ∀ np ks ar, Q.kbs f np ks ar = true → FnK X N cl f fa n 0 np ks ar := by
  have C := o.cold hc
  obtain ⟨fa, fd, ps, h1, h2, h3, h4, h5, h6⟩ := o.g.fn f x n h
  rw [Nm.at_none C.exa, ← C.cl] at h4
  rw [← C.cl] at h3
  exact ⟨fa, h1, ⟨⟨fd, k, ps, h4, o.roomC hc, h5⟩, h2, h3⟩, fun np ks ar hk => ⟨⟨fd, k, ps, h4, o.roomC hc, h6 np ks ar hk⟩, h2, h3⟩⟩
/-- a def that may be called in a suite -/
theorem XOk.hfnAt (o : XOk X N T rcl cl cur Q k c W) {f n : Nat} {x : Str} (h : Q.hfn f = some (x, n)) : ∃ fa, X.mg x = some (.ref fa) ∧ PySem.W.keepIn X.K (.ref fa) = true ∧ FnRun X N rcl f fa := by
  obtain ⟨fa, fd, ps, h1, h2, h3, h4, h5⟩ := o.g.hot N.exa f x n h
  rw [show ((N.at_ none).at_ N.exa) = N from by cases N; rfl] at h4
  exact ⟨fa, h1, h2, h4.toRun o.room h5 h3⟩
end
section
variable {X : Cx} {N : Nm} {T : Tb} {cl : CallT} {W : WX}
theorem pt_bad {e : Expr} : PT X e (tB X.K N W fun _ => .bad) := ⟨fun pins s σ H Q I h => by
  obtain ⟨τ, G, L, st, ce, out⟩ := h
  exact out.elim⟩
theorem pt_ok {e : Expr} {b : Bool} (h : PT X e (fun _ H Q => Q b H)) : PT X e (tB X.K N W fun τ => .ok b τ) := h.imp fun σ H Q ⟨τ, G, L, st, ce, out⟩ => out b G [] L H ⟨rfl, rfl⟩ st ce Step.refl
theorem pt_chain' (F : Facts X N T cl W) (E : DeqOk X N T cl W) {o1 o2 : Cm} {a b c : Expr} {ma mb mc : M Rv} {pos : Pos} (ha : PE X a (tE X.K N W ma)) (hb : PE X b (tE X.K N W mb)) (hc : PE X c (tE X.K N W mc)) (hm : lastMarks [pyCm o1, pyCm o2] [b, c] = false) :
    PT X (.Compare a [pyCm o1, pyCm o2] [b, c] pos) (tB X.K N W (isB (bnd (opd ma) fun x => bnd (opd mb) fun y => bnd (isB (doCmp T cl o1 x y)) fun k => match k with
      | true => bnd (opd mc) fun z => doCmp T cl o2 y z
      | false => fun τ => .ok (.own (.val (.bl false))) τ))) := by
  refine ⟨fun pins s σ H Q I h => ?_⟩
  obtain ⟨τ, G, L, st, ce, out⟩ := tB_isB h
  have h1 := split_op st ce out
  refine isTrue_chain (thn ((pe_opd ha).run pins s σ H _ I h1) fun v s1 ⟨x, H1, I1, r1, q1⟩ => test_link ?_) hm
  obtain ⟨ra, τ1, G1, L1, e1, hr1, st1, ce1, p1⟩ := q1
  have h2 := split_op st1 ce1 p1
  refine thn ((pe_opd hb).run pins s1 σ H1 _ I1 h2) fun u s2 ⟨y, H2, I2, r2, q2⟩ => ?_
  obtain ⟨rb, τ2, G2, L2, e2, hr2, st2, ce2, p2⟩ := q2
  refine thn (cmp_run F E I2 r1 r2 st2 ce2 (hr1.mono e2) hr2 (Q := fun x H1 => ∃ k, x = .bl k ∧ ∃ τ1 G1 L1, Ex G2 G1 ∧ StoR X.K N G1 τ1 σ L1 ∧ Cells G1 L1 H1 ∧ Out X.K N W (RvR X.K N) σ G1 L1 H1 (fun x H1 => ∃ c, x = .bl c ∧ Q c H1) ((match k with
      | true => bnd (opd mc) fun z => doCmp T cl o2 rb z
      | false => fun τ => .ok (.own (.val (.bl false))) τ) τ1)) (split_b' st2 ce2 p2)) fun d s3 ⟨z, H3, I3, r3, k, e, q3⟩ => ?_
  subst e
  cases r3
  refine wpAny_truthy_bool ?_
  obtain ⟨τ4, G4, L4, e4, st4, ce4, p4⟩ := q3
  cases k with
  | false =>
    obtain ⟨c0, ec, qc⟩ := out_val (v := .bl false) st4 ce4 p4 ⟨rfl, rfl⟩
    cases ec
    exact ite_ff ⟨H3, I3, qc⟩
  | true =>
    have h4 := split_op st4 ce4 p4
    refine ite_tt (test_last (thn ((pe_opd hc).run pins s3 σ H3 _ I3 h4) fun w' s4 ⟨z', H4, I4, r4, q4⟩ => ?_))
    obtain ⟨rc, τ5, G5, L5, e5, hr5, st5, ce5, p5⟩ := q4
    refine thn (cmp_run F E I4 r2 r4 st5 ce5 (hr2.mono (e4.trans e5)) hr5 p5) fun d' s5 ⟨z2, H5, I5, r5, k2, e2, q5⟩ => ?_
    subst e2
    cases r5
    exact wpAny_truthy_bool ⟨H5, I5, q5⟩
end
end Tw
set_option maxHeartbeats 2000000
/-! The tree walk, part 18b: a loop over a name's list, which stays that name's. -/
namespace Tw
open PySem PySem.Spec PyProof.Rows L2 Evl
section
variable {X : Cx} {N : Nm} {T : Tb} {cl : CallT} {W : WX} {B : List Nat} {σ0 : L2.St}
theorem OutS.weak {B1 : List Nat} {σ1 : L2.St} {G : Hp} {L : Cl} {H : Hp} {D : Ends} {r : R Fl} (hf : ∀ σ', Fx B1 σ1 σ' → Fx B σ0 σ') (h : OutS X.K N W B σ0 G L H D r) : OutS X.K N W B1 σ1 G L H D r := by
  cases r with
  | bad => exact h
  | ex x τ => exact fun cls d σ' G' L' H' hx st ce sp fx => h cls d σ' G' L' H' hx st ce sp (hf _ fx)
  | ok f τ =>
    cases f with
    | nx => exact fun σ' G' L' H' st ce sp fx => h σ' G' L' H' st ce sp (hf _ fx)
    | bk => exact fun σ' G' L' H' st ce sp fx => h σ' G' L' H' st ce sp (hf _ fx)
    | ct => exact fun σ' G' L' H' st ce sp fx => h σ' G' L' H' st ce sp (hf _ fx)
    | rt o => exact fun v σ' G' Lv L' H' ho st ce sp fx => h v σ' G' Lv L' H' ho st ce sp (hf _ fx)
theorem Fx.tail {i : Nat} {σ σ' : L2.St} (h : Fx B σ0 σ) (h' : Fx (i :: B) σ σ') : Fx B σ0 σ' := fun j hj => (h' j (List.mem_cons_of_mem _ hj)).trans (h j hj)
theorem ps_forB {tge : Expr} {body : List Stmt} {g : TG} {tg : List Nat} {mb : M Fl} {i : Nat} {x : Str} {pos xp : Pos} (po : PassesOwn (model X.prog X.w) X.A X.env X.xe) (hc : X.calm = true) (hN : X.N[i]? = some x) (hv : Vis X.env.scope x) (hd : (x == ("__debug__" : Str)) = false) (hcd : (x == ("__classdict__" : Str)) = false)
    (hg : PG X tge g) (ht : TgOk X N g tg) (hB : ∀ j ∈ tg, j ∉ i :: B) (hb : ∀ σ1, PSs X body (tSt X.K N W (i :: B) σ1 mb)) : PS X (.For tge (.Name x xp) body [] pos) (tSt X.K N W B σ0 (borM i tg mb)) := by
  refine ⟨fun pins s σ H D I h => ?_⟩
  obtain ⟨τ, G, L, st, ce, fx, out⟩ := h
  unfold borM at out
  cases e : τ[i]? with
  | none => simp only [e] at out; exact out.elim
  | some oo =>
    cases oo with
    | none => simp only [e] at out; exact out.elim
    | some o =>
      cases o with
      | ins _ _ _ => simp only [e] at out; exact out.elim
      | dct _ _ => simp only [e] at out; exact out.elim
      | val d =>
        -- set free already
        simp only [e] at out
        cases e2 : items (.val d) with
        | none => simp only [e2] at out; exact out.elim
        | some ds =>
          simp only [e2] at out
          have p1 : PI X tge (.Name x xp) (tI X.K N W (walk fun τ => match τ[i]? with
            | some (some _) => .ok (.slot i) τ
            | _ => .bad)) := pi_seq (pe_slot hN hv hd hcd)
          refine (ps_for' (B := i :: B) (σ0 := σ) po hc p1 hg ht hB (hb σ) (fun _ => rfl)).run pins s σ H D I ⟨τ, G, L, st, ce, fun _ _ => rfl, ?_⟩
          have et : τ.set i (some (.val d)) = τ := by
            apply List.ext_getElem?
            intro j
            by_cases hj : i = j
            · subst hj
              have hl : i < τ.length := (List.getElem?_eq_some_iff.mp e).1
              rw [List.getElem?_set_self hl, e]
            · rw [List.getElem?_set_ne hj]
          have ew : bnd (walk fun τ => match τ[i]? with
            | some (some _) => .ok (.slot i) τ
            | _ => .bad) (fun ds => forM tg mb ds) τ = forM tg mb ds τ := by
            simp only [walk, own, bnd, e]
            rw [show frz (.val d) = d from rfl, e2, et]
          rw [ew]
          exact out.weak fun σ' f => fx.tail f
      | lst os =>
        simp only [e] at out
        cases e2 : vals os with
        | none => simp only [e2] at out; exact out.elim
        | some ds =>
          simp only [e2] at out
          have eos := vals_eq e2
          subst eos
          obtain ⟨A, Bx, C, v, rfl, hσ, hO, st1, _⟩ := st.at e
          obtain ⟨p, vs, L1, rfl, rfl, hO2⟩ := hO
          obtain ⟨rfl, hR⟩ := hO2.vals
          -- the list's cell is put aside
          have pm : (A ++ ([(p, HO.lst vs)] ++ C)).Perm ((A ++ C) ++ [(p, HO.lst vs)]) := (perm3 A [(p, HO.lst vs)] C).trans List.perm_append_comm
          have ceP := ce.perm pm
          have hp : H p = some (.lst vs) := ce.at_ p _ (by simp)
          -- a later state without it, made whole again
          have whole : ∀ {G' : Hp} {L' : Cl} {H' : Hp}, Cells G' L' H' → Step G (A ++ C) H G' L' H' → Cells G' (L' ++ [(p, HO.lst vs)]) H' ∧ Step G (A ++ ([(p, HO.lst vs)] ++ C)) H G' (L' ++ [(p, HO.lst vs)]) H' := by
            intro G' L' H' c1 s1
            obtain ⟨s2, c2⟩ := s1.aside ceP c1
            exact ⟨c2, s2.perm pm.symm (List.Perm.refl _)⟩
          have still : ∀ {G' : Hp} {L' : Cl} {H' : Hp}, Step G (A ++ C) H G' L' H' → H' p = some (.lst vs) := fun s1 => s1.frame p _ hp fun u hu => ceP.apart hu (List.mem_singleton.mpr rfl)
          have give : ∀ {G' : Hp} {τ' : Sto} {σ' : L2.St} {L' : Cl}, Ex G G' → StoR X.K N G' τ' σ' L' → τ'[i]? = some none → Fx (i :: B) σ σ' → ∃ L2, (L' ++ [(p, HO.lst vs)]).Perm L2 ∧ StoR X.K N G' (τ'.set i (some (.lst (ds.map .val)))) σ' L2 := by
            intro G' τ' σ' L' ex s1 en fx'
            have hi : i < τ'.length := (List.getElem?_eq_some_iff.mp en).1
            obtain ⟨A1, C1, rfl, s2⟩ := s1.fill (o := .lst (ds.map .val)) (v := .ref p) (B := [(p, HO.lst vs)]) hi en ⟨p, vs, [], rfl, rfl, OwnL.of (hR.mono ex)⟩
            have e3 : σ'[i]? = some (some (.ref p)) := (fx' i List.mem_cons_self).trans hσ
            rw [set_same e3] at s2
            refine ⟨_, ?_, s2⟩
            rw [List.append_assoc]
            exact List.Perm.append_left A1 List.perm_append_comm
          have goal2 : OutS X.K N W (i :: B) σ G (A ++ C) H D (forM tg mb ds (τ.set i none)) := by
            cases q : forM tg mb ds (τ.set i none) with
            | bad => simp only [q] at out; exact out
            | ex y τ1 =>
              simp only [q] at out
              intro cls d σ' G' L' H' hx s1 c1 p1 f1
              unfold backB at out
              cases en : τ1[i]? with
              | none => simp only [en] at out; exact out.elim
              | some oo =>
                cases oo with
                | some _ => simp only [en] at out; exact out.elim
                | none =>
                  simp only [en] at out
                  obtain ⟨L2, pm2, s2⟩ := give p1.ex s1 en f1
                  obtain ⟨c2, p2⟩ := whole c1 p1
                  exact out cls d σ' G' L2 H' hx s2 (c2.perm pm2) (p2.perm (List.Perm.refl _) pm2) (fx.tail f1)
            | ok f τ1 =>
              simp only [q] at out
              unfold backB at out
              cases en : τ1[i]? with
              | none => simp only [en] at out; exact out.elim
              | some oo =>
                cases oo with
                | some _ => simp only [en] at out; exact out.elim
                | none =>
                  simp only [en] at out
                  have go : ∀ {P : Prop} {σ' : L2.St} {G' : Hp} {L' : Cl} {H' : Hp}, StoR X.K N G' τ1 σ' L' → Cells G' L' H' → Step G (A ++ C) H G' L' H' → Fx (i :: B) σ σ' → (∀ L2, StoR X.K N G' (τ1.set i (some (.lst (ds.map .val)))) σ' L2 → Cells G' L2 H' → Step G (A ++ ([(p, HO.lst vs)] ++ C)) H G' L2 H' → P) → P := by
                    intro P σ' G' L' H' s1 c1 p1 f1 k
                    obtain ⟨L2, pm2, s2⟩ := give p1.ex s1 en f1
                    obtain ⟨c2, p2⟩ := whole c1 p1
                    exact k L2 s2 (c2.perm pm2) (p2.perm (List.Perm.refl _) pm2)
                  cases f with
                  | nx => exact fun σ' G' L' H' s1 c1 p1 f1 => go s1 c1 p1 f1 fun L2 s2 c2 p2 => out σ' G' L2 H' s2 c2 p2 (fx.tail f1)
                  | bk => exact fun σ' G' L' H' s1 c1 p1 f1 => go s1 c1 p1 f1 fun L2 s2 c2 p2 => out σ' G' L2 H' s2 c2 p2 (fx.tail f1)
                  | ct => exact fun σ' G' L' H' s1 c1 p1 f1 => go s1 c1 p1 f1 fun L2 s2 c2 p2 => out σ' G' L2 H' s2 c2 p2 (fx.tail f1)
                  | rt o =>
                    intro v σ' G' Lv L' H' ho s1 c1 p1 f1
                    obtain ⟨L2, pm2, s2⟩ := give p1.ex s1 en f1
                    obtain ⟨c2, p2⟩ := whole c1 p1
                    have pm3 : ((Lv ++ L') ++ [(p, HO.lst vs)]).Perm (Lv ++ L2) := by
                      rw [List.append_assoc]
                      exact List.Perm.append_left Lv pm2
                    exact out v σ' G' Lv L2 H' ho s2 (c2.perm pm3) (p2.perm (List.Perm.refl _) pm3) (fx.tail f1)
          have pi : PI X tge (.Name x xp) (iList X.K (tVar i)) := pi_list (pe_var hN hv hd hcd)
          refine (ps_for po hc pi hg (hb σ) (fun _ => rfl)).run pins s σ H D I ?_
          refine ⟨_, hσ, p, rfl, ⟨vs, .inl (.inl hp)⟩, ?_⟩
          refine ⟨fun n m σ' H' => m = ds.length - n ∧ n ≤ ds.length ∧ ∃ τ' G' L', StoR X.K N G' τ' σ' L' ∧ Cells G' L' H' ∧ Step G (A ++ C) H G' L' H' ∧ Fx (i :: B) σ σ' ∧ OutS X.K N W (i :: B) σ G' L' H' D (forM tg mb (ds.drop n) τ'), ⟨_, rfl, Nat.zero_le _, _, G, A ++ C, st1, ceP.left, Step.refl, fun _ _ => rfl, goal2⟩, ?_⟩
          rintro n m σ2 H2 ⟨rfl, hn, τ2, G2, L2, st2, ce2, sp2, fx2, o2⟩
          have hp2 := still sp2
          have hsq : SqL X.K H2 p vs := .inl (.inl hp2)
          by_cases hlt : n < ds.length
          · have hlv : n < vs.length := by rw [← hR.len]; exact hlt
            have hvv : vs[n]? = some vs[n] := by simp [hlv]
            refine .inr ⟨⟨vs, vs[n], hsq, hvv⟩, fun σ' H' => n + 1 ≤ ds.length ∧ ∃ τ' G' L', StoR X.K N G' τ' σ' L' ∧ Cells G' L' H' ∧ Step G (A ++ C) H G' L' H' ∧ Fx (i :: B) σ σ' ∧ OutS X.K N W (i :: B) σ G' L' H' D (forM tg mb (ds.drop (n + 1)) τ'), fun σ' H' h => ⟨ds.length - (n + 1), by omega, rfl, h.1, h.2⟩, fun x H3 hy => ?_⟩
            obtain ⟨rfl, hy⟩ := hy
            have ex := hy vs hsq
            rw [hvv] at ex
            cases ex
            have hdn : ds[n]? = some ds[n] := by simp [hlt]
            obtain ⟨v', hv', hr'⟩ := hR.get hdn
            rw [hvv] at hv'
            cases hv'
            rw [List.drop_eq_getElem_cons hlt] at o2
            simp only [forM] at o2
            cases q : setTg τ2 tg ds[n] with
            | none => simp only [q] at o2; exact o2.elim
            | some τ3 =>
              simp only [q] at o2
              refine ht ds[n] vs[n] G2 L2 H3 τ2 τ3 σ2 _ q (hr'.mono sp2.ex) st2 ce2 fun σ4 La Lb pm4 st4 hj => ?_
              have ce4 := (ce2.perm pm4).left
              have sp4 : Step G2 L2 H3 G2 La H3 := (Step.refl.perm (List.Perm.refl _) pm4).sub fun p hp => List.mem_append_left _ hp
              have fx4 : Fx (i :: B) σ σ4 := fun j hjB => by
                rw [hj j fun z => hB j z hjB]
                exact fx2 j hjB
              refine ⟨τ3, G2, La, st4, ce4, fx4, ?_⟩
              cases e : mb τ3 with
              | bad => simp only [e] at o2; exact o2
              | ex y τ4 =>
                simp only [e] at o2
                exact fun cls d σ' G' L' H' hr st ce sp fx => o2 cls d σ' G' L' H' hr st ce (sp4.trans sp) fx
              | ok f τ4 =>
                simp only [e] at o2
                cases f with
                | nx => exact fun σ' G' L' H' st ce sp fx => ⟨hlt, τ4, G', L', st, ce, sp2.trans (sp4.trans sp), fx, o2.later (sp4.trans sp)⟩
                | ct => exact fun σ' G' L' H' st ce sp fx => ⟨hlt, τ4, G', L', st, ce, sp2.trans (sp4.trans sp), fx, o2.later (sp4.trans sp)⟩
                | bk => exact fun σ' G' L' H' st ce sp fx => o2 σ' G' L' H' st ce (sp4.trans sp) fx
                | rt o => exact fun v σ' G' Lv L' H' ho st ce sp fx => o2 v σ' G' Lv L' H' ho st ce (sp4.trans sp) fx
          · have e : n = ds.length := by omega
            subst e
            rw [List.drop_length] at o2
            exact .inl ⟨⟨vs, hsq, by rw [← hR.len]; exact Nat.le_refl _⟩, o2 σ2 G2 L2 H2 st2 ce2 Step.refl fx2⟩
end
end Tw
set_option maxHeartbeats 4000000
/-! The tree walk, part 19: the text says what the tree says. -/
namespace Tw
open PySem PySem.Spec PyProof.Rows L2 Evl
def Es.len : Es → Nat
  | .nil => 0
  | .cons _ es => es.len + 1
def isAO : E → Bool
  | .and _ _ => true
  | .or _ _ => true
  | _ => false
/-- the class that isinstance asks for -/
def tyC (Q : Pg) (c : Sc) (y : Ty) : Expr → Bool
  | .Name x _ => gl c x && (match y with
    | .own i => decide (Q.cnm i = some x)
    | .int => decide (x = ("int" : Str)) && Q.free x
    | .bool => decide (x = ("bool" : Str)) && Q.free x
    | .str => decide (x = ("str" : Str)) && Q.free x
    | .list => decide (x = ("list" : Str)) && Q.free x
    | .tuple => decide (x = ("tuple" : Str)) && Q.free x
    | .valueError => decide (x = ("ValueError" : Str)) && Q.free x
    | _ => false)
  | _ => false
def tysC (Q : Pg) (c : Sc) : List Ty → List Expr → Bool
  | [], [] => true
  | y :: ys, e :: es => tyC Q c y e && tysC Q c ys es
  | _, _ => false
/-- a built-in function's name -/
def biC (Q : Pg) (b : Bi) (x : Str) : Bool := (match b with
    | .isqrt => false
    | .gcd => false
    | .max2 => decide (x = ("max" : Str)) && Q.free x
    | .min2 => decide (x = ("min" : Str)) && Q.free x
    | .len => decide (x = ("len" : Str)) && Q.free x
    | .abs => decide (x = ("abs" : Str)) && Q.free x
    | .int => decide (x = ("int" : Str)) && Q.free x
    | .bool => decide (x = ("bool" : Str)) && Q.free x
    | .str => decide (x = ("str" : Str)) && Q.free x
    | .sum => decide (x = ("sum" : Str)) && Q.free x
    | .list => decide (x = ("list" : Str)) && Q.free x
    | .tuple => decide (x = ("tuple" : Str)) && Q.free x) || decide (Q.imp b = some x)
/-- the block of a comprehension -/
def relN (c : Sc) (sc : Scope) : List (Str × NameKind) := sc.names.map fun (n, k) => if (k == .free && c.nm.lookup n == some .cell) then (n, .cell) else (n, k)
def blkC (c : Sc) (sc : Scope) : Sc := ⟨c.N, relN c sc, fun x => sc.names.lookup x == some .cell, c.hot⟩
def blkB (c : Sc) (sc : Scope) (own : List (Str × Nat)) : Bool :=
  decide (sc.kind = .function) && (sc.names.all (fun y => decide (sc.names.lookup y.1 = some y.2)) && (own.all (fun p => decide (c.N[p.2]? = some p.1)) &&
    (sc.names.all (fun y => !decide (y.2 = .free) || (decide (c.nm.lookup y.1 = some .cell) || decide (c.nm.lookup y.1 = some .free))) &&
      sc.names.all (fun y => !(decide (y.2 = .local) || decide (y.2 = .cell)) || (decide (y.1 ∈ own.map (·.1)) || decide (y.1 ∉ c.N))))))
/-- a loop's names -/
def tgC (c : Sc) : List Nat → Expr → Bool
  | [i], .Name x _ => wr c i x
  | tg, .Tuple ts _ _ => decide (tg.length ≠ 1) && (decide (tg.length = ts.length) && (tg.zip ts).all fun p => match p.2 with
    | .Name x _ => wr c p.1 x
    | _ => false)
  | _, _ => false
/-- the own names of a block, with their slots -/
def ownP (c : Sc) (ow : List Nat) : List (Str × Nat) := ow.map fun i => (c.N.getD i Str.empty, i)
/-- a constant part of an f-string -/
def strE (a : E) (e : Expr) : Bool := match a, e with
  | .str k, .Constant (.str j) _ _ => decide (k = j)
  | _, _ => false
mutual
def chk (Q : Pg) : E → Sc → Expr → Bool
  | .never => fun _ e => !isBoolOp e
  | .var i => fun c e => match e with
    | .Name x _ => rd c i x
    | _ => false
  | .fv i => fun c e => match e with
    | .Name x _ => rd c i x
    | _ => false
  | .mov i => fun c e => match e with
    | .Name x _ => rd c i x
    | _ => false
  | .int k => fun _ e => match e with
    | .Constant (.int j) _ _ => decide (k = j)
    | _ => false
  | .bl k => fun _ e => match e with
    | .Constant (.bool j) _ _ => decide (k = j)
    | _ => false
  | .non => fun _ e => match e with
    | .Constant .none _ _ => true
    | _ => false
  | .str k => fun _ e => match e with
    | .Constant (.str j) _ _ => decide (k = j)
    | _ => false
  | .con i => fun c e => match e with
    | .Name x _ => gl c x && decide (Q.con i = some x)
    | _ => false
  | .bin op a b => fun c e => match e with
    | .BinOp x o y _ => decide (pyOp op = o) && (chk Q a c x && chk Q b c y)
    | _ => false
  | .neg a => fun c e => match e with
    | .UnaryOp .USub x _ => chk Q a c x
    | _ => false
  | .cmp op a b => fun c e => match e with
    | .Compare x [o] [y] _ => decide (pyCm op = o) && (chk Q a c x && (chk Q b c y && noSet y))
    | _ => false
  | .chain o1 o2 a b d => fun c e => match e with
    | .Compare x [p1, p2] [y, z] _ => decide (pyCm o1 = p1) && (decide (pyCm o2 = p2) && (chk Q a c x && (chk Q b c y && (chk Q d c z && noSet z))))
    | _ => false
  | .and a b => fun c e => match e with
    | .BoolOp .And [x, y] _ => chk Q a c x && chk Q b c y
    | .BoolOp .And (x :: y :: z :: r) p => chk Q a c x && (isAO b && chk Q b c (.BoolOp .And (y :: z :: r) p))
    | _ => false
  | .or a b => fun c e => match e with
    | .BoolOp .Or [x, y] _ => chk Q a c x && chk Q b c y
    | .BoolOp .Or (x :: y :: z :: r) p => chk Q a c x && (isAO b && chk Q b c (.BoolOp .Or (y :: z :: r) p))
    | _ => false
  | .not a => fun c e => match e with
    | .UnaryOp .Not x _ => chk Q a c x
    | _ => false
  | .ite t a b => fun c e => match e with
    | .IfExp u x y _ => chk Q t c u && (chk Q a c x && chk Q b c y)
    | _ => false
  | .call f as => fun c e => match e with
    | .Call (.Name x _) es [] _ => !c.hot && (gl c x && (decide (Q.fnm f = some (x, es.length)) && chks Q as c es))
    | _ => false
  | .new i as => fun c e => match e with
    | .Call (.Name x _) es [] _ => !c.hot && (gl c x && (decide (Q.cnm i = some x) && (Q.cin i && chks Q as c es)))
    | _ => false
  | .meth a m as => fun c e => match e with
    | .Call (.Attribute x n ap) es [] p => !c.hot && (decide (Q.fld m = n) && (chk Q a c x && (noCall0 x && (chks Q as c es && mForm es ap p))))
    | _ => false
  | .stat i m as => fun c e => match e with
    | .Call (.Attribute (.Name x _) n ap) es [] p => !c.hot && (gl c x && (decide (Q.cnm i = some x) && (decide (Q.fld m = n) && (Q.stt i m && (chks Q as c es && mForm es ap p)))))
    | _ => false
  | .callK f as ks ar => fun c e => match e with
    | .Call (.Name x _) es kws _ => !c.hot && (gl c x && (chks Q as c es && (chkk Q ks c kws && (match kwN kws, Q.fnm f with
      | some names, some (y, n) => decide (y = x) && Q.kbs f es.length names ar
      | _, _ => false))))
    | _ => false
  | .newK i as ks ar => fun c e => match e with
    | .Call (.Name x _) es kws _ => !c.hot && (gl c x && (chks Q as c es && (chkk Q ks c kws && (match kwN kws with
      | some names => decide (Q.cnm i = some x) && Q.kbi i es.length names ar
      | _ => false))))
    | _ => false
  | .attr a f => fun c e => match e with
    | .Attribute x n _ => decide (Q.fld f = n) && (chk Q a c x && noCall0 x)
    | _ => false
  | .prop a f => fun c e => match e with
    | .Attribute x n _ => !c.hot && (decide (Q.fld f = n) && (chk Q a c x && noCall0 x))
    | _ => false
  | .sub a i => fun c e => match e with
    | .Subscript x y _ => chk Q a c x && (chk Q i c y && noSlice y)
    | _ => false
  | .slice a lo hi => fun c e => match e with
    | .Subscript x (.Slice l h none _) _ => chk Q a c x && ((match l with
      | none => isNonE lo
      | some l => !isNonE lo && chk Q lo c l) && (match h with
      | none => isNonE hi
      | some h => !isNonE hi && chk Q hi c h))
    | _ => false
  | .tup as => fun c e => match e with
    | .Tuple es _ _ => chks Q as c es
    | _ => false
  | .lst as => fun c e => match e with
    | .List es _ => chks Q as c es
    | _ => false
  | .blt b as => fun c e => match e with
    | .Call (.Name x _) (y :: es) [] _ => !c.hot && (gl c x && (biC Q b x && chks Q as c (y :: es)))
    | _ => false
  | .isin a ts => fun c e => match e with
    | .Call (.Name x _) [y, t] [] _ => gl c x && (decide (x = ("isinstance" : Str)) && (Q.free x && (chk Q a c y && (noStar y && (match ts with
      | [u] => tyC Q c u t
      | us => (match t with
        | .Tuple cs _ _ => decide (us ≠ []) && (decide (us.length ≤ lim) && tysC Q c us cs)
        | _ => false))))))
    | _ => false
  | .comp ow it tg cd el => fun c e => match e with
    | .ListComp elt [⟨tge, iter, ifs, 0⟩] sc _ => !c.hot && (blkB c sc (ownP c ow) && (tgC (blkC c sc) tg tge && (tg.all (fun i => decide (i ∈ ow)) && (chkI Q it c iter && (chk Q el (blkC c sc) elt && (match ifs with
      | [] => (match cd with
        | .bl true => true
        | _ => false)
      | [t] => chk Q cd (blkC c sc) t
      | _ => false))))))
    | _ => false
  | .hcall f as => fun c e => match e with
    | .Call (.Name x _) es [] _ => c.hot && (gl c x && (decide (Q.hfn f = some (x, es.length)) && chks Q as c es))
    | _ => false
  | .fstr as => fun c e => match e with
    | .JoinedStr (v1 :: v2 :: es) _ => chkj Q as c (v1 :: v2 :: es)
    | _ => false
  | .smeth m a as => fun c e => match e with
    | .Call (.Attribute x n ap) es [] p => chk Q a c x && (noCall0 x && ((ap.endLine == p.line) && (chks Q as c es && (match m, es with
      | 0, [] => decide (n = ("isdigit" : Str))
      | 1, [_] => decide (n = ("split" : Str))
      | _, _ => false))))
    | _ => false
def chks (Q : Pg) : Es → Sc → List Expr → Bool
  | .nil => fun _ es => match es with
    | [] => true
    | _ => false
  | .cons a as => fun c es => match es with
    | e :: es => chk Q a c e && (noStar e && chks Q as c es)
    | _ => false
def chkj (Q : Pg) : Es → Sc → List Expr → Bool
  | .nil => fun _ es => match es with
    | [] => true
    | _ => false
  | .cons a as => fun c es => match es with
    | .FormattedValue x cv none _ :: es => decide (cv = -1) && (chk Q a c x && chkj Q as c es)
    | e :: es => strE a e && chkj Q as c es
    | [] => false
def chkk (Q : Pg) : Es → Sc → List Keyword → Bool
  | .nil => fun _ es => match es with
    | [] => true
    | _ => false
  | .cons a as => fun c es => match es with
    | ⟨some _, e, _⟩ :: es => chk Q a c e && chkk Q as c es
    | _ => false
def chkI (Q : Pg) : It → Sc → Expr → Bool
  | .rng1 a => fun c e => match e with
    | .Call (.Name x _) [y] [] _ => gl c x && (decide (x = ("range" : Str)) && (Q.free x && (chk Q a c y && noStar y)))
    | _ => false
  | .rng2 a b => fun c e => match e with
    | .Call (.Name x _) [y, z] [] _ => gl c x && (decide (x = ("range" : Str)) && (Q.free x && (chk Q a c y && (noStar y && (chk Q b c z && noStar z)))))
    | _ => false
  | .rng3 _ _ _ => fun _ _ => false
  | .seq a => fun c e => chk Q a c e && noSet e
  | .enum _ => fun _ _ => false
  | .zip _ _ => fun _ _ => false
  | .rev _ => fun _ _ => false
  | .bor _ => fun _ _ => false
end
end Tw
set_option maxHeartbeats 4000000
/-! The tree walk, part 20: the text says what the tree says, proved for expressions. -/
namespace Tw
open PySem PySem.Spec PyProof.Rows L2 Evl
structure Snd (X : Cx) (N : Nm) (T : Tb) (cl : CallT) (cur : Option (CallT × Bool)) (W : WX) (a : E) (e : Expr) : Prop where
  pe : PE X e (tE X.K N W (dn T cl cur a).1)
  pt : PT X e (tB X.K N W (dn T cl cur a).2)
  pw : isBoolOp e = true → PW X e (tB X.K N W (dn T cl cur a).2)
section
variable {N : Nm} {T : Tb} {rcl cl : CallT} {cur : Option (CallT × Bool)} {Q : Pg} {k : Nat}
theorem bi_name {X : Cx} {c : Sc} {W : WX} (o : XOk X N T rcl cl cur Q k c W) (hc : (!c.hot) = true) {b : Bi} {x : Str} {p pos : Pos} {e : Expr} {es : List Expr} {ms : M (List Rv)} (hg : gl c x = true) (hb : biC Q b x = true) (ha : PA X (e :: es) (tAs X.K N W ms)) (hs : (e :: es).all noStar = true) :
    PE X (.Call (.Name x p) (e :: es) [] pos) (tE X.K N W (bnd ms fun rs => doBlt T cl b rs)) := by
  obtain ⟨g1, g2⟩ := o.gl hg
  have run := fun (pins : List (Addr × Obj)) (s : Shared) (rs : List Rv) (vs : List V) (us : List Value) (σ : L2.St) (G : Hp) (L : Cl) (H : Hp) (τ : Sto) (Q' : VK) (I : Inv X pins σ H s) (rv : Vals vs us) (hr : OpsR X.K N G σ rs vs []) (st : StoR X.K N G τ σ L) (ce : Cells G L H) (out : Out X.K N W (RvR X.K N) σ G L H Q' (doBlt T cl b rs τ)) => blt_run o.facts.una (o.cold hc).calm (b := b) I rv hr st ce out
  unfold biC at hb
  rw [Bool.or_eq_true] at hb
  rcases hb with hb | hb
  · cases b <;> simp only [Bool.and_eq_true, decide_eq_true_eq, Bool.false_eq_true] at hb
    all_goals (obtain ⟨rfl, hf⟩ := hb)
    all_goals exact pe_bltA (by first | exact .inl ⟨_, rfl⟩ | exact .inr ⟨_, rfl⟩) g1 (o.g.free _ hf) (by rfl) (by decide) g2 ha (plain_ok hs) run
  · obtain ⟨h1, id, h2⟩ := o.g.imp b x (of_decide_eq_true hb)
    rw [h2] at h1
    exact pe_bltB g1 h1 g2 ha (plain_ok hs) fun pins s rs vs us σ G L H τ Q' I rv hr st ce out => by
      rw [← h2]
      exact run pins s rs vs us σ G L H τ Q' I rv hr st ce out
theorem ty_name {X : Cx} {c : Sc} {W : WX} (o : XOk X N T rcl cl cur Q k c W) {y : Ty} {e : Expr} (h : tyC Q c y e = true) : PE X e (tC (tyW N y)) ∧ noStar e = true := by
  unfold tyC at h
  split at h
  · rename_i x p
    rw [Bool.and_eq_true] at h
    obtain ⟨hg, h⟩ := h
    obtain ⟨g1, g2⟩ := o.gl hg
    refine ⟨?_, rfl⟩
    cases y <;> simp only [Bool.and_eq_true, decide_eq_true_eq, Bool.false_eq_true] at h
    case own i => exact pe_glob g1 (o.g.cls _ _ h) rfl g2
    all_goals (obtain ⟨rfl, hf⟩ := h)
    all_goals exact pe_bltn g1 (o.g.free _ hf) (by rfl) rfl (by decide) g2
  · exact absurd h Bool.false_ne_true
theorem ty_names {X : Cx} {c : Sc} {W : WX} (o : XOk X N T rcl cl cur Q k c W) : ∀ {ys : List Ty} {es : List Expr}, tysC Q c ys es = true → Paired (fun c t => PE X c (tC (tyW N t))) es ys ∧ ∀ e ∈ es, NoStar X e
  | [], [], _ => ⟨.nil, fun e h => by simp at h⟩
  | [], _ :: _, h => absurd h Bool.false_ne_true
  | _ :: _, [], h => absurd h Bool.false_ne_true
  | y :: ys, e :: es, h => by
    simp only [tysC, Bool.and_eq_true] at h
    obtain ⟨h1, h2⟩ := ty_name o h.1
    obtain ⟨h3, h4⟩ := ty_names o h.2
    refine ⟨.cons h1 h3, fun e' he => ?_⟩
    rcases List.mem_cons.mp he with rfl | he
    · exact noStar_ok h2
    · exact h4 e' he
/-- the block of a comprehension, as a context -/
theorem XOk.blk {X : Cx} {c : Sc} {W : WX} (o : XOk X N T rcl cl cur Q k c W) (hc : (!c.hot) = true) {sc : Scope} {own : List (Str × Nat)} (hb : blkB c sc own = true) (s : Shared) (H : Hp) (C : Addr) (cs : List (Str × Addr)) (fp : List Addr) : XOk (X.blk s H sc (compEnvC sc cs C X.env) fp) N T rcl cl cur Q k (blkC c sc) W0 := by
  unfold blkB at hb
  simp only [Bool.and_eq_true, decide_eq_true_eq] at hb
  exact {
    g := o.g
    room := o.room
    tk := fun u s' ⟨_, _, _, _, _, _, _, _, _, _, _, _, _, _, _, _, w⟩ => w.elim
    po := PassesOwn.never
    md := .inl (let C := o.cold hc; ⟨(by simpa using hc : c.hot = false), C.cl, C.cur, C.calm, C.hd, C.exa⟩)
    nd := o.nd
    hN := o.hN
    hs := by
      show (relabel sc X.env).names = relN c sc
      unfold relabel relN
      simp only [Env.kindOf, o.kd, o.hs, beq_self_eq_true, Bool.and_true]
    kd := hb.1
    hfn := fun x h => h }
theorem XOk.blkOk {X : Cx} {c : Sc} {W : WX} (o : XOk X N T rcl cl cur Q k c W) {sc : Scope} {own : List (Str × Nat)} (hb : blkB c sc own = true) : BlkOk X.N X.env.scope sc own := by
  unfold blkB at hb
  simp only [Bool.and_eq_true, decide_eq_true_eq, List.all_eq_true, Bool.or_eq_true, Bool.not_eq_true', decide_eq_false_iff_not] at hb
  obtain ⟨h1, h2, h3, h4, h5⟩ := hb
  refine ⟨h1, fun y hy => h2 y hy, fun p hp => by rw [o.hN]; exact h3 p hp, fun y hy e => ?_, fun y hy e => ?_⟩
  · rw [o.hs]
    rcases h4 y hy with h | h
    · exact absurd e h
    · exact h
  · rw [o.hN]
    rcases h5 y hy with h | h
    · simp only [Bool.or_eq_false_iff, decide_eq_false_iff_not] at h
      rcases e with e | e
      · exact absurd e h.1
      · exact absurd e h.2
    · exact h
/-! targets -/
def tgG (K : PySem.W.Frag) (tg : List Nat) : Expr → TG
  | .Name _ _ => gName (tg.getD 0 0)
  | _ => gTup K tg.length (tg.foldr (fun i u => gCons (gName i) u) gNil)
theorem tg_pairs {X : Cx} {c : Sc} {W : WX} (o : XOk X N T rcl cl cur Q k c W) : ∀ {tg : List Nat} {ts : List Expr}, tg.length = ts.length → ((tg.zip ts).all fun p => match p.2 with
    | .Name x _ => wr c p.1 x
    | _ => false) = true → Paired (fun t i => ∃ (x : Str) (p : Pos), t = .Name x p ∧ X.N[i]? = some x ∧ L2.Loc X.env.scope x ∧ (X.fn x = true ∨ X.env.scope.names.lookup x = some .local)) ts tg
  | [], [], _, _ => .nil
  | [], _ :: _, h, _ => by cases h
  | _ :: _, [], h, _ => by cases h
  | i :: tg, t :: ts, h, ha => by
    rw [List.zip_cons_cons, List.all_cons, Bool.and_eq_true] at ha
    obtain ⟨h1, h2⟩ := ha
    refine .cons ?_ (tg_pairs o (by simpa using h) h2)
    simp only at h1
    split at h1
    · rename_i x p
      obtain ⟨w1, w2, w3⟩ := o.wr h1
      exact ⟨x, p, rfl, w1, w2, w3⟩
    · exact absurd h1 Bool.false_ne_true
theorem tg_pg {X : Cx} {c : Sc} {W : WX} (o : XOk X N T rcl cl cur Q k c W) (hc : (!c.hot) = true) {tg : List Nat} {e : Expr} (h : tgC c tg e = true) : PG X e (tgG X.K tg e) ∧ TgOk X N (tgG X.K tg e) tg := by
  unfold tgC at h
  split at h
  · rename_i i x p
    obtain ⟨w1, w2, w3⟩ := o.wr h
    exact ⟨pg_name o.nd w1 w2 w3, tg_one⟩
  · rename_i tg' ts kk p _
    simp only [Bool.and_eq_true, decide_eq_true_eq] at h
    obtain ⟨h1, h2, h3⟩ := h
    have hp := tg_pairs o h2 h3
    obtain ⟨l1, l2⟩ := each_names hp
    exact ⟨pg_tup (o.cold hc).calm (pgs_names hp o.nd) l1 l2, tg_tup h1⟩
  · exact absurd h Bool.false_ne_true
theorem tg_names {X : Cx} {c : Sc} {W : WX} (o : XOk X N T rcl cl cur Q k c W) {tg : List Nat} {ts : List Expr} {kk : Nat} {p : Pos} (h : tgC c tg (.Tuple ts kk p) = true) : tg.length ≠ 1 ∧ Paired (fun t i => ∃ (x : Str) (p : Pos), t = .Name x p ∧ X.N[i]? = some x ∧ L2.Loc X.env.scope x ∧ (X.fn x = true ∨ X.env.scope.names.lookup x = some .local)) ts tg := by
  have h' : (decide (tg.length ≠ 1) && (decide (tg.length = ts.length) && (tg.zip ts).all fun p => match p.2 with
    | .Name x _ => wr c p.1 x
    | _ => false)) = true := by
    unfold tgC at h
    split at h
    · rename_i e
      cases e
    · rename_i e
      cases e
      exact h
    · exact absurd h Bool.false_ne_true
  simp only [Bool.and_eq_true, decide_eq_true_eq] at h'
  exact ⟨h'.1, tg_pairs o h'.2.1 h'.2.2⟩
theorem ownP_snd {c : Sc} : ∀ {ow : List Nat}, (ownP c ow).map (·.2) = ow
  | [] => rfl
  | i :: ow => by
    show i :: (ownP c ow).map (·.2) = i :: ow
    rw [ownP_snd]
/-! ### lengths -/
theorem dns_len {cur : Option (CallT × Bool)} : ∀ {as : Es} {τ τ' : Sto} {rs : List Rv}, dns T cl cur as τ = .ok rs τ' → rs.length = as.len
  | .nil, τ, τ', rs, h => by
    simp only [dns] at h
    cases h
    rfl
  | .cons a as, τ, τ', rs, h => by
    simp only [dns, bnd] at h
    cases q : opd (dn T cl cur a).1 τ with
    | bad => rw [q] at h; cases h
    | ex x τ1 => rw [q] at h; cases h
    | ok r τ1 =>
      rw [q] at h
      simp only at h
      cases q2 : dns T cl cur as τ1 with
      | bad => rw [q2] at h; cases h
      | ex x τ2 => rw [q2] at h; cases h
      | ok rs2 τ2 =>
        rw [q2] at h
        simp only at h
        cases h
        simp [Es.len, dns_len q2]
theorem chks_len : ∀ {as : Es} {c : Sc} {es : List Expr}, chks Q as c es = true → es.length = as.len ∧ es.all noStar = true
  | .nil, c, es, h => by
    simp only [chks] at h
    cases es with
    | nil => exact ⟨rfl, rfl⟩
    | cons _ _ => exact absurd h Bool.false_ne_true
  | .cons a as, c, es, h => by
    simp only [chks] at h
    cases es with
    | nil => exact absurd h Bool.false_ne_true
    | cons e es =>
      simp only [Bool.and_eq_true] at h
      obtain ⟨h1, h2, h3⟩ := h
      obtain ⟨l1, l2⟩ := chks_len h3
      exact ⟨by simp [Es.len, l1], by rw [List.all_cons, h2, l2]; rfl⟩
theorem chkk_len : ∀ {as : Es} {c : Sc} {es : List Keyword} {ks : List Str}, chkk Q as c es = true → kwN es = some ks → as.len = ks.length
  | .nil, c, es, ks, h, hk => by
    simp only [chkk] at h
    cases es with
    | nil =>
      cases hk
      rfl
    | cons _ _ => exact absurd h Bool.false_ne_true
  | .cons a as, c, es, ks, h, hk => by
    simp only [chkk] at h
    split at h
    · rename_i n e p es'
      rw [Bool.and_eq_true] at h
      obtain ⟨l, e1, rfl⟩ := Option.map_eq_some_iff.mp (show (kwN es').map (n :: ·) = some ks from hk)
      simp [Es.len, chkk_len h.2 e1]
    · exact absurd h Bool.false_ne_true
end
end Tw
set_option maxHeartbeats 4000000
/-! The tree walk, part 21: the checker is sound for expressions. -/
namespace Tw
open PySem PySem.Spec PyProof.Rows L2 Evl
section
variable {N : Nm} {T : Tb} {rcl cl : CallT} {cur : Option (CallT × Bool)} {Q : Pg} {k : Nat}
theorem snd_plain {X : Cx} {W : WX} {a : E} {e : Expr} {m : M Rv} (hd : dn T cl cur a = (m, tru m)) (pe : PE X e (tE X.K N W m)) (ht : plainT e = true) : Snd X N T cl cur W a e := by
  refine ⟨by rw [hd]; exact pe, by rw [hd]; exact pt_tru pe (plainT_ok ht), fun h => ?_⟩
  cases e <;> first | (exact absurd h Bool.false_ne_true) | (exact absurd ht Bool.false_ne_true)
theorem snd_lit {X : Cx} {W : WX} {a : E} {e : Expr} {m : M Rv} (hd : dn T cl cur a = (m, fun _ => .bad)) (pe : PE X e (tE X.K N W m)) (hb : isBoolOp e = false) : Snd X N T cl cur W a e := by
  refine ⟨by rw [hd]; exact pe, by rw [hd]; exact pt_bad, fun h => ?_⟩
  rw [hb] at h
  exact absurd h Bool.false_ne_true
theorem tg_ok {X : Cx} {c : Sc} {tg : List Nat} {e : Expr} (h : tgC c tg e = true) : TgOk X N (tgG X.K tg e) tg := by
  unfold tgC at h
  split at h
  · exact tg_one
  · simp only [Bool.and_eq_true, decide_eq_true_eq] at h
    exact tg_tup h.1
  · exact absurd h Bool.false_ne_true
theorem pe_bad {X : Cx} {W : WX} {e : Expr} : PE X e (tE X.K N W fun _ => .bad) := ⟨fun pins s σ H Q I h => by
  obtain ⟨τ, G, L, st, ce, out⟩ := h
  exact out.elim⟩
theorem dns_nil {as : Es} {c : Sc} {es : List Expr} (h : chks Q as c es = true) : es = [] → dns T cl cur as = fun τ => .ok [] τ := by
  intro he
  have l := (chks_len h).1
  rw [he] at l
  cases as with
  | nil => funext τ; simp only [dns]
  | cons _ _ => exact absurd l (by simp [Es.len])
theorem nomark_pt {X : Cx} {e : Expr} {t : TT} (h : PT X e t) (hp : plainT e = true) : PT X e t := h
theorem strE_ok {X : Cx} {a : E} {e : Expr} (h : strE a e = true) : ∃ k, a = .str k ∧ PE X e (fun _ H Q => Q (.str k) H) := by
  unfold strE at h
  split at h
  · rw [decide_eq_true_eq] at h
    subst h
    exact ⟨_, rfl, pe_str⟩
  · exact absurd h Bool.false_ne_true
mutual
theorem snd : ∀ (a : E) {X : Cx} {W : WX} {c : Sc} {e : Expr}, XOk X N T rcl cl cur Q k c W → chk Q a c e = true → Snd X N T cl cur W a e
  | .never, X, W, c, e, o, h => by
    simp only [chk, Bool.not_eq_true'] at h
    exact snd_lit (by simp only [dn]; first | done | rfl) pe_bad h
  | .var i, X, W, c, e, o, h => by
    simp only [chk] at h
    split at h
    · obtain ⟨h1, h2, h3, h4⟩ := o.rd h
      exact snd_plain (by simp only [dn]; first | done | rfl) (pe_slot h1 h2 h3 h4) rfl
    · exact absurd h Bool.false_ne_true
  | .fv i, X, W, c, e, o, h => by
    simp only [chk] at h
    split at h
    · obtain ⟨h1, h2, h3, h4⟩ := o.rd h
      exact snd_plain (by simp only [dn]; first | done | rfl) (pe_fv h1 h2 h3 h4) rfl
    · exact absurd h Bool.false_ne_true
  | .mov i, X, W, c, e, o, h => by
    simp only [chk] at h
    split at h
    · obtain ⟨h1, h2, h3, h4⟩ := o.rd h
      exact snd_lit (by simp only [dn]; first | done | rfl) (pe_mov h1 h2 h3 h4) rfl
    · exact absurd h Bool.false_ne_true
  | .int j, X, W, c, e, o, h => by
    simp only [chk] at h
    split at h
    · rw [decide_eq_true_eq] at h
      subst h
      exact snd_lit (by simp only [dn]; first | done | rfl) (pe_lit (d := .int j) pe_int fun _ => rfl) rfl
    · exact absurd h Bool.false_ne_true
  | .bl j, X, W, c, e, o, h => by
    simp only [chk] at h
    split at h
    · rw [decide_eq_true_eq] at h
      subst h
      have p : ∀ {j' : Nat} {p' : Pos}, PE X (.Constant (.bool j) j' p') (tE X.K N W fun τ => .ok (.own (.val (.bl j))) τ) := pe_lit (d := .bl j) pe_bl fun _ => rfl
      refine ⟨by simp only [dn]; exact p, ?_, fun h => absurd h Bool.false_ne_true⟩
      simp only [dn]
      exact pt_tru p (plainT_ok rfl)
    · exact absurd h Bool.false_ne_true
  | .non, X, W, c, e, o, h => by
    simp only [chk] at h
    split at h
    · exact snd_lit (by simp only [dn]; first | done | rfl) (pe_lit (d := .non) pe_non fun _ => rfl) rfl
    · exact absurd h Bool.false_ne_true
  | .str j, X, W, c, e, o, h => by
    simp only [chk] at h
    split at h
    · rw [decide_eq_true_eq] at h
      subst h
      exact snd_lit (by simp only [dn]; first | done | rfl) (pe_lit (d := .str j) pe_str fun _ => rfl) rfl
    · exact absurd h Bool.false_ne_true
  | .con i, X, W, c, e, o, h => by
    simp only [chk] at h
    split at h
    · simp only [Bool.and_eq_true, decide_eq_true_eq] at h
      obtain ⟨g1, g2⟩ := o.gl h.1
      obtain ⟨u, v, h1, h2, h3⟩ := o.g.con _ _ h.2
      exact snd_lit (by simp only [dn]; first | done | rfl) (pe_lit (pe_glob g1 h1 h2 g2) fun G => by have := h3 N.exa G; rwa [show ((N.at_ none).at_ N.exa) = N from by cases N; rfl] at this) rfl
    · exact absurd h Bool.false_ne_true
  | .bin op a b, X, W, c, e, o, h => by
    simp only [chk] at h
    split at h
    · simp only [Bool.and_eq_true, decide_eq_true_eq] at h
      obtain ⟨rfl, h1, h2⟩ := h
      exact snd_plain (by simp only [dn]; first | done | rfl) (pe_bin o.facts (snd a o h1).pe (snd b o h2).pe) rfl
    · exact absurd h Bool.false_ne_true
  | .neg a, X, W, c, e, o, h => by
    simp only [chk] at h
    split at h
    · exact snd_plain (by simp only [dn]; first | done | rfl) (pe_neg o.facts (snd a o h).pe) rfl
    · exact absurd h Bool.false_ne_true
  | .cmp op a b, X, W, c, e, o, h => by
    simp only [chk] at h
    split at h
    · simp only [Bool.and_eq_true, decide_eq_true_eq] at h
      obtain ⟨rfl, h1, h2, h3⟩ := h
      refine ⟨?_, ?_, fun h => absurd h Bool.false_ne_true⟩
      · simp only [dn]
        exact pe_cmp' o.facts o.deqs (snd a o h1).pe (snd b o h2).pe (noSet_in h3 _)
      · simp only [dn]
        exact pt_cmp' o.facts o.deqs (snd a o h1).pe (snd b o h2).pe (noSet_in h3 _)
    · exact absurd h Bool.false_ne_true
  | .chain o1 o2 a b d, X, W, c, e, o, h => by
    simp only [chk] at h
    split at h
    · simp only [Bool.and_eq_true, decide_eq_true_eq] at h
      obtain ⟨rfl, rfl, h1, h2, h3, h4⟩ := h
      refine ⟨?_, ?_, fun h => absurd h Bool.false_ne_true⟩
      · simp only [dn]
        exact chain_run o.facts o.deqs (snd a o h1).pe (snd b o h2).pe (snd d o h3).pe (noSet_last h4)
      · simp only [dn]
        exact pt_chain' o.facts o.deqs (snd a o h1).pe (snd b o h2).pe (snd d o h3).pe (noSet_last h4)
    · exact absurd h Bool.false_ne_true
  | .and a b, X, W, c, e, o, h => by
    simp only [chk] at h
    split at h
    · rename_i x y p
      rw [Bool.and_eq_true] at h
      have A := snd a o h.1
      have B := snd b o h.2
      have w : PW X (.BoolOp .And [x, y] p) (tB X.K N W (dn T cl cur (.and a b)).2) := by
        simp only [dn]
        exact pw_and' A.pt (pw_and1 B.pt)
      refine ⟨?_, w.pt, fun _ => w⟩
      simp only [dn]
      exact pe_and' A.pe (pe_one B.pe)
    · rename_i x y z r p
      simp only [Bool.and_eq_true] at h
      have A := snd a o h.1
      have B := snd b o h.2.2
      have w : PW X (.BoolOp .And (x :: y :: z :: r) p) (tB X.K N W (dn T cl cur (.and a b)).2) := by
        simp only [dn]
        exact pw_and' A.pt (B.pw rfl)
      refine ⟨?_, w.pt, fun _ => w⟩
      simp only [dn]
      exact pe_and' A.pe B.pe
    · exact absurd h Bool.false_ne_true
  | .or a b, X, W, c, e, o, h => by
    simp only [chk] at h
    split at h
    · rename_i x y p
      rw [Bool.and_eq_true] at h
      have A := snd a o h.1
      have B := snd b o h.2
      have w : PW X (.BoolOp .Or [x, y] p) (tB X.K N W (dn T cl cur (.or a b)).2) := by
        simp only [dn]
        exact pw_or' A.pt (pw_or1 B.pt)
      refine ⟨?_, w.pt, fun _ => w⟩
      simp only [dn]
      exact pe_or' A.pe (pe_one B.pe)
    · rename_i x y z r p
      simp only [Bool.and_eq_true] at h
      have A := snd a o h.1
      have B := snd b o h.2.2
      have w : PW X (.BoolOp .Or (x :: y :: z :: r) p) (tB X.K N W (dn T cl cur (.or a b)).2) := by
        simp only [dn]
        exact pw_or' A.pt (B.pw rfl)
      refine ⟨?_, w.pt, fun _ => w⟩
      simp only [dn]
      exact pe_or' A.pe B.pe
    · exact absurd h Bool.false_ne_true
  | .not a, X, W, c, e, o, h => by
    simp only [chk] at h
    split at h
    · have A := snd a o h
      refine ⟨?_, ?_, fun h => absurd h Bool.false_ne_true⟩
      · simp only [dn]
        exact pe_not' A.pe
      · simp only [dn]
        exact pt_not' A.pt
    · exact absurd h Bool.false_ne_true
  | .ite t a b, X, W, c, e, o, h => by
    simp only [chk] at h
    split at h
    · simp only [Bool.and_eq_true] at h
      exact snd_lit (by simp only [dn]; first | done | rfl) (pe_if' (snd t o h.1).pt (snd a o h.2.1).pe (snd b o h.2.2).pe) rfl
    · exact absurd h Bool.false_ne_true
  | .call f as, X, W, c, e, o, h => by
    simp only [chk] at h
    split at h
    · simp only [Bool.and_eq_true, decide_eq_true_eq] at h
      obtain ⟨hc, h1, h2, h3⟩ := h
      obtain ⟨g1, g2⟩ := o.gl h1
      obtain ⟨fa, m1, F, _⟩ := o.fnAt hc h2
      refine snd_plain (by simp only [dn]; first | done | rfl) (pe_call' F o.tk g1 m1 g2 (snds as o h3).1 (plain_ok (chks_len h3).2) ?_) rfl
      intro he
      have l := (chks_len h3).1
      rw [he] at l
      cases as with
      | nil => funext τ; simp only [dns]
      | cons _ _ => exact absurd l (by simp [Es.len])
    · exact absurd h Bool.false_ne_true
  | .new i as, X, W, c, e, o, h => by
    simp only [chk] at h
    split at h
    · simp only [Bool.and_eq_true, decide_eq_true_eq] at h
      obtain ⟨hc, h1, h2, h3, h4⟩ := h
      obtain ⟨g1, g2⟩ := o.gl h1
      obtain ⟨f, fa, n, hi, F, M⟩ := o.g.ini i h3
      refine snd_plain (by simp only [dn]; first | done | rfl) (pe_new' hi (o.at_ hc F) M o.tk g1 (o.g.cls _ _ h2) g2 (snds as o h4).1 (plain_ok (chks_len h4).2) (dns_nil h4)) rfl
    · exact absurd h Bool.false_ne_true
  | .meth a m as, X, W, c, e, o, h => by
    simp only [chk] at h
    split at h
    · rename_i x n ap es p
      simp only [Bool.and_eq_true, decide_eq_true_eq] at h
      obtain ⟨hc, h1, h2, h3, h4, h5⟩ := h
      rw [o.fld] at h1
      subst h1
      exact snd_plain (by simp only [dn]; first | done | rfl) (pe_meth' (o.meths hc) o.tk (snd a o h2).pe (snds as o h4).1 (plain_ok (chks_len h4).2) (dns_nil h4) (mForm_ok h3 h5)) rfl
    · exact absurd h Bool.false_ne_true
  | .stat i m as, X, W, c, e, o, h => by
    simp only [chk] at h
    split at h
    · rename_i x xp n ap es p
      simp only [Bool.and_eq_true, decide_eq_true_eq] at h
      obtain ⟨hc, h1, h2, h3, h4, h5, h6⟩ := h
      rw [o.fld] at h3
      subst h3
      obtain ⟨g1, g2⟩ := o.gl h1
      obtain ⟨f, fa, n, hf, F, S⟩ := o.g.smt i m h4
      exact snd_plain (by simp only [dn]; first | done | rfl) (pe_stat' hf (o.at_ hc F) S o.tk (pe_glob g1 (o.g.cls _ _ h2) rfl g2) (snds as o h5).1 (plain_ok (chks_len h5).2) (dns_nil h5) (mForm_ok rfl h6)) rfl
    · exact absurd h Bool.false_ne_true
  | .callK f as ks ar, X, W, c, e, o, h => by
    simp only [chk] at h
    split at h
    · simp only [Bool.and_eq_true] at h
      obtain ⟨hc, h1, h2, h3, h4⟩ := h
      obtain ⟨g1, g2⟩ := o.gl h1
      split at h4
      · rename_i names y n hk hf
        rw [Bool.and_eq_true, decide_eq_true_eq] at h4
        obtain ⟨rfl, h5⟩ := h4
        obtain ⟨fa, m1, F0, FK⟩ := o.fnAt hc hf
        have F := FK _ _ _ h5
        have la := chks_len h2
        have e0 : (dn T cl cur (.callK f as ks ar)).1 = bnd (dns T cl cur as) fun rs => bnd (dns T cl cur ks) fun qs => doCallK cl f ar (rs ++ qs) := by simp only [dn]
        refine snd_plain (m := bnd (dns T cl cur as) fun rs => bnd (dns T cl cur ks) fun qs => doCallK cl f ar (rs ++ qs)) (by simp only [dn]; first | done | rfl) ?_ rfl
        refine pe_callKA (g := fun l => doCallK cl f ar l) F.kp g1 m1 g2 (snds as o h2).1 (sndk ks o h3) (plain_ok la.2) ?_ rfl hk (any_backTo la.2) (fun τ rs τ1 e => by rw [dns_len e, la.1]) (fun τ rs τ1 e => by rw [dns_len e, chkk_len h3 hk]) ?_
        · intro he
          have l := la.1
          rw [he] at l
          cases as with
          | nil => funext τ; simp only [dns]
          | cons _ _ => exact absurd l (by simp [Es.len])
        · intro pins s rs vs zs us ws σ G L H τ Q' I rv rz hu hw hr st ce out
          exact run_atK F o.tk I rv rz hu hw hr st ce out
      · exact absurd h4 Bool.false_ne_true
    · exact absurd h Bool.false_ne_true
  | .newK i as ks ar, X, W, c, e, o, h => by
    simp only [chk] at h
    split at h
    · simp only [Bool.and_eq_true] at h
      obtain ⟨hc, h1, h2, h3, h4⟩ := h
      obtain ⟨g1, g2⟩ := o.gl h1
      split at h4
      · rename_i names hk
        rw [Bool.and_eq_true, decide_eq_true_eq] at h4
        obtain ⟨h5, h6⟩ := h4
        obtain ⟨f, fa, n, fd, ps, hi, kp, hl, hF, M, hb⟩ := o.g.kbi _ _ _ _ h6
        have C := o.cold hc
        rw [Nm.at_none C.exa, ← C.cl] at hF
        rw [← C.cl] at hl
        have F : FnK X N cl f fa n 1 _ names ar := ⟨⟨fd, k, ps, hF, o.roomC hc, hb⟩, kp, hl⟩
        have la := chks_len h2
        refine snd_plain (m := bnd (dns T cl cur as) fun rs => bnd (dns T cl cur ks) fun qs => doNewK T cl i ar (rs ++ qs)) (by simp only [dn]; first | done | rfl) ?_ rfl
        refine pe_callKA (g := fun l => doNewK T cl i ar l) M.kp g1 (o.g.cls _ _ h5) g2 (snds as o h2).1 (sndk ks o h3) (plain_ok la.2) (dns_nil h2) rfl hk (any_backTo la.2) (fun τ rs τ1 e => by rw [dns_len e, la.1]) (fun τ rs τ1 e => by rw [dns_len e, chkk_len h3 hk]) ?_
        intro pins s rs vs zs us ws σ G L H τ Q' I rv rz hu hw hr st ce out
        exact run_newK (N := N) F M o.tk I rv rz hu hw hi hr st ce out
      · exact absurd h4 Bool.false_ne_true
    · exact absurd h Bool.false_ne_true
  | .attr a f, X, W, c, e, o, h => by
    simp only [chk] at h
    split at h
    · simp only [Bool.and_eq_true, decide_eq_true_eq] at h
      obtain ⟨h1, h2, h3⟩ := h
      rw [o.fld] at h1
      subst h1
      exact snd_plain (by simp only [dn]; first | done | rfl) (pe_attr o.flds o.xok o.hasE (snd a o h2).pe (noCall0_ok h3 _ _)) rfl
    · exact absurd h Bool.false_ne_true
  | .prop a f, X, W, c, e, o, h => by
    simp only [chk] at h
    split at h
    · simp only [Bool.and_eq_true, decide_eq_true_eq] at h
      obtain ⟨hc, h1, h2, h3⟩ := h
      rw [o.fld] at h1
      subst h1
      exact snd_plain (by simp only [dn]; first | done | rfl) (pe_prop' (o.props hc) (snd a o h2).pe (noCall0_ok h3 _ _)) rfl
    · exact absurd h Bool.false_ne_true
  | .sub a i, X, W, c, e, o, h => by
    simp only [chk] at h
    split at h
    · simp only [Bool.and_eq_true] at h
      exact snd_plain (by simp only [dn]; first | done | rfl) (pe_sub' (snd a o h.1).pe (snd i o h.2.1).pe (noSlice_ok h.2.2)) rfl
    · exact absurd h Bool.false_ne_true
  | .slice a lo hi, X, W, c, e, o, h => by
    simp only [chk] at h
    split at h
    · rename_i x l hh p p2
      simp only [Bool.and_eq_true] at h
      obtain ⟨h1, h2, h3⟩ := h
      have pl : PO X l (tM X.K N W OptR (if isNonE lo then noPart else optM (dn T cl cur lo).1)) := by
        cases l with
        | none =>
          simp only at h2
          rw [h2, if_pos rfl]
          exact po_no
        | some l =>
          simp only [Bool.and_eq_true, Bool.not_eq_true'] at h2
          rw [h2.1, if_neg Bool.false_ne_true]
          exact po_of (snd lo o h2.2).pe
      have ph : PO X hh (tM X.K N W OptR (if isNonE hi then noPart else optM (dn T cl cur hi).1)) := by
        cases hh with
        | none =>
          simp only at h3
          rw [h3, if_pos rfl]
          exact po_no
        | some l =>
          simp only [Bool.and_eq_true, Bool.not_eq_true'] at h3
          rw [h3.1, if_neg Bool.false_ne_true]
          exact po_of (snd hi o h3.2).pe
      exact snd_plain (by simp only [dn]; first | done | rfl) (pe_slice' (snd a o h1).pe pl ph) rfl
    · exact absurd h Bool.false_ne_true
  | .tup as, X, W, c, e, o, h => by
    simp only [chk] at h
    split at h
    · exact snd_plain (by simp only [dn]; first | done | rfl) (pe_tup' (snds as o h).2) rfl
    · exact absurd h Bool.false_ne_true
  | .lst as, X, W, c, e, o, h => by
    simp only [chk] at h
    split at h
    · exact snd_plain (by simp only [dn]; first | done | rfl) (pe_lst' (snds as o h).2) rfl
    · exact absurd h Bool.false_ne_true
  | .blt b as, X, W, c, e, o, h => by
    simp only [chk] at h
    split at h
    · simp only [Bool.and_eq_true] at h
      exact snd_plain (by simp only [dn]; first | done | rfl) (bi_name o h.1 h.2.1 h.2.2.1 (snds as o h.2.2.2).1 (chks_len h.2.2.2).2) rfl
    · exact absurd h Bool.false_ne_true
  | .isin a ts, X, W, c, e, o, h => by
    simp only [chk] at h
    split at h
    · simp only [Bool.and_eq_true, decide_eq_true_eq] at h
      obtain ⟨h1, rfl, h2, h3, h4, h5⟩ := h
      obtain ⟨g1, g2⟩ := o.gl h1
      split at h5
      · obtain ⟨t1, t2⟩ := ty_name o h5
        exact snd_plain (by simp only [dn]; first | done | rfl) (pe_isin1 o.isa o.exm o.hasE g1 (o.g.free _ h2) (snd a o h3).pe t1 (noStar_ok h4) (noStar_ok t2) (any_backTo (by simp [t2]))) rfl
      · split at h5
        · simp only [Bool.and_eq_true, decide_eq_true_eq] at h5
          obtain ⟨k1, k2, k3⟩ := h5
          obtain ⟨t1, t2⟩ := ty_names o k3
          exact snd_plain (by simp only [dn]; first | done | rfl) (pe_isinT o.isa o.exm o.hasE g1 (o.g.free _ h2) (snd a o h3).pe t1 (noStar_ok h4) t2 (noStar_ok rfl) (any_backTo (by simp [noStar])) k2 k1) rfl
        · exact absurd h5 Bool.false_ne_true
    · exact absurd h Bool.false_ne_true
  | .comp ow it tg cd el, X, W, c, e, o, h => by
    simp only [chk] at h
    split at h
    · rename_i elt tge iter ifs sc p
      simp only [Bool.and_eq_true, List.all_eq_true, decide_eq_true_eq] at h
      obtain ⟨hc, h1, h2, h3, h4, h5, h6⟩ := h
      have I := sndI it (tg := tge) o h4
      refine snd_plain (m := compE (dnI T cl cur it) tg ow (dn T cl cur cd).2 (ownD (dn T cl cur el).1)) (by simp only [dn]; first | done | rfl) ?_ rfl
      have hp := pe_comp (X := X) (N := N) (W := W) (elt := elt) (tge := tge) (iter := iter) (ifs := ifs) (scope := sc) (own := ownP c ow) (pos := p) (g := tgG X.K tg tge) (tg := tg) (mi := dnI T cl cur it) (mc := (dn T cl cur cd).2) (me := ownD (dn T cl cur el).1) (o.cold hc).calm o.nd I.1 (o.blkOk h1)
        (tg_ok h2) (fun i hi => by rw [ownP_snd]; exact h3 i hi) (fun s H C cs fp => (tg_pg (o.blk hc h1 s H C cs fp) hc h2).1) (fun s H C cs fp => ?_) (fun s H C cs fp => pe_ownD (snd el (o.blk hc h1 s H C cs fp) h5).pe) (noSet_fold I.2 _)
      · rw [ownP_snd] at hp
        exact hp
      · cases ifs with
        | nil =>
          simp only at h6
          split at h6
          · simp only [dn]
            exact ⟨fun pins s σ H Q I h => pts_nil.run pins s σ H Q I (by
              obtain ⟨τ, G, L, st, ce, out⟩ := h
              exact out true G [] L H ⟨rfl, rfl⟩ st ce Step.refl)⟩
          · exact absurd h6 Bool.false_ne_true
        | cons t r =>
          cases r with
          | nil => exact pts_one (snd cd (o.blk hc h1 s H C cs fp) h6).pt
          | cons _ _ => exact absurd h6 Bool.false_ne_true
    · exact absurd h Bool.false_ne_true
  | .hcall f as, X, W, c, e, o, h => by
    simp only [chk] at h
    split at h
    · simp only [Bool.and_eq_true, decide_eq_true_eq] at h
      obtain ⟨hh, h1, h2, h3⟩ := h
      obtain ⟨g1, g2⟩ := o.gl h1
      obtain ⟨fa, m1, kp, F⟩ := o.hfnAt h2
      rcases o.md with ⟨hc, _⟩ | ⟨_, _, b, ecur, _⟩
      · rw [hc] at hh; cases hh
      · have e0 : dn T cl cur (.hcall f as) = (bnd (dns T cl cur as) fun rs => doCall rcl f rs, tru (bnd (dns T cl cur as) fun rs => doCall rcl f rs)) := by
          subst ecur
          simp only [dn]
        exact snd_plain e0 (pe_callA kp g1 m1 g2 (snds as o h3).1 (plain_ok (chks_len h3).2) (dns_nil h3) fun pins s rs vs us σ G L H τ Q' I rv hr st ce out => F.run Lo.refl (by decide) o.tk I rv hr st ce out) rfl
    · exact absurd h Bool.false_ne_true
  | .fstr as, X, W, c, e, o, h => by
    simp only [chk] at h
    split at h
    · exact snd_plain (m := dnj T cl cur as Str.empty) (by simp only [dn]; first | done | rfl) (pe_fst (sndj as o h)) rfl
    · exact absurd h Bool.false_ne_true
  | .smeth m a as, X, W, c, e, o, h => by
    simp only [chk] at h
    split at h
    · rename_i x n ap es p
      simp only [Bool.and_eq_true] at h
      obtain ⟨h1, h2, h3, h4, h5⟩ := h
      split at h5
      · rw [decide_eq_true_eq] at h5
        subst h5
        have ea : dns T cl cur as = fun τ => .ok [] τ := dns_nil h4 rfl
        refine snd_plain (m := bnd (opd (dn T cl cur a).1) fun x => bnd (isStrM x) fun _ => bnd (dns T cl cur as) fun rs => smR 0 x rs) (by simp only [dn]; first | done | rfl) ?_ rfl
        rw [ea]
        exact pe_dig (snd a o h1).pe (noCall0_ok h2 _ _) h3
      · rw [decide_eq_true_eq] at h5
        subst h5
        have la := chks_len h4
        refine snd_plain (m := bnd (opd (dn T cl cur a).1) fun x => bnd (isStrM x) fun _ => bnd (dns T cl cur as) fun rs => smR 1 x rs) (by simp only [dn]; first | done | rfl) (pe_spl (snd a o h1).pe (snds as o h4).1 (noCall0_ok h2 _ _) h3 ?_ (plain_ok la.2)) rfl
        rw [backTo_all la.2]
        rfl
      · exact absurd h5 Bool.false_ne_true
    · exact absurd h Bool.false_ne_true
theorem snds : ∀ (as : Es) {X : Cx} {W : WX} {c : Sc} {es : List Expr}, XOk X N T rcl cl cur Q k c W → chks Q as c es = true → PA X es (tAs X.K N W (dns T cl cur as)) ∧ PA X es (tKs X.K N W (dnk T cl cur as))
  | .nil, X, W, c, es, o, h => by
    simp only [chks] at h
    split at h
    · rw [show dns T cl cur .nil = fun τ => .ok [] τ from by simp only [dns], show dnk T cl cur .nil = fun τ => .ok [] τ from by simp only [dnk]]
      exact ⟨pa_ops0, pa_keep0⟩
    · exact absurd h Bool.false_ne_true
  | .cons a as, X, W, c, es, o, h => by
    simp only [chks] at h
    split at h
    · simp only [Bool.and_eq_true] at h
      obtain ⟨h1, h2, h3⟩ := h
      have A := (snd a o h1).pe
      have B := snds as o h3
      rw [show dns T cl cur (.cons a as) = bnd (opd (dn T cl cur a).1) fun r => bnd (dns T cl cur as) fun rs τ => .ok (r :: rs) τ from by simp only [dns], show dnk T cl cur (.cons a as) = bnd (ownD (dn T cl cur a).1) fun d => bnd (dnk T cl cur as) fun ds τ => .ok (d :: ds) τ from by simp only [dnk]]
      exact ⟨pa_ops A B.1 (noStar_ok h2), pa_keep A B.2 (noStar_ok h2)⟩
    · exact absurd h Bool.false_ne_true
theorem sndj : ∀ (as : Es) {X : Cx} {W : WX} {c : Sc} {es : List Expr}, XOk X N T rcl cl cur Q k c W → chkj Q as c es = true → PM X N W es (dnj T cl cur as)
  | .nil, X, W, c, es, o, h => by
    simp only [chkj] at h
    split at h
    · rw [show dnj T cl cur .nil = fun acc τ => .ok (.own (.val (.str acc))) τ from by simp only [dnj]]
      exact pm_nil
    · exact absurd h Bool.false_ne_true
  | .cons a as, X, W, c, es, o, h => by
    simp only [chkj] at h
    rw [show dnj T cl cur (.cons a as) = fun acc => catM (dn T cl cur a).1 (dnj T cl cur as) acc from by simp only [dnj]]
    split at h
    · simp only [Bool.and_eq_true, decide_eq_true_eq] at h
      obtain ⟨h1, h2, h3⟩ := h
      subst h1
      exact pm_fmt (snd a o h2).pe (sndj as o h3)
    · rw [Bool.and_eq_true] at h
      obtain ⟨h1, h2⟩ := h
      obtain ⟨k, rfl, p⟩ := strE_ok (X := X) h1
      rw [show (dn T cl cur (.str k)).1 = fun τ => .ok (.own (.val (.str k))) τ from by simp only [dn]; first | done | rfl]
      exact pm_con p (sndj as o h2)
    · exact absurd h Bool.false_ne_true
theorem sndk : ∀ (as : Es) {X : Cx} {W : WX} {c : Sc} {es : List Keyword}, XOk X N T rcl cl cur Q k c W → chkk Q as c es = true → PK X es (tAs X.K N W (dns T cl cur as))
  | .nil, X, W, c, es, o, h => by
    simp only [chkk] at h
    split at h
    · rw [show dns T cl cur .nil = fun τ => .ok [] τ from by simp only [dns]]
      exact pk_ops0
    · exact absurd h Bool.false_ne_true
  | .cons a as, X, W, c, es, o, h => by
    simp only [chkk] at h
    split at h
    · rw [Bool.and_eq_true] at h
      rw [show dns T cl cur (.cons a as) = bnd (opd (dn T cl cur a).1) fun r => bnd (dns T cl cur as) fun rs τ => .ok (r :: rs) τ from by simp only [dns]]
      exact pk_ops (snd a o h.1).pe (sndk as o h.2)
    · exact absurd h Bool.false_ne_true
theorem sndI : ∀ (it : It) {X : Cx} {W : WX} {c : Sc} {tg e : Expr}, XOk X N T rcl cl cur Q k c W → chkI Q it c e = true → PI X tg e (tI X.K N W (dnI T cl cur it)) ∧ noSet e = true
  | .rng1 a, X, W, c, tg, e, o, h => by
    simp only [chkI] at h
    split at h
    · simp only [Bool.and_eq_true, decide_eq_true_eq] at h
      obtain ⟨h1, rfl, h2, h3, h4⟩ := h
      obtain ⟨g1, g2⟩ := o.gl h1
      refine ⟨?_, rfl⟩
      simp only [dnI]
      exact pi_rng1 g1 (o.g.free _ h2) (snd a o h3).pe (noStar_ok h4)
    · exact absurd h Bool.false_ne_true
  | .rng2 a b, X, W, c, tg, e, o, h => by
    simp only [chkI] at h
    split at h
    · simp only [Bool.and_eq_true, decide_eq_true_eq] at h
      obtain ⟨h1, rfl, h2, h3, h4, h5, h6⟩ := h
      obtain ⟨g1, g2⟩ := o.gl h1
      refine ⟨?_, rfl⟩
      simp only [dnI]
      exact pi_rng2 g1 (o.g.free _ h2) (snd a o h3).pe (snd b o h5).pe (noStar_ok h4) (noStar_ok h6)
    · exact absurd h Bool.false_ne_true
  | .rng3 _ _ _, X, W, c, tg, e, o, h => by simp only [chkI] at h; exact absurd h Bool.false_ne_true
  | .seq a, X, W, c, tg, e, o, h => by
    simp only [chkI, Bool.and_eq_true] at h
    refine ⟨?_, h.2⟩
    simp only [dnI]
    exact pi_seq (snd a o h.1).pe
  | .enum _, X, W, c, tg, e, o, h => by simp only [chkI] at h; exact absurd h Bool.false_ne_true
  | .zip _ _, X, W, c, tg, e, o, h => by simp only [chkI] at h; exact absurd h Bool.false_ne_true
  | .rev _, X, W, c, tg, e, o, h => by simp only [chkI] at h; exact absurd h Bool.false_ne_true
  | .bor _, X, W, c, tg, e, o, h => by simp only [chkI] at h; exact absurd h Bool.false_ne_true
end
end
end Tw
set_option maxHeartbeats 4000000
/-! The tree walk, part 22: statements. -/
namespace Tw
open PySem PySem.Spec PyProof.Rows L2 Evl
/-! ### the checker -/
/-- a comprehension on the line of its name -/
def isLc (c : Sc) (x : Str) (p : Pos) : Expr → Bool
  | .ListComp _ _ sc vp => decide (c.nm.lookup x = some .local) && ((p.line == vp.line) && !(sc.names.any fun (n, k) => n == x && (k == .local || k == .cell)))
  | _ => false
def noTup : Expr → Bool
  | .Tuple _ _ _ => false
  | _ => true
/-- within a suite -/
def Sc.inS (c : Sc) : Sc := { c with hot := true }
mutual
def chkS (Q : Pg) (T : Tb) : S → List Nat → Sc → Stmt → Bool
  | .never => fun _ _ _ => true
  | .pass => fun _ _ s => match s with
    | .Pass _ => true
    | _ => false
  | .brk => fun _ _ s => match s with
    | .Break _ => true
    | _ => false
  | .cont => fun _ _ s => match s with
    | .Continue _ => true
    | _ => false
  | .asg i e => fun Bs c s => match s with
    | .Assign [.Name x p] v _ => wr c i x && (decide (i ∉ Bs) && (chk Q e c v && (noComp v || ((match e with
      | .comp _ _ _ _ _ => true
      | _ => false) && isLc c x p v))))
    | _ => false
  | .asgT is e => fun Bs c s => match s with
    | .Assign [.Tuple ts k p] v _ => !c.hot && (tgC c is (.Tuple ts k p) && (is.all (fun i => decide (i ∉ Bs)) && (chk Q e c v && (noComp v && noTup v))))
    | _ => false
  | .aug i op e => fun Bs c s => match s with
    | .AugAssign (.Name x _) o v _ => wr c i x && (decide (i ∉ Bs) && (decide (pyOp op = o) && chk Q e c v))
    | _ => false
  | .augO i op e => fun Bs c s => match s with
    | .AugAssign (.Name x _) o v _ => wr c i x && (decide (i ∉ Bs) && (decide (pyOp op = o) && chk Q e c v))
    | _ => false
  | .asgF i e => fun Bs c s => match s with
    | .Assign [.Name x p] v _ => wr c i x && (decide (i ∉ Bs) && (chk Q e c v && noComp v))
    | _ => false
  | .app i e => fun Bs c s => match s with
    | .Expr (.Call (.Attribute (.Name x _) m ap) [v] [] cp) _ => rd c i x && (decide (m = ("append" : Str)) && (chk Q e c v && (noStar v && (ap.endLine == cp.line))))
    | _ => false
  | .setI i ix e => fun Bs c s => match s with
    | .Assign [.Subscript (.Name x _) y _] v _ => rd c i x && (chk Q ix c y && (noSlice y && (chk Q e c v && noComp v)))
    | _ => false
  | .setA i f e => fun Bs c s => match s with
    | .Assign [.Attribute (.Name x _) n _] v _ => rd c i x && (decide (Q.fld f = n) && (chk Q e c v && noComp v))
    | _ => false
  | .expr e => fun Bs c s => match s with
    | .Expr v _ => chk Q e c v && noComp v
    | _ => false
  | .ret e => fun Bs c s => match s with
    | .Return (some v) _ => chk Q e c v
    | _ => false
  | .retN => fun _ _ s => match s with
    | .Return none _ => true
    | _ => false
  | .raise cc as => fun Bs c s => match s with
    | .Raise (some (.Call (.Name x _) es [] _)) none _ => !c.hot && (gl c x && (decide (Q.cnm cc = some x) && (chks Q as c es && decide ((T.exf cc).map List.length = some es.length))))
    | _ => false
  | .ite t a b => fun Bs c s => match s with
    | .If u x y _ => chk Q t c u && (chkB Q T a Bs c x && chkB Q T b Bs c y)
    | _ => false
  | .whl t b => fun Bs c s => match s with
    | .While u x [] _ => chk Q t c u && chkB Q T b Bs c x
    | _ => false
  | .for it tg b => fun Bs c s => match s with
    | .For tge iter x [] _ => !c.hot && (tgC c tg tge && (match it with
      | .bor i => (match iter with
        | .Name y _ => rd c i y && (tg.all (fun j => decide (j ∉ i :: Bs)) && chkB Q T b (i :: Bs) c x)
        | _ => false)
      | it => tg.all (fun i => decide (i ∉ Bs)) && (chkI Q it c iter && chkB Q T b Bs c x)))
    | _ => false
  | .try b hs => fun Bs c s => match s with
    | .Try x (h :: hds) [] [] _ => !c.hot && (chkB Q T b Bs c x && chkH Q T hs Bs c (h :: hds))
    | _ => false
def chkB (Q : Pg) (T : Tb) : B → List Nat → Sc → List Stmt → Bool
  | .nil => fun _ _ ss => match ss with
    | [] => true
    | _ => false
  | .cons a b => fun Bs c ss => match ss with
    | s :: ss => chkS Q T a Bs c s && chkB Q T b Bs c ss
    | _ => false
def chkH (Q : Pg) (T : Tb) : Hs → List Nat → Sc → List ExceptHandler → Bool
  | .nil => fun _ _ hds => match hds with
    | [] => true
    | _ => false
  | .cons cc i bt hs => fun Bs c hds => match i, hds with
    | none, .ExceptHandler (some (.Name x _)) none (s :: ss) _ :: hds => gl c x && (decide (Q.cnm cc = some x) && (chkB Q T bt Bs c.inS (s :: ss) && chkH Q T hs Bs c hds))
    | some i, .ExceptHandler (some (.Name x _)) (some n) (s :: ss) _ :: hds => gl c x && (decide (Q.cnm cc = some x) && (decide (c.N[i]? = some n) && (decide (c.nm.lookup n = some .local) && (decide (i ∉ Bs) && (chkB Q T bt Bs c.inS (s :: ss) && chkH Q T hs Bs c hds)))))
    | _, _ => false
end
end Tw
set_option maxHeartbeats 4000000
/-! The tree walk, part 23: the checker is sound for statements. -/
namespace Tw
open PySem PySem.Spec PyProof.Rows L2 Evl
section
variable {T : Tb} {rcl : CallT} {Q : Pg} {k : Nat}
/-- a def's body as a context -/
structure XOkS (X : Cx) (N : Nm) (T : Tb) (rcl cl : CallT) (cur : Option (CallT × Bool)) (Q : Pg) (k : Nat) (c : Sc) (W : WX) : Prop where
  o : XOk X N T rcl cl cur Q k c W
  hst : X.stack = X.env :: X.outer
  hfr : X.env.frame = some X.env.locals
theorem comp_parts {X : Cx} {N : Nm} {cl : CallT} {cur : Option (CallT × Bool)} {W : WX} {c : Sc} {ow tg : List Nat} {it : It} {cd el : E} {e : Expr} (o : XOk X N T rcl cl cur Q k c W) (h : chk Q (.comp ow it tg cd el) c e = true) :
    (!c.hot) = true ∧ ∃ elt tge iter ifs sc p, e = .ListComp elt [⟨tge, iter, ifs, 0⟩] sc p ∧ PI X tge iter (tI X.K N W (dnI T cl cur it)) ∧ BlkOk X.N X.env.scope sc (ownP c ow) ∧ TgOk X N (tgG X.K tg tge) tg ∧ (∀ i ∈ tg, i ∈ (ownP c ow).map (·.2)) ∧
      (∀ (s : Shared) (H : Hp) (C : Addr) (cs : List (Str × Addr)) (fp : List Addr), PG (X.blk s H sc (compEnvC sc cs C X.env) fp) tge (tgG X.K tg tge)) ∧
      (∀ (s : Shared) (H : Hp) (C : Addr) (cs : List (Str × Addr)) (fp : List Addr), PTs (X.blk s H sc (compEnvC sc cs C X.env) fp) ifs (tB X.K N W0 (dn T cl cur cd).2)) ∧
      (∀ (s : Shared) (H : Hp) (C : Addr) (cs : List (Str × Addr)) (fp : List Addr), PE (X.blk s H sc (compEnvC sc cs C X.env) fp) elt (tM X.K N W0 (DR X.K N) (ownD (dn T cl cur el).1))) ∧ ∀ x, foldedSetIterable iter X.env x = pure x := by
  simp only [chk] at h
  split at h
  · rename_i elt tge iter ifs sc p
    simp only [Bool.and_eq_true, List.all_eq_true, decide_eq_true_eq] at h
    obtain ⟨hc, h1, h2, h3, h4, h5, h6⟩ := h
    have I := sndI it (tg := tge) o h4
    refine ⟨hc, elt, tge, iter, ifs, sc, p, rfl, I.1, o.blkOk h1, tg_ok h2, fun i hi => by rw [ownP_snd]; exact h3 i hi, fun s H C cs fp => (tg_pg (o.blk hc h1 s H C cs fp) hc h2).1, fun s H C cs fp => ?_, fun s H C cs fp => pe_ownD (snd el (o.blk hc h1 s H C cs fp) h5).pe, noSet_fold I.2 _⟩
    cases ifs with
    | nil =>
      simp only at h6
      split at h6
      · simp only [dn]
        exact ⟨fun pins s σ H Q I h => pts_nil.run pins s σ H Q I (by
          obtain ⟨τ, G, L, st, ce, out⟩ := h
          exact out true G [] L H ⟨rfl, rfl⟩ st ce Step.refl)⟩
      · exact absurd h6 Bool.false_ne_true
    | cons t r =>
      cases r with
      | nil => exact pts_one (snd cd (o.blk hc h1 s H C cs fp) h6).pt
      | cons _ _ => exact absurd h6 Bool.false_ne_true
  · exact absurd h Bool.false_ne_true
theorem noComp_sole {t v : Expr} {l : Nat} {env : Env} (h : noComp v = true) : swapsWithSole [t] v l env = pure false := noComp_sw h (some t) l env
theorem noTup_sw {ts : List Expr} {kk : Nat} {p : Pos} {v : Expr} {env : Env} (h : noTup v = true) : swappedStores [.Tuple ts kk p] v env = pure none := by
  cases v <;> first | rfl | (exact absurd h (by simp [noTup]))
theorem sub_sw {o i v : Expr} {p : Pos} {env : Env} : swappedStores [.Subscript o i p] v env = pure none := by
  cases v <;> rfl
theorem few_ok {X : Cx} {e : Expr} {cpos : Pos} (h : noStar e = true) : ((backTo cpos (starEach [e] X.env)).all (fun x => !x.1) && (backToKw cpos (keywordEach [] X.env)).all (fun x => x.1.isSome)
      && decide ([e].length + ([] : List Keyword).length + (if ([] : List Keyword).isEmpty then 0 else 1) < 30)) = true := by
  rw [noStar_ok (X := X) h []]
  rfl
theorem assign_sub {o i : Expr} {p : Pos} {env : Env} (h : noSlice i = true) : ∀ v, assign (.Subscript o i p) env v = (do
      let ov ← holding [v] (eval o env)
      let iv ← holding [v, ov] (eval i env)
      standAt p
      holding [v, ov, iv] (setItem ov iv v)
      release [v, ov, iv] []) := by
  intro v
  cases i <;> first | rfl | (exact absurd h (by simp [noSlice]))
mutual
theorem sndS : ∀ (s : S) {Bs : List Nat} {σ0 : L2.St} {X : Cx} {N : Nm} {cl : CallT} {cur : Option (CallT × Bool)} {W : WX} {c : Sc} {st : Stmt}, XOkS X N T rcl cl cur Q k c W → chkS Q T s Bs c st = true → PS X st (tSt X.K N W Bs σ0 (dnS T cl cur s))
  | .never, Bs, σ0, X, N, cl, cur, W, c, st, o, h => by
    simp only [dnS]
    refine ⟨fun pins s σ H D I h => ?_⟩
    obtain ⟨τ, G, L, st, ce, fx, out⟩ := h
    exact out.elim
  | .pass, Bs, σ0, X, N, cl, cur, W, c, st, o, h => by
    simp only [chkS] at h
    split at h
    · simp only [dnS]
      exact ps_pass'
    · exact absurd h Bool.false_ne_true
  | .brk, Bs, σ0, X, N, cl, cur, W, c, st, o, h => by
    simp only [chkS] at h
    split at h
    · simp only [dnS]
      exact ps_brk'
    · exact absurd h Bool.false_ne_true
  | .cont, Bs, σ0, X, N, cl, cur, W, c, st, o, h => by
    simp only [chkS] at h
    split at h
    · simp only [dnS]
      exact ps_cont'
    · exact absurd h Bool.false_ne_true
  | .asg i e, Bs, σ0, X, N, cl, cur, W, c, st, o, h => by
    simp only [chkS] at h
    split at h
    · rename_i x p v pos
      simp only [Bool.and_eq_true, Bool.or_eq_true, decide_eq_true_eq] at h
      obtain ⟨h1, h2, h3, h4⟩ := h
      obtain ⟨w1, w2, w3⟩ := o.o.wr h1
      rcases h4 with h4 | ⟨h4, h5⟩
      · simp only [dnS]
        exact ps_asg' o.o.nd w1 w2 w3 h2 (snd e o.o h3).pe (noComp_sw h4 _ _ _)
      · cases e <;> try (exact absurd h4 Bool.false_ne_true)
        rename_i ow it tg cd el
        obtain ⟨hc, elt, tge, iter, ifs, sc, vp, rfl, a1, a2, a3, a4, a5, a6, a7, a8⟩ := comp_parts o.o h3
        simp only [isLc, Bool.and_eq_true, decide_eq_true_eq, Bool.not_eq_true'] at h5
        obtain ⟨l1, l2, l3⟩ := h5
        have hl : X.env.scope.names.lookup x = some .local := by rw [o.o.hs]; exact l1
        have hp := ps_asgC (X := X) (N := N) (W := W) (B := Bs) (σ0 := σ0) (py := p) (spos := pos) (pos := vp) (o.o.cold hc).calm o.o.nd w1 hl h2 (sw_true o.o.kd hl l2 l3) a1 a2 a3 a4 a5 a6 a7 a8
        rw [ownP_snd] at hp
        simp only [dnS, ev, dn]
        exact hp
    · exact absurd h Bool.false_ne_true
  | .asgT is e, Bs, σ0, X, N, cl, cur, W, c, st, o, h => by
    simp only [chkS] at h
    split at h
    · simp only [Bool.and_eq_true, List.all_eq_true, decide_eq_true_eq] at h
      obtain ⟨hc, h1, h2, h3, h4, h5⟩ := h
      obtain ⟨t1, t2⟩ := tg_names o.o h1
      simp only [dnS]
      exact ps_asgT (o.o.cold hc).calm o.o.nd t2 t1 h2 (snd e o.o h3).pe (noComp_sole h4) (noTup_sw h5)
    · exact absurd h Bool.false_ne_true
  | .aug i op e, Bs, σ0, X, N, cl, cur, W, c, st, o, h => by
    simp only [chkS] at h
    split at h
    · simp only [Bool.and_eq_true, decide_eq_true_eq] at h
      obtain ⟨h1, h2, rfl, h3⟩ := h
      obtain ⟨w1, w2, w3⟩ := o.o.wr h1
      simp only [dnS]
      exact ps_aug' o.o.nd w1 w2 w3 h2 (snd e o.o h3).pe
    · exact absurd h Bool.false_ne_true
  | .augO i op e, Bs, σ0, X, N, cl, cur, W, c, st, o, h => by
    simp only [chkS] at h
    split at h
    · simp only [Bool.and_eq_true, decide_eq_true_eq] at h
      obtain ⟨h1, h2, rfl, h3⟩ := h
      obtain ⟨w1, w2, w3⟩ := o.o.wr h1
      simp only [dnS]
      exact ps_augO o.o.cf o.o.g.noi o.o.tk o.o.nd w1 w2 w3 h2 (snd e o.o h3).pe
    · exact absurd h Bool.false_ne_true
  | .asgF i e, Bs, σ0, X, N, cl, cur, W, c, st, o, h => by
    simp only [chkS] at h
    split at h
    · simp only [Bool.and_eq_true, decide_eq_true_eq] at h
      obtain ⟨h1, h2, h3, h4⟩ := h
      obtain ⟨w1, w2, w3⟩ := o.o.wr h1
      simp only [dnS]
      exact ps_asgF o.o.nd w1 w2 w3 h2 (snd e o.o h3).pe (noComp_sw h4 _ _ _)
    · exact absurd h Bool.false_ne_true
  | .app i e, Bs, σ0, X, N, cl, cur, W, c, st, o, h => by
    simp only [chkS] at h
    split at h
    · simp only [Bool.and_eq_true, decide_eq_true_eq] at h
      obtain ⟨h1, rfl, h2, h3, h4⟩ := h
      obtain ⟨r1, r2, r3, r4⟩ := o.o.rd h1
      simp only [dnS]
      exact ps_app r1 r2 r3 r4 (snd e o.o h2).pe (noStar_ok h3) rfl (few_ok h3) h4
    · exact absurd h Bool.false_ne_true
  | .setI i ix e, Bs, σ0, X, N, cl, cur, W, c, st, o, h => by
    simp only [chkS] at h
    split at h
    · simp only [Bool.and_eq_true] at h
      obtain ⟨h1, h2, h3, h4, h5⟩ := h
      obtain ⟨r1, r2, r3, r4⟩ := o.o.rd h1
      simp only [dnS]
      exact ps_setI r1 r2 r3 r4 (snd e o.o h4).pe (snd ix o.o h2).pe (assign_sub h3) (noComp_sole h5) sub_sw
    · exact absurd h Bool.false_ne_true
  | .setA i f e, Bs, σ0, X, N, cl, cur, W, c, st, o, h => by
    simp only [chkS] at h
    split at h
    · simp only [Bool.and_eq_true, decide_eq_true_eq] at h
      obtain ⟨h1, h2, h3, h4⟩ := h
      obtain ⟨r1, r2, r3, r4⟩ := o.o.rd h1
      rw [o.o.fld] at h2
      subst h2
      simp only [dnS]
      exact ps_setA o.o.flds r1 r2 r3 r4 (snd e o.o h3).pe (noComp_sw h4 _ _ _)
    · exact absurd h Bool.false_ne_true
  | .expr e, Bs, σ0, X, N, cl, cur, W, c, st, o, h => by
    simp only [chkS] at h
    split at h
    · rw [Bool.and_eq_true] at h
      simp only [dnS]
      exact ps_expr' (snd e o.o h.1).pe (noComp_sw h.2 _ _ _)
    · exact absurd h Bool.false_ne_true
  | .ret e, Bs, σ0, X, N, cl, cur, W, c, st, o, h => by
    simp only [chkS] at h
    split at h
    · simp only [dnS]
      exact ps_ret' (snd e o.o h).pe
    · exact absurd h Bool.false_ne_true
  | .retN, Bs, σ0, X, N, cl, cur, W, c, st, o, h => by
    simp only [chkS] at h
    split at h
    · simp only [dnS]
      exact ps_retN'
    · exact absurd h Bool.false_ne_true
  | .raise cc as, Bs, σ0, X, N, cl, cur, W, c, st, o, h => by
    simp only [chkS] at h
    split at h
    · rename_i x p es cp pos
      simp only [Bool.and_eq_true, decide_eq_true_eq] at h
      obtain ⟨hc, h1, h2, h3, h4⟩ := h
      obtain ⟨g1, g2⟩ := o.o.gl h1
      have m1 := o.o.g.cls _ _ h2
      obtain ⟨ns, e1, e2⟩ := Option.map_eq_some_iff.mp h4
      simp only [dnS]
      cases es with
      | nil =>
        have e3 : ns = [] := List.length_eq_zero_iff.mp e2
        subst e3
        have ea : as = .nil := by
          have l := (chks_len h3).1
          cases as with
          | nil => rfl
          | cons _ _ => exact absurd l (by simp [Es.len])
        subst ea
        rw [show dnk T cl cur .nil = fun τ => .ok [] τ from by simp only [dnk]]
        exact ps_raise0 (N := N) (o.o.g.exB _ e1) (o.o.cold hc).calm o.o.tk g1 m1 g2 e1
      | cons e0 es =>
        have hne : ns ≠ [] := fun z => by rw [z] at e2; cases e2
        obtain ⟨b1, b2, fI, fd, ps, b3, b4, b5, b6⟩ := o.o.g.exI _ _ e1 hne
        rw [Nm.at_none (o.o.cold hc).exa] at b5
        exact ps_raiseI (N := N) ⟨b2, fI, fd, k, ps, b3, b4, b5, o.o.roomC hc, b6⟩ (o.o.cold hc).calm o.o.tk b1 hne g1 m1 g2 (snds as o.o h3).2 (plain_ok (chks_len h3).2) e1
    · exact absurd h Bool.false_ne_true
  | .ite t a b, Bs, σ0, X, N, cl, cur, W, c, st, o, h => by
    simp only [chkS] at h
    split at h
    · simp only [Bool.and_eq_true] at h
      simp only [dnS]
      exact ps_if' (snd t o.o h.1).pt (sndB a o h.2.1) (sndB b o h.2.2)
    · exact absurd h Bool.false_ne_true
  | .whl t b, Bs, σ0, X, N, cl, cur, W, c, st, o, h => by
    simp only [chkS] at h
    split at h
    · rw [Bool.and_eq_true] at h
      simp only [dnS]
      exact ps_whl' o.o.po (snd t o.o h.1).pt (sndB b o h.2)
    · exact absurd h Bool.false_ne_true
  | .for it tg b, Bs, σ0, X, N, cl, cur, W, c, st, o, h => by
    simp only [chkS] at h
    split at h
    · rename_i tge iter x pos
      simp only [Bool.and_eq_true] at h
      obtain ⟨hc, h1, h⟩ := h
      obtain ⟨p1, p2⟩ := tg_pg o.o hc h1
      have other : (tg.all (fun i => decide (i ∉ Bs)) && (chkI Q it c iter && chkB Q T b Bs c x)) = true → PS X (.For tge iter x [] pos) (tSt X.K N W Bs σ0 (bnd (dnI T cl cur it) fun ds => forM tg (dnB T cl cur b) ds)) := by
        intro h
        simp only [Bool.and_eq_true, List.all_eq_true, decide_eq_true_eq] at h
        obtain ⟨h2, h3, h4⟩ := h
        have I := sndI it (tg := tge) o.o h3
        exact ps_for' o.o.po (o.o.cold hc).calm I.1 p1 p2 h2 (sndB b o h4) (noSet_fold I.2 _)
      cases it with
      | bor i =>
        simp only at h
        split at h
        · rename_i y yp
          simp only [Bool.and_eq_true, List.all_eq_true, decide_eq_true_eq] at h
          obtain ⟨h2, h3, h4⟩ := h
          obtain ⟨r1, r2, r3, r4⟩ := o.o.rd h2
          simp only [dnS]
          exact ps_forB o.o.po (o.o.cold hc).calm r1 r2 r3 r4 p1 p2 h3 fun σ1 => sndB b o h4
        · exact absurd h Bool.false_ne_true
      | _ =>
        simp only [dnS]
        exact other h
    · exact absurd h Bool.false_ne_true
  | .try b hs, Bs, σ0, X, N, cl, cur, W, c, st, o, h => by
    simp only [chkS] at h
    split at h
    · rename_i x h0 hds pos
      simp only [Bool.and_eq_true] at h
      obtain ⟨hc, h1, h2⟩ := h
      have C := o.o.cold hc
      have hp := ps_try' (pos := pos) (N := N) (T := T) (cl := cl) (B := Bs) (σ0 := σ0) (W := W) o.o.exm C.exa o.hst o.hfr o.o.nd o.o.tk (mb := dnB T cl cur b)
        (fun W' pn xe tk' po' => sndB b (X := X.tr pn xe) (W := W') ⟨⟨o.o.g, o.o.room, .inl ⟨by simpa using hc, C.cl, C.cur, C.calm, C.hd, C.exa⟩, tk', po', o.o.nd, o.o.hN, o.o.hs, o.o.kd, o.o.hfn⟩, o.hst, o.hfr⟩ h1) (sndH hs o hc h2)
      simp only [dnS]
      exact hp
    · exact absurd h Bool.false_ne_true
theorem sndB : ∀ (b : B) {Bs : List Nat} {σ0 : L2.St} {X : Cx} {N : Nm} {cl : CallT} {cur : Option (CallT × Bool)} {W : WX} {c : Sc} {ss : List Stmt}, XOkS X N T rcl cl cur Q k c W → chkB Q T b Bs c ss = true → PSs X ss (tSt X.K N W Bs σ0 (dnB T cl cur b))
  | .nil, Bs, σ0, X, N, cl, cur, W, c, ss, o, h => by
    simp only [chkB] at h
    split at h
    · simp only [dnB]
      exact pss_nil'
    · exact absurd h Bool.false_ne_true
  | .cons s b, Bs, σ0, X, N, cl, cur, W, c, ss, o, h => by
    simp only [chkB] at h
    split at h
    · rw [Bool.and_eq_true] at h
      simp only [dnB]
      exact pss_cons' (sndS s o h.1) (sndB b o h.2)
    · exact absurd h Bool.false_ne_true
theorem sndH : ∀ (hs : Hs) {Bs : List Nat} {σ0 : L2.St} {X : Cx} {N : Nm} {cl : CallT} {cur : Option (CallT × Bool)} {W : WX} {c : Sc} {hds : List ExceptHandler}, XOkS X N T rcl cl cur Q k c W → (!c.hot) = true → chkH Q T hs Bs c hds = true → HsOk X N T cl Bs σ0 hds hs
  | .nil, Bs, σ0, X, N, cl, cur, W, c, hds, o, hc, h => by
    simp only [chkH] at h
    split at h
    · exact .nil
    · exact absurd h Bool.false_ne_true
  | .cons cc i bt hs, Bs, σ0, X, N, cl, cur, W, c, hds, o, hc, h => by
    have C := o.o.cold hc
    simp only [chkH] at h
    split at h
    · simp only [Bool.and_eq_true, decide_eq_true_eq] at h
      obtain ⟨h1, h2, h3, h4⟩ := h
      obtain ⟨g1, g2⟩ := o.o.gl h1
      refine .one ⟨g1, g2, .inl (o.o.g.cls _ _ h2)⟩ (fun a oe cls d pn hz hf => ?_) (sndH hs o hc h4)
      exact sndB bt (X := X.suite a ((a, oe) :: pn)) (W := W0) (c := c.inS) ⟨⟨o.o.g, ⟨o.o.room.dp, o.o.room.un⟩, .inr ⟨rfl, rfl, false, by rw [C.cl], fun z => Bool.noConfusion z⟩, fun u s' ⟨_, _, _, _, _, _, _, _, _, _, _, _, _, _, _, _, w⟩ => w.elim, PassesOwn.never, o.o.nd, o.o.hN, o.o.hs, o.o.kd, o.o.hfn⟩, o.hst, o.hfr⟩ h3
    · simp only [Bool.and_eq_true, decide_eq_true_eq] at h
      obtain ⟨h1, h2, h3, h4, h5, h6, h7⟩ := h
      obtain ⟨g1, g2⟩ := o.o.gl h1
      refine .as ⟨g1, g2, .inl (o.o.g.cls _ _ h2)⟩ (by rw [o.o.hN]; exact h3) (by show X.env.scope.names.lookup _ = _; rw [o.o.hs]; exact h4) h5 (fun a oe cls d pn hz hf => ?_) (sndH hs o hc h7)
      obtain ⟨vs, hv⟩ := hf
      exact sndB bt (X := X.suite a ((a, oe) :: pn)) (N := N.at_ (some (a, cls, d))) (W := W0) (c := c.inS) ⟨⟨o.o.g, ⟨o.o.room.dp, o.o.room.un⟩, .inr ⟨rfl, rfl, true, by rw [C.cl], fun _ => ⟨a, cls, d, oe, vs, rfl, List.mem_cons_self, hz, hv⟩⟩, fun u s' ⟨_, _, _, _, _, _, _, _, _, _, _, _, _, _, _, _, w⟩ => w.elim, PassesOwn.never, o.o.nd, o.o.hN, o.o.hs, o.o.kd, o.o.hfn⟩, o.hst, o.hfr⟩ h6
    · exact absurd h Bool.false_ne_true
end
end
end Tw
set_option maxHeartbeats 4000000
/-! The tree walk, part 24: a def keeps what its tree walk says. -/
namespace Tw
open PySem PySem.Spec PyProof.Rows L2 Evl
section
variable {K : PySem.W.Frag} {N : Nm}
theorem fins_set : ∀ {os : List O} {τ : Sto} {i j : Nat} {x : Option O}, i < j → fins (τ.set i x) j os = fins τ j os
  | [], τ, i, j, x, h => rfl
  | o :: os, τ, i, j, x, h => by
    have ih := fins_set (os := os) (τ := τ) (i := i) (j := j + 1) (x := x) (by omega)
    have e : (τ.set i x)[j]? = τ[j]? := List.getElem?_set_ne (by omega)
    cases o <;> simp only [fins, ih, e]
theorem fins_rel {G0 G : Hp} {σ : L2.St} {own : List Nat} (ex : Ex G0 G) : ∀ {os : List O} {vs : List V} {L0 : Cl} {j : Nat} {τ : Sto} {L : Cl} {os' : List O}, OwnL K N G0 os vs L0 → StoR K N G τ σ L → (∀ (i : Nat) (v : V), vs[i]? = some v → own.contains (j + i) = true → σ[j + i]? = some (some v)) →
    ownOk own j os = true → fins τ j os = some os' → ∃ L1 J, L.Perm (L1 ++ J) ∧ OwnL K N G os' vs L1
  | [], vs, L0, j, τ, L, os', hO, st, hσ, hk, hf => by
    obtain ⟨rfl, _⟩ := hO
    cases hf
    exact ⟨[], L, List.Perm.refl _, rfl, rfl⟩
  | o :: os, vs, L0, j, τ, L, os', hO, st, hσ, hk, hf => by
    obtain ⟨v, r, La, Lb, rfl, rfl, h1, h2⟩ := hO
    unfold ownOk at hk
    rw [Bool.and_eq_true] at hk
    have hσ' : ∀ (i : Nat) (v : V), r[i]? = some v → own.contains (j + 1 + i) = true → σ[j + 1 + i]? = some (some v) := fun i w e c => by
      have := hσ (i + 1) w (by simpa using e) (by rw [show j + (i + 1) = j + 1 + i from by omega]; exact c)
      rw [show j + 1 + i = j + (i + 1) from by omega]
      exact this
    have owned : isVal o = false → (match τ[j]? with
        | some (some o) => (fins τ (j + 1) os).map (o :: ·)
        | _ => none) = some os' → ∃ L1 J, L.Perm (L1 ++ J) ∧ OwnL K N G os' (v :: r) L1 := by
      intro hv hf
      cases q : τ[j]? with
      | none => simp only [q] at hf; cases hf
      | some oo =>
        cases oo with
        | none => simp only [q] at hf; cases hf
        | some o1 =>
          simp only [q] at hf
          obtain ⟨os2, e1, rfl⟩ := Option.map_eq_some_iff.mp hf
          obtain ⟨A, Bx, C, v', rfl, hs, hO1, st2, _⟩ := st.at q
          have hc : own.contains j = true := by
            have h := hk.1
            rw [hv, Bool.false_or] at h
            exact h
          have ev := hσ 0 v rfl (by simpa using hc)
          rw [Nat.add_zero, hs] at ev
          cases ev
          rw [← fins_set (τ := τ) (i := j) (j := j + 1) (x := none) (by omega)] at e1
          obtain ⟨L1, J, pm, h3⟩ := fins_rel ex h2 st2 hσ' hk.2 e1
          refine ⟨Bx ++ L1, J, ?_, v, r, Bx, L1, rfl, rfl, hO1, h3⟩
          rw [List.append_assoc]
          exact (perm3 A Bx C).trans (List.Perm.append_left Bx pm)
    cases o with
    | val d =>
      simp only [fins] at hf
      obtain ⟨os2, e1, rfl⟩ := Option.map_eq_some_iff.mp hf
      obtain ⟨L1, J, pm, h3⟩ := fins_rel ex h2 st hσ' hk.2 e1
      exact ⟨L1, J, pm, v, r, [], L1, rfl, rfl, ⟨rfl, h1.2.mono ex⟩, h3⟩
    | lst xs =>
      simp only [fins] at hf
      exact owned rfl hf
    | ins cc ns xs =>
      simp only [fins] at hf
      exact owned rfl hf
    | dct ks xs =>
      simp only [fins] at hf
      exact owned rfl hf
theorem stoR_none {G : Hp} : ∀ n : Nat, StoR K N G (List.replicate n none) (List.replicate n none) []
  | 0 => ⟨rfl, rfl⟩
  | n + 1 => ⟨none, List.replicate n none, rfl, stoR_none n⟩
theorem stoR_start {G : Hp} : ∀ {os : List O} {vs : List V} {L : Cl} {n : Nat}, OwnL K N G os vs L → StoR K N G (os.map some ++ List.replicate n none) (vs.map some ++ List.replicate n none) L
  | [], vs, L, n, h => by
    obtain ⟨rfl, rfl⟩ := h
    exact stoR_none n
  | o :: os, vs, L, n, h => by
    obtain ⟨v, r, La, Lb, rfl, rfl, h1, h2⟩ := h
    exact ⟨v, r.map some ++ List.replicate n none, La, Lb, rfl, rfl, h1, stoR_start h2⟩
end
section
variable {N : Nm} {T : Tb} {cl : CallT} {Q : Pg} {k : Nat} {P : Program} {w : World} {K : PySem.W.Frag} {mg : Str → Option Value} {base : Heap}
/-- a body's run, from its arguments -/
theorem fn_core {fd : FD} {Nn : List Str} {vs : List V} {os : List O} {G : Hp} {L : Cl} {H : Hp} {Q' : VK} {E : XK} (hnn : fd.nn = Nn.length) (hl : vs.length = fd.np) (hO : OwnL K N G os vs L) (ce : Cells G L H)
    (out : match runF T cl fd os with
      | .ok o os' => ∀ v G' Lv L' H', Own K N G' o v Lv → OwnL K N G' os' vs L' → Cells G' (Lv ++ L') H' → Step G L H G' (Lv ++ L') H' → Q' v H'
      | .ex x os' => ∀ cls d G' L' H', ExR K N x cls d G' → OwnL K N G' os' vs L' → Cells G' L' H' → Step G L H G' L' H' → E cls d H'
      | .bad => False) :
    tSt K N (fun cls d _ H' => E cls d H') fd.own (L2.start Nn vs) (if fd.hot then dnB T badCl (some (cl, false)) fd.body else dnB T cl none fd.body) { nx := fun _ H' => Q' .non H', rt := Q' } (L2.start Nn vs) H := by
  have hst : L2.start Nn vs = vs.map some ++ List.replicate (fd.nn - fd.np) none := by
    unfold L2.start
    rw [hnn, hl]
  refine ⟨os.map some ++ List.replicate (fd.nn - fd.np) none, G, L, ?_, ce, fun _ _ => rfl, ?_⟩
  · rw [hst]
    exact stoR_start hO
  · unfold runF at out
    by_cases hcond : os.length = fd.np ∧ ownOk fd.own 0 os = true
    case neg =>
      rw [if_neg hcond] at out
      exact out.elim
    case pos =>
      rw [if_pos hcond] at out
      obtain ⟨_, hown⟩ := hcond
      have get : ∀ (i : Nat) (v : V), vs[i]? = some v → (L2.start Nn vs)[i]? = some (some v) := fun i v e => start_get e
      have back : ∀ {G' : Hp} {τ : Sto} {σ' : L2.St} {L' : Cl} {os' : List O}, Ex G G' → StoR K N G' τ σ' L' → Fx fd.own (L2.start Nn vs) σ' → fins τ 0 os = some os' → ∃ L1 J, L'.Perm (L1 ++ J) ∧ OwnL K N G' os' vs L1 := by
        intro G' τ σ' L' os' ex st fx hf
        refine fins_rel ex hO st (fun i v e c => ?_) hown hf
        rw [Nat.zero_add] at c ⊢
        rw [fx i (by simpa using c)]
        exact get i v e
      cases e : (if fd.hot then dnB T badCl (some (cl, false)) fd.body else dnB T cl none fd.body) (os.map some ++ List.replicate (fd.nn - fd.np) none) with
      | bad => simp only [e] at out
      | ex y τ =>
        simp only [e] at out
        intro cls d σ' G' L' H' hx st ce' sp fx
        cases q : fins τ 0 os with
        | none => simp only [q] at out
        | some os' =>
          simp only [q] at out
          obtain ⟨L1, J, pm, h3⟩ := back sp.ex st fx q
          exact out cls d G' L1 H' hx h3 (ce'.perm pm).left ((sp.perm (List.Perm.refl _) pm).sub fun p hp => List.mem_append_left _ hp)
      | ok fl τ =>
        simp only [e] at out
        cases fl with
        | bk => exact out.elim
        | ct => exact out.elim
        | nx =>
          intro σ' G' L' H' st ce' sp fx
          cases q : fins τ 0 os with
          | none => simp only [q] at out
          | some os' =>
            simp only [q] at out
            obtain ⟨L1, J, pm, h3⟩ := back sp.ex st fx q
            exact out .non G' [] L1 H' ⟨rfl, rfl⟩ h3 (ce'.perm pm).left ((sp.perm (List.Perm.refl _) pm).sub fun p hp => List.mem_append_left _ hp)
        | rt o1 =>
          intro v σ' G' Lv L' H' ho st ce' sp fx
          cases q : fins τ 0 os with
          | none => simp only [q] at out
          | some os' =>
            simp only [q] at out
            obtain ⟨L1, J, pm, h3⟩ := back sp.ex st fx q
            have pm2 : (Lv ++ L').Perm ((Lv ++ L1) ++ J) := by
              rw [List.append_assoc]
              exact List.Perm.append_left Lv pm
            exact out v G' Lv L1 H' ho h3 (ce'.perm pm2).left ((sp.perm (List.Perm.refl _) pm2).sub fun p hp => List.mem_append_left _ hp)
theorem fn_step {cl' : CallT} {x qual : Str} {params : Arguments} {body : List Stmt} {scope : Scope} {dvs : List V} {kws : List (Str × V)} {fa : Addr} {fdat : FuncData} {Nn ps : List Str} {fd : FD} {f : Nat} (h0 : N.exa = none) (F : FunD K x qual params body scope dvs kws fa fdat) (S : FnScope Nn ps scope)
    (g : GOk P w K mg base (N.at_ none) T cl Q k) (hc : chkB Q T fd.body fd.own ⟨Nn, scope.names, fun _ => true, false⟩ body = true) (hh : fd.hot = false) (hnn : fd.nn = Nn.length) (hnp : fd.np = ps.length) (hcl : ∀ os, cl' f os = runF T cl fd os) :
    FnOk P w K mg base (L2.CX P w) (k + 2) fa fdat ps (spF K N cl' f fd.np) := by
  refine F.ok S (fun vs H Q' E h => by rw [h.1]; exact hnp) (fun cdv A outer s H vs Q' E hr hsp => ?_)
  obtain ⟨hl, G, L, os, hO, ce, out⟩ := hsp
  rw [hcl] at out
  have o : XOkS (cxOf (L2.CX P w) P w K mg base Nn qual scope fa cdv A outer s H E) N T cl cl none Q k ⟨Nn, scope.names, fun _ => true, false⟩ (fun cls d _ H' => E cls d H') := ⟨{
    g := g
    room := L2H.roomH_of hr
    md := .inl ⟨rfl, rfl, rfl, rfl, hr.hd, h0⟩
    tk := takes_of rfl rfl rfl rfl
    po := passes_of rfl
    nd := S.nd
    hN := rfl
    hs := rfl
    kd := S.kind
    hfn := fun _ _ => rfl }, rfl, rfl⟩
  have ht := sndB fd.body (Bs := fd.own) (σ0 := L2.start Nn vs) o hc
  have fin := fn_core (E := E) hnn hl hO ce out
  rw [hh] at fin
  exact ⟨_, ht, fin⟩
/-- .. of a def that may be called in a suite -/
theorem fn_stepH {cl' : CallT} {x qual : Str} {params : Arguments} {body : List Stmt} {scope : Scope} {dvs : List V} {kws : List (Str × V)} {fa : Addr} {fdat : FuncData} {Nn ps : List Str} {fd : FD} {f : Nat} (F : FunD K x qual params body scope dvs kws fa fdat) (S : FnScope Nn ps scope)
    (g : GOk P w K mg base (N.at_ none) T cl Q k) (hc : chkB Q T fd.body fd.own ⟨Nn, scope.names, fun _ => true, true⟩ body = true) (hh : fd.hot = true) (hnn : fd.nn = Nn.length) (hnp : fd.np = ps.length) (hcl : ∀ os, cl' f os = runF T cl fd os) :
    FnL P w K mg base (k + 2) fa fdat ps (spF K N cl' f fd.np) := by
  obtain ⟨oc, od, dV, kV, doc, pm, an, cdv, ct, osl, rfl, lk, hcd, _, _⟩ := F.ex
  refine fn_hot lk hcd S (fun vs H Q' E h => by rw [h.1]; exact hnp) (fun A outer s H vs Q' E hr hsp => ?_)
  obtain ⟨hl, G, L, os, hO, ce, out⟩ := hsp
  rw [hcl] at out
  have o : XOkS (cxL P w K mg base Nn qual scope fa cdv A outer s H E) N T cl badCl (some (cl, false)) Q k ⟨Nn, scope.names, fun _ => true, true⟩ (fun cls d _ H' => E cls d H') := ⟨{
    g := g
    room := hr
    md := .inr ⟨rfl, rfl, false, rfl, fun z => Bool.noConfusion z⟩
    tk := takes_of rfl rfl rfl rfl
    po := passes_of rfl
    nd := S.nd
    hN := rfl
    hs := rfl
    kd := S.kind
    hfn := fun _ _ => rfl }, rfl, rfl⟩
  have ht := sndB fd.body (Bs := fd.own) (σ0 := L2.start Nn vs) o hc
  have fin := fn_core (E := E) hnn hl hO ce out
  rw [hh] at fin
  exact ⟨_, ht, fin⟩
theorem runF_len {fd : FD} {os : List O} (h : runF T cl fd os ≠ .bad) : os.length = fd.np := by
  unfold runF at h
  split at h
  · rename_i hc
    exact hc.1
  · exact absurd rfl h
end
end Tw
set_option maxHeartbeats 4000000
/-! The tree walk, part 25: the whole program, the law. -/
namespace Tw
open PySem PySem.Spec PyProof.Rows L2 Evl
section
variable {N : Nm} {T : Tb} {Q : Pg} {P : Program} {w : World} {K : PySem.W.Frag} {mg : Str → Option Value}
/-- a def of the program and its tree -/
def DefF (K : PySem.W.Frag) (T : Tb) (ft : Nat → Option FD) (Q : Pg) (f : Nat) (fa : Addr) (n : Nat) (hot : Bool) (R : FuncData → List Str → Prop) : Prop :=
  ∃ fd x' qual params body scope dvs kws fdat Nn ps, ft f = some fd ∧ fd.hot = hot ∧ fd.np = n ∧ fd.nn = List.length Nn ∧ fd.np = List.length ps ∧ FunD K x' qual params body scope dvs kws fa fdat ∧ FnScope Nn ps scope ∧ chkB Q T fd.body fd.own ⟨Nn, scope.names, fun _ => true, hot⟩ body = true ∧ R fdat ps
/-- .. all of whose parameters are given -/
abbrev DefB (K : PySem.W.Frag) (T : Tb) (ft : Nat → Option FD) (Q : Pg) (f : Nat) (fa : Addr) (n : Nat) : Prop := DefF K T ft Q f fa n false fun fdat ps => Binds K fdat ps []
structure PF (P : Program) (w : World) (K : PySem.W.Frag) (mg : Str → Option Value) (N : Nm) (T : Tb) (ft : Nat → Option FD) (Q : Pg) : Prop where
  fn : ∀ f x n, Q.fnm f = some (x, n) → ∃ fa, mg x = some (.ref fa) ∧ DefF K T ft Q f fa n false fun fdat ps => Binds K fdat ps [] ∧ ∀ np ks ar, Q.kbs f np ks ar = true → KB K fdat ps 0 np ks ar
  hot : ∀ f x n, Q.hfn f = some (x, n) → ∃ fa, mg x = some (.ref fa) ∧ DefF K T ft Q f fa n true fun fdat ps => Binds K fdat ps []
  cls : ∀ c x, Q.cnm c = some x → mg x = some (.ref (N.cad c))
  con : ∀ i x, Q.con i = some x → ∃ u v, mg x = some u ∧ RelV v u ∧ ∀ e G, Rep K (N.at_ e) G (T.con i) v
  free : ∀ x, Q.free x = true → mg x = none
  imp : ∀ b x, Q.imp b = some x → mg x = some (biV b) ∧ ∃ id, biV b = .builtin id
  fld : ∀ f, Q.fld f = N.fn f
  isa : ∀ t y b, T.isa t y = some b → PySem.W.kitOne K (tkV N t) (tyV N y) = some b
  ins : ∀ c y b, T.isa (.own c) y = some b → InsC K (N.cad c)
  fok : ∀ c f, T.fok c f = true → Cls K (N.cad c) ∧ NoAttr K (N.cad c) (N.fn f)
  xok : XokOk K N T
  exm : ExmOk K N T
  mth : ∀ c m f, T.mth c m = some f → Cls K (N.cad c) ∧ ∃ fa n, DefB K T ft Q f fa n ∧ Meth K (N.cad c) (N.fn m) fa
  prp : ∀ c m f, T.prp c m = some f → Cls K (N.cad c) ∧ ∃ fa p, DefB K T ft Q f fa 1 ∧ PropOf K (N.cad c) (N.fn m) p fa
  una : ∀ c u f, T.una c u = some f → ∃ fa, DefB K T ft Q f fa 1 ∧ DefAt K (N.cad c) (unNm u) fa
  dun : ∀ c op f, T.dun c op = some f → ∃ fa, DefB K T ft Q f fa 2 ∧ BinAt K (N.cad c) (pyOp op).info.2 fa
  rdn : ∀ c op f, T.rdn c op = some f → IntOp (pyOp op).info.2 ∧ ∃ fa, DefB K T ft Q f fa 2 ∧ RbinAt K (N.cad c) (pyOp op).info.2 fa
  deq : ∀ c f, T.deq c = some f → ∃ fa, DefB K T ft Q f fa 2 ∧ EqOf K (N.cad c) fa
  noi : ∀ c op, T.noi c op = true → NoIn K (N.cad c) (pyOp op).info.2
  smt : ∀ c m, Q.stt c m = true → ∃ f fa n, T.smt c m = some f ∧ DefB K T ft Q f fa n ∧ StatOf K (N.cad c) (N.fn m) fa
  ini : ∀ c, Q.cin c = true → ∃ f fa n, T.ini c = some f ∧ DefB K T ft Q f fa n ∧ Mk K (N.cad c) fa
  kbi : ∀ c np ks ar, Q.kbi c np ks ar = true → ∃ f fa n, T.ini c = some f ∧ Mk K (N.cad c) fa ∧ DefF K T ft Q f fa n false fun fdat ps => KB K fdat ps 1 np ks ar
  exI : ∀ c ns, T.exf c = some ns → ns ≠ [] → ns.length ≤ 1000 ∧ OexC K (N.cad c) ∧ ∃ fI fd ps, PySem.W.findIn K (.ref (N.cad c)) "__init__" = some (some (.ref fI)) ∧ PySem.W.typeIn K (.ref fI) = some (.type "function") ∧
    (∀ base, FnOk P w K mg base (L2.CX P w) 1 fI fd ps (spI (N.cad c) (lOf (N.at_ none) ns.reverse 1) (ns.length + 1))) ∧ Binds K fd ps []
  exB : ∀ c, T.exf c = some [] → BareAt K (N.cad c)
theorem DefF.ok {ft : Nat → Option FD} {base : Heap} {f n : Nat} {fa : Addr} {R : FuncData → List Str → Prop} (h : DefF K T ft Q f fa n false R) : ∀ j : Nat, (∀ i, j = i + 1 → GOk P w K mg base (N.at_ none) T (callN T ft i) Q (2 * i + 1)) →
    ∃ fdat ps, PySem.W.keepIn K (.ref fa) = true ∧ (∀ os, callN T ft j f os ≠ .bad → os.length = n) ∧ FnOk P w K mg base (L2.CX P w) (2 * j + 1) fa fdat ps (spF K (N.at_ none) (callN T ft j) f n) ∧ R fdat ps
  | 0, _ => by
    obtain ⟨fd, x', qual, params, body, scope, dvs, kws, fdat, Nn, ps, h1, h9, h2, h3, h4, h6, h7, h8, h10⟩ := h
    refine ⟨fdat, ps, h6.kp, fun os hb => absurd rfl hb, ⟨fun vs H Q' E q => ?_, fun A outer s H args us vs Q' E hr he hb hv hs => ?_⟩, h10⟩
    · rw [q.1, ← h2]
      exact h4
    · obtain ⟨_, G, L, os, _, _, out⟩ := hs
      exact out.elim
  | j + 1, g => by
    obtain ⟨fd, x', qual, params, body, scope, dvs, kws, fdat, Nn, ps, h1, h9, h2, h3, h4, h6, h7, h8, h10⟩ := h
    have e : ∀ os, callN T ft (j + 1) f os = runF T (callN T ft j) fd os := fun os => by
      simp only [callN, h1]
    have hf := fn_step (N := N.at_ none) (cl' := callN T ft (j + 1)) (f := f) (base := base) rfl h6 h7 (g j rfl) h8 h9 h3 h4 e
    rw [h2] at hf
    refine ⟨fdat, ps, h6.kp, fun os hb => ?_, hf, h10⟩
    rw [e] at hb
    rw [← h2]
    exact runF_len hb
theorem DefF.okL {ft : Nat → Option FD} {base : Heap} {f n : Nat} {fa : Addr} {R : FuncData → List Str → Prop} (h : DefF K T ft Q f fa n true R) (ex : Option (Addr × Value × Option Addr)) : ∀ j : Nat, (∀ i, j = i + 1 → GOk P w K mg base (N.at_ none) T (callN T ft i) Q (2 * i + 1)) →
    ∃ fdat ps, PySem.W.keepIn K (.ref fa) = true ∧ (∀ os, callN T ft j f os ≠ .bad → os.length = n) ∧ FnL P w K mg base (2 * j + 1) fa fdat ps (spF K (N.at_ ex) (callN T ft j) f n) ∧ R fdat ps
  | 0, _ => by
    obtain ⟨fd, x', qual, params, body, scope, dvs, kws, fdat, Nn, ps, h1, h9, h2, h3, h4, h6, h7, h8, h10⟩ := h
    refine ⟨fdat, ps, h6.kp, fun os hb => absurd rfl hb, ⟨fun vs H Q' E q => ?_, fun hr he hb hv hs => ?_⟩, h10⟩
    · rw [q.1, ← h2]
      exact h4
    · obtain ⟨_, G, L, os, _, _, out⟩ := hs
      exact out.elim
  | j + 1, g => by
    obtain ⟨fd, x', qual, params, body, scope, dvs, kws, fdat, Nn, ps, h1, h9, h2, h3, h4, h6, h7, h8, h10⟩ := h
    have e : ∀ os, callN T ft (j + 1) f os = runF T (callN T ft j) fd os := fun os => by
      simp only [callN, h1]
    have hf := fn_stepH (N := N.at_ ex) (cl' := callN T ft (j + 1)) (f := f) (base := base) h6 h7 (g j rfl) h8 h9 h3 h4 e
    rw [h2] at hf
    refine ⟨fdat, ps, h6.kp, fun os hb => ?_, hf, h10⟩
    rw [e] at hb
    rw [← h2]
    exact runF_len hb
theorem PF.mk_ {ft : Nat → Option FD} (p : PF P w K mg N T ft Q) {base : Heap} (j : Nat) (g : ∀ i, j = i + 1 → GOk P w K mg base (N.at_ none) T (callN T ft i) Q (2 * i + 1)) : GOk P w K mg base (N.at_ none) T (callN T ft j) Q (2 * j + 1) := by
  have B : ∀ {f n : Nat} {fa : Addr}, DefB K T ft Q f fa n → GFn P w K mg base (N.at_ none) (callN T ft j) (2 * j + 1) f fa n := fun h => let ⟨fdat, ps, h1, h2, h3, h4⟩ := h.ok (N := N) j g; ⟨h1, h2, fdat, ps, h3, h4⟩
  exact {
    fn := fun f x n h => by
      obtain ⟨fa, h1, h2⟩ := p.fn f x n h
      obtain ⟨fdat, ps, k1, k2, k3, k4⟩ := h2.ok (N := N) j g
      exact ⟨fa, fdat, ps, h1, k1, k2, k3, k4.1, k4.2⟩
    hot := fun e f x n h => by
      obtain ⟨fa, h1, h2⟩ := p.hot f x n h
      obtain ⟨fdat, ps, k1, k2, k3, k4⟩ := h2.okL (N := N) e j g
      exact ⟨fa, fdat, ps, h1, k1, k2, k3, k4⟩
    cls := p.cls
    con := p.con
    free := p.free
    imp := p.imp
    fld := p.fld
    isa := p.isa
    ins := p.ins
    fok := p.fok
    xok := p.xok
    exm := p.exm
    mth := fun c m f h => let ⟨h1, fa, n, h2, h3⟩ := p.mth c m f h; ⟨h1, fa, n, B h2, h3⟩
    prp := fun c m f h => let ⟨h1, fa, q, h2, h3⟩ := p.prp c m f h; ⟨h1, fa, q, B h2, h3⟩
    una := fun c u f h => let ⟨fa, h2, h3⟩ := p.una c u f h; ⟨fa, B h2, h3⟩
    dun := fun c u f h => let ⟨fa, h2, h3⟩ := p.dun c u f h; ⟨fa, B h2, h3⟩
    rdn := fun c u f h => let ⟨h1, fa, h2, h3⟩ := p.rdn c u f h; ⟨h1, fa, B h2, h3⟩
    deq := fun c f h => let ⟨fa, h2, h3⟩ := p.deq c f h; ⟨fa, B h2, h3⟩
    noi := p.noi
    smt := fun c m h => let ⟨f, fa, n, h1, h2, h3⟩ := p.smt c m h; ⟨f, fa, n, h1, B h2, h3⟩
    ini := fun c h => let ⟨f, fa, n, h1, h2, h3⟩ := p.ini c h; ⟨f, fa, n, h1, B h2, h3⟩
    kbi := fun c np ks ar h => by
      obtain ⟨f, fa, n, h1, h2, h3⟩ := p.kbi c np ks ar h
      obtain ⟨fdat, ps, k1, k2, k3, k4⟩ := h3.ok (N := N) j g
      exact ⟨f, fa, n, fdat, ps, h1, k1, k2, k3, h2, k4⟩
    exI := fun c ns h hn => by
      obtain ⟨a1, a2, fI, fd, ps, a3, a4, a5, a6⟩ := p.exI c ns h hn
      exact ⟨a1, a2, fI, fd, ps, a3, a4, (a5 base).mono (by omega), a6⟩
    exB := p.exB }
theorem PF.gok {ft : Nat → Option FD} (p : PF P w K mg N T ft Q) {base : Heap} : ∀ j : Nat, GOk P w K mg base (N.at_ none) T (callN T ft j) Q (2 * j + 1)
  | 0 => p.mk_ 0 fun i h => by cases h
  | j + 1 => p.mk_ (j + 1) fun i h => by
    cases h
    exact PF.gok p j
/-- the law's def, called -/
theorem law_sp {cl : CallT} {f : Nat} {H : Hp} {a : Addr} {ns : List Int} (hS : SqL K H a (ns.map V.int)) (hl : ∃ os', cl f [.val (.kls (ns.map .int))] = .ok (.val (.bl true)) os') :
    spF K N cl f 1 [.ref a] H (fun v _ => v = .bl true) fun _ _ _ => False := by
  obtain ⟨os', e⟩ := hl
  have rep : ∀ ns : List Int, RepL K N H (ns.map .int) (ns.map V.int) := by
    intro ns
    induction ns with
    | nil => exact rfl
    | cons i ns ih => exact ⟨.int i, ns.map V.int, rfl, rfl, ih⟩
  refine ⟨rfl, H, [], [.val (.kls (ns.map .int))], ⟨.ref a, [], [], [], rfl, rfl, ⟨rfl, a, ns.map V.int, rfl, hS, rep ns⟩, rfl, rfl⟩, ⟨.nil, fun _ _ h => (by cases h), fun _ _ h => (by cases h), Ex.refl H⟩, ?_⟩
  rw [e]
  intro v G' Lv L' H' hv hO ce sp
  exact hv.2
theorem hcx {H : Hp} {s : Shared} {e : Value} {s' : Shared} (h : L2.CX P w [] H s (fun _ _ _ => False) e s') : False := by
  obtain ⟨_, _, _, _, _, _, _, _, _, _, _, _, z⟩ := h
  exact z
/-- the law's end -/
theorem walk_tw {l : PySem.W.OpenLaw} {n k : Nat} {q : Program} {loose : List Str} {XP : (Str → Option Value) → Heap → Prop} {YP : World → Heap → Prop} {d : DefRec} {x : Str} (hn : l.most = some n) (hz : n ≤ sizeLine) (hd : d.params.defaults = []) (hr : Room k callerA)
    (F : ∀ (w : World) (mg : Str → Option Value) (fa : Addr) (h : Heap), YP w h → h.Ns mainGlobals mg → mg d.name = some (.ref fa) →
      ∃ (K : PySem.W.Frag) (fd : FuncData) (sp : Sp), K.In h ∧ (∀ (s : Shared) (u : Value), BindsTo s fd ⟨[u], []⟩ [(x, u)]) ∧
        (∀ (H : Hp) (a : Addr) (ns : List Int), ns.length ≤ n → (∀ z ∈ ns, Builtin.Int.intBits z ≤ 1048576) → SqL K H a (ns.map V.int) → sp [.ref a] H (fun v _ => v = .bl true) fun _ _ _ => False) ∧ ∀ base : Heap, FnOk l.prog w K mg base (L2.CX l.prog w) k fa fd [x] sp) :
    PySem.W.WalkO q loose XP YP l.row.toRowW d [] (fun f vs => PySem.call f vs) := by
  refine Att.attach_callB hn hd fun w s₀ s₁ mg mb fa o pm cd doc a vs ns G Y ho hdd hcd hmg hobj hints hlen hbits hg => ?_
  obtain ⟨K, fd, sp, KX, hb, hsp, hF⟩ := F w mg fa _ Y G.T.g hmg
  exact law_call KX G.T.g G.T.b G.T.builtins G.T.nolimit hg hobj hints (Nat.le_trans hlen hz) hr (fun base _ _ => hF base) hb (fun H _ hS => hsp H a ns hlen hbits hS) fun H e s' => hcx
/-! ### names -/
/-- injective numbering of names -/
def fnL (l : List Str) (i : Nat) : Str := match l[i]? with
  | some s => s
  | none => ⟨#[0, i]⟩
def namesOk (l : List Str) : Bool := decide l.Nodup && l.all fun s => match s.cps.toList with
  | 0 :: _ => false
  | _ => true
theorem fnL_inj {l : List Str} (h : namesOk l = true) : ∀ a b, fnL l a = fnL l b → a = b := by
  unfold namesOk at h
  simp only [Bool.and_eq_true, decide_eq_true_eq, List.all_eq_true] at h
  obtain ⟨nd, h0⟩ := h
  have zero : ∀ {i j : Nat} {s : Str}, l[i]? = some s → s = ⟨#[0, j]⟩ → False := by
    intro i j s e es
    have := h0 s (List.mem_of_getElem? e)
    rw [es] at this
    exact absurd this Bool.false_ne_true
  intro a b e
  unfold fnL at e
  cases qa : l[a]? with
  | none =>
    cases qb : l[b]? with
    | none =>
      rw [qa, qb] at e
      simp only [Str.mk.injEq] at e
      have := congrArg Array.toList e
      simpa using this
    | some t =>
      rw [qa, qb] at e
      exact (zero qb e.symm).elim
  | some s =>
    cases qb : l[b]? with
    | none =>
      rw [qa, qb] at e
      exact (zero qa e).elim
    | some t =>
      rw [qa, qb] at e
      have e' : s = t := e
      subst e'
      exact L2.nodup_ix nd qa qb
end
end Tw
set_option maxHeartbeats 4000000
/-! The tree walk, part 26: facts by Bools. -/
namespace Tw
open PySem PySem.Spec PyProof.Rows L2
theorem zip_lookup : ∀ {ps : List Str} {us : List Value} {p : Str}, us.length = ps.length → p ∈ ps → ((ps.zip us).lookup p).isSome = true
  | [], us, p, h, hp => by cases hp
  | q :: ps, [], p, h, hp => by cases h
  | q :: ps, u :: us, p, h, hp => by
    rw [List.zip_cons_cons, List.lookup_cons]
    cases e : p == q with
    | true => rfl
    | false =>
      have ne : p ≠ q := by simpa using e
      exact zip_lookup (by simpa using h) ((List.mem_cons.mp hp).resolve_left ne)
theorem zip_self : ∀ {ps : List Str} {us : List Value}, us.length = ps.length → ps.Nodup → ∀ l : List (Str × Value), (∀ p ∈ ps, l.lookup p = none) → ps.filterMap (fun n => ((l ++ ps.zip us).lookup n).map (n, ·)) = ps.zip us
  | [], us, h, nd, l, hl => by cases us <;> rfl
  | q :: ps, [], h, nd, l, hl => by cases h
  | q :: ps, u :: us, h, nd, l, hl => by
    have app : ∀ {l r : List (Str × Value)} {p : Str}, l.lookup p = none → (l ++ r).lookup p = r.lookup p := by
      intro l r p
      induction l with
      | nil => intro _; rfl
      | cons x l ih =>
        intro e
        rw [List.lookup_cons] at e
        rw [List.cons_append, List.lookup_cons]
        cases c : p == x.1 with
        | true => rw [c] at e; cases e
        | false =>
          rw [c] at e
          exact ih e
    have h0 := app (r := (q :: ps).zip (u :: us)) (hl q List.mem_cons_self)
    rw [List.zip_cons_cons, List.lookup_cons, beq_self_eq_true] at h0
    rw [List.zip_cons_cons, List.filterMap_cons, h0]
    simp only [Option.map_some]
    congr 1
    have nq := (List.nodup_cons.mp nd).1
    have ih := zip_self (ps := ps) (us := us) (by simpa using h) (List.nodup_cons.mp nd).2 (l ++ [(q, u)]) fun p hp => by
      rw [app (hl p (List.mem_cons_of_mem _ hp)), List.lookup_cons]
      have : (p == q) = false := beq_eq_false_iff_ne.mpr fun z => nq (z ▸ hp)
      rw [this]
      rfl
    rw [List.append_assoc] at ih
    exact ih
theorem bind_plain {fd : FuncData} {us : List Value} (h1 : fd.params.posonlyargs = []) (h2 : fd.params.vararg = none) (h3 : fd.params.kwonlyargs = []) (h4 : fd.params.kwarg = none) (hd : fd.defaults = .none) (nd : (fd.params.args.map (·.arg)).Nodup) (hl : us.length = (fd.params.args.map (·.arg)).length) :
    bindArgs fd ⟨us, []⟩ = pure ((fd.params.args.map (·.arg)).zip us) := by
  have hs : seqItems? .none = pure none := rfl
  have miss : (fd.params.args.map (·.arg)).filter (fun n => (((fd.params.args.map (·.arg)).zip us).lookup n).isNone) = [] := by
    rw [List.filter_eq_nil_iff]
    intro p hp
    have := zip_lookup hl hp
    rw [Option.isSome_iff_ne_none] at this
    simpa [Option.isNone_iff_eq_none] using this
  have self := zip_self hl nd [] fun _ _ => rfl
  rw [List.nil_append] at self
  unfold bindArgs
  simp only [h1, h2, h3, h4, hd, List.map_nil, List.nil_append, List.append_nil, List.forIn_nil, pure_bind, hs, hl, Nat.lt_irrefl, gt_iff_lt, decide_false, Bool.false_and, Bool.false_eq_true, if_false, Option.getD_none, List.length_nil, Nat.zero_sub, List.drop_zero, List.drop_nil, Nat.sub_zero, List.take_length, miss, List.isEmpty_nil, Bool.not_true, List.zip_nil_right, self, List.drop_length]

open PySem.W (ksFn)
/-! ### an own exception's __init__ -/
def plainA (p : Arguments) : Bool := p.posonlyargs.isEmpty && (p.vararg.isNone && (p.kwonlyargs.isEmpty && (p.kwarg.isNone && decide (p.args.map (·.arg)).Nodup)))
theorem plainA_ok {p : Arguments} (h : plainA p = true) : p.posonlyargs = [] ∧ p.vararg = none ∧ p.kwonlyargs = [] ∧ p.kwarg = none ∧ (p.args.map (·.arg)).Nodup := by
  unfold plainA at h
  simp only [Bool.and_eq_true, List.isEmpty_iff, Option.isNone_iff_eq_none, decide_eq_true_eq] at h
  exact h
def scSB (N P : List Str) (sc : Scope) : Bool :=
  decide (sc.kind = .function) && (decide (sc.isCoroutine = false) && (decide (sc.isGenerator = false) && (decide N.Nodup && (decide (N.take P.length = P) && (P.all (fun x => decide (sc.names.lookup x = some .local)) && (sc.names.all (fun y => decide (y.2 ≠ .cell)) &&
    (decide (sc.names.lookup ("super" : Str) = some .globalImplicit) && (decide (sc.names.lookup ("__class__" : Str) = some .free) && sc.names.all (fun y => decide (y.2 ≠ .free) || decide (y.1 = ("__class__" : Str)))))))))))
theorem scSB_ok {N P : List Str} {sc : Scope} (h : scSB N P sc = true) : ScS N P sc := by
  unfold scSB at h
  simp only [Bool.and_eq_true, decide_eq_true_eq, List.all_eq_true, Bool.or_eq_true] at h
  obtain ⟨h1, h2, h3, h4, h5, h6, h7, h8, h9, h10⟩ := h
  refine ⟨h1, h2, h3, h4, h5, h6, h7, h8, h9, fun x hx => ?_⟩
  rcases h10 _ (PySem.mem_of_lookup hx) with h | h
  · exact absurd rfl h
  · exact h
def oexB (K : PySem.W.Frag) (C : Addr) : Bool := (match K.lookup C with
  | some ⟨.type t, dd, .cls ⟨nm, bs, .ref C' :: bm, ns, q, true, sn, sub, ab, col, false⟩, sl⟩ => decide (t = "type") && (decide (C' = C) && (PySem.HandSPX.refsVE bm && (match sl.toList with
    | [k0, k1, k2, k3, some (.builtin n), k5] => decide (n = "ValueError.__new__")
    | _ => false)))
  | _ => false) && (decide (PySem.W.findIn K (.ref C) "__setattr__" = some (some (.builtin "object.__setattr__"))) && (decide (PySem.W.subIn K (.ref C) (.type "BaseException") = some true) && (decide (PySem.W.typeIn K (.ref C) = some (.type "type")) && PySem.W.keepIn K (.ref C))))
theorem oexB_ok {K : PySem.W.Frag} {C : Addr} (h : oexB K C = true) : OexC K C := by
  unfold oexB at h
  simp only [Bool.and_eq_true, decide_eq_true_eq] at h
  obtain ⟨h0, h1, h2, h3, h4⟩ := h
  refine ⟨?_, h1, h2, h3, h4⟩
  split at h0
  · rename_i t dd nm bs C' bm ns q sn sub ab col sl e
    simp only [Bool.and_eq_true, decide_eq_true_eq] at h0
    obtain ⟨rfl, rfl, h5, h6⟩ := h0
    split at h6
    · rename_i k0 k1 k2 k3 n k5 es
      rw [decide_eq_true_eq] at h6
      subst h6
      have hsl : sl = #[k0, k1, k2, k3, some (.builtin "ValueError.__new__"), k5] := by
        obtain ⟨l⟩ := sl
        simp only at es
        rw [es]
      subst hsl
      exact ⟨nm, q, ns, bs, bm, sn, sub, ab, col, dd, k0, k1, k2, k3, k5, e, h5⟩
    · exact absurd h6 Bool.false_ne_true
  · exact absurd h0 Bool.false_ne_true
def supB (K : PySem.W.Frag) (C : Addr) : Bool := oexB K C && ((PySem.W.clsIn K C).isSome && (decide (PySem.W.mroIn K C (.ref C) = some true) && (decide (PySem.W.ks_superIn K C C "__init__" = some (some (.builtin "ValueError.__init__"))) &&
  (decide (PySem.W.subIn K (.ref C) (.type "ValueError") = some true) && decide (PySem.W.nsIn K cStatics "thirdparty.any" = some none)))))
theorem supB_ok {K : PySem.W.Frag} {C : Addr} (h : supB K C = true) : SupC K C C := by
  unfold supB at h
  simp only [Bool.and_eq_true, decide_eq_true_eq] at h
  obtain ⟨h1, h2, h3, h4, h5, h6⟩ := h
  have hc := Option.isSome_iff_exists.mp h2
  exact ⟨oexB_ok h1, hc, hc, h3, h4, h5, h6⟩
/-- l: the fields' names with their parameters, Nn: the def's names -/
def iniB (P : Program) (K : PySem.W.Frag) (C : Addr) (Nn : List Str) (l : List (Str × Nat)) (n : Nat) : Bool :=
  match PySem.W.findIn K (.ref C) "__init__" with
  | some (some (.ref f)) => decide (PySem.W.typeIn K (.ref f) = some (.type "function")) && (match K.lookup f with
    | some ⟨_, _, .func ⟨_, qual, params, .stmts (.Expr (.Call (.Attribute (.Call (.Name s _) [] [] _) m p2) [.Constant (.str _) _ _] [] p3) _ :: body), scope, g, [(cl, cc)], dV, _, _, _, _, .ref cda, _, bi⟩, _⟩ =>
      decide (g = mainGlobals) && (decide (cl = ("__class__" : Str)) && (decide (bi = builtinsNs) && (decide (dV = .none) && (decide (s = ("super" : Str)) && (decide (m = ("__init__" : Str)) && (PySem.W.codeIn K (.ref cda) qual && (plainA params && (scSB Nn (params.args.map (·.arg)) scope &&
        ((match params.args with
          | ar :: _ => decide (Nn[0]? = some ar.arg) && (nmOk ar.arg && stChk K C Nn scope ar.arg body l)
          | [] => false) &&
        ((match K.lookup cda with
          | some ⟨_, _, .fields vs, _⟩ => (match (vs[2]? : Option Value) with
            | some (.str file _) => (P.main.file : Str) == file
            | _ => false)
          | _ => false) &&
        ((match K.lookup cc with
          | some ⟨_, _, .cell (some (.ref D)), _⟩ => decide (D = C)
          | _ => false) &&
        ((p2.endLine == p3.line) && (decide (params.args.length = n + 1) && l.all (fun p => decide (p.2 < n + 1)))))))))))))))
    | _ => false)
  | _ => false
theorem iniB_ok {P : Program} {w : World} {K : PySem.W.Frag} {mg : Str → Option Value} {C : Addr} {Nn : List Str} {fl : Str} {jl : Nat} {l : List (Str × Nat)} {n : Nat} (h : iniB P K C Nn ((fl, jl) :: l) n = true) (hs : supB K C = true) (hms : mg "super" = none) (htop : (P.main.scope.names.lookup ("super" : Str)).isSome = false) (hl : l.length ≤ 800) :
    ∃ fI fd ps, PySem.W.findIn K (.ref C) "__init__" = some (some (.ref fI)) ∧ PySem.W.typeIn K (.ref fI) = some (.type "function") ∧ (∀ base, FnOk P w K mg base (L2.CX P w) 1 fI fd ps (spI C ((fl, jl) :: l) (n + 1))) ∧ Binds K fd ps [] := by
  unfold iniB at h
  split at h
  · rename_i f hf
    rw [Bool.and_eq_true, decide_eq_true_eq] at h
    obtain ⟨hty, h⟩ := h
    split at h
    · rename_i oc od name qual params s p0 p1 m p2 msg j pc p3 p4 body scope g cl cc dV kV doc pm an cda ct bi osl hlk
      simp only [Bool.and_eq_true, decide_eq_true_eq] at h
      obtain ⟨rfl, rfl, rfl, rfl, rfl, rfl, hcd, hpl, hsc, har, hcode, hcell, hline, hlen, hall⟩ := h
      obtain ⟨q1, q2, q3, q4, q5⟩ := plainA_ok hpl
      split at har
      · rename_i ar ars ea
        simp only [Bool.and_eq_true, decide_eq_true_eq] at har
        obtain ⟨a1, a2, a3⟩ := har
        split at hcode
        · rename_i ccl cdd vs ccs ec
          split at hcode
          · rename_i file tf ev
            split at hcell
            · rename_i cl2 cld D csl ecc
              rw [decide_eq_true_eq] at hcell
              subst hcell
              have hlp : (params.args.map (·.arg)).length = n + 1 := by rw [List.length_map]; exact hlen
              have r := fun base : Heap => ini_fn (P := P) (w := w) (mg := mg) (base := base) (k := 0) (ps := params.args.map (·.arg)) (ar := ar) hlk hcd (scSB_ok hsc) (by rw [q1, ea]; rfl) a1 (by rw [ea]; simp) a2 ec ev hcode ecc hms htop hline (supB_ok hs) a3 hl (fun p hp => by
                rw [hlp]
                simpa using List.all_eq_true.mp hall p hp)
              simp only [hlp] at r
              exact ⟨f, _, params.args.map (·.arg), hf, hty, r, .all fun us hu => bind_plain q1 q2 q3 q4 rfl q5 hu⟩
            · exact absurd hcell Bool.false_ne_true
          · exact absurd hcode Bool.false_ne_true
        · exact absurd hcode Bool.false_ne_true
      · exact absurd har Bool.false_ne_true
    · exact absurd h Bool.false_ne_true
  · exact absurd h Bool.false_ne_true
/-! ### the Hook: the facts of the text, one Bool more -/
def frK (n : Nat) (g : Addr → Option Obj) : PySem.W.Frag := He.frT g (He.asD g n ++ [cStatics])
abbrev AlW : Type := He.AlD × Bool
def obsW (n : Nat) (fa : List He.Fa) (fn : List He.DefD) (ex : PySem.W.Frag → Bool) (g : Addr → Option Obj) : AlW := (He.obsD fa fn (frK n g), ex (frK n g))
def hookW (n : Nat) (fa : List He.Fa) (fn : List He.DefD) (ex : PySem.W.Frag → Bool) : PySem.W.Hook where
  α := AlW
  obs := fun s => obsW n fa fn ex s.heap.get?
  val := fun _ => (He.valD fn, true)
  says := fun _ h => ∃ K : PySem.W.Frag, K.In h ∧ He.SaysD fa fn K ∧ ex K = true
  of := fun _ _ e => ⟨_, He.frT_in, congrArg (fun z : AlW => z.1) e, congrArg (fun z : AlW => z.2) e⟩
  keeps := fun _ _ _ ⟨K, hK, c, e⟩ k => ⟨K, PySem.W.Frag.In.keeps hK k, c, e⟩
theorem obsW_eq {n : Nat} {fa : List He.Fa} {fn : List He.DefD} {ex : PySem.W.Frag → Bool} {g : Addr → Option Obj} {s : Shared} (h : ∀ a, g a = s.heap.get? a) : obsW n fa fn ex g = (hookW n fa fn ex).obs s := by
  rw [show g = s.heap.get? from funext h]
  rfl
end Tw
set_option maxHeartbeats 4000000
/-! The tree walk, part 27: keywords bound; the program's facts together. -/
namespace Tw
open PySem PySem.Spec PyProof.Rows L2 Evl
theorem kw_loop {σ : Type} {mk : List (Str × Value) → σ} {ok : Str → Bool} {body : Str × Value → σ → Sem (ForInStep σ)} (hb : ∀ k v sl, ok k = true → sl.lookup k = none → body (k, v) (mk sl) = pure (.yield (mk (sl ++ [(k, v)])))) :
    ∀ (l : List (Str × Value)) (sl : List (Str × Value)), (∀ p ∈ l, ok p.1 = true) → (l.map (·.1)).Nodup → (∀ p ∈ l, sl.lookup p.1 = none) → forIn l (mk sl) body = pure (mk (sl ++ l))
  | [], sl, _, _, _ => by
    rw [List.forIn_nil, List.append_nil]
  | (k, v) :: l, sl, h1, h2, h3 => by
    rw [List.forIn_cons, hb k v sl (h1 _ List.mem_cons_self) (h3 _ List.mem_cons_self), pure_bind]
    have nd := List.nodup_cons.mp h2
    have ih := kw_loop hb l (sl ++ [(k, v)]) (fun p hp => h1 p (List.mem_cons_of_mem _ hp)) nd.2 fun p hp => by
      have e := h3 p (List.mem_cons_of_mem _ hp)
      have ne : p.1 ≠ k := fun z => nd.1 (by
        show k ∈ l.map (·.1)
        rw [← z]
        exact List.mem_map_of_mem hp)
      have : ∀ {sl : List (Str × Value)}, sl.lookup p.1 = none → (sl ++ [(k, v)]).lookup p.1 = none := by
        intro sl
        induction sl with
        | nil =>
          intro _
          rw [List.nil_append, List.lookup_cons, beq_eq_false_iff_ne.mpr ne]
          rfl
        | cons q sl ih =>
          intro e
          rw [List.lookup_cons] at e
          rw [List.cons_append, List.lookup_cons]
          cases c : p.1 == q.1 with
          | true => rw [c] at e; cases e
          | false =>
            rw [c] at e
            exact ih e
      exact this e
    rw [List.append_assoc] at ih
    exact ih
theorem bind_kw {fd : FuncData} {us ws : List Value} {np : Nat} (h1 : fd.params.posonlyargs = []) (h2 : fd.params.vararg = none) (h3 : fd.params.kwonlyargs = []) (h4 : fd.params.kwarg = none) (hd : fd.defaults = .none) (nd : (fd.params.args.map (·.arg)).Nodup) (hu : us.length = np) (hw : ws.length = ((fd.params.args.map (·.arg)).drop np).length) (hnp : np ≤ (fd.params.args.map (·.arg)).length) :
    bindArgs fd ⟨us, ((fd.params.args.map (·.arg)).drop np).zip ws⟩ = pure ((fd.params.args.map (·.arg)).zip (us ++ ws)) := by
  have hs : seqItems? .none = pure none := rfl
  generalize hps : fd.params.args.map (·.arg) = ps at nd hw hnp ⊢
  have hl : (us ++ ws).length = ps.length := by
    rw [List.length_append, hu, hw, List.length_drop]
    omega
  have ez : ps.zip us ++ (ps.drop np).zip ws = ps.zip (us ++ ws) := by
    conv => rhs; rw [← List.take_append_drop np ps]
    rw [List.zip_append (by rw [List.length_take, hu]; omega)]
    congr 1
    have : ps.zip us = (ps.take np).zip us := by
      rw [← hu]
      conv => lhs; rw [← List.take_append_drop us.length ps]
      rw [show ((ps.take us.length ++ ps.drop us.length).zip us) = ((ps.take us.length ++ ps.drop us.length).zip (us ++ [])) by rw [List.append_nil], List.zip_append (by rw [List.length_take, hu]; omega), List.zip_nil_right, List.append_nil]
    rw [this]
  have miss : ps.filter (fun n => ((ps.zip (us ++ ws)).lookup n).isNone) = [] := by
    rw [List.filter_eq_nil_iff]
    intro p hp
    have := zip_lookup hl hp
    rw [Option.isSome_iff_ne_none] at this
    simpa [Option.isNone_iff_eq_none] using this
  have self := zip_self hl nd [] fun _ _ => rfl
  rw [List.nil_append] at self
  unfold bindArgs
  simp only [h1, h2, h3, h4, hd, hps, List.map_nil, List.nil_append, List.append_nil, hs, pure_bind]
  rw [kw_loop (σ := List (Str × Value) × List (Str × Value)) (mk := fun sl => (sl, [])) (ok := fun k => ps.contains k) (fun k v sl e1 e2 => by
    simp only [e1, e2, Bool.true_or, if_true, Option.isSome_none, Bool.false_eq_true, if_false])
    _ _ (fun p hp => by
      have := (List.of_mem_zip hp).1
      simpa using List.mem_of_mem_drop this) (by
      rw [List.map_fst_zip (by rw [hw]; exact Nat.le_refl _)]
      exact nd.sublist (List.drop_sublist _ _)) (fun p hp => by
      have h5 := (List.of_mem_zip hp).1
      cases e : (ps.zip us).lookup p.1 with
      | none => rfl
      | some v =>
        exfalso
        have h6 := PySem.mem_of_lookup e
        have h7 : p.1 ∈ ps.take np := by
          have e3 : ps.zip us = (ps.take np).zip us := by
            rw [← hu]
            conv => lhs; rw [← List.take_append_drop us.length ps]
            rw [show ((ps.take us.length ++ ps.drop us.length).zip us) = ((ps.take us.length ++ ps.drop us.length).zip (us ++ [])) by rw [List.append_nil], List.zip_append (by rw [List.length_take, hu]; omega), List.zip_nil_right, List.append_nil]
          rw [e3] at h6
          exact (List.of_mem_zip h6).1
        have nd2 : (ps.take np ++ ps.drop np).Nodup := by rw [List.take_append_drop]; exact nd
        exact (List.nodup_append.mp nd2).2.2 _ h7 _ h5 rfl)]
  rw [ez]
  simp only [pure_bind, Nat.lt_irrefl, gt_iff_lt, Option.isNone_none, Bool.and_true, show decide (ps.length < us.length) = false from by simp; omega, Bool.false_eq_true, if_false, Option.getD_none, List.length_nil, Nat.zero_sub, List.drop_zero, List.drop_nil, Nat.sub_zero, List.take_length, miss, List.isEmpty_nil, Bool.not_true, List.zip_nil_right, self, List.drop_length, List.forIn_nil]
theorem arr_all {vs : List V} : ∀ {n m : Nat} {vs' : List V}, m + n = vs.length → arrV vs ((List.range' m n).map .a) = some vs' → vs' = vs.drop m
  | 0, m, vs', h, e => by
    have e' : some ([] : List V) = some vs' := e
    cases e'
    rw [List.drop_eq_nil_of_le (by omega)]
  | n + 1, m, vs', h, e => by
    rw [List.range'_succ, List.map_cons] at e
    simp only [arrV] at e
    have hm : m < vs.length := by omega
    rw [List.getElem?_eq_getElem hm] at e
    cases q : arrV vs ((List.range' (m + 1) n).map .a) with
    | none => simp only [q] at e; cases e
    | some l =>
      simp only [q] at e
      cases e
      rw [arr_all (n := n) (m := m + 1) (by omega) q, List.drop_eq_getElem_cons hm]
/-- a call with keywords in the parameters' order binds all -/
theorem kb_plain {K : PySem.W.Frag} {x qual : Str} {params : Arguments} {body : List Stmt} {scope : Scope} {fa : Addr} {fd : FuncData} {np : Nat} (F : FunD K x qual params body scope [] [] fa fd) (hp : plainA params = true) (hn : np ≤ params.args.length) :
    KB K fd (params.args.map (·.arg)) 0 np ((params.args.map (·.arg)).drop np) ((List.range' 0 params.args.length).map .a) := by
  obtain ⟨oc, od, dV, kV, doc, pm, an, cdv, ct, osl, rfl, lk, hcd, hD, hK⟩ := F.ex
  rcases hD with ⟨_, rfl⟩ | ⟨e, _⟩
  · intro s first us ws vs zs vs' KX hf hu hw rv rz e
    obtain ⟨q1, q2, q3, q4, q5⟩ := plainA_ok hp
    have ef : first = [] := List.length_eq_zero_iff.mp hf
    subst ef
    have hl : (vs ++ zs).length = params.args.length := by
      rw [List.length_append, rv.length, rz.length, hu, hw, List.length_drop, List.length_map]
      omega
    have e2 := arr_all (by rw [Nat.zero_add]; exact hl.symm) e
    rw [List.drop_zero] at e2
    subst e2
    exact ⟨us ++ ws, .of_eq (bind_kw q1 q2 q3 q4 rfl q5 hu hw (by rw [List.length_map]; exact hn)), rv.append rz⟩
  · exact absurd rfl e
end Tw
set_option maxHeartbeats 4000000
/-! The tree walk, part 27b: calls that bind by place, by name and by default. -/
namespace Tw
open PySem PySem.Spec PyProof.Rows L2 Evl
/-- the slots, behind the defaults -/
def fillD {α : Type} : List (Str × α) → List (Str × α) → List (Str × α)
  | sl, [] => sl
  | sl, p :: r => fillD (if (sl.lookup p.1).isNone then sl ++ [p] else sl) r
def bindG {α : Type} (ps : List Str) (pos : List α) (kw : List (Str × α)) (dfl : List α) : List (Str × α) :=
  ps.filterMap fun n => ((fillD (ps.zip pos ++ kw) ((ps.drop (ps.length - dfl.length)).zip dfl)).lookup n).map (n, ·)
theorem dfl_loop {body : Str × Value → List (Str × Value) → Sem (ForInStep (List (Str × Value)))} (hb : ∀ k v sl, body (k, v) sl = pure (.yield (if (sl.lookup k).isNone then sl ++ [(k, v)] else sl))) :
    ∀ (l : List (Str × Value)) (sl : List (Str × Value)), forIn l sl body = pure (fillD sl l)
  | [], sl => by rw [List.forIn_nil]; rfl
  | (k, v) :: l, sl => by
    rw [List.forIn_cons, hb, pure_bind]
    exact dfl_loop hb l _
theorem zip_none {α : Type} {ps : List Str} {us : List α} {k : Str} (h : k ∉ ps.take us.length) : (ps.zip us).lookup k = none := by
  cases e : (ps.zip us).lookup k with
  | none => rfl
  | some v =>
    refine absurd ?_ h
    have m := PySem.mem_of_lookup e
    have e3 : ps.zip us = (ps.take us.length).zip us := by
      conv => lhs; rw [← List.take_append_drop us.length ps]
      by_cases hl : us.length ≤ ps.length
      · rw [show ((ps.take us.length ++ ps.drop us.length).zip us) = ((ps.take us.length ++ ps.drop us.length).zip (us ++ [])) by rw [List.append_nil], List.zip_append (by rw [List.length_take]; omega), List.zip_nil_right, List.append_nil]
      · rw [List.drop_eq_nil_of_le (by omega), List.append_nil]
    rw [e3] at m
    exact (List.of_mem_zip m).1
theorem bind_any {fd : FuncData} {ps : List Str} {us : List Value} {kw : List (Str × Value)} {its : List Value} (hps : fd.params.args.map (·.arg) = ps) (h1 : fd.params.posonlyargs = []) (h2 : fd.params.vararg = none) (h3 : fd.params.kwonlyargs = []) (h4 : fd.params.kwarg = none)
    (hu : us.length ≤ ps.length) (hk1 : ∀ p ∈ kw, p.1 ∈ ps) (hk2 : (kw.map (·.1)).Nodup) (hk3 : ∀ p ∈ kw, p.1 ∉ ps.take us.length) (hd : its.length ≤ ps.length)
    (hm : (ps.take (ps.length - its.length)).filter (fun n => ((ps.zip us ++ kw).lookup n).isNone) = []) :
    ∃ k, bindArgs fd ⟨us, kw⟩ = seqItems? fd.defaults >>= k ∧ k (some its.toArray) = pure (bindG ps us kw its) ∧ (its = [] → k none = pure (bindG ps us kw its)) := by
  have key : ∀ (o : Option (Array Value)), (o = some its.toArray ∨ (o = none ∧ its = [])) → (o.getD #[]).toList = its := by
    rintro o (rfl | ⟨rfl, rfl⟩) <;> rfl
  refine ⟨?k, ?a, ?b, ?c⟩
  case a =>
    unfold bindArgs
    simp only [h1, h2, h3, h4, hps, List.map_nil, List.nil_append, List.append_nil]
    rw [kw_loop (σ := List (Str × Value) × List (Str × Value)) (mk := fun sl => (sl, [])) (ok := fun k => ps.contains k) (fun k v sl e1 e2 => by
      simp only [e1, e2, Bool.true_or, if_true, Option.isSome_none, Bool.false_eq_true, if_false]) _ _ (fun p hp => by simpa using hk1 p hp) hk2 (fun p hp => zip_none (hk3 p hp)), pure_bind]
  case b =>
    have e1 : (Option.getD (some its.toArray) #[]).toList = its := rfl
    have e2 : its.drop (its.length - ps.length) = its := by rw [show its.length - ps.length = 0 by omega, List.drop_zero]
    simp only [e1, e2, gt_iff_lt, Option.isNone_none, Bool.and_true, show decide (ps.length < us.length) = false from by simp; omega, Bool.false_eq_true, if_false, hm, List.isEmpty_nil, Bool.not_true]
    rw [dfl_loop (fun k v sl => by
      cases (sl.lookup k) <;> rfl)]
    simp only [pure_bind, List.forIn_nil, List.isEmpty_nil, Bool.not_true, Bool.false_eq_true, if_false]
    rfl
  case c =>
    rintro rfl
    have e1 : (Option.getD (none : Option (Array Value)) #[]).toList = [] := rfl
    simp only [List.length_nil, Nat.sub_zero] at hm
    simp only [e1, List.length_nil, Nat.zero_sub, List.drop_zero, Nat.sub_zero, gt_iff_lt, Option.isNone_none, Bool.and_true, show decide (ps.length < us.length) = false from by simp; omega, Bool.false_eq_true, if_false, hm, List.isEmpty_nil, Bool.not_true]
    rw [dfl_loop (fun k v sl => by
      cases (sl.lookup k) <;> rfl)]
    simp only [pure_bind, List.forIn_nil, List.isEmpty_nil, Bool.not_true, Bool.false_eq_true, if_false]
    rfl
/-! ### by places: what goes where -/
theorem look_map {α β : Type} (f : α → β) (n : Str) : ∀ l : List (Str × α), (l.map fun p => (p.1, f p.2)).lookup n = (l.lookup n).map f
  | [] => rfl
  | p :: l => by
    rw [List.map_cons, List.lookup_cons, List.lookup_cons]
    cases n == p.1 with
    | true => rfl
    | false => exact look_map f n l
theorem fill_map {α β : Type} (f : α → β) : ∀ (r sl : List (Str × α)), fillD (sl.map fun p => (p.1, f p.2)) (r.map fun p => (p.1, f p.2)) = (fillD sl r).map fun p => (p.1, f p.2)
  | [], sl => rfl
  | p :: r, sl => by
    rw [List.map_cons]
    show fillD (if ((sl.map fun p => (p.1, f p.2)).lookup p.1).isNone then _ else _) _ = (fillD (if (sl.lookup p.1).isNone then _ else _) r).map _
    rw [look_map, Option.isNone_map]
    cases (sl.lookup p.1).isNone with
    | true =>
      simp only [if_true]
      rw [← fill_map f r, List.map_append]
      rfl
    | false =>
      simp only [Bool.false_eq_true, if_false]
      exact fill_map f r sl
theorem zip_map {α β : Type} (f : α → β) : ∀ (ps : List Str) (us : List α), ps.zip (us.map f) = (ps.zip us).map fun p => (p.1, f p.2)
  | [], us => rfl
  | p :: ps, [] => rfl
  | p :: ps, u :: us => by
    rw [List.map_cons, List.zip_cons_cons, List.zip_cons_cons, List.map_cons, zip_map f ps us]
theorem bind_map {α β : Type} (f : α → β) (ps : List Str) (us : List α) (kw : List (Str × α)) (dfl : List α) : bindG ps (us.map f) (kw.map fun p => (p.1, f p.2)) (dfl.map f) = (bindG ps us kw dfl).map fun p => (p.1, f p.2) := by
  unfold bindG
  rw [List.length_map, zip_map, zip_map, ← List.map_append, fill_map, List.map_filterMap]
  congr 1
  funext n
  rw [look_map]
  cases ((fillD (ps.zip us ++ kw) ((ps.drop (ps.length - dfl.length)).zip dfl)).lookup n) <;> rfl
/-- where a parameter's value comes from: an argument's place, a default's place -/
inductive Pl where | a (j : Nat) | d (j : Nat)
  deriving DecidableEq
def Pl.get {α : Type} (x : α) (as ds : List α) : Pl → α
  | .a j => as.getD j x
  | .d j => ds.getD j x
def plR (f : Nat → Pl) : Nat → Nat → List Pl
  | 0, _ => []
  | n + 1, m => f m :: plR f n (m + 1)
theorem getD_mid {α : Type} (x : α) : ∀ (p us : List α) (u : α), (p ++ u :: us).getD p.length x = u
  | [], us, u => rfl
  | a :: p, us, u => by
    show ((a :: p) ++ u :: us).getD (p.length + 1) x = u
    simpa using getD_mid x p us u
theorem plR_a {α : Type} (x : α) (ds q : List α) : ∀ (us p : List α), (plR .a us.length p.length).map (Pl.get x (p ++ (us ++ q)) ds) = us
  | [], p => rfl
  | u :: us, p => by
    show Pl.get x (p ++ u :: (us ++ q)) ds (.a p.length) :: (plR .a us.length (p.length + 1)).map (Pl.get x (p ++ u :: (us ++ q)) ds) = u :: us
    have ih := plR_a x ds q us (p ++ [u])
    rw [List.length_append, List.append_assoc] at ih
    rw [show (Pl.a p.length).get x (p ++ u :: (us ++ q)) ds = u from getD_mid x p _ u]
    exact congrArg (u :: ·) ih
theorem plR_d {α : Type} (x : α) (as : List α) : ∀ (us p : List α), (plR .d us.length p.length).map (Pl.get x as (p ++ us)) = us
  | [], p => rfl
  | u :: us, p => by
    show Pl.get x as (p ++ u :: us) (.d p.length) :: (plR .d us.length (p.length + 1)).map (Pl.get x as (p ++ u :: us)) = u :: us
    have ih := plR_d x as us (p ++ [u])
    rw [List.length_append, List.append_assoc] at ih
    rw [show (Pl.d p.length).get x as (p ++ u :: us) = u from getD_mid x p us u]
    exact congrArg (u :: ·) ih
/-! ### the check -/
def dEq : D → D → Bool
  | .non, .non => true
  | .bl a, .bl b => a == b
  | .int a, .int b => decide (a = b)
  | .str a, .str b => decide (a = b)
  | _, _ => false
theorem dEq_ok {a b : D} (h : dEq a b = true) : a = b ∧ ∃ v, dV a = some v := by
  cases a <;> cases b <;> first | (cases h; done) | exact ⟨rfl, _, rfl⟩ | (have e := of_decide_eq_true h; subst e; exact ⟨rfl, _, rfl⟩) | (have e := beq_iff_eq.mp h; subst e; exact ⟨rfl, _, rfl⟩)
def plAr (pre : Nat) (dfl : List D) : List Pl → List Ar → Bool
  | [], [] => true
  | .a j :: ps, .a i :: as => decide (j = pre + i) && plAr pre dfl ps as
  | .d j :: ps, .d d :: as => (match dfl[j]? with
    | some d' => dEq d' d
    | none => false) && plAr pre dfl ps as
  | _, _ => false
def dvs (dfl : List D) : List V := dfl.map fun d => (dV d).getD .non
def bindP (ps : List Str) (pre np : Nat) (ks : List Str) (dfl : List D) : List (Str × Pl) := bindG ps (plR .a (pre + np) 0) (ks.zip (plR .a ks.length (pre + np))) (plR .d dfl.length 0)
def kbB (ps : List Str) (dfl : List D) (pre np : Nat) (ks : List Str) (ar : List Ar) : Bool :=
  decide (pre + np ≤ ps.length) && (ks.all (fun k => decide (k ∈ ps)) && (decide ks.Nodup && (ks.all (fun k => decide (k ∉ ps.take (pre + np))) && (decide (dfl.length ≤ ps.length) &&
    (decide ((ps.take (ps.length - dfl.length)).filter (fun n => ((ps.zip (plR Pl.a (pre + np) 0) ++ ks.zip (plR Pl.a ks.length (pre + np))).lookup n).isNone) = []) &&
      (decide ((bindP ps pre np ks dfl).map (·.1) = ps) && (decide (((bindP ps pre np ks dfl).map (·.2)).take pre = plR .a pre 0) && plAr pre dfl (((bindP ps pre np ks dfl).map (·.2)).drop pre) ar)))))))
theorem unzip_zip {α : Type} {l : List (Str × α)} {ps : List Str} (h : l.map (·.1) = ps) : l = ps.zip (l.map (·.2)) := by
  subst h
  induction l with
  | nil => rfl
  | cons p l ih =>
    rw [List.map_cons, List.map_cons, List.zip_cons_cons, ← ih]
theorem plR_len {f : Nat → Pl} : ∀ {n m : Nat}, (plR f n m).length = n
  | 0, _ => rfl
  | n + 1, m => by
    show (plR f n (m + 1)).length + 1 = _
    rw [plR_len]
theorem plR_app {f : Nat → Pl} : ∀ {n m k : Nat}, plR f (n + m) k = plR f n k ++ plR f m (k + n)
  | 0, m, k => by rw [Nat.zero_add]; rfl
  | n + 1, m, k => by
    rw [show n + 1 + m = (n + m) + 1 by omega]
    show f k :: plR f (n + m) (k + 1) = f k :: (plR f n (k + 1) ++ plR f m (k + (n + 1)))
    rw [plR_app, show k + 1 + n = k + (n + 1) by omega]
/-- the values that a parameter list gets -/
theorem ar_vals {pre : Nat} {dfl : List D} {first us ws its : List Value} {vs zs : List V} (hf : first.length = pre) (rv : Vals vs us) (rz : Vals zs ws) (rd : Vals (dvs dfl) its) :
    ∀ {pl : List Pl} {ar : List Ar} {vs' : List V}, plAr pre dfl pl ar = true → arrV (vs ++ zs) ar = some vs' → Vals vs' (pl.map (Pl.get .none ((first ++ us) ++ ws) its))
  | [], [], vs', _, e => by
    have e' : some ([] : List V) = some vs' := e
    cases e'
    exact .nil
  | [], _ :: _, _, h, _ => absurd h Bool.false_ne_true
  | .a _ :: _, [], _, h, _ => absurd h Bool.false_ne_true
  | .d _ :: _, [], _, h, _ => absurd h Bool.false_ne_true
  | .a _ :: _, .d _ :: _, _, h, _ => absurd h Bool.false_ne_true
  | .d _ :: _, .a _ :: _, _, h, _ => absurd h Bool.false_ne_true
  | .a j :: pl, .a i :: ar, vs', h, e => by
    simp only [plAr, Bool.and_eq_true, decide_eq_true_eq] at h
    obtain ⟨rfl, h2⟩ := h
    simp only [arrV] at e
    cases q : (vs ++ zs)[i]? with
    | none => simp only [q] at e; cases e
    | some v =>
      cases q2 : arrV (vs ++ zs) ar with
      | none => simp only [q, q2] at e; cases e
      | some l =>
        simp only [q, q2] at e
        cases e
        obtain ⟨u, hu, ru⟩ := (rv.append rz).get q
        refine .cons ?_ (ar_vals hf rv rz rd h2 q2)
        show RelV v (((first ++ us) ++ ws).getD (pre + i) .none)
        rw [List.append_assoc, List.getD_eq_getElem?_getD, List.getElem?_append_right (by omega), hf, Nat.add_sub_cancel_left, hu]
        exact ru
  | .d j :: pl, .d d :: ar, vs', h, e => by
    simp only [plAr, Bool.and_eq_true] at h
    obtain ⟨h1, h2⟩ := h
    split at h1
    · rename_i d' hd
      obtain ⟨rfl, v0, hv0⟩ := dEq_ok h1
      simp only [arrV, hv0] at e
      cases q2 : arrV (vs ++ zs) ar with
      | none => simp only [q2] at e; cases e
      | some l =>
        simp only [q2] at e
        cases e
        have hv : (dvs dfl)[j]? = some v0 := by
          unfold dvs
          rw [List.getElem?_map, hd, Option.map_some, hv0]
          rfl
        obtain ⟨u, hu, ru⟩ := rd.get hv
        refine .cons ?_ (ar_vals hf rv rz rd h2 q2)
        show RelV v0 (its.getD j .none)
        rw [List.getD_eq_getElem?_getD, hu]
        exact ru
    · exact absurd h1 Bool.false_ne_true
/-- such a call binds -/
theorem kb_any {K : PySem.W.Frag} {x qual : Str} {params : Arguments} {body : List Stmt} {scope : Scope} {fa : Addr} {fd : FuncData} {dfl : List D} {pre np : Nat} {ks : List Str} {ar : List Ar} (F : FunD K x qual params body scope (dvs dfl) [] fa fd) (hp : plainA params = true) (hb : kbB (params.args.map (·.arg)) dfl pre np ks ar = true) :
    KB K fd (params.args.map (·.arg)) pre np ks ar := by
  obtain ⟨oc, od, dV', kV, doc, pm, an, cdv, ct, osl, rfl, lk, hcd, hD, hK⟩ := F.ex
  obtain ⟨q1, q2, q3, q4, q5⟩ := plainA_ok hp
  unfold kbB at hb
  simp only [Bool.and_eq_true, decide_eq_true_eq, List.all_eq_true] at hb
  obtain ⟨b1, b2, b3, b4, b5, b6, b7, b8, b9⟩ := hb
  generalize hps : params.args.map (·.arg) = ps at *
  intro s first us ws vs zs vs' KX hf hu hw rv rz e
  -- the defaults' values
  have main : ∀ its : List Value, Vals (dvs dfl) its → ∃ full, ps.zip (first ++ full) = bindG ps (first ++ us) (ks.zip ws) its ∧ Vals vs' full := by
    intro its rd
    have hl : its.length = dfl.length := by rw [← rd.length]; unfold dvs; rw [List.length_map]
    have hfu : (first ++ us).length = pre + np := by rw [List.length_append, hf, hu]
    have e1 : (plR Pl.a (pre + np) 0).map (Pl.get .none ((first ++ us) ++ ws) its) = first ++ us := by
      have := plR_a Value.none its ws (first ++ us) []
      rw [hfu, List.nil_append] at this
      exact this
    have e2 : (plR Pl.a ks.length (pre + np)).map (Pl.get .none ((first ++ us) ++ ws) its) = ws := by
      have := plR_a Value.none its [] ws (first ++ us)
      rw [hfu, List.append_nil, hw] at this
      exact this
    have e3 : (plR Pl.d dfl.length 0).map (Pl.get .none ((first ++ us) ++ ws) its) = its := by
      have := plR_d Value.none ((first ++ us) ++ ws) its []
      rw [List.nil_append, hl] at this
      exact this
    have e4 : bindG ps (first ++ us) (ks.zip ws) its = (bindP ps pre np ks dfl).map fun p => (p.1, Pl.get .none ((first ++ us) ++ ws) its p.2) := by
      unfold bindP
      rw [← bind_map, e1, e3]
      congr 1
      rw [← zip_map, e2]
    have e5 := unzip_zip b7
    generalize hR : (bindP ps pre np ks dfl).map (·.2) = pl at b8 b9 e5
    refine ⟨(pl.drop pre).map (Pl.get .none ((first ++ us) ++ ws) its), ?_, ar_vals hf rv rz rd b9 e⟩
    rw [e4, e5, ← zip_map]
    congr 1
    conv => rhs; rw [← List.take_append_drop pre pl, List.map_append, b8]
    congr 1
    have := plR_a Value.none its (us ++ ws) first []
    rw [hf, List.nil_append, ← List.append_assoc] at this
    exact this.symm
  have bnd := fun (its : List Value) (hl : its.length = dfl.length) => bind_any (fd := PySem.W.fnOf x qual params body scope dV' kV doc pm an cdv ct) (ps := ps) (us := first ++ us) (kw := ks.zip ws) (its := its) hps q1 q2 q3 q4 (by rw [List.length_append, hf, hu]; exact b1) (fun p hp => b2 _ (List.of_mem_zip hp).1)
    (by rw [List.map_fst_zip (by rw [hw]; exact Nat.le_refl _)]; exact b3) (fun p hp => by rw [List.length_append, hf, hu]; exact b4 _ (List.of_mem_zip hp).1) (by rw [hl]; exact b5) (by
      rw [hl]
      rw [List.filter_eq_nil_iff] at b6 ⊢
      intro n hn
      have h6 := b6 n hn
      have e1 : (plR Pl.a (pre + np) 0).map (Pl.get .none ((first ++ us) ++ ws) ([] : List Value)) = first ++ us := by
        have := plR_a Value.none [] ws (first ++ us) []
        rw [show (first ++ us).length = pre + np by rw [List.length_append, hf, hu], List.nil_append] at this
        exact this
      have e2 : (plR Pl.a ks.length (pre + np)).map (Pl.get .none ((first ++ us) ++ ws) ([] : List Value)) = ws := by
        have := plR_a Value.none [] [] ws (first ++ us)
        rw [show (first ++ us).length = pre + np by rw [List.length_append, hf, hu], List.append_nil, hw] at this
        exact this
      have e7 : ps.zip (first ++ us) ++ ks.zip ws = (ps.zip (plR Pl.a (pre + np) 0) ++ ks.zip (plR Pl.a ks.length (pre + np))).map fun p => (p.1, Pl.get .none ((first ++ us) ++ ws) ([] : List Value) p.2) := by
        rw [List.map_append, ← zip_map, ← zip_map, e1, e2]
      rw [e7, look_map, Option.isNone_map]
      exact h6)
  rcases hD with ⟨e0, rfl⟩ | ⟨_, T, o, its, m, rfl, lT, oT, rT⟩
  · have el : dfl.length = 0 := by
      have := congrArg List.length e0
      unfold dvs at this
      rw [List.length_map] at this
      exact this
    obtain ⟨full, m1, m2⟩ := main [] (by rw [e0]; exact .nil)
    obtain ⟨k, k1, _, k3⟩ := bnd [] el.symm
    refine ⟨full, .of_eq ?_, m2⟩
    rw [k1, m1]
    show (pure none >>= k) = _
    rw [pure_bind]
    exact k3 rfl
  · obtain ⟨full, m1, m2⟩ := main its rT
    obtain ⟨k, k1, k2, _⟩ := bnd its (by rw [← rT.length]; unfold dvs; rw [List.length_map])
    refine ⟨full, BindsTo.of_looks fun M => ?_, m2⟩
    rw [k1, m1]
    exact looks_items KX lT oT (.of_pure k2)
theorem fill_all {α : Type} : ∀ (r sl : List (Str × α)), (∀ p ∈ r, (sl.lookup p.1).isSome = true) → fillD sl r = sl
  | [], sl, _ => rfl
  | p :: r, sl, h => by
    have h1 := h p List.mem_cons_self
    show fillD (if (sl.lookup p.1).isNone then sl ++ [p] else sl) r = sl
    rw [if_neg (by rw [Option.isNone_iff_eq_none]; intro z; rw [z] at h1; cases h1)]
    exact fill_all r sl fun q hq => h q (List.mem_cons_of_mem _ hq)
/-- all parameters given -/
theorem binds_dfl {K : PySem.W.Frag} {x qual : Str} {params : Arguments} {body : List Stmt} {scope : Scope} {fa : Addr} {fd : FuncData} {dfl : List D} (F : FunD K x qual params body scope (dvs dfl) [] fa fd) (hp : plainA params = true) (hl : dfl.length ≤ (params.args.map (·.arg)).length) :
    Binds K fd (params.args.map (·.arg)) [] := by
  obtain ⟨oc, od, dV', kV, doc, pm, an, cdv, ct, osl, rfl, lk, hcd, hD, hK⟩ := F.ex
  obtain ⟨q1, q2, q3, q4, q5⟩ := plainA_ok hp
  generalize hps : params.args.map (·.arg) = ps at *
  intro s us KX hu
  rw [List.append_nil] at hu ⊢
  have full : ∀ its : List Value, bindG ps us [] its = ps.zip us := by
    intro its
    unfold bindG
    rw [List.append_nil, fill_all _ _ fun p hp' => zip_lookup hu (List.mem_of_mem_drop (List.of_mem_zip hp').1)]
    have := zip_self hu q5 [] fun _ _ => rfl
    rwa [List.nil_append] at this
  have bnd := fun (its : List Value) (hl' : its.length = dfl.length) => bind_any (fd := PySem.W.fnOf x qual params body scope dV' kV doc pm an cdv ct) (ps := ps) (us := us) (kw := []) (its := its) hps q1 q2 q3 q4 (by rw [hu]; exact Nat.le_refl _) (fun p hp => by cases hp) List.nodup_nil (fun p hp => by cases hp) (by rw [hl']; exact hl) (by
    rw [List.filter_eq_nil_iff]
    intro n hn
    rw [List.append_nil]
    have := zip_lookup hu (List.mem_of_mem_take hn)
    rw [Option.isSome_iff_ne_none] at this
    simpa [Option.isNone_iff_eq_none] using this)
  rcases hD with ⟨e0, rfl⟩ | ⟨_, T, o, its, m, rfl, lT, oT, rT⟩
  · have el : dfl.length = 0 := by
      have := congrArg List.length e0
      unfold dvs at this
      rw [List.length_map] at this
      exact this
    obtain ⟨k, k1, _, k3⟩ := bnd [] el.symm
    refine .of_eq ?_
    rw [k1, ← full []]
    show (pure none >>= k) = _
    rw [pure_bind]
    exact k3 rfl
  · obtain ⟨k, k1, k2, _⟩ := bnd its (by rw [← rT.length]; unfold dvs; rw [List.length_map])
    refine BindsTo.of_looks fun M => ?_
    rw [k1, ← full its]
    exact looks_items KX lT oT (.of_pure k2)
end Tw
set_option maxHeartbeats 4000000
/-! The tree walk, part 28: a program's data, what its text and its objects show. -/
namespace Tw
open PySem PySem.Spec PyProof.Rows L2 Evl
/-- where a def stands: a global's name, a class's method, property, static method -/
inductive Plc where | glo (x : Str) | meth (c m : Str) | prop (c m : Str) | stat (c m : Str)
def recA (K : PySem.W.Frag) (c m : Str) (T : String) : Addr × Addr := match PySem.W.findIn K (.ref (He.ga K c)) m with
  | some (some (.ref p)) => (match PySem.W.recIn K p T with
    | some (.ref g :: _) => (p, g)
    | _ => (p, 0))
  | _ => (0, 0)
def wAd (K : PySem.W.Frag) : Plc → Addr
  | .glo x => He.ga K x
  | .meth c m => He.ma K (He.ga K c) m
  | .prop c m => (recA K c m "property").2
  | .stat c m => (recA K c m "staticmethod").2
structure SFn where
  at_ : Plc
  nm : Str
  qual : Str
  st : Stmt
  N : List Str
  dfl : List D
  fd : FD
structure Sta where
  fns : List SFn
  cls : List Str
  con : List (Str × D)
  flds : List Str
  frees : List Str
  exf : List (Nat × List Nat × List Str)
  exm : List (Nat × Ty × Bool)
  isa : List (Tk × Ty × Bool)
  xok : List (Nat × Nat)
  imp : List (Bi × Str)
  mth : List (Nat × Nat × Nat)
  prp : List (Nat × Nat × Nat)
  smt : List (Nat × Nat × Nat)
  ini : List (Nat × Nat)
  una : List (Nat × Un × Nat)
  bin : List (Nat × Op × Nat)
  rdn : List (Nat × Op × Nat)
  deq : List (Nat × Nat)
  noi : List (Nat × Op)
  fok : List (Nat × Nat)
def SFn.ps (e : SFn) : List Str := (defArgs e.st).args.map (·.arg)
def find2 (l : List (Nat × Nat × Nat)) (c m : Nat) : Option Nat := (l.find? fun p => p.1 == c && p.2.1 == m).map (·.2.2)
def find1 (l : List (Nat × Nat)) (c : Nat) : Option Nat := (l.find? fun p => p.1 == c).map (·.2)
def Sta.T (s : Sta) : Tb where
  mth := find2 s.mth
  prp := find2 s.prp
  smt := find2 s.smt
  ini := find1 s.ini
  deq := find1 s.deq
  una := fun c u => (s.una.find? fun p => p.1 == c && decide (p.2.1 = u)).map (·.2.2)
  dun := fun c o => (s.bin.find? fun p => p.1 == c && decide (p.2.1 = o)).map (·.2.2)
  rdn := fun c o => (s.rdn.find? fun p => p.1 == c && decide (p.2.1 = o)).map (·.2.2)
  noi := fun c o => s.noi.any fun p => p.1 == c && decide (p.2 = o)
  fok := fun c f => s.fok.any fun p => p.1 == c && p.2 == f
  exm := fun c y => (s.exm.find? fun p => p.1 == c && decide (p.2.1 = y)).map (·.2.2)
  con := fun i => match s.con[i]? with
    | some p => p.2
    | none => .non
  isa := fun t y => (s.isa.find? fun p => decide (p.1 = t) && decide (p.2.1 = y)).map (·.2.2)
  exf := fun c => (s.exf.lookup c).map (·.1)
  xok := fun c f => s.xok.any fun p => p.1 == c && p.2 == f
def Sta.ft (s : Sta) (f : Nat) : Option FD := (s.fns[f]?).map (·.fd)
/-- a def that is called by a global's name -/
def gloN (hot : Bool) (e : SFn) : Option (Str × Nat) := match e.at_ with
  | .glo x => if e.fd.hot = hot then some (x, e.fd.np) else none
  | _ => none
def Sta.Q (s : Sta) : Pg where
  fnm := fun f => (s.fns[f]?).bind (gloN false)
  hfn := fun f => (s.fns[f]?).bind (gloN true)
  kbs := fun f np ks ar => match s.fns[f]? with
    | some e => kbB e.ps e.dfl 0 np ks ar
    | none => false
  cin := fun c => match find1 s.ini c with
    | some f => (match s.fns[f]? with
      | some e => e.dfl.isEmpty
      | none => false)
    | none => false
  kbi := fun c np ks ar => match find1 s.ini c with
    | some f => (match s.fns[f]? with
      | some e => kbB e.ps e.dfl 1 np ks ar
      | none => false)
    | none => false
  stt := fun c m => (find2 s.smt c m).isSome
  cnm := fun c => s.cls[c]?
  con := fun i => (s.con[i]?).map (·.1)
  free := fun x => s.frees.any fun y => decide (y = x)
  imp := fun b => (s.imp.find? fun p => decide (p.1 = b)).map (·.2)
  fld := fnL s.flds
def Sta.N (s : Sta) (h : namesOk s.flds = true) (K : PySem.W.Frag) : Nm := ⟨fun c => He.ga K (s.cls.getD c Str.empty), fnL s.flds, fnL_inj h, none⟩
def fscB (N P : List Str) (sc : Scope) : Bool :=
  decide (sc.kind = .function) && (decide (sc.isCoroutine = false) && (decide (sc.isGenerator = false) && (decide N.Nodup && (decide (N.take P.length = P) && (P.all (fun x => decide (sc.names.lookup x = some .local) || decide (sc.names.lookup x = some .cell)) && sc.names.all (fun y => decide (y.2 ≠ .free)))))))
theorem fscB_ok {N P : List Str} {sc : Scope} (h : fscB N P sc = true) : FnScope N P sc := by
  unfold fscB at h
  simp only [Bool.and_eq_true, decide_eq_true_eq, List.all_eq_true, Bool.or_eq_true] at h
  obtain ⟨h1, h2, h3, h4, h5, h6, h7⟩ := h
  exact ⟨h1, h2, h3, h4, h5, h6, h7⟩
/-- what the text itself shows -/
def sfOk (Q : Pg) (T : Tb) (e : SFn) : Bool := plainA (defArgs e.st) && (fscB e.N e.ps (defScope e.st) && (decide (e.fd.np = e.ps.length) && (decide (e.fd.nn = e.N.length) && (decide (e.dfl.length ≤ e.ps.length) && chkB Q T e.fd.body e.fd.own ⟨e.N, (defScope e.st).names, fun _ => true, e.fd.hot⟩ (defBody e.st)))))
/-- such a def of n parameters, not for suites -/
def dfN (s : Sta) (f n : Nat) : Bool := match s.fns[f]? with
  | some e => decide (e.fd.hot = false) && decide (e.fd.np = n)
  | none => false
def dfC (s : Sta) (f : Nat) : Bool := match s.fns[f]? with
  | some e => decide (e.fd.hot = false)
  | none => false
def isPlainOp : Op → Bool
  | .add => true | .sub => true | .mul => true
  | _ => false
def staOk (s : Sta) (P : Program) : Bool := s.fns.all (sfOk s.Q s.T) && (s.exf.all (fun p => decide (p.2.1.length ≤ 800)) && (!(P.main.scope.names.lookup ("super" : Str)).isSome && (s.mth.all (fun p => dfC s p.2.2) && (s.prp.all (fun p => dfN s p.2.2 1) && (s.smt.all (fun p => dfC s p.2.2) && (s.ini.all (fun p => dfC s p.2) &&
  (s.una.all (fun p => dfN s p.2.2 1) && (s.bin.all (fun p => dfN s p.2.2 2) && (s.rdn.all (fun p => dfN s p.2.2 2 && isPlainOp p.2.1) && s.deq.all (fun p => dfN s p.2 2))))))))))
/-! ### what the module's objects show -/
def glB (K : PySem.W.Frag) (x : Str) : Bool := decide (PySem.W.nsIn K mainGlobals x = some (some (.ref (He.ga K x))))
def exmB (K : PySem.W.Frag) (C : Addr) (Y : Value) (b : Bool) : Bool := decide (PySem.W.exmOne K (.ref C) Y = some b) && (decide (PySem.W.kitOne K (.ref C) Y = some b) &&
  (decide (PySem.W.findIn K (.ref C) "__getattribute__" = some (some (.builtin "BaseException.__getattribute__"))) && (decide (PySem.W.findIn K (.ref C) "__getattr__" = some none) && (decide (PySem.W.subIn K (.ref C) (.type "BaseException") = some true) && (PySem.W.hasDictIn K C &&
    (decide (PySem.W.findIn K (.ref C) "__class__" = some (some (.builtin "object.__class__"))) && (decide (PySem.W.specialIn K (.builtin "object.__class__") "__get__" = some (some (.builtin "getset_descriptor.__get__"))) && (decide (PySem.W.takesIn K (.builtin "object.__class__") = some true) && decide (PySem.W.mroIn K C (.type "object") = some true)))))))))
def clsB (K : PySem.W.Frag) (C : Addr) : Bool := PySem.W.plainGet K C Str.empty && (PySem.W.hasDictIn K C && (PySem.W.plainOver K C && decide (PySem.W.findIn K (.ref C) "__setattr__" = some (some (.builtin "object.__setattr__")))))
theorem clsB_ok {K : PySem.W.Frag} {C : Addr} (h : clsB K C = true) : Cls K C := by
  unfold clsB at h
  simp only [Bool.and_eq_true, decide_eq_true_eq] at h
  exact ⟨h.1, h.2.1, h.2.2.1, h.2.2.2⟩
def insB (K : PySem.W.Frag) (C : Addr) : Bool := clsB K C && (decide (PySem.W.findIn K (.ref C) "__class__" = some (some (.builtin "object.__class__"))) && (decide (PySem.W.specialIn K (.builtin "object.__class__") "__get__" = some (some (.builtin "getset_descriptor.__get__"))) && (decide (PySem.W.takesIn K (.builtin "object.__class__") = some true) && decide (PySem.W.mroIn K C (.type "object") = some true))))
theorem insB_ok {K : PySem.W.Frag} {C : Addr} (h : insB K C = true) : InsC K C := by
  unfold insB at h
  simp only [Bool.and_eq_true, decide_eq_true_eq] at h
  exact ⟨clsB_ok h.1, h.2.1, h.2.2.1, h.2.2.2.1, h.2.2.2.2⟩
def defB (K : PySem.W.Frag) (C : Addr) (name : Str) (fa : Addr) : Bool := decide (PySem.W.findIn K (.ref C) name = some (some (.ref fa))) && PySem.W.isFn K (.ref fa)
theorem defB_ok {K : PySem.W.Frag} {C : Addr} {name : Str} {fa : Addr} (h : defB K C name fa = true) : DefAt K C name fa := by
  unfold defB at h
  rw [Bool.and_eq_true, decide_eq_true_eq] at h
  exact ⟨h.1, h.2⟩
def isRef : Option Value → Bool
  | none => true
  | some (.ref _) => true
  | _ => false
def binB (K : PySem.W.Frag) (C : Addr) (nm : String) (fa : Addr) : Bool := defB K C (PySem.dunder nm) fa && (PySem.W.selfFirst K C && ((match PySem.W.findIn K (.ref C) (dunderR nm) with
  | some rc => isRef rc
  | none => false) && ((PySem.W.findIn K (.type "int") (PySem.dunder nm)).isSome && ((PySem.W.findIn K (.type "int") (dunderR nm)).isSome && decide (PySem.W.subIn K (.type "int") (.ref C) = some false)))))
theorem binB_ok {K : PySem.W.Frag} {C : Addr} {nm : String} {fa : Addr} (h : binB K C nm fa = true) : BinAt K C nm fa := by
  unfold binB at h
  simp only [Bool.and_eq_true, decide_eq_true_eq] at h
  obtain ⟨h1, h2, h3, h4, h5, h6⟩ := h
  obtain ⟨fo, e4⟩ := Option.isSome_iff_exists.mp h4
  obtain ⟨ro, e5⟩ := Option.isSome_iff_exists.mp h5
  refine ⟨defB_ok h1, h2, ?_, ⟨fo, ro, e4, e5⟩, h6⟩
  split at h3
  · rename_i rc e
    refine ⟨rc, e, ?_⟩
    cases rc with
    | none => exact .inl rfl
    | some v => cases v <;> first | exact .inr ⟨_, rfl⟩ | cases h3
  · exact absurd h3 Bool.false_ne_true
def rbinB (K : PySem.W.Frag) (C : Addr) (nm : String) (fa : Addr) : Bool := defB K C (dunderR nm) fa && (PySem.W.selfFirst K C && ((match PySem.W.findIn K (.ref C) (PySem.dunder nm) with
  | some (some (.ref _)) => true
  | _ => false) && decide (PySem.W.subIn K (.ref C) (.type "int") = some false)))
theorem rbinB_ok {K : PySem.W.Frag} {C : Addr} {nm : String} {fa : Addr} (h : rbinB K C nm fa = true) : RbinAt K C nm fa := by
  unfold rbinB at h
  simp only [Bool.and_eq_true, decide_eq_true_eq] at h
  obtain ⟨h1, h2, h3, h4⟩ := h
  refine ⟨defB_ok h1, h2, ?_, h4⟩
  split at h3
  · rename_i g e
    exact ⟨g, e⟩
  · exact absurd h3 Bool.false_ne_true
def eqB (K : PySem.W.Frag) (C fa : Addr) : Bool := defB K C "__eq__" fa && (["NoneType", "bool", "int", "str"].all (fun t => decide (PySem.W.subIn K (.type t) (.ref C) = some false)) && (decide (PySem.W.subIn K (.ref C) (.type "int") = some false) && (decide (PySem.W.findIn K (.ref C) "__ne__" = some (some (.builtin "object.__ne__"))) && decide (PySem.W.mroIn K C (.type "object") = some true))))
theorem eqB_ok {K : PySem.W.Frag} {C fa : Addr} (h : eqB K C fa = true) : EqOf K C fa := by
  unfold eqB at h
  simp only [Bool.and_eq_true, decide_eq_true_eq] at h
  obtain ⟨h1, h2, h3, h4, h5⟩ := h
  exact ⟨defB_ok h1, fun t ht => of_decide_eq_true (List.all_eq_true.mp h2 t ht), h3, h4, h5⟩
def noiB (K : PySem.W.Frag) (C : Addr) (nm : String) : Bool := (match PySem.W.clsIn K C with
  | some cd => cd.mro == [.ref C, .type "object"]
  | none => false) && (decide (PySem.W.findIn K (.ref C) (dunderI nm) = some none) && decide (PySem.W.findIn K (.type "object") (dunderI nm) = some none))
theorem noiB_ok {K : PySem.W.Frag} {C : Addr} {nm : String} (h : noiB K C nm = true) : NoIn K C nm := by
  unfold noiB at h
  simp only [Bool.and_eq_true, decide_eq_true_eq] at h
  obtain ⟨h1, h2, h3⟩ := h
  refine ⟨?_, h2, h3⟩
  split at h1
  · rename_i cd e
    exact ⟨cd, e, beq_iff_eq.mp h1⟩
  · exact absurd h1 Bool.false_ne_true
def methB (K : PySem.W.Frag) (C : Addr) (m : Str) (fa : Addr) : Bool := clsB K C && (decide (PySem.W.findIn K (.ref C) m = some (some (.ref fa))) && (PySem.W.isFn K (.ref fa) && PySem.W.keepIn K (.ref fa)))
theorem methB_ok {K : PySem.W.Frag} {C : Addr} {m : Str} {fa : Addr} (h : methB K C m fa = true) : Cls K C ∧ Meth K C m fa := by
  unfold methB at h
  simp only [Bool.and_eq_true, decide_eq_true_eq] at h
  exact ⟨clsB_ok h.1, h.2.1, h.2.2.1, h.2.2.2⟩
def propB (K : PySem.W.Frag) (C : Addr) (f : Str) (fa : Addr) : Bool := clsB K C && (match PySem.W.findIn K (.ref C) f with
  | some (some (.ref p)) => decide (PySem.W.specialIn K (.ref p) "__get__" = some (some (.builtin "property.__get__"))) && (decide (PySem.W.takesIn K (.ref p) = some true) && (match PySem.W.recIn K p "property" with
    | some (.ref g :: _) => decide (g = fa)
    | _ => false))
  | _ => false)
theorem propB_ok {K : PySem.W.Frag} {C : Addr} {f : Str} {fa : Addr} (h : propB K C f fa = true) : Cls K C ∧ ∃ p, PropOf K C f p fa := by
  unfold propB at h
  rw [Bool.and_eq_true] at h
  obtain ⟨h0, h⟩ := h
  refine ⟨clsB_ok h0, ?_⟩
  split at h
  · rename_i p e
    simp only [Bool.and_eq_true, decide_eq_true_eq] at h
    obtain ⟨h1, h2, h3⟩ := h
    split at h3
    · rename_i g rest eg
      rw [decide_eq_true_eq] at h3
      subst h3
      exact ⟨p, e, h1, h2, rest, eg⟩
    · exact absurd h3 Bool.false_ne_true
  · exact absurd h Bool.false_ne_true
def statB (K : PySem.W.Frag) (C : Addr) (m : Str) (fa : Addr) : Bool := decide (PySem.W.specialIn K (.ref C) "__getattribute__" = some (some (.builtin "type.__getattribute__"))) && (PySem.W.keepIn K (.ref fa) && (match PySem.W.typeIn K (.ref C) with
  | some mc => PySem.W.readsIn K C mc && (match PySem.W.findCls K (.ref C) mc m with
    | some (.get (.builtin i) (.ref p) .none (.ref C')) => decide (i = "staticmethod.__get__") && (decide (C' = C) && (match PySem.W.recIn K p "staticmethod" with
      | some (.ref g :: _) => decide (g = fa)
      | _ => false))
    | _ => false)
  | none => false))
theorem statB_ok {K : PySem.W.Frag} {C : Addr} {m : Str} {fa : Addr} (h : statB K C m fa = true) : StatOf K C m fa := by
  unfold statB at h
  simp only [Bool.and_eq_true, decide_eq_true_eq] at h
  obtain ⟨h1, h2, h3⟩ := h
  refine ⟨h1, h2, ?_⟩
  split at h3
  · rename_i mc emc
    rw [Bool.and_eq_true] at h3
    obtain ⟨h4, h5⟩ := h3
    split at h5
    · rename_i i p C' e
      simp only [Bool.and_eq_true, decide_eq_true_eq] at h5
      obtain ⟨rfl, rfl, h6⟩ := h5
      split at h6
      · rename_i g rest eg
        rw [decide_eq_true_eq] at h6
        subst h6
        exact ⟨mc, p, rest, h4, e, eg⟩
      · exact absurd h6 Bool.false_ne_true
    · exact absurd h5 Bool.false_ne_true
  · exact absurd h3 Bool.false_ne_true
def mkB (K : PySem.W.Frag) (C fa : Addr) : Bool := PySem.W.makesIn K C && (decide (PySem.W.findIn K (.ref C) "__init__" = some (some (.ref fa))) && (PySem.W.isFn K (.ref fa) && PySem.W.keepIn K (.ref C)))
theorem mkB_ok {K : PySem.W.Frag} {C fa : Addr} (h : mkB K C fa = true) : Mk K C fa := by
  unfold mkB at h
  simp only [Bool.and_eq_true, decide_eq_true_eq] at h
  exact ⟨h.1, h.2.1, h.2.2.1, h.2.2.2⟩
/-- a def's own objects -/
def fnB (K : PySem.W.Frag) (e : SFn) : Bool := PySem.W.keepIn K (.ref (wAd K e.at_)) && (match K.lookup (wAd K e.at_) with
  | some ⟨_, _, .func fd, _⟩ => PySem.W.codeIn K fd.code e.qual && He.dflB K fd.defaults (dvs e.dfl)
  | _ => false)
def fnV (K : PySem.W.Frag) (a : Addr) : He.FnW := match K.lookup a with
  | some ⟨_, _, .func fd, _⟩ => some (fd.name, fd.qualname, fd.params, fd.body, fd.scope, fd.globals, fd.closure, fd.builtins)
  | _ => none
def SFn.val (e : SFn) : He.FnW := some (e.nm, e.qual, defArgs e.st, .stmts (defBody e.st), defScope e.st, mainGlobals, [], builtinsNs)
theorem fnB_ok {K : PySem.W.Frag} {e : SFn} (h : fnB K e = true) (v : fnV K (wAd K e.at_) = e.val) : ∃ fd, FunD K e.nm e.qual (defArgs e.st) (defBody e.st) (defScope e.st) (dvs e.dfl) [] (wAd K e.at_) fd := by
  unfold fnB at h
  unfold fnV at v
  rw [Bool.and_eq_true] at h
  obtain ⟨kp, h⟩ := h
  split at h
  · rename_i oc od fd osl q
    rw [q] at v
    obtain ⟨n1, n2, n3, n4, n5, n6, n7, n8, n9, n10, n11, n12, n13, n14, n15⟩ := fd
    have v2 : (some (n1, n2, n3, n4, n5, n6, n7, n15) : He.FnW) = some (e.nm, e.qual, defArgs e.st, .stmts (defBody e.st), defScope e.st, mainGlobals, [], builtinsNs) := v
    simp only [Option.some.injEq, Prod.mk.injEq] at v2
    obtain ⟨rfl, rfl, rfl, rfl, rfl, rfl, rfl, rfl⟩ := v2
    have h2 : (PySem.W.codeIn K n13 e.qual && He.dflB K n8 (dvs e.dfl)) = true := h
    rw [Bool.and_eq_true] at h2
    exact ⟨_, ⟨oc, od, n8, n9, n10, n11, n12, n13, n14, osl, rfl, q, h2.1, He.dflB_ok h2.2, .inl rfl⟩, kp⟩
  · exact absurd h Bool.false_ne_true
/-- a module's constant -/
def conB (K : PySem.W.Frag) (p : Str × D) : Bool := match PySem.W.nsIn K mainGlobals p.1, dV p.2 with
  | some (some u), some v => He.relB v u
  | _, _ => false
/-- the address of a def by its number -/
def fA (s : Sta) (K : PySem.W.Frag) (f : Nat) : Addr := match s.fns[f]? with
  | some e => wAd K e.at_
  | none => 0
def exT (s : Sta) (h : namesOk s.flds = true) (P : Program) (K : PySem.W.Frag) : Bool :=
  s.cls.all (glB K) && (s.fns.all (fun e => fnB K e && (match e.at_ with
    | .glo x => glB K x
    | _ => true)) && (s.con.all (conB K) && (s.frees.all (fun x => decide (PySem.W.nsIn K mainGlobals x = some none)) && (s.imp.all (fun p => decide (PySem.W.nsIn K mainGlobals p.2 = some (some (biV p.1))) && (match biV p.1 with
      | .builtin _ => true
      | _ => false)) && (s.isa.all (fun p => decide (PySem.W.kitOne K (tkV (s.N h K) p.1) (tyV (s.N h K) p.2.1) = some p.2.2) && (match p.1 with
        | .own c => insB K ((s.N h K).cad c)
        | _ => true)) &&
    (s.exm.all (fun p => exmB K ((s.N h K).cad p.1) (tyV (s.N h K) p.2.1) p.2.2) && (s.xok.all (fun p => xfB K ((s.N h K).cad p.1) && decide (PySem.W.findIn K (.ref ((s.N h K).cad p.1)) (fnL s.flds p.2) = some none)) && (decide (PySem.W.nsIn K mainGlobals "super" = some none) &&
      (s.exf.all (fun p => if p.2.1 = [] then (PySem.W.excIn K ((s.N h K).cad p.1) [.type "ValueError", .type "Exception", .type "BaseException", .type "object"] "ValueError.__new__" && (PySem.W.keepIn K (.ref ((s.N h K).cad p.1)) && (decide (PySem.W.subIn K (.ref ((s.N h K).cad p.1)) (.type "BaseException") = some true) && decide (PySem.W.typeIn K (.ref ((s.N h K).cad p.1)) = some (.type "type")))))
        else supB K ((s.N h K).cad p.1) && iniB P K ((s.N h K).cad p.1) p.2.2 (lOf (s.N h K) p.2.1.reverse 1) p.2.1.length) &&
      (s.mth.all (fun p => methB K ((s.N h K).cad p.1) (fnL s.flds p.2.1) (fA s K p.2.2)) && (s.prp.all (fun p => propB K ((s.N h K).cad p.1) (fnL s.flds p.2.1) (fA s K p.2.2)) && (s.smt.all (fun p => statB K ((s.N h K).cad p.1) (fnL s.flds p.2.1) (fA s K p.2.2)) && (s.ini.all (fun p => mkB K ((s.N h K).cad p.1) (fA s K p.2)) &&
      (s.una.all (fun p => defB K ((s.N h K).cad p.1) (unNm p.2.1) (fA s K p.2.2)) && (s.bin.all (fun p => binB K ((s.N h K).cad p.1) (pyOp p.2.1).info.2 (fA s K p.2.2)) && (s.rdn.all (fun p => rbinB K ((s.N h K).cad p.1) (pyOp p.2.1).info.2 (fA s K p.2.2)) && (s.deq.all (fun p => eqB K ((s.N h K).cad p.1) (fA s K p.2)) &&
      (s.noi.all (fun p => noiB K ((s.N h K).cad p.1) (pyOp p.2).info.2) && s.fok.all (fun p => clsB K ((s.N h K).cad p.1) && decide (PySem.W.findIn K (.ref ((s.N h K).cad p.1)) (fnL s.flds p.2) = some none))))))))))))))))))))
end Tw
set_option maxHeartbeats 4000000
/-! The tree walk, part 28b: the program's facts together. -/
namespace Tw
open PySem PySem.Spec PyProof.Rows L2 Evl
/-! ### the Hook: what the objects show -/
abbrev AlV : Type := Bool × List He.FnW
def frV (n : Nat) (g : Addr → Option Obj) : PySem.W.Frag := He.frT g (He.asD g n ++ [cStatics])
def obV (fn : List SFn) (ex : PySem.W.Frag → Bool) (K : PySem.W.Frag) : AlV := (ex K, fn.map fun e => fnV K (wAd K e.at_))
def obsV (n : Nat) (fn : List SFn) (ex : PySem.W.Frag → Bool) (g : Addr → Option Obj) : AlV := obV fn ex (frV n g)
def Says (fn : List SFn) (K : PySem.W.Frag) : Prop := (fn.map fun e => fnV K (wAd K e.at_)) = fn.map SFn.val
def hookV (n : Nat) (fn : List SFn) (ex : PySem.W.Frag → Bool) : PySem.W.Hook where
  α := AlV
  obs := fun s => obsV n fn ex s.heap.get?
  val := fun _ => (true, fn.map SFn.val)
  says := fun _ h => ∃ K : PySem.W.Frag, K.In h ∧ Says fn K ∧ ex K = true
  of := fun _ _ e => ⟨_, He.frT_in, congrArg (fun z : AlV => z.2) e, congrArg (fun z : AlV => z.1) e⟩
  keeps := fun _ _ _ ⟨K, hK, c, e⟩ k => ⟨K, PySem.W.Frag.In.keeps hK k, c, e⟩
theorem obsV_eq {n : Nat} {fn : List SFn} {ex : PySem.W.Frag → Bool} {g : Addr → Option Obj} {s : Shared} (h : ∀ a, g a = s.heap.get? a) : obsV n fn ex g = (hookV n fn ex).obs s := by
  rw [show g = s.heap.get? from funext h]
  rfl
section
theorem find_spec {α : Type} {l : List α} {p : α → Bool} {f : α → Bool} {q : α} (ha : l.all f = true) (h : l.find? p = some q) : f q = true ∧ p q = true := ⟨List.all_eq_true.mp ha _ (List.mem_of_find?_eq_some h), List.find?_some h⟩
theorem get_spec {α : Type} {l : List α} {f : α → Bool} {i : Nat} {q : α} (ha : l.all f = true) (h : l[i]? = some q) : f q = true := List.all_eq_true.mp ha _ (List.mem_of_getElem? h)
theorem look_mem {β : Type} {c : Nat} {b : β} : ∀ {l : List (Nat × β)}, l.lookup c = some b → (c, b) ∈ l
  | [], h => by cases h
  | (d, x) :: l, h => by
    rw [List.lookup_cons] at h
    cases q : c == d with
    | true =>
      rw [q] at h
      cases h
      rw [show c = d from by simpa using q]
      exact List.mem_cons_self
    | false =>
      rw [q] at h
      exact List.mem_cons_of_mem _ (look_mem h)
theorem look_spec {β : Type} {l : List (Nat × β)} {f : Nat × β → Bool} {c : Nat} {b : β} (ha : l.all f = true) (h : l.lookup c = some b) : f (c, b) = true := List.all_eq_true.mp ha _ (look_mem h)
theorem find2_spec {l : List (Nat × Nat × Nat)} {f g : Nat × Nat × Nat → Bool} {c m r : Nat} (ha : l.all f = true) (hb : l.all g = true) (h : find2 l c m = some r) : f (c, m, r) = true ∧ g (c, m, r) = true := by
  unfold find2 at h
  obtain ⟨p, hp, rfl⟩ := Option.map_eq_some_iff.mp h
  obtain ⟨h1, h2⟩ := find_spec ha hp
  obtain ⟨h3, _⟩ := find_spec hb hp
  obtain ⟨a, b, d⟩ := p
  simp only [Bool.and_eq_true, beq_iff_eq] at h2
  obtain ⟨rfl, rfl⟩ := h2
  exact ⟨h1, h3⟩
theorem find1_spec {l : List (Nat × Nat)} {f g : Nat × Nat → Bool} {c r : Nat} (ha : l.all f = true) (hb : l.all g = true) (h : find1 l c = some r) : f (c, r) = true ∧ g (c, r) = true := by
  unfold find1 at h
  obtain ⟨p, hp, rfl⟩ := Option.map_eq_some_iff.mp h
  obtain ⟨h1, h2⟩ := find_spec ha hp
  obtain ⟨h3, _⟩ := find_spec hb hp
  obtain ⟨a, b⟩ := p
  have e := beq_iff_eq.mp h2
  subst e
  exact ⟨h1, h3⟩
theorem findO_spec {β : Type} [DecidableEq β] {l : List (Nat × β × Nat)} {f g : Nat × β × Nat → Bool} {c r : Nat} {o : β} (ha : l.all f = true) (hb : l.all g = true) (h : (l.find? fun p => p.1 == c && decide (p.2.1 = o)).map (·.2.2) = some r) : f (c, o, r) = true ∧ g (c, o, r) = true := by
  obtain ⟨p, hp, rfl⟩ := Option.map_eq_some_iff.mp h
  obtain ⟨h1, h2⟩ := find_spec ha hp
  obtain ⟨h3, _⟩ := find_spec hb hp
  obtain ⟨a, b, d⟩ := p
  simp only [Bool.and_eq_true, beq_iff_eq, decide_eq_true_eq] at h2
  obtain ⟨rfl, rfl⟩ := h2
  exact ⟨h1, h3⟩
theorem DefF.imp {K : PySem.W.Frag} {T : Tb} {ft : Nat → Option FD} {Q : Pg} {f n : Nat} {fa : Addr} {hot : Bool} {R R' : FuncData → List Str → Prop} (h : DefF K T ft Q f fa n hot R) (i : ∀ a b, R a b → R' a b) : DefF K T ft Q f fa n hot R' := by
  obtain ⟨fd, x', qual, params, body, scope, dv, kws, fdat, Nn, ps, h1, h9, h2, h3, h4, h6, h7, h8, h10⟩ := h
  exact ⟨fd, x', qual, params, body, scope, dv, kws, fdat, Nn, ps, h1, h9, h2, h3, h4, h6, h7, h8, i _ _ h10⟩
variable {s : Sta} {P : Program} {K : PySem.W.Frag}
theorem fun_of {e : SFn} {f : Nat} (he : s.fns[f]? = some e) (fb : fnB K e = true) (sd : Says s.fns K) : ∃ fd, FunD K e.nm e.qual (defArgs e.st) (defBody e.st) (defScope e.st) (dvs e.dfl) [] (wAd K e.at_) fd := by
  refine fnB_ok fb ?_
  have e2 : (s.fns.map fun e => fnV K (wAd K e.at_))[f]? = (s.fns.map SFn.val)[f]? := by rw [show (s.fns.map fun e => fnV K (wAd K e.at_)) = s.fns.map SFn.val from sd]
  rw [List.getElem?_map, List.getElem?_map, he] at e2
  exact Option.some.inj e2
theorem df_of {e : SFn} {f : Nat} (he : s.fns[f]? = some e) (fb : fnB K e = true) (ok : sfOk s.Q s.T e = true) (sd : Says s.fns K) : DefF K s.T s.ft s.Q f (wAd K e.at_) e.fd.np e.fd.hot fun fdat ps => Binds K fdat ps [] ∧ ∀ pre np ks ar, kbB e.ps e.dfl pre np ks ar = true → KB K fdat ps pre np ks ar := by
  obtain ⟨fdat, F⟩ := fun_of he fb sd
  unfold sfOk at ok
  simp only [Bool.and_eq_true, decide_eq_true_eq] at ok
  obtain ⟨o1, o2, o3, o4, o6, o5⟩ := ok
  refine ⟨e.fd, e.nm, e.qual, defArgs e.st, defBody e.st, defScope e.st, dvs e.dfl, [], fdat, e.N, e.ps, ?_, rfl, rfl, o4, o3, F, fscB_ok o2, o5, binds_dfl F o1 o6, fun pre np ks ar h => kb_any F o1 h⟩
  show (s.fns[f]?).map (·.fd) = _
  rw [he]
  rfl
theorem fA_eq {e : SFn} {f : Nat} (he : s.fns[f]? = some e) : fA s K f = wAd K e.at_ := by
  unfold fA
  rw [he]
theorem dfN_of {f n : Nat} (h : dfN s f n = true) (fb : s.fns.all (fnB K) = true) (ok : s.fns.all (sfOk s.Q s.T) = true) (sd : Says s.fns K) : DefB K s.T s.ft s.Q f (fA s K f) n := by
  unfold dfN at h
  split at h
  · rename_i e he
    simp only [Bool.and_eq_true, decide_eq_true_eq] at h
    obtain ⟨h1, rfl⟩ := h
    have d := df_of he (get_spec fb he) (get_spec ok he) sd
    rw [h1] at d
    rw [fA_eq he]
    exact d.imp fun _ _ r => r.1
  · exact absurd h Bool.false_ne_true
theorem dfC_of {f : Nat} (h : dfC s f = true) (fb : s.fns.all (fnB K) = true) (ok : s.fns.all (sfOk s.Q s.T) = true) (sd : Says s.fns K) : ∃ e, s.fns[f]? = some e ∧ DefF K s.T s.ft s.Q f (fA s K f) e.fd.np false fun fdat ps => Binds K fdat ps [] ∧ ∀ pre np ks ar, kbB e.ps e.dfl pre np ks ar = true → KB K fdat ps pre np ks ar := by
  unfold dfC at h
  split at h
  · rename_i e he
    rw [decide_eq_true_eq] at h
    have d := df_of he (get_spec fb he) (get_spec ok he) sd
    rw [h] at d
    rw [fA_eq he]
    exact ⟨e, he, d⟩
  · exact absurd h Bool.false_ne_true
theorem glo_of {hot : Bool} {f n : Nat} {x : Str} (h : (s.fns[f]?).bind (gloN hot) = some (x, n)) : ∃ e, s.fns[f]? = some e ∧ e.at_ = .glo x ∧ e.fd.hot = hot ∧ e.fd.np = n := by
  obtain ⟨e, he, h⟩ := Option.bind_eq_some_iff.mp h
  unfold gloN at h
  split at h
  · rename_i y ea
    split at h
    · rename_i hh
      simp only [Option.some.injEq, Prod.mk.injEq] at h
      obtain ⟨rfl, rfl⟩ := h
      exact ⟨e, he, ea, hh, rfl⟩
    · cases h
  · cases h
theorem pf_of (hn : namesOk s.flds = true) {w : World} {mg : Str → Option Value} {h : Heap} (X : K.In h) (G : h.Ns mainGlobals mg) (ex : exT s hn P K = true) (so : staOk s P = true) (sd : Says s.fns K) : PF P w K mg (s.N hn K) s.T s.ft s.Q := by
  unfold exT at ex
  simp only [Bool.and_eq_true] at ex
  obtain ⟨e1, e2, e3, e4, e5, e6, e7, e8, e9, e10, m1, m2, m3, m4, m5, m6, m7, m8, m9, m10⟩ := ex
  unfold staOk at so
  simp only [Bool.and_eq_true, Bool.not_eq_true'] at so
  obtain ⟨s1, s2, s4, t1, t2, t3, t4, t5, t6, t7, t8⟩ := so
  have glo : ∀ {x}, glB K x = true → mg x = some (.ref (He.ga K x)) := fun h => PySem.W.mg_of X G (of_decide_eq_true h)
  have hms : mg "super" = none := PySem.W.mg_none_of X G (of_decide_eq_true e9)
  have fb : s.fns.all (fnB K) = true := List.all_eq_true.mpr fun e he => (Bool.and_eq_true_iff.mp (List.all_eq_true.mp e2 e he)).1
  have gx : ∀ {e : SFn} {f : Nat} {x : Str}, s.fns[f]? = some e → e.at_ = .glo x → mg x = some (.ref (wAd K e.at_)) := by
    intro e f x he ea
    have h1 := (Bool.and_eq_true_iff.mp (List.all_eq_true.mp e2 e (List.mem_of_getElem? he))).2
    rw [ea] at h1 ⊢
    exact glo h1
  exact {
    fn := fun f x n hf => by
      obtain ⟨e, he, ea, hh, rfl⟩ := glo_of (hot := false) hf
      have d := df_of he (get_spec fb he) (get_spec s1 he) sd
      rw [hh] at d
      refine ⟨_, gx he ea, d.imp fun _ _ r => ⟨r.1, fun np ks ar hk => r.2 0 np ks ar ?_⟩⟩
      have hk' : (match s.fns[f]? with
        | some e => kbB e.ps e.dfl 0 np ks ar
        | none => false) = true := hk
      rw [he] at hk'
      exact hk'
    hot := fun f x n hf => by
      obtain ⟨e, he, ea, hh, rfl⟩ := glo_of (hot := true) hf
      have d := df_of he (get_spec fb he) (get_spec s1 he) sd
      rw [hh] at d
      exact ⟨_, gx he ea, d.imp fun _ _ r => r.1⟩
    cls := fun c x hc => by
      have hc' : s.cls[c]? = some x := hc
      have e : (s.N hn K).cad c = He.ga K x := by
        show He.ga K (s.cls.getD c Str.empty) = _
        rw [List.getD_eq_getElem?_getD, hc']
        rfl
      rw [e]
      exact glo (get_spec e1 hc')
    con := fun i x hc => by
      have hc' : (s.con[i]?).map (·.1) = some x := hc
      obtain ⟨p, hp, rfl⟩ := Option.map_eq_some_iff.mp hc'
      have ok := get_spec e3 hp
      unfold conB at ok
      split at ok
      · rename_i u v hu hv
        refine ⟨u, v, PySem.W.mg_of X G hu, He.relB_ok ok, fun e G => ?_⟩
        show Rep K _ G (match s.con[i]? with
          | some p => p.2
          | none => .non) _
        rw [hp]
        show Rep K _ G p.2 v
        revert hv
        generalize p.2 = d
        intro hv
        cases d <;> cases hv <;> exact rfl
      · exact absurd ok Bool.false_ne_true
    free := fun x hx => by
      have hx' : (s.frees.any fun y => decide (y = x)) = true := hx
      obtain ⟨y, hy, hyx⟩ := List.any_eq_true.mp hx'
      rw [decide_eq_true_eq] at hyx
      subst hyx
      exact PySem.W.mg_none_of X G (of_decide_eq_true (List.all_eq_true.mp e4 _ hy))
    imp := fun b x hb => by
      have hb' : (s.imp.find? fun p => decide (p.1 = b)).map (·.2) = some x := hb
      obtain ⟨p, hp, rfl⟩ := Option.map_eq_some_iff.mp hb'
      obtain ⟨h1, h2⟩ := find_spec e5 hp
      rw [decide_eq_true_eq] at h2
      subst h2
      rw [Bool.and_eq_true, decide_eq_true_eq] at h1
      refine ⟨PySem.W.mg_of X G h1.1, ?_⟩
      have h3 := h1.2
      split at h3
      · rename_i id e
        exact ⟨id, e⟩
      · exact absurd h3 Bool.false_ne_true
    fld := fun _ => rfl
    isa := fun t y b hi => by
      have hi' : (s.isa.find? fun p => decide (p.1 = t) && decide (p.2.1 = y)).map (·.2.2) = some b := hi
      obtain ⟨p, hp, rfl⟩ := Option.map_eq_some_iff.mp hi'
      obtain ⟨h1, h2⟩ := find_spec e6 hp
      simp only [Bool.and_eq_true, decide_eq_true_eq] at h1 h2
      obtain ⟨rfl, rfl⟩ := h2
      exact h1.1
    ins := fun c y b hi => by
      have hi' : (s.isa.find? fun p => decide (p.1 = .own c) && decide (p.2.1 = y)).map (·.2.2) = some b := hi
      obtain ⟨p, hp, rfl⟩ := Option.map_eq_some_iff.mp hi'
      obtain ⟨h1, h2⟩ := find_spec e6 hp
      simp only [Bool.and_eq_true, decide_eq_true_eq] at h1 h2
      have h3 := h1.2
      rw [h2.1] at h3
      exact insB_ok h3
    fok := fun c f hx => by
      have hx' : (s.fok.any fun p => p.1 == c && p.2 == f) = true := hx
      obtain ⟨p, hp, h2⟩ := List.any_eq_true.mp hx'
      have h1 := List.all_eq_true.mp m10 _ hp
      simp only [Bool.and_eq_true, beq_iff_eq] at h2
      obtain ⟨rfl, rfl⟩ := h2
      rw [Bool.and_eq_true, decide_eq_true_eq] at h1
      exact ⟨clsB_ok h1.1, h1.2⟩
    xok := fun c f hx => by
      have hx' : (s.xok.any fun p => p.1 == c && p.2 == f) = true := hx
      obtain ⟨p, hp, h2⟩ := List.any_eq_true.mp hx'
      have h1 := List.all_eq_true.mp e8 _ hp
      simp only [Bool.and_eq_true, beq_iff_eq] at h2
      obtain ⟨rfl, rfl⟩ := h2
      rw [Bool.and_eq_true, decide_eq_true_eq] at h1
      exact ⟨xfB_ok h1.1, h1.2⟩
    exm := fun c y b hx => by
      have hx' : (s.exm.find? fun p => p.1 == c && decide (p.2.1 = y)).map (·.2.2) = some b := hx
      obtain ⟨p, hp, rfl⟩ := Option.map_eq_some_iff.mp hx'
      obtain ⟨h1, h2⟩ := find_spec e7 hp
      simp only [Bool.and_eq_true, beq_iff_eq, decide_eq_true_eq] at h2
      obtain ⟨rfl, rfl⟩ := h2
      unfold exmB at h1
      simp only [Bool.and_eq_true, decide_eq_true_eq] at h1
      obtain ⟨a1, a2, a3, a4, a5, a6, a7, a8, a9, a10⟩ := h1
      exact ⟨a1, a2, ⟨a3, a4, a5, a6, a7, a8, a9, a10⟩⟩
    mth := fun c m f h => by
      obtain ⟨h1, h2⟩ := find2_spec m1 t1 h
      obtain ⟨e, he, d⟩ := dfC_of h2 fb s1 sd
      obtain ⟨k1, k2⟩ := methB_ok h1
      exact ⟨k1, _, _, d.imp fun _ _ r => r.1, k2⟩
    prp := fun c m f h => by
      obtain ⟨h1, h2⟩ := find2_spec m2 t2 h
      obtain ⟨k1, p, k2⟩ := propB_ok h1
      exact ⟨k1, _, p, dfN_of h2 fb s1 sd, k2⟩
    una := fun c u f h => by
      obtain ⟨h1, h2⟩ := findO_spec m5 t5 h
      exact ⟨_, dfN_of h2 fb s1 sd, defB_ok h1⟩
    dun := fun c u f h => by
      obtain ⟨h1, h2⟩ := findO_spec m6 t6 h
      exact ⟨_, dfN_of h2 fb s1 sd, binB_ok h1⟩
    rdn := fun c u f h => by
      obtain ⟨h1, h2⟩ := findO_spec m7 t7 h
      rw [Bool.and_eq_true] at h2
      refine ⟨?_, _, dfN_of h2.1 fb s1 sd, rbinB_ok h1⟩
      have h3 := h2.2
      cases u <;> first | exact intOp_add | exact intOp_sub | exact intOp_mul | cases h3
    deq := fun c f h => by
      obtain ⟨h1, h2⟩ := find1_spec m8 t8 h
      exact ⟨_, dfN_of h2 fb s1 sd, eqB_ok h1⟩
    noi := fun c o hx => by
      have hx' : (s.noi.any fun p => p.1 == c && decide (p.2 = o)) = true := hx
      obtain ⟨p, hp, h2⟩ := List.any_eq_true.mp hx'
      have h1 := List.all_eq_true.mp m9 _ hp
      simp only [Bool.and_eq_true, beq_iff_eq, decide_eq_true_eq] at h2
      obtain ⟨rfl, rfl⟩ := h2
      exact noiB_ok h1
    smt := fun c m h => by
      obtain ⟨f, hf⟩ := Option.isSome_iff_exists.mp (show (find2 s.smt c m).isSome = true from h)
      obtain ⟨h1, h2⟩ := find2_spec m3 t3 hf
      obtain ⟨e, he, d⟩ := dfC_of h2 fb s1 sd
      exact ⟨f, _, _, hf, d.imp fun _ _ r => r.1, statB_ok h1⟩
    ini := fun c h => by
      have h' : (match find1 s.ini c with
        | some f => (match s.fns[f]? with
          | some e => e.dfl.isEmpty
          | none => false)
        | none => false) = true := h
      split at h'
      · rename_i f hf
        obtain ⟨h1, h2⟩ := find1_spec m4 t4 hf
        obtain ⟨e, he, d⟩ := dfC_of h2 fb s1 sd
        exact ⟨f, _, _, hf, d.imp fun _ _ r => r.1, mkB_ok h1⟩
      · exact absurd h' Bool.false_ne_true
    kbi := fun c np ks ar h => by
      have h' : (match find1 s.ini c with
        | some f => (match s.fns[f]? with
          | some e => kbB e.ps e.dfl 1 np ks ar
          | none => false)
        | none => false) = true := h
      split at h'
      · rename_i f hf
        obtain ⟨h1, h2⟩ := find1_spec m4 t4 hf
        obtain ⟨e, he, d⟩ := dfC_of h2 fb s1 sd
        rw [he] at h'
        exact ⟨f, _, _, hf, mkB_ok h1, d.imp fun _ _ r => r.2 1 np ks ar h'⟩
      · exact absurd h' Bool.false_ne_true
    exI := fun c ns hx hne => by
      have hx' : (s.exf.lookup c).map (·.1) = some ns := hx
      obtain ⟨p, hp, rfl⟩ := Option.map_eq_some_iff.mp hx'
      have h1 := look_spec e10 hp
      have h2 := look_spec s2 hp
      rw [decide_eq_true_eq] at h2
      simp only at h1 h2
      rw [if_neg hne, Bool.and_eq_true] at h1
      refine ⟨by omega, (supB_ok h1.1).own, ?_⟩
      have h3 := h1.2
      cases er : p.1.reverse with
      | nil => exact absurd (List.reverse_eq_nil_iff.mp er) hne
      | cons f fs =>
        rw [er] at h3
        have hl : (lOf (s.N hn K) fs 2).length ≤ 800 := by
          have e : ∀ (l : List Nat) (k : Nat), (lOf (s.N hn K) l k).length = l.length := by
            intro l
            induction l with
            | nil => intro k; rfl
            | cons a l ih => intro k; simp [lOf, ih]
          rw [e]
          have := congrArg List.length er
          rw [List.length_reverse, List.length_cons] at this
          omega
        exact iniB_ok h3 h1.1 hms s4 hl
    exB := fun c hx => by
      have hx' : (s.exf.lookup c).map (·.1) = some [] := hx
      obtain ⟨p, hp, e⟩ := Option.map_eq_some_iff.mp hx'
      have h1 := look_spec e10 hp
      simp only at h1
      rw [if_pos e] at h1
      simp only [Bool.and_eq_true, decide_eq_true_eq] at h1
      obtain ⟨a1, a2, a3, a4⟩ := h1
      exact ⟨a1, a2, a3, a4⟩ }
theorem law_facts (hn : namesOk s.flds = true) {w : World} {mg : Str → Option Value} {h : Heap} (X : K.In h) (G : h.Ns mainGlobals mg) (ex : exT s hn P K = true) (so : staOk s P = true) (sd : Says s.fns K) {f : Nat} {e : SFn} {x y : Str} {fa : Addr} (he : s.fns[f]? = some e) (hp : e.ps = [x]) (ha : e.at_ = .glo y) (hh : e.fd.hot = false) (hdf : e.dfl = []) (hm : mg y = some (.ref fa)) (J : Nat) :
    ∃ fd : FuncData, (∀ (s : Shared) (u : Value), BindsTo s fd ⟨[u], []⟩ [(x, u)]) ∧ ∀ base : Heap, FnOk P w K mg base (L2.CX P w) (2 * J + 3) fa fd [x] (spF K ((s.N hn K).at_ none) (callN s.T s.ft (J + 1)) f 1) := by
  have pf := pf_of (w := w) hn X G ex so sd
  unfold exT at ex
  simp only [Bool.and_eq_true] at ex
  have e2 := ex.2.1
  have h2 := Bool.and_eq_true_iff.mp (List.all_eq_true.mp e2 e (List.mem_of_getElem? he))
  have g : mg y = some (.ref (He.ga K y)) := by
    have h3 := h2.2
    rw [ha] at h3
    exact PySem.W.mg_of X G (of_decide_eq_true h3)
  rw [hm] at g
  cases g
  unfold staOk at so
  simp only [Bool.and_eq_true] at so
  have ok := get_spec so.1 he
  unfold sfOk at ok
  simp only [Bool.and_eq_true, decide_eq_true_eq] at ok
  obtain ⟨o1, o2, o3, o4, o6, o5⟩ := ok
  obtain ⟨fdat, F⟩ := fun_of he h2.1 sd
  rw [hh] at o5
  rw [ha, hdf] at F
  obtain ⟨q1, q2, q3, q4, q5⟩ := plainA_ok o1
  have hp' : (defArgs e.st).args.map (·.arg) = [x] := hp
  have b := FunD.bindsA (ps := [x]) (show FunD K e.nm e.qual (defArgs e.st) (defBody e.st) (defScope e.st) [] [] (He.ga K y) fdat from F) fun kV doc pm an cdv ct us hl => by
    rw [← hp'] at hl ⊢
    exact bind_plain q1 q2 q3 q4 rfl q5 hl
  refine ⟨fdat, fun s v => b s [v] rfl, fun base => ?_⟩
  have hft : s.ft f = some e.fd := by
    show (s.fns[f]?).map (·.fd) = _
    rw [he]
    rfl
  have r := fn_step (N := (s.N hn K).at_ none) (cl' := callN s.T s.ft (J + 1)) (f := f) (base := base) rfl F (fscB_ok o2) (pf.gok J) o5 hh o4 o3 fun os => by simp only [callN, hft]
  rw [hp] at r o3
  rw [o3] at r
  exact r
end
end Tw
set_option maxHeartbeats 0
namespace L01
open PySem PySem.Spec PyProof.Rows L2 Tw
abbrev RR := PySem.Challenge.rw_roottower_k01_fracs_are_exact
def top (i : Nat) : Stmt := RR.prog.main.body.getD i (.Pass ⟨0, 0, 0, 0⟩)
def mtop (i j : Nat) : Stmt := match top i with
  | .ClassDef _ _ _ b _ _ _ _ _ _ _ => b.getD j (.Pass ⟨0, 0, 0, 0⟩)
  | _ => .Pass ⟨0, 0, 0, 0⟩
open Tw (B S E Es It Hs)
def b_f_check_size : B := (.cons (.ite (.not (.chain .le .le (.var 1) (.blt .len (.cons (.var 0) .nil)) (.var 2))) (.cons (.raise 1 (.cons (.blt .len (.cons (.var 0) .nil)) .nil)) .nil) .nil) .nil)
def d_f_check_size : FD := ⟨3, 3, [0, 1, 2], false, b_f_check_size⟩
def b_f_lines_of : B := (.cons (.expr (.call 0 (.cons (.var 0) (.cons (.int 0) (.cons (.con 0) .nil))))) (.cons (.ret (.smeth 1 (.var 0) (.cons (.str (PySem.Str.ofString "\n")) .nil))) .nil))
def d_f_lines_of : FD := ⟨1, 1, [0], false, b_f_lines_of⟩
def we_f_scan_positive_1 : E := (.and (.cmp .lt (.var 3) (.bin .add (.var 1) (.con 1))) (.smeth 0 (.slice (.var 0) (.var 3) (.bin .add (.var 3) (.int 1))) .nil))
def wb_f_scan_positive_1 : B := (.cons (.asg 3 (.bin .add (.var 3) (.int 1))) .nil)
def b_f_scan_positive : B := (.cons (.ite (.or (.cmp .ge (.var 1) (.blt .len (.cons (.var 0) .nil))) (.cmp .nin (.sub (.var 0) (.var 1)) (.con 2))) (.cons (.raise 3 (.cons (.var 2) (.cons (.bin .add (.var 1) (.int 1)) .nil))) .nil) .nil) (.cons (.asg 3 (.bin .add (.var 1) (.int 1))) (.cons (.whl we_f_scan_positive_1 wb_f_scan_positive_1) (.cons (.ret (.tup (.cons (.blt .int (.cons (.slice (.var 0) (.var 1) (.var 3)) .nil)) (.cons (.var 3) .nil)))) .nil))))
def d_f_scan_positive : FD := ⟨3, 4, [0, 1, 2], false, b_f_scan_positive⟩
def b_f_scan_integer : B := (.cons (.ite (.cmp .eq (.slice (.var 0) (.var 1) (.bin .add (.var 1) (.int 1))) (.str (PySem.Str.ofString "0"))) (.cons (.ret (.tup (.cons (.int 0) (.cons (.bin .add (.var 1) (.int 1)) .nil)))) .nil) .nil) (.cons (.ite (.cmp .eq (.slice (.var 0) (.var 1) (.bin .add (.var 1) (.int 1))) (.str (PySem.Str.ofString "-"))) (.cons (.asgT [3, 4] (.call 2 (.cons (.var 0) (.cons (.bin .add (.var 1) (.int 1)) (.cons (.var 2) .nil))))) (.cons (.ret (.tup (.cons (.neg (.var 3)) (.cons (.var 4) .nil)))) .nil)) .nil) (.cons (.ret (.call 2 (.cons (.var 0) (.cons (.var 1) (.cons (.var 2) .nil))))) .nil)))
def d_f_scan_integer : FD := ⟨3, 5, [0, 1, 2], false, b_f_scan_integer⟩
def b_f_scan_fraction : B := (.cons (.asgT [3, 4] (.call 3 (.cons (.var 0) (.cons (.var 1) (.cons (.var 2) .nil))))) (.cons (.ite (.or (.cmp .eq (.var 3) (.int 0)) (.cmp .ne (.slice (.var 0) (.var 4) (.bin .add (.var 4) (.int 1))) (.str (PySem.Str.ofString "/")))) (.cons (.ret (.tup (.cons (.var 3) (.cons (.int 1) (.cons (.var 4) .nil))))) .nil) .nil) (.cons (.asgT [5, 4] (.call 2 (.cons (.var 0) (.cons (.bin .add (.var 4) (.int 1)) (.cons (.var 2) .nil))))) (.cons (.ite (.smeth 0 (.slice (.var 0) (.var 4) (.bin .add (.var 4) (.int 1))) .nil) (.cons (.ret (.tup (.cons (.var 3) (.cons (.var 5) (.cons (.var 4) .nil))))) .nil) .nil) (.cons (.ite (.or (.cmp .eq (.var 5) (.int 1)) (.cmp .gt (.blt .gcd (.cons (.var 3) (.cons (.var 5) .nil))) (.int 1))) (.cons (.raise 3 (.cons (.var 2) (.cons (.bin .add (.var 4) (.int 1)) .nil))) .nil) .nil) (.cons (.ret (.tup (.cons (.var 3) (.cons (.var 5) (.cons (.var 4) .nil))))) .nil))))))
def d_f_scan_fraction : FD := ⟨3, 6, [0, 1, 2], false, b_f_scan_fraction⟩
def b_m_Frac___init__ : B := (.cons (.ite (.cmp .gt (.blt .abs (.cons (.var 1) .nil)) (.con 3)) (.cons (.raise 2 (.cons (.var 1) .nil)) .nil) .nil) (.cons (.ite (.not (.chain .le .le (.int 1) (.var 2) (.con 3))) (.cons (.raise 2 (.cons (.var 2) .nil)) .nil) .nil) (.cons (.asg 3 (.blt .gcd (.cons (.var 1) (.cons (.var 2) .nil)))) (.cons (.setA 0 1 (.bin .fdiv (.var 1) (.var 3))) (.cons (.setA 0 0 (.bin .fdiv (.var 2) (.var 3))) .nil)))))
def d_m_Frac___init__ : FD := ⟨3, 4, [0, 1, 2], false, b_m_Frac___init__⟩
def b_m_Frac___add__ : B := (.cons (.ite (.isin (.var 1) [.own 5]) (.cons (.ret (.call 22 (.cons (.bin .add (.bin .mul (.attr (.var 0) 1) (.attr (.var 1) 0)) (.bin .mul (.attr (.var 1) 1) (.attr (.var 0) 0))) (.cons (.bin .mul (.attr (.var 0) 0) (.attr (.var 1) 0)) .nil)))) .nil) .nil) (.cons (.ite (.isin (.var 1) [.int]) (.cons (.expr (.call 24 (.cons (.var 1) .nil))) (.cons (.ret (.call 22 (.cons (.bin .add (.attr (.var 0) 1) (.bin .mul (.var 1) (.attr (.var 0) 0))) (.cons (.attr (.var 0) 0) .nil)))) .nil)) .nil) (.cons (.ret .never) .nil)))
def d_m_Frac___add__ : FD := ⟨2, 2, [0, 1], false, b_m_Frac___add__⟩
def b_m_Frac___radd__ : B := (.cons (.ite (.isin (.var 1) [.int]) (.cons (.ret (.bin .add (.var 0) (.var 1))) .nil) .nil) (.cons (.ret .never) .nil))
def d_m_Frac___radd__ : FD := ⟨2, 2, [0, 1], false, b_m_Frac___radd__⟩
def b_m_Frac___sub__ : B := (.cons (.ite (.isin (.var 1) [.own 5]) (.cons (.ret (.call 22 (.cons (.bin .sub (.bin .mul (.attr (.var 0) 1) (.attr (.var 1) 0)) (.bin .mul (.attr (.var 1) 1) (.attr (.var 0) 0))) (.cons (.bin .mul (.attr (.var 0) 0) (.attr (.var 1) 0)) .nil)))) .nil) .nil) (.cons (.ite (.isin (.var 1) [.int]) (.cons (.expr (.call 24 (.cons (.var 1) .nil))) (.cons (.ret (.call 22 (.cons (.bin .sub (.attr (.var 0) 1) (.bin .mul (.var 1) (.attr (.var 0) 0))) (.cons (.attr (.var 0) 0) .nil)))) .nil)) .nil) (.cons (.ret .never) .nil)))
def d_m_Frac___sub__ : FD := ⟨2, 2, [0, 1], false, b_m_Frac___sub__⟩
def b_m_Frac___rsub__ : B := (.cons (.ite (.isin (.var 1) [.int]) (.cons (.expr (.call 24 (.cons (.var 1) .nil))) (.cons (.ret (.call 22 (.cons (.bin .sub (.bin .mul (.var 1) (.attr (.var 0) 0)) (.attr (.var 0) 1)) (.cons (.attr (.var 0) 0) .nil)))) .nil)) .nil) (.cons (.ret .never) .nil))
def d_m_Frac___rsub__ : FD := ⟨2, 2, [0, 1], false, b_m_Frac___rsub__⟩
def b_m_Frac___mul__ : B := (.cons (.ite (.isin (.var 1) [.own 5]) (.cons (.ret (.call 22 (.cons (.bin .mul (.attr (.var 0) 1) (.attr (.var 1) 1)) (.cons (.bin .mul (.attr (.var 0) 0) (.attr (.var 1) 0)) .nil)))) .nil) .nil) (.cons (.ite (.isin (.var 1) [.int]) (.cons (.expr (.call 24 (.cons (.var 1) .nil))) (.cons (.ret (.call 22 (.cons (.bin .mul (.attr (.var 0) 1) (.var 1)) (.cons (.attr (.var 0) 0) .nil)))) .nil)) .nil) (.cons (.ret .never) .nil)))
def d_m_Frac___mul__ : FD := ⟨2, 2, [0, 1], false, b_m_Frac___mul__⟩
def b_m_Frac___rmul__ : B := (.cons (.ite (.isin (.var 1) [.int]) (.cons (.ret (.bin .mul (.var 0) (.var 1))) .nil) .nil) (.cons (.ret .never) .nil))
def d_m_Frac___rmul__ : FD := ⟨2, 2, [0, 1], false, b_m_Frac___rmul__⟩
def b_m_Frac___neg__ : B := (.cons (.ret (.call 22 (.cons (.neg (.attr (.var 0) 1)) (.cons (.attr (.var 0) 0) .nil)))) .nil)
def d_m_Frac___neg__ : FD := ⟨1, 1, [0], false, b_m_Frac___neg__⟩
def b_m_Frac___abs__ : B := (.cons (.ret (.call 22 (.cons (.blt .abs (.cons (.attr (.var 0) 1) .nil)) (.cons (.attr (.var 0) 0) .nil)))) .nil)
def d_m_Frac___abs__ : FD := ⟨1, 1, [0], false, b_m_Frac___abs__⟩
def b_m_Frac___eq__ : B := (.cons (.ret (.and (.isin (.var 1) [.own 5]) (.and (.cmp .eq (.attr (.var 0) 1) (.attr (.var 1) 1)) (.cmp .eq (.attr (.var 0) 0) (.attr (.var 1) 0))))) .nil)
def d_m_Frac___eq__ : FD := ⟨2, 2, [0, 1], false, b_m_Frac___eq__⟩
def b_m_Frac___bool__ : B := (.cons (.ret (.blt .bool (.cons (.attr (.var 0) 1) .nil))) .nil)
def d_m_Frac___bool__ : FD := ⟨1, 1, [0], false, b_m_Frac___bool__⟩
def b_m_Frac___str__ : B := (.cons (.ite (.cmp .eq (.attr (.var 0) 0) (.int 1)) (.cons (.ret (.blt .str (.cons (.attr (.var 0) 1) .nil))) .nil) .nil) (.cons (.ret (.fstr (.cons (.attr (.var 0) 1) (.cons (.str (PySem.Str.ofString "/")) (.cons (.attr (.var 0) 0) .nil))))) .nil))
def d_m_Frac___str__ : FD := ⟨1, 1, [0], false, b_m_Frac___str__⟩
def b_m_Frac_over : B := (.cons (.expr (.call 24 (.cons (.var 1) .nil))) (.cons (.asgF 2 (.call 23 (.cons (.var 1) .nil))) (.cons (.ite (.cmp .eq (.attr (.var 2) 1) (.int 0)) (.cons (.raise 4 .nil) .nil) .nil) (.cons (.ret (.call 22 (.cons (.bin .mul (.attr (.var 0) 1) (.attr (.var 2) 0)) (.cons (.bin .mul (.attr (.var 0) 0) (.attr (.var 2) 1)) .nil)))) .nil))))
def d_m_Frac_over : FD := ⟨2, 3, [0, 1], false, b_m_Frac_over⟩
def b_m_Frac_compare : B := (.cons (.expr (.call 24 (.cons (.var 1) .nil))) (.cons (.asgF 2 (.call 23 (.cons (.var 1) .nil))) (.cons (.asg 3 (.bin .mul (.attr (.var 0) 1) (.attr (.var 2) 0))) (.cons (.asg 4 (.bin .mul (.attr (.var 2) 1) (.attr (.var 0) 0))) (.cons (.ite (.cmp .lt (.var 3) (.var 4)) (.cons (.ret (.neg (.int 1))) .nil) .nil) (.cons (.ret (.ite (.cmp .gt (.var 3) (.var 4)) (.int 1) (.int 0))) .nil))))))
def d_m_Frac_compare : FD := ⟨2, 5, [0, 1], false, b_m_Frac_compare⟩
def b_m_Frac_floor : B := (.cons (.ret (.bin .fdiv (.attr (.var 0) 1) (.attr (.var 0) 0))) .nil)
def d_m_Frac_floor : FD := ⟨1, 1, [0], false, b_m_Frac_floor⟩
def b_m_Frac_whole : B := (.cons (.ret (.cmp .eq (.attr (.var 0) 0) (.int 1))) .nil)
def d_m_Frac_whole : FD := ⟨1, 1, [0], false, b_m_Frac_whole⟩
def b_m_Frac_read : B := (.cons (.asg 1 (.call 1 (.cons (.var 0) .nil))) (.cons (.asgT [2, 3, 4] (.call 4 (.cons (.sub (.var 1) (.int 0)) (.cons (.int 0) (.cons (.int 1) .nil))))) (.cons (.ite (.cmp .lt (.var 4) (.blt .len (.cons (.sub (.var 1) (.int 0)) .nil))) (.cons (.raise 3 (.cons (.int 1) (.cons (.bin .add (.var 4) (.int 1)) .nil))) .nil) .nil) (.cons (.ite (.cmp .gt (.blt .len (.cons (.var 1) .nil)) (.int 1)) (.cons (.raise 3 (.cons (.int 2) (.cons (.int 1) .nil))) .nil) .nil) (.cons (.ret (.call 22 (.cons (.var 2) (.cons (.var 3) .nil)))) .nil)))))
def d_m_Frac_read : FD := ⟨1, 5, [0], false, b_m_Frac_read⟩
def b_f_frac_of : B := (.cons (.asg 2 (.blt .gcd (.cons (.var 0) (.cons (.var 1) .nil)))) (.cons (.ite (.cmp .lt (.var 1) (.int 0)) (.cons (.asg 2 (.neg (.var 2))) .nil) .nil) (.cons (.asg 3 (.newK 5 (.cons (.int 0) .nil) .nil [.a 0, .d (.int 1)])) (.cons (.setA 3 1 (.bin .fdiv (.var 0) (.var 2))) (.cons (.setA 3 0 (.bin .fdiv (.var 1) (.var 2))) (.cons (.ret (.mov 3)) .nil))))))
def d_f_frac_of : FD := ⟨2, 4, [0, 1], false, b_f_frac_of⟩
def b_f_as_frac : B := (.cons (.ite (.isin (.var 0) [.int]) (.cons (.ret (.call 22 (.cons (.var 0) (.cons (.int 1) .nil)))) .nil) .nil) (.cons (.ret (.var 0)) .nil))
def d_f_as_frac : FD := ⟨1, 1, [0], false, b_f_as_frac⟩
def b_f_check_number : B := (.cons (.ite (.and (.isin (.var 0) [.int]) (.cmp .gt (.blt .abs (.cons (.var 0) .nil)) (.con 3))) (.cons (.raise 2 (.cons (.var 0) .nil)) .nil) .nil) .nil)
def d_f_check_number : FD := ⟨1, 1, [0], false, b_f_check_number⟩
def cc_f__law_pool_1 : E := (.bl true)
def ce_f__law_pool_1 : E := (.bin .add (.bin .mul (.int 2) (.blt .abs (.cons (.var 3) .nil))) (.blt .int (.cons (.cmp .lt (.var 3) (.int 0)) .nil)))
def b_f__law_pool : B := (.cons (.asg 1 (.comp [3] (.seq (.slice (.var 0) .non (.int 63))) [3] cc_f__law_pool_1 ce_f__law_pool_1)) (.cons (.asg 2 (.int 31415926535897932384626433832795028841971693993751058209749445923)) (.cons (.ret (.bin .add (.bin .add (.lst (.cons (.int 0) .nil)) (.var 1)) (.lst (.cons (.bin .add (.var 2) (.blt .sum (.cons (.var 1) .nil))) .nil)))) .nil)))
def d_f__law_pool : FD := ⟨1, 4, [0], false, b_f__law_pool⟩
def fb_f__law_draw_1 : B := (.cons (.ite (.cmp .gt (.sub (.var 0) (.var 2)) (.int 0)) (.cons (.asg 3 (.bin .mod (.blt .int (.cons (.sub (.var 0) (.var 2)) .nil)) (.var 1))) (.cons (.setI 0 (.var 2) (.bin .fdiv (.sub (.var 0) (.var 2)) (.var 1))) (.cons (.ret (.mov 3)) .nil))) .nil) .nil)
def b_f__law_draw : B := (.cons (.setI 0 (.int 0) (.bin .add (.sub (.var 0) (.int 0)) (.int 1))) (.cons (.for (.rng2 (.int 1) (.blt .len (.cons (.var 0) .nil))) [2] fb_f__law_draw_1) (.cons (.setI 0 (.neg (.int 1)) (.bin .add (.int 27182818284590452353602874713526624977572470936999595749669676277) (.sub (.var 0) (.int 0)))) (.cons (.ret (.bin .mod (.blt .int (.cons (.sub (.var 0) (.int 0)) .nil)) (.var 1))) .nil))))
def d_f__law_draw : FD := ⟨2, 4, [0, 1], false, b_f__law_draw⟩
def b_f__law_int : B := (.cons (.ret (.and (.isin (.var 0) [.int]) (.not (.isin (.var 0) [.bool])))) .nil)
def d_f__law_int : FD := ⟨1, 1, [0], false, b_f__law_int⟩
def b_f__law_integer : B := (.cons (.asg 1 (.bin .pow (.bin .pow (.int 10) (.int 50)) (.int 8))) (.cons (.asg 2 (.call 26 (.cons (.var 0) (.cons (.int 24) .nil)))) (.cons (.asg 3 (.bin .sub (.int 1) (.bin .mul (.int 2) (.call 26 (.cons (.var 0) (.cons (.int 2) .nil)))))) (.cons (.ite (.cmp .eq (.var 2) (.int 23)) (.cons (.ret (.bin .mul (.var 3) (.bin .sub (.var 1) (.call 26 (.cons (.var 0) (.cons (.int 2) .nil)))))) .nil) .nil) (.cons (.ite (.cmp .eq (.var 2) (.int 22)) (.cons (.ret (.bin .mul (.var 3) (.call 26 (.cons (.var 0) (.cons (.bin .add (.var 1) (.int 1)) .nil))))) .nil) .nil) (.cons (.ite (.cmp .eq (.var 2) (.int 21)) (.cons (.ret (.bin .mul (.var 3) (.call 26 (.cons (.var 0) (.cons (.bin .pow (.int 10) (.int 12)) .nil))))) .nil) .nil) (.cons (.ite (.cmp .gt (.var 2) (.int 14)) (.cons (.ret (.bin .mul (.var 3) (.call 26 (.cons (.var 0) (.cons (.bin .pow (.int 10) (.int 4)) .nil))))) .nil) .nil) (.cons (.ret (.bin .mul (.var 3) (.call 26 (.cons (.var 0) (.cons (.int 12) .nil))))) .nil))))))))
def d_f__law_integer : FD := ⟨1, 4, [0], false, b_f__law_integer⟩
def b_f__law_positive : B := (.cons (.ret (.blt .max2 (.cons (.int 1) (.cons (.blt .abs (.cons (.call 28 (.cons (.var 0) .nil)) .nil)) .nil)))) .nil)
def d_f__law_positive : FD := ⟨1, 1, [0], false, b_f__law_positive⟩
def b_f__law_second : B := (.cons (.asg 3 (.bin .pow (.bin .pow (.int 10) (.int 50)) (.int 8))) (.cons (.asg 4 (.call 26 (.cons (.var 0) (.cons (.int 8) .nil)))) (.cons (.asg 5 (.bin .add (.int 1) (.call 26 (.cons (.var 0) (.cons (.int 9) .nil))))) (.cons (.ite (.and (.cmp .eq (.var 4) (.int 1)) (.and (.cmp .le (.bin .mul (.blt .abs (.cons (.var 1) .nil)) (.var 5)) (.var 3)) (.cmp .le (.bin .mul (.var 2) (.var 5)) (.var 3)))) (.cons (.ret (.tup (.cons (.bin .mul (.var 1) (.var 5)) (.cons (.bin .mul (.var 2) (.var 5)) .nil)))) .nil) .nil) (.cons (.ite (.cmp .eq (.var 4) (.int 2)) (.cons (.ret (.tup (.cons (.neg (.var 1)) (.cons (.var 2) .nil)))) .nil) .nil) (.cons (.ite (.cmp .eq (.var 4) (.int 3)) (.cons (.ret (.tup (.cons (.int 0) (.cons (.call 29 (.cons (.var 0) .nil)) .nil)))) .nil) .nil) (.cons (.ite (.and (.cmp .eq (.var 4) (.int 4)) (.cmp .lt (.var 1) (.var 3))) (.cons (.ret (.tup (.cons (.bin .add (.var 1) (.int 1)) (.cons (.var 2) .nil)))) .nil) .nil) (.cons (.ite (.cmp .eq (.var 4) (.int 5)) (.cons (.ret (.tup (.cons (.call 28 (.cons (.var 0) .nil)) (.cons (.var 2) .nil)))) .nil) .nil) (.cons (.ret (.tup (.cons (.call 28 (.cons (.var 0) .nil)) (.cons (.call 29 (.cons (.var 0) .nil)) .nil)))) .nil)))))))))
def d_f__law_second : FD := ⟨3, 6, [0, 1, 2], false, b_f__law_second⟩
def we_f__law_lowest_1 : E := (.cmp .gt (.var 3) (.int 0))
def wb_f__law_lowest_1 : B := (.cons (.asg 4 (.bin .mod (.blt .int (.cons (.var 2) .nil)) (.var 3))) (.cons (.asg 2 (.var 3)) (.cons (.asg 3 (.var 4)) .nil)))
def b_f__law_lowest : B := (.cons (.asg 2 (.blt .abs (.cons (.var 0) .nil))) (.cons (.asg 3 (.var 1)) (.cons (.whl we_f__law_lowest_1 wb_f__law_lowest_1) (.cons (.ret (.tup (.cons (.bin .fdiv (.var 0) (.var 2)) (.cons (.bin .fdiv (.var 1) (.var 2)) .nil)))) .nil))))
def d_f__law_lowest : FD := ⟨2, 5, [0, 1], false, b_f__law_lowest⟩
def b_f__law_is : B := (.cons (.ite (.not (.isin (.var 0) [.own 5])) (.cons (.ret (.bl false)) .nil) .nil) (.cons (.ite (.or (.not (.call 27 (.cons (.attr (.var 0) 1) .nil))) (.not (.call 27 (.cons (.attr (.var 0) 0) .nil)))) (.cons (.ret (.bl false)) .nil) .nil) (.cons (.ret (.cmp .eq (.tup (.cons (.attr (.var 0) 1) (.cons (.attr (.var 0) 0) .nil))) (.call 31 (.cons (.var 1) (.cons (.var 2) .nil))))) .nil)))
def d_f__law_is : FD := ⟨3, 3, [0, 1, 2], false, b_f__law_is⟩
def b_f__law_text : B := (.cons (.asg 3 (.call 31 (.cons (.var 1) (.cons (.var 2) .nil)))) (.cons (.asg 4 (.bin .pow (.bin .pow (.int 10) (.int 50)) (.int 8))) (.cons (.asg 5 (.blt .str (.cons (.sub (.var 3) (.int 0)) .nil))) (.cons (.ite (.cmp .gt (.sub (.var 3) (.int 1)) (.int 1)) (.cons (.asg 5 (.bin .add (.bin .add (.var 5) (.str (PySem.Str.ofString "/"))) (.blt .str (.cons (.sub (.var 3) (.int 1)) .nil)))) .nil) .nil) (.cons (.ite (.cmp .ne (.blt .str (.cons (.var 0) .nil)) (.var 5)) (.cons (.ret (.bl false)) .nil) .nil) (.cons (.ite (.or (.cmp .notB (.cmp .eq (.var 0) (.var 5)) (.bl false)) (.cmp .notB (.cmp .ne (.var 0) (.var 5)) (.bl true))) (.cons (.ret (.bl false)) .nil) .nil) (.cons (.ite (.or (.cmp .ge (.blt .abs (.cons (.sub (.var 3) (.int 0)) .nil)) (.var 4)) (.cmp .ge (.sub (.var 3) (.int 1)) (.var 4))) (.cons (.ret (.bl true)) .nil) .nil) (.cons (.ret (.call 32 (.cons (.stat 5 2 (.cons (.var 5) .nil)) (.cons (.var 1) (.cons (.var 2) .nil))))) .nil))))))))
def d_f__law_text : FD := ⟨3, 6, [0, 1, 2], false, b_f__law_text⟩
def b_f__law_alone : B := (.cons (.ite (.not (.call 32 (.cons (.var 0) (.cons (.var 1) (.cons (.var 2) .nil))))) (.cons (.ret (.bl false)) .nil) .nil) (.cons (.ite (.or (.not (.call 32 (.cons (.neg (.var 0)) (.cons (.neg (.var 1)) (.cons (.var 2) .nil))))) (.not (.call 32 (.cons (.blt .abs (.cons (.var 0) .nil)) (.cons (.blt .abs (.cons (.var 1) .nil)) (.cons (.var 2) .nil)))))) (.cons (.ret (.bl false)) .nil) .nil) (.cons (.asg 3 (.meth (.var 0) 4 .nil)) (.cons (.ite (.or (.not (.call 27 (.cons (.var 3) .nil))) (.or (.cmp .gt (.bin .mul (.var 3) (.var 2)) (.var 1)) (.cmp .le (.bin .add (.bin .mul (.var 3) (.var 2)) (.var 2)) (.var 1)))) (.cons (.ret (.bl false)) .nil) .nil) (.cons (.asg 4 (.call 31 (.cons (.var 1) (.cons (.var 2) .nil)))) (.cons (.ite (.or (.not (.isin (.prop (.var 0) 3) [.bool])) (.cmp .ne (.prop (.var 0) 3) (.cmp .eq (.sub (.var 4) (.int 1)) (.int 1)))) (.cons (.ret (.bl false)) .nil) .nil) (.cons (.ite (.cmp .ne (.blt .bool (.cons (.var 0) .nil)) (.cmp .ne (.var 1) (.int 0))) (.cons (.ret (.bl false)) .nil) .nil) (.cons (.ret (.call 33 (.cons (.var 0) (.cons (.var 1) (.cons (.var 2) .nil))))) .nil))))))))
def d_f__law_alone : FD := ⟨3, 5, [0, 1, 2], false, b_f__law_alone⟩
def b_f__law_no_quotient : B := (.cons (.try (.cons (.expr (.meth (.var 0) 5 (.cons (.var 1) .nil))) .nil) (.cons 4 (some 2) (.cons (.ite (.or (.not (.isin (.var 2) [.own 0])) (.not (.isin (.var 2) [.valueError]))) (.cons (.ret (.bl false)) .nil) .nil) (.cons (.ret (.not (.isin (.var 2) [.own 2, .own 1]))) .nil)) .nil)) (.cons (.ret (.bl false)) .nil))
def d_f__law_no_quotient : FD := ⟨2, 3, [0, 1], false, b_f__law_no_quotient⟩
def b_f__law_side : B := (.cons (.asg 3 (.bin .sub (.blt .int (.cons (.cmp .gt (.var 1) (.var 2)) .nil)) (.blt .int (.cons (.cmp .lt (.var 1) (.var 2)) .nil)))) (.cons (.ret (.and (.call 27 (.cons (.var 0) .nil)) (.cmp .eq (.var 0) (.var 3)))) .nil))
def d_f__law_side : FD := ⟨3, 4, [0, 1, 2], false, b_f__law_side⟩
def b_f__law_same : B := (.cons (.asg 3 (.cmp .eq (.var 0) (.var 1))) (.cons (.asg 4 (.cmp .ne (.var 0) (.var 1))) (.cons (.ite (.or (.not (.isin (.var 3) [.bool])) (.not (.isin (.var 4) [.bool]))) (.cons (.ret (.bl false)) .nil) .nil) (.cons (.ret (.and (.cmp .eq (.var 3) (.var 2)) (.cmp .ne (.var 4) (.var 2)))) .nil))))
def d_f__law_same : FD := ⟨3, 5, [0, 1, 2], false, b_f__law_same⟩
def b_f__law_two : B := (.cons (.asg 4 (.bin .mul (.sub (.var 2) (.int 0)) (.sub (.var 3) (.int 1)))) (.cons (.asg 5 (.bin .mul (.sub (.var 3) (.int 0)) (.sub (.var 2) (.int 1)))) (.cons (.asg 6 (.bin .mul (.sub (.var 2) (.int 1)) (.sub (.var 3) (.int 1)))) (.cons (.ite (.not (.call 32 (.cons (.bin .add (.var 0) (.var 1)) (.cons (.bin .add (.var 4) (.var 5)) (.cons (.var 6) .nil))))) (.cons (.ret (.bl false)) .nil) .nil) (.cons (.ite (.not (.call 32 (.cons (.bin .sub (.var 0) (.var 1)) (.cons (.bin .sub (.var 4) (.var 5)) (.cons (.var 6) .nil))))) (.cons (.ret (.bl false)) .nil) .nil) (.cons (.ite (.not (.call 32 (.cons (.bin .mul (.var 0) (.var 1)) (.cons (.bin .mul (.sub (.var 2) (.int 0)) (.sub (.var 3) (.int 0))) (.cons (.var 6) .nil))))) (.cons (.ret (.bl false)) .nil) .nil) (.cons (.ite (.not (.call 36 (.cons (.meth (.var 0) 6 (.cons (.var 1) .nil)) (.cons (.var 4) (.cons (.var 5) .nil))))) (.cons (.ret (.bl false)) .nil) .nil) (.cons (.ite (.not (.call 37 (.cons (.var 0) (.cons (.var 1) (.cons (.cmp .eq (.var 4) (.var 5)) .nil))))) (.cons (.ret (.bl false)) .nil) .nil) (.cons (.ite (.cmp .eq (.sub (.var 3) (.int 0)) (.int 0)) (.cons (.ret (.call 35 (.cons (.var 0) (.cons (.var 1) .nil)))) .nil) .nil) (.cons (.asg 7 (.bin .sub (.int 1) (.bin .mul (.int 2) (.blt .int (.cons (.cmp .lt (.sub (.var 3) (.int 0)) (.int 0)) .nil))))) (.cons (.ret (.call 32 (.cons (.meth (.var 0) 5 (.cons (.var 1) .nil)) (.cons (.bin .mul (.var 7) (.var 4)) (.cons (.bin .mul (.sub (.var 2) (.int 1)) (.blt .abs (.cons (.sub (.var 3) (.int 0)) .nil))) .nil))))) .nil)))))))))))
def d_f__law_two : FD := ⟨4, 8, [0, 1, 2, 3], false, b_f__law_two⟩
def fb_f__law_with_1 : B := (.cons (.ite (.not (.call 32 (.cons (.sub (.var 7) (.int 0)) (.cons (.sub (.var 7) (.int 1)) (.cons (.var 4) .nil))))) (.cons (.ret (.bl false)) .nil) .nil) .nil)
def b_f__law_with : B := (.cons (.asg 3 (.sub (.var 1) (.int 0))) (.cons (.asg 4 (.sub (.var 1) (.int 1))) (.cons (.asg 5 (.bin .mul (.var 2) (.var 4))) (.cons (.asg 6 (.lst (.cons (.tup (.cons (.bin .add (.var 0) (.var 2)) (.cons (.bin .add (.var 3) (.var 5)) .nil))) (.cons (.tup (.cons (.bin .add (.var 2) (.var 0)) (.cons (.bin .add (.var 3) (.var 5)) .nil))) .nil)))) (.cons (.asg 6 (.bin .add (.var 6) (.lst (.cons (.tup (.cons (.bin .sub (.var 0) (.var 2)) (.cons (.bin .sub (.var 3) (.var 5)) .nil))) (.cons (.tup (.cons (.bin .sub (.var 2) (.var 0)) (.cons (.bin .sub (.var 5) (.var 3)) .nil))) .nil))))) (.cons (.asg 6 (.bin .add (.var 6) (.lst (.cons (.tup (.cons (.bin .mul (.var 0) (.var 2)) (.cons (.bin .mul (.var 3) (.var 2)) .nil))) (.cons (.tup (.cons (.bin .mul (.var 2) (.var 0)) (.cons (.bin .mul (.var 3) (.var 2)) .nil))) .nil))))) (.cons (.for (.bor 6) [7] fb_f__law_with_1) (.cons (.ite (.not (.call 36 (.cons (.meth (.var 0) 6 (.cons (.var 2) .nil)) (.cons (.var 3) (.cons (.var 5) .nil))))) (.cons (.ret (.bl false)) .nil) .nil) (.cons (.ite (.or (.not (.call 37 (.cons (.var 0) (.cons (.var 2) (.cons (.bl false) .nil))))) (.not (.call 37 (.cons (.var 2) (.cons (.var 0) (.cons (.bl false) .nil)))))) (.cons (.ret (.bl false)) .nil) .nil) (.cons (.ite (.cmp .eq (.var 2) (.int 0)) (.cons (.ret (.call 35 (.cons (.var 0) (.cons (.var 2) .nil)))) .nil) .nil) (.cons (.asg 8 (.bin .sub (.int 1) (.bin .mul (.int 2) (.blt .int (.cons (.cmp .lt (.var 2) (.int 0)) .nil))))) (.cons (.ret (.call 32 (.cons (.meth (.var 0) 5 (.cons (.var 2) .nil)) (.cons (.bin .mul (.var 8) (.var 3)) (.cons (.bin .mul (.var 4) (.blt .abs (.cons (.var 2) .nil))) .nil))))) .nil))))))))))))
def d_f__law_with : FD := ⟨3, 9, [0, 1, 2], false, b_f__law_with⟩
def b_f__law_beyond : B := (.cons (.asg 3 .non) (.cons (.try (.cons (.ite (.cmp .eq (.var 1) (.int 0)) (.cons (.asg 3 (.bin .add (.var 0) (.var 2))) .nil) (.cons (.ite (.cmp .eq (.var 1) (.int 1)) (.cons (.asg 3 (.bin .add (.var 2) (.var 0))) .nil) (.cons (.ite (.cmp .eq (.var 1) (.int 2)) (.cons (.asg 3 (.bin .sub (.var 0) (.var 2))) .nil) (.cons (.ite (.cmp .eq (.var 1) (.int 3)) (.cons (.asg 3 (.bin .sub (.var 2) (.var 0))) .nil) (.cons (.ite (.cmp .eq (.var 1) (.int 4)) (.cons (.asg 3 (.bin .mul (.var 0) (.var 2))) .nil) (.cons (.ite (.cmp .eq (.var 1) (.int 5)) (.cons (.asg 3 (.bin .mul (.var 2) (.var 0))) .nil) (.cons (.ite (.cmp .eq (.var 1) (.int 6)) (.cons (.asg 3 (.meth (.var 0) 5 (.cons (.var 2) .nil))) .nil) (.cons (.asg 3 (.meth (.var 0) 6 (.cons (.var 2) .nil))) .nil)) .nil)) .nil)) .nil)) .nil)) .nil)) .nil)) .nil) (.cons 2 (some 4) (.cons (.ite (.or (.cmp .notN (.var 3) .non) (.not (.hcall 45 (.cons (.attr (.var 4) 7) .nil)))) (.cons (.ret (.bl false)) .nil) .nil) (.cons (.ret (.and (.cmp .eq (.attr (.var 4) 7) (.var 2)) (.not (.isin (.var 4) [.own 1, .own 4])))) .nil)) .nil)) (.cons (.ret (.bl false)) .nil)))
def d_f__law_beyond : FD := ⟨3, 5, [0, 1, 2], false, b_f__law_beyond⟩
def b_f__law_refused : B := (.cons (.try (.cons (.expr (.newK 5 (.cons (.var 0) (.cons (.var 1) .nil)) .nil [.a 0, .a 1])) .nil) (.cons 2 (some 3) (.cons (.ite (.or (.not (.isin (.var 3) [.own 0])) (.not (.isin (.var 3) [.valueError]))) (.cons (.ret (.bl false)) .nil) .nil) (.cons (.ret (.and (.hcall 45 (.cons (.attr (.var 3) 7) .nil)) (.cmp .eq (.attr (.var 3) 7) (.var 2)))) .nil)) .nil)) (.cons (.ret (.bl false)) .nil))
def d_f__law_refused : FD := ⟨3, 4, [0, 1, 2], false, b_f__law_refused⟩
def fb_f__law_bounds_1 : B := (.cons (.ite (.not (.call 40 (.cons (.var 1) (.cons (.var 7) (.cons (.var 5) .nil))))) (.cons (.ret (.bl false)) .nil) .nil) .nil)
def b_f__law_bounds : B := (.cons (.asg 3 (.bin .pow (.bin .pow (.int 10) (.int 50)) (.int 8))) (.cons (.asg 4 (.bin .sub (.int 1) (.bin .mul (.int 2) (.call 26 (.cons (.var 0) (.cons (.int 2) .nil)))))) (.cons (.asg 5 (.bin .mul (.var 4) (.bin .add (.bin .add (.var 3) (.int 1)) (.call 26 (.cons (.var 0) (.cons (.int 3) .nil)))))) (.cons (.asg 6 (.bin .sub (.int 0) (.call 26 (.cons (.var 0) (.cons (.int 3) .nil))))) (.cons (.ite (.not (.call 41 (.cons (.var 5) (.cons (.var 6) (.cons (.var 5) .nil))))) (.cons (.ret (.bl false)) .nil) .nil) (.cons (.ite (.not (.call 41 (.cons (.bin .mul (.var 4) (.var 3)) (.cons (.var 6) (.cons (.var 6) .nil))))) (.cons (.ret (.bl false)) .nil) .nil) (.cons (.ite (.not (.call 41 (.cons (.sub (.var 2) (.int 0)) (.cons (.bin .add (.var 3) (.int 1)) (.cons (.bin .add (.var 3) (.int 1)) .nil))))) (.cons (.ret (.bl false)) .nil) .nil) (.cons (.ite (.not (.call 41 (.cons (.int 0) (.cons (.var 5) (.cons (.var 5) .nil))))) (.cons (.ret (.bl false)) .nil) .nil) (.cons (.for (.rng1 (.int 8)) [7] fb_f__law_bounds_1) (.cons (.ite (.not (.call 32 (.cons (.newK 5 (.cons (.bin .mul (.var 4) (.var 3)) (.cons (.var 3) .nil)) .nil [.a 0, .a 1]) (.cons (.var 4) (.cons (.int 1) .nil))))) (.cons (.ret (.bl false)) .nil) .nil) (.cons (.ite (.not (.call 32 (.cons (.newK 5 (.cons (.int 1) .nil) (.cons (.var 3) .nil) [.a 0, .a 1]) (.cons (.int 1) (.cons (.var 3) .nil))))) (.cons (.ret (.bl false)) .nil) .nil) (.cons (.ret (.call 39 (.cons (.var 1) (.cons (.var 2) (.cons (.bin .mul (.var 4) (.var 3)) .nil))))) .nil))))))))))))
def d_f__law_bounds : FD := ⟨3, 8, [0, 1, 2], false, b_f__law_bounds⟩
def b_f__law_later : B := (.cons (.asg 4 (.var 0)) (.cons (.augO 4 .add (.var 1)) (.cons (.asg 5 (.bin .add (.bin .mul (.sub (.var 2) (.int 0)) (.sub (.var 3) (.int 1))) (.bin .mul (.sub (.var 3) (.int 0)) (.sub (.var 2) (.int 1))))) (.cons (.ite (.not (.call 32 (.cons (.var 4) (.cons (.var 5) (.cons (.bin .mul (.sub (.var 2) (.int 1)) (.sub (.var 3) (.int 1))) .nil))))) (.cons (.ret (.bl false)) .nil) .nil) (.cons (.ite (.not (.call 32 (.cons (.bin .sub (.var 4) (.var 1)) (.cons (.sub (.var 2) (.int 0)) (.cons (.sub (.var 2) (.int 1)) .nil))))) (.cons (.ret (.bl false)) .nil) .nil) (.cons (.ret (.and (.call 37 (.cons (.bin .sub (.var 4) (.var 0)) (.cons (.var 1) (.cons (.bl true) .nil)))) (.call 38 (.cons (.var 0) (.cons (.var 1) (.cons (.var 2) (.cons (.var 3) .nil))))))) .nil))))))
def d_f__law_later : FD := ⟨4, 6, [0, 1, 2, 3], false, b_f__law_later⟩
def b_f_law : B := (.cons (.asg 1 (.call 25 (.cons (.var 0) .nil))) (.cons (.asg 2 (.tup (.cons (.call 28 (.cons (.var 1) .nil)) (.cons (.call 29 (.cons (.var 1) .nil)) .nil)))) (.cons (.asg 3 (.call 30 (.cons (.var 1) (.cons (.sub (.var 2) (.int 0)) (.cons (.sub (.var 2) (.int 1)) .nil))))) (.cons (.asg 4 (.call 28 (.cons (.var 1) .nil))) (.cons (.ite (.cmp .eq (.call 26 (.cons (.var 1) (.cons (.int 4) .nil))) (.int 1)) (.cons (.asg 4 (.bin .fdiv (.sub (.var 2) (.int 0)) (.sub (.var 2) (.int 1)))) .nil) .nil) (.cons (.ite (.or (.not (.call 27 (.cons (.con 3) .nil))) (.cmp .ne (.con 3) (.bin .pow (.bin .pow (.int 10) (.int 50)) (.int 8)))) (.cons (.ret (.bl false)) .nil) .nil) (.cons (.asgF 5 (.newK 5 (.cons (.sub (.var 2) (.int 0)) (.cons (.sub (.var 2) (.int 1)) .nil)) .nil [.a 0, .a 1])) (.cons (.asgF 6 (.newK 5 .nil (.cons (.sub (.var 3) (.int 0)) (.cons (.sub (.var 3) (.int 1)) .nil)) [.a 0, .a 1])) (.cons (.ite (.or (.not (.call 32 (.cons (.newK 5 (.cons (.var 4) .nil) .nil [.a 0, .d (.int 1)]) (.cons (.var 4) (.cons (.int 1) .nil))))) (.not (.call 39 (.cons (.var 6) (.cons (.var 3) (.cons (.int 0) .nil)))))) (.cons (.ret (.bl false)) .nil) .nil) (.cons (.ite (.not (.call 34 (.cons (.var 5) (.cons (.sub (.var 2) (.int 0)) (.cons (.sub (.var 2) (.int 1)) .nil))))) (.cons (.ret (.bl false)) .nil) .nil) (.cons (.ite (.not (.call 34 (.cons (.var 6) (.cons (.sub (.var 3) (.int 0)) (.cons (.sub (.var 3) (.int 1)) .nil))))) (.cons (.ret (.bl false)) .nil) .nil) (.cons (.ite (.or (.not (.call 38 (.cons (.var 5) (.cons (.var 6) (.cons (.var 2) (.cons (.var 3) .nil)))))) (.not (.call 39 (.cons (.var 5) (.cons (.var 2) (.cons (.var 4) .nil)))))) (.cons (.ret (.bl false)) .nil) .nil) (.cons (.ite (.not (.call 38 (.cons (.var 6) (.cons (.var 5) (.cons (.var 3) (.cons (.var 2) .nil)))))) (.cons (.ret (.bl false)) .nil) .nil) (.cons (.ite (.not (.call 38 (.cons (.var 5) (.cons (.var 5) (.cons (.var 2) (.cons (.var 2) .nil)))))) (.cons (.ret (.bl false)) .nil) .nil) (.cons (.asgF 7 (.newK 5 (.cons (.int 0) (.cons (.sub (.var 3) (.int 1)) .nil)) .nil [.a 0, .a 1])) (.cons (.ite (.not (.call 38 (.cons (.var 5) (.cons (.var 7) (.cons (.var 2) (.cons (.tup (.cons (.int 0) (.cons (.sub (.var 3) (.int 1)) .nil))) .nil)))))) (.cons (.ret (.bl false)) .nil) .nil) (.cons (.ite (.not (.call 34 (.cons (.var 7) (.cons (.int 0) (.cons (.sub (.var 3) (.int 1)) .nil))))) (.cons (.ret (.bl false)) .nil) .nil) (.cons (.ite (.not (.call 42 (.cons (.var 1) (.cons (.var 5) (.cons (.var 2) .nil))))) (.cons (.ret (.bl false)) .nil) .nil) (.cons (.ite (.or (.not (.call 43 (.cons (.var 5) (.cons (.var 6) (.cons (.var 2) (.cons (.var 3) .nil)))))) (.not (.call 34 (.cons (.var 5) (.cons (.sub (.var 2) (.int 0)) (.cons (.sub (.var 2) (.int 1)) .nil)))))) (.cons (.ret (.bl false)) .nil) .nil) (.cons (.ret (.call 34 (.cons (.var 6) (.cons (.sub (.var 3) (.int 0)) (.cons (.sub (.var 3) (.int 1)) .nil))))) .nil))))))))))))))))))))
def d_f_law : FD := ⟨1, 8, [0], false, b_f_law⟩
def b_h__law_int : B := (.cons (.ret (.and (.isin (.var 0) [.int]) (.not (.isin (.var 0) [.bool])))) .nil)
def d_h__law_int : FD := ⟨1, 1, [0], true, b_h__law_int⟩
def sta : Sta where
  fns := [⟨(.glo (PySem.Str.ofString "check_size")), (PySem.Str.ofString "check_size"), (PySem.Str.ofString "check_size"), top 7, [(PySem.Str.ofString "rows"), (PySem.Str.ofString "low"), (PySem.Str.ofString "high")], [], d_f_check_size⟩,
    ⟨(.glo (PySem.Str.ofString "lines_of")), (PySem.Str.ofString "lines_of"), (PySem.Str.ofString "lines_of"), top 12, [(PySem.Str.ofString "text")], [], d_f_lines_of⟩,
    ⟨(.glo (PySem.Str.ofString "scan_positive")), (PySem.Str.ofString "scan_positive"), (PySem.Str.ofString "scan_positive"), top 13, [(PySem.Str.ofString "line"), (PySem.Str.ofString "at"), (PySem.Str.ofString "number"), (PySem.Str.ofString "end")], [], d_f_scan_positive⟩,
    ⟨(.glo (PySem.Str.ofString "scan_integer")), (PySem.Str.ofString "scan_integer"), (PySem.Str.ofString "scan_integer"), top 14, [(PySem.Str.ofString "line"), (PySem.Str.ofString "at"), (PySem.Str.ofString "number"), (PySem.Str.ofString "size"), (PySem.Str.ofString "end")], [], d_f_scan_integer⟩,
    ⟨(.glo (PySem.Str.ofString "scan_fraction")), (PySem.Str.ofString "scan_fraction"), (PySem.Str.ofString "scan_fraction"), top 15, [(PySem.Str.ofString "line"), (PySem.Str.ofString "at"), (PySem.Str.ofString "number"), (PySem.Str.ofString "num"), (PySem.Str.ofString "end"), (PySem.Str.ofString "den")], [], d_f_scan_fraction⟩,
    ⟨(.meth (PySem.Str.ofString "Frac") (PySem.Str.ofString "__init__")), (PySem.Str.ofString "__init__"), (PySem.Str.ofString "Frac.__init__"), mtop 18 0, [(PySem.Str.ofString "self"), (PySem.Str.ofString "num"), (PySem.Str.ofString "den"), (PySem.Str.ofString "shared")], [(.int 1)], d_m_Frac___init__⟩,
    ⟨(.meth (PySem.Str.ofString "Frac") (PySem.Str.ofString "__add__")), (PySem.Str.ofString "__add__"), (PySem.Str.ofString "Frac.__add__"), mtop 18 1, [(PySem.Str.ofString "self"), (PySem.Str.ofString "other")], [], d_m_Frac___add__⟩,
    ⟨(.meth (PySem.Str.ofString "Frac") (PySem.Str.ofString "__radd__")), (PySem.Str.ofString "__radd__"), (PySem.Str.ofString "Frac.__radd__"), mtop 18 2, [(PySem.Str.ofString "self"), (PySem.Str.ofString "other")], [], d_m_Frac___radd__⟩,
    ⟨(.meth (PySem.Str.ofString "Frac") (PySem.Str.ofString "__sub__")), (PySem.Str.ofString "__sub__"), (PySem.Str.ofString "Frac.__sub__"), mtop 18 3, [(PySem.Str.ofString "self"), (PySem.Str.ofString "other")], [], d_m_Frac___sub__⟩,
    ⟨(.meth (PySem.Str.ofString "Frac") (PySem.Str.ofString "__rsub__")), (PySem.Str.ofString "__rsub__"), (PySem.Str.ofString "Frac.__rsub__"), mtop 18 4, [(PySem.Str.ofString "self"), (PySem.Str.ofString "other")], [], d_m_Frac___rsub__⟩,
    ⟨(.meth (PySem.Str.ofString "Frac") (PySem.Str.ofString "__mul__")), (PySem.Str.ofString "__mul__"), (PySem.Str.ofString "Frac.__mul__"), mtop 18 5, [(PySem.Str.ofString "self"), (PySem.Str.ofString "other")], [], d_m_Frac___mul__⟩,
    ⟨(.meth (PySem.Str.ofString "Frac") (PySem.Str.ofString "__rmul__")), (PySem.Str.ofString "__rmul__"), (PySem.Str.ofString "Frac.__rmul__"), mtop 18 6, [(PySem.Str.ofString "self"), (PySem.Str.ofString "other")], [], d_m_Frac___rmul__⟩,
    ⟨(.meth (PySem.Str.ofString "Frac") (PySem.Str.ofString "__neg__")), (PySem.Str.ofString "__neg__"), (PySem.Str.ofString "Frac.__neg__"), mtop 18 7, [(PySem.Str.ofString "self")], [], d_m_Frac___neg__⟩,
    ⟨(.meth (PySem.Str.ofString "Frac") (PySem.Str.ofString "__abs__")), (PySem.Str.ofString "__abs__"), (PySem.Str.ofString "Frac.__abs__"), mtop 18 8, [(PySem.Str.ofString "self")], [], d_m_Frac___abs__⟩,
    ⟨(.meth (PySem.Str.ofString "Frac") (PySem.Str.ofString "__eq__")), (PySem.Str.ofString "__eq__"), (PySem.Str.ofString "Frac.__eq__"), mtop 18 9, [(PySem.Str.ofString "self"), (PySem.Str.ofString "other")], [], d_m_Frac___eq__⟩,
    ⟨(.meth (PySem.Str.ofString "Frac") (PySem.Str.ofString "__bool__")), (PySem.Str.ofString "__bool__"), (PySem.Str.ofString "Frac.__bool__"), mtop 18 10, [(PySem.Str.ofString "self")], [], d_m_Frac___bool__⟩,
    ⟨(.meth (PySem.Str.ofString "Frac") (PySem.Str.ofString "__str__")), (PySem.Str.ofString "__str__"), (PySem.Str.ofString "Frac.__str__"), mtop 18 11, [(PySem.Str.ofString "self")], [], d_m_Frac___str__⟩,
    ⟨(.meth (PySem.Str.ofString "Frac") (PySem.Str.ofString "over")), (PySem.Str.ofString "over"), (PySem.Str.ofString "Frac.over"), mtop 18 12, [(PySem.Str.ofString "self"), (PySem.Str.ofString "number"), (PySem.Str.ofString "divisor")], [], d_m_Frac_over⟩,
    ⟨(.meth (PySem.Str.ofString "Frac") (PySem.Str.ofString "compare")), (PySem.Str.ofString "compare"), (PySem.Str.ofString "Frac.compare"), mtop 18 13, [(PySem.Str.ofString "self"), (PySem.Str.ofString "number"), (PySem.Str.ofString "other"), (PySem.Str.ofString "left"), (PySem.Str.ofString "right")], [], d_m_Frac_compare⟩,
    ⟨(.meth (PySem.Str.ofString "Frac") (PySem.Str.ofString "floor")), (PySem.Str.ofString "floor"), (PySem.Str.ofString "Frac.floor"), mtop 18 14, [(PySem.Str.ofString "self")], [], d_m_Frac_floor⟩,
    ⟨(.prop (PySem.Str.ofString "Frac") (PySem.Str.ofString "whole")), (PySem.Str.ofString "whole"), (PySem.Str.ofString "Frac.whole"), mtop 18 15, [(PySem.Str.ofString "self")], [], d_m_Frac_whole⟩,
    ⟨(.stat (PySem.Str.ofString "Frac") (PySem.Str.ofString "read")), (PySem.Str.ofString "read"), (PySem.Str.ofString "Frac.read"), mtop 18 16, [(PySem.Str.ofString "text"), (PySem.Str.ofString "lines"), (PySem.Str.ofString "num"), (PySem.Str.ofString "den"), (PySem.Str.ofString "end")], [], d_m_Frac_read⟩,
    ⟨(.glo (PySem.Str.ofString "frac_of")), (PySem.Str.ofString "frac_of"), (PySem.Str.ofString "frac_of"), top 19, [(PySem.Str.ofString "num"), (PySem.Str.ofString "den"), (PySem.Str.ofString "shared"), (PySem.Str.ofString "made")], [], d_f_frac_of⟩,
    ⟨(.glo (PySem.Str.ofString "as_frac")), (PySem.Str.ofString "as_frac"), (PySem.Str.ofString "as_frac"), top 20, [(PySem.Str.ofString "number")], [], d_f_as_frac⟩,
    ⟨(.glo (PySem.Str.ofString "check_number")), (PySem.Str.ofString "check_number"), (PySem.Str.ofString "check_number"), top 21, [(PySem.Str.ofString "number")], [], d_f_check_number⟩,
    ⟨(.glo (PySem.Str.ofString "_law_pool")), (PySem.Str.ofString "_law_pool"), (PySem.Str.ofString "_law_pool"), top 23, [(PySem.Str.ofString "script"), (PySem.Str.ofString "cells"), (PySem.Str.ofString "spare"), (PySem.Str.ofString "cell")], [], d_f__law_pool⟩,
    ⟨(.glo (PySem.Str.ofString "_law_draw")), (PySem.Str.ofString "_law_draw"), (PySem.Str.ofString "_law_draw"), top 24, [(PySem.Str.ofString "pool"), (PySem.Str.ofString "size"), (PySem.Str.ofString "at"), (PySem.Str.ofString "told")], [], d_f__law_draw⟩,
    ⟨(.glo (PySem.Str.ofString "_law_int")), (PySem.Str.ofString "_law_int"), (PySem.Str.ofString "_law_int"), top 25, [(PySem.Str.ofString "x")], [], d_f__law_int⟩,
    ⟨(.glo (PySem.Str.ofString "_law_integer")), (PySem.Str.ofString "_law_integer"), (PySem.Str.ofString "_law_integer"), top 26, [(PySem.Str.ofString "pool"), (PySem.Str.ofString "most"), (PySem.Str.ofString "kind"), (PySem.Str.ofString "sign")], [], d_f__law_integer⟩,
    ⟨(.glo (PySem.Str.ofString "_law_positive")), (PySem.Str.ofString "_law_positive"), (PySem.Str.ofString "_law_positive"), top 27, [(PySem.Str.ofString "pool")], [], d_f__law_positive⟩,
    ⟨(.glo (PySem.Str.ofString "_law_second")), (PySem.Str.ofString "_law_second"), (PySem.Str.ofString "_law_second"), top 28, [(PySem.Str.ofString "pool"), (PySem.Str.ofString "num"), (PySem.Str.ofString "den"), (PySem.Str.ofString "most"), (PySem.Str.ofString "kind"), (PySem.Str.ofString "times")], [], d_f__law_second⟩,
    ⟨(.glo (PySem.Str.ofString "_law_lowest")), (PySem.Str.ofString "_law_lowest"), (PySem.Str.ofString "_law_lowest"), top 29, [(PySem.Str.ofString "num"), (PySem.Str.ofString "den"), (PySem.Str.ofString "high"), (PySem.Str.ofString "low"), (PySem.Str.ofString "rest")], [], d_f__law_lowest⟩,
    ⟨(.glo (PySem.Str.ofString "_law_is")), (PySem.Str.ofString "_law_is"), (PySem.Str.ofString "_law_is"), top 30, [(PySem.Str.ofString "x"), (PySem.Str.ofString "num"), (PySem.Str.ofString "den")], [], d_f__law_is⟩,
    ⟨(.glo (PySem.Str.ofString "_law_text")), (PySem.Str.ofString "_law_text"), (PySem.Str.ofString "_law_text"), top 31, [(PySem.Str.ofString "x"), (PySem.Str.ofString "num"), (PySem.Str.ofString "den"), (PySem.Str.ofString "due"), (PySem.Str.ofString "most"), (PySem.Str.ofString "text")], [], d_f__law_text⟩,
    ⟨(.glo (PySem.Str.ofString "_law_alone")), (PySem.Str.ofString "_law_alone"), (PySem.Str.ofString "_law_alone"), top 32, [(PySem.Str.ofString "x"), (PySem.Str.ofString "num"), (PySem.Str.ofString "den"), (PySem.Str.ofString "low"), (PySem.Str.ofString "due")], [], d_f__law_alone⟩,
    ⟨(.glo (PySem.Str.ofString "_law_no_quotient")), (PySem.Str.ofString "_law_no_quotient"), (PySem.Str.ofString "_law_no_quotient"), top 33, [(PySem.Str.ofString "a"), (PySem.Str.ofString "b"), (PySem.Str.ofString "e")], [], d_f__law_no_quotient⟩,
    ⟨(.glo (PySem.Str.ofString "_law_side")), (PySem.Str.ofString "_law_side"), (PySem.Str.ofString "_law_side"), top 34, [(PySem.Str.ofString "told"), (PySem.Str.ofString "left"), (PySem.Str.ofString "right"), (PySem.Str.ofString "due")], [], d_f__law_side⟩,
    ⟨(.glo (PySem.Str.ofString "_law_same")), (PySem.Str.ofString "_law_same"), (PySem.Str.ofString "_law_same"), top 35, [(PySem.Str.ofString "a"), (PySem.Str.ofString "b"), (PySem.Str.ofString "due"), (PySem.Str.ofString "first"), (PySem.Str.ofString "other")], [], d_f__law_same⟩,
    ⟨(.glo (PySem.Str.ofString "_law_two")), (PySem.Str.ofString "_law_two"), (PySem.Str.ofString "_law_two"), top 36, [(PySem.Str.ofString "a"), (PySem.Str.ofString "b"), (PySem.Str.ofString "one"), (PySem.Str.ofString "two"), (PySem.Str.ofString "left"), (PySem.Str.ofString "right"), (PySem.Str.ofString "under"), (PySem.Str.ofString "sign")], [], d_f__law_two⟩,
    ⟨(.glo (PySem.Str.ofString "_law_with")), (PySem.Str.ofString "_law_with"), (PySem.Str.ofString "_law_with"), top 37, [(PySem.Str.ofString "a"), (PySem.Str.ofString "one"), (PySem.Str.ofString "k"), (PySem.Str.ofString "num"), (PySem.Str.ofString "den"), (PySem.Str.ofString "part"), (PySem.Str.ofString "told"), (PySem.Str.ofString "pair"), (PySem.Str.ofString "sign")], [], d_f__law_with⟩,
    ⟨(.glo (PySem.Str.ofString "_law_beyond")), (PySem.Str.ofString "_law_beyond"), (PySem.Str.ofString "_law_beyond"), top 38, [(PySem.Str.ofString "a"), (PySem.Str.ofString "kind"), (PySem.Str.ofString "k"), (PySem.Str.ofString "told"), (PySem.Str.ofString "e")], [], d_f__law_beyond⟩,
    ⟨(.glo (PySem.Str.ofString "_law_refused")), (PySem.Str.ofString "_law_refused"), (PySem.Str.ofString "_law_refused"), top 39, [(PySem.Str.ofString "num"), (PySem.Str.ofString "den"), (PySem.Str.ofString "due"), (PySem.Str.ofString "e")], [], d_f__law_refused⟩,
    ⟨(.glo (PySem.Str.ofString "_law_bounds")), (PySem.Str.ofString "_law_bounds"), (PySem.Str.ofString "_law_bounds"), top 40, [(PySem.Str.ofString "pool"), (PySem.Str.ofString "a"), (PySem.Str.ofString "one"), (PySem.Str.ofString "most"), (PySem.Str.ofString "sign"), (PySem.Str.ofString "far"), (PySem.Str.ofString "low"), (PySem.Str.ofString "kind")], [], d_f__law_bounds⟩,
    ⟨(.glo (PySem.Str.ofString "_law_later")), (PySem.Str.ofString "_law_later"), (PySem.Str.ofString "_law_later"), top 41, [(PySem.Str.ofString "a"), (PySem.Str.ofString "b"), (PySem.Str.ofString "one"), (PySem.Str.ofString "two"), (PySem.Str.ofString "total"), (PySem.Str.ofString "num")], [], d_f__law_later⟩,
    ⟨(.glo (PySem.Str.ofString "law")), (PySem.Str.ofString "law"), (PySem.Str.ofString "law"), top 42, [(PySem.Str.ofString "script"), (PySem.Str.ofString "pool"), (PySem.Str.ofString "one"), (PySem.Str.ofString "two"), (PySem.Str.ofString "k"), (PySem.Str.ofString "a"), (PySem.Str.ofString "b"), (PySem.Str.ofString "zero")], [], d_f_law⟩,
    ⟨(.glo (PySem.Str.ofString "_law_int")), (PySem.Str.ofString "_law_int"), (PySem.Str.ofString "_law_int"), top 25, [(PySem.Str.ofString "x")], [], d_h__law_int⟩]
  cls := [(PySem.Str.ofString "RootError"), (PySem.Str.ofString "SizeError"), (PySem.Str.ofString "NumberError"), (PySem.Str.ofString "TextError"), (PySem.Str.ofString "ZeroError"), (PySem.Str.ofString "Frac")]
  con := [((PySem.Str.ofString "MOST_CHARACTERS"), (.int 20000)), ((PySem.Str.ofString "MOST_DIGITS"), (.int 400)), ((PySem.Str.ofString "FIRST_DIGITS"), (.str (PySem.Str.ofString "123456789"))), ((PySem.Str.ofString "MOST"), (.int 10000000000000000000000000000000000000000000000000000000000000000000000000000000000000000000000000000000000000000000000000000000000000000000000000000000000000000000000000000000000000000000000000000000000000000000000000000000000000000000000000000000000000000000000000000000000000000000000000000000000000000000000000000000000000000000000000000000000000000000000000000000000000000000000000000000000000000))]
  flds := [(PySem.Str.ofString "den"), (PySem.Str.ofString "num"), (PySem.Str.ofString "read"), (PySem.Str.ofString "whole"), (PySem.Str.ofString "floor"), (PySem.Str.ofString "over"), (PySem.Str.ofString "compare"), (PySem.Str.ofString "number"), (PySem.Str.ofString "count"), (PySem.Str.ofString "line"), (PySem.Str.ofString "column")]
  frees := [(PySem.Str.ofString "ValueError"), (PySem.Str.ofString "abs"), (PySem.Str.ofString "bool"), (PySem.Str.ofString "int"), (PySem.Str.ofString "isinstance"), (PySem.Str.ofString "len"), (PySem.Str.ofString "max"), (PySem.Str.ofString "range"), (PySem.Str.ofString "str"), (PySem.Str.ofString "sum")]
  exf := [(1, [8], [(PySem.Str.ofString "self"), (PySem.Str.ofString "count")]), (2, [7], [(PySem.Str.ofString "self"), (PySem.Str.ofString "number")]), (3, [10, 9], [(PySem.Str.ofString "self"), (PySem.Str.ofString "line"), (PySem.Str.ofString "column")]), (4, [], [])]
  exm := [(1, .own 2, false), (1, .own 0, true), (1, .own 1, true), (1, .valueError, true), (1, .own 4, false), (2, .own 2, true), (2, .own 0, true), (2, .own 1, false), (2, .valueError, true), (2, .own 4, false), (3, .own 2, false), (3, .own 0, true), (3, .own 1, false), (3, .valueError, true), (3, .own 4, false), (4, .own 2, false), (4, .own 0, true), (4, .own 1, false), (4, .valueError, true), (4, .own 4, true)]
  isa := [(.non, .int, false), (.non, .bool, false), (.non, .str, false), (.bl, .int, true), (.bl, .bool, true), (.bl, .str, false), (.int, .int, true), (.int, .bool, false), (.int, .str, false), (.str, .int, false), (.str, .bool, false), (.str, .str, true), (.list, .int, false), (.list, .bool, false), (.list, .str, false), (.tuple, .int, false), (.tuple, .bool, false), (.tuple, .str, false), (.non, .own 5, false), (.bl, .own 5, false), (.int, .own 5, false), (.str, .own 5, false), (.list, .own 5, false), (.tuple, .own 5, false), (.own 5, .int, false), (.own 5, .bool, false), (.own 5, .str, false), (.own 5, .own 5, true)]
  xok := [(1, 8), (2, 7), (3, 9), (3, 10)]
  imp := [(.gcd, (PySem.Str.ofString "gcd"))]
  mth := [(5, 5, 17), (5, 6, 18), (5, 4, 19)]
  prp := [(5, 3, 20)]
  smt := [(5, 2, 21)]
  ini := [(5, 5)]
  una := [(5, .neg, 12), (5, .abs, 13), (5, .bool, 15), (5, .str, 16)]
  bin := [(5, .add, 6), (5, .sub, 8), (5, .mul, 10)]
  rdn := [(5, .add, 7), (5, .sub, 9), (5, .mul, 11)]
  deq := [(5, 14)]
  noi := [(5, .add)]
  fok := [(5, 1), (5, 0)]
def loose : List PySem.Str := [(PySem.Str.ofString "RootError"), (PySem.Str.ofString "SizeError"), (PySem.Str.ofString "NumberError"), (PySem.Str.ofString "TextError"), (PySem.Str.ofString "ZeroError"), (PySem.Str.ofString "check_size"), (PySem.Str.ofString "MOST_CHARACTERS"), (PySem.Str.ofString "MOST_DIGITS"), (PySem.Str.ofString "FIRST_DIGITS"), (PySem.Str.ofString "lines_of"), (PySem.Str.ofString "scan_positive"), (PySem.Str.ofString "scan_integer"), (PySem.Str.ofString "scan_fraction"), (PySem.Str.ofString "MOST"), (PySem.Str.ofString "Frac"), (PySem.Str.ofString "frac_of"), (PySem.Str.ofString "as_frac"), (PySem.Str.ofString "check_number"), (PySem.Str.ofString "_law_pool"), (PySem.Str.ofString "_law_draw"), (PySem.Str.ofString "_law_int"), (PySem.Str.ofString "_law_integer"), (PySem.Str.ofString "_law_positive"), (PySem.Str.ofString "_law_second"), (PySem.Str.ofString "_law_lowest"), (PySem.Str.ofString "_law_is"), (PySem.Str.ofString "_law_text"), (PySem.Str.ofString "_law_alone"), (PySem.Str.ofString "_law_no_quotient"), (PySem.Str.ofString "_law_side"), (PySem.Str.ofString "_law_same"), (PySem.Str.ofString "_law_two"), (PySem.Str.ofString "_law_with"), (PySem.Str.ofString "_law_beyond"), (PySem.Str.ofString "_law_refused"), (PySem.Str.ofString "_law_bounds"), (PySem.Str.ofString "_law_later")]
theorem names_ok : namesOk sta.flds = true := by decide +kernel
theorem sta_ok : staOk sta RR.prog = true := by kernel_rfl
end L01
set_option maxHeartbeats 0
namespace L01
open PySem PySem.Spec PyProof.Rows L2 Tw
abbrev R : PySem.W.OpenRow := PySem.W.OpenLaw.row RR
def ex (K : PySem.W.Frag) : Bool := exT sta names_ok RR.prog K
abbrev hk : PySem.W.Hook := hookV 5 sta.fns ex
def ob (s : PySem.W.SharedT) : AlV := obsV 5 sta.fns ex (HandSHeadRun.getT s)
theorem ob_eq (s : PySem.W.SharedT) : ob s = hk.obs s.abs := obsV_eq (HandSHeadRun.getT_eq s)
theorem run (w : World) : HandSHeadRun.RunEqI R (PySem.W.view R.prog [0, 42]) hk ob 20000 loose w := by
  unfold HandSHeadRun.RunEqI
  kernel_rfl
end L01
set_option maxHeartbeats 0
namespace L01
open PySem PySem.Spec PyProof.Rows L2 Tw
def LAW : Nat := 44
/-- what is left to plain reckoning -/
def LawOk : Prop := ∀ ns : List Int, ns.length ≤ 63 → (∀ z ∈ ns, Builtin.Int.intBits z ≤ 1048576) → ∃ os', callN sta.T sta.ft 12 LAW [.val (.kls (ns.map .int))] = .ok (.val (.bl true)) os'
theorem facts (law_ok : LawOk) {w : World} {mg : Str → Option Value} {fa : Addr} {h : Heap} (Y : hk.says w h) (G : h.Ns mainGlobals mg) (hmg : mg ("law" : Str) = some (.ref fa)) :
    ∃ (K : PySem.W.Frag) (fd : FuncData) (sp : Sp), K.In h ∧ (∀ (s : Shared) (u : Value), BindsTo s fd ⟨[u], []⟩ [("script", u)]) ∧
      (∀ (H : Hp) (a : Addr) (ns : List Int), ns.length ≤ 63 → (∀ z ∈ ns, Builtin.Int.intBits z ≤ 1048576) → SqL K H a (ns.map V.int) → sp [.ref a] H (fun v _ => v = .bl true) fun _ _ _ => False) ∧ ∀ base : Heap, FnOk RR.prog w K mg base (L2.CX RR.prog w) 25 fa fd ["script"] sp := by
  obtain ⟨K, KX, sd, hex⟩ := Y
  obtain ⟨fd, hb, hF⟩ := law_facts (w := w) names_ok KX G hex sta_ok sd (f := LAW) (e := ⟨(.glo (PySem.Str.ofString "law")), (PySem.Str.ofString "law"), (PySem.Str.ofString "law"), top 42, [(PySem.Str.ofString "script"), (PySem.Str.ofString "pool"), (PySem.Str.ofString "one"), (PySem.Str.ofString "two"), (PySem.Str.ofString "k"), (PySem.Str.ofString "a"), (PySem.Str.ofString "b"), (PySem.Str.ofString "zero")], [], d_f_law⟩) (x := "script") (y := "law") (by kernel_rfl) (by kernel_rfl) (by kernel_rfl) (by kernel_rfl) (by kernel_rfl) hmg 11
  exact ⟨K, fd, _, KX, hb, fun H a ns h1 h2 hS => law_sp hS (law_ok ns h1 h2), hF⟩
end L01
section
open PySem PySem.W PySem.Calls PyProof.Rows
theorem L01.whole (law_ok : L01.LawOk) : PySem.Challenge.rw_roottower_k01_fracs_are_exact.Holds := by
  w_on; o_law
  refine HandSHeadRun.head_imp (r := OpenLaw.row PySem.Challenge.rw_roottower_k01_fracs_are_exact) (q := view (OpenLaw.row PySem.Challenge.rw_roottower_k01_fracs_are_exact).prog [0, 42]) (H := L01.hk) (ob := L01.ob) (M := 20000) (loose := L01.loose) (d := HandSHeadRun.topDef (OpenLaw.row PySem.Challenge.rw_roottower_k01_fracs_are_exact).prog 42) (kwd := []) L01.ob_eq
    L01.run (by kernel_rfl) (by kernel_rfl) (by kernel_rfl) (by rfl) (by first | assumption | decide +kernel) (by decide +kernel) ⟨rfl, rfl, rfl, rfl, rfl, by decide +kernel⟩ ?hw ?hc
  case hw => w_witness2
  case hc =>
    refine Tw.walk_tw (l := PySem.Challenge.rw_roottower_k01_fracs_are_exact) (n := 63) (k := 25) (x := "script") rfl (by decide) (by kernel_rfl) ⟨rfl, by decide, by decide⟩ ?F
    intro w mg fa h Y G hmg0
    have hmg : mg ("law" : PySem.Str) = some (.ref fa) := by
      have e : (HandSHeadRun.topDef (OpenLaw.row PySem.Challenge.rw_roottower_k01_fracs_are_exact).prog 42).name = ("law" : PySem.Str) := by kernel_rfl
      rw [← e]
      exact hmg0
    exact L01.facts law_ok Y G hmg
end
set_option maxHeartbeats 4000000
/-! The tree walk, part 29: reckoning with it. -/
namespace Tw
open PySem PySem.Spec PyProof.Rows L2 Evl
/-! ### while -/
section
variable {t : M Bool} {b : M Fl} {n m : Nat} {τ τ1 τ2 : Sto} {r r' : R Fl}
theorem WhR.det (h : WhR t b n τ r) : ∀ {m r'}, WhR t b m τ r' → r = r' := by
  induction h with
  | stop e =>
    intro m r' h'
    cases h' with
    | stop e' => rw [e] at e'; cases e'; rfl
    | next e' _ _ => rw [e] at e'; cases e'
    | cont e' _ _ => rw [e] at e'; cases e'
    | brk e' _ => rw [e] at e'; cases e'
    | ret e' _ => rw [e] at e'; cases e'
    | ext e' => rw [e] at e'; cases e'
    | exb e' _ => rw [e] at e'; cases e'
  | next e f _ ih =>
    intro m r' h'
    cases h' with
    | stop e' => rw [e] at e'; cases e'
    | next e' f' h2 => rw [e] at e'; cases e'; rw [f] at f'; cases f'; exact ih h2
    | cont e' f' _ => rw [e] at e'; cases e'; rw [f] at f'; cases f'
    | brk e' f' => rw [e] at e'; cases e'; rw [f] at f'; cases f'
    | ret e' f' => rw [e] at e'; cases e'; rw [f] at f'; cases f'
    | ext e' => rw [e] at e'; cases e'
    | exb e' f' => rw [e] at e'; cases e'; rw [f] at f'; cases f'
  | cont e f _ ih =>
    intro m r' h'
    cases h' with
    | stop e' => rw [e] at e'; cases e'
    | next e' f' _ => rw [e] at e'; cases e'; rw [f] at f'; cases f'
    | cont e' f' h2 => rw [e] at e'; cases e'; rw [f] at f'; cases f'; exact ih h2
    | brk e' f' => rw [e] at e'; cases e'; rw [f] at f'; cases f'
    | ret e' f' => rw [e] at e'; cases e'; rw [f] at f'; cases f'
    | ext e' => rw [e] at e'; cases e'
    | exb e' f' => rw [e] at e'; cases e'; rw [f] at f'; cases f'
  | brk e f =>
    intro m r' h'
    cases h' with
    | stop e' => rw [e] at e'; cases e'
    | next e' f' _ => rw [e] at e'; cases e'; rw [f] at f'; cases f'
    | cont e' f' _ => rw [e] at e'; cases e'; rw [f] at f'; cases f'
    | brk e' f' => rw [e] at e'; cases e'; rw [f] at f'; cases f'; rfl
    | ret e' f' => rw [e] at e'; cases e'; rw [f] at f'; cases f'
    | ext e' => rw [e] at e'; cases e'
    | exb e' f' => rw [e] at e'; cases e'; rw [f] at f'; cases f'
  | ret e f =>
    intro m r' h'
    cases h' with
    | stop e' => rw [e] at e'; cases e'
    | next e' f' _ => rw [e] at e'; cases e'; rw [f] at f'; cases f'
    | cont e' f' _ => rw [e] at e'; cases e'; rw [f] at f'; cases f'
    | brk e' f' => rw [e] at e'; cases e'; rw [f] at f'; cases f'
    | ret e' f' => rw [e] at e'; cases e'; rw [f] at f'; cases f'; rfl
    | ext e' => rw [e] at e'; cases e'
    | exb e' f' => rw [e] at e'; cases e'; rw [f] at f'; cases f'
  | ext e =>
    intro m r' h'
    cases h' with
    | stop e' => rw [e] at e'; cases e'
    | next e' _ _ => rw [e] at e'; cases e'
    | cont e' _ _ => rw [e] at e'; cases e'
    | brk e' _ => rw [e] at e'; cases e'
    | ret e' _ => rw [e] at e'; cases e'
    | ext e' => rw [e] at e'; cases e'; rfl
    | exb e' _ => rw [e] at e'; cases e'
  | exb e f =>
    intro m r' h'
    cases h' with
    | stop e' => rw [e] at e'; cases e'
    | next e' f' _ => rw [e] at e'; cases e'; rw [f] at f'; cases f'
    | cont e' f' _ => rw [e] at e'; cases e'; rw [f] at f'; cases f'
    | brk e' f' => rw [e] at e'; cases e'; rw [f] at f'; cases f'
    | ret e' f' => rw [e] at e'; cases e'; rw [f] at f'; cases f'
    | ext e' => rw [e] at e'; cases e'
    | exb e' f' => rw [e] at e'; cases e'; rw [f] at f'; cases f'; rfl
theorem whl_of (h : WhR t b n τ r) : whl t b τ = r := by
  unfold whl
  have hx : ∃ r n, WhR t b n τ r := ⟨r, n, h⟩
  rw [dif_pos hx]
  obtain ⟨m, hm⟩ := Classical.choose_spec hx
  exact hm.det h
theorem whl_stop (e : t τ = .ok false τ1) : whl t b τ = .ok .nx τ1 := whl_of (n := 0) (.stop e)
theorem whl_brk (e : t τ = .ok true τ1) (f : b τ1 = .ok .bk τ2) : whl t b τ = .ok .nx τ2 := whl_of (n := 0) (.brk e f)
theorem whl_ret {o : O} (e : t τ = .ok true τ1) (f : b τ1 = .ok (.rt o) τ2) : whl t b τ = .ok (.rt o) τ2 := whl_of (n := 0) (.ret e f)
theorem whl_next (e : t τ = .ok true τ1) (f : b τ1 = .ok .nx τ2) : whl t b τ = whl t b τ2 := by
  by_cases hx : ∃ r n, WhR t b n τ2 r
  · obtain ⟨r, n, h⟩ := hx
    rw [whl_of h, whl_of (.next e f h)]
  · have hy : ¬ ∃ r n, WhR t b n τ r := by
      rintro ⟨r, n, h⟩
      refine hx ?_
      cases h with
      | stop e' => rw [e] at e'; cases e'
      | next e' f' h2 => rw [e] at e'; cases e'; rw [f] at f'; cases f'; exact ⟨_, _, h2⟩
      | cont e' f' _ => rw [e] at e'; cases e'; rw [f] at f'; cases f'
      | brk e' f' => rw [e] at e'; cases e'; rw [f] at f'; cases f'
      | ret e' f' => rw [e] at e'; cases e'; rw [f] at f'; cases f'
      | ext e' => rw [e] at e'; cases e'
      | exb e' f' => rw [e] at e'; cases e'; rw [f] at f'; cases f'
    unfold whl
    rw [dif_neg hx, dif_neg hy]
end
/-! ### calls -/
theorem callN_eq {T : Tb} {ft : Nat → Option FD} {k f : Nat} {fd : FD} {os : List O} (h : ft f = some fd) : callN T ft (k + 1) f os = runF T (callN T ft k) fd os := by
  simp only [callN, h]
/-! ### comprehensions -/
theorem compM_map {tg ow : List Nat} {c : M Bool} {e : M D} {τ : Sto} {p : D → Bool} {g : D → D} : ∀ {ds acc : List D}, (∀ d ∈ ds, ∃ τ1 τ2, setTg τ tg d = some τ1 ∧ c τ1 = .ok (p d) τ2 ∧ (p d = false → wipeS τ2 ow = τ) ∧ (p d = true → ∃ τ3, e τ2 = .ok (g d) τ3 ∧ wipeS τ3 ow = τ)) →
    acc.length + ds.length ≤ lim → compM tg ow c e ds acc τ = .ok (acc ++ (ds.filter p).map g) τ
  | [], acc, _, _ => by
    simp only [compM, List.filter_nil, List.map_nil, List.append_nil]
  | d :: ds, acc, h, hl => by
    obtain ⟨τ1, τ2, h1, h2, h3, h4⟩ := h d List.mem_cons_self
    have hl' : acc.length < lim := by
      simp only [List.length_cons] at hl
      omega
    simp only [compM, h1, h2]
    cases q : p d with
    | false =>
      simp only
      rw [h3 q, compM_map (fun d' hd => h d' (List.mem_cons_of_mem _ hd)) (by simp only [List.length_cons] at hl; omega), List.filter_cons, q]
      simp
    | true =>
      obtain ⟨τ3, h5, h6⟩ := h4 q
      simp only [h5, hl', if_true]
      rw [h6, compM_map (fun d' hd => h d' (List.mem_cons_of_mem _ hd)) (by simp only [List.length_append, List.length_cons, List.length_nil] at hl ⊢; omega), List.filter_cons, q]
      simp
/-! ### whole numbers of a range, of a place (their bounds are kept away from simp: it reckons with the literals) -/
section
variable {T : Tb} {cl : CallT} {cur : Option (CallT × Bool)}
theorem intM_ok {m : M Rv} {τ τ' : Sto} {r : Rv} {i : Int} (h : opd m τ = .ok r τ') (hr : res τ' r = some (.val (.int i))) (h1 : -(2 ^ 62) < i) (h2 : i < 2 ^ 62) : intM m τ = .ok i τ' := by
  unfold intM bnd
  rw [h]
  simp only []
  rw [hr]
  simp only []
  rw [if_pos ⟨h1, h2⟩]
theorem rng1_ok {a : E} {τ τ' : Sto} {n : Int} (h : intM (dn T cl cur a).1 τ = .ok n τ') : dnI T cl cur (.rng1 a) τ = .ok (rngL 0 n) τ' := by
  unfold dnI bnd
  rw [h]
theorem rng2_ok {a b : E} {τ τ' τ2 : Sto} {l n : Int} (h : intM (dn T cl cur a).1 τ = .ok l τ') (h2 : intM (dn T cl cur b).1 τ' = .ok n τ2) : dnI T cl cur (.rng2 a b) τ = .ok (rngL l n) τ2 := by
  unfold dnI bnd
  rw [h]
  simp only []
  rw [h2]
end
section
variable {T : Tb} {cl : CallT} {cur : Option (CallT × Bool)}
theorem comp_ok {ow tg : List Nat} {it : It} {cd el : E} {τ τ1 τ2 : Sto} {ds os : List D} (h1 : dnI T cl cur it τ = .ok ds τ1) (h2 : compM tg ow (dn T cl cur cd).2 (ownD (dn T cl cur el).1) ds [] (wipeS τ1 ow) = .ok os τ2) :
    (dn T cl cur (.comp ow it tg cd el)).1 τ = .ok (.own (.lst (os.map .val))) (restS τ2 τ1 ow) := by
  simp only [dn]
  unfold bnd
  rw [h1]
  simp only []
  rw [h2]
theorem own_ok {m : M Rv} {τ τ1 : Sto} {o : O} (h : m τ = .ok (.own o) τ1) : own m τ = .ok o τ1 := by
  unfold own bnd
  rw [h]
theorem ret_ok {e : E} {τ τ1 : Sto} {o : O} (h : own (dn T cl cur e).1 τ = .ok o τ1) : dnS T cl cur (.ret e) τ = .ok (.rt o) τ1 := by
  simp only [dnS]
  unfold bnd
  rw [show own (Tw.ev T cl cur e) τ = .ok o τ1 from h]
theorem asg_ok {e : E} {i : Nat} {τ τ1 : Sto} {o : O} (h : own (dn T cl cur e).1 τ = .ok o τ1) (hi : i < τ1.length) : dnS T cl cur (.asg i e) τ = .ok .nx (τ1.set i (some o)) := by
  simp only [dnS]
  unfold bnd
  rw [show own (Tw.ev T cl cur e) τ = .ok o τ1 from h]
  simp only [put, hi, if_true]
theorem cons_ok {s : S} {b : B} {τ τ1 : Sto} (h : dnS T cl cur s τ = .ok .nx τ1) : dnB T cl cur (.cons s b) τ = dnB T cl cur b τ1 := by
  simp only [dnB]
  unfold seq2
  rw [h]
theorem cons_rt {s : S} {b : B} {τ τ1 : Sto} {o : O} (h : dnS T cl cur s τ = .ok (.rt o) τ1) : dnB T cl cur (.cons s b) τ = .ok (.rt o) τ1 := by
  simp only [dnB]
  unfold seq2
  rw [h]
theorem cons_ex {s : S} {b : B} {τ τ1 : Sto} {x : Exn} (h : dnS T cl cur s τ = .ex x τ1) : dnB T cl cur (.cons s b) τ = .ex x τ1 := by
  simp only [dnB]
  unfold seq2
  rw [h]
theorem run_ok {fd : FD} {os os' : List O} {o : O} {τ : Sto} (hh : fd.hot = false) (hl : os.length = fd.np) (ho : ownOk fd.own 0 os = true) (h : dnB T cl none fd.body (os.map some ++ List.replicate (fd.nn - fd.np) none) = .ok (.rt o) τ) (hf : fins τ 0 os = some os') : runF T cl fd os = .ok o os' := by
  unfold runF
  rw [if_pos ⟨hl, ho⟩, hh]
  simp only [Bool.false_eq_true, if_false]
  rw [h]
  simp only []
  rw [hf]
theorem run_ex {fd : FD} {os os' : List O} {x : Exn} {τ : Sto} (hh : fd.hot = false) (hl : os.length = fd.np) (ho : ownOk fd.own 0 os = true) (h : dnB T cl none fd.body (os.map some ++ List.replicate (fd.nn - fd.np) none) = .ex x τ) (hf : fins τ 0 os = some os') : runF T cl fd os = .ex x os' := by
  unfold runF
  rw [if_pos ⟨hl, ho⟩, hh]
  simp only [Bool.false_eq_true, if_false]
  rw [h]
  simp only []
  rw [hf]
theorem whl_S {t : E} {b : B} : dnS T cl cur (.whl t b) = whl (dn T cl cur t).2 (dnB T cl cur b) := by simp only [dnS]
theorem ite_t {t : E} {a b : B} {τ τ1 : Sto} (h : (dn T cl cur t).2 τ = .ok true τ1) : dnS T cl cur (.ite t a b) τ = dnB T cl cur a τ1 := by
  simp only [dnS]
  unfold bnd
  rw [show tst T cl cur t τ = .ok true τ1 from h]
theorem ite_f {t : E} {a b : B} {τ τ1 : Sto} (h : (dn T cl cur t).2 τ = .ok false τ1) : dnS T cl cur (.ite t a b) τ = dnB T cl cur b τ1 := by
  simp only [dnS]
  unfold bnd
  rw [show tst T cl cur t τ = .ok false τ1 from h]
end
section
variable {T : Tb} {cl : CallT} {cur : Option (CallT × Bool)}
theorem seq_ok {a : E} {τ τ1 : Sto} {o : O} {ds : List D} (h : own (dn T cl cur a).1 τ = .ok o τ1) (hi : items o = some ds) : dnI T cl cur (.seq a) τ = .ok ds τ1 := by
  unfold dnI walk bnd
  rw [h]
  simp only []
  rw [hi]
theorem for_seq {a : E} {tg : List Nat} {b : B} {τ τ1 : Sto} {ds : List D} (h : dnI T cl cur (.seq a) τ = .ok ds τ1) : dnS T cl cur (.for (.seq a) tg b) τ = forM tg (dnB T cl cur b) ds τ1 := by
  simp only [dnS]
  unfold bnd
  rw [h]
theorem for_rng1 {a : E} {tg : List Nat} {b : B} {τ τ1 : Sto} {ds : List D} (h : dnI T cl cur (.rng1 a) τ = .ok ds τ1) : dnS T cl cur (.for (.rng1 a) tg b) τ = forM tg (dnB T cl cur b) ds τ1 := by
  simp only [dnS]
  unfold bnd
  rw [h]
theorem for_rng2 {a c : E} {tg : List Nat} {b : B} {τ τ1 : Sto} {ds : List D} (h : dnI T cl cur (.rng2 a c) τ = .ok ds τ1) : dnS T cl cur (.for (.rng2 a c) tg b) τ = forM tg (dnB T cl cur b) ds τ1 := by
  simp only [dnS]
  unfold bnd
  rw [h]
theorem for_bor {i : Nat} {tg : List Nat} {b : B} : dnS T cl cur (.for (.bor i) tg b) = borM i tg (dnB T cl cur b) := by simp only [dnS]
theorem forM_nx {tg : List Nat} {m : M Fl} {d : D} {ds : List D} {τ τ1 τ2 : Sto} (h : setTg τ tg d = some τ1) (hb : m τ1 = .ok .nx τ2) : forM tg m (d :: ds) τ = forM tg m ds τ2 := by
  simp only [forM, h, hb]
theorem forM_rt {tg : List Nat} {m : M Fl} {d : D} {ds : List D} {τ τ1 τ2 : Sto} {o : O} (h : setTg τ tg d = some τ1) (hb : m τ1 = .ok (.rt o) τ2) : forM tg m (d :: ds) τ = .ok (.rt o) τ2 := by
  simp only [forM, h, hb]
theorem forM_nil {tg : List Nat} {m : M Fl} {τ : Sto} : forM tg m [] τ = .ok .nx τ := rfl
end
section
variable {T : Tb} {cl : CallT} {cur : Option (CallT × Bool)}
theorem setI_ok {i : Nat} {ix e : E} {τ τ1 τ2 : Sto} {o : O} {k : Int} {os : List O} {a' : O} (h1 : own (dn T cl cur e).1 τ = .ok o τ1) (h2 : τ1[i]? = some (some (.lst os))) (h3 : intM (dn T cl cur ix).1 τ1 = .ok k τ2) (h4 : τ2[i]? = some (some (.lst os))) (h5 : setIF (.lst os) k o = some a') :
    dnS T cl cur (.setI i ix e) τ = .ok .nx (τ2.set i (some a')) := by
  simp only [dnS]
  unfold bnd
  rw [show own (Tw.ev T cl cur e) τ = .ok o τ1 from h1]
  have h6 : lstSlot τ1 i = true := by unfold lstSlot; rw [h2]
  simp only [h6, if_true]
  rw [show intM (Tw.ev T cl cur ix) τ1 = .ok k τ2 from h3]
  simp only []
  unfold onSlot
  rw [h4]
  simp only []
  rw [h5]
theorem atI_nat {α : Type} {xs : List α} {i : Nat} (h : i < xs.length) : L2.atI xs (i : Int) = some xs[i] := by
  unfold L2.atI L2.ixN
  rw [if_pos (by omega), if_pos (by omega)]
  simp [h]
theorem atI_last {α : Type} {xs : List α} (h : 0 < xs.length) : L2.atI xs (-1) = some (xs[xs.length - 1]'(by omega)) := by
  unfold L2.atI L2.ixN
  rw [if_neg (by decide), if_pos (by omega)]
  have e : ((-1 : Int) + (xs.length : Int)).toNat = xs.length - 1 := by omega
  simp [e, h]
theorem ixN_nat {n i : Nat} (h : i < n) : L2.ixN n (i : Int) = some i := by
  unfold L2.ixN
  rw [if_pos (by omega), if_pos (by omega)]
  simp
theorem ixN_last {n : Nat} (h : 0 < n) : L2.ixN n (-1) = some (n - 1) := by
  unfold L2.ixN
  rw [if_neg (by decide), if_pos (by omega)]
  congr 1
  omega
theorem rngL_cons {lo hi : Int} (h : lo < hi) : rngL lo hi = .int lo :: rngL (lo + 1) hi := by
  unfold rngL
  obtain ⟨m, hm⟩ : ∃ m, (hi - lo).toNat = m + 1 := ⟨(hi - lo).toNat - 1, by omega⟩
  have hm2 : (hi - (lo + 1)).toNat = m := by omega
  rw [hm, hm2, List.range_succ_eq_map, List.map_cons, List.map_map]
  congr 1
  · simp
  · apply List.map_congr_left
    intro x _
    show D.int (lo + ((x + 1 : Nat) : Int)) = D.int (lo + 1 + (x : Int))
    congr 1
    omega
theorem rngL_end {lo hi : Int} (h : hi ≤ lo) : rngL lo hi = [] := by
  unfold rngL
  rw [show (hi - lo).toNat = 0 from by omega]
  rfl
end
end Tw
set_option maxHeartbeats 4000000
/-! The tree walk, part 30: what a run ends in, rule by rule. -/
namespace Tw
open PySem PySem.Spec PyProof.Rows L2 Evl
abbrev vi (n : Int) : O := .val (.int n)
abbrev vb (b : Bool) : O := .val (.bl b)
def wp {α : Type} (r : R α) (Q : α → Sto → Prop) (X : Exn → Sto → Prop) : Prop := match r with
  | .ok a τ => Q a τ
  | .ex x τ => X x τ
  | .bad => False
def wf (r : RF) (Q : O → List O → Prop) (X : Exn → List O → Prop) : Prop := match r with
  | .ok o os => Q o os
  | .ex x os => X x os
  | .bad => False
/-- nothing is raised -/
def nox {α : Type} : Exn → α → Prop := fun _ _ => False
theorem wf_ok {r : RF} {o : O} {os : List O} {Q : O → List O → Prop} {X : Exn → List O → Prop} (h : r = .ok o os) (q : Q o os) : wf r Q X := by rw [h]; exact q
theorem wf_ex {r : RF} {x : Exn} {os : List O} {Q : O → List O → Prop} {X : Exn → List O → Prop} (h : r = .ex x os) (q : X x os) : wf r Q X := by rw [h]; exact q
theorem wf_mono {r : RF} {Q Q' : O → List O → Prop} {X X' : Exn → List O → Prop} (h : wf r Q X) (hq : ∀ o os, Q o os → Q' o os) (hx : ∀ x os, X x os → X' x os) : wf r Q' X' := by
  cases r with
  | ok o os => exact hq _ _ h
  | ex x os => exact hx _ _ h
  | bad => exact h
theorem wp_mono {α : Type} {r : R α} {Q Q' : α → Sto → Prop} {X X' : Exn → Sto → Prop} (h : wp r Q X) (hq : ∀ o os, Q o os → Q' o os) (hx : ∀ x os, X x os → X' x os) : wp r Q' X' := by
  cases r with
  | ok o os => exact hq _ _ h
  | ex x os => exact hx _ _ h
  | bad => exact h
theorem wp_bnd {α β : Type} {m : M α} {f : α → M β} {τ : Sto} {Q : β → Sto → Prop} {X : Exn → Sto → Prop} (h : wp (m τ) (fun a τ' => wp (f a τ') Q X) X) : wp (bnd m f τ) Q X := by
  unfold bnd
  cases e : m τ with
  | ok a τ' => rw [e] at h; exact h
  | ex x τ' => rw [e] at h; exact h
  | bad => rw [e] at h; exact h
theorem wf_is {r : RF} {P : O → List O → Prop} (h : wf r P nox) : ∃ o os, r = .ok o os ∧ P o os := by
  cases r with
  | ok o os => exact ⟨o, os, rfl, h⟩
  | ex x os => exact h.elim
  | bad => exact h.elim
/-- an int of at most n binary digits -/
def Bd (n : Nat) (x : Int) : Prop := x.natAbs < 2 ^ n
theorem Bd.log {n : Nat} {x : Int} (h : Bd n x) : x.natAbs.log2 ≤ n := by
  unfold Bd at h
  by_cases z : x.natAbs = 0
  · rw [z]; exact Nat.zero_le _
  · exact Nat.le_of_lt ((Nat.log2_lt z).mpr h)
theorem Bd.mono {n m : Nat} {x : Int} (h : Bd n x) (hm : n ≤ m) : Bd m x := Nat.lt_of_lt_of_le h (Nat.pow_le_pow_right (by decide) hm)
theorem Bd.mul {n m : Nat} {x y : Int} (h : Bd n x) (h' : Bd m y) : Bd (n + m) (x * y) := by
  unfold Bd at *
  rw [Int.natAbs_mul, Nat.pow_add]
  exact Nat.mul_lt_mul'' h h'
theorem Bd.add {n m : Nat} {x y : Int} (h : Bd n x) (h' : Bd m y) : Bd (max n m + 1) (x + y) := by
  have a := h.mono (Nat.le_max_left n m)
  have b := h'.mono (Nat.le_max_right n m)
  unfold Bd at *
  rw [Nat.pow_succ]
  omega
theorem Bd.neg {n : Nat} {x : Int} (h : Bd n x) : Bd n (-x) := by
  unfold Bd at *
  rw [Int.natAbs_neg]
  exact h
theorem Bd.sub {n m : Nat} {x y : Int} (h : Bd n x) (h' : Bd m y) : Bd (max n m + 1) (x - y) := by
  rw [Int.sub_eq_add_neg]
  exact h.add h'.neg
theorem Bd.le {n : Nat} {x y : Int} (h : Bd n y) (h0 : 0 ≤ x) (h1 : x ≤ y) : Bd n x := by
  unfold Bd at *
  omega
theorem Bd.lt {n : Nat} {x y : Int} (h : Bd n y) (h0 : 0 ≤ x) (h1 : x < y) : Bd n x := h.le h0 (Int.le_of_lt h1)
theorem Bd.abs {n : Nat} {x : Int} (h : Bd n x) : Bd n (x.natAbs : Int) := by
  unfold Bd at *
  rw [Int.natAbs_natCast]
  exact h
theorem Bd.div {n : Nat} {x y : Int} (h : Bd n x) (hy : 0 < y) : Bd n (x / y) := by
  unfold Bd at *
  refine Nat.lt_of_le_of_lt ?_ h
  have := Int.natAbs_ediv_le_natAbs x y
  omega
theorem Bd.mod {n : Nat} {x y : Int} (h : Bd n y) (hy : 0 < y) : Bd n (x % y) := h.lt (Int.emod_nonneg _ (by omega)) (Int.emod_lt_of_pos _ hy)
theorem Bd.nat {n k : Nat} (h : k < 2 ^ n) : Bd n (k : Int) := by
  unfold Bd
  rw [Int.natAbs_natCast]
  exact h
/-- a test's two ways -/
def Br (k : Bool) (A B : Prop) : Prop := (k = true → A) ∧ (k = false → B)
theorem Br.t {A B : Prop} (h : A) : Br true A B := ⟨fun _ => h, fun e => (by cases e)⟩
theorem Br.f {A B : Prop} (h : B) : Br false A B := ⟨fun e => (by cases e), fun _ => h⟩
theorem Br.dec {A B c : Prop} [Decidable c] (h : c → A) (h' : ¬c → B) : Br (decide c) A B := ⟨fun e => h (of_decide_eq_true e), fun e => h' (of_decide_eq_false e)⟩
theorem Br.not {A B : Prop} {k : Bool} (h : Br k B A) : Br (!k) A B := by
  cases k with
  | true => exact ⟨fun e => (by cases e), fun _ => h.1 rfl⟩
  | false => exact ⟨fun _ => h.2 rfl, fun e => (by cases e)⟩
theorem Br.any {A B : Prop} {k : Bool} (h : k = true → A) (h' : k = false → B) : Br k A B := ⟨h, h'⟩
section
variable (T : Tb) (cl : CallT) (cur : Option (CallT × Bool))
def Wo (e : E) (τ : Sto) (Q : O → Sto → Prop) (X : Exn → Sto → Prop) : Prop := wp ((dn T cl cur e).1 τ) (fun r τ' => ∃ o, r = .own o ∧ Q o τ') X
def Wv (e : E) (τ : Sto) (Q : Rv → Sto → Prop) (X : Exn → Sto → Prop) : Prop := wp (opd (dn T cl cur e).1 τ) Q X
def Ww (e : E) (τ : Sto) (Q : O → Sto → Prop) (X : Exn → Sto → Prop) : Prop := wp (own (dn T cl cur e).1 τ) Q X
def Wd (e : E) (τ : Sto) (Q : D → Sto → Prop) (X : Exn → Sto → Prop) : Prop := wp (ownD (dn T cl cur e).1 τ) Q X
def Wt (e : E) (τ : Sto) (Q : Bool → Sto → Prop) (X : Exn → Sto → Prop) : Prop := wp ((dn T cl cur e).2 τ) Q X
def Wi (e : E) (τ : Sto) (Q : Int → Sto → Prop) (X : Exn → Sto → Prop) : Prop := wp (intM (dn T cl cur e).1 τ) Q X
def Ws (es : Es) (τ : Sto) (Q : List Rv → Sto → Prop) (X : Exn → Sto → Prop) : Prop := wp (dns T cl cur es τ) Q X
def Wk (es : Es) (τ : Sto) (Q : List D → Sto → Prop) (X : Exn → Sto → Prop) : Prop := wp (dnk T cl cur es τ) Q X
def WI (it : It) (τ : Sto) (Q : List D → Sto → Prop) (X : Exn → Sto → Prop) : Prop := wp (dnI T cl cur it τ) Q X
def WS (s : S) (τ : Sto) (Q : Fl → Sto → Prop) (X : Exn → Sto → Prop) : Prop := wp (dnS T cl cur s τ) Q X
def WB (b : B) (τ : Sto) (Q : Fl → Sto → Prop) (X : Exn → Sto → Prop) : Prop := wp (dnB T cl cur b τ) Q X
def Wbin (op : Op) (x y : Rv) (τ : Sto) (Q : O → Sto → Prop) (X : Exn → Sto → Prop) : Prop := wp (doBin T cl op x y τ) (fun r τ' => ∃ o, r = .own o ∧ Q o τ') X
def Wcmp (op : Cm) (x y : Rv) (τ : Sto) (Q : Bool → Sto → Prop) (X : Exn → Sto → Prop) : Prop := wp (doCmp T cl op x y τ) (fun r τ' => ∃ b, r = .own (vb b) ∧ Q b τ') X
def Wcall (f : Nat) (rs : List Rv) (τ : Sto) (Q : O → Sto → Prop) (X : Exn → Sto → Prop) : Prop := wp (doCall cl f rs τ) (fun r τ' => ∃ o, r = .own o ∧ Q o τ') X
def Wfor (tg : List Nat) (b : B) (ds : List D) (τ : Sto) (Q : Fl → Sto → Prop) (X : Exn → Sto → Prop) : Prop := wp (forM tg (dnB T cl cur b) ds τ) Q X
end
section
variable {T : Tb} {cl : CallT} {cur : Option (CallT × Bool)} {τ τ1 : Sto} {X : Exn → Sto → Prop}
/-! ### the kinds of reading -/
theorem Wv.of {e : E} {Q : Rv → Sto → Prop} (h : Wo T cl cur e τ (fun o τ' => Q (.own (.val (frz o))) τ') X) : Wv T cl cur e τ Q X := by
  unfold Wv opd
  refine wp_bnd (wp_mono h ?_ fun _ _ h => h)
  rintro _ _ ⟨o, rfl, h⟩
  exact h
theorem Ww.of {e : E} {Q : O → Sto → Prop} (h : Wo T cl cur e τ Q X) : Ww T cl cur e τ Q X := by
  unfold Ww own
  refine wp_bnd (wp_mono h ?_ fun _ _ h => h)
  rintro _ _ ⟨o, rfl, h⟩
  exact h
theorem Wd.of {e : E} {Q : D → Sto → Prop} (h : Ww T cl cur e τ (fun o τ' => Q (frz o) τ') X) : Wd T cl cur e τ Q X := wp_bnd (wp_mono h (fun _ _ h => h) fun _ _ h => h)
theorem Wi.of {e : E} {Q : Int → Sto → Prop} (h : Wv T cl cur e τ (fun r τ' => ∃ i, res τ' r = some (vi i) ∧ -4611686018427387904 < i ∧ i < 4611686018427387904 ∧ Q i τ') X) : Wi T cl cur e τ Q X := by
  unfold Wi intM
  refine wp_bnd (wp_mono h ?_ fun _ _ h => h)
  rintro r τ' ⟨i, e1, e2, e3, q⟩
  rw [e1]
  simp only []
  rw [if_pos ⟨by simpa using e2, by simpa using e3⟩]
  exact q
theorem Wv.var {i : Nat} {o : O} {Q : Rv → Sto → Prop} (h : τ[i]? = some (some o)) (q : Q (.slot i) τ) : Wv T cl cur (.var i) τ Q X := by
  unfold Wv opd
  simp only [dn]
  unfold bnd
  simp only [h]
  exact q
theorem Ww.var {i : Nat} {o : O} {Q : O → Sto → Prop} (h : τ[i]? = some (some o)) (q : Q (.val (frz o)) (τ.set i (some (.val (frz o))))) : Ww T cl cur (.var i) τ Q X := by
  unfold Ww own
  simp only [dn]
  unfold bnd
  simp only [h]
  exact q
theorem Ww.mov {i : Nat} {o : O} {Q : O → Sto → Prop} (h : τ[i]? = some (some o)) (q : Q o (τ.set i none)) : Ww T cl cur (.mov i) τ Q X := by
  unfold Ww own
  simp only [dn]
  unfold bnd
  simp only [h]
  exact q
theorem Wo.fv {i : Nat} {o : O} {Q : O → Sto → Prop} (h : τ[i]? = some (some o)) (q : Q (.val (frz o)) (τ.set i (some (.val (frz o))))) : Wo T cl cur (.fv i) τ Q X := by
  unfold Wo
  simp only [dn]
  rw [h]
  exact ⟨_, rfl, q⟩
theorem Wt.var {i : Nat} {o : O} {b : Bool} {Q : Bool → Sto → Prop} (h : τ[i]? = some (some o)) (hb : truF o = some b) (q : Q b τ) : Wt T cl cur (.var i) τ Q X := by
  unfold Wt
  simp only [dn]
  unfold tru bnd
  simp only [res, h, hb]
  exact q
theorem Wo.int {i : Int} {Q : O → Sto → Prop} (q : Q (vi i) τ) : Wo T cl cur (.int i) τ Q X := ⟨_, rfl, q⟩
theorem Wo.bl {i : Bool} {Q : O → Sto → Prop} (q : Q (vb i) τ) : Wo T cl cur (.bl i) τ Q X := ⟨_, rfl, q⟩
theorem Wt.bl {i : Bool} {Q : Bool → Sto → Prop} (q : Q i τ) : Wt T cl cur (.bl i) τ Q X := q
theorem Wo.non {Q : O → Sto → Prop} (q : Q (.val .non) τ) : Wo T cl cur .non τ Q X := ⟨_, rfl, q⟩
theorem Wo.str {x : Str} {Q : O → Sto → Prop} (q : Q (.val (.str x)) τ) : Wo T cl cur (.str x) τ Q X := ⟨_, rfl, q⟩
theorem Wo.con {x : Nat} {d : D} {Q : O → Sto → Prop} (h : T.con x = d) (q : Q (.val d) τ) : Wo T cl cur (.con x) τ Q X := ⟨_, rfl, by rw [h]; exact q⟩
/-! ### operations -/
theorem Wo.bin {op : Op} {a b : E} {Q : O → Sto → Prop} (h : Wv T cl cur a τ (fun x τ1 => Wv T cl cur b τ1 (fun y τ2 => Wbin T cl op x y τ2 Q X) X) X) : Wo T cl cur (.bin op a b) τ Q X := by
  unfold Wo
  simp only [dn]
  exact wp_bnd (wp_mono h (fun _ _ h => wp_bnd h) fun _ _ h => h)
theorem Wbin.gen {op : Op} {x y : Rv} {a b z : O} {Q : O → Sto → Prop} (hx : res τ x = some a) (hy : res τ y = some b) (hc : clsOf a = none) (hd : clsOf b = none) (hz : binF op a b = some z) (q : Q z τ) : Wbin T cl op x y τ Q X := by
  unfold Wbin doBin
  simp only [hx, hy, hc, hd, hz]
  exact ⟨_, rfl, q⟩
theorem Wbin.add {x y : Rv} {i j : Int} {Q : O → Sto → Prop} (hx : res τ x = some (vi i)) (hy : res τ y = some (vi j)) (q : Q (vi (i + j)) τ) : Wbin T cl .add x y τ Q X := Wbin.gen hx hy rfl rfl rfl q
theorem Wbin.sub {x y : Rv} {i j : Int} {Q : O → Sto → Prop} (hx : res τ x = some (vi i)) (hy : res τ y = some (vi j)) (q : Q (vi (i - j)) τ) : Wbin T cl .sub x y τ Q X := Wbin.gen hx hy rfl rfl rfl q
theorem Wbin.mul {x y : Rv} {i j : Int} {n m : Nat} {Q : O → Sto → Prop} (hx : res τ x = some (vi i)) (hy : res τ y = some (vi j)) (hi : Bd n i) (hj : Bd m j) (hn : n + m < 134000000) (q : Q (vi (i * j)) τ) : Wbin T cl .mul x y τ Q X :=
  Wbin.gen hx hy rfl rfl (by
    show (if i.natAbs.log2 + j.natAbs.log2 < 134000000 then some (vi (i * j)) else none) = _
    rw [if_pos]
    have := hi.log
    have := hj.log
    omega) q
theorem Wbin.fdiv {x y : Rv} {i j : Int} {n : Nat} {Q : O → Sto → Prop} (hx : res τ x = some (vi i)) (hy : res τ y = some (vi j)) (h0 : 0 < j) (hj : Bd n j) (hn : n < 9000) (q : Q (vi (i / j)) τ) : Wbin T cl .fdiv x y τ Q X :=
  Wbin.gen hx hy rfl rfl (by
    show (if 0 < j ∧ j.natAbs.log2 < 9000 then some (vi (i / j)) else if j < 0 ∧ j.natAbs.log2 < 9000 then some (vi (i.fdiv j)) else none) = _
    rw [if_pos ⟨h0, Nat.lt_of_le_of_lt hj.log hn⟩]) q
theorem Wbin.fdivN {x y : Rv} {i j : Int} {n : Nat} {Q : O → Sto → Prop} (hx : res τ x = some (vi i)) (hy : res τ y = some (vi j)) (h0 : j < 0) (hj : Bd n j) (hn : n < 9000) (q : Q (vi (i.fdiv j)) τ) : Wbin T cl .fdiv x y τ Q X :=
  Wbin.gen hx hy rfl rfl (by
    show (if 0 < j ∧ j.natAbs.log2 < 9000 then some (vi (i / j)) else if j < 0 ∧ j.natAbs.log2 < 9000 then some (vi (i.fdiv j)) else none) = _
    rw [if_neg (by omega), if_pos ⟨h0, Nat.lt_of_le_of_lt hj.log hn⟩]) q
theorem Wbin.mod {x y : Rv} {i j : Int} {Q : O → Sto → Prop} (hx : res τ x = some (vi i)) (hy : res τ y = some (vi j)) (h0 : 0 < j) (q : Q (vi (i % j)) τ) : Wbin T cl .mod x y τ Q X :=
  Wbin.gen hx hy rfl rfl (by
    show (if 0 < j then some (vi (i % j)) else none) = _
    rw [if_pos h0]) q
theorem Wbin.pow {x y : Rv} {i j z : Int} {Q : O → Sto → Prop} (hx : res τ x = some (vi i)) (hy : res τ y = some (vi j)) (h0 : 0 ≤ j ∧ j ≤ 1000 ∧ i.natAbs.log2 < 100000) (hz : i ^ j.toNat = z) (q : Q (vi z) τ) : Wbin T cl .pow x y τ Q X :=
  Wbin.gen hx hy rfl rfl (by
    show (if 0 ≤ j ∧ j ≤ 1000 ∧ i.natAbs.log2 < 100000 then some (vi (i ^ j.toNat)) else none) = _
    rw [if_pos h0, hz]) q
theorem Wbin.dun {op : Op} {x y : Rv} {a : O} {c f : Nat} {Q : O → Sto → Prop} (hx : res τ x = some a) (hc : clsOf a = some c) (hf : T.dun c op = some f) {b : O} (hy : res τ y = some b) (hk : okR c b = true) (q : Wcall cl f [x, y] τ Q X) : Wbin T cl op x y τ Q X := by
  unfold Wbin doBin
  simp only [hx, hy, hc, hf, hk]
  exact q
theorem Wbin.rdn {op : Op} {x y : Rv} {a : Int} {b : O} {c f : Nat} {Q : O → Sto → Prop} (hx : res τ x = some (vi a)) (hy : res τ y = some b) (hc : clsOf b = some c) (hf : T.rdn c op = some f) (q : Wcall cl f [y, x] τ Q X) : Wbin T cl op x y τ Q X := by
  unfold Wbin doBin
  have h1 : clsOf (vi a) = none := rfl
  have h2 : isInt (vi a) = true := rfl
  simp only [hx, hy, h1, hc, hf, h2]
  exact q
theorem Wo.neg {a : E} {Q : O → Sto → Prop} (h : Wv T cl cur a τ (fun x τ1 => ∃ i, res τ1 x = some (vi i) ∧ Q (vi (-i)) τ1) X) : Wo T cl cur (.neg a) τ Q X := by
  unfold Wo
  simp only [dn]
  refine wp_bnd (wp_mono h ?_ fun _ _ h => h)
  rintro r τ' ⟨i, e, q⟩
  unfold doNeg un
  simp only [e, clsOf]
  exact ⟨_, rfl, q⟩
/-- an operation of one operand that a class answers -/
def Wuna (T : Tb) (cl : CallT) (u : Un) (c : Nat) (r : Rv) (τ : Sto) (Q : O → Sto → Prop) (X : Exn → Sto → Prop) : Prop := wp (doUna T cl u c r τ) (fun r τ' => ∃ o, r = .own o ∧ Q o τ') X
theorem Wuna.of {u : Un} {c f : Nat} {r : Rv} {Q : O → Sto → Prop} (hf : T.una c u = some f) (q : Wcall cl f [r] τ (fun o τ' => unaOk u o = true ∧ Q o τ') X) : Wuna T cl u c r τ Q X := by
  unfold Wuna doUna
  simp only [hf]
  unfold Wcall at q
  cases e : doCall cl f [r] τ with
  | bad => rw [e] at q; exact q
  | ex x τ1 => rw [e] at q; exact q
  | ok z τ1 =>
    rw [e] at q
    obtain ⟨o, rfl, h1, h2⟩ := q
    simp only [h1, if_true]
    exact ⟨_, rfl, h2⟩
/-- - of an instance -/
theorem Wo.negO {a : E} {Q : O → Sto → Prop} (h : Wv T cl cur a τ (fun x τ1 => ∃ o c, res τ1 x = some o ∧ clsOf o = some c ∧ Wuna T cl .neg c x τ1 Q X) X) : Wo T cl cur (.neg a) τ Q X := by
  unfold Wo
  simp only [dn]
  refine wp_bnd (wp_mono h ?_ fun _ _ h => h)
  rintro r τ' ⟨o, c, e, ec, q⟩
  unfold doNeg
  simp only [e, ec]
  exact q
/-! ### comparisons -/
theorem Wcmp.gen {op : Cm} {x y : Rv} {a b : O} {k : Bool} {Q : Bool → Sto → Prop} (hx : res τ x = some a) (hy : res τ y = some b) (hc : clsOf a = none) (hd : clsOf b = none) (hz : cmpF op a b = some k) (q : Q k τ) : Wcmp T cl op x y τ Q X := by
  unfold Wcmp doCmp
  simp only [hx, hy, hc, hd, hz]
  exact ⟨_, rfl, q⟩
theorem Wcmp.deq {op : Cm} {x y : Rv} {a b : O} {c f : Nat} {Q : Bool → Sto → Prop} (hx : res τ x = some a) (hy : res τ y = some b) (hc : clsOf a = some c) (hf : T.deq c = some f) (hk : (isEq op && okE c b) = true) (q : Wcall cl f [x, y] τ (fun o τ' => ∃ k, o = vb k ∧ Q (negB op k) τ') X) : Wcmp T cl op x y τ Q X := by
  unfold Wcmp doCmp
  simp only [hx, hy, hc, hf, hk]
  unfold isB
  refine wp_bnd (wp_bnd (wp_mono q ?_ fun _ _ h => h))
  rintro r τ' ⟨o, rfl, k, rfl, q⟩
  show wp (neg? op k τ') (fun r τ' => ∃ b, r = Rv.own (vb b) ∧ Q b τ') X
  rw [neg_eq]
  exact ⟨_, rfl, q⟩
theorem Wcmp.deqR {op : Cm} {x y : Rv} {a : Int} {b : O} {c f : Nat} {Q : Bool → Sto → Prop} (hx : res τ x = some (vi a)) (hy : res τ y = some b) (hc : clsOf b = some c) (hf : T.deq c = some f) (hk : isEq op = true) (q : Wcall cl f [y, x] τ (fun o τ' => ∃ k, o = vb k ∧ Q (negB op k) τ') X) : Wcmp T cl op x y τ Q X := by
  unfold Wcmp doCmp
  have h1 : clsOf (vi a) = none := rfl
  have h2 : isInt (vi a) = true := rfl
  simp only [hx, hy, h1, hc, hf, h2, hk, Bool.and_self]
  unfold isB
  refine wp_bnd (wp_bnd (wp_mono q ?_ fun _ _ h => h))
  rintro r τ' ⟨o, rfl, k, rfl, q⟩
  show wp (neg? op k τ') (fun r τ' => ∃ b, r = Rv.own (vb b) ∧ Q b τ') X
  rw [neg_eq]
  exact ⟨_, rfl, q⟩
theorem Wcmp.lt {x y : Rv} {i j : Int} {Q : Bool → Sto → Prop} (hx : res τ x = some (vi i)) (hy : res τ y = some (vi j)) (q : Q (decide (i < j)) τ) : Wcmp T cl .lt x y τ Q X := Wcmp.gen hx hy rfl rfl rfl q
theorem Wcmp.le {x y : Rv} {i j : Int} {Q : Bool → Sto → Prop} (hx : res τ x = some (vi i)) (hy : res τ y = some (vi j)) (q : Q (decide (i ≤ j)) τ) : Wcmp T cl .le x y τ Q X := Wcmp.gen hx hy rfl rfl rfl q
theorem Wcmp.gt {x y : Rv} {i j : Int} {Q : Bool → Sto → Prop} (hx : res τ x = some (vi i)) (hy : res τ y = some (vi j)) (q : Q (decide (j < i)) τ) : Wcmp T cl .gt x y τ Q X := Wcmp.gen hx hy rfl rfl rfl q
theorem Wcmp.ge {x y : Rv} {i j : Int} {Q : Bool → Sto → Prop} (hx : res τ x = some (vi i)) (hy : res τ y = some (vi j)) (q : Q (decide (j ≤ i)) τ) : Wcmp T cl .ge x y τ Q X := Wcmp.gen hx hy rfl rfl rfl q
theorem Wcmp.eqi {x y : Rv} {i j : Int} {Q : Bool → Sto → Prop} (hx : res τ x = some (vi i)) (hy : res τ y = some (vi j)) (q : Q (decide (i = j)) τ) : Wcmp T cl .eq x y τ Q X := Wcmp.gen hx hy rfl rfl rfl q
theorem Wcmp.nei {x y : Rv} {i j : Int} {Q : Bool → Sto → Prop} (hx : res τ x = some (vi i)) (hy : res τ y = some (vi j)) (q : Q (!decide (i = j)) τ) : Wcmp T cl .ne x y τ Q X := Wcmp.gen hx hy rfl rfl rfl q
theorem Wcmp.eq {x y : Rv} {a b : O} {k : Bool} {Q : Bool → Sto → Prop} (hx : res τ x = some a) (hy : res τ y = some b) (hc : clsOf a = none) (hd : clsOf b = none) (hz : eqD (frz a) (frz b) = some k) (q : Q k τ) : Wcmp T cl .eq x y τ Q X := Wcmp.gen hx hy hc hd hz q
theorem Wcmp.ne {x y : Rv} {a b : O} {k : Bool} {Q : Bool → Sto → Prop} (hx : res τ x = some a) (hy : res τ y = some b) (hc : clsOf a = none) (hd : clsOf b = none) (hz : eqD (frz a) (frz b) = some k) (q : Q (!k) τ) : Wcmp T cl .ne x y τ Q X := Wcmp.gen hx hy hc hd (by show (eqD (frz a) (frz b)).map _ = _; rw [hz]; rfl) q
theorem Wt.cmp {op : Cm} {a b : E} {Q : Bool → Sto → Prop} (h : Wv T cl cur a τ (fun x τ1 => Wv T cl cur b τ1 (fun y τ2 => Wcmp T cl op x y τ2 Q X) X) X) : Wt T cl cur (.cmp op a b) τ Q X := by
  unfold Wt
  simp only [dn]
  refine wp_bnd ?_
  refine wp_bnd (wp_mono h (fun _ _ h => wp_bnd (wp_mono h (fun _ _ h => wp_mono h ?_ fun _ _ h => h) fun _ _ h => h)) fun _ _ h => h)
  rintro r τ' ⟨b, rfl, q⟩
  exact q
theorem Wo.cmp {op : Cm} {a b : E} {Q : O → Sto → Prop} (h : Wv T cl cur a τ (fun x τ1 => Wv T cl cur b τ1 (fun y τ2 => Wcmp T cl op x y τ2 (fun k τ3 => Q (vb k) τ3) X) X) X) : Wo T cl cur (.cmp op a b) τ Q X := by
  unfold Wo
  simp only [dn]
  refine wp_bnd (wp_mono h (fun _ _ h => wp_bnd (wp_mono h (fun _ _ h => wp_mono h ?_ fun _ _ h => h) fun _ _ h => h)) fun _ _ h => h)
  rintro r τ' ⟨b, rfl, q⟩
  exact ⟨_, rfl, q⟩
theorem Wt.chain {o1 o2 : Cm} {a b c : E} {Q : Bool → Sto → Prop} (h : Wv T cl cur a τ (fun x τ1 => Wv T cl cur b τ1 (fun y τ2 => Wcmp T cl o1 x y τ2 (fun k τ3 => Br k (Wv T cl cur c τ3 (fun z τ4 => Wcmp T cl o2 y z τ4 Q X) X) (Q false τ3)) X) X) X) : Wt T cl cur (.chain o1 o2 a b c) τ Q X := by
  unfold Wt
  simp only [dn]
  refine wp_bnd ?_
  refine wp_bnd (wp_mono h (fun x τ1 h => wp_bnd (wp_mono h (fun y τ2 h => wp_bnd ?_) fun _ _ h => h)) fun _ _ h => h)
  unfold isB
  refine wp_bnd (wp_mono h ?_ fun _ _ h => h)
  rintro r τ' ⟨k, rfl, q⟩
  cases k with
  | true => exact wp_bnd (wp_mono (q.1 rfl) (fun _ _ h => wp_mono h (by rintro r τ' ⟨b, rfl, q⟩; exact q) fun _ _ h => h) fun _ _ h => h)
  | false => exact q.2 rfl
theorem Wo.chain {o1 o2 : Cm} {a b c : E} {Q : O → Sto → Prop} (h : Wv T cl cur a τ (fun x τ1 => Wv T cl cur b τ1 (fun y τ2 => Wcmp T cl o1 x y τ2 (fun k τ3 => Br k (Wv T cl cur c τ3 (fun z τ4 => Wcmp T cl o2 y z τ4 (fun k τ5 => Q (vb k) τ5) X) X) (Q (vb false) τ3)) X) X) X) : Wo T cl cur (.chain o1 o2 a b c) τ Q X := by
  unfold Wo
  simp only [dn]
  refine wp_bnd (wp_mono h (fun x τ1 h => wp_bnd (wp_mono h (fun y τ2 h => wp_bnd ?_) fun _ _ h => h)) fun _ _ h => h)
  unfold isB
  refine wp_bnd (wp_mono h ?_ fun _ _ h => h)
  rintro r τ' ⟨k, rfl, q⟩
  cases k with
  | true => exact wp_bnd (wp_mono (q.1 rfl) (fun _ _ h => wp_mono h (by rintro r τ' ⟨b, rfl, q⟩; exact ⟨_, rfl, q⟩) fun _ _ h => h) fun _ _ h => h)
  | false => exact ⟨_, rfl, q.2 rfl⟩
/-! ### truth -/
theorem isB_of {e : E} {Q : Bool → Sto → Prop} (h : Wv T cl cur e τ (fun r τ' => ∃ b, res τ' r = some (vb b) ∧ Q b τ') X) : wp (isB (opd (dn T cl cur e).1) τ) Q X := by
  unfold isB
  refine wp_bnd (wp_mono h ?_ fun _ _ h => h)
  rintro r τ' ⟨b, e, q⟩
  rw [e]
  exact q
theorem Wt.and {a b : E} {Q : Bool → Sto → Prop} (h : Wt T cl cur a τ (fun k τ1 => Br k (Wt T cl cur b τ1 Q X) (Q false τ1)) X) : Wt T cl cur (.and a b) τ Q X := by
  unfold Wt
  simp only [dn]
  refine wp_bnd (wp_mono h (fun k _ h => ?_) fun _ _ h => h)
  cases k with
  | true => exact h.1 rfl
  | false => exact h.2 rfl
theorem Wt.or {a b : E} {Q : Bool → Sto → Prop} (h : Wt T cl cur a τ (fun k τ1 => Br k (Q true τ1) (Wt T cl cur b τ1 Q X)) X) : Wt T cl cur (.or a b) τ Q X := by
  unfold Wt
  simp only [dn]
  refine wp_bnd (wp_mono h (fun k _ h => ?_) fun _ _ h => h)
  cases k with
  | true => exact h.1 rfl
  | false => exact h.2 rfl
theorem Wt.not {a : E} {Q : Bool → Sto → Prop} (h : Wt T cl cur a τ (fun k τ1 => Q (!k) τ1) X) : Wt T cl cur (.not a) τ Q X := by
  unfold Wt
  simp only [dn]
  exact wp_bnd (wp_mono h (fun k _ h => h) fun _ _ h => h)
theorem Wo.not {a : E} {Q : O → Sto → Prop} (h : Wv T cl cur a τ (fun r τ' => ∃ b, res τ' r = some (vb b) ∧ Q (vb (!b)) τ') X) : Wo T cl cur (.not a) τ Q X := by
  unfold Wo
  simp only [dn]
  exact wp_bnd (wp_mono (isB_of (Q := fun b τ' => Q (vb (!b)) τ') h) (fun _ _ h => ⟨_, rfl, h⟩) fun _ _ h => h)
/-- `a and b` as a value (both bools) -/
theorem Wv.and {a b : E} {Q : Rv → Sto → Prop} (h : Wv T cl cur a τ (fun r τ' => ∃ k, res τ' r = some (vb k) ∧ Br k (Wv T cl cur b τ' Q X) (Q (.own (vb false)) τ')) X) : Wv T cl cur (.and a b) τ Q X := by
  unfold Wv
  simp only [dn]
  unfold opd
  refine wp_bnd (wp_bnd (wp_mono (isB_of (Q := fun k τ' => Br k (Wv T cl cur b τ' Q X) (Q (.own (vb false)) τ')) h) (fun k τ' h => ?_) fun _ _ h => h))
  cases k with
  | true =>
    have h1 := h.1 rfl
    unfold Wv opd at h1
    unfold bnd at h1
    show wp (bnd _ _ τ') _ X
    unfold bnd
    cases e : (dn T cl cur b).1 τ' with
    | ok r τ2 =>
      rw [e] at h1
      cases r with
      | slot i => exact h1
      | own o => exact h1
    | ex x τ2 => rw [e] at h1; exact h1
    | bad => rw [e] at h1; exact h1
  | false => exact h.2 rfl
theorem Wv.or {a b : E} {Q : Rv → Sto → Prop} (h : Wv T cl cur a τ (fun r τ' => ∃ k, res τ' r = some (vb k) ∧ Br k (Q (.own (vb true)) τ') (Wv T cl cur b τ' Q X)) X) : Wv T cl cur (.or a b) τ Q X := by
  unfold Wv
  simp only [dn]
  unfold opd
  refine wp_bnd (wp_bnd (wp_mono (isB_of (Q := fun k τ' => Br k (Q (.own (vb true)) τ') (Wv T cl cur b τ' Q X)) h) (fun k τ' h => ?_) fun _ _ h => h))
  cases k with
  | false =>
    have h1 := h.2 rfl
    unfold Wv opd at h1
    unfold bnd at h1
    show wp (bnd _ _ τ') _ X
    unfold bnd
    cases e : (dn T cl cur b).1 τ' with
    | ok r τ2 =>
      rw [e] at h1
      cases r with
      | slot i => exact h1
      | own o => exact h1
    | ex x τ2 => rw [e] at h1; exact h1
    | bad => rw [e] at h1; exact h1
  | true => exact h.1 rfl
theorem own_of {m : M Rv} {Q : O → Sto → Prop} (h : wp (opd m τ) (fun r τ' => match r with
    | .own o => Q o τ'
    | .slot i => ∃ d, τ'[i]? = some (some (.val d)) ∧ Q (.val d) τ') X) (hm : ∀ τ' r, m τ = .ok r τ' → ∀ o, r = .own o → ∃ d, o = .val d) : wp (own m τ) Q X := by
  unfold opd bnd at h
  unfold own bnd
  cases e : m τ with
  | ok r τ' =>
    rw [e] at h
    cases r with
    | slot i =>
      obtain ⟨d, e1, q⟩ := h
      simp only []
      rw [e1]
      simp only []
      have : τ'.set i (some (.val (frz (.val d)))) = τ' := by
        rw [frz]
        exact List.ext_getElem? fun j => by
          by_cases hj : j = i
          · subst hj
            rw [List.getElem?_set_self (List.getElem?_eq_some_iff.mp e1).1, e1]
          · rw [List.getElem?_set_ne (by omega)]
      rw [this]
      exact q
    | own o =>
      obtain ⟨d, rfl⟩ := hm _ _ e o rfl
      exact h
  | ex x τ' => rw [e] at h; exact h
  | bad => rw [e] at h; exact h
theorem opd_val {m : M Rv} {r : Rv} {τ' : Sto} (h : opd m τ = .ok r τ') : ∀ o, r = .own o → ∃ d, o = .val d := by
  unfold opd bnd at h
  cases e : m τ with
  | ok r0 τ1 =>
    rw [e] at h
    cases r0 with
    | slot i => cases h; intro o h; cases h
    | own o => cases h; intro o' h; cases h; exact ⟨_, rfl⟩
  | ex x τ1 => rw [e] at h; cases h
  | bad => rw [e] at h; cases h
/-- kept: `a and b` -/
theorem Ww.and {a b : E} {Q : O → Sto → Prop} (h : Wv T cl cur a τ (fun r τ' => ∃ k, res τ' r = some (vb k) ∧ Br k (Wv T cl cur b τ' (fun r τ2 => ∃ o, res τ2 r = some (.val o) ∧ Q (.val o) τ2) X) (Q (vb false) τ')) X) : Ww T cl cur (.and a b) τ Q X := by
  refine own_of (wp_mono (Wv.and (Q := fun r τ2 => ∃ o, res τ2 r = some (.val o) ∧ Q (.val o) τ2) (wp_mono h ?_ fun _ _ h => h)) ?_ fun _ _ h => h) ?_
  · rintro r τ' ⟨k, e, h⟩
    exact ⟨k, e, h.1, fun e => ⟨_, rfl, h.2 e⟩⟩
  · rintro r τ' ⟨o, e, q⟩
    cases r with
    | own o' => cases e; exact q
    | slot i =>
      refine ⟨o, ?_, q⟩
      unfold res at e
      simp only [] at e
      split at e
      · rename_i o' e1
        cases e
        exact e1
      · cases e
  · intro τ' r e o ho
    simp only [dn] at e
    unfold bnd at e
    cases e1 : isB (opd (dn T cl cur a).1) τ with
    | ok k τ1 =>
      rw [e1] at e
      cases k with
      | true => exact opd_val e o ho
      | false => cases e; cases ho; exact ⟨_, rfl⟩
    | ex x τ1 => rw [e1] at e; cases e
    | bad => rw [e1] at e; cases e
theorem Ww.or {a b : E} {Q : O → Sto → Prop} (h : Wv T cl cur a τ (fun r τ' => ∃ k, res τ' r = some (vb k) ∧ Br k (Q (vb true) τ') (Wv T cl cur b τ' (fun r τ2 => ∃ o, res τ2 r = some (.val o) ∧ Q (.val o) τ2) X)) X) : Ww T cl cur (.or a b) τ Q X := by
  refine own_of (wp_mono (Wv.or (Q := fun r τ2 => ∃ o, res τ2 r = some (.val o) ∧ Q (.val o) τ2) (wp_mono h ?_ fun _ _ h => h)) ?_ fun _ _ h => h) ?_
  · rintro r τ' ⟨k, e, h⟩
    exact ⟨k, e, fun e => ⟨_, rfl, h.1 e⟩, h.2⟩
  · rintro r τ' ⟨o, e, q⟩
    cases r with
    | own o' => cases e; exact q
    | slot i =>
      refine ⟨o, ?_, q⟩
      unfold res at e
      simp only [] at e
      split at e
      · rename_i o' e1
        cases e
        exact e1
      · cases e
  · intro τ' r e o ho
    simp only [dn] at e
    unfold bnd at e
    cases e1 : isB (opd (dn T cl cur a).1) τ with
    | ok k τ1 =>
      rw [e1] at e
      cases k with
      | false => exact opd_val e o ho
      | true => cases e; cases ho; exact ⟨_, rfl⟩
    | ex x τ1 => rw [e1] at e; cases e
    | bad => rw [e1] at e; cases e
theorem Wo.ite {t a b : E} {Q : O → Sto → Prop} (h : Wt T cl cur t τ (fun k τ1 => Br k (Wo T cl cur a τ1 Q X) (Wo T cl cur b τ1 Q X)) X) : Wo T cl cur (.ite t a b) τ Q X := by
  unfold Wo
  simp only [dn]
  refine wp_bnd (wp_mono h (fun k _ h => ?_) fun _ _ h => h)
  cases k with
  | true => exact h.1 rfl
  | false => exact h.2 rfl
theorem opd_fin {m : M Rv} {Q : Rv → Sto → Prop} (h : wp (opd m τ) Q X) : wp (m τ) (fun r τ2 => match r with
    | .slot i => Q (.slot i) τ2
    | .own o => Q (.own (.val (frz o))) τ2) X := by
  unfold opd bnd at h
  cases e : m τ with
  | ok r τ2 => rw [e] at h; cases r <;> exact h
  | ex x τ2 => rw [e] at h; exact h
  | bad => rw [e] at h; exact h
theorem opd_ini {m : M Rv} {Q : Rv → Sto → Prop} (h : wp (m τ) (fun r τ2 => match r with
    | .slot i => Q (.slot i) τ2
    | .own o => Q (.own (.val (frz o))) τ2) X) : wp (opd m τ) Q X := by
  unfold opd
  refine wp_bnd (wp_mono h (fun r τ2 h => ?_) fun _ _ h => h)
  cases r <;> exact h
theorem own_fin {m : M Rv} {Q : O → Sto → Prop} (h : wp (own m τ) Q X) : wp (m τ) (fun r τ2 => wp (match r with
    | .own o => R.ok o τ2
    | .slot i => match τ2[i]? with
      | some (some o) => .ok (.val (frz o)) (τ2.set i (some (.val (frz o))))
      | _ => .bad) Q X) X := by
  unfold own bnd at h
  cases e : m τ with
  | ok r τ2 => rw [e] at h; cases r <;> exact h
  | ex x τ2 => rw [e] at h; exact h
  | bad => rw [e] at h; exact h
theorem own_ini {m : M Rv} {Q : O → Sto → Prop} (h : wp (m τ) (fun r τ2 => wp (match r with
    | .own o => R.ok o τ2
    | .slot i => match τ2[i]? with
      | some (some o) => .ok (.val (frz o)) (τ2.set i (some (.val (frz o))))
      | _ => .bad) Q X) X) : wp (own m τ) Q X := by
  unfold own
  refine wp_bnd (wp_mono h (fun r τ2 h => ?_) fun _ _ h => h)
  cases r <;> exact h
theorem Wv.ite {t a b : E} {Q : Rv → Sto → Prop} (h : Wt T cl cur t τ (fun k τ1 => Br k (Wv T cl cur a τ1 Q X) (Wv T cl cur b τ1 Q X)) X) : Wv T cl cur (.ite t a b) τ Q X := by
  refine opd_ini ?_
  simp only [dn]
  refine wp_bnd (wp_mono h (fun k τ' h => ?_) fun _ _ h => h)
  cases k with
  | true => exact opd_fin (h.1 rfl)
  | false => exact opd_fin (h.2 rfl)
theorem Ww.ite {t a b : E} {Q : O → Sto → Prop} (h : Wt T cl cur t τ (fun k τ1 => Br k (Ww T cl cur a τ1 Q X) (Ww T cl cur b τ1 Q X)) X) : Ww T cl cur (.ite t a b) τ Q X := by
  refine own_ini ?_
  simp only [dn]
  refine wp_bnd (wp_mono h (fun k τ' h => ?_) fun _ _ h => h)
  cases k with
  | true => exact own_fin (h.1 rfl)
  | false => exact own_fin (h.2 rfl)
/-! ### calls, items -/
theorem Ws.nil {Q : List Rv → Sto → Prop} (q : Q [] τ) : Ws T cl cur .nil τ Q X := q
theorem Ws.cons {e : E} {es : Es} {Q : List Rv → Sto → Prop} (h : Wv T cl cur e τ (fun r τ1 => Ws T cl cur es τ1 (fun rs τ2 => Q (r :: rs) τ2) X) X) : Ws T cl cur (.cons e es) τ Q X := by
  unfold Ws
  simp only [dns]
  exact wp_bnd (wp_mono h (fun _ _ h => wp_bnd (wp_mono h (fun _ _ h => h) fun _ _ h => h)) fun _ _ h => h)
theorem Wk.nil {Q : List D → Sto → Prop} (q : Q [] τ) : Wk T cl cur .nil τ Q X := q
theorem Wk.cons {e : E} {es : Es} {Q : List D → Sto → Prop} (h : Wd T cl cur e τ (fun r τ1 => Wk T cl cur es τ1 (fun rs τ2 => Q (r :: rs) τ2) X) X) : Wk T cl cur (.cons e es) τ Q X := by
  unfold Wk
  simp only [dnk]
  exact wp_bnd (wp_mono h (fun _ _ h => wp_bnd (wp_mono h (fun _ _ h => h) fun _ _ h => h)) fun _ _ h => h)
theorem Wo.call {f : Nat} {as : Es} {Q : O → Sto → Prop} (h : Ws T cl cur as τ (fun rs τ1 => Wcall cl f rs τ1 Q X) X) : Wo T cl cur (.call f as) τ Q X := by
  unfold Wo
  simp only [dn]
  exact wp_bnd (wp_mono h (fun _ _ h => h) fun _ _ h => h)
theorem Wo.callK {f : Nat} {as ks : Es} {ar : List Ar} {Q : O → Sto → Prop} (h : Ws T cl cur as τ (fun rs τ1 => Ws T cl cur ks τ1 (fun qs τ2 => ∃ l, arrR (rs ++ qs) ar = some l ∧ Wcall cl f l τ2 Q X) X) X) : Wo T cl cur (.callK f as ks ar) τ Q X := by
  unfold Wo
  simp only [dn]
  refine wp_bnd (wp_mono h (fun _ _ h => wp_bnd (wp_mono h ?_ fun _ _ h => h)) fun _ _ h => h)
  rintro qs τ2 ⟨l, e, h⟩
  unfold doCallK
  rw [e]
  exact h
theorem Wcall.of {f : Nat} {rs : List Rv} {os : List O} {Q : O → Sto → Prop} (ht : take τ rs = some (os, τ1)) (hc : wf (cl f os) (fun o os' => ∃ τ2, back τ1 rs os os' = some τ2 ∧ Q o τ2) (fun x os' => ∃ τ2, back τ1 rs os os' = some τ2 ∧ X x τ2)) : Wcall cl f rs τ Q X := by
  unfold Wcall doCall
  rw [ht]
  simp only []
  cases e : cl f os with
  | ok o os' =>
    rw [e] at hc
    obtain ⟨τ2, e2, q⟩ := hc
    simp only [e2]
    exact ⟨_, rfl, q⟩
  | ex x os' =>
    rw [e] at hc
    obtain ⟨τ2, e2, q⟩ := hc
    simp only [e2]
    exact q
  | bad => rw [e] at hc; exact hc
/-- a test by what an expression hands on -/
theorem Wt_tru {m : M Rv} {Q : Bool → Sto → Prop} (h : wp (m τ) (fun r τ' => ∃ o, r = .own o ∧ ∃ b, truF o = some b ∧ Q b τ') X) : wp (tru m τ) Q X := by
  unfold tru
  refine wp_bnd (wp_mono h ?_ fun _ _ h => h)
  rintro r τ' ⟨o, rfl, b, e, q⟩
  simp only [res, e]
  exact q
theorem Wt.bin {op : Op} {a b : E} {Q : Bool → Sto → Prop} (h : Wo T cl cur (.bin op a b) τ (fun o τ' => ∃ b, truF o = some b ∧ Q b τ') X) : Wt T cl cur (.bin op a b) τ Q X := by
  unfold Wt; unfold Wo at h; simp only [dn] at *; exact Wt_tru h
theorem Wt.call {f : Nat} {as : Es} {Q : Bool → Sto → Prop} (h : Wo T cl cur (.call f as) τ (fun o τ' => ∃ b, truF o = some b ∧ Q b τ') X) : Wt T cl cur (.call f as) τ Q X := by
  unfold Wt; unfold Wo at h; simp only [dn] at *; exact Wt_tru h
theorem Wt.callK {f : Nat} {as ks : Es} {ar : List Ar} {Q : Bool → Sto → Prop} (h : Wo T cl cur (.callK f as ks ar) τ (fun o τ' => ∃ b, truF o = some b ∧ Q b τ') X) : Wt T cl cur (.callK f as ks ar) τ Q X := by
  unfold Wt; unfold Wo at h; simp only [dn] at *; exact Wt_tru h
theorem Wt.blt {f : Bi} {as : Es} {Q : Bool → Sto → Prop} (h : Wo T cl cur (.blt f as) τ (fun o τ' => ∃ b, truF o = some b ∧ Q b τ') X) : Wt T cl cur (.blt f as) τ Q X := by
  unfold Wt; unfold Wo at h; simp only [dn] at *; exact Wt_tru h
theorem Wt.sub {a i : E} {Q : Bool → Sto → Prop} (h : Wo T cl cur (.sub a i) τ (fun o τ' => ∃ b, truF o = some b ∧ Q b τ') X) : Wt T cl cur (.sub a i) τ Q X := by
  unfold Wt; unfold Wo at h; simp only [dn] at *; exact Wt_tru h
theorem Wt.isin {a : E} {ts : List Ty} {Q : Bool → Sto → Prop} (h : Wo T cl cur (.isin a ts) τ (fun o τ' => ∃ b, truF o = some b ∧ Q b τ') X) : Wt T cl cur (.isin a ts) τ Q X := by
  unfold Wt; unfold Wo at h; simp only [dn] at *; exact Wt_tru h
theorem Wt.meth {a : E} {m : Nat} {as : Es} {Q : Bool → Sto → Prop} (h : Wo T cl cur (.meth a m as) τ (fun o τ' => ∃ b, truF o = some b ∧ Q b τ') X) : Wt T cl cur (.meth a m as) τ Q X := by
  unfold Wt; unfold Wo at h; simp only [dn] at *; exact Wt_tru h
theorem Wt.attr {a : E} {m : Nat} {Q : Bool → Sto → Prop} (h : Wo T cl cur (.attr a m) τ (fun o τ' => ∃ b, truF o = some b ∧ Q b τ') X) : Wt T cl cur (.attr a m) τ Q X := by
  unfold Wt; unfold Wo at h; simp only [dn] at *; exact Wt_tru h
theorem Wt.prop {a : E} {m : Nat} {Q : Bool → Sto → Prop} (h : Wo T cl cur (.prop a m) τ (fun o τ' => ∃ b, truF o = some b ∧ Q b τ') X) : Wt T cl cur (.prop a m) τ Q X := by
  unfold Wt; unfold Wo at h; simp only [dn] at *; exact Wt_tru h
theorem Wo.un {g : O → Option O} {a : E} {Q : O → Sto → Prop} (h : Wv T cl cur a τ (fun x τ1 => ∃ o z, res τ1 x = some o ∧ g o = some z ∧ Q z τ1) X) : wp (bnd (opd (dn T cl cur a).1) (fun x => un g x) τ) (fun r τ' => ∃ o, r = .own o ∧ Q o τ') X := by
  refine wp_bnd (wp_mono h ?_ fun _ _ h => h)
  rintro r τ' ⟨o, z, e1, e2, q⟩
  unfold Tw.un
  simp only [e1, e2]
  exact ⟨_, rfl, q⟩
theorem Wo.attr {a : E} {f : Nat} {Q : O → Sto → Prop} (h : Wv T cl cur a τ (fun x τ1 => ∃ o z, res τ1 x = some o ∧ attrF T (inH cur) o f = some z ∧ Q z τ1) X) : Wo T cl cur (.attr a f) τ Q X := by
  unfold Wo
  simp only [dn]
  exact Wo.un h
theorem Wo.isin {a : E} {ts : List Ty} {Q : O → Sto → Prop} (h : Wv T cl cur a τ (fun x τ1 => ∃ o b, res τ1 x = some o ∧ isTys T (inH cur) o ts = some b ∧ Q (vb b) τ1) X) : Wo T cl cur (.isin a ts) τ Q X := by
  unfold Wo
  simp only [dn]
  refine Wo.un (wp_mono h ?_ fun _ _ h => h)
  rintro r τ' ⟨o, b, e1, e2, q⟩
  exact ⟨o, _, e1, by rw [e2]; rfl, q⟩
theorem Wo.sub {a i : E} {Q : O → Sto → Prop} (h : Wv T cl cur a τ (fun x τ1 => Wv T cl cur i τ1 (fun y τ2 => ∃ o p z, res τ2 x = some o ∧ res τ2 y = some p ∧ subF o p = some z ∧ Q z τ2) X) X) : Wo T cl cur (.sub a i) τ Q X := by
  unfold Wo
  simp only [dn]
  refine wp_bnd (wp_mono h (fun x _ h => wp_bnd (wp_mono h ?_ fun _ _ h => h)) fun _ _ h => h)
  rintro y τ' ⟨o, p, z, e1, e2, e3, q⟩
  unfold two
  simp only [e1, e2, e3]
  exact ⟨_, rfl, q⟩
/-- no instance among them -/
def noCls (os : List O) : Bool := os.all fun o => (clsOf o).isNone
theorem ress_one {r : Rv} {os : List O} (h : ress τ [r] = some os) : ∃ o, res τ r = some o ∧ os = [o] := by
  simp only [ress] at h
  cases e : res τ r with
  | none => simp only [e] at h; cases h
  | some o =>
    simp only [e] at h
    exact ⟨o, rfl, (Option.some.inj h).symm⟩
def Wblt (T : Tb) (cl : CallT) (b : Bi) (rs : List Rv) (τ : Sto) (Q : O → Sto → Prop) (X : Exn → Sto → Prop) : Prop := wp (doBlt T cl b rs τ) (fun r τ' => ∃ o, r = .own o ∧ Q o τ') X
theorem Wblt.gen {b : Bi} {rs : List Rv} {os : List O} {z : O} {Q : O → Sto → Prop} (e1 : ress τ rs = some os) (hn : noCls os = true) (e2 : biF b os = some z) (q : Q z τ) : Wblt T cl b rs τ Q X := by
  have m : wp (many (biF b) rs τ) (fun r τ' => ∃ o, r = .own o ∧ Q o τ') X := by
    unfold many
    simp only [e1, e2]
    exact ⟨_, rfl, q⟩
  unfold Wblt doBlt
  split
  · rename_i r
    obtain ⟨o, e3, rfl⟩ := ress_one e1
    have h3 : clsOf o = none := by simpa [noCls] using hn
    simp only [e3, h3]
    exact m
  · exact m
theorem Wblt.own {b : Bi} {r : Rv} {o : O} {c : Nat} {u : Un} {Q : O → Sto → Prop} (e1 : res τ r = some o) (hc : clsOf o = some c) (hu : unB b = some u) (q : Wuna T cl u c r τ Q X) : Wblt T cl b [r] τ Q X := by
  unfold Wblt doBlt
  simp only [e1, hc, hu]
  exact q
theorem Wo.blt {b : Bi} {as : Es} {Q : O → Sto → Prop} (h : Ws T cl cur as τ (fun rs τ1 => Wblt T cl b rs τ1 Q X) X) : Wo T cl cur (.blt b as) τ Q X := by
  unfold Wo
  simp only [dn]
  exact wp_bnd (wp_mono h (fun _ _ h => h) fun _ _ h => h)
/-! ### methods, properties, static methods, new objects -/
theorem Wo.meth {a : E} {m : Nat} {as : Es} {Q : O → Sto → Prop} (h : Wv T cl cur a τ (fun r τ1 => ∃ o cn f, res τ1 r = some o ∧ insOf o = some cn ∧ T.mth cn.1 m = some f ∧ cn.2.contains m = false ∧ Ws T cl cur as τ1 (fun rs τ2 => Wcall cl f (r :: rs) τ2 Q X) X) X) : Wo T cl cur (.meth a m as) τ Q X := by
  unfold Wo
  simp only [dn]
  refine wp_bnd (wp_mono h ?_ fun _ _ h => h)
  rintro r τ1 ⟨o, ⟨c, ns⟩, f, e1, e2, e3, e4, q⟩
  unfold bnd methI
  simp only at e3 e4
  simp only [e1, e2, e3, e4, Bool.false_eq_true, if_false]
  exact wp_bnd (m := dns T cl cur as) (f := fun rs => doCall cl f (r :: rs)) (wp_mono q (fun _ _ h => h) fun _ _ h => h)
theorem Wo.prop {a : E} {m : Nat} {Q : O → Sto → Prop} (h : Wv T cl cur a τ (fun r τ1 => ∃ o cn f, res τ1 r = some o ∧ insOf o = some cn ∧ T.prp cn.1 m = some f ∧ cn.2.contains m = false ∧ Wcall cl f [r] τ1 Q nox) X) : Wo T cl cur (.prop a m) τ Q X := by
  unfold Wo
  simp only [dn]
  refine wp_bnd (wp_mono h ?_ fun _ _ h => h)
  rintro r τ1 ⟨o, ⟨c, ns⟩, f, e1, e2, e3, e4, q⟩
  unfold bnd methI
  simp only at e3 e4
  simp only [e1, e2, e3, e4, Bool.false_eq_true, if_false]
  unfold noEx
  unfold Wcall at q
  cases e : doCall cl f [r] τ1 with
  | bad => rw [e] at q; exact q
  | ex x τ2 => rw [e] at q; exact q.elim
  | ok z τ2 => rw [e] at q; exact q
theorem Wo.stat {c m f : Nat} {as : Es} {Q : O → Sto → Prop} (hf : T.smt c m = some f) (h : Ws T cl cur as τ (fun rs τ1 => Wcall cl f rs τ1 Q X) X) : Wo T cl cur (.stat c m as) τ Q X := by
  unfold Wo
  simp only [dn, hf]
  exact wp_bnd (wp_mono h (fun _ _ h => h) fun _ _ h => h)
theorem Wo.hcall {f : Nat} {as : Es} {hb : CallT × Bool} {Q : O → Sto → Prop} (hc : cur = some hb) (h : Ws T cl cur as τ (fun rs τ1 => Wcall hb.1 f rs τ1 Q X) X) : Wo T cl cur (.hcall f as) τ Q X := by
  subst hc
  unfold Wo
  simp only [dn]
  exact wp_bnd (wp_mono h (fun _ _ h => h) fun _ _ h => h)
theorem Wt.hcall {f : Nat} {as : Es} {Q : Bool → Sto → Prop} (h : Wo T cl cur (.hcall f as) τ (fun o τ' => ∃ b, truF o = some b ∧ Q b τ') X) : Wt T cl cur (.hcall f as) τ Q X := by
  unfold Wt; unfold Wo at h; simp only [dn] at *; exact Wt_tru h
theorem Wt.stat {c f : Nat} {as : Es} {Q : Bool → Sto → Prop} (h : Wo T cl cur (.stat c f as) τ (fun o τ' => ∃ b, truF o = some b ∧ Q b τ') X) : Wt T cl cur (.stat c f as) τ Q X := by
  unfold Wt; unfold Wo at h; simp only [dn] at *; exact Wt_tru h
def Wnew (T : Tb) (cl : CallT) (c : Nat) (rs : List Rv) (τ : Sto) (Q : O → Sto → Prop) (X : Exn → Sto → Prop) : Prop := wp (doNew T cl c rs τ) (fun r τ' => ∃ o, r = .own o ∧ Q o τ') X
theorem Wnew.of {c f : Nat} {rs : List Rv} {os : List O} {Q : O → Sto → Prop} (hf : T.ini c = some f) (ht : take τ rs = some (os, τ1)) (hc : wf (cl f (.ins c [] [] :: os)) (fun r os' => r = .val .non ∧ ∃ o os2, os' = o :: os2 ∧ ∃ τ2, back τ1 rs os os2 = some τ2 ∧ Q o τ2) (fun x os' => ∃ o os2, os' = o :: os2 ∧ ∃ τ2, back τ1 rs os os2 = some τ2 ∧ X x τ2)) : Wnew T cl c rs τ Q X := by
  unfold Wnew doNew
  simp only [hf, ht]
  cases e : cl f (.ins c [] [] :: os) with
  | ok o os' =>
    rw [e] at hc
    obtain ⟨rfl, o2, os2, rfl, τ2, e2, q⟩ := hc
    simp only [e2]
    exact ⟨_, rfl, q⟩
  | ex x os' =>
    rw [e] at hc
    obtain ⟨o2, os2, rfl, τ2, e2, q⟩ := hc
    simp only [e2]
    exact q
  | bad => rw [e] at hc; exact hc
theorem Wo.new {c : Nat} {as : Es} {Q : O → Sto → Prop} (h : Ws T cl cur as τ (fun rs τ1 => Wnew T cl c rs τ1 Q X) X) : Wo T cl cur (.new c as) τ Q X := by
  unfold Wo
  simp only [dn]
  exact wp_bnd (wp_mono h (fun _ _ h => h) fun _ _ h => h)
theorem Wo.newK {c : Nat} {as ks : Es} {ar : List Ar} {Q : O → Sto → Prop} (h : Ws T cl cur as τ (fun rs τ1 => Ws T cl cur ks τ1 (fun qs τ2 => ∃ l, arrR (rs ++ qs) ar = some l ∧ Wnew T cl c l τ2 Q X) X) X) : Wo T cl cur (.newK c as ks ar) τ Q X := by
  unfold Wo
  simp only [dn]
  refine wp_bnd (wp_mono h (fun _ _ h => wp_bnd (wp_mono h ?_ fun _ _ h => h)) fun _ _ h => h)
  rintro qs τ2 ⟨l, e, h⟩
  unfold doNewK
  rw [e]
  exact h
theorem Wo.tup {as : Es} {Q : O → Sto → Prop} (h : Wk T cl cur as τ (fun ds τ1 => ds.length ≤ lim ∧ Q (.val (.tup ds)) τ1) X) : Wo T cl cur (.tup as) τ Q X := by
  unfold Wo
  simp only [dn]
  refine wp_bnd (wp_mono h ?_ fun _ _ h => h)
  rintro ds τ' ⟨e, q⟩
  simp only [e, if_true]
  exact ⟨_, rfl, q⟩
theorem Wo.lst {as : Es} {Q : O → Sto → Prop} (h : Wk T cl cur as τ (fun ds τ1 => ds.length ≤ lim ∧ Q (.lst (ds.map .val)) τ1) X) : Wo T cl cur (.lst as) τ Q X := by
  unfold Wo
  simp only [dn]
  refine wp_bnd (wp_mono h ?_ fun _ _ h => h)
  rintro ds τ' ⟨e, q⟩
  simp only [e, if_true]
  exact ⟨_, rfl, q⟩
/-! ### what a loop goes over -/
theorem WI.rng1 {a : E} {Q : List D → Sto → Prop} (h : Wi T cl cur a τ (fun n τ1 => Q (rngL 0 n) τ1) X) : WI T cl cur (.rng1 a) τ Q X := by
  unfold WI
  simp only [dnI]
  exact wp_bnd (wp_mono h (fun _ _ h => h) fun _ _ h => h)
theorem WI.rng2 {a b : E} {Q : List D → Sto → Prop} (h : Wi T cl cur a τ (fun l τ1 => Wi T cl cur b τ1 (fun n τ2 => Q (rngL l n) τ2) X) X) : WI T cl cur (.rng2 a b) τ Q X := by
  unfold WI
  simp only [dnI]
  exact wp_bnd (wp_mono h (fun _ _ h => wp_bnd (wp_mono h (fun _ _ h => h) fun _ _ h => h)) fun _ _ h => h)
theorem WI.seq {a : E} {Q : List D → Sto → Prop} (h : Ww T cl cur a τ (fun o τ1 => ∃ ds, items o = some ds ∧ Q ds τ1) X) : WI T cl cur (.seq a) τ Q X := by
  unfold WI
  simp only [dnI]
  unfold walk
  refine wp_bnd (wp_mono h ?_ fun _ _ h => h)
  rintro o τ' ⟨ds, e, q⟩
  simp only [e]
  exact q
theorem WI.enum {a : E} {Q : List D → Sto → Prop} (h : Ww T cl cur a τ (fun o τ1 => ∃ ds, items o = some ds ∧ Q (enumL 0 ds) τ1) X) : WI T cl cur (.enum a) τ Q X := by
  unfold WI
  simp only [dnI]
  unfold walk
  refine wp_bnd (wp_bnd (wp_mono h ?_ fun _ _ h => h))
  rintro o τ' ⟨ds, e, q⟩
  simp only [e]
  exact q
theorem Wo.comp {ow tg : List Nat} {it : It} {c e : E} {Q : O → Sto → Prop} (h : WI T cl cur it τ (fun ds τ1 => ∃ os τ2, compM tg ow (dn T cl cur c).2 (ownD (dn T cl cur e).1) ds [] (wipeS τ1 ow) = .ok os τ2 ∧ Q (.lst (os.map .val)) (restS τ2 τ1 ow)) X) : Wo T cl cur (.comp ow it tg c e) τ Q X := by
  unfold Wo
  simp only [dn]
  refine wp_bnd (wp_mono h ?_ fun _ _ h => h)
  rintro ds τ1 ⟨os, τ2, e1, q⟩
  simp only [e1]
  exact ⟨_, rfl, q⟩
/-! ### statements -/
theorem WB.nil {Q : Fl → Sto → Prop} (q : Q .nx τ) : WB T cl cur .nil τ Q X := q
theorem WB.cons {s : S} {b : B} {Q : Fl → Sto → Prop} (h : WS T cl cur s τ (fun f τ1 => match f with
    | .nx => WB T cl cur b τ1 Q X
    | f => Q f τ1) X) : WB T cl cur (.cons s b) τ Q X := by
  unfold WB
  simp only [dnB]
  unfold seq2
  unfold WS at h
  cases e : dnS T cl cur s τ with
  | ok f τ1 => rw [e] at h; cases f <;> exact h
  | ex x τ1 => rw [e] at h; exact h
  | bad => rw [e] at h; exact h
theorem WS.pass {Q : Fl → Sto → Prop} (q : Q .nx τ) : WS T cl cur .pass τ Q X := q
theorem WS.brk {Q : Fl → Sto → Prop} (q : Q .bk τ) : WS T cl cur .brk τ Q X := q
theorem WS.cont {Q : Fl → Sto → Prop} (q : Q .ct τ) : WS T cl cur .cont τ Q X := q
theorem WS.retN {Q : Fl → Sto → Prop} (q : Q (.rt (.val .non)) τ) : WS T cl cur .retN τ Q X := q
theorem WS.asg {i : Nat} {e : E} {Q : Fl → Sto → Prop} (h : Ww T cl cur e τ (fun o τ1 => i < τ1.length ∧ Q .nx (τ1.set i (some o))) X) : WS T cl cur (.asg i e) τ Q X := by
  unfold WS
  simp only [dnS]
  refine wp_bnd (wp_mono h ?_ fun _ _ h => h)
  rintro o τ1 ⟨hi, q⟩
  simp only [put, hi, if_true]
  exact q
theorem WS.asgT {is : List Nat} {e : E} {Q : Fl → Sto → Prop} (h : Wd T cl cur e τ (fun d τ1 => ∃ τ2, setTg τ1 is d = some τ2 ∧ Q .nx τ2) X) : WS T cl cur (.asgT is e) τ Q X := by
  unfold WS
  simp only [dnS]
  refine wp_bnd (wp_mono h ?_ fun _ _ h => h)
  rintro o τ1 ⟨τ2, e, q⟩
  simp only [e]
  exact q
theorem WS.expr {e : E} {Q : Fl → Sto → Prop} (h : Wv T cl cur e τ (fun _ τ1 => Q .nx τ1) X) : WS T cl cur (.expr e) τ Q X := by
  unfold WS
  simp only [dnS]
  exact wp_bnd (wp_mono h (fun _ _ h => h) fun _ _ h => h)
theorem WS.ret {e : E} {Q : Fl → Sto → Prop} (h : Ww T cl cur e τ (fun o τ1 => Q (.rt o) τ1) X) : WS T cl cur (.ret e) τ Q X := by
  unfold WS
  simp only [dnS]
  exact wp_bnd (wp_mono h (fun _ _ h => h) fun _ _ h => h)
theorem WS.raise {c : Nat} {as : Es} {ns : List Nat} {Q : Fl → Sto → Prop} (hf : T.exf c = some ns) (h : Wk T cl cur as τ (fun ds τ1 => ns.length = ds.length ∧ X ⟨c, ns, ds.reverse⟩ τ1) X) : WS T cl cur (.raise c as) τ Q X := by
  unfold WS
  simp only [dnS]
  refine wp_bnd (wp_mono h ?_ fun _ _ h => h)
  rintro ds τ1 ⟨e, q⟩
  simp only [hf, e, if_true]
  exact q
theorem WS.ite {t : E} {a b : B} {Q : Fl → Sto → Prop} (h : Wt T cl cur t τ (fun k τ1 => Br k (WB T cl cur a τ1 Q X) (WB T cl cur b τ1 Q X)) X) : WS T cl cur (.ite t a b) τ Q X := by
  unfold WS
  simp only [dnS]
  refine wp_bnd (wp_mono h (fun k _ h => ?_) fun _ _ h => h)
  cases k with
  | true => exact h.1 rfl
  | false => exact h.2 rfl
theorem WS.app {i : Nat} {e : E} {os : List O} {Q : Fl → Sto → Prop} (hi : τ[i]? = some (some (.lst os))) (h : Ww T cl cur e τ (fun o τ1 => ∃ os', τ1[i]? = some (some (.lst os')) ∧ os'.length < lim ∧ Q .nx (τ1.set i (some (.lst (os' ++ [o]))))) X) : WS T cl cur (.app i e) τ Q X := by
  unfold WS
  simp only [dnS]
  rw [if_pos (by unfold lstSlot; rw [hi])]
  refine wp_bnd (wp_mono h ?_ fun _ _ h => h)
  rintro o τ1 ⟨os', e1, e2, q⟩
  unfold onSlot
  rw [e1]
  simp only [appF, e2, if_true]
  exact q
theorem WS.setI {i : Nat} {ix e : E} {Q : Fl → Sto → Prop} (h : Ww T cl cur e τ (fun o τ1 => (∃ os, τ1[i]? = some (some (.lst os))) ∧ Wi T cl cur ix τ1 (fun k τ2 => ∃ a a', τ2[i]? = some (some a) ∧ setIF a k o = some a' ∧ Q .nx (τ2.set i (some a'))) X) X) : WS T cl cur (.setI i ix e) τ Q X := by
  unfold WS
  simp only [dnS]
  refine wp_bnd (wp_mono h ?_ fun _ _ h => h)
  rintro o τ1 ⟨⟨os, e1⟩, h⟩
  rw [if_pos (by unfold lstSlot; rw [e1])]
  refine wp_bnd (wp_mono h ?_ fun _ _ h => h)
  rintro k τ2 ⟨a, a', e2, e3, q⟩
  unfold onSlot
  rw [e2]
  simp only [e3]
  exact q
theorem WS.setA {i f : Nat} {e : E} {Q : Fl → Sto → Prop} (h : Ww T cl cur e τ (fun o τ1 => ∃ a a', τ1[i]? = some (some a) ∧ setAF T a f o = some a' ∧ Q .nx (τ1.set i (some a'))) X) : WS T cl cur (.setA i f e) τ Q X := by
  unfold WS
  simp only [dnS]
  refine wp_bnd (wp_mono h ?_ fun _ _ h => h)
  rintro o τ1 ⟨a, a', e2, e3, q⟩
  unfold onSlot
  rw [e2]
  simp only [e3]
  exact q
theorem WS.aug {i : Nat} {op : Op} {e : E} {o0 : O} {Q : Fl → Sto → Prop} (hi : τ[i]? = some (some o0)) (h : Wv T cl cur e τ (fun r τ1 => ∃ a b z, res τ1 (.slot i) = some a ∧ res τ1 r = some b ∧ augF op a b = some z ∧ i < τ1.length ∧ Q .nx (τ1.set i (some z))) X) : WS T cl cur (.aug i op e) τ Q X := by
  unfold WS
  simp only [dnS]
  rw [hi]
  refine wp_bnd (wp_mono h ?_ fun _ _ h => h)
  rintro r τ1 ⟨a, b, z, e1, e2, e3, e4, q⟩
  unfold doAug
  simp only [e1, e2, e3, put, e4, if_true]
  exact q
theorem WS.asgF {i : Nat} {e : E} {Q : Fl → Sto → Prop} (h : Wd T cl cur e τ (fun d τ1 => i < τ1.length ∧ Q .nx (τ1.set i (some (.val d)))) X) : WS T cl cur (.asgF i e) τ Q X := by
  unfold WS
  simp only [dnS]
  refine wp_bnd (wp_mono h ?_ fun _ _ h => h)
  rintro d τ1 ⟨e4, q⟩
  simp only [put, e4, if_true]
  exact q
theorem WS.augO {i : Nat} {op : Op} {e : E} {o0 : O} {Q : Fl → Sto → Prop} (hi : τ[i]? = some (some o0)) (h : Wv T cl cur e τ (fun r τ1 => noiS T op τ1 i = true ∧ Wbin T cl op (.slot i) r τ1 (fun o τ2 => i < τ2.length ∧ Q .nx (τ2.set i (some o))) X) X) : WS T cl cur (.augO i op e) τ Q X := by
  unfold WS
  simp only [dnS]
  rw [hi]
  refine wp_bnd (wp_mono h ?_ fun _ _ h => h)
  rintro r τ1 ⟨e1, q⟩
  unfold doAugO
  rw [if_pos e1]
  refine wp_bnd (wp_mono q ?_ fun _ _ h => h)
  rintro z τ2 ⟨o, rfl, e4, q⟩
  simp only [putR, put, e4, if_true]
  exact q
/-! ### loops -/
/-- an invariant with a number that falls -/
theorem WS.whl {t : E} {b : B} {Q : Fl → Sto → Prop} (I : Nat → Sto → Prop) {n : Nat} (h0 : I n τ) (hs : ∀ n τ, I n τ → Wt T cl cur t τ (fun k τ1 => Br k (WB T cl cur b τ1 (fun f τ2 => match f with
      | .nx => ∃ m, m < n ∧ I m τ2
      | .ct => ∃ m, m < n ∧ I m τ2
      | .bk => Q .nx τ2
      | .rt o => Q (.rt o) τ2) X) (Q .nx τ1)) X) : WS T cl cur (.whl t b) τ Q X := by
  unfold WS
  rw [whl_S]
  revert h0
  induction n using Nat.strongRecOn generalizing τ with
  | ind n ih =>
    intro h0
    have h := hs n τ h0
    unfold Wt at h
    cases e : (dn T cl cur t).2 τ with
    | bad => rw [e] at h; exact h.elim
    | ex x τ1 =>
      rw [e] at h
      rw [whl_of (n := 0) (.ext e)]
      exact h
    | ok k τ1 =>
      rw [e] at h
      cases k with
      | false =>
        rw [whl_stop e]
        exact h.2 rfl
      | true =>
        have h := h.1 rfl
        unfold WB at h
        cases f : dnB T cl cur b τ1 with
        | bad => rw [f] at h; exact h.elim
        | ex x τ2 =>
          rw [f] at h
          rw [whl_of (n := 0) (.exb e f)]
          exact h
        | ok fl τ2 =>
          rw [f] at h
          cases fl with
          | nx =>
            obtain ⟨m, hm, h⟩ := h
            rw [whl_next e f]
            exact ih m hm h
          | ct =>
            obtain ⟨m, hm, h⟩ := h
            have := ih m hm h
            by_cases hx : ∃ r n, WhR (dn T cl cur t).2 (dnB T cl cur b) n τ2 r
            · obtain ⟨r, n', hr⟩ := hx
              rw [whl_of hr] at this
              rw [whl_of (.cont e f hr)]
              exact this
            · unfold Tw.whl at this
              rw [dif_neg hx] at this
              exact this.elim
          | bk =>
            rw [whl_brk e f]
            exact h
          | rt o =>
            rw [whl_ret e f]
            exact h
theorem WS.for_of {it : It} {tg : List Nat} {b : B} {Q : Fl → Sto → Prop} (hb : ∀ i, it ≠ .bor i) (h : WI T cl cur it τ (fun ds τ1 => Wfor T cl cur tg b ds τ1 Q X) X) : WS T cl cur (.for it tg b) τ Q X := by
  unfold WS
  cases it with
  | bor i => exact (hb i rfl).elim
  | _ =>
    simp only [dnS]
    exact wp_bnd (wp_mono h (fun _ _ h => h) fun _ _ h => h)
theorem WS.for_rng1 {a : E} {tg : List Nat} {b : B} {Q : Fl → Sto → Prop} (h : WI T cl cur (.rng1 a) τ (fun ds τ1 => Wfor T cl cur tg b ds τ1 Q X) X) : WS T cl cur (.for (.rng1 a) tg b) τ Q X := WS.for_of (fun i e => by cases e) h
theorem WS.for_rng2 {a c : E} {tg : List Nat} {b : B} {Q : Fl → Sto → Prop} (h : WI T cl cur (.rng2 a c) τ (fun ds τ1 => Wfor T cl cur tg b ds τ1 Q X) X) : WS T cl cur (.for (.rng2 a c) tg b) τ Q X := WS.for_of (fun i e => by cases e) h
theorem WS.for_seq {a : E} {tg : List Nat} {b : B} {Q : Fl → Sto → Prop} (h : WI T cl cur (.seq a) τ (fun ds τ1 => Wfor T cl cur tg b ds τ1 Q X) X) : WS T cl cur (.for (.seq a) tg b) τ Q X := WS.for_of (fun i e => by cases e) h
theorem WS.for_enum {a : E} {tg : List Nat} {b : B} {Q : Fl → Sto → Prop} (h : WI T cl cur (.enum a) τ (fun ds τ1 => Wfor T cl cur tg b ds τ1 Q X) X) : WS T cl cur (.for (.enum a) tg b) τ Q X := WS.for_of (fun i e => by cases e) h
/-- over a name's own list -/
theorem WS.for_bor {i : Nat} {tg : List Nat} {b : B} {os : List O} {ds : List D} {Q : Fl → Sto → Prop} (hi : τ[i]? = some (some (.lst os))) (hv : vals os = some ds) (h : Wfor T cl cur tg b ds (τ.set i none) (fun f τ1 => τ1[i]? = some none ∧ Q f (τ1.set i (some (.lst os)))) (fun x τ1 => τ1[i]? = some none ∧ X x (τ1.set i (some (.lst os))))) : WS T cl cur (.for (.bor i) tg b) τ Q X := by
  unfold WS
  rw [Tw.for_bor]
  unfold borM
  rw [hi]
  simp only []
  rw [hv]
  simp only []
  unfold Wfor at h
  cases e : forM tg (dnB T cl cur b) ds (τ.set i none) with
  | ok f τ1 =>
    rw [e] at h
    obtain ⟨e1, q⟩ := h
    simp only []
    unfold backB
    rw [e1]
    exact q
  | ex x τ1 =>
    rw [e] at h
    obtain ⟨e1, q⟩ := h
    simp only []
    unfold backB
    rw [e1]
    exact q
  | bad => rw [e] at h; exact h
theorem WS.for_borV {i : Nat} {tg : List Nat} {b : B} {d : D} {ds : List D} {Q : Fl → Sto → Prop} (hi : τ[i]? = some (some (.val d))) (hv : items (.val d) = some ds) (h : Wfor T cl cur tg b ds τ Q X) : WS T cl cur (.for (.bor i) tg b) τ Q X := by
  unfold WS
  rw [Tw.for_bor]
  unfold borM
  rw [hi]
  simp only []
  rw [hv]
  exact h
theorem Wfor.nil {tg : List Nat} {b : B} {Q : Fl → Sto → Prop} (q : Q .nx τ) : Wfor T cl cur tg b [] τ Q X := q
theorem Wfor.cons {tg : List Nat} {b : B} {d : D} {ds : List D} {Q : Fl → Sto → Prop} (hs : setTg τ tg d = some τ1) (h : WB T cl cur b τ1 (fun f τ2 => match f with
      | .nx => Wfor T cl cur tg b ds τ2 Q X
      | .ct => Wfor T cl cur tg b ds τ2 Q X
      | .bk => Q .nx τ2
      | .rt o => Q (.rt o) τ2) X) : Wfor T cl cur tg b (d :: ds) τ Q X := by
  unfold Wfor
  simp only [forM, hs]
  unfold WB at h
  cases e : dnB T cl cur b τ1 with
  | ok f τ2 => rw [e] at h; cases f <;> exact h
  | ex x τ2 => rw [e] at h; exact h
  | bad => rw [e] at h; exact h
/-- an invariant over what is left -/
theorem Wfor.inv {tg : List Nat} {b : B} {ds : List D} {Q : Fl → Sto → Prop} (I : List D → Sto → Prop) (h0 : I ds τ) (hs : ∀ d ds τ, I (d :: ds) τ → ∃ τ1, setTg τ tg d = some τ1 ∧ WB T cl cur b τ1 (fun f τ2 => match f with
      | .nx => I ds τ2
      | .ct => I ds τ2
      | .bk => Q .nx τ2
      | .rt o => Q (.rt o) τ2) X) (he : ∀ τ, I [] τ → Q .nx τ) : Wfor T cl cur tg b ds τ Q X := by
  induction ds generalizing τ with
  | nil => exact he _ h0
  | cons d ds ih =>
    obtain ⟨τ1, e, h⟩ := hs d ds τ h0
    refine Wfor.cons e (wp_mono h ?_ fun _ _ h => h)
    intro f τ2 h
    cases f with
    | nx => exact ih h
    | ct => exact ih h
    | bk => exact h
    | rt o => exact h
/-! ### a def's run -/
/-- what a def's end hands on -/
def Fin (os : List O) (Q : O → List O → Prop) : Fl → Sto → Prop := fun f τ => ∃ os', fins τ 0 os = some os' ∧ (match f with
  | .rt o => Q o os'
  | .nx => Q (.val .non) os'
  | _ => False)
def FinX (os : List O) (X : Exn → List O → Prop) : Exn → Sto → Prop := fun x τ => ∃ os', fins τ 0 os = some os' ∧ X x os'
theorem Fin.rt {os os' : List O} {Q : O → List O → Prop} {o : O} (h : fins τ 0 os = some os') (q : Q o os') : Fin os Q (.rt o) τ := ⟨_, h, q⟩
theorem Fin.nx {os os' : List O} {Q : O → List O → Prop} (h : fins τ 0 os = some os') (q : Q (.val .non) os') : Fin os Q .nx τ := ⟨_, h, q⟩
theorem FinX.mk {os os' : List O} {X : Exn → List O → Prop} {x : Exn} (h : fins τ 0 os = some os') (q : X x os') : FinX os X x τ := ⟨_, h, q⟩
end
theorem run_wf0 {T : Tb} {cl : CallT} {fd : FD} {os : List O} {Q : O → List O → Prop} {X : Exn → List O → Prop} (hl : os.length = fd.np) (ho : ownOk fd.own 0 os = true) (h : wp ((if fd.hot then dnB T badCl (some (cl, false)) fd.body else dnB T cl none fd.body) (os.map some ++ List.replicate (fd.nn - fd.np) none)) (Fin os Q) (FinX os X)) : wf (runF T cl fd os) Q X := by
  unfold runF
  rw [if_pos ⟨hl, ho⟩]
  cases e : (if fd.hot then dnB T badCl (some (cl, false)) fd.body else dnB T cl none fd.body) (os.map some ++ List.replicate (fd.nn - fd.np) none) with
  | bad => rw [e] at h; exact h
  | ex x τ =>
    rw [e] at h
    obtain ⟨os', e1, q⟩ := h
    simp only [e1]
    exact q
  | ok f τ =>
    rw [e] at h
    obtain ⟨os', e1, q⟩ := h
    cases f with
    | rt o => simp only [e1]; exact q
    | nx => simp only [e1]; exact q
    | bk => exact q
    | ct => exact q
theorem run_wf {T : Tb} {cl : CallT} {fd : FD} {os : List O} {Q : O → List O → Prop} {X : Exn → List O → Prop} (hh : fd.hot = false) (hl : os.length = fd.np) (ho : ownOk fd.own 0 os = true) (h : WB T cl none fd.body (os.map some ++ List.replicate (fd.nn - fd.np) none) (Fin os Q) (FinX os X)) : wf (runF T cl fd os) Q X := run_wf0 hl ho (by rw [hh]; exact h)
/-- a def's run, where its number is known -/
theorem call_wf {T : Tb} {ft : Nat → Option FD} {k f : Nat} {fd : FD} {os : List O} {Q : O → List O → Prop} {X : Exn → List O → Prop} (h : ft f = some fd) (hh : fd.hot = false) (hl : os.length = fd.np) (ho : ownOk fd.own 0 os = true) (hb : WB T (callN T ft k) none fd.body (os.map some ++ List.replicate (fd.nn - fd.np) none) (Fin os Q) (FinX os X)) : wf (callN T ft (k + 1) f os) Q X := by
  rw [callN_eq h]
  exact run_wf hh hl ho hb
/-- .. in a suite -/
theorem call_wfH {T : Tb} {ft : Nat → Option FD} {k f : Nat} {fd : FD} {os : List O} {Q : O → List O → Prop} {X : Exn → List O → Prop} (h : ft f = some fd) (hh : fd.hot = true) (hl : os.length = fd.np) (ho : ownOk fd.own 0 os = true) (hb : WB T badCl (some (callN T ft k, false)) fd.body (os.map some ++ List.replicate (fd.nn - fd.np) none) (Fin os Q) (FinX os X)) : wf (callN T ft (k + 1) f os) Q X := by
  rw [callN_eq h]
  exact run_wf0 hl ho (by rw [hh]; exact hb)
section
variable {T : Tb} {cl : CallT} {cur : Option (CallT × Bool)} {τ : Sto} {X : Exn → Sto → Prop}
/-! ### try -/
def Wh (x : Exn) (hs : List Hd) (T : Tb) (τ : Sto) (Q : Fl → Sto → Prop) (X : Exn → Sto → Prop) : Prop := wp (handle T x hs τ) Q X
theorem WS.try {b : B} {hs : Hs} {Q : Fl → Sto → Prop} (h : WB T cl cur b τ Q (fun x τ1 => Wh x (dnH T cl hs) T τ1 Q X)) : WS T cl cur (.try b hs) τ Q X := by
  unfold WS
  simp only [dnS]
  unfold WB at h
  cases e : dnB T cl cur b τ with
  | ok f τ1 => rw [e] at h; exact h
  | ex x τ1 => rw [e] at h; exact h
  | bad => rw [e] at h; exact h
theorem Wh.nil {x : Exn} {Q : Fl → Sto → Prop} (h : X x τ) : Wh x (dnH T cl .nil) T τ Q X := h
theorem Wh.skip {x : Exn} {c : Nat} {i : Option Nat} {b : B} {hs : Hs} {Q : Fl → Sto → Prop} (he : T.exm x.c (.own c) = some false) (h : Wh x (dnH T cl hs) T τ Q X) : Wh x (dnH T cl (.cons c i b hs)) T τ Q X := by
  unfold Wh
  simp only [dnH, handle, he]
  exact h
theorem Wh.take {x : Exn} {c : Nat} {b : B} {hs : Hs} {Q : Fl → Sto → Prop} (he : T.exm x.c (.own c) = some true) (h : WB T badCl (some (cl, false)) b τ Q (fun _ _ => False)) : Wh x (dnH T cl (.cons c none b hs)) T τ Q X := by
  unfold Wh
  simp only [dnH, handle, he, handNo, Option.isSome_none]
  unfold WB at h
  cases e : dnB T badCl (some (cl, false)) b τ with
  | ok f τ1 => rw [e] at h; exact h
  | ex x τ1 => rw [e] at h; exact h.elim
  | bad => rw [e] at h; exact h.elim
theorem Wh.takeN {x : Exn} {c j : Nat} {b : B} {hs : Hs} {Q : Fl → Sto → Prop} (he : T.exm x.c (.own c) = some true) (hj : j < τ.length) (hn : (noXS τ && noXL x.ds) = true) (h : WB T badCl (some (cl, true)) b (τ.set j (some (.val (.exc x.c x.ns x.ds)))) (fun f τ1 => Q f (τ1.set j none)) (fun _ _ => False)) : Wh x (dnH T cl (.cons c (some j) b hs)) T τ Q X := by
  unfold Wh
  simp only [dnH, handle, he, handAs, Option.isSome_some]
  rw [if_pos ⟨hj, hn⟩]
  unfold WB at h
  cases e : dnB T badCl (some (cl, true)) b (τ.set j (some (.val (.exc x.c x.ns x.ds)))) with
  | ok f τ1 => rw [e] at h; exact h
  | ex x τ1 => rw [e] at h; exact h.elim
  | bad => rw [e] at h; exact h.elim
end
end Tw
set_option maxHeartbeats 4000000
/-! The tree walk, part 31: comprehensions by what they make; equations. -/
namespace Tw
open PySem PySem.Spec PyProof.Rows L2 Evl
theorem wp_eq {α : Type} {r : R α} {a : α} {τ : Sto} (h : wp r (fun b τ' => b = a ∧ τ' = τ) nox) : r = .ok a τ := by
  cases r with
  | ok b τ' => obtain ⟨rfl, rfl⟩ := h; rfl
  | ex x τ' => exact h.elim
  | bad => exact h.elim
theorem wp_ok {α : Type} {r : R α} {Q : α → Sto → Prop} (h : wp r Q nox) : ∃ a τ, r = .ok a τ ∧ Q a τ := by
  cases r with
  | ok b τ' => exact ⟨_, _, rfl, h⟩
  | ex x τ' => exact h.elim
  | bad => exact h.elim
theorem wf_eq {r : RF} {o : O} {os : List O} (h : wf r (fun o' os' => o' = o ∧ os' = os) nox) : r = .ok o os := by
  cases r with
  | ok b τ' => obtain ⟨rfl, rfl⟩ := h; rfl
  | ex x τ' => exact h.elim
  | bad => exact h.elim
theorem wf_exn {r : RF} {x : Exn} {os : List O} (h : wf r (fun _ _ => False) (fun y os' => y = x ∧ os' = os)) : r = .ex x os := by
  cases r with
  | ok b τ' => exact h.elim
  | ex y τ' => obtain ⟨rfl, rfl⟩ := h; rfl
  | bad => exact h.elim
/-! ### == on plain data -/
def plD : Nat → D → Bool
  | _, .int _ => true
  | _, .non => true
  | n + 1, .tup xs => xs.all (plD n)
  | n + 1, .lst xs => xs.all (plD n)
  | _, _ => false
theorem toPL_eq (xs : List D) : toPL xs = xs.map toP := by
  induction xs with
  | nil => rfl
  | cons x xs ih => rw [toPL, ih, List.map_cons]
theorem plD_tup {n : Nat} {xs : List D} (h : plD n (.tup xs) = true) : ∃ m, n = m + 1 ∧ ∀ x ∈ xs, plD m x = true := by
  cases n with
  | zero => cases h
  | succ m => exact ⟨m, rfl, List.all_eq_true.mp h⟩
theorem plD_lst {n : Nat} {xs : List D} (h : plD n (.lst xs) = true) : ∃ m, n = m + 1 ∧ ∀ x ∈ xs, plD m x = true := by
  cases n with
  | zero => cases h
  | succ m => exact ⟨m, rfl, List.all_eq_true.mp h⟩
theorem plL_depth {n : Nat} (H : ∀ d, plD n d = true → (toP d).depth ≤ n + 1 ∧ (toP d).canLay0 = true) : ∀ xs : List D, (∀ x ∈ xs, plD n x = true) → PyData.depthAll (toPL xs) ≤ n + 1 ∧ PyData.canLayAll0 (toPL xs) = true
  | [], _ => ⟨by simp [toPL, PyData.depthAll], rfl⟩
  | x :: xs, h => by
    have h1 := H x (h x List.mem_cons_self)
    have h2 := plL_depth H xs fun y hy => h y (List.mem_cons_of_mem _ hy)
    rw [toPL, PyData.depthAll, PyData.canLayAll0, h1.2, h2.2]
    exact ⟨by omega, rfl⟩
theorem plD_depth : ∀ (n : Nat) (d : D), plD n d = true → (toP d).depth ≤ n + 1 ∧ (toP d).canLay0 = true
  | n, d, h => by
    cases d with
    | int i => exact ⟨by simp [toP, PyData.depth], rfl⟩
    | non => exact ⟨by simp [toP, PyData.depth], rfl⟩
    | tup xs =>
      obtain ⟨m, rfl, hx⟩ := plD_tup h
      have := plL_depth (plD_depth m) xs hx
      rw [toP, PyData.depth, PyData.canLay0]
      exact ⟨by omega, this.2⟩
    | lst xs =>
      obtain ⟨m, rfl, hx⟩ := plD_lst h
      have := plL_depth (plD_depth m) xs hx
      rw [toP, PyData.depth, PyData.canLay0]
      exact ⟨by omega, this.2⟩
    | bl b => cases n <;> cases h
    | str x => cases n <;> cases h
    | kls xs => cases n <;> cases h
    | ins c ns xs => cases n <;> cases h
    | exc c ns xs => cases n <;> cases h
    | typ c => cases n <;> cases h
    | dct c xs => cases n <;> cases h
theorem plL_eqv {n : Nat} (H : ∀ a b, plD n a = true → plD n b = true → (PyData.eqv (toP a) (toP b) = true ↔ a = b)) : ∀ xs ys : List D, (∀ x ∈ xs, plD n x = true) → (∀ x ∈ ys, plD n x = true) → (PyData.eqvAll (toPL xs) (toPL ys) = true ↔ xs = ys)
  | [], [], _, _ => by simp [toPL, PyData.eqvAll]
  | [], y :: ys, _, _ => by simp [toPL, PyData.eqvAll]
  | x :: xs, [], _, _ => by simp [toPL, PyData.eqvAll]
  | x :: xs, y :: ys, h, h' => by
    have h1 := H x y (h x List.mem_cons_self) (h' y List.mem_cons_self)
    have h2 := plL_eqv H xs ys (fun y hy => h y (List.mem_cons_of_mem _ hy)) (fun y hy => h' y (List.mem_cons_of_mem _ hy))
    rw [toPL, toPL, PyData.eqvAll, Bool.and_eq_true, h1, h2, List.cons.injEq]
theorem plD_eqv : ∀ (n : Nat) (a b : D), plD n a = true → plD n b = true → (PyData.eqv (toP a) (toP b) = true ↔ a = b)
  | n, a, b, h, h' => by
    have no : ∀ {d : D}, plD n d = true → (∃ i, d = .int i) ∨ d = .non ∨ (∃ xs, d = .tup xs) ∨ ∃ xs, d = .lst xs := by
      intro d h
      cases d with
      | int i => exact .inl ⟨i, rfl⟩
      | non => exact .inr (.inl rfl)
      | tup xs => exact .inr (.inr (.inl ⟨xs, rfl⟩))
      | lst xs => exact .inr (.inr (.inr ⟨xs, rfl⟩))
      | bl b => cases n <;> cases h
      | str x => cases n <;> cases h
      | kls xs => cases n <;> cases h
      | ins c ns xs => cases n <;> cases h
      | exc c ns xs => cases n <;> cases h
      | typ c => cases n <;> cases h
      | dct c xs => cases n <;> cases h
    rcases no h with ⟨i, rfl⟩ | rfl | ⟨xs, rfl⟩ | ⟨xs, rfl⟩ <;> rcases no h' with ⟨j, rfl⟩ | rfl | ⟨ys, rfl⟩ | ⟨ys, rfl⟩
    all_goals first
      | (simp [toP, PyData.eqv]; done)
      | skip
    · obtain ⟨m, rfl, hx⟩ := plD_tup h
      obtain ⟨m', e, hy⟩ := plD_tup h'
      cases e
      rw [toP, toP, PyData.eqv, plL_eqv (plD_eqv m) xs ys hx hy, D.tup.injEq]
    · obtain ⟨m, rfl, hx⟩ := plD_lst h
      obtain ⟨m', e, hy⟩ := plD_lst h'
      cases e
      rw [toP, toP, PyData.eqv, plL_eqv (plD_eqv m) xs ys hx hy, D.lst.injEq]
theorem eqD_sh {a b : D} (ha : plD 60 a = true) (hb : plD 60 b = true) (hn : ∀ i, a ≠ .int i) : eqD a b = some (PyData.eqv (toP a) (toP b)) := by
  have h1 := plD_depth 60 a ha
  have h2 := plD_depth 60 b hb
  have s1 : SeqAt.shaped (toP a) = true := by unfold SeqAt.shaped; rw [h1.2, decide_eq_true (by omega)]; rfl
  have s2 : SeqAt.shaped (toP b) = true := by unfold SeqAt.shaped; rw [h2.2, decide_eq_true (by omega)]; rfl
  cases a with
  | int i => exact absurd rfl (hn i)
  | bl b => cases ha
  | str x => cases ha
  | _ => unfold eqD; simp only [s1, s2, and_self, if_true]
theorem eqD_same {a : D} (ha : plD 60 a = true) : eqD a a = some true := by
  cases e : a with
  | int i => simp [eqD]
  | _ =>
    rw [← e, eqD_sh ha ha (fun i h => by rw [h] at e; cases e)]
    rw [(plD_eqv 60 a a ha ha).mpr rfl]
theorem eqD_diff {a b : D} (ha : plD 60 a = true) (hb : plD 60 b = true) (h : a ≠ b) : eqD a b = some false := by
  have hf : PyData.eqv (toP a) (toP b) = false := by
    cases q : PyData.eqv (toP a) (toP b) with
    | false => rfl
    | true => exact absurd ((plD_eqv 60 a b ha hb).mp q) h
  cases e : a with
  | int i =>
    subst e
    cases b with
    | int j =>
      show some (decide (i = j)) = _
      rw [decide_eq_false fun q => h (by rw [q])]
    | bl b => cases hb
    | str x => cases hb
    | kls xs => cases hb
    | ins c ns xs => cases hb
    | exc c ns xs => cases hb
    | typ c => cases hb
    | dct c xs => cases hb
    | non => rfl
    | tup xs =>
      have h2 := plD_depth 60 _ hb
      have s2 : SeqAt.shaped (toP (.tup xs)) = true := by unfold SeqAt.shaped; rw [h2.2, decide_eq_true (by omega)]; rfl
      unfold eqD
      simp only []
      rw [if_pos ⟨rfl, s2⟩, hf]
    | lst xs =>
      have h2 := plD_depth 60 _ hb
      have s2 : SeqAt.shaped (toP (.lst xs)) = true := by unfold SeqAt.shaped; rw [h2.2, decide_eq_true (by omega)]; rfl
      unfold eqD
      simp only []
      rw [if_pos ⟨rfl, s2⟩, hf]
  | _ => rw [← e, eqD_sh ha hb (fun i h => by rw [h] at e; cases e), hf]
theorem plD_ints (n : Nat) (l : List Int) : plD (n + 1) (.lst (l.map D.int)) = true := List.all_eq_true.mpr fun x hx => by
  obtain ⟨i, _, rfl⟩ := List.mem_map.mp hx
  cases n <;> rfl
theorem plD_intsT (n : Nat) (l : List Int) : plD (n + 1) (.tup (l.map D.int)) = true := List.all_eq_true.mpr fun x hx => by
  obtain ⟨i, _, rfl⟩ := List.mem_map.mp hx
  cases n <;> rfl
theorem ex1 {α : Type} {a : Option α} {o : α} {R : α → Prop} (h : a = some o) (q : R o) : ∃ o, a = some o ∧ R o := ⟨o, h, q⟩
theorem exi {a : Option O} {i : Int} {R : Int → Prop} (h : a = some (vi i)) (q : R i) : ∃ i, a = some (vi i) ∧ R i := ⟨i, h, q⟩
theorem exb {a : Option O} {i : Bool} {R : Bool → Prop} (h : a = some (vb i)) (q : R i) : ∃ i, a = some (vb i) ∧ R i := ⟨i, h, q⟩
theorem exv {a : Option O} {i : D} {R : D → Prop} (h : a = some (.val i)) (q : R i) : ∃ i, a = some (.val i) ∧ R i := ⟨i, h, q⟩
theorem exli {a : Option O} {i : Int} {R : Int → Prop} (h : a = some (vi i)) (h1 : -4611686018427387904 < i) (h2 : i < 4611686018427387904) (q : R i) : ∃ i, a = some (vi i) ∧ -4611686018427387904 < i ∧ i < 4611686018427387904 ∧ R i := ⟨i, h, h1, h2, q⟩
theorem ex2 {α β : Type} {a : Option α} {f : α → Option β} {o : α} {z : β} {R : β → Prop} (h : a = some o) (h2 : f o = some z) (q : R z) : ∃ o z, a = some o ∧ f o = some z ∧ R z := ⟨o, z, h, h2, q⟩
theorem ex3 {α β γ : Type} {a : Option α} {b : Option β} {f : α → β → Option γ} {o : α} {p : β} {z : γ} {R : γ → Prop} (h : a = some o) (h1 : b = some p) (h2 : f o p = some z) (q : R z) : ∃ o p z, a = some o ∧ b = some p ∧ f o p = some z ∧ R z := ⟨o, p, z, h, h1, h2, q⟩
theorem exapp {a : Option (Option O)} {os : List O} {R : List O → Prop} (h : a = some (some (.lst os))) (h1 : os.length < lim) (q : R os) : ∃ os, a = some (some (.lst os)) ∧ os.length < lim ∧ R os := ⟨os, h, h1, q⟩
theorem exnew {l os : List O} {o : O} {R : O → List O → Prop} (h : l = o :: os) (q : R o os) : ∃ o os2, l = o :: os2 ∧ R o os2 := ⟨o, os, h, q⟩
theorem exset {a : Option (Option O)} {f : O → Option O} {o z : O} {R : O → Prop} (h : a = some (some o)) (h1 : f o = some z) (q : R z) : ∃ o z, a = some (some o) ∧ f o = some z ∧ R z := ⟨o, z, h, h1, q⟩
theorem exsetI {a : Option (Option O)} {os : List O} {R : Prop} (h : a = some (some (.lst os))) (q : R) : (∃ os, a = some (some (.lst os))) ∧ R := ⟨⟨os, h⟩, q⟩
theorem exaug {a b : Option O} {f : O → O → Option O} {o p z : O} {i n : Nat} {R : O → Prop} (h : a = some o) (h1 : b = some p) (h2 : f o p = some z) (h3 : i < n) (q : R z) : ∃ o p z, a = some o ∧ b = some p ∧ f o p = some z ∧ i < n ∧ R z := ⟨o, p, z, h, h1, h2, h3, q⟩
section
variable {T : Tb} {cl : CallT} {cur : Option (CallT × Bool)} {τ : Sto} {X : Exn → Sto → Prop}
/-- what a comprehension makes of one item -/
def Item (T : Tb) (cl : CallT) (cur : Option (CallT × Bool)) (tg ow : List Nat) (c e : E) (τ : Sto) (p : D → Bool) (g : D → D) (d : D) : Prop :=
  ∃ τ2, setTg τ tg d = some τ2 ∧ Wt T cl cur c τ2 (fun k τ3 => k = p d ∧ (p d = false → wipeS τ3 ow = τ) ∧ (p d = true → Wd T cl cur e τ3 (fun d' τ4 => d' = g d ∧ wipeS τ4 ow = τ) nox)) nox
theorem Wo.compr (p : D → Bool) (g : D → D) {ow tg : List Nat} {it : It} {c e : E} {Q : O → Sto → Prop} (h : WI T cl cur it τ (fun ds τ1 => ds.length ≤ lim ∧ (∀ d ∈ ds, Item T cl cur tg ow c e (wipeS τ1 ow) p g d) ∧
    Q (.lst (((ds.filter p).map g).map .val)) (restS (wipeS τ1 ow) τ1 ow)) X) : Wo T cl cur (.comp ow it tg c e) τ Q X := by
  refine Wo.comp (wp_mono h ?_ fun _ _ h => h)
  rintro ds τ1 ⟨hl, hi, q⟩
  refine ⟨_, _, compM_map (p := p) (g := g) ?_ (by simpa using hl), ?_⟩
  · intro d hd
    obtain ⟨τ2, e1, h⟩ := hi d hd
    obtain ⟨k, τ3, e2, e3, h3, h4⟩ := wp_ok h
    subst e3
    refine ⟨τ2, τ3, e1, e2, h3, fun hp => ?_⟩
    obtain ⟨d', τ4, e5, rfl, h6⟩ := wp_ok (h4 hp)
    exact ⟨τ4, e5, h6⟩
  · rw [List.nil_append]
    exact q
theorem Item.all {tg ow : List Nat} {e : E} {g : D → D} {d : D} {τ2 : Sto} (hs : setTg τ tg d = some τ2) (h : Wd T cl cur e τ2 (fun d' τ4 => d' = g d ∧ wipeS τ4 ow = τ) nox) : Item T cl cur tg ow (.bl true) e τ (fun _ => true) g d :=
  ⟨τ2, hs, Wt.bl ⟨rfl, fun q => (by cases q), fun _ => h⟩⟩
/-- no test -/
theorem Wo.compa (g : D → D) {ow tg : List Nat} {it : It} {e : E} {Q : O → Sto → Prop} (h : WI T cl cur it τ (fun ds τ1 => ds.length ≤ lim ∧ (∀ d ∈ ds, Item T cl cur tg ow (.bl true) e (wipeS τ1 ow) (fun _ => true) g d) ∧
    Q (.lst ((ds.map g).map .val)) (restS (wipeS τ1 ow) τ1 ow)) X) : Wo T cl cur (.comp ow it tg (.bl true) e) τ Q X := by
  refine Wo.compr (fun _ => true) g (wp_mono h ?_ fun _ _ h => h)
  rintro ds τ1 ⟨hl, hi, q⟩
  refine ⟨hl, hi, ?_⟩
  rw [List.filter_eq_self.mpr (fun _ _ => rfl)]
  exact q
/-- a loop over a range -/
theorem Wfor.rng {tg : List Nat} {b : B} {lo hi : Int} {Q : Fl → Sto → Prop} (I : Int → Sto → Prop) (h0 : I lo τ) (hl : lo ≤ hi) (hs : ∀ i τ, lo ≤ i → i < hi → I i τ → ∃ τ1, setTg τ tg (.int i) = some τ1 ∧ WB T cl cur b τ1 (fun f τ2 => match f with
      | .nx => I (i + 1) τ2
      | .ct => I (i + 1) τ2
      | .bk => Q .nx τ2
      | .rt o => Q (.rt o) τ2) X) (he : ∀ τ, I hi τ → Q .nx τ) : Wfor T cl cur tg b (rngL lo hi) τ Q X := by
  refine Wfor.inv (fun ds τ => ∃ i, lo ≤ i ∧ i ≤ hi ∧ ds = rngL i hi ∧ I i τ) ⟨lo, Int.le_refl _, hl, rfl, h0⟩ ?_ ?_
  · rintro d ds τ ⟨i, h1, h2, h3, h4⟩
    by_cases h : i < hi
    · rw [rngL_cons h] at h3
      cases h3
      obtain ⟨τ1, e, w⟩ := hs i τ h1 h h4
      refine ⟨τ1, e, wp_mono w (fun f τ2 q => ?_) fun _ _ h => h⟩
      cases f with
      | nx => exact ⟨i + 1, by omega, by omega, rfl, q⟩
      | ct => exact ⟨i + 1, by omega, by omega, rfl, q⟩
      | bk => exact q
      | rt o => exact q
    · rw [rngL_end (by omega)] at h3
      cases h3
  · rintro τ ⟨i, h1, h2, h3, h4⟩
    by_cases h : i < hi
    · rw [rngL_cons h] at h3
      cases h3
    · have : i = hi := by omega
      rw [this] at h4
      exact he τ h4
end
end Tw
set_option maxHeartbeats 4000000
/-! The tree walk, part 32: rules for slices, methods of a text, f-strings. -/
namespace Tw
open PySem
section
variable {T : Tb} {cl : CallT} {cur : Option (CallT × Bool)} {τ : Sto} {X : Exn → Sto → Prop}
/-- a slice's bound -/
def Wb (T : Tb) (cl : CallT) (cur : Option (CallT × Bool)) (e : E) (τ : Sto) (Q : Option Int → Sto → Prop) (X : Exn → Sto → Prop) : Prop := wp ((if isNonE e then noPart else optM (dn T cl cur e).1) τ) Q X
theorem Wb.non {Q : Option Int → Sto → Prop} (q : Q none τ) : Wb T cl cur .non τ Q X := q
theorem Wb.of {e : E} {Q : Option Int → Sto → Prop} (hn : isNonE e = false) (h : Wv T cl cur e τ (fun r τ1 => ∃ i, res τ1 r = some (vi i) ∧ Q (some i) τ1) X) : Wb T cl cur e τ Q X := by
  unfold Wb
  rw [hn]
  show wp (optM (dn T cl cur e).1 τ) Q X
  unfold optM
  refine wp_bnd (wp_mono h ?_ fun _ _ h => h)
  rintro r τ' ⟨i, e1, q⟩
  simp only [e1]
  exact q
theorem Wo.slice {a lo hi : E} {Q : O → Sto → Prop} (h : Wv T cl cur a τ (fun x τ1 => Wb T cl cur lo τ1 (fun l τ2 => Wb T cl cur hi τ2 (fun h τ3 => ∃ o z, res τ3 x = some o ∧ sliF l h o = some z ∧ Q z τ3) X) X) X) : Wo T cl cur (.slice a lo hi) τ Q X := by
  unfold Wo
  simp only [dn]
  refine wp_bnd (wp_mono h (fun x _ h => wp_bnd (wp_mono h (fun l _ h => wp_bnd (wp_mono h ?_ fun _ _ h => h)) fun _ _ h => h)) fun _ _ h => h)
  rintro z τ' ⟨o, w, e1, e2, q⟩
  unfold Tw.un
  simp only [e1, e2]
  exact ⟨_, rfl, q⟩
theorem Wo.dig {a : E} {Q : O → Sto → Prop} (h : Wv T cl cur a τ (fun x τ1 => ∃ d z, res τ1 x = some (.val d) ∧ d = .str z ∧ Q (vb (Txt.isdigit z)) τ1) X) : Wo T cl cur (.smeth 0 a .nil) τ Q X := by
  unfold Wo
  simp only [dn, dns]
  refine wp_bnd (wp_mono h ?_ fun _ _ h => h)
  rintro x τ' ⟨d, z, e1, rfl, q⟩
  unfold bnd isStrM smR Tw.un
  simp only [e1, digF]
  exact ⟨_, rfl, q⟩
theorem Wt.smeth {a : E} {m : Nat} {as : Es} {Q : Bool → Sto → Prop} (h : Wo T cl cur (.smeth m a as) τ (fun o τ' => ∃ b, truF o = some b ∧ Q b τ') X) : Wt T cl cur (.smeth m a as) τ Q X := by
  unfold Wt; unfold Wo at h; simp only [dn] at *; exact Wt_tru h
theorem Wo.spl {a e : E} {Q : O → Sto → Prop} (h : Wv T cl cur a τ (fun x τ1 => ∃ d z, res τ1 x = some (.val d) ∧ d = .str z ∧ Wv T cl cur e τ1 (fun y τ2 => ∃ o p w, res τ2 x = some o ∧ res τ2 y = some p ∧ splF o p = some w ∧ Q w τ2) X) X) : Wo T cl cur (.smeth 1 a (.cons e .nil)) τ Q X := by
  unfold Wo
  simp only [dn, dns]
  refine wp_bnd (wp_mono h ?_ fun _ _ h => h)
  rintro x τ' ⟨d, z, e1, rfl, hh⟩
  have e2 : isStrM x τ' = .ok () τ' := by
    unfold isStrM
    simp only [e1]
  refine wp_bnd ?_
  rw [e2]
  show wp (bnd (bnd (opd (dn T cl cur e).1) fun r => bnd (fun τ => .ok [] τ) fun rs τ => .ok (r :: rs) τ) (fun rs => smR 1 x rs) τ') _ X
  refine wp_bnd (wp_bnd (wp_mono hh ?_ fun _ _ h => h))
  rintro y τ2 ⟨o, p, w, e3, e4, e5, q⟩
  show wp (smR 1 x [y] τ2) _ X
  unfold smR two
  simp only [e3, e4, e5]
  exact ⟨_, rfl, q⟩
def Wj (T : Tb) (cl : CallT) (cur : Option (CallT × Bool)) (es : Es) (acc : Str) (τ : Sto) (Q : O → Sto → Prop) (X : Exn → Sto → Prop) : Prop := wp (dnj T cl cur es acc τ) (fun r τ' => ∃ o, r = .own o ∧ Q o τ') X
theorem Wj.nil {acc : Str} {Q : O → Sto → Prop} (q : Q (.val (.str acc)) τ) : Wj T cl cur .nil acc τ Q X := ⟨_, rfl, q⟩
theorem Wj.cons {e : E} {es : Es} {acc : Str} {Q : O → Sto → Prop} (h : Wv T cl cur e τ (fun r τ1 => ∃ o y, res τ1 r = some o ∧ fmtO (some o) = some y ∧ y.length ≤ lim ∧ (acc ++ y).length ≤ lim ∧ Wj T cl cur es (acc ++ y) τ1 Q X) X) : Wj T cl cur (.cons e es) acc τ Q X := by
  unfold Wj
  simp only [dnj]
  unfold catM
  refine wp_bnd (wp_mono h ?_ fun _ _ h => h)
  rintro r τ' ⟨o, y, e1, e2, h1, h2, q⟩
  rw [e1]
  simp only [e2]
  rw [if_pos ⟨h1, h2⟩]
  exact q
theorem Wo.fstr {es : Es} {Q : O → Sto → Prop} (h : Wj T cl cur es Str.empty τ Q X) : Wo T cl cur (.fstr es) τ Q X := by
  unfold Wo
  simp only [dn]
  exact h
theorem exstr {d : D} {z : Str} {R : Str → Prop} (h : d = .str z) (q : R z) : ∃ z, d = .str z ∧ R z := ⟨z, h, q⟩
theorem exds {a : Option O} {d : D} {z : Str} {R : Str → Prop} (h : a = some (.val d)) (h1 : d = .str z) (q : R z) : ∃ d z, a = some (.val d) ∧ d = .str z ∧ R z := ⟨d, z, h, h1, q⟩
theorem Br.tE {A B : Prop} {k : Bool} (e : k = true) (h : A) : Br k A B := by subst e; exact Br.t h
theorem Br.fE {A B : Prop} {k : Bool} (e : k = false) (h : B) : Br k A B := by subst e; exact Br.f h
theorem exfm {a : Option O} {o : O} {y acc : Str} {R : Str → Prop} (h : a = some o) (h2 : fmtO (some o) = some y) (h3 : y.length ≤ lim) (h4 : (acc ++ y).length ≤ lim) (q : R y) : ∃ o y, a = some o ∧ fmtO (some o) = some y ∧ y.length ≤ lim ∧ (acc ++ y).length ≤ lim ∧ R y := ⟨o, y, h, h2, h3, h4, q⟩
theorem exmeth {g : Nat → Nat → Option Nat} {m : Nat} {a : Option O} {o : O} {cn : Nat × List Nat} {f : Nat} {R : Nat → Prop} (h1 : a = some o) (h2 : insOf o = some cn) (h3 : g cn.1 m = some f) (h4 : cn.2.contains m = false) (q : R f) : ∃ o cn f, a = some o ∧ insOf o = some cn ∧ g cn.1 m = some f ∧ cn.2.contains m = false ∧ R f := ⟨o, cn, f, h1, h2, h3, h4, q⟩
theorem exvb {o : O} {b : Bool} {R : Bool → Prop} (h : o = vb b) (q : R b) : ∃ k, o = vb k ∧ R k := ⟨b, h, q⟩
theorem add_str {a b : Str} (h : a.length + b.length ≤ lim) : binF .add (.val (.str a)) (.val (.str b)) = some (.val (.str (a ++ b))) := if_pos ⟨rfl, h⟩
theorem eqS_t {a b : Str} (h : a = b) : eqD (.str a) (.str b) = some true := by
  subst h
  exact congrArg some (decide_eq_true rfl)
theorem eqS_f {a b : Str} (h : ¬ a = b) : eqD (.str a) (.str b) = some false := congrArg some (decide_eq_false h)
theorem sli_str {t : Str} {l h : Option Int} (hl : t.length ≤ lim) : sliF l h (.val (.str t)) = some (.val (.str (L2.cutS t l h))) := if_pos hl
/-- one sign of a text, or none -/
def on (t : Str) (i : Nat) : Str := ⟨((TL.tl t)[i]?.toList).toArray⟩
theorem take_one {α : Type} : ∀ (l : List α) (k : Nat), (l.drop k).take 1 = l[k]?.toList
  | [], k => by simp
  | a :: l, 0 => by simp
  | a :: l, k + 1 => by
    rw [List.drop_succ_cons, take_one l k]
    rfl
theorem cut_on {t : Str} {i : Int} {k : Nat} (h : i = (k : Int)) : L2.cutS t (some i) (some (i + 1)) = on t k := by
  subst h
  unfold L2.cutS on
  have e : ((k : Int) + 1) = ((k + 1 : Nat) : Int) := by omega
  rw [e, HT.sIx_nat, HT.sIx_nat]
  have hl : (TL.tl t).length = t.length := (TL.len_tl t).symm
  show (⟨(((TL.tl t).drop (min k t.length)).take (min (k + 1) t.length - min k t.length)).toArray⟩ : Str) = _
  congr 2
  rw [← take_one]
  by_cases h : k + 1 ≤ t.length
  · rw [Nat.min_eq_left (show k ≤ t.length by omega), Nat.min_eq_left h, show k + 1 - k = 1 by omega]
  · rw [Nat.min_eq_right (show t.length ≤ k by omega), Nat.min_eq_right (show t.length ≤ k + 1 by omega), Nat.sub_self, List.take_zero, List.drop_eq_nil_of_le (by omega), List.take_nil]
theorem on_some {t : Str} {k c : Nat} (h : (TL.tl t)[k]? = some c) : on t k = ⟨#[c]⟩ := by
  unfold on
  rw [h]
  rfl
theorem on_none {t : Str} {k : Nat} (h : (TL.tl t)[k]? = none) : on t k = Str.empty := by
  unfold on
  rw [h]
  rfl
theorem dig_one {c : Nat} (h : c < 128) : Txt.isdigit ⟨#[c]⟩ = decide (48 ≤ c ∧ c ≤ 57) := by
  revert c
  decide +kernel
theorem dig_empty : Txt.isdigit Str.empty = false := by decide +kernel
end
end Tw
set_option maxHeartbeats 4000000
/-! The tree walk, part 33: more rules. -/
namespace Tw
open PySem
section
variable {T : Tb} {cl : CallT} {cur : Option (CallT × Bool)} {τ : Sto} {X : Exn → Sto → Prop}
theorem Wo.negV {i : Nat} {o : O} {c : Nat} {Q : O → Sto → Prop} (h : τ[i]? = some (some o)) (hc : clsOf o = some c) (q : Wuna T cl .neg c (.slot i) τ Q X) : Wo T cl cur (.neg (.var i)) τ Q X := by
  refine Wo.negO (Wv.var h ⟨o, c, ?_, hc, q⟩)
  show (match τ[i]? with
    | some (some o) => some o
    | _ => none) = _
  rw [h]
end
end Tw
set_option maxHeartbeats 4000000
namespace L01
section
open PySem Tw
local macro_rules | `(tactic| tm_at "nrm") => `(tactic| try dsimp only [List.set_cons_zero, List.set_cons_succ, frz, frzL, isNon, Bool.not_true, Bool.not_false, List.map, List.append_eq, List.nil_append, List.cons_append, Tw.res, ress, List.replicate, List.length_cons, List.length_nil])
local macro_rules | `(tactic| tm_at "bd") => `(tactic| first
  | assumption
  | ((with_reducible refine Bd.mul ?_ ?_) <;> tm_at "bd")
  | ((with_reducible refine Bd.add ?_ ?_) <;> tm_at "bd")
  | ((with_reducible refine Bd.sub ?_ ?_) <;> tm_at "bd")
  | ((with_reducible refine Bd.neg ?_) <;> tm_at "bd")
  | ((with_reducible refine Bd.abs ?_) <;> tm_at "bd")
  | exact (show Bd 64 _ from by unfold Bd; omega)
  | exact (show Bd 2000 _ from by unfold Bd; decide +kernel))
local macro_rules | `(tactic| tm_at "lt0") => `(tactic| first | assumption | omega | decide +kernel)
local macro_rules | `(tactic| tm_at "twcall") => `(tactic| fail)
local macro_rules | `(tactic| tm_at "twitm") => `(tactic| fail)
local macro_rules | `(tactic| tm_at "twset") => `(tactic| fail)
local macro_rules | `(tactic| tm_at "twlen") => `(tactic| first | (simp only [List.length_map, List.length_cons, List.length_nil, lim]; omega) | omega)
local macro_rules | `(tactic| tm_at "twcon") => `(tactic| exact rfl)
local macro_rules | `(tactic| tm_at "twsub") => `(tactic| fail)
local macro_rules | `(tactic| tm_at "twblt") => `(tactic| fail)
local macro_rules | `(tactic| tm_at "tweq") => `(tactic| fail)
local macro_rules | `(tactic| tm_at "prune") => `(tactic| try ((have hf : False := (by omega)); contradiction))
local macro_rules | `(tactic| tm_at "twuser") => `(tactic| fail)
local macro_rules | `(tactic| tm_at "tw1") => `(tactic| first | ((with_reducible refine And.intro ?hl ?_); (case hl => first | exact Nat.le_of_ble_eq_true rfl | exact Nat.eq_of_beq_eq_true rfl | exact (show _ = _ from rfl) | assumption); tm_at "nrm") | fail)
local macro_rules | `(tactic| tm_at "tw1") => `(tactic| first | ((with_reducible refine ex1 (by with_unfolding_all (first | tm_at "twitm" | exact rfl)) ?_); tm_at "nrm") | fail)
local macro_rules | `(tactic| tm_at "tw1") => `(tactic| first | ((with_reducible refine exv (by with_unfolding_all (exact rfl)) ?_); tm_at "nrm") | fail)
local macro_rules | `(tactic| tm_at "tw1") => `(tactic| first | ((with_reducible refine ex2 (by with_unfolding_all (exact rfl)) (by with_unfolding_all (tm_at "nrm"; first | tm_at "twblt" | exact rfl)) ?_); tm_at "nrm") | fail)
local macro_rules | `(tactic| tm_at "tw1") => `(tactic| first | ((with_reducible refine exset (by with_unfolding_all (exact rfl)) (by with_unfolding_all (tm_at "nrm"; first | tm_at "twset" | exact rfl)) ?_); tm_at "nrm") | fail)
local macro_rules | `(tactic| tm_at "tw1") => `(tactic| first | ((with_reducible refine ex3 (by with_unfolding_all (exact rfl)) (by with_unfolding_all (exact rfl)) (by with_unfolding_all (tm_at "nrm"; first | tm_at "twsub" | exact rfl)) ?_); tm_at "nrm") | fail)
local macro_rules | `(tactic| tm_at "tw1") => `(tactic| first | ((with_reducible refine exaug (by with_unfolding_all (exact rfl)) (by with_unfolding_all (exact rfl)) (by with_unfolding_all (exact rfl)) (by with_unfolding_all (exact Nat.le_of_ble_eq_true rfl)) ?_); tm_at "nrm") | fail)
local macro_rules | `(tactic| tm_at "tw1") => `(tactic| first | ((with_reducible refine exsetI (by with_unfolding_all (exact rfl)) ?_)) | fail)
local macro_rules | `(tactic| tm_at "tw1") => `(tactic| first | ((with_reducible refine exapp (by with_unfolding_all (exact rfl)) (by with_unfolding_all (tm_at "twlen")) ?_); tm_at "nrm") | fail)
local macro_rules | `(tactic| tm_at "tw1") => `(tactic| first | ((with_reducible refine exb (by with_unfolding_all (exact rfl)) ?_); tm_at "nrm") | fail)
local macro_rules | `(tactic| tm_at "tw1") => `(tactic| first | ((with_reducible refine exi (by with_unfolding_all (exact rfl)) ?_); tm_at "nrm") | fail)
local macro_rules | `(tactic| tm_at "tw1") => `(tactic| first | ((with_reducible refine exnew (by with_unfolding_all (exact rfl)) ?_); tm_at "nrm") | fail)
local macro_rules | `(tactic| tm_at "tw1") => `(tactic| first | ((with_reducible refine exli (by with_unfolding_all (exact rfl)) (by with_unfolding_all (omega)) (by with_unfolding_all (omega)) ?_)) | fail)
local macro_rules | `(tactic| tm_at "tw1") => `(tactic| first | ((with_reducible refine FinX.mk (by with_unfolding_all (exact rfl)) ?_); tm_at "nrm") | fail)
local macro_rules | `(tactic| tm_at "tw1") => `(tactic| first | ((with_reducible refine Fin.nx (by with_unfolding_all (exact rfl)) ?_); tm_at "nrm") | fail)
local macro_rules | `(tactic| tm_at "tw1") => `(tactic| first | ((with_reducible refine Fin.rt (by with_unfolding_all (exact rfl)) ?_); tm_at "nrm") | fail)
local macro_rules | `(tactic| tm_at "tw1") => `(tactic| first | (with_reducible refine Wh.nil ?_) | fail)
local macro_rules | `(tactic| tm_at "tw1") => `(tactic| first | ((with_reducible refine Wh.take (by with_unfolding_all (exact rfl)) ?_)) | fail)
local macro_rules | `(tactic| tm_at "tw1") => `(tactic| first | ((with_reducible refine Wh.takeN (by with_unfolding_all (exact rfl)) (by with_unfolding_all (exact Nat.le_of_ble_eq_true rfl)) (by with_unfolding_all (exact rfl)) ?_); tm_at "nrm") | fail)
local macro_rules | `(tactic| tm_at "tw1") => `(tactic| first | ((with_reducible refine Wh.skip (by with_unfolding_all (exact rfl)) ?_)) | fail)
local macro_rules | `(tactic| tm_at "tw1") => `(tactic| first | ((with_reducible refine Wcall.of (by with_unfolding_all (exact rfl)) ?_); tm_at "nrm"; tm_at "twcall") | fail)
local macro_rules | `(tactic| tm_at "tw1") => `(tactic| first | with_reducible refine Br.fE (by with_unfolding_all (exact rfl)) ?_ | fail)
local macro_rules | `(tactic| tm_at "tw1") => `(tactic| first | with_reducible refine Br.tE (by with_unfolding_all (exact rfl)) ?_ | fail)
local macro_rules | `(tactic| tm_at "tw1") => `(tactic| first | with_reducible refine Br.f ?_ | fail)
local macro_rules | `(tactic| tm_at "tw1") => `(tactic| first | with_reducible refine Br.t ?_ | fail)
local macro_rules | `(tactic| tm_at "tw1") => `(tactic| first | ((with_reducible refine Br.dec ?_ ?_) <;> intro hbr <;> tm_at "prune") | fail)
local macro_rules | `(tactic| tm_at "tw1") => `(tactic| first | with_reducible refine Br.fE (by with_reducible assumption) ?_ | fail)
local macro_rules | `(tactic| tm_at "tw1") => `(tactic| first | with_reducible refine Br.tE (by with_reducible assumption) ?_ | fail)
local macro_rules | `(tactic| tm_at "tw1") => `(tactic| first | with_reducible refine Br.not ?_ | fail)
local macro_rules | `(tactic| tm_at "tw1") => `(tactic| first | ((with_reducible refine Wnew.of (by with_unfolding_all (exact rfl)) (by with_unfolding_all (exact rfl)) ?_); tm_at "nrm"; tm_at "twcall") | fail)
local macro_rules | `(tactic| tm_at "tw1") => `(tactic| first | ((with_reducible refine Wuna.of (by with_unfolding_all (exact rfl)) ?_)) | fail)
local macro_rules | `(tactic| tm_at "tw1") => `(tactic| first | ((with_reducible refine Wblt.own (by with_unfolding_all (exact rfl)) (by with_unfolding_all (exact rfl)) (by with_unfolding_all (exact rfl)) ?_)) | fail)
local macro_rules | `(tactic| tm_at "tw1") => `(tactic| first | ((with_reducible refine Wblt.gen (by with_unfolding_all (exact rfl)) (by with_unfolding_all (exact rfl)) (by with_unfolding_all (tm_at "nrm"; first | tm_at "twblt" | exact rfl)) ?_); tm_at "nrm") | fail)
local macro_rules | `(tactic| tm_at "tw1") => `(tactic| first | ((with_reducible refine Wcmp.deqR (by with_unfolding_all (exact rfl)) (by with_unfolding_all (exact rfl)) (by with_unfolding_all (exact rfl)) (by with_unfolding_all (exact rfl)) (by with_unfolding_all (exact rfl)) ?_)) | fail)
local macro_rules | `(tactic| tm_at "tw1") => `(tactic| first | ((with_reducible refine Wcmp.deq (by with_unfolding_all (exact rfl)) (by with_unfolding_all (exact rfl)) (by with_unfolding_all (exact rfl)) (by with_unfolding_all (exact rfl)) (by with_unfolding_all (exact rfl)) ?_)) | fail)
local macro_rules | `(tactic| tm_at "tw1") => `(tactic| first | ((with_reducible refine Wcmp.gen (by with_unfolding_all (exact rfl)) (by with_unfolding_all (exact rfl)) (by with_unfolding_all (exact rfl)) (by with_unfolding_all (exact rfl)) (by with_unfolding_all (exact rfl)) ?_); tm_at "nrm") | fail)
local macro_rules | `(tactic| tm_at "tw1") => `(tactic| first | ((with_reducible refine Wcmp.ne (by with_unfolding_all (exact rfl)) (by with_unfolding_all (exact rfl)) (by with_unfolding_all (exact rfl)) (by with_unfolding_all (exact rfl)) (by with_unfolding_all (tm_at "tweq")) ?_)) | fail)
local macro_rules | `(tactic| tm_at "tw1") => `(tactic| first | ((with_reducible refine Wcmp.eq (by with_unfolding_all (exact rfl)) (by with_unfolding_all (exact rfl)) (by with_unfolding_all (exact rfl)) (by with_unfolding_all (exact rfl)) (by with_unfolding_all (tm_at "tweq")) ?_)) | fail)
local macro_rules | `(tactic| tm_at "tw1") => `(tactic| first | ((with_reducible refine Wcmp.nei (by with_unfolding_all (exact rfl)) (by with_unfolding_all (exact rfl)) ?_)) | fail)
local macro_rules | `(tactic| tm_at "tw1") => `(tactic| first | ((with_reducible refine Wcmp.eqi (by with_unfolding_all (exact rfl)) (by with_unfolding_all (exact rfl)) ?_)) | fail)
local macro_rules | `(tactic| tm_at "tw1") => `(tactic| first | ((with_reducible refine Wcmp.ge (by with_unfolding_all (exact rfl)) (by with_unfolding_all (exact rfl)) ?_)) | fail)
local macro_rules | `(tactic| tm_at "tw1") => `(tactic| first | ((with_reducible refine Wcmp.gt (by with_unfolding_all (exact rfl)) (by with_unfolding_all (exact rfl)) ?_)) | fail)
local macro_rules | `(tactic| tm_at "tw1") => `(tactic| first | ((with_reducible refine Wcmp.le (by with_unfolding_all (exact rfl)) (by with_unfolding_all (exact rfl)) ?_)) | fail)
local macro_rules | `(tactic| tm_at "tw1") => `(tactic| first | ((with_reducible refine Wcmp.lt (by with_unfolding_all (exact rfl)) (by with_unfolding_all (exact rfl)) ?_)) | fail)
local macro_rules | `(tactic| tm_at "tw1") => `(tactic| first | ((with_reducible refine Wbin.fdivN (by with_unfolding_all (exact rfl)) (by with_unfolding_all (exact rfl)) (by with_unfolding_all (tm_at "lt0")) (by with_unfolding_all (tm_at "bd")) (by with_unfolding_all (decide)) ?_)) | fail)
local macro_rules | `(tactic| tm_at "tw1") => `(tactic| first | ((with_reducible refine Wbin.rdn (by with_unfolding_all (exact rfl)) (by with_unfolding_all (exact rfl)) (by with_unfolding_all (exact rfl)) (by with_unfolding_all (exact rfl)) ?_)) | fail)
local macro_rules | `(tactic| tm_at "tw1") => `(tactic| first | ((with_reducible refine Wbin.dun (by with_unfolding_all (exact rfl)) (by with_unfolding_all (exact rfl)) (by with_unfolding_all (exact rfl)) (by with_unfolding_all (exact rfl)) (by with_unfolding_all (exact rfl)) ?_)) | fail)
local macro_rules | `(tactic| tm_at "tw1") => `(tactic| first | ((with_reducible refine Wbin.pow (by with_unfolding_all (exact rfl)) (by with_unfolding_all (exact rfl)) (by with_unfolding_all (decide +kernel)) (by with_unfolding_all (tm_at "twpow")) ?_)) | fail)
local macro_rules | `(tactic| tm_at "tw1") => `(tactic| first | ((with_reducible refine Wbin.mod (by with_unfolding_all (exact rfl)) (by with_unfolding_all (exact rfl)) (by with_unfolding_all (tm_at "lt0")) ?_)) | fail)
local macro_rules | `(tactic| tm_at "tw1") => `(tactic| first | ((with_reducible refine Wbin.fdiv (by with_unfolding_all (exact rfl)) (by with_unfolding_all (exact rfl)) (by with_unfolding_all (tm_at "lt0")) (by with_unfolding_all (tm_at "bd")) (by with_unfolding_all (decide)) ?_)) | fail)
local macro_rules | `(tactic| tm_at "tw1") => `(tactic| first | ((with_reducible refine Wbin.mul (by with_unfolding_all (exact rfl)) (by with_unfolding_all (exact rfl)) (by with_unfolding_all (tm_at "bd")) (by with_unfolding_all (tm_at "bd")) (by with_unfolding_all (decide)) ?_)) | fail)
local macro_rules | `(tactic| tm_at "tw1") => `(tactic| first | ((with_reducible refine Wbin.sub (by with_unfolding_all (exact rfl)) (by with_unfolding_all (exact rfl)) ?_)) | fail)
local macro_rules | `(tactic| tm_at "tw1") => `(tactic| first | ((with_reducible refine Wbin.add (by with_unfolding_all (exact rfl)) (by with_unfolding_all (exact rfl)) ?_)) | fail)
local macro_rules | `(tactic| tm_at "tw1") => `(tactic| first | with_reducible refine Wfor.nil ?_ | fail)
local macro_rules | `(tactic| tm_at "tw1") => `(tactic| first | with_reducible refine WS.try ?_ | fail)
local macro_rules | `(tactic| tm_at "tw1") => `(tactic| first | with_reducible refine WS.for_enum ?_ | fail)
local macro_rules | `(tactic| tm_at "tw1") => `(tactic| first | with_reducible refine WS.for_seq ?_ | fail)
local macro_rules | `(tactic| tm_at "tw1") => `(tactic| first | with_reducible refine WS.for_rng2 ?_ | fail)
local macro_rules | `(tactic| tm_at "tw1") => `(tactic| first | with_reducible refine WS.for_rng1 ?_ | fail)
local macro_rules | `(tactic| tm_at "tw1") => `(tactic| first | ((with_reducible refine WS.augO (by with_unfolding_all (exact rfl)) ?_)) | fail)
local macro_rules | `(tactic| tm_at "tw1") => `(tactic| first | ((with_reducible refine WS.raise (by with_unfolding_all (exact rfl)) ?_)) | fail)
local macro_rules | `(tactic| tm_at "tw1") => `(tactic| first | ((with_reducible refine WS.aug (by with_unfolding_all (exact rfl)) ?_)) | fail)
local macro_rules | `(tactic| tm_at "tw1") => `(tactic| first | with_reducible refine WS.setA ?_ | fail)
local macro_rules | `(tactic| tm_at "tw1") => `(tactic| first | with_reducible refine WS.setI ?_ | fail)
local macro_rules | `(tactic| tm_at "tw1") => `(tactic| first | ((with_reducible refine WS.app (by with_unfolding_all (exact rfl)) ?_)) | fail)
local macro_rules | `(tactic| tm_at "tw1") => `(tactic| first | with_reducible refine WS.cont ?_ | fail)
local macro_rules | `(tactic| tm_at "tw1") => `(tactic| first | with_reducible refine WS.brk ?_ | fail)
local macro_rules | `(tactic| tm_at "tw1") => `(tactic| first | with_reducible refine WS.pass ?_ | fail)
local macro_rules | `(tactic| tm_at "tw1") => `(tactic| first | with_reducible refine WS.retN ?_ | fail)
local macro_rules | `(tactic| tm_at "tw1") => `(tactic| first | with_reducible refine WS.asgT ?_ | fail)
local macro_rules | `(tactic| tm_at "tw1") => `(tactic| first | with_reducible refine WS.asgF ?_ | fail)
local macro_rules | `(tactic| tm_at "tw1") => `(tactic| first | with_reducible refine WI.enum ?_ | fail)
local macro_rules | `(tactic| tm_at "tw1") => `(tactic| first | with_reducible refine WI.seq ?_ | fail)
local macro_rules | `(tactic| tm_at "tw1") => `(tactic| first | with_reducible refine WI.rng2 ?_ | fail)
local macro_rules | `(tactic| tm_at "tw1") => `(tactic| first | with_reducible refine WI.rng1 ?_ | fail)
local macro_rules | `(tactic| tm_at "tw1") => `(tactic| first | with_reducible refine Wi.of ?_ | fail)
local macro_rules | `(tactic| tm_at "tw1") => `(tactic| first | with_reducible refine Wk.nil ?_ | fail)
local macro_rules | `(tactic| tm_at "tw1") => `(tactic| first | with_reducible refine Wk.cons ?_ | fail)
local macro_rules | `(tactic| tm_at "tw1") => `(tactic| first | with_reducible refine Ws.nil ?_ | fail)
local macro_rules | `(tactic| tm_at "tw1") => `(tactic| first | with_reducible refine Ws.cons ?_ | fail)
local macro_rules | `(tactic| tm_at "tw1") => `(tactic| first | with_reducible refine Wd.of ?_ | fail)
local macro_rules | `(tactic| tm_at "tw1") => `(tactic| first | ((with_reducible refine exfm (by with_unfolding_all (exact rfl)) (by with_unfolding_all (tm_at "nrm"; first | tm_at "twblt" | exact rfl)) (by with_unfolding_all (tm_at "twlen")) (by with_unfolding_all (tm_at "twlen")) ?_); tm_at "nrm") | fail)
local macro_rules | `(tactic| tm_at "tw1") => `(tactic| first | ((with_reducible refine exds (by with_unfolding_all (exact rfl)) (by with_unfolding_all (exact rfl)) ?_); tm_at "nrm") | fail)
local macro_rules | `(tactic| tm_at "tw1") => `(tactic| first | ((with_reducible refine Wbin.gen (by with_unfolding_all (exact rfl)) (by with_unfolding_all (exact rfl)) (by with_unfolding_all (exact rfl)) (by with_unfolding_all (exact rfl)) (by with_unfolding_all (exact add_str (by tm_at "twlen"))) ?_)) | fail)
local macro_rules | `(tactic| tm_at "tw1") => `(tactic| first | ((with_reducible refine exvb (by with_unfolding_all (exact rfl)) ?_); tm_at "nrm") | fail)
local macro_rules | `(tactic| tm_at "tw1") => `(tactic| first | ((with_reducible refine exmeth (by with_unfolding_all (exact rfl)) (by with_unfolding_all (exact rfl)) (by with_unfolding_all (exact rfl)) (by with_unfolding_all (exact rfl)) ?_); tm_at "nrm") | fail)
local macro_rules | `(tactic| tm_at "tw1") => `(tactic| first | with_reducible refine Wj.cons ?_ | fail)
local macro_rules | `(tactic| tm_at "tw1") => `(tactic| first | with_reducible refine Wj.nil ?_ | fail)
local macro_rules | `(tactic| tm_at "tw1") => `(tactic| first | with_reducible refine Wo.fstr ?_ | fail)
local macro_rules | `(tactic| tm_at "tw1") => `(tactic| first | with_reducible refine Wo.spl ?_ | fail)
local macro_rules | `(tactic| tm_at "tw1") => `(tactic| first | with_reducible refine Wo.dig ?_ | fail)
local macro_rules | `(tactic| tm_at "tw1") => `(tactic| first | with_reducible refine Wb.of (by with_unfolding_all (exact rfl)) ?_ | fail)
local macro_rules | `(tactic| tm_at "tw1") => `(tactic| first | with_reducible refine Wb.non ?_ | fail)
local macro_rules | `(tactic| tm_at "tw1") => `(tactic| first | with_reducible refine Wo.slice ?_ | fail)
local macro_rules | `(tactic| tm_at "tw1") => `(tactic| first | with_reducible refine Wt.smeth ?_ | fail)
local macro_rules | `(tactic| tm_at "tw1") => `(tactic| first | with_reducible refine Wt.attr ?_ | fail)
local macro_rules | `(tactic| tm_at "tw1") => `(tactic| first | with_reducible refine Wt.stat ?_ | fail)
local macro_rules | `(tactic| tm_at "tw1") => `(tactic| first | with_reducible refine Wt.hcall ?_ | fail)
local macro_rules | `(tactic| tm_at "tw1") => `(tactic| first | with_reducible refine Wt.prop ?_ | fail)
local macro_rules | `(tactic| tm_at "tw1") => `(tactic| first | with_reducible refine Wt.meth ?_ | fail)
local macro_rules | `(tactic| tm_at "tw1") => `(tactic| first | with_reducible refine Wt.blt ?_ | fail)
local macro_rules | `(tactic| tm_at "tw1") => `(tactic| first | with_reducible refine Wt.sub ?_ | fail)
local macro_rules | `(tactic| tm_at "tw1") => `(tactic| first | with_reducible refine Wt.bin ?_ | fail)
local macro_rules | `(tactic| tm_at "tw1") => `(tactic| first | with_reducible refine Wt.isin ?_ | fail)
local macro_rules | `(tactic| tm_at "tw1") => `(tactic| first | with_reducible refine Wt.callK ?_ | fail)
local macro_rules | `(tactic| tm_at "tw1") => `(tactic| first | with_reducible refine Wt.call ?_ | fail)
local macro_rules | `(tactic| tm_at "tw1") => `(tactic| first | with_reducible refine Wt.chain ?_ | fail)
local macro_rules | `(tactic| tm_at "tw1") => `(tactic| first | with_reducible refine Wt.bl ?_ | fail)
local macro_rules | `(tactic| tm_at "tw1") => `(tactic| first | with_reducible refine Wt.not ?_ | fail)
local macro_rules | `(tactic| tm_at "tw1") => `(tactic| first | with_reducible refine Wt.or ?_ | fail)
local macro_rules | `(tactic| tm_at "tw1") => `(tactic| first | with_reducible refine Wt.and ?_ | fail)
local macro_rules | `(tactic| tm_at "tw1") => `(tactic| first | with_reducible refine Wt.cmp ?_ | fail)
local macro_rules | `(tactic| tm_at "tw1") => `(tactic| first | ((with_reducible refine Wt.var (by with_unfolding_all (exact rfl)) (by with_unfolding_all (exact rfl)) ?_)) | fail)
local macro_rules | `(tactic| tm_at "tw1") => `(tactic| first | with_reducible refine Wo.chain ?_ | fail)
local macro_rules | `(tactic| tm_at "tw1") => `(tactic| first | with_reducible refine Wo.attr ?_ | fail)
local macro_rules | `(tactic| tm_at "tw1") => `(tactic| first | ((with_reducible refine Wo.con (by with_unfolding_all (tm_at "twcon")) ?_)) | fail)
local macro_rules | `(tactic| tm_at "tw1") => `(tactic| first | with_reducible refine Wo.str ?_ | fail)
local macro_rules | `(tactic| tm_at "tw1") => `(tactic| first | with_reducible refine Wo.ite ?_ | fail)
local macro_rules | `(tactic| tm_at "tw1") => `(tactic| first | with_reducible refine Wo.lst ?_ | fail)
local macro_rules | `(tactic| tm_at "tw1") => `(tactic| first | with_reducible refine Wo.tup ?_ | fail)
local macro_rules | `(tactic| tm_at "tw1") => `(tactic| first | with_reducible refine Wo.callK ?_ | fail)
local macro_rules | `(tactic| tm_at "tw1") => `(tactic| first | with_reducible refine Wo.isin ?_ | fail)
local macro_rules | `(tactic| tm_at "tw1") => `(tactic| first | with_reducible refine Wo.not ?_ | fail)
local macro_rules | `(tactic| tm_at "tw1") => `(tactic| first | with_reducible refine Wo.neg ?_ | fail)
local macro_rules | `(tactic| tm_at "tw1") => `(tactic| first | ((with_reducible refine Wo.negV (by with_unfolding_all (exact rfl)) (by with_unfolding_all (exact rfl)) ?_)) | fail)
local macro_rules | `(tactic| tm_at "tw1") => `(tactic| first | with_reducible refine Wo.cmp ?_ | fail)
local macro_rules | `(tactic| tm_at "tw1") => `(tactic| first | with_reducible refine Wo.sub ?_ | fail)
local macro_rules | `(tactic| tm_at "tw1") => `(tactic| first | with_reducible refine Wo.newK ?_ | fail)
local macro_rules | `(tactic| tm_at "tw1") => `(tactic| first | with_reducible refine Wo.new ?_ | fail)
local macro_rules | `(tactic| tm_at "tw1") => `(tactic| first | ((with_reducible refine Wo.hcall (by with_unfolding_all (exact rfl)) ?_)) | fail)
local macro_rules | `(tactic| tm_at "tw1") => `(tactic| first | ((with_reducible refine Wo.stat (by with_unfolding_all (exact rfl)) ?_)) | fail)
local macro_rules | `(tactic| tm_at "tw1") => `(tactic| first | with_reducible refine Wo.prop ?_ | fail)
local macro_rules | `(tactic| tm_at "tw1") => `(tactic| first | with_reducible refine Wo.meth ?_ | fail)
local macro_rules | `(tactic| tm_at "tw1") => `(tactic| first | with_reducible refine Wo.blt ?_ | fail)
local macro_rules | `(tactic| tm_at "tw1") => `(tactic| first | with_reducible refine Wo.call ?_ | fail)
local macro_rules | `(tactic| tm_at "tw1") => `(tactic| first | with_reducible refine Wo.bin ?_ | fail)
local macro_rules | `(tactic| tm_at "tw1") => `(tactic| first | with_reducible refine Wo.non ?_ | fail)
local macro_rules | `(tactic| tm_at "tw1") => `(tactic| first | with_reducible refine Wo.bl ?_ | fail)
local macro_rules | `(tactic| tm_at "tw1") => `(tactic| first | with_reducible refine Wo.int ?_ | fail)
local macro_rules | `(tactic| tm_at "tw1") => `(tactic| first | with_reducible refine Wv.of ?_ | fail)
local macro_rules | `(tactic| tm_at "tw1") => `(tactic| first | with_reducible refine Wv.ite ?_ | fail)
local macro_rules | `(tactic| tm_at "tw1") => `(tactic| first | with_reducible refine Wv.or ?_ | fail)
local macro_rules | `(tactic| tm_at "tw1") => `(tactic| first | with_reducible refine Wv.and ?_ | fail)
local macro_rules | `(tactic| tm_at "tw1") => `(tactic| first | ((with_reducible refine Wv.var (by with_unfolding_all (exact rfl)) ?_)) | fail)
local macro_rules | `(tactic| tm_at "tw1") => `(tactic| first | with_reducible refine Ww.of ?_ | fail)
local macro_rules | `(tactic| tm_at "tw1") => `(tactic| first | with_reducible refine Ww.ite ?_ | fail)
local macro_rules | `(tactic| tm_at "tw1") => `(tactic| first | with_reducible refine Ww.or ?_ | fail)
local macro_rules | `(tactic| tm_at "tw1") => `(tactic| first | with_reducible refine Ww.and ?_ | fail)
local macro_rules | `(tactic| tm_at "tw1") => `(tactic| first | ((with_reducible refine Ww.mov (by with_unfolding_all (exact rfl)) ?_); tm_at "nrm") | fail)
local macro_rules | `(tactic| tm_at "tw1") => `(tactic| first | ((with_reducible refine Ww.var (by with_unfolding_all (exact rfl)) ?_); tm_at "nrm") | fail)
local macro_rules | `(tactic| tm_at "tw1") => `(tactic| first | with_reducible refine WS.ret ?_ | fail)
local macro_rules | `(tactic| tm_at "tw1") => `(tactic| first | with_reducible refine WS.expr ?_ | fail)
local macro_rules | `(tactic| tm_at "tw1") => `(tactic| first | with_reducible refine WS.ite ?_ | fail)
local macro_rules | `(tactic| tm_at "tw1") => `(tactic| first | with_reducible refine WS.asg ?_ | fail)
local macro_rules | `(tactic| tm_at "tw1") => `(tactic| first | with_reducible refine WB.nil ?_ | fail)
local macro_rules | `(tactic| tm_at "tw1") => `(tactic| first | with_reducible refine WB.cons ?_ | fail)
local macro_rules | `(tactic| tm_at "tw1") => `(tactic| first | tm_at "twuser" | fail)

set_option maxHeartbeats 4000000
/-! k01, the plain law: the law's own draws. -/
section
open PySem Tw
theorem ft_25 : sta.ft 25 = some d_f__law_pool := rfl
theorem ft_26 : sta.ft 26 = some d_f__law_draw := rfl
theorem vals_int (P : List Int) : vals (P.map vi) = some (P.map D.int) := by
  rw [show P.map vi = (P.map D.int).map O.val from by rw [List.map_map]; rfl, vals_map]
theorem sub_int {P : List Int} {i : Nat} (h : i < P.length) : subF (.lst (P.map vi)) (vi (i : Int)) = some (vi P[i]) := by
  show (match items (.lst (P.map vi)) with
    | some xs => (L2.atI xs (i : Int)).map O.val
    | none => none) = _
  rw [show items (.lst (P.map vi)) = vals (P.map vi) from rfl, vals_int]
  simp only []
  rw [atI_nat (by rw [List.length_map]; exact h)]
  simp
theorem setF_int {P : List Int} {i : Nat} {x : Int} (h : i < P.length) : setIF (.lst (P.map vi)) (i : Int) (vi x) = some (.lst ((P.set i x).map vi)) := by
  unfold setIF
  simp only []
  rw [ixN_nat (by rw [List.length_map]; exact h)]
  simp [List.map_set]
theorem setF_last {P : List Int} {x : Int} (h : 0 < P.length) : setIF (.lst (P.map vi)) (-1) (vi x) = some (.lst ((P.set (P.length - 1) x).map vi)) := by
  unfold setIF
  simp only []
  rw [ixN_last (by rw [List.length_map]; exact h)]
  simp [List.map_set]
/-- a pool -/
structure Pool (P : List Int) : Prop where
  len : 2 ≤ P.length ∧ P.length ≤ 100
  pos : ∀ x ∈ P, 0 ≤ x
theorem Pool.set {P : List Int} (h : Pool P) {i : Nat} {x : Int} (hx : 0 ≤ x) : Pool (P.set i x) := by
  refine ⟨by rw [List.length_set]; exact h.len, fun y hy => ?_⟩
  rcases List.mem_or_eq_of_mem_set hy with z | z
  · exact h.pos y z
  · rw [z]; exact hx
theorem draw_loop {cl : CallT} {P : List Int} (hP : Pool P) {size : Int} (hs : 0 < size) (hl : size.natAbs.log2 < 9000) {x3 : Option O} : ∀ {m i : Nat} {x2 : Option O}, i + m = P.length → 1 ≤ i →
    (∃ t P' x2', 0 ≤ t ∧ t < size ∧ Pool P' ∧ forM [2] (dnB sta.T cl none fb_f__law_draw_1) (rngL (i : Int) (P.length : Int)) [some (.lst (P.map vi)), some (vi size), x2, x3] = .ok (.rt (vi t)) [some (.lst (P'.map vi)), some (vi size), x2', none]) ∨
    ∃ x2', forM [2] (dnB sta.T cl none fb_f__law_draw_1) (rngL (i : Int) (P.length : Int)) [some (.lst (P.map vi)), some (vi size), x2, x3] = .ok .nx [some (.lst (P.map vi)), some (vi size), x2', x3]
  | 0, i, x2, h, h1 => .inr ⟨x2, by rw [rngL_end (by omega)]; rfl⟩
  | m + 1, i, x2, h, h1 => by
    have hi : i < P.length := by omega
    have hsub := sub_int hi
    have hp := hP.pos P[i] (List.getElem_mem hi)
    rw [rngL_cons (by omega)]
    have hst : setTg [some (.lst (P.map vi)), some (vi size), x2, x3] [2] (.int (i : Int)) = some [some (.lst (P.map vi)), some (vi size), some (vi (i : Int)), x3] := rfl
    by_cases hx : 0 < P[i]
    · left
      refine ⟨P[i] % size, P.set i (P[i] / size), some (vi i), Int.emod_nonneg _ (by omega), Int.emod_lt_of_pos _ hs, hP.set (Int.ediv_nonneg hp (by omega)), ?_⟩
      refine forM_rt hst ?_
      have c1 : (dn sta.T cl none (.cmp .gt (.sub (.var 0) (.var 2)) (.int 0))).2 [some (.lst (P.map vi)), some (vi size), some (vi (i : Int)), x3] = .ok true [some (.lst (P.map vi)), some (vi size), some (vi (i : Int)), x3] := by
        simp only [runF, doBlt, doNeg, negF, noCls, List.all_cons, List.all_nil, List.all_eq_true, Option.isNone_none, ownOk, isVal, fins, dnB, dnS, seq2, dn, dns, dnk, bnd, opd, own, ownD, Tw.ev, tst, res, ress, Tw.take, Tw.back, doCall, doBin, doCmp, clsOf, binF, binI, cmpF, cmpII, cmpI, isNon, truF, tru, isB, un, two, many, biF, frz, put, List.getElem?_cons_zero, List.getElem?_cons_succ, List.getElem?_nil, List.set_cons_zero, List.set_cons_succ, List.map_cons, List.map_nil, List.cons_append, List.nil_append, List.replicate, Option.map_some, Option.map_none, List.length_cons, List.length_nil, List.contains_cons, List.contains_nil, Bool.and_true, Bool.true_and, Bool.or_true, Bool.true_or, Bool.false_or, Bool.or_false, Bool.and_false, Bool.false_and, if_true, if_false, decide_true, decide_false, Bool.false_eq_true, and_self, and_true, true_and, and_false, false_and, Bool.not_true, Bool.not_false, beq_self_eq_true, Nat.reduceAdd, Nat.reduceSub, reduceIte, reduceCtorEq, Nat.reduceBEq, Nat.reduceEqDiff, Nat.reduceLT, hsub, hx]
      have c2 : dnS sta.T cl none (.asg 3 (.bin .mod (.blt .int (.cons (.sub (.var 0) (.var 2)) .nil)) (.var 1))) [some (.lst (P.map vi)), some (vi size), some (vi (i : Int)), x3] = .ok .nx [some (.lst (P.map vi)), some (vi size), some (vi (i : Int)), some (vi (P[i] % size))] := by
        simp only [runF, doBlt, doNeg, negF, noCls, List.all_cons, List.all_nil, List.all_eq_true, Option.isNone_none, ownOk, isVal, fins, dnB, dnS, seq2, dn, dns, dnk, bnd, opd, own, ownD, Tw.ev, tst, res, ress, Tw.take, Tw.back, doCall, doBin, doCmp, clsOf, binF, binI, cmpF, cmpII, cmpI, isNon, truF, tru, isB, un, two, many, biF, frz, put, List.getElem?_cons_zero, List.getElem?_cons_succ, List.getElem?_nil, List.set_cons_zero, List.set_cons_succ, List.map_cons, List.map_nil, List.cons_append, List.nil_append, List.replicate, Option.map_some, Option.map_none, List.length_cons, List.length_nil, List.contains_cons, List.contains_nil, Bool.and_true, Bool.true_and, Bool.or_true, Bool.true_or, Bool.false_or, Bool.or_false, Bool.and_false, Bool.false_and, if_true, if_false, decide_true, decide_false, Bool.false_eq_true, and_self, and_true, true_and, and_false, false_and, Bool.not_true, Bool.not_false, beq_self_eq_true, Nat.reduceAdd, Nat.reduceSub, reduceIte, reduceCtorEq, Nat.reduceBEq, Nat.reduceEqDiff, Nat.reduceLT, hsub, hs]
      have c3 : dnS sta.T cl none (.setI 0 (.var 2) (.bin .fdiv (.sub (.var 0) (.var 2)) (.var 1))) [some (.lst (P.map vi)), some (vi size), some (vi (i : Int)), some (vi (P[i] % size))] = .ok .nx [some (.lst ((P.set i (P[i] / size)).map vi)), some (vi size), some (vi (i : Int)), some (vi (P[i] % size))] :=
        setI_ok (τ1 := [some (.lst (P.map vi)), some (vi size), some (vi (i : Int)), some (vi (P[i] % size))]) (τ2 := [some (.lst (P.map vi)), some (vi size), some (vi (i : Int)), some (vi (P[i] % size))]) (o := vi (P[i] / size)) (by simp only [runF, doBlt, doNeg, negF, noCls, List.all_cons, List.all_nil, List.all_eq_true, Option.isNone_none, ownOk, isVal, fins, dnB, dnS, seq2, dn, dns, dnk, bnd, opd, own, ownD, Tw.ev, tst, res, ress, Tw.take, Tw.back, doCall, doBin, doCmp, clsOf, binF, binI, cmpF, cmpII, cmpI, isNon, truF, tru, isB, un, two, many, biF, frz, put, List.getElem?_cons_zero, List.getElem?_cons_succ, List.getElem?_nil, List.set_cons_zero, List.set_cons_succ, List.map_cons, List.map_nil, List.cons_append, List.nil_append, List.replicate, Option.map_some, Option.map_none, List.length_cons, List.length_nil, List.contains_cons, List.contains_nil, Bool.and_true, Bool.true_and, Bool.or_true, Bool.true_or, Bool.false_or, Bool.or_false, Bool.and_false, Bool.false_and, if_true, if_false, decide_true, decide_false, Bool.false_eq_true, and_self, and_true, true_and, and_false, false_and, Bool.not_true, Bool.not_false, beq_self_eq_true, Nat.reduceAdd, Nat.reduceSub, reduceIte, reduceCtorEq, Nat.reduceBEq, Nat.reduceEqDiff, Nat.reduceLT, hsub, hs, hl]) rfl
          (intM_ok (r := .slot 2) (by simp only [runF, doBlt, doNeg, negF, noCls, List.all_cons, List.all_nil, List.all_eq_true, Option.isNone_none, ownOk, isVal, fins, dnB, dnS, seq2, dn, dns, dnk, bnd, opd, own, ownD, Tw.ev, tst, res, ress, Tw.take, Tw.back, doCall, doBin, doCmp, clsOf, binF, binI, cmpF, cmpII, cmpI, isNon, truF, tru, isB, un, two, many, biF, frz, put, List.getElem?_cons_zero, List.getElem?_cons_succ, List.getElem?_nil, List.set_cons_zero, List.set_cons_succ, List.map_cons, List.map_nil, List.cons_append, List.nil_append, List.replicate, Option.map_some, Option.map_none, List.length_cons, List.length_nil, List.contains_cons, List.contains_nil, Bool.and_true, Bool.true_and, Bool.or_true, Bool.true_or, Bool.false_or, Bool.or_false, Bool.and_false, Bool.false_and, if_true, if_false, decide_true, decide_false, Bool.false_eq_true, and_self, and_true, true_and, and_false, false_and, Bool.not_true, Bool.not_false, beq_self_eq_true, Nat.reduceAdd, Nat.reduceSub, reduceIte, reduceCtorEq, Nat.reduceBEq, Nat.reduceEqDiff, Nat.reduceLT]) rfl (by have := hP.len; omega) (by have := hP.len; omega)) rfl (setF_int hi)
      have c4 : dnS sta.T cl none (.ret (.mov 3)) [some (.lst ((P.set i (P[i] / size)).map vi)), some (vi size), some (vi (i : Int)), some (vi (P[i] % size))] = .ok (.rt (vi (P[i] % size))) [some (.lst ((P.set i (P[i] / size)).map vi)), some (vi size), some (vi (i : Int)), none] := by
        simp only [runF, doBlt, doNeg, negF, noCls, List.all_cons, List.all_nil, List.all_eq_true, Option.isNone_none, ownOk, isVal, fins, dnB, dnS, seq2, dn, dns, dnk, bnd, opd, own, ownD, Tw.ev, tst, res, ress, Tw.take, Tw.back, doCall, doBin, doCmp, clsOf, binF, binI, cmpF, cmpII, cmpI, isNon, truF, tru, isB, un, two, many, biF, frz, put, List.getElem?_cons_zero, List.getElem?_cons_succ, List.getElem?_nil, List.set_cons_zero, List.set_cons_succ, List.map_cons, List.map_nil, List.cons_append, List.nil_append, List.replicate, Option.map_some, Option.map_none, List.length_cons, List.length_nil, List.contains_cons, List.contains_nil, Bool.and_true, Bool.true_and, Bool.or_true, Bool.true_or, Bool.false_or, Bool.or_false, Bool.and_false, Bool.false_and, if_true, if_false, decide_true, decide_false, Bool.false_eq_true, and_self, and_true, true_and, and_false, false_and, Bool.not_true, Bool.not_false, beq_self_eq_true, Nat.reduceAdd, Nat.reduceSub, reduceIte, reduceCtorEq, Nat.reduceBEq, Nat.reduceEqDiff, Nat.reduceLT]
      unfold fb_f__law_draw_1
      exact cons_rt ((ite_t c1).trans ((cons_ok c2).trans ((cons_ok c3).trans (cons_rt c4))))
    · have c1 : (dn sta.T cl none (.cmp .gt (.sub (.var 0) (.var 2)) (.int 0))).2 [some (.lst (P.map vi)), some (vi size), some (vi (i : Int)), x3] = .ok false [some (.lst (P.map vi)), some (vi size), some (vi (i : Int)), x3] := by
        simp only [runF, doBlt, doNeg, negF, noCls, List.all_cons, List.all_nil, List.all_eq_true, Option.isNone_none, ownOk, isVal, fins, dnB, dnS, seq2, dn, dns, dnk, bnd, opd, own, ownD, Tw.ev, tst, res, ress, Tw.take, Tw.back, doCall, doBin, doCmp, clsOf, binF, binI, cmpF, cmpII, cmpI, isNon, truF, tru, isB, un, two, many, biF, frz, put, List.getElem?_cons_zero, List.getElem?_cons_succ, List.getElem?_nil, List.set_cons_zero, List.set_cons_succ, List.map_cons, List.map_nil, List.cons_append, List.nil_append, List.replicate, Option.map_some, Option.map_none, List.length_cons, List.length_nil, List.contains_cons, List.contains_nil, Bool.and_true, Bool.true_and, Bool.or_true, Bool.true_or, Bool.false_or, Bool.or_false, Bool.and_false, Bool.false_and, if_true, if_false, decide_true, decide_false, Bool.false_eq_true, and_self, and_true, true_and, and_false, false_and, Bool.not_true, Bool.not_false, beq_self_eq_true, Nat.reduceAdd, Nat.reduceSub, reduceIte, reduceCtorEq, Nat.reduceBEq, Nat.reduceEqDiff, Nat.reduceLT, hsub, hx]
      have cb : dnB sta.T cl none fb_f__law_draw_1 [some (.lst (P.map vi)), some (vi size), some (vi (i : Int)), x3] = .ok .nx [some (.lst (P.map vi)), some (vi size), some (vi (i : Int)), x3] := by
        unfold fb_f__law_draw_1
        rw [cons_ok (τ1 := [some (.lst (P.map vi)), some (vi size), some (vi (i : Int)), x3]) ((ite_f c1).trans (by simp only [dnB]))]
        simp only [dnB]
      have ih := draw_loop (cl := cl) hP hs hl (x3 := x3) (m := m) (i := i + 1) (x2 := some (vi (i : Int))) (by omega) (by omega)
      rw [forM_nx hst cb]
      exact ih
end
set_option maxHeartbeats 4000000
/-! k01, the plain law: the draw, whole. -/
section
open PySem Tw
theorem len_int (P : List Int) : items (.lst (P.map vi)) = some (P.map D.int) := by
  rw [show items (.lst (P.map vi)) = vals (P.map vi) from rfl, vals_int]
theorem s_draw {k : Nat} (hk : 1 ≤ k) {P : List Int} (hP : Pool P) {size : Int} (hs : 0 < size) (hl : size.natAbs.log2 < 9000) :
    ∃ t P', 0 ≤ t ∧ t < size ∧ Pool P' ∧ callN sta.T sta.ft k 26 [.lst (P.map vi), vi size] = .ok (vi t) [.lst (P'.map vi), vi size] := by
  obtain ⟨j, rfl⟩ : ∃ j, k = j + 1 := ⟨k - 1, by omega⟩
  have h0 : 0 < P.length := by have := hP.len; omega
  have hsub : subF (.lst (P.map vi)) (vi 0) = some (vi P[0]) := sub_int (i := 0) h0
  have hp0 := hP.pos P[0] (List.getElem_mem h0)
  have s1 : dnS sta.T (callN sta.T sta.ft j) none (.setI 0 (.int 0) (.bin .add (.sub (.var 0) (.int 0)) (.int 1))) [some (.lst (P.map vi)), some (vi size), none, none] = .ok .nx [some (.lst ((P.set 0 (P[0] + 1)).map vi)), some (vi size), none, none] :=
    setI_ok (τ1 := [some (.lst (P.map vi)), some (vi size), none, none]) (τ2 := [some (.lst (P.map vi)), some (vi size), none, none]) (o := vi (P[0] + 1)) (by simp only [runF, doBlt, doNeg, negF, noCls, List.all_cons, List.all_nil, List.all_eq_true, Option.isNone_none, ownOk, isVal, fins, dnB, dnS, seq2, dn, dns, dnk, bnd, opd, own, ownD, Tw.ev, tst, res, ress, Tw.take, Tw.back, doCall, doBin, doCmp, clsOf, binF, binI, cmpF, cmpII, cmpI, isNon, truF, tru, isB, un, two, many, biF, frz, put, List.getElem?_cons_zero, List.getElem?_cons_succ, List.getElem?_nil, List.set_cons_zero, List.set_cons_succ, List.map_cons, List.map_nil, List.cons_append, List.nil_append, List.replicate, Option.map_some, Option.map_none, List.length_cons, List.length_nil, List.contains_cons, List.contains_nil, Bool.and_true, Bool.true_and, Bool.or_true, Bool.true_or, Bool.false_or, Bool.or_false, Bool.and_false, Bool.false_and, if_true, if_false, decide_true, decide_false, Bool.false_eq_true, and_self, and_true, true_and, and_false, false_and, Bool.not_true, Bool.not_false, beq_self_eq_true, Nat.reduceAdd, Nat.reduceSub, reduceIte, reduceCtorEq, Nat.reduceBEq, Nat.reduceEqDiff, Nat.reduceLT, hsub]) rfl
      (intM_ok (r := .own (vi 0)) (by simp only [runF, doBlt, doNeg, negF, noCls, List.all_cons, List.all_nil, List.all_eq_true, Option.isNone_none, ownOk, isVal, fins, dnB, dnS, seq2, dn, dns, dnk, bnd, opd, own, ownD, Tw.ev, tst, res, ress, Tw.take, Tw.back, doCall, doBin, doCmp, clsOf, binF, binI, cmpF, cmpII, cmpI, isNon, truF, tru, isB, un, two, many, biF, frz, put, List.getElem?_cons_zero, List.getElem?_cons_succ, List.getElem?_nil, List.set_cons_zero, List.set_cons_succ, List.map_cons, List.map_nil, List.cons_append, List.nil_append, List.replicate, Option.map_some, Option.map_none, List.length_cons, List.length_nil, List.contains_cons, List.contains_nil, Bool.and_true, Bool.true_and, Bool.or_true, Bool.true_or, Bool.false_or, Bool.or_false, Bool.and_false, Bool.false_and, if_true, if_false, decide_true, decide_false, Bool.false_eq_true, and_self, and_true, true_and, and_false, false_and, Bool.not_true, Bool.not_false, beq_self_eq_true, Nat.reduceAdd, Nat.reduceSub, reduceIte, reduceCtorEq, Nat.reduceBEq, Nat.reduceEqDiff, Nat.reduceLT]) rfl (by decide) (by decide)) rfl (setF_int (i := 0) h0)
  have hP1 : Pool (P.set 0 (P[0] + 1)) := hP.set (by omega)
  have hL : (P.set 0 (P[0] + 1)).length = P.length := List.length_set
  generalize P.set 0 (P[0] + 1) = Q at *
  have h0' : 0 < Q.length := by omega
  have hlen := hP1.len
  have hI : dnI sta.T (callN sta.T sta.ft j) none (.rng2 (.int 1) (.blt .len (.cons (.var 0) .nil))) [some (.lst (Q.map vi)), some (vi size), none, none] = .ok (rngL 1 (Q.length : Int)) [some (.lst (Q.map vi)), some (vi size), none, none] :=
    rng2_ok (τ' := [some (.lst (Q.map vi)), some (vi size), none, none]) (intM_ok (r := .own (vi 1)) (by simp only [runF, doBlt, doNeg, negF, noCls, List.all_cons, List.all_nil, List.all_eq_true, Option.isNone_none, ownOk, isVal, fins, dnB, dnS, seq2, dn, dns, dnk, bnd, opd, own, ownD, Tw.ev, tst, res, ress, Tw.take, Tw.back, doCall, doBin, doCmp, clsOf, binF, binI, cmpF, cmpII, cmpI, isNon, truF, tru, isB, un, two, many, biF, frz, put, List.getElem?_cons_zero, List.getElem?_cons_succ, List.getElem?_nil, List.set_cons_zero, List.set_cons_succ, List.map_cons, List.map_nil, List.cons_append, List.nil_append, List.replicate, Option.map_some, Option.map_none, List.length_cons, List.length_nil, List.contains_cons, List.contains_nil, Bool.and_true, Bool.true_and, Bool.or_true, Bool.true_or, Bool.false_or, Bool.or_false, Bool.and_false, Bool.false_and, if_true, if_false, decide_true, decide_false, Bool.false_eq_true, and_self, and_true, true_and, and_false, false_and, Bool.not_true, Bool.not_false, beq_self_eq_true, Nat.reduceAdd, Nat.reduceSub, reduceIte, reduceCtorEq, Nat.reduceBEq, Nat.reduceEqDiff, Nat.reduceLT]) rfl (by decide) (by decide)) (intM_ok (r := .own (vi (Q.length : Int))) (by simp only [runF, doBlt, doNeg, negF, noCls, List.all_cons, List.all_nil, List.all_eq_true, Option.isNone_none, ownOk, isVal, fins, dnB, dnS, seq2, dn, dns, dnk, bnd, opd, own, ownD, Tw.ev, tst, res, ress, Tw.take, Tw.back, doCall, doBin, doCmp, clsOf, binF, binI, cmpF, cmpII, cmpI, isNon, truF, tru, isB, un, two, many, biF, frz, put, List.getElem?_cons_zero, List.getElem?_cons_succ, List.getElem?_nil, List.set_cons_zero, List.set_cons_succ, List.map_cons, List.map_nil, List.cons_append, List.nil_append, List.replicate, Option.map_some, Option.map_none, List.length_cons, List.length_nil, List.contains_cons, List.contains_nil, Bool.and_true, Bool.true_and, Bool.or_true, Bool.true_or, Bool.false_or, Bool.or_false, Bool.and_false, Bool.false_and, if_true, if_false, decide_true, decide_false, Bool.false_eq_true, and_self, and_true, true_and, and_false, false_and, Bool.not_true, Bool.not_false, beq_self_eq_true, Nat.reduceAdd, Nat.reduceSub, reduceIte, reduceCtorEq, Nat.reduceBEq, Nat.reduceEqDiff, Nat.reduceLT, List.length_map]) rfl (by omega) (by omega))
  have hloop := draw_loop (cl := callN sta.T sta.ft j) hP1 hs hl (x3 := none) (m := Q.length - 1) (i := 1) (x2 := none) (by omega) (by omega)
  rcases hloop with ⟨t, P', x2', t0, t1, hP', e⟩ | ⟨x2', e⟩
  · refine ⟨t, P', t0, t1, hP', ?_⟩
    rw [callN_eq ft_26]
    have s2 := (for_rng2 (tg := [2]) (b := fb_f__law_draw_1) hI).trans e
    exact run_ok rfl rfl rfl ((cons_ok s1).trans (cons_rt s2)) rfl
  · have hsub1 : subF (.lst (Q.map vi)) (vi 0) = some (vi Q[0]) := sub_int (i := 0) h0'
    have s2 := (for_rng2 (tg := [2]) (b := fb_f__law_draw_1) hI).trans e
    have hq0 := hP1.pos Q[0] (List.getElem_mem h0')
    have s3 : dnS sta.T (callN sta.T sta.ft j) none (.setI 0 (.neg (.int 1)) (.bin .add (.int 27182818284590452353602874713526624977572470936999595749669676277) (.sub (.var 0) (.int 0)))) [some (.lst (Q.map vi)), some (vi size), x2', none] = .ok .nx [some (.lst ((Q.set (Q.length - 1) ((27182818284590452353602874713526624977572470936999595749669676277 : Int) + Q[0])).map vi)), some (vi size), x2', none] :=
      setI_ok (τ1 := [some (.lst (Q.map vi)), some (vi size), x2', none]) (τ2 := [some (.lst (Q.map vi)), some (vi size), x2', none]) (o := vi ((27182818284590452353602874713526624977572470936999595749669676277 : Int) + Q[0])) (by simp only [runF, doBlt, doNeg, negF, noCls, List.all_cons, List.all_nil, List.all_eq_true, Option.isNone_none, ownOk, isVal, fins, dnB, dnS, seq2, dn, dns, dnk, bnd, opd, own, ownD, Tw.ev, tst, res, ress, Tw.take, Tw.back, doCall, doBin, doCmp, clsOf, binF, binI, cmpF, cmpII, cmpI, isNon, truF, tru, isB, un, two, many, biF, frz, put, List.getElem?_cons_zero, List.getElem?_cons_succ, List.getElem?_nil, List.set_cons_zero, List.set_cons_succ, List.map_cons, List.map_nil, List.cons_append, List.nil_append, List.replicate, Option.map_some, Option.map_none, List.length_cons, List.length_nil, List.contains_cons, List.contains_nil, Bool.and_true, Bool.true_and, Bool.or_true, Bool.true_or, Bool.false_or, Bool.or_false, Bool.and_false, Bool.false_and, if_true, if_false, decide_true, decide_false, Bool.false_eq_true, and_self, and_true, true_and, and_false, false_and, Bool.not_true, Bool.not_false, beq_self_eq_true, Nat.reduceAdd, Nat.reduceSub, reduceIte, reduceCtorEq, Nat.reduceBEq, Nat.reduceEqDiff, Nat.reduceLT, hsub1]) rfl
        (intM_ok (r := .own (vi (-1))) (by simp only [runF, doBlt, doNeg, negF, noCls, List.all_cons, List.all_nil, List.all_eq_true, Option.isNone_none, ownOk, isVal, fins, dnB, dnS, seq2, dn, dns, dnk, bnd, opd, own, ownD, Tw.ev, tst, res, ress, Tw.take, Tw.back, doCall, doBin, doCmp, clsOf, binF, binI, cmpF, cmpII, cmpI, isNon, truF, tru, isB, un, two, many, biF, frz, put, List.getElem?_cons_zero, List.getElem?_cons_succ, List.getElem?_nil, List.set_cons_zero, List.set_cons_succ, List.map_cons, List.map_nil, List.cons_append, List.nil_append, List.replicate, Option.map_some, Option.map_none, List.length_cons, List.length_nil, List.contains_cons, List.contains_nil, Bool.and_true, Bool.true_and, Bool.or_true, Bool.true_or, Bool.false_or, Bool.or_false, Bool.and_false, Bool.false_and, if_true, if_false, decide_true, decide_false, Bool.false_eq_true, and_self, and_true, true_and, and_false, false_and, Bool.not_true, Bool.not_false, beq_self_eq_true, Nat.reduceAdd, Nat.reduceSub, reduceIte, reduceCtorEq, Nat.reduceBEq, Nat.reduceEqDiff, Nat.reduceLT]) rfl (by decide) (by decide)) rfl (setF_last h0')
    have hP2 : Pool (Q.set (Q.length - 1) ((27182818284590452353602874713526624977572470936999595749669676277 : Int) + Q[0])) := hP1.set (by omega)
    generalize Q.set (Q.length - 1) ((27182818284590452353602874713526624977572470936999595749669676277 : Int) + Q[0]) = R2 at *
    have h02 : 0 < R2.length := by have := hP2.len; omega
    have hsub2 : subF (.lst (R2.map vi)) (vi 0) = some (vi R2[0]) := sub_int (i := 0) h02
    refine ⟨R2[0] % size, R2, Int.emod_nonneg _ (by omega), Int.emod_lt_of_pos _ hs, hP2, ?_⟩
    rw [callN_eq ft_26]
    have s4 : dnS sta.T (callN sta.T sta.ft j) none (.ret (.bin .mod (.blt .int (.cons (.sub (.var 0) (.int 0)) .nil)) (.var 1))) [some (.lst (R2.map vi)), some (vi size), x2', none] = .ok (.rt (vi (R2[0] % size))) [some (.lst (R2.map vi)), some (vi size), x2', none] := by
      simp only [runF, doBlt, doNeg, negF, noCls, List.all_cons, List.all_nil, List.all_eq_true, Option.isNone_none, ownOk, isVal, fins, dnB, dnS, seq2, dn, dns, dnk, bnd, opd, own, ownD, Tw.ev, tst, res, ress, Tw.take, Tw.back, doCall, doBin, doCmp, clsOf, binF, binI, cmpF, cmpII, cmpI, isNon, truF, tru, isB, un, two, many, biF, frz, put, List.getElem?_cons_zero, List.getElem?_cons_succ, List.getElem?_nil, List.set_cons_zero, List.set_cons_succ, List.map_cons, List.map_nil, List.cons_append, List.nil_append, List.replicate, Option.map_some, Option.map_none, List.length_cons, List.length_nil, List.contains_cons, List.contains_nil, Bool.and_true, Bool.true_and, Bool.or_true, Bool.true_or, Bool.false_or, Bool.or_false, Bool.and_false, Bool.false_and, if_true, if_false, decide_true, decide_false, Bool.false_eq_true, and_self, and_true, true_and, and_false, false_and, Bool.not_true, Bool.not_false, beq_self_eq_true, Nat.reduceAdd, Nat.reduceSub, reduceIte, reduceCtorEq, Nat.reduceBEq, Nat.reduceEqDiff, Nat.reduceLT, hsub2, hs]
    exact run_ok rfl rfl rfl ((cons_ok s1).trans ((cons_ok s2).trans ((cons_ok s3).trans (cons_rt s4)))) rfl
end
set_option maxHeartbeats 4000000
/-! k01, the plain law: the pool. -/
section
open PySem Tw
def cel (z : Int) : Int := 2 * (z.natAbs : Int) + (if z < 0 then 1 else 0)
theorem cel_pos (z : Int) : 0 ≤ cel z := by
  unfold cel
  split <;> omega
def celD : D → D
  | .int z => .int (cel z)
  | d => d
theorem intsD_map (l : List Int) : intsD (l.map D.int) = some l := by
  induction l with
  | nil => rfl
  | cons a l ih => rw [List.map_cons]; simp only [intsD, ih, Option.map_some]
theorem cut_all {α : Type} {xs : List α} (h : xs.length ≤ 63) : cutL xs none (some 63) = xs := by
  unfold cutL
  rw [HT.sIx_none, show (some (63 : Int)) = some ((63 : Nat) : Int) from rfl, HT.sIx_nat, List.drop_zero, Nat.sub_zero, Nat.min_eq_right h, List.take_length]
theorem sum_pos {l : List Int} (h : ∀ x ∈ l, 0 ≤ x) : 0 ≤ l.sum := by
  induction l with
  | nil => simp
  | cons a l ih =>
    rw [List.sum_cons]
    have := h a List.mem_cons_self
    have := ih fun x hx => h x (List.mem_cons_of_mem _ hx)
    omega
def poolOf (ns : List Int) : List Int := [0] ++ ns.map cel ++ [31415926535897932384626433832795028841971693993751058209749445923 + (ns.map cel).sum]
theorem poolOf_pool {ns : List Int} (h : ns.length ≤ 63) : Pool (poolOf ns) where
  len := by
    unfold poolOf
    simp only [List.length_append, List.length_map, List.length_cons, List.length_nil]
    omega
  pos := fun x hx => by
    have hc : ∀ y ∈ ns.map cel, 0 ≤ y := fun y hy => by
      obtain ⟨z, _, rfl⟩ := List.mem_map.mp hy
      exact cel_pos z
    have hs := sum_pos hc
    unfold poolOf at hx
    rcases List.mem_append.mp hx with h1 | h1
    · rcases List.mem_append.mp h1 with h2 | h2
      · rw [List.mem_singleton.mp h2]; decide
      · exact hc x h2
    · rw [List.mem_singleton.mp h1]
      omega
theorem s_pool {k : Nat} (hk : 1 ≤ k) {ns : List Int} (h : ns.length ≤ 63) (hb : ∀ z ∈ ns, Builtin.Int.intBits z ≤ 1048576) :
    callN sta.T sta.ft k 25 [.val (.kls (ns.map .int))] = .ok (.lst ((poolOf ns).map vi)) [.val (.kls (ns.map .int))] := by
  obtain ⟨j, rfl⟩ : ∃ j, k = j + 1 := ⟨k - 1, by omega⟩
  rw [callN_eq ft_25]
  have hI : dnI sta.T (callN sta.T sta.ft j) none (.seq (.slice (.var 0) .non (.int 63))) [some (.val (.kls (ns.map .int))), none, none, none] = .ok (ns.map .int) [some (.val (.kls (ns.map .int))), none, none, none] := by
    refine seq_ok (o := .lst ((ns.map D.int).map .val)) ?_ ?_
    · simp only [runF, doBlt, doNeg, negF, noCls, List.all_cons, List.all_nil, List.all_eq_true, Option.isNone_none, ownOk, isVal, fins, dnB, dnS, seq2, dn, dns, dnk, bnd, opd, own, ownD, Tw.ev, tst, res, ress, Tw.take, Tw.back, doCall, doBin, doCmp, clsOf, binF, binI, cmpF, cmpII, cmpI, isNon, truF, tru, isB, un, two, many, biF, frz, put, List.getElem?_cons_zero, List.getElem?_cons_succ, List.getElem?_nil, List.set_cons_zero, List.set_cons_succ, List.map_cons, List.map_nil, List.cons_append, List.nil_append, List.replicate, Option.map_some, Option.map_none, List.length_cons, List.length_nil, List.contains_cons, List.contains_nil, Bool.and_true, Bool.true_and, Bool.or_true, Bool.true_or, Bool.false_or, Bool.or_false, Bool.and_false, Bool.false_and, if_true, if_false, decide_true, decide_false, Bool.false_eq_true, and_self, and_true, true_and, and_false, false_and, Bool.not_true, Bool.not_false, beq_self_eq_true, Nat.reduceAdd, Nat.reduceSub, reduceIte, reduceCtorEq, Nat.reduceBEq, Nat.reduceEqDiff, Nat.reduceLT, isNonE, noPart, optM, optI, sliF, cut_all (show (ns.map D.int).length ≤ 63 by rw [List.length_map]; exact h)]
    · show vals _ = _
      rw [vals_map]
  have ec := compM_map (tg := [3]) (ow := [3]) (c := (dn sta.T (callN sta.T sta.ft j) none cc_f__law_pool_1).2) (e := ownD (dn sta.T (callN sta.T sta.ft j) none ce_f__law_pool_1).1) (τ := [some (.val (.kls (ns.map .int))), none, none, none]) (p := fun _ => true) (g := celD) (ds := ns.map .int) (acc := []) (fun d hd => by
    obtain ⟨z, hz, rfl⟩ := List.mem_map.mp hd
    refine ⟨[some (.val (.kls (ns.map .int))), none, none, some (vi z)], [some (.val (.kls (ns.map .int))), none, none, some (vi z)], by simp only [setTg, runF, doBlt, doNeg, negF, noCls, List.all_cons, List.all_nil, List.all_eq_true, Option.isNone_none, ownOk, isVal, fins, dnB, dnS, seq2, dn, dns, dnk, bnd, opd, own, ownD, Tw.ev, tst, res, ress, Tw.take, Tw.back, doCall, doBin, doCmp, clsOf, binF, binI, cmpF, cmpII, cmpI, isNon, truF, tru, isB, un, two, many, biF, frz, put, List.getElem?_cons_zero, List.getElem?_cons_succ, List.getElem?_nil, List.set_cons_zero, List.set_cons_succ, List.map_cons, List.map_nil, List.cons_append, List.nil_append, List.replicate, Option.map_some, Option.map_none, List.length_cons, List.length_nil, List.contains_cons, List.contains_nil, Bool.and_true, Bool.true_and, Bool.or_true, Bool.true_or, Bool.false_or, Bool.or_false, Bool.and_false, Bool.false_and, if_true, if_false, decide_true, decide_false, Bool.false_eq_true, and_self, and_true, true_and, and_false, false_and, Bool.not_true, Bool.not_false, beq_self_eq_true, Nat.reduceAdd, Nat.reduceSub, reduceIte, reduceCtorEq, Nat.reduceBEq, Nat.reduceEqDiff, Nat.reduceLT], by simp only [runF, doBlt, doNeg, negF, noCls, List.all_cons, List.all_nil, List.all_eq_true, Option.isNone_none, ownOk, isVal, fins, dnB, dnS, seq2, dn, dns, dnk, bnd, opd, own, ownD, Tw.ev, tst, res, ress, Tw.take, Tw.back, doCall, doBin, doCmp, clsOf, binF, binI, cmpF, cmpII, cmpI, isNon, truF, tru, isB, un, two, many, biF, frz, put, List.getElem?_cons_zero, List.getElem?_cons_succ, List.getElem?_nil, List.set_cons_zero, List.set_cons_succ, List.map_cons, List.map_nil, List.cons_append, List.nil_append, List.replicate, Option.map_some, Option.map_none, List.length_cons, List.length_nil, List.contains_cons, List.contains_nil, Bool.and_true, Bool.true_and, Bool.or_true, Bool.true_or, Bool.false_or, Bool.or_false, Bool.and_false, Bool.false_and, if_true, if_false, decide_true, decide_false, Bool.false_eq_true, and_self, and_true, true_and, and_false, false_and, Bool.not_true, Bool.not_false, beq_self_eq_true, Nat.reduceAdd, Nat.reduceSub, reduceIte, reduceCtorEq, Nat.reduceBEq, Nat.reduceEqDiff, Nat.reduceLT, cc_f__law_pool_1], ⟨fun q => absurd q (by decide), fun _ => ⟨[some (.val (.kls (ns.map .int))), none, none, some (vi z)], ?_, rfl⟩⟩⟩
    have l1 : (2 : Int).natAbs.log2 + ((z.natAbs : Nat) : Int).natAbs.log2 < 134000000 := by
      have h2 : (2 : Int).natAbs.log2 = 1 := by decide +kernel
      have h3 := hb z hz
      unfold Builtin.Int.intBits at h3
      rw [h2, Int.natAbs_natCast]
      by_cases q : z = 0
      · subst q; decide
      · rw [if_neg (by simpa using q)] at h3
        omega
    by_cases q : z < 0
    · simp only [runF, doBlt, doNeg, negF, noCls, List.all_cons, List.all_nil, List.all_eq_true, Option.isNone_none, ownOk, isVal, fins, dnB, dnS, seq2, dn, dns, dnk, bnd, opd, own, ownD, Tw.ev, tst, res, ress, Tw.take, Tw.back, doCall, doBin, doCmp, clsOf, binF, binI, cmpF, cmpII, cmpI, isNon, truF, tru, isB, un, two, many, biF, frz, put, List.getElem?_cons_zero, List.getElem?_cons_succ, List.getElem?_nil, List.set_cons_zero, List.set_cons_succ, List.map_cons, List.map_nil, List.cons_append, List.nil_append, List.replicate, Option.map_some, Option.map_none, List.length_cons, List.length_nil, List.contains_cons, List.contains_nil, Bool.and_true, Bool.true_and, Bool.or_true, Bool.true_or, Bool.false_or, Bool.or_false, Bool.and_false, Bool.false_and, if_true, if_false, decide_true, decide_false, Bool.false_eq_true, and_self, and_true, true_and, and_false, false_and, Bool.not_true, Bool.not_false, beq_self_eq_true, Nat.reduceAdd, Nat.reduceSub, reduceIte, reduceCtorEq, Nat.reduceBEq, Nat.reduceEqDiff, Nat.reduceLT, ce_f__law_pool_1, l1, q, celD, cel]
    · simp only [runF, doBlt, doNeg, negF, noCls, List.all_cons, List.all_nil, List.all_eq_true, Option.isNone_none, ownOk, isVal, fins, dnB, dnS, seq2, dn, dns, dnk, bnd, opd, own, ownD, Tw.ev, tst, res, ress, Tw.take, Tw.back, doCall, doBin, doCmp, clsOf, binF, binI, cmpF, cmpII, cmpI, isNon, truF, tru, isB, un, two, many, biF, frz, put, List.getElem?_cons_zero, List.getElem?_cons_succ, List.getElem?_nil, List.set_cons_zero, List.set_cons_succ, List.map_cons, List.map_nil, List.cons_append, List.nil_append, List.replicate, Option.map_some, Option.map_none, List.length_cons, List.length_nil, List.contains_cons, List.contains_nil, Bool.and_true, Bool.true_and, Bool.or_true, Bool.true_or, Bool.false_or, Bool.or_false, Bool.and_false, Bool.false_and, if_true, if_false, decide_true, decide_false, Bool.false_eq_true, and_self, and_true, true_and, and_false, false_and, Bool.not_true, Bool.not_false, beq_self_eq_true, Nat.reduceAdd, Nat.reduceSub, reduceIte, reduceCtorEq, Nat.reduceBEq, Nat.reduceEqDiff, Nat.reduceLT, ce_f__law_pool_1, l1, q, celD, cel]) (by
    simp only [List.length_map, List.length_nil, lim]
    omega)
  rw [List.filter_eq_self.mpr (fun _ _ => rfl), List.nil_append, List.map_map] at ec
  have em : ns.map (celD ∘ D.int) = (ns.map cel).map D.int := by rw [List.map_map]; rfl
  rw [em] at ec
  have hc : (ns.map cel).length ≤ 63 := by rw [List.length_map]; exact h
  have e1 := asg_ok (i := 1) (own_ok (comp_ok hI ec)) (by simp only [restS, runF, doBlt, doNeg, negF, noCls, List.all_cons, List.all_nil, List.all_eq_true, Option.isNone_none, ownOk, isVal, fins, dnB, dnS, seq2, dn, dns, dnk, bnd, opd, own, ownD, Tw.ev, tst, res, ress, Tw.take, Tw.back, doCall, doBin, doCmp, clsOf, binF, binI, cmpF, cmpII, cmpI, isNon, truF, tru, isB, un, two, many, biF, frz, put, List.getElem?_cons_zero, List.getElem?_cons_succ, List.getElem?_nil, List.set_cons_zero, List.set_cons_succ, List.map_cons, List.map_nil, List.cons_append, List.nil_append, List.replicate, Option.map_some, Option.map_none, List.length_cons, List.length_nil, List.contains_cons, List.contains_nil, Bool.and_true, Bool.true_and, Bool.or_true, Bool.true_or, Bool.false_or, Bool.or_false, Bool.and_false, Bool.false_and, if_true, if_false, decide_true, decide_false, Bool.false_eq_true, and_self, and_true, true_and, and_false, false_and, Bool.not_true, Bool.not_false, beq_self_eq_true, Nat.reduceAdd, Nat.reduceSub, reduceIte, reduceCtorEq, Nat.reduceBEq, Nat.reduceEqDiff, Nat.reduceLT])
  unfold poolOf
  generalize ns.map cel = cs at *
  have s2 : dnS sta.T (callN sta.T sta.ft j) none (.asg 2 (.int 31415926535897932384626433832795028841971693993751058209749445923)) [some (.val (.kls (ns.map .int))), some (.lst (cs.map vi)), none, none] = .ok .nx [some (.val (.kls (ns.map .int))), some (.lst (cs.map vi)), some (vi 31415926535897932384626433832795028841971693993751058209749445923), none] := by
    simp only [runF, doBlt, doNeg, negF, noCls, List.all_cons, List.all_nil, List.all_eq_true, Option.isNone_none, ownOk, isVal, fins, dnB, dnS, seq2, dn, dns, dnk, bnd, opd, own, ownD, Tw.ev, tst, res, ress, Tw.take, Tw.back, doCall, doBin, doCmp, clsOf, binF, binI, cmpF, cmpII, cmpI, isNon, truF, tru, isB, un, two, many, biF, frz, put, List.getElem?_cons_zero, List.getElem?_cons_succ, List.getElem?_nil, List.set_cons_zero, List.set_cons_succ, List.map_cons, List.map_nil, List.cons_append, List.nil_append, List.replicate, Option.map_some, Option.map_none, List.length_cons, List.length_nil, List.contains_cons, List.contains_nil, Bool.and_true, Bool.true_and, Bool.or_true, Bool.true_or, Bool.false_or, Bool.or_false, Bool.and_false, Bool.false_and, if_true, if_false, decide_true, decide_false, Bool.false_eq_true, and_self, and_true, true_and, and_false, false_and, Bool.not_true, Bool.not_false, beq_self_eq_true, Nat.reduceAdd, Nat.reduceSub, reduceIte, reduceCtorEq, Nat.reduceBEq, Nat.reduceEqDiff, Nat.reduceLT]
  have v1 : vals (cs.map vi) = some (cs.map D.int) := vals_int cs
  have v2 : items (.lst (cs.map vi)) = some (cs.map D.int) := len_int cs
  have fr : frz (.lst (cs.map vi)) = .lst (cs.map D.int) := by
    rw [show cs.map vi = (cs.map D.int).map O.val from by rw [List.map_map]; rfl, frz, frzL_val]
  have b1 : binF .add (.val (.lst [.int 0])) (.lst (cs.map vi)) = some (.lst (([D.int 0] ++ cs.map D.int).map .val)) := by
    show (match Tw.listOf (.val (.lst [.int 0])), Tw.listOf (.lst (cs.map vi)) with
    | some xs, some ys => if xs.length + ys.length ≤ lim then some (O.lst ((xs ++ ys).map .val)) else none
    | _, _ => none) = _
    rw [show Tw.listOf (.lst (cs.map vi)) = some (cs.map D.int) from v1]
    simp only [Tw.listOf, lim]
    rw [if_pos (by simp only [List.length_map, List.length_cons, List.length_nil]; omega)]
  have b2 : ∀ q : Int, binF .add (.val (.lst ([D.int 0] ++ cs.map D.int))) (.val (.lst [.int q])) = some (.lst ((([D.int 0] ++ cs.map D.int) ++ [D.int q]).map .val)) := by
    intro q
    show (match Tw.listOf (.val (.lst ([D.int 0] ++ cs.map D.int))), Tw.listOf (.val (.lst [.int q])) with
    | some xs, some ys => if xs.length + ys.length ≤ lim then some (O.lst ((xs ++ ys).map .val)) else none
    | _, _ => none) = _
    simp only [Tw.listOf, lim]
    rw [if_pos (by simp only [List.length_append, List.length_map, List.length_cons, List.length_nil]; omega)]
  have b3 : biF .sum [.lst (cs.map vi)] = some (vi cs.sum) := by
    show (match items (.lst (cs.map vi)) with
      | some xs => (intsD xs).map fun is : List Int => O.val (.int is.sum)
      | none => none) = _
    rw [v2]
    simp only [intsD_map, Option.map_some]
  have b4 : ∀ a b : Int, binF .add (vi a) (vi b) = some (vi (a + b)) := fun _ _ => rfl
  have s3 : dnS sta.T (callN sta.T sta.ft j) none (.ret (.bin .add (.bin .add (.lst (.cons (.int 0) .nil)) (.var 1)) (.lst (.cons (.bin .add (.var 2) (.blt .sum (.cons (.var 1) .nil))) .nil)))) [some (.val (.kls (ns.map .int))), some (.lst (cs.map vi)), some (vi 31415926535897932384626433832795028841971693993751058209749445923), none] = .ok (.rt (.lst (([0] ++ cs ++ [31415926535897932384626433832795028841971693993751058209749445923 + cs.sum]).map vi))) [some (.val (.kls (ns.map .int))), some (.lst (cs.map vi)), some (vi 31415926535897932384626433832795028841971693993751058209749445923), none] := by
    have e : ([0] ++ cs ++ [31415926535897932384626433832795028841971693993751058209749445923 + cs.sum]).map vi = (([D.int 0] ++ cs.map D.int) ++ [D.int (31415926535897932384626433832795028841971693993751058209749445923 + cs.sum)]).map O.val := by
      simp only [List.map_append, List.map_map, List.map_cons, List.map_nil]
      rfl
    rw [e]
    have b2' : ∀ q : Int, binF .add (.val (.lst (D.int 0 :: cs.map D.int))) (.val (.lst [.int q])) = some (.lst (O.val (.int 0) :: (cs.map D.int ++ [D.int q]).map .val)) := b2
    simp only [runF, doBlt, doNeg, negF, noCls, List.all_cons, List.all_nil, List.all_eq_true, Option.isNone_none, ownOk, isVal, fins, dnB, dnS, seq2, dn, dns, dnk, bnd, opd, own, ownD, Tw.ev, tst, res, ress, Tw.take, Tw.back, doCall, doBin, doCmp, clsOf, binI, cmpF, cmpII, cmpI, isNon, truF, tru, isB, un, two, many, frz, put, List.getElem?_cons_zero, List.getElem?_cons_succ, List.getElem?_nil, List.set_cons_zero, List.set_cons_succ, List.map_cons, List.map_nil, List.cons_append, List.nil_append, List.replicate, Option.map_some, Option.map_none, List.length_cons, List.length_nil, List.contains_cons, List.contains_nil, Bool.and_true, Bool.true_and, Bool.or_true, Bool.true_or, Bool.false_or, Bool.or_false, Bool.and_false, Bool.false_and, if_true, if_false, decide_true, decide_false, Bool.false_eq_true, and_self, and_true, true_and, and_false, false_and, Bool.not_true, Bool.not_false, beq_self_eq_true, Nat.reduceAdd, Nat.reduceSub, reduceIte, reduceCtorEq, Nat.reduceBEq, Nat.reduceEqDiff, Nat.reduceLT, b1, b2', b3, b4, frz, frzL, frzL_val, show (1 : Nat) ≤ lim from by decide]
  refine run_ok rfl rfl rfl ((cons_ok e1).trans ((cons_ok (τ1 := _) ?_).trans (cons_rt s3))) rfl
  rw [List.map_map]
  exact s2
end
set_option maxHeartbeats 4000000
/-! k01, the plain law: the numbers drawn. -/
section
open PySem Tw
theorem w_draw {k : Nat} (hk : 1 ≤ k) {P : List Int} (hP : Pool P) {size : Int} (hs : 0 < size) (hl : size.natAbs.log2 < 9000) {Q : O → List O → Prop} {X : Exn → List O → Prop} (q : ∀ t P', 0 ≤ t → t < size → Pool P' → Q (vi t) [.lst (P'.map vi), vi size]) : wf (callN sta.T sta.ft k 26 [.lst (P.map vi), vi size]) Q X := by
  obtain ⟨t, P', h0, h1, h2, h3⟩ := s_draw hk hP hs hl
  exact wf_ok h3 (q t P' h0 h1 h2)
end
set_option maxHeartbeats 4000000
/-! k01, the plain law: the numbers of the law. -/
section
open PySem Tw
def MO : Int := 10 ^ 400
def B50 : Int := 10 ^ 50
theorem pw1 : (10 : Int) ^ (50 : Int).toNat = B50 := by decide +kernel
theorem pw2 : B50 ^ (8 : Int).toNat = MO := by decide +kernel
theorem mo_big : 1000000000000 < MO := by decide +kernel
theorem mo_con : sta.T.con 3 = .int MO := by kernel_rfl
theorem ft_27 : sta.ft 27 = some d_f__law_int := rfl
theorem ft_28 : sta.ft 28 = some d_f__law_integer := rfl
theorem ft_29 : sta.ft 29 = some d_f__law_positive := rfl
theorem sg1 {s t M : Int} (h0 : 0 ≤ s) (h1 : s < 2) (h2 : 0 ≤ t) (h3 : t ≤ M) : -M ≤ (1 - 2 * s) * t := by
  rcases (show s = 0 ∨ s = 1 by omega) with rfl | rfl <;> omega
theorem sg2 {s t M : Int} (h0 : 0 ≤ s) (h1 : s < 2) (h2 : 0 ≤ t) (h3 : t ≤ M) : (1 - 2 * s) * t ≤ M := by
  rcases (show s = 0 ∨ s = 1 by omega) with rfl | rfl <;> omega
theorem bd_mo {n : Int} (h0 : -MO ≤ n) (h1 : n ≤ MO) : Bd 2000 n := by
  have h : Bd 2000 MO := by unfold Bd; decide +kernel
  unfold Bd at *
  omega
local macro_rules | `(tactic| tm_at "bd") => `(tactic| exact bd_mo (by omega) (by omega))
local macro_rules | `(tactic| tm_at "twpow") => `(tactic| first | exact (show (10 : Int) ^ (12 : Int).toNat = 1000000000000 by decide +kernel) | exact (show (10 : Int) ^ (4 : Int).toNat = 10000 by decide +kernel) | exact pw1 | exact pw2)
local macro_rules | `(tactic| tm_at "twcall") => `(tactic| first
  | refine w_draw (by omega) (by assumption) (by tm_at "lt0") (by decide +kernel) (fun t P' t0 t1 hP' => ?_))
theorem w_int {k : Nat} (hk : 1 ≤ k) {n : Int} {Q : O → List O → Prop} {X : Exn → List O → Prop} (q : Q (vb true) [vi n]) : wf (callN sta.T sta.ft k 27 [vi n]) Q X := by
  obtain ⟨j, rfl⟩ : ∃ j, k = j + 1 := ⟨k - 1, by omega⟩
  refine call_wf ft_27 rfl rfl rfl ?_
  show WB _ _ _ b_f__law_int [some (vi n)] _ _
  unfold b_f__law_int
  repeat' (tm_at "tw1")
  all_goals exact q
theorem w_integer {k : Nat} (hk : 2 ≤ k) {P : List Int} (hP : Pool P) {Q : O → List O → Prop} {X : Exn → List O → Prop} (q : ∀ n P', -MO ≤ n → n ≤ MO → Pool P' → Q (vi n) [.lst (P'.map vi)]) : wf (callN sta.T sta.ft k 28 [.lst (P.map vi)]) Q X := by
  obtain ⟨j, rfl⟩ : ∃ j, k = j + 1 := ⟨k - 1, by omega⟩
  refine call_wf ft_28 rfl rfl rfl ?_
  show WB _ _ _ b_f__law_integer [some (.lst (P.map vi)), none, none, none] _ _
  unfold b_f__law_integer
  have hm := mo_big
  repeat' (tm_at "tw1")
  all_goals exact q _ _ (sg1 (by assumption) (by assumption) (by omega) (by omega)) (sg2 (by assumption) (by assumption) (by omega) (by omega)) (by assumption)
local macro_rules | `(tactic| tm_at "twcall") => `(tactic| first
  | refine w_integer (by omega) (by assumption) (fun n P' n0 n1 hP' => ?_))
theorem w_positive {k : Nat} (hk : 3 ≤ k) {P : List Int} (hP : Pool P) {Q : O → List O → Prop} {X : Exn → List O → Prop} (q : ∀ n P', 1 ≤ n → n ≤ MO → Pool P' → Q (vi n) [.lst (P'.map vi)]) : wf (callN sta.T sta.ft k 29 [.lst (P.map vi)]) Q X := by
  obtain ⟨j, rfl⟩ : ∃ j, k = j + 1 := ⟨k - 1, by omega⟩
  refine call_wf ft_29 rfl rfl rfl ?_
  show WB _ _ _ b_f__law_positive [some (.lst (P.map vi))] _ _
  unfold b_f__law_positive
  have hm := mo_big
  repeat' (tm_at "tw1")
  refine q _ _ ?_ ?_ (by assumption)
  all_goals split <;> omega
end
set_option maxHeartbeats 4000000
/-! k01, the plain law: lowest terms. -/
section
open PySem Tw
theorem ft_31 : sta.ft 31 = some d_f__law_lowest := rfl
/-- the greatest common divisor -/
def gd (a b : Int) : Int := (Int.gcd a b : Nat)
theorem gd_step {a b : Int} (ha : 0 ≤ a) (hb : 0 ≤ b) : gd a b = gd b (a % b) := by
  obtain ⟨m, rfl⟩ := Int.eq_ofNat_of_zero_le ha
  obtain ⟨n, rfl⟩ := Int.eq_ofNat_of_zero_le hb
  unfold gd
  rw [← Int.natCast_emod, Int.gcd_natCast_natCast, Int.gcd_natCast_natCast, Nat.gcd_comm m n, Nat.gcd_comm n (m % n)]
  exact congrArg _ (Nat.gcd_rec n m)
theorem gd_zero {a : Int} (h : 0 ≤ a) : gd a 0 = a := by
  unfold gd
  rw [Int.gcd_zero_right]
  omega
theorem gd_abs {a b : Int} : gd (a.natAbs : Int) b = gd a b := by
  unfold gd
  rw [Int.gcd_eq_natAbs_gcd_natAbs, Int.gcd_eq_natAbs_gcd_natAbs, Int.natAbs_natCast]
theorem gd_pos {a b : Int} (h : 1 ≤ b) : 1 ≤ gd a b := by
  unfold gd
  have : 0 < Int.gcd a b := Int.gcd_pos_of_ne_zero_right _ (by omega)
  omega
theorem gd_le {a b : Int} (h : 1 ≤ b) : gd a b ≤ b := by
  unfold gd
  exact Int.le_of_dvd (by omega) (Int.gcd_dvd_right ..)
local macro_rules | `(tactic| tm_at "bd") => `(tactic| exact bd_mo (by omega) (by omega))
theorem w_lowl {j : Nat} {num den : Int} (hd : 1 ≤ den) {Q : Fl → Sto → Prop} {X : Exn → Sto → Prop} (q : ∀ x4, Q .nx [some (vi num), some (vi den), some (vi (gd num den)), some (vi 0), x4]) :
    WS sta.T (callN sta.T sta.ft j) none (.whl we_f__law_lowest_1 wb_f__law_lowest_1) [some (vi num), some (vi den), some (vi (num.natAbs : Int)), some (vi den), none] Q X := by
  refine WS.whl (fun n τ => ∃ a b x4, 0 ≤ a ∧ 0 ≤ b ∧ n = b.toNat ∧ gd a b = gd num den ∧ τ = [some (vi num), some (vi den), some (vi a), some (vi b), x4]) (n := den.toNat) ⟨_, _, _, by omega, by omega, rfl, gd_abs, rfl⟩ ?_
  rintro n τ ⟨a, b, x4, ha, hb, rfl, hg, rfl⟩
  unfold we_f__law_lowest_1 wb_f__law_lowest_1
  repeat' (tm_at "tw1")
  · rename_i h
    have h1 := Int.emod_nonneg a (show b ≠ 0 by omega)
    have h2 := Int.emod_lt_of_pos a h
    exact ⟨_, by omega, _, _, _, by omega, h1, rfl, (gd_step ha hb).symm.trans hg, rfl⟩
  · rename_i h
    have : b = 0 := by omega
    subst this
    rw [gd_zero ha] at hg
    rw [hg]
    exact q _
local macro_rules | `(tactic| tm_at "twuser") => `(tactic| ((with_reducible refine w_lowl (by omega) ?_); intro x4))
theorem w_lowest {k : Nat} (hk : 1 ≤ k) {num den : Int} (hd : 1 ≤ den) (hb : Bd 8000 den) {Q : O → List O → Prop} {X : Exn → List O → Prop} (q : Q (.val (.tup [.int (num / gd num den), .int (den / gd num den)])) [vi num, vi den]) : wf (callN sta.T sta.ft k 31 [vi num, vi den]) Q X := by
  obtain ⟨j, rfl⟩ : ∃ j, k = j + 1 := ⟨k - 1, by omega⟩
  refine call_wf ft_31 rfl rfl rfl ?_
  show WB _ _ _ b_f__law_lowest [some (vi num), some (vi den), none, none, none] _ _
  unfold b_f__law_lowest
  have g1 := gd_pos (a := num) hd
  have g2 : Bd 8000 (gd num den) := hb.le (by omega) (gd_le hd)
  repeat' (tm_at "tw1")
  exact q
theorem ft_5 : sta.ft 5 = some d_m_Frac___init__ := rfl
/-- a fraction -/
def fr (n d : Int) : O := .ins 5 [1, 0] [vi n, vi d]
local macro_rules | `(tactic| tm_at "twcon") => `(tactic| exact mo_con)
theorem gcd_gd {a b : Int} : ((Nat.gcd a.natAbs b.natAbs : Nat) : Int) = gd a b := by
  unfold gd
  rw [Int.gcd_eq_natAbs_gcd_natAbs]
local macro_rules | `(tactic| tm_at "twblt") => `(tactic| exact (show biF .gcd [vi _, vi _] = some (vi (gd _ _)) from congrArg (fun z => some (vi z)) gcd_gd))
theorem w_init {k : Nat} (hk : 1 ≤ k) {num den : Int} (h1 : -MO ≤ num) (h2 : num ≤ MO) (h3 : 1 ≤ den) (h4 : den ≤ MO) {Q : O → List O → Prop} {X : Exn → List O → Prop} (q : Q (.val .non) [fr (num / gd num den) (den / gd num den), vi num, vi den]) : wf (callN sta.T sta.ft k 5 [.ins 5 [] [], vi num, vi den]) Q X := by
  obtain ⟨j, rfl⟩ : ∃ j, k = j + 1 := ⟨k - 1, by omega⟩
  refine call_wf ft_5 rfl rfl rfl ?_
  show WB _ _ _ b_m_Frac___init__ [some (.ins 5 [] []), some (vi num), some (vi den), none] _ _
  unfold b_m_Frac___init__
  have g1 := gd_pos (a := num) h3
  have g3 := gd_le (a := num) h3
  have g2 : Bd 2000 (gd num den) := bd_mo (by omega) (by omega)
  repeat' (tm_at "tw1")
  all_goals first | exact q | skip
end
set_option maxHeartbeats 4000000
/-! k01, the plain law: what a fraction is. -/
section
open PySem Tw
theorem ft_32 : sta.ft 32 = some d_f__law_is := rfl
/-- a fraction, kept -/
def fv (n d : Int) : O := .val (.ins 5 [1, 0] [.int n, .int d])
local macro_rules | `(tactic| tm_at "bd") => `(tactic| exact bd_mo (by omega) (by omega))
local macro_rules | `(tactic| tm_at "twcon") => `(tactic| exact mo_con)
local macro_rules | `(tactic| tm_at "tweq") => `(tactic| exact eqD_same rfl)
local macro_rules | `(tactic| tm_at "twcall") => `(tactic| first
  | refine w_int (by omega) ?_
  | refine w_lowest (by omega) (by assumption) (by assumption) ?_)
theorem w_is {k : Nat} (hk : 2 ≤ k) {x : O} {num den : Int} (hd : 1 ≤ den) (hb : Bd 8000 den) (hx : x = fr (num / gd num den) (den / gd num den) ∨ x = fv (num / gd num den) (den / gd num den)) {Q : O → List O → Prop} {X : Exn → List O → Prop} (q : Q (vb true) [x, vi num, vi den]) : wf (callN sta.T sta.ft k 32 [x, vi num, vi den]) Q X := by
  obtain ⟨j, rfl⟩ : ∃ j, k = j + 1 := ⟨k - 1, by omega⟩
  rcases hx with rfl | rfl
  · refine call_wf ft_32 rfl rfl rfl ?_
    show WB _ _ _ b_f__law_is [some (fr _ _), some (vi num), some (vi den)] _ _
    unfold b_f__law_is fr
    repeat' (tm_at "tw1")
    all_goals first | exact q | skip
  · refine call_wf ft_32 rfl rfl rfl ?_
    show WB _ _ _ b_f__law_is [some (fv _ _), some (vi num), some (vi den)] _ _
    unfold b_f__law_is fv
    repeat' (tm_at "tw1")
    all_goals first | exact q | skip
end
set_option maxHeartbeats 4000000
/-! k01, the plain law: frac_of. -/
section
open PySem Tw
theorem ft_22 : sta.ft 22 = some d_f_frac_of := rfl
theorem pow0 : (1 : Int) ≤ MO := by decide +kernel
local macro_rules | `(tactic| tm_at "bd") => `(tactic| exact bd_mo (by omega) (by omega))
local macro_rules | `(tactic| tm_at "twcon") => `(tactic| exact mo_con)
local macro_rules | `(tactic| tm_at "twblt") => `(tactic| exact (show biF .gcd [vi _, vi _] = some (vi (gd _ _)) from congrArg (fun z => some (vi z)) gcd_gd))
local macro_rules | `(tactic| tm_at "twcall") => `(tactic| first
  | refine w_init (by omega) (by omega) (by omega) (by omega) (by omega) ?_)
theorem w_frac_of {k : Nat} (hk : 2 ≤ k) {num den : Int} (hd : 1 ≤ den) (hb : Bd 8000 den) {Q : O → List O → Prop} {X : Exn → List O → Prop} (q : Q (fr (num / gd num den) (den / gd num den)) [vi num, vi den]) : wf (callN sta.T sta.ft k 22 [vi num, vi den]) Q X := by
  obtain ⟨j, rfl⟩ : ∃ j, k = j + 1 := ⟨k - 1, by omega⟩
  refine call_wf ft_22 rfl rfl rfl ?_
  show WB _ _ _ b_f_frac_of [some (vi num), some (vi den), none, none] _ _
  unfold b_f_frac_of
  have g1 := gd_pos (a := num) hd
  have g2 : Bd 8000 (gd num den) := hb.le (by omega) (gd_le hd)
  have hm := pow0
  have hm2 := mo_big
  repeat' (tm_at "tw1")
  all_goals first | exact q | skip
end
set_option maxHeartbeats 4000000
/-! k01, the plain law: a fraction's own operations. -/
section
open PySem Tw
theorem ft_12 : sta.ft 12 = some d_m_Frac___neg__ := rfl
theorem ft_14 : sta.ft 14 = some d_m_Frac___eq__ := rfl
local macro_rules | `(tactic| tm_at "bd") => `(tactic| exact bd_mo (by omega) (by omega))
local macro_rules | `(tactic| tm_at "twcall") => `(tactic| first
  | refine w_frac_of (by omega) (by assumption) (by assumption) ?_)
theorem w_neg {k : Nat} (hk : 3 ≤ k) {x : O} {n d : Int} (hd : 1 ≤ d) (hb : Bd 8000 d) (hx : x = fr n d ∨ x = fv n d) {Q : O → List O → Prop} {X : Exn → List O → Prop} (q : Q (fr (-n / gd (-n) d) (d / gd (-n) d)) [x]) : wf (callN sta.T sta.ft k 12 [x]) Q X := by
  obtain ⟨j, rfl⟩ : ∃ j, k = j + 1 := ⟨k - 1, by omega⟩
  rcases hx with rfl | rfl
  · refine call_wf ft_12 rfl rfl rfl ?_
    show WB _ _ _ b_m_Frac___neg__ [some (fr _ _)] _ _
    unfold b_m_Frac___neg__ fr
    repeat' (tm_at "tw1")
    all_goals first | exact q | skip
  · refine call_wf ft_12 rfl rfl rfl ?_
    show WB _ _ _ b_m_Frac___neg__ [some (fv _ _)] _ _
    unfold b_m_Frac___neg__ fv
    repeat' (tm_at "tw1")
    all_goals first | exact q | skip
theorem ft_13 : sta.ft 13 = some d_m_Frac___abs__ := rfl
theorem w_abs {k : Nat} (hk : 3 ≤ k) {x : O} {n d : Int} (hd : 1 ≤ d) (hb : Bd 8000 d) (hx : x = fr n d ∨ x = fv n d) {Q : O → List O → Prop} {X : Exn → List O → Prop} (q : Q (fr ((n.natAbs : Int) / gd (n.natAbs : Int) d) (d / gd (n.natAbs : Int) d)) [x]) : wf (callN sta.T sta.ft k 13 [x]) Q X := by
  obtain ⟨j, rfl⟩ : ∃ j, k = j + 1 := ⟨k - 1, by omega⟩
  rcases hx with rfl | rfl
  · refine call_wf ft_13 rfl rfl rfl ?_
    show WB _ _ _ b_m_Frac___abs__ [some (fr _ _)] _ _
    unfold b_m_Frac___abs__ fr
    repeat' (tm_at "tw1")
    all_goals first | exact q | skip
  · refine call_wf ft_13 rfl rfl rfl ?_
    show WB _ _ _ b_m_Frac___abs__ [some (fv _ _)] _ _
    unfold b_m_Frac___abs__ fv
    repeat' (tm_at "tw1")
    all_goals first | exact q | skip
theorem ft_15 : sta.ft 15 = some d_m_Frac___bool__ := rfl
theorem w_bool {k : Nat} (hk : 3 ≤ k) {x : O} {n d : Int} (hd : 1 ≤ d) (hb : Bd 8000 d) (hx : x = fr n d ∨ x = fv n d) {Q : O → List O → Prop} {X : Exn → List O → Prop} (q : Q (vb (n != 0)) [x]) : wf (callN sta.T sta.ft k 15 [x]) Q X := by
  obtain ⟨j, rfl⟩ : ∃ j, k = j + 1 := ⟨k - 1, by omega⟩
  rcases hx with rfl | rfl
  · refine call_wf ft_15 rfl rfl rfl ?_
    show WB _ _ _ b_m_Frac___bool__ [some (fr _ _)] _ _
    unfold b_m_Frac___bool__ fr
    repeat' (tm_at "tw1")
    all_goals first | exact q | skip
  · refine call_wf ft_15 rfl rfl rfl ?_
    show WB _ _ _ b_m_Frac___bool__ [some (fv _ _)] _ _
    unfold b_m_Frac___bool__ fv
    repeat' (tm_at "tw1")
    all_goals first | exact q | skip
theorem ft_19 : sta.ft 19 = some d_m_Frac_floor := rfl
theorem w_floor {k : Nat} (hk : 3 ≤ k) {x : O} {n d : Int} (hd : 1 ≤ d) (hb : Bd 8000 d) (hx : x = fr n d ∨ x = fv n d) {Q : O → List O → Prop} {X : Exn → List O → Prop} (q : Q (vi (n / d)) [x]) : wf (callN sta.T sta.ft k 19 [x]) Q X := by
  obtain ⟨j, rfl⟩ : ∃ j, k = j + 1 := ⟨k - 1, by omega⟩
  rcases hx with rfl | rfl
  · refine call_wf ft_19 rfl rfl rfl ?_
    show WB _ _ _ b_m_Frac_floor [some (fr _ _)] _ _
    unfold b_m_Frac_floor fr
    repeat' (tm_at "tw1")
    all_goals first | exact q | skip
  · refine call_wf ft_19 rfl rfl rfl ?_
    show WB _ _ _ b_m_Frac_floor [some (fv _ _)] _ _
    unfold b_m_Frac_floor fv
    repeat' (tm_at "tw1")
    all_goals first | exact q | skip
theorem ft_20 : sta.ft 20 = some d_m_Frac_whole := rfl
theorem w_whole {k : Nat} (hk : 3 ≤ k) {x : O} {n d : Int} (hd : 1 ≤ d) (hb : Bd 8000 d) (hx : x = fr n d ∨ x = fv n d) {Q : O → List O → Prop} {X : Exn → List O → Prop} (q : Q (vb (decide (d = 1))) [x]) : wf (callN sta.T sta.ft k 20 [x]) Q X := by
  obtain ⟨j, rfl⟩ : ∃ j, k = j + 1 := ⟨k - 1, by omega⟩
  rcases hx with rfl | rfl
  · refine call_wf ft_20 rfl rfl rfl ?_
    show WB _ _ _ b_m_Frac_whole [some (fr _ _)] _ _
    unfold b_m_Frac_whole fr
    repeat' (tm_at "tw1")
    all_goals first | exact q | skip
  · refine call_wf ft_20 rfl rfl rfl ?_
    show WB _ _ _ b_m_Frac_whole [some (fv _ _)] _ _
    unfold b_m_Frac_whole fv
    repeat' (tm_at "tw1")
    all_goals first | exact q | skip
end
set_option maxHeartbeats 4000000
/-! k01, the plain law: sums, differences, products of fractions. -/
section
open PySem Tw
theorem bd_up {n : Int} (h : Bd 3000 n) : Bd 8000 n := h.mono (by decide)
theorem bd_mul2 {n m : Int} (h : Bd 3000 n) (h' : Bd 3000 m) : Bd 8000 (n * m) := (h.mul h').mono (by decide)
theorem one_mul2 {n m : Int} (h : 1 ≤ n) (h' : 1 ≤ m) : 1 ≤ n * m := Int.mul_pos h h'
/-- a fraction, owned or kept -/
def FO (x : O) (n d : Int) : Prop := x = fr n d ∨ x = fv n d
local macro_rules | `(tactic| tm_at "bd") => `(tactic| exact bd_mo (by omega) (by omega))
local macro_rules | `(tactic| tm_at "twcall") => `(tactic| first
  | refine w_frac_of (by omega) (one_mul2 (by assumption) (by assumption)) (bd_mul2 (by assumption) (by assumption)) ?_)

theorem ft_6 : sta.ft 6 = some d_m_Frac___add__ := rfl
theorem w_add {k : Nat} (hk : 3 ≤ k) {x y : O} {n d m e : Int} (hd : 1 ≤ d) (he : 1 ≤ e) (bn : Bd 3000 n) (bd : Bd 3000 d) (bm : Bd 3000 m) (be : Bd 3000 e) (hx : FO x n d) (hy : FO y m e) {Q : O → List O → Prop} {X : Exn → List O → Prop} (q : Q (fr ((n * e + m * d) / gd (n * e + m * d) (d * e)) ((d * e) / gd (n * e + m * d) (d * e))) [x, y]) : wf (callN sta.T sta.ft k 6 [x, y]) Q X := by
  obtain ⟨j, rfl⟩ : ∃ j, k = j + 1 := ⟨k - 1, by omega⟩
  rcases hx with rfl | rfl <;> rcases hy with rfl | rfl
  · refine call_wf ft_6 rfl rfl rfl ?_
    show WB _ _ _ b_m_Frac___add__ [some (fr _ _), some (fr _ _)] _ _
    unfold b_m_Frac___add__ fr
    repeat' (tm_at "tw1")
    all_goals first | exact q | skip
  · refine call_wf ft_6 rfl rfl rfl ?_
    show WB _ _ _ b_m_Frac___add__ [some (fr _ _), some (fv _ _)] _ _
    unfold b_m_Frac___add__ fr fv
    repeat' (tm_at "tw1")
    all_goals first | exact q | skip
  · refine call_wf ft_6 rfl rfl rfl ?_
    show WB _ _ _ b_m_Frac___add__ [some (fv _ _), some (fr _ _)] _ _
    unfold b_m_Frac___add__ fr fv
    repeat' (tm_at "tw1")
    all_goals first | exact q | skip
  · refine call_wf ft_6 rfl rfl rfl ?_
    show WB _ _ _ b_m_Frac___add__ [some (fv _ _), some (fv _ _)] _ _
    unfold b_m_Frac___add__ fv
    repeat' (tm_at "tw1")
    all_goals first | exact q | skip
theorem ft_8 : sta.ft 8 = some d_m_Frac___sub__ := rfl
theorem w_sub {k : Nat} (hk : 3 ≤ k) {x y : O} {n d m e : Int} (hd : 1 ≤ d) (he : 1 ≤ e) (bn : Bd 3000 n) (bd : Bd 3000 d) (bm : Bd 3000 m) (be : Bd 3000 e) (hx : FO x n d) (hy : FO y m e) {Q : O → List O → Prop} {X : Exn → List O → Prop} (q : Q (fr ((n * e - m * d) / gd (n * e - m * d) (d * e)) ((d * e) / gd (n * e - m * d) (d * e))) [x, y]) : wf (callN sta.T sta.ft k 8 [x, y]) Q X := by
  obtain ⟨j, rfl⟩ : ∃ j, k = j + 1 := ⟨k - 1, by omega⟩
  rcases hx with rfl | rfl <;> rcases hy with rfl | rfl
  · refine call_wf ft_8 rfl rfl rfl ?_
    show WB _ _ _ b_m_Frac___sub__ [some (fr _ _), some (fr _ _)] _ _
    unfold b_m_Frac___sub__ fr
    repeat' (tm_at "tw1")
    all_goals first | exact q | skip
  · refine call_wf ft_8 rfl rfl rfl ?_
    show WB _ _ _ b_m_Frac___sub__ [some (fr _ _), some (fv _ _)] _ _
    unfold b_m_Frac___sub__ fr fv
    repeat' (tm_at "tw1")
    all_goals first | exact q | skip
  · refine call_wf ft_8 rfl rfl rfl ?_
    show WB _ _ _ b_m_Frac___sub__ [some (fv _ _), some (fr _ _)] _ _
    unfold b_m_Frac___sub__ fr fv
    repeat' (tm_at "tw1")
    all_goals first | exact q | skip
  · refine call_wf ft_8 rfl rfl rfl ?_
    show WB _ _ _ b_m_Frac___sub__ [some (fv _ _), some (fv _ _)] _ _
    unfold b_m_Frac___sub__ fv
    repeat' (tm_at "tw1")
    all_goals first | exact q | skip
theorem ft_10 : sta.ft 10 = some d_m_Frac___mul__ := rfl
theorem w_mul {k : Nat} (hk : 3 ≤ k) {x y : O} {n d m e : Int} (hd : 1 ≤ d) (he : 1 ≤ e) (bn : Bd 3000 n) (bd : Bd 3000 d) (bm : Bd 3000 m) (be : Bd 3000 e) (hx : FO x n d) (hy : FO y m e) {Q : O → List O → Prop} {X : Exn → List O → Prop} (q : Q (fr ((n * m) / gd (n * m) (d * e)) ((d * e) / gd (n * m) (d * e))) [x, y]) : wf (callN sta.T sta.ft k 10 [x, y]) Q X := by
  obtain ⟨j, rfl⟩ : ∃ j, k = j + 1 := ⟨k - 1, by omega⟩
  rcases hx with rfl | rfl <;> rcases hy with rfl | rfl
  · refine call_wf ft_10 rfl rfl rfl ?_
    show WB _ _ _ b_m_Frac___mul__ [some (fr _ _), some (fr _ _)] _ _
    unfold b_m_Frac___mul__ fr
    repeat' (tm_at "tw1")
    all_goals first | exact q | skip
  · refine call_wf ft_10 rfl rfl rfl ?_
    show WB _ _ _ b_m_Frac___mul__ [some (fr _ _), some (fv _ _)] _ _
    unfold b_m_Frac___mul__ fr fv
    repeat' (tm_at "tw1")
    all_goals first | exact q | skip
  · refine call_wf ft_10 rfl rfl rfl ?_
    show WB _ _ _ b_m_Frac___mul__ [some (fv _ _), some (fr _ _)] _ _
    unfold b_m_Frac___mul__ fr fv
    repeat' (tm_at "tw1")
    all_goals first | exact q | skip
  · refine call_wf ft_10 rfl rfl rfl ?_
    show WB _ _ _ b_m_Frac___mul__ [some (fv _ _), some (fv _ _)] _ _
    unfold b_m_Frac___mul__ fv
    repeat' (tm_at "tw1")
    all_goals first | exact q | skip
end
set_option maxHeartbeats 4000000
/-! k01, the plain law: a fraction and an int. -/
section
open PySem Tw
theorem ft_24 : sta.ft 24 = some d_f_check_number := rfl
local macro_rules | `(tactic| tm_at "bd") => `(tactic| exact bd_mo (by omega) (by omega))
local macro_rules | `(tactic| tm_at "twcon") => `(tactic| exact mo_con)
theorem w_check {k : Nat} (hk : 1 ≤ k) {n : Int} (h1 : -MO ≤ n) (h2 : n ≤ MO) {Q : O → List O → Prop} {X : Exn → List O → Prop} (q : Q (.val .non) [vi n]) : wf (callN sta.T sta.ft k 24 [vi n]) Q X := by
  obtain ⟨j, rfl⟩ : ∃ j, k = j + 1 := ⟨k - 1, by omega⟩
  refine call_wf ft_24 rfl rfl rfl ?_
  show WB _ _ _ b_f_check_number [some (vi n)] _ _
  unfold b_f_check_number
  repeat' (tm_at "tw1")
  all_goals first | exact q | skip
local macro_rules | `(tactic| tm_at "twcall") => `(tactic| first
  | refine w_check (by omega) (by assumption) (by assumption) ?_
  | refine w_frac_of (by omega) (by assumption) (by assumption) ?_)

theorem w_addI {k : Nat} (hk : 3 ≤ k) {x : O} {n d m : Int} (hd : 1 ≤ d) (bn : Bd 3000 n) (bd : Bd 3000 d) (b8 : Bd 8000 d) (m1 : -MO ≤ m) (m2 : m ≤ MO) (hx : FO x n d) {Q : O → List O → Prop} {X : Exn → List O → Prop} (q : Q (fr ((n + m * d) / gd (n + m * d) d) (d / gd (n + m * d) d)) [x, vi m]) : wf (callN sta.T sta.ft k 6 [x, vi m]) Q X := by
  obtain ⟨j, rfl⟩ : ∃ j, k = j + 1 := ⟨k - 1, by omega⟩
  rcases hx with rfl | rfl
  · refine call_wf ft_6 rfl rfl rfl ?_
    show WB _ _ _ b_m_Frac___add__ [some (fr _ _), some (vi m)] _ _
    unfold b_m_Frac___add__ fr
    repeat' (tm_at "tw1")
    all_goals first | exact q | skip
  · refine call_wf ft_6 rfl rfl rfl ?_
    show WB _ _ _ b_m_Frac___add__ [some (fv _ _), some (vi m)] _ _
    unfold b_m_Frac___add__ fv
    repeat' (tm_at "tw1")
    all_goals first | exact q | skip
theorem w_subI {k : Nat} (hk : 3 ≤ k) {x : O} {n d m : Int} (hd : 1 ≤ d) (bn : Bd 3000 n) (bd : Bd 3000 d) (b8 : Bd 8000 d) (m1 : -MO ≤ m) (m2 : m ≤ MO) (hx : FO x n d) {Q : O → List O → Prop} {X : Exn → List O → Prop} (q : Q (fr ((n - m * d) / gd (n - m * d) d) (d / gd (n - m * d) d)) [x, vi m]) : wf (callN sta.T sta.ft k 8 [x, vi m]) Q X := by
  obtain ⟨j, rfl⟩ : ∃ j, k = j + 1 := ⟨k - 1, by omega⟩
  rcases hx with rfl | rfl
  · refine call_wf ft_8 rfl rfl rfl ?_
    show WB _ _ _ b_m_Frac___sub__ [some (fr _ _), some (vi m)] _ _
    unfold b_m_Frac___sub__ fr
    repeat' (tm_at "tw1")
    all_goals first | exact q | skip
  · refine call_wf ft_8 rfl rfl rfl ?_
    show WB _ _ _ b_m_Frac___sub__ [some (fv _ _), some (vi m)] _ _
    unfold b_m_Frac___sub__ fv
    repeat' (tm_at "tw1")
    all_goals first | exact q | skip
theorem ft_9 : sta.ft 9 = some d_m_Frac___rsub__ := rfl
theorem w_rsubI {k : Nat} (hk : 3 ≤ k) {x : O} {n d m : Int} (hd : 1 ≤ d) (bn : Bd 3000 n) (bd : Bd 3000 d) (b8 : Bd 8000 d) (m1 : -MO ≤ m) (m2 : m ≤ MO) (hx : FO x n d) {Q : O → List O → Prop} {X : Exn → List O → Prop} (q : Q (fr ((m * d - n) / gd (m * d - n) d) (d / gd (m * d - n) d)) [x, vi m]) : wf (callN sta.T sta.ft k 9 [x, vi m]) Q X := by
  obtain ⟨j, rfl⟩ : ∃ j, k = j + 1 := ⟨k - 1, by omega⟩
  rcases hx with rfl | rfl
  · refine call_wf ft_9 rfl rfl rfl ?_
    show WB _ _ _ b_m_Frac___rsub__ [some (fr _ _), some (vi m)] _ _
    unfold b_m_Frac___rsub__ fr
    repeat' (tm_at "tw1")
    all_goals first | exact q | skip
  · refine call_wf ft_9 rfl rfl rfl ?_
    show WB _ _ _ b_m_Frac___rsub__ [some (fv _ _), some (vi m)] _ _
    unfold b_m_Frac___rsub__ fv
    repeat' (tm_at "tw1")
    all_goals first | exact q | skip
theorem w_mulI {k : Nat} (hk : 3 ≤ k) {x : O} {n d m : Int} (hd : 1 ≤ d) (bn : Bd 3000 n) (bd : Bd 3000 d) (b8 : Bd 8000 d) (m1 : -MO ≤ m) (m2 : m ≤ MO) (hx : FO x n d) {Q : O → List O → Prop} {X : Exn → List O → Prop} (q : Q (fr ((n * m) / gd (n * m) d) (d / gd (n * m) d)) [x, vi m]) : wf (callN sta.T sta.ft k 10 [x, vi m]) Q X := by
  obtain ⟨j, rfl⟩ : ∃ j, k = j + 1 := ⟨k - 1, by omega⟩
  rcases hx with rfl | rfl
  · refine call_wf ft_10 rfl rfl rfl ?_
    show WB _ _ _ b_m_Frac___mul__ [some (fr _ _), some (vi m)] _ _
    unfold b_m_Frac___mul__ fr
    repeat' (tm_at "tw1")
    all_goals first | exact q | skip
  · refine call_wf ft_10 rfl rfl rfl ?_
    show WB _ _ _ b_m_Frac___mul__ [some (fv _ _), some (vi m)] _ _
    unfold b_m_Frac___mul__ fv
    repeat' (tm_at "tw1")
    all_goals first | exact q | skip
end
set_option maxHeartbeats 4000000
/-! k01, the plain law: equality; an int at the left. -/
section
open PySem Tw
theorem ft_7 : sta.ft 7 = some d_m_Frac___radd__ := rfl
theorem ft_11 : sta.ft 11 = some d_m_Frac___rmul__ := rfl
local macro_rules | `(tactic| tm_at "bd") => `(tactic| exact bd_mo (by omega) (by omega))
theorem c_addI {k : Nat} {x : O} {n d m : Int} (hx : FO x n d) (hk : 3 ≤ k) (hd : 1 ≤ d) (bn : Bd 3000 n) (bd : Bd 3000 d) (b8 : Bd 8000 d) (m1 : -MO ≤ m) (m2 : m ≤ MO) {Q : O → List O → Prop} {X : Exn → List O → Prop} (q : Q (fr ((n + m * d) / gd (n + m * d) d) (d / gd (n + m * d) d)) [x, vi m]) : wf (callN sta.T sta.ft k 6 [x, vi m]) Q X := w_addI hk hd bn bd b8 m1 m2 hx q
theorem c_mulI {k : Nat} {x : O} {n d m : Int} (hx : FO x n d) (hk : 3 ≤ k) (hd : 1 ≤ d) (bn : Bd 3000 n) (bd : Bd 3000 d) (b8 : Bd 8000 d) (m1 : -MO ≤ m) (m2 : m ≤ MO) {Q : O → List O → Prop} {X : Exn → List O → Prop} (q : Q (fr ((n * m) / gd (n * m) d) (d / gd (n * m) d)) [x, vi m]) : wf (callN sta.T sta.ft k 10 [x, vi m]) Q X := w_mulI hk hd bn bd b8 m1 m2 hx q
local macro_rules | `(tactic| tm_at "twcall") => `(tactic| first
  | refine c_addI (by first | exact .inl rfl | exact .inr rfl) (by omega) (by assumption) (by assumption) (by assumption) (by assumption) (by assumption) (by assumption) ?_
  | refine c_mulI (by first | exact .inl rfl | exact .inr rfl) (by omega) (by assumption) (by assumption) (by assumption) (by assumption) (by assumption) (by assumption) ?_)
theorem w_eqF {k : Nat} (hk : 1 ≤ k) {x y : O} {n d m e : Int} (hx : FO x n d) (hy : FO y m e) {Q : O → List O → Prop} {X : Exn → List O → Prop} (q : Q (vb (decide (n = m ∧ d = e))) [x, y]) : wf (callN sta.T sta.ft k 14 [x, y]) Q X := by
  obtain ⟨j, rfl⟩ : ∃ j, k = j + 1 := ⟨k - 1, by omega⟩
  rcases hx with rfl | rfl <;> rcases hy with rfl | rfl
  · refine call_wf ft_14 rfl rfl rfl ?_
    show WB _ _ _ b_m_Frac___eq__ [some (fr _ _), some (fr _ _)] _ _
    unfold b_m_Frac___eq__ fr
    repeat' (tm_at "tw1")
    all_goals first | (simp_all [fr, fv]; done) | skip
  · refine call_wf ft_14 rfl rfl rfl ?_
    show WB _ _ _ b_m_Frac___eq__ [some (fr _ _), some (fv _ _)] _ _
    unfold b_m_Frac___eq__ fr fv
    repeat' (tm_at "tw1")
    all_goals first | (simp_all [fr, fv]; done) | skip
  · refine call_wf ft_14 rfl rfl rfl ?_
    show WB _ _ _ b_m_Frac___eq__ [some (fv _ _), some (fr _ _)] _ _
    unfold b_m_Frac___eq__ fr fv
    repeat' (tm_at "tw1")
    all_goals first | (simp_all [fr, fv]; done) | skip
  · refine call_wf ft_14 rfl rfl rfl ?_
    show WB _ _ _ b_m_Frac___eq__ [some (fv _ _), some (fv _ _)] _ _
    unfold b_m_Frac___eq__ fv
    repeat' (tm_at "tw1")
    all_goals first | (simp_all [fr, fv]; done) | skip
theorem w_raddI {k : Nat} (hk : 4 ≤ k) {x : O} {n d m : Int} (hd : 1 ≤ d) (bn : Bd 3000 n) (bd : Bd 3000 d) (b8 : Bd 8000 d) (m1 : -MO ≤ m) (m2 : m ≤ MO) (hx : FO x n d) {Q : O → List O → Prop} {X : Exn → List O → Prop} (q : Q (fr ((n + m * d) / gd (n + m * d) d) (d / gd (n + m * d) d)) [x, vi m]) : wf (callN sta.T sta.ft k 7 [x, vi m]) Q X := by
  obtain ⟨j, rfl⟩ : ∃ j, k = j + 1 := ⟨k - 1, by omega⟩
  rcases hx with rfl | rfl
  · refine call_wf ft_7 rfl rfl rfl ?_
    show WB _ _ _ b_m_Frac___radd__ [some (fr _ _), some (vi m)] _ _
    unfold b_m_Frac___radd__
    repeat' (tm_at "tw1")
    all_goals first | exact q | skip
  · refine call_wf ft_7 rfl rfl rfl ?_
    show WB _ _ _ b_m_Frac___radd__ [some (fv _ _), some (vi m)] _ _
    unfold b_m_Frac___radd__
    repeat' (tm_at "tw1")
    all_goals first | exact q | skip
theorem w_rmulI {k : Nat} (hk : 4 ≤ k) {x : O} {n d m : Int} (hd : 1 ≤ d) (bn : Bd 3000 n) (bd : Bd 3000 d) (b8 : Bd 8000 d) (m1 : -MO ≤ m) (m2 : m ≤ MO) (hx : FO x n d) {Q : O → List O → Prop} {X : Exn → List O → Prop} (q : Q (fr ((n * m) / gd (n * m) d) (d / gd (n * m) d)) [x, vi m]) : wf (callN sta.T sta.ft k 11 [x, vi m]) Q X := by
  obtain ⟨j, rfl⟩ : ∃ j, k = j + 1 := ⟨k - 1, by omega⟩
  rcases hx with rfl | rfl
  · refine call_wf ft_11 rfl rfl rfl ?_
    show WB _ _ _ b_m_Frac___rmul__ [some (fr _ _), some (vi m)] _ _
    unfold b_m_Frac___rmul__
    repeat' (tm_at "tw1")
    all_goals first | exact q | skip
  · refine call_wf ft_11 rfl rfl rfl ?_
    show WB _ _ _ b_m_Frac___rmul__ [some (fv _ _), some (vi m)] _ _
    unfold b_m_Frac___rmul__
    repeat' (tm_at "tw1")
    all_goals first | exact q | skip
end
set_option maxHeartbeats 4000000
/-! k01, the plain law: as_frac. -/
section
open PySem Tw
theorem ft_23 : sta.ft 23 = some d_f_as_frac := rfl
theorem bd_1 : Bd 8000 1 := (show Bd 64 1 from by unfold Bd; decide).mono (by decide)
local macro_rules | `(tactic| tm_at "twcall") => `(tactic| first
  | refine w_frac_of (by omega) (by decide) bd_1 ?_)
theorem w_asI {k : Nat} (hk : 3 ≤ k) {n : Int} {Q : O → List O → Prop} {X : Exn → List O → Prop} (q : Q (fr (n / gd n 1) (1 / gd n 1)) [vi n]) : wf (callN sta.T sta.ft k 23 [vi n]) Q X := by
  obtain ⟨j, rfl⟩ : ∃ j, k = j + 1 := ⟨k - 1, by omega⟩
  refine call_wf ft_23 rfl rfl rfl ?_
  show WB _ _ _ b_f_as_frac [some (vi n)] _ _
  unfold b_f_as_frac
  repeat' (tm_at "tw1")
  all_goals first | exact q | skip
theorem w_asF {k : Nat} (hk : 3 ≤ k) {x : O} {n d : Int} (hx : FO x n d) {Q : O → List O → Prop} {X : Exn → List O → Prop} (q : Q (fv n d) [fv n d]) : wf (callN sta.T sta.ft k 23 [x]) Q X := by
  obtain ⟨j, rfl⟩ : ∃ j, k = j + 1 := ⟨k - 1, by omega⟩
  rcases hx with rfl | rfl
  · refine call_wf ft_23 rfl rfl rfl ?_
    show WB _ _ _ b_f_as_frac [some (fr _ _)] _ _
    unfold b_f_as_frac fr
    repeat' (tm_at "tw1")
    all_goals first | exact q | skip
  · refine call_wf ft_23 rfl rfl rfl ?_
    show WB _ _ _ b_f_as_frac [some (fv _ _)] _ _
    unfold b_f_as_frac fv
    repeat' (tm_at "tw1")
    all_goals first | exact q | skip
end
set_option maxHeartbeats 4000000
/-! k01, the plain law: compare. -/
section
open PySem Tw
theorem ft_18 : sta.ft 18 = some d_m_Frac_compare := rfl
/-- what compare answers -/
def cmpZ (a b : Int) : Int := if a < b then -1 else if b < a then 1 else 0
local macro_rules | `(tactic| tm_at "bd") => `(tactic| exact bd_mo (by omega) (by omega))
local macro_rules | `(tactic| tm_at "twcon") => `(tactic| exact mo_con)
theorem w_checkF {k : Nat} (hk : 1 ≤ k) {x : O} {n d : Int} (hx : FO x n d) {Q : O → List O → Prop} {X : Exn → List O → Prop} (q : Q (.val .non) [x]) : wf (callN sta.T sta.ft k 24 [x]) Q X := by
  obtain ⟨j, rfl⟩ : ∃ j, k = j + 1 := ⟨k - 1, by omega⟩
  rcases hx with rfl | rfl
  · refine call_wf ft_24 rfl rfl rfl ?_
    show WB _ _ _ b_f_check_number [some (fr _ _)] _ _
    unfold b_f_check_number fr
    repeat' (tm_at "tw1")
    all_goals first | exact q | skip
  · refine call_wf ft_24 rfl rfl rfl ?_
    show WB _ _ _ b_f_check_number [some (fv _ _)] _ _
    unfold b_f_check_number fv
    repeat' (tm_at "tw1")
    all_goals first | exact q | skip
local macro_rules | `(tactic| tm_at "twcall") => `(tactic| first
  | refine w_checkF (by omega) (by first | exact .inl rfl | exact .inr rfl) ?_
  | refine w_asF (by omega) (by first | exact .inl rfl | exact .inr rfl) ?_)
theorem w_compare {k : Nat} (hk : 4 ≤ k) {x y : O} {n d m e : Int} (bn : Bd 3000 n) (bd : Bd 3000 d) (bm : Bd 3000 m) (be : Bd 3000 e) (hx : FO x n d) (hy : FO y m e) {Q : O → List O → Prop} {X : Exn → List O → Prop} (q : Q (vi (cmpZ (n * e) (m * d))) [x, fv m e]) : wf (callN sta.T sta.ft k 18 [x, y]) Q X := by
  obtain ⟨j, rfl⟩ : ∃ j, k = j + 1 := ⟨k - 1, by omega⟩
  unfold cmpZ at q
  rcases hx with rfl | rfl <;> rcases hy with rfl | rfl
  · refine call_wf ft_18 rfl rfl rfl ?_
    show WB _ _ _ b_m_Frac_compare [some (fr _ _), some (fr _ _), none, none, none] _ _
    unfold b_m_Frac_compare
    repeat' (tm_at "tw1")
    all_goals first | (simp_all; done) | (simp_all [fv]; done) | (rw [show O.val (D.ins 5 [1, 0] [D.int m, D.int e]) = fv m e from rfl]; simp_all; done) | skip
  · refine call_wf ft_18 rfl rfl rfl ?_
    show WB _ _ _ b_m_Frac_compare [some (fr _ _), some (fv _ _), none, none, none] _ _
    unfold b_m_Frac_compare
    repeat' (tm_at "tw1")
    all_goals first | (simp_all; done) | (simp_all [fv]; done) | (rw [show O.val (D.ins 5 [1, 0] [D.int m, D.int e]) = fv m e from rfl]; simp_all; done) | skip
  · refine call_wf ft_18 rfl rfl rfl ?_
    show WB _ _ _ b_m_Frac_compare [some (fv _ _), some (fr _ _), none, none, none] _ _
    unfold b_m_Frac_compare
    repeat' (tm_at "tw1")
    all_goals first | (simp_all; done) | (simp_all [fv]; done) | (rw [show O.val (D.ins 5 [1, 0] [D.int m, D.int e]) = fv m e from rfl]; simp_all; done) | skip
  · refine call_wf ft_18 rfl rfl rfl ?_
    show WB _ _ _ b_m_Frac_compare [some (fv _ _), some (fv _ _), none, none, none] _ _
    unfold b_m_Frac_compare
    repeat' (tm_at "tw1")
    all_goals first | (simp_all; done) | (simp_all [fv]; done) | (rw [show O.val (D.ins 5 [1, 0] [D.int m, D.int e]) = fv m e from rfl]; simp_all; done) | skip
end
set_option maxHeartbeats 4000000
/-! k01, the plain law: a fraction is no int and no text. -/
section
open PySem Tw
theorem w_eqI {k : Nat} (hk : 1 ≤ k) {x : O} {n d : Int} {m : Int} (hx : FO x n d) {Q : O → List O → Prop} {X : Exn → List O → Prop} (q : Q (vb false) [x, vi m]) : wf (callN sta.T sta.ft k 14 [x, vi m]) Q X := by
  obtain ⟨j, rfl⟩ : ∃ j, k = j + 1 := ⟨k - 1, by omega⟩
  rcases hx with rfl | rfl
  · refine call_wf ft_14 rfl rfl rfl ?_
    show WB _ _ _ b_m_Frac___eq__ [some (fr _ _), some (vi m)] _ _
    unfold b_m_Frac___eq__ fr
    repeat' (tm_at "tw1")
    all_goals first | exact q | skip
  · refine call_wf ft_14 rfl rfl rfl ?_
    show WB _ _ _ b_m_Frac___eq__ [some (fv _ _), some (vi m)] _ _
    unfold b_m_Frac___eq__ fv
    repeat' (tm_at "tw1")
    all_goals first | exact q | skip
theorem w_eqS {k : Nat} (hk : 1 ≤ k) {x : O} {n d : Int} {m : PySem.Str} (hx : FO x n d) {Q : O → List O → Prop} {X : Exn → List O → Prop} (q : Q (vb false) [x, .val (.str m)]) : wf (callN sta.T sta.ft k 14 [x, .val (.str m)]) Q X := by
  obtain ⟨j, rfl⟩ : ∃ j, k = j + 1 := ⟨k - 1, by omega⟩
  rcases hx with rfl | rfl
  · refine call_wf ft_14 rfl rfl rfl ?_
    show WB _ _ _ b_m_Frac___eq__ [some (fr _ _), some (.val (.str m))] _ _
    unfold b_m_Frac___eq__ fr
    repeat' (tm_at "tw1")
    all_goals first | exact q | skip
  · refine call_wf ft_14 rfl rfl rfl ?_
    show WB _ _ _ b_m_Frac___eq__ [some (fv _ _), some (.val (.str m))] _ _
    unfold b_m_Frac___eq__ fv
    repeat' (tm_at "tw1")
    all_goals first | exact q | skip
end
set_option maxHeartbeats 4000000
/-! k01, the plain law: compare with an int. -/
section
open PySem Tw
local macro_rules | `(tactic| tm_at "bd") => `(tactic| exact bd_mo (by omega) (by omega))
local macro_rules | `(tactic| tm_at "twcon") => `(tactic| exact mo_con)
theorem gd_one {n : Int} : gd n 1 = 1 := by
  have h1 := gd_pos (a := n) (b := 1) (by decide)
  have h2 := gd_le (a := n) (b := 1) (by decide)
  omega
theorem w_asI1 {k : Nat} (hk : 3 ≤ k) {n : Int} {Q : O → List O → Prop} {X : Exn → List O → Prop} (q : Q (fr n 1) [vi n]) : wf (callN sta.T sta.ft k 23 [vi n]) Q X := by
  refine w_asI hk ?_
  rw [gd_one, Int.ediv_one]
  exact q
local macro_rules | `(tactic| tm_at "twcall") => `(tactic| first
  | refine w_check (by omega) (by assumption) (by assumption) ?_
  | refine w_asI1 (by omega) ?_)
theorem w_compareI {k : Nat} (hk : 4 ≤ k) {x : O} {n d m : Int} (bn : Bd 3000 n) (bd : Bd 3000 d) (m1 : -MO ≤ m) (m2 : m ≤ MO) (hx : FO x n d) {Q : O → List O → Prop} {X : Exn → List O → Prop} (q : Q (vi (cmpZ (n * 1) (m * d))) [x, vi m]) : wf (callN sta.T sta.ft k 18 [x, vi m]) Q X := by
  obtain ⟨j, rfl⟩ : ∃ j, k = j + 1 := ⟨k - 1, by omega⟩
  unfold cmpZ at q
  have hm := mo_big
  rcases hx with rfl | rfl
  · refine call_wf ft_18 rfl rfl rfl ?_
    show WB _ _ _ b_m_Frac_compare [some (fr _ _), some (vi m), none, none, none] _ _
    unfold b_m_Frac_compare
    repeat' (tm_at "tw1")
    all_goals first | (simp_all; done) | (rw [if_neg (by assumption), if_pos (by assumption)] at q; exact q) | (rw [if_neg (by assumption), if_neg (by assumption)] at q; exact q) | (rw [if_pos (by assumption)] at q; exact q)
  · refine call_wf ft_18 rfl rfl rfl ?_
    show WB _ _ _ b_m_Frac_compare [some (fv _ _), some (vi m), none, none, none] _ _
    unfold b_m_Frac_compare
    repeat' (tm_at "tw1")
    all_goals first | (simp_all; done) | (rw [if_neg (by assumption), if_pos (by assumption)] at q; exact q) | (rw [if_neg (by assumption), if_neg (by assumption)] at q; exact q) | (rw [if_pos (by assumption)] at q; exact q)
end
set_option maxHeartbeats 4000000
/-! k01, the plain law: lowest terms, and what the operators do to them. -/
section
open PySem Tw
def rn (n d : Int) : Int := n / gd n d
def rd (n d : Int) : Int := d / gd n d
theorem gd_mul {n d c : Int} (hc : 1 ≤ c) : gd (n * c) (d * c) = gd n d * c := by
  unfold gd
  rw [Int.gcd_mul_right, Int.natCast_mul, Int.natAbs_of_nonneg (by omega)]
theorem red_eq {n d n' d' : Int} (hd : 1 ≤ d) (hd' : 1 ≤ d') (e : n * d' = n' * d) : rn n d = rn n' d' ∧ rd n d = rd n' d' := by
  have h1 := gd_mul (n := n) (d := d) hd'
  have h2 := gd_mul (n := n') (d := d') hd
  have e2 : gd n d * d' = gd n' d' * d := by rw [← h1, ← h2, e, Int.mul_comm d d']
  constructor
  · show n / gd n d = n' / gd n' d'
    rw [← Int.mul_ediv_mul_of_pos_left n (gd n d) (show 0 < d' by omega), e2, e, Int.mul_ediv_mul_of_pos_left _ _ (show 0 < d by omega)]
  · show d / gd n d = d' / gd n' d'
    rw [← Int.mul_ediv_mul_of_pos_left d (gd n d) (show 0 < d' by omega), e2, Int.mul_comm d d', Int.mul_ediv_mul_of_pos_left _ _ (show 0 < d by omega)]
theorem rn_mul {n d : Int} : n = rn n d * gd n d := by
  unfold rn; exact (Int.ediv_mul_cancel (Int.gcd_dvd_left ..)).symm
theorem rd_mul {n d : Int} : d = rd n d * gd n d := by
  unfold rd; exact (Int.ediv_mul_cancel (Int.gcd_dvd_right ..)).symm
theorem rd_pos {n d : Int} (h : 1 ≤ d) : 1 ≤ rd n d := by
  have h1 := @rd_mul n d
  have h2 := gd_pos (a := n) h
  rcases Int.lt_or_le (rd n d) 1 with h3 | h3
  · have : rd n d * gd n d ≤ 0 * gd n d := Int.mul_le_mul_of_nonneg_right (by omega) (by omega)
    omega
  · exact h3
theorem rd_le {n d : Int} (h : 1 ≤ d) : rd n d ≤ d := by
  unfold rd
  exact Int.ediv_le_self _ (by omega)
theorem cr {n d : Int} : rn n d * d = n * rd n d := by
  have h1 := @rd_mul n d
  have h2 := @rn_mul n d
  generalize rn n d = a at *
  generalize rd n d = b at *
  generalize gd n d = c at *
  subst h1 h2
  grind
theorem gd_neg {n d : Int} : gd (-n) (-d) = gd n d := by
  unfold gd; rw [Int.neg_gcd, Int.gcd_neg]
theorem rn_neg {n d : Int} : n / -gd n d = rn (-n) (-d) := by
  unfold rn
  rw [gd_neg, Int.ediv_neg]
  exact (Int.neg_ediv_of_dvd (Int.gcd_dvd_left ..)).symm
theorem rd_neg {n d : Int} : d / -gd n d = rd (-n) (-d) := by
  unfold rd
  rw [gd_neg, Int.ediv_neg]
  exact (Int.neg_ediv_of_dvd (Int.gcd_dvd_right ..)).symm
theorem rn_bd {k : Nat} {n d : Int} (h : 1 ≤ d) (b : Bd k n) : Bd k (rn n d) := b.div (by have := gd_pos (a := n) h; omega)
theorem rd_bd {k : Nat} {n d : Int} (h : 1 ≤ d) (b : Bd k d) : Bd k (rd n d) := b.div (by have := gd_pos (a := n) h; omega)
/-- a fraction num / den in lowest terms -/
structure FR (x : O) (N D : Int) : Prop where
  ox : FO x (rn N D) (rd N D)
  d1 : 1 ≤ D
  bn : Bd 3000 N
  bd : Bd 3000 D
theorem FR.e1 {x : O} {N D : Int} (h : FR x N D) : 1 ≤ rd N D := rd_pos h.d1
theorem FR.en {x : O} {N D : Int} (h : FR x N D) : Bd 3000 (rn N D) := rn_bd h.d1 h.bn
theorem FR.ed {x : O} {N D : Int} (h : FR x N D) : Bd 3000 (rd N D) := rd_bd h.d1 h.bd
theorem fr_eq {a b c d : Int} (h : a = c ∧ b = d) : fr a b = fr c d := by rw [h.1, h.2]
theorem z_add {k : Nat} {x y : O} {N D M E : Int} (hx : FR x N D) (hy : FR y M E) (hk : 3 ≤ k) {Q : O → List O → Prop} {X : Exn → List O → Prop} (q : Q (fr (rn (N * E + M * D) (D * E)) (rd (N * E + M * D) (D * E))) [x, y]) : wf (callN sta.T sta.ft k 6 [x, y]) Q X := by
  refine w_add hk hx.e1 hy.e1 hx.en hx.ed hy.en hy.ed hx.ox hy.ox ?_
  have e := red_eq (n := rn N D * rd M E + rn M E * rd N D) (d := rd N D * rd M E) (n' := N * E + M * D) (d' := D * E) (Int.mul_pos hx.e1 hy.e1) (Int.mul_pos hx.d1 hy.d1) (by
    have h1 := @cr N D
    have h2 := @cr M E
    generalize rn N D = a at *
    generalize rd N D = b at *
    generalize rn M E = c at *
    generalize rd M E = d at *
    clear hx hy q
    grind)
  show Q (fr (rn _ _) (rd _ _)) _
  rw [fr_eq e]
  exact q
theorem z_sub {k : Nat} {x y : O} {N D M E : Int} (hx : FR x N D) (hy : FR y M E) (hk : 3 ≤ k) {Q : O → List O → Prop} {X : Exn → List O → Prop} (q : Q (fr (rn (N * E - M * D) (D * E)) (rd (N * E - M * D) (D * E))) [x, y]) : wf (callN sta.T sta.ft k 8 [x, y]) Q X := by
  refine w_sub hk hx.e1 hy.e1 hx.en hx.ed hy.en hy.ed hx.ox hy.ox ?_
  have e := red_eq (n := rn N D * rd M E - rn M E * rd N D) (d := rd N D * rd M E) (n' := N * E - M * D) (d' := D * E) (Int.mul_pos hx.e1 hy.e1) (Int.mul_pos hx.d1 hy.d1) (by
    have h1 := @cr N D
    have h2 := @cr M E
    generalize rn N D = a at *
    generalize rd N D = b at *
    generalize rn M E = c at *
    generalize rd M E = d at *
    clear hx hy q
    grind)
  show Q (fr (rn _ _) (rd _ _)) _
  rw [fr_eq e]
  exact q
theorem z_mul {k : Nat} {x y : O} {N D M E : Int} (hx : FR x N D) (hy : FR y M E) (hk : 3 ≤ k) {Q : O → List O → Prop} {X : Exn → List O → Prop} (q : Q (fr (rn (N * M) (D * E)) (rd (N * M) (D * E))) [x, y]) : wf (callN sta.T sta.ft k 10 [x, y]) Q X := by
  refine w_mul hk hx.e1 hy.e1 hx.en hx.ed hy.en hy.ed hx.ox hy.ox ?_
  have e := red_eq (n := rn N D * rn M E) (d := rd N D * rd M E) (n' := N * M) (d' := D * E) (Int.mul_pos hx.e1 hy.e1) (Int.mul_pos hx.d1 hy.d1) (by
    have h1 := @cr N D
    have h2 := @cr M E
    generalize rn N D = a at *
    generalize rd N D = b at *
    generalize rn M E = c at *
    generalize rd M E = d at *
    clear hx hy q
    grind)
  show Q (fr (rn _ _) (rd _ _)) _
  rw [fr_eq e]
  exact q
theorem crI {N D m : Int} {a b : Int} (h1 : a * D = N * b) : (a + m * b) * D = (N + m * D) * b := by grind
theorem crI2 {N D m : Int} {a b : Int} (h1 : a * D = N * b) : (a - m * b) * D = (N - m * D) * b := by grind
theorem crI3 {N D m : Int} {a b : Int} (h1 : a * D = N * b) : (m * b - a) * D = (m * D - N) * b := by grind
theorem crI4 {N D m : Int} {a b : Int} (h1 : a * D = N * b) : (a * m) * D = (N * m) * b := by grind
theorem z_addI {k : Nat} {x : O} {N D m : Int} (hx : FR x N D) (hk : 3 ≤ k) (m1 : -MO ≤ m) (m2 : m ≤ MO) {Q : O → List O → Prop} {X : Exn → List O → Prop} (q : Q (fr (rn (N + m * D) D) (rd (N + m * D) D)) [x, vi m]) : wf (callN sta.T sta.ft k 6 [x, vi m]) Q X := by
  refine w_addI hk hx.e1 hx.en hx.ed (bd_up hx.ed) m1 m2 hx.ox ?_
  show Q (fr (rn _ _) (rd _ _)) _
  rw [fr_eq (red_eq hx.e1 hx.d1 (crI cr))]
  exact q
theorem z_raddI {k : Nat} {x : O} {N D m : Int} (hx : FR x N D) (hk : 4 ≤ k) (m1 : -MO ≤ m) (m2 : m ≤ MO) {Q : O → List O → Prop} {X : Exn → List O → Prop} (q : Q (fr (rn (N + m * D) D) (rd (N + m * D) D)) [x, vi m]) : wf (callN sta.T sta.ft k 7 [x, vi m]) Q X := by
  refine w_raddI hk hx.e1 hx.en hx.ed (bd_up hx.ed) m1 m2 hx.ox ?_
  show Q (fr (rn _ _) (rd _ _)) _
  rw [fr_eq (red_eq hx.e1 hx.d1 (crI cr))]
  exact q
theorem z_subI {k : Nat} {x : O} {N D m : Int} (hx : FR x N D) (hk : 3 ≤ k) (m1 : -MO ≤ m) (m2 : m ≤ MO) {Q : O → List O → Prop} {X : Exn → List O → Prop} (q : Q (fr (rn (N - m * D) D) (rd (N - m * D) D)) [x, vi m]) : wf (callN sta.T sta.ft k 8 [x, vi m]) Q X := by
  refine w_subI hk hx.e1 hx.en hx.ed (bd_up hx.ed) m1 m2 hx.ox ?_
  show Q (fr (rn _ _) (rd _ _)) _
  rw [fr_eq (red_eq hx.e1 hx.d1 (crI2 cr))]
  exact q
theorem z_rsubI {k : Nat} {x : O} {N D m : Int} (hx : FR x N D) (hk : 3 ≤ k) (m1 : -MO ≤ m) (m2 : m ≤ MO) {Q : O → List O → Prop} {X : Exn → List O → Prop} (q : Q (fr (rn (m * D - N) D) (rd (m * D - N) D)) [x, vi m]) : wf (callN sta.T sta.ft k 9 [x, vi m]) Q X := by
  refine w_rsubI hk hx.e1 hx.en hx.ed (bd_up hx.ed) m1 m2 hx.ox ?_
  show Q (fr (rn _ _) (rd _ _)) _
  rw [fr_eq (red_eq hx.e1 hx.d1 (crI3 cr))]
  exact q
theorem z_mulI {k : Nat} {x : O} {N D m : Int} (hx : FR x N D) (hk : 3 ≤ k) (m1 : -MO ≤ m) (m2 : m ≤ MO) {Q : O → List O → Prop} {X : Exn → List O → Prop} (q : Q (fr (rn (N * m) D) (rd (N * m) D)) [x, vi m]) : wf (callN sta.T sta.ft k 10 [x, vi m]) Q X := by
  refine w_mulI hk hx.e1 hx.en hx.ed (bd_up hx.ed) m1 m2 hx.ox ?_
  show Q (fr (rn _ _) (rd _ _)) _
  rw [fr_eq (red_eq hx.e1 hx.d1 (crI4 cr))]
  exact q
theorem z_rmulI {k : Nat} {x : O} {N D m : Int} (hx : FR x N D) (hk : 4 ≤ k) (m1 : -MO ≤ m) (m2 : m ≤ MO) {Q : O → List O → Prop} {X : Exn → List O → Prop} (q : Q (fr (rn (N * m) D) (rd (N * m) D)) [x, vi m]) : wf (callN sta.T sta.ft k 11 [x, vi m]) Q X := by
  refine w_rmulI hk hx.e1 hx.en hx.ed (bd_up hx.ed) m1 m2 hx.ox ?_
  show Q (fr (rn _ _) (rd _ _)) _
  rw [fr_eq (red_eq hx.e1 hx.d1 (crI4 cr))]
  exact q
theorem natAbs_mul' {a d : Int} (h : 1 ≤ d) : (a.natAbs : Int) * d = ((a * d).natAbs : Int) := by
  rw [Int.natAbs_mul, Int.natCast_mul, Int.natAbs_of_nonneg (show 0 ≤ d by omega)]
theorem z_neg {k : Nat} {x : O} {N D : Int} (hx : FR x N D) (hk : 3 ≤ k) {Q : O → List O → Prop} {X : Exn → List O → Prop} (q : Q (fr (rn (-N) D) (rd (-N) D)) [x]) : wf (callN sta.T sta.ft k 12 [x]) Q X := by
  refine w_neg hk hx.e1 (bd_up hx.ed) hx.ox ?_
  show Q (fr (rn _ _) (rd _ _)) _
  rw [fr_eq (red_eq (n' := -N) hx.e1 hx.d1 (by rw [Int.neg_mul, Int.neg_mul, cr]))]
  exact q
theorem z_abs {k : Nat} {x : O} {N D : Int} (hx : FR x N D) (hk : 3 ≤ k) {Q : O → List O → Prop} {X : Exn → List O → Prop} (q : Q (fr (rn (N.natAbs : Int) D) (rd (N.natAbs : Int) D)) [x]) : wf (callN sta.T sta.ft k 13 [x]) Q X := by
  refine w_abs hk hx.e1 (bd_up hx.ed) hx.ox ?_
  show Q (fr (rn _ _) (rd _ _)) _
  rw [fr_eq (red_eq (n' := (N.natAbs : Int)) hx.e1 hx.d1 (by rw [natAbs_mul' hx.d1, natAbs_mul' hx.e1, cr]))]
  exact q
theorem fl_eq {N D : Int} (h : 1 ≤ D) : rn N D / rd N D = N / D := by
  have e1 : N / D = (rn N D * gd N D) / (rd N D * gd N D) := by rw [← rn_mul, ← rd_mul]
  rw [e1, Int.mul_ediv_mul_of_pos_left _ _ (by have := gd_pos (a := N) h; omega)]
theorem z_floor {k : Nat} {x : O} {N D : Int} (hx : FR x N D) (hk : 3 ≤ k) {Q : O → List O → Prop} {X : Exn → List O → Prop} (q : Q (vi (N / D)) [x]) : wf (callN sta.T sta.ft k 19 [x]) Q X := by
  refine w_floor hk hx.e1 (bd_up hx.ed) hx.ox ?_
  rw [fl_eq hx.d1]
  exact q
theorem rn_zero {N D : Int} (h : 1 ≤ D) : rn N D = 0 ↔ N = 0 := by
  have h1 := @cr N D
  have h2 := rd_pos (n := N) h
  constructor
  · intro e
    rw [e, Int.zero_mul] at h1
    rcases Int.mul_eq_zero.mp h1.symm with h3 | h3
    · exact h3
    · omega
  · intro e
    rw [e] at h1
    rw [e]
    unfold rn
    exact Int.zero_ediv _
theorem z_bool {k : Nat} {x : O} {N D : Int} (hx : FR x N D) (hk : 3 ≤ k) {Q : O → List O → Prop} {X : Exn → List O → Prop} (q : Q (vb (N != 0)) [x]) : wf (callN sta.T sta.ft k 15 [x]) Q X := by
  refine w_bool hk hx.e1 (bd_up hx.ed) hx.ox ?_
  have e : (rn N D != 0) = (N != 0) := by
    have := rn_zero (N := N) hx.d1
    rw [Bool.eq_iff_iff]
    simp [this]
  rw [e]
  exact q
theorem z_whole {k : Nat} {x : O} {N D : Int} (hx : FR x N D) (hk : 3 ≤ k) {Q : O → List O → Prop} {X : Exn → List O → Prop} (q : Q (vb (decide (rd N D = 1))) [x]) : wf (callN sta.T sta.ft k 20 [x]) Q X := w_whole hk hx.e1 (bd_up hx.ed) hx.ox q
theorem cmpZ_mul {a b c : Int} (h : 1 ≤ c) : cmpZ (a * c) (b * c) = cmpZ a b := by
  have h1 : a * c < b * c ↔ a < b := ⟨fun z => Int.lt_of_mul_lt_mul_right z (by omega), fun z => Int.mul_lt_mul_of_pos_right z (by omega)⟩
  have h2 : b * c < a * c ↔ b < a := ⟨fun z => Int.lt_of_mul_lt_mul_right z (by omega), fun z => Int.mul_lt_mul_of_pos_right z (by omega)⟩
  unfold cmpZ
  simp only [h1, h2]
theorem cmpZ_eq {N D M E : Int} (hd : 1 ≤ D) (he : 1 ≤ E) : cmpZ (rn N D * rd M E) (rn M E * rd N D) = cmpZ (N * E) (M * D) := by
  have g1 := gd_pos (a := N) hd
  have g2 := gd_pos (a := M) he
  have e1 : N * E = (rn N D * rd M E) * (gd N D * gd M E) := by
    have a := @rn_mul N D
    have b := @rd_mul M E
    generalize gd N D = g at *
    generalize gd M E = h at *
    generalize rn N D = r at *
    generalize rd M E = s at *
    subst a b
    clear g1 g2 hd he
    grind
  have e2 : M * D = (rn M E * rd N D) * (gd N D * gd M E) := by
    have a := @rn_mul M E
    have b := @rd_mul N D
    generalize gd N D = g at *
    generalize gd M E = h at *
    generalize rn M E = r at *
    generalize rd N D = s at *
    subst a b
    clear g1 g2 hd he e1
    grind
  rw [e1, e2, cmpZ_mul (Int.mul_pos g1 g2)]
theorem z_compare {k : Nat} {x y : O} {N D M E : Int} (hx : FR x N D) (hy : FR y M E) (hk : 4 ≤ k) {Q : O → List O → Prop} {X : Exn → List O → Prop} (q : Q (vi (cmpZ (N * E) (M * D))) [x, fv (rn M E) (rd M E)]) : wf (callN sta.T sta.ft k 18 [x, y]) Q X := by
  refine w_compare hk hx.en hx.ed hy.en hy.ed hx.ox hy.ox ?_
  rw [cmpZ_eq hx.d1 hy.d1]
  exact q
theorem rn_one {m : Int} : rn m 1 = m ∧ rd m 1 = 1 := by
  unfold rn rd
  rw [gd_one, Int.ediv_one, Int.ediv_one]
  exact ⟨rfl, rfl⟩
theorem z_compareI {k : Nat} {x : O} {N D m : Int} (hx : FR x N D) (hk : 4 ≤ k) (m1 : -MO ≤ m) (m2 : m ≤ MO) {Q : O → List O → Prop} {X : Exn → List O → Prop} (q : Q (vi (cmpZ N (m * D))) [x, vi m]) : wf (callN sta.T sta.ft k 18 [x, vi m]) Q X := by
  refine w_compareI hk hx.en hx.ed m1 m2 hx.ox ?_
  have e := cmpZ_eq (N := N) (D := D) (M := m) (E := 1) hx.d1 (by decide)
  rw [rn_one.1, rn_one.2, Int.mul_one N] at e
  rw [e]
  exact q
theorem eq_iff {N D M E : Int} (hd : 1 ≤ D) (he : 1 ≤ E) : (rn N D = rn M E ∧ rd N D = rd M E) ↔ N * E = M * D := by
  constructor
  · rintro ⟨a, b⟩
    have h1 := @cr N D
    have h2 := @cr M E
    have h3 := rd_pos (n := N) hd
    rw [← a, ← b] at h2
    generalize rn N D = r at *
    generalize rd N D = s at *
    have : (N * E) * s = (M * D) * s := by
      clear a b h3 hd he
      grind
    exact Int.eq_of_mul_eq_mul_right (by omega) this
  · exact red_eq hd he
theorem z_eq {k : Nat} {x y : O} {N D M E : Int} (hx : FR x N D) (hy : FR y M E) (hk : 1 ≤ k) {Q : O → List O → Prop} {X : Exn → List O → Prop} (q : Q (vb (decide (N * E = M * D))) [x, y]) : wf (callN sta.T sta.ft k 14 [x, y]) Q X := by
  refine w_eqF hk hx.ox hy.ox ?_
  rw [show decide (rn N D = rn M E ∧ rd N D = rd M E) = decide (N * E = M * D) from by rw [decide_eq_decide]; exact eq_iff hx.d1 hy.d1]
  exact q
theorem z_is {k : Nat} {x : O} {N D : Int} (hx : FO x (rn N D) (rd N D)) (hd : 1 ≤ D) (hb : Bd 8000 D) (hk : 2 ≤ k) {Q : O → List O → Prop} {X : Exn → List O → Prop} (q : Q (vb true) [x, vi N, vi D]) : wf (callN sta.T sta.ft k 32 [x, vi N, vi D]) Q X := w_is hk hd hb hx q
end
set_option maxHeartbeats 4000000
/-! k01, the plain law: quotients. -/
section
open PySem Tw
theorem fdivN {a g : Int} (h : 1 ≤ g) : a.fdiv (-g) = (-a) / g := by
  have e : a.fdiv (-g) = (-a).fdiv g := by
    have := Int.neg_fdiv_neg (-a) g
    rw [Int.neg_neg] at this
    exact this
  rw [e, Int.fdiv_eq_ediv_of_nonneg _ (by omega)]
theorem gd_posN {a b : Int} (h : b ≤ -1) : 1 ≤ gd a b := by
  unfold gd
  have : 0 < Int.gcd a b := Int.gcd_pos_of_ne_zero_right _ (by omega)
  omega
theorem gd_leN {a b : Int} (h : b ≤ -1) : gd a b ≤ -b := by
  unfold gd
  exact Int.le_of_dvd (by omega) (Int.dvd_neg.mpr (Int.gcd_dvd_right ..))
theorem rn_negF {n d : Int} (h : d ≤ -1) : n.fdiv (-gd n d) = rn (-n) (-d) := by
  rw [fdivN (gd_posN h)]
  unfold rn
  rw [gd_neg]
theorem rd_negF {n d : Int} (h : d ≤ -1) : d.fdiv (-gd n d) = rd (-n) (-d) := by
  rw [fdivN (gd_posN h)]
  unfold rd
  rw [gd_neg]
section
local macro_rules | `(tactic| tm_at "bd") => `(tactic| exact bd_mo (by omega) (by omega))
local macro_rules | `(tactic| tm_at "twcon") => `(tactic| exact mo_con)
local macro_rules | `(tactic| tm_at "twblt") => `(tactic| exact (show biF .gcd [vi _, vi _] = some (vi (gd _ _)) from congrArg (fun z => some (vi z)) gcd_gd))
local macro_rules | `(tactic| tm_at "twcall") => `(tactic| first
  | refine w_init (by omega) (by omega) (by omega) (by omega) (by omega) ?_)
theorem w_frac_ofN {k : Nat} (hk : 2 ≤ k) {num den : Int} (hd : den ≤ -1) (hb : Bd 8000 den) {Q : O → List O → Prop} {X : Exn → List O → Prop} (q : Q (fr (rn (-num) (-den)) (rd (-num) (-den))) [vi num, vi den]) : wf (callN sta.T sta.ft k 22 [vi num, vi den]) Q X := by
  obtain ⟨j, rfl⟩ : ∃ j, k = j + 1 := ⟨k - 1, by omega⟩
  refine call_wf ft_22 rfl rfl rfl ?_
  show WB _ _ _ b_f_frac_of [some (vi num), some (vi den), none, none] _ _
  unfold b_f_frac_of
  have g1 := gd_posN (a := num) hd
  have g2 : Bd 8000 (gd num den) := hb.neg.le (by omega) (gd_leN hd)
  have g3 : Bd 8000 (-gd num den) := g2.neg
  have hm := pow0
  have hm2 := mo_big
  rw [← rn_negF hd, ← rd_negF hd] at q
  repeat' (tm_at "tw1")
  all_goals first | exact q | skip
end
theorem ft_17 : sta.ft 17 = some d_m_Frac_over := rfl
local macro_rules | `(tactic| tm_at "bd") => `(tactic| exact bd_mo (by omega) (by omega))
local macro_rules | `(tactic| tm_at "twcon") => `(tactic| exact mo_con)
local macro_rules | `(tactic| tm_at "twcall") => `(tactic| first
  | refine w_checkF (by omega) (by first | exact .inl rfl | exact .inr rfl) ?_
  | refine w_asF (by omega) (by first | exact .inl rfl | exact .inr rfl) ?_
  | refine w_check (by omega) (by assumption) (by assumption) ?_
  | refine w_asI1 (by omega) ?_
  | refine w_frac_of (by omega) (by assumption) (bd_mul2 (by assumption) (by assumption)) ?_
  | refine w_frac_ofN (by omega) (by assumption) (bd_mul2 (by assumption) (by assumption)) ?_)
/-- a quotient by 0 -/
def zeroX : Exn := ⟨4, [], []⟩
theorem w_over0 {k : Nat} (hk : 4 ≤ k) {x : O} {n d m e : Int} (hx : FO x n d) (hm0 : m = 0) {Q : O → List O → Prop} {X : Exn → List O → Prop} (q : X zeroX [x, fv m e]) : wf (callN sta.T sta.ft k 17 [x, fv m e]) Q X := by
  obtain ⟨j, rfl⟩ : ∃ j, k = j + 1 := ⟨k - 1, by omega⟩
  rcases hx with rfl | rfl
  · refine call_wf ft_17 rfl rfl rfl ?_
    show WB _ _ _ b_m_Frac_over [some (fr _ _), some (fv _ _), none] _ _
    unfold b_m_Frac_over
    repeat' (tm_at "tw1")
    all_goals first | exact q | skip
  · refine call_wf ft_17 rfl rfl rfl ?_
    show WB _ _ _ b_m_Frac_over [some (fv _ _), some (fv _ _), none] _ _
    unfold b_m_Frac_over
    repeat' (tm_at "tw1")
    all_goals first | exact q | skip
theorem w_over1 {k : Nat} (hk : 4 ≤ k) {x : O} {n d m e : Int} (hx : FO x n d) (bn : Bd 3000 n) (bd : Bd 3000 d) (bm : Bd 3000 m) (be : Bd 3000 e) (hm0 : 1 ≤ d * m) (hm1 : m ≠ 0) {Q : O → List O → Prop} {X : Exn → List O → Prop} (q : Q (fr (rn (n * e) (d * m)) (rd (n * e) (d * m))) [x, fv m e]) : wf (callN sta.T sta.ft k 17 [x, fv m e]) Q X := by
  obtain ⟨j, rfl⟩ : ∃ j, k = j + 1 := ⟨k - 1, by omega⟩
  rcases hx with rfl | rfl
  · refine call_wf ft_17 rfl rfl rfl ?_
    show WB _ _ _ b_m_Frac_over [some (fr _ _), some (fv _ _), none] _ _
    unfold b_m_Frac_over
    repeat' (tm_at "tw1")
    all_goals first | exact q | skip
  · refine call_wf ft_17 rfl rfl rfl ?_
    show WB _ _ _ b_m_Frac_over [some (fv _ _), some (fv _ _), none] _ _
    unfold b_m_Frac_over
    repeat' (tm_at "tw1")
    all_goals first | exact q | skip
theorem w_over2 {k : Nat} (hk : 4 ≤ k) {x : O} {n d m e : Int} (hx : FO x n d) (bn : Bd 3000 n) (bd : Bd 3000 d) (bm : Bd 3000 m) (be : Bd 3000 e) (hm0 : d * m ≤ -1) (hm1 : m ≠ 0) {Q : O → List O → Prop} {X : Exn → List O → Prop} (q : Q (fr (rn (-(n * e)) (-(d * m))) (rd (-(n * e)) (-(d * m)))) [x, fv m e]) : wf (callN sta.T sta.ft k 17 [x, fv m e]) Q X := by
  obtain ⟨j, rfl⟩ : ∃ j, k = j + 1 := ⟨k - 1, by omega⟩
  rcases hx with rfl | rfl
  · refine call_wf ft_17 rfl rfl rfl ?_
    show WB _ _ _ b_m_Frac_over [some (fr _ _), some (fv _ _), none] _ _
    unfold b_m_Frac_over
    repeat' (tm_at "tw1")
    all_goals first | exact q | skip
  · refine call_wf ft_17 rfl rfl rfl ?_
    show WB _ _ _ b_m_Frac_over [some (fv _ _), some (fv _ _), none] _ _
    unfold b_m_Frac_over
    repeat' (tm_at "tw1")
    all_goals first | exact q | skip
theorem w_overI0 {k : Nat} (hk : 4 ≤ k) {x : O} {n d m : Int} (hx : FO x n d) (hm0 : m = 0) {Q : O → List O → Prop} {X : Exn → List O → Prop} (q : X zeroX [x, vi m]) : wf (callN sta.T sta.ft k 17 [x, vi m]) Q X := by
  obtain ⟨j, rfl⟩ : ∃ j, k = j + 1 := ⟨k - 1, by omega⟩
  have hm := mo_big
  have m1 : -MO ≤ m := by omega
  have m2 : m ≤ MO := by omega
  rcases hx with rfl | rfl
  · refine call_wf ft_17 rfl rfl rfl ?_
    show WB _ _ _ b_m_Frac_over [some (fr _ _), some (vi _), none] _ _
    unfold b_m_Frac_over
    repeat' (tm_at "tw1")
    all_goals first | exact q | skip
  · refine call_wf ft_17 rfl rfl rfl ?_
    show WB _ _ _ b_m_Frac_over [some (fv _ _), some (vi _), none] _ _
    unfold b_m_Frac_over
    repeat' (tm_at "tw1")
    all_goals first | exact q | skip
theorem w_overI1 {k : Nat} (hk : 4 ≤ k) {x : O} {n d m : Int} (hx : FO x n d) (bn : Bd 3000 n) (bd : Bd 3000 d) (m1 : -MO ≤ m) (m2 : m ≤ MO) (bm : Bd 3000 m) (be : Bd 3000 1) (hm0 : 1 ≤ d * m) (hm1 : m ≠ 0) {Q : O → List O → Prop} {X : Exn → List O → Prop} (q : Q (fr (rn (n * 1) (d * m)) (rd (n * 1) (d * m))) [x, vi m]) : wf (callN sta.T sta.ft k 17 [x, vi m]) Q X := by
  obtain ⟨j, rfl⟩ : ∃ j, k = j + 1 := ⟨k - 1, by omega⟩
  rcases hx with rfl | rfl
  · refine call_wf ft_17 rfl rfl rfl ?_
    show WB _ _ _ b_m_Frac_over [some (fr _ _), some (vi _), none] _ _
    unfold b_m_Frac_over
    repeat' (tm_at "tw1")
    all_goals first | exact q | skip
  · refine call_wf ft_17 rfl rfl rfl ?_
    show WB _ _ _ b_m_Frac_over [some (fv _ _), some (vi _), none] _ _
    unfold b_m_Frac_over
    repeat' (tm_at "tw1")
    all_goals first | exact q | skip
theorem w_overI2 {k : Nat} (hk : 4 ≤ k) {x : O} {n d m : Int} (hx : FO x n d) (bn : Bd 3000 n) (bd : Bd 3000 d) (m1 : -MO ≤ m) (m2 : m ≤ MO) (bm : Bd 3000 m) (be : Bd 3000 1) (hm0 : d * m ≤ -1) (hm1 : m ≠ 0) {Q : O → List O → Prop} {X : Exn → List O → Prop} (q : Q (fr (rn (-(n * 1)) (-(d * m))) (rd (-(n * 1)) (-(d * m)))) [x, vi m]) : wf (callN sta.T sta.ft k 17 [x, vi m]) Q X := by
  obtain ⟨j, rfl⟩ : ∃ j, k = j + 1 := ⟨k - 1, by omega⟩
  rcases hx with rfl | rfl
  · refine call_wf ft_17 rfl rfl rfl ?_
    show WB _ _ _ b_m_Frac_over [some (fr _ _), some (vi _), none] _ _
    unfold b_m_Frac_over
    repeat' (tm_at "tw1")
    all_goals first | exact q | skip
  · refine call_wf ft_17 rfl rfl rfl ?_
    show WB _ _ _ b_m_Frac_over [some (fv _ _), some (vi _), none] _ _
    unfold b_m_Frac_over
    repeat' (tm_at "tw1")
    all_goals first | exact q | skip
end
set_option maxHeartbeats 4000000
/-! k01, the plain law: texts. -/
section
open PySem Tw TL
/-- an integer's text -/
abbrev tx (n : Int) : Str := ((toString n : String) : Str)
def sgL (n : Int) : List Nat := if n < 0 then [45] else []
theorem tl_tx {n : Int} : tl (tx n) = sgL n ++ numL n.natAbs := by
  rcases n with m | m
  · show tl (Str.ofString (toString ((m : Nat) : Int))) = sgL ((m : Nat) : Int) ++ numL m
    rw [tl_num]
    unfold sgL
    rw [if_neg (by omega)]
    rfl
  · have e : (toString (Int.negSucc m) : String) = "-" ++ toString ((m + 1 : Nat) : Int) := rfl
    show tl (Str.ofString (toString (Int.negSucc m))) = sgL (Int.negSucc m) ++ numL (m + 1)
    rw [e, tl_ofString, String.toList_append, List.map_append, ← tl_ofString, ← tl_ofString, tl_num]
    unfold sgL
    rw [if_pos (by omega), tl_ofString]
    rfl
theorem MO_pow : MO = ((10 ^ 400 : Nat) : Int) := by decide +kernel
theorem numL_mo {n : Int} (h1 : -MO ≤ n) (h2 : n ≤ MO) : (numL n.natAbs).length ≤ 401 := by
  refine numL_len (by decide) ?_
  have e := MO_pow
  have : (10 ^ 400 : Nat) < 10 ^ 401 := by decide +kernel
  omega
theorem numL_lt4 {n : Int} (h1 : -MO < n) (h2 : n < MO) : (numL n.natAbs).length ≤ 400 := by
  refine numL_len (by decide) ?_
  have e := MO_pow
  omega
theorem tx_len {n : Int} (h1 : -MO ≤ n) (h2 : n ≤ MO) : (tx n).length ≤ 402 := by
  rw [len_tl, tl_tx, List.length_append]
  have := numL_mo h1 h2
  unfold sgL
  split <;> simp <;> omega
theorem log_mo {n : Int} (h1 : -MO ≤ n) (h2 : n ≤ MO) : n.natAbs.log2 < 1920 := by
  have h : n.natAbs < 2 ^ 1920 := by
    have e := MO_pow
    have : (10 ^ 400 : Nat) < 2 ^ 1920 := by decide +kernel
    omega
  rcases Nat.eq_zero_or_pos n.natAbs with h0 | h0
  · rw [h0]; decide
  · exact (Nat.log2_lt (by omega)).mpr h
theorem bl_str {n : Int} (h1 : -MO ≤ n) (h2 : n ≤ MO) : biF .str [vi n] = some (.val (.str (tx n))) := if_pos (log_mo h1 h2)
theorem fm_int {n : Int} (h1 : -MO ≤ n) (h2 : n ≤ MO) : fmtO (some (vi n)) = some (tx n) := if_pos (log_mo h1 h2)
abbrev bar : Str := Str.ofString "/"
/-- a fraction's text -/
def FT (n d : Int) : Str := if d = 1 then tx n else tx n ++ bar ++ tx d
theorem len_app {a b : Str} : (a ++ b).length = a.length + b.length := by
  rw [len_tl, len_tl, len_tl, tl_append, List.length_append]
theorem len_bar : bar.length = 1 := rfl
theorem len_emp : Str.empty.length = 0 := rfl
local macro_rules | `(tactic| tm_at "twblt") => `(tactic| first | exact bl_str (by omega) (by omega) | exact fm_int (by omega) (by omega))
local macro_rules | `(tactic| tm_at "twlen") => `(tactic| (simp only [len_app, len_bar, len_emp, lim]; first | omega | exact Nat.le_of_ble_eq_true rfl))
theorem ft_16 : sta.ft 16 = some d_m_Frac___str__ := rfl
theorem w_str {k : Nat} (hk : 1 ≤ k) {x : O} {n d : Int} (hx : FO x n d) (n1 : -MO ≤ n) (n2 : n ≤ MO) (d1 : 1 ≤ d) (d2 : d ≤ MO) {Q : O → List O → Prop} {X : Exn → List O → Prop} (q : Q (.val (.str (FT n d))) [x]) : wf (callN sta.T sta.ft k 16 [x]) Q X := by
  obtain ⟨j, rfl⟩ : ∃ j, k = j + 1 := ⟨k - 1, by omega⟩
  have l1 := tx_len n1 n2
  have l2 := tx_len (show -MO ≤ d by have := mo_big; omega) d2
  have hm := mo_big
  unfold FT at q
  rcases hx with rfl | rfl
  · refine call_wf ft_16 rfl rfl rfl ?_
    show WB _ _ _ b_m_Frac___str__ [some (fr _ _)] _ _
    unfold b_m_Frac___str__ fr
    repeat' (tm_at "tw1")
    · rw [if_pos (by assumption)] at q
      exact q
    · rw [if_neg (by assumption)] at q
      rw [show Str.empty ++ tx n = tx n from ext_tl (by rw [tl_append]; rfl)]
      exact q
  · refine call_wf ft_16 rfl rfl rfl ?_
    show WB _ _ _ b_m_Frac___str__ [some (fv _ _)] _ _
    unfold b_m_Frac___str__ fv
    repeat' (tm_at "tw1")
    · rw [if_pos (by assumption)] at q
      exact q
    · rw [if_neg (by assumption)] at q
      rw [show Str.empty ++ tx n = tx n from ext_tl (by rw [tl_append]; rfl)]
      exact q
end
set_option maxHeartbeats 4000000
/-! k01, the plain law: a number is read. -/
section
open PySem Tw TL
theorem con_0 : sta.T.con 0 = .int 20000 := by kernel_rfl
theorem con_1 : sta.T.con 1 = .int 400 := by kernel_rfl
abbrev FIRST : Str := Str.ofString "123456789"
theorem con_2 : sta.T.con 2 = .str FIRST := by kernel_rfl
theorem numL_first {n : Nat} (h : 1 ≤ n) : ∃ c r, numL n = c :: r ∧ 49 ≤ c ∧ c ≤ 57 := by
  induction n using Nat.strongRecOn with
  | _ n ih =>
    by_cases h0 : n < 10
    · exact ⟨48 + n, [], numL_lt h0, by omega, by omega⟩
    · obtain ⟨c, r, e, h1, h2⟩ := ih (n / 10) (by omega) (by omega)
      exact ⟨c, r ++ [48 + n % 10], by rw [numL_step (by omega), e]; rfl, h1, h2⟩
theorem first_mem {c : Nat} (h1 : 49 ≤ c) (h2 : c ≤ 57) : c ∈ FIRST.cps.toList := by
  have e : FIRST.cps.toList = [49, 50, 51, 52, 53, 54, 55, 56, 57] := by decide +kernel
  rw [e]
  simp only [List.mem_cons, List.not_mem_nil, or_false]
  omega
/-- the sign at a place of a text built of three parts -/
theorem at_mid {t : Str} {pre l rest : List Nat} (e : tl t = pre ++ (l ++ rest)) {j : Nat} (h : j < l.length) : (tl t)[pre.length + j]? = some l[j] := by
  rw [e, List.getElem?_append_right (by omega), Nat.add_sub_cancel_left, List.getElem?_append_left h, List.getElem?_eq_getElem h]
theorem at_end {t : Str} {pre l rest : List Nat} (e : tl t = pre ++ (l ++ rest)) : (tl t)[pre.length + l.length]? = rest[0]? := by
  rw [e, List.getElem?_append_right (by omega), Nat.add_sub_cancel_left, List.getElem?_append_right (by omega), Nat.sub_self]
theorem dig_mid {t : Str} {pre rest : List Nat} {n : Nat} (e : tl t = pre ++ (numL n ++ rest)) {i : Int} (h1 : (pre.length : Int) ≤ i) (h2 : i < pre.length + (numL n).length) : Txt.isdigit (L2.cutS t (some i) (some (i + 1))) = true := by
  have hj : (i - pre.length).toNat < (numL n).length := by omega
  have e1 := at_mid e hj
  rw [cut_on (show i = ((pre.length + (i - pre.length).toNat : Nat) : Int) by omega), on_some e1]
  have hd := numL_digits n _ (List.getElem_mem hj)
  rw [dig_one (by omega)]
  exact decide_eq_true hd
/-- behind the number stands no digit -/
def NoDig (rest : List Nat) : Prop := rest = [] ∨ ∃ r, rest = 47 :: r
theorem dig_end {t : Str} {pre rest : List Nat} {n : Nat} (e : tl t = pre ++ (numL n ++ rest)) (hr : NoDig rest) {i : Int} (h : i = pre.length + (numL n).length) : Txt.isdigit (L2.cutS t (some i) (some (i + 1))) = false := by
  have e1 := at_end e
  rw [cut_on (show i = ((pre.length + (numL n).length : Nat) : Int) by omega)]
  rcases hr with rfl | ⟨r, rfl⟩
  · rw [on_none e1]
    exact dig_empty
  · rw [on_some e1]
    decide +kernel
theorem cut_num {t : Str} {pre rest : List Nat} {n : Nat} (e : tl t = pre ++ (numL n ++ rest)) {i k : Int} (h : i = pre.length) (hk : k = pre.length + (numL n).length) : L2.cutS t (some i) (some k) = Str.ofString (toString ((n : Nat) : Int)) := by
  refine ext_tl ?_
  rw [tl_num]
  subst h
  have e2 : k = ((pre.length + (numL n).length : Nat) : Int) := by omega
  subst e2
  unfold L2.cutS
  have hl : t.length = (pre ++ (numL n ++ rest)).length := by rw [← e]; exact len_tl t
  rw [HT.sIx_nat, HT.sIx_nat]
  show ((tl t).drop _).take _ = _
  rw [hl, List.length_append, List.length_append, Nat.min_eq_left (show pre.length ≤ pre.length + ((numL n).length + rest.length) by omega), Nat.min_eq_left (show pre.length + (numL n).length ≤ pre.length + ((numL n).length + rest.length) by omega), e, List.drop_left, Nat.add_sub_cancel_left, List.take_left]
theorem sub_first {t : Str} {pre rest : List Nat} {n : Nat} (e : tl t = pre ++ (numL n ++ rest)) (hl : t.length ≤ 1000) {c : Nat} {r : List Nat} (hc : numL n = c :: r) {i : Int} (h : i = pre.length) : subF (.val (.str t)) (vi i) = some (.val (.str ⟨#[c]⟩)) := by
  subst h
  show (if t.length ≤ lim then (L2.atI t.cps.toList (pre.length : Int)).map _ else none) = _
  rw [if_pos (by simp only [lim]; omega)]
  have e1 : t.cps.toList = pre ++ (c :: r ++ rest) := by
    rw [← hc]
    exact e
  have e2 : L2.atI t.cps.toList (pre.length : Int) = some c := L2.atI_nat (by rw [e1, List.getElem?_append_right (Nat.le_refl _), Nat.sub_self]; rfl)
  rw [e2]
  rfl
end
set_option maxHeartbeats 4000000
/-! k01, the plain law: scan_positive. -/
section
open PySem Tw TL
theorem len_str {t : Str} (hl : t.length ≤ 1000) : biF .len [.val (.str t)] = some (vi (t.length : Int)) := if_pos (by simp only [lim]; omega)
theorem tl_len3 {t : Str} {pre l rest : List Nat} (e : tl t = pre ++ (l ++ rest)) : t.length = pre.length + (l.length + rest.length) := by
  rw [len_tl, e, List.length_append, List.length_append]
theorem ft_2 : sta.ft 2 = some d_f_scan_positive := rfl
local macro_rules | `(tactic| tm_at "twcon") => `(tactic| first | exact con_1 | exact con_2)
local macro_rules | `(tactic| tm_at "twblt") => `(tactic| first | exact len_str (by assumption) | exact sli_str (by simp only [lim]; omega))
local macro_rules | `(tactic| tm_at "prune") => `(tactic| try contradiction)
theorem w_posl {j : Nat} {t : Str} {n : Nat} {st line : Int} {pre rest : List Nat} (hl : t.length ≤ 1000) (e : tl t = pre ++ (numL n ++ rest)) (hp : st = pre.length) (h4 : (numL n).length ≤ 400) (h1 : 1 ≤ (numL n).length) (hr : NoDig rest)
    {Q : Fl → Sto → Prop} {X : Exn → Sto → Prop} (q : Q .nx [some (.val (.str t)), some (vi st), some (vi line), some (vi (st + (numL n).length))]) :
    WS sta.T (callN sta.T sta.ft j) none (.whl we_f_scan_positive_1 wb_f_scan_positive_1) [some (.val (.str t)), some (vi st), some (vi line), some (vi (st + 1))] Q X := by
  refine WS.whl (fun m τ => ∃ i : Int, st + 1 ≤ i ∧ i + m = st + (numL n).length ∧ τ = [some (.val (.str t)), some (vi st), some (vi line), some (vi i)]) (n := (numL n).length - 1) ⟨_, by omega, by omega, rfl⟩ ?_
  rintro m τ ⟨i, h0, hm, rfl⟩
  unfold we_f_scan_positive_1 wb_f_scan_positive_1
  rcases Nat.eq_zero_or_pos m with rfl | hm0
  · have hd := dig_end e hr (i := i) (by omega)
    have ei : i = st + (numL n).length := by omega
    repeat' (tm_at "tw1")
    all_goals (rw [← ei] at q; exact q)
  · have hd := dig_mid e (i := i) (by omega) (by omega)
    repeat' (tm_at "tw1")
    · exact ⟨m - 1, by omega, _, by omega, by omega, rfl⟩
    · omega
theorem int_cut {t : Str} {pre rest : List Nat} {n : Nat} (e : tl t = pre ++ (numL n ++ rest)) {i : Int} (h : i = pre.length) (h4 : (numL n).length ≤ 400) : biF .int [.val (.str (L2.cutS t (some i) (some (i + (numL n).length))))] = some (vi (n : Int)) := by
  rw [cut_num e h (by omega)]
  show (if _ ≤ 640 then (PySem.intText? _).map _ else none) = _
  rw [if_pos (by rw [len_tl, tl_num]; omega), int_num (by omega)]
  rfl
local macro_rules | `(tactic| tm_at "twblt") => `(tactic| exact int_cut (by assumption) (by assumption) (by assumption))
local macro_rules | `(tactic| tm_at "twsub") => `(tactic| exact sub_first (by assumption) (by assumption) (by assumption) (by assumption))
local macro_rules | `(tactic| tm_at "twuser") => `(tactic| with_reducible refine w_posl (by assumption) (by assumption) (by assumption) (by assumption) (by assumption) (by assumption) ?_)
theorem w_pos {k : Nat} (hk : 1 ≤ k) {t : Str} {n : Nat} {st line : Int} {pre rest : List Nat} (hl : t.length ≤ 1000) (e : tl t = pre ++ (numL n ++ rest)) (hp : st = pre.length) (hn : 1 ≤ n) (h4 : (numL n).length ≤ 400) (hr : NoDig rest)
    {Q : O → List O → Prop} {X : Exn → List O → Prop} (q : Q (.val (.tup [.int n, .int (st + (numL n).length)])) [.val (.str t), vi st, vi line]) : wf (callN sta.T sta.ft k 2 [.val (.str t), vi st, vi line]) Q X := by
  obtain ⟨j, rfl⟩ : ∃ j, k = j + 1 := ⟨k - 1, by omega⟩
  obtain ⟨c, r, hc, c1, c2⟩ := numL_first hn
  have hm := first_mem c1 c2
  have h1 : 1 ≤ (numL n).length := by rw [hc, List.length_cons]; omega
  have hlen := tl_len3 e
  refine call_wf ft_2 rfl rfl rfl ?_
  show WB _ _ _ b_f_scan_positive [some (.val (.str t)), some (vi st), some (vi line), none] _ _
  unfold b_f_scan_positive
  repeat' (tm_at "tw1")
  all_goals first | exact q | (exfalso; omega) | skip
end
set_option maxHeartbeats 4000000
/-! k01, the plain law: a fraction's text is read. -/
section
open PySem Tw TL
theorem ft_3 : sta.ft 3 = some d_f_scan_integer := rfl
theorem ft_4 : sta.ft 4 = some d_f_scan_fraction := rfl
theorem one_ne {c : Nat} {s : Str} {b : Nat} (h : tl s = [b]) (hc : c ≠ b) : ¬ ((⟨#[c]⟩ : Str) = s) := by
  intro e
  rw [← e] at h
  have : [c] = [b] := h
  injection this with h1 h2
  exact hc h1
theorem tl_0 : tl (Str.ofString "0") = [48] := by decide +kernel
theorem tl_m : tl (Str.ofString "-") = [45] := by decide +kernel
theorem tl_bar : tl bar = [47] := by decide +kernel
theorem at_0 {t : Str} {c : Nat} {r : List Nat} (e : tl t = c :: r) : L2.cutS t (some 0) (some (0 + 1)) = ⟨#[c]⟩ := by
  have h := cut_on (t := t) (i := 0) (k := 0) rfl
  rw [h]
  exact on_some (by rw [e]; rfl)
section
local macro_rules | `(tactic| tm_at "twblt") => `(tactic| first | exact len_str (by assumption) | exact sli_str (by simp only [lim]; omega))
local macro_rules | `(tactic| tm_at "tweq") => `(tactic| first | exact eqS_t (by assumption) | exact eqS_f (by assumption))
local macro_rules | `(tactic| tm_at "twcall") => `(tactic| refine w_pos (by omega) (by assumption) (by assumption) (by assumption) (by assumption) (by assumption) (by assumption) ?_)
theorem w_sint {k : Nat} (hk : 2 ≤ k) {t : Str} {n line : Int} {rest : List Nat} (hl : t.length ≤ 1000) (e : tl t = sgL n ++ (numL n.natAbs ++ rest)) (h4 : (numL n.natAbs).length ≤ 400) (hr : NoDig rest)
    {Q : O → List O → Prop} {X : Exn → List O → Prop} (q : Q (.val (.tup [.int n, .int (((sgL n).length + (numL n.natAbs).length : Nat) : Int)])) [.val (.str t), vi 0, vi line]) : wf (callN sta.T sta.ft k 3 [.val (.str t), vi 0, vi line]) Q X := by
  obtain ⟨j, rfl⟩ : ∃ j, k = j + 1 := ⟨k - 1, by omega⟩
  rcases Int.lt_trichotomy n 0 with h0 | rfl | h0
  · obtain ⟨m, rfl⟩ : ∃ m : Nat, n = -(m : Int) := ⟨n.natAbs, by omega⟩
    rw [Int.natAbs_neg, Int.natAbs_natCast] at *
    have hs : sgL (-(m : Int)) = [45] := if_pos h0
    rw [hs] at e q
    have h45 := at_0 (c := 45) e
    have t1 : ¬ (L2.cutS t (some 0) (some (0 + 1)) = Str.ofString "0") := by rw [h45]; exact one_ne tl_0 (by decide)
    have t2 : L2.cutS t (some 0) (some (0 + 1)) = Str.ofString "-" := by rw [h45]; exact ext_tl tl_m.symm
    have hp : (0 + 1 : Int) = (([45] : List Nat).length : Nat) := rfl
    have hm : 1 ≤ m := by omega
    refine call_wf ft_3 rfl rfl rfl ?_
    show WB _ _ _ b_f_scan_integer [some (.val (.str t)), some (vi 0), some (vi line), none, none] _ _
    unfold b_f_scan_integer
    repeat' (tm_at "tw1")
    all_goals first | (rw [show (([45] : List Nat).length + (numL m).length : Nat) = ((0 : Int) + 1 + (numL m).length) by simp] at q; exact q) | skip
  · have hs : sgL 0 = [] := rfl
    have hn : numL (0 : Int).natAbs = [48] := numL_lt (by decide)
    rw [hs, hn] at e q
    have h48 := at_0 (c := 48) e
    have t2 : L2.cutS t (some 0) (some (0 + 1)) = Str.ofString "0" := by rw [h48]; exact ext_tl tl_0.symm
    refine call_wf ft_3 rfl rfl rfl ?_
    show WB _ _ _ b_f_scan_integer [some (.val (.str t)), some (vi 0), some (vi line), none, none] _ _
    unfold b_f_scan_integer
    repeat' (tm_at "tw1")
    all_goals first | exact q | skip
  · obtain ⟨m, rfl⟩ : ∃ m : Nat, n = (m : Int) := ⟨n.natAbs, by omega⟩
    rw [Int.natAbs_natCast] at *
    have hs : sgL (m : Int) = [] := if_neg (by omega)
    rw [hs] at e q
    have hm : 1 ≤ m := by omega
    obtain ⟨c, r, hc, c1, c2⟩ := numL_first hm
    have h45 : L2.cutS t (some 0) (some (0 + 1)) = ⟨#[c]⟩ := at_0 (r := r ++ rest) (by rw [e, hc]; rfl)
    have t1 : ¬ (L2.cutS t (some 0) (some (0 + 1)) = Str.ofString "0") := by rw [h45]; exact one_ne tl_0 (by omega)
    have t2 : ¬ (L2.cutS t (some 0) (some (0 + 1)) = Str.ofString "-") := by rw [h45]; exact one_ne tl_m (by omega)
    have hp : (0 : Int) = (([] : List Nat).length : Nat) := rfl
    refine call_wf ft_3 rfl rfl rfl ?_
    show WB _ _ _ b_f_scan_integer [some (.val (.str t)), some (vi 0), some (vi line), none, none] _ _
    unfold b_f_scan_integer
    repeat' (tm_at "tw1")
    all_goals first | (rw [show (([] : List Nat).length + (numL m).length : Nat) = ((0 : Int) + (numL m).length) by simp] at q; exact q) | skip
end
end
set_option maxHeartbeats 4000000
/-! k01, the plain law: a fraction's text is read, 2. -/
section
open PySem Tw TL
/-- the signs of a fraction's text -/
def fL (n d : Int) : List Nat := sgL n ++ (numL n.natAbs ++ (if d = 1 then [] else 47 :: numL d.natAbs))
theorem tl_FT {n d : Int} (hd : 1 ≤ d) : tl (FT n d) = fL n d := by
  unfold FT fL
  split
  · rw [tl_tx, List.append_nil]
  · rw [tl_append, tl_append, tl_tx, tl_tx, tl_bar, show sgL d = [] from if_neg (by omega)]
    simp
theorem emp_ne {s : Str} {b : Nat} (h : tl s = [b]) : ¬ (Str.empty = s) := by
  intro e
  rw [← e] at h
  cases h
section
local macro_rules | `(tactic| tm_at "twblt") => `(tactic| first | exact sli_str (by simp only [lim]; omega) | exact (show biF .gcd [vi _, vi _] = some (vi (gd _ _)) from congrArg (fun z => some (vi z)) gcd_gd))
local macro_rules | `(tactic| tm_at "tweq") => `(tactic| first | exact eqS_t (by assumption) | exact eqS_f (by assumption))
local macro_rules | `(tactic| tm_at "twcall") => `(tactic| first
  | refine w_sint (by omega) (by assumption) (by assumption) (by assumption) (by assumption) ?_
  | refine w_pos (by omega) (by assumption) (by assumption) (by assumption) (by assumption) (by assumption) (by assumption) ?_)
theorem w_sfr {k : Nat} (hk : 3 ≤ k) {t : Str} {n d : Int} (hl : t.length ≤ 1000) (e : tl t = fL n d) (hd : 1 ≤ d) (hg : gd n d = 1) (h4 : (numL n.natAbs).length ≤ 400) (h5 : (numL d.natAbs).length ≤ 400)
    {Q : O → List O → Prop} {X : Exn → List O → Prop} (q : Q (.val (.tup [.int n, .int d, .int (t.length : Int)])) [.val (.str t), vi 0, vi 1]) : wf (callN sta.T sta.ft k 4 [.val (.str t), vi 0, vi 1]) Q X := by
  obtain ⟨j, rfl⟩ : ∃ j, k = j + 1 := ⟨k - 1, by omega⟩
  have hlen := tl_len3 e
  by_cases d1 : d = 1
  · subst d1
    unfold fL at e
    rw [if_pos rfl] at e hlen
    have hr : NoDig [] := .inl rfl
    have t1 : ¬ (L2.cutS t (some (((sgL n).length + (numL n.natAbs).length : Nat) : Int)) (some ((((sgL n).length + (numL n.natAbs).length : Nat) : Int) + 1)) = Str.ofString "/") := by
      rw [cut_on rfl, on_none (at_end e)]
      exact emp_ne tl_bar
    have el : (t.length : Int) = (((sgL n).length + (numL n.natAbs).length : Nat) : Int) := by rw [hlen]; simp
    rw [el] at q
    refine call_wf ft_4 rfl rfl rfl ?_
    show WB _ _ _ b_f_scan_fraction [some (.val (.str t)), some (vi 0), some (vi 1), none, none, none] _ _
    unfold b_f_scan_fraction
    repeat' (tm_at "tw1")
    all_goals first | exact q | skip
  · unfold fL at e
    rw [if_neg d1] at e hlen
    obtain ⟨m, rfl⟩ : ∃ m : Nat, d = (m : Int) := ⟨d.natAbs, by omega⟩
    rw [Int.natAbs_natCast] at *
    have n0 : n ≠ 0 := by
      rintro rfl
      have : gd 0 (m : Int) = m := by
        unfold gd
        rw [Int.gcd_zero_left]
        rfl
      omega
    have hr : NoDig (47 :: numL m) := .inr ⟨_, rfl⟩
    have hr2 : NoDig [] := .inl rfl
    have hm : 1 ≤ m := by omega
    have t1 : L2.cutS t (some (((sgL n).length + (numL n.natAbs).length : Nat) : Int)) (some ((((sgL n).length + (numL n.natAbs).length : Nat) : Int) + 1)) = Str.ofString "/" := by
      rw [cut_on rfl, on_some (at_end e)]
      exact ext_tl tl_bar.symm
    have e2 : tl t = (sgL n ++ (numL n.natAbs ++ [47])) ++ (numL m ++ []) := by
      rw [e]
      simp
    have hp : (((sgL n).length + (numL n.natAbs).length : Nat) : Int) + 1 = ((sgL n ++ (numL n.natAbs ++ [47])).length : Nat) := by simp; omega
    have el : (t.length : Int) = (((sgL n).length + (numL n.natAbs).length : Nat) : Int) + 1 + (numL m).length := by rw [hlen]; simp; omega
    have t2 := dig_end e2 hr2 (i := (((sgL n).length + (numL n.natAbs).length : Nat) : Int) + 1 + (numL m).length) (by rw [hp])
    rw [el] at q
    refine call_wf ft_4 rfl rfl rfl ?_
    show WB _ _ _ b_f_scan_fraction [some (.val (.str t)), some (vi 0), some (vi 1), none, none, none] _ _
    unfold b_f_scan_fraction
    repeat' (tm_at "tw1")
    all_goals first | exact q | skip
end
end
set_option maxHeartbeats 4000000
/-! k01, the plain law: a fraction's text is read, 3. -/
section
open PySem Tw TL
abbrev nl : Str := Str.ofString "\n"
theorem tl_nl : tl nl = [10] := by decide +kernel
theorem no_nl {n d : Int} : 10 ∉ fL n d := by
  unfold fL sgL
  intro h
  rcases List.mem_append.mp h with h | h
  · split at h <;> simp at h
  · rcases List.mem_append.mp h with h | h
    · exact numL_free (.inl (by decide)) h
    · split at h
      · cases h
      · rcases List.mem_cons.mp h with h | h
        · cases h
        · exact numL_free (.inl (by decide)) h
theorem spl_one {t : Str} (h : 10 ∉ tl t) (hl : t.length ≤ 1000) : splF (.val (.str t)) (.val (.str nl)) = some (.lst [.val (.str t)]) := by
  have e : Txt.split t nl = [t] := by
    have := split_join (y := nl) (s := 10) (S := []) tl_nl (by decide +kernel) (parts := [t]) (by simp) (by simpa using h)
    rw [join_eq] at this
    exact this
  show (if (nl.length == 0) = false ∧ t.length + 2 ≤ lim then _ else none) = _
  rw [if_pos ⟨by decide +kernel, by simp only [lim]; omega⟩, e]
  rfl
theorem ft_0 : sta.ft 0 = some d_f_check_size := rfl
theorem ft_1 : sta.ft 1 = some d_f_lines_of := rfl
theorem ft_21 : sta.ft 21 = some d_m_Frac_read := rfl
section
local macro_rules | `(tactic| tm_at "twblt") => `(tactic| first | exact len_str (by assumption) | exact sli_str (by simp only [lim]; omega))
theorem w_size {k : Nat} (hk : 1 ≤ k) {t : Str} (hl : t.length ≤ 1000) {Q : O → List O → Prop} {X : Exn → List O → Prop} (q : Q (.val .non) [.val (.str t), vi 0, vi 20000]) : wf (callN sta.T sta.ft k 0 [.val (.str t), vi 0, vi 20000]) Q X := by
  obtain ⟨j, rfl⟩ : ∃ j, k = j + 1 := ⟨k - 1, by omega⟩
  refine call_wf ft_0 rfl rfl rfl ?_
  show WB _ _ _ b_f_check_size [some (.val (.str t)), some (vi 0), some (vi 20000)] _ _
  unfold b_f_check_size
  repeat' (tm_at "tw1")
  all_goals first | exact q | (exfalso; omega) | skip
end
section
local macro_rules | `(tactic| tm_at "twcon") => `(tactic| exact con_0)
local macro_rules | `(tactic| tm_at "twsub") => `(tactic| exact spl_one (by assumption) (by assumption))
local macro_rules | `(tactic| tm_at "twcall") => `(tactic| refine w_size (by omega) (by assumption) ?_)
theorem w_lines {k : Nat} (hk : 2 ≤ k) {t : Str} (hl : t.length ≤ 1000) (hn : 10 ∉ tl t) {Q : O → List O → Prop} {X : Exn → List O → Prop} (q : Q (.lst [.val (.str t)]) [.val (.str t)]) : wf (callN sta.T sta.ft k 1 [.val (.str t)]) Q X := by
  obtain ⟨j, rfl⟩ : ∃ j, k = j + 1 := ⟨k - 1, by omega⟩
  refine call_wf ft_1 rfl rfl rfl ?_
  show WB _ _ _ b_f_lines_of [some (.val (.str t))] _ _
  unfold b_f_lines_of
  repeat' (tm_at "tw1")
  all_goals first | exact q | skip
end
local macro_rules | `(tactic| tm_at "twblt") => `(tactic| exact len_str (by assumption))
local macro_rules | `(tactic| tm_at "twcall") => `(tactic| first
  | refine w_lines (by omega) (by assumption) (by assumption) ?_
  | refine w_sfr (by omega) (by assumption) (by assumption) (by assumption) (by assumption) (by assumption) (by assumption) ?_
  | refine w_frac_of (by omega) (by assumption) (by assumption) ?_)
theorem w_read {k : Nat} (hk : 4 ≤ k) {t : Str} {n d : Int} (hl : t.length ≤ 1000) (e : tl t = fL n d) (hd : 1 ≤ d) (hb : Bd 8000 d) (hg : gd n d = 1) (h4 : (numL n.natAbs).length ≤ 400) (h5 : (numL d.natAbs).length ≤ 400)
    {Q : O → List O → Prop} {X : Exn → List O → Prop} (q : Q (fr n d) [.val (.str t)]) : wf (callN sta.T sta.ft k 21 [.val (.str t)]) Q X := by
  obtain ⟨j, rfl⟩ : ∃ j, k = j + 1 := ⟨k - 1, by omega⟩
  have hn : 10 ∉ tl t := by rw [e]; exact no_nl
  refine call_wf ft_21 rfl rfl rfl ?_
  show WB _ _ _ b_m_Frac_read [some (.val (.str t)), none, none, none, none] _ _
  unfold b_m_Frac_read
  repeat' (tm_at "tw1")
  all_goals first | (rw [hg, Int.ediv_one, Int.ediv_one]; exact q) | (exfalso; omega) | skip
end
set_option maxHeartbeats 4000000
/-! k01, the plain law: _law_text. -/
section
open PySem Tw TL
theorem gd_low {N D : Int} (h : 1 ≤ D) : gd (rn N D) (rd N D) = 1 := by
  have g1 := gd_pos (a := N) h
  have e := gd_mul (n := rn N D) (d := rd N D) g1
  rw [← rn_mul, ← rd_mul] at e
  have : (gd (rn N D) (rd N D)) * gd N D = 1 * gd N D := by omega
  exact Int.eq_of_mul_eq_mul_right (by omega) this
theorem rn_lo {N D : Int} (h : 1 ≤ D) (h1 : -MO ≤ N) : -MO ≤ rn N D := by
  have g1 := gd_pos (a := N) h
  have hm := mo_big
  unfold rn
  refine Int.le_ediv_of_mul_le (by omega) ?_
  have : -MO * gd N D ≤ -MO * 1 := Int.mul_le_mul_of_nonpos_left (by omega) g1
  omega
theorem rn_hi {N D : Int} (h : 1 ≤ D) (h1 : N ≤ MO) : rn N D ≤ MO := by
  have g1 := gd_pos (a := N) h
  have hm := mo_big
  unfold rn
  refine Int.ediv_le_of_le_mul (by omega) ?_
  have : MO * 1 ≤ MO * gd N D := Int.mul_le_mul_of_nonneg_left g1 (by omega)
  omega
theorem z_lowest {k : Nat} (hk : 1 ≤ k) {num den : Int} (hd : 1 ≤ den) (hb : Bd 8000 den) {Q : O → List O → Prop} {X : Exn → List O → Prop} (q : Q (.val (.tup [.int (rn num den), .int (rd num den)])) [vi num, vi den]) : wf (callN sta.T sta.ft k 31 [vi num, vi den]) Q X := w_lowest hk hd hb q
theorem ft_33 : sta.ft 33 = some d_f__law_text := rfl
theorem FR.of {N D : Int} (n1 : -MO ≤ N) (n2 : N ≤ MO) (d1 : 1 ≤ D) (d2 : D ≤ MO) : FR (fv (rn N D) (rd N D)) N D := ⟨.inr rfl, d1, (bd_mo n1 n2).mono (by decide), (bd_mo (by have := mo_big; omega) d2).mono (by decide)⟩
local macro_rules | `(tactic| tm_at "twpow") => `(tactic| first | exact pw1 | exact pw2)
local macro_rules | `(tactic| tm_at "tweq") => `(tactic| first | exact eqS_t (by assumption) | exact eqS_f (by assumption))
local macro_rules | `(tactic| tm_at "twblt") => `(tactic| exact bl_str (by assumption) (by assumption))
local macro_rules | `(tactic| tm_at "twcall") => `(tactic| first
  | refine z_lowest (by omega) (by assumption) (by assumption) ?_
  | refine w_str (by omega) (by assumption) (by assumption) (by assumption) (by assumption) (by assumption) ?_
  | refine w_eqS (by omega) (by assumption) ?_
  | refine w_read (by omega) (by assumption) (by assumption) (by assumption) (by assumption) (by assumption) (numL_lt4 (by omega) (by omega)) (numL_lt4 (by omega) (by omega)) ?_
  | refine z_is (by assumption) (by assumption) (by assumption) (by omega) ?_)
local macro_rules | `(tactic| tm_at "twlen") => `(tactic| (simp only [len_app, len_bar, lim]; omega))
theorem w_text {k : Nat} (hk : 6 ≤ k) {N D : Int} (n1 : -MO ≤ N) (n2 : N ≤ MO) (d1 : 1 ≤ D) (d2 : D ≤ MO) {Q : O → List O → Prop} {X : Exn → List O → Prop} (q : Q (vb true) [fv (rn N D) (rd N D), vi N, vi D]) : wf (callN sta.T sta.ft k 33 [fv (rn N D) (rd N D), vi N, vi D]) Q X := by
  obtain ⟨j, rfl⟩ : ∃ j, k = j + 1 := ⟨k - 1, by omega⟩
  have hm := mo_big
  have r1 := rn_lo d1 n1
  have r2 := rn_hi d1 n2
  have e1 : 1 ≤ rd N D := rd_pos d1
  have e2 : rd N D ≤ MO := Int.le_trans (rd_le d1) d2
  have e3 : -MO ≤ rd N D := by omega
  have hb : Bd 8000 D := (bd_mo (by omega) d2).mono (by decide)
  have hb2 : Bd 8000 (rd N D) := rd_bd d1 hb
  have hg := gd_low (N := N) d1
  have l1 := tx_len r1 r2
  have l2 := tx_len e3 e2
  have hx : FO (fv (rn N D) (rd N D)) (rn N D) (rd N D) := .inr rfl
  have hx2 : FO (fr (rn N D) (rd N D)) (rn N D) (rd N D) := .inl rfl
  have ht := tl_FT (n := rn N D) e1
  by_cases h1 : rd N D = 1
  · have hF : FT (rn N D) (rd N D) = tx (rn N D) := if_pos h1
    have hl : (tx (rn N D)).length ≤ 1000 := by omega
    rw [hF] at ht
    refine call_wf ft_33 rfl rfl rfl ?_
    show WB _ _ _ b_f__law_text [some (fv _ _), some (vi _), some (vi _), none, none, none] _ _
    unfold b_f__law_text
    repeat' (tm_at "tw1")
    all_goals first | exact q | (exfalso; omega) | skip
  · have hF : FT (rn N D) (rd N D) = tx (rn N D) ++ bar ++ tx (rd N D) := if_neg h1
    have hl : (tx (rn N D) ++ bar ++ tx (rd N D)).length ≤ 1000 := by rw [len_app, len_app, len_bar]; omega
    rw [hF] at ht
    refine call_wf ft_33 rfl rfl rfl ?_
    show WB _ _ _ b_f__law_text [some (fv _ _), some (vi _), some (vi _), none, none, none] _ _
    unfold b_f__law_text
    repeat' (tm_at "tw1")
    all_goals first | exact q | (exfalso; omega) | skip
end
set_option maxHeartbeats 4000000
/-! k01, the plain law: _law_side, _law_same, _law_no_quotient. -/
section
open PySem Tw
theorem ft_36 : sta.ft 36 = some d_f__law_side := rfl
theorem ft_37 : sta.ft 37 = some d_f__law_same := rfl
theorem ft_35 : sta.ft 35 = some d_f__law_no_quotient := rfl
theorem side_eq {l r : Int} : decide (cmpZ l r = (if decide (r < l) = true then 1 else 0) - (if decide (l < r) = true then 1 else 0)) = true := by
  unfold cmpZ
  rw [decide_eq_true_eq]
  simp only [decide_eq_true_eq]
  split
  · rw [if_neg (by omega)]
    rfl
  · split <;> rfl
section
local macro_rules | `(tactic| tm_at "twcall") => `(tactic| refine w_int (by omega) ?_)
theorem w_side {k : Nat} (hk : 2 ≤ k) {l r : Int} {Q : O → List O → Prop} {X : Exn → List O → Prop} (q : Q (vb true) [vi (cmpZ l r), vi l, vi r]) : wf (callN sta.T sta.ft k 36 [vi (cmpZ l r), vi l, vi r]) Q X := by
  obtain ⟨j, rfl⟩ : ∃ j, k = j + 1 := ⟨k - 1, by omega⟩
  rw [← side_eq (l := l) (r := r)] at q
  refine call_wf ft_36 rfl rfl rfl ?_
  show WB _ _ _ b_f__law_side [some (vi _), some (vi _), some (vi _), none] _ _
  unfold b_f__law_side
  repeat' (tm_at "tw1")
  all_goals first | exact q | exact absurd rfl (by assumption) | skip
end
theorem c_eq {k : Nat} {x y : O} {N D M E : Int} {δ : Bool} (hx : FR x N D) (hy : FR y M E) (hδ : decide (N * E = M * D) = δ) (hk : 1 ≤ k) {Q : O → List O → Prop} {X : Exn → List O → Prop} (q : Q (vb δ) [x, y]) : wf (callN sta.T sta.ft k 14 [x, y]) Q X := by
  refine z_eq hx hy hk ?_
  rw [hδ]
  exact q
section
local macro_rules | `(tactic| tm_at "twcall") => `(tactic| first
  | refine c_eq (by assumption) (by assumption) (by assumption) (by omega) ?_
  | refine w_eqI (by omega) (by assumption) ?_)
/-- two kept fractions -/
theorem w_same {k : Nat} (hk : 2 ≤ k) {n d m e N D M E : Int} {δ : Bool} (hx : FR (fv n d) N D) (hy : FR (fv m e) M E) (hδ : decide (N * E = M * D) = δ) {Q : O → List O → Prop} {X : Exn → List O → Prop} (q : Q (vb true) [fv n d, fv m e, vb δ]) : wf (callN sta.T sta.ft k 37 [fv n d, fv m e, vb δ]) Q X := by
  obtain ⟨j, rfl⟩ : ∃ j, k = j + 1 := ⟨k - 1, by omega⟩
  refine call_wf ft_37 rfl rfl rfl ?_
  show WB _ _ _ b_f__law_same [some (fv _ _), some (fv _ _), some (vb _), none, none] _ _
  unfold b_f__law_same
  cases δ
  · repeat' (tm_at "tw1")
    all_goals first | exact q | exact absurd rfl (by assumption) | skip
  · repeat' (tm_at "tw1")
    all_goals first | exact q | exact absurd rfl (by assumption) | skip
theorem w_sameO {k : Nat} (hk : 2 ≤ k) {n d m e N D M E : Int} {δ : Bool} (hx : FR (fr n d) N D) (hy : FR (fv m e) M E) (hδ : decide (N * E = M * D) = δ) {Q : O → List O → Prop} {X : Exn → List O → Prop} (q : Q (vb true) [fr n d, fv m e, vb δ]) : wf (callN sta.T sta.ft k 37 [fr n d, fv m e, vb δ]) Q X := by
  obtain ⟨j, rfl⟩ : ∃ j, k = j + 1 := ⟨k - 1, by omega⟩
  refine call_wf ft_37 rfl rfl rfl ?_
  show WB _ _ _ b_f__law_same [some (fr _ _), some (fv _ _), some (vb _), none, none] _ _
  unfold b_f__law_same
  cases δ
  · repeat' (tm_at "tw1")
    all_goals first | exact q | exact absurd rfl (by assumption) | skip
  · repeat' (tm_at "tw1")
    all_goals first | exact q | exact absurd rfl (by assumption) | skip
theorem w_sameI {k : Nat} (hk : 2 ≤ k) {n d m : Int} (hx : FO (fv n d) n d) {Q : O → List O → Prop} {X : Exn → List O → Prop} (q : Q (vb true) [fv n d, vi m, vb false]) : wf (callN sta.T sta.ft k 37 [fv n d, vi m, vb false]) Q X := by
  obtain ⟨j, rfl⟩ : ∃ j, k = j + 1 := ⟨k - 1, by omega⟩
  refine call_wf ft_37 rfl rfl rfl ?_
  show WB _ _ _ b_f__law_same [some (fv _ _), some (vi _), some (vb _), none, none] _ _
  unfold b_f__law_same
  repeat' (tm_at "tw1")
  all_goals first | exact q | exact absurd rfl (by assumption) | skip
theorem w_sameR {k : Nat} (hk : 2 ≤ k) {n d m : Int} (hx : FO (fv n d) n d) {Q : O → List O → Prop} {X : Exn → List O → Prop} (q : Q (vb true) [vi m, fv n d, vb false]) : wf (callN sta.T sta.ft k 37 [vi m, fv n d, vb false]) Q X := by
  obtain ⟨j, rfl⟩ : ∃ j, k = j + 1 := ⟨k - 1, by omega⟩
  refine call_wf ft_37 rfl rfl rfl ?_
  show WB _ _ _ b_f__law_same [some (vi _), some (fv _ _), some (vb _), none, none] _ _
  unfold b_f__law_same
  repeat' (tm_at "tw1")
  all_goals first | exact q | exact absurd rfl (by assumption) | skip
end
section
local macro_rules | `(tactic| tm_at "twcall") => `(tactic| first
  | refine w_over0 (by omega) (by assumption) (by assumption) ?_
  | refine w_overI0 (by omega) (by assumption) (by assumption) ?_)
theorem w_noq {k : Nat} (hk : 5 ≤ k) {n d m e : Int} (hx : FO (fv n d) n d) (hm : m = 0) {Q : O → List O → Prop} {X : Exn → List O → Prop} (q : Q (vb true) [fv n d, fv m e]) : wf (callN sta.T sta.ft k 35 [fv n d, fv m e]) Q X := by
  obtain ⟨j, rfl⟩ : ∃ j, k = j + 1 := ⟨k - 1, by omega⟩
  refine call_wf ft_35 rfl rfl rfl ?_
  show WB _ _ _ b_f__law_no_quotient [some (fv _ _), some (fv _ _), none] _ _
  unfold b_f__law_no_quotient
  repeat' (tm_at "tw1")
  all_goals first | exact q | exact absurd rfl (by assumption) | skip
theorem w_noqI {k : Nat} (hk : 5 ≤ k) {n d m : Int} (hx : FO (fv n d) n d) (hm : m = 0) {Q : O → List O → Prop} {X : Exn → List O → Prop} (q : Q (vb true) [fv n d, vi m]) : wf (callN sta.T sta.ft k 35 [fv n d, vi m]) Q X := by
  obtain ⟨j, rfl⟩ : ∃ j, k = j + 1 := ⟨k - 1, by omega⟩
  refine call_wf ft_35 rfl rfl rfl ?_
  show WB _ _ _ b_f__law_no_quotient [some (fv _ _), some (vi _), none] _ _
  unfold b_f__law_no_quotient
  repeat' (tm_at "tw1")
  all_goals first | exact q | exact absurd rfl (by assumption) | skip
end
end
set_option maxHeartbeats 4000000
/-! k01, the plain law: _law_alone, quotients in lowest terms. -/
section
open PySem Tw
theorem ft_34 : sta.ft 34 = some d_f__law_alone := rfl
theorem fl_lo {N D : Int} (h : 1 ≤ D) : N / D * D ≤ N := Int.ediv_mul_le N (by omega)
theorem fl_hi {N D : Int} (h : 1 ≤ D) : N < N / D * D + D := Int.lt_ediv_add_one_mul_self N (show 0 < D by omega) |> fun z => by rw [Int.add_mul, Int.one_mul] at z; exact z
theorem int_t {b : Bool} (h : b = true) : biF .int [vb b] = some (vi 1) := by rw [h]; rfl
theorem int_f {b : Bool} (h : b = false) : biF .int [vb b] = some (vi 0) := by rw [h]; rfl
theorem eqB {b c : Bool} (h : b = c) : eqD (.bl b) (.bl c) = some true := by rw [h]; exact congrArg some (decide_eq_true rfl)
theorem bne_dec {N : Int} : (N != 0) = !decide (N = 0) := by
  rw [Bool.eq_iff_iff]
  simp
section
local macro_rules | `(tactic| tm_at "tweq") => `(tactic| first | exact eqB rfl | exact eqB bne_dec)
local macro_rules | `(tactic| tm_at "twcall") => `(tactic| first
  | refine z_is (by first | exact .inl rfl | exact .inr rfl) (by assumption) (by assumption) (by omega) ?_
  | refine z_neg (by assumption) (by omega) ?_
  | refine z_abs (by assumption) (by omega) ?_
  | refine z_floor (by assumption) (by omega) ?_
  | refine z_whole (by assumption) (by omega) ?_
  | refine z_bool (by assumption) (by omega) ?_
  | refine z_lowest (by omega) (by assumption) (by assumption) ?_
  | refine w_int (by omega) ?_
  | refine w_text (by omega) (by assumption) (by assumption) (by assumption) (by assumption) ?_)
theorem w_alone {k : Nat} (hk : 7 ≤ k) {N D : Int} (n1 : -MO ≤ N) (n2 : N ≤ MO) (d1 : 1 ≤ D) (d2 : D ≤ MO) {Q : O → List O → Prop} {X : Exn → List O → Prop} (q : Q (vb true) [fv (rn N D) (rd N D), vi N, vi D]) : wf (callN sta.T sta.ft k 34 [fv (rn N D) (rd N D), vi N, vi D]) Q X := by
  obtain ⟨j, rfl⟩ : ∃ j, k = j + 1 := ⟨k - 1, by omega⟩
  have hm := mo_big
  have hx := FR.of n1 n2 d1 d2
  have bN : Bd 3000 N := hx.bn
  have bD : Bd 3000 D := hx.bd
  have b8 : Bd 8000 D := bd_up bD
  have bf : Bd 3000 (N / D) := bN.div (by omega)
  have f1 := fl_lo (N := N) d1
  have f2 := fl_hi (N := N) d1
  refine call_wf ft_34 rfl rfl rfl ?_
  show WB _ _ _ b_f__law_alone [some (fv _ _), some (vi _), some (vi _), none, none] _ _
  unfold b_f__law_alone
  repeat' (tm_at "tw1")
  all_goals first | exact q | exact absurd rfl (by assumption) | skip
end
theorem rn_pos1 {M E : Int} (h : 1 ≤ E) (hM : 1 ≤ M) : 1 ≤ rn M E := by
  have h1 := @cr M E
  have h2 := rd_pos (n := M) h
  have h3 : 0 < rn M E * E := by rw [h1]; exact Int.mul_pos hM h2
  exact Int.pos_of_mul_pos_left h3 h
theorem rn_negm {M E : Int} (h : 1 ≤ E) : rn (-M) E = -rn M E := by
  have h1 := @cr M E
  have e := red_eq (n := -M) (d := E) (n' := -rn M E) (d' := rd M E) h (rd_pos h) (by rw [Int.neg_mul, Int.neg_mul, h1])
  rw [e.1]
  have g : gd (-rn M E) (rd M E) = 1 := by
    unfold gd
    rw [Int.neg_gcd]
    exact gd_low h
  show (-rn M E) / gd (-rn M E) (rd M E) = -rn M E
  rw [g, Int.ediv_one]
theorem rn_neg1 {M E : Int} (h : 1 ≤ E) (hM : M ≤ -1) : rn M E ≤ -1 := by
  have := rn_pos1 h (show 1 ≤ -M by omega)
  rw [rn_negm h] at this
  omega
theorem mul_neg1 {a b : Int} (ha : 1 ≤ a) (hb : b ≤ -1) : a * b ≤ -1 := by
  have : 0 < a * -b := Int.mul_pos ha (by omega)
  rw [Int.mul_neg] at this
  omega
theorem over_cr {N D M E : Int} : (rn N D * rd M E) * (D * M) = (N * E) * (rd N D * rn M E) := by
  have h1 := @cr N D
  have h2 := @cr M E
  generalize rn N D = a at *
  generalize rd N D = b at *
  generalize rn M E = c at *
  generalize rd M E = d at *
  grind
theorem z_overP {k : Nat} {x : O} {N D M E : Int} (hx : FR x N D) (hy : FR (fv (rn M E) (rd M E)) M E) (hM : 1 ≤ M) (hk : 4 ≤ k) {Q : O → List O → Prop} {X : Exn → List O → Prop} (q : Q (fr (rn (N * E) (D * M)) (rd (N * E) (D * M))) [x, fv (rn M E) (rd M E)]) : wf (callN sta.T sta.ft k 17 [x, fv (rn M E) (rd M E)]) Q X := by
  have h1 := rn_pos1 hy.d1 hM
  refine w_over1 hk hx.ox hx.en hx.ed hy.en hy.ed (Int.mul_pos hx.e1 h1) (by omega) ?_
  rw [fr_eq (red_eq (n' := N * E) (d' := D * M) (Int.mul_pos hx.e1 h1) (Int.mul_pos hx.d1 hM) over_cr)]
  exact q
theorem z_overN {k : Nat} {x : O} {N D M E : Int} (hx : FR x N D) (hy : FR (fv (rn M E) (rd M E)) M E) (hM : M ≤ -1) (hk : 4 ≤ k) {Q : O → List O → Prop} {X : Exn → List O → Prop} (q : Q (fr (rn (-(N * E)) (-(D * M))) (rd (-(N * E)) (-(D * M)))) [x, fv (rn M E) (rd M E)]) : wf (callN sta.T sta.ft k 17 [x, fv (rn M E) (rd M E)]) Q X := by
  have h1 := rn_neg1 hy.d1 hM
  have h2 := mul_neg1 hx.e1 h1
  have h3 := mul_neg1 hx.d1 hM
  refine w_over2 hk hx.ox hx.en hx.ed hy.en hy.ed h2 (by omega) ?_
  rw [fr_eq (red_eq (n' := -(N * E)) (d' := -(D * M)) (by omega) (by omega) (by rw [Int.neg_mul_neg, Int.neg_mul_neg]; exact over_cr))]
  exact q
theorem over_crI {N D M : Int} : (rn N D * 1) * (D * M) = N * (rd N D * M) := by
  have h1 := @cr N D
  generalize rn N D = a at *
  generalize rd N D = b at *
  grind
theorem bd_3k1 : Bd 3000 1 := (show Bd 64 1 from by unfold Bd; decide).mono (by decide)
theorem z_overIP {k : Nat} {x : O} {N D M : Int} (hx : FR x N D) (hM : 1 ≤ M) (m1 : -MO ≤ M) (m2 : M ≤ MO) (hk : 4 ≤ k) {Q : O → List O → Prop} {X : Exn → List O → Prop} (q : Q (fr (rn N (D * M)) (rd N (D * M))) [x, vi M]) : wf (callN sta.T sta.ft k 17 [x, vi M]) Q X := by
  refine w_overI1 hk hx.ox hx.en hx.ed m1 m2 ((bd_mo m1 m2).mono (by decide)) bd_3k1 (Int.mul_pos hx.e1 hM) (by omega) ?_
  rw [fr_eq (red_eq (n' := N) (d' := D * M) (Int.mul_pos hx.e1 hM) (Int.mul_pos hx.d1 hM) over_crI)]
  exact q
theorem z_overIN {k : Nat} {x : O} {N D M : Int} (hx : FR x N D) (hM : M ≤ -1) (m1 : -MO ≤ M) (m2 : M ≤ MO) (hk : 4 ≤ k) {Q : O → List O → Prop} {X : Exn → List O → Prop} (q : Q (fr (rn (-N) (-(D * M))) (rd (-N) (-(D * M)))) [x, vi M]) : wf (callN sta.T sta.ft k 17 [x, vi M]) Q X := by
  have h2 := mul_neg1 hx.e1 hM
  have h3 := mul_neg1 hx.d1 hM
  refine w_overI2 hk hx.ox hx.en hx.ed m1 m2 ((bd_mo m1 m2).mono (by decide)) bd_3k1 h2 (by omega) ?_
  rw [fr_eq (red_eq (n' := -N) (d' := -(D * M)) (by omega) (by omega) (by rw [Int.neg_mul_neg, Int.neg_mul_neg]; exact over_crI))]
  exact q
/-- the answer of a quotient is what is due -/
theorem z_isP {k : Nat} {x : O} {A D M : Int} (hx : FO x (rn A (D * M)) (rd A (D * M))) (hM : 1 ≤ M) (hd : 1 ≤ D) (bd : Bd 3000 D) (bm : Bd 3000 M) (hk : 2 ≤ k) {Q : O → List O → Prop} {X : Exn → List O → Prop} (q : Q (vb true) [x, vi ((1 - 2 * 0) * A), vi (D * (M.natAbs : Int))]) : wf (callN sta.T sta.ft k 32 [x, vi ((1 - 2 * 0) * A), vi (D * (M.natAbs : Int))]) Q X := by
  have e1 : (1 - 2 * 0) * A = A := by omega
  have e2 : (M.natAbs : Int) = M := by omega
  rw [e1, e2] at q ⊢
  exact z_is hx (Int.mul_pos hd hM) (bd_mul2 bd bm) hk q
theorem z_isN {k : Nat} {x : O} {A D M : Int} (hx : FO x (rn (-A) (-(D * M))) (rd (-A) (-(D * M)))) (hM : M ≤ -1) (hd : 1 ≤ D) (bd : Bd 3000 D) (bm : Bd 3000 M) (hk : 2 ≤ k) {Q : O → List O → Prop} {X : Exn → List O → Prop} (q : Q (vb true) [x, vi ((1 - 2 * 1) * A), vi (D * (M.natAbs : Int))]) : wf (callN sta.T sta.ft k 32 [x, vi ((1 - 2 * 1) * A), vi (D * (M.natAbs : Int))]) Q X := by
  have e1 : (1 - 2 * 1) * A = -A := by omega
  have e2 : (M.natAbs : Int) = -M := by omega
  rw [e1, e2, Int.mul_neg] at q ⊢
  have h3 := mul_neg1 hd hM
  exact z_is hx (by omega) (bd_mul2 bd bm).neg hk q
end
set_option maxHeartbeats 4000000
/-! k01, the plain law: _law_two. -/
section
open PySem Tw
theorem ft_38 : sta.ft 38 = some d_f__law_two := rfl
/-- a pair of numbers -/
abbrev pr (n d : Int) : O := .val (.tup [.int n, .int d])
theorem rn_0 {M E : Int} (h : 1 ≤ E) (hM : M = 0) : rn M E = 0 := (rn_zero h).mpr hM
local macro_rules | `(tactic| tm_at "twblt") => `(tactic| first | exact int_t (decide_eq_true (by omega)) | exact int_f (decide_eq_false (by omega)))
local macro_rules | `(tactic| tm_at "twcall") => `(tactic| first
  | refine z_is (by first | exact .inl rfl | exact .inr rfl) (one_mul2 (by assumption) (by assumption)) (bd_mul2 (by assumption) (by assumption)) (by omega) ?_
  | refine z_add (by assumption) (by assumption) (by omega) ?_
  | refine z_sub (by assumption) (by assumption) (by omega) ?_
  | refine z_mul (by assumption) (by assumption) (by omega) ?_
  | refine z_compare (by assumption) (by assumption) (by omega) ?_
  | refine w_side (by omega) ?_
  | refine w_same (by omega) (by assumption) (by assumption) (by rfl) ?_
  | refine w_noq (by omega) (by exact .inr rfl) (by assumption) ?_
  | refine z_overP (by assumption) (by assumption) (by assumption) (by omega) ?_
  | refine z_overN (by assumption) (by assumption) (by assumption) (by omega) ?_
  | refine z_isP (by first | exact .inl rfl | exact .inr rfl) (by assumption) (by assumption) (by assumption) (by assumption) (by omega) ?_
  | refine z_isN (by first | exact .inl rfl | exact .inr rfl) (by assumption) (by assumption) (by assumption) (by assumption) (by omega) ?_)
theorem w_two {k : Nat} (hk : 6 ≤ k) {N D M E : Int} (hx : FR (fv (rn N D) (rd N D)) N D) (hy : FR (fv (rn M E) (rd M E)) M E) {Q : O → List O → Prop} {X : Exn → List O → Prop} (q : Q (vb true) [fv (rn N D) (rd N D), fv (rn M E) (rd M E), pr N D, pr M E]) : wf (callN sta.T sta.ft k 38 [fv (rn N D) (rd N D), fv (rn M E) (rd M E), pr N D, pr M E]) Q X := by
  obtain ⟨j, rfl⟩ : ∃ j, k = j + 1 := ⟨k - 1, by omega⟩
  have hm := mo_big
  have bN : Bd 3000 N := hx.bn
  have bD : Bd 3000 D := hx.bd
  have d1 : 1 ≤ D := hx.d1
  have bM : Bd 3000 M := hy.bn
  have bE : Bd 3000 E := hy.bd
  have e1 : 1 ≤ E := hy.d1
  have bNE : Bd 6000 (N * E) := bN.mul bE
  rcases Int.lt_trichotomy M 0 with h | h | h
  · have hM : M ≤ -1 := by omega
    refine call_wf ft_38 rfl rfl rfl ?_
    show WB _ _ _ b_f__law_two [some (fv _ _), some (fv _ _), some (pr _ _), some (pr _ _), none, none, none, none] _ _
    unfold b_f__law_two
    repeat' (tm_at "tw1")
    all_goals first | exact q | exact absurd rfl (by assumption) | skip
  · have hM := rn_0 (M := M) e1 h
    refine call_wf ft_38 rfl rfl rfl ?_
    show WB _ _ _ b_f__law_two [some (fv _ _), some (fv _ _), some (pr _ _), some (pr _ _), none, none, none, none] _ _
    unfold b_f__law_two
    repeat' (tm_at "tw1")
    all_goals first | exact q | exact absurd rfl (by assumption) | skip
  · have hM : 1 ≤ M := by omega
    refine call_wf ft_38 rfl rfl rfl ?_
    show WB _ _ _ b_f__law_two [some (fv _ _), some (fv _ _), some (pr _ _), some (pr _ _), none, none, none, none] _ _
    unfold b_f__law_two
    repeat' (tm_at "tw1")
    all_goals first | exact q | exact absurd rfl (by assumption) | skip
end
set_option maxHeartbeats 4000000
/-! k01, the plain law: _law_with. -/
section
open PySem Tw
theorem ft_39 : sta.ft 39 = some d_f__law_with := rfl
theorem add_lst {os : List O} {b : O} {xs ys : List D} (h1 : vals os = some xs) (h2 : listOf b = some ys) (hl : xs.length + ys.length ≤ lim) : binF .add (.lst os) b = some (.lst ((xs ++ ys).map .val)) := by
  show binL .add (.lst os) b = _
  have h3 : listOf (.lst os) = some xs := h1
  unfold binL
  simp only [h3, h2]
  exact if_pos hl
theorem vals2 {a b : D} : vals [.val a, .val b] = some [a, b] := rfl
theorem vals4 {a b c d : D} : vals [.val a, .val b, .val c, .val d] = some [a, b, c, d] := rfl
theorem vals6 {a b c d e f : D} : vals [.val a, .val b, .val c, .val d, .val e, .val f] = some [a, b, c, d, e, f] := rfl
local macro_rules | `(tactic| tm_at "twblt") => `(tactic| first | exact int_t (decide_eq_true (by omega)) | exact int_f (decide_eq_false (by omega)))
local macro_rules | `(tactic| tm_at "tw1") => `(tactic| first
  | ((with_reducible refine Wbin.gen (by with_unfolding_all (exact rfl)) (by with_unfolding_all (exact rfl)) (by with_unfolding_all (exact rfl)) (by with_unfolding_all (exact rfl)) (by with_unfolding_all (exact add_lst (by first | exact vals2 | exact vals4) (by exact rfl) (by exact Nat.le_of_ble_eq_true rfl))) ?_); tm_at "nrm")
  | ((with_reducible refine WS.for_bor (by with_unfolding_all (exact rfl)) (by with_unfolding_all (exact vals6)) ?_); tm_at "nrm")
  | ((with_reducible refine Wfor.cons (by with_unfolding_all (exact rfl)) ?_); tm_at "nrm"; try unfold fb_f__law_with_1))
local macro_rules | `(tactic| tm_at "twcall") => `(tactic| first
  | refine z_is (by first | exact .inl rfl | exact .inr rfl) (by assumption) (by assumption) (by omega) ?_
  | refine z_addI (by assumption) (by omega) (by assumption) (by assumption) ?_
  | refine z_raddI (by assumption) (by omega) (by assumption) (by assumption) ?_
  | refine z_subI (by assumption) (by omega) (by assumption) (by assumption) ?_
  | refine z_rsubI (by assumption) (by omega) (by assumption) (by assumption) ?_
  | refine z_mulI (by assumption) (by omega) (by assumption) (by assumption) ?_
  | refine z_rmulI (by assumption) (by omega) (by assumption) (by assumption) ?_
  | refine z_compareI (by assumption) (by omega) (by assumption) (by assumption) ?_
  | refine w_side (by omega) ?_
  | refine w_sameI (by omega) (by exact .inr rfl) ?_
  | refine w_sameR (by omega) (by exact .inr rfl) ?_
  | refine w_noqI (by omega) (by exact .inr rfl) (by assumption) ?_
  | refine z_overIP (by assumption) (by assumption) (by assumption) (by assumption) (by omega) ?_
  | refine z_overIN (by assumption) (by assumption) (by assumption) (by assumption) (by omega) ?_
  | refine z_isP (by first | exact .inl rfl | exact .inr rfl) (by assumption) (by assumption) (by assumption) (by assumption) (by omega) ?_
  | refine z_isN (by first | exact .inl rfl | exact .inr rfl) (by assumption) (by assumption) (by assumption) (by assumption) (by omega) ?_)
theorem w_with {k : Nat} (hk : 6 ≤ k) {N D m : Int} (hx : FR (fv (rn N D) (rd N D)) N D) (m1 : -MO ≤ m) (m2 : m ≤ MO) {Q : O → List O → Prop} {X : Exn → List O → Prop} (q : Q (vb true) [fv (rn N D) (rd N D), pr N D, vi m]) : wf (callN sta.T sta.ft k 39 [fv (rn N D) (rd N D), pr N D, vi m]) Q X := by
  obtain ⟨j, rfl⟩ : ∃ j, k = j + 1 := ⟨k - 1, by omega⟩
  have hm := mo_big
  have bN : Bd 3000 N := hx.bn
  have bD : Bd 3000 D := hx.bd
  have d1 : 1 ≤ D := hx.d1
  have bm : Bd 3000 m := (bd_mo m1 m2).mono (by decide)
  have b8 : Bd 8000 D := bd_up bD
  rcases Int.lt_trichotomy m 0 with h | h | h
  · have hM : m ≤ -1 := by omega
    refine call_wf ft_39 rfl rfl rfl ?_
    show WB _ _ _ b_f__law_with [some (fv _ _), some (pr _ _), some (vi _), none, none, none, none, none, none] _ _
    unfold b_f__law_with
    repeat' (tm_at "tw1")
    all_goals first | exact q | exact absurd rfl (by assumption) | skip
  · refine call_wf ft_39 rfl rfl rfl ?_
    show WB _ _ _ b_f__law_with [some (fv _ _), some (pr _ _), some (vi _), none, none, none, none, none, none] _ _
    unfold b_f__law_with
    repeat' (tm_at "tw1")
    all_goals first | exact q | exact absurd rfl (by assumption) | skip
  · have hM : 1 ≤ m := by omega
    refine call_wf ft_39 rfl rfl rfl ?_
    show WB _ _ _ b_f__law_with [some (fv _ _), some (pr _ _), some (vi _), none, none, none, none, none, none] _ _
    unfold b_f__law_with
    repeat' (tm_at "tw1")
    all_goals first | exact q | exact absurd rfl (by assumption) | skip
end
set_option maxHeartbeats 4000000
/-! k01, the plain law: numbers beyond the bounds. -/
section
open PySem Tw
/-- NumberError with its field -/
abbrev numX (n : Int) : Exn := ⟨2, [7], [.int n]⟩
theorem ft_41 : sta.ft 41 = some d_f__law_refused := rfl
theorem ft_40 : sta.ft 40 = some d_f__law_beyond := rfl
theorem ft_45 : sta.ft 45 = some d_h__law_int := rfl
theorem z_init {k : Nat} (hk : 1 ≤ k) {num den : Int} (h1 : -MO ≤ num) (h2 : num ≤ MO) (h3 : 1 ≤ den) (h4 : den ≤ MO) {Q : O → List O → Prop} {X : Exn → List O → Prop} (q : Q (.val .non) [fr (rn num den) (rd num den), vi num, vi den]) : wf (callN sta.T sta.ft k 5 [.ins 5 [] [], vi num, vi den]) Q X := w_init hk h1 h2 h3 h4 q
section
local macro_rules | `(tactic| tm_at "twcon") => `(tactic| exact mo_con)
theorem w_initX1 {k : Nat} (hk : 1 ≤ k) {num den : Int} (h : num < -MO ∨ MO < num) {Q : O → List O → Prop} {X : Exn → List O → Prop} (q : X (numX num) [.ins 5 [] [], vi num, vi den]) : wf (callN sta.T sta.ft k 5 [.ins 5 [] [], vi num, vi den]) Q X := by
  obtain ⟨j, rfl⟩ : ∃ j, k = j + 1 := ⟨k - 1, by omega⟩
  refine call_wf ft_5 rfl rfl rfl ?_
  show WB _ _ _ b_m_Frac___init__ [some (.ins 5 [] []), some (vi num), some (vi den), none] _ _
  unfold b_m_Frac___init__
  repeat' (tm_at "tw1")
  all_goals first | exact q | (exfalso; omega) | skip
theorem w_initX2 {k : Nat} (hk : 1 ≤ k) {num den : Int} (h1 : -MO ≤ num) (h2 : num ≤ MO) (h : den < 1 ∨ MO < den) {Q : O → List O → Prop} {X : Exn → List O → Prop} (q : X (numX den) [.ins 5 [] [], vi num, vi den]) : wf (callN sta.T sta.ft k 5 [.ins 5 [] [], vi num, vi den]) Q X := by
  obtain ⟨j, rfl⟩ : ∃ j, k = j + 1 := ⟨k - 1, by omega⟩
  refine call_wf ft_5 rfl rfl rfl ?_
  show WB _ _ _ b_m_Frac___init__ [some (.ins 5 [] []), some (vi num), some (vi den), none] _ _
  unfold b_m_Frac___init__
  repeat' (tm_at "tw1")
  all_goals first | exact q | (exfalso; omega) | skip
theorem w_checkX {k : Nat} (hk : 1 ≤ k) {n : Int} (h : n < -MO ∨ MO < n) {Q : O → List O → Prop} {X : Exn → List O → Prop} (q : X (numX n) [vi n]) : wf (callN sta.T sta.ft k 24 [vi n]) Q X := by
  obtain ⟨j, rfl⟩ : ∃ j, k = j + 1 := ⟨k - 1, by omega⟩
  refine call_wf ft_24 rfl rfl rfl ?_
  show WB _ _ _ b_f_check_number [some (vi n)] _ _
  unfold b_f_check_number
  repeat' (tm_at "tw1")
  all_goals first | exact q | (exfalso; omega) | skip
end
theorem w_intH {k : Nat} (hk : 1 ≤ k) {n : Int} {Q : O → List O → Prop} {X : Exn → List O → Prop} (q : Q (vb true) [vi n]) : wf (callN sta.T sta.ft k 45 [vi n]) Q X := by
  obtain ⟨j, rfl⟩ : ∃ j, k = j + 1 := ⟨k - 1, by omega⟩
  refine call_wfH ft_45 rfl rfl rfl ?_
  show WB _ _ _ b_h__law_int [some (vi n)] _ _
  unfold b_h__law_int
  repeat' (tm_at "tw1")
  all_goals first | exact q | skip
section
local macro_rules | `(tactic| tm_at "twcall") => `(tactic| first
  | refine w_initX1 (by omega) (by assumption) ?_
  | refine w_initX2 (by omega) (by assumption) (by assumption) (by assumption) ?_
  | refine w_intH (by omega) ?_)
theorem w_refused1 {k : Nat} (hk : 2 ≤ k) {num den : Int} (h : num < -MO ∨ MO < num) {Q : O → List O → Prop} {X : Exn → List O → Prop} (q : Q (vb true) [vi num, vi den, vi num]) : wf (callN sta.T sta.ft k 41 [vi num, vi den, vi num]) Q X := by
  obtain ⟨j, rfl⟩ : ∃ j, k = j + 1 := ⟨k - 1, by omega⟩
  refine call_wf ft_41 rfl rfl rfl ?_
  show WB _ _ _ b_f__law_refused [some (vi _), some (vi _), some (vi _), none] _ _
  unfold b_f__law_refused
  repeat' (tm_at "tw1")
  all_goals first | exact q | (rw [decide_eq_true rfl]; exact q) | skip
theorem w_refused2 {k : Nat} (hk : 2 ≤ k) {num den : Int} (h1 : -MO ≤ num) (h2 : num ≤ MO) (h : den < 1 ∨ MO < den) {Q : O → List O → Prop} {X : Exn → List O → Prop} (q : Q (vb true) [vi num, vi den, vi den]) : wf (callN sta.T sta.ft k 41 [vi num, vi den, vi den]) Q X := by
  obtain ⟨j, rfl⟩ : ∃ j, k = j + 1 := ⟨k - 1, by omega⟩
  refine call_wf ft_41 rfl rfl rfl ?_
  show WB _ _ _ b_f__law_refused [some (vi _), some (vi _), some (vi _), none] _ _
  unfold b_f__law_refused
  repeat' (tm_at "tw1")
  all_goals first | exact q | (rw [decide_eq_true rfl]; exact q) | skip
end
end
set_option maxHeartbeats 4000000
/-! k01, the plain law: operators refuse numbers beyond the bounds. -/
section
open PySem Tw
section
local macro_rules | `(tactic| tm_at "twcall") => `(tactic| refine w_checkX (by omega) (by assumption) ?_)
theorem x_add {k : Nat} (hk : 2 ≤ k) {n d m : Int} (h : m < -MO ∨ MO < m) {Q : O → List O → Prop} {X : Exn → List O → Prop} (q : X (numX m) [fv n d, vi m]) : wf (callN sta.T sta.ft k 6 [fv n d, vi m]) Q X := by
  obtain ⟨j, rfl⟩ : ∃ j, k = j + 1 := ⟨k - 1, by omega⟩
  refine call_wf ft_6 rfl rfl rfl ?_
  show WB _ _ _ b_m_Frac___add__ [some (fv _ _), some (vi _)] _ _
  unfold b_m_Frac___add__ fv
  repeat' (tm_at "tw1")
  all_goals first | exact q | skip
theorem x_sub {k : Nat} (hk : 2 ≤ k) {n d m : Int} (h : m < -MO ∨ MO < m) {Q : O → List O → Prop} {X : Exn → List O → Prop} (q : X (numX m) [fv n d, vi m]) : wf (callN sta.T sta.ft k 8 [fv n d, vi m]) Q X := by
  obtain ⟨j, rfl⟩ : ∃ j, k = j + 1 := ⟨k - 1, by omega⟩
  refine call_wf ft_8 rfl rfl rfl ?_
  show WB _ _ _ b_m_Frac___sub__ [some (fv _ _), some (vi _)] _ _
  unfold b_m_Frac___sub__ fv
  repeat' (tm_at "tw1")
  all_goals first | exact q | skip
theorem x_rsub {k : Nat} (hk : 2 ≤ k) {n d m : Int} (h : m < -MO ∨ MO < m) {Q : O → List O → Prop} {X : Exn → List O → Prop} (q : X (numX m) [fv n d, vi m]) : wf (callN sta.T sta.ft k 9 [fv n d, vi m]) Q X := by
  obtain ⟨j, rfl⟩ : ∃ j, k = j + 1 := ⟨k - 1, by omega⟩
  refine call_wf ft_9 rfl rfl rfl ?_
  show WB _ _ _ b_m_Frac___rsub__ [some (fv _ _), some (vi _)] _ _
  unfold b_m_Frac___rsub__ fv
  repeat' (tm_at "tw1")
  all_goals first | exact q | skip
theorem x_mul {k : Nat} (hk : 2 ≤ k) {n d m : Int} (h : m < -MO ∨ MO < m) {Q : O → List O → Prop} {X : Exn → List O → Prop} (q : X (numX m) [fv n d, vi m]) : wf (callN sta.T sta.ft k 10 [fv n d, vi m]) Q X := by
  obtain ⟨j, rfl⟩ : ∃ j, k = j + 1 := ⟨k - 1, by omega⟩
  refine call_wf ft_10 rfl rfl rfl ?_
  show WB _ _ _ b_m_Frac___mul__ [some (fv _ _), some (vi _)] _ _
  unfold b_m_Frac___mul__ fv
  repeat' (tm_at "tw1")
  all_goals first | exact q | skip
theorem x_over {k : Nat} (hk : 2 ≤ k) {n d m : Int} (h : m < -MO ∨ MO < m) {Q : O → List O → Prop} {X : Exn → List O → Prop} (q : X (numX m) [fv n d, vi m]) : wf (callN sta.T sta.ft k 17 [fv n d, vi m]) Q X := by
  obtain ⟨j, rfl⟩ : ∃ j, k = j + 1 := ⟨k - 1, by omega⟩
  refine call_wf ft_17 rfl rfl rfl ?_
  show WB _ _ _ b_m_Frac_over [some (fv _ _), some (vi _), none] _ _
  unfold b_m_Frac_over fv
  repeat' (tm_at "tw1")
  all_goals first | exact q | skip
theorem x_compare {k : Nat} (hk : 2 ≤ k) {n d m : Int} (h : m < -MO ∨ MO < m) {Q : O → List O → Prop} {X : Exn → List O → Prop} (q : X (numX m) [fv n d, vi m]) : wf (callN sta.T sta.ft k 18 [fv n d, vi m]) Q X := by
  obtain ⟨j, rfl⟩ : ∃ j, k = j + 1 := ⟨k - 1, by omega⟩
  refine call_wf ft_18 rfl rfl rfl ?_
  show WB _ _ _ b_m_Frac_compare [some (fv _ _), some (vi _), none, none, none] _ _
  unfold b_m_Frac_compare fv
  repeat' (tm_at "tw1")
  all_goals first | exact q | skip
end
section
local macro_rules | `(tactic| tm_at "twcall") => `(tactic| first
  | refine x_add (by omega) (by assumption) ?_
  | refine x_mul (by omega) (by assumption) ?_)
theorem x_radd {k : Nat} (hk : 3 ≤ k) {n d m : Int} (h : m < -MO ∨ MO < m) {Q : O → List O → Prop} {X : Exn → List O → Prop} (q : X (numX m) [fv n d, vi m]) : wf (callN sta.T sta.ft k 7 [fv n d, vi m]) Q X := by
  obtain ⟨j, rfl⟩ : ∃ j, k = j + 1 := ⟨k - 1, by omega⟩
  refine call_wf ft_7 rfl rfl rfl ?_
  show WB _ _ _ b_m_Frac___radd__ [some (fv _ _), some (vi _)] _ _
  unfold b_m_Frac___radd__ fv
  repeat' (tm_at "tw1")
  all_goals first | exact q | skip
theorem x_rmul {k : Nat} (hk : 3 ≤ k) {n d m : Int} (h : m < -MO ∨ MO < m) {Q : O → List O → Prop} {X : Exn → List O → Prop} (q : X (numX m) [fv n d, vi m]) : wf (callN sta.T sta.ft k 11 [fv n d, vi m]) Q X := by
  obtain ⟨j, rfl⟩ : ∃ j, k = j + 1 := ⟨k - 1, by omega⟩
  refine call_wf ft_11 rfl rfl rfl ?_
  show WB _ _ _ b_m_Frac___rmul__ [some (fv _ _), some (vi _)] _ _
  unfold b_m_Frac___rmul__ fv
  repeat' (tm_at "tw1")
  all_goals first | exact q | skip
end
local macro_rules | `(tactic| tm_at "twcall") => `(tactic| first
  | refine x_add (by omega) (by assumption) ?_
  | refine x_radd (by omega) (by assumption) ?_
  | refine x_sub (by omega) (by assumption) ?_
  | refine x_rsub (by omega) (by assumption) ?_
  | refine x_mul (by omega) (by assumption) ?_
  | refine x_rmul (by omega) (by assumption) ?_
  | refine x_over (by omega) (by assumption) ?_
  | refine x_compare (by omega) (by assumption) ?_
  | refine w_intH (by omega) ?_)
theorem w_beyond {k : Nat} (hk : 4 ≤ k) {n d m i : Int} (h0 : 0 ≤ i) (h8 : i < 8) (h : m < -MO ∨ MO < m) {Q : O → List O → Prop} {X : Exn → List O → Prop} (q : Q (vb true) [fv n d, vi i, vi m]) : wf (callN sta.T sta.ft k 40 [fv n d, vi i, vi m]) Q X := by
  obtain ⟨j, rfl⟩ : ∃ j, k = j + 1 := ⟨k - 1, by omega⟩
  refine call_wf ft_40 rfl rfl rfl ?_
  show WB _ _ _ b_f__law_beyond [some (fv _ _), some (vi _), some (vi _), none, none] _ _
  unfold b_f__law_beyond
  repeat' (tm_at "tw1")
  all_goals first | exact q | (rw [decide_eq_true rfl]; exact q) | skip
end
set_option maxHeartbeats 4000000
/-! k01, the plain law: _law_bounds. -/
section
open PySem Tw
theorem ft_42 : sta.ft 42 = some d_f__law_bounds := rfl
theorem w_draw2 {k : Nat} {P : List Int} (hk : 1 ≤ k) (hP : Pool P) {Q : O → List O → Prop} {X : Exn → List O → Prop} (q0 : ∀ P', Pool P' → Q (vi 0) [.lst (P'.map vi), vi 2]) (q1 : ∀ P', Pool P' → Q (vi 1) [.lst (P'.map vi), vi 2]) : wf (callN sta.T sta.ft k 26 [.lst (P.map vi), vi 2]) Q X := by
  refine w_draw hk hP (by decide) (by decide) fun t P' h0 h1 hP' => ?_
  rcases (show t = 0 ∨ t = 1 by omega) with rfl | rfl
  · exact q0 P' hP'
  · exact q1 P' hP'
theorem w_draw3 {k : Nat} {P : List Int} (hk : 1 ≤ k) (hP : Pool P) {Q : O → List O → Prop} {X : Exn → List O → Prop} (q : ∀ t P', 0 ≤ t → t < 3 → Pool P' → Q (vi t) [.lst (P'.map vi), vi 3]) : wf (callN sta.T sta.ft k 26 [.lst (P.map vi), vi 3]) Q X :=
  w_draw hk hP (by decide) (by decide) q
/-- the same value in other terms -/
theorem z_isE {k : Nat} {x : O} {A B N D : Int} (hx : FO x (rn A B) (rd A B)) (hB : 1 ≤ B) (hd : 1 ≤ D) (hb : Bd 8000 D) (e : A * D = N * B) (hk : 2 ≤ k) {Q : O → List O → Prop} {X : Exn → List O → Prop} (q : Q (vb true) [x, vi N, vi D]) : wf (callN sta.T sta.ft k 32 [x, vi N, vi D]) Q X := by
  have h := red_eq hB hd e
  rw [h.1, h.2] at hx
  exact z_is hx hd hb hk q
section
local macro_rules | `(tactic| tm_at "twcall") => `(tactic| refine w_beyond (by omega) (by assumption) (by assumption) (by assumption) ?_)
theorem w_boundsl {j : Nat} (hj : 4 ≤ j) {n d far : Int} {s0 s2 s3 s4 s6 s7 : Option O} (h : far < -MO ∨ MO < far)
    {Q : Fl → Sto → Prop} {X : Exn → Sto → Prop} (q : ∀ s7, Q .nx [s0, some (fv n d), s2, s3, s4, some (vi far), s6, s7]) :
    Wfor sta.T (callN sta.T sta.ft j) none [7] fb_f__law_bounds_1 (rngL 0 8) [s0, some (fv n d), s2, s3, s4, some (vi far), s6, s7] Q X := by
  refine Wfor.rng (fun i τ => ∃ s7, τ = [s0, some (fv n d), s2, s3, s4, some (vi far), s6, s7]) ⟨_, rfl⟩ (by decide) ?_ ?_
  · rintro i τ h0 h8 ⟨s7, rfl⟩
    refine ⟨_, rfl, ?_⟩
    unfold fb_f__law_bounds_1
    show WB _ _ _ _ [s0, some (fv n d), s2, s3, s4, some (vi far), s6, some (vi i)] _ _
    repeat' (tm_at "tw1")
    all_goals first | exact ⟨_, rfl⟩ | skip
  · rintro τ ⟨s7, rfl⟩
    exact q _
end
theorem bd_s0 : Bd 64 ((1 : Int) - 2 * 0) := by unfold Bd; decide
theorem bd_s1 : Bd 64 ((1 : Int) - 2 * 1) := by unfold Bd; decide
theorem bd_MO : Bd 3000 MO := (bd_mo (by have := mo_big; omega) (by omega)).mono (by decide)
theorem bd_far {t : Int} (h0 : 0 ≤ t) (h1 : t < 3) : Bd 3001 (MO + 1 + t) := by
  have := bd_MO
  have h : (MO + 1 + t).natAbs ≤ MO.natAbs + 4 := by omega
  have h2 : (2 : Nat) ^ 3001 = 2 ^ 3000 + 2 ^ 3000 := by decide +kernel
  have h3 : 4 ≤ (2 : Nat) ^ 3000 := by decide +kernel
  unfold Bd at *
  omega
local macro_rules | `(tactic| tm_at "bd") => `(tactic| first | with_reducible exact bd_s0 | with_reducible exact bd_s1 | with_reducible exact bd_MO | with_reducible exact bd_far (by assumption) (by assumption))
local macro_rules | `(tactic| tm_at "twpow") => `(tactic| first | exact pw1 | exact pw2)
local macro_rules | `(tactic| tm_at "twuser") => `(tactic| (with_reducible refine w_boundsl (by omega) (by omega) ?_); intro s7)
local macro_rules | `(tactic| tm_at "twcall") => `(tactic| first
  | ((refine w_draw2 (by omega) (by assumption) ?_ ?_) <;> intro P' hP')
  | ((refine w_draw3 (by omega) (by assumption) ?_); intro t P' ht0 ht1 hP')
  | refine w_refused1 (by omega) (by omega) ?_
  | refine w_refused2 (by omega) (by omega) (by omega) (by omega) ?_
  | refine z_init (by omega) (by omega) (by omega) (by omega) (by omega) ?_
  | refine z_is (by first | exact .inl rfl | exact .inr rfl) (by omega) (by assumption) (by omega) ?_
  | refine z_isE (by first | exact .inl rfl | exact .inr rfl) (by omega) (by omega) (by assumption) (by omega) (by omega) ?_
  | refine w_with (by omega) (by assumption) (by omega) (by omega) ?_)
theorem w_bounds {k : Nat} (hk : 7 ≤ k) {P : List Int} (hP : Pool P) {N D : Int} (n1 : -MO ≤ N) (n2 : N ≤ MO) (hx : FR (fv (rn N D) (rd N D)) N D) {Q : O → List O → Prop} {X : Exn → List O → Prop} (q : ∀ P', Pool P' → Q (vb true) [.lst (P'.map vi), fv (rn N D) (rd N D), pr N D]) : wf (callN sta.T sta.ft k 42 [.lst (P.map vi), fv (rn N D) (rd N D), pr N D]) Q X := by
  obtain ⟨j, rfl⟩ : ∃ j, k = j + 1 := ⟨k - 1, by omega⟩
  have hm := mo_big
  have b1 : Bd 8000 1 := bd_1
  have bMO : Bd 3000 MO := (bd_mo (by omega) (by omega)).mono (by decide)
  have b8 : Bd 8000 MO := bd_up bMO
  refine call_wf ft_42 rfl rfl rfl ?_
  show WB _ _ _ b_f__law_bounds [some (.lst (P.map vi)), some (fv _ _), some (pr _ _), none, none, none, none, none] _ _
  unfold b_f__law_bounds
  repeat' (tm_at "tw1")
  all_goals first | exact q _ (by assumption) | exact absurd rfl (by assumption) | skip
end
set_option maxHeartbeats 4000000
/-! k01, the plain law: _law_later, _law_second. -/
section
open PySem Tw
theorem ft_43 : sta.ft 43 = some d_f__law_later := rfl
theorem ft_30 : sta.ft 30 = some d_f__law_second := rfl
theorem bd_sum {N D M E : Int} (n1 : -MO ≤ N) (n2 : N ≤ MO) (d1 : 1 ≤ D) (d2 : D ≤ MO) (m1 : -MO ≤ M) (m2 : M ≤ MO) (e1 : 1 ≤ E) (e2 : E ≤ MO) : Bd 3000 (N * E + M * D) := by
  have hm := mo_big
  have h1 : ∀ {a b : Int}, -MO ≤ a → a ≤ MO → 1 ≤ b → b ≤ MO → (a * b).natAbs ≤ (10 ^ 800 : Nat) := by
    intro a b a1 a2 b1 b2
    rw [Int.natAbs_mul, show (10 ^ 800 : Nat) = 10 ^ 400 * 10 ^ 400 from by decide +kernel]
    have e := MO_pow
    exact Nat.mul_le_mul (by omega) (by omega)
  have p1 := h1 n1 n2 e1 e2
  have p2 := h1 m1 m2 d1 d2
  have p3 : (10 ^ 800 : Nat) + 10 ^ 800 < 2 ^ 3000 := by decide +kernel
  unfold Bd
  generalize (10 ^ 800 : Nat) = w at *
  generalize (2 ^ 3000 : Nat) = v at *
  omega
theorem bd_prd {D E : Int} (d1 : 1 ≤ D) (d2 : D ≤ MO) (e1 : 1 ≤ E) (e2 : E ≤ MO) : Bd 3000 (D * E) := by
  have := bd_sum (N := D) (D := E) (M := 0) (E := E) (by have := mo_big; omega) d2 e1 e2 (by have := mo_big; omega) (by have := mo_big; omega) e1 e2
  rw [Int.zero_mul, Int.add_zero] at this
  exact this
/-- the sum less the second one -/
theorem z_subB {k : Nat} {x : O} {N D M E : Int} (hx : FR x (N * E + M * D) (D * E)) (hN : FR (fv (rn N D) (rd N D)) N D) (hy : FR (fv (rn M E) (rd M E)) M E) (hk : 3 ≤ k) {Q : O → List O → Prop} {X : Exn → List O → Prop} (q : Q (fr (rn N D) (rd N D)) [x, fv (rn M E) (rd M E)]) : wf (callN sta.T sta.ft k 8 [x, fv (rn M E) (rd M E)]) Q X := by
  refine z_sub hx hy hk ?_
  rw [fr_eq (red_eq (n' := N) (d' := D) (Int.mul_pos hx.d1 hy.d1) hN.d1 (by clear hx hy hN hk q; grind))]
  exact q
theorem z_subA {k : Nat} {x : O} {N D M E : Int} (hx : FR x (N * E + M * D) (D * E)) (hN : FR (fv (rn N D) (rd N D)) N D) (hy : FR (fv (rn M E) (rd M E)) M E) (hk : 3 ≤ k) {Q : O → List O → Prop} {X : Exn → List O → Prop} (q : Q (fr (rn M E) (rd M E)) [x, fv (rn N D) (rd N D)]) : wf (callN sta.T sta.ft k 8 [x, fv (rn N D) (rd N D)]) Q X := by
  refine z_sub hx hN hk ?_
  rw [fr_eq (red_eq (n' := M) (d' := E) (Int.mul_pos hx.d1 hN.d1) hy.d1 (by clear hx hy hN hk q; grind))]
  exact q
section
local macro_rules | `(tactic| tm_at "twcall") => `(tactic| first
  | refine z_is (by first | exact .inl rfl | exact .inr rfl) (by assumption) (by assumption) (by omega) ?_
  | refine z_add (by assumption) (by assumption) (by omega) ?_
  | refine z_subB (by assumption) (by assumption) (by assumption) (by omega) ?_
  | refine z_subA (by assumption) (by assumption) (by assumption) (by omega) ?_
  | refine w_same (by omega) (by assumption) (by assumption) (decide_eq_true rfl) ?_
  | refine w_two (by omega) (by assumption) (by assumption) ?_)
theorem w_later {k : Nat} (hk : 7 ≤ k) {N D M E : Int} (n1 : -MO ≤ N) (n2 : N ≤ MO) (d2 : D ≤ MO) (m1 : -MO ≤ M) (m2 : M ≤ MO) (e2 : E ≤ MO) (hx : FR (fv (rn N D) (rd N D)) N D) (hy : FR (fv (rn M E) (rd M E)) M E) {Q : O → List O → Prop} {X : Exn → List O → Prop} (q : Q (vb true) [fv (rn N D) (rd N D), fv (rn M E) (rd M E), pr N D, pr M E]) : wf (callN sta.T sta.ft k 43 [fv (rn N D) (rd N D), fv (rn M E) (rd M E), pr N D, pr M E]) Q X := by
  obtain ⟨j, rfl⟩ : ∃ j, k = j + 1 := ⟨k - 1, by omega⟩
  have bN : Bd 3000 N := hx.bn
  have bD : Bd 3000 D := hx.bd
  have d1 : 1 ≤ D := hx.d1
  have bM : Bd 3000 M := hy.bn
  have bE : Bd 3000 E := hy.bd
  have e1 : 1 ≤ E := hy.d1
  have b8 : Bd 8000 D := bd_up bD
  have t1 : 1 ≤ D * E := one_mul2 d1 e1
  have bT := bd_prd d1 d2 e1 e2
  have b8T := bd_up bT
  have bS := bd_sum n1 n2 d1 d2 m1 m2 e1 e2
  have ht : FR (fr (rn (N * E + M * D) (D * E)) (rd (N * E + M * D) (D * E))) (N * E + M * D) (D * E) := ⟨.inl rfl, t1, bS, bT⟩
  refine call_wf ft_43 rfl rfl rfl ?_
  show WB _ _ _ b_f__law_later [some (fv _ _), some (fv _ _), some (pr _ _), some (pr _ _), none, none] _ _
  unfold b_f__law_later
  repeat' (tm_at "tw1")
  all_goals first | exact q | exact absurd rfl (by assumption) | skip
end
theorem w_draw8 {k : Nat} {P : List Int} (hk : 1 ≤ k) (hP : Pool P) {Q : O → List O → Prop} {X : Exn → List O → Prop} (q : ∀ t P', 0 ≤ t → t < 8 → Pool P' → Q (vi t) [.lst (P'.map vi), vi 8]) : wf (callN sta.T sta.ft k 26 [.lst (P.map vi), vi 8]) Q X :=
  w_draw hk hP (by decide) (by decide) q
theorem w_draw9 {k : Nat} {P : List Int} (hk : 1 ≤ k) (hP : Pool P) {Q : O → List O → Prop} {X : Exn → List O → Prop} (q : ∀ t P', 0 ≤ t → t < 9 → Pool P' → Q (vi t) [.lst (P'.map vi), vi 9]) : wf (callN sta.T sta.ft k 26 [.lst (P.map vi), vi 9]) Q X :=
  w_draw hk hP (by decide) (by decide) q
theorem tm_lo {n t : Int} (h : (n.natAbs : Int) * (1 + t) ≤ MO) (ht : 0 ≤ t) : -MO ≤ n * (1 + t) ∧ n * (1 + t) ≤ MO := by
  have e : ((n * (1 + t)).natAbs : Int) = (n.natAbs : Int) * (1 + t) := by
    rw [Int.natAbs_mul, Int.natCast_mul, Int.natAbs_of_nonneg (show 0 ≤ 1 + t by omega)]
  omega
local macro_rules | `(tactic| tm_at "bd") => `(tactic| first
  | exact bd_mo (by omega) (by omega)
  | with_reducible exact Bd.abs (bd_mo (by omega) (by omega))
  | exact (show Bd 64 _ from by unfold Bd; omega))
local macro_rules | `(tactic| tm_at "twpow") => `(tactic| first | exact pw1 | exact pw2)
local macro_rules | `(tactic| tm_at "twcall") => `(tactic| first
  | ((refine w_draw8 (by omega) (by assumption) ?_); intro t P' ht0 ht1 hP')
  | ((refine w_draw9 (by omega) (by assumption) ?_); intro t P' ht0 ht1 hP')
  | ((refine w_integer (by omega) (by assumption) ?_); intro n P' hn1 hn2 hP')
  | ((refine w_positive (by omega) (by assumption) ?_); intro n P' hn1 hn2 hP'))
theorem w_second {k : Nat} (hk : 4 ≤ k) {P : List Int} (hP : Pool P) {N D : Int} (n1 : -MO ≤ N) (n2 : N ≤ MO) (d1 : 1 ≤ D) (d2 : D ≤ MO) {Q : O → List O → Prop} {X : Exn → List O → Prop} (q : ∀ M E P', -MO ≤ M → M ≤ MO → 1 ≤ E → E ≤ MO → Pool P' → Q (.val (.tup [.int M, .int E])) [.lst (P'.map vi), vi N, vi D]) : wf (callN sta.T sta.ft k 30 [.lst (P.map vi), vi N, vi D]) Q X := by
  obtain ⟨j, rfl⟩ : ∃ j, k = j + 1 := ⟨k - 1, by omega⟩
  have hm := mo_big
  refine call_wf ft_30 rfl rfl rfl ?_
  show WB _ _ _ b_f__law_second [some (.lst (P.map vi)), some (vi N), some (vi D), none, none, none] _ _
  unfold b_f__law_second
  repeat' (tm_at "tw1")
  all_goals first
    | exact q _ _ _ (by omega) (by omega) (by omega) (by omega) (by assumption)
    | exact q _ _ _ (tm_lo (by assumption) (by assumption)).1 (tm_lo (by assumption) (by assumption)).2 (Int.mul_pos d1 (by omega)) (by assumption) (by assumption)
    | skip
end
set_option maxHeartbeats 4000000
/-! k01, the plain law: law. -/
section
open PySem Tw
theorem ft_44 : sta.ft 44 = some d_f_law := rfl
theorem valfr {n d : Int} : O.val (frz (fr n d)) = fv n d := rfl
theorem w_pool {k : Nat} (hk : 1 ≤ k) {ns : List Int} (h : ns.length ≤ 63) (hb : ∀ z ∈ ns, Builtin.Int.intBits z ≤ 1048576) {Q : O → List O → Prop} {X : Exn → List O → Prop} (q : ∀ P, Pool P → Q (.lst (P.map vi)) [.val (.kls (ns.map .int))]) : wf (callN sta.T sta.ft k 25 [.val (.kls (ns.map .int))]) Q X :=
  wf_ok (s_pool hk h hb) (q _ (poolOf_pool h))
theorem w_draw4 {k : Nat} {P : List Int} (hk : 1 ≤ k) (hP : Pool P) {Q : O → List O → Prop} {X : Exn → List O → Prop} (q : ∀ t P', 0 ≤ t → t < 4 → Pool P' → Q (vi t) [.lst (P'.map vi), vi 4]) : wf (callN sta.T sta.ft k 26 [.lst (P.map vi), vi 4]) Q X :=
  w_draw hk hP (by decide) (by decide) q
theorem div_lo {N D : Int} (h : 1 ≤ D) (h1 : -MO ≤ N) : -MO ≤ N / D := by
  have hm := mo_big
  refine Int.le_ediv_of_mul_le (by omega) ?_
  have : -MO * D ≤ -MO * 1 := Int.mul_le_mul_of_nonpos_left (by omega) h
  omega
theorem div_hi {N D : Int} (h : 1 ≤ D) (h1 : N ≤ MO) : N / D ≤ MO := by
  have hm := mo_big
  refine Int.ediv_le_of_le_mul (by omega) ?_
  have : MO * 1 ≤ MO * D := Int.mul_le_mul_of_nonneg_left h (by omega)
  omega
local macro_rules | `(tactic| tm_at "nrm") => `(tactic| try dsimp only [valfr, List.set_cons_zero, List.set_cons_succ, frz, frzL, isNon, Bool.not_true, Bool.not_false, List.map, List.append_eq, List.nil_append, List.cons_append, Tw.res, ress, List.replicate, List.length_cons, List.length_nil])
local macro_rules | `(tactic| tm_at "bd") => `(tactic| exact bd_mo (by omega) (by omega))
local macro_rules | `(tactic| tm_at "twpow") => `(tactic| first | exact pw1 | exact pw2)
local macro_rules | `(tactic| tm_at "twcon") => `(tactic| exact mo_con)
local macro_rules | `(tactic| tm_at "lo") => `(tactic| first | assumption | omega | exact div_lo (by assumption) (by assumption))
local macro_rules | `(tactic| tm_at "hi") => `(tactic| first | assumption | omega | exact div_hi (by assumption) (by assumption))
local macro_rules | `(tactic| tm_at "frof") => `(tactic| exact FR.of (by first | assumption | omega) (by first | assumption | omega) (by assumption) (by assumption))
local macro_rules | `(tactic| tm_at "twcall") => `(tactic| first
  | ((refine w_pool (by omega) (by assumption) (by assumption) ?_); intro P hP)
  | ((refine w_draw4 (by omega) (by assumption) ?_); intro t P' ht0 ht1 hP')
  | ((refine w_integer (by omega) (by assumption) ?_); intro n P' hn1 hn2 hP')
  | ((refine w_positive (by omega) (by assumption) ?_); intro n P' hn1 hn2 hP')
  | ((refine w_second (by omega) (by assumption) (by assumption) (by assumption) (by assumption) (by assumption) ?_); intro m e P' hm1 hm2 he1 he2 hP')
  | refine w_int (by omega) ?_
  | refine z_init (by omega) (by tm_at "lo") (by tm_at "hi") (by omega) (by omega) ?_
  | refine z_is (by first | exact .inl rfl | exact .inr rfl) (by omega) (by exact bd_1) (by omega) ?_
  | refine w_with (by omega) (by tm_at "frof") (by tm_at "lo") (by tm_at "hi") ?_
  | refine w_alone (by omega) (by first | assumption | omega) (by first | assumption | omega) (by assumption) (by assumption) ?_
  | refine w_two (by omega) (by tm_at "frof") (by tm_at "frof") ?_
  | ((refine w_bounds (by omega) (by assumption) (by assumption) (by assumption) (by tm_at "frof") ?_); intro P' hP')
  | refine w_later (by omega) (by assumption) (by assumption) (by assumption) (by assumption) (by assumption) (by assumption) (by tm_at "frof") (by tm_at "frof") ?_)
theorem w_law {k : Nat} (hk : 9 ≤ k) {ns : List Int} (h : ns.length ≤ 63) (hb : ∀ z ∈ ns, Builtin.Int.intBits z ≤ 1048576) {X : Exn → List O → Prop} : wf (callN sta.T sta.ft k 44 [.val (.kls (ns.map .int))]) (fun o _ => o = vb true) X := by
  obtain ⟨j, rfl⟩ : ∃ j, k = j + 1 := ⟨k - 1, by omega⟩
  have hm := mo_big
  refine call_wf ft_44 rfl rfl rfl ?_
  show WB _ _ _ b_f_law [some (.val (.kls (ns.map .int))), none, none, none, none, none, none, none] _ _
  unfold b_f_law
  repeat' (tm_at "tw1")
  all_goals first | rfl | exact absurd rfl (by assumption) | skip
end
end
end L01
namespace L01
open PySem Tw
theorem law_ok : LawOk := by
  intro ns h1 h2
  have h : wf (callN sta.T sta.ft 12 LAW [.val (.kls (ns.map .int))]) (fun o _ => o = vb true) nox := w_law (by decide) h1 h2
  obtain ⟨o, os, e, rfl⟩ := wf_is h
  exact ⟨os, e⟩
end L01
theorem PySem.Challenge.cw_roottower_k01_fracs_are_exact_holds : PySem.Challenge.rw_roottower_k01_fracs_are_exact.Holds := by
  exact L01.whole L01.law_ok
