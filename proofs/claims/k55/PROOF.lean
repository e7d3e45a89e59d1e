import PyProof.Rows.All
import Wide.All
import OpenK.AllK
import Wide.FinOn
import HandS.ForMost
import HandS.ForExc
import HandS.NoneIn
import HandS.More
import HandS.StrMore
import HandS.Deep
import HandS.Defaults
import HandS.HeadHook2
import HandS.HeadEnd
import HandS.Head2
import HandS.HotCalls
import HandS.ExcIs
import HandS.IsInst
import HandS.CallSlots
import HandS.Head0
import HandS.Head1
import HandS.HeadHook1
import PySem.Challenge.RW_leafpress_k55_drawings_refused
import KE.IntTextLaws
set_option Elab.async false
set_option linter.all false
set_option maxRecDepth 100000
/-! A small language of values over the hand layer: data as trees, lists and dicts that one name alone holds are changed in place, all else stands still. -/
namespace VI
open PySem PySem.Spec PyProof.Rows L2

/-! ### data -/
inductive D where
  | non | bl (b : Bool) | int (i : Int) | str (x : Str)
  | lst (xs : List D) | tup (xs : List D) | scr (ns : List Int) | adr (a : Addr)
/-- what an object that one name alone holds is -/
inductive O where
  | lst (xs : List D) | dct (kvs : List (Key × D)) | dcT (kvs : List (List Key × D))
/-- a name's slot: nothing is known; data that stand still; an object of its own. pin: the object is the caller's, the name keeps it -/
inductive Slot where
  | none | imm (d : D) (pin : Bool) | own (o : O) (pin : Bool)
/-- what an expression gives: data that stand still; a new object that nobody holds; the object of a slot -/
inductive R where
  | imm (d : D) | frs (o : O) | pl (i : Nat)
inductive Res (α : Type) where
  | ok (a : α) | raise (c : Nat) | stuck
abbrev Env' := List Slot
abbrev Sem' (α : Type) := Env' → Res (α × Env')

section
variable (K : PySem.W.Frag) (Z : Addr → Prop) (B : Hp)
mutual
def rep : D → V → Prop
  | .non, v => v = .non
  | .bl b, v => v = .bl b
  | .int i, v => v = .int i
  | .str x, v => v = .str x
  | .lst ds, v => ∃ p vs, v = .ref p ∧ Z p ∧ B p = some (.lst vs) ∧ reps ds vs
  | .tup ds, v => ∃ p vs, v = .ref p ∧ SqT K B p vs ∧ reps ds vs
  | .scr ns, v => ∃ p, v = .ref p ∧ SqL K B p (ns.map V.int)
  | .adr a, v => v = .ref a
def reps : List D → List V → Prop
  | [], vs => vs = []
  | d :: ds, vs => ∃ v r, vs = v :: r ∧ rep d v ∧ reps ds r
end
def krep {κ : Type} : List (κ × D) → List (κ × V) → Prop
  | [], vs => vs = []
  | d :: ds, vs => ∃ v r, vs = (d.1, v) :: r ∧ rep K Z B d.2 v ∧ krep ds r
def Hol : O → Option HO → Prop
  | .lst ds, u => ∃ vs, u = some (.lst vs) ∧ reps K Z B ds vs
  | .dct kvs, u => ∃ xs, u = some (.dK xs) ∧ krep K Z B kvs xs
  | .dcT kvs, u => ∃ xs, u = some (.dT xs) ∧ krep K Z B kvs xs
end
section
variable {K : PySem.W.Frag} {Z : Addr → Prop} {B B' H H' : Hp}
theorem same_t {p : Addr} {xs : List V} (e : Same B B') (h : SqT K B p xs) : SqT K B' p xs := by
  rcases h with (h | ⟨o, h⟩) | h
  · exact .inl (.inl (e _ _ h))
  · exact .inl (.inr ⟨o, e _ _ h⟩)
  · exact .inr h
mutual
theorem rep_mono (e : Same B B') : ∀ (d : D) (v : V), rep K Z B d v → rep K Z B' d v
  | .non, _, h => h
  | .bl _, _, h => h
  | .int _, _, h => h
  | .str _, _, h => h
  | .lst ds, _, ⟨p, vs, e1, z, h, r⟩ => ⟨p, vs, e1, z, e _ _ h, reps_mono e ds vs r⟩
  | .tup ds, _, ⟨p, vs, e1, h, r⟩ => ⟨p, vs, e1, same_t e h, reps_mono e ds vs r⟩
  | .scr ns, _, ⟨p, e1, h⟩ => ⟨p, e1, e.seq h⟩
  | .adr _, _, h => h
theorem reps_mono (e : Same B B') : ∀ (ds : List D) (vs : List V), reps K Z B ds vs → reps K Z B' ds vs
  | [], _, h => h
  | d :: ds, _, ⟨v, r, e1, h, t⟩ => ⟨v, r, e1, rep_mono e d v h, reps_mono e ds r t⟩
end
theorem krep_mono {κ : Type} (e : Same B B') : ∀ {ds : List (κ × D)} {vs : List (κ × V)}, krep K Z B ds vs → krep K Z B' ds vs
  | [], _, h => h
  | d :: ds, _, ⟨v, r, e1, h, t⟩ => ⟨v, r, e1, rep_mono e d.2 v h, krep_mono e t⟩
theorem Hol.mono (e : Same B B') {o : O} {u : Option HO} (h : Hol K Z B o u) : Hol K Z B' o u := by
  cases o with
  | lst ds =>
    obtain ⟨vs, e1, r⟩ := h
    exact ⟨vs, e1, reps_mono e _ _ r⟩
  | dct kvs =>
    obtain ⟨vs, e1, r⟩ := h
    exact ⟨vs, e1, krep_mono e r⟩
  | dcT kvs =>
    obtain ⟨vs, e1, r⟩ := h
    exact ⟨vs, e1, krep_mono e r⟩
theorem Hol.some {o : O} {u : Option HO} (h : Hol K Z B o u) : ∃ x, u = some x := by
  cases o <;> (obtain ⟨vs, e1, r⟩ := h; exact ⟨_, e1⟩)
theorem reps_len : ∀ {ds : List D} {vs : List V}, reps K Z B ds vs → vs.length = ds.length
  | [], vs, h => by rw [show vs = [] from h]; rfl
  | d :: ds, _, ⟨v, r, e1, _, t⟩ => by rw [e1, List.length_cons, List.length_cons, reps_len t]
theorem reps_get : ∀ {ds : List D} {vs : List V} {i : Nat} {d : D}, reps K Z B ds vs → ds[i]? = some d → ∃ v, vs[i]? = some v ∧ rep K Z B d v
  | [], _, _, _, _, e => by simp at e
  | d :: ds, _, 0, x, ⟨v, r, e1, h, t⟩, e => by
    simp at e
    subst e
    exact ⟨v, by rw [e1]; rfl, h⟩
  | d :: ds, _, i + 1, x, ⟨v, r, e1, h, t⟩, e => by
    obtain ⟨w, h1, h2⟩ := reps_get t (i := i) (d := x) (by simpa using e)
    exact ⟨w, by rw [e1]; simpa using h1, h2⟩
theorem reps_append : ∀ {ds es : List D} {vs ws : List V}, reps K Z B ds vs → reps K Z B es ws → reps K Z B (ds ++ es) (vs ++ ws)
  | [], _, _, _, h, t => by rw [show _ = [] from h]; exact t
  | d :: ds, _, _, _, ⟨v, r, e1, h, t⟩, u => ⟨v, r ++ _, by rw [e1]; rfl, h, reps_append t u⟩
theorem reps_one {d : D} {v : V} (h : rep K Z B d v) : reps K Z B [d] [v] := ⟨v, [], rfl, h, rfl⟩
theorem reps_take : ∀ {ds : List D} {vs : List V} (n : Nat), reps K Z B ds vs → reps K Z B (ds.take n) (vs.take n)
  | _, _, 0, _ => by rw [List.take_zero, List.take_zero]; exact rfl
  | [], _, n + 1, h => by rw [show _ = [] from h]; exact rfl
  | d :: ds, _, n + 1, ⟨v, r, e1, h, t⟩ => ⟨v, r.take n, by rw [e1]; rfl, h, reps_take n t⟩
theorem reps_drop : ∀ {ds : List D} {vs : List V} (n : Nat), reps K Z B ds vs → reps K Z B (ds.drop n) (vs.drop n)
  | _, _, 0, h => h
  | [], _, n + 1, h => by rw [show _ = [] from h]; exact rfl
  | d :: ds, _, n + 1, ⟨v, r, e1, h, t⟩ => by rw [e1]; exact reps_drop n t
theorem reps_set : ∀ {ds : List D} {vs : List V} {d : D} {v : V} (i : Nat), reps K Z B ds vs → rep K Z B d v → reps K Z B (ds.set i d) (vs.set i v)
  | [], _, _, _, _, h, _ => by rw [show _ = [] from h]; exact rfl
  | _ :: ds, _, d, w, 0, ⟨v, r, e1, h, t⟩, q => ⟨w, r, by rw [e1]; rfl, q, t⟩
  | _ :: ds, _, d, w, i + 1, ⟨v, r, e1, h, t⟩, q => ⟨v, r.set i w, by rw [e1]; rfl, h, reps_set i t q⟩
theorem reps_rev : ∀ {ds : List D} {vs : List V}, reps K Z B ds vs → reps K Z B ds.reverse vs.reverse
  | [], _, h => by rw [show _ = [] from h]; exact rfl
  | d :: ds, _, ⟨v, r, e1, h, t⟩ => by
    rw [e1, List.reverse_cons, List.reverse_cons]
    exact reps_append (reps_rev t) (reps_one h)
theorem reps_erase : ∀ {ds : List D} {vs : List V} (i : Nat), reps K Z B ds vs → reps K Z B (ds.eraseIdx i) (vs.eraseIdx i)
  | [], _, _, h => by rw [show _ = [] from h]; exact rfl
  | _ :: ds, _, 0, ⟨v, r, e1, h, t⟩ => by rw [e1]; exact t
  | _ :: ds, _, i + 1, ⟨v, r, e1, h, t⟩ => ⟨v, r.eraseIdx i, by rw [e1]; rfl, h, reps_erase i t⟩
end

/-! ### configurations -/
structure Cf where
  σ : L2.St
  δ : Env'
  B : Hp
  H : Hp
def owns (c : Cf) (p : Addr) : Prop := ∃ (i : Nat) (o : O) (b : Bool), c.δ[i]? = some (.own o b) ∧ c.σ[i]? = some (some (.ref p))
/-- an object of its own that is not the caller's -/
def ownsU (c : Cf) (p : Addr) : Prop := ∃ (i : Nat) (o : O), c.δ[i]? = some (.own o false) ∧ c.σ[i]? = some (some (.ref p))
def pinned : Slot → Bool
  | .imm _ b => b
  | .own _ b => b
  | .none => false
def SlotOk (K : PySem.W.Frag) (Z : Addr → Prop) (B H : Hp) (v : Option (Option V)) : Slot → Prop
  | .none => True
  | .imm d _ => ∃ x, v = some (some x) ∧ rep K Z B d x
  | .own o _ => ∃ p, v = some (some (.ref p)) ∧ Z p ∧ B p = none ∧ Hol K Z B o (H p)
structure S (K : PySem.W.Frag) (Z : Addr → Prop) (c : Cf) : Prop where
  same : Same c.B c.H
  len : c.σ.length = c.δ.length
  z : ∀ a, c.H a = none → Z a
  slot : ∀ (i : Nat) s, c.δ[i]? = some s → SlotOk K Z c.B c.H (c.σ[i]?) s
  dis : ∀ (i j : Nat) o o' b b' p, c.δ[i]? = some (.own o b) → c.δ[j]? = some (.own o' b') → c.σ[i]? = some (some (.ref p)) → c.σ[j]? = some (some (.ref p)) → i = j
structure Ext (c c' : Cf) : Prop where
  same : Same c.B c'.B
  dom : ∀ q, c'.H q = none → c.H q = none
  fr : ∀ q u, c.H q = some u → c.B q = none → ¬ owns c q → c'.H q = some u ∧ c'.B q = none ∧ ¬ owns c' q
  pin : ∀ (i : Nat) s, c.δ[i]? = some s → pinned s = true → c'.σ[i]? = c.σ[i]? ∧ ∃ s', c'.δ[i]? = some s' ∧ pinned s' = true
  src : ∀ p, ownsU c' p → c.H p = none ∨ ownsU c p
theorem Ext.refl (c : Cf) : Ext c c := ⟨fun _ _ h => h, fun _ h => h, fun _ _ a b n => ⟨a, b, n⟩, fun _ s h p => ⟨rfl, s, h, p⟩, fun _ h => .inr h⟩
theorem Ext.trans {a b c : Cf} (x : Ext a b) (y : Ext b c) : Ext a c where
  same := x.same.trans y.same
  dom := fun q h => x.dom q (y.dom q h)
  fr := fun q u h1 h2 h3 => let ⟨g1, g2, g3⟩ := x.fr q u h1 h2 h3; y.fr q u g1 g2 g3
  pin := fun i s h p => by
    obtain ⟨e1, s1, h1, p1⟩ := x.pin i s h p
    obtain ⟨e2, s2, h2, p2⟩ := y.pin i s1 h1 p1
    exact ⟨e2.trans e1, s2, h2, p2⟩
  src := fun p h => by
    rcases y.src p h with h | h
    · exact .inl (x.dom p h)
    · exact x.src p h
/-- an exception has left: what stood still stands -/
def Rx (c : Cf) (H' : Hp) : Prop := ∃ B', Same c.B B' ∧ Same B' H' ∧ (∀ q, H' q = none → c.H q = none) ∧ ∀ q u, c.H q = some u → c.B q = none → ¬ owns c q → H' q = some u ∧ B' q = none
theorem Rx.of {a b : Cf} {H' : Hp} (x : Ext a b) (y : Rx b H') : Rx a H' := by
  obtain ⟨B', h1, h2, h3, h4⟩ := y
  exact ⟨B', x.same.trans h1, h2, fun q h => x.dom q (h3 q h), fun q u g1 g2 g3 => let ⟨k1, k2, k3⟩ := x.fr q u g1 g2 g3; h4 q u k1 k2 k3⟩
/-- what a result is; H0: the heap ahead of the expression -/
def RR (K : PySem.W.Frag) (Z : Addr → Prop) (H0 : Hp) (c : Cf) : R → V → Prop
  | .imm d, v => rep K Z c.B d v
  | .frs o, v => ∃ p, v = .ref p ∧ Z p ∧ c.B p = none ∧ H0 p = none ∧ Hol K Z c.B o (c.H p) ∧ ¬ owns c p
  | .pl i, v => c.σ[i]? = some (some v)
section
variable {K : PySem.W.Frag} {Z : Addr → Prop} {H0 H1 : Hp} {c c0 c1 c' : Cf} {r : R} {v : V}
theorem RR.on (h : RR K Z H0 c r v) (e : Ext c c') (hs : c'.σ = c.σ) : RR K Z H0 c' r v := by
  cases r with
  | imm d => exact rep_mono e.same d v h
  | frs o =>
    obtain ⟨p, e1, z, b, h0, ho, no⟩ := h
    obtain ⟨u, hu⟩ := ho.some
    obtain ⟨g1, g2, g3⟩ := e.fr p u hu b no
    refine ⟨p, e1, z, g2, h0, ?_, g3⟩
    rw [g1, ← hu]
    exact ho.mono e.same
  | pl i =>
    show c'.σ[i]? = _
    rw [hs]
    exact h
theorem RR.weak (h : RR K Z H1 c r v) (w : ∀ q, H1 q = none → H0 q = none) : RR K Z H0 c r v := by
  cases r with
  | imm d => exact h
  | frs o =>
    obtain ⟨p, e1, z, b, h0, ho, no⟩ := h
    exact ⟨p, e1, z, b, w p h0, ho, no⟩
  | pl i => exact h
/-- the top in the heap, what it holds in the part that stands still -/
def repT (K : PySem.W.Frag) (Z : Addr → Prop) (B H : Hp) : D → V → Prop
  | .lst ds, v => ∃ p vs, v = .ref p ∧ Z p ∧ H p = some (.lst vs) ∧ reps K Z B ds vs
  | .non, v => v = .non
  | .bl b, v => v = .bl b
  | .int i, v => v = .int i
  | .str x, v => v = .str x
  | .tup ds, v => ∃ p vs, v = .ref p ∧ SqT K H p vs ∧ reps K Z B ds vs
  | .scr ns, v => ∃ p, v = .ref p ∧ SqL K H p (ns.map V.int)
  | .adr a, v => v = .ref a
theorem repT_of {B H : Hp} {d : D} (e : Same B H) (h : rep K Z B d v) : repT K Z B H d v := by
  cases d with
  | lst ds =>
    obtain ⟨p, vs, e1, z, hp, r⟩ := h
    exact ⟨p, vs, e1, z, e _ _ hp, r⟩
  | tup ds =>
    obtain ⟨p, vs, e1, hp, r⟩ := h
    exact ⟨p, vs, e1, same_t e hp, r⟩
  | scr ns =>
    obtain ⟨p, e1, hp⟩ := h
    exact ⟨p, e1, e.seq hp⟩
  | non => exact h
  | bl b => exact h
  | int i => exact h
  | str x => exact h
  | adr a => exact h
theorem rep_T {B H : Hp} {d : D} (e : Same B H) (h : repT K Z B H d v) : rep K Z H d v := by
  cases d with
  | lst ds =>
    obtain ⟨p, vs, e1, z, hp, r⟩ := h
    exact ⟨p, vs, e1, z, hp, reps_mono e _ _ r⟩
  | tup ds =>
    obtain ⟨p, vs, e1, hp, r⟩ := h
    exact ⟨p, vs, e1, hp, reps_mono e _ _ r⟩
  | scr ns => exact h
  | non => exact h
  | bl b => exact h
  | int i => exact h
  | str x => exact h
  | adr a => exact h
/-- what a result looks like to whoever only reads -/
def vw (δ : Env') : R → Option D
  | .imm d => some d
  | .frs (.lst ds) => some (.lst ds)
  | .frs _ => none
  | .pl i => match δ[i]? with
    | some (.own (.lst ds) _) => some (.lst ds)
    | some (.imm d _) => some d
    | _ => none
theorem vw_ok {d : D} (s : S K Z c) (h : RR K Z H0 c r v) (e : vw c.δ r = some d) : repT K Z c.B c.H d v := by
  cases r with
  | imm d' =>
    cases e
    exact repT_of s.same h
  | frs o =>
    cases o with
    | lst ds =>
      cases e
      obtain ⟨p, e1, z, b, h0, ⟨vs, hv, rv⟩, no⟩ := h
      exact ⟨p, vs, e1, z, hv, rv⟩
    | dct _ => cases e
    | dcT _ => cases e
  | pl i =>
    have hv : c.σ[i]? = some (some v) := h
    simp only [vw] at e
    split at e
    · rename_i ds b q
      cases e
      obtain ⟨p, e1, z, b, ⟨vs, hw, rv⟩⟩ := s.slot i _ q
      rw [hv] at e1
      cases e1
      exact ⟨p, vs, rfl, z, hw, rv⟩
    · rename_i d' b q
      cases e
      obtain ⟨x, e1, hx⟩ := s.slot i _ q
      rw [hv] at e1
      cases e1
      exact repT_of s.same hx
    · cases e
/-- a dict, read -/
def vo (δ : Env') : R → Option O
  | .imm _ => none
  | .frs o => some o
  | .pl i => match δ[i]? with
    | some (.own o _) => some o
    | _ => none
theorem vo_ok {o : O} (s : S K Z c) (h : RR K Z H0 c r v) (e : vo c.δ r = some o) : ∃ p, v = .ref p ∧ Hol K Z c.B o (c.H p) := by
  cases r with
  | imm d' => cases e
  | frs o' =>
    cases e
    obtain ⟨p, e1, z, b, h0, ho, no⟩ := h
    exact ⟨p, e1, ho⟩
  | pl i =>
    have hv : c.σ[i]? = some (some v) := h
    simp only [vo] at e
    split at e
    · rename_i ds b q
      cases e
      obtain ⟨p, e1, z, b, ho⟩ := s.slot i _ q
      rw [hv] at e1
      cases e1
      exact ⟨p, rfl, ho⟩
    · cases e
/-- a result is put into something that stands still -/
def st (δ : Env') : R → Option (D × Env')
  | .imm d => some (d, δ)
  | .frs (.lst ds) => some (.lst ds, δ)
  | .frs _ => none
  | .pl i => match δ[i]? with
    | some (.own (.lst ds) b) => some (.lst ds, δ.set i (.imm (.lst ds) b))
    | some (.imm d _) => some (d, δ)
    | _ => none
theorem get_set {α : Type} {l : List α} {i j : Nat} {x y : α} (h : (l.set i x)[j]? = some y) : (i = j ∧ y = x) ∨ (i ≠ j ∧ l[j]? = some y) := by
  by_cases e : i = j
  · subst e
    by_cases hl : i < l.length
    · rw [List.getElem?_set_self hl] at h
      exact .inl ⟨rfl, (Option.some.inj h).symm⟩
    · rw [List.getElem?_eq_none (by simpa using hl)] at h
      cases h
  · rw [List.getElem?_set_ne e] at h
    exact .inr ⟨e, h⟩
theorem set_self {α : Type} {l : List α} {i : Nat} {x y : α} (h : l[i]? = some y) : (l.set i x)[i]? = some x := by
  have hl : i < l.length := (List.getElem?_eq_some_iff.mp h).1
  rw [List.getElem?_set_self hl]
theorem upd_keep {H : Hp} {p q : Addr} {u o : HO} (n : H p = none) (h : H q = some u) : upd H p o q = some u := by
  rw [upd_ne (ne_of_none h n)]
  exact h
theorem st_ok {d : D} {δ' : Env'} (x : Ext c0 c) (hs : c.σ = c0.σ) (s : S K Z c) (h : RR K Z c0.H c r v) (e : st c.δ r = some (d, δ')) :
    ∃ B', S K Z ⟨c.σ, δ', B', c.H⟩ ∧ Ext c0 ⟨c.σ, δ', B', c.H⟩ ∧ rep K Z B' d v := by
  cases r with
  | imm d' =>
    cases e
    exact ⟨c.B, s, x, h⟩
  | frs o =>
    cases o with
    | dct _ => cases e
    | dcT _ => cases e
    | lst ds =>
      cases e
      obtain ⟨p, e1, z, b, h0, ⟨vs, hv, rv⟩, no⟩ := h
      have sm : Same c.B (upd c.B p (.lst vs)) := fun q u hq => upd_keep b hq
      refine ⟨upd c.B p (.lst vs), ⟨fun q u hq => ?_, s.len, s.z, fun i sl hi => ?_, s.dis⟩, ⟨x.same.trans sm, x.dom, fun q u h1 h2 h3 => ?_, x.pin, x.src⟩, ⟨p, vs, e1, z, upd_same, reps_mono sm _ _ rv⟩⟩
      · have hq' : upd c.B p (.lst vs) q = some u := hq
        by_cases hp : q = p
        · subst hp
          rw [upd_same] at hq'
          cases hq'
          exact hv
        · rw [upd_ne hp] at hq'
          exact s.same q u hq'
      · have := s.slot i sl hi
        cases sl with
        | none => trivial
        | imm d b' =>
          obtain ⟨y, e2, ry⟩ := this
          exact ⟨y, e2, rep_mono sm _ _ ry⟩
        | own o b' =>
          obtain ⟨q, e2, zq, bq, hq⟩ := this
          refine ⟨q, e2, zq, ?_, hq.mono sm⟩
          show upd c.B p (.lst vs) q = none
          rw [upd_ne fun eq => no ⟨i, o, b', hi, by rw [← eq]; exact e2⟩]
          exact bq
      · obtain ⟨g1, g2, g3⟩ := x.fr q u h1 h2 h3
        refine ⟨g1, ?_, g3⟩
        show upd c.B p (.lst vs) q = none
        rw [upd_ne fun eq => by rw [eq, h0] at h1; cases h1]
        exact g2
  | pl i =>
    have hv : c.σ[i]? = some (some v) := h
    simp only [st] at e
    split at e
    · rename_i ds b q
      cases e
      obtain ⟨p, e1, z, bp, ⟨vs, hw, rv⟩⟩ := s.slot i _ q
      rw [hv] at e1
      cases e1
      have sm : Same c.B (upd c.B p (.lst vs)) := fun q u hq => upd_keep bp hq
      have rep' : rep K Z (upd c.B p (.lst vs)) (.lst ds) (.ref p) := ⟨p, vs, rfl, z, upd_same, reps_mono sm _ _ rv⟩
      have ownp : owns c p := ⟨i, _, _, q, hv⟩
      have ownless : ∀ a, owns ⟨c.σ, c.δ.set i (.imm (.lst ds) b), upd c.B p (.lst vs), c.H⟩ a → owns c a := fun a ⟨j, o, b', h1, h2⟩ => by
        rcases get_set h1 with ⟨_, h⟩ | ⟨_, h⟩
        · cases h
        · exact ⟨j, o, b', h, h2⟩
      refine ⟨upd c.B p (.lst vs), ⟨fun q u hq => ?_, by show _ = (c.δ.set i _).length; rw [List.length_set]; exact s.len, s.z, fun j sl hj => ?_, fun j k o o' b1 b2 a h1 h2 h3 h4 => ?_⟩, ⟨x.same.trans sm, x.dom, fun q u h1 h2 h3 => ?_, fun j sl hj pj => ?_, fun a ⟨j, o, h1, h2⟩ => ?_⟩, rep'⟩
      · have hq' : upd c.B p (.lst vs) q = some u := hq
        by_cases hp : q = p
        · subst hp
          rw [upd_same] at hq'
          cases hq'
          exact hw
        · rw [upd_ne hp] at hq'
          exact s.same q u hq'
      · rcases get_set hj with ⟨rfl, rfl⟩ | ⟨ne, hj'⟩
        · exact ⟨.ref p, hv, rep'⟩
        · have := s.slot j sl hj'
          cases sl with
          | none => trivial
          | imm d b' =>
            obtain ⟨y, e2, ry⟩ := this
            exact ⟨y, e2, rep_mono sm _ _ ry⟩
          | own o b' =>
            obtain ⟨q', e2, zq, bq, hq⟩ := this
            refine ⟨q', e2, zq, ?_, hq.mono sm⟩
            show upd c.B p (.lst vs) q' = none
            rw [upd_ne fun eq => ne (s.dis i j _ _ _ _ p q hj' hv (by rw [← eq]; exact e2))]
            exact bq
      · rcases get_set h1 with ⟨_, h⟩ | ⟨_, h1'⟩
        · cases h
        · rcases get_set h2 with ⟨_, h⟩ | ⟨_, h2'⟩
          · cases h
          · exact s.dis j k o o' b1 b2 a h1' h2' h3 h4
      · obtain ⟨g1, g2, g3⟩ := x.fr q u h1 h2 h3
        refine ⟨g1, ?_, fun ow => g3 (ownless q ow)⟩
        show upd c.B p (.lst vs) q = none
        rw [upd_ne fun eq => g3 (by rw [eq]; exact ownp)]
        exact g2
      · obtain ⟨e2, s2, h2, p2⟩ := x.pin j sl hj pj
        refine ⟨e2, ?_⟩
        by_cases hji : i = j
        · subst hji
          rw [q] at h2
          cases h2
          exact ⟨.imm (.lst ds) b, set_self q, p2⟩
        · exact ⟨s2, by show (c.δ.set i _)[j]? = _; rw [List.getElem?_set_ne hji]; exact h2, p2⟩
      · rcases get_set h1 with ⟨_, h⟩ | ⟨_, h⟩
        · cases h
        · exact x.src a ⟨j, o, h, h2⟩
    · rename_i d' b q
      cases e
      obtain ⟨y, e1, hx⟩ := s.slot i _ q
      rw [hv] at e1
      cases e1
      exact ⟨c.B, s, x, hx⟩
    · cases e
/-- a new object is laid that stands still -/
theorem S.lay {p : Addr} {u : HO} (s : S K Z c) (hp : c.H p = none) : S K Z ⟨c.σ, c.δ, upd c.B p u, upd c.H p u⟩ ∧ Ext c ⟨c.σ, c.δ, upd c.B p u, upd c.H p u⟩ := by
  have bp : c.B p = none := by
    cases h : c.B p with
    | none => rfl
    | some o =>
      rw [s.same _ _ h] at hp
      cases hp
  have sm : Same c.B (upd c.B p u) := fun q w hq => upd_keep bp hq
  have keepH : ∀ q w, c.H q = some w → upd c.H p u q = some w := fun q w hq => upd_keep hp hq
  refine ⟨⟨fun q w hq => ?_, s.len, fun a ha => ?_, fun i sl hi => ?_, s.dis⟩, ⟨sm, fun q hq => ?_, fun q w h1 h2 h3 => ?_, fun i sl hi pi => ⟨rfl, sl, hi, pi⟩, fun _ h => .inr h⟩⟩
  · have hq' : upd c.B p u q = some w := hq
    show upd c.H p u q = some w
    by_cases e : q = p
    · subst e
      rw [upd_same] at hq' ⊢
      exact hq'
    · rw [upd_ne e] at hq' ⊢
      exact s.same q w hq'
  · have ha' : upd c.H p u a = none := ha
    by_cases e : a = p
    · subst e
      exact s.z a hp
    · rw [upd_ne e] at ha'
      exact s.z a ha'
  · have := s.slot i sl hi
    cases sl with
    | none => trivial
    | imm d b' =>
      obtain ⟨y, e2, ry⟩ := this
      exact ⟨y, e2, rep_mono sm _ _ ry⟩
    | own o b' =>
      obtain ⟨q', e2, zq, bq, hq⟩ := this
      obtain ⟨w, hw⟩ := hq.some
      refine ⟨q', e2, zq, ?_, ?_⟩
      · show upd c.B p u q' = none
        rw [upd_ne (ne_of_none hw hp)]
        exact bq
      · show Hol K Z (upd c.B p u) o (upd c.H p u q')
        rw [upd_ne (ne_of_none hw hp)]
        exact hq.mono sm
  · have hq' : upd c.H p u q = none := hq
    by_cases e : q = p
    · subst e
      exact hp
    · rw [upd_ne e] at hq'
      exact hq'
  · refine ⟨keepH q w h1, ?_, h3⟩
    show upd c.B p u q = none
    rw [upd_ne (ne_of_none h1 hp)]
    exact h2
/-- a new object is laid that nobody holds -/
theorem S.new {p : Addr} {u : HO} (s : S K Z c) (hp : c.H p = none) : S K Z ⟨c.σ, c.δ, c.B, upd c.H p u⟩ ∧ Ext c ⟨c.σ, c.δ, c.B, upd c.H p u⟩ ∧ c.B p = none ∧ ¬ owns c p := by
  have bp : c.B p = none := by
    cases h : c.B p with
    | none => rfl
    | some o =>
      rw [s.same _ _ h] at hp
      cases hp
  have keepH : ∀ q w, c.H q = some w → upd c.H p u q = some w := fun q w hq => upd_keep hp hq
  refine ⟨⟨fun q w hq => keepH q w (s.same q w hq), s.len, fun a ha => ?_, fun i sl hi => ?_, s.dis⟩, ⟨fun _ _ h => h, fun q hq => ?_, fun q w h1 h2 h3 => ⟨keepH q w h1, h2, h3⟩, fun i sl hi pi => ⟨rfl, sl, hi, pi⟩, fun _ h => .inr h⟩, bp, fun ⟨i, o, b, h1, h2⟩ => ?_⟩
  · have ha' : upd c.H p u a = none := ha
    by_cases e : a = p
    · subst e
      exact s.z a hp
    · rw [upd_ne e] at ha'
      exact s.z a ha'
  · have := s.slot i sl hi
    cases sl with
    | none => trivial
    | imm d b' => exact this
    | own o b' =>
      obtain ⟨q', e2, zq, bq, hq⟩ := this
      obtain ⟨w, hw⟩ := hq.some
      refine ⟨q', e2, zq, bq, ?_⟩
      show Hol K Z c.B o (upd c.H p u q')
      rw [upd_ne (ne_of_none hw hp)]
      exact hq
  · have hq' : upd c.H p u q = none := hq
    by_cases e : q = p
    · subst e
      exact hp
    · rw [upd_ne e] at hq'
      exact hq'
  · obtain ⟨q', e2, zq, bq, hq⟩ := s.slot i _ h1
    rw [h2] at e2
    cases e2
    obtain ⟨w, hw⟩ := hq.some
    rw [hp] at hw
    cases hw
/-- the object of a slot is changed -/
theorem S.put {p : Addr} {i : Nat} {o o' : O} {b : Bool} {u : HO} (s : S K Z c) (hi : c.δ[i]? = some (.own o b)) (hp : c.σ[i]? = some (some (.ref p))) (hu : Hol K Z c.B o' (some u)) :
    S K Z ⟨c.σ, c.δ.set i (.own o' b), c.B, upd c.H p u⟩ ∧ Ext c ⟨c.σ, c.δ.set i (.own o' b), c.B, upd c.H p u⟩ := by
  obtain ⟨p', e1, zp, bp, ho⟩ := s.slot i _ hi
  rw [hp] at e1
  cases e1
  obtain ⟨w0, hw0⟩ := ho.some
  have ownless : ∀ a, owns ⟨c.σ, c.δ.set i (.own o' b), c.B, upd c.H p u⟩ a → owns c a := fun a ⟨j, x, b', h1, h2⟩ => by
    rcases get_set h1 with ⟨rfl, h⟩ | ⟨_, h⟩
    · exact ⟨i, o, b, hi, h2⟩
    · exact ⟨j, x, b', h, h2⟩
  refine ⟨⟨fun q w hq => ?_, by show _ = (c.δ.set i _).length; rw [List.length_set]; exact s.len, fun a ha => ?_, fun j sl hj => ?_, fun j k x x' b1 b2 a h1 h2 h3 h4 => ?_⟩, ⟨fun _ _ h => h, fun q hq => ?_, fun q w h1 h2 h3 => ⟨?_, h2, fun ow => h3 (ownless q ow)⟩, fun j sl hj pj => ⟨rfl, ?_⟩, fun a ⟨j, x, h1, h2⟩ => ?_⟩⟩
  · show upd c.H p u q = some w
    have hq' : c.B q = some w := hq
    rw [upd_ne (ne_of_none hq' bp)]
    exact s.same q w hq'
  · have ha' : upd c.H p u a = none := ha
    by_cases e : a = p
    · subst e
      exact zp
    · rw [upd_ne e] at ha'
      exact s.z a ha'
  · rcases get_set hj with ⟨rfl, rfl⟩ | ⟨ne, hj'⟩
    · refine ⟨p, hp, zp, bp, ?_⟩
      show Hol K Z c.B o' (upd c.H p u p)
      rw [upd_same]
      exact hu
    · have := s.slot j sl hj'
      cases sl with
      | none => trivial
      | imm d b' => exact this
      | own x b' =>
        obtain ⟨q', e2, zq, bq, hq⟩ := this
        refine ⟨q', e2, zq, bq, ?_⟩
        show Hol K Z c.B x (upd c.H p u q')
        rw [upd_ne fun eq => ne (s.dis i j _ _ _ _ p hi hj' hp (by rw [← eq]; exact e2))]
        exact hq
  · have fix : ∀ {j : Nat} {x : O} {b1 : Bool}, (c.δ.set i (Slot.own o' b))[j]? = some (Slot.own x b1) → ∃ (y : O) (b2 : Bool), c.δ[j]? = some (Slot.own y b2) := fun {j x b1} h => by
      rcases get_set h with ⟨rfl, _⟩ | ⟨_, h'⟩
      · exact ⟨o, b, hi⟩
      · exact ⟨_, _, h'⟩
    obtain ⟨y1, c1, g1⟩ := fix h1
    obtain ⟨y2, c2, g2⟩ := fix h2
    exact s.dis j k _ _ _ _ a g1 g2 h3 h4
  · have hq' : upd c.H p u q = none := hq
    by_cases e : q = p
    · subst e
      rw [upd_same] at hq'
      cases hq'
    · rw [upd_ne e] at hq'
      exact hq'
  · show upd c.H p u q = some w
    rw [upd_ne fun eq => h3 ⟨i, o, b, hi, by rw [eq]; exact hp⟩]
    exact h1
  · by_cases hji : i = j
    · subst hji
      rw [hi] at hj
      cases hj
      exact ⟨.own o' b, set_self hi, pj⟩
    · exact ⟨sl, by show (c.δ.set i _)[j]? = _; rw [List.getElem?_set_ne hji]; exact hj, pj⟩
  · rcases get_set h1 with ⟨rfl, h⟩ | ⟨_, h⟩
    · cases h
      exact .inr ⟨i, o, hi, h2⟩
    · exact .inr ⟨j, x, h, h2⟩
end
end VI

set_option Elab.async false
set_option linter.all false
set_option maxRecDepth 100000
set_option maxHeartbeats 4000000
/-! Expressions. -/
namespace VI
open PySem PySem.Spec PyProof.Rows L2
def Res.bind {α β : Type} (m : Res α) (k : α → Res β) : Res β := match m with
  | .ok a => k a
  | .raise c => .raise c
  | .stuck => .stuck
/-- what must hold so that what runs from c0 and ends as m gives Q -/
def Post {α W : Type} (K : PySem.W.Frag) (E : XK) (cn : Nat → Value) (Z : Addr → Prop) (G : Hp → Cf → α → W → Prop) (c0 : Cf) (m : Res (α × Env')) (Q : W → Hp → Prop) : Prop := match m with
  | .ok (r, δ') => ∀ B' H' v, S K Z ⟨c0.σ, δ', B', H'⟩ → Ext c0 ⟨c0.σ, δ', B', H'⟩ → G c0.H ⟨c0.σ, δ', B', H'⟩ r v → Q v H'
  | .raise k => ∀ H', Rx c0 H' → E (cn k) Option.none H'
  | .stuck => False
def sG {α W : Type} (K : PySem.W.Frag) (E : XK) (cn : Nat → Value) (G : (Addr → Prop) → Hp → Cf → α → W → Prop) (f : Sem' α) (σ : L2.St) (H : Hp) (Q : W → Hp → Prop) : Prop :=
  ∃ (Z : Addr → Prop) (B : Hp) (δ : Env'), S K Z ⟨σ, δ, B, H⟩ ∧ Post K E cn Z (G Z) ⟨σ, δ, B, H⟩ (f δ) Q
/-- an expression's reading by what it does to data -/
def sE (K : PySem.W.Frag) (E : XK) (cn : Nat → Value) (f : Sem' R) : TE := sG K E cn (fun Z => RR K Z) f
def GD (K : PySem.W.Frag) (Z : Addr → Prop) (_ : Hp) (c : Cf) (d : D) (v : V) : Prop := rep K Z c.B d v
/-- .. its value put into something that stands still -/
def sI (K : PySem.W.Frag) (E : XK) (cn : Nat → Value) (f : Sem' D) : TE := sG K E cn (GD K) f
def RRs (K : PySem.W.Frag) (Z : Addr → Prop) (H0 : Hp) (c : Cf) : List R → List V → Prop
  | [], vs => vs = []
  | r :: rs, vs => ∃ v t, vs = v :: t ∧ RR K Z H0 c r v ∧ RRs K Z H0 c rs t
def sA (K : PySem.W.Frag) (E : XK) (cn : Nat → Value) (f : Sem' (List R)) : TA := sG K E cn (RRs K) f
def GDs (K : PySem.W.Frag) (Z : Addr → Prop) (_ : Hp) (c : Cf) (d : List D) (v : List V) : Prop := reps K Z c.B d v
def sAI (K : PySem.W.Frag) (E : XK) (cn : Nat → Value) (f : Sem' (List D)) : TA := sG K E cn (GDs K) f
/-- a test -/
def GT (_ : PySem.W.Frag) (_ : Addr → Prop) (_ : Hp) (_ : Cf) (d : Bool) (v : Bool) : Prop := d = v
def sT (K : PySem.W.Frag) (E : XK) (cn : Nat → Value) (f : Sem' Bool) : TT := sG K E cn (GT K) f
section
variable {K : PySem.W.Frag} {E : XK} {cn : Nat → Value} {Z : Addr → Prop} {H0 H1 : Hp} {c c0 c1 c' : Cf}
theorem RRs.on {rs : List R} : ∀ {vs : List V}, RRs K Z H0 c rs vs → Ext c c' → c'.σ = c.σ → RRs K Z H0 c' rs vs := by
  induction rs with
  | nil => exact fun h _ _ => h
  | cons r rs ih => exact fun ⟨v, t, e, h, u⟩ x s => ⟨v, t, e, h.on x s, ih u x s⟩
theorem RRs.weak {rs : List R} : ∀ {vs : List V}, RRs K Z H1 c rs vs → (∀ q, H1 q = none → H0 q = none) → RRs K Z H0 c rs vs := by
  induction rs with
  | nil => exact fun h _ => h
  | cons r rs ih => exact fun ⟨v, t, e, h, u⟩ w => ⟨v, t, e, h.weak w, ih u w⟩
theorem sG_mono {α W : Type} {G : (Addr → Prop) → Hp → Cf → α → W → Prop} {f : Sem' α} {σ : L2.St} {H : Hp} {Q Q' : W → Hp → Prop} (h : sG K E cn G f σ H Q) (q : ∀ v H', Q v H' → Q' v H') : sG K E cn G f σ H Q' := by
  obtain ⟨Z, B, δ, s, p⟩ := h
  refine ⟨Z, B, δ, s, ?_⟩
  cases e : f δ with
  | ok p' =>
    rw [e] at p
    obtain ⟨r, δ'⟩ := p'
    exact fun B' H' v a b g => q v H' (p B' H' v a b g)
  | raise k =>
    rw [e] at p
    exact p
  | stuck =>
    rw [e] at p
    exact p
/-- a part of what runs from c0 runs at c1 -/
theorem sub {α β W W' : Type} {G : (Addr → Prop) → Hp → Cf → α → W → Prop} {G' : Hp → Cf → β → W' → Prop} {f : Sem' α} {k : α × Env' → Res (β × Env')} {Q : W' → Hp → Prop} (s : S K Z c1) (x : Ext c0 c1) (hs : c1.σ = c0.σ)
    (p : Post K E cn Z G' c0 ((f c1.δ).bind k) Q) :
    sG K E cn G f c1.σ c1.H (fun v H' => ∃ r δ' B', f c1.δ = .ok (r, δ') ∧ S K Z ⟨c0.σ, δ', B', H'⟩ ∧ Ext c0 ⟨c0.σ, δ', B', H'⟩ ∧ Ext c1 ⟨c0.σ, δ', B', H'⟩ ∧ G Z c1.H ⟨c0.σ, δ', B', H'⟩ r v ∧ Post K E cn Z G' c0 (k (r, δ')) Q) := by
  refine ⟨Z, c1.B, c1.δ, s, ?_⟩
  show Post K E cn Z (G Z) c1 (f c1.δ) _
  cases e : f c1.δ with
  | ok p' =>
    obtain ⟨r, δ'⟩ := p'
    rw [e] at p
    intro B' H' v a b g
    show ∃ r' δ'' B'', _
    rw [hs] at a b g
    exact ⟨r, δ', B', rfl, a, x.trans b, b, g, p⟩
  | raise k =>
    rw [e] at p
    exact fun H' rx => p H' (Rx.of x rx)
  | stuck =>
    rw [e] at p
    exact p
theorem _root_.L2.PE.imp {X : Cx} {e : Expr} {t t' : TE} (h : PE X e t) (q : ∀ σ H Q, t' σ H Q → t σ H Q) : PE X e t' := ⟨fun pins s σ H Q I hw => h.run pins s σ H Q I (q σ H Q hw)⟩
theorem _root_.L2.PT.imp {X : Cx} {e : Expr} {t t' : TT} (h : PT X e t) (q : ∀ σ H Q, t' σ H Q → t σ H Q) : PT X e t' := ⟨fun pins s σ H Q I hw => h.run pins s σ H Q I (q σ H Q hw)⟩
theorem _root_.L2.PW.imp {X : Cx} {e : Expr} {t t' : TT} (h : PW X e t) (q : ∀ σ H Q, t' σ H Q → t σ H Q) : PW X e t' := ⟨fun wh pins s σ H Q I hw => h.run wh pins s σ H Q I (q σ H Q hw)⟩
theorem _root_.L2.PA.imp {X : Cx} {e : List Expr} {t t' : TA} (h : PA X e t) (q : ∀ σ H Q, t' σ H Q → t σ H Q) : PA X e t' := ⟨fun pos pins s σ H Q I hw => h.run pos pins s σ H Q I (q σ H Q hw)⟩

/-! ### ends of pure operations -/
inductive Ro where | imm (d : D) | lst (ds : List D) | tup (ds : List D)
def Ro.r : Ro → R
  | .imm d => .imm d
  | .lst ds => .frs (.lst ds)
  | .tup ds => .imm (.tup ds)
def Fin (K : PySem.W.Frag) (Z : Addr → Prop) (B H : Hp) : Ro → VK → Prop
  | .imm d, Q => ∀ u, rep K Z B d u → Q u H
  | .lst ds, Q => ∀ p vs, H p = none → reps K Z B ds vs → Q (.ref p) (upd H p (.lst vs))
  | .tup ds, Q => ∀ p vs, H p = none → reps K Z B ds vs → Q (.ref p) (upd H p (.tup vs))
theorem fin {δ : Env'} {B H : Hp} {ro : Ro} {Q : VK} (s : S K Z ⟨c0.σ, δ, B, H⟩) (x : Ext c0 ⟨c0.σ, δ, B, H⟩) (p : Post K E cn Z (RR K Z) c0 (.ok (ro.r, δ)) Q) : Fin K Z B H ro Q := by
  cases ro with
  | imm d => exact fun u hu => p B H u s x hu
  | lst ds =>
    intro a vs ha r
    obtain ⟨s', x', bp, no⟩ := s.new (u := .lst vs) ha
    refine p B (upd H a (.lst vs)) (.ref a) s' (x.trans x') ⟨a, rfl, s.z a ha, bp, x.dom a ha, ⟨vs, upd_same, r⟩, no⟩
  | tup ds =>
    intro a vs ha r
    obtain ⟨s', x'⟩ := s.lay (u := .tup vs) ha
    exact p _ _ (.ref a) s' (x.trans x') ⟨a, vs, rfl, .inl (.inl upd_same), reps_mono x'.same _ _ r⟩

/-! ### names, constants -/
def vVar (i : Nat) : Sem' R := fun δ => match δ[i]? with
  | some (.imm d _) => .ok (.imm d, δ)
  | some (.own _ _) => .ok (.pl i, δ)
  | _ => .stuck
def vC (d : D) : Sem' R := fun δ => .ok (.imm d, δ)
variable {X : Cx}
theorem qv_var {e : Expr} {i : Nat} (h : PE X e (tVar i)) : PE X e (sE X.K E cn (vVar i)) := by
  refine h.imp fun σ H Q ⟨Z, B, δ, s, p⟩ => ?_
  unfold vVar at p
  split at p
  · rename_i d b q
    obtain ⟨x, e1, hx⟩ := s.slot i _ q
    exact ⟨x, e1, p B H x s (Ext.refl _) hx⟩
  · rename_i o b q
    obtain ⟨x, e1, _⟩ := s.slot i _ q
    exact ⟨_, e1, p B H _ s (Ext.refl _) e1⟩
  · exact p.elim
theorem qv_c {e : Expr} {d : D} {v : V} (h : PE X e (tC v)) (r : ∀ Z B, rep X.K Z B d v) : PE X e (sE X.K E cn (vC d)) := by
  refine h.imp fun σ H Q ⟨Z, B, δ, s, p⟩ => ?_
  exact p B H v s (Ext.refl _) (r Z B)
theorem qv_int {i j pos} : PE X (.Constant (.int i) j pos) (sE X.K E cn (vC (.int i))) := qv_c pe_int fun _ _ => rfl
theorem qv_bl {i j pos} : PE X (.Constant (.bool i) j pos) (sE X.K E cn (vC (.bl i))) := qv_c pe_bl fun _ _ => rfl
theorem qv_non {j pos} : PE X (.Constant .none j pos) (sE X.K E cn (vC .non)) := qv_c pe_non fun _ _ => rfl
theorem qv_str {x j pos} : PE X (.Constant (.str x) j pos) (sE X.K E cn (vC (.str x))) := qv_c pe_str fun _ _ => rfl
/-- a module's constant -/
def Gc (K : PySem.W.Frag) (mg : Str → Option Value) (x : Str) (d : D) : Prop := ∃ u v, mg x = some u ∧ RelV v u ∧ ∀ Z B, rep K Z B d v
theorem qv_glob {x : Str} {d : D} {pos : Pos} (g : Gc X.K X.mg x d) (hg : Gl X x) (hd : (x == ("__debug__" : Str)) = false := by decide) : PE X (.Name x pos) (sE X.K E cn (vC d)) := by
  obtain ⟨u, v, m, r, z⟩ := g
  exact qv_c (pe_glob hg m r hd) z

/-! ### operators -/
def OpS (K : PySem.W.Frag) (r : R2) (f : D → D → Option Ro) : Prop := ∀ Z B H x y v w ro (Q : VK), Same B H → (∀ a, H a = none → Z a) → repT K Z B H x v → repT K Z B H y w → f x y = some ro → Fin K Z B H ro Q → r v w H Q
def vOp (op : D → D → Option Ro) (f g : Sem' R) : Sem' R := fun δ => (f δ).bind fun p => (g p.2).bind fun q => match vw q.2 p.1, vw q.2 q.1 with
  | some x, some y => match op x y with
    | some ro => .ok (ro.r, q.2)
    | none => .stuck
  | _, _ => .stuck
theorem qo {op : D → D → Option Ro} {f g : Sem' R} {r : R2} {σ : L2.St} {H : Hp} {Q : VK} (hs : OpS K r op) (h : sE K E cn (vOp op f g) σ H Q) : tOp r (sE K E cn f) (sE K E cn g) σ H Q := by
  obtain ⟨Z, B, δ, s, p⟩ := h
  show sE K E cn f σ H fun x H1 => sE K E cn g σ H1 fun y H2 => r x y H2 Q
  refine sG_mono (sub (c0 := ⟨σ, δ, B, H⟩) (c1 := ⟨σ, δ, B, H⟩) s (Ext.refl _) rfl p) fun x H1 ⟨r1, δ1, B1, e1, s1, x1, _, g1, p1⟩ => ?_
  refine sG_mono (sub (c0 := ⟨σ, δ, B, H⟩) (c1 := ⟨σ, δ1, B1, H1⟩) s1 x1 rfl p1) fun y H2 ⟨r2, δ2, B2, e2, s2, x2, x12, g2, p2⟩ => ?_
  split at p2
  · rename_i a b ea eb
    split at p2
    · rename_i ro er
      exact hs Z B2 H2 a b x y ro Q s2.same s2.z (vw_ok s2 (g1.on x12 rfl) ea) (vw_ok s2 g2 eb) er (fin s2 x2 p2)
    · exact p2.elim
  · exact p2.elim
theorem qv_bin {a b : Expr} {op : Operator} {pos : Pos} {r : R2} {o : D → D → Option Ro} {f g : Sem' R} (ho : OpR X (binaryOp op) r) (hs : OpS X.K r o) (ha : PE X a (sE X.K E cn f)) (hb : PE X b (sE X.K E cn g)) : PE X (.BinOp a op b pos) (sE X.K E cn (vOp o f g)) :=
  (pe_op ho ha hb).imp fun _ _ _ h => qo hs h
theorem qv_cmp {a b : Expr} {op : CmpOp} {pos : Pos} {r : R2} {o : D → D → Option Ro} {f g : Sem' R} (ho : OpR X (compareOp op) r) (hs : OpS X.K r o) (hm : behindInMarks op b = false) (ha : PE X a (sE X.K E cn f)) (hb : PE X b (sE X.K E cn g)) : PE X (.Compare a [op] [b] pos) (sE X.K E cn (vOp o f g)) :=
  (pe_cmpR ho ha hb hm).imp fun _ _ _ h => qo hs h
theorem qv_ix {a b : Expr} {pos : Pos} {r : R2} {o : D → D → Option Ro} {f g : Sem' R} (ho : IxR X r) (hs : OpS X.K r o) (hp : PlainIx b) (ha : PE X a (sE X.K E cn f)) (hb : PE X b (sE X.K E cn g)) : PE X (.Subscript a b pos) (sE X.K E cn (vOp o f g)) :=
  (pe_ix ho ha hb hp).imp fun _ _ _ h => qo hs h
/-- a comparison with None -/
def vIsN (neg : Bool) (f : Sem' R) : Sem' R := fun δ => (f δ).bind fun p => match p.1 with
  | .imm .non => .ok (.imm (.bl (!neg)), p.2)
  | .imm (.bl _) => .ok (.imm (.bl neg), p.2)
  | .imm (.int _) => .ok (.imm (.bl neg), p.2)
  | .imm (.str _) => .ok (.imm (.bl neg), p.2)
  | _ => .ok (.imm (.bl neg), p.2)
theorem rr_non {r : R} {v : V} (s : S K Z c) (h : RR K Z H0 c r v) (no : ∀ i, r = .pl i → ∃ o b, c.δ[i]? = some (.own o b)) : (v = .non ↔ r = .imm .non) := by
  cases r with
  | imm d =>
    have h : rep K Z c.B d v := h
    cases d with
    | non => exact ⟨fun _ => rfl, fun _ => h⟩
    | bl b => rw [show v = _ from h]; exact ⟨(by intro z; cases z), (by intro z; cases z)⟩
    | int b => rw [show v = _ from h]; exact ⟨(by intro z; cases z), (by intro z; cases z)⟩
    | str b => rw [show v = _ from h]; exact ⟨(by intro z; cases z), (by intro z; cases z)⟩
    | lst b =>
      obtain ⟨p, vs, rfl, _⟩ := h
      exact ⟨(by intro z; cases z), (by intro z; cases z)⟩
    | tup b =>
      obtain ⟨p, vs, rfl, _⟩ := h
      exact ⟨(by intro z; cases z), (by intro z; cases z)⟩
    | scr b =>
      obtain ⟨p, rfl, _⟩ := h
      exact ⟨(by intro z; cases z), (by intro z; cases z)⟩
    | adr b => rw [show v = _ from h]; exact ⟨(by intro z; cases z), (by intro z; cases z)⟩
  | frs o =>
    obtain ⟨p, rfl, _⟩ := h
    exact ⟨(by intro z; cases z), (by intro z; cases z)⟩
  | pl i =>
    obtain ⟨o, b, e⟩ := no i rfl
    obtain ⟨p, e1, _⟩ := s.slot i _ e
    have h : c.σ[i]? = some (some v) := h
    rw [h] at e1
    cases e1
    exact ⟨(by intro z; cases z), (by intro z; cases z)⟩
/-- the results of vVar, calls .. that are places are places of own objects: asked where it matters -/
def vOwn (δ : Env') : R → Bool
  | .pl i => match δ[i]? with
    | some (.own _ _) => true
    | _ => false
  | _ => true
def vIs (neg : Bool) (f : Sem' R) : Sem' R := fun δ => (f δ).bind fun p => if vOwn p.2 p.1 then
    (match p.1 with
    | .imm .non => .ok (.imm (.bl (!neg)), p.2)
    | _ => .ok (.imm (.bl neg), p.2)) else .stuck
theorem vOwn_ok {δ : Env'} {r : R} (h : vOwn δ r = true) : ∀ i, r = .pl i → ∃ o b, δ[i]? = some (.own o b) := by
  rintro i rfl
  simp only [vOwn] at h
  split at h
  · exact ⟨_, _, by assumption⟩
  · cases h
theorem vIs_val (neg : Bool) (r : R) (δ : Env') : (match r with | .imm .non => Res.ok (R.imm (D.bl (!neg)), δ) | _ => Res.ok (R.imm (D.bl neg), δ)) = Res.ok (R.imm (D.bl (if r matches .imm .non then !neg else neg)), δ) := by
  cases r with
  | imm d => cases d <;> rfl
  | frs o => rfl
  | pl i => rfl
theorem matches_iff (r : R) : (r matches .imm .non) = true ↔ r = .imm .non := by
  cases r with
  | imm d => cases d <;> simp
  | frs o => simp
  | pl i => simp
theorem qv_is {a : Expr} {j : Nat} {pos pos' : Pos} {f : Sem' R} (ha : PE X a (sE X.K E cn f)) {jj} : PE X (.Compare a [.Is] [.Constant .none jj pos'] pos) (sE X.K E cn (vIs false f)) := by
  refine (pe_cmpR op_isN ha (pe_non (pos := pos') (j := jj)) (by rfl)).imp fun σ H Q ⟨Z, B, δ, s, p⟩ => ?_
  show sE X.K E cn f σ H fun x H1 => _
  refine sG_mono (sub (c0 := ⟨σ, δ, B, H⟩) (c1 := ⟨σ, δ, B, H⟩) s (Ext.refl _) rfl p) fun x H1 ⟨r1, δ1, B1, e1, s1, x1, _, g1, p1⟩ => ?_
  split at p1
  · rename_i ow
    refine ⟨rfl, ?_⟩
    rw [vIs_val] at p1
    refine p1 B1 H1 _ s1 x1 ?_
    show V.bl (decide (x = V.non)) = V.bl _
    congr 1
    have q := rr_non s1 g1 (vOwn_ok ow)
    by_cases hx : x = .non
    · rw [decide_eq_true hx, (matches_iff r1).mpr (q.mp hx)]
      rfl
    · rw [decide_eq_false hx, if_neg (fun z => hx (q.mpr ((matches_iff r1).mp z)))]
  · exact p1.elim
theorem qv_isnt {a : Expr} {pos pos' : Pos} {f : Sem' R} (ha : PE X a (sE X.K E cn f)) {jj} : PE X (.Compare a [.IsNot] [.Constant .none jj pos'] pos) (sE X.K E cn (vIs true f)) := by
  refine (pe_cmpR op_notN ha (pe_non (pos := pos') (j := jj)) (by rfl)).imp fun σ H Q ⟨Z, B, δ, s, p⟩ => ?_
  show sE X.K E cn f σ H fun x H1 => _
  refine sG_mono (sub (c0 := ⟨σ, δ, B, H⟩) (c1 := ⟨σ, δ, B, H⟩) s (Ext.refl _) rfl p) fun x H1 ⟨r1, δ1, B1, e1, s1, x1, _, g1, p1⟩ => ?_
  split at p1
  · rename_i ow
    refine ⟨rfl, ?_⟩
    rw [vIs_val] at p1
    refine p1 B1 H1 _ s1 x1 ?_
    show V.bl (!decide (x = V.non)) = V.bl _
    congr 1
    have q := rr_non s1 g1 (vOwn_ok ow)
    by_cases hx : x = .non
    · rw [decide_eq_true hx, (matches_iff r1).mpr (q.mp hx)]
      rfl
    · rw [decide_eq_false hx, if_neg (fun z => hx (q.mpr ((matches_iff r1).mp z)))]
      rfl
  · exact p1.elim
/-! ### one operand -/
def UnS (K : PySem.W.Frag) (r : V → Hp → VK → Prop) (f : D → Option Ro) : Prop := ∀ Z B H x v ro (Q : VK), Same B H → (∀ a, H a = none → Z a) → repT K Z B H x v → f x = some ro → Fin K Z B H ro Q → r v H Q
def vUn (op : D → Option Ro) (f : Sem' R) : Sem' R := fun δ => (f δ).bind fun p => match vw p.2 p.1 with
  | some x => match op x with
    | some ro => .ok (ro.r, p.2)
    | none => .stuck
  | _ => .stuck
theorem qu {op : D → Option Ro} {f : Sem' R} {r : V → Hp → VK → Prop} {σ : L2.St} {H : Hp} {Q : VK} (hs : UnS K r op) (h : sE K E cn (vUn op f) σ H Q) : sE K E cn f σ H (fun x H1 => r x H1 Q) := by
  obtain ⟨Z, B, δ, s, p⟩ := h
  refine sG_mono (sub (c0 := ⟨σ, δ, B, H⟩) (c1 := ⟨σ, δ, B, H⟩) s (Ext.refl _) rfl p) fun x H1 ⟨r1, δ1, B1, e1, s1, x1, _, g1, p1⟩ => ?_
  split at p1
  · rename_i a ea
    split at p1
    · rename_i ro er
      exact hs Z B1 H1 a x ro Q s1.same s1.z (vw_ok s1 g1 ea) er (fin s1 x1 p1)
    · exact p1.elim
  · exact p1.elim
theorem qv_un {a : Expr} {op : UnaryOp} {pos : Pos} {r : V → Hp → VK → Prop} {o : D → Option Ro} {f : Sem' R} (ho : UnR X (unaryOp op) r) (hs : UnS X.K r o) (ha : PE X a (sE X.K E cn f)) : PE X (.UnaryOp op a pos) (sE X.K E cn (vUn o f)) :=
  (pe_un ho ha).imp fun _ _ _ h => qu hs h

/-! ### truths -/
def vB (f : Sem' R) : Sem' Bool := fun δ => (f δ).bind fun p => match p.1 with
  | .imm (.bl b) => .ok (b, p.2)
  | _ => .stuck
theorem tb_of {f : Sem' R} {σ : L2.St} {H : Hp} {Q : Bool → Hp → Prop} (h : sT K E cn (vB f) σ H Q) : sE K E cn f σ H (fun x H1 => ∃ c, x = .bl c ∧ Q c H1) := by
  obtain ⟨Z, B, δ, s, p⟩ := h
  refine sG_mono (sub (c0 := ⟨σ, δ, B, H⟩) (c1 := ⟨σ, δ, B, H⟩) s (Ext.refl _) rfl p) fun x H1 ⟨r1, δ1, B1, e1, s1, x1, _, g1, p1⟩ => ?_
  split at p1
  · rename_i b e
    have e : r1 = .imm (.bl b) := e
    subst e
    exact ⟨b, g1, p1 B1 H1 _ s1 x1 rfl⟩
  · exact p1.elim
/-- a test that is an expression that gives a truth -/
theorem qt_val {e : Expr} {f : Sem' R} (h : PE X e (sE X.K E cn f)) (he : ∀ whole, isTrue e X.env whole = (do let v ← whole; standAt e.pos; holding [v] (truthy v)) := by intro _; rfl) : PT X e (sT X.K E cn (vB f)) :=
  (pt_val h he).imp fun _ _ _ h => tb_of h
theorem qt_cmp {a b : Expr} {op : CmpOp} {pos : Pos} {f : Sem' R} (h : PE X (.Compare a [op] [b] pos) (sE X.K E cn f)) (hm : ∀ {t : TE} {Q : Prop}, True) (h1 : PT X (.Compare a [op] [b] pos) (tB (sE X.K E cn f))) : PT X (.Compare a [op] [b] pos) (sT X.K E cn (vB f)) :=
  h1.imp fun _ _ _ h => tb_of h
def vAnd (f g : Sem' Bool) : Sem' Bool := fun δ => (f δ).bind fun p => if p.1 then g p.2 else .ok (false, p.2)
def vOr (f g : Sem' Bool) : Sem' Bool := fun δ => (f δ).bind fun p => if p.1 then .ok (true, p.2) else g p.2
def vNot (f : Sem' Bool) : Sem' Bool := fun δ => (f δ).bind fun p => .ok (!p.1, p.2)
theorem post_rel {α W : Type} {G : (Addr → Prop) → Hp → Cf → α → W → Prop} {f : Sem' α} {Q : W → Hp → Prop} (hw : ∀ H0 H1 c a v, (∀ q, H1 q = none → H0 q = none) → G Z H1 c a v → G Z H0 c a v) (s : S K Z c1) (x : Ext c0 c1) (hs : c1.σ = c0.σ) (p : Post K E cn Z (G Z) c0 (f c1.δ) Q) : sG K E cn G f c1.σ c1.H Q := by
  refine ⟨Z, c1.B, c1.δ, s, ?_⟩
  show Post K E cn Z (G Z) c1 (f c1.δ) _
  cases e : f c1.δ with
  | ok p' =>
    obtain ⟨r, δ'⟩ := p'
    rw [e] at p
    intro B' H' v a b g
    rw [hs] at a b g
    exact p B' H' v a (x.trans b) (hw _ _ _ _ _ x.dom g)
  | raise k =>
    rw [e] at p
    exact fun H' rx => p H' (Rx.of x rx)
  | stuck =>
    rw [e] at p
    exact p
theorem and_of {f g : Sem' Bool} {σ : L2.St} {H : Hp} {Q : Bool → Hp → Prop} (h : sT K E cn (vAnd f g) σ H Q) : tAnd (sT K E cn f) (sT K E cn g) σ H Q := by
  obtain ⟨Z, B, δ, s, p⟩ := h
  refine sG_mono (sub (c0 := ⟨σ, δ, B, H⟩) (c1 := ⟨σ, δ, B, H⟩) s (Ext.refl _) rfl p) fun x H1 ⟨r1, δ1, B1, e1, s1, x1, _, g1, p1⟩ => ?_
  cases g1
  cases x with
  | true => exact post_rel (G := GT K) (c1 := ⟨σ, δ1, B1, H1⟩) (fun _ _ _ _ _ _ h => h) s1 x1 rfl p1
  | false => exact p1 B1 H1 _ s1 x1 rfl
theorem or_of {f g : Sem' Bool} {σ : L2.St} {H : Hp} {Q : Bool → Hp → Prop} (h : sT K E cn (vOr f g) σ H Q) : tOr (sT K E cn f) (sT K E cn g) σ H Q := by
  obtain ⟨Z, B, δ, s, p⟩ := h
  refine sG_mono (sub (c0 := ⟨σ, δ, B, H⟩) (c1 := ⟨σ, δ, B, H⟩) s (Ext.refl _) rfl p) fun x H1 ⟨r1, δ1, B1, e1, s1, x1, _, g1, p1⟩ => ?_
  cases g1
  cases x with
  | true => exact p1 B1 H1 _ s1 x1 rfl
  | false => exact post_rel (G := GT K) (c1 := ⟨σ, δ1, B1, H1⟩) (fun _ _ _ _ _ _ h => h) s1 x1 rfl p1
theorem not_of {f : Sem' Bool} {σ : L2.St} {H : Hp} {Q : Bool → Hp → Prop} (h : sT K E cn (vNot f) σ H Q) : tNot (sT K E cn f) σ H Q := by
  obtain ⟨Z, B, δ, s, p⟩ := h
  refine sG_mono (sub (c0 := ⟨σ, δ, B, H⟩) (c1 := ⟨σ, δ, B, H⟩) s (Ext.refl _) rfl p) fun x H1 ⟨r1, δ1, B1, e1, s1, x1, _, g1, p1⟩ => ?_
  cases g1
  exact p1 B1 H1 _ s1 x1 rfl
theorem qw_and1 {a : Expr} {pos : Pos} {f : Sem' Bool} (ha : PT X a (sT X.K E cn f)) : PW X (.BoolOp .And [a] pos) (sT X.K E cn f) := pw_and1 ha
theorem qw_or1 {a : Expr} {pos : Pos} {f : Sem' Bool} (ha : PT X a (sT X.K E cn f)) : PW X (.BoolOp .Or [a] pos) (sT X.K E cn f) := pw_or1 ha
theorem qw_and {a b : Expr} {rest : List Expr} {pos : Pos} {f g : Sem' Bool} (ha : PT X a (sT X.K E cn f)) (hb : PW X (.BoolOp .And (b :: rest) pos) (sT X.K E cn g)) : PW X (.BoolOp .And (a :: b :: rest) pos) (sT X.K E cn (vAnd f g)) :=
  (pw_and ha hb).imp fun _ _ _ h => and_of h
theorem qw_or {a b : Expr} {rest : List Expr} {pos : Pos} {f g : Sem' Bool} (ha : PT X a (sT X.K E cn f)) (hb : PW X (.BoolOp .Or (b :: rest) pos) (sT X.K E cn g)) : PW X (.BoolOp .Or (a :: b :: rest) pos) (sT X.K E cn (vOr f g)) :=
  (pw_or ha hb).imp fun _ _ _ h => or_of h
theorem qt_not {a : Expr} {pos : Pos} {f : Sem' Bool} (ha : PT X a (sT X.K E cn f)) : PT X (.UnaryOp .Not a pos) (sT X.K E cn (vNot f)) := (pt_not ha).imp fun _ _ _ h => not_of h
/-- the same as values -/
def vV (f : Sem' Bool) : Sem' R := fun δ => (f δ).bind fun p => .ok (.imm (.bl p.1), p.2)
theorem bind_bind {α β γ : Type} (m : Res α) (k : α → Res β) (l : β → Res γ) : (m.bind k).bind l = m.bind fun a => (k a).bind l := by
  cases m <;> rfl
theorem vV_post {f : Sem' Bool} {δ : Env'} {Q : VK} (p : Post K E cn Z (RR K Z) c0 (vV f δ) Q) : Post K E cn Z (GT K Z) c0 (f δ) (fun b H => Q (.bl b) H) := by
  unfold vV at p
  cases e : f δ with
  | ok p' =>
    rw [e] at p
    exact fun B' H' v a b g => p B' H' _ a b (by rw [← show p'.1 = v from g]; exact rfl)
  | raise k =>
    rw [e] at p
    exact p
  | stuck =>
    rw [e] at p
    exact p
/-- a value that is a truth, told by a test's words -/
def sV (K : PySem.W.Frag) (E : XK) (cn : Nat → Value) (f : Sem' Bool) : TE := fun σ H Q => sT K E cn f σ H fun b H' => Q (.bl b) H'
theorem sV_of {f : Sem' Bool} {σ : L2.St} {H : Hp} {Q : VK} (h : sE K E cn (vV f) σ H Q) : sV K E cn f σ H Q := by
  obtain ⟨Z, B, δ, s, p⟩ := h
  exact ⟨Z, B, δ, s, vV_post p⟩
theorem qb_val {e : Expr} {f : Sem' R} (h : PE X e (sE X.K E cn f)) : PE X e (sV X.K E cn (vB f)) := h.imp fun σ H Q h => by
  have h1 : sE X.K E cn f σ H (fun x H1 => ∃ c, x = .bl c ∧ Q (.bl c) H1) := tb_of h
  exact sG_mono h1 fun v H' ⟨c, e, q⟩ => by rw [e]; exact q
theorem qb_one {a : Expr} {op} {pos : Pos} {f : Sem' Bool} (ha : PE X a (sV X.K E cn f)) : PE X (.BoolOp op [a] pos) (sV X.K E cn f) := pe_one ha
theorem qb_and {a b : Expr} {rest : List Expr} {pos : Pos} {f g : Sem' Bool} (ha : PE X a (sV X.K E cn f)) (hb : PE X (.BoolOp .And (b :: rest) pos) (sV X.K E cn g)) : PE X (.BoolOp .And (a :: b :: rest) pos) (sV X.K E cn (vAnd f g)) :=
  (pe_and ha hb).imp fun σ H Q h => by
    have h1 : tAnd (sT X.K E cn f) (sT X.K E cn g) σ H (fun b H' => Q (.bl b) H') := and_of h
    refine sG_mono h1 fun c H' q => ⟨c, rfl, ?_⟩
    cases c with
    | true => exact q
    | false => exact q
theorem qb_or {a b : Expr} {rest : List Expr} {pos : Pos} {f g : Sem' Bool} (ha : PE X a (sV X.K E cn f)) (hb : PE X (.BoolOp .Or (b :: rest) pos) (sV X.K E cn g)) : PE X (.BoolOp .Or (a :: b :: rest) pos) (sV X.K E cn (vOr f g)) :=
  (pe_or ha hb).imp fun σ H Q h => by
    have h1 : tOr (sT X.K E cn f) (sT X.K E cn g) σ H (fun b H' => Q (.bl b) H') := or_of h
    refine sG_mono h1 fun c H' q => ⟨c, rfl, ?_⟩
    cases c with
    | true => exact q
    | false => exact q
theorem qb_not {a : Expr} {pos : Pos} {f : Sem' Bool} (ha : PE X a (sV X.K E cn f)) : PE X (.UnaryOp .Not a pos) (sV X.K E cn (vNot f)) :=
  (pe_not ha).imp fun σ H Q h => by
    have h1 : tNot (sT X.K E cn f) σ H (fun b H' => Q (.bl b) H') := not_of h
    exact sG_mono h1 fun c H' q => ⟨c, rfl, q⟩
theorem qv_b {e : Expr} {f : Sem' Bool} (h : PE X e (sV X.K E cn f)) : PE X e (sE X.K E cn (vV f)) := h.imp fun _ _ _ h => sV_of h
/-- a if t else b -/
def vIf (t : Sem' Bool) (f g : Sem' R) : Sem' R := fun δ => (t δ).bind fun p => if p.1 then f p.2 else g p.2
theorem qv_if {c a b : Expr} {pos : Pos} {t : Sem' Bool} {f g : Sem' R} (hc : PT X c (sT X.K E cn t)) (ha : PE X a (sE X.K E cn f)) (hb : PE X b (sE X.K E cn g)) : PE X (.IfExp c a b pos) (sE X.K E cn (vIf t f g)) :=
  (pe_ifExp hc ha hb).imp fun σ H Q ⟨Z, B, δ, s, p⟩ => by
    refine sG_mono (sub (c0 := ⟨σ, δ, B, H⟩) (c1 := ⟨σ, δ, B, H⟩) s (Ext.refl _) rfl p) fun x H1 ⟨r1, δ1, B1, e1, s1, x1, _, g1, p1⟩ => ?_
    cases g1
    cases x with
    | true => exact post_rel (G := fun Z => RR X.K Z) (c1 := ⟨σ, δ1, B1, H1⟩) (fun _ _ _ _ _ w h => h.weak w) s1 x1 rfl p1
    | false => exact post_rel (G := fun Z => RR X.K Z) (c1 := ⟨σ, δ1, B1, H1⟩) (fun _ _ _ _ _ w h => h.weak w) s1 x1 rfl p1

/-! ### lists of arguments; displays -/
def aNil : Sem' (List R) := fun δ => .ok ([], δ)
def aCons (f : Sem' R) (g : Sem' (List R)) : Sem' (List R) := fun δ => (f δ).bind fun p => (g p.2).bind fun q => .ok (p.1 :: q.1, q.2)
theorem qa_nil : PA X [] (sA X.K E cn aNil) := pa_nil.imp fun σ H Q ⟨Z, B, δ, s, p⟩ => p B H [] s (Ext.refl _) rfl
theorem qa_cons {e : Expr} {es : List Expr} {f : Sem' R} {g : Sem' (List R)} (ha : PE X e (sE X.K E cn f)) (hr : PA X es (sA X.K E cn g)) (hs : starEach (e :: es) X.env = (false, eval e X.env) :: starEach es X.env := by rfl) : PA X (e :: es) (sA X.K E cn (aCons f g)) :=
  (pa_cons ha hr hs).imp fun σ H Q ⟨Z, B, δ, s, p⟩ => by
    refine sG_mono (sub (c0 := ⟨σ, δ, B, H⟩) (c1 := ⟨σ, δ, B, H⟩) s (Ext.refl _) rfl p) fun x H1 ⟨r1, δ1, B1, e1, s1, x1, _, g1, p1⟩ => ?_
    refine sG_mono (sub (c0 := ⟨σ, δ, B, H⟩) (c1 := ⟨σ, δ1, B1, H1⟩) s1 x1 rfl p1) fun y H2 ⟨r2, δ2, B2, e2, s2, x2, x12, g2, p2⟩ => ?_
    exact p2 B2 H2 (x :: y) s2 x2 ⟨x, y, rfl, g1.on x12 rfl, RRs.weak g2 x1.dom⟩
/-- stored -/
def vI (f : Sem' R) : Sem' D := fun δ => (f δ).bind fun p => match st p.2 p.1 with
  | some q => .ok q
  | none => .stuck
theorem sI_of {f : Sem' R} {σ : L2.St} {H : Hp} {Q : VK} (h : sI K E cn (vI f) σ H Q) : sE K E cn f σ H Q := by
  obtain ⟨Z, B, δ, s, p⟩ := h
  refine sG_mono (sub (c0 := ⟨σ, δ, B, H⟩) (c1 := ⟨σ, δ, B, H⟩) s (Ext.refl _) rfl p) fun x H1 ⟨r1, δ1, B1, e1, s1, x1, _, g1, p1⟩ => ?_
  cases h : st δ1 r1 with
  | none =>
    simp only [h] at p1
    exact p1.elim
  | some q =>
    simp only [h] at p1
    obtain ⟨d, δ'⟩ := q
    obtain ⟨B', s', x', r'⟩ := st_ok (c0 := ⟨σ, δ, B, H⟩) x1 rfl s1 g1 h
    exact p1 B' H1 x s' x' r'
theorem qi {e : Expr} {f : Sem' R} (h : PE X e (sE X.K E cn f)) : PE X e (sI X.K E cn (vI f)) := h.imp fun _ _ _ h => sI_of h
def iNil : Sem' (List D) := fun δ => .ok ([], δ)
def iCons (f : Sem' D) (g : Sem' (List D)) : Sem' (List D) := fun δ => (f δ).bind fun p => (g p.2).bind fun q => .ok (p.1 :: q.1, q.2)
theorem qi_nil : PA X [] (sAI X.K E cn iNil) := pa_nil.imp fun σ H Q ⟨Z, B, δ, s, p⟩ => p B H [] s (Ext.refl _) rfl
theorem qi_cons {e : Expr} {es : List Expr} {f : Sem' D} {g : Sem' (List D)} (ha : PE X e (sI X.K E cn f)) (hr : PA X es (sAI X.K E cn g)) (hs : starEach (e :: es) X.env = (false, eval e X.env) :: starEach es X.env := by rfl) : PA X (e :: es) (sAI X.K E cn (iCons f g)) :=
  (pa_cons ha hr hs).imp fun σ H Q ⟨Z, B, δ, s, p⟩ => by
    refine sG_mono (sub (G := GD X.K) (c0 := ⟨σ, δ, B, H⟩) (c1 := ⟨σ, δ, B, H⟩) s (Ext.refl _) rfl p) fun x H1 ⟨r1, δ1, B1, e1, s1, x1, _, g1, p1⟩ => ?_
    refine sG_mono (sub (G := GDs X.K) (c0 := ⟨σ, δ, B, H⟩) (c1 := ⟨σ, δ1, B1, H1⟩) s1 x1 rfl p1) fun y H2 ⟨r2, δ2, B2, e2, s2, x2, x12, g2, p2⟩ => ?_
    exact p2 B2 H2 (x :: y) s2 x2 ⟨x, y, rfl, rep_mono x12.same _ _ g1, g2⟩
def vTup (f : Sem' (List D)) : Sem' R := fun δ => (f δ).bind fun p => if p.1.length ≤ 1000 then .ok (.imm (.tup p.1), p.2) else .stuck
def vLst (f : Sem' (List D)) : Sem' R := fun δ => (f δ).bind fun p => if p.1.length ≤ 1000 then .ok (.frs (.lst p.1), p.2) else .stuck
theorem size1000 {n : Nat} (h : n ≤ 1000) : n ≤ sizeLine := Nat.le_of_lt (small1000 h)
theorem qv_tup {es : List Expr} {x1} {pos : Pos} {f : Sem' (List D)} (h : PA X es (sAI X.K E cn f)) : PE X (.Tuple es x1 pos) (sE X.K E cn (vTup f)) :=
  (pe_tup h).imp fun σ H Q ⟨Z, B, δ, s, p⟩ => by
    refine sG_mono (sub (G := GDs X.K) (c0 := ⟨σ, δ, B, H⟩) (c1 := ⟨σ, δ, B, H⟩) s (Ext.refl _) rfl p) fun x H1 ⟨r1, δ1, B1, e1, s1, x1, _, g1, p1⟩ => ?_
    split at p1
    · rename_i hl
      exact ⟨by rw [reps_len g1]; exact size1000 hl, fun a ha => fin (ro := .tup r1) s1 x1 p1 a x ha g1⟩
    · exact p1.elim
theorem qv_lst {es : List Expr} {pos : Pos} {f : Sem' (List D)} (h : PA X es (sAI X.K E cn f)) : PE X (.List es pos) (sE X.K E cn (vLst f)) :=
  (pe_lst h).imp fun σ H Q ⟨Z, B, δ, s, p⟩ => by
    refine sG_mono (sub (G := GDs X.K) (c0 := ⟨σ, δ, B, H⟩) (c1 := ⟨σ, δ, B, H⟩) s (Ext.refl _) rfl p) fun x H1 ⟨r1, δ1, B1, e1, s1, x1, _, g1, p1⟩ => ?_
    split at p1
    · rename_i hl
      exact ⟨by rw [reps_len g1]; exact size1000 hl, fun a ha => fin (ro := .lst r1) s1 x1 p1 a x ha g1⟩
    · exact p1.elim

/-! ### built-ins called by values -/
def repTs (K : PySem.W.Frag) (Z : Addr → Prop) (B H : Hp) : List D → List V → Prop
  | [], vs => vs = []
  | d :: ds, vs => ∃ v r, vs = v :: r ∧ repT K Z B H d v ∧ repTs K Z B H ds r
def vws (δ : Env') : List R → Option (List D)
  | [] => some []
  | r :: rs => match vw δ r, vws δ rs with
    | some d, some ds => some (d :: ds)
    | _, _ => none
theorem vws_ok (s : S K Z c) : ∀ {rs : List R} {vs : List V} {ds : List D}, RRs K Z H0 c rs vs → vws c.δ rs = some ds → repTs K Z c.B c.H ds vs
  | [], _, _, h, e => by
    cases e
    exact h
  | r :: rs, _, _, ⟨v, t, e1, h, u⟩, e => by
    simp only [vws] at e
    split at e
    · rename_i d ds' ed eds
      cases e
      exact ⟨v, t, e1, vw_ok s h ed, vws_ok s u eds⟩
    · cases e
def CaS (K : PySem.W.Frag) (r : List V → Hp → VK → Prop) (f : List D → Option Ro) : Prop := ∀ Z B H xs vs ro (Q : VK), Same B H → (∀ a, H a = none → Z a) → repTs K Z B H xs vs → f xs = some ro → Fin K Z B H ro Q → r vs H Q
def vCB (f : List D → Option Ro) (g : Sem' (List R)) : Sem' R := fun δ => (g δ).bind fun p => match vws p.2 p.1 with
  | some xs => match f xs with
    | some ro => .ok (ro.r, p.2)
    | none => .stuck
  | none => .stuck
theorem qcb {f : List D → Option Ro} {g : Sem' (List R)} {r : List V → Hp → VK → Prop} {σ : L2.St} {H : Hp} {Q : VK} (hs : CaS K r f) (h : sE K E cn (vCB f g) σ H Q) : tCB r (sA K E cn g) σ H Q := by
  obtain ⟨Z, B, δ, s, p⟩ := h
  refine sG_mono (sub (G := RRs K) (c0 := ⟨σ, δ, B, H⟩) (c1 := ⟨σ, δ, B, H⟩) s (Ext.refl _) rfl p) fun x H1 ⟨r1, δ1, B1, e1, s1, x1, _, g1, p1⟩ => ?_
  split at p1
  · rename_i a ea
    split at p1
    · rename_i ro er
      exact hs Z B1 H1 a x ro Q s1.same s1.z (vws_ok s1 g1 ea) er (fin s1 x1 p1)
    · exact p1.elim
  · exact p1.elim
/-- a built-in's method, by the receiver's and the arguments' values -/
def MtS (K : PySem.W.Frag) (T : String) (r : V → List V → Hp → VK → Prop) (f : D → List D → Option Ro) : Prop := ∀ Z B H x v, Same B H → (∀ a, H a = none → Z a) → repT K Z B H x v → (∃ xs ro, f x xs = some ro) → tyV K T v H
def MtS2 (K : PySem.W.Frag) (r : V → List V → Hp → VK → Prop) (f : D → List D → Option Ro) : Prop := ∀ Z B H x v xs vs ro (Q : VK), Same B H → (∀ a, H a = none → Z a) → repT K Z B H x v → repTs K Z B H xs vs → f x xs = some ro → Fin K Z B H ro Q → r v vs H Q
end
end VI

set_option Elab.async false
set_option linter.all false
set_option maxRecDepth 100000
set_option maxHeartbeats 4000000
/-! Statements. -/
namespace VI
open PySem PySem.Spec PyProof.Rows L2
inductive Out where
  | next (δ : Env') | brk (δ : Env') | cont (δ : Env') | ret (r : R) (δ : Env') | raise (c : Nat) | stuck
abbrev SemS := Env' → Out
def PostS (K : PySem.W.Frag) (E : XK) (cn : Nat → Value) (Z : Addr → Prop) (c0 : Cf) (m : Out) (D : Ends) : Prop := match m with
  | .next δ' => ∀ σ' B' H', S K Z ⟨σ', δ', B', H'⟩ → Ext c0 ⟨σ', δ', B', H'⟩ → D.nx σ' H'
  | .brk δ' => ∀ σ' B' H', S K Z ⟨σ', δ', B', H'⟩ → Ext c0 ⟨σ', δ', B', H'⟩ → D.bk σ' H'
  | .cont δ' => ∀ σ' B' H', S K Z ⟨σ', δ', B', H'⟩ → Ext c0 ⟨σ', δ', B', H'⟩ → D.ct σ' H'
  | .ret r δ' => ∀ σ' B' H' v, S K Z ⟨σ', δ', B', H'⟩ → Ext c0 ⟨σ', δ', B', H'⟩ → RR K Z c0.H ⟨σ', δ', B', H'⟩ r v → D.rt v H'
  | .raise k => ∀ H', Rx c0 H' → E (cn k) Option.none H'
  | .stuck => False
def sS (K : PySem.W.Frag) (E : XK) (cn : Nat → Value) (t : SemS) : TS := fun D σ H => ∃ (Z : Addr → Prop) (B : Hp) (δ : Env'), S K Z ⟨σ, δ, B, H⟩ ∧ PostS K E cn Z ⟨σ, δ, B, H⟩ (t δ) D
/-- an expression, then what comes -/
def Res.out {α : Type} (m : Res α) (k : α → Out) : Out := match m with
  | .ok a => k a
  | .raise c => .raise c
  | .stuck => .stuck
section
variable {K : PySem.W.Frag} {E : XK} {cn : Nat → Value} {Z : Addr → Prop} {H0 H1 : Hp} {c c0 c1 c' : Cf} {X : Cx}
theorem subE {α W : Type} {G : (Addr → Prop) → Hp → Cf → α → W → Prop} {f : Sem' α} {k : α × Env' → Out} {D : Ends} (s : S K Z c1) (x : Ext c0 c1) (p : PostS K E cn Z c0 ((f c1.δ).out k) D) :
    sG K E cn G f c1.σ c1.H (fun v H' => ∃ r δ' B', f c1.δ = .ok (r, δ') ∧ S K Z ⟨c1.σ, δ', B', H'⟩ ∧ Ext c0 ⟨c1.σ, δ', B', H'⟩ ∧ Ext c1 ⟨c1.σ, δ', B', H'⟩ ∧ G Z c1.H ⟨c1.σ, δ', B', H'⟩ r v ∧ PostS K E cn Z c0 (k (r, δ')) D) := by
  refine ⟨Z, c1.B, c1.δ, s, ?_⟩
  show Post K E cn Z (G Z) c1 (f c1.δ) _
  cases e : f c1.δ with
  | ok p' =>
    obtain ⟨r, δ'⟩ := p'
    rw [e] at p
    intro B' H' v a b g
    exact ⟨r, δ', B', rfl, a, x.trans b, b, g, p⟩
  | raise k =>
    rw [e] at p
    exact fun H' rx => p H' (Rx.of x rx)
  | stuck =>
    rw [e] at p
    exact p
theorem postS_rel {t : SemS} {D : Ends} (s : S K Z c1) (x : Ext c0 c1) (p : PostS K E cn Z c0 (t c1.δ) D) : sS K E cn t D c1.σ c1.H := by
  refine ⟨Z, c1.B, c1.δ, s, ?_⟩
  show PostS K E cn Z c1 (t c1.δ) D
  cases e : t c1.δ with
  | next δ' => rw [e] at p; exact fun σ' B' H' a b => p σ' B' H' a (x.trans b)
  | brk δ' => rw [e] at p; exact fun σ' B' H' a b => p σ' B' H' a (x.trans b)
  | cont δ' => rw [e] at p; exact fun σ' B' H' a b => p σ' B' H' a (x.trans b)
  | ret r δ' => rw [e] at p; exact fun σ' B' H' v a b g => p σ' B' H' v a (x.trans b) (g.weak x.dom)
  | raise k => rw [e] at p; exact fun H' rx => p H' (Rx.of x rx)
  | stuck => rw [e] at p; exact p
theorem sS_mono {t : SemS} {D D' : Ends} {σ : L2.St} {H : Hp} (h : sS K E cn t D σ H) (h1 : ∀ σ H, D.nx σ H → D'.nx σ H) (h2 : ∀ σ H, D.bk σ H → D'.bk σ H) (h3 : ∀ σ H, D.ct σ H → D'.ct σ H) (h4 : ∀ v H, D.rt v H → D'.rt v H) : sS K E cn t D' σ H := by
  obtain ⟨Z, B, δ, s, p⟩ := h
  refine ⟨Z, B, δ, s, ?_⟩
  cases e : t δ with
  | next δ' => rw [e] at p; exact fun σ' B' H' a b => h1 _ _ (p σ' B' H' a b)
  | brk δ' => rw [e] at p; exact fun σ' B' H' a b => h2 _ _ (p σ' B' H' a b)
  | cont δ' => rw [e] at p; exact fun σ' B' H' a b => h3 _ _ (p σ' B' H' a b)
  | ret r δ' => rw [e] at p; exact fun σ' B' H' v a b g => h4 _ _ (p σ' B' H' v a b g)
  | raise k => rw [e] at p; exact p
  | stuck => rw [e] at p; exact p
theorem _root_.L2.PS.imp {e : Stmt} {t t' : TS} (h : PS X e t) (q : ∀ σ H D, t' D σ H → t D σ H) : PS X e t' := ⟨fun pins s σ H D I hw => h.run pins s σ H D I (q σ H D hw)⟩
theorem _root_.L2.PSs.imp {e : List Stmt} {t t' : TS} (h : PSs X e t) (q : ∀ σ H D, t' D σ H → t D σ H) : PSs X e t' := ⟨fun pins s σ H D I hw => h.run pins s σ H D I (q σ H D hw)⟩

/-! ### blocks -/
def vNext : SemS := fun δ => .next δ
def vSeq (t u : SemS) : SemS := fun δ => match t δ with
  | .next δ' => u δ'
  | o => o
theorem qs_nil : PSs X [] (sS X.K E cn vNext) := pss_nil.imp fun σ H D ⟨Z, B, δ, s, p⟩ => p σ B H s (Ext.refl _)
theorem qs_cons {st : Stmt} {rest : List Stmt} {t u : SemS} (h1 : PS X st (sS X.K E cn t)) (h2 : PSs X rest (sS X.K E cn u)) : PSs X (st :: rest) (sS X.K E cn (vSeq t u)) :=
  (pss_cons h1 h2).imp fun σ H D ⟨Z, B, δ, s, p⟩ => by
    refine ⟨Z, B, δ, s, ?_⟩
    unfold vSeq at p
    cases e : t δ with
    | next δ' => rw [e] at p; exact fun σ' B' H' a b => postS_rel (c1 := ⟨σ', δ', B', H'⟩) a b p
    | brk δ' => rw [e] at p; exact p
    | cont δ' => rw [e] at p; exact p
    | ret r δ' => rw [e] at p; exact p
    | raise k => rw [e] at p; exact p
    | stuck => rw [e] at p; exact p
theorem qs_one {st : Stmt} {t : SemS} (h1 : PS X st (sS X.K E cn t)) : PSs X [st] (sS X.K E cn t) := pss_one h1
theorem qp_pass {pos} : PS X (.Pass pos) (sS X.K E cn vNext) := ps_pass.imp fun σ H D ⟨Z, B, δ, s, p⟩ => p σ B H s (Ext.refl _)
def vBrk : SemS := fun δ => .brk δ
def vCont : SemS := fun δ => .cont δ
theorem qp_brk {pos} : PS X (.Break pos) (sS X.K E cn vBrk) := ps_break.imp fun σ H D ⟨Z, B, δ, s, p⟩ => p σ B H s (Ext.refl _)
theorem qp_cont {pos} : PS X (.Continue pos) (sS X.K E cn vCont) := ps_continue.imp fun σ H D ⟨Z, B, δ, s, p⟩ => p σ B H s (Ext.refl _)
def vDrop (f : Sem' R) : SemS := fun δ => (f δ).out fun p => .next p.2
theorem qp_expr {e : Expr} {pos : Pos} {f : Sem' R} (he : PE X e (sE X.K E cn f)) (hs : swapsWith e none pos.line X.env = pure false := by rfl) : PS X (.Expr e pos) (sS X.K E cn (vDrop f)) :=
  (ps_expr he hs).imp fun σ H D ⟨Z, B, δ, s, p⟩ => by
    refine sG_mono (subE (G := fun Z => RR X.K Z) (c0 := ⟨σ, δ, B, H⟩) (c1 := ⟨σ, δ, B, H⟩) s (Ext.refl _) p) fun x H1 ⟨r1, δ1, B1, e1, s1, x1, _, g1, p1⟩ => ?_
    exact p1 σ B1 H1 s1 x1
def vRet (f : Sem' R) : SemS := fun δ => (f δ).out fun p => .ret p.1 p.2
theorem qp_ret {e : Expr} {pos : Pos} {f : Sem' R} (he : PE X e (sE X.K E cn f)) : PS X (.Return (some e) pos) (sS X.K E cn (vRet f)) :=
  (ps_ret he).imp fun σ H D ⟨Z, B, δ, s, p⟩ => by
    refine sG_mono (subE (G := fun Z => RR X.K Z) (c0 := ⟨σ, δ, B, H⟩) (c1 := ⟨σ, δ, B, H⟩) s (Ext.refl _) p) fun x H1 ⟨r1, δ1, B1, e1, s1, x1, _, g1, p1⟩ => ?_
    exact p1 σ B1 H1 x s1 x1 g1
def vRetN : SemS := fun δ => .ret (.imm .non) δ
theorem qp_retN {pos : Pos} : PS X (.Return none pos) (sS X.K E cn vRetN) := ps_retN.imp fun σ H D ⟨Z, B, δ, s, p⟩ => p σ B H .non s (Ext.refl _) rfl
def vIfS (t : Sem' Bool) (a b : SemS) : SemS := fun δ => (t δ).out fun p => if p.1 then a p.2 else b p.2
theorem qp_if {c : Expr} {a b : List Stmt} {pos : Pos} {t : Sem' Bool} {u w : SemS} (hc : PT X c (sT X.K E cn t)) (ha : PSs X a (sS X.K E cn u)) (hb : PSs X b (sS X.K E cn w)) : PS X (.If c a b pos) (sS X.K E cn (vIfS t u w)) :=
  (ps_if hc ha hb).imp fun σ H D ⟨Z, B, δ, s, p⟩ => by
    refine sG_mono (subE (G := GT X.K) (c0 := ⟨σ, δ, B, H⟩) (c1 := ⟨σ, δ, B, H⟩) s (Ext.refl _) p) fun x H1 ⟨r1, δ1, B1, e1, s1, x1, _, g1, p1⟩ => ?_
    cases g1
    cases x with
    | true => exact postS_rel (c1 := ⟨σ, δ1, B1, H1⟩) s1 x1 p1
    | false => exact postS_rel (c1 := ⟨σ, δ1, B1, H1⟩) s1 x1 p1

/-! ### stores to names -/
def free' (δ : Env') (i : Nat) : Bool := match δ[i]? with
  | some s => !pinned s
  | none => false
def setI (δ : Env') (i : Nat) (d : D) : Option Env' := if free' δ i then some (δ.set i (.imm d false)) else none
theorem free_ok {δ : Env'} {i : Nat} (h : free' δ i = true) : ∃ s, δ[i]? = some s ∧ pinned s = false := by
  unfold free' at h
  split at h
  · rename_i s e
    exact ⟨s, e, by simpa using h⟩
  · cases h
theorem get_set_ne {α : Type} {l : List α} {i j : Nat} {x : α} (h : i ≠ j) : (l.set i x)[j]? = l[j]? := List.getElem?_set_ne h
theorem S.setI {i : Nat} {d : D} {v : V} {δ' : Env'} (s : S K Z c) (h : setI c.δ i d = some δ') (r : rep K Z c.B d v) : S K Z ⟨c.σ.set i (some v), δ', c.B, c.H⟩ ∧ Ext c ⟨c.σ.set i (some v), δ', c.B, c.H⟩ := by
  unfold VI.setI at h
  split at h
  · rename_i hf
    cases h
    obtain ⟨s0, h0, hp0⟩ := free_ok hf
    have hil : i < c.δ.length := (List.getElem?_eq_some_iff.mp h0).1
    have hsl : i < c.σ.length := by rw [s.len]; exact hil
    have low : ∀ (a : Addr) (j : Nat) (o : O) (b : Bool), (c.δ.set i (Slot.imm d false))[j]? = some (Slot.own o b) → (c.σ.set i (some v))[j]? = some (some (V.ref a)) → c.δ[j]? = some (Slot.own o b) ∧ c.σ[j]? = some (some (V.ref a)) ∧ i ≠ j := fun a j o b h1 h2 => by
      rcases get_set h1 with ⟨_, h⟩ | ⟨ne, h⟩
      · cases h
      · rw [get_set_ne ne] at h2
        exact ⟨h, h2, ne⟩
    refine ⟨⟨s.same, by show (c.σ.set i _).length = (c.δ.set i _).length; rw [List.length_set, List.length_set]; exact s.len, s.z, fun j sl hj => ?_, fun j k o o' b b' a h1 h2 h3 h4 => ?_⟩, ⟨fun _ _ h => h, fun _ h => h, fun q u h1 h2 h3 => ⟨h1, h2, fun ⟨j, o, b, g1, g2⟩ => ?_⟩, fun j sl hj pj => ?_, fun a ⟨j, o, g1, g2⟩ => ?_⟩⟩
    · rcases get_set hj with ⟨rfl, rfl⟩ | ⟨ne, hj'⟩
      · exact ⟨v, List.getElem?_set_self hsl, r⟩
      · have := s.slot j sl hj'
        show SlotOk K Z c.B c.H ((c.σ.set i (some v))[j]?) sl
        rw [get_set_ne ne]
        exact this
    · obtain ⟨a1, a2, _⟩ := low a j o b h1 h3
      obtain ⟨b1, b2, _⟩ := low a k o' b' h2 h4
      exact s.dis j k o o' b b' a a1 b1 a2 b2
    · obtain ⟨a1, a2, _⟩ := low q j o b g1 g2
      exact h3 ⟨j, o, b, a1, a2⟩
    · have ne : i ≠ j := by
        rintro rfl
        rw [h0] at hj
        cases hj
        rw [hp0] at pj
        cases pj
      exact ⟨get_set_ne ne, sl, by show (c.δ.set i _)[j]? = _; rw [get_set_ne ne]; exact hj, pj⟩
    · obtain ⟨a1, a2, _⟩ := low a j o false g1 g2
      exact .inr ⟨j, o, a1, a2⟩
  · cases h
theorem S.setO {i : Nat} {o : O} {v : V} (x : Ext c0 c) (s : S K Z c) (hf : free' c.δ i = true) (r : RR K Z c0.H c (.frs o) v) : S K Z ⟨c.σ.set i (some v), c.δ.set i (.own o false), c.B, c.H⟩ ∧ Ext c0 ⟨c.σ.set i (some v), c.δ.set i (.own o false), c.B, c.H⟩ := by
  obtain ⟨p, rfl, zp, bp, h0, ho, no⟩ := r
  obtain ⟨s0, hs0, hp0⟩ := free_ok hf
  have hil : i < c.δ.length := (List.getElem?_eq_some_iff.mp hs0).1
  have hsl : i < c.σ.length := by rw [s.len]; exact hil
  have low : ∀ (a : Addr) (j : Nat) (o' : O) (b : Bool), (c.δ.set i (Slot.own o false))[j]? = some (Slot.own o' b) → (c.σ.set i (some (V.ref p)))[j]? = some (some (V.ref a)) → (i = j ∧ a = p) ∨ (i ≠ j ∧ c.δ[j]? = some (Slot.own o' b) ∧ c.σ[j]? = some (some (V.ref a))) := fun a j o' b h1 h2 => by
    rcases get_set h1 with ⟨rfl, h⟩ | ⟨ne, h⟩
    · rw [List.getElem?_set_self hsl] at h2
      cases h2
      exact .inl ⟨rfl, rfl⟩
    · rw [get_set_ne ne] at h2
      exact .inr ⟨ne, h, h2⟩
  refine ⟨⟨s.same, by show (c.σ.set i _).length = (c.δ.set i _).length; rw [List.length_set, List.length_set]; exact s.len, s.z, fun j sl hj => ?_, fun j k o1 o2 b b' a h1 h2 h3 h4 => ?_⟩, ⟨x.same, x.dom, fun q u h1 h2 h3 => ?_, fun j sl hj pj => ?_, fun a ⟨j, o', g1, g2⟩ => ?_⟩⟩
  · rcases get_set hj with ⟨rfl, rfl⟩ | ⟨ne, hj'⟩
    · exact ⟨p, List.getElem?_set_self hsl, zp, bp, ho⟩
    · have := s.slot j sl hj'
      show SlotOk K Z c.B c.H ((c.σ.set i (some (V.ref p)))[j]?) sl
      rw [get_set_ne ne]
      exact this
  · rcases low a j o1 b h1 h3 with ⟨e1, e2⟩ | ⟨n1, a1, a2⟩
    · rcases low a k o2 b' h2 h4 with ⟨e3, e4⟩ | ⟨n2, b1, b2⟩
      · exact e1.symm.trans e3
      · exact (no ⟨k, o2, b', b1, by rw [← e2]; exact b2⟩).elim
    · rcases low a k o2 b' h2 h4 with ⟨e3, e4⟩ | ⟨n2, b1, b2⟩
      · exact (no ⟨j, o1, b, a1, by rw [← e4]; exact a2⟩).elim
      · exact s.dis j k o1 o2 b b' a a1 b1 a2 b2
  · obtain ⟨g1, g2, g3⟩ := x.fr q u h1 h2 h3
    refine ⟨g1, g2, fun ⟨j, o', b, k1, k2⟩ => ?_⟩
    rcases low q j o' b k1 k2 with ⟨_, e⟩ | ⟨_, a1, a2⟩
    · rw [e, h0] at h1
      cases h1
    · exact g3 ⟨j, o', b, a1, a2⟩
  · obtain ⟨e2, s2, h2, p2⟩ := x.pin j sl hj pj
    have ne : i ≠ j := by
      rintro rfl
      rw [hs0] at h2
      cases h2
      rw [hp0] at p2
      cases p2
    refine ⟨?_, s2, ?_, p2⟩
    · show (c.σ.set i (some (V.ref p)))[j]? = _
      rw [get_set_ne ne]
      exact e2
    · show (c.δ.set i _)[j]? = _
      rw [get_set_ne ne]
      exact h2
  · rcases low a j o' false g1 g2 with ⟨_, e⟩ | ⟨_, a1, a2⟩
    · exact .inl (by rw [e]; exact h0)
    · exact x.src a ⟨j, o', a1, a2⟩
/-- a result is given to a name -/
def setR (δ : Env') (i : Nat) : R → Option Env'
  | .frs o => if free' δ i then some (δ.set i (.own o false)) else none
  | r => match st δ r with
    | some (d, δ') => setI δ' i d
    | none => none
theorem setR_ok {i : Nat} {r : R} {v : V} {δ' : Env'} (x : Ext c0 c) (hs : c.σ = c0.σ) (s : S K Z c) (g : RR K Z c0.H c r v) (h : setR c.δ i r = some δ') : ∃ B', S K Z ⟨c.σ.set i (some v), δ', B', c.H⟩ ∧ Ext c0 ⟨c.σ.set i (some v), δ', B', c.H⟩ := by
  have other : ∀ {d δ1}, st c.δ r = some (d, δ1) → VI.setI δ1 i d = some δ' → ∃ B', S K Z ⟨c.σ.set i (some v), δ', B', c.H⟩ ∧ Ext c0 ⟨c.σ.set i (some v), δ', B', c.H⟩ := fun {d δ1} e1 e2 => by
    obtain ⟨B', s', x', r'⟩ := st_ok x hs s g e1
    obtain ⟨s2, x2⟩ := S.setI (c := ⟨c.σ, δ1, B', c.H⟩) s' e2 r'
    exact ⟨B', s2, x'.trans x2⟩
  cases r with
  | frs o =>
    simp only [setR] at h
    split at h
    · rename_i hf
      cases h
      obtain ⟨a, b⟩ := S.setO x s hf g
      exact ⟨_, a, b⟩
    · cases h
  | imm d =>
    simp only [setR] at h
    split at h
    · rename_i e1
      exact other e1 h
    · cases h
  | pl j =>
    simp only [setR] at h
    split at h
    · rename_i e1
      exact other e1 h
    · cases h
def vAsg (i : Nat) (f : Sem' R) : SemS := fun δ => (f δ).out fun p => match setR p.2 i p.1 with
  | some δ' => .next δ'
  | none => .stuck
theorem asg_of {st : Stmt} {te : TE} {i : Nat} {f : Sem' R} (h : PS X st (tAsg te (gName i))) (hq : ∀ σ H Q, sE X.K E cn f σ H Q → te σ H Q) : PS X st (sS X.K E cn (vAsg i f)) :=
  h.imp fun σ H D ⟨Z, B, δ, s, p⟩ => by
    refine hq σ H _ (sG_mono (subE (G := fun Z => RR X.K Z) (c0 := ⟨σ, δ, B, H⟩) (c1 := ⟨σ, δ, B, H⟩) s (Ext.refl _) p) fun x H1 ⟨r1, δ1, B1, e1, s1, x1, _, g1, p1⟩ => ?_)
    cases e : setR δ1 i r1 with
    | none =>
      simp only [e] at p1
      exact p1.elim
    | some δ' =>
      simp only [e] at p1
      obtain ⟨B', s2, x2⟩ := setR_ok (c := ⟨σ, δ1, B1, H1⟩) x1 rfl s1 g1 e
      exact p1 _ B' H1 s2 x2
theorem qp_set {i : Nat} {x : Str} {e : Expr} {pos pos' : Pos} {f : Sem' R} (hN : X.N.Nodup) (hi : X.N[i]? = some x) (hx : Loc X.env.scope x) (he : PE X e (sE X.K E cn f)) (hs : swapsWith e (some (.Name x pos')) pos.line X.env = pure false := by rfl)
    (hf : X.fn x = true ∨ X.env.scope.names.lookup x = some .local := by first | exact .inl rfl | exact .inr rfl | assumption) : PS X (.Assign [.Name x pos'] e pos) (sS X.K E cn (vAsg i f)) :=
  asg_of (ps_set hN hi hx he hs hf) fun _ _ _ h => h
/-- several names -/
def setMany : List Nat → List D → Env' → Option Env'
  | [], [], δ => some δ
  | i :: is, d :: ds, δ => match setI δ i d with
    | some δ' => setMany is ds δ'
    | none => none
  | _, _, _ => none
def gNames : List Nat → TGs
  | [] => gNil
  | i :: is => gCons (gName i) (gNames is)
def setV : List Nat → List V → L2.St → L2.St
  | i :: is, v :: vs, σ => setV is vs (σ.set i (some v))
  | _, _, σ => σ
theorem setMany_ok : ∀ {is : List Nat} {ds : List D} {vs : List V} {c : Cf} {δ' : Env'} {Q : L2.St → Hp → Prop}, S K Z c → reps K Z c.B ds vs → setMany is ds c.δ = some δ' →
    (S K Z ⟨setV is vs c.σ, δ', c.B, c.H⟩ → Ext c ⟨setV is vs c.σ, δ', c.B, c.H⟩ → Q (setV is vs c.σ) c.H) → gNames is vs c.σ c.H Q
  | [], [], _, c, _, _, s, r, e, q => by
    cases e
    cases (show _ = [] from r)
    exact ⟨rfl, q s (Ext.refl _)⟩
  | [], d :: ds, _, c, _, _, s, r, e, q => by cases e
  | i :: is, [], _, c, _, _, s, r, e, q => by cases e
  | i :: is, d :: ds, _, c, _, _, s, ⟨v, t, rfl, h, u⟩, e, q => by
    simp only [setMany] at e
    split at e
    · rename_i δ1 e1
      obtain ⟨s1, x1⟩ := S.setI s e1 h
      refine ⟨v, t, rfl, ?_⟩
      exact setMany_ok (c := ⟨c.σ.set i (some v), δ1, c.B, c.H⟩) s1 u e fun a b => q a (x1.trans b)
    · cases e
def vUnp (is : List Nat) (f : Sem' R) : SemS := fun δ => (f δ).out fun p => match vw p.2 p.1 with
  | some (.tup ds) => (match setMany is ds p.2 with | some δ' => .next δ' | none => .stuck)
  | some (.lst ds) => (match setMany is ds p.2 with | some δ' => .next δ' | none => .stuck)
  | _ => .stuck
theorem setMany_len : ∀ {is : List Nat} {ds : List D} {δ δ' : Env'}, setMany is ds δ = some δ' → is.length = ds.length
  | [], [], _, _, _ => rfl
  | [], _ :: _, _, _, e => by cases e
  | _ :: _, [], _, _, e => by cases e
  | i :: is, d :: ds, δ, δ', e => by
    simp only [setMany] at e
    split at e
    · rw [List.length_cons, List.length_cons, setMany_len e]
    · cases e
/-- a target of names in brackets, for a tuple or a list -/
def gBoth (K : PySem.W.Frag) (n : Nat) (t : TGs) : TG := fun v σ H Q => gTup K n t v σ H Q ∨ gUnl K n t v σ H Q
theorem PG_or {e : Expr} {g g' : TG} (h : PG X e g) (h' : PG X e g') : PG X e (fun v σ H Q => g v σ H Q ∨ g' v σ H Q) := by
  refine ⟨fun a b c d e f g i j k => ?_⟩
  rcases k with k | k
  · exact h.run _ _ _ _ _ _ _ i j k
  · exact h'.run _ _ _ _ _ _ _ i j k
theorem qp_unp {es : List Expr} {k : Nat} {is : List Nat} {e : Expr} {pos tpos : Pos} {f : Sem' R} (hc : X.calm = true) (hl : (es.length = is.length)) (h : PGs X es (gNames is)) (hg1 : PG X (.Tuple es k tpos) (gTup X.K es.length (gNames is))) (hg2 : PG X (.Tuple es k tpos) (gUnl X.K es.length (gNames is)))
    (he : PE X e (sE X.K E cn f)) (hs : swapsWithSole [.Tuple es k tpos] e pos.line X.env = pure false := by rfl) (hw : swappedStores [.Tuple es k tpos] e X.env = pure none := by rfl) : PS X (.Assign [.Tuple es k tpos] e pos) (sS X.K E cn (vUnp is f)) :=
  (ps_asg he (PG_or hg1 hg2) hs hw).imp fun σ H D ⟨Z, B, δ, s, p⟩ => by
    refine sG_mono (subE (G := fun Z => RR X.K Z) (c0 := ⟨σ, δ, B, H⟩) (c1 := ⟨σ, δ, B, H⟩) s (Ext.refl _) p) fun x H1 ⟨r1, δ1, B1, e1, s1, x1, _, g1, p1⟩ => ?_
    split at p1
    · rename_i ds ed
      split at p1
      · rename_i δ' e2
        obtain ⟨a, vs, rfl, ht, rv⟩ := vw_ok s1 g1 ed
        refine .inl ⟨a, vs, rfl, ht, ?_, ?_⟩
        · rw [reps_len rv, hl, setMany_len e2]
        · exact setMany_ok (c := ⟨σ, δ1, B1, H1⟩) s1 rv e2 fun s2 x2 => p1 _ B1 H1 s2 (x1.trans x2)
      · exact p1.elim
    · rename_i ds ed
      split at p1
      · rename_i δ' e2
        obtain ⟨a, vs, rfl, _, ht, rv⟩ := vw_ok s1 g1 ed
        refine .inr ⟨a, vs, rfl, .inl (.inl ht), ?_, ?_⟩
        · rw [reps_len rv, hl, setMany_len e2]
        · exact setMany_ok (c := ⟨σ, δ1, B1, H1⟩) s1 rv e2 fun s2 x2 => p1 _ B1 H1 s2 (x1.trans x2)
      · exact p1.elim
    · exact p1.elim
/-- x += e, x -= e, whole numbers -/
def vAug (i : Nat) (f : Int → Int → Int) (g : Sem' R) : SemS := fun δ => match δ[i]? with
  | some (.imm (.int a) _) => (g δ).out fun p => match p.1 with
    | .imm (.int b) => (match setI p.2 i (.int (f a b)) with | some δ' => .next δ' | none => .stuck)
    | _ => .stuck
  | _ => .stuck
theorem qp_aug {st : Stmt} {i : Nat} {fi : Int → Int → Int} {g : Sem' R} (h : PS X st (tAug i (sE X.K E cn g) (ipI fi))) : PS X st (sS X.K E cn (vAug i fi g)) :=
  h.imp fun σ H D ⟨Z, B, δ, s, p⟩ => by
    unfold vAug at p
    split at p
    · rename_i a b e
      obtain ⟨y, ey, ry⟩ := s.slot i _ e
      cases (show y = .int a from ry)
      refine ⟨.int a, ey, ?_⟩
      refine sG_mono (subE (G := fun Z => RR X.K Z) (c0 := ⟨σ, δ, B, H⟩) (c1 := ⟨σ, δ, B, H⟩) s (Ext.refl _) p) fun x H1 ⟨r1, δ1, B1, e1, s1, x1, _, g1, p1⟩ => ?_
      split at p1
      · rename_i b' er
        have er : r1 = .imm (.int b') := er
        subst er
        split at p1
        · rename_i δ' e2
          obtain ⟨s2, x2⟩ := S.setI (c := ⟨σ, δ1, B1, H1⟩) (v := V.int (fi a b')) s1 e2 rfl
          exact ⟨a, b', rfl, g1, p1 _ B1 H1 s2 (x1.trans x2)⟩
        · exact p1.elim
      · exact p1.elim
    · exact p.elim
/-! ### raise -/
def vRaise (k : Nat) : SemS := fun _ => .raise k
theorem S.rx (s : S K Z c) : Rx c c.H := ⟨c.B, fun _ _ h => h, s.same, fun _ h => h, fun _ _ a b _ => ⟨a, b⟩⟩
theorem qp_raise {e : Expr} {pos : Pos} {k : Nat} (hc : X.calm = true) (tk : Takes X (fun c d _ H => E c d H)) (he : PMk X e (fun _ H Q => Q (cn k) Option.none H)) : PS X (.Raise (some e) none pos) (sS X.K E cn (vRaise k)) :=
  (ps_raise hc tk he).imp fun σ H D ⟨Z, B, δ, s, p⟩ => p H s.rx
end
end VI

set_option Elab.async false
set_option linter.all false
set_option maxRecDepth 100000
set_option maxHeartbeats 4000000
/-! Loops and comprehensions. -/
namespace VI
open PySem PySem.Spec PyProof.Rows L2
/-- what an iterator yields are these data, wherever P holds -/
def ItOk (K : PySem.W.Frag) (Z : Addr → Prop) (P : Cf → Prop) (J : It) (ds : List D) : Prop := ∀ (i : Nat) (c : Cf), S K Z c → P c →
  (∀ d, ds[i]? = some d → J.go i c.H ∧ ∀ x H'', J.yld i c.H x H'' → ∃ B'', S K Z ⟨c.σ, c.δ, B'', H''⟩ ∧ Ext c ⟨c.σ, c.δ, B'', H''⟩ ∧ rep K Z B'' d x) ∧ (ds.length ≤ i → J.stop i c.H)
def GI (K : PySem.W.Frag) (Z : Addr → Prop) (_ : Hp) (c : Cf) (ds : List D) (J : It) : Prop := ItOk K Z (fun c' => Same c.B c'.B) J ds
def sIt (K : PySem.W.Frag) (E : XK) (cn : Nat → Value) (f : Sem' (List D)) : TI := sG K E cn (GI K) f
/-- .. as long as slot i stands -/
def GIp (i : Nat) (K : PySem.W.Frag) (Z : Addr → Prop) (_ : Hp) (c : Cf) (ds : List D) (J : It) : Prop := ItOk K Z (fun c' => Same c.B c'.B ∧ c'.σ[i]? = c.σ[i]? ∧ c'.δ[i]? = c.δ[i]?) J ds
def sItp (i : Nat) (K : PySem.W.Frag) (E : XK) (cn : Nat → Value) (f : Sem' (List D)) : TI := sG K E cn (GIp i K) f
theorem _root_.L2.PI.imp {X : Cx} {tg e : Expr} {t t' : TI} (h : PI X tg e t) (q : ∀ σ H R, t' σ H R → t σ H R) : PI X tg e t' := ⟨fun pins s σ H R I hw => h.run pins s σ H R I (q σ H R hw)⟩
/-- a target, by data -/
def TgS (K : PySem.W.Frag) (is : List Nat) (g : TG) (tg : D → Env' → Option Env') : Prop := ∀ Z c d v δ' (Q : L2.St → Hp → Prop), S K Z c → rep K Z c.B d v → tg d c.δ = some δ' →
  (∀ σ', S K Z ⟨σ', δ', c.B, c.H⟩ → Ext c ⟨σ', δ', c.B, c.H⟩ → σ'.length = c.σ.length → (∀ j, j ∉ is → σ'[j]? = c.σ[j]? ∧ δ'[j]? = c.δ[j]?) → Q σ' c.H) → g v c.σ c.H Q
def tName (i : Nat) : D → Env' → Option Env' := fun d δ => setI δ i d
def tNames (is : List Nat) : D → Env' → Option Env' := fun d δ => match d with
  | .tup ds => setMany is ds δ
  | _ => none
section
variable {K : PySem.W.Frag} {E : XK} {cn : Nat → Value} {Z : Addr → Prop} {H0 H1 : Hp} {c c0 c1 c' : Cf} {X : Cx}
theorem setI_len {δ δ' : Env'} {i : Nat} {d : D} (h : setI δ i d = some δ') : δ'.length = δ.length ∧ ∀ j, j ≠ i → δ'[j]? = δ[j]? := by
  unfold setI at h
  split at h
  · cases h
    exact ⟨List.length_set .., fun j hj => List.getElem?_set_ne (Ne.symm hj)⟩
  · cases h
theorem tg_name {i : Nat} : TgS K [i] (gName i) (tName i) := by
  intro Z c d v δ' Q s r e q
  obtain ⟨s1, x1⟩ := S.setI s e r
  refine q _ s1 x1 (List.length_set ..) fun j hj => ?_
  have ne : j ≠ i := fun z => hj (by rw [z]; exact List.mem_singleton.mpr rfl)
  exact ⟨List.getElem?_set_ne (Ne.symm ne), (setI_len e).2 j ne⟩
theorem setMany_keep : ∀ {is : List Nat} {ds : List D} {δ δ' : Env'}, setMany is ds δ = some δ' → ∀ j, j ∉ is → δ'[j]? = δ[j]?
  | [], [], _, _, e, j, _ => by cases e; rfl
  | [], _ :: _, _, _, e, _, _ => by cases e
  | _ :: _, [], _, _, e, _, _ => by cases e
  | i :: is, d :: ds, δ, δ', e, j, hj => by
    simp only [setMany] at e
    split at e
    · rename_i δ1 e1
      simp only [List.mem_cons, not_or] at hj
      rw [setMany_keep e j hj.2, (setI_len e1).2 j hj.1]
    · cases e
theorem setV_keep : ∀ (is : List Nat) (vs : List V) (σ : L2.St), (setV is vs σ).length = σ.length ∧ ∀ j, j ∉ is → (setV is vs σ)[j]? = σ[j]?
  | [], _, _ => ⟨rfl, fun _ _ => rfl⟩
  | _ :: _, [], _ => ⟨rfl, fun _ _ => rfl⟩
  | i :: is, v :: vs, σ => by
    obtain ⟨h1, h2⟩ := setV_keep is vs (σ.set i (some v))
    refine ⟨by show (setV is vs _).length = _; rw [h1, List.length_set], fun j hj => ?_⟩
    simp only [List.mem_cons, not_or] at hj
    show (setV is vs _)[j]? = _
    rw [h2 j hj.2]
    exact List.getElem?_set_ne (Ne.symm hj.1)
theorem tg_names {is : List Nat} {n : Nat} (hn : is.length = n) : TgS K is (gTup K n (gNames is)) (tNames is) := by
  intro Z c d v δ' Q s r e q
  cases d with
  | tup ds =>
    have e : setMany is ds c.δ = some δ' := e
    obtain ⟨a, vs, rfl, ht, rv⟩ := r
    refine ⟨a, vs, rfl, same_t s.same ht, by rw [reps_len rv, ← setMany_len e, hn], ?_⟩
    refine setMany_ok s rv e fun s1 x1 => q _ s1 x1 (setV_keep is vs c.σ).1 fun j hj => ⟨(setV_keep is vs c.σ).2 j hj, setMany_keep e j hj⟩
  | _ => cases e

/-! ### for -/
def forGo (tg : D → Env' → Option Env') (body : SemS) : List D → Env' → Out
  | [], δ => .next δ
  | d :: ds, δ => match tg d δ with
    | none => .stuck
    | some δ1 => match body δ1 with
      | .next δ2 => forGo tg body ds δ2
      | .cont δ2 => forGo tg body ds δ2
      | .brk δ2 => .next δ2
      | .ret r δ2 => .ret r δ2
      | .raise k => .raise k
      | .stuck => .stuck
def vFor (it : Sem' (List D)) (tg : D → Env' → Option Env') (body : SemS) : SemS := fun δ => (it δ).out fun p => forGo tg body p.1 p.2
theorem for_of {is : List Nat} {it : Sem' (List D)} {g : TG} {tg : D → Env' → Option Env'} {body : SemS} {D' : Ends} {σ : L2.St} {H : Hp} (ht : TgS K is g tg) (h : sS K E cn (vFor it tg body) D' σ H) : tFor (sIt K E cn it) g (sS K E cn body) D' σ H := by
  obtain ⟨Z, B, δ, s, p⟩ := h
  refine sG_mono (subE (G := GI K) (c0 := ⟨σ, δ, B, H⟩) (c1 := ⟨σ, δ, B, H⟩) s (Ext.refl _) p) fun J H1 ⟨ds, δ1, B1, e1, s1, x1, _, g1, p1⟩ => ?_
  refine ⟨fun i m σ' H' => m = ds.length - i ∧ i ≤ ds.length ∧ ∃ B' δ', S K Z ⟨σ', δ', B', H'⟩ ∧ Ext ⟨σ, δ, B, H⟩ ⟨σ', δ', B', H'⟩ ∧ Same B1 B' ∧ PostS K E cn Z ⟨σ, δ, B, H⟩ (forGo tg body (ds.drop i) δ') D', ⟨ds.length, rfl, Nat.zero_le _, B1, δ1, s1, x1, fun _ _ h => h, p1⟩, ?_⟩
  rintro i m σ' H' ⟨rfl, hi, B', δ', s', x', sm, p'⟩
  obtain ⟨k1, k2⟩ := g1 i ⟨σ', δ', B', H'⟩ s' sm
  by_cases hlt : i < ds.length
  · obtain ⟨kg, ky⟩ := k1 ds[i] (List.getElem?_eq_getElem hlt)
    have hd : ds.drop i = ds[i] :: ds.drop (i + 1) := List.drop_eq_getElem_cons hlt
    rw [hd] at p'
    simp only [forGo] at p'
    refine .inr ⟨kg, fun σ3 H3 => ∃ B3 δ3, S K Z ⟨σ3, δ3, B3, H3⟩ ∧ Ext ⟨σ, δ, B, H⟩ ⟨σ3, δ3, B3, H3⟩ ∧ Same B1 B3 ∧ PostS K E cn Z ⟨σ, δ, B, H⟩ (forGo tg body (ds.drop (i + 1)) δ3) D', fun σ3 H3 ⟨B3, δ3, a1, a2, a3, a4⟩ => ⟨ds.length - (i + 1), by omega, rfl, hlt, B3, δ3, a1, a2, a3, a4⟩, fun x H'' hy => ?_⟩
    obtain ⟨B2, s2, x2, r2⟩ := ky x H'' hy
    cases et : tg ds[i] δ' with
    | none =>
      simp only [et] at p'
      exact p'.elim
    | some δ2 =>
      simp only [et] at p'
      refine ht Z ⟨σ', δ', B2, H''⟩ _ _ _ _ s2 r2 et fun σ2 s3 x3 _ _ => ?_
      have x4 : Ext ⟨σ, δ, B, H⟩ ⟨σ2, δ2, B2, H''⟩ := (x'.trans x2).trans x3
      refine ⟨Z, B2, δ2, s3, ?_⟩
      cases eb : body δ2 with
      | next δ3 =>
        rw [eb] at p'
        exact fun σ4 B4 H4 a b => ⟨B4, δ3, a, x4.trans b, (sm.trans x2.same).trans b.same, p'⟩
      | cont δ3 =>
        rw [eb] at p'
        exact fun σ4 B4 H4 a b => ⟨B4, δ3, a, x4.trans b, (sm.trans x2.same).trans b.same, p'⟩
      | brk δ3 =>
        rw [eb] at p'
        exact fun σ4 B4 H4 a b => p' σ4 B4 H4 a (x4.trans b)
      | ret r δ3 =>
        rw [eb] at p'
        exact fun σ4 B4 H4 v a b q => p' σ4 B4 H4 v a (x4.trans b) (q.weak x4.dom)
      | raise k =>
        rw [eb] at p'
        exact fun H4 rx => p' H4 (Rx.of x4 rx)
      | stuck =>
        rw [eb] at p'
        exact p'
  · have e : i = ds.length := by omega
    refine .inl ⟨k2 (by omega), ?_⟩
    rw [e, List.drop_length] at p'
    exact p' σ' B' H' s' x'
theorem qp_for {is : List Nat} {iter t : Expr} {body : List Stmt} {it : Sem' (List D)} {g : TG} {tg : D → Env' → Option Env'} {b : SemS} {pos : Pos} (hp : PassesOwn (model X.prog X.w) X.A X.env X.xe) (hc : X.calm = true) (ht : TgS X.K is g tg) (hi : PI X t iter (sIt X.K E cn it)) (hg : PG X t g)
    (hb : PSs X body (sS X.K E cn b)) (hs : ∀ x, foldedSetIterable iter X.env x = pure x := by intro _; rfl) : PS X (.For t iter body [] pos) (sS X.K E cn (vFor it tg b)) :=
  (ps_for hp hc hi hg hb hs).imp fun _ _ _ h => for_of ht h

/-! ### while -/
def wGo (t : Sem' Bool) (body : SemS) : Nat → Env' → Out
  | 0, _ => .stuck
  | n + 1, δ => (t δ).out fun p => if p.1 then (match body p.2 with
      | .next δ2 => wGo t body n δ2
      | .cont δ2 => wGo t body n δ2
      | .brk δ2 => .next δ2
      | .ret r δ2 => .ret r δ2
      | .raise k => .raise k
      | .stuck => .stuck) else .next p.2
def vWhile (n : Nat) (t : Sem' Bool) (body : SemS) : SemS := wGo t body n
theorem qp_while {c : Expr} {body : List Stmt} {n : Nat} {t : Sem' Bool} {b : SemS} {pos : Pos} (hp : PassesOwn (model X.prog X.w) X.A X.env X.xe) (hc : PT X c (sT X.K E cn t)) (hb : PSs X body (sS X.K E cn b)) : PS X (.While c body [] pos) (sS X.K E cn (vWhile n t b)) :=
  (ps_while hp hc hb).imp fun σ H D' ⟨Z, B, δ, s, p⟩ => by
    refine ⟨fun m σ' H' => ∃ B' δ', S X.K Z ⟨σ', δ', B', H'⟩ ∧ Ext ⟨σ, δ, B, H⟩ ⟨σ', δ', B', H'⟩ ∧ PostS X.K E cn Z ⟨σ, δ, B, H⟩ (wGo t b m δ') D', ⟨n, B, δ, s, Ext.refl _, p⟩, ?_⟩
    rintro m σ' H' ⟨B', δ', s', x', p'⟩
    cases m with
    | zero => exact p'.elim
    | succ m =>
      simp only [wGo] at p'
      refine sG_mono (subE (G := GT X.K) (c0 := ⟨σ, δ, B, H⟩) (c1 := ⟨σ', δ', B', H'⟩) s' x' p') fun v H1 ⟨r1, δ1, B1, e1, s1, x1, _, g1, p1⟩ => ?_
      cases g1
      cases v with
      | true =>
        simp only [if_true] at p1 ⊢
        refine ⟨fun σ3 H3 => ∃ B3 δ3, S X.K Z ⟨σ3, δ3, B3, H3⟩ ∧ Ext ⟨σ, δ, B, H⟩ ⟨σ3, δ3, B3, H3⟩ ∧ PostS X.K E cn Z ⟨σ, δ, B, H⟩ (wGo t b m δ3) D', fun σ3 H3 h => ⟨m, Nat.lt_succ_self m, h⟩, ?_⟩
        refine ⟨Z, B1, δ1, s1, ?_⟩
        cases eb : b δ1 with
        | next δ3 => rw [eb] at p1; exact fun σ4 B4 H4 a q => ⟨B4, δ3, a, x1.trans q, p1⟩
        | cont δ3 => rw [eb] at p1; exact fun σ4 B4 H4 a q => ⟨B4, δ3, a, x1.trans q, p1⟩
        | brk δ3 => rw [eb] at p1; exact fun σ4 B4 H4 a q => p1 σ4 B4 H4 a (x1.trans q)
        | ret r δ3 => rw [eb] at p1; exact fun σ4 B4 H4 v a q g => p1 σ4 B4 H4 v a (x1.trans q) (g.weak x1.dom)
        | raise k => rw [eb] at p1; exact fun H4 rx => p1 H4 (Rx.of x1 rx)
        | stuck => rw [eb] at p1; exact p1
      | false => exact p1 σ' B1 H1 s1 x1

/-! ### what is walked -/
theorem ok_list {B : Hp} {p : Addr} {vs : List V} {ds : List D} {P : Cf → Prop} (hP : ∀ c, S K Z c → P c → c.H p = some (.lst vs) ∧ reps K Z c.B ds vs) : ItOk K Z P (Itl K p) ds := by
  intro i c s pc
  obtain ⟨h, r⟩ := hP c s pc
  have hl := reps_len r
  have sq : SqL K c.H p vs := .inl (.inl h)
  refine ⟨fun d e => ?_, fun h => ⟨vs, sq, by omega⟩⟩
  obtain ⟨v, hv, rv⟩ := reps_get r e
  refine ⟨⟨vs, v, sq, hv⟩, fun x H'' ⟨e1, e2⟩ => ?_⟩
  subst e1
  have := e2 vs sq
  rw [hv] at this
  cases this
  exact ⟨c.B, s, Ext.refl _, rv⟩
theorem ok_tup {p : Addr} {vs : List V} {ds : List D} {P : Cf → Prop} (hP : ∀ c, S K Z c → P c → SqT K c.H p vs ∧ reps K Z c.B ds vs) : ItOk K Z P (Itt K p) ds := by
  intro i c s pc
  obtain ⟨sq, r⟩ := hP c s pc
  have hl := reps_len r
  refine ⟨fun d e => ?_, fun h => ⟨vs, sq, by omega⟩⟩
  obtain ⟨v, hv, rv⟩ := reps_get r e
  refine ⟨⟨vs, v, sq, hv⟩, fun x H'' ⟨e1, e2⟩ => ?_⟩
  subst e1
  have := e2 vs sq
  rw [hv] at this
  cases this
  exact ⟨c.B, s, Ext.refl _, rv⟩
def signsD (x : Str) : List D := x.cps.toList.map fun c => D.str ⟨#[c]⟩
theorem ok_str {x : Str} {P : Cf → Prop} : ItOk K Z P (Its x) (signsD x) := by
  intro i c s pc
  have hl : (signsD x).length = x.cps.size := by simp [signsD]
  refine ⟨fun d e => ?_, fun h => by show x.cps.size ≤ i; omega⟩
  have hi : i < x.cps.size := by
    have := (List.getElem?_eq_some_iff.mp e).1
    omega
  refine ⟨hi, fun y H'' ⟨e1, k, e2, e3⟩ => ?_⟩
  subst e1
  refine ⟨c.B, s, Ext.refl _, ?_⟩
  have : d = D.str ⟨#[k]⟩ := by
    have h2 : x.cps.toList[i]? = some k := by simpa using e2
    simp only [signsD, List.getElem?_map, h2, Option.map_some, Option.some.injEq] at e
    exact e.symm
  rw [this, e3]
  exact rfl
/-- the items of what is walked; the walked thing stands still from here on -/
def itemsOf : D → Option (List D)
  | .lst ds => some ds
  | .tup ds => some ds
  | .str x => some (signsD x)
  | _ => none
def vIt (f : Sem' R) : Sem' (List D) := fun δ => (f δ).bind fun p => match st p.2 p.1 with
  | some (d, δ') => match itemsOf d with
    | some ds => .ok (ds, δ')
    | none => .stuck
  | none => .stuck
theorem qi_any {tg l : Expr} {f : Sem' R} (h : PE X l (sE X.K E cn f)) : PI X tg l (sIt X.K E cn (vIt f)) := by
  refine ⟨fun pins s0 σ H R' I hw => ?_⟩
  obtain ⟨Z, B, δ, s, p⟩ := hw
  -- what the value is, is known ahead
  have key : ∀ (kind : D → Prop), (∀ r δ1 d δ2, f δ = .ok (r, δ1) → st δ1 r = some (d, δ2) → kind d) → sE X.K E cn f σ H (fun x H1 => ∃ d δ2 B2 ds, itemsOf d = some ds ∧ kind d ∧ S X.K Z ⟨σ, δ2, B2, H1⟩ ∧ Ext ⟨σ, δ, B, H⟩ ⟨σ, δ2, B2, H1⟩ ∧ rep X.K Z B2 d x ∧ ∀ J, GI X.K Z H ⟨σ, δ2, B2, H1⟩ ds J → R' J H1) := fun kind hk => by
    refine sG_mono (sub (G := fun Z => RR X.K Z) (c0 := ⟨σ, δ, B, H⟩) (c1 := ⟨σ, δ, B, H⟩) s (Ext.refl _) rfl p) fun x H1 ⟨r1, δ1, B1, e1, s1, x1, _, g1, p1⟩ => ?_
    cases e2 : st δ1 r1 with
    | none =>
      simp only [e2] at p1
      exact p1.elim
    | some q =>
      obtain ⟨d, δ2⟩ := q
      simp only [e2] at p1
      cases e3 : itemsOf d with
      | none =>
        simp only [e3] at p1
        exact p1.elim
      | some ds =>
        simp only [e3] at p1
        obtain ⟨B2, s2, x2, r2⟩ := st_ok (c0 := ⟨σ, δ, B, H⟩) x1 rfl s1 g1 e2
        exact ⟨d, δ2, B2, ds, e3, hk _ _ _ _ e1 e2, s2, x2, r2, fun J g => p1 B2 H1 J s2 x2 g⟩
  cases e1 : f δ with
  | raise k =>
    unfold vIt at p
    rw [e1] at p
    exact (pi_list (tg := tg) h).run pins s0 σ H R' I ⟨Z, B, δ, s, by rw [e1]; exact p⟩
  | stuck =>
    unfold vIt at p
    rw [e1] at p
    exact p.elim
  | ok q =>
    obtain ⟨r1, δ1⟩ := q
    cases e2 : st δ1 r1 with
    | none =>
      unfold vIt at p
      rw [e1] at p
      simp only [Res.bind, e2] at p
      exact p.elim
    | some q =>
      obtain ⟨d0, δ2⟩ := q
      have same : ∀ r δ1' d δ2', f δ = .ok (r, δ1') → st δ1' r = some (d, δ2') → d = d0 := fun r δ1' d δ2' a b => by
        rw [e1] at a
        cases a
        rw [e2] at b
        cases b
        rfl
      have k := key (fun d => d = d0) same
      cases d0 with
      | lst xs =>
        refine (pi_list (tg := tg) h).run pins s0 σ H R' I (sG_mono k fun x H1 ⟨d, δ2', B2, ds, e3, ed, s2, x2, r2, q⟩ => ?_)
        subst ed
        cases e3
        obtain ⟨a, vs, rfl, za, ha, rv⟩ := r2
        refine ⟨a, rfl, ⟨vs, .inl (.inl (s2.same _ _ ha))⟩, q _ ?_⟩
        exact ok_list (B := B2) fun c sc hc => ⟨sc.same _ _ (hc _ _ ha), reps_mono hc _ _ rv⟩
      | tup xs =>
        refine (pi_tup (tg := tg) h).run pins s0 σ H R' I (sG_mono k fun x H1 ⟨d, δ2', B2, ds, e3, ed, s2, x2, r2, q⟩ => ?_)
        subst ed
        cases e3
        obtain ⟨a, vs, rfl, ha, rv⟩ := r2
        refine ⟨a, rfl, ⟨vs, same_t s2.same ha⟩, q _ ?_⟩
        exact ok_tup fun c sc hc => ⟨same_t sc.same (same_t hc ha), reps_mono hc _ _ rv⟩
      | str z =>
        refine (pi_str (tg := tg) h).run pins s0 σ H R' I (sG_mono k fun x H1 ⟨d, δ2', B2, ds, e3, ed, s2, x2, r2, q⟩ => ?_)
        subst ed
        cases e3
        cases (show x = .str z from r2)
        exact ⟨z, rfl, q _ ok_str⟩
      | _ =>
        unfold vIt at p
        rw [e1] at p
        simp only [Res.bind, e2, itemsOf] at p
        exact p.elim
/-- a name's list, by its slot: nothing is frozen -/
def vItP (i : Nat) : Sem' (List D) := fun δ => match vw δ (.pl i) with
  | some (.lst ds) => .ok (ds, δ)
  | _ => .stuck
theorem qi_place {tg l : Expr} {i : Nat} (h : PE X l (tVar i)) : PI X tg l (sItp i X.K E cn (vItP i)) :=
  (pi_list h).imp fun σ H R' ⟨Z, B, δ, s, p⟩ => by
    unfold vItP at p
    split at p
    · rename_i ds e
      have hv : ∃ v, σ[i]? = some (some v) := by
        simp only [vw] at e
        split at e
        · rename_i ds' b q
          obtain ⟨a, e1, _⟩ := s.slot i _ q
          exact ⟨_, e1⟩
        · rename_i d b q
          obtain ⟨a, e1, _⟩ := s.slot i _ q
          exact ⟨_, e1⟩
        · cases e
      obtain ⟨v, hv⟩ := hv
      obtain ⟨a, vs, rfl, _, ha, rv⟩ := vw_ok (c := ⟨σ, δ, B, H⟩) (r := .pl i) (H0 := H) s hv e
      refine ⟨.ref a, hv, a, rfl, ⟨vs, .inl (.inl ha)⟩, p B H _ s (Ext.refl _) ?_⟩
      refine fun n c sc ⟨h1, h2, h3⟩ => ?_
      have e' : vw c.δ (.pl i) = some (.lst ds) := by
        have : vw c.δ (.pl i) = vw δ (.pl i) := by
          simp only [vw]
          rw [show c.δ[i]? = δ[i]? from h3]
        rw [this]
        exact e
      obtain ⟨a', vs', ea, _, ha', rv'⟩ := vw_ok (c := c) (r := .pl i) (v := .ref a) (H0 := H) sc (show c.σ[i]? = some (some (.ref a)) by rw [h2]; exact hv) e'
      cases ea
      exact ok_list (B := B) (P := fun c' => c' = c) (fun c' _ hc' => by subst hc'; exact ⟨ha', rv'⟩) n c sc rfl
    · exact p.elim
/-- range -/
def rangeD (lo : Int) (n : Nat) : List D := (List.range n).map fun (i : Nat) => D.int (lo + (i : Int))
theorem ok_range {lo : Int} {n : Nat} {P : Cf → Prop} : ItOk K Z P (Itr lo n) (rangeD lo n) := by
  intro i c s pc
  have hl : (rangeD lo n).length = n := by simp [rangeD]
  refine ⟨fun d e => ?_, fun h => by show n ≤ i; omega⟩
  have hi : i < n := by
    have := (List.getElem?_eq_some_iff.mp e).1
    omega
  refine ⟨hi, fun y H'' ⟨e1, e2⟩ => ?_⟩
  subst e1
  refine ⟨c.B, s, Ext.refl _, ?_⟩
  have : d = D.int (lo + (i : Int)) := by
    have h2 : (List.range n)[i]? = some i := List.getElem?_range hi
    simp only [rangeD, List.getElem?_map, h2, Option.map_some, Option.some.injEq] at e
    exact e.symm
  rw [this, e2]
  exact rfl
def small62 (i : Int) : Bool := decide (-(2 ^ 62) ≤ i) && decide (i < 2 ^ 62)
theorem small62_ok {i : Int} (h : small62 i = true) : -(2 ^ 62) ≤ i ∧ i < 2 ^ 62 := by
  simpa [small62] using h
def vRng1 (f : Sem' (List R)) : Sem' (List D) := fun δ => (f δ).bind fun p => match p.1 with
  | [.imm (.int n)] => if small62 n then .ok (rangeD 0 n.toNat, p.2) else .stuck
  | _ => .stuck
def vRng2 (f : Sem' (List R)) : Sem' (List D) := fun δ => (f δ).bind fun p => match p.1 with
  | [.imm (.int a), .imm (.int b)] => if small62 a && small62 b then .ok (rangeD a (b - a).toNat, p.2) else .stuck
  | _ => .stuck
theorem qi_rng1 {tg a : Expr} {f : Sem' (List R)} {p pos : Pos} (hg : Gl X "range") (hm : X.mg "range" = none) (ha : PA X [a] (sA X.K E cn f)) (hs : starEach [a] X.env = [(false, eval a X.env)] := by rfl) : PI X tg (.Call (.Name "range" p) [a] [] pos) (sIt X.K E cn (vRng1 f)) :=
  (pi_range1 hg hm ha hs).imp fun σ H R' ⟨Z, B, δ, s, p⟩ => by
    refine sG_mono (sub (G := RRs X.K) (c0 := ⟨σ, δ, B, H⟩) (c1 := ⟨σ, δ, B, H⟩) s (Ext.refl _) rfl p) fun x H1 ⟨r1, δ1, B1, e1, s1, x1, _, g1, p1⟩ => ?_
    split at p1
    · rename_i n er
      have er : r1 = [.imm (.int n)] := er
      subst er
      split at p1
      · rename_i hn
        obtain ⟨v, t, rfl, h1, h2⟩ := g1
        cases (show t = [] from h2)
        cases (show v = .int n from h1)
        exact ⟨n, rfl, (small62_ok hn).1, (small62_ok hn).2, p1 B1 H1 _ s1 x1 ok_range⟩
      · exact p1.elim
    · exact p1.elim
theorem qi_rng2 {tg a b : Expr} {f : Sem' (List R)} {p pos : Pos} (hg : Gl X "range") (hm : X.mg "range" = none) (ha : PA X [a, b] (sA X.K E cn f)) (hs : starEach [a, b] X.env = [(false, eval a X.env), (false, eval b X.env)] := by rfl) (hs2 : starEach [b] X.env = [(false, eval b X.env)] := by rfl) : PI X tg (.Call (.Name "range" p) [a, b] [] pos) (sIt X.K E cn (vRng2 f)) :=
  (pi_range2 hg hm ha hs hs2).imp fun σ H R' ⟨Z, B, δ, s, p⟩ => by
    refine sG_mono (sub (G := RRs X.K) (c0 := ⟨σ, δ, B, H⟩) (c1 := ⟨σ, δ, B, H⟩) s (Ext.refl _) rfl p) fun x H1 ⟨r1, δ1, B1, e1, s1, x1, _, g1, p1⟩ => ?_
    split at p1
    · rename_i a' b' er
      have er : r1 = [.imm (.int a'), .imm (.int b')] := er
      subst er
      split at p1
      · rename_i hn
        simp only [Bool.and_eq_true] at hn
        obtain ⟨v, t, rfl, h1, v2, t2, rfl, h2, h3⟩ := g1
        cases (show t2 = [] from h3)
        cases (show v = .int a' from h1)
        cases (show v2 = .int b' from h2)
        exact ⟨a', b', rfl, ⟨(small62_ok hn.1).1, (small62_ok hn.1).2, (small62_ok hn.2).1, (small62_ok hn.2).2⟩, p1 B1 H1 _ s1 x1 ok_range⟩
      · exact p1.elim
    · exact p1.elim
end
end VI

set_option Elab.async false
set_option linter.all false
set_option maxRecDepth 100000
set_option maxHeartbeats 4000000
/-! Comprehensions. -/
namespace VI
open PySem PySem.Spec PyProof.Rows L2
def wipeD : List Nat → Env' → Env'
  | [], δ => δ
  | v :: vs, δ => (wipeD vs δ).set v .none
def back1 (δo : Env') : List Nat → Env' → Env'
  | [], δ => δ
  | v :: vs, δ => match δo[v]? with
    | some s => (back1 δo vs δ).set v s
    | none => back1 δo vs δ
theorem wipeD_len : ∀ (vs : List Nat) (δ : Env'), (wipeD vs δ).length = δ.length
  | [], _ => rfl
  | v :: vs, δ => by unfold wipeD; rw [List.length_set, wipeD_len]
theorem wipeD_out {δ : Env'} {j : Nat} : ∀ {vs : List Nat}, j ∉ vs → (wipeD vs δ)[j]? = δ[j]?
  | [], _ => rfl
  | v :: vs, h => by
    simp only [List.mem_cons, not_or] at h
    unfold wipeD
    rw [List.getElem?_set_ne (Ne.symm h.1), wipeD_out h.2]
theorem wipeD_in {δ : Env'} {j : Nat} : ∀ {vs : List Nat}, j ∈ vs → j < δ.length → (wipeD vs δ)[j]? = some .none
  | v :: vs, h, hl => by
    unfold wipeD
    by_cases e : v = j
    · subst e
      exact List.getElem?_set_self (by rw [wipeD_len]; exact hl)
    · rw [List.getElem?_set_ne e]
      rcases List.mem_cons.mp h with h | h
      · exact absurd h.symm e
      · exact wipeD_in h hl
theorem wipe_out {σ : L2.St} {j : Nat} : ∀ {vs : List Nat}, j ∉ vs → (wipe σ vs)[j]? = σ[j]?
  | [], _ => rfl
  | v :: vs, h => by
    simp only [List.mem_cons, not_or] at h
    unfold wipe
    rw [List.getElem?_set_ne (Ne.symm h.1), wipe_out h.2]
theorem wipe_in {σ : L2.St} {j : Nat} : ∀ {vs : List Nat}, j ∈ vs → j < σ.length → (wipe σ vs)[j]? = some none
  | v :: vs, h, hl => by
    unfold wipe
    by_cases e : v = j
    · subst e
      exact List.getElem?_set_self (by rw [wipe_length]; exact hl)
    · rw [List.getElem?_set_ne e]
      rcases List.mem_cons.mp h with h | h
      · exact absurd h.symm e
      · exact wipe_in h hl
theorem wipe_eq {σ τ : L2.St} {vs : List Nat} (hl : τ.length = σ.length) (h : ∀ j, j ∉ vs → τ[j]? = σ[j]?) : wipe τ vs = wipe σ vs := by
  apply List.ext_getElem?
  intro j
  by_cases hj : j ∈ vs
  · by_cases hjl : j < σ.length
    · rw [wipe_in hj hjl, wipe_in hj (by omega)]
    · rw [List.getElem?_eq_none (by rw [wipe_length]; omega), List.getElem?_eq_none (by rw [wipe_length]; omega)]
  · rw [wipe_out hj, wipe_out hj, h j hj]
theorem wipeD_eq {σ τ : Env'} {vs : List Nat} (hl : τ.length = σ.length) (h : ∀ j, j ∉ vs → τ[j]? = σ[j]?) : wipeD vs τ = wipeD vs σ := by
  apply List.ext_getElem?
  intro j
  by_cases hj : j ∈ vs
  · by_cases hjl : j < σ.length
    · rw [wipeD_in hj hjl, wipeD_in hj (by omega)]
    · rw [List.getElem?_eq_none (by rw [wipeD_len]; omega), List.getElem?_eq_none (by rw [wipeD_len]; omega)]
  · rw [wipeD_out hj, wipeD_out hj, h j hj]
theorem back1_len (δo : Env') : ∀ (vs : List Nat) (δ : Env'), (back1 δo vs δ).length = δ.length
  | [], _ => rfl
  | v :: vs, δ => by
    unfold back1
    split
    · rw [List.length_set, back1_len]
    · exact back1_len δo vs δ
theorem back1_out {δo δ : Env'} {j : Nat} : ∀ {vs : List Nat}, j ∉ vs → (back1 δo vs δ)[j]? = δ[j]?
  | [], _ => rfl
  | v :: vs, h => by
    simp only [List.mem_cons, not_or] at h
    unfold back1
    split
    · rw [List.getElem?_set_ne (Ne.symm h.1), back1_out h.2]
    · exact back1_out h.2
theorem back1_in {δo δ : Env'} {j : Nat} (hl : δ.length = δo.length) : ∀ {vs : List Nat}, j ∈ vs → (back1 δo vs δ)[j]? = δo[j]?
  | v :: vs, h => by
    unfold back1
    by_cases e : v = j
    · subst e
      split
      · rename_i s hs
        rw [hs]
        exact List.getElem?_set_self (by rw [back1_len, hl]; exact (List.getElem?_eq_some_iff.mp hs).1)
      · rename_i hs
        rw [hs]
        exact List.getElem?_eq_none (by rw [back1_len, hl]; exact List.getElem?_eq_none_iff.mp hs)
    · have hm : j ∈ vs := by
        rcases List.mem_cons.mp h with h | h
        · exact absurd h.symm e
        · exact h
      split
      · rw [List.getElem?_set_ne e]
        exact back1_in hl hm
      · exact back1_in hl hm
/-- no slot of these is the caller's -/
def freeAll (δ : Env') (vs : List Nat) : Bool := vs.all fun v => match δ[v]? with
  | some s => !pinned s
  | none => true
theorem freeAll_ok {δ : Env'} {vs : List Nat} (h : freeAll δ vs = true) {j : Nat} {s : Slot} (hj : j ∈ vs) (e : δ[j]? = some s) : pinned s = false := by
  have := List.all_eq_true.mp h j hj
  rw [e] at this
  simpa using this
def lcGo (tg : D → Env' → Option Env') (cond : Sem' Bool) (elt : Sem' D) (vs : List Nat) : List D → List D → Env' → Res (List D × Env')
  | [], acc, δ => .ok (acc, δ)
  | d :: ds, acc, δ => match tg d δ with
    | none => .stuck
    | some δ1 => (cond δ1).bind fun p => if p.1 then (elt p.2).bind fun q => if acc.length < 100000 && freeAll q.2 vs then lcGo tg cond elt vs ds (acc ++ [q.1]) (wipeD vs q.2) else .stuck
        else if freeAll p.2 vs then lcGo tg cond elt vs ds acc (wipeD vs p.2) else .stuck
/-- what leaves a comprehension as an exception has no rule -/
def Res.nr {α : Type} (m : Res α) : Res α := match m with
  | .ok a => .ok a
  | .raise _ => .stuck
  | .stuck => .stuck
def vLc (it : Sem' (List D)) (tg : D → Env' → Option Env') (cond : Sem' Bool) (elt : Sem' D) (vs : List Nat) : Sem' R := fun δ => (it δ).bind fun p => if freeAll p.2 vs then (lcGo tg cond elt vs p.1 [] (wipeD vs p.2)).nr.bind fun q => .ok (.frs (.lst q.1), back1 p.2 vs q.2) else .stuck
/-- .. and the other, where it may let out what its parts let out -/
def vLcX (it : Sem' (List D)) (tg : D → Env' → Option Env') (cond : Sem' Bool) (elt : Sem' D) (vs : List Nat) : Sem' R := fun δ => (it δ).bind fun p => if freeAll p.2 vs then (lcGo tg cond elt vs p.1 [] (wipeD vs p.2)).bind fun q => .ok (.frs (.lst q.1), back1 p.2 vs q.2) else .stuck
def vYes : Sem' Bool := fun δ => .ok (true, δ)
/-- leaves the slots as they are -/
def Pure {α : Type} (f : Sem' α) : Prop := ∀ δ r δ', f δ = .ok (r, δ') → δ' = δ
section
variable {K : PySem.W.Frag} {E E1 : XK} {cn : Nat → Value} {Z : Addr → Prop} {H0 H1 : Hp} {c c0 c1 c' : Cf} {X : Cx}
theorem wipe_S {vs : List Nat} (s : S K Z c) (hf : freeAll c.δ vs = true) : S K Z ⟨wipe c.σ vs, wipeD vs c.δ, c.B, c.H⟩ ∧ Ext c ⟨wipe c.σ vs, wipeD vs c.δ, c.B, c.H⟩ := by
  have low : ∀ {j : Nat} {o : O} {b : Bool}, (wipeD vs c.δ)[j]? = some (Slot.own o b) → j ∉ vs ∧ c.δ[j]? = some (Slot.own o b) := fun {j o b} h => by
    by_cases hj : j ∈ vs
    · by_cases hl : j < c.δ.length
      · rw [wipeD_in hj hl] at h
        cases h
      · rw [List.getElem?_eq_none (by rw [wipeD_len]; omega)] at h
        cases h
    · rw [wipeD_out hj] at h
      exact ⟨hj, h⟩
  refine ⟨⟨s.same, by show (wipe c.σ vs).length = (wipeD vs c.δ).length; rw [wipe_length, wipeD_len]; exact s.len, s.z, fun j sl hj => ?_, fun j k o o' b b' a h1 h2 h3 h4 => ?_⟩, ⟨fun _ _ h => h, fun _ h => h, fun q u h1 h2 h3 => ⟨h1, h2, fun ⟨j, o, b, g1, g2⟩ => ?_⟩, fun j sl hj pj => ?_, fun a ⟨j, o, g1, g2⟩ => ?_⟩⟩
  · show SlotOk K Z c.B c.H ((wipe c.σ vs)[j]?) sl
    have hj : (wipeD vs c.δ)[j]? = some sl := hj
    by_cases hm : j ∈ vs
    · have hl : j < c.δ.length := by
        have := (List.getElem?_eq_some_iff.mp hj).1
        rw [wipeD_len] at this
        exact this
      rw [wipeD_in hm hl] at hj
      cases hj
      trivial
    · rw [wipeD_out hm] at hj
      rw [wipe_out hm]
      exact s.slot j sl hj
  · obtain ⟨n1, a1⟩ := low h1
    obtain ⟨n2, a2⟩ := low h2
    have h3 : (wipe c.σ vs)[j]? = _ := h3
    have h4 : (wipe c.σ vs)[k]? = _ := h4
    rw [wipe_out n1] at h3
    rw [wipe_out n2] at h4
    exact s.dis j k o o' b b' a a1 a2 h3 h4
  · obtain ⟨n1, a1⟩ := low g1
    have g2 : (wipe c.σ vs)[j]? = _ := g2
    rw [wipe_out n1] at g2
    exact h3 ⟨j, o, b, a1, g2⟩
  · have hm : j ∉ vs := fun hm => by
      have := freeAll_ok hf hm hj
      rw [pj] at this
      cases this
    exact ⟨wipe_out hm, sl, by show (wipeD vs c.δ)[j]? = _; rw [wipeD_out hm]; exact hj, pj⟩
  · obtain ⟨n1, a1⟩ := low g1
    have g2 : (wipe c.σ vs)[j]? = _ := g2
    rw [wipe_out n1] at g2
    exact .inr ⟨j, o, a1, g2⟩
/-- behind the block the slots hold again what they held -/
theorem back_S {vs : List Nat} {δ2 : Env'} {B2 H2 : Hp} (s : S K Z c) (hf : freeAll c.δ vs = true) (s2 : S K Z ⟨wipe c.σ vs, δ2, B2, H2⟩) (x2 : Ext ⟨wipe c.σ vs, wipeD vs c.δ, c.B, c.H⟩ ⟨wipe c.σ vs, δ2, B2, H2⟩) (hw : ∀ j, j ∈ vs → ∀ o b, δ2[j]? ≠ some (.own o b)) :
    S K Z ⟨c.σ, back1 c.δ vs δ2, B2, H2⟩ ∧ Ext c ⟨c.σ, back1 c.δ vs δ2, B2, H2⟩ := by
  have hlen : δ2.length = c.δ.length := by
    have h1 : (wipe c.σ vs).length = δ2.length := s2.len
    rw [wipe_length] at h1
    rw [← h1]
    exact s.len
  obtain ⟨sw, xw⟩ := wipe_S s hf
  -- the objects of the slots that the block's names hide stand still
  have stand : ∀ {j : Nat} {o : O} {b : Bool} {p : Addr}, j ∈ vs → c.δ[j]? = some (Slot.own o b) → c.σ[j]? = some (some (.ref p)) → H2 p = c.H p ∧ B2 p = none ∧ ¬ owns ⟨wipe c.σ vs, δ2, B2, H2⟩ p := fun {j o b p} hj h1 h2 => by
    obtain ⟨p', e1, zp, bp, ho⟩ := s.slot j _ h1
    rw [h2] at e1
    cases e1
    obtain ⟨u, hu⟩ := ho.some
    obtain ⟨g1, g2, g3⟩ := x2.fr p u hu bp fun ⟨k, o', b', k1, k2⟩ => by
      have hk : k ∉ vs := fun hk => by
        by_cases hl : k < c.δ.length
        · have k1 : (wipeD vs c.δ)[k]? = _ := k1
          rw [wipeD_in hk hl] at k1
          cases k1
        · have k1 : (wipeD vs c.δ)[k]? = _ := k1
          rw [List.getElem?_eq_none (by rw [wipeD_len]; omega)] at k1
          cases k1
      have k1 : (wipeD vs c.δ)[k]? = _ := k1
      have k2 : (wipe c.σ vs)[k]? = _ := k2
      rw [wipeD_out hk] at k1
      rw [wipe_out hk] at k2
      have := s.dis j k o o' b b' p h1 k1 h2 k2
      exact hk (this ▸ hj)
    exact ⟨by rw [hu]; exact g1, g2, g3⟩
  have low : ∀ {j : Nat} {o : O} {b : Bool} {p : Addr}, (back1 c.δ vs δ2)[j]? = some (Slot.own o b) → c.σ[j]? = some (some (.ref p)) → (j ∈ vs ∧ c.δ[j]? = some (Slot.own o b)) ∨ (j ∉ vs ∧ δ2[j]? = some (Slot.own o b) ∧ (wipe c.σ vs)[j]? = some (some (.ref p))) := fun {j o b p} h1 h2 => by
    by_cases hj : j ∈ vs
    · rw [back1_in hlen hj] at h1
      exact .inl ⟨hj, h1⟩
    · rw [back1_out hj] at h1
      exact .inr ⟨hj, h1, by rw [wipe_out hj]; exact h2⟩
  refine ⟨⟨s2.same, by show c.σ.length = (back1 c.δ vs δ2).length; rw [back1_len, hlen]; exact s.len, s2.z, fun j sl hj => ?_, fun j k o o' b b' a h1 h2 h3 h4 => ?_⟩, ⟨x2.same, x2.dom, fun q u h1 h2 h3 => ?_, fun j sl hj pj => ?_, fun a ⟨j, o, g1, g2⟩ => ?_⟩⟩
  · show SlotOk K Z B2 H2 (c.σ[j]?) sl
    have hj : (back1 c.δ vs δ2)[j]? = some sl := hj
    by_cases hm : j ∈ vs
    · rw [back1_in hlen hm] at hj
      have old := s.slot j sl hj
      cases sl with
      | none => trivial
      | imm d b =>
        obtain ⟨y, e, r⟩ := old
        exact ⟨y, e, rep_mono x2.same _ _ r⟩
      | own o b =>
        obtain ⟨p, e, zp, bp, ho⟩ := old
        obtain ⟨g1, g2, _⟩ := stand hm hj e
        exact ⟨p, e, zp, g2, by rw [g1]; exact ho.mono x2.same⟩
    · rw [back1_out hm] at hj
      have := s2.slot j sl hj
      have e : (wipe c.σ vs)[j]? = c.σ[j]? := wipe_out hm
      rw [← e]
      exact this
  · rcases low h1 h3 with ⟨m1, a1⟩ | ⟨m1, a1, a2⟩
    · rcases low h2 h4 with ⟨m2, b1⟩ | ⟨m2, b1, b2⟩
      · exact s.dis j k o o' b b' a a1 b1 h3 h4
      · exact ((stand m1 a1 h3).2.2 ⟨k, o', b', b1, b2⟩).elim
    · rcases low h2 h4 with ⟨m2, b1⟩ | ⟨m2, b1, b2⟩
      · exact ((stand m2 b1 h4).2.2 ⟨j, o, b, a1, a2⟩).elim
      · exact s2.dis j k o o' b b' a a1 b1 a2 b2
  · obtain ⟨w1, w2, w3⟩ := xw.fr q u h1 h2 h3
    obtain ⟨g1, g2, g3⟩ := x2.fr q u w1 w2 w3
    refine ⟨g1, g2, fun ⟨j, o, b, k1, k2⟩ => ?_⟩
    rcases low k1 k2 with ⟨m1, a1⟩ | ⟨m1, a1, a2⟩
    · exact h3 ⟨j, o, b, a1, k2⟩
    · exact g3 ⟨j, o, b, a1, a2⟩
  · refine ⟨rfl, ?_⟩
    show ∃ s', (back1 c.δ vs δ2)[j]? = some s' ∧ _
    have hm : j ∉ vs := fun hm => by
      have := freeAll_ok hf hm hj
      rw [pj] at this
      cases this
    rw [back1_out hm]
    exact (x2.pin j sl (by show (wipeD vs c.δ)[j]? = _; rw [wipeD_out hm]; exact hj) pj).2
  · rcases low g1 g2 with ⟨m1, a1⟩ | ⟨m1, a1, a2⟩
    · exact .inr ⟨j, o, a1, g2⟩
    · rcases x2.src a ⟨j, o, a1, a2⟩ with h | ⟨k, o', k1, k2⟩
      · exact .inl h
      · have hk : k ∉ vs := fun hk => by
          have k1 : (wipeD vs c.δ)[k]? = _ := k1
          by_cases hl : k < c.δ.length
          · rw [wipeD_in hk hl] at k1
            cases k1
          · rw [List.getElem?_eq_none (by rw [wipeD_len]; omega)] at k1
            cases k1
        have k1 : (wipeD vs c.δ)[k]? = _ := k1
        have k2 : (wipe c.σ vs)[k]? = _ := k2
        rw [wipeD_out hk] at k1
        rw [wipe_out hk] at k2
        exact .inr ⟨k, o', k1, k2⟩
/-- an object that nobody holds is changed -/
theorem S.extra {p : Addr} {u : HO} (s : S K Z c) (hp : c.H p ≠ none) (hb : c.B p = none) (no : ¬ owns c p) : S K Z ⟨c.σ, c.δ, c.B, upd c.H p u⟩ := by
  refine ⟨fun q w hq => ?_, s.len, fun a ha => ?_, fun i sl hi => ?_, s.dis⟩
  · show upd c.H p u q = some w
    have hq : c.B q = some w := hq
    rw [upd_ne (ne_of_none hq hb)]
    exact s.same q w hq
  · have ha : upd c.H p u a = none := ha
    by_cases e : a = p
    · subst e
      rw [upd_same] at ha
      cases ha
    · rw [upd_ne e] at ha
      exact s.z a ha
  · have old := s.slot i sl hi
    cases sl with
    | none => trivial
    | imm d b => exact old
    | own o b =>
      obtain ⟨q, e1, z, bq, ho⟩ := old
      refine ⟨q, e1, z, bq, ?_⟩
      show Hol K Z c.B o (upd c.H p u q)
      rw [upd_ne fun e => no ⟨i, o, b, hi, by rw [← e]; exact e1⟩]
      exact ho
/-- the turns of a comprehension: base heap B0 at the start, the new list at L -/
structure Lw (K : PySem.W.Frag) (Z : Addr → Prop) (cs : Cf) (P : Cf → Prop) (L : Addr) (acc : List D) (δ : Env') (B H : Hp) : Prop where
  s : S K Z ⟨cs.σ, δ, B, H⟩
  x : Ext cs ⟨cs.σ, δ, B, H⟩
  p : P ⟨cs.σ, δ, B, H⟩
  l : ∃ vs, H L = some (.lst vs) ∧ reps K Z B acc vs
  b : B L = none
  o : ¬ owns ⟨cs.σ, δ, B, H⟩ L
theorem lc_of {is : List Nat} {cs : Cf} {P : Cf → Prop} {g : TG} {tg : D → Env' → Option Env'} {cond : Sem' Bool} {elt : Sem' D} {τ : L2.St} {J : It} {ds : List D} {L : Addr} {Q : Hp → Prop} {res : Res (List D × Env') → Prop}
    (ht : TgS K is g tg) (hτ : wipe τ is = cs.σ) (hJ : ItOk K Z P J ds) (hfresh : cs.H L = none)
    (hP : ∀ (δ δ1 δ2 : Env') (B B' H H' : Hp) (d : D), P ⟨cs.σ, δ, B, H⟩ → tg d δ = some δ1 → Same B B' → (δ2 = wipeD is δ ∨ (∃ b δ3, cond δ1 = .ok (b, δ3) ∧ (δ2 = wipeD is δ3 ∨ ∃ v δ4, elt δ3 = .ok (v, δ4) ∧ δ2 = wipeD is δ4))) → (∀ j, j ∉ is → δ1[j]? = δ[j]?) → P ⟨cs.σ, δ2, B', H'⟩)
    (hraise : ∀ k (H' : Hp), res (.raise k) → Rx cs H' → E1 (cn k) Option.none H') (hstuck : ¬ res .stuck)
    (hend : ∀ acc δ B H, Lw K Z cs P L acc δ B H → (∀ j, j ∈ is → ∀ o b, δ[j]? ≠ some (.own o b)) → res (.ok (acc, δ)) → Q H) (hP0 : ∀ (δ : Env') (B H H' : Hp), P ⟨cs.σ, δ, B, H⟩ → P ⟨cs.σ, δ, B, H'⟩)
    {δ : Env'} {B H : Hp} (hw : ∀ j, j ∈ is → ∀ o b, δ[j]? ≠ some (.own o b)) (s0 : Lw K Z cs P L [] δ B H) (hres : res (lcGo tg cond elt is ds [] δ)) :
    ∃ W : Nat → Nat → Hp → Prop, (∃ m, W 0 m H) ∧ ∀ i m H, W i m H →
      (J.stop i H ∧ Q H) ∨ (J.go i H ∧ ∃ Nx : Hp → Prop, (∀ H', Nx H' → ∃ m', m' < m ∧ W (i + 1) m' H') ∧ ∀ x H', J.yld i H x H' → g x cs.σ H' fun σ2 H2 => wipe σ2 is = cs.σ ∧ sT K E1 cn cond σ2 H2 fun b H3 =>
        if b = true then sI K E1 cn elt σ2 H3 fun y H4 => ∃ acc, H4 L = some (.lst acc) ∧ acc.length < sizeLine ∧ Nx (upd H4 L (.lst (acc ++ [y]))) else Nx H3) := by
  refine ⟨fun i m H => m = ds.length - i ∧ i ≤ ds.length ∧ ∃ acc δ B, Lw K Z cs P L acc δ B H ∧ (∀ j, j ∈ is → ∀ o b, δ[j]? ≠ some (.own o b)) ∧ res (lcGo tg cond elt is (ds.drop i) acc δ), ⟨ds.length, rfl, Nat.zero_le _, [], δ, B, s0, hw, hres⟩, ?_⟩
  rintro i m H' ⟨rfl, hi, acc, δ', B', lw, hw', hr⟩
  obtain ⟨k1, k2⟩ := hJ i ⟨cs.σ, δ', B', H'⟩ lw.s lw.p
  by_cases hlt : i < ds.length
  · obtain ⟨kg, ky⟩ := k1 ds[i] (List.getElem?_eq_getElem hlt)
    rw [List.drop_eq_getElem_cons hlt] at hr
    simp only [lcGo] at hr
    refine .inr ⟨kg, fun H3 => ∃ acc δ B, Lw K Z cs P L acc δ B H3 ∧ (∀ j, j ∈ is → ∀ o b, δ[j]? ≠ some (.own o b)) ∧ res (lcGo tg cond elt is (ds.drop (i + 1)) acc δ), fun H3 ⟨a, b, c, d⟩ => ⟨ds.length - (i + 1), by omega, rfl, hlt, a, b, c, d⟩, fun x H'' hy => ?_⟩
    obtain ⟨B2, s2, x2, r2⟩ := ky x H'' hy
    cases et : tg ds[i] δ' with
    | none =>
      simp only [et] at hr
      exact (hstuck hr).elim
    | some δ1 =>
      simp only [et] at hr
      refine ht Z ⟨cs.σ, δ', B2, H''⟩ _ _ _ _ s2 r2 et fun σ2 s3 x3 hl3 hk3 => ?_
      have hwe : wipe σ2 is = cs.σ := by
        have h1 : wipe σ2 is = wipe cs.σ is := wipe_eq hl3 fun j hj => (hk3 j hj).1
        have h2 : wipe (wipe τ is) is = wipe τ is := wipe_eq (by rw [wipe_length]) fun j hj => wipe_out hj
        rw [h1, ← hτ, h2]
      refine ⟨hwe, ?_⟩
      -- the list L stands still
      obtain ⟨vs0, hL, rL⟩ := lw.l
      have fr2 : ∀ {c' : Cf}, Ext ⟨cs.σ, δ', B', H'⟩ c' → c'.H L = some (.lst vs0) ∧ c'.B L = none ∧ ¬ owns c' L := fun {c'} e => e.fr L _ hL lw.b lw.o
      have x4 : Ext ⟨cs.σ, δ', B', H'⟩ ⟨σ2, δ1, B2, H''⟩ := x2.trans x3
      cases ec : cond δ1 with
      | raise k =>
        rw [ec] at hr
        refine ⟨Z, B2, δ1, s3, ?_⟩
        rw [ec]
        exact fun H' rx => hraise k H' hr (Rx.of (lw.x.trans x4) rx)
      | stuck =>
        rw [ec] at hr
        exact (hstuck hr).elim
      | ok pc =>
        obtain ⟨b, δ3⟩ := pc
        rw [ec] at hr
        simp only [Res.bind] at hr
        refine ⟨Z, B2, δ1, s3, ?_⟩
        rw [ec]
        intro B3 H3 b' s5 x5 eb
        cases (show b = b' from eb)
        have x6 : Ext ⟨cs.σ, δ', B', H'⟩ ⟨σ2, δ3, B3, H3⟩ := x4.trans x5
        have sm6 : Same B' B3 := x6.same
        cases b with
        | false =>
          simp only [Bool.false_eq_true, if_false] at hr ⊢
          split at hr
          · rename_i hfa
            obtain ⟨s7, x7⟩ := wipe_S s5 hfa
            have s7 : S K Z ⟨wipe σ2 is, wipeD is δ3, B3, H3⟩ := s7
            have x7 : Ext ⟨cs.σ, δ', B', H'⟩ ⟨wipe σ2 is, wipeD is δ3, B3, H3⟩ := x6.trans x7
            rw [hwe] at s7 x7
            refine ⟨acc, wipeD is δ3, B3, ⟨s7, lw.x.trans x7, ?_, ⟨vs0, (fr2 x7).1, reps_mono sm6 _ _ rL⟩, (fr2 x7).2.1, (fr2 x7).2.2⟩, fun j hj o b h => ?_, hr⟩
            · exact hP _ _ _ _ _ _ _ _ lw.p et sm6 (.inr ⟨_, _, ec, .inl rfl⟩) fun j hj => (hk3 j hj).2
            · by_cases hjl : j < δ3.length
              · rw [wipeD_in hj hjl] at h
                cases h
              · rw [List.getElem?_eq_none (by rw [wipeD_len]; omega)] at h
                cases h
          · exact (hstuck hr).elim
        | true =>
          simp only [if_true] at hr ⊢
          cases ee : elt δ3 with
          | raise k =>
            rw [ee] at hr
            refine ⟨Z, B3, δ3, s5, ?_⟩
            rw [ee]
            exact fun H' rx => hraise k H' hr (Rx.of (lw.x.trans x6) rx)
          | stuck =>
            rw [ee] at hr
            exact (hstuck hr).elim
          | ok q =>
            obtain ⟨v, δ4⟩ := q
            rw [ee] at hr
            simp only [Res.bind] at hr
            refine ⟨Z, B3, δ3, s5, ?_⟩
            rw [ee]
            intro B4 H4 y s8 x8 ry
            have x9 : Ext ⟨cs.σ, δ', B', H'⟩ ⟨σ2, δ4, B4, H4⟩ := x6.trans x8
            split at hr
            · rename_i hcond
              simp only [Bool.and_eq_true, decide_eq_true_eq] at hcond
              obtain ⟨hal, hfa⟩ := hcond
              obtain ⟨s7, x7⟩ := wipe_S s8 hfa
              have s7 : S K Z ⟨wipe σ2 is, wipeD is δ4, B4, H4⟩ := s7
              have x7 : Ext ⟨cs.σ, δ', B', H'⟩ ⟨wipe σ2 is, wipeD is δ4, B4, H4⟩ := x9.trans x7
              rw [hwe] at s7 x7
              obtain ⟨f1, f2, f3⟩ := fr2 x7
              have rL4 : reps K Z B4 acc vs0 := reps_mono x9.same _ _ rL
              refine ⟨vs0, (fr2 x9).1, ?_, acc ++ [v], wipeD is δ4, B4, ⟨?_, ?_, ?_, ⟨vs0 ++ [y], upd_same, reps_append rL4 (reps_one ry)⟩, f2, f3⟩, fun j hj o b h => ?_, hr⟩
              · rw [reps_len rL]
                exact Nat.lt_of_lt_of_le hal (by decide)
              · exact S.extra (c := ⟨cs.σ, wipeD is δ4, B4, H4⟩) s7 (fun z => by have f1' : H4 L = _ := f1; have z' : H4 L = none := z; rw [f1'] at z'; cases z') f2 f3
              · have x10 := lw.x.trans x7
                refine ⟨x10.same, fun a ha => ?_, fun a u h1 h2 h3 => ?_, x10.pin, x10.src⟩
                · have ha : upd H4 L (.lst (vs0 ++ [y])) a = none := ha
                  by_cases e : a = L
                  · subst e
                    rw [upd_same] at ha
                    cases ha
                  · rw [upd_ne e] at ha
                    exact x10.dom a ha
                · obtain ⟨g1, g2, g3⟩ := x10.fr a u h1 h2 h3
                  refine ⟨?_, g2, g3⟩
                  show upd H4 L (.lst (vs0 ++ [y])) a = some u
                  rw [upd_ne (ne_of_none h1 hfresh)]
                  exact g1
              · exact hP0 _ _ _ _ (hP _ _ _ _ _ H' H4 _ lw.p et x9.same (.inr ⟨_, _, ec, .inr ⟨_, _, ee, rfl⟩⟩) fun j hj => (hk3 j hj).2)
              · by_cases hjl : j < δ4.length
                · rw [wipeD_in hj hjl] at h
                  cases h
                · rw [List.getElem?_eq_none (by rw [wipeD_len]; omega)] at h
                  cases h
            · exact (hstuck hr).elim
  · have e : i = ds.length := by omega
    refine .inl ⟨k2 (by omega), ?_⟩
    rw [e, List.drop_length] at hr
    exact hend acc δ' B' H' lw hw' hr
theorem lc_run {is : List Nat} {it : Sem' (List D)} {G : (Addr → Prop) → Hp → Cf → List D → It → Prop} {PP : Cf → Cf → Prop} {g : TG} {tg : D → Env' → Option Env'} {cond : Sem' Bool} {elt : Sem' D} {wi : TI} {σ : L2.St} {H : Hp} {Q : VK}
    (hwi : ∀ σ H R, sG K E cn G it σ H R → wi σ H R) (hG : ∀ Z H0 c ds J, G Z H0 c ds J → ItOk K Z (PP c) J ds) (ht : TgS K is g tg)
    (hP1 : ∀ c : Cf, ∀ H', PP c ⟨wipe c.σ is, wipeD is c.δ, c.B, H'⟩) (hP0 : ∀ c (τ : L2.St) (δ : Env') (B H H' : Hp), PP c ⟨τ, δ, B, H⟩ → PP c ⟨τ, δ, B, H'⟩)
    (hP : ∀ (c : Cf) (δ δ1 δ2 : Env') (B B' H H' : Hp) (d : D), PP c ⟨wipe c.σ is, δ, B, H⟩ → tg d δ = some δ1 → Same B B' → (δ2 = wipeD is δ ∨ (∃ b δ3, cond δ1 = .ok (b, δ3) ∧ (δ2 = wipeD is δ3 ∨ ∃ v δ4, elt δ3 = .ok (v, δ4) ∧ δ2 = wipeD is δ4))) → (∀ j, j ∉ is → δ1[j]? = δ[j]?) → PP c ⟨wipe c.σ is, δ2, B', H'⟩)
    (h : sE K E cn (vLc it tg cond elt is) σ H Q) : tLc wi g (sT K E1 cn cond) (sI K E1 cn elt) is σ H Q := by
  obtain ⟨Z, B, δ, s, p⟩ := h
  refine hwi σ H _ (sG_mono (sub (G := G) (c0 := ⟨σ, δ, B, H⟩) (c1 := ⟨σ, δ, B, H⟩) s (Ext.refl _) rfl p) fun J H1 ⟨ds, δ1, B1, e1, s1, x1, _, g1, p1⟩ => ?_)
  intro L hL
  split at p1
  · rename_i hfa
    obtain ⟨sw, xw⟩ := wipe_S (c := ⟨σ, δ1, B1, H1⟩) s1 hfa
    have sw : S K Z ⟨wipe σ is, wipeD is δ1, B1, H1⟩ := sw
    obtain ⟨sn, xn, bn, on⟩ := sw.new (u := .lst []) hL
    have noown : ∀ j, j ∈ is → ∀ o b, (wipeD is δ1)[j]? ≠ some (Slot.own o b) := fun j hj o b h => by
      by_cases hjl : j < δ1.length
      · rw [wipeD_in hj hjl] at h
        cases h
      · rw [List.getElem?_eq_none (by rw [wipeD_len]; omega)] at h
        cases h
    refine lc_of (Z := Z) (cs := ⟨wipe σ is, wipeD is δ1, B1, H1⟩) (P := PP ⟨σ, δ1, B1, H1⟩) (τ := σ) (L := L) (res := fun m => Post K E cn Z (RR K Z) ⟨σ, δ, B, H⟩ (m.nr.bind fun q => .ok (.frs (.lst q.1), back1 δ1 is q.2)) Q)
      ht rfl (hG _ _ _ _ _ g1) hL (fun a b c d e f g h i j k l m => hP _ a b c d e f g h i j k l m) (fun k _ hr _ => False.elim hr) (fun hr => hr) ?_ (fun δ B H H' hp => hP0 _ _ _ _ _ _ hp) noown ⟨sn, xn, hP1 ⟨σ, δ1, B1, H1⟩ _, ⟨[], upd_same, rfl⟩, bn, ?_⟩ p1
    · intro acc δ2 B2 H2 lw hw2 hr
      obtain ⟨s3, x3⟩ := back_S (c := ⟨σ, δ1, B1, H1⟩) s1 hfa lw.s lw.x hw2
      obtain ⟨vs, h1, h2⟩ := lw.l
      refine hr B2 H2 (.ref L) s3 (x1.trans x3) ⟨L, rfl, s1.z L hL, lw.b, x1.dom L hL, ⟨vs, h1, h2⟩, fun ⟨j, o, b, k1, k2⟩ => ?_⟩
      have k1 : (back1 δ1 is δ2)[j]? = _ := k1
      have k2 : σ[j]? = _ := k2
      have hlen : δ2.length = δ1.length := by
        have q1 : (wipe σ is).length = δ2.length := lw.s.len
        rw [wipe_length] at q1
        rw [← q1]
        exact s1.len
      by_cases hj : j ∈ is
      · rw [back1_in hlen hj] at k1
        obtain ⟨p', e1', _, _, ho⟩ := s1.slot j _ k1
        have e1' : σ[j]? = _ := e1'
        rw [k2] at e1'
        cases e1'
        obtain ⟨u, hu⟩ := ho.some
        have hu : H1 L = some u := hu
        rw [hL] at hu
        cases hu
      · rw [back1_out hj] at k1
        exact lw.o ⟨j, o, b, k1, by show (wipe σ is)[j]? = _; rw [wipe_out hj]; exact k2⟩
    · exact on
  · exact p1.elim
theorem lc_plain {is : List Nat} {it : Sem' (List D)} {g : TG} {tg : D → Env' → Option Env'} {cond : Sem' Bool} {elt : Sem' D} {σ : L2.St} {H : Hp} {Q : VK} (ht : TgS K is g tg)
    (h : sE K E cn (vLc it tg cond elt is) σ H Q) : tLc (sIt K E cn it) g (sT K E1 cn cond) (sI K E1 cn elt) is σ H Q :=
  lc_run (G := GI K) (PP := fun c c' => Same c.B c'.B) (fun _ _ _ h => h) (fun _ _ _ _ _ h => h) ht (fun _ _ _ _ h => h) (fun _ _ _ _ _ _ h => h) (fun _ _ _ _ _ _ _ _ _ h _ sm _ _ => h.trans sm) h
theorem lc_runX {is : List Nat} {it : Sem' (List D)} {G : (Addr → Prop) → Hp → Cf → List D → It → Prop} {PP : Cf → Cf → Prop} {g : TG} {tg : D → Env' → Option Env'} {cond : Sem' Bool} {elt : Sem' D} {wi : TI} {σ : L2.St} {H : Hp} {Q : VK}
    (hwi : ∀ σ H R, sG K E cn G it σ H R → wi σ H R) (hG : ∀ Z H0 c ds J, G Z H0 c ds J → ItOk K Z (PP c) J ds) (ht : TgS K is g tg)
    (hP1 : ∀ c : Cf, ∀ H', PP c ⟨wipe c.σ is, wipeD is c.δ, c.B, H'⟩) (hP0 : ∀ c (τ : L2.St) (δ : Env') (B H H' : Hp), PP c ⟨τ, δ, B, H⟩ → PP c ⟨τ, δ, B, H'⟩)
    (hP : ∀ (c : Cf) (δ δ1 δ2 : Env') (B B' H H' : Hp) (d : D), PP c ⟨wipe c.σ is, δ, B, H⟩ → tg d δ = some δ1 → Same B B' → (δ2 = wipeD is δ ∨ (∃ b δ3, cond δ1 = .ok (b, δ3) ∧ (δ2 = wipeD is δ3 ∨ ∃ v δ4, elt δ3 = .ok (v, δ4) ∧ δ2 = wipeD is δ4))) → (∀ j, j ∉ is → δ1[j]? = δ[j]?) → PP c ⟨wipe c.σ is, δ2, B', H'⟩)
    (h : sE K E cn (vLcX it tg cond elt is) σ H Q) : tLc wi g (sT K E cn cond) (sI K E cn elt) is σ H Q := by
  obtain ⟨Z, B, δ, s, p⟩ := h
  refine hwi σ H _ (sG_mono (sub (G := G) (c0 := ⟨σ, δ, B, H⟩) (c1 := ⟨σ, δ, B, H⟩) s (Ext.refl _) rfl p) fun J H1 ⟨ds, δ1, B1, e1, s1, x1, _, g1, p1⟩ => ?_)
  intro L hL
  split at p1
  · rename_i hfa
    obtain ⟨sw, xw⟩ := wipe_S (c := ⟨σ, δ1, B1, H1⟩) s1 hfa
    have sw : S K Z ⟨wipe σ is, wipeD is δ1, B1, H1⟩ := sw
    obtain ⟨sn, xn, bn, on⟩ := sw.new (u := .lst []) hL
    have noown : ∀ j, j ∈ is → ∀ o b, (wipeD is δ1)[j]? ≠ some (Slot.own o b) := fun j hj o b h => by
      by_cases hjl : j < δ1.length
      · rw [wipeD_in hj hjl] at h
        cases h
      · rw [List.getElem?_eq_none (by rw [wipeD_len]; omega)] at h
        cases h
    refine lc_of (E1 := E) (Z := Z) (cs := ⟨wipe σ is, wipeD is δ1, B1, H1⟩) (P := PP ⟨σ, δ1, B1, H1⟩) (τ := σ) (L := L) (res := fun m => Post K E cn Z (RR K Z) ⟨σ, δ, B, H⟩ (m.bind fun q => .ok (.frs (.lst q.1), back1 δ1 is q.2)) Q)
      ht rfl (hG _ _ _ _ _ g1) hL (fun a b c d e f g h i j k l m => hP _ a b c d e f g h i j k l m) (fun k H' hr rx => hr H' (Rx.of (x1.trans xw) rx)) (fun hr => hr) ?_ (fun δ B H H' hp => hP0 _ _ _ _ _ _ hp) noown ⟨sn, xn, hP1 ⟨σ, δ1, B1, H1⟩ _, ⟨[], upd_same, rfl⟩, bn, ?_⟩ p1
    · intro acc δ2 B2 H2 lw hw2 hr
      obtain ⟨s3, x3⟩ := back_S (c := ⟨σ, δ1, B1, H1⟩) s1 hfa lw.s lw.x hw2
      obtain ⟨vs, h1, h2⟩ := lw.l
      refine hr B2 H2 (.ref L) s3 (x1.trans x3) ⟨L, rfl, s1.z L hL, lw.b, x1.dom L hL, ⟨vs, h1, h2⟩, fun ⟨j, o, b, k1, k2⟩ => ?_⟩
      have k1 : (back1 δ1 is δ2)[j]? = _ := k1
      have k2 : σ[j]? = _ := k2
      have hlen : δ2.length = δ1.length := by
        have q1 : (wipe σ is).length = δ2.length := lw.s.len
        rw [wipe_length] at q1
        rw [← q1]
        exact s1.len
      by_cases hj : j ∈ is
      · rw [back1_in hlen hj] at k1
        obtain ⟨p', e1', _, _, ho⟩ := s1.slot j _ k1
        have e1' : σ[j]? = _ := e1'
        rw [k2] at e1'
        cases e1'
        obtain ⟨u, hu⟩ := ho.some
        have hu : H1 L = some u := hu
        rw [hL] at hu
        cases hu
      · rw [back1_out hj] at k1
        exact lw.o ⟨j, o, b, k1, by show (wipe σ is)[j]? = _; rw [wipe_out hj]; exact k2⟩
    · exact on
  · exact p1.elim
theorem lc_plainX {is : List Nat} {it : Sem' (List D)} {g : TG} {tg : D → Env' → Option Env'} {cond : Sem' Bool} {elt : Sem' D} {σ : L2.St} {H : Hp} {Q : VK} (ht : TgS K is g tg)
    (h : sE K E cn (vLcX it tg cond elt is) σ H Q) : tLc (sIt K E cn it) g (sT K E cn cond) (sI K E cn elt) is σ H Q :=
  lc_runX (G := GI K) (PP := fun c c' => Same c.B c'.B) (fun _ _ _ h => h) (fun _ _ _ _ _ h => h) ht (fun _ _ _ _ h => h) (fun _ _ _ _ _ _ h => h) (fun _ _ _ _ _ _ _ _ _ h _ sm _ _ => h.trans sm) h
theorem wipeD_twice (is : List Nat) (δ : Env') : wipeD is (wipeD is δ) = wipeD is δ := wipeD_eq (wipeD_len is δ) fun j hj => wipeD_out hj
theorem lc_place {is : List Nat} {k : Nat} {g : TG} {tg : D → Env' → Option Env'} {cond : Sem' Bool} {elt : Sem' D} {σ : L2.St} {H : Hp} {Q : VK} (ht : TgS K is g tg) (hk : k ∉ is) (hc : Pure cond) (he : Pure elt)
    (h : sE K E cn (vLc (vItP k) tg cond elt is) σ H Q) : tLc (sItp k K E cn (vItP k)) g (sT K E1 cn cond) (sI K E1 cn elt) is σ H Q :=
  lc_run (G := GIp k K) (PP := fun c c' => Same c.B c'.B ∧ c'.σ[k]? = c.σ[k]? ∧ c'.δ[k]? = c.δ[k]?) (fun _ _ _ h => h) (fun _ _ _ _ _ h => h) ht (fun c _ => ⟨fun _ _ h => h, wipe_out hk, wipeD_out hk⟩) (fun _ _ _ _ _ _ h => h)
    (fun c δ δ1 δ2 B B' H H' d ⟨h1, h2, h3⟩ _ sm h4 hk1 => ⟨h1.trans sm, h2, by
      have e : δ2[k]? = δ[k]? := by
        rcases h4 with rfl | ⟨b, δ3, e3, h4⟩
        · exact wipeD_out hk
        · have e3' := hc _ _ _ e3
          subst e3'
          rcases h4 with rfl | ⟨v, δ4, e4, rfl⟩
          · rw [wipeD_out hk, hk1 k hk]
          · have e4' := he _ _ _ e4
            subst e4'
            rw [wipeD_out hk, hk1 k hk]
      show δ2[k]? = _
      rw [e]
      exact h3⟩) h
end
end VI

set_option Elab.async false
set_option linter.all false
set_option maxRecDepth 100000
set_option maxHeartbeats 4000000
/-! Defs and their calls. -/
namespace VI
open PySem PySem.Spec PyProof.Rows L2
inductive FRes where
  | ret (r : R) (outs : List Slot) | raise (c : Nat) | stuck
/-- what a def does with its parameters' slots -/
abbrev Fn := List Slot → FRes
/-- what an end of a def asks -/
def RX (K : PySem.W.Frag) (Z : Addr → Prop) (H0 : Hp) (c : Cf) : R → V → Prop
  | .imm d, v => rep K Z c.B d v
  | .frs o, v => ∃ p, v = .ref p ∧ Z p ∧ c.B p = none ∧ H0 p = none ∧ Hol K Z c.B o (c.H p) ∧ ¬ owns c p
  | .pl _, _ => False
/-- no slot is the def's own at the entry -/
def noU (δ : Env') : Bool := δ.all fun s => match s with
  | .own _ b => b
  | _ => true
def PostF (K : PySem.W.Frag) (cn : Nat → Value) (Z : Addr → Prop) (c0 : Cf) (m : FRes) (Q : VK) (E : XK) : Prop := match m with
  | .ret r δ' => ∀ B' H' v, S K Z ⟨c0.σ, δ', B', H'⟩ → Ext c0 ⟨c0.σ, δ', B', H'⟩ → RX K Z c0.H ⟨c0.σ, δ', B', H'⟩ r v → Q v H'
  | .raise k => ∀ H', Rx c0 H' → E (cn k) Option.none H'
  | .stuck => False
/-- a def's promise: n parameters -/
def spF (K : PySem.W.Frag) (cn : Nat → Value) (n : Nat) (F : Fn) : Sp := fun vs H Q E => vs.length = n ∧ ∃ (Z : Addr → Prop) (B : Hp) (δ : Env'), S K Z ⟨vs.map some, δ, B, H⟩ ∧ noU δ = true ∧ PostF K cn Z ⟨vs.map some, δ, B, H⟩ (F δ) Q E
/-! ### the call -/
/-- an argument: what is new stands still from here on -/
def vArg (f : Sem' R) : Sem' R := fun δ => (f δ).bind fun p => match p.1 with
  | .frs (.lst ds) => .ok (.imm (.lst ds), p.2)
  | .frs _ => .stuck
  | r => .ok (r, p.2)
def slotsOf (δ : Env') : List R → Option (List Slot)
  | [] => some []
  | .imm d :: rs => (slotsOf δ rs).map (.imm d false :: ·)
  | .frs _ :: _ => none
  | .pl i :: rs => match δ[i]? with
    | some (.imm d _) => (slotsOf δ rs).map (.imm d false :: ·)
    | some (.own o _) => (slotsOf δ rs).map (.own o true :: ·)
    | _ => none
def places : List R → List Nat
  | [] => []
  | .pl i :: rs => i :: places rs
  | _ :: rs => places rs
def back : List R → List Slot → Env' → Option Env'
  | [], _, δ => some δ
  | .pl i :: rs, s :: outs, δ => match δ[i]? with
    | some (.own _ b) => (match s with
      | .own o' _ => back rs outs (δ.set i (.own o' b))
      | .imm d _ => back rs outs (δ.set i (.imm d b))
      | .none => none)
    | _ => back rs outs δ
  | _ :: rs, _ :: outs, δ => back rs outs δ
  | _ :: _, [], _ => none
def callK (F : Fn) (n : Nat) (dflt : List D) (p : List R × Env') : Res (R × Env') :=
  if decide (places p.1).Nodup && decide (p.1.length + dflt.length = n) then (match slotsOf p.2 p.1 with
    | some ss => (match F (ss ++ dflt.map fun d => .imm d false) with
      | .ret r outs => (match back p.1 outs p.2 with
        | some δ' => (match r with
          | .pl _ => .stuck
          | r => .ok (r, δ'))
        | none => .stuck)
      | .raise k => .raise k
      | .stuck => .stuck)
    | none => .stuck) else .stuck
def vCall (F : Fn) (n : Nat) (dflt : List D) (g : Sem' (List R)) : Sem' R := fun δ => (g δ).bind (callK F n dflt)
section
variable {K : PySem.W.Frag} {E : XK} {cn : Nat → Value} {Z : Addr → Prop} {H0 H1 : Hp} {c c0 c1 c' : Cf} {X : Cx}
theorem vArg_of {f : Sem' R} {σ : L2.St} {H : Hp} {Q : VK} (h : sE K E cn (vArg f) σ H Q) : sE K E cn f σ H Q := by
  obtain ⟨Z, B, δ, s, p⟩ := h
  refine sG_mono (sub (G := fun Z => RR K Z) (c0 := ⟨σ, δ, B, H⟩) (c1 := ⟨σ, δ, B, H⟩) s (Ext.refl _) rfl p) fun x H1 ⟨r1, δ1, B1, e1, s1, x1, _, g1, p1⟩ => ?_
  cases r1 with
  | imm d => exact p1 B1 H1 x s1 x1 g1
  | pl i => exact p1 B1 H1 x s1 x1 g1
  | frs o =>
    cases o with
    | lst ds =>
      obtain ⟨B', s', x', r'⟩ := st_ok (c0 := ⟨σ, δ, B, H⟩) (c := ⟨σ, δ1, B1, H1⟩) x1 rfl s1 g1 (show st δ1 (.frs (.lst ds)) = some (.lst ds, δ1) from rfl)
      exact p1 B' H1 x s' x' r'
    | dct _ => exact p1.elim
    | dcT _ => exact p1.elim
theorem qv_arg {e : Expr} {f : Sem' R} (h : PE X e (sE X.K E cn f)) : PE X e (sE X.K E cn (vArg f)) := h.imp fun _ _ _ h => vArg_of h
theorem slotsOf_len {δ : Env'} : ∀ {rs : List R} {ss : List Slot}, slotsOf δ rs = some ss → ss.length = rs.length
  | [], _, e => by cases e; rfl
  | .imm d :: rs, _, e => by
    simp only [slotsOf, Option.map_eq_some_iff] at e
    obtain ⟨t, e1, rfl⟩ := e
    rw [List.length_cons, List.length_cons, slotsOf_len e1]
  | .frs _ :: rs, _, e => by cases e
  | .pl i :: rs, _, e => by
    simp only [slotsOf] at e
    split at e
    · simp only [Option.map_eq_some_iff] at e
      obtain ⟨t, e1, rfl⟩ := e
      rw [List.length_cons, List.length_cons, slotsOf_len e1]
    · simp only [Option.map_eq_some_iff] at e
      obtain ⟨t, e1, rfl⟩ := e
      rw [List.length_cons, List.length_cons, slotsOf_len e1]
    · cases e
/-- the parameter at k: which slot of the caller it is, or data -/
theorem slotsOf_at (s : S K Z c) : ∀ {rs : List R} {vs : List V} {ss : List Slot}, RRs K Z H0 c rs vs → slotsOf c.δ rs = some ss → ∀ (k : Nat) (sl : Slot), ss[k]? = some sl → ∃ v : V, vs[k]? = some v ∧
    ((∃ d : D, sl = Slot.imm d false ∧ rep K Z c.B d v) ∨ (∃ (i : Nat) (o : O) (b : Bool), rs[k]? = some (R.pl i) ∧ c.δ[i]? = some (Slot.own o b) ∧ sl = Slot.own o true ∧ c.σ[i]? = some (some v)))
  | [], _, _, _, e, k, sl, h => by cases e; simp at h
  | .frs _ :: rs, _, _, _, e, _, _, _ => by cases e
  | .imm d :: rs, _, _, ⟨v, t, rfl, h1, h2⟩, e, k, sl, h => by
    simp only [slotsOf, Option.map_eq_some_iff] at e
    obtain ⟨u, e1, rfl⟩ := e
    cases k with
    | zero =>
      simp at h
      exact ⟨v, rfl, .inl ⟨d, h.symm, h1⟩⟩
    | succ k =>
      simp at h
      obtain ⟨w, g1, g2⟩ := slotsOf_at s h2 e1 k sl h
      exact ⟨w, by simpa using g1, by simpa using g2⟩
  | .pl i :: rs, _, _, ⟨v, t, rfl, h1, h2⟩, e, k, sl, h => by
    simp only [slotsOf] at e
    have hv : c.σ[i]? = some (some v) := h1
    split at e
    · rename_i d b ei
      simp only [Option.map_eq_some_iff] at e
      obtain ⟨u, e1, rfl⟩ := e
      cases k with
      | zero =>
        simp at h
        obtain ⟨x, ex, rx⟩ := s.slot i _ ei
        rw [hv] at ex
        cases ex
        exact ⟨v, rfl, .inl ⟨d, h.symm, rx⟩⟩
      | succ k =>
        simp at h
        obtain ⟨w, g1, g2⟩ := slotsOf_at s h2 e1 k sl h
        exact ⟨w, by simpa using g1, by simpa using g2⟩
    · rename_i o b ei
      simp only [Option.map_eq_some_iff] at e
      obtain ⟨u, e1, rfl⟩ := e
      cases k with
      | zero =>
        simp at h
        exact ⟨v, rfl, .inr ⟨i, o, b, rfl, ei, h.symm, hv⟩⟩
      | succ k =>
        simp at h
        obtain ⟨w, g1, g2⟩ := slotsOf_at s h2 e1 k sl h
        exact ⟨w, by simpa using g1, by simpa using g2⟩
    · cases e
theorem places_at : ∀ {rs : List R} {k : Nat} {i : Nat}, rs[k]? = some (.pl i) → i ∈ places rs
  | [], _, _, h => by simp at h
  | r :: rs, 0, i, h => by
    simp at h
    subst h
    exact List.mem_cons_self
  | r :: rs, k + 1, i, h => by
    simp at h
    have := places_at h
    cases r with
    | pl j => exact List.mem_cons_of_mem _ this
    | imm d => exact this
    | frs o => exact this
theorem places_inj : ∀ {rs : List R}, (places rs).Nodup → ∀ {k l i : Nat}, rs[k]? = some (.pl i) → rs[l]? = some (.pl i) → k = l
  | [], _, _, _, _, h, _ => by simp at h
  | r :: rs, nd, k, l, i, h1, h2 => by
    have nd' : (places rs).Nodup := by
      cases r with
      | pl j => exact (List.nodup_cons.mp nd).2
      | imm d => exact nd
      | frs o => exact nd
    cases k with
    | zero =>
      cases l with
      | zero => rfl
      | succ l =>
        simp at h1 h2
        subst h1
        exact ((List.nodup_cons.mp nd).1 (places_at h2)).elim
    | succ k =>
      cases l with
      | zero =>
        simp at h1 h2
        subst h2
        exact ((List.nodup_cons.mp nd).1 (places_at h1)).elim
      | succ l =>
        simp at h1 h2
        rw [places_inj nd' h1 h2]
/-- the caller's slots behind the call -/
theorem back_at : ∀ {rs : List R} {outs : List Slot} {δ δ' : Env'}, (places rs).Nodup → back rs outs δ = some δ' → δ'.length = δ.length ∧ ∀ (j : Nat) (sl : Slot), δ'[j]? = some sl →
    (∃ (k : Nat) (s : Slot) (o : O) (b : Bool), rs[k]? = some (R.pl j) ∧ outs[k]? = some s ∧ δ[j]? = some (Slot.own o b) ∧ ((∃ (o' : O) (b' : Bool), s = Slot.own o' b' ∧ sl = Slot.own o' b) ∨ (∃ (d : D) (b' : Bool), s = Slot.imm d b' ∧ sl = Slot.imm d b))) ∨ (δ[j]? = some sl ∧ ∀ (o : O) (b : Bool), sl = Slot.own o b → ∀ k : Nat, rs[k]? ≠ some (R.pl j))
  | [], outs, δ, δ', nd, e => by
    cases e
    exact ⟨rfl, fun j sl h => .inr ⟨h, fun _ _ _ k => by simp⟩⟩
  | r :: rs, [], δ, δ', nd, e => by
    cases r <;> cases e
  | .imm d :: rs, s :: outs, δ, δ', nd, e => by
    obtain ⟨h1, h2⟩ := back_at (rs := rs) (outs := outs) nd e
    refine ⟨h1, fun j sl h => ?_⟩
    rcases h2 j sl h with ⟨k, s', o, b, q1, q2, q3⟩ | ⟨q1, q2⟩
    · exact .inl ⟨k + 1, s', o, b, by simpa using q1, by simpa using q2, q3⟩
    · refine .inr ⟨q1, fun o b e k => ?_⟩
      cases k with
      | zero => simp
      | succ k => simpa using q2 o b e k
  | .frs d :: rs, s :: outs, δ, δ', nd, e => by
    obtain ⟨h1, h2⟩ := back_at (rs := rs) (outs := outs) nd e
    refine ⟨h1, fun j sl h => ?_⟩
    rcases h2 j sl h with ⟨k, s', o, b, q1, q2, q3⟩ | ⟨q1, q2⟩
    · exact .inl ⟨k + 1, s', o, b, by simpa using q1, by simpa using q2, q3⟩
    · refine .inr ⟨q1, fun o b e k => ?_⟩
      cases k with
      | zero => simp
      | succ k => simpa using q2 o b e k
  | .pl i :: rs, s :: outs, δ, δ', nd, e => by
    have nd1 : i ∉ places rs := (List.nodup_cons.mp nd).1
    have nd2 : (places rs).Nodup := (List.nodup_cons.mp nd).2
    simp only [back] at e
    -- one slot is put, the others by the rest
    have step : ∀ (sl0 : Slot) (o : O) (b : Bool), δ[i]? = some (Slot.own o b) → ((∃ (o' : O) (b' : Bool), s = Slot.own o' b' ∧ sl0 = Slot.own o' b) ∨ (∃ (d : D) (b' : Bool), s = Slot.imm d b' ∧ sl0 = Slot.imm d b)) → back rs outs (δ.set i sl0) = some δ' → δ'.length = δ.length ∧ ∀ (j : Nat) (sl : Slot), δ'[j]? = some sl →
        (∃ (k : Nat) (s' : Slot) (o : O) (b : Bool), (R.pl i :: rs)[k]? = some (R.pl j) ∧ (s :: outs)[k]? = some s' ∧ δ[j]? = some (Slot.own o b) ∧ ((∃ (o' : O) (b' : Bool), s' = Slot.own o' b' ∧ sl = Slot.own o' b) ∨ (∃ (d : D) (b' : Bool), s' = Slot.imm d b' ∧ sl = Slot.imm d b))) ∨ (δ[j]? = some sl ∧ ∀ (o : O) (b : Bool), sl = Slot.own o b → ∀ k : Nat, (R.pl i :: rs)[k]? ≠ some (R.pl j)) := fun sl0 o b e0 hs eb => by
      obtain ⟨h1, h2⟩ := back_at nd2 eb
      rw [List.length_set] at h1
      refine ⟨h1, fun j sl h => ?_⟩
      rcases h2 j sl h with ⟨k, s', o', b', q1, q2, q3, q4⟩ | ⟨q1, q2⟩
      · have ne : i ≠ j := fun z => nd1 (z ▸ places_at q1)
        rw [List.getElem?_set_ne ne] at q3
        exact .inl ⟨k + 1, s', o', b', by simpa using q1, by simpa using q2, q3, q4⟩
      · rcases get_set q1 with ⟨rfl, rfl⟩ | ⟨ne, q1'⟩
        · exact .inl ⟨0, s, o, b, rfl, rfl, e0, hs⟩
        · refine .inr ⟨q1', fun o b e k => ?_⟩
          cases k with
          | zero => simpa using ne
          | succ k => simpa using q2 o b e k
    split at e
    · rename_i o b ei
      split at e
      · exact step _ o b ei (.inl ⟨_, _, rfl, rfl⟩) e
      · exact step _ o b ei (.inr ⟨_, _, rfl, rfl⟩) e
      · cases e
    · rename_i ei
      obtain ⟨h1, h2⟩ := back_at nd2 e
      refine ⟨h1, fun j sl h => ?_⟩
      rcases h2 j sl h with ⟨k, s', o, b, q1, q2, q3⟩ | ⟨q1, q2⟩
      · exact .inl ⟨k + 1, s', o, b, by simpa using q1, by simpa using q2, q3⟩
      · refine .inr ⟨q1, fun o b e' k => ?_⟩
        cases k with
        | zero =>
          intro z
          simp at z
          subst z
          rw [e'] at q1
          exact ei o b q1
        | succ k => simpa using q2 o b e' k
theorem getElem?_append' {α : Type} {l m : List α} {k : Nat} {x : α} (h : (l ++ m)[k]? = some x) : l[k]? = some x ∨ (l.length ≤ k ∧ m[k - l.length]? = some x) := by
  by_cases hk : k < l.length
  · rw [List.getElem?_append_left hk] at h
    exact .inl h
  · rw [List.getElem?_append_right (by omega)] at h
    exact .inr ⟨by omega, h⟩
/-- the callee's configuration -/
theorem callee_S {rs : List R} {vs dvs : List V} {dflt : List D} {ss : List Slot} (s : S K Z c) (r : RRs K Z H0 c rs vs) (nd : (places rs).Nodup) (e : slotsOf c.δ rs = some ss) (hlen : vs.length = rs.length) (hd : reps K Z c.B dflt dvs) :
    S K Z ⟨(vs ++ dvs).map some, ss ++ dflt.map (fun d => .imm d false), c.B, c.H⟩ ∧ noU (ss ++ dflt.map (fun d => .imm d false)) = true := by
  have hl := slotsOf_len e
  have hdl := reps_len hd
  -- an own slot of the callee is a place
  have ownAt : ∀ {k : Nat} {o : O} {b : Bool}, (ss ++ dflt.map (fun d => Slot.imm d false))[k]? = some (.own o b) → b = true ∧ ∃ (i : Nat) (b' : Bool) (v : V), rs[k]? = some (R.pl i) ∧ c.δ[i]? = some (Slot.own o b') ∧ c.σ[i]? = some (some v) ∧ ((vs ++ dvs).map some)[k]? = some (some v) := fun {k o b} h => by
    rcases getElem?_append' h with h | ⟨_, h⟩
    · obtain ⟨v, hv, q⟩ := slotsOf_at s r e k _ h
      rcases q with ⟨d, q, _⟩ | ⟨i, o', b', q1, q2, q3, q4⟩
      · cases q
      · cases q3
        refine ⟨rfl, i, b', v, q1, q2, q4, ?_⟩
        have hk : k < vs.length := (List.getElem?_eq_some_iff.mp hv).1
        rw [List.getElem?_map, List.getElem?_append_left hk, hv]
        rfl
    · rw [List.getElem?_map] at h
      cases hx : dflt[k - ss.length]? with
      | none => rw [hx] at h; cases h
      | some d => rw [hx] at h; cases h
  refine ⟨⟨s.same, by simp [hl, hlen, hdl], s.z, fun k sl hk => ?_, fun j k o o' b b' a h1 h2 h3 h4 => ?_⟩, ?_⟩
  · rcases getElem?_append' hk with h | ⟨h0, h⟩
    · obtain ⟨v, hv, q⟩ := slotsOf_at s r e k _ h
      have hkl : k < vs.length := (List.getElem?_eq_some_iff.mp hv).1
      have hσ : ((vs ++ dvs).map some)[k]? = some (some v) := by
        rw [List.getElem?_map, List.getElem?_append_left hkl, hv]
        rfl
      show SlotOk K Z c.B c.H (((vs ++ dvs).map some)[k]?) sl
      rw [hσ]
      rcases q with ⟨d, rfl, hr⟩ | ⟨i, o, b, q1, q2, rfl, q4⟩
      · exact ⟨v, rfl, hr⟩
      · obtain ⟨p, e1, z, bp, ho⟩ := s.slot i _ q2
        rw [q4] at e1
        cases e1
        exact ⟨p, rfl, z, bp, ho⟩
    · rw [List.getElem?_map] at h
      cases hx : dflt[k - ss.length]? with
      | none => rw [hx] at h; cases h
      | some d =>
        rw [hx] at h
        cases h
        obtain ⟨v, hv, rv⟩ := reps_get hd hx
        refine ⟨v, ?_, rv⟩
        show ((vs ++ dvs).map some)[k]? = _
        rw [List.getElem?_map, List.getElem?_append_right (by omega), show k - vs.length = k - ss.length by omega, hv]
        rfl
  · obtain ⟨_, i1, b1, v1, p1, q1, r1, w1⟩ := ownAt h1
    obtain ⟨_, i2, b2, v2, p2, q2, r2, w2⟩ := ownAt h2
    rw [show ((vs ++ dvs).map some)[j]? = some (some (.ref a)) from h3] at w1
    rw [show ((vs ++ dvs).map some)[k]? = some (some (.ref a)) from h4] at w2
    cases w1
    cases w2
    have := s.dis i1 i2 _ _ _ _ a q1 q2 r1 r2
    subst this
    exact places_inj nd p1 p2
  · unfold noU
    rw [List.all_eq_true]
    intro sl hsl
    obtain ⟨k, hk⟩ := List.mem_iff_getElem?.mp hsl
    cases sl with
    | own o b => exact (ownAt hk).1
    | imm d b => rfl
    | none => rfl
theorem RRs_len : ∀ {rs : List R} {vs : List V}, RRs K Z H0 c rs vs → vs.length = rs.length
  | [], _, h => by rw [show _ = [] from h]; rfl
  | r :: rs, _, ⟨v, t, rfl, h, u⟩ => by rw [List.length_cons, List.length_cons, RRs_len u]
/-- behind the call -/
theorem caller_S {rs : List R} {vs dvs : List V} {dflt : List D} {ss outs : List Slot} {δ' : Env'} {B' H' : Hp} (s : S K Z c) (r : RRs K Z H0 c rs vs) (nd : (places rs).Nodup) (e : slotsOf c.δ rs = some ss) (hd : reps K Z c.B dflt dvs)
    (s' : S K Z ⟨(vs ++ dvs).map some, outs, B', H'⟩) (x' : Ext ⟨(vs ++ dvs).map some, ss ++ dflt.map (fun d => .imm d false), c.B, c.H⟩ ⟨(vs ++ dvs).map some, outs, B', H'⟩) (eb : back rs outs c.δ = some δ') :
    S K Z ⟨c.σ, δ', B', H'⟩ ∧ Ext c ⟨c.σ, δ', B', H'⟩ := by
  obtain ⟨bl, ba⟩ := back_at nd eb
  have hlen := RRs_len r
  have hl := slotsOf_len e
  -- the callee's own objects are the caller's at the places
  have calleeOwn : ∀ {p : Addr}, owns ⟨(vs ++ dvs).map some, ss ++ dflt.map (fun d => .imm d false), c.B, c.H⟩ p → ∃ (k i : Nat) (o : O) (b : Bool), rs[k]? = some (R.pl i) ∧ c.δ[i]? = some (Slot.own o b) ∧ c.σ[i]? = some (some (V.ref p)) := fun {p} ⟨k, o, b, h1, h2⟩ => by
    have h1 : (ss ++ dflt.map (fun d => Slot.imm d false))[k]? = _ := h1
    have h2 : ((vs ++ dvs).map some)[k]? = _ := h2
    rcases getElem?_append' h1 with h | ⟨_, h⟩
    · obtain ⟨v, hv, q⟩ := slotsOf_at s r e k _ h
      rcases q with ⟨d, q, _⟩ | ⟨i, o', b', q1, q2, q3, q4⟩
      · cases q
      · have hk : k < vs.length := (List.getElem?_eq_some_iff.mp hv).1
        rw [List.getElem?_map, List.getElem?_append_left hk, hv] at h2
        cases h2
        exact ⟨k, i, o', b', q1, q2, q4⟩
    · rw [List.getElem?_map] at h
      cases hx : dflt[k - ss.length]? with
      | none => rw [hx] at h; cases h
      | some d => rw [hx] at h; cases h
  -- a place's value is the parameter's
  have placeVal : ∀ {k i : Nat}, rs[k]? = some (.pl i) → ∃ v, c.σ[i]? = some (some v) ∧ ((vs ++ dvs).map some)[k]? = some (some v) := fun {k i} h => by
    have : ∀ {rs : List R} {vs : List V} {k : Nat}, RRs K Z H0 c rs vs → rs[k]? = some (.pl i) → ∃ v, c.σ[i]? = some (some v) ∧ vs[k]? = some v := fun {rs} => by
      induction rs with
      | nil => intro vs k _ h; simp at h
      | cons r0 rs ih =>
        rintro vs k ⟨v, t, rfl, h1, h2⟩ h
        cases k with
        | zero =>
          simp at h
          subst h
          exact ⟨v, h1, rfl⟩
        | succ k =>
          simp at h
          obtain ⟨w, a1, a2⟩ := ih h2 h
          exact ⟨w, a1, by simpa using a2⟩
    obtain ⟨v, a1, a2⟩ := this r h
    refine ⟨v, a1, ?_⟩
    have hk : k < vs.length := (List.getElem?_eq_some_iff.mp a2).1
    rw [List.getElem?_map, List.getElem?_append_left hk, a2]
    rfl
  -- the caller's other objects stand
  have other : ∀ {j : Nat} {o : O} {b : Bool} {p : Addr}, c.δ[j]? = some (.own o b) → c.σ[j]? = some (some (.ref p)) → (∀ k : Nat, rs[k]? ≠ some (R.pl j)) → H' p = c.H p ∧ B' p = none ∧ ¬ owns ⟨(vs ++ dvs).map some, outs, B', H'⟩ p := fun {j o b p} h1 h2 h3 => by
    obtain ⟨p', e1, z, bp, ho⟩ := s.slot j _ h1
    rw [h2] at e1
    cases e1
    obtain ⟨u, hu⟩ := ho.some
    obtain ⟨g1, g2, g3⟩ := x'.fr p u hu bp fun ow => by
      obtain ⟨k, i, o', b', q1, q2, q3⟩ := calleeOwn ow
      have := s.dis j i _ _ _ _ p h1 q2 h2 q3
      subst this
      exact h3 k q1
    exact ⟨by rw [hu]; exact g1, g2, g3⟩
  -- an own slot behind the call
  have ownAt : ∀ {j : Nat} {o : O} {b : Bool}, δ'[j]? = some (.own o b) → (∃ (k : Nat) (o0 : O) (b' : Bool), rs[k]? = some (R.pl j) ∧ outs[k]? = some (Slot.own o b') ∧ c.δ[j]? = some (Slot.own o0 b)) ∨ (c.δ[j]? = some (Slot.own o b) ∧ ∀ k : Nat, rs[k]? ≠ some (R.pl j)) := fun {j o b} h => by
    rcases ba j _ h with ⟨k, s0, o0, b0, q1, q2, q3, q4⟩ | ⟨q1, q2⟩
    · rcases q4 with ⟨o', b', rfl, q5⟩ | ⟨d, b', rfl, q5⟩
      · cases q5
        exact .inl ⟨k, o0, b', q1, q2, q3⟩
      · cases q5
    · exact .inr ⟨q1, q2 _ _ rfl⟩
  refine ⟨⟨s'.same, by show c.σ.length = δ'.length; rw [bl]; exact s.len, s'.z, fun j sl hj => ?_, fun j k o o' b b' a h1 h2 h3 h4 => ?_⟩, ⟨x'.same, x'.dom, fun q u h1 h2 h3 => ?_, fun j sl hj pj => ?_, fun a ⟨j, o, g1, g2⟩ => ?_⟩⟩
  · rcases ba j sl hj with ⟨k, s0, o0, b0, q1, q2, q3, q4⟩ | ⟨q1, q2⟩
    · obtain ⟨v, w1, w2⟩ := placeVal q1
      have so := s'.slot k _ q2
      show SlotOk K Z B' H' (c.σ[j]?) sl
      rw [w1]
      have so : SlotOk K Z B' H' (((vs ++ dvs).map some)[k]?) s0 := so
      rw [w2] at so
      rcases q4 with ⟨o', b', rfl, rfl⟩ | ⟨d, b', rfl, rfl⟩
      · exact so
      · exact so
    · have old := s.slot j sl q1
      cases sl with
      | none => trivial
      | imm d b =>
        obtain ⟨y, e1, ry⟩ := old
        exact ⟨y, e1, rep_mono x'.same _ _ ry⟩
      | own o b =>
        obtain ⟨p, e1, z, bp, ho⟩ := old
        obtain ⟨g1, g2, _⟩ := other q1 e1 (q2 _ _ rfl)
        exact ⟨p, e1, z, g2, by show Hol K Z B' o (H' p); rw [g1]; exact ho.mono x'.same⟩
  · rcases ownAt h1 with ⟨k1, o1, b1, p1, p2, p3⟩ | ⟨p1, p2⟩
    · rcases ownAt h2 with ⟨k2, o2, b2, r1, r2, r3⟩ | ⟨r1, r2⟩
      · obtain ⟨v1, w1, w2⟩ := placeVal p1
        obtain ⟨v2, w3, w4⟩ := placeVal r1
        exact s.dis j k _ _ _ _ a p3 r3 h3 h4
      · exact s.dis j k _ _ _ _ a p3 r1 h3 h4
    · rcases ownAt h2 with ⟨k2, o2, b2, r1, r2, r3⟩ | ⟨r1, r2⟩
      · exact s.dis j k _ _ _ _ a p1 r3 h3 h4
      · exact s.dis j k _ _ _ _ a p1 r1 h3 h4
  · have nc : ¬ owns ⟨(vs ++ dvs).map some, ss ++ dflt.map (fun d => .imm d false), c.B, c.H⟩ q := fun ow => by
      obtain ⟨k, i, o', b', q1, q2, q3⟩ := calleeOwn ow
      exact h3 ⟨i, o', b', q2, q3⟩
    obtain ⟨g1, g2, g3⟩ := x'.fr q u h1 h2 nc
    refine ⟨g1, g2, fun ⟨j, o, b, k1, k2⟩ => ?_⟩
    rcases ownAt k1 with ⟨k, o1, b1, p1, p2, p3⟩ | ⟨p1, p2⟩
    · exact h3 ⟨j, o1, b, p3, k2⟩
    · exact h3 ⟨j, o, b, p1, k2⟩
  · refine ⟨rfl, ?_⟩
    have hjl : j < δ'.length := by rw [bl]; exact (List.getElem?_eq_some_iff.mp hj).1
    have hg : δ'[j]? = some δ'[j] := List.getElem?_eq_getElem hjl
    refine ⟨_, hg, ?_⟩
    rcases ba j _ hg with ⟨k, s0, o0, b0, q1, q2, q3, q4⟩ | ⟨q1, q2⟩
    · rw [hj] at q3
      cases q3
      rcases q4 with ⟨o', b', _, e5⟩ | ⟨d, b', _, e5⟩
      · rw [e5]; exact pj
      · rw [e5]; exact pj
    · rw [hj] at q1
      cases q1
      exact pj
  · rcases ownAt g1 with ⟨k, o1, b1, p1, p2, p3⟩ | ⟨p1, p2⟩
    · exact .inr ⟨j, o1, p3, g2⟩
    · exact .inr ⟨j, o, p1, g2⟩
/-- as Post, an exception seen from c1 -/
def PostC {α W : Type} (K : PySem.W.Frag) (E : XK) (cn : Nat → Value) (Z : Addr → Prop) (G : Hp → Cf → α → W → Prop) (c0 c1 : Cf) (m : Res (α × Env')) (Q : W → Hp → Prop) : Prop := match m with
  | .ok (r, δ') => ∀ B' H' v, S K Z ⟨c0.σ, δ', B', H'⟩ → Ext c0 ⟨c0.σ, δ', B', H'⟩ → G c0.H ⟨c0.σ, δ', B', H'⟩ r v → Q v H'
  | .raise k => ∀ H', Rx c1 H' → E (cn k) Option.none H'
  | .stuck => False
theorem Post.toC {α W : Type} {G : Hp → Cf → α → W → Prop} {m : Res (α × Env')} {Q : W → Hp → Prop} (x : Ext c0 c1) (p : Post K E cn Z G c0 m Q) : PostC K E cn Z G c0 c1 m Q := by
  cases m with
  | ok a => exact p
  | raise k => exact fun H' rx => p H' (Rx.of x rx)
  | stuck => exact p
theorem call_in {F : Fn} {n : Nat} {dflt : List D} {dvs : List V} {σ : L2.St} {δ δ1 : Env'} {B B1 H H1 : Hp} {vs : List V} {rs : List R} {Q : VK} (hd : ∀ Z B, reps K Z B dflt dvs) (s1 : S K Z ⟨σ, δ1, B1, H1⟩) (x1 : Ext ⟨σ, δ, B, H⟩ ⟨σ, δ1, B1, H1⟩)
    (g1 : RRs K Z H ⟨σ, δ1, B1, H1⟩ rs vs) (p1 : PostC K E cn Z (RR K Z) ⟨σ, δ, B, H⟩ ⟨σ, δ1, B1, H1⟩ (callK F n dflt (rs, δ1)) Q) : spF K cn n F (vs ++ dvs) H1 Q E := by
  unfold callK at p1
  split at p1
  · rename_i hc
    simp only [Bool.and_eq_true, decide_eq_true_eq] at hc
    obtain ⟨nd, hn⟩ := hc
    split at p1
    · rename_i ss es
      obtain ⟨s2, nu⟩ := callee_S s1 g1 nd es (RRs_len g1) (hd Z B1)
      refine ⟨by rw [List.length_append, RRs_len g1, reps_len (hd Z B1)]; exact hn, Z, B1, _, s2, nu, ?_⟩
      cases eF : F (ss ++ dflt.map fun d => .imm d false) with
      | stuck =>
        simp only [eF] at p1
        exact p1.elim
      | raise k =>
        simp only [eF] at p1
        intro H' rx
        refine p1 H' ?_
        obtain ⟨B', a1, a2, a3, a4⟩ := rx
        refine ⟨B', a1, a2, a3, fun q u h1 h2 h3 => a4 q u h1 h2 fun ⟨k, o, b, k1, k2⟩ => ?_⟩
        have k1 : (ss ++ dflt.map (fun d => Slot.imm d false))[k]? = _ := k1
        have k2 : ((vs ++ dvs).map some)[k]? = _ := k2
        rcases getElem?_append' k1 with h | ⟨_, h⟩
        · obtain ⟨v, hv, q⟩ := slotsOf_at s1 g1 es k _ h
          rcases q with ⟨d, q, _⟩ | ⟨i, o', b', q1, q2, q3, q4⟩
          · cases q
          · have hk : k < vs.length := (List.getElem?_eq_some_iff.mp hv).1
            rw [List.getElem?_map, List.getElem?_append_left hk, hv] at k2
            cases k2
            exact h3 ⟨i, o', b', q2, q4⟩
        · rw [List.getElem?_map] at h
          cases hx : dflt[k - ss.length]? with
          | none => rw [hx] at h; cases h
          | some d => rw [hx] at h; cases h
      | ret r outs =>
        simp only [eF] at p1
        cases eb : back rs outs δ1 with
        | none =>
          simp only [eb] at p1
          exact p1.elim
        | some δ2 =>
          simp only [eb] at p1
          intro B' H' v s3 x3 rx
          obtain ⟨s4, x4⟩ := caller_S (c := ⟨σ, δ1, B1, H1⟩) s1 g1 nd es (hd Z B1) s3 x3 eb
          cases r with
          | pl i => exact rx.elim
          | imm d => exact p1 B' H' v s4 (x1.trans x4) rx
          | frs o =>
            obtain ⟨q, e5, z, bq, h0, ho, no⟩ := rx
            refine p1 B' H' v s4 (x1.trans x4) ⟨q, e5, z, bq, x1.dom q h0, ho, fun ⟨j, o', b, k1, k2⟩ => ?_⟩
            have k1 : δ2[j]? = _ := k1
            have k2 : σ[j]? = _ := k2
            obtain ⟨bl, ba⟩ := back_at nd eb
            rcases ba j _ k1 with ⟨k, s0, o0, b0, q1, q2, q3, q4⟩ | ⟨q1, q2⟩
            · obtain ⟨p', e6, _, _, ho'⟩ := s1.slot j _ q3
              have e6 : σ[j]? = _ := e6
              rw [k2] at e6
              cases e6
              obtain ⟨u, hu⟩ := ho'.some
              have hu : H1 q = some u := hu
              rw [show H1 q = none from h0] at hu
              cases hu
            · obtain ⟨p', e6, _, _, ho'⟩ := s1.slot j _ q1
              have e6 : σ[j]? = _ := e6
              rw [k2] at e6
              cases e6
              obtain ⟨u, hu⟩ := ho'.some
              have hu : H1 q = some u := hu
              rw [show H1 q = none from h0] at hu
              cases hu
    · exact p1.elim
  · exact p1.elim
theorem call_of {F : Fn} {n : Nat} {dflt : List D} {dvs : List V} {g : Sem' (List R)} {σ : L2.St} {H : Hp} {Q : VK} (hd : ∀ Z B, reps K Z B dflt dvs) (h : sE K E cn (vCall F n dflt g) σ H Q) : tCall (spF K cn n F) dvs E (sA K E cn g) σ H Q := by
  obtain ⟨Z, B, δ, s, p⟩ := h
  refine sG_mono (sub (G := RRs K) (c0 := ⟨σ, δ, B, H⟩) (c1 := ⟨σ, δ, B, H⟩) s (Ext.refl _) rfl p) fun vs H1 ⟨rs, δ1, B1, e1, s1, x1, _, g1, p1⟩ => ?_
  exact call_in hd s1 x1 g1 (p1.toC x1)
/-- f(e, ..), f a def of the text -/
theorem qv_call {e : Expr} {es : List Expr} {x : Str} {p pos : Pos} {f : Addr} {fd : FuncData} {ps : List Str} {k n : Nat} {F : Fn} {dflt : List D} {dvs : List V} {ds : List Value} {g : Sem' (List R)} (G : FnOk X.prog X.w X.K X.mg X.base (L2.CX X.prog X.w) k f fd ps (spF X.K cn n F)) (hr : Room k X.A) (hg : Gl X x) (hm : X.mg x = some (.ref f))
    (hk : PySem.W.keepIn X.K (.ref f) = true) (hb : Binds X.K fd ps ds) (hd : Vals dvs ds) (hrd : ∀ Z B, reps X.K Z B dflt dvs) (hx : Passes (L2.CX X.prog X.w) X E) (ha : PA X (e :: es) (sA X.K E cn g)) (hdb : (x == ("__debug__" : Str)) = false := by decide)
    (he : starEach (e :: es) X.env = (false, eval e X.env) :: starEach es X.env := by rfl) (hpl : (backTo pos (starEach es X.env)).any (·.1) = false := by rfl) : PE X (.Call (.Name x p) (e :: es) [] pos) (sE X.K E cn (vCall F n dflt g)) :=
  (pe_call G hr hg hm hk hb hd hx ha hdb he hpl).imp fun _ _ _ h => call_of hrd h
/-! ### a def -/
def outs : Nat → List Slot → Env' → List Slot
  | _, [], _ => []
  | j, s :: ss, δ' => (if pinned s then (δ'[j]?).getD .none else .none) :: outs (j + 1) ss δ'
theorem outs_at : ∀ (i : Nat) (ss : List Slot) (δ' : Env') (j : Nat), (outs i ss δ')[j]? = (ss[j]?).map fun s => if pinned s then (δ'[i + j]?).getD .none else .none
  | _, [], _, _ => by simp [outs]
  | i, s :: ss, δ', 0 => by simp [outs]
  | i, s :: ss, δ', j + 1 => by
    show (outs (i + 1) ss δ')[j]? = _
    rw [outs_at (i + 1) ss δ' j, show i + 1 + j = i + (j + 1) by omega]
    simp
theorem outs_len : ∀ (i : Nat) (ss : List Slot) (δ' : Env'), (outs i ss δ').length = ss.length
  | _, [], _ => rfl
  | i, s :: ss, δ' => by
    show (outs (i + 1) ss δ').length + 1 = _
    rw [outs_len]
    rfl
def vDef (n N : Nat) (t : SemS) : Fn := fun δ0 => if δ0.length = n then (match t (δ0 ++ List.replicate (N - n) .none) with
    | .next δ' => .ret (.imm .non) (outs 0 δ0 δ')
    | .ret r δ' => (match r with
      | .imm d => .ret (.imm d) (outs 0 δ0 δ')
      | .frs o => .ret (.frs o) (outs 0 δ0 δ')
      | .pl i => (match δ'[i]? with
        | some (.own o false) => .ret (.frs o) (outs 0 δ0 (δ'.set i .none))
        | some (.own (.lst ds) true) => .ret (.imm (.lst ds)) (outs 0 δ0 (δ'.set i (.imm (.lst ds) true)))
        | some (.imm d _) => .ret (.imm d) (outs 0 δ0 δ')
        | _ => .stuck))
    | .raise k => .raise k
    | _ => .stuck) else .stuck
theorem start_eq {N : List Str} {vs : List V} : start N vs = vs.map some ++ List.replicate (N.length - vs.length) none := rfl
theorem entry_S {N : List Str} {vs : List V} {δ : Env'} {B H : Hp} (s : S K Z ⟨vs.map some, δ, B, H⟩) : S K Z ⟨start N vs, δ ++ List.replicate (N.length - vs.length) .none, B, H⟩ := by
  have hl : (vs.map some).length = δ.length := s.len
  have at1 : ∀ {j : Nat} {sl : Slot}, (δ ++ List.replicate (N.length - vs.length) Slot.none)[j]? = some sl → sl = .none ∨ (δ[j]? = some sl ∧ (start N vs)[j]? = (vs.map some)[j]?) := fun {j sl} h => by
    rcases getElem?_append' h with h | ⟨_, h⟩
    · refine .inr ⟨h, ?_⟩
      have hj : j < (vs.map some).length := by rw [hl]; exact (List.getElem?_eq_some_iff.mp h).1
      rw [start_eq, List.getElem?_append_left hj]
    · rw [List.getElem?_replicate] at h
      split at h
      · cases h; exact .inl rfl
      · cases h
  refine ⟨s.same, ?_, s.z, fun j sl hj => ?_, fun j k o o' b b' a h1 h2 h3 h4 => ?_⟩
  · show (start N vs).length = _
    rw [start_eq, List.length_append, List.length_append, hl, List.length_replicate, List.length_replicate]
  · rcases at1 hj with rfl | ⟨h, e⟩
    · trivial
    · show SlotOk K Z B H ((start N vs)[j]?) sl
      rw [e]
      exact s.slot j sl h
  · rcases at1 h1 with q | ⟨q1, e1⟩
    · cases q
    · rcases at1 h2 with q | ⟨q2, e2⟩
      · cases q
      · exact s.dis j k o o' b b' a q1 q2 (by rw [← e1]; exact h3) (by rw [← e2]; exact h4)
theorem exit_S {N : List Str} {vs : List V} {δ δ' : Env'} {σ' : L2.St} {B H B' H' : Hp} (hnu : noU δ = true) (s : S K Z ⟨vs.map some, δ, B, H⟩) (s' : S K Z ⟨σ', δ', B', H'⟩) (x : Ext ⟨start N vs, δ ++ List.replicate (N.length - vs.length) .none, B, H⟩ ⟨σ', δ', B', H'⟩) :
    S K Z ⟨vs.map some, outs 0 δ δ', B', H'⟩ ∧ Ext ⟨vs.map some, δ, B, H⟩ ⟨vs.map some, outs 0 δ δ', B', H'⟩ ∧ (∀ p, owns ⟨vs.map some, outs 0 δ δ', B', H'⟩ p → owns ⟨σ', δ', B', H'⟩ p) := by
  have hl : (vs.map some).length = δ.length := s.len
  -- at a pinned slot the value is the parameter's
  have startAt : ∀ {j : Nat} {s0 : Slot}, δ[j]? = some s0 → (start N vs)[j]? = (vs.map some)[j]? ∧ (δ ++ List.replicate (N.length - vs.length) Slot.none)[j]? = some s0 := fun {j s0} h => by
    have hj : j < δ.length := (List.getElem?_eq_some_iff.mp h).1
    refine ⟨?_, by rw [List.getElem?_append_left hj]; exact h⟩
    rw [start_eq, List.getElem?_append_left (by omega)]
  have outAt : ∀ {j : Nat} {sl : Slot}, (outs 0 δ δ')[j]? = some sl → sl = .none ∨ (δ'[j]? = some sl ∧ σ'[j]? = (vs.map some)[j]? ∧ ∃ s0, δ[j]? = some s0 ∧ pinned s0 = true ∧ pinned sl = true) := fun {j sl} h => by
    rw [outs_at] at h
    cases e0 : δ[j]? with
    | none => rw [e0] at h; cases h
    | some s0 =>
      rw [e0] at h
      simp only [Option.map_some, Option.some.injEq, Nat.zero_add] at h
      cases hp : pinned s0 with
      | false =>
        rw [hp] at h
        exact .inl h.symm
      | true =>
        rw [hp] at h
        obtain ⟨a1, a2⟩ := startAt e0
        obtain ⟨b1, s2, b2, b3⟩ := x.pin j s0 a2 hp
        have b2 : δ'[j]? = some s2 := b2
        rw [b2] at h
        simp only [if_true, Option.getD_some] at h
        subst h
        exact .inr ⟨b2, by rw [show σ'[j]? = (start N vs)[j]? from b1, a1], s0, rfl, hp, b3⟩
  have ownLess : ∀ p, owns ⟨vs.map some, outs 0 δ δ', B', H'⟩ p → owns ⟨σ', δ', B', H'⟩ p := fun p ⟨j, o, b, h1, h2⟩ => by
    rcases outAt h1 with q | ⟨q1, q2, _⟩
    · cases q
    · exact ⟨j, o, b, q1, by show σ'[j]? = _; rw [q2]; exact h2⟩
  have startOwn : ∀ q, owns ⟨start N vs, δ ++ List.replicate (N.length - vs.length) .none, B, H⟩ q → owns ⟨vs.map some, δ, B, H⟩ q := fun q ⟨j, o, b, h1, h2⟩ => by
    rcases getElem?_append' (show (δ ++ List.replicate (N.length - vs.length) Slot.none)[j]? = _ from h1) with h | ⟨_, h⟩
    · exact ⟨j, o, b, h, by show (vs.map some)[j]? = _; rw [← (startAt h).1]; exact h2⟩
    · rw [List.getElem?_replicate] at h
      split at h
      · cases h
      · cases h
  refine ⟨⟨s'.same, by show (vs.map some).length = _; rw [outs_len]; exact hl, s'.z, fun j sl hj => ?_, fun j k o o' b b' a h1 h2 h3 h4 => ?_⟩, ⟨x.same, x.dom, fun q u h1 h2 h3 => ?_, fun j sl hj pj => ?_, fun a ⟨j, o, g1, g2⟩ => ?_⟩, ownLess⟩
  · rcases outAt hj with rfl | ⟨q1, q2, _⟩
    · trivial
    · show SlotOk K Z B' H' ((vs.map some)[j]?) sl
      rw [← q2]
      exact s'.slot j sl q1
  · rcases outAt h1 with q | ⟨q1, q2, _⟩
    · cases q
    · rcases outAt h2 with q | ⟨r1, r2, _⟩
      · cases q
      · exact s'.dis j k o o' b b' a q1 r1 (by rw [q2]; exact h3) (by rw [r2]; exact h4)
  · obtain ⟨g1, g2, g3⟩ := x.fr q u h1 h2 fun ow => h3 (startOwn q ow)
    exact ⟨g1, g2, fun ow => g3 (ownLess q ow)⟩
  · refine ⟨rfl, ?_⟩
    obtain ⟨a1, a2⟩ := startAt hj
    obtain ⟨b1, s2, b2, b3⟩ := x.pin j sl a2 pj
    refine ⟨s2, ?_, b3⟩
    show (outs 0 δ δ')[j]? = _
    rw [outs_at, show δ[j]? = some sl from hj]
    simp only [Option.map_some, Nat.zero_add, pj, if_true]
    rw [show δ'[j]? = some s2 from b2]
    rfl
  · rcases outAt g1 with q | ⟨q1, q2, s0, _, _, q5⟩
    · cases q
    · cases q5
theorem noU_no {vs : List V} {δ : Env'} {B H : Hp} {p : Addr} (h : noU δ = true) : ¬ ownsU ⟨start N vs, δ ++ List.replicate (N.length - vs.length) .none, B, H⟩ p := fun ⟨j, o, h1, h2⟩ => by
  rcases getElem?_append' (show (δ ++ List.replicate (N.length - vs.length) Slot.none)[j]? = _ from h1) with q | ⟨_, q⟩
  · have := List.all_eq_true.mp h _ (List.mem_of_getElem? q)
    cases this
  · rw [List.getElem?_replicate] at q
    split at q
    · cases q
    · cases q
/-- a def by its body -/
theorem def_ok {N ps : List Str} {n : Nat} {t : SemS} {vs : List V} {H : Hp} {Q : VK} {E : XK} (hN : ps.length = n) (h : spF K cn n (vDef n N.length t) vs H Q E) : sS K E cn t { nx := fun _ H' => Q .non H', rt := Q } (start N vs) H := by
  obtain ⟨hn, Z, B, δ, s, hnu, p⟩ := h
  have hl : (vs.map some).length = δ.length := s.len
  have hl2 : δ.length = n := by rw [← hl, List.length_map, hn]
  unfold vDef at p
  rw [if_pos hl2] at p
  refine ⟨Z, B, δ ++ List.replicate (N.length - vs.length) .none, entry_S s, ?_⟩
  rw [hn]
  have ex : ∀ {σ' δ' B' H'}, S K Z ⟨σ', δ', B', H'⟩ → Ext ⟨start N vs, δ ++ List.replicate (N.length - n) .none, B, H⟩ ⟨σ', δ', B', H'⟩ → _ := fun {σ' δ' B' H'} a b => exit_S (N := N) hnu s a (by rw [hn]; exact b)
  cases e : t (δ ++ List.replicate (N.length - n) .none) with
  | next δ' =>
    simp only [e] at p
    intro σ' B' H' a b
    obtain ⟨s2, x2, _⟩ := ex a b
    exact p B' H' .non s2 x2 rfl
  | brk δ' => simp only [e] at p; exact p.elim
  | cont δ' => simp only [e] at p; exact p.elim
  | stuck => simp only [e] at p; exact p.elim
  | raise k =>
    simp only [e] at p
    intro H' rx
    refine p H' ?_
    obtain ⟨B', a1, a2, a3, a4⟩ := rx
    refine ⟨B', a1, a2, a3, fun q u h1 h2 h3 => a4 q u h1 h2 fun ⟨j, o, b, k1, k2⟩ => ?_⟩
    rcases getElem?_append' (show (δ ++ List.replicate (N.length - n) Slot.none)[j]? = _ from k1) with h | ⟨_, h⟩
    · have hj : j < δ.length := (List.getElem?_eq_some_iff.mp h).1
      have k2 : (start N vs)[j]? = _ := k2
      rw [start_eq, List.getElem?_append_left (by omega)] at k2
      exact h3 ⟨j, o, b, h, k2⟩
    · rw [List.getElem?_replicate] at h
      split at h
      · cases h
      · cases h
  | ret r δ' =>
    simp only [e] at p
    intro σ' B' H' v a b g
    obtain ⟨s2, x2, lo⟩ := ex a b
    cases r with
    | imm d => exact p B' H' v s2 x2 g
    | frs o =>
      obtain ⟨q, e1, z, bq, h0, ho, no⟩ := g
      exact p B' H' v s2 x2 ⟨q, e1, z, bq, h0, ho, fun ow => no (lo q ow)⟩
    | pl i =>
      have g : σ'[i]? = some (some v) := g
      dsimp only at p
      split at p
      · rename_i o ei
        -- the slot lets its object go
        obtain ⟨q, e1, z, bq, ho⟩ := a.slot i _ ei
        have e1 : σ'[i]? = _ := e1
        rw [g] at e1
        cases e1
        have h0 : H q = none := by
          rcases b.src q ⟨i, o, ei, g⟩ with h | h
          · exact h
          · exact (noU_no (N := N) (vs := vs) (B := B) (H := H) hnu (by rw [hn]; exact h)).elim
        have s3 : S K Z ⟨σ', δ'.set i .none, B', H'⟩ := by
          refine ⟨a.same, by show _ = (δ'.set i _).length; rw [List.length_set]; exact a.len, a.z, fun j sl hj => ?_, fun j k o1 o2 b1 b2 w h1 h2 h3 h4 => ?_⟩
          · rcases get_set hj with ⟨rfl, rfl⟩ | ⟨_, hj'⟩
            · trivial
            · exact a.slot j sl hj'
          · rcases get_set h1 with ⟨_, h⟩ | ⟨_, h1'⟩
            · cases h
            · rcases get_set h2 with ⟨_, h⟩ | ⟨_, h2'⟩
              · cases h
              · exact a.dis j k o1 o2 b1 b2 w h1' h2' h3 h4
        have low : ∀ w, owns ⟨σ', δ'.set i .none, B', H'⟩ w → owns ⟨σ', δ', B', H'⟩ w ∧ w ≠ q := fun w ⟨j, o1, b1, h1, h2⟩ => by
          rcases get_set h1 with ⟨_, h⟩ | ⟨ne, h1'⟩
          · cases h
          · exact ⟨⟨j, o1, b1, h1', h2⟩, fun e => ne (a.dis i j _ _ _ _ q ei h1' g (by rw [← e]; exact h2))⟩
        have x3 : Ext ⟨start N vs, δ ++ List.replicate (N.length - n) .none, B, H⟩ ⟨σ', δ'.set i .none, B', H'⟩ := by
          refine ⟨b.same, b.dom, fun w u h1 h2 h3 => ?_, fun j sl hj pj => ?_, fun w ⟨j, o1, h1, h2⟩ => ?_⟩
          · obtain ⟨g1, g2, g3⟩ := b.fr w u h1 h2 h3
            exact ⟨g1, g2, fun ow => g3 (low w ow).1⟩
          · obtain ⟨b1, s4, b2, b3⟩ := b.pin j sl hj pj
            have ne : i ≠ j := by
              rintro rfl
              have b2 : δ'[i]? = some s4 := b2
              rw [ei] at b2
              cases b2
              cases b3
            exact ⟨b1, s4, by show (δ'.set i _)[j]? = _; rw [List.getElem?_set_ne ne]; exact b2, b3⟩
          · rcases get_set h1 with ⟨_, h⟩ | ⟨_, h1'⟩
            · cases h
            · exact b.src w ⟨j, o1, h1', h2⟩
        obtain ⟨s4, x4, lo4⟩ := ex s3 x3
        exact p B' H' _ s4 x4 ⟨q, rfl, z, bq, h0, ho, fun ow => (low q (lo4 q ow)).2 rfl⟩
      · rename_i ds ei
        obtain ⟨B2, s3, x3, r3⟩ := st_ok (r := .pl i) (v := v) (d := .lst ds) (δ' := δ'.set i (.imm (.lst ds) true)) (c0 := ⟨σ', δ', B', H'⟩) (c := ⟨σ', δ', B', H'⟩) (Ext.refl _) rfl a g (by
          show (match δ'[i]? with | some (.own (.lst ds) b) => some (D.lst ds, δ'.set i (.imm (.lst ds) b)) | some (.imm d _) => some (d, δ') | _ => none) = _
          rw [ei])
        obtain ⟨s4, x4, lo4⟩ := ex s3 (b.trans x3)
        exact p B2 H' v s4 x4 r3
      · rename_i d b1 ei
        obtain ⟨y, e1, ry⟩ := a.slot i _ ei
        have e1 : σ'[i]? = _ := e1
        rw [g] at e1
        cases e1
        exact p B' H' _ s2 x2 ry
      · exact p.elim
end
end VI

set_option Elab.async false
set_option linter.all false
set_option maxRecDepth 100000
set_option maxHeartbeats 4000000
/-! Operators, built-ins, methods, by data. -/
namespace VI
open PySem PySem.Spec PyProof.Rows L2
section
variable {K : PySem.W.Frag} {E : XK} {cn : Nat → Value} {Z : Addr → Prop} {B H : Hp} {X : Cx}
/-! ### lists of texts, of numbers -/
def strsOf : List D → Option (List Str)
  | [] => some []
  | .str x :: ds => (strsOf ds).map (x :: ·)
  | _ :: _ => none
def intsOf : List D → Option (List Int)
  | [] => some []
  | .int x :: ds => (intsOf ds).map (x :: ·)
  | _ :: _ => none
theorem strs_rep : ∀ {ds : List D} {vs : List V} {ss : List Str}, strsOf ds = some ss → reps K Z B ds vs → vs = ss.map V.str
  | [], _, _, e, r => by cases e; exact r
  | .str x :: ds, _, _, e, ⟨v, t, rfl, h, u⟩ => by
    simp only [strsOf, Option.map_eq_some_iff] at e
    obtain ⟨ss, e, rfl⟩ := e
    rw [show v = .str x from h, strs_rep e u]
    rfl
  | .non :: _, _, _, e, _ => by cases e
  | .bl _ :: _, _, _, e, _ => by cases e
  | .int _ :: _, _, _, e, _ => by cases e
  | .lst _ :: _, _, _, e, _ => by cases e
  | .tup _ :: _, _, _, e, _ => by cases e
  | .scr _ :: _, _, _, e, _ => by cases e
  | .adr _ :: _, _, _, e, _ => by cases e
theorem ints_rep : ∀ {ds : List D} {vs : List V} {ss : List Int}, intsOf ds = some ss → reps K Z B ds vs → vs = ss.map V.int
  | [], _, _, e, r => by cases e; exact r
  | .int x :: ds, _, _, e, ⟨v, t, rfl, h, u⟩ => by
    simp only [intsOf, Option.map_eq_some_iff] at e
    obtain ⟨ss, e, rfl⟩ := e
    rw [show v = .int x from h, ints_rep e u]
    rfl
  | .non :: _, _, _, e, _ => by cases e
  | .bl _ :: _, _, _, e, _ => by cases e
  | .str _ :: _, _, _, e, _ => by cases e
  | .lst _ :: _, _, _, e, _ => by cases e
  | .tup _ :: _, _, _, e, _ => by cases e
  | .scr _ :: _, _, _, e, _ => by cases e
  | .adr _ :: _, _, _, e, _ => by cases e
theorem reps_strs : ∀ (ss : List Str), reps K Z B (ss.map D.str) (ss.map V.str)
  | [] => rfl
  | s :: ss => ⟨.str s, _, rfl, rfl, reps_strs ss⟩
theorem reps_ints : ∀ (ss : List Int), reps K Z B (ss.map D.int) (ss.map V.int)
  | [] => rfl
  | s :: ss => ⟨.int s, _, rfl, rfl, reps_ints ss⟩
theorem repTs1 {d : D} {vs : List V} (h : repTs K Z B H [d] vs) : ∃ v, vs = [v] ∧ repT K Z B H d v := by
  obtain ⟨v, r, rfl, h1, h2⟩ := h
  cases (show r = [] from h2)
  exact ⟨v, rfl, h1⟩
theorem repTs2 {d e : D} {vs : List V} (h : repTs K Z B H [d, e] vs) : ∃ v w, vs = [v, w] ∧ repT K Z B H d v ∧ repT K Z B H e w := by
  obtain ⟨v, r, rfl, h1, w, t, rfl, h2, h3⟩ := h
  cases (show t = [] from h3)
  exact ⟨v, w, rfl, h1, h2⟩
/-! ### + - * // % -/
def dAdd : D → D → Option Ro
  | .int i, .int j => some (.imm (.int (i + j)))
  | .str a, .str b => if a.length + b.length ≤ sizeLine then some (.imm (.str (a ++ b))) else none
  | .lst xs, .lst ys => if xs.length + ys.length ≤ sizeLine then some (.lst (xs ++ ys)) else none
  | .tup (x :: xs), .tup (y :: ys) => if (x :: xs).length + (y :: ys).length ≤ sizeLine then some (.tup ((x :: xs) ++ (y :: ys))) else none
  | _, _ => none
def rAddAll (K : PySem.W.Frag) : R2 := fun x y H Q => (rI0 fun i j => .int (i + j)) x y H Q ∨ ((fun x y H Q => ∃ i j, x = .str i ∧ y = .str j ∧ i.length + j.length ≤ sizeLine ∧ Q (.str (i ++ j)) H) x y H Q ∨ (rCat x y H Q ∨ rCatT K x y H Q))
theorem op_addAll : OpR X (binaryOp .Add) (rAddAll X.K) := op_add.or (op_add_str.or (op_cat.or op_catT))
theorem s_add : OpS K (rAddAll K) dAdd := by
  intro Z B H x y v w ro Q sm z hx hy e f
  unfold dAdd at e
  split at e
  · cases e
    exact .inl ⟨_, _, hx, hy, f _ rfl⟩
  · split at e
    · rename_i hl
      cases e
      exact .inr (.inl ⟨_, _, hx, hy, hl, f _ rfl⟩)
    · cases e
  · split at e
    · rename_i hl
      cases e
      obtain ⟨p, vs, rfl, zp, hp, rp⟩ := hx
      obtain ⟨q, ws, rfl, zq, hq, rq⟩ := hy
      exact .inr (.inr (.inl ⟨p, q, vs, ws, rfl, rfl, hp, hq, by rw [reps_len rp, reps_len rq]; exact hl, fun a ha => f a _ ha (reps_append rp rq)⟩))
    · cases e
  · split at e
    · rename_i hl
      cases e
      obtain ⟨p, vs, rfl, hp, rp⟩ := hx
      obtain ⟨q, ws, rfl, hq, rq⟩ := hy
      refine .inr (.inr (.inr ⟨p, q, vs, ws, rfl, rfl, hp, hq, ?_, by rw [reps_len rp, reps_len rq]; exact hl, ?_⟩))
      · intro e
        have := reps_len rp
        rw [e] at this
        cases this
      · refine ⟨fun e => ?_, fun _ a ha => f a _ ha (reps_append rp rq)⟩
        have := reps_len rq
        rw [e] at this
        cases this
    · cases e
  · cases e
def dSub : D → D → Option Ro
  | .int i, .int j => some (.imm (.int (i - j)))
  | _, _ => none
theorem s_sub : OpS K (rI0 fun i j => .int (i - j)) dSub := by
  intro Z B H x y v w ro Q sm z hx hy e f
  unfold dSub at e
  split at e
  · cases e
    exact ⟨_, _, hx, hy, f _ rfl⟩
  · cases e
/-- text times number, short ones -/
def repS (a : Str) (n : Int) : Str := ⟨(List.replicate n.toNat a.cps.toList).flatten.toArray⟩
theorem foldl_reps (c : Array Nat) : ∀ (k : Nat) (acc : Array Nat), (List.replicate k c).foldl (· ++ ·) acc = acc ++ (List.replicate k c.toList).flatten.toArray
  | 0, acc => by simp
  | k + 1, acc => by
    rw [List.replicate_succ, List.foldl_cons, foldl_reps c k, List.replicate_succ, List.flatten_cons]
    apply Array.toList_inj.mp
    simp
theorem op_mulS : OpR X (binaryOp .Mult) (fun x y H Q => ∃ a n, x = .str a ∧ y = .int n ∧ a.length ≤ 1000 ∧ -1000 ≤ n ∧ n ≤ 1000 ∧ Q (.str (repS a n)) H) := by
  intro pins s σ H x y v u Q I rx ry h
  obtain ⟨a, n, rfl, rfl, ha, h0, h1, q⟩ := h
  obtain ⟨t, rfl⟩ := rx
  obtain ⟨t2, rfl⟩ := ry
  have hl : a.length * n.toNat ≤ 1000 * 1000 := Nat.mul_le_mul ha (by omega)
  refine P.mul_str (by
      have h2 : ¬ n ≥ 2 ^ 63 := by omega
      have h3 : ¬ n < -(2 ^ 63) := by omega
      rw [decide_eq_false h2, decide_eq_false h3]; rfl) (fun hn _ => ?_) (fun _ _ => ?_) ?_
  · have h5 : (1000 : Int) * n ≤ 2 ^ 63 - 1 := by omega
    have h6 : (1000 : Int) ≤ (2 ^ 63 - 1 : Int) / n := (Int.le_ediv_iff_mul_le (by omega)).mpr h5
    omega
  · show decide (a.length * n.toNat > sizeLine) = false
    apply decide_eq_false
    have : (1000 * 1000 : Nat) ≤ sizeLine := by decide
    omega
  · split
    · rename_i hn
      have e : repS a n = Str.empty := by
        unfold repS
        rw [show n.toNat = 0 by omega]
        rfl
      rw [e] at q
      have sz0 : Str.empty.length ≤ sizeLine := by decide
      exact ⟨sz0, V.str Str.empty, H, I.tok _, ⟨_, rfl⟩, q⟩
    · split
      · rename_i hn hc
        have e : repS a n = a := by
          unfold repS
          rcases Bool.or_eq_true_iff.mp hc with h | h
          · have h : n = 1 := by simpa using h
            subst h
            apply Str.ext'
            apply Array.toList_inj.mp
            simp
          · have h : a.cps.toList = [] := by
              have h : a.length = 0 := by simpa using h
              exact List.eq_nil_of_length_eq_zero (by simpa [Str.length] using h)
            apply Str.ext'
            apply Array.toList_inj.mp
            simp [h]
        rw [e] at q
        exact ⟨.str a, H, I, ⟨_, rfl⟩, q⟩
      · have e : repS a n = ⟨(List.replicate n.toNat a.cps).foldl (· ++ ·) #[]⟩ := by
          unfold repS
          apply Str.ext'
          show _ = (List.replicate n.toNat a.cps).foldl (· ++ ·) #[]
          rw [foldl_reps]
          simp
        have sz1 : (⟨(List.replicate n.toNat a.cps).foldl (· ++ ·) #[]⟩ : Str).length ≤ sizeLine := by
          rw [← e]
          show (repS a n).cps.size ≤ _
          have : (repS a n).cps.size = n.toNat * a.length := by
            unfold repS
            simp [Str.length, List.length_flatten]
          rw [this]
          have h8 : (1000 * 1000 : Nat) ≤ sizeLine := by decide
          have h9 : n.toNat * a.length = a.length * n.toNat := Nat.mul_comm _ _
          omega
        rw [e] at q
        exact ⟨sz1, V.str _, H, I.tok _, ⟨_, rfl⟩, q⟩
end
end VI

set_option Elab.async false
set_option linter.all false
set_option maxRecDepth 100000
set_option maxHeartbeats 4000000
/-! Operators, built-ins, methods, by data: the rest. -/
namespace VI
open PySem PySem.Spec PyProof.Rows L2
section
variable {K : PySem.W.Frag} {E : XK} {cn : Nat → Value} {Z : Addr → Prop} {B H : Hp} {X : Cx}
def big64 (i : Int) : Bool := decide (-(2 ^ 64) < i) && decide (i < 2 ^ 64)
theorem big64_ok {i : Int} (h : big64 i = true) : -(2 ^ 64) < i ∧ i < 2 ^ 64 := by simpa [big64] using h
def small63 (k : Int) : Bool := decide (-(2 ^ 63) ≤ k) && decide (k < 2 ^ 63)
theorem small63_ok {i : Int} (h : small63 i = true) : -(2 ^ 63) ≤ i ∧ i < 2 ^ 63 := by simpa [small63] using h
def repD (xs : List D) (k : Int) : List D := (List.replicate k.toNat xs).flatten
theorem reps_rep {ds : List D} {vs : List V} (r : reps K Z B ds vs) : ∀ n : Nat, reps K Z B (List.replicate n ds).flatten (List.replicate n vs).flatten
  | 0 => rfl
  | n + 1 => by
    rw [List.replicate_succ, List.replicate_succ, List.flatten_cons, List.flatten_cons]
    exact reps_append r (reps_rep r n)
def dMul : D → D → Option Ro
  | .int i, .int j => if big64 i || big64 j then some (.imm (.int (i * j))) else none
  | .str a, .int n => if decide (a.length ≤ 1000) && decide (-1000 ≤ n) && decide (n ≤ 1000) then some (.imm (.str (repS a n))) else none
  | .lst xs, .int k => if small63 k && decide (xs.length * k.toNat ≤ sizeLine) then some (.lst (repD xs k)) else none
  | _, _ => none
def rMulAll : R2 := fun x y H Q => (rI CMul fun i j => .int (i * j)) x y H Q ∨ ((fun x y H Q => ∃ a n, x = .str a ∧ y = .int n ∧ a.length ≤ 1000 ∧ -1000 ≤ n ∧ n ≤ 1000 ∧ Q (.str (repS a n)) H) x y H Q ∨ rRep x y H Q)
theorem op_mulAll : OpR X (binaryOp .Mult) rMulAll := op_mul.or (op_mulS.or op_rep)
theorem s_mul : OpS K rMulAll dMul := by
  intro Z B H x y v w ro Q sm z hx hy e f
  unfold dMul at e
  split at e
  · split at e
    · rename_i hc
      cases e
      refine .inl ⟨_, _, hx, hy, ?_, f _ rfl⟩
      rcases Bool.or_eq_true_iff.mp hc with h | h
      · exact .inl (big64_ok h)
      · exact .inr (big64_ok h)
    · cases e
  · split at e
    · rename_i hc
      cases e
      simp only [Bool.and_eq_true, decide_eq_true_eq] at hc
      exact .inr (.inl ⟨_, _, hx, hy, hc.1.1, hc.1.2, hc.2, f _ rfl⟩)
    · cases e
  · split at e
    · rename_i hc
      cases e
      simp only [Bool.and_eq_true, decide_eq_true_eq] at hc
      obtain ⟨p, vs, rfl, zp, hp, rp⟩ := hx
      exact .inr (.inr ⟨p, _, vs, rfl, hy, hp, (small63_ok hc.1).1, (small63_ok hc.1).2, by rw [reps_len rp]; exact hc.2, fun a ha => f a _ ha (reps_rep rp _)⟩)
    · cases e
  · cases e
def dDiv : D → D → Option Ro
  | .int i, .int j => if decide (0 < j) && decide (j < 1073741824) then some (.imm (.int (i / j))) else none
  | _, _ => none
theorem s_div : OpS K (rI CDiv fun i j => .int (i / j)) dDiv := by
  intro Z B H x y v w ro Q sm z hx hy e f
  unfold dDiv at e
  split at e
  · split at e
    · rename_i hc
      cases e
      simp only [Bool.and_eq_true, decide_eq_true_eq] at hc
      exact ⟨_, _, hx, hy, hc, f _ rfl⟩
    · cases e
  · cases e
def dMod : D → D → Option Ro
  | .int i, .int j => if 0 < j then some (.imm (.int (i % j))) else none
  | _, _ => none
theorem s_mod : OpS K (rI (fun _ j => 0 < j) fun i j => .int (i % j)) dMod := by
  intro Z B H x y v w ro Q sm z hx hy e f
  unfold dMod at e
  split at e
  · split at e
    · rename_i hc
      cases e
      exact ⟨_, _, hx, hy, hc, f _ rfl⟩
    · cases e
  · cases e
def dNeg : D → Option Ro
  | .int i => some (.imm (.int (-i)))
  | _ => none
theorem s_neg : UnS K (rU fun i => .int (-i)) dNeg := by
  intro Z B H x v ro Q sm z hx e f
  unfold dNeg at e
  split at e
  · cases e
    exact ⟨_, hx, f _ rfl⟩
  · cases e
/-! ### < <= > >= -/
def dCmpI (g : Int → Int → Bool) : D → D → Option Ro
  | .int i, .int j => some (.imm (.bl (g i j)))
  | _, _ => none
theorem s_cmpI {g : Int → Int → Bool} : OpS K (rI0 fun i j => .bl (g i j)) (dCmpI g) := by
  intro Z B H x y v w ro Q sm z hx hy e f
  unfold dCmpI at e
  split at e
  · cases e
    exact ⟨_, _, hx, hy, f _ rfl⟩
  · cases e
abbrev dLt := dCmpI fun i j => decide (i < j)
abbrev dLe := dCmpI fun i j => decide (i ≤ j)
abbrev dGt := dCmpI fun i j => decide (j < i)
abbrev dGe := dCmpI fun i j => decide (j ≤ i)
/-! ### == and != -/
mutual
def toPy : D → PyData
  | .non => .none
  | .bl b => .bool b
  | .int i => .int i
  | .str x => .str x
  | .lst ds => .list (toPys ds)
  | .tup ds => .tuple (toPys ds)
  | .scr ns => .list (ns.map PyData.int)
  | .adr _ => .none
def toPys : List D → List PyData
  | [] => []
  | d :: ds => toPy d :: toPys ds
end
mutual
/-- data that no address is in -/
def noA : D → Bool
  | .lst ds => noAs ds
  | .tup ds => noAs ds
  | .adr _ => false
  | _ => true
def noAs : List D → Bool
  | [] => true
  | d :: ds => noA d && noAs ds
end
theorem dp_ints {ns : List Int} : DpAll K H (ns.map V.int) (ns.map PyData.int) := by
  induction ns with
  | nil => exact .nil
  | cons n ns ih => exact .cons (.int n) ih
mutual
theorem dp_of (sm : Same B H) : ∀ (d : D) (v : V), noA d = true → rep K Z B d v → Dp K H v (toPy d)
  | .non, _, _, h => by cases (show _ = V.non from h); exact .non
  | .bl b, _, _, h => by cases (show _ = V.bl b from h); exact .bl b
  | .int i, _, _, h => by cases (show _ = V.int i from h); exact .int i
  | .str x, _, _, h => by cases (show _ = V.str x from h); exact .str x
  | .lst ds, _, n, ⟨p, vs, e, z, hp, r⟩ => by cases e; exact .lst (.inl (.inl (sm _ _ hp))) (dps_of sm ds vs n r)
  | .tup ds, _, n, ⟨p, vs, e, hp, r⟩ => by cases e; exact .tup (same_t sm hp) (dps_of sm ds vs n r)
  | .scr ns, _, _, ⟨p, e, hp⟩ => by cases e; exact .lst (sm.seq hp) dp_ints
  | .adr _, _, n, _ => by cases n
theorem dps_of (sm : Same B H) : ∀ (ds : List D) (vs : List V), noAs ds = true → reps K Z B ds vs → DpAll K H vs (toPys ds)
  | [], _, _, h => by cases (show _ = [] from h); exact .nil
  | d :: ds, _, n, ⟨v, t, e, h, u⟩ => by
    cases e
    have n := Bool.and_eq_true_iff.mp (show (noA d && noAs ds) = true from n)
    exact .cons (dp_of sm d v n.1 h) (dps_of sm ds t n.2 u)
end
theorem dp_T {d : D} {v : V} (sm : Same B H) (n : noA d = true) (h : repT K Z B H d v) : Dp K H v (toPy d) := dp_of (B := H) (fun _ _ h => h) d v n (rep_T sm h)
def okD (d : D) : Bool := noA d && SeqAt.shaped (toPy d)
theorem okD_n {d : D} (h : okD d = true) : noA d = true := (Bool.and_eq_true_iff.mp h).1
theorem okD_s {d : D} (h : okD d = true) : SeqAt.shaped (toPy d) = true := (Bool.and_eq_true_iff.mp h).2
def eqD (x y : D) : Bool := PyData.eqv (toPy x) (toPy y)
def dEqG (neg : Bool) : D → D → Option Ro
  | .int i, .int j => some (.imm (.bl ((decide (i = j)) != neg)))
  | .str a, .str b => some (.imm (.bl ((decide (a = b)) != neg)))
  | .bl a, .bl b => some (.imm (.bl ((decide (a = b)) != neg)))
  | x, y => if okD x && okD y then some (.imm (.bl ((eqD x y) != neg))) else none
abbrev dEq := dEqG false
abbrev dNe := dEqG true
def rEqAll (K : PySem.W.Frag) : R2 := fun x y H Q => rEq x y H Q ∨ rEqD K x y H Q
def rNeAll (K : PySem.W.Frag) : R2 := fun x y H Q => rNe x y H Q ∨ rNeD K x y H Q
theorem op_eqAll (hu : X.A.units + 64 < cLine) : OpR X (compareOp .Eq) (rEqAll X.K) := op_eq.or (op_eqD hu)
theorem op_neAll (hu : X.A.units + 64 < cLine) : OpR X (compareOp .NotEq) (rNeAll X.K) := op_ne.or (op_neD hu)
theorem dec_inj {α : Type} [DecidableEq α] {f : α → V} (hf : ∀ a b, f a = f b → a = b) (a b : α) : decide (f a = f b) = decide (a = b) := by
  by_cases h : a = b
  · subst h; simp
  · rw [decide_eq_false h, decide_eq_false fun e => h (hf a b e)]
theorem s_eq : OpS K (rEqAll K) dEq := by
  intro Z B H x y v w ro Q sm z hx hy e f
  unfold dEq dEqG at e
  split at e
  · cases e
    rw [show v = _ from hx, show w = _ from hy]
    exact .inl ⟨rfl, by rw [dec_inj (fun _ _ h => V.int.inj h)]; exact f _ (by simp [rep])⟩
  · cases e
    rw [show v = _ from hx, show w = _ from hy]
    exact .inl ⟨rfl, by rw [dec_inj (fun _ _ h => V.str.inj h)]; exact f _ (by simp [rep])⟩
  · cases e
    rw [show v = _ from hx, show w = _ from hy]
    exact .inl ⟨rfl, by rw [dec_inj (fun _ _ h => V.bl.inj h)]; exact f _ (by simp [rep])⟩
  · split at e
    · rename_i hc
      cases e
      simp only [Bool.and_eq_true] at hc
      exact .inr ⟨_, _, dp_T sm (okD_n hc.1) hx, dp_T sm (okD_n hc.2) hy, okD_s hc.1, okD_s hc.2, f _ (by simp [rep, eqD])⟩
    · cases e
theorem s_ne : OpS K (rNeAll K) dNe := by
  intro Z B H x y v w ro Q sm z hx hy e f
  unfold dNe dEqG at e
  split at e
  · cases e
    rw [show v = _ from hx, show w = _ from hy]
    exact .inl ⟨rfl, by rw [dec_inj (fun _ _ h => V.int.inj h)]; exact f _ (by simp [rep])⟩
  · cases e
    rw [show v = _ from hx, show w = _ from hy]
    exact .inl ⟨rfl, by rw [dec_inj (fun _ _ h => V.str.inj h)]; exact f _ (by simp [rep])⟩
  · cases e
    rw [show v = _ from hx, show w = _ from hy]
    exact .inl ⟨rfl, by rw [dec_inj (fun _ _ h => V.bl.inj h)]; exact f _ (by simp [rep])⟩
  · split at e
    · rename_i hc
      cases e
      simp only [Bool.and_eq_true] at hc
      exact .inr ⟨_, _, dp_T sm (okD_n hc.1) hx, dp_T sm (okD_n hc.2) hy, okD_s hc.1, okD_s hc.2, f _ (by simp [rep, eqD])⟩
    · cases e
/-! ### in, not in -/
def dInG (neg : Bool) : D → D → Option Ro
  | .str a, .str z => match a.cps.toList with
    | [c] => some (.imm (.bl ((decide (c ∈ z.cps.toList)) != neg)))
    | _ => none
  | .str a, .tup ds => match strsOf ds with
    | some ss => some (.imm (.bl ((ss.any fun s => s == a) != neg)))
    | none => none
  | .str a, .lst ds => match strsOf ds with
    | some ss => some (.imm (.bl ((ss.any fun s => s == a) != neg)))
    | none => none
  | .int a, .tup ds => match intsOf ds with
    | some ss => some (.imm (.bl ((ss.any fun s => s == a) != neg)))
    | none => none
  | .int a, .lst ds => match intsOf ds with
    | some ss => some (.imm (.bl ((ss.any fun s => s == a) != neg)))
    | none => none
  | x, .lst ds => if okD x && okD (.lst ds) then some (.imm (.bl (((toPys ds).any fun z => PyData.eqv z (toPy x)) != neg))) else none
  | _, _ => none
abbrev dIn := dInG false
abbrev dNotIn := dInG true
def rInAll (K : PySem.W.Frag) : R2 := fun x y H Q => (∃ (c : Nat) (z : Str), x = .str ⟨#[c]⟩ ∧ y = .str z ∧ Q (.bl (decide (c ∈ z.cps.toList))) H) ∨ (rIn K false x y H Q ∨ rInD K x y H Q)
def rNotInAll (K : PySem.W.Frag) : R2 := fun x y H Q => (∃ (c : Nat) (z : Str), x = .str ⟨#[c]⟩ ∧ y = .str z ∧ Q (.bl (!decide (c ∈ z.cps.toList))) H) ∨ (rIn K true x y H Q ∨ rNotInD K x y H Q)
theorem op_inAll (hu : X.A.units + 65 < cLine) : OpR X (compareOp .In) (rInAll X.K) := op_in_sign.or (op_in_seq.or (op_inD hu))
theorem op_notInAll (hu : X.A.units + 65 < cLine) : OpR X (compareOp .NotIn) (rNotInAll X.K) := op_notIn_sign.or (op_notIn_seq.or (op_notInD hu))
theorem flat_strs (ss : List Str) : (ss.map V.str).all flatV = true := by simp [List.all_map, Function.comp_def, flatV]
theorem flat_ints (ss : List Int) : (ss.map V.int).all flatV = true := by simp [List.all_map, Function.comp_def, flatV]
theorem in_strs (a : Str) (ss : List Str) : inV (.str a) (ss.map V.str) = ss.any fun s => s == a := by
  unfold inV
  rw [List.any_map]
  rfl
theorem in_ints (a : Int) (ss : List Int) : inV (.int a) (ss.map V.int) = ss.any fun s => s == a := by
  unfold inV
  rw [List.any_map]
  rfl
theorem sign_of {a : Str} {c : Nat} (h : a.cps.toList = [c]) : a = ⟨#[c]⟩ := by
  apply Str.ext'
  apply Array.toList_inj.mp
  rw [h]
theorem s_inG (neg : Bool) : OpS K (fun x y H Q => (∃ (c : Nat) (z : Str), x = .str ⟨#[c]⟩ ∧ y = .str z ∧ Q (.bl ((decide (c ∈ z.cps.toList)) != neg)) H) ∨ (rIn K neg x y H Q ∨ (∃ d ds, Dp K H x d ∧ Dp K H y (.list ds) ∧ SeqAt.shaped d = true ∧ SeqAt.shaped (.list ds) = true ∧ Q (.bl ((ds.any fun z => PyData.eqv z d) != neg)) H))) (dInG neg) := by
  intro Z B H x y v w ro Q sm z hx hy e f
  have fn : ∀ b : Bool, (if neg = true then !b else b) = (b != neg) := fun b => by cases neg <;> cases b <;> rfl
  unfold dInG at e
  split at e
  · split at e
    · rename_i c hc
      cases e
      rw [show v = _ from hx, show w = _ from hy]
      exact .inl ⟨c, _, by rw [sign_of hc], rfl, f _ rfl⟩
    · cases e
  · split at e
    · rename_i ss hs
      cases e
      rw [show v = _ from hx]
      obtain ⟨p, vs, rfl, hp, rp⟩ := hy
      rw [strs_rep hs rp] at hp
      exact .inr (.inl ⟨p, _, rfl, .inr hp, rfl, flat_strs ss, by rw [in_strs, fn]; exact f _ rfl⟩)
    · cases e
  · split at e
    · rename_i ss hs
      cases e
      rw [show v = _ from hx]
      obtain ⟨p, vs, rfl, zp, hp, rp⟩ := hy
      rw [strs_rep hs rp] at hp
      exact .inr (.inl ⟨p, _, rfl, .inl (.inl (.inl hp)), rfl, flat_strs ss, by rw [in_strs, fn]; exact f _ rfl⟩)
    · cases e
  · split at e
    · rename_i ss hs
      cases e
      rw [show v = _ from hx]
      obtain ⟨p, vs, rfl, hp, rp⟩ := hy
      rw [ints_rep hs rp] at hp
      exact .inr (.inl ⟨p, _, rfl, .inr hp, rfl, flat_ints ss, by rw [in_ints, fn]; exact f _ rfl⟩)
    · cases e
  · split at e
    · rename_i ss hs
      cases e
      rw [show v = _ from hx]
      obtain ⟨p, vs, rfl, zp, hp, rp⟩ := hy
      rw [ints_rep hs rp] at hp
      exact .inr (.inl ⟨p, _, rfl, .inl (.inl (.inl hp)), rfl, flat_ints ss, by rw [in_ints, fn]; exact f _ rfl⟩)
    · cases e
  · split at e
    · rename_i hc
      cases e
      simp only [Bool.and_eq_true] at hc
      exact .inr (.inr ⟨_, _, dp_T sm (okD_n hc.1) hx, dp_T sm (okD_n hc.2) hy, okD_s hc.1, okD_s hc.2, f _ rfl⟩)
    · cases e
  · cases e
theorem s_in : OpS K (rInAll K) dIn := by
  intro Z B H x y v w ro Q sm z hx hy e f
  rcases s_inG (K := K) false Z B H x y v w ro Q sm z hx hy e f with ⟨c, t, h1, h2, h3⟩ | h | ⟨d, ds, h1, h2, h3, h4, h5⟩
  · exact .inl ⟨c, t, h1, h2, by simpa using h3⟩
  · exact .inr (.inl h)
  · exact .inr (.inr ⟨d, ds, h1, h2, h3, h4, by simpa using h5⟩)
theorem s_notIn : OpS K (rNotInAll K) dNotIn := by
  intro Z B H x y v w ro Q sm z hx hy e f
  rcases s_inG (K := K) true Z B H x y v w ro Q sm z hx hy e f with ⟨c, t, h1, h2, h3⟩ | h | ⟨d, ds, h1, h2, h3, h4, h5⟩
  · exact .inl ⟨c, t, h1, h2, by simpa using h3⟩
  · exact .inr (.inl h)
  · exact .inr (.inr ⟨d, ds, h1, h2, h3, h4, by simpa using h5⟩)
/-! ### items and slices -/
def dIx : D → D → Option Ro
  | .lst ds, .int i => (atI ds i).map Ro.imm
  | .tup ds, .int i => (atI ds i).map Ro.imm
  | .scr ns, .int i => (atI ns i).map fun n => Ro.imm (.int n)
  | .str x, .int i => if x.length ≤ sizeLine then (atI x.cps.toList i).map fun c => Ro.imm (.str ⟨#[c]⟩) else none
  | _, _ => none
theorem atI_reps {ds : List D} {vs : List V} {i : Int} {d : D} (r : reps K Z B ds vs) (h : atI ds i = some d) : ∃ v, atI vs i = some v ∧ rep K Z B d v := by
  unfold atI at h ⊢
  rw [reps_len r]
  cases e : ixN ds.length i with
  | none => rw [e] at h; cases h
  | some j =>
    rw [e] at h
    exact reps_get r h
theorem s_ix : OpS K (rIx K) dIx := by
  intro Z B H x y v w ro Q sm z hx hy e f
  unfold dIx at e
  split at e
  · simp only [Option.map_eq_some_iff] at e
    obtain ⟨d, e, rfl⟩ := e
    obtain ⟨p, vs, rfl, zp, hp, rp⟩ := hx
    obtain ⟨u, hu, ru⟩ := atI_reps rp e
    exact .inl ⟨p, vs, _, u, rfl, hy, .inl (.inl hp), hu, f u ru⟩
  · simp only [Option.map_eq_some_iff] at e
    obtain ⟨d, e, rfl⟩ := e
    obtain ⟨p, vs, rfl, hp, rp⟩ := hx
    obtain ⟨u, hu, ru⟩ := atI_reps rp e
    exact .inr (.inl ⟨p, vs, _, u, rfl, hy, hp, hu, f u ru⟩)
  · simp only [Option.map_eq_some_iff] at e
    obtain ⟨n, e, rfl⟩ := e
    obtain ⟨p, rfl, hp⟩ := hx
    refine .inl ⟨p, _, _, .int n, rfl, hy, hp, ?_, f _ rfl⟩
    unfold atI at e ⊢
    rw [List.length_map]
    cases e2 : ixN _ _ with
    | none => rw [e2] at e; cases e
    | some j =>
      rw [e2] at e
      show ((_ : List Int).map V.int)[j]? = _
      rw [List.getElem?_map]
      have e : (_ : List Int)[j]? = some n := e
      rw [e]
      rfl
  · split at e
    · rename_i hl
      simp only [Option.map_eq_some_iff] at e
      obtain ⟨c, e, rfl⟩ := e
      exact .inr (.inr ⟨_, _, c, hx, hy, hl, e, f _ rfl⟩)
    · cases e
  · cases e
/-- a slice's end -/
def GO (_ : PySem.W.Frag) (_ : Addr → Prop) (_ : Hp) (_ : Cf) (d : Option Int) (v : Option Int) : Prop := d = v
def sO (K : PySem.W.Frag) (E : XK) (cn : Nat → Value) (f : Sem' (Option Int)) : TO := sG K E cn (GO K) f
def oNone : Sem' (Option Int) := fun δ => .ok (none, δ)
def oSome (f : Sem' R) : Sem' (Option Int) := fun δ => (f δ).bind fun p => match p.1 with
  | .imm (.int i) => .ok (some i, p.2)
  | _ => .stuck
theorem _root_.L2.PO.imp {X : Cx} {e : Option Expr} {t t' : TO} (h : PO X e t) (q : ∀ σ H Q, t' σ H Q → t σ H Q) : PO X e t' := ⟨fun pins s σ H Q I hw => h.run pins s σ H Q I (q σ H Q hw)⟩
theorem qo_none : PO X none (sO X.K E cn oNone) := po_none.imp fun σ H Q ⟨Z, B, δ, s, p⟩ => p B H none s (Ext.refl _) rfl
theorem qo_some {e : Expr} {f : Sem' R} (h : PE X e (sE X.K E cn f)) : PO X (some e) (sO X.K E cn (oSome f)) :=
  (po_some h).imp fun σ H Q ⟨Z, B, δ, s, p⟩ => by
    refine sG_mono (sub (G := fun Z => RR X.K Z) (c0 := ⟨σ, δ, B, H⟩) (c1 := ⟨σ, δ, B, H⟩) s (Ext.refl _) rfl p) fun x H1 ⟨r1, δ1, B1, e1, s1, x1, _, g1, p1⟩ => ?_
    split at p1
    · rename_i i er
      have er : r1 = .imm (.int i) := er
      subst er
      exact ⟨i, g1, p1 B1 H1 _ s1 x1 rfl⟩
    · exact p1.elim
def cutD (xs : List D) (lo hi : Option Int) : List D := (xs.drop (HT.sIx xs.length 0 lo)).take (HT.sIx xs.length xs.length hi - HT.sIx xs.length 0 lo)
def dSl (lo hi : Option Int) : D → Option Ro
  | .lst ds => some (.lst (cutD ds lo hi))
  | .str x => if x.length ≤ sizeLine then some (.imm (.str (cutS x lo hi))) else none
  | .tup ds => if (cutD ds lo hi).length < ds.length then some (.tup (cutD ds lo hi)) else none
  | _ => none
theorem reps_cut {ds : List D} {vs : List V} (lo hi : Option Int) (r : reps K Z B ds vs) : reps K Z B (cutD ds lo hi) (cutV vs lo hi) := by
  unfold cutD cutV
  rw [reps_len r]
  exact reps_take _ (reps_drop _ r)
def rSlAll (K : PySem.W.Frag) : V → Option Int → Option Int → Hp → VK → Prop := fun x lo hi H Q => rSlL K x lo hi H Q ∨ (rSlS x lo hi H Q ∨ rSlT K x lo hi H Q)
theorem sl_all : SlR X (rSlAll X.K) := sl_list.or (sl_str.or sl_tup)
def vSl (f : Sem' R) (lo hi : Sem' (Option Int)) : Sem' R := fun δ => (f δ).bind fun p => (lo p.2).bind fun q => (hi q.2).bind fun r => match vw r.2 p.1 with
  | some d => match dSl q.1 r.1 d with
    | some ro => .ok (ro.r, r.2)
    | none => .stuck
  | none => .stuck
theorem qv_sl {e : Expr} {lo hi : Option Expr} {f : Sem' R} {l u : Sem' (Option Int)} {pos p2 : Pos} (he : PE X e (sE X.K E cn f)) (hl : PO X lo (sO X.K E cn l)) (hh : PO X hi (sO X.K E cn u)) : PE X (.Subscript e (.Slice lo hi none p2) pos) (sE X.K E cn (vSl f l u)) :=
  (pe_slice sl_all he hl hh).imp fun σ H Q ⟨Z, B, δ, s, p⟩ => by
    refine sG_mono (sub (G := fun Z => RR X.K Z) (c0 := ⟨σ, δ, B, H⟩) (c1 := ⟨σ, δ, B, H⟩) s (Ext.refl _) rfl p) fun x H1 ⟨r1, δ1, B1, e1, s1, x1, _, g1, p1⟩ => ?_
    refine sG_mono (sub (G := GO X.K) (c0 := ⟨σ, δ, B, H⟩) (c1 := ⟨σ, δ1, B1, H1⟩) s1 x1 rfl p1) fun y H2 ⟨r2, δ2, B2, e2, s2, x2, x12, g2, p2⟩ => ?_
    refine sG_mono (sub (G := GO X.K) (c0 := ⟨σ, δ, B, H⟩) (c1 := ⟨σ, δ2, B2, H2⟩) s2 x2 rfl p2) fun y' H3 ⟨r3, δ3, B3, e3, s3, x3, x13, g3, p3⟩ => ?_
    cases g2
    cases g3
    have gr := (g1.on x12 rfl).on x13 rfl
    dsimp only at p3
    split at p3
    · rename_i d ed
      split at p3
      · rename_i ro er
        have t := vw_ok s3 gr ed
        have f3 := fin s3 x3 p3
        unfold dSl at er
        split at er
        · cases er
          obtain ⟨a, vs, rfl, za, ha, rv⟩ := t
          exact .inl ⟨a, vs, rfl, .inl (.inl ha), fun q hq => f3 q _ hq (reps_cut _ _ rv)⟩
        · split at er
          · rename_i hlen
            cases er
            exact .inr (.inl ⟨_, t, hlen, f3 _ rfl⟩)
          · cases er
        · split at er
          · rename_i hlen
            cases er
            obtain ⟨a, vs, rfl, ha, rv⟩ := t
            refine .inr (.inr ⟨a, vs, rfl, ha, fun ⟨h1, h2⟩ => ?_, fun q hq => f3 q _ hq (reps_cut _ _ rv)⟩)
            rw [reps_len rv] at h1 h2
            unfold cutD at hlen
            rw [h1, h2, List.drop_zero, Nat.sub_zero, List.take_length] at hlen
            exact Nat.lt_irrefl _ hlen
          · cases er
        · cases er
      · exact p3.elim
    · exact p3.elim
end
end VI

set_option Elab.async false
set_option linter.all false
set_option maxRecDepth 100000
set_option maxHeartbeats 4000000
/-! Built-ins and methods by data. -/
namespace VI
open PySem PySem.Spec PyProof.Rows L2
section
variable {K : PySem.W.Frag} {E : XK} {cn : Nat → Value} {Z : Addr → Prop} {B H : Hp} {X : Cx}
/-! ### calls of built-ins -/
theorem qv_cb {e : Expr} {es : List Expr} {x : Str} {id : String} {p pos : Pos} {r : List V → Hp → VK → Prop} {f : List D → Option Ro} {g : Sem' (List R)} (hc : CallR X (.builtin id) r) (hs : CaS X.K r f) (hg : Gl X x) (hm : X.mg x = none) (hv : bootBuiltins x = some (.builtin id))
    (ha : PA X (e :: es) (sA X.K E cn g)) (hn : x ≠ "__name__" := by decide) (hdb : (x == ("__debug__" : Str)) = false := by decide) (he : starEach (e :: es) X.env = (false, eval e X.env) :: starEach es X.env := by rfl) (hpl : (backTo pos (starEach es X.env)).any (·.1) = false := by rfl) :
    PE X (.Call (.Name x p) (e :: es) [] pos) (sE X.K E cn (vCB f g)) := (pe_callB hc hg hm hv ha hn hdb he hpl).imp fun _ _ _ h => qcb hs h
theorem qv_ct {e : Expr} {es : List Expr} {x : Str} {T : String} {p pos : Pos} {r : List V → Hp → VK → Prop} {f : List D → Option Ro} {g : Sem' (List R)} (hc : CallR X (.type T) r) (hs : CaS X.K r f) (hg : Gl X x) (hm : X.mg x = none) (hv : bootBuiltins x = some (.type T))
    (ha : PA X (e :: es) (sA X.K E cn g)) (hn : x ≠ "__name__" := by decide) (hdb : (x == ("__debug__" : Str)) = false := by decide) (he : starEach (e :: es) X.env = (false, eval e X.env) :: starEach es X.env := by rfl) (hpl : (backTo pos (starEach es X.env)).any (·.1) = false := by rfl) :
    PE X (.Call (.Name x p) (e :: es) [] pos) (sE X.K E cn (vCB f g)) := (pe_callTy hc hg hm hv ha hn hdb he hpl).imp fun _ _ _ h => qcb hs h
def fLen : List D → Option Ro
  | [.lst ds] => some (.imm (.int ds.length))
  | [.tup ds] => some (.imm (.int ds.length))
  | [.scr ns] => some (.imm (.int ns.length))
  | [.str x] => if x.length ≤ sizeLine then some (.imm (.int x.length)) else none
  | _ => none
def rLenAll (K : PySem.W.Frag) : List V → Hp → VK → Prop := fun xs H Q => (∃ p ys, xs = [.ref p] ∧ (SqL K H p ys ∨ SqT K H p ys) ∧ Q (.int ys.length) H) ∨ (∃ z, xs = [.str z] ∧ z.length ≤ sizeLine ∧ Q (.int z.length) H)
theorem c_len : CallR X (.builtin "len") (rLenAll X.K) := call_len_seq.or call_len_str
theorem s_len : CaS K (rLenAll K) fLen := by
  intro Z B H xs vs ro Q sm z hx e f
  unfold fLen at e
  split at e
  · cases e
    obtain ⟨v, rfl, p, ws, rfl, zp, hp, rp⟩ := repTs1 hx
    exact .inl ⟨p, ws, rfl, .inl (.inl (.inl hp)), by rw [reps_len rp]; exact f _ rfl⟩
  · cases e
    obtain ⟨v, rfl, p, ws, rfl, hp, rp⟩ := repTs1 hx
    exact .inl ⟨p, ws, rfl, .inr hp, by rw [reps_len rp]; exact f _ rfl⟩
  · cases e
    obtain ⟨v, rfl, p, rfl, hp⟩ := repTs1 hx
    exact .inl ⟨p, _, rfl, .inl hp, by rw [List.length_map]; exact f _ rfl⟩
  · split at e
    · rename_i hl
      cases e
      obtain ⟨v, rfl, h⟩ := repTs1 hx
      cases (show v = .str _ from h)
      exact .inr ⟨_, rfl, hl, f _ rfl⟩
    · cases e
  · cases e
def fInt : List D → Option Ro
  | [.int i] => some (.imm (.int i))
  | [.bl b] => some (.imm (.int (if b then 1 else 0)))
  | [.str x] => if x.length ≤ 640 then (PySem.intText? x).map fun n => Ro.imm (.int n) else none
  | _ => none
def rIntAll : List V → Hp → VK → Prop := fun xs H Q => ((∃ i, xs = [.int i] ∧ Q (.int i) H) ∨ ∃ k, xs = [.bl k] ∧ Q (.int (if k then 1 else 0)) H) ∨ (∃ a n, xs = [.str a] ∧ PySem.intText? a = some n ∧ a.length ≤ 640 ∧ Q (.int n) H)
theorem c_int : CallR X (.type "int") rIntAll := call_int1.or call_int_str
theorem s_int : CaS K rIntAll fInt := by
  intro Z B H xs vs ro Q sm z hx e f
  unfold fInt at e
  split at e
  · cases e
    obtain ⟨v, rfl, h⟩ := repTs1 hx
    cases (show v = .int _ from h)
    exact .inl (.inl ⟨_, rfl, f _ rfl⟩)
  · cases e
    obtain ⟨v, rfl, h⟩ := repTs1 hx
    cases (show v = .bl _ from h)
    exact .inl (.inr ⟨_, rfl, f _ rfl⟩)
  · split at e
    · rename_i hl
      simp only [Option.map_eq_some_iff] at e
      obtain ⟨n, e, rfl⟩ := e
      obtain ⟨v, rfl, h⟩ := repTs1 hx
      cases (show v = .str _ from h)
      exact .inr ⟨_, n, rfl, e, hl, f _ rfl⟩
    · cases e
  · cases e
def fStr : List D → Option Ro
  | [.int i] => if i.natAbs.log2 < 1920 then some (.imm (.str (toString i))) else none
  | _ => none
theorem s_str : CaS K (fun xs H Q => ∃ i, xs = [.int i] ∧ i.natAbs.log2 < 1920 ∧ Q (.str (toString i)) H) fStr := by
  intro Z B H xs vs ro Q sm z hx e f
  unfold fStr at e
  split at e
  · split at e
    · rename_i hl
      cases e
      obtain ⟨v, rfl, h⟩ := repTs1 hx
      cases (show v = .int _ from h)
      exact ⟨_, rfl, hl, f _ rfl⟩
    · cases e
  · cases e
def fList : List D → Option Ro
  | [.lst ds] => some (.lst ds)
  | [.tup ds] => some (.lst ds)
  | _ => none
theorem s_list : CaS K (fun xs H Q => ∃ p ys, xs = [.ref p] ∧ (SqL K H p ys ∨ SqT K H p ys) ∧ ∀ l, H l = none → Q (.ref l) (upd H l (.lst ys))) fList := by
  intro Z B H xs vs ro Q sm z hx e f
  unfold fList at e
  split at e
  · cases e
    obtain ⟨v, rfl, p, ws, rfl, zp, hp, rp⟩ := repTs1 hx
    exact ⟨p, ws, rfl, .inl (.inl (.inl hp)), fun l hl => f l _ hl rp⟩
  · cases e
    obtain ⟨v, rfl, p, ws, rfl, hp, rp⟩ := repTs1 hx
    exact ⟨p, ws, rfl, .inr hp, fun l hl => f l _ hl rp⟩
  · cases e
def fTuple : List D → Option Ro
  | [.lst ds] => some (.tup ds)
  | _ => none
theorem s_tuple : CaS K (fun xs H Q => ∃ p ys, xs = [.ref p] ∧ ((SqL K H p ys ∧ ∀ l, H l = none → Q (.ref l) (upd H l (.tup ys))) ∨ (SqT K H p ys ∧ Q (.ref p) H))) fTuple := by
  intro Z B H xs vs ro Q sm z hx e f
  unfold fTuple at e
  split at e
  · cases e
    obtain ⟨v, rfl, p, ws, rfl, zp, hp, rp⟩ := repTs1 hx
    exact ⟨p, ws, rfl, .inl ⟨.inl (.inl hp), fun l hl => f l _ hl rp⟩⟩
  · cases e
def fMax2 : List D → Option Ro
  | [.int i, .int j] => some (.imm (.int (if j > i then j else i)))
  | _ => none
theorem s_max2 : CaS K (fun xs H Q => ∃ i j, xs = [.int i, .int j] ∧ Q (.int (if j > i then j else i)) H) fMax2 := by
  intro Z B H xs vs ro Q sm z hx e f
  unfold fMax2 at e
  split at e
  · cases e
    obtain ⟨v, w, rfl, h1, h2⟩ := repTs2 hx
    cases (show v = .int _ from h1)
    cases (show w = .int _ from h2)
    exact ⟨_, _, rfl, f _ rfl⟩
  · cases e
def fMin2 : List D → Option Ro
  | [.int i, .int j] => some (.imm (.int (if j < i then j else i)))
  | _ => none
theorem s_min2 : CaS K (fun xs H Q => ∃ i j, xs = [.int i, .int j] ∧ Q (.int (if j < i then j else i)) H) fMin2 := by
  intro Z B H xs vs ro Q sm z hx e f
  unfold fMin2 at e
  split at e
  · cases e
    obtain ⟨v, w, rfl, h1, h2⟩ := repTs2 hx
    cases (show v = .int _ from h1)
    cases (show w = .int _ from h2)
    exact ⟨_, _, rfl, f _ rfl⟩
  · cases e
/-! ### methods of texts -/
def vM0 (f : Str → Option Ro) (g : Sem' R) : Sem' R := fun δ => (g δ).bind fun p => match p.1 with
  | .imm (.str a) => match f a with
    | some ro => .ok (ro.r, p.2)
    | none => .stuck
  | _ => .stuck
def vM1 (f : Str → D → Option Ro) (g h : Sem' R) : Sem' R := fun δ => (g δ).bind fun p => match p.1 with
  | .imm (.str a) => (h p.2).bind fun q => match vw q.2 q.1 with
    | some d => match f a d with
      | some ro => .ok (ro.r, q.2)
      | none => .stuck
    | none => .stuck
  | _ => .stuck
def M1S (K : PySem.W.Frag) (r : V → List V → Hp → VK → Prop) (f : Str → D → Option Ro) : Prop := ∀ Z B H a d w ro (Q : VK), Same B H → (∀ a, H a = none → Z a) → repT K Z B H d w → f a d = some ro → Fin K Z B H ro Q → r (.str a) [w] H Q
theorem qm1 {f : Str → D → Option Ro} {g h : Sem' R} {r : V → List V → Hp → VK → Prop} {σ : L2.St} {H : Hp} {Q : VK} (hs : M1S K r f) (hq : sE K E cn (vM1 f g h) σ H Q) : tM1 r (sE K E cn g) (sE K E cn h) σ H Q := by
  obtain ⟨Z, B, δ, s, p⟩ := hq
  refine sG_mono (sub (G := fun Z => RR K Z) (c0 := ⟨σ, δ, B, H⟩) (c1 := ⟨σ, δ, B, H⟩) s (Ext.refl _) rfl p) fun x H1 ⟨r1, δ1, B1, e1, s1, x1, _, g1, p1⟩ => ?_
  split at p1
  · rename_i a er
    have er : r1 = .imm (.str a) := er
    subst er
    cases (show x = .str a from g1)
    refine ⟨⟨a, rfl⟩, ?_⟩
    refine sG_mono (sub (G := fun Z => RR K Z) (c0 := ⟨σ, δ, B, H⟩) (c1 := ⟨σ, δ1, B1, H1⟩) s1 x1 rfl p1) fun y H2 ⟨r2, δ2, B2, e2, s2, x2, x12, g2, p2⟩ => ?_
    split at p2
    · rename_i d ed
      split at p2
      · rename_i ro ero
        exact hs Z B2 H2 a d y ro Q s2.same s2.z (vw_ok s2 g2 ed) ero (fin s2 x2 p2)
      · exact p2.elim
    · exact p2.elim
  · exact p1.elim
theorem qv_m1 {id : String} {name : Str} {apos pos : Pos} {o e : Expr} {f : Str → D → Option Ro} {g h : Sem' R} {r : V → List V → Hp → VK → Prop} (slot : PySem.Slot "str" name id) (ty : typeOf (.builtin id) = pure (.type "method_descriptor")) (rule : MtR X id r) (hs' : M1S X.K r f) (ho : PE X o (sE X.K E cn g)) (he : PE X e (sE X.K E cn h))
    (hs : starEach [e] X.env = [(false, eval e X.env)] := by rfl) (hbase : attributeBase o name X.env (eval o X.env) = eval o X.env := by rfl) (hline : (apos.endLine == pos.line) = true := by rfl) :
    PE X (.Call (.Attribute o name apos) [e] [] pos) (sE X.K E cn (vM1 f g h)) := (pe_m1 slot ty rule ho he hs hbase hline).imp fun _ _ _ h => qm1 hs' h
def fSplit (a : Str) : D → Option Ro
  | .str b => if !(b.length == 0) && decide (a.length + 2 ≤ sizeLine) then some (.lst ((Txt.split a b).map D.str)) else none
  | _ => none
theorem s_split : M1S K (fun x xs H Q => ∃ a b, x = .str a ∧ xs = [.str b] ∧ (b.length == 0) = false ∧ a.length + 2 ≤ sizeLine ∧ rNewStrs (Txt.split a b) H Q) fSplit := by
  intro Z B H a d w ro Q sm z hd e f
  unfold fSplit at e
  split at e
  · split at e
    · rename_i hc
      cases e
      simp only [Bool.and_eq_true, decide_eq_true_eq, Bool.not_eq_true'] at hc
      cases (show w = .str _ from hd)
      exact ⟨a, _, rfl, rfl, hc.1, hc.2, fun p hp => f p _ hp (reps_strs _)⟩
    · cases e
  · cases e
def fPartition (a : Str) : D → Option Ro
  | .str b => if !(b.length == 0) && decide (a.length ≤ sizeLine) then some (.tup [.str (Txt.partition a b).1, .str (Txt.partition a b).2.1, .str (Txt.partition a b).2.2]) else none
  | _ => none
theorem s_partition : M1S K (fun x xs H Q => ∃ a b, x = .str a ∧ xs = [.str b] ∧ (b.length == 0) = false ∧ a.length ≤ sizeLine ∧
      ∀ p, H p = none → Q (.ref p) (upd H p (.tup [.str (Txt.partition a b).1, .str (Txt.partition a b).2.1, .str (Txt.partition a b).2.2]))) fPartition := by
  intro Z B H a d w ro Q sm z hd e f
  unfold fPartition at e
  split at e
  · split at e
    · rename_i hc
      cases e
      simp only [Bool.and_eq_true, decide_eq_true_eq, Bool.not_eq_true'] at hc
      cases (show w = .str _ from hd)
      exact ⟨a, _, rfl, rfl, hc.1, hc.2, fun p hp => f p _ hp ⟨_, _, rfl, rfl, _, _, rfl, rfl, _, _, rfl, rfl, rfl⟩⟩
    · cases e
  · cases e
def fJoin (a : Str) : D → Option Ro
  | .lst ds => match strsOf ds with
    | some ys => if (ys.map (·.length)).sum + ys.length * a.length ≤ 16777216 then some (.imm (.str (Txt.join a ys))) else none
    | none => none
  | _ => none
theorem s_join : M1S K (fun x xs H Q => ∃ a p, ∃ ys : List Str, x = .str a ∧ xs = [.ref p] ∧ (SqL K H p (ys.map V.str) ∨ SqT K H p (ys.map V.str)) ∧ (ys.map (·.length)).sum + ys.length * a.length ≤ 16777216 ∧ Q (.str (Txt.join a ys)) H) fJoin := by
  intro Z B H a d w ro Q sm z hd e f
  unfold fJoin at e
  split at e
  · split at e
    · rename_i ys hy
      split at e
      · rename_i hc
        cases e
        obtain ⟨p, vs, rfl, zp, hp, rp⟩ := hd
        rw [strs_rep hy rp] at hp
        exact ⟨a, p, ys, rfl, rfl, .inl (.inl (.inl hp)), hc, f _ rfl⟩
      · cases e
    · cases e
  · cases e
def fLstrip (a : Str) : D → Option Ro
  | .str b => if a.length ≤ sizeLine then some (.imm (.str (Txt.lstripChars a b))) else none
  | _ => none
theorem s_lstrip : M1S K (fun x xs H Q => ∃ a b, x = .str a ∧ xs = [.str b] ∧ a.length ≤ sizeLine ∧ Q (.str (Txt.lstripChars a b)) H) fLstrip := by
  intro Z B H a d w ro Q sm z hd e f
  unfold fLstrip at e
  split at e
  · split at e
    · rename_i hc
      cases e
      cases (show w = .str _ from hd)
      exact ⟨a, _, rfl, rfl, hc, f _ rfl⟩
    · cases e
  · cases e
/-! ### methods that change a list of one's own -/
/-- the receiver is slot i; the arguments stand still -/
def vMut (f : List D → List D → Option (D × List D)) (g : Sem' R) (h : Sem' (List D)) : Sem' R := fun δ => (g δ).bind fun p => match p.1 with
  | .pl i => (match p.2[i]? with
    | some (.own (.lst _) _) => (h p.2).bind fun q => (match q.2[i]? with
      | some (.own (.lst xs) b) => (match f xs q.1 with
        | some (d, ys) => .ok (.imm d, q.2.set i (.own (.lst ys) b))
        | none => .stuck)
      | _ => .stuck)
    | _ => .stuck)
  | _ => .stuck
def MuS (K : PySem.W.Frag) (r : V → List V → Hp → VK → Prop) (f : List D → List D → Option (D × List D)) : Prop := ∀ Z B H p xs vs ds ws d ys (Q : VK), Same B H → H p = some (.lst vs) → reps K Z B xs vs → reps K Z B ds ws → f xs ds = some (d, ys) →
  (∀ u us, rep K Z B d u → reps K Z B ys us → Q u (upd H p (.lst us))) → r (.ref p) ws H Q
theorem qmu {f : List D → List D → Option (D × List D)} {g : Sem' R} {h : Sem' (List D)} {r : V → List V → Hp → VK → Prop} {σ : L2.St} {H : Hp} {Q : VK} (hs : MuS K r f) (hq : sE K E cn (vMut f g h) σ H Q) : tBM K "list" r (sE K E cn g) (sAI K E cn h) σ H Q := by
  obtain ⟨Z, B, δ, s, p⟩ := hq
  refine sG_mono (sub (G := fun Z => RR K Z) (c0 := ⟨σ, δ, B, H⟩) (c1 := ⟨σ, δ, B, H⟩) s (Ext.refl _) rfl p) fun x H1 ⟨r1, δ1, B1, e1, s1, x1, _, g1, p1⟩ => ?_
  cases r1 with
  | imm d => exact p1.elim
  | frs o => exact p1.elim
  | pl i =>
    have g1 : σ[i]? = some (some x) := g1
    dsimp only at p1
    split at p1
    · rename_i xs0 b0 e0
      obtain ⟨a, ea, za, ba, vs0, hv0, rv0⟩ := s1.slot i _ e0
      have ea : σ[i]? = _ := ea
      rw [g1] at ea
      cases ea
      refine ⟨.inl ⟨rfl, vs0, .inl (.inl hv0)⟩, ?_⟩
      refine sG_mono (sub (G := GDs K) (c0 := ⟨σ, δ, B, H⟩) (c1 := ⟨σ, δ1, B1, H1⟩) s1 x1 rfl p1) fun ws H2 ⟨ds, δ2, B2, e2, s2, x2, x12, g2, p2⟩ => ?_
      dsimp only at p2
      split at p2
      · rename_i xs b e3
        split at p2
        · rename_i d ys e4
          obtain ⟨a', ea', za', ba', vs, hv, rv⟩ := s2.slot i _ e3
          have ea' : σ[i]? = _ := ea'
          rw [g1] at ea'
          cases ea'
          refine hs Z B2 H2 a xs vs ds ws d ys Q s2.same hv rv g2 e4 fun u us ru rus => ?_
          obtain ⟨s3, x3⟩ := S.put (c := ⟨σ, δ2, B2, H2⟩) (o' := .lst ys) (u := .lst us) s2 e3 g1 ⟨us, rfl, rus⟩
          exact p2 B2 _ u s3 (x2.trans x3) ru
        · exact p2.elim
      · exact p2.elim
    · exact p1.elim
theorem qmu0 {f : List D → List D → Option (D × List D)} {g : Sem' R} {r : V → List V → Hp → VK → Prop} {σ : L2.St} {H : Hp} {Q : VK} (hs : MuS K r f) (hq : sE K E cn (vMut f g iNil) σ H Q) : tBM0 K "list" r (sE K E cn g) σ H Q := by
  obtain ⟨Z, B, δ, s, p⟩ := hq
  refine sG_mono (sub (G := fun Z => RR K Z) (c0 := ⟨σ, δ, B, H⟩) (c1 := ⟨σ, δ, B, H⟩) s (Ext.refl _) rfl p) fun x H1 ⟨r1, δ1, B1, e1, s1, x1, _, g1, p1⟩ => ?_
  cases r1 with
  | imm d => exact p1.elim
  | frs o => exact p1.elim
  | pl i =>
    have g1 : σ[i]? = some (some x) := g1
    dsimp only at p1
    split at p1
    · rename_i xs0 b0 e0
      obtain ⟨a, ea, za, ba, vs0, hv0, rv0⟩ := s1.slot i _ e0
      have ea : σ[i]? = _ := ea
      rw [g1] at ea
      cases ea
      refine ⟨.inl ⟨rfl, vs0, .inl (.inl hv0)⟩, ?_⟩
      simp only [iNil, Res.bind] at p1
      rw [e0] at p1
      dsimp only at p1
      split at p1
      · rename_i d ys e4
        refine hs Z B1 H1 a xs0 vs0 [] [] d ys Q s1.same hv0 rv0 rfl e4 fun u us ru rus => ?_
        obtain ⟨s3, x3⟩ := S.put (c := ⟨σ, δ1, B1, H1⟩) (o' := .lst ys) (u := .lst us) s1 e0 g1 ⟨us, rfl, rus⟩
        exact p1 B1 _ u s3 (x1.trans x3) ru
      · exact p1.elim
    · exact p1.elim
theorem qv_mu {e o : Expr} {es : List Expr} {name : Str} {id : String} {apos cpos : Pos} {f : List D → List D → Option (D × List D)} {g : Sem' R} {h : Sem' (List D)} {r : V → List V → Hp → VK → Prop} (pa : PlainAttrs "list") (slot : PySem.Slot "list" name id) (hty : typeOf (.builtin id) = pure (.type "method_descriptor")) (hm : MtR X id r) (hs' : MuS X.K r f)
    (ho : PE X o (sE X.K E cn g)) (ha : PA X (e :: es) (sAI X.K E cn h)) (hbase : attributeBase o name X.env (eval o X.env) = eval o X.env := by rfl)
    (hfew : ((backTo cpos (starEach (e :: es) X.env)).all (fun x => !x.1) && (backToKw cpos (keywordEach [] X.env)).all (fun x => x.1.isSome) && decide ((e :: es).length + ([] : List Keyword).length + (if ([] : List Keyword).isEmpty then 0 else 1) < 30)) = true := by rfl)
    (hline : (apos.endLine == cpos.line) = true := by rfl) (hs : starEach (e :: es) X.env = (false, eval e X.env) :: starEach es X.env := by rfl) (hplain : (backTo cpos (starEach es X.env)).any (·.1) = false := by rfl) :
    PE X (.Call (.Attribute o name apos) (e :: es) [] cpos) (sE X.K E cn (vMut f g h)) := (pe_bm pa slot hty hm ho ha hbase hfew hline hs hplain).imp fun _ _ _ h => qmu hs' h
theorem qv_mu0 {o : Expr} {name : Str} {id : String} {apos cpos : Pos} {f : List D → List D → Option (D × List D)} {g : Sem' R} {r : V → List V → Hp → VK → Prop} (pa : PlainAttrs "list") (slot : PySem.Slot "list" name id) (hty : typeOf (.builtin id) = pure (.type "method_descriptor")) (hm : MtR X id r) (hs' : MuS X.K r f)
    (ho : PE X o (sE X.K E cn g)) (hbase : attributeBase o name X.env (eval o X.env) = eval o X.env := by rfl) (hline : (apos.endLine == cpos.line) = true := by rfl) :
    PE X (.Call (.Attribute o name apos) [] [] cpos) (sE X.K E cn (vMut f g iNil)) := (pe_bm0 pa slot hty hm ho hbase hline).imp fun _ _ _ h => qmu0 hs' h
def fAppend : List D → List D → Option (D × List D)
  | xs, [d] => if xs.length < sizeLine then some (.non, xs ++ [d]) else none
  | _, _ => none
theorem s_append : MuS K rAppend fAppend := by
  intro Z B H p xs vs ds ws d ys Q sm hp rx rd e f
  unfold fAppend at e
  split at e
  · split at e
    · rename_i hl
      cases e
      obtain ⟨v, t, rfl, h1, h2⟩ := rd
      cases (show t = [] from h2)
      exact ⟨p, vs, v, rfl, rfl, hp, by rw [reps_len rx]; exact hl, f _ _ rfl (reps_append rx (reps_one h1))⟩
    · cases e
  · cases e
def fPop : List D → List D → Option (D × List D)
  | xs, [] => (xs[xs.length - 1]?).map fun d => (d, xs.dropLast)
  | _, _ => none
theorem reps_dropLast {ds : List D} {vs : List V} (r : reps K Z B ds vs) : reps K Z B ds.dropLast vs.dropLast := by
  rw [List.dropLast_eq_take, List.dropLast_eq_take, reps_len r]
  exact reps_take _ r
theorem s_pop : MuS K rPop fPop := by
  intro Z B H p xs vs ds ws d ys Q sm hp rx rd e f
  unfold fPop at e
  split at e
  · simp only [Option.map_eq_some_iff] at e
    obtain ⟨d', e, h⟩ := e
    cases h
    cases (show ws = [] from rd)
    obtain ⟨v, hv, rv⟩ := reps_get rx e
    exact ⟨p, vs, v, rfl, rfl, hp, by rw [reps_len rx]; exact hv, f _ _ rv (reps_dropLast rx)⟩
  · cases e
def fPopAt : List D → List D → Option (D × List D)
  | xs, [.int i] => if small63 i then (match seqIndex? i xs.length with
    | some k => (xs[k]?).map fun d => (d, xs.eraseIdx k)
    | none => none) else none
  | _, _ => none
theorem s_popAt : MuS K rPopAt fPopAt := by
  intro Z B H p xs vs ds ws d ys Q sm hp rx rd e f
  unfold fPopAt at e
  split at e
  · split at e
    · rename_i hc
      split at e
      · rename_i k hk
        simp only [Option.map_eq_some_iff] at e
        obtain ⟨d', e, h⟩ := e
        cases h
        obtain ⟨w, t, rfl, h1, h2⟩ := rd
        cases (show t = [] from h2)
        cases (show w = .int _ from h1)
        obtain ⟨v, hv, rv⟩ := reps_get rx e
        exact ⟨p, vs, _, k, v, rfl, rfl, hp, (small63_ok hc).1, (small63_ok hc).2, by rw [reps_len rx]; exact hk, hv, f _ _ rv (reps_erase k rx)⟩
      · cases e
    · cases e
  · cases e
def fInsert : List D → List D → Option (D × List D)
  | xs, [.int i, d] => if decide (xs.length < sizeLine) && decide (0 ≤ i) && decide (i < 2 ^ 63) then some (.non, xs.take i.toNat ++ [d] ++ xs.drop i.toNat) else none
  | _, _ => none
theorem s_insert : MuS K (fun x vs H Q => ∃ (l : Addr) (xs : List V) (i : Int) (y : V), x = .ref l ∧ vs = [.int i, y] ∧ H l = some (.lst xs) ∧ xs.length < sizeLine ∧ 0 ≤ i ∧ i < 2 ^ 63 ∧ Q .non (upd H l (.lst (xs.take i.toNat ++ [y] ++ xs.drop i.toNat)))) fInsert := by
  intro Z B H p xs vs ds ws d ys Q sm hp rx rd e f
  unfold fInsert at e
  split at e
  · split at e
    · rename_i hc
      cases e
      simp only [Bool.and_eq_true, decide_eq_true_eq] at hc
      obtain ⟨w, t, rfl, h1, y, t2, rfl, h2, h3⟩ := rd
      cases (show t2 = [] from h3)
      cases (show w = .int _ from h1)
      exact ⟨p, vs, _, y, rfl, rfl, hp, by rw [reps_len rx]; exact hc.1.1, hc.1.2, hc.2, f _ _ rfl (reps_append (reps_append (reps_take _ rx) (reps_one h2)) (reps_drop _ rx))⟩
    · cases e
  · cases e
/-! ### o[i] = e -/
def vSub (i : Nat) (ix : Sem' R) : D → Env' → Res Env' := fun d δ => match δ[i]? with
  | some (.own (.lst _) _) => (ix δ).bind fun p => (match p.1 with
    | .imm (.int k) => (match p.2[i]? with
      | some (.own (.lst xs) b) => (match ixN xs.length k with
        | some j => .ok (p.2.set i (.own (.lst (xs.set j d)) b))
        | none => .stuck)
      | _ => .stuck)
    | _ => .stuck)
  | _ => .stuck
def vSetItem (i : Nat) (ix : Sem' R) (f : Sem' D) : SemS := fun δ => (f δ).out fun p => (vSub i ix p.1 p.2).out fun δ' => .next δ'
theorem sub_ok {c0 c1 : Cf} {i : Nat} {ix : Sem' R} {d : D} {v : V} {D' : Ends} (s1 : S K Z c1) (x1 : Ext c0 c1) (hr : rep K Z c1.B d v) {Q : L2.St → Hp → Prop} {k : Env' → Out} (hp : PostS K E cn Z c0 ((vSub i ix d c1.δ).out k) D')
    (hk : ∀ δ' B' H', S K Z ⟨c1.σ, δ', B', H'⟩ → Ext c0 ⟨c1.σ, δ', B', H'⟩ → Ext c1 ⟨c1.σ, δ', B', H'⟩ → PostS K E cn Z c0 (k δ') D' → Q c1.σ H') : gSub (tVar i) (sE K E cn ix) rSetL v c1.σ c1.H Q := by
  unfold vSub at hp
  split at hp
  · rename_i xs0 b0 e0
    obtain ⟨a, ea, za, ba, vs0, hv0, rv0⟩ := s1.slot i _ e0
    refine ⟨.ref a, ea, ?_⟩
    have hp2 : PostS K E cn Z c0 ((ix c1.δ).out fun p => ((match p.1 with
      | .imm (.int k) => (match p.2[i]? with
        | some (.own (.lst xs) b) => (match ixN xs.length k with
          | some j => .ok (p.2.set i (.own (.lst (xs.set j d)) b))
          | none => .stuck)
        | _ => .stuck)
      | _ => .stuck) : Res Env').out k) D' := by
      cases e : ix c1.δ with
      | ok p => rw [e] at hp; exact hp
      | raise _ => rw [e] at hp; exact hp
      | stuck => rw [e] at hp; exact hp
    refine sG_mono (subE (G := fun Z => RR K Z) s1 x1 hp2) fun y H2 ⟨r2, δ2, B2, e2, s2, x2, x12, g2, p2⟩ => ?_
    split at p2
    · rename_i n er
      have er : r2 = .imm (.int n) := er
      subst er
      cases (show y = .int n from g2)
      split at p2
      · rename_i xs b e3
        split at p2
        · rename_i j ej
          obtain ⟨a', ea', za', ba', vs, hv, rv⟩ := s2.slot i _ e3
          have ea' : c1.σ[i]? = _ := ea'
          rw [ea] at ea'
          cases ea'
          refine ⟨a, vs, n, j, rfl, rfl, hv, by rw [reps_len rv]; exact ej, ?_⟩
          obtain ⟨s3, x3⟩ := S.put (c := ⟨c1.σ, δ2, B2, H2⟩) (o' := .lst (xs.set j d)) (u := .lst (vs.set j v)) s2 e3 ea ⟨_, rfl, reps_set j rv (rep_mono x12.same _ _ hr)⟩
          exact hk _ _ _ s3 (x2.trans x3) (x12.trans x3) p2
        · exact p2.elim
      · exact p2.elim
    · exact p2.elim
  · exact hp.elim
theorem qp_item {st : Stmt} {i : Nat} {ix : Sem' R} {f : Sem' D} (h : PS X st (tAsg (sI X.K E cn f) (gSub (tVar i) (sE X.K E cn ix) rSetL))) : PS X st (sS X.K E cn (vSetItem i ix f)) :=
  h.imp fun σ H D' ⟨Z, B, δ, s, p⟩ => by
    refine sG_mono (subE (G := GD X.K) (c0 := ⟨σ, δ, B, H⟩) (c1 := ⟨σ, δ, B, H⟩) s (Ext.refl _) p) fun x H1 ⟨r1, δ1, B1, e1, s1, x1, _, g1, p1⟩ => ?_
    exact sub_ok (c1 := ⟨σ, δ1, B1, H1⟩) s1 x1 g1 p1 fun δ' B' H' s' x' _ p' => p' σ B' H' s' x'
/-- a[i], b[j] = e, f -/
def vSub2 (i : Nat) (ix : Sem' R) (j : Nat) (jx : Sem' R) (f : Sem' R) : SemS := fun δ => (f δ).out fun p => match p.1 with
  | .imm (.tup [d, e]) => (vSub i ix d p.2).out fun δ1 => (vSub j jx e δ1).out fun δ2 => .next δ2
  | _ => .stuck
theorem qp_item2 {st : Stmt} {i j : Nat} {ix jx : Sem' R} {f : Sem' R} (h : PS X st (tAsg (sE X.K E cn f) (gTup X.K 2 (gCons (gSub (tVar i) (sE X.K E cn ix) rSetL) (gCons (gSub (tVar j) (sE X.K E cn jx) rSetL) gNil))))) : PS X st (sS X.K E cn (vSub2 i ix j jx f)) :=
  h.imp fun σ H D' ⟨Z, B, δ, s, p⟩ => by
    refine sG_mono (subE (G := fun Z => RR X.K Z) (c0 := ⟨σ, δ, B, H⟩) (c1 := ⟨σ, δ, B, H⟩) s (Ext.refl _) p) fun x H1 ⟨r1, δ1, B1, e1, s1, x1, _, g1, p1⟩ => ?_
    split at p1
    · rename_i d e er
      have er : r1 = .imm (.tup [d, e]) := er
      subst er
      obtain ⟨a, vs, rfl, ha, v, t, rfl, h1, w, t2, rfl, h2, h3⟩ := g1
      cases (show t2 = [] from h3)
      refine ⟨a, _, rfl, same_t s1.same ha, rfl, v, _, rfl, ?_⟩
      refine sub_ok (c1 := ⟨σ, δ1, B1, H1⟩) (Q := fun σ' H' => gCons _ _ _ σ' H' _) s1 x1 h1 p1 fun δ2 B2 H2 s2 x2 x12 p2 => ?_
      refine ⟨w, _, rfl, ?_⟩
      exact sub_ok (c1 := ⟨σ, δ2, B2, H2⟩) (Q := fun σ' H' => gNil _ σ' H' _) s2 x2 (rep_mono x12.same _ _ h2) p2 fun δ3 B3 H3 s3 x3 _ p3 => ⟨rfl, p3 σ B3 H3 s3 x3⟩
    · exact p1.elim
end
end VI

set_option Elab.async false
set_option linter.all false
set_option maxRecDepth 100000
set_option maxHeartbeats 4000000
/-! What a text's defs are proved by. -/
namespace VI
open PySem PySem.Spec PyProof.Rows L2
/-- a def of the text keeps its promise: what its call does to data -/
structure DefOk (P : Program) (w : World) (K : PySem.W.Frag) (mg : Str → Option Value) (base : Heap) (cn : Nat → Value) (k n : Nat) (x : Str) (ps : List Str) (dflt : List D) (F : Fn) : Prop where
  ex : ∃ (f : Addr) (fd : FuncData) (dvs : List V) (ds : List Value), FnOk P w K mg base (L2.CX P w) k f fd ps (spF K cn n F) ∧ mg x = some (.ref f) ∧ PySem.W.keepIn K (.ref f) = true ∧ Binds K fd ps ds ∧ Vals dvs ds ∧ ∀ Z B, reps K Z B dflt dvs
section
variable {E : XK} {cn : Nat → Value} {X : Cx}
theorem qv_callD {e : Expr} {es : List Expr} {x : Str} {p pos : Pos} {ps : List Str} {k n : Nat} {F : Fn} {dflt : List D} {g : Sem' (List R)} (G : DefOk X.prog X.w X.K X.mg X.base cn k n x ps dflt F) (hr : Room k X.A) (hg : Gl X x) (hx : Passes (L2.CX X.prog X.w) X E) (ha : PA X (e :: es) (sA X.K E cn g))
    (hdb : (x == ("__debug__" : Str)) = false := by decide) (he : starEach (e :: es) X.env = (false, eval e X.env) :: starEach es X.env := by rfl) (hpl : (backTo pos (starEach es X.env)).any (·.1) = false := by rfl) : PE X (.Call (.Name x p) (e :: es) [] pos) (sE X.K E cn (vCall F n dflt g)) := by
  obtain ⟨f, fd, dvs, ds, h1, h2, h3, h4, h5, h6⟩ := G.ex
  exact qv_call h1 hr hg h2 h3 h4 h5 h6 hx ha hdb he hpl
theorem qv_callD0 {x : Str} {p pos : Pos} {ps : List Str} {k n : Nat} {F : Fn} {dflt : List D} (G : DefOk X.prog X.w X.K X.mg X.base cn k n x ps dflt F) (hr : Room k X.A) (hg : Gl X x) (hx : Passes (L2.CX X.prog X.w) X E) (hdb : (x == ("__debug__" : Str)) = false := by decide) : PE X (.Call (.Name x p) [] [] pos) (sE X.K E cn (vCall F n dflt aNil)) := by
  obtain ⟨f, fd, dvs, ds, h1, h2, h3, h4, h5, h6⟩ := G.ex
  refine (pe_call0 h1 hr hg h2 h3 h4 h5 hx hdb).imp fun σ H Q h => ?_
  have q : tCall (spF X.K cn n F) dvs E (sA X.K E cn aNil) σ H Q := call_of h6 h
  obtain ⟨Z, B, δ, s, p⟩ := q
  exact p B H [] s (Ext.refl _) rfl
/-! ### comparisons as tests -/
theorem qt_cmpR {a b : Expr} {op : CmpOp} {pos : Pos} {r : R2} {o : D → D → Option Ro} {f g : Sem' R} (ho : OpR X (compareOp op) r) (hs : OpS X.K r o) (hm : behindInMarks op b = false) (ha : PE X a (sE X.K E cn f)) (hb : PE X b (sE X.K E cn g)) : PT X (.Compare a [op] [b] pos) (sT X.K E cn (vB (vOp o f g))) :=
  (pt_cmpR ho ha hb hm).imp fun σ H Q h => qo hs (show sE X.K E cn (vOp o f g) σ H (fun x H1 => ∃ c, x = .bl c ∧ Q c H1) from tb_of h)
theorem tis_of {neg : Bool} {f : Sem' R} {σ : L2.St} {H : Hp} {Q : VK} (h : sE X.K E cn (vIs neg f) σ H Q) : sE X.K E cn f σ H (fun x H1 => Q (.bl ((decide (x = .non)) != neg)) H1) := by
  obtain ⟨Z, B, δ, s, p⟩ := h
  refine sG_mono (sub (G := fun Z => RR X.K Z) (c0 := ⟨σ, δ, B, H⟩) (c1 := ⟨σ, δ, B, H⟩) s (Ext.refl _) rfl p) fun x H1 ⟨r1, δ1, B1, e1, s1, x1, _, g1, p1⟩ => ?_
  split at p1
  · rename_i ow
    rw [vIs_val] at p1
    refine p1 B1 H1 _ s1 x1 ?_
    show V.bl _ = V.bl _
    congr 1
    have q := rr_non s1 g1 (vOwn_ok ow)
    by_cases hx : x = .non
    · rw [decide_eq_true hx, (matches_iff r1).mpr (q.mp hx)]
      cases neg <;> rfl
    · rw [decide_eq_false hx, if_neg (fun z => hx (q.mpr ((matches_iff r1).mp z)))]
      cases neg <;> rfl
  · exact p1.elim
theorem qt_is {a : Expr} {pos pos' : Pos} {jj} {f : Sem' R} (ha : PE X a (sE X.K E cn f)) : PT X (.Compare a [.Is] [.Constant .none jj pos'] pos) (sT X.K E cn (vB (vIs false f))) :=
  (pt_cmpR op_isN ha (pe_non (pos := pos') (j := jj)) (by rfl)).imp fun σ H Q h => by
    have h1 : sE X.K E cn (vIs false f) σ H (fun x H1 => ∃ c, x = .bl c ∧ Q c H1) := tb_of h
    exact sG_mono (tis_of h1) fun x H1 q => ⟨rfl, by simpa using q⟩
theorem qt_isnt {a : Expr} {pos pos' : Pos} {jj} {f : Sem' R} (ha : PE X a (sE X.K E cn f)) : PT X (.Compare a [.IsNot] [.Constant .none jj pos'] pos) (sT X.K E cn (vB (vIs true f))) :=
  (pt_cmpR op_notN ha (pe_non (pos := pos') (j := jj)) (by rfl)).imp fun σ H Q h => by
    have h1 : sE X.K E cn (vIs true f) σ H (fun x H1 => ∃ c, x = .bl c ∧ Q c H1) := tb_of h
    exact sG_mono (tis_of h1) fun x H1 q => ⟨rfl, by simpa using q⟩
/-- a op b op' c, b asked once -/
def vChain (o o' : D → D → Option Ro) (f g h : Sem' R) : Sem' R := fun δ => (f δ).bind fun p => (g p.2).bind fun q => match vw q.2 p.1, vw q.2 q.1 with
  | some x, some y => match o x y with
    | some (.imm (.bl true)) => (h q.2).bind fun r => (match vw r.2 q.1, vw r.2 r.1 with
      | some y', some z => (match o' y' z with
        | some ro => .ok (ro.r, r.2)
        | none => .stuck)
      | _, _ => .stuck)
    | some (.imm (.bl false)) => .ok (.imm (.bl false), q.2)
    | _ => .stuck
  | _, _ => .stuck
theorem chain_of {K : PySem.W.Frag} {o o' : D → D → Option Ro} {r r' : R2} {f g h : Sem' R} {σ : L2.St} {H : Hp} {Q : VK} (hs : OpS K r o) (hs' : OpS K r' o') (hq : sE K E cn (vChain o o' f g h) σ H Q) : tChain r r' (sE K E cn f) (sE K E cn g) (sE K E cn h) σ H Q := by
  obtain ⟨Z, B, δ, s, p⟩ := hq
  refine sG_mono (sub (G := fun Z => RR K Z) (c0 := ⟨σ, δ, B, H⟩) (c1 := ⟨σ, δ, B, H⟩) s (Ext.refl _) rfl p) fun x H1 ⟨r1, δ1, B1, e1, s1, x1, _, g1, p1⟩ => ?_
  refine sG_mono (sub (G := fun Z => RR K Z) (c0 := ⟨σ, δ, B, H⟩) (c1 := ⟨σ, δ1, B1, H1⟩) s1 x1 rfl p1) fun y H2 ⟨r2, δ2, B2, e2, s2, x2, x12, g2, p2⟩ => ?_
  split at p2
  · rename_i a b ea eb
    split at p2
    · rename_i er
      refine hs Z B2 H2 a b x y _ _ s2.same s2.z (vw_ok s2 (g1.on x12 rfl) ea) (vw_ok s2 g2 eb) er fun u hu => ?_
      cases (show u = .bl true from hu)
      refine ⟨true, rfl, ?_⟩
      rw [if_pos rfl]
      refine sG_mono (sub (G := fun Z => RR K Z) (c0 := ⟨σ, δ, B, H⟩) (c1 := ⟨σ, δ2, B2, H2⟩) s2 x2 rfl p2) fun y' H3 ⟨r3, δ3, B3, e3, s3, x3, x13, g3, p3⟩ => ?_
      split at p3
      · rename_i a' b' ea' eb'
        split at p3
        · rename_i ro ero
          exact hs' Z B3 H3 a' b' y y' ro Q s3.same s3.z (vw_ok s3 (g2.on x13 rfl) ea') (vw_ok s3 g3 eb') ero (fin s3 x3 p3)
        · exact p3.elim
      · exact p3.elim
    · rename_i er
      refine hs Z B2 H2 a b x y _ _ s2.same s2.z (vw_ok s2 (g1.on x12 rfl) ea) (vw_ok s2 g2 eb) er fun u hu => ?_
      cases (show u = .bl false from hu)
      refine ⟨false, rfl, ?_⟩
      rw [if_neg Bool.false_ne_true]
      exact p2 B2 H2 _ s2 x2 rfl
    · exact p2.elim
  · exact p2.elim
theorem qv_chain {a b c : Expr} {op op' : CmpOp} {pos : Pos} {r r' : R2} {o o' : D → D → Option Ro} {f g h : Sem' R} (ho : OpR X (compareOp op) r) (hs : OpS X.K r o) (ho' : OpR X (compareOp op') r') (hs' : OpS X.K r' o') (ha : PE X a (sE X.K E cn f)) (hb : PE X b (sE X.K E cn g)) (hc : PE X c (sE X.K E cn h))
    (hm : lastMarks [op, op'] [b, c] = false := by with_unfolding_all rfl) : PE X (.Compare a [op, op'] [b, c] pos) (sE X.K E cn (vChain o o' f g h)) := (pe_chain ho ho' ha hb hc hm).imp fun _ _ _ q => chain_of hs hs' q
theorem qt_chain {a b c : Expr} {op op' : CmpOp} {pos : Pos} {r r' : R2} {o o' : D → D → Option Ro} {f g h : Sem' R} (ho : OpR X (compareOp op) r) (hs : OpS X.K r o) (ho' : OpR X (compareOp op') r') (hs' : OpS X.K r' o') (ha : PE X a (sE X.K E cn f)) (hb : PE X b (sE X.K E cn g)) (hc : PE X c (sE X.K E cn h))
    (hm : lastMarks [op, op'] [b, c] = false := by with_unfolding_all rfl) : PT X (.Compare a [op, op'] [b, c] pos) (sT X.K E cn (vB (vChain o o' f g h))) :=
  (pt_chain ho ho' ha hb hc hm).imp fun σ H Q q => chain_of hs hs' (show sE X.K E cn (vChain o o' f g h) σ H (fun x H1 => ∃ c, x = .bl c ∧ Q c H1) from tb_of q)
/-! ### comprehensions -/
theorem _root_.L2.PTs.imp {X : Cx} {e : List Expr} {t t' : TT} (h : PTs X e t) (q : ∀ σ H Q, t' σ H Q → t σ H Q) : PTs X e t' := ⟨fun pins s σ H Q I hw => h.run pins s σ H Q I (q σ H Q hw)⟩
theorem qts_nil : PTs X [] (sT X.K E cn vYes) := pts_nil.imp fun σ H Q ⟨Z, B, δ, s, p⟩ => p B H true s (Ext.refl _) rfl
theorem qts_one {c : Expr} {f : Sem' Bool} (h : PT X c (sT X.K E cn f)) : PTs X [c] (sT X.K E cn f) := pts_one h
theorem qv_lc {elt tg iter : Expr} {ifs : List Expr} {scope : Scope} {own : List (Str × Nat)} {pos : Pos} {is : List Nat} {it : Sem' (List D)} {g : TG} {tgD : D → Env' → Option Env'} {cond : Sem' Bool} {ev : Sem' D} (e : own.map (·.2) = is) (hc : X.calm = true) (hN : X.N.Nodup) (ht' : TgS X.K is g tgD) (hi : PI X tg iter (sIt X.K E cn it)) (ok : BlkOk X.N X.env.scope scope own)
    (hg : ∀ (s : Shared) (H : Hp) (C : Addr) (cl : List (Str × Addr)) (fp : List Addr), PG (X.blk s H scope (compEnvC scope cl C X.env) fp) tg g) (ht : ∀ (s : Shared) (H : Hp) (C : Addr) (cl : List (Str × Addr)) (fp : List Addr), PTs (X.blk s H scope (compEnvC scope cl C X.env) fp) ifs (sT X.K E0 cn cond))
    (he : ∀ (s : Shared) (H : Hp) (C : Addr) (cl : List (Str × Addr)) (fp : List Addr), PE (X.blk s H scope (compEnvC scope cl C X.env) fp) elt (sI X.K E0 cn ev)) (hs : ∀ x, foldedSetIterable iter X.env x = pure x := by intro _; rfl) :
    PE X (.ListComp elt [⟨tg, iter, ifs, 0⟩] scope pos) (sE X.K E cn (vLc it tgD cond ev is)) := by
  subst e
  exact (pe_lc hc hN hi ok hg ht he hs).imp fun _ _ _ h => lc_plain ht' h
theorem qv_lcP {elt tg iter : Expr} {ifs : List Expr} {scope : Scope} {own : List (Str × Nat)} {pos : Pos} {is : List Nat} {k : Nat} {g : TG} {tgD : D → Env' → Option Env'} {cond : Sem' Bool} {ev : Sem' D} (e : own.map (·.2) = is) (hk : k ∉ is) (hp1 : Pure cond) (hp2 : Pure ev) (hc : X.calm = true) (hN : X.N.Nodup) (ht' : TgS X.K is g tgD) (hi : PI X tg iter (sItp k X.K E cn (vItP k))) (ok : BlkOk X.N X.env.scope scope own)
    (hg : ∀ (s : Shared) (H : Hp) (C : Addr) (cl : List (Str × Addr)) (fp : List Addr), PG (X.blk s H scope (compEnvC scope cl C X.env) fp) tg g) (ht : ∀ (s : Shared) (H : Hp) (C : Addr) (cl : List (Str × Addr)) (fp : List Addr), PTs (X.blk s H scope (compEnvC scope cl C X.env) fp) ifs (sT X.K E0 cn cond))
    (he : ∀ (s : Shared) (H : Hp) (C : Addr) (cl : List (Str × Addr)) (fp : List Addr), PE (X.blk s H scope (compEnvC scope cl C X.env) fp) elt (sI X.K E0 cn ev)) (hs : ∀ x, foldedSetIterable iter X.env x = pure x := by intro _; rfl) :
    PE X (.ListComp elt [⟨tg, iter, ifs, 0⟩] scope pos) (sE X.K E cn (vLc (vItP k) tgD cond ev is)) := by
  subst e
  exact (pe_lc hc hN hi ok hg ht he hs).imp fun _ _ _ h => lc_place ht' hk hp1 hp2 h
theorem qs_lc {i : Nat} {y : Str} {py : Pos} {elt tg iter : Expr} {ifs : List Expr} {scope : Scope} {own : List (Str × Nat)} {pos spos : Pos} {is : List Nat} {it : Sem' (List D)} {g : TG} {tgD : D → Env' → Option Env'} {cond : Sem' Bool} {ev : Sem' D} (e : own.map (·.2) = is) (hc : X.calm = true) (hN : X.N.Nodup) (hy : X.N[i]? = some y) (hyl : X.env.scope.names.lookup y = some .local)
    (hsw : swapsWith (.ListComp elt [⟨tg, iter, ifs, 0⟩] scope pos) (some (.Name y py)) spos.line X.env = pure true) (ht' : TgS X.K is g tgD) (hi : PI X tg iter (sIt X.K E cn it)) (ok : BlkOk X.N X.env.scope scope own)
    (hg : ∀ (s : Shared) (H : Hp) (C : Addr) (cl : List (Str × Addr)) (fp : List Addr), PG (X.blk s H scope (compEnvC scope cl C X.env) fp) tg g) (ht : ∀ (s : Shared) (H : Hp) (C : Addr) (cl : List (Str × Addr)) (fp : List Addr), PTs (X.blk s H scope (compEnvC scope cl C X.env) fp) ifs (sT X.K E0 cn cond))
    (he : ∀ (s : Shared) (H : Hp) (C : Addr) (cl : List (Str × Addr)) (fp : List Addr), PE (X.blk s H scope (compEnvC scope cl C X.env) fp) elt (sI X.K E0 cn ev)) (hs : ∀ x, foldedSetIterable iter X.env x = pure x := by intro _; rfl) :
    PS X (.Assign [.Name y py] (.ListComp elt [⟨tg, iter, ifs, 0⟩] scope pos) spos) (sS X.K E cn (vAsg i (vLc it tgD cond ev is))) := by
  subst e
  exact asg_of (ps_setLc hc hN hy hyl hsw hi ok hg ht he hs) fun _ _ _ h => lc_plain ht' h
theorem qs_lcP {i : Nat} {y : Str} {py : Pos} {elt tg iter : Expr} {ifs : List Expr} {scope : Scope} {own : List (Str × Nat)} {pos spos : Pos} {is : List Nat} {k : Nat} {g : TG} {tgD : D → Env' → Option Env'} {cond : Sem' Bool} {ev : Sem' D} (e : own.map (·.2) = is) (hk : k ∉ is) (hp1 : Pure cond) (hp2 : Pure ev) (hc : X.calm = true) (hN : X.N.Nodup) (hy : X.N[i]? = some y) (hyl : X.env.scope.names.lookup y = some .local)
    (hsw : swapsWith (.ListComp elt [⟨tg, iter, ifs, 0⟩] scope pos) (some (.Name y py)) spos.line X.env = pure true) (ht' : TgS X.K is g tgD) (hi : PI X tg iter (sItp k X.K E cn (vItP k))) (ok : BlkOk X.N X.env.scope scope own)
    (hg : ∀ (s : Shared) (H : Hp) (C : Addr) (cl : List (Str × Addr)) (fp : List Addr), PG (X.blk s H scope (compEnvC scope cl C X.env) fp) tg g) (ht : ∀ (s : Shared) (H : Hp) (C : Addr) (cl : List (Str × Addr)) (fp : List Addr), PTs (X.blk s H scope (compEnvC scope cl C X.env) fp) ifs (sT X.K E0 cn cond))
    (he : ∀ (s : Shared) (H : Hp) (C : Addr) (cl : List (Str × Addr)) (fp : List Addr), PE (X.blk s H scope (compEnvC scope cl C X.env) fp) elt (sI X.K E0 cn ev)) (hs : ∀ x, foldedSetIterable iter X.env x = pure x := by intro _; rfl) :
    PS X (.Assign [.Name y py] (.ListComp elt [⟨tg, iter, ifs, 0⟩] scope pos) spos) (sS X.K E cn (vAsg i (vLc (vItP k) tgD cond ev is))) := by
  subst e
  exact asg_of (ps_setLc hc hN hy hyl hsw hi ok hg ht he hs) fun _ _ _ h => lc_place ht' hk hp1 hp2 h
end
/-! ### what leaves the slots as they are -/
theorem Res.bind_ok {α β : Type} {m : Res α} {k : α → Res β} {b : β} (h : m.bind k = .ok b) : ∃ a, m = .ok a ∧ k a = .ok b := by
  cases m with
  | ok a => exact ⟨a, rfl, h⟩
  | raise c => cases h
  | stuck => cases h
theorem Pure.bind {α β : Type} {f : Sem' α} {k : α × Env' → Res (β × Env')} (h1 : Pure f) (h2 : ∀ a δ r δ', k (a, δ) = .ok (r, δ') → δ' = δ) : Pure (fun δ => (f δ).bind k) := fun δ r δ' h => by
  obtain ⟨⟨r1, δ1⟩, e1, k1⟩ := Res.bind_ok h
  rw [h2 _ _ _ _ k1, h1 _ _ _ e1]
theorem pu_var {i : Nat} : Pure (vVar i) := fun δ r δ' h => by
  unfold vVar at h
  split at h <;> cases h <;> rfl
theorem pu_c {d : D} : Pure (vC d) := fun δ r δ' h => by cases h; rfl
theorem pu_op {o : D → D → Option Ro} {f g : Sem' R} (h1 : Pure f) (h2 : Pure g) : Pure (vOp o f g) := h1.bind fun a δ r δ' h => (h2.bind (k := fun q => match vw q.2 a, vw q.2 q.1 with
  | some x, some y => match o x y with
    | some ro => .ok (ro.r, q.2)
    | none => .stuck
  | _, _ => .stuck) fun b δ2 r2 δ3 h3 => by
    dsimp only at h3
    split at h3
    · split at h3
      · cases h3; rfl
      · cases h3
    · cases h3) δ r δ' h
theorem pu_un {o : D → Option Ro} {f : Sem' R} (h1 : Pure f) : Pure (vUn o f) := h1.bind fun a δ r δ' h => by
  dsimp only at h
  split at h
  · split at h
    · cases h; rfl
    · cases h
  · cases h
theorem pu_B {f : Sem' R} (h1 : Pure f) : Pure (vB f) := h1.bind fun a δ r δ' h => by
  dsimp only at h
  split at h
  · cases h; rfl
  · cases h
theorem pu_yes : Pure vYes := fun δ r δ' h => by cases h; rfl
theorem pu_and {f g : Sem' Bool} (h1 : Pure f) (h2 : Pure g) : Pure (vAnd f g) := h1.bind fun a δ r δ' h => by
  dsimp only at h
  split at h
  · exact h2 _ _ _ h
  · cases h; rfl
theorem pu_or {f g : Sem' Bool} (h1 : Pure f) (h2 : Pure g) : Pure (vOr f g) := h1.bind fun a δ r δ' h => by
  dsimp only at h
  split at h
  · cases h; rfl
  · exact h2 _ _ _ h
theorem pu_not {f : Sem' Bool} (h1 : Pure f) : Pure (vNot f) := h1.bind fun a δ r δ' h => by cases h; rfl
/-- gives no place -/
def NoPl (f : Sem' R) : Prop := ∀ δ r δ', f δ = .ok (r, δ') → (∃ d, r = .imm d) ∨ ∃ o, r = .frs o
theorem np_ro (ro : Ro) : (∃ d, ro.r = .imm d) ∨ ∃ o, ro.r = .frs o := by
  cases ro with
  | imm d => exact .inl ⟨_, rfl⟩
  | lst d => exact .inr ⟨_, rfl⟩
  | tup d => exact .inl ⟨_, rfl⟩
theorem np_op {o : D → D → Option Ro} {f g : Sem' R} : NoPl (vOp o f g) := fun δ r δ' h => by
  unfold vOp at h
  obtain ⟨⟨r1, δ1⟩, e1, k1⟩ := Res.bind_ok h
  obtain ⟨⟨r2, δ2⟩, e2, k2⟩ := Res.bind_ok k1
  dsimp only at k2
  split at k2
  · split at k2
    · cases k2; exact np_ro _
    · cases k2
  · cases k2
theorem np_c {d : D} : NoPl (vC d) := fun δ r δ' h => by cases h; exact .inl ⟨_, rfl⟩
theorem pu_I {f : Sem' R} (h1 : Pure f) (h2 : NoPl f) : Pure (vI f) := fun δ r δ' h => by
  unfold vI at h
  obtain ⟨⟨r1, δ1⟩, e1, k1⟩ := Res.bind_ok h
  have e := h1 _ _ _ e1
  dsimp only at k1
  rcases h2 _ _ _ e1 with ⟨d, rfl⟩ | ⟨o, rfl⟩
  · cases k1; exact e
  · cases o with
    | lst ds => cases k1; exact e
    | dct _ => cases k1
    | dcT _ => cases k1
/-- the slot of a comprehension's own name holds data: it gives no place -/
def vVarI (i : Nat) : Sem' R := fun δ => match δ[i]? with
  | some (.imm d _) => .ok (.imm d, δ)
  | _ => .stuck
theorem qv_varI {E : XK} {cn : Nat → Value} {X : Cx} {e : Expr} {i : Nat} (h : PE X e (tVar i)) : PE X e (sE X.K E cn (vVarI i)) := by
  refine h.imp fun σ H Q ⟨Z, B, δ, s, p⟩ => ?_
  unfold vVarI at p
  split at p
  · rename_i d b q
    obtain ⟨x, e1, hx⟩ := s.slot i _ q
    exact ⟨x, e1, p B H x s (Ext.refl _) hx⟩
  · exact p.elim
theorem pu_varI {i : Nat} : Pure (vVarI i) := fun δ r δ' h => by
  unfold vVarI at h
  split at h <;> cases h <;> rfl
theorem np_varI {i : Nat} : NoPl (vVarI i) := fun δ r δ' h => by
  unfold vVarI at h
  split at h
  · cases h; exact .inl ⟨_, rfl⟩
  · cases h
end VI

set_option Elab.async false
set_option linter.all false
set_option maxRecDepth 100000
set_option maxHeartbeats 4000000
/-! Classes, facts of the top. -/
namespace VI
open PySem PySem.Spec PyProof.Rows L2
theorem in_units {k : Nat} {A : Around} (hr : Room k A) : A.units + 65 < cLine := by have := hr.un; omega
/-- an exception's class of the text -/
structure ExcOk (K : PySem.W.Frag) (mg : Str → Option Value) (x : Str) (v : Value) : Prop where
  ex : ∃ C : Addr, v = .ref C ∧ mg x = some (.ref C) ∧ PySem.W.excIn K C He.veBase "ValueError.__new__" = true ∧ PySem.W.keepIn K (.ref C) = true ∧ PySem.W.subIn K (.ref C) (.type "BaseException") = some true ∧ PySem.W.typeIn K (.ref C) = some (.type "type")
section
variable {E : XK} {cn : Nat → Value} {X : Cx}
theorem qp_raiseX {x m : Str} {j k : Nat} {p p2 pos pos2 : Pos} (T : ExcOk X.K X.mg x (cn k)) (hc : X.calm = true) (tk : Takes X (fun c d _ H => E c d H)) (hg : Gl X x) (hdb : (x == ("__debug__" : Str)) = false := by decide) :
    PS X (.Raise (some (.Call (.Name x p) [.Constant (.str m) j p2] [] pos)) none pos2) (sS X.K E cn (vRaise k)) := by
  obtain ⟨C, e1, e2, e3, e4, e5, e6⟩ := T.ex
  have h := pmk_own (X := X) (m := m) (j := j) (p := p) (p2 := p2) (pos := pos) PySem.F.excBase_ValueError e3 e2 e4 (raises_own e5 e6) hg hdb
  refine qp_raise hc tk ?_
  intro pins s σ H Q I q
  rw [e1] at q
  exact h pins s σ H Q I q
end
/-- a def without defaults is there -/
theorem DefOk.mk0 {P : Program} {w : World} {K : PySem.W.Frag} {mg : Str → Option Value} {base : Heap} {cn : Nat → Value} {k n : Nat} {x : Str} {ps : List Str} {F : Fn} {f : Addr} {fd : FuncData} (G : FnOk P w K mg base (L2.CX P w) k f fd ps (spF K cn n F)) (m : mg x = some (.ref f)) (kp : PySem.W.keepIn K (.ref f) = true) (b : Binds K fd ps []) :
    DefOk P w K mg base cn k n x ps [] F := ⟨f, fd, [], [], G, m, kp, b, .nil, fun _ _ => rfl⟩
theorem gc_str {K : PySem.W.Frag} {mg : Str → Option Value} {x z : Str} (h : ∃ t, mg x = some (.str z t)) : Gc K mg x (.str z) := let ⟨t, e⟩ := h; ⟨_, .str z, e, ⟨t, rfl⟩, fun _ _ => rfl⟩
theorem gc_int {K : PySem.W.Frag} {mg : Str → Option Value} {x : Str} {i : Int} (h : ∃ t, mg x = some (.int i t)) : Gc K mg x (.int i) := let ⟨t, e⟩ := h; ⟨_, .int i, e, ⟨t, rfl⟩, fun _ _ => rfl⟩
end VI

set_option Elab.async false
set_option linter.all false
set_option maxRecDepth 100000
set_option maxHeartbeats 4000000
/-! A comprehension that lets an exception out. -/
namespace VI
open PySem PySem.Spec PyProof.Rows L2
section
variable {M : Model} {A : Around} {E : Value → Shared → Prop} {s : Shared}
/-- what stands behind a comprehension's block -/
def outPost (M : Model) (A : Around) (E : Value → Shared → Prop) (Q : Value → Shared → Prop) (acc : Value) (ce : Env) (r : Result) (s' : Shared) : Prop :=
  match r with
  | .ok _ => ∃ m, s'.heap.Ns ce.locals m ∧ ∀ g, Heap.SameBut ce.locals s'.heap g → Q acc { s' with heap := g }
  | .error u => ∃ m, s'.heap.Ns ce.locals m ∧ ∀ g, Heap.SameBut ce.locals s'.heap g → wpAny M A (passOn "comprehension.variables-let-go" u ce : Sem Value) (fun _ _ => False) E { s' with heap := g }
theorem comp_out {ex : Expr} {scope : Scope} {env : Env} {pos : Pos} {mk first : Sem Value} {g : Comprehension} {gs : List Comprehension} {cl : List (Str × Addr)} {Q : Value → Shared → Prop}
    (h1 : clausesOf ex = g :: gs) (h2 : ∀ y, foldedSetIterable g.iter env y = pure y) (h3 : closureFor scope env = pure cl) (h4 : scope.kind = .function) (h5 : ∀ y ∈ scope.names, y.2 = .local → scope.names.lookup y.1 = some .local)
    (h : wpAny M A first (fun y t1 => wpAny M A (pyIter y) (fun it t2 => wpAny M A mk (fun acc t3 =>
      wpAny M A (newFunctionEnv scope env.globals cl [] env.qual none .none (some env)) (fun ce t4 => codeAny M A (.compStart ex 0 it acc { ce with scope := relabel scope env }) (outPost M A E Q acc { ce with scope := relabel scope env }) t4) E t3) E t2) E t1) E s) :
    wpAny M A (comprehension ex scope env pos mk false first none) Q E s := by
  unfold comprehension
  rw [h3, h1]
  refine wpAny_bind (wpAny_mono h (fun y t1 k1 => ?_) fun _ _ z => z)
  refine wpAny_bind (wpAny_standAt (wpAny_bind (wpAny_of_eq (h2 y) (wpAny_bind (wpAny_holding (wpAny_mono k1 (fun it t2 k2 => ?_) fun _ _ z => z))))))
  refine wpAny_standIf (wpAny_bind (wpAny_mono k2 (fun acc t3 k3 => ?_) fun _ _ z => z))
  refine wpAny_bind (wpAny_pure (wpAny_bind (wpAny_mono k3 (fun ce t4 k4 => ?_) fun _ _ z => z)))
  dsimp only
  have hv : ∀ l : List (Str × NameKind), (∀ p ∈ l, p ∈ scope.names) → ∀ p ∈ l, p.2 = .local → Env.kindOf { ce with scope := relabel scope env } p.1 = some .local := fun l hl p hp e =>
    lookup_relabel_local (h5 p (hl p hp) e)
  refine wpAny_holding (wpAny_bind (wpAny_attempt (wpAny_holding (wpAny_run (codeAny_mono k4 fun r t5 hr => ?_)))))
  cases r with
  | ok f =>
    obtain ⟨m, hn, q⟩ := hr
    refine wpAny_bind (wpAny_holding (wpAny_comp_letGo (cenv := { ce with scope := relabel scope env }) h4 _ t5 m (hv _ fun p hp => ?_) hn fun g' _ _ sb => wpAny_pure (q g' sb)))
    exact (List.mem_filter.mp (List.mem_reverse.mp hp)).1
  | error u =>
    obtain ⟨m, hn, q⟩ := hr
    refine wpAny_bind (wpAny_holding (wpAny_comp_letGo (cenv := { ce with scope := relabel scope env }) h4 _ t5 m (hv _ fun p hp => ?_) hn fun g' _ _ sb => wpAny_mono (q g' sb) (fun _ _ z => z.elim) fun _ _ z => z))
    exact (List.mem_filter.mp (List.mem_reverse.mp hp)).1
end
/-- a block whose parts let something out -/
abbrev blkX (X : Cx) (s : Shared) (H : Hp) (scope : Scope) (ce : Env) (fp : List Addr) (xe : Value → Shared → Prop) : Cx := { X.blk s H scope ce fp with xe := xe }
section
variable {X : Cx} {pins : List (Addr × Obj)} {σ : L2.St} {H : Hp} {s : Shared} {W : WX} {E : XK}
theorem Inv.toX {xe : Value → Shared → Prop} (I : Inv X pins σ H s) : Inv { X with xe := xe } pins σ H s :=
  ⟨⟨I.ok.mod, I.ok.kind, I.ok.glob, I.ok.blt, I.ok.above, I.ok.inj, I.ok.has, I.ok.cab, I.ok.hd, I.ok.frames, I.ok.stk, I.ok.exf, I.ok.bs, I.ok.bsz, I.ok.noex, I.ok.exfs, I.ok.funs, I.ok.frf⟩, I.os, I.bare, I.base, I.loc, I.cell, I.free, I.freeC, I.pin, I.hok, I.len⟩
theorem frames_on {B B' h h' : Heap} : ∀ {l : List Env}, h.FunFrames B l → (∀ L ∈ frs l, B'.get? L = none ∧ h'.get? L = h.get? L) → h'.FunFrames B' l
  | [], _, _ => trivial
  | env :: l, ⟨hk, ⟨L, o, hf, _, ho, hd⟩, hr⟩, hn =>
    have z := hn L (List.mem_filterMap.mpr ⟨env, List.mem_cons_self, hf⟩)
    ⟨hk, ⟨L, o, hf, z.1, z.2.trans ho, hd⟩, frames_on hr fun b hb => by
      obtain ⟨e, he, q⟩ := List.mem_filterMap.mp hb
      exact hn b (List.mem_filterMap.mpr ⟨e, List.mem_cons_of_mem _ he, q⟩)⟩
/-- what a call in a block lets out goes through the block -/
theorem out_blk {s3 s' : Shared} {H3 : Hp} {fp : List Addr} {scope : Scope} {ce : Env} {xb : Value → Shared → Prop} {pb : List (Addr × Obj)} {σb : L2.St} {u : Value} {E2 : Value → Shared → Prop}
    (I3 : Inv X pins σ H3 s3) (hs : X.stack = X.env :: X.outer) (hf : X.env.frame = some X.env.locals) (f3 : ∀ b ∈ fp, FpOk X pins H3 b ∧ b < s3.heap.objs.size) (tk : Takes X W) (hW : ∀ cls d σ H, E cls d H → W cls d σ H)
    (hC : ce.locals = s3.heap.objs.size) (hfr : ce.frame = X.env.frame) (Ib : Inv (blkX X s3 H3 scope ce fp xb) pb σb H s) (c : CX X.prog X.w X.stack H s E u s') :
    wpAny (model X.prog X.w) X.A (noteFrame u ce) (fun _ t => ∃ m, t.heap.Ns ce.locals m ∧ ∀ g, Heap.SameBut ce.locals t.heap g → wpAny (model X.prog X.w) X.A (passOn "comprehension.variables-let-go" u ce : Sem Value) (fun _ _ => False) X.xe { t with heap := g }) E2 s' := by
  obtain ⟨a, B, H', cls, d, rfl, fl, hok, ub, na, os, ag, hE⟩ := c
  have nf : noteFrame (.ref a) ce = noteFrame (.ref a) X.env := by
    unfold noteFrame PySem.frameOf
    rw [hfr]
  rw [nf]
  have hA : X.A.frames = some (X.env :: X.outer) := by rw [I3.ok.frames, hs]
  have fl' := fl
  rw [hs] at fl'
  refine HandSPX.looks_onZ Zc.steady hA hf fl' fun h1 held up => ?_
  rw [← hs] at held
  obtain ⟨k1, k2, k3, oe, vs, T, oT, ts, te, tz, td, t1, tT, tne, tg, tdT, tf⟩ := held
  obtain ⟨m, ⟨oC, es, ep, eC, rC⟩, _⟩ := id Ib.loc
  have eC : s.heap.get? ce.locals = some oC := eC
  have nC : ce.locals ∉ frs X.stack := fun z => by
    obtain ⟨_, o, e, _⟩ := I3.stack.mem z
    have := Heap.lt_size e
    rw [hC] at this
    exact Nat.lt_irrefl _ this
  have fC : H ce.locals = none := Ib.free
  have fC' : H' ce.locals = none := ub.free _ _ eC fC
  have bC : B.get? ce.locals = some oC := ub.keep _ _ eC fC nC
  refine ⟨m, ⟨oC, es, ep, k1 _ _ bC, rC⟩, fun h2 sb => ?_⟩
  obtain ⟨B', g1, g2⟩ := restrict B fun b => decide (b ≠ ce.locals)
  have G1 : ∀ b, b ≠ ce.locals → B'.get? b = B.get? b := fun b hb => g1 b (by simpa using hb)
  have G2 : B'.get? ce.locals = none := g2 _ (by simp)
  have sub : ∀ b o, B'.get? b = some o → b ≠ ce.locals ∧ B.get? b = some o := fun b o e => by
    have hb : b ≠ ce.locals := fun z => by rw [z, G2] at e; cases e
    exact ⟨hb, by rw [← G1 b hb]; exact e⟩
  have nB : ∀ b, B.get? b = none → B'.get? b = none := fun b e => by
    cases q : B'.get? b with
    | none => rfl
    | some o => rw [(sub b o q).2] at e; cases e
  have aC : a ≠ ce.locals := fun z => by rw [z, bC] at k2; cases k2
  have TC : T ≠ ce.locals := fun z => by rw [z, bC] at tT; cases tT
  have h2b : ∀ b, b ≠ ce.locals → h2.get? b = h1.get? b := fun b hb => sb.2 b hb
  have st2 : B'.StaysIn h2 := fun b o e => by
    obtain ⟨e1, e2⟩ := sub b o e
    rw [h2b b e1]
    exact k1 b o e2
  have held2 : HandSPX.HeldZ B' X.stack a (Zc cls d) X.env.locals h2 := by
    refine ⟨st2, nB _ k2, frames_on k3 fun L hL => ?_, oe, vs, T, oT, ts, ?_, tz, td, t1, nB _ tT, tne, ?_, tdT, tf⟩
    · have hLC : L ≠ ce.locals := fun z => nC (z ▸ hL)
      exact ⟨nB _ (k3.mem hL).1, h2b L hLC⟩
    · rw [h2b a aC]; exact te
    · rw [h2b T TC]; exact tg
  unfold PySem.passOn
  refine wpAny_bind (wpAny_field (show h2.get? a = some oe by rw [h2b a aC]; exact te) td t1 ?_)
  rw [if_neg (by simp)]
  rw [hfr, hf]
  refine wpAny_bind (HandSPX.setFlight_onZ held2 fun h3 held3 up3 => wpAny_throw (tk _ _ ?_))
  obtain ⟨m1, m2, m3, m4⟩ := id held3
  obtain ⟨G, q1, q2⟩ := restrict h3 fun b => (B'.get? b).isSome || decide (b ∈ frs X.stack)
  have gB : ∀ b o, B'.get? b = some o → G.get? b = some o := fun b o e => by
    rw [q1 b (by simp [e])]
    exact m1 b o e
  have gF : ∀ b, b ∈ frs X.stack → G.get? b = h3.get? b := fun b hb => q1 b (by simp [hb])
  have og : ∀ b o, G.get? b = some o → h3.get? b = some o ∧ ((B'.get? b).isSome = true ∨ b ∈ frs X.stack) := fun b o e => by
    cases q : ((B'.get? b).isSome || decide (b ∈ frs X.stack)) with
    | false => rw [q2 b q] at e; cases e
    | true =>
      rw [q1 b q] at e
      exact ⟨e, by simpa [Bool.or_eq_true] using q⟩
  -- a frame's object, from s3 on
  have fr3 : ∀ b o, s3.heap.get? b = some o → b ∈ frs X.stack → b ∉ fp → ∃ sl, G.get? b = some { o with slots := sl } := fun b o e hb hc => by
    have n3 : H3 b = none := I3.stkFree b hb
    obtain ⟨sl, r1⟩ := Ib.base.slot b o e n3 hb hc
    obtain ⟨sl2, r2⟩ := ub.slot b _ r1 hb
    obtain ⟨_, o', e', hd⟩ := I3.stack.mem hb
    rw [e] at e'
    cases e'
    obtain ⟨sl3, r3⟩ := up b _ r2 hd
    have hbC : b ≠ ce.locals := fun z => nC (z ▸ hb)
    have r3' : h2.get? b = _ := (h2b b hbC).trans r3
    obtain ⟨sl4, r4⟩ := up3 b _ r3' hd
    exact ⟨sl4, by rw [gF b hb]; exact r4⟩
  have newC : ∀ b o, s3.heap.get? b = some o → b ≠ ce.locals := fun b o e z => by
    have := Heap.lt_size e
    rw [z, hC] at this
    exact Nat.lt_irrefl _ this
  have hokB : HOk X.prog X.w H' B' := fun b o e => (hok b o e).stay (fun c w hc q => by
    have hcC : c ≠ ce.locals := fun z => by
      subst z
      rcases hc with hc | hc
      · rw [← hc, fC'] at e; cases e
      · rw [fC'] at hc; cases hc
    rw [G1 c hcC]
    exact q) (fun _ q => q) fun _ _ q => q
  refine ⟨a, B', { s3 with heap := G, gens := s'.gens, drawn := s'.drawn, toks := s'.toks }, pins, σ, H', cls, d, rfl, ?_, fun b o e hb => ?_, Heap.UpToSlots.of_keeps fun b o e => (og b o e).1, .inr (.inr held3), na, os.trans (show s.os = s3.os from Ib.os), ag, hW _ _ _ _ hE⟩
  · refine I3.call (ch := fp) ⟨fun b o e n hb hc => gB b o ?_, fun b o e n hb hc => fr3 b o e hb hc, fun b o e n hc => ?_, fun b o e hc => ?_, fun b xs e => ub.tups b xs (Ib.base.tups b xs e), fun b o xs e => ub.frzs b o xs (Ib.base.frzs b o xs e), fun b ps e => ?_⟩ (hokB.kept gB) ag fun b hb => ⟨(f3 b hb).1.2.2.2.1, (f3 b hb).1.2.1, (f3 b hb).1.2.2.2.2.1, (f3 b hb).1.2.2.2.2.2⟩
    · rw [G1 b (newC b o e)]
      exact ub.keep b o (Ib.base.keep b o e n hb hc) (Ib.base.free b o e n hc) hb
    · obtain ⟨o', r⟩ := Ib.base.there b o e hc
      exact ub.free b o' r (Ib.base.free b o e n hc)
    · by_cases hb : b ∈ frs X.stack
      · obtain ⟨sl, r⟩ := fr3 b o e hb hc
        exact ⟨_, r⟩
      · obtain ⟨o', r⟩ := Ib.base.there b o e hc
        obtain ⟨o2, r2⟩ := ub.there b o' r hb
        exact ⟨o2, gB b o2 (by rw [G1 b (newC b o e)]; exact r2)⟩
    · obtain ⟨m1, r1⟩ := Ib.base.tbls b ps e
      obtain ⟨m2, r2⟩ := ub.tbls b _ r1
      exact ⟨m1 ++ m2, by rw [r2, Array.append_assoc]⟩
  · obtain ⟨e', z⟩ := og b o e
    rcases z with z | z
    · obtain ⟨o', r⟩ := Option.isSome_iff_exists.mp z
      have y := m1 b o' r
      rw [e'] at y
      cases y
      exact r
    · exact absurd z hb
/-- a list comprehension of which the tests and the element may let out what E bears -/
theorem pe_lcX {elt tg iter : Expr} {ifs : List Expr} {scope : Scope} {own : List (Str × Nat)} {pos : Pos} {wi : TI} {g : TG} {tt : TT} {te : TE} (hcalm : X.calm = true) (hN : X.N.Nodup) (hst : X.stack = X.env :: X.outer) (hf : X.env.frame = some X.env.locals) (tk : Takes X W) (hW : ∀ cls d σ H, E cls d H → W cls d σ H)
    (hi : PI X tg iter wi) (ok : BlkOk X.N X.env.scope scope own)
    (hg : ∀ (t : Shared) (J : Hp) (C : Addr) (cl : List (Str × Addr)) (fp : List Addr) (xe : Value → Shared → Prop), PG (blkX X t J scope (compEnvC scope cl C X.env) fp xe) tg g)
    (ht : ∀ (t : Shared) (J : Hp) (C : Addr) (cl : List (Str × Addr)) (fp : List Addr) (xe : Value → Shared → Prop), Passes (L2.CX X.prog X.w) (blkX X t J scope (compEnvC scope cl C X.env) fp xe) E → PTs (blkX X t J scope (compEnvC scope cl C X.env) fp xe) ifs tt)
    (he : ∀ (t : Shared) (J : Hp) (C : Addr) (cl : List (Str × Addr)) (fp : List Addr) (xe : Value → Shared → Prop), Passes (L2.CX X.prog X.w) (blkX X t J scope (compEnvC scope cl C X.env) fp xe) E → PE (blkX X t J scope (compEnvC scope cl C X.env) fp xe) elt te)
    (hfs : ∀ x, foldedSetIterable iter X.env x = pure x := by intro _; rfl) : PE X (.ListComp elt [⟨tg, iter, ifs, 0⟩] scope pos) (tLc wi g tt te (own.map (·.2))) := by
  refine ⟨fun pins s σ H Q I0 want => ?_⟩
  rw [eval_ListComp]
  have free : ∀ y ∈ scope.names, y.2 = .free → ∃ c, X.env.cells.lookup y.1 = some c := fun y hy e => (ok.free y hy e).elim (fun k => I0.ok.has _ (.inl k)) fun k => I0.ok.has _ (.inr k)
  refine comp_out rfl hfs (closure_ok free) ok.kind (fun y hy e => (ok.uniq y hy).trans (congrArg some e)) (thn (hi.run pins s σ H _ I0 want) fun v1 t1 k1 => thn k1 fun v2 t2 ⟨it, fp, tn, J, H2, e2, I2, T, n0, f2, q2⟩ => ?_)
  subst e2
  refine wpAny_newObj_type (newEnv_comp ?_) (Nat.zero_le _)
  have n2 : H2 t2.heap.objs.size = none := I2.hok.fresh (Nat.le_refl _)
  obtain ⟨Wl, ⟨m0, w0⟩, turn⟩ := q2 _ n2
  generalize eD : t2.heap.objs.size = D at *
  -- behind the list
  generalize eT : ({ t2 with heap := t2.heap.push { cls := .type "list", data := .seq ([] : List Value).toArray } } : Shared) = t3
  have hT : t3.heap = t2.heap.push { cls := .type "list", data := .seq ([] : List Value).toArray } := by rw [← eT]
  have I3 : Inv X pins σ (upd H2 D (.lst [])) t3 := by
    rw [← eT]
    exact I2.laid (t' := t2.toks) (fun b o q => Heap.get?_push_of_some _ q) (Nat.le_of_eq eD) ⟨Nat.zero_le _, [], 0, .nil, by rw [← eD]; exact Heap.get?_push_size _ rfl⟩
  generalize eH : upd H2 D (.lst []) = H3 at I3 w0
  have f3 : ∀ b ∈ fp, FpOk X pins H3 b ∧ b < t3.heap.objs.size := fun b hb => by
    obtain ⟨o, q, _⟩ := T.obj _ _ n0 b hb
    have lt := Heap.lt_size q
    refine ⟨⟨?_, (f2 b hb).2⟩, by rw [hT, Heap.size_push]; exact Nat.lt_succ_of_lt lt⟩
    rw [← eH, upd_ne (fun z => by rw [z, eD] at lt; exact Nat.lt_irrefl _ lt)]
    exact (f2 b hb).1
  have n3 : tn 0 t3.heap := T.keep _ _ _ n0 fun b _ o q => by rw [hT]; exact Heap.get?_push_of_some _ q
  have I4 := block_start I3 ok hN f3
  generalize eE : compEnvC scope (cellsFrom (t3.heap.objs.size + 1) scope.names (cloFrom X.env.cells scope.names [])) t3.heap.objs.size X.env = ce at I4
  have cL : ce.locals = t3.heap.objs.size := by rw [← eE]; rfl
  have cF : ce.frame = X.env.frame := by rw [← eE]; rfl
  have post : ∀ {Rr : Env → Result → Shared → Prop} {t : Shared} {c : Code}, codeAny (model X.prog X.w) X.A c (Rr ce) t → codeAny (model X.prog X.w) X.A c (Rr (compEnvC scope (cellsFrom (t3.heap.objs.size + 1) scope.names (cloFrom X.env.cells scope.names [])) t3.heap.objs.size X.env)) t := fun {Rr t c} z => by rw [eE]; exact z
  show codeAny _ _ (.compStart (.ListComp elt [⟨tg, iter, ifs, 0⟩] scope pos) 0 (.ref it) (.ref D) (compEnvC scope (cellsFrom (t3.heap.objs.size + 1) scope.names (cloFrom X.env.cells scope.names [])) t3.heap.objs.size X.env))
    (outPost (model X.prog X.w) X.A X.xe (EP X pins σ Q) (.ref D) (compEnvC scope (cellsFrom (t3.heap.objs.size + 1) scope.names (cloFrom X.env.cells scope.names [])) t3.heap.objs.size X.env)) { t3 with heap := pushCells (t3.heap.push { cls := .type "dict", data := .dict #[] }) scope.names }
  have pg := fun xe => hg t3 H3 t3.heap.objs.size (cellsFrom (t3.heap.objs.size + 1) scope.names (cloFrom X.env.cells scope.names [])) fp xe
  have pt := fun xe => ht t3 H3 t3.heap.objs.size (cellsFrom (t3.heap.objs.size + 1) scope.names (cloFrom X.env.cells scope.names [])) fp xe
  have pe := fun xe => he t3 H3 t3.heap.objs.size (cellsFrom (t3.heap.objs.size + 1) scope.names (cloFrom X.env.cells scope.names [])) fp xe
  rw [eE] at pg pt pe ⊢
  clear eE
  generalize eS : ({ t3 with heap := pushCells (t3.heap.push { cls := .type "dict", data := .dict #[] }) scope.names } : Shared) = t4 at I4 ⊢
  have n4 : tn 0 t4.heap := T.keep _ _ _ n3 fun b _ o q => by rw [← eS]; exact pushCells_keeps _ _ _ _ (Heap.get?_push_of_some _ q)
  -- what goes out of the block
  generalize eX : notedBy (model X.prog X.w) X.A ce (fun u s' => outPost (model X.prog X.w) X.A X.xe (EP X pins σ Q) (.ref D) ce (.error u) s') = xb
  have go : Passes (L2.CX X.prog X.w) (blkX X t3 H3 scope ce fp xb) E := fun pb σb Hb sb u s' Ib cx => by
    rw [← eX]
    exact out_blk I3 hst hf f3 tk hW cL cF Ib cx
  have PGx := pg xb
  have PTx := pt xb go
  have PEx := pe xb go
  have I4 : Inv (blkX X t3 H3 scope ce fp xb) [] (wipe σ (own.map (·.2))) H3 t4 := Inv.toX I4
  have still : ∀ {τ : L2.St} {Hb : Hp} {t : Shared}, Inv (blkX X t3 H3 scope ce fp xb) [] τ Hb t → (∀ b ∈ fp, Hb b = none) → ∀ b ∈ fp, FpOk (blkX X t3 H3 scope ce fp xb) [] Hb b := fun {τ Hb t} Ib nb b hb =>
    ⟨nb b hb, (Ib.ok.exf b hb).1, Ib.ok.exfs b hb, .inl hb, fun y c q => (Ib.ok.exf b hb).2 y c q, fun p hp => absurd (show p ∈ ([] : List (Addr × Obj)) from hp) (by simp)⟩
  have loop : codeAny (model X.prog X.w) X.A (.compLoop (.ListComp elt [⟨tg, iter, ifs, 0⟩] scope pos) 0 (.ref it) (.ref D) ce) (outPost (model X.prog X.w) X.A X.xe (EP X pins σ Q) (.ref D) ce) t4 := by
    refine compLoop_any (fun n t => ∃ i Hb, Inv (blkX X t3 H3 scope ce fp xb) [] (wipe σ (own.map (·.2))) Hb t ∧ tn i t.heap ∧ (∀ b ∈ fp, Hb b = none) ∧ Wl i n Hb) ?_ m0 ⟨0, H3, I4, n4, fun b hb => (f3 b hb).1.1, w0⟩
    rw [eX]
    rintro n t5 ⟨i, H5, I5, n5, z5, w5⟩
    rcases turn i n H5 w5 with ⟨stop, done⟩ | ⟨more, Nx, nxt, step⟩
    · refine thnF (T.done (blkX X t3 H3 scope ce fp xb) rfl rfl rfl hcalm i [] t5 _ H5 (fun _ _ => False) I5 (still I5 z5) n5 stop) fun r t6 ⟨er, I6⟩ => ?_
      subst er
      have I7 : Inv X pins σ H5 t6 := I3.call' (ch := fp) I6.os I6.base I6.hok I6.bare fun b hb => ⟨(f3 b hb).1.2.2.2.1, (f3 b hb).1.2.1, (f3 b hb).1.2.2.2.2.1, (f3 b hb).1.2.2.2.2.2⟩
      have zC : H5 ce.locals = none := I6.free
      obtain ⟨m, hn, _⟩ := I6.loc
      refine ⟨m, hn, fun g' sb => ?_⟩
      obtain ⟨f0, f1, _, f4, f5, f6⟩ := I3.fpOk (H' := H5) (b := ce.locals) (Nat.le_of_eq cL.symm) zC
      exact ⟨.ref D, H5, I7.turned (t' := t6.toks) (fun b o hb q => (sb.2 b hb).trans q) f0 f1 f4 f5 f6, rfl, done⟩
    · refine thnF (T.item (blkX X t3 H3 scope ce fp xb) rfl rfl rfl hcalm i [] t5 _ H5 (fun _ _ => False) I5 (still I5 z5) n5 more) fun r t6 ⟨u, er, k6⟩ => ?_
      subst er
      refine thnF k6 fun _ t7 ⟨x, H7, I7, r7, y7, n7, z7⟩ => ?_
      have J7 := I7.pinned (still I7 z7) (T.obj _ _ n7)
      refine thn (PGx.run _ t7 _ H7 x u _ J7 r7 (step x H7 y7)) fun _ t8 ⟨σ8, H8, I8, hw, q8⟩ => thn (PTx.run _ t8 σ8 H8 _ I8 q8) fun b t9 ⟨H9, I9, q9⟩ => ?_
      have next : ∀ {t : Shared} {Hb : Hp}, Inv (blkX X t3 H3 scope ce fp xb) ([] ++ pinsAt fp t7.heap) σ8 Hb t → Nx Hb → ∃ m, m < n ∧ ∃ i Hc, Inv (blkX X t3 H3 scope ce fp xb) [] (wipe σ (own.map (·.2))) Hc t ∧ tn i t.heap ∧ (∀ b ∈ fp, Hc b = none) ∧ Wl i m Hc := fun {t Hb} Ib nx => by
        obtain ⟨m', lt, w'⟩ := nxt Hb nx
        have kept : ∀ b ∈ fp, ∀ o, t7.heap.get? b = some o → t.heap.get? b = some o ∧ Hb b = none := fun b hb o q => by
          have z := Ib.pin (b, o) (List.mem_append_right _ (List.mem_append_right _ (mem_pinsAt hb q)))
          exact ⟨z.1, z.2.1⟩
        refine ⟨m', lt, i + 1, Hb, (Ib.unpinned (pins := [])).weak (by rw [← hw, wipe_length]) (fun j v q => ?_), T.keep _ _ _ n7 fun b hb o q => (kept b hb o q).1, fun b hb => ?_, w'⟩
        · rw [← hw] at q
          exact (wipe_some q).1
        · obtain ⟨o, q, _⟩ := T.obj _ _ n7 b hb
          exact (kept b hb o q).2
      cases b with
      | false =>
        rw [if_neg Bool.false_ne_true] at q9 ⊢
        exact next I9 q9
      | true =>
        rw [if_pos rfl] at q9 ⊢
        exact thn (PEx.run _ t9 σ8 H9 _ I9 q9) fun z t10 ⟨yv, H10, I10, r10, acc, d10, z10, nx⟩ => app_ok (X := blkX X t3 H3 scope ce fp xb) I10 d10 z10 r10 fun t11 I11 => next I11 nx
  exact codeAny_compStart_list loop (T.self X.A 0 _ _ _ n4 loop)
end
section
variable {E : XK} {cn : Nat → Value} {X : Cx} {W : WX}
theorem qv_lcX {elt tg iter : Expr} {ifs : List Expr} {scope : Scope} {own : List (Str × Nat)} {pos : Pos} {is : List Nat} {it : Sem' (List D)} {g : TG} {tgD : D → Env' → Option Env'} {cond : Sem' Bool} {ev : Sem' D} (e : own.map (·.2) = is) (hc : X.calm = true) (hN : X.N.Nodup) (hst : X.stack = X.env :: X.outer) (hf : X.env.frame = some X.env.locals) (tk : Takes X W) (hW : ∀ cls d σ H, E cls d H → W cls d σ H)
    (ht' : TgS X.K is g tgD) (hi : PI X tg iter (sIt X.K E cn it)) (ok : BlkOk X.N X.env.scope scope own)
    (hg : ∀ (t : Shared) (J : Hp) (C : Addr) (cl : List (Str × Addr)) (fp : List Addr) (xe : Value → Shared → Prop), PG (blkX X t J scope (compEnvC scope cl C X.env) fp xe) tg g)
    (ht : ∀ (t : Shared) (J : Hp) (C : Addr) (cl : List (Str × Addr)) (fp : List Addr) (xe : Value → Shared → Prop), Passes (L2.CX X.prog X.w) (blkX X t J scope (compEnvC scope cl C X.env) fp xe) E → PTs (blkX X t J scope (compEnvC scope cl C X.env) fp xe) ifs (sT X.K E cn cond))
    (he : ∀ (t : Shared) (J : Hp) (C : Addr) (cl : List (Str × Addr)) (fp : List Addr) (xe : Value → Shared → Prop), Passes (L2.CX X.prog X.w) (blkX X t J scope (compEnvC scope cl C X.env) fp xe) E → PE (blkX X t J scope (compEnvC scope cl C X.env) fp xe) elt (sI X.K E cn ev))
    (hs : ∀ x, foldedSetIterable iter X.env x = pure x := by intro _; rfl) : PE X (.ListComp elt [⟨tg, iter, ifs, 0⟩] scope pos) (sE X.K E cn (vLcX it tgD cond ev is)) := by
  subst e
  exact (pe_lcX hc hN hst hf tk hW hi ok hg ht he hs).imp fun _ _ _ h => lc_plainX ht' h
end
end VI

set_option Elab.async false
set_option linter.all false
set_option maxRecDepth 100000
set_option maxHeartbeats 4000000
/-! try: f(..) / except C as e: .. -/
namespace VI
open PySem PySem.Spec PyProof.Rows L2
/-- an argument that stands still from here on -/
def vArgF (f : Sem' R) : Sem' R := fun δ => (vI f δ).bind fun p => .ok (.imm p.1, p.2)
section
variable {E : XK} {cn : Nat → Value} {X : Cx}
theorem qv_argF {e : Expr} {f : Sem' R} (h : PE X e (sE X.K E cn f)) : PE X e (sE X.K E cn (vArgF f)) := (qi h).imp fun σ H Q ⟨Z, B, δ, s, p⟩ => by
  refine ⟨Z, B, δ, s, ?_⟩
  unfold vArgF at p
  cases e : vI f δ with
  | ok q =>
    rw [e] at p
    exact p
  | raise k =>
    rw [e] at p
    exact p
  | stuck =>
    rw [e] at p
    exact p
end
/-- what a frame still knows when a callee's exception has come -/
def lose : Env' → Option Env'
  | [] => some []
  | .none :: δ => (lose δ).map (Slot.none :: ·)
  | .imm d b :: δ => (lose δ).map (Slot.imm d b :: ·)
  | .own _ false :: δ => (lose δ).map (Slot.none :: ·)
  | .own _ true :: _ => none
theorem lose_at : ∀ {δ δ' : Env'}, lose δ = some δ' → δ'.length = δ.length ∧ ∀ (j : Nat) (s : Slot), δ'[j]? = some s → s = .none ∨ ∃ d b, s = .imm d b ∧ δ[j]? = some (.imm d b)
  | [], _, e => by cases e; exact ⟨rfl, fun j s h => by simp at h⟩
  | .none :: δ, _, e => by
    simp only [lose, Option.map_eq_some_iff] at e
    obtain ⟨t, e1, rfl⟩ := e
    obtain ⟨l, q⟩ := lose_at e1
    refine ⟨by simp [l], fun j s h => ?_⟩
    cases j with
    | zero => simp at h; exact .inl h.symm
    | succ j => exact (q j s (by simpa using h)).imp id fun ⟨d, b, h1, h2⟩ => ⟨d, b, h1, by simpa using h2⟩
  | .imm d b :: δ, _, e => by
    simp only [lose, Option.map_eq_some_iff] at e
    obtain ⟨t, e1, rfl⟩ := e
    obtain ⟨l, q⟩ := lose_at e1
    refine ⟨by simp [l], fun j s h => ?_⟩
    cases j with
    | zero => simp at h; exact .inr ⟨d, b, h.symm, rfl⟩
    | succ j => exact (q j s (by simpa using h)).imp id fun ⟨d, b, h1, h2⟩ => ⟨d, b, h1, by simpa using h2⟩
  | .own o false :: δ, _, e => by
    simp only [lose, Option.map_eq_some_iff] at e
    obtain ⟨t, e1, rfl⟩ := e
    obtain ⟨l, q⟩ := lose_at e1
    refine ⟨by simp [l], fun j s h => ?_⟩
    cases j with
    | zero => simp at h; exact .inl h.symm
    | succ j => exact (q j s (by simpa using h)).imp id fun ⟨d, b, h1, h2⟩ => ⟨d, b, h1, by simpa using h2⟩
  | .own _ true :: _, _, e => by cases e
theorem lose_pin : ∀ {δ δ' : Env'}, lose δ = some δ' → ∀ (j : Nat) (s : Slot), δ[j]? = some s → pinned s = true → δ'[j]? = some s
  | [], _, e, j, s, h, _ => by simp at h
  | .none :: δ, _, e, j, s, h, hp => by
    simp only [lose, Option.map_eq_some_iff] at e
    obtain ⟨t, e1, rfl⟩ := e
    cases j with
    | zero => simp at h; rw [← h] at hp; cases hp
    | succ j => exact lose_pin e1 j s (by simpa using h) hp
  | .imm d b :: δ, _, e, j, s, h, hp => by
    simp only [lose, Option.map_eq_some_iff] at e
    obtain ⟨t, e1, rfl⟩ := e
    cases j with
    | zero => exact h
    | succ j => exact lose_pin e1 j s (by simpa using h) hp
  | .own o false :: δ, _, e, j, s, h, hp => by
    simp only [lose, Option.map_eq_some_iff] at e
    obtain ⟨t, e1, rfl⟩ := e
    cases j with
    | zero => simp at h; rw [← h] at hp; cases hp
    | succ j => exact lose_pin e1 j s (by simpa using h) hp
  | .own _ true :: _, _, e, _, _, _, _ => by cases e
/-- the name of the clause goes -/
def Out.drop (i : Nat) : Out → Out
  | .next δ => if free' δ i then .next (δ.set i .none) else .stuck
  | .brk δ => if free' δ i then .brk (δ.set i .none) else .stuck
  | .cont δ => if free' δ i then .cont (δ.set i .none) else .stuck
  | .ret (.pl _) _ => .stuck
  | .ret r δ => if free' δ i then .ret r (δ.set i .none) else .stuck
  | .raise _ => .stuck
  | .stuck => .stuck
open Classical in
/-- what holds wherever the exception stands -/
noncomputable def outX (f : Addr → Out) : Out := if ∀ a, f a = f 0 then f 0 else .stuck
theorem outX_eq {f : Addr → Out} (h : ∀ a, f a = f 0) : outX f = f 0 := if_pos h
noncomputable def vTryC (F : Fn) (n : Nat) (dflt : List D) (g : Sem' (List R)) (i : Nat) (cat : Nat → Bool) (suite : Addr → Nat → SemS) : SemS := fun δ => match g δ with
  | .ok (rs, δ1) => (match callK F n dflt (rs, δ1) with
    | .ok (_, δ') => .next δ'
    | .raise k => if k < 9 then (if cat k then (match lose δ1 with
        | some δ2 => if free' δ2 i then outX (fun a => (suite a k (δ2.set i (.imm (.adr a) false))).drop i) else .stuck
        | none => .stuck) else .raise k) else .stuck
    | .stuck => .stuck)
  | _ => .stuck
section
variable {K : PySem.W.Frag} {E : XK} {cn : Nat → Value} {Z : Addr → Prop} {H0 H1 : Hp} {c c0 c1 c' : Cf} {X : Cx}
theorem free_all {δ : Env'} {i : Nat} (h : free' δ i = true) : freeAll δ [i] = true := by
  unfold free' at h
  unfold freeAll
  simp only [List.all_cons, List.all_nil, Bool.and_true]
  cases e : δ[i]? with
  | none => rfl
  | some s => rw [e] at h; exact h
theorem lose_S {σ : L2.St} {δ1 δ2 : Env'} {B1 H1 H' : Hp} {i : Nat} {a : Addr} (s : S K Z ⟨σ, δ1, B1, H1⟩) (l : lose δ1 = some δ2) (f : free' δ2 i = true) (rx : Rx ⟨σ, δ1, B1, H1⟩ H') :
    ∃ B', S K Z ⟨σ.set i (some (.ref a)), δ2.set i (.imm (.adr a) false), B', H'⟩ ∧ Ext ⟨σ, δ1, B1, H1⟩ ⟨σ.set i (some (.ref a)), δ2.set i (.imm (.adr a) false), B', H'⟩ := by
  obtain ⟨B', r1, r2, r3, r4⟩ := rx
  obtain ⟨l1, l2⟩ := lose_at l
  have hl : σ.length = δ1.length := s.len
  have hi : i < δ2.length := by
    unfold free' at f
    cases e : δ2[i]? with
    | none => rw [e] at f; cases f
    | some x => exact (List.getElem?_eq_some_iff.mp e).1
  have low : ∀ (j : Nat) (sl : Slot), (δ2.set i (.imm (.adr a) false))[j]? = some sl → (j = i ∧ sl = .imm (.adr a) false) ∨ (j ≠ i ∧ (sl = .none ∨ ∃ d b, sl = .imm d b ∧ δ1[j]? = some (.imm d b))) := fun j sl h => by
    by_cases e : j = i
    · subst e
      rw [List.getElem?_set_self hi] at h
      cases h
      exact .inl ⟨rfl, rfl⟩
    · rw [List.getElem?_set_ne (Ne.symm e)] at h
      exact .inr ⟨e, l2 j sl h⟩
  have noown : ∀ (j : Nat) (o : O) (b : Bool), (δ2.set i (.imm (.adr a) false))[j]? ≠ some (.own o b) := fun j o b h => by
    rcases low j _ h with ⟨_, q⟩ | ⟨_, q | ⟨d, b', q, _⟩⟩ <;> cases q
  refine ⟨B', ⟨r2, by show (σ.set i _).length = (δ2.set i _).length; rw [List.length_set, List.length_set, l1, hl], fun b hb => s.z b (r3 b hb), fun j sl hj => ?_, fun j k o o' b b' p h1 h2 h3 h4 => (noown j o b h1).elim⟩,
    ⟨r1, r3, fun q u h1 h2 h3 => ⟨(r4 q u h1 h2 h3).1, (r4 q u h1 h2 h3).2, fun ⟨j, o, b, g1, _⟩ => noown j o b g1⟩, fun j sl hj pj => ?_, fun p ⟨j, o, g1, _⟩ => (noown j o false g1).elim⟩⟩
  · show SlotOk K Z B' H' ((σ.set i (some (.ref a)))[j]?) sl
    rcases low j sl hj with ⟨rfl, rfl⟩ | ⟨ne, rfl | ⟨d, b, rfl, e⟩⟩
    · exact ⟨.ref a, by rw [List.getElem?_set_self (by rw [hl, ← l1]; exact hi)], rfl⟩
    · trivial
    · rw [List.getElem?_set_ne (Ne.symm ne)]
      obtain ⟨y, e1, r⟩ := s.slot j _ e
      exact ⟨y, e1, rep_mono r1 _ _ r⟩
  · have h2 := lose_pin l j sl hj pj
    have ne : j ≠ i := fun e => by
      subst e
      unfold free' at f
      rw [h2] at f
      simp only [pj] at f
      cases f
    exact ⟨List.getElem?_set_ne (Ne.symm ne), sl, by show (δ2.set i _)[j]? = _; rw [List.getElem?_set_ne (Ne.symm ne)]; exact h2, pj⟩
theorem drop_of {i : Nat} {o : Out} {D : Ends} (x : Ext c0 c1) (p : PostS K E cn Z c0 (o.drop i) D) {E2 : XK} :
    PostS K E2 cn Z c1 o { nx := fun σ' H' => D.nx (σ'.set i none) H', rt := D.rt, bk := fun σ' H' => D.bk (σ'.set i none) H', ct := fun σ' H' => D.ct (σ'.set i none) H' } := by
  have go : ∀ {σ' : L2.St} {δ' : Env'} {B' H' : Hp}, free' δ' i = true → S K Z ⟨σ', δ', B', H'⟩ → Ext c1 ⟨σ', δ', B', H'⟩ → S K Z ⟨σ'.set i none, δ'.set i .none, B', H'⟩ ∧ Ext c0 ⟨σ'.set i none, δ'.set i .none, B', H'⟩ ∧ Ext ⟨σ', δ', B', H'⟩ ⟨σ'.set i none, δ'.set i .none, B', H'⟩ := fun {σ' δ' B' H'} f s y => by
    obtain ⟨s1, y1⟩ := wipe_S (vs := [i]) s (free_all f)
    exact ⟨s1, (x.trans y).trans y1, y1⟩
  cases o with
  | next δ' =>
    intro σ' B' H' s y
    by_cases f : free' δ' i = true
    · have p : PostS K E cn Z c0 (if free' δ' i = true then Out.next (δ'.set i .none) else .stuck) D := p
      rw [if_pos f] at p
      obtain ⟨s1, y1, _⟩ := go f s y
      exact p _ _ _ s1 y1
    · have p : PostS K E cn Z c0 (if free' δ' i = true then Out.next (δ'.set i .none) else .stuck) D := p
      rw [if_neg f] at p
      exact p.elim
  | brk δ' =>
    intro σ' B' H' s y
    by_cases f : free' δ' i = true
    · have p : PostS K E cn Z c0 (if free' δ' i = true then Out.brk (δ'.set i .none) else .stuck) D := p
      rw [if_pos f] at p
      obtain ⟨s1, y1, _⟩ := go f s y
      exact p _ _ _ s1 y1
    · have p : PostS K E cn Z c0 (if free' δ' i = true then Out.brk (δ'.set i .none) else .stuck) D := p
      rw [if_neg f] at p
      exact p.elim
  | cont δ' =>
    intro σ' B' H' s y
    by_cases f : free' δ' i = true
    · have p : PostS K E cn Z c0 (if free' δ' i = true then Out.cont (δ'.set i .none) else .stuck) D := p
      rw [if_pos f] at p
      obtain ⟨s1, y1, _⟩ := go f s y
      exact p _ _ _ s1 y1
    · have p : PostS K E cn Z c0 (if free' δ' i = true then Out.cont (δ'.set i .none) else .stuck) D := p
      rw [if_neg f] at p
      exact p.elim
  | ret r δ' =>
    intro σ' B' H' v s y g
    by_cases f : free' δ' i = true
    · obtain ⟨s1, y1, y2⟩ := go f s y
      cases r with
      | pl j => exact p.elim
      | imm d =>
        have p : PostS K E cn Z c0 (if free' δ' i = true then Out.ret (.imm d) (δ'.set i .none) else .stuck) D := p
        rw [if_pos f] at p
        exact p _ _ _ v s1 y1 g
      | frs o =>
        have p : PostS K E cn Z c0 (if free' δ' i = true then Out.ret (.frs o) (δ'.set i .none) else .stuck) D := p
        rw [if_pos f] at p
        obtain ⟨q, e, z, bq, h0, ho, no⟩ := g
        refine p _ _ _ v s1 y1 ⟨q, e, z, bq, x.dom q h0, ho, fun ⟨j, o', b, k1, k2⟩ => no ?_⟩
        by_cases hj : j = i
        · subst hj
          have k1 : (δ'.set j .none)[j]? = _ := k1
          by_cases hl : j < δ'.length
          · rw [List.getElem?_set_self hl] at k1; cases k1
          · rw [List.getElem?_eq_none (by simpa using hl)] at k1; cases k1
        · have k1 : (δ'.set i .none)[j]? = _ := k1
          have k2 : (σ'.set i none)[j]? = _ := k2
          rw [List.getElem?_set_ne (Ne.symm hj)] at k1 k2
          exact ⟨j, o', b, k1, k2⟩
    · cases r with
      | pl j => exact p.elim
      | imm d =>
        have p : PostS K E cn Z c0 (if free' δ' i = true then Out.ret (.imm d) (δ'.set i .none) else .stuck) D := p
        rw [if_neg f] at p
        exact p.elim
      | frs o =>
        have p : PostS K E cn Z c0 (if free' δ' i = true then Out.ret (.frs o) (δ'.set i .none) else .stuck) D := p
        rw [if_neg f] at p
        exact p.elim
  | raise k => exact p.elim
  | stuck => exact p.elim
theorem PSs.at {t : L2.St → TS} {st : List Stmt} (h : ∀ σ, PSs X st (t σ)) : PSs X st (fun D σ H => t σ D σ H) := ⟨fun pins s σ H D I q => (h σ).run pins s σ H D I q⟩
theorem qp_tryC {x y nm : Str} {p ep cp np pos pos' : Pos} {e : Expr} {es : List Expr} {b0 : Stmt} {sst : List Stmt} {ps : List Str} {k n i : Nat} {F : Fn} {dflt : List D} {g : Sem' (List R)} {cat : Nat → Bool} {ssem : Addr → Nat → SemS} {c : Value}
    (G : DefOk X.prog X.w X.K X.mg X.base cn k n x ps dflt F) (hr : Room k X.A) (hg : Gl X x) (hs : X.stack = X.env :: X.outer) (hf : X.env.frame = some X.env.locals) (hN : X.N.Nodup) (hi : X.N[i]? = some nm) (hln : X.env.kindOf nm = some .local)
    (hc : Names X y c) (hcat : ∀ k, k < 9 → PySem.W.exmOne X.K (cn k) c = some (cat k)) (tk : Takes X (fun c d _ H => E c d H))
    (ha : ∀ (pn : List (Addr × Obj)) (xe : Value → Shared → Prop) (E : XK), PA (X.tr pn xe) (e :: es) (sA X.K E cn g))
    (hsu : ∀ (a : Addr) (oe : Obj) (k : Nat) (pn : List (Addr × Obj)), k < 9 → Zc (cn k) none oe → (∃ vs, oe.data = .fields vs) → PSs (X.suite a ((a, oe) :: pn)) (b0 :: sst) (sS X.K (fun _ _ _ => False) cn (ssem a k)))
    (hsw : ∀ (pn : List (Addr × Obj)) (xe : Value → Shared → Prop), swapsWith (.Call (.Name x p) (e :: es) [] cp) none ep.line (X.tr pn xe).env = pure false := by intro _ _; rfl)
    (hdb : (x == ("__debug__" : Str)) = false := by decide) (he : starEach (e :: es) X.env = (false, eval e X.env) :: starEach es X.env := by rfl) (hpl : (backTo cp (starEach es X.env)).any (·.1) = false := by rfl) :
    PS X (.Try [.Expr (.Call (.Name x p) (e :: es) [] cp) ep] [.ExceptHandler (some (.Name y np)) (some nm) (b0 :: sst) pos'] [] [] pos) (sS X.K E cn (vTryC F n dflt g i cat ssem)) := by
  obtain ⟨f, fd, dvs, ds, h1, h2, h3, h4, h5, h6⟩ := G.ex
  have main := ps_try_as (X := X) (pos := pos) (pos' := pos') (np := np) (i := i) (tb := fun W => tDrop (tCallSD (spF X.K cn n F) dvs (WE W) (fun σ H Q => sA X.K (WE W σ) cn g σ H Q)))
    (ts := fun a cls d D σ H => ∃ k, k < 9 ∧ cls = cn k ∧ d = none ∧ sS X.K (fun _ _ _ => False) cn (ssem a k) D σ H) (body := [.Expr (.Call (.Name x p) (e :: es) [] cp) ep]) (suite := sst) (b₀ := b0) hs hf hN hi hln hc tk
    (fun W pn xe tkW _ => pss_one (ps_expr (pe_callSD (X := X.tr pn xe) h1 hr hg h2 h3 h4 h5 (fun σ => passAt tkW σ) ⟨fun pos pins s σ H Q I q => (ha pn xe (WE W σ)).run pos pins s σ H Q I q⟩ hdb he hpl) (hsw pn xe)))
    (fun a oe cls d pn hz hv => ⟨fun pins s σ H D I ⟨k, hk, e1, e2, q⟩ => by
      subst e1 e2
      exact (hsu a oe k pn hk hz hv).run pins s σ H D I q⟩)
  refine ⟨fun pins s σ H D I q => main.run pins s σ H D I ?_⟩
  obtain ⟨Z, B, δ, s0, pp⟩ := q
  unfold vTryC at pp
  refine ⟨Z, B, δ, s0, ?_⟩
  cases eg : g δ with
  | raise k => rw [eg] at pp; exact pp.elim
  | stuck => rw [eg] at pp; exact pp.elim
  | ok q =>
    obtain ⟨rs, δ1⟩ := q
    rw [eg] at pp
    intro B1 H1 vs s1 x1 g1
    dsimp only at pp
    refine call_in (B := B) (H := H) (δ := δ) h6 s1 x1 g1 ?_
    cases ec : callK F n dflt (rs, δ1) with
    | stuck => rw [ec] at pp; exact pp.elim
    | ok q =>
      obtain ⟨r, δ'⟩ := q
      rw [ec] at pp
      exact fun B' H' v s2 x2 _ => pp σ B' H' s2 x2
    | raise k =>
      rw [ec] at pp
      intro H' rx
      dsimp only at pp
      by_cases hk : k < 9
      · rw [if_pos hk] at pp
        refine ⟨cat k, hcat k hk, fun hb a na => ?_, fun hb => ?_⟩
        · rw [if_pos hb] at pp
          cases el : lose δ1 with
          | none => rw [el] at pp; exact pp.elim
          | some δ2 =>
            rw [el] at pp
            dsimp only at pp
            by_cases hfr : free' δ2 i = true
            · rw [if_pos hfr] at pp
              obtain ⟨B', s2, x2⟩ := lose_S (a := a) s1 el hfr rx
              refine ⟨k, hk, rfl, rfl, Z, B', _, s2, drop_of (E := E) (c0 := ⟨σ, δ, B, H⟩) (x1.trans x2) ?_⟩
              by_cases hall : ∀ a, (fun a => (ssem a k (δ2.set i (.imm (.adr a) false))).drop i) a = (fun a => (ssem a k (δ2.set i (.imm (.adr a) false))).drop i) 0
              · rw [outX_eq hall] at pp
                rw [show (ssem a k (δ2.set i (.imm (.adr a) false))).drop i = (ssem 0 k (δ2.set i (.imm (.adr 0) false))).drop i from hall a]
                exact pp
              · unfold outX at pp
                rw [if_neg hall] at pp
                exact pp.elim
            · rw [if_neg hfr] at pp
              exact pp.elim
        · rw [hb] at pp
          rw [if_neg Bool.false_ne_true] at pp
          exact pp H' (Rx.of x1 rx)
      · rw [if_neg hk] at pp
        exact pp.elim
end
/-! ### the classes -/
def clsName : Nat → Str
  | 0 => "NoFace" | 1 => "NoBook" | 2 => "NoRule" | 3 => "NoSheet" | 4 => "NoDrawing" | 5 => "NoNode" | 6 => "NoPart" | 7 => "NoLeaf" | _ => "PressError"
/-- class k is (of) class j -/
def subC (k j : Nat) : Bool := k == j || j == 8
/-- .. where 9 is ValueError -/
def isC (k j : Nat) : Bool := j == 9 || subC k j
/-- what is asked of the classes in the written part -/
def exC (K : PySem.W.Frag) (D : Addr) : Bool :=
  He.eqO (PySem.W.findIn K (.ref D) "__getattribute__") (some (some (.builtin "BaseException.__getattribute__"))) && (He.eqO (PySem.W.findIn K (.ref D) "__getattr__") (some none) && (decide (PySem.W.subIn K (.ref D) (.type "BaseException") = some true) && (PySem.W.hasDictIn K D &&
    (He.eqO (PySem.W.findIn K (.ref D) "__class__") (some (some (.builtin "object.__class__"))) && (He.eqO (PySem.W.specialIn K (.builtin "object.__class__") "__get__") (some (some (.builtin "getset_descriptor.__get__"))) && (decide (PySem.W.takesIn K (.builtin "object.__class__") = some true) && decide (PySem.W.mroIn K D (.type "object") = some true)))))))
theorem exC_ok {K : PySem.W.Frag} {D : Addr} (h : exC K D = true) : ExcC K D := by
  obtain ⟨h1, h⟩ := He.ba h
  obtain ⟨h2, h⟩ := He.ba h
  obtain ⟨h3, h⟩ := He.ba h
  obtain ⟨h4, h⟩ := He.ba h
  obtain ⟨h5, h⟩ := He.ba h
  obtain ⟨h6, h⟩ := He.ba h
  obtain ⟨h7, h8⟩ := He.ba h
  exact ⟨He.eqO_ok h1, He.eqO_ok h2, of_decide_eq_true h3, h4, He.eqO_ok h5, He.eqO_ok h6, of_decide_eq_true h7, of_decide_eq_true h8⟩
def exB (K : PySem.W.Frag) : Bool :=
  (List.range 9).all fun k => exC K (He.ga K (clsName k)) && (decide (PySem.W.kitOne K (.ref (He.ga K (clsName k))) (.type "ValueError") = some true) &&
    (List.range 9).all fun j => decide (PySem.W.kitOne K (.ref (He.ga K (clsName k))) (.ref (He.ga K (clsName j))) = some (subC k j)) && decide (PySem.W.exmOne K (.ref (He.ga K (clsName k))) (.ref (He.ga K (clsName j))) = some (subC k j)))
/-- the classes of the text -/
structure ExT (K : PySem.W.Frag) (mg : Str → Option Value) (cn : Nat → Value) : Prop where
  exc : ∀ k, k < 9 → ∃ D : Addr, cn k = .ref D ∧ mg (clsName k) = some (.ref D) ∧ ExcC K D
  kit : ∀ k j, k < 9 → j < 9 → PySem.W.kitOne K (cn k) (cn j) = some (subC k j)
  exm : ∀ k j, k < 9 → j < 9 → PySem.W.exmOne K (cn k) (cn j) = some (subC k j)
  ve : ∀ k, k < 9 → PySem.W.kitOne K (cn k) (.type "ValueError") = some true
theorem exT_of {K : PySem.W.Frag} {mg : Str → Option Value} (h : exB K = true) (hg : ∀ k, k < 9 → mg (clsName k) = some (.ref (He.ga K (clsName k)))) : ExT K mg (fun k => .ref (He.ga K (clsName k))) := by
  have h1 : ∀ k, k < 9 → _ := fun k hk => He.ba (List.all_eq_true.mp h k (List.mem_range.mpr hk))
  have h2 : ∀ k j, k < 9 → j < 9 → _ := fun k j hk hj => He.ba (List.all_eq_true.mp (He.ba (h1 k hk).2).2 j (List.mem_range.mpr hj))
  exact ⟨fun k hk => ⟨_, rfl, hg k hk, exC_ok (h1 k hk).1⟩, fun k j hk hj => of_decide_eq_true (h2 k j hk hj).1, fun k j hk hj => of_decide_eq_true (h2 k j hk hj).2, fun k hk => of_decide_eq_true (He.ba (h1 k hk).2).1⟩
theorem ExT.names {cn : Nat → Value} {X : Cx} (T : ExT X.K X.mg cn) (j : Nat) (hj : j < 9) {y : Str} (e : clsName j = y) (hg : Gl X y) (hd : (y == ("__debug__" : Str)) = false := by decide) : Names X y (cn j) := by
  obtain ⟨D, e1, e2, _⟩ := T.exc j hj
  subst e
  exact ⟨hg, hd, .inl (by rw [e1]; exact e2)⟩
/-! ### isinstance of the caught exception -/
/-- e isinstance of one class, or of a tuple of them -/
def rIsX (K : PySem.W.Frag) (a : Addr) (kls : Value) : List V → Hp → VK → Prop := fun xs H Q => ∃ (c : V) (b : Bool), xs = [.ref a, c] ∧
  ((∃ cv, ClsV c cv ∧ PySem.W.kitOne K kls cv = some b) ∨ ∃ (tp : Addr) (cs : List V) (us : List Value), c = .ref tp ∧ H tp = some (.tup cs) ∧ Paired ClsV cs us ∧ PySem.W.kitAny K kls us = some b) ∧ Q (.bl b) H
theorem call_isX {X : Cx} {a D : Addr} {oe : Obj} (hp : (a, oe) ∈ X.pn) (C : ExcC X.K D) (hz : Zc (.ref D) none oe) (hf : ∃ vs, oe.data = .fields vs) : CallR X (.builtin "isinstance") (rIsX X.K a (.ref D)) := by
  intro pins s σ H xs us Q I r h
  obtain ⟨c, b, rfl, e, q⟩ := h
  obtain ⟨u1, u2, rfl, rx, rt⟩ := vals2 r
  cases (show u1 = Value.ref a from rx)
  obtain ⟨hget, _⟩ := I.pin (a, oe) (List.mem_append_left _ hp)
  obtain ⟨vs, hv⟩ := hf
  have J : PySem.W.InstAt s.heap a oe D none := by
    obtain ⟨oc, od, oda, osl⟩ := oe
    obtain ⟨z1, z2⟩ := hz
    dsimp only at z1 z2 hv
    subst z1 z2 hv
    exact ⟨hget, rfl, rfl, trivial⟩
  have kit := PySem.W.handS_kitx_exc (x := a) (ox := oe) C.hg C.hk C.hs C.hd C.ha C.hn C.ht C.hm
  rcases e with ⟨cv, k, e⟩ | ⟨tp, cs, ws, rfl, ht, k, e⟩
  · have z := k.eq rt
    subst z
    exact PySem.W.kia_one kit I.kIn J e (fun z => nomatch z) fun tk => ⟨.bl b, H, I.tok tk, rfl, q⟩
  · cases (show u2 = Value.ref tp from rt)
    obtain ⟨_, its, rv, o, g1, g2, n, g3⟩ := (show ObjOk X.prog X.w H s.heap tp (.tup cs) from I.hok tp _ ht)
    have z := ClsV.all k rv
    subst z
    obtain ⟨oc, od, dt, sl⟩ := o
    simp only at g2 g3
    subst g2 g3
    exact PySem.W.kia_tup kit I.kIn J g1 e (fun z => nomatch z) fun tk => ⟨.bl b, H, I.tok tk, rfl, q⟩
/-- isinstance(e, ..), e in slot i, the exception at a -/
def vIsX (i : Nat) (a : Addr) (b : Bool) : Sem' R := fun δ => match δ[i]? with
  | some (.imm (.adr a') _) => if a' = a then .ok (.imm (.bl b), δ) else .stuck
  | _ => .stuck
theorem vIsX_at {K : PySem.W.Frag} {E : XK} {cn : Nat → Value} {i : Nat} {a : Addr} {b : Bool} {σ : L2.St} {H : Hp} {Q : VK} (h : sE K E cn (vIsX i a b) σ H Q) : σ[i]? = some (some (.ref a)) ∧ Q (.bl b) H ∧ (∀ p o, H p = none → Q (.bl b) (upd H p o)) := by
  obtain ⟨Z, B, δ, s, p⟩ := h
  unfold vIsX at p
  split at p
  · rename_i a' bb e
    split at p
    · rename_i ea
      subst ea
      obtain ⟨x, e1, r⟩ := s.slot i _ e
      cases (show x = V.ref _ from r)
      refine ⟨e1, p B H _ s (Ext.refl _) rfl, fun q o hq => ?_⟩
      obtain ⟨s2, x2, _, _⟩ := s.new (u := o) hq
      exact p B _ _ s2 x2 rfl
    · exact p.elim
  · exact p.elim
/-- the classes that are asked for -/
inductive AskC (X : Cx) (cn : Nat → Value) : List Expr → List Nat → Prop where
  | nil : AskC X cn [] []
  | cons {j : Nat} {y : Str} {pos : Pos} {es : List Expr} {js : List Nat} (hj : j < 9) (e : clsName j = y) (hg : Gl X y) (hd : (y == ("__debug__" : Str)) = false) (r : AskC X cn es js) : AskC X cn (.Name y pos :: es) (j :: js)
def rfs (cn : Nat → Value) (js : List Nat) : List V := js.map fun j => match cn j with
  | .ref D => .ref D
  | _ => .non
theorem ExT.ref {K : PySem.W.Frag} {mg : Str → Option Value} {cn : Nat → Value} (T : ExT K mg cn) {js : List Nat} (h : ∀ j ∈ js, j < 9) : Paired ClsV (rfs cn js) (js.map cn) := by
  induction js with
  | nil => exact .nil
  | cons j js ih =>
    obtain ⟨D, e, _⟩ := T.exc j (h j List.mem_cons_self)
    refine .cons ?_ (ih fun x hx => h x (List.mem_cons_of_mem _ hx))
    dsimp only
    rw [e]
    exact .own D
theorem ExT.any {K : PySem.W.Frag} {mg : Str → Option Value} {cn : Nat → Value} (T : ExT K mg cn) {k : Nat} (hk : k < 9) {js : List Nat} (h : ∀ j ∈ js, j < 9) : PySem.W.kitAny K (cn k) (js.map cn) = some (js.any (subC k)) := by
  induction js with
  | nil => rfl
  | cons j js ih =>
    exact kitAny_cons (b := subC k j) (T.kit k j hk (h j List.mem_cons_self)) (fun e => by rw [List.any_cons, e]; exact ih fun x hx => h x (List.mem_cons_of_mem _ hx)) fun e => by rw [List.any_cons, e]; rfl
section
variable {E : XK} {cn : Nat → Value} {X : Cx}
theorem AskC.lt {es : List Expr} {js : List Nat} (h : AskC X cn es js) : ∀ j ∈ js, j < 9 := by
  induction h with
  | nil => intro j hj; cases hj
  | cons hj _ _ _ _ ih =>
    intro x hx
    rcases List.mem_cons.mp hx with rfl | hx
    · exact hj
    · exact ih x hx
theorem AskC.pa (T : ExT X.K X.mg cn) {es : List Expr} {js : List Nat} (h : AskC X cn es js) : PA X es (fun σ H Q => Q (rfs cn js) H) := by
  induction h with
  | nil => exact pa_nil
  | cons hj e hg hd r ih =>
    rename_i j y pos es js
    obtain ⟨D, e1, e2, _⟩ := T.exc j hj
    subst e
    have z : PE X (.Name (clsName j) pos) (tC (V.ref D)) := pe_glob hg e2 rfl hd
    have r1 : rfs cn (j :: js) = .ref D :: rfs cn js := by unfold rfs; rw [List.map_cons, e1]
    rw [r1]
    exact pa_cons z ih
theorem qv_isX1 {a : Addr} {oe : Obj} {k i j : Nat} {n y : Str} {p p1 p2 pos : Pos} (T : ExT X.K X.mg cn) (hp : (a, oe) ∈ X.pn) (hk : k < 9) (hz : Zc (cn k) none oe) (hf : ∃ vs, oe.data = .fields vs) (hv : PE X (.Name n p1) (tVar i)) (hj : j < 9) (e : clsName j = y) (hgy : Gl X y)
    (hg : Gl X "isinstance") (hm : X.mg "isinstance" = none) (hd : (y == ("__debug__" : Str)) = false := by decide) : PE X (.Call (.Name "isinstance" p) [.Name n p1, .Name y p2] [] pos) (sE X.K E cn (vIsX i a (subC k j))) := by
  obtain ⟨D, e1, e2, C⟩ := T.exc k hk
  rw [e1] at hz
  have A : AskC X cn [.Name y p2] [j] := .cons hj e hgy hd .nil
  refine (pe_callB (call_isX hp C hz hf) hg hm (by decide +kernel) (pa_cons hv (A.pa T))).imp fun σ H Q q => ?_
  obtain ⟨q1, q2, _⟩ := vIsX_at q
  refine ⟨.ref a, q1, ?_⟩
  obtain ⟨D', e1', _⟩ := T.exc j hj
  refine ⟨.ref D', subC k j, ?_, .inl ⟨.ref D', .own D', ?_⟩, q2⟩
  · unfold rfs
    rw [List.map_cons, e1']
    rfl
  · rw [← e1, ← e1']
    exact T.kit k j hk hj
theorem qv_isXV {a : Addr} {oe : Obj} {k i : Nat} {n : Str} {p p1 p2 pos : Pos} (T : ExT X.K X.mg cn) (hp : (a, oe) ∈ X.pn) (hk : k < 9) (hz : Zc (cn k) none oe) (hf : ∃ vs, oe.data = .fields vs) (hv : PE X (.Name n p1) (tVar i)) (hgv : Gl X "ValueError") (hmv : X.mg "ValueError" = none)
    (hg : Gl X "isinstance") (hm : X.mg "isinstance" = none) : PE X (.Call (.Name "isinstance" p) [.Name n p1, .Name "ValueError" p2] [] pos) (sE X.K E cn (vIsX i a true)) := by
  obtain ⟨D, e1, e2, C⟩ := T.exc k hk
  rw [e1] at hz
  refine (pe_callB (call_isX hp C hz hf) hg hm (by decide +kernel) (pa_cons hv (pa_cons (pe_bltn (v := V.ty "ValueError") hgv hmv (by decide +kernel) rfl) pa_nil))).imp fun σ H Q q => ?_
  obtain ⟨q1, q2, _⟩ := vIsX_at q
  refine ⟨.ref a, q1, ⟨.ty "ValueError", true, rfl, .inl ⟨_, .ty _, ?_⟩, q2⟩⟩
  rw [← e1]
  exact T.ve k hk
theorem qv_isXT {a : Addr} {oe : Obj} {k i : Nat} {n : Str} {p p1 p2 pos : Pos} {x1} {es : List Expr} {js : List Nat} (T : ExT X.K X.mg cn) (hp : (a, oe) ∈ X.pn) (hk : k < 9) (hz : Zc (cn k) none oe) (hf : ∃ vs, oe.data = .fields vs) (hv : PE X (.Name n p1) (tVar i)) (A : AskC X cn es js)
    (hg : Gl X "isinstance") (hm : X.mg "isinstance" = none) (hl : js.length ≤ 100 := by decide) : PE X (.Call (.Name "isinstance" p) [.Name n p1, .Tuple es x1 p2] [] pos) (sE X.K E cn (vIsX i a (js.any (subC k)))) := by
  obtain ⟨D, e1, e2, C⟩ := T.exc k hk
  rw [e1] at hz
  refine (pe_callB (call_isX hp C hz hf) hg hm (by decide +kernel) (pa_cons hv (pa_cons (pe_tup (A.pa T)) pa_nil))).imp fun σ H Q q => ?_
  obtain ⟨q1, _, q2⟩ := vIsX_at q
  refine ⟨.ref a, q1, ⟨?_, fun t ht => ?_⟩⟩
  · unfold rfs
    rw [List.length_map]
    exact Nat.le_trans hl (by decide)
  · refine ⟨.ref t, js.any (subC k), rfl, .inr ⟨t, _, _, rfl, upd_same, T.ref A.lt, ?_⟩, q2 t _ ht⟩
    rw [← e1]
    exact T.any hk A.lt
end
/-! ### a def called with the caught exception -/
structure FnX (P : Program) (w : World) (K : PySem.W.Frag) (mg : Str → Option Value) (base : Heap) (k : Nat) (f : Addr) (fd : FuncData) (ps : List Str) (kls : Value) (sp : Addr → Sp) : Prop where
  len : ∀ a vs H Q E, sp a vs H Q E → vs.length = ps.length
  run : ∀ (A : Around) (outer : List Env) (s : Shared) (H : Hp) (args : Args) (us : List Value) (vs : List V) (Q : VK) (E : XK) (p : Addr × Obj), L2H.RoomH k A → Zc kls none p.2 → (∃ fs, p.2.data = .fields fs) → L2H.PinOk outer H s p → Env0 P w K mg base A outer s H → BindsTo s fd args (ps.zip us) → Vals vs us → sp p.1 vs H Q E →
    codeAny (model P w) A (.call (.ref f) args) (CR (L2.CX P w) outer P w H s Q E) s
section
variable {P : Program} {w : World} {K : PySem.W.Frag} {mg : Str → Option Value} {base : Heap} {x qual : Str} {params : Arguments} {body : List Stmt} {scope : Scope} {f : Addr} {fd : FuncData} {dvs : List V}
theorem okX {N ps : List Str} {k : Nat} {kls : Value} {sp : Addr → Sp} (F : FunD K x qual params body scope dvs [] f fd) (S : FnScope N ps scope) (len : ∀ a vs H Q E, sp a vs H Q E → vs.length = ps.length)
    (hbody : ∀ (cdv : Value) (A : Around) (outer : List Env) (s : Shared) (H : Hp) (vs : List V) (Q : VK) (E : XK) (p : Addr × Obj), Zc kls none p.2 → (∃ fs, p.2.data = .fields fs) → L2H.RoomH k (A.deeper (envOfC qual scope s.heap.objs.size f cdv)) → sp p.1 vs H Q E →
      ∃ t, PSs (L2H.cxH (L2.CX P w) P w K mg base N qual scope f cdv A outer s H E p) body t ∧ t { nx := fun _ H' => Q .non H', rt := Q } (L2.start N vs) H) : FnX P w K mg base (k + 1) f fd ps kls sp := by
  obtain ⟨oc, od, dV, kV, doc, pm, an, cdv, ct, osl, rfl, lk, hcd, _, _⟩ := F.ex
  refine ⟨len, fun A outer s H args us vs Q E p room zc hfs hpin e0 hb r want => ?_⟩
  have hl := len _ _ _ _ _ want
  have KX : K.In s.heap := e0.mod.kin.keeps fun b o e => (e0.bs b o e).1
  have lim : s.heap.NoLimit := e0.mod.nolimit.keeps fun b o e => (e0.bs b o e).1
  refine codeAny_call_function room.depth (KX _ _ lk) rfl S.co S.gen rfl (PySem.W.codeRec_of KX hcd) (hb _ _ _ _ (wpAny_newFunctionEnv_cells S.kind (fun ⟨n, v⟩ hy => ?_) fun env he s1 nx => ?_))
  · exact (S.par n (List.of_mem_zip hy).1).elim .inl fun q => .inr ⟨q, PySem.W.cellsFrom_some _ _ _ (.inl q)⟩
  · subst he
    refine ⟨lim.keeps nx.toInCall.keep, codeAny_func ?_⟩
    obtain ⟨t, ht, hq⟩ := hbody cdv A outer s H vs Q E p zc hfs (room.deeper _) want
    have I := L2H.inv_startH (CX := L2.CX P w) (E := E) S hpin e0 hl r nx
    refine wpAny_mono (ht.run [] s1 _ H _ I hq) (fun fl s' hs => ?_) fun _ _ z => z
    cases fl with
    | ret u =>
      obtain ⟨v, τ, H', J, rv, q⟩ := hs
      exact ⟨v, H', J.os, J.bare, J.base, J.hok, rv, q⟩
    | next =>
      obtain ⟨τ, H', J, q⟩ := hs
      exact ⟨V.non, H', J.os, J.bare, J.base, J.hok, rfl, q⟩
    | brk =>
      obtain ⟨_, _, _, q⟩ := hs
      exact q.elim
    | cont =>
      obtain ⟨_, _, _, q⟩ := hs
      exact q.elim
end
section
variable {E : XK} {cn : Nat → Value} {X : Cx}
theorem qv_callX {a : Addr} {oe : Obj} {kc : Nat} {e : Expr} {es : List Expr} {x : Str} {p pos : Pos} {f : Addr} {fd : FuncData} {ps : List Str} {k n : Nat} {F : Addr → Fn} {g : Sem' (List R)} (G : FnX X.prog X.w X.K X.mg X.base k f fd ps (cn kc) (fun a => spF X.K cn n (F a))) (hr : L2H.RoomH k X.A)
    (hp : (a, oe) ∈ X.pn) (hz : Zc (cn kc) none oe) (hfs : ∃ vs, oe.data = .fields vs) (hg : Gl X x) (hm : X.mg x = some (.ref f)) (hk : PySem.W.keepIn X.K (.ref f) = true) (hb : Binds X.K fd ps []) (hx : Passes (L2.CX X.prog X.w) X E) (ha : PA X (e :: es) (sA X.K E cn g))
    (hdb : (x == ("__debug__" : Str)) = false := by decide) (he : starEach (e :: es) X.env = (false, eval e X.env) :: starEach es X.env := by rfl) (hpl : (backTo pos (starEach es X.env)).any (·.1) = false := by rfl) : PE X (.Call (.Name x p) (e :: es) [] pos) (sE X.K E cn (vCall (F a) n [] g)) := by
  refine ⟨fun pins s σ H Q I want => ?_⟩
  have want : tCall (spF X.K cn n (F a)) [] E (sA X.K E cn g) σ H Q := call_of (dflt := []) (fun _ _ => show ([] : List V) = [] from rfl) want
  refine wpAny_Call_Name_kw (ld_glob I hg hm ?_ hdb)
  refine PySem.W.callWith_K (h₀ := X.base) I.ok.mod.kin hk (thn (ha.run pos pins s σ H _ I want) fun us s1 ⟨vs, H1, I1, r, q⟩ => ⟨I1.kIn, ?_⟩) he hpl
  have q : spF X.K cn n (F a) vs H1 Q E := by
    have q : spF X.K cn n (F a) (vs ++ []) H1 Q E := q
    rw [List.append_nil] at q
    exact q
  have hl : us.length = ps.length := by rw [← r.length]; exact G.len a _ _ _ _ q
  have b := hb s1 us I1.kIn (by rw [List.append_nil]; exact hl)
  rw [List.append_nil] at b
  have P1 := I1.pin (a, oe) (List.mem_append_left _ hp)
  have hpin : L2H.PinOk X.stack H1 s1 (a, oe) := ⟨P1.1, P1.2.1, fun hm => (List.mem_cons.mp (I1.stkSub a hm)).elim P1.2.2.1 P1.2.2.2.1, P1.2.2.2.2⟩
  refine wpAny_call (codeAny_mono (G.run X.A X.stack s1 H1 ⟨us, []⟩ us vs Q E (a, oe) hr hz hfs hpin I1.env0 b r q) fun rr s' hq => ?_)
  cases rr with
  | error u => exact hx pins σ H1 s1 u s' I1 hq
  | ok fl =>
    cases fl with
    | ret u => exact I1.after hq
    | next => exact False.elim hq
    | brk => exact False.elim hq
    | cont => exact False.elim hq
end
end VI

set_option Elab.async false
set_option linter.all false
set_option maxRecDepth 100000
set_option maxHeartbeats 4000000
/-! The head, the end. -/
namespace VI
open PySem PySem.Spec PyProof.Rows L2
abbrev AlE : Type := He.AlD × Bool
def obsE (fa : List He.Fa) (fn : List He.DefD) (ex : PySem.W.Frag → Bool) (K : PySem.W.Frag) : AlE := (He.obsD fa fn K, ex K)
def valE (fn : List He.DefD) : AlE := (He.valD fn, true)
def obsEG (n : Nat) (fa : List He.Fa) (fn : List He.DefD) (ex : PySem.W.Frag → Bool) (g : Addr → Option Obj) : AlE := obsE fa fn ex (He.frG g (He.asD g n))
structure SaysE (fa : List He.Fa) (fn : List He.DefD) (ex : PySem.W.Frag → Bool) (K : PySem.W.Frag) : Prop where
  d : He.SaysD fa fn K
  e : ex K = true
def hookE (n : Nat) (fa : List He.Fa) (fn : List He.DefD) (ex : PySem.W.Frag → Bool) : PySem.W.Hook where
  α := AlE
  obs := fun s => obsEG n fa fn ex s.heap.get?
  val := fun _ => valE fn
  says := fun _ h => ∃ K : PySem.W.Frag, K.In h ∧ SaysE fa fn ex K
  of := fun _ _ e => ⟨_, He.frG_in, congrArg Prod.fst e, congrArg Prod.snd e⟩
  keeps := fun _ _ _ ⟨K, hK, c⟩ k => ⟨K, PySem.W.Frag.In.keeps hK k, c⟩
theorem obsEG_eq {n : Nat} {fa : List He.Fa} {fn : List He.DefD} {ex : PySem.W.Frag → Bool} {g : Addr → Option Obj} {s : Shared} (h : ∀ a, g a = s.heap.get? a) : obsEG n fa fn ex g = (hookE n fa fn ex).obs s := by
  have e : g = s.heap.get? := funext h
  rw [e] <;> rfl
theorem cx_none {P : Program} {w : World} (H : Hp) (s : Shared) (e : Value) (s' : Shared) (h : L2.CX P w [] H s (fun _ _ _ => False) e s') : False := by
  obtain ⟨_, _, _, _, _, _, _, _, _, _, _, _, z⟩ := h
  exact z
theorem excOk_of {K : PySem.W.Frag} {h : Heap} {mg : Str → Option Value} (X : K.In h) (G : h.Ns mainGlobals mg) {x : Str} (g : (He.Fa.glo x).ok K = true) (c : (He.Fa.exc x).ok K = true) : ExcOk K mg x (.ref (He.ga K x)) := by
  obtain ⟨h1, c⟩ := He.ba c
  obtain ⟨h2, c⟩ := He.ba c
  obtain ⟨h3, h4⟩ := He.ba c
  exact ⟨_, rfl, He.glo_ok X G g, h1, h2, of_decide_eq_true h3, of_decide_eq_true h4⟩
/-- the law's def at a script -/
theorem sp_law {K : PySem.W.Frag} {cn : Nat → Value} {F : Fn} {H : Hp} {a : Addr} {ns : List Int} {E : XK} (hS : SqL K H a (ns.map V.int)) (e : ∃ outs, F [.imm (.scr ns) false] = .ret (.imm (.bl true)) outs) : spF K cn 1 F [.ref a] H (fun v _ => v = .bl true) E := by
  obtain ⟨outs, e⟩ := e
  refine ⟨rfl, fun _ => True, H, [.imm (.scr ns) false], ⟨fun _ _ h => h, rfl, fun _ _ => trivial, fun i s hi => ?_, fun i j o o' b b' p h1 => ?_⟩, rfl, ?_⟩
  · cases i with
    | zero =>
      simp at hi
      subst hi
      exact ⟨.ref a, rfl, a, rfl, hS⟩
    | succ i => simp at hi
  · cases i with
    | zero => simp at h1
    | succ i => simp at h1
  · rw [e]
    exact fun B' H' v _ _ r => r
theorem walk_end {l : PySem.W.OpenLaw} {n k : Nat} {q : Program} {loose : List Str} {XP : (Str → Option Value) → Heap → Prop} {YP : World → Heap → Prop} {d : DefRec} {x : Str} {F : Fn} {cn : PySem.W.Frag → Nat → Value}
    (hn : l.most = some n) (hn2 : n ≤ sizeLine) (hdf : d.params.defaults = []) (hr : Room k callerA) (ht : ∀ ns : List Int, ns.length ≤ n → ∃ outs, F [.imm (.scr ns) false] = .ret (.imm (.bl true)) outs)
    (HF : ∀ (w : World) (mg : Str → Option Value) (fa : Addr) (h : Heap), YP w h → h.Ns mainGlobals mg → mg d.name = some (.ref fa) →
      ∃ (K : PySem.W.Frag) (fd : FuncData), K.In h ∧ (∀ (s : Shared) (u : Value), BindsTo s fd ⟨[u], []⟩ [(x, u)]) ∧ ∀ base : Heap, K.In base → base.Ns mainGlobals mg → FnOk l.prog w K mg base (L2.CX l.prog w) k fa fd [x] (spF K (cn K) 1 F)) :
    PySem.W.WalkO q loose XP YP l.row.toRowW d [] (fun f vs => PySem.call f vs) :=
  Att.attach_call hn hdf fun w t0 t1 mg mb fa o pm cd doc a vs ns G Y _ _ _ hmg hobj hints hlen hg => by
    obtain ⟨K, fd, KX, hb, hF⟩ := HF w mg fa _ Y G.T.g hmg
    exact law_call KX G.T.g G.T.b G.T.builtins G.T.nolimit hg hobj hints (Nat.le_trans hlen hn2) hr hF hb (fun H _ hS => sp_law hS (ht ns hlen)) fun H e s' => cx_none H t1 e s'
end VI

set_option Elab.async false
set_option linter.all false
set_option maxRecDepth 100000
set_option maxHeartbeats 4000000

noncomputable section
namespace K55
open PySem PySem.Spec PyProof.Rows L2 VI
def top (i : Nat) : Stmt := PySem.Challenge.pw_leafpress_k55_drawings_refused.main.body.getD i (.Pass ⟨0, 0, 0, 0⟩)
def c_WORD_SIGNS : D := .str "abcdefghijklmnopqrstuvwxyzABCDEFGHIJKLMNOPQRSTUVWXYZ0123456789.,-;:'()!?"
def c_MOST_SIGNS : D := .int 20
def c_FIGURES : D := .str "0123456789"
def c_MOST_FIGURES : D := .int 9
/-! made_of -/
def N_made_of : List Str := ["text", "signs", "sign"]
def t_made_of : SemS :=
  (vSeq (vFor (vIt (vVar 0)) (tName 2)
  (vIfS (vB (vOp dNotIn (vVar 2) (vVar 1)))
  (vRet (vC (.bl false)))
  vNext))
  (vRet (vC (.bl true))))
def F_made_of : Fn := vDef 2 3 t_made_of
/-! is_word -/
def N_is_word : List Str := ["text"]
def t_is_word : SemS :=
  (vRet (vV (vAnd (vB (vOp dLe (vC (.int 1)) (vCB fLen (aCons (vVar 0) aNil)))) (vAnd (vB (vOp dLe (vCB fLen (aCons (vVar 0) aNil)) (vC c_MOST_SIGNS))) (vB (vCall F_made_of 2 [] (aCons (vArg (vVar 0)) (aCons (vArg (vC c_WORD_SIGNS)) aNil))))))))
def F_is_word : Fn := vDef 1 1 t_is_word
/-! number_told -/
def N_number_told : List Str := ["word", "figures"]
def t_number_told : SemS :=
  (vSeq (vAsg 1 (vVar 0))
  (vSeq (vIfS (vB (vOp dEq (vSl (vVar 0) oNone (oSome (vC (.int 1)))) (vC (.str "-"))))
  (vAsg 1 (vSl (vVar 0) (oSome (vC (.int 1))) oNone))
  vNext)
  (vSeq (vIfS (vOr (vB (vOp dEq (vVar 1) (vC (.str "")))) (vOr (vB (vOp dGt (vCB fLen (aCons (vVar 1) aNil)) (vC c_MOST_FIGURES))) (vNot (vB (vCall F_made_of 2 [] (aCons (vArg (vVar 1)) (aCons (vArg (vC c_FIGURES)) aNil)))))))
  (vRaise 4)
  vNext)
  (vSeq (vIfS (vAnd (vB (vOp dEq (vOp dIx (vVar 1) (vC (.int 0))) (vC (.str "0")))) (vB (vOp dNe (vVar 0) (vC (.str "0")))))
  (vRaise 4)
  vNext)
  (vRet (vCB fInt (aCons (vVar 0) aNil)))))))
def F_number_told : Fn := vDef 1 2 t_number_told
/-! numbers_told -/
def N_numbers_told : List Str := ["words", "many", "word"]
def t_numbers_told : SemS :=
  (vSeq (vIfS (vB (vOp dNe (vCB fLen (aCons (vVar 0) aNil)) (vVar 1)))
  (vRaise 4)
  vNext)
  (vRet (vLcX (vIt (vVar 0)) (tName 2) vYes (vI (vCall F_number_told 1 [] (aCons (vArg (vVarI 2)) aNil))) [2])))
def F_numbers_told : Fn := vDef 2 3 t_numbers_told
/-! read_leaf -/
def N_read_leaf : List Str := ["words", "many"]
def t_read_leaf : SemS :=
  (vIfS (vB (vOp dNe (vCall F_numbers_told 2 [] (aCons (vArg (vSl (vVar 0) (oSome (vC (.int 1))) oNone)) (aCons (vArg (vC (.int 1))) aNil))) (vLst (iCons (vI (vVar 1)) iNil))))
  (vRaise 4)
  vNext)
def F_read_leaf : Fn := vDef 2 2 t_read_leaf
/-! read_drawing -/
def N_read_drawing : List Str := ["rows", "many", "words", "boxes", "boxed", "row", "signs", "left", "top", "wide", "high", "node", "x", "y", "face", "piece"]
def t_read_drawing : SemS :=
  (vSeq (vAsg 1 (vC (.int 0)))
  (vSeq (vAsg 2 (vLst iNil))
  (vSeq (vAsg 3 (vLst iNil))
  (vSeq (vAsg 4 (vC (.bl false)))
  (vSeq (vFor (vIt (vVar 0)) (tName 5)
  (vSeq (vAsg 6 (vM1 fSplit (vVar 5) (vC (.str " "))))
  (vIfS (vB (vOp dEq (vOp dIx (vVar 6) (vC (.int 0))) (vC (.str "leaf"))))
  (vSeq (vDrop (vCall F_read_leaf 2 [] (aCons (vArg (vVar 6)) (aCons (vArg (vVar 1)) aNil))))
  (vSeq (vAug 1 (fun i j => i + j) (vC (.int 1)))
  (vAsg 4 (vC (.bl true)))))
  (vIfS (vAnd (vB (vOp dEq (vOp dIx (vVar 6) (vC (.int 0))) (vC (.str "box")))) (vB (vVar 4)))
  (vSeq (vUnp [7, 8, 9, 10, 11] (vCall F_numbers_told 2 [] (aCons (vArg (vSl (vVar 6) (oSome (vC (.int 1))) oNone)) (aCons (vArg (vC (.int 5))) aNil))))
  (vDrop (vMut fAppend (vVar 3) (iCons (vI (vTup (iCons (vI (vOp dSub (vVar 1) (vC (.int 1)))) (iCons (vI (vVar 7)) (iCons (vI (vVar 8)) (iCons (vI (vVar 9)) (iCons (vI (vVar 10)) (iCons (vI (vVar 11)) iNil)))))))) iNil))))
  (vIfS (vAnd (vB (vOp dEq (vOp dIx (vVar 6) (vC (.int 0))) (vC (.str "word")))) (vAnd (vB (vOp dGt (vVar 1) (vC (.int 0)))) (vB (vCall F_is_word 1 [] (aCons (vArg (vOp dIx (vVar 6) (vUn dNeg (vC (.int 1))))) aNil)))))
  (vSeq (vUnp [12, 13, 14, 11, 15] (vCall F_numbers_told 2 [] (aCons (vArg (vSl (vVar 6) (oSome (vC (.int 1))) (oSome (vUn dNeg (vC (.int 1)))))) (aCons (vArg (vC (.int 5))) aNil))))
  (vSeq (vDrop (vMut fAppend (vVar 2) (iCons (vI (vTup (iCons (vI (vOp dSub (vVar 1) (vC (.int 1)))) (iCons (vI (vVar 12)) (iCons (vI (vVar 13)) (iCons (vI (vVar 11)) (iCons (vI (vVar 15)) (iCons (vI (vOp dIx (vVar 6) (vUn dNeg (vC (.int 1))))) (iCons (vI (vVar 14)) iNil))))))))) iNil)))
  (vAsg 4 (vC (.bl false)))))
  (vRaise 4))))))
  (vRet (vTup (iCons (vI (vVar 1)) (iCons (vI (vVar 2)) (iCons (vI (vVar 3)) iNil))))))))))
def F_read_drawing : Fn := vDef 1 16 t_read_drawing
/-! law_stream -/
def N_l_stream : List Str := ["_law_script", "_law_k"]
def t_l_stream : SemS :=
  (vSeq (vIfS (vB (vOp dLt (vVar 1) (vCB fLen (aCons (vVar 0) aNil))))
  (vRet (vLst (iCons (vI (vOp dIx (vVar 0) (vVar 1))) (iCons (vI (vOp dAdd (vOp dAdd (vOp dMod (vOp dIx (vVar 0) (vVar 1)) (vC (.int 2147483629))) (vOp dMul (vVar 1) (vVar 1))) (vC (.int 1)))) iNil))))
  vNext)
  (vRet (vLst (iCons (vI (vOp dAdd (vOp dMul (vOp dMul (vVar 1) (vVar 1)) (vC (.int 7919))) (vC (.int 5)))) (iCons (vI (vOp dAdd (vVar 1) (vC (.int 7)))) iNil)))))
def F_l_stream : Fn := vDef 2 2 t_l_stream
/-! law_take -/
def N_l_take : List Str := ["_law_stream_here", "_law_most", "_law_digit"]
def t_l_take : SemS :=
  (vSeq (vIfS (vOr (vB (vOp dEq (vOp dIx (vVar 0) (vC (.int 0))) (vC (.int 0)))) (vB (vOp dEq (vOp dIx (vVar 0) (vC (.int 0))) (vUn dNeg (vC (.int 1))))))
  (vSeq (vSetItem 0 (vC (.int 1)) (vI (vOp dMod (vOp dAdd (vOp dMul (vOp dIx (vVar 0) (vC (.int 1))) (vC (.int 48271))) (vC (.int 12345))) (vC (.int 2147483647)))))
  (vRet (vOp dMod (vOp dMod (vOp dMul (vOp dIx (vVar 0) (vC (.int 1))) (vOp dIx (vVar 0) (vC (.int 1)))) (vC (.int 2147483629))) (vVar 1))))
  vNext)
  (vSeq (vAsg 2 (vOp dMod (vOp dIx (vVar 0) (vC (.int 0))) (vVar 1)))
  (vSeq (vSetItem 0 (vC (.int 0)) (vI (vOp dDiv (vOp dIx (vVar 0) (vC (.int 0))) (vVar 1))))
  (vRet (vVar 2)))))
def F_l_take : Fn := vDef 2 3 t_l_take
/-! law_rows -/
def N_l_rows : List Str := ["_law_stream_here", "_law_rows_here", "_law_leaf", "_law_k", "_law_numbers", "_law_j"]
def t_l_rows : SemS :=
  (vSeq (vAsg 1 (vLst iNil))
  (vSeq (vFor (vRng1 (aCons (vOp dAdd (vC (.int 1)) (vCall F_l_take 2 [] (aCons (vArg (vVar 0)) (aCons (vArg (vC (.int 2))) aNil)))) aNil)) (tName 2)
  (vSeq (vDrop (vMut fAppend (vVar 1) (iCons (vI (vOp dAdd (vC (.str "leaf ")) (vCB fStr (aCons (vVar 2) aNil)))) iNil)))
  (vSeq (vFor (vRng1 (aCons (vCall F_l_take 2 [] (aCons (vArg (vVar 0)) (aCons (vArg (vC (.int 4))) aNil))) aNil)) (tName 3)
  (vDrop (vMut fAppend (vVar 1) (iCons (vI (vOp dAdd (vC (.str "box ")) (vM1 fJoin (vC (.str " ")) (vLc (vRng1 (aCons (vC (.int 5)) aNil)) (tName 5) vYes (vI (vCB fStr (aCons (vOp dSub (vCall F_l_take 2 [] (aCons (vArg (vVar 0)) (aCons (vArg (vC (.int 30))) aNil))) (vC (.int 9))) aNil))) [5])))) iNil))))
  (vFor (vRng1 (aCons (vCall F_l_take 2 [] (aCons (vArg (vVar 0)) (aCons (vArg (vC (.int 4))) aNil))) aNil)) (tName 3)
  (vSeq (vAsg 4 (vLc (vRng1 (aCons (vC (.int 5)) aNil)) (tName 5) vYes (vI (vCB fStr (aCons (vOp dSub (vCall F_l_take 2 [] (aCons (vArg (vVar 0)) (aCons (vArg (vC (.int 30))) aNil))) (vC (.int 9))) aNil))) [5]))
  (vDrop (vMut fAppend (vVar 1) (iCons (vI (vOp dAdd (vOp dAdd (vOp dAdd (vC (.str "word ")) (vM1 fJoin (vC (.str " ")) (vVar 4))) (vC (.str " "))) (vOp dIx (vLst (iCons (vI (vC (.str "a"))) (iCons (vI (vC (.str "b."))) (iCons (vI (vC (.str "7"))) (iCons (vI (vC (.str "-3"))) (iCons (vI (vC (.str "it's"))) iNil)))))) (vCall F_l_take 2 [] (aCons (vArg (vVar 0)) (aCons (vArg (vC (.int 5))) aNil)))))) iNil))))))))
  (vRet (vVar 1))))
def F_l_rows : Fn := vDef 1 6 t_l_rows
/-! law_bent -/
def N_l_bent : List Str := ["_law_row", "_law_stream_here", "_law_way", "_law_at", "_law_sign", "_law_words", "_law_one", "_law_other", "_law_odd"]
def t_l_bent : SemS :=
  (vSeq (vAsg 2 (vCall F_l_take 2 [] (aCons (vArg (vVar 1)) (aCons (vArg (vC (.int 8))) aNil))))
  (vSeq (vAsg 3 (vCall F_l_take 2 [] (aCons (vArg (vVar 1)) (aCons (vArg (vOp dAdd (vCB fLen (aCons (vVar 0) aNil)) (vC (.int 1)))) aNil))))
  (vSeq (vAsg 4 (vOp dIx (vC (.str "07- _ax+.\t\n|*{~")) (vCall F_l_take 2 [] (aCons (vArg (vVar 1)) (aCons (vArg (vC (.int 15))) aNil)))))
  (vSeq (vIfS (vB (vOp dEq (vVar 2) (vC (.int 0))))
  (vRet (vOp dAdd (vOp dAdd (vSl (vVar 0) oNone (oSome (vVar 3))) (vVar 4)) (vSl (vVar 0) (oSome (vVar 3)) oNone)))
  vNext)
  (vSeq (vIfS (vB (vOp dEq (vVar 2) (vC (.int 1))))
  (vRet (vOp dAdd (vSl (vVar 0) oNone (oSome (vVar 3))) (vSl (vVar 0) (oSome (vOp dAdd (vVar 3) (vC (.int 1)))) oNone)))
  vNext)
  (vSeq (vIfS (vB (vOp dEq (vVar 2) (vC (.int 2))))
  (vRet (vOp dAdd (vOp dAdd (vSl (vVar 0) oNone (oSome (vVar 3))) (vVar 4)) (vSl (vVar 0) (oSome (vOp dAdd (vVar 3) (vC (.int 1)))) oNone)))
  vNext)
  (vSeq (vAsg 5 (vM1 fSplit (vVar 0) (vC (.str " "))))
  (vSeq (vAsg 6 (vCall F_l_take 2 [] (aCons (vArg (vVar 1)) (aCons (vArg (vCB fLen (aCons (vVar 5) aNil))) aNil))))
  (vSeq (vAsg 7 (vCall F_l_take 2 [] (aCons (vArg (vVar 1)) (aCons (vArg (vCB fLen (aCons (vVar 5) aNil))) aNil))))
  (vSeq (vAsg 8 (vLst (iCons (vI (vC (.str ""))) (iCons (vI (vC (.str "-0"))) (iCons (vI (vC (.str "00"))) (iCons (vI (vC (.str "07"))) (iCons (vI (vC (.str "+1"))) (iCons (vI (vC (.str "-"))) (iCons (vI (vC (.str "1.0"))) (iCons (vI (vC (.str "1_0"))) (iCons (vI (vC (.str "999999999"))) (iCons (vI (vC (.str "1000000000"))) (iCons (vI (vC (.str "-999999999"))) (iCons (vI (vC (.str "-1000000000"))) iNil))))))))))))))
  (vSeq (vAsg 8 (vOp dAdd (vVar 8) (vLst (iCons (vI (vC (.str "leaf"))) (iCons (vI (vC (.str "box"))) (iCons (vI (vC (.str "word"))) (iCons (vI (vOp dMul (vC (.str "x")) (vC (.int 20)))) (iCons (vI (vOp dMul (vC (.str "x")) (vC (.int 21)))) (iCons (vI (vC (.str "a*b"))) (iCons (vI (vC (.str "1"))) (iCons (vI (vC (.str "-05"))) iNil)))))))))))
  (vSeq (vIfS (vB (vOp dEq (vVar 2) (vC (.int 3))))
  (vSub2 5 (vVar 6) 5 (vVar 7) (vTup (iCons (vI (vOp dIx (vVar 5) (vVar 7))) (iCons (vI (vOp dIx (vVar 5) (vVar 6))) iNil))))
  vNext)
  (vSeq (vIfS (vB (vOp dEq (vVar 2) (vC (.int 4))))
  (vDrop (vMut fPopAt (vVar 5) (iCons (vI (vVar 6)) iNil)))
  vNext)
  (vSeq (vIfS (vB (vOp dEq (vVar 2) (vC (.int 5))))
  (vDrop (vMut fInsert (vVar 5) (iCons (vI (vVar 6)) (iCons (vI (vOp dIx (vVar 5) (vVar 7))) iNil))))
  vNext)
  (vSeq (vIfS (vB (vOp dGt (vVar 2) (vC (.int 5))))
  (vSetItem 5 (vVar 6) (vI (vOp dIx (vVar 8) (vCall F_l_take 2 [] (aCons (vArg (vVar 1)) (aCons (vArg (vC (.int 20))) aNil))))))
  vNext)
  (vRet (vM1 fJoin (vC (.str " ")) (vVar 5))))))))))))))))))
def F_l_bent : Fn := vDef 2 9 t_l_bent
/-! law_spoiled -/
def N_l_spoiled : List Str := ["_law_rows_here", "_law_stream_here", "_law_way", "_law_at", "_law_found"]
def t_l_spoiled : SemS :=
  (vSeq (vAsg 2 (vCall F_l_take 2 [] (aCons (vArg (vVar 1)) (aCons (vArg (vC (.int 8))) aNil))))
  (vSeq (vAsg 3 (vCall F_l_take 2 [] (aCons (vArg (vVar 1)) (aCons (vArg (vCB fMax2 (aCons (vC (.int 1)) (aCons (vCB fLen (aCons (vVar 0) aNil)) aNil)))) aNil))))
  (vSeq (vAsg 4 (vCB fList (aCons (vVar 0) aNil)))
  (vSeq (vIfS (vB (vOp dEq (vVar 0) (vLst iNil)))
  (vRet (vSl (vLst (iCons (vI (vC (.str ""))) (iCons (vI (vC (.str "leaf"))) (iCons (vI (vC (.str "leaf 1"))) (iCons (vI (vC (.str "box 0 0 0 0 0"))) iNil))))) (oSome (vOp dMod (vVar 2) (vC (.int 4)))) (oSome (vOp dAdd (vOp dMod (vVar 2) (vC (.int 4))) (vC (.int 1))))))
  vNext)
  (vSeq (vIfS (vB (vOp dEq (vVar 2) (vC (.int 1))))
  (vDrop (vMut fPopAt (vVar 4) (iCons (vI (vVar 3)) iNil)))
  (vIfS (vB (vOp dEq (vVar 2) (vC (.int 2))))
  (vDrop (vMut fInsert (vVar 4) (iCons (vI (vVar 3)) (iCons (vI (vOp dIx (vVar 0) (vVar 3))) iNil))))
  (vIfS (vB (vOp dEq (vVar 2) (vC (.int 3))))
  (vDrop (vMut fInsert (vVar 4) (iCons (vI (vCall F_l_take 2 [] (aCons (vArg (vVar 1)) (aCons (vArg (vCB fLen (aCons (vVar 0) aNil))) aNil)))) (iCons (vI (vMut fPopAt (vVar 4) (iCons (vI (vVar 3)) iNil))) iNil))))
  (vIfS (vB (vOp dGt (vVar 2) (vC (.int 3))))
  (vSetItem 4 (vVar 3) (vI (vCall F_l_bent 2 [] (aCons (vArg (vOp dIx (vVar 0) (vVar 3))) (aCons (vArg (vVar 1)) aNil)))))
  vNext))))
  (vRet (vVar 4)))))))
def F_l_spoiled : Fn := vDef 2 5 t_l_spoiled
/-! law_number -/
def N_l_number : List Str := ["_law_word", "_law_figures", "_law_sign"]
def t_l_number : SemS :=
  (vSeq (vAsg 1 (vSl (vVar 0) (oSome (vCB fInt (aCons (vOp dEq (vSl (vVar 0) oNone (oSome (vC (.int 1)))) (vC (.str "-"))) aNil))) oNone))
  (vSeq (vIfS (vOr (vB (vOp dEq (vVar 1) (vC (.str "")))) (vB (vOp dGt (vCB fLen (aCons (vVar 1) aNil)) (vC (.int 9)))))
  (vRet (vC .non))
  vNext)
  (vSeq (vIfS (vB (vOp dNe (vCB fLen (aCons (vLc (vIt (vVar 1)) (tName 2) (vB (vOp dIn (vVarI 2) (vC (.str "0123456789")))) (vI (vVarI 2)) [2]) aNil)) (vCB fLen (aCons (vVar 1) aNil))))
  (vRet (vC .non))
  vNext)
  (vSeq (vIfS (vAnd (vB (vOp dEq (vOp dIx (vVar 1) (vC (.int 0))) (vC (.str "0")))) (vB (vOp dNe (vVar 0) (vC (.str "0")))))
  (vRet (vC .non))
  vNext)
  (vRet (vCB fInt (aCons (vVar 0) aNil)))))))
def F_l_number : Fn := vDef 1 3 t_l_number
/-! law_is_word -/
def N_l_is_word : List Str := ["_law_word", "_law_signs", "_law_sign"]
def t_l_is_word : SemS :=
  (vSeq (vAsg 1 (vC (.str "abcdefghijklmnopqrstuvwxyzABCDEFGHIJKLMNOPQRSTUVWXYZ0123456789.,-;:'()!?")))
  (vRet (vV (vAnd (vB (vChain dLe dLe (vC (.int 1)) (vCB fLen (aCons (vVar 0) aNil)) (vC (.int 20)))) (vB (vOp dEq (vCB fLen (aCons (vLc (vIt (vVar 0)) (tName 2) (vB (vOp dIn (vVarI 2) (vVar 1))) (vI (vVarI 2)) [2]) aNil)) (vCB fLen (aCons (vVar 0) aNil))))))))
def F_l_is_word : Fn := vDef 1 3 t_l_is_word
/-! law_due -/
def N_l_due : List Str := ["_law_rows_here", "_law_leaf", "_law_words", "_law_boxes", "_law_row", "_law_parts", "_law_numbers", "_law_many", "_law_last", "_law_x", "_law_y", "_law_face", "_law_node", "_law_piece", "_law_part"]
def t_l_due : SemS :=
  (vSeq (vAsg 1 (vUn dNeg (vC (.int 1))))
  (vSeq (vAsg 2 (vLst iNil))
  (vSeq (vAsg 3 (vLst iNil))
  (vSeq (vFor (vIt (vVar 0)) (tName 4)
  (vSeq (vAsg 5 (vM1 fSplit (vVar 4) (vC (.str " "))))
  (vSeq (vAsg 6 (vLc (vIt (vSl (vVar 5) (oSome (vC (.int 1))) (oSome (vC (.int 6))))) (tName 14) vYes (vI (vCall F_l_number 1 [] (aCons (vArg (vVarI 14)) aNil))) [14]))
  (vSeq (vAsg 7 (vCB fLen (aCons (vVar 5) aNil)))
  (vSeq (vAsg 8 (vV (vAnd (vB (vOp dNe (vVar 2) (vLst iNil))) (vB (vOp dEq (vOp dIx (vOp dIx (vVar 2) (vUn dNeg (vC (.int 1)))) (vC (.int 0))) (vVar 1))))))
  (vIfS (vAnd (vB (vOp dEq (vOp dIx (vVar 5) (vC (.int 0))) (vC (.str "leaf")))) (vAnd (vB (vOp dEq (vVar 7) (vC (.int 2)))) (vB (vOp dEq (vVar 6) (vLst (iCons (vI (vOp dAdd (vVar 1) (vC (.int 1)))) iNil))))))
  (vAsg 1 (vOp dAdd (vVar 1) (vC (.int 1))))
  (vIfS (vOr (vB (vOp dLt (vVar 1) (vC (.int 0)))) (vOr (vB (vOp dIn (vC .non) (vVar 6))) (vB (vOp dNe (vCB fLen (aCons (vVar 6) aNil)) (vC (.int 5))))))
  (vRet (vC .non))
  (vIfS (vAnd (vB (vOp dEq (vOp dIx (vVar 5) (vC (.int 0))) (vC (.str "box")))) (vAnd (vB (vOp dEq (vVar 7) (vC (.int 6)))) (vNot (vB (vVar 8)))))
  (vDrop (vMut fAppend (vVar 3) (iCons (vI (vCB fTuple (aCons (vOp dAdd (vLst (iCons (vI (vVar 1)) iNil)) (vVar 6)) aNil))) iNil)))
  (vIfS (vAnd (vB (vOp dEq (vOp dIx (vVar 5) (vC (.int 0))) (vC (.str "word")))) (vAnd (vB (vOp dEq (vVar 7) (vC (.int 7)))) (vB (vCall F_l_is_word 1 [] (aCons (vArg (vOp dIx (vVar 5) (vC (.int 6)))) aNil)))))
  (vSeq (vUnp [9, 10, 11, 12, 13] (vVar 6))
  (vDrop (vMut fAppend (vVar 2) (iCons (vI (vTup (iCons (vI (vVar 1)) (iCons (vI (vVar 9)) (iCons (vI (vVar 10)) (iCons (vI (vVar 12)) (iCons (vI (vVar 13)) (iCons (vI (vOp dIx (vVar 5) (vC (.int 6)))) (iCons (vI (vVar 11)) iNil))))))))) iNil))))
  (vRet (vC .non)))))))))))
  (vRet (vTup (iCons (vI (vOp dAdd (vVar 1) (vC (.int 1)))) (iCons (vI (vVar 2)) (iCons (vI (vVar 3)) iNil)))))))))
def F_l_due : Fn := vDef 1 15 t_l_due
def N_l_alone : List Str := ["_law_error"]
def t_l_alone (k : Nat) (a : Addr) : SemS := vRet (vV (vNot (vB (vIsX 0 a (([0, 1, 2, 3, 5, 6, 7] : List Nat).any (subC k))))))
def F_l_alone (k : Nat) (a : Addr) : Fn := vDef 1 1 (t_l_alone k a)
def N_l_refused : List Str := ["_law_rows_here", "_law_seen", "_law_error"]
noncomputable def t_l_refused : SemS :=
  (vSeq (vAsg 1 (vC (.int 0)))
  (vSeq (vTryC F_read_drawing 1 [] (aCons (vArgF (vVar 0)) aNil) 2 (fun k => subC k 4) (fun a k => vAsg 1 (vOp dAdd (vC (.int 1)) (vCB fInt (aCons (vCall (F_l_alone k a) 1 [] (aCons (vArg (vVar 2)) aNil)) aNil)))))
  (vSeq (vIfS (vB (vOp dNe (vVar 1) (vC (.int 2)))) (vRet (vC (.bl false))) vNext)
  (vSeq (vTryC F_read_drawing 1 [] (aCons (vArgF (vVar 0)) aNil) 2 (fun k => subC k 8) (fun a k => vAsg 1 (vOp dMul (vC (.int 3)) (vCB fInt (aCons (vIsX 2 a true) aNil)))))
  (vRet (vOp dEq (vVar 1) (vC (.int 3))))))))
noncomputable def F_l_refused : Fn := vDef 1 3 t_l_refused
/-! law_asked -/
def N_l_asked : List Str := ["_law_rows_here", "_law_handed", "_law_due_here"]
def t_l_asked : SemS :=
  (vSeq (vAsg 1 (vCB fList (aCons (vVar 0) aNil)))
  (vSeq (vAsg 2 (vCall F_l_due 1 [] (aCons (vArg (vVar 0)) aNil)))
  (vSeq (vIfS (vB (vIs false (vVar 2)))
  (vRet (vV (vAnd (vB (vCall F_l_refused 1 [] (aCons (vArg (vVar 1)) aNil))) (vB (vOp dEq (vVar 1) (vVar 0))))))
  vNext)
  (vRet (vV (vAnd (vB (vOp dEq (vCall F_read_drawing 1 [] (aCons (vArg (vVar 1)) aNil)) (vVar 2))) (vB (vOp dEq (vVar 1) (vVar 0)))))))))
def F_l_asked : Fn := vDef 1 3 t_l_asked
/-! law -/
def N_law : List Str := ["_law_script", "_law_stream_here", "_law_rows_here", "_law_spoiled_here", "_law_turn"]
def t_law : SemS :=
  (vSeq (vAsg 1 (vCall F_l_stream 2 [] (aCons (vArg (vVar 0)) (aCons (vArg (vC (.int 0))) aNil))))
  (vSeq (vAsg 2 (vCall F_l_rows 1 [] (aCons (vArg (vVar 1)) aNil)))
  (vSeq (vAsg 3 (vVar 2))
  (vSeq (vFor (vRng1 (aCons (vC (.int 2)) aNil)) (tName 4)
  (vSeq (vAsg 3 (vCall F_l_spoiled 2 [] (aCons (vArg (vVar 3)) (aCons (vArg (vVar 1)) aNil))))
  (vIfS (vNot (vB (vCall F_l_asked 1 [] (aCons (vArg (vVar 3)) aNil))))
  (vRet (vC (.bl false)))
  vNext)))
  (vRet (vV (vAnd (vB (vCall F_l_asked 1 [] (aCons (vArg (vVar 2)) aNil))) (vB (vCall F_l_asked 1 [] (aCons (vArg (vLst iNil)) aNil))))))))))
def F_law : Fn := vDef 1 5 t_law
/-- what the defs lean on -/
structure Txt (K : PySem.W.Frag) (mg : Str → Option Value) (cn : Nat → Value) : Prop where
  b_ValueError : mg "ValueError" = none
  b_int : mg "int" = none
  b_isinstance : mg "isinstance" = none
  b_len : mg "len" = none
  b_list : mg "list" = none
  b_max : mg "max" = none
  b_range : mg "range" = none
  b_str : mg "str" = none
  b_tuple : mg "tuple" = none
  c_WORD_SIGNS : Gc K mg "WORD_SIGNS" c_WORD_SIGNS
  c_MOST_SIGNS : Gc K mg "MOST_SIGNS" c_MOST_SIGNS
  c_FIGURES : Gc K mg "FIGURES" c_FIGURES
  c_MOST_FIGURES : Gc K mg "MOST_FIGURES" c_MOST_FIGURES
  x_NoDrawing : ExcOk K mg "NoDrawing" (cn 4)
abbrev FnP (K : PySem.W.Frag) (x : Str) (st : Stmt) (dvs : List V) (f : Addr) (fd : FuncData) : Prop := FunD K x x (defArgs st) (defBody st) (defScope st) dvs [] f fd
end K55
end

set_option Elab.async false
set_option linter.all false
set_option maxRecDepth 100000
set_option maxHeartbeats 4000000

namespace K55
open PySem PySem.Spec PyProof.Rows L2 VI
section
variable {P : Program} {w : World} {K : PySem.W.Frag} {mg : Str → Option Value} {base : Heap} {cn : Nat → Value}
abbrev s_made_of : Stmt := top 14
theorem sc_made_of : FnScope N_made_of ["text", "signs"] (defScope s_made_of) := ⟨rfl, rfl, rfl, by decide +kernel, rfl, by decide +kernel, by decide +kernel⟩
theorem ok_made_of (T : Txt K mg cn) {f : Addr} {fd : FuncData} {dvs : List V} (F : FnP K "made_of" s_made_of dvs f fd) : FnOk P w K mg base (L2.CX P w) 1 f fd ["text", "signs"] (spF K cn 2 F_made_of) := by
  refine F.ok sc_made_of (fun vs H Q E h => h.1) (fun cdv A outer s H vs Q E hr h => ⟨_, ?_, def_ok (ps := ["text", "signs"]) rfl h⟩)
  exact (qs_cons (qp_for (passes_of rfl) rfl tg_name (qi_any (qv_var (pv 0))) (pg_name (i := 2) sc_made_of.nd rfl (by first | exact Or.inl rfl | exact Or.inr rfl))
  (qs_one (qp_if (qt_cmpR (op_notInAll (in_units hr)) s_notIn rfl (qv_var (pv 2)) (qv_var (pv 1)))
  (qs_one (qp_ret qv_bl))
  qs_nil)))
  (qs_one (qp_ret qv_bl)))
abbrev s_is_word : Stmt := top 15
theorem sc_is_word : FnScope N_is_word ["text"] (defScope s_is_word) := ⟨rfl, rfl, rfl, by decide +kernel, rfl, by decide +kernel, by decide +kernel⟩
theorem ok_is_word (T : Txt K mg cn)
    (G_made_of : DefOk P w K mg base cn 1 2 "made_of" ["text", "signs"] [] F_made_of) {f : Addr} {fd : FuncData} {dvs : List V} (F : FnP K "is_word" s_is_word dvs f fd) : FnOk P w K mg base (L2.CX P w) 2 f fd ["text"] (spF K cn 1 F_is_word) := by
  refine F.ok sc_is_word (fun vs H Q E h => h.1) (fun cdv A outer s H vs Q E hr h => ⟨_, ?_, def_ok (ps := ["text"]) rfl h⟩)
  have tk := takes_of (X := cxOf (L2.CX P w) P w K mg base N_is_word "is_word" (defScope s_is_word) f cdv A outer s H E) (E := E) rfl rfl rfl rfl
  exact (qs_one (qp_ret (qv_b (qb_and (qb_val (qv_cmp op_le s_cmpI (nomark _) qv_int (qv_cb c_len s_len rfl T.b_len PySem.boot_len (qa_cons (qv_var (pv 0)) qa_nil)))) (qb_and (qb_val (qv_cmp op_le s_cmpI (nomark _) (qv_cb c_len s_len rfl T.b_len PySem.boot_len (qa_cons (qv_var (pv 0)) qa_nil)) (qv_glob T.c_MOST_SIGNS rfl))) (qb_one (qb_val (qv_callD G_made_of (hr.mono (by decide)) rfl (passes_call tk (fun _ _ _ _ h => h)) (qa_cons (qv_arg (qv_var (pv 0))) (qa_cons (qv_arg (qv_glob T.c_WORD_SIGNS rfl)) qa_nil))))))))))
abbrev s_number_told : Stmt := top 19
theorem sc_number_told : FnScope N_number_told ["word"] (defScope s_number_told) := ⟨rfl, rfl, rfl, by decide +kernel, rfl, by decide +kernel, by decide +kernel⟩
theorem ok_number_told (T : Txt K mg cn)
    (G_made_of : DefOk P w K mg base cn 1 2 "made_of" ["text", "signs"] [] F_made_of) {f : Addr} {fd : FuncData} {dvs : List V} (F : FnP K "number_told" s_number_told dvs f fd) : FnOk P w K mg base (L2.CX P w) 2 f fd ["word"] (spF K cn 1 F_number_told) := by
  refine F.ok sc_number_told (fun vs H Q E h => h.1) (fun cdv A outer s H vs Q E hr h => ⟨_, ?_, def_ok (ps := ["word"]) rfl h⟩)
  have tk := takes_of (X := cxOf (L2.CX P w) P w K mg base N_number_told "number_told" (defScope s_number_told) f cdv A outer s H E) (E := E) rfl rfl rfl rfl
  exact (qs_cons (qp_set (i := 1) sc_number_told.nd rfl (by first | exact Or.inl rfl | exact Or.inr rfl) (qv_var (pv 0)))
  (qs_cons (qp_if (qt_cmpR (op_eqAll hr.units) s_eq (nomark _) (qv_sl (qv_var (pv 0)) qo_none (qo_some qv_int)) qv_str)
  (qs_one (qp_set (i := 1) sc_number_told.nd rfl (by first | exact Or.inl rfl | exact Or.inr rfl) (qv_sl (qv_var (pv 0)) (qo_some qv_int) qo_none)))
  qs_nil)
  (qs_cons (qp_if (PW.pt (qw_or (qt_cmpR (op_eqAll hr.units) s_eq (nomark _) (qv_var (pv 1)) qv_str) (qw_or (qt_cmpR op_gt s_cmpI (nomark _) (qv_cb c_len s_len rfl T.b_len PySem.boot_len (qa_cons (qv_var (pv 1)) qa_nil)) (qv_glob T.c_MOST_FIGURES rfl)) (qw_or1 (qt_not (qt_val (qv_callD G_made_of (hr.mono (by decide)) rfl (passes_call tk (fun _ _ _ _ h => h)) (qa_cons (qv_arg (qv_var (pv 1))) (qa_cons (qv_arg (qv_glob T.c_FIGURES rfl)) qa_nil)))))))))
  (qs_one (qp_raiseX T.x_NoDrawing rfl tk rfl))
  qs_nil)
  (qs_cons (qp_if (PW.pt (qw_and (qt_cmpR (op_eqAll hr.units) s_eq (nomark _) (qv_ix ix_seq s_ix (fun _ _ => rfl) (qv_var (pv 1)) qv_int) qv_str) (qw_and1 (qt_cmpR (op_neAll hr.units) s_ne (nomark _) (qv_var (pv 0)) qv_str))))
  (qs_one (qp_raiseX T.x_NoDrawing rfl tk rfl))
  qs_nil)
  (qs_one (qp_ret (qv_ct c_int s_int rfl T.b_int (by decide +kernel) (qa_cons (qv_var (pv 0)) qa_nil))))))))
abbrev s_numbers_told : Stmt := top 20
theorem sc_numbers_told : FnScope N_numbers_told ["words", "many"] (defScope s_numbers_told) := ⟨rfl, rfl, rfl, by decide +kernel, rfl, by decide +kernel, by decide +kernel⟩
theorem ok_numbers_told (T : Txt K mg cn)
    (G_number_told : DefOk P w K mg base cn 2 1 "number_told" ["word"] [] F_number_told) {f : Addr} {fd : FuncData} {dvs : List V} (F : FnP K "numbers_told" s_numbers_told dvs f fd) : FnOk P w K mg base (L2.CX P w) 3 f fd ["words", "many"] (spF K cn 2 F_numbers_told) := by
  refine F.ok sc_numbers_told (fun vs H Q E h => h.1) (fun cdv A outer s H vs Q E hr h => ⟨_, ?_, def_ok (ps := ["words", "many"]) rfl h⟩)
  have tk := takes_of (X := cxOf (L2.CX P w) P w K mg base N_numbers_told "numbers_told" (defScope s_numbers_told) f cdv A outer s H E) (E := E) rfl rfl rfl rfl
  exact (qs_cons (qp_if (qt_cmpR (op_neAll hr.units) s_ne (nomark _) (qv_cb c_len s_len rfl T.b_len PySem.boot_len (qa_cons (qv_var (pv 0)) qa_nil)) (qv_var (pv 1)))
  (qs_one (qp_raiseX T.x_NoDrawing rfl tk rfl))
  qs_nil)
  (qs_one (qp_ret (qv_lcX (own := [("word", 2)]) rfl rfl sc_numbers_told.nd rfl rfl tk (fun _ _ _ _ h => h) tg_name (qi_any (qv_var (pv 0))) (blkOk_by (own := [("word", 2)]) (N := N_numbers_told) (sc := (defScope s_numbers_told)) (by decide +kernel)) (fun _ _ _ _ _ _ => (pg_name (i := 2) sc_numbers_told.nd rfl (by first | exact Or.inl rfl | exact Or.inr rfl))) (fun _ _ _ _ _ _ ps => qts_nil) (fun _ _ _ _ _ _ ps => (qi (qv_callD G_number_told (hr.mono (by decide)) rfl ps (qa_cons (qv_arg (qv_varI (pv 2))) qa_nil))))))))
abbrev s_read_leaf : Stmt := top 21
theorem sc_read_leaf : FnScope N_read_leaf ["words", "many"] (defScope s_read_leaf) := ⟨rfl, rfl, rfl, by decide +kernel, rfl, by decide +kernel, by decide +kernel⟩
theorem ok_read_leaf (T : Txt K mg cn)
    (G_numbers_told : DefOk P w K mg base cn 3 2 "numbers_told" ["words", "many"] [] F_numbers_told) {f : Addr} {fd : FuncData} {dvs : List V} (F : FnP K "read_leaf" s_read_leaf dvs f fd) : FnOk P w K mg base (L2.CX P w) 4 f fd ["words", "many"] (spF K cn 2 F_read_leaf) := by
  refine F.ok sc_read_leaf (fun vs H Q E h => h.1) (fun cdv A outer s H vs Q E hr h => ⟨_, ?_, def_ok (ps := ["words", "many"]) rfl h⟩)
  have tk := takes_of (X := cxOf (L2.CX P w) P w K mg base N_read_leaf "read_leaf" (defScope s_read_leaf) f cdv A outer s H E) (E := E) rfl rfl rfl rfl
  exact (qs_one (qp_if (qt_cmpR (op_neAll hr.units) s_ne (nomark _) (qv_callD G_numbers_told (hr.mono (by decide)) rfl (passes_call tk (fun _ _ _ _ h => h)) (qa_cons (qv_arg (qv_sl (qv_var (pv 0)) (qo_some qv_int) qo_none)) (qa_cons (qv_arg qv_int) qa_nil))) (qv_lst (qi_cons (qi (qv_var (pv 1))) qi_nil)))
  (qs_one (qp_raiseX T.x_NoDrawing rfl tk rfl))
  qs_nil))
abbrev s_read_drawing : Stmt := top 22
theorem sc_read_drawing : FnScope N_read_drawing ["rows"] (defScope s_read_drawing) := ⟨rfl, rfl, rfl, by decide +kernel, rfl, by decide +kernel, by decide +kernel⟩
theorem ok_read_drawing (T : Txt K mg cn)
    (G_read_leaf : DefOk P w K mg base cn 4 2 "read_leaf" ["words", "many"] [] F_read_leaf)
    (G_numbers_told : DefOk P w K mg base cn 3 2 "numbers_told" ["words", "many"] [] F_numbers_told)
    (G_is_word : DefOk P w K mg base cn 2 1 "is_word" ["text"] [] F_is_word) {f : Addr} {fd : FuncData} {dvs : List V} (F : FnP K "read_drawing" s_read_drawing dvs f fd) : FnOk P w K mg base (L2.CX P w) 5 f fd ["rows"] (spF K cn 1 F_read_drawing) := by
  refine F.ok sc_read_drawing (fun vs H Q E h => h.1) (fun cdv A outer s H vs Q E hr h => ⟨_, ?_, def_ok (ps := ["rows"]) rfl h⟩)
  have tk := takes_of (X := cxOf (L2.CX P w) P w K mg base N_read_drawing "read_drawing" (defScope s_read_drawing) f cdv A outer s H E) (E := E) rfl rfl rfl rfl
  exact (qs_cons (qp_set (i := 1) sc_read_drawing.nd rfl (by first | exact Or.inl rfl | exact Or.inr rfl) qv_int)
  (qs_cons (qp_set (i := 2) sc_read_drawing.nd rfl (by first | exact Or.inl rfl | exact Or.inr rfl) (qv_lst qi_nil))
  (qs_cons (qp_set (i := 3) sc_read_drawing.nd rfl (by first | exact Or.inl rfl | exact Or.inr rfl) (qv_lst qi_nil))
  (qs_cons (qp_set (i := 4) sc_read_drawing.nd rfl (by first | exact Or.inl rfl | exact Or.inr rfl) qv_bl)
  (qs_cons (qp_for (passes_of rfl) rfl tg_name (qi_any (qv_var (pv 0))) (pg_name (i := 5) sc_read_drawing.nd rfl (by first | exact Or.inl rfl | exact Or.inr rfl))
  (qs_cons (qp_set (i := 6) sc_read_drawing.nd rfl (by first | exact Or.inl rfl | exact Or.inr rfl) (qv_m1 PySem.F.slot_str_split PySem.F.type_str_split mt_split s_split (qv_var (pv 5)) qv_str))
  (qs_one (qp_if (qt_cmpR (op_eqAll hr.units) s_eq (nomark _) (qv_ix ix_seq s_ix (fun _ _ => rfl) (qv_var (pv 6)) qv_int) qv_str)
  (qs_cons (qp_expr (qv_callD G_read_leaf (hr.mono (by decide)) rfl (passes_call tk (fun _ _ _ _ h => h)) (qa_cons (qv_arg (qv_var (pv 6))) (qa_cons (qv_arg (qv_var (pv 1))) qa_nil))))
  (qs_cons (qp_aug (ps_aug (i := 1) sc_read_drawing.nd rfl (by first | exact Or.inl rfl | exact Or.inr rfl) qv_int ip_add))
  (qs_one (qp_set (i := 4) sc_read_drawing.nd rfl (by first | exact Or.inl rfl | exact Or.inr rfl) qv_bl))))
  (qs_one (qp_if (PW.pt (qw_and (qt_cmpR (op_eqAll hr.units) s_eq (nomark _) (qv_ix ix_seq s_ix (fun _ _ => rfl) (qv_var (pv 6)) qv_int) qv_str) (qw_and1 (qt_val (qv_var (pv 4))))))
  (qs_cons (qp_unp (is := [7, 8, 9, 10, 11]) rfl rfl (pgs_cons (pg_name (i := 7) sc_read_drawing.nd rfl (by first | exact Or.inl rfl | exact Or.inr rfl)) (pgs_cons (pg_name (i := 8) sc_read_drawing.nd rfl (by first | exact Or.inl rfl | exact Or.inr rfl)) (pgs_cons (pg_name (i := 9) sc_read_drawing.nd rfl (by first | exact Or.inl rfl | exact Or.inr rfl)) (pgs_cons (pg_name (i := 10) sc_read_drawing.nd rfl (by first | exact Or.inl rfl | exact Or.inr rfl)) (pgs_cons (pg_name (i := 11) sc_read_drawing.nd rfl (by first | exact Or.inl rfl | exact Or.inr rfl)) pgs_nil))))) (pg_tup rfl (pgs_cons (pg_name (i := 7) sc_read_drawing.nd rfl (by first | exact Or.inl rfl | exact Or.inr rfl)) (pgs_cons (pg_name (i := 8) sc_read_drawing.nd rfl (by first | exact Or.inl rfl | exact Or.inr rfl)) (pgs_cons (pg_name (i := 9) sc_read_drawing.nd rfl (by first | exact Or.inl rfl | exact Or.inr rfl)) (pgs_cons (pg_name (i := 10) sc_read_drawing.nd rfl (by first | exact Or.inl rfl | exact Or.inr rfl)) (pgs_cons (pg_name (i := 11) sc_read_drawing.nd rfl (by first | exact Or.inl rfl | exact Or.inr rfl)) pgs_nil)))))) (pg_unl rfl (pgs_cons (pg_name (i := 7) sc_read_drawing.nd rfl (by first | exact Or.inl rfl | exact Or.inr rfl)) (pgs_cons (pg_name (i := 8) sc_read_drawing.nd rfl (by first | exact Or.inl rfl | exact Or.inr rfl)) (pgs_cons (pg_name (i := 9) sc_read_drawing.nd rfl (by first | exact Or.inl rfl | exact Or.inr rfl)) (pgs_cons (pg_name (i := 10) sc_read_drawing.nd rfl (by first | exact Or.inl rfl | exact Or.inr rfl)) (pgs_cons (pg_name (i := 11) sc_read_drawing.nd rfl (by first | exact Or.inl rfl | exact Or.inr rfl)) pgs_nil)))))) (qv_callD G_numbers_told (hr.mono (by decide)) rfl (passes_call tk (fun _ _ _ _ h => h)) (qa_cons (qv_arg (qv_sl (qv_var (pv 6)) (qo_some qv_int) qo_none)) (qa_cons (qv_arg qv_int) qa_nil))))
  (qs_one (qp_expr (qv_mu PySem.F.plainAttrs_list PySem.F.slot_list_append PySem.F.type_list_append mt_append s_append (qv_var (pv 3)) (qi_cons (qi (qv_tup (qi_cons (qi (qv_bin op_sub s_sub (qv_var (pv 1)) qv_int)) (qi_cons (qi (qv_var (pv 7))) (qi_cons (qi (qv_var (pv 8))) (qi_cons (qi (qv_var (pv 9))) (qi_cons (qi (qv_var (pv 10))) (qi_cons (qi (qv_var (pv 11))) qi_nil)))))))) qi_nil)))))
  (qs_one (qp_if (PW.pt (qw_and (qt_cmpR (op_eqAll hr.units) s_eq (nomark _) (qv_ix ix_seq s_ix (fun _ _ => rfl) (qv_var (pv 6)) qv_int) qv_str) (qw_and (qt_cmpR op_gt s_cmpI (nomark _) (qv_var (pv 1)) qv_int) (qw_and1 (qt_val (qv_callD G_is_word (hr.mono (by decide)) rfl (passes_call tk (fun _ _ _ _ h => h)) (qa_cons (qv_arg (qv_ix ix_seq s_ix (fun _ _ => rfl) (qv_var (pv 6)) (qv_un un_neg s_neg qv_int))) qa_nil)))))))
  (qs_cons (qp_unp (is := [12, 13, 14, 11, 15]) rfl rfl (pgs_cons (pg_name (i := 12) sc_read_drawing.nd rfl (by first | exact Or.inl rfl | exact Or.inr rfl)) (pgs_cons (pg_name (i := 13) sc_read_drawing.nd rfl (by first | exact Or.inl rfl | exact Or.inr rfl)) (pgs_cons (pg_name (i := 14) sc_read_drawing.nd rfl (by first | exact Or.inl rfl | exact Or.inr rfl)) (pgs_cons (pg_name (i := 11) sc_read_drawing.nd rfl (by first | exact Or.inl rfl | exact Or.inr rfl)) (pgs_cons (pg_name (i := 15) sc_read_drawing.nd rfl (by first | exact Or.inl rfl | exact Or.inr rfl)) pgs_nil))))) (pg_tup rfl (pgs_cons (pg_name (i := 12) sc_read_drawing.nd rfl (by first | exact Or.inl rfl | exact Or.inr rfl)) (pgs_cons (pg_name (i := 13) sc_read_drawing.nd rfl (by first | exact Or.inl rfl | exact Or.inr rfl)) (pgs_cons (pg_name (i := 14) sc_read_drawing.nd rfl (by first | exact Or.inl rfl | exact Or.inr rfl)) (pgs_cons (pg_name (i := 11) sc_read_drawing.nd rfl (by first | exact Or.inl rfl | exact Or.inr rfl)) (pgs_cons (pg_name (i := 15) sc_read_drawing.nd rfl (by first | exact Or.inl rfl | exact Or.inr rfl)) pgs_nil)))))) (pg_unl rfl (pgs_cons (pg_name (i := 12) sc_read_drawing.nd rfl (by first | exact Or.inl rfl | exact Or.inr rfl)) (pgs_cons (pg_name (i := 13) sc_read_drawing.nd rfl (by first | exact Or.inl rfl | exact Or.inr rfl)) (pgs_cons (pg_name (i := 14) sc_read_drawing.nd rfl (by first | exact Or.inl rfl | exact Or.inr rfl)) (pgs_cons (pg_name (i := 11) sc_read_drawing.nd rfl (by first | exact Or.inl rfl | exact Or.inr rfl)) (pgs_cons (pg_name (i := 15) sc_read_drawing.nd rfl (by first | exact Or.inl rfl | exact Or.inr rfl)) pgs_nil)))))) (qv_callD G_numbers_told (hr.mono (by decide)) rfl (passes_call tk (fun _ _ _ _ h => h)) (qa_cons (qv_arg (qv_sl (qv_var (pv 6)) (qo_some qv_int) (qo_some (qv_un un_neg s_neg qv_int)))) (qa_cons (qv_arg qv_int) qa_nil))))
  (qs_cons (qp_expr (qv_mu PySem.F.plainAttrs_list PySem.F.slot_list_append PySem.F.type_list_append mt_append s_append (qv_var (pv 2)) (qi_cons (qi (qv_tup (qi_cons (qi (qv_bin op_sub s_sub (qv_var (pv 1)) qv_int)) (qi_cons (qi (qv_var (pv 12))) (qi_cons (qi (qv_var (pv 13))) (qi_cons (qi (qv_var (pv 11))) (qi_cons (qi (qv_var (pv 15))) (qi_cons (qi (qv_ix ix_seq s_ix (fun _ _ => rfl) (qv_var (pv 6)) (qv_un un_neg s_neg qv_int))) (qi_cons (qi (qv_var (pv 14))) qi_nil))))))))) qi_nil)))
  (qs_one (qp_set (i := 4) sc_read_drawing.nd rfl (by first | exact Or.inl rfl | exact Or.inr rfl) qv_bl))))
  (qs_one (qp_raiseX T.x_NoDrawing rfl tk rfl))))))))))
  (qs_one (qp_ret (qv_tup (qi_cons (qi (qv_var (pv 1))) (qi_cons (qi (qv_var (pv 2))) (qi_cons (qi (qv_var (pv 3))) qi_nil)))))))))))
abbrev s_l_stream : Stmt := top 24
theorem sc_l_stream : FnScope N_l_stream ["_law_script", "_law_k"] (defScope s_l_stream) := ⟨rfl, rfl, rfl, by decide +kernel, rfl, by decide +kernel, by decide +kernel⟩
theorem ok_l_stream (T : Txt K mg cn) {f : Addr} {fd : FuncData} {dvs : List V} (F : FnP K "_law_stream" s_l_stream dvs f fd) : FnOk P w K mg base (L2.CX P w) 1 f fd ["_law_script", "_law_k"] (spF K cn 2 F_l_stream) := by
  refine F.ok sc_l_stream (fun vs H Q E h => h.1) (fun cdv A outer s H vs Q E hr h => ⟨_, ?_, def_ok (ps := ["_law_script", "_law_k"]) rfl h⟩)
  exact (qs_cons (qp_if (qt_cmpR op_lt s_cmpI (nomark _) (qv_var (pv 1)) (qv_cb c_len s_len rfl T.b_len PySem.boot_len (qa_cons (qv_var (pv 0)) qa_nil)))
  (qs_one (qp_ret (qv_lst (qi_cons (qi (qv_ix ix_seq s_ix (fun _ _ => rfl) (qv_var (pv 0)) (qv_var (pv 1)))) (qi_cons (qi (qv_bin op_addAll s_add (qv_bin op_addAll s_add (qv_bin op_mod s_mod (qv_ix ix_seq s_ix (fun _ _ => rfl) (qv_var (pv 0)) (qv_var (pv 1))) qv_int) (qv_bin op_mulAll s_mul (qv_var (pv 1)) (qv_var (pv 1)))) qv_int)) qi_nil)))))
  qs_nil)
  (qs_one (qp_ret (qv_lst (qi_cons (qi (qv_bin op_addAll s_add (qv_bin op_mulAll s_mul (qv_bin op_mulAll s_mul (qv_var (pv 1)) (qv_var (pv 1))) qv_int) qv_int)) (qi_cons (qi (qv_bin op_addAll s_add (qv_var (pv 1)) qv_int)) qi_nil))))))
abbrev s_l_take : Stmt := top 25
theorem sc_l_take : FnScope N_l_take ["_law_stream_here", "_law_most"] (defScope s_l_take) := ⟨rfl, rfl, rfl, by decide +kernel, rfl, by decide +kernel, by decide +kernel⟩
theorem ok_l_take (T : Txt K mg cn) {f : Addr} {fd : FuncData} {dvs : List V} (F : FnP K "_law_take" s_l_take dvs f fd) : FnOk P w K mg base (L2.CX P w) 1 f fd ["_law_stream_here", "_law_most"] (spF K cn 2 F_l_take) := by
  refine F.ok sc_l_take (fun vs H Q E h => h.1) (fun cdv A outer s H vs Q E hr h => ⟨_, ?_, def_ok (ps := ["_law_stream_here", "_law_most"]) rfl h⟩)
  exact (qs_cons (qp_if (PW.pt (qw_or (qt_cmpR (op_eqAll hr.units) s_eq (nomark _) (qv_ix ix_seq s_ix (fun _ _ => rfl) (qv_var (pv 0)) qv_int) qv_int) (qw_or1 (qt_cmpR (op_eqAll hr.units) s_eq (nomark _) (qv_ix ix_seq s_ix (fun _ _ => rfl) (qv_var (pv 0)) qv_int) (qv_un un_neg s_neg qv_int)))))
  (qs_cons (qp_item (ps_asg (qi (qv_bin op_mod s_mod (qv_bin op_addAll s_add (qv_bin op_mulAll s_mul (qv_ix ix_seq s_ix (fun _ _ => rfl) (qv_var (pv 0)) qv_int) qv_int) qv_int) qv_int)) (pg_sub (pv 0) qv_int set_list)))
  (qs_one (qp_ret (qv_bin op_mod s_mod (qv_bin op_mod s_mod (qv_bin op_mulAll s_mul (qv_ix ix_seq s_ix (fun _ _ => rfl) (qv_var (pv 0)) qv_int) (qv_ix ix_seq s_ix (fun _ _ => rfl) (qv_var (pv 0)) qv_int)) qv_int) (qv_var (pv 1))))))
  qs_nil)
  (qs_cons (qp_set (i := 2) sc_l_take.nd rfl (by first | exact Or.inl rfl | exact Or.inr rfl) (qv_bin op_mod s_mod (qv_ix ix_seq s_ix (fun _ _ => rfl) (qv_var (pv 0)) qv_int) (qv_var (pv 1))))
  (qs_cons (qp_item (ps_asg (qi (qv_bin op_fdiv s_div (qv_ix ix_seq s_ix (fun _ _ => rfl) (qv_var (pv 0)) qv_int) (qv_var (pv 1)))) (pg_sub (pv 0) qv_int set_list)))
  (qs_one (qp_ret (qv_var (pv 2)))))))
abbrev s_l_rows : Stmt := top 26
theorem sc_l_rows : FnScope N_l_rows ["_law_stream_here"] (defScope s_l_rows) := ⟨rfl, rfl, rfl, by decide +kernel, rfl, by decide +kernel, by decide +kernel⟩
theorem ok_l_rows (T : Txt K mg cn)
    (G_l_take : DefOk P w K mg base cn 1 2 "_law_take" ["_law_stream_here", "_law_most"] [] F_l_take) {f : Addr} {fd : FuncData} {dvs : List V} (F : FnP K "_law_rows" s_l_rows dvs f fd) : FnOk P w K mg base (L2.CX P w) 2 f fd ["_law_stream_here"] (spF K cn 1 F_l_rows) := by
  refine F.ok sc_l_rows (fun vs H Q E h => h.1) (fun cdv A outer s H vs Q E hr h => ⟨_, ?_, def_ok (ps := ["_law_stream_here"]) rfl h⟩)
  have tk := takes_of (X := cxOf (L2.CX P w) P w K mg base N_l_rows "_law_rows" (defScope s_l_rows) f cdv A outer s H E) (E := E) rfl rfl rfl rfl
  exact (qs_cons (qp_set (i := 1) sc_l_rows.nd rfl (by first | exact Or.inl rfl | exact Or.inr rfl) (qv_lst qi_nil))
  (qs_cons (qp_for (passes_of rfl) rfl tg_name (qi_rng1 rfl T.b_range (qa_cons (qv_bin op_addAll s_add qv_int (qv_callD G_l_take (hr.mono (by decide)) rfl (passes_call tk (fun _ _ _ _ h => h)) (qa_cons (qv_arg (qv_var (pv 0))) (qa_cons (qv_arg qv_int) qa_nil)))) qa_nil)) (pg_name (i := 2) sc_l_rows.nd rfl (by first | exact Or.inl rfl | exact Or.inr rfl))
  (qs_cons (qp_expr (qv_mu PySem.F.plainAttrs_list PySem.F.slot_list_append PySem.F.type_list_append mt_append s_append (qv_var (pv 1)) (qi_cons (qi (qv_bin op_addAll s_add qv_str (qv_ct call_str_int s_str rfl T.b_str (by decide +kernel) (qa_cons (qv_var (pv 2)) qa_nil)))) qi_nil)))
  (qs_cons (qp_for (passes_of rfl) rfl tg_name (qi_rng1 rfl T.b_range (qa_cons (qv_callD G_l_take (hr.mono (by decide)) rfl (passes_call tk (fun _ _ _ _ h => h)) (qa_cons (qv_arg (qv_var (pv 0))) (qa_cons (qv_arg qv_int) qa_nil))) qa_nil)) (pg_name (i := 3) sc_l_rows.nd rfl (by first | exact Or.inl rfl | exact Or.inr rfl))
  (qs_one (qp_expr (qv_mu PySem.F.plainAttrs_list PySem.F.slot_list_append PySem.F.type_list_append mt_append s_append (qv_var (pv 1)) (qi_cons (qi (qv_bin op_addAll s_add qv_str (qv_m1 PySem.F.slot_str_join PySem.F.type_str_join mt_join s_join qv_str (qv_lc (own := [("_law_j", 5)]) rfl rfl sc_l_rows.nd tg_name (qi_rng1 rfl T.b_range (qa_cons qv_int qa_nil)) (blkOk_by (own := [("_law_j", 5)]) (N := N_l_rows) (sc := (defScope s_l_rows)) (by decide +kernel)) (fun _ _ _ _ _ => (pg_name (i := 5) sc_l_rows.nd rfl (by first | exact Or.inl rfl | exact Or.inr rfl))) (fun _ _ _ _ _ => qts_nil) (fun _ _ _ _ _ => (qi (qv_ct call_str_int s_str rfl T.b_str (by decide +kernel) (qa_cons (qv_bin op_sub s_sub (qv_callD G_l_take (hr.mono (by decide)) rfl passL (qa_cons (qv_arg (qv_var (pv 0))) (qa_cons (qv_arg qv_int) qa_nil))) qv_int) qa_nil)))))))) qi_nil)))))
  (qs_one (qp_for (passes_of rfl) rfl tg_name (qi_rng1 rfl T.b_range (qa_cons (qv_callD G_l_take (hr.mono (by decide)) rfl (passes_call tk (fun _ _ _ _ h => h)) (qa_cons (qv_arg (qv_var (pv 0))) (qa_cons (qv_arg qv_int) qa_nil))) qa_nil)) (pg_name (i := 3) sc_l_rows.nd rfl (by first | exact Or.inl rfl | exact Or.inr rfl))
  (qs_cons (qs_lc (i := 4) (own := [("_law_j", 5)]) rfl rfl sc_l_rows.nd rfl rfl (sw_true rfl rfl rfl (by decide +kernel)) tg_name (qi_rng1 rfl T.b_range (qa_cons qv_int qa_nil)) (blkOk_by (own := [("_law_j", 5)]) (N := N_l_rows) (sc := (defScope s_l_rows)) (by decide +kernel)) (fun _ _ _ _ _ => (pg_name (i := 5) sc_l_rows.nd rfl (by first | exact Or.inl rfl | exact Or.inr rfl))) (fun _ _ _ _ _ => qts_nil) (fun _ _ _ _ _ => (qi (qv_ct call_str_int s_str rfl T.b_str (by decide +kernel) (qa_cons (qv_bin op_sub s_sub (qv_callD G_l_take (hr.mono (by decide)) rfl passL (qa_cons (qv_arg (qv_var (pv 0))) (qa_cons (qv_arg qv_int) qa_nil))) qv_int) qa_nil)))))
  (qs_one (qp_expr (qv_mu PySem.F.plainAttrs_list PySem.F.slot_list_append PySem.F.type_list_append mt_append s_append (qv_var (pv 1)) (qi_cons (qi (qv_bin op_addAll s_add (qv_bin op_addAll s_add (qv_bin op_addAll s_add qv_str (qv_m1 PySem.F.slot_str_join PySem.F.type_str_join mt_join s_join qv_str (qv_var (pv 4)))) qv_str) (qv_ix ix_seq s_ix (fun _ _ => rfl) (qv_lst (qi_cons (qi qv_str) (qi_cons (qi qv_str) (qi_cons (qi qv_str) (qi_cons (qi qv_str) (qi_cons (qi qv_str) qi_nil)))))) (qv_callD G_l_take (hr.mono (by decide)) rfl (passes_call tk (fun _ _ _ _ h => h)) (qa_cons (qv_arg (qv_var (pv 0))) (qa_cons (qv_arg qv_int) qa_nil)))))) qi_nil))))))))))
  (qs_one (qp_ret (qv_var (pv 1))))))
abbrev s_l_bent : Stmt := top 27
theorem sc_l_bent : FnScope N_l_bent ["_law_row", "_law_stream_here"] (defScope s_l_bent) := ⟨rfl, rfl, rfl, by decide +kernel, rfl, by decide +kernel, by decide +kernel⟩
theorem ok_l_bent (T : Txt K mg cn)
    (G_l_take : DefOk P w K mg base cn 1 2 "_law_take" ["_law_stream_here", "_law_most"] [] F_l_take) {f : Addr} {fd : FuncData} {dvs : List V} (F : FnP K "_law_bent" s_l_bent dvs f fd) : FnOk P w K mg base (L2.CX P w) 2 f fd ["_law_row", "_law_stream_here"] (spF K cn 2 F_l_bent) := by
  refine F.ok sc_l_bent (fun vs H Q E h => h.1) (fun cdv A outer s H vs Q E hr h => ⟨_, ?_, def_ok (ps := ["_law_row", "_law_stream_here"]) rfl h⟩)
  have tk := takes_of (X := cxOf (L2.CX P w) P w K mg base N_l_bent "_law_bent" (defScope s_l_bent) f cdv A outer s H E) (E := E) rfl rfl rfl rfl
  exact (qs_cons (qp_set (i := 2) sc_l_bent.nd rfl (by first | exact Or.inl rfl | exact Or.inr rfl) (qv_callD G_l_take (hr.mono (by decide)) rfl (passes_call tk (fun _ _ _ _ h => h)) (qa_cons (qv_arg (qv_var (pv 1))) (qa_cons (qv_arg qv_int) qa_nil))))
  (qs_cons (qp_set (i := 3) sc_l_bent.nd rfl (by first | exact Or.inl rfl | exact Or.inr rfl) (qv_callD G_l_take (hr.mono (by decide)) rfl (passes_call tk (fun _ _ _ _ h => h)) (qa_cons (qv_arg (qv_var (pv 1))) (qa_cons (qv_arg (qv_bin op_addAll s_add (qv_cb c_len s_len rfl T.b_len PySem.boot_len (qa_cons (qv_var (pv 0)) qa_nil)) qv_int)) qa_nil))))
  (qs_cons (qp_set (i := 4) sc_l_bent.nd rfl (by first | exact Or.inl rfl | exact Or.inr rfl) (qv_ix ix_seq s_ix (fun _ _ => rfl) qv_str (qv_callD G_l_take (hr.mono (by decide)) rfl (passes_call tk (fun _ _ _ _ h => h)) (qa_cons (qv_arg (qv_var (pv 1))) (qa_cons (qv_arg qv_int) qa_nil)))))
  (qs_cons (qp_if (qt_cmpR (op_eqAll hr.units) s_eq (nomark _) (qv_var (pv 2)) qv_int)
  (qs_one (qp_ret (qv_bin op_addAll s_add (qv_bin op_addAll s_add (qv_sl (qv_var (pv 0)) qo_none (qo_some (qv_var (pv 3)))) (qv_var (pv 4))) (qv_sl (qv_var (pv 0)) (qo_some (qv_var (pv 3))) qo_none))))
  qs_nil)
  (qs_cons (qp_if (qt_cmpR (op_eqAll hr.units) s_eq (nomark _) (qv_var (pv 2)) qv_int)
  (qs_one (qp_ret (qv_bin op_addAll s_add (qv_sl (qv_var (pv 0)) qo_none (qo_some (qv_var (pv 3)))) (qv_sl (qv_var (pv 0)) (qo_some (qv_bin op_addAll s_add (qv_var (pv 3)) qv_int)) qo_none))))
  qs_nil)
  (qs_cons (qp_if (qt_cmpR (op_eqAll hr.units) s_eq (nomark _) (qv_var (pv 2)) qv_int)
  (qs_one (qp_ret (qv_bin op_addAll s_add (qv_bin op_addAll s_add (qv_sl (qv_var (pv 0)) qo_none (qo_some (qv_var (pv 3)))) (qv_var (pv 4))) (qv_sl (qv_var (pv 0)) (qo_some (qv_bin op_addAll s_add (qv_var (pv 3)) qv_int)) qo_none))))
  qs_nil)
  (qs_cons (qp_set (i := 5) sc_l_bent.nd rfl (by first | exact Or.inl rfl | exact Or.inr rfl) (qv_m1 PySem.F.slot_str_split PySem.F.type_str_split mt_split s_split (qv_var (pv 0)) qv_str))
  (qs_cons (qp_set (i := 6) sc_l_bent.nd rfl (by first | exact Or.inl rfl | exact Or.inr rfl) (qv_callD G_l_take (hr.mono (by decide)) rfl (passes_call tk (fun _ _ _ _ h => h)) (qa_cons (qv_arg (qv_var (pv 1))) (qa_cons (qv_arg (qv_cb c_len s_len rfl T.b_len PySem.boot_len (qa_cons (qv_var (pv 5)) qa_nil))) qa_nil))))
  (qs_cons (qp_set (i := 7) sc_l_bent.nd rfl (by first | exact Or.inl rfl | exact Or.inr rfl) (qv_callD G_l_take (hr.mono (by decide)) rfl (passes_call tk (fun _ _ _ _ h => h)) (qa_cons (qv_arg (qv_var (pv 1))) (qa_cons (qv_arg (qv_cb c_len s_len rfl T.b_len PySem.boot_len (qa_cons (qv_var (pv 5)) qa_nil))) qa_nil))))
  (qs_cons (qp_set (i := 8) sc_l_bent.nd rfl (by first | exact Or.inl rfl | exact Or.inr rfl) (qv_lst (qi_cons (qi qv_str) (qi_cons (qi qv_str) (qi_cons (qi qv_str) (qi_cons (qi qv_str) (qi_cons (qi qv_str) (qi_cons (qi qv_str) (qi_cons (qi qv_str) (qi_cons (qi qv_str) (qi_cons (qi qv_str) (qi_cons (qi qv_str) (qi_cons (qi qv_str) (qi_cons (qi qv_str) qi_nil))))))))))))))
  (qs_cons (qp_set (i := 8) sc_l_bent.nd rfl (by first | exact Or.inl rfl | exact Or.inr rfl) (qv_bin op_addAll s_add (qv_var (pv 8)) (qv_lst (qi_cons (qi qv_str) (qi_cons (qi qv_str) (qi_cons (qi qv_str) (qi_cons (qi (qv_bin op_mulAll s_mul qv_str qv_int)) (qi_cons (qi (qv_bin op_mulAll s_mul qv_str qv_int)) (qi_cons (qi qv_str) (qi_cons (qi qv_str) (qi_cons (qi qv_str) qi_nil)))))))))))
  (qs_cons (qp_if (qt_cmpR (op_eqAll hr.units) s_eq (nomark _) (qv_var (pv 2)) qv_int)
  (qs_one (qp_item2 (ps_asg (qv_tup (qi_cons (qi (qv_ix ix_seq s_ix (fun _ _ => rfl) (qv_var (pv 5)) (qv_var (pv 7)))) (qi_cons (qi (qv_ix ix_seq s_ix (fun _ _ => rfl) (qv_var (pv 5)) (qv_var (pv 6)))) qi_nil))) (pg_tup rfl (pgs_cons (pg_sub (pv 5) (qv_var (pv 6)) set_list) (pgs_cons (pg_sub (pv 5) (qv_var (pv 7)) set_list) pgs_nil))))))
  qs_nil)
  (qs_cons (qp_if (qt_cmpR (op_eqAll hr.units) s_eq (nomark _) (qv_var (pv 2)) qv_int)
  (qs_one (qp_expr (qv_mu PySem.F.plainAttrs_list PySem.F.slot_list_pop PySem.F.type_list_pop mt_popAt s_popAt (qv_var (pv 5)) (qi_cons (qi (qv_var (pv 6))) qi_nil))))
  qs_nil)
  (qs_cons (qp_if (qt_cmpR (op_eqAll hr.units) s_eq (nomark _) (qv_var (pv 2)) qv_int)
  (qs_one (qp_expr (qv_mu PySem.F.plainAttrs_list PySem.F.slot_list_insert PySem.F.type_list_insert mt_insert s_insert (qv_var (pv 5)) (qi_cons (qi (qv_var (pv 6))) (qi_cons (qi (qv_ix ix_seq s_ix (fun _ _ => rfl) (qv_var (pv 5)) (qv_var (pv 7)))) qi_nil)))))
  qs_nil)
  (qs_cons (qp_if (qt_cmpR op_gt s_cmpI (nomark _) (qv_var (pv 2)) qv_int)
  (qs_one (qp_item (ps_asg (qi (qv_ix ix_seq s_ix (fun _ _ => rfl) (qv_var (pv 8)) (qv_callD G_l_take (hr.mono (by decide)) rfl (passes_call tk (fun _ _ _ _ h => h)) (qa_cons (qv_arg (qv_var (pv 1))) (qa_cons (qv_arg qv_int) qa_nil))))) (pg_sub (pv 5) (qv_var (pv 6)) set_list))))
  qs_nil)
  (qs_one (qp_ret (qv_m1 PySem.F.slot_str_join PySem.F.type_str_join mt_join s_join qv_str (qv_var (pv 5))))))))))))))))))))
abbrev s_l_spoiled : Stmt := top 28
theorem sc_l_spoiled : FnScope N_l_spoiled ["_law_rows_here", "_law_stream_here"] (defScope s_l_spoiled) := ⟨rfl, rfl, rfl, by decide +kernel, rfl, by decide +kernel, by decide +kernel⟩
theorem ok_l_spoiled (T : Txt K mg cn)
    (G_l_take : DefOk P w K mg base cn 1 2 "_law_take" ["_law_stream_here", "_law_most"] [] F_l_take)
    (G_l_bent : DefOk P w K mg base cn 2 2 "_law_bent" ["_law_row", "_law_stream_here"] [] F_l_bent) {f : Addr} {fd : FuncData} {dvs : List V} (F : FnP K "_law_spoiled" s_l_spoiled dvs f fd) : FnOk P w K mg base (L2.CX P w) 3 f fd ["_law_rows_here", "_law_stream_here"] (spF K cn 2 F_l_spoiled) := by
  refine F.ok sc_l_spoiled (fun vs H Q E h => h.1) (fun cdv A outer s H vs Q E hr h => ⟨_, ?_, def_ok (ps := ["_law_rows_here", "_law_stream_here"]) rfl h⟩)
  have tk := takes_of (X := cxOf (L2.CX P w) P w K mg base N_l_spoiled "_law_spoiled" (defScope s_l_spoiled) f cdv A outer s H E) (E := E) rfl rfl rfl rfl
  exact (qs_cons (qp_set (i := 2) sc_l_spoiled.nd rfl (by first | exact Or.inl rfl | exact Or.inr rfl) (qv_callD G_l_take (hr.mono (by decide)) rfl (passes_call tk (fun _ _ _ _ h => h)) (qa_cons (qv_arg (qv_var (pv 1))) (qa_cons (qv_arg qv_int) qa_nil))))
  (qs_cons (qp_set (i := 3) sc_l_spoiled.nd rfl (by first | exact Or.inl rfl | exact Or.inr rfl) (qv_callD G_l_take (hr.mono (by decide)) rfl (passes_call tk (fun _ _ _ _ h => h)) (qa_cons (qv_arg (qv_var (pv 1))) (qa_cons (qv_arg (qv_cb (call_max2 rfl) s_max2 rfl T.b_max (by decide +kernel) (qa_cons qv_int (qa_cons (qv_cb c_len s_len rfl T.b_len PySem.boot_len (qa_cons (qv_var (pv 0)) qa_nil)) qa_nil)))) qa_nil))))
  (qs_cons (qp_set (i := 4) sc_l_spoiled.nd rfl (by first | exact Or.inl rfl | exact Or.inr rfl) (qv_ct call_list_of s_list rfl T.b_list (by decide +kernel) (qa_cons (qv_var (pv 0)) qa_nil)))
  (qs_cons (qp_if (qt_cmpR (op_eqAll hr.units) s_eq (nomark _) (qv_var (pv 0)) (qv_lst qi_nil))
  (qs_one (qp_ret (qv_sl (qv_lst (qi_cons (qi qv_str) (qi_cons (qi qv_str) (qi_cons (qi qv_str) (qi_cons (qi qv_str) qi_nil))))) (qo_some (qv_bin op_mod s_mod (qv_var (pv 2)) qv_int)) (qo_some (qv_bin op_addAll s_add (qv_bin op_mod s_mod (qv_var (pv 2)) qv_int) qv_int)))))
  qs_nil)
  (qs_cons (qp_if (qt_cmpR (op_eqAll hr.units) s_eq (nomark _) (qv_var (pv 2)) qv_int)
  (qs_one (qp_expr (qv_mu PySem.F.plainAttrs_list PySem.F.slot_list_pop PySem.F.type_list_pop mt_popAt s_popAt (qv_var (pv 4)) (qi_cons (qi (qv_var (pv 3))) qi_nil))))
  (qs_one (qp_if (qt_cmpR (op_eqAll hr.units) s_eq (nomark _) (qv_var (pv 2)) qv_int)
  (qs_one (qp_expr (qv_mu PySem.F.plainAttrs_list PySem.F.slot_list_insert PySem.F.type_list_insert mt_insert s_insert (qv_var (pv 4)) (qi_cons (qi (qv_var (pv 3))) (qi_cons (qi (qv_ix ix_seq s_ix (fun _ _ => rfl) (qv_var (pv 0)) (qv_var (pv 3)))) qi_nil)))))
  (qs_one (qp_if (qt_cmpR (op_eqAll hr.units) s_eq (nomark _) (qv_var (pv 2)) qv_int)
  (qs_one (qp_expr (qv_mu PySem.F.plainAttrs_list PySem.F.slot_list_insert PySem.F.type_list_insert mt_insert s_insert (qv_var (pv 4)) (qi_cons (qi (qv_callD G_l_take (hr.mono (by decide)) rfl (passes_call tk (fun _ _ _ _ h => h)) (qa_cons (qv_arg (qv_var (pv 1))) (qa_cons (qv_arg (qv_cb c_len s_len rfl T.b_len PySem.boot_len (qa_cons (qv_var (pv 0)) qa_nil))) qa_nil)))) (qi_cons (qi (qv_mu PySem.F.plainAttrs_list PySem.F.slot_list_pop PySem.F.type_list_pop mt_popAt s_popAt (qv_var (pv 4)) (qi_cons (qi (qv_var (pv 3))) qi_nil))) qi_nil)))))
  (qs_one (qp_if (qt_cmpR op_gt s_cmpI (nomark _) (qv_var (pv 2)) qv_int)
  (qs_one (qp_item (ps_asg (qi (qv_callD G_l_bent (hr.mono (by decide)) rfl (passes_call tk (fun _ _ _ _ h => h)) (qa_cons (qv_arg (qv_ix ix_seq s_ix (fun _ _ => rfl) (qv_var (pv 0)) (qv_var (pv 3)))) (qa_cons (qv_arg (qv_var (pv 1))) qa_nil)))) (pg_sub (pv 4) (qv_var (pv 3)) set_list))))
  qs_nil)))))))
  (qs_one (qp_ret (qv_var (pv 4)))))))))
abbrev s_l_number : Stmt := top 29
theorem sc_l_number : FnScope N_l_number ["_law_word"] (defScope s_l_number) := ⟨rfl, rfl, rfl, by decide +kernel, rfl, by decide +kernel, by decide +kernel⟩
theorem ok_l_number (T : Txt K mg cn) {f : Addr} {fd : FuncData} {dvs : List V} (F : FnP K "_law_number" s_l_number dvs f fd) : FnOk P w K mg base (L2.CX P w) 1 f fd ["_law_word"] (spF K cn 1 F_l_number) := by
  refine F.ok sc_l_number (fun vs H Q E h => h.1) (fun cdv A outer s H vs Q E hr h => ⟨_, ?_, def_ok (ps := ["_law_word"]) rfl h⟩)
  exact (qs_cons (qp_set (i := 1) sc_l_number.nd rfl (by first | exact Or.inl rfl | exact Or.inr rfl) (qv_sl (qv_var (pv 0)) (qo_some (qv_ct c_int s_int rfl T.b_int (by decide +kernel) (qa_cons (qv_cmp (op_eqAll hr.units) s_eq (nomark _) (qv_sl (qv_var (pv 0)) qo_none (qo_some qv_int)) qv_str) qa_nil))) qo_none))
  (qs_cons (qp_if (PW.pt (qw_or (qt_cmpR (op_eqAll hr.units) s_eq (nomark _) (qv_var (pv 1)) qv_str) (qw_or1 (qt_cmpR op_gt s_cmpI (nomark _) (qv_cb c_len s_len rfl T.b_len PySem.boot_len (qa_cons (qv_var (pv 1)) qa_nil)) qv_int))))
  (qs_one (qp_ret qv_non))
  qs_nil)
  (qs_cons (qp_if (qt_cmpR (op_neAll hr.units) s_ne (nomark _) (qv_cb c_len s_len rfl T.b_len PySem.boot_len (qa_cons (qv_lc (own := [("_law_sign", 2)]) rfl rfl sc_l_number.nd tg_name (qi_any (qv_var (pv 1))) (blkOk_by (own := [("_law_sign", 2)]) (N := N_l_number) (sc := (defScope s_l_number)) (by decide +kernel)) (fun _ _ _ _ _ => (pg_name (i := 2) sc_l_number.nd rfl (by first | exact Or.inl rfl | exact Or.inr rfl))) (fun _ _ _ _ _ => (qts_one (qt_cmpR (op_inAll (in_units hr)) s_in rfl (qv_varI (pv 2)) qv_str))) (fun _ _ _ _ _ => (qi (qv_varI (pv 2))))) qa_nil)) (qv_cb c_len s_len rfl T.b_len PySem.boot_len (qa_cons (qv_var (pv 1)) qa_nil)))
  (qs_one (qp_ret qv_non))
  qs_nil)
  (qs_cons (qp_if (PW.pt (qw_and (qt_cmpR (op_eqAll hr.units) s_eq (nomark _) (qv_ix ix_seq s_ix (fun _ _ => rfl) (qv_var (pv 1)) qv_int) qv_str) (qw_and1 (qt_cmpR (op_neAll hr.units) s_ne (nomark _) (qv_var (pv 0)) qv_str))))
  (qs_one (qp_ret qv_non))
  qs_nil)
  (qs_one (qp_ret (qv_ct c_int s_int rfl T.b_int (by decide +kernel) (qa_cons (qv_var (pv 0)) qa_nil))))))))
abbrev s_l_is_word : Stmt := top 30
theorem sc_l_is_word : FnScope N_l_is_word ["_law_word"] (defScope s_l_is_word) := ⟨rfl, rfl, rfl, by decide +kernel, rfl, by decide +kernel, by decide +kernel⟩
theorem ok_l_is_word (T : Txt K mg cn) {f : Addr} {fd : FuncData} {dvs : List V} (F : FnP K "_law_is_word" s_l_is_word dvs f fd) : FnOk P w K mg base (L2.CX P w) 1 f fd ["_law_word"] (spF K cn 1 F_l_is_word) := by
  refine F.ok sc_l_is_word (fun vs H Q E h => h.1) (fun cdv A outer s H vs Q E hr h => ⟨_, ?_, def_ok (ps := ["_law_word"]) rfl h⟩)
  exact (qs_cons (qp_set (i := 1) sc_l_is_word.nd rfl (by first | exact Or.inl rfl | exact Or.inr rfl) qv_str)
  (qs_one (qp_ret (qv_b (qb_and (qb_val (qv_chain op_le s_cmpI op_le s_cmpI qv_int (qv_cb c_len s_len rfl T.b_len PySem.boot_len (qa_cons (qv_var (pv 0)) qa_nil)) qv_int)) (qb_one (qb_val (qv_cmp (op_eqAll hr.units) s_eq (nomark _) (qv_cb c_len s_len rfl T.b_len PySem.boot_len (qa_cons (qv_lc (own := [("_law_sign", 2)]) rfl rfl sc_l_is_word.nd tg_name (qi_any (qv_var (pv 0))) (blkOk_by (own := [("_law_sign", 2)]) (N := N_l_is_word) (sc := (defScope s_l_is_word)) (by decide +kernel)) (fun _ _ _ _ _ => (pg_name (i := 2) sc_l_is_word.nd rfl (by first | exact Or.inl rfl | exact Or.inr rfl))) (fun _ _ _ _ _ => (qts_one (qt_cmpR (op_inAll (in_units hr)) s_in rfl (qv_varI (pv 2)) (qv_var (pv 1))))) (fun _ _ _ _ _ => (qi (qv_varI (pv 2))))) qa_nil)) (qv_cb c_len s_len rfl T.b_len PySem.boot_len (qa_cons (qv_var (pv 0)) qa_nil))))))))))
abbrev s_l_due : Stmt := top 31
theorem sc_l_due : FnScope N_l_due ["_law_rows_here"] (defScope s_l_due) := ⟨rfl, rfl, rfl, by decide +kernel, rfl, by decide +kernel, by decide +kernel⟩
theorem ok_l_due (T : Txt K mg cn)
    (G_l_number : DefOk P w K mg base cn 1 1 "_law_number" ["_law_word"] [] F_l_number)
    (G_l_is_word : DefOk P w K mg base cn 1 1 "_law_is_word" ["_law_word"] [] F_l_is_word) {f : Addr} {fd : FuncData} {dvs : List V} (F : FnP K "_law_due" s_l_due dvs f fd) : FnOk P w K mg base (L2.CX P w) 2 f fd ["_law_rows_here"] (spF K cn 1 F_l_due) := by
  refine F.ok sc_l_due (fun vs H Q E h => h.1) (fun cdv A outer s H vs Q E hr h => ⟨_, ?_, def_ok (ps := ["_law_rows_here"]) rfl h⟩)
  have tk := takes_of (X := cxOf (L2.CX P w) P w K mg base N_l_due "_law_due" (defScope s_l_due) f cdv A outer s H E) (E := E) rfl rfl rfl rfl
  exact (qs_cons (qp_set (i := 1) sc_l_due.nd rfl (by first | exact Or.inl rfl | exact Or.inr rfl) (qv_un un_neg s_neg qv_int))
  (qs_cons (qp_set (i := 2) sc_l_due.nd rfl (by first | exact Or.inl rfl | exact Or.inr rfl) (qv_lst qi_nil))
  (qs_cons (qp_set (i := 3) sc_l_due.nd rfl (by first | exact Or.inl rfl | exact Or.inr rfl) (qv_lst qi_nil))
  (qs_cons (qp_for (passes_of rfl) rfl tg_name (qi_any (qv_var (pv 0))) (pg_name (i := 4) sc_l_due.nd rfl (by first | exact Or.inl rfl | exact Or.inr rfl))
  (qs_cons (qp_set (i := 5) sc_l_due.nd rfl (by first | exact Or.inl rfl | exact Or.inr rfl) (qv_m1 PySem.F.slot_str_split PySem.F.type_str_split mt_split s_split (qv_var (pv 4)) qv_str))
  (qs_cons (qs_lc (i := 6) (own := [("_law_part", 14)]) rfl rfl sc_l_due.nd rfl rfl (sw_true rfl rfl rfl (by decide +kernel)) tg_name (qi_any (qv_sl (qv_var (pv 5)) (qo_some qv_int) (qo_some qv_int))) (blkOk_by (own := [("_law_part", 14)]) (N := N_l_due) (sc := (defScope s_l_due)) (by decide +kernel)) (fun _ _ _ _ _ => (pg_name (i := 14) sc_l_due.nd rfl (by first | exact Or.inl rfl | exact Or.inr rfl))) (fun _ _ _ _ _ => qts_nil) (fun _ _ _ _ _ => (qi (qv_callD G_l_number (hr.mono (by decide)) rfl passL (qa_cons (qv_arg (qv_varI (pv 14))) qa_nil)))))
  (qs_cons (qp_set (i := 7) sc_l_due.nd rfl (by first | exact Or.inl rfl | exact Or.inr rfl) (qv_cb c_len s_len rfl T.b_len PySem.boot_len (qa_cons (qv_var (pv 5)) qa_nil)))
  (qs_cons (qp_set (i := 8) sc_l_due.nd rfl (by first | exact Or.inl rfl | exact Or.inr rfl) (qv_b (qb_and (qb_val (qv_cmp (op_neAll hr.units) s_ne (nomark _) (qv_var (pv 2)) (qv_lst qi_nil))) (qb_one (qb_val (qv_cmp (op_eqAll hr.units) s_eq (nomark _) (qv_ix ix_seq s_ix (fun _ _ => rfl) (qv_ix ix_seq s_ix (fun _ _ => rfl) (qv_var (pv 2)) (qv_un un_neg s_neg qv_int)) qv_int) (qv_var (pv 1))))))))
  (qs_one (qp_if (PW.pt (qw_and (qt_cmpR (op_eqAll hr.units) s_eq (nomark _) (qv_ix ix_seq s_ix (fun _ _ => rfl) (qv_var (pv 5)) qv_int) qv_str) (qw_and (qt_cmpR (op_eqAll hr.units) s_eq (nomark _) (qv_var (pv 7)) qv_int) (qw_and1 (qt_cmpR (op_eqAll hr.units) s_eq (nomark _) (qv_var (pv 6)) (qv_lst (qi_cons (qi (qv_bin op_addAll s_add (qv_var (pv 1)) qv_int)) qi_nil)))))))
  (qs_one (qp_set (i := 1) sc_l_due.nd rfl (by first | exact Or.inl rfl | exact Or.inr rfl) (qv_bin op_addAll s_add (qv_var (pv 1)) qv_int)))
  (qs_one (qp_if (PW.pt (qw_or (qt_cmpR op_lt s_cmpI (nomark _) (qv_var (pv 1)) qv_int) (qw_or (qt_cmpR (op_inAll (in_units hr)) s_in rfl qv_non (qv_var (pv 6))) (qw_or1 (qt_cmpR (op_neAll hr.units) s_ne (nomark _) (qv_cb c_len s_len rfl T.b_len PySem.boot_len (qa_cons (qv_var (pv 6)) qa_nil)) qv_int)))))
  (qs_one (qp_ret qv_non))
  (qs_one (qp_if (PW.pt (qw_and (qt_cmpR (op_eqAll hr.units) s_eq (nomark _) (qv_ix ix_seq s_ix (fun _ _ => rfl) (qv_var (pv 5)) qv_int) qv_str) (qw_and (qt_cmpR (op_eqAll hr.units) s_eq (nomark _) (qv_var (pv 7)) qv_int) (qw_and1 (qt_not (qt_val (qv_var (pv 8))))))))
  (qs_one (qp_expr (qv_mu PySem.F.plainAttrs_list PySem.F.slot_list_append PySem.F.type_list_append mt_append s_append (qv_var (pv 3)) (qi_cons (qi (qv_ct call_tuple_of s_tuple rfl T.b_tuple (by decide +kernel) (qa_cons (qv_bin op_addAll s_add (qv_lst (qi_cons (qi (qv_var (pv 1))) qi_nil)) (qv_var (pv 6))) qa_nil))) qi_nil))))
  (qs_one (qp_if (PW.pt (qw_and (qt_cmpR (op_eqAll hr.units) s_eq (nomark _) (qv_ix ix_seq s_ix (fun _ _ => rfl) (qv_var (pv 5)) qv_int) qv_str) (qw_and (qt_cmpR (op_eqAll hr.units) s_eq (nomark _) (qv_var (pv 7)) qv_int) (qw_and1 (qt_val (qv_callD G_l_is_word (hr.mono (by decide)) rfl (passes_call tk (fun _ _ _ _ h => h)) (qa_cons (qv_arg (qv_ix ix_seq s_ix (fun _ _ => rfl) (qv_var (pv 5)) qv_int)) qa_nil)))))))
  (qs_cons (qp_unp (is := [9, 10, 11, 12, 13]) rfl rfl (pgs_cons (pg_name (i := 9) sc_l_due.nd rfl (by first | exact Or.inl rfl | exact Or.inr rfl)) (pgs_cons (pg_name (i := 10) sc_l_due.nd rfl (by first | exact Or.inl rfl | exact Or.inr rfl)) (pgs_cons (pg_name (i := 11) sc_l_due.nd rfl (by first | exact Or.inl rfl | exact Or.inr rfl)) (pgs_cons (pg_name (i := 12) sc_l_due.nd rfl (by first | exact Or.inl rfl | exact Or.inr rfl)) (pgs_cons (pg_name (i := 13) sc_l_due.nd rfl (by first | exact Or.inl rfl | exact Or.inr rfl)) pgs_nil))))) (pg_tup rfl (pgs_cons (pg_name (i := 9) sc_l_due.nd rfl (by first | exact Or.inl rfl | exact Or.inr rfl)) (pgs_cons (pg_name (i := 10) sc_l_due.nd rfl (by first | exact Or.inl rfl | exact Or.inr rfl)) (pgs_cons (pg_name (i := 11) sc_l_due.nd rfl (by first | exact Or.inl rfl | exact Or.inr rfl)) (pgs_cons (pg_name (i := 12) sc_l_due.nd rfl (by first | exact Or.inl rfl | exact Or.inr rfl)) (pgs_cons (pg_name (i := 13) sc_l_due.nd rfl (by first | exact Or.inl rfl | exact Or.inr rfl)) pgs_nil)))))) (pg_unl rfl (pgs_cons (pg_name (i := 9) sc_l_due.nd rfl (by first | exact Or.inl rfl | exact Or.inr rfl)) (pgs_cons (pg_name (i := 10) sc_l_due.nd rfl (by first | exact Or.inl rfl | exact Or.inr rfl)) (pgs_cons (pg_name (i := 11) sc_l_due.nd rfl (by first | exact Or.inl rfl | exact Or.inr rfl)) (pgs_cons (pg_name (i := 12) sc_l_due.nd rfl (by first | exact Or.inl rfl | exact Or.inr rfl)) (pgs_cons (pg_name (i := 13) sc_l_due.nd rfl (by first | exact Or.inl rfl | exact Or.inr rfl)) pgs_nil)))))) (qv_var (pv 6)))
  (qs_one (qp_expr (qv_mu PySem.F.plainAttrs_list PySem.F.slot_list_append PySem.F.type_list_append mt_append s_append (qv_var (pv 2)) (qi_cons (qi (qv_tup (qi_cons (qi (qv_var (pv 1))) (qi_cons (qi (qv_var (pv 9))) (qi_cons (qi (qv_var (pv 10))) (qi_cons (qi (qv_var (pv 12))) (qi_cons (qi (qv_var (pv 13))) (qi_cons (qi (qv_ix ix_seq s_ix (fun _ _ => rfl) (qv_var (pv 5)) qv_int)) (qi_cons (qi (qv_var (pv 11))) qi_nil))))))))) qi_nil)))))
  (qs_one (qp_ret qv_non)))))))))))))))
  (qs_one (qp_ret (qv_tup (qi_cons (qi (qv_bin op_addAll s_add (qv_var (pv 1)) qv_int)) (qi_cons (qi (qv_var (pv 2))) (qi_cons (qi (qv_var (pv 3))) qi_nil))))))))))
abbrev s_l_asked : Stmt := top 34
theorem sc_l_asked : FnScope N_l_asked ["_law_rows_here"] (defScope s_l_asked) := ⟨rfl, rfl, rfl, by decide +kernel, rfl, by decide +kernel, by decide +kernel⟩
theorem ok_l_asked (T : Txt K mg cn)
    (G_l_due : DefOk P w K mg base cn 2 1 "_law_due" ["_law_rows_here"] [] F_l_due)
    (G_l_refused : DefOk P w K mg base cn 6 1 "_law_refused" ["_law_rows_here"] [] F_l_refused)
    (G_read_drawing : DefOk P w K mg base cn 5 1 "read_drawing" ["rows"] [] F_read_drawing) {f : Addr} {fd : FuncData} {dvs : List V} (F : FnP K "_law_asked" s_l_asked dvs f fd) : FnOk P w K mg base (L2.CX P w) 7 f fd ["_law_rows_here"] (spF K cn 1 F_l_asked) := by
  refine F.ok sc_l_asked (fun vs H Q E h => h.1) (fun cdv A outer s H vs Q E hr h => ⟨_, ?_, def_ok (ps := ["_law_rows_here"]) rfl h⟩)
  have tk := takes_of (X := cxOf (L2.CX P w) P w K mg base N_l_asked "_law_asked" (defScope s_l_asked) f cdv A outer s H E) (E := E) rfl rfl rfl rfl
  exact (qs_cons (qp_set (i := 1) sc_l_asked.nd rfl (by first | exact Or.inl rfl | exact Or.inr rfl) (qv_ct call_list_of s_list rfl T.b_list (by decide +kernel) (qa_cons (qv_var (pv 0)) qa_nil)))
  (qs_cons (qp_set (i := 2) sc_l_asked.nd rfl (by first | exact Or.inl rfl | exact Or.inr rfl) (qv_callD G_l_due (hr.mono (by decide)) rfl (passes_call tk (fun _ _ _ _ h => h)) (qa_cons (qv_arg (qv_var (pv 0))) qa_nil)))
  (qs_cons (qp_if (qt_is (qv_var (pv 2)))
  (qs_one (qp_ret (qv_b (qb_and (qb_val (qv_callD G_l_refused (hr.mono (by decide)) rfl (passes_call tk (fun _ _ _ _ h => h)) (qa_cons (qv_arg (qv_var (pv 1))) qa_nil))) (qb_one (qb_val (qv_cmp (op_eqAll hr.units) s_eq (nomark _) (qv_var (pv 1)) (qv_var (pv 0)))))))))
  qs_nil)
  (qs_one (qp_ret (qv_b (qb_and (qb_val (qv_cmp (op_eqAll hr.units) s_eq (nomark _) (qv_callD G_read_drawing (hr.mono (by decide)) rfl (passes_call tk (fun _ _ _ _ h => h)) (qa_cons (qv_arg (qv_var (pv 1))) qa_nil)) (qv_var (pv 2)))) (qb_one (qb_val (qv_cmp (op_eqAll hr.units) s_eq (nomark _) (qv_var (pv 1)) (qv_var (pv 0))))))))))))
abbrev s_law : Stmt := top 35
theorem sc_law : FnScope N_law ["_law_script"] (defScope s_law) := ⟨rfl, rfl, rfl, by decide +kernel, rfl, by decide +kernel, by decide +kernel⟩
theorem ok_law (T : Txt K mg cn)
    (G_l_stream : DefOk P w K mg base cn 1 2 "_law_stream" ["_law_script", "_law_k"] [] F_l_stream)
    (G_l_rows : DefOk P w K mg base cn 2 1 "_law_rows" ["_law_stream_here"] [] F_l_rows)
    (G_l_spoiled : DefOk P w K mg base cn 3 2 "_law_spoiled" ["_law_rows_here", "_law_stream_here"] [] F_l_spoiled)
    (G_l_asked : DefOk P w K mg base cn 7 1 "_law_asked" ["_law_rows_here"] [] F_l_asked) {f : Addr} {fd : FuncData} {dvs : List V} (F : FnP K "law" s_law dvs f fd) : FnOk P w K mg base (L2.CX P w) 8 f fd ["_law_script"] (spF K cn 1 F_law) := by
  refine F.ok sc_law (fun vs H Q E h => h.1) (fun cdv A outer s H vs Q E hr h => ⟨_, ?_, def_ok (ps := ["_law_script"]) rfl h⟩)
  have tk := takes_of (X := cxOf (L2.CX P w) P w K mg base N_law "law" (defScope s_law) f cdv A outer s H E) (E := E) rfl rfl rfl rfl
  exact (qs_cons (qp_set (i := 1) sc_law.nd rfl (by first | exact Or.inl rfl | exact Or.inr rfl) (qv_callD G_l_stream (hr.mono (by decide)) rfl (passes_call tk (fun _ _ _ _ h => h)) (qa_cons (qv_arg (qv_var (pv 0))) (qa_cons (qv_arg qv_int) qa_nil))))
  (qs_cons (qp_set (i := 2) sc_law.nd rfl (by first | exact Or.inl rfl | exact Or.inr rfl) (qv_callD G_l_rows (hr.mono (by decide)) rfl (passes_call tk (fun _ _ _ _ h => h)) (qa_cons (qv_arg (qv_var (pv 1))) qa_nil)))
  (qs_cons (qp_set (i := 3) sc_law.nd rfl (by first | exact Or.inl rfl | exact Or.inr rfl) (qv_var (pv 2)))
  (qs_cons (qp_for (passes_of rfl) rfl tg_name (qi_rng1 rfl T.b_range (qa_cons qv_int qa_nil)) (pg_name (i := 4) sc_law.nd rfl (by first | exact Or.inl rfl | exact Or.inr rfl))
  (qs_cons (qp_set (i := 3) sc_law.nd rfl (by first | exact Or.inl rfl | exact Or.inr rfl) (qv_callD G_l_spoiled (hr.mono (by decide)) rfl (passes_call tk (fun _ _ _ _ h => h)) (qa_cons (qv_arg (qv_var (pv 3))) (qa_cons (qv_arg (qv_var (pv 1))) qa_nil))))
  (qs_one (qp_if (qt_not (qt_val (qv_callD G_l_asked (hr.mono (by decide)) rfl (passes_call tk (fun _ _ _ _ h => h)) (qa_cons (qv_arg (qv_var (pv 3))) qa_nil))))
  (qs_one (qp_ret qv_bl))
  qs_nil))))
  (qs_one (qp_ret (qv_b (qb_and (qb_val (qv_callD G_l_asked (hr.mono (by decide)) rfl (passes_call tk (fun _ _ _ _ h => h)) (qa_cons (qv_arg (qv_var (pv 2))) qa_nil))) (qb_one (qb_val (qv_callD G_l_asked (hr.mono (by decide)) rfl (passes_call tk (fun _ _ _ _ h => h)) (qa_cons (qv_arg (qv_lst qi_nil)) qa_nil))))))))))))
end
end K55

set_option Elab.async false
set_option linter.all false
set_option maxRecDepth 100000
set_option maxHeartbeats 4000000

namespace K55
open PySem PySem.Spec PyProof.Rows L2 VI
section
variable {P : Program} {w : World} {K : PySem.W.Frag} {mg : Str → Option Value} {base : Heap} {cn : Nat → Value}
abbrev s_l_alone : Stmt := top 32
theorem sc_l_alone : FnScope N_l_alone ["_law_error"] (defScope s_l_alone) := ⟨rfl, rfl, rfl, by decide +kernel, rfl, by decide +kernel, by decide +kernel⟩
theorem ok_l_alone (T : Txt K mg cn) (TX : ExT K mg cn) {f : Addr} {fd : FuncData} {dvs : List V} (F : FnP K "_law_alone" s_l_alone dvs f fd) (k : Nat) (hk : k < 9) : FnX P w K mg base 1 f fd ["_law_error"] (cn k) (fun a => spF K cn 1 (F_l_alone k a)) := by
  refine okX F sc_l_alone (fun a vs H Q E h => h.1) (fun cdv A outer s H vs Q E p hz hf hr h => ⟨_, ?_, def_ok (ps := ["_law_error"]) rfl h⟩)
  exact qs_one (qp_ret (qv_b (qb_not (qb_val (qv_isXT (oe := p.2) (a := p.1) TX List.mem_cons_self hk hz hf (pv 0)
    (.cons (by decide) rfl rfl (by decide) (.cons (by decide) rfl rfl (by decide) (.cons (by decide) rfl rfl (by decide) (.cons (by decide) rfl rfl (by decide) (.cons (by decide) rfl rfl (by decide) (.cons (by decide) rfl rfl (by decide) (.cons (by decide) rfl rfl (by decide) .nil))))))) rfl T.b_isinstance)))))
abbrev s_l_refused : Stmt := top 33
theorem sc_l_refused : FnScope N_l_refused ["_law_rows_here"] (defScope s_l_refused) := ⟨rfl, rfl, rfl, by decide +kernel, rfl, by decide +kernel, by decide +kernel⟩
theorem ok_l_refused (T : Txt K mg cn) (TX : ExT K mg cn) (G_read_drawing : DefOk P w K mg base cn 5 1 "read_drawing" ["rows"] [] F_read_drawing)
    {fA : Addr} {fdA : FuncData} (GA : ∀ k, k < 9 → FnX P w K mg base 1 fA fdA ["_law_error"] (cn k) (fun a => spF K cn 1 (F_l_alone k a))) (mA : mg "_law_alone" = some (.ref fA)) (kA : PySem.W.keepIn K (.ref fA) = true) (bA : Binds K fdA ["_law_error"] [])
    {f : Addr} {fd : FuncData} {dvs : List V} (F : FnP K "_law_refused" s_l_refused dvs f fd) : FnOk P w K mg base (L2.CX P w) 6 f fd ["_law_rows_here"] (spF K cn 1 F_l_refused) := by
  refine F.ok sc_l_refused (fun vs H Q E h => h.1) (fun cdv A outer s H vs Q E hr h => ⟨_, ?_, def_ok (ps := ["_law_rows_here"]) rfl h⟩)
  have tk := takes_of (X := cxOf (L2.CX P w) P w K mg base N_l_refused "_law_refused" (defScope s_l_refused) f cdv A outer s H E) (E := E) rfl rfl rfl rfl
  have rh : L2H.RoomH 5 (A.deeper (envOfC "_law_refused" (defScope s_l_refused) s.heap.objs.size f cdv)) := ⟨hr.dp, hr.un⟩
  refine qs_cons (qp_set (i := 1) sc_l_refused.nd rfl (by first | exact Or.inl rfl | exact Or.inr rfl) qv_int) ?_
  refine qs_cons (qp_tryC (i := 2) G_read_drawing (hr.mono (by decide)) rfl rfl rfl sc_l_refused.nd rfl rfl (TX.names 4 (by decide) rfl rfl) (fun k hk => TX.exm k 4 hk (by decide)) tk (fun pn xe E => qa_cons (qv_argF (qv_var (pv 0))) qa_nil)
    (fun a oe k pn hk hz hf => qs_one (qp_set (i := 1) sc_l_refused.nd rfl (by first | exact Or.inl rfl | exact Or.inr rfl) (qv_bin op_addAll s_add qv_int (qv_ct c_int s_int rfl T.b_int (by decide +kernel) (qa_cons (qv_callX (F := F_l_alone k) (GA k hk) ⟨(rh.mono (j := 1) (by decide)).dp, (rh.mono (j := 1) (by decide)).un⟩ List.mem_cons_self hz hf rfl mA kA bA passL (qa_cons (qv_arg (qv_var (pv 2))) qa_nil)) qa_nil)))))) ?_
  refine qs_cons (qp_if (qt_cmpR (op_neAll hr.units) s_ne (nomark _) (qv_var (pv 1)) qv_int) (qs_one (qp_ret qv_bl)) qs_nil) ?_
  refine qs_cons (qp_tryC (i := 2) G_read_drawing (hr.mono (by decide)) rfl rfl rfl sc_l_refused.nd rfl rfl (TX.names 8 (by decide) rfl rfl) (fun k hk => TX.exm k 8 hk (by decide)) tk (fun pn xe E => qa_cons (qv_argF (qv_var (pv 0))) qa_nil)
    (fun a oe k pn hk hz hf => qs_one (qp_set (i := 1) sc_l_refused.nd rfl (by first | exact Or.inl rfl | exact Or.inr rfl) (qv_bin op_mulAll s_mul qv_int (qv_ct c_int s_int rfl T.b_int (by decide +kernel) (qa_cons (qv_isXV TX List.mem_cons_self hk hz hf (pv 2) rfl T.b_ValueError rfl T.b_isinstance) qa_nil)))))) ?_
  exact qs_one (qp_ret (qv_cmp (op_eqAll hr.units) s_eq (nomark _) (qv_var (pv 1)) qv_int))
end
end K55

set_option Elab.async false
set_option linter.all false
set_option maxRecDepth 100000
set_option maxHeartbeats 4000000
/-! Reckoning with the semantics: one step behind another; no lambda stands in a continuation. -/
namespace VI
open PySem PySem.Spec PyProof.Rows
section
variable {α β : Type} {δ δ' : Env'} {f g h : Sem' R} {s t : Sem' Bool} {u w : SemS} {i j : Nat} {r : R} {d : D} {o : O} {b : Bool} {l : Sem' (List R)} {il : Sem' (List D)} {rs : List R} {ds : List D}
@[simp ↓] theorem bind_ok {a : α} {k : α → Res β} : (Res.ok a).bind k = k a := rfl
@[simp ↓] theorem bind_raise {c : Nat} {k : α → Res β} : (Res.raise c : Res α).bind k = .raise c := rfl
@[simp ↓] theorem bind_stuck {k : α → Res β} : (Res.stuck : Res α).bind k = .stuck := rfl
@[simp ↓] theorem out_ok {a : α} {k : α → Out} : (Res.ok a).out k = k a := rfl
@[simp ↓] theorem out_raise {c : Nat} {k : α → Out} : (Res.raise c : Res α).out k = .raise c := rfl
@[simp ↓] theorem out_stuck {k : α → Out} : (Res.stuck : Res α).out k = .stuck := rfl
@[simp ↓] theorem nr_ok {a : α} : (Res.ok a).nr = .ok a := rfl
def Out.seq (m : Out) (u : SemS) : Out := match m with
  | .next δ => u δ
  | o => o
@[simp ↓] theorem seq_next : (Out.next δ).seq u = u δ := rfl
@[simp ↓] theorem seq_ret : (Out.ret r δ).seq u = .ret r δ := rfl
@[simp ↓] theorem seq_raise {c : Nat} : (Out.raise c).seq u = .raise c := rfl
@[simp ↓] theorem seq_brk : (Out.brk δ).seq u = .brk δ := rfl
@[simp ↓] theorem seq_cont : (Out.cont δ).seq u = .cont δ := rfl
@[simp ↓] theorem seq_stuck : Out.stuck.seq u = .stuck := rfl
@[simp ↓] theorem ap_seq : vSeq u w δ = (u δ).seq w := by unfold vSeq Out.seq; cases u δ <;> rfl
@[simp ↓] theorem ap_next : vNext δ = .next δ := rfl
@[simp ↓] theorem ap_brk : vBrk δ = .brk δ := rfl
@[simp ↓] theorem ap_cont : vCont δ = .cont δ := rfl
@[simp ↓] theorem ap_retN : vRetN δ = .ret (.imm .non) δ := rfl
@[simp ↓] theorem ap_raise {k : Nat} : vRaise k δ = .raise k := rfl
@[simp ↓] theorem ap_c : vC d δ = .ok (.imm d, δ) := rfl
@[simp ↓] theorem ap_aNil : aNil δ = .ok ([], δ) := rfl
@[simp ↓] theorem ap_iNil : iNil δ = .ok ([], δ) := rfl
@[simp ↓] theorem ap_oN : oNone δ = .ok (none, δ) := rfl
@[simp ↓] theorem ap_yes : vYes δ = .ok (true, δ) := rfl
/-! slots -/
def varK (i : Nat) (δ : Env') : Option Slot → Res (R × Env')
  | some (.imm d _) => .ok (.imm d, δ)
  | some (.own _ _) => .ok (.pl i, δ)
  | _ => .stuck
@[simp ↓] theorem ap_var : vVar i δ = varK i δ δ[i]? := by unfold vVar varK; rfl
@[simp] theorem varK_imm : varK i δ (some (.imm d b)) = .ok (.imm d, δ) := rfl
@[simp] theorem varK_own : varK i δ (some (.own o b)) = .ok (.pl i, δ) := rfl
def varIK (δ : Env') : Option Slot → Res (R × Env')
  | some (.imm d _) => .ok (.imm d, δ)
  | _ => .stuck
@[simp ↓] theorem ap_varI : vVarI i δ = varIK δ δ[i]? := by unfold vVarI varIK; rfl
@[simp] theorem varIK_imm : varIK δ (some (.imm d b)) = .ok (.imm d, δ) := rfl
def opR (ro : Option Ro) (δ : Env') : Res (R × Env') := match ro with
  | some ro => .ok (ro.r, δ)
  | none => .stuck
@[simp] theorem opR_some {ro : Ro} : opR (some ro) δ = .ok (ro.r, δ) := rfl
@[simp] theorem r_imm : (Ro.imm d).r = .imm d := rfl
@[simp] theorem r_lst : (Ro.lst ds).r = .frs (.lst ds) := rfl
@[simp] theorem r_tup : (Ro.tup ds).r = .imm (.tup ds) := rfl
@[simp] theorem vw_imm : vw δ (.imm d) = some d := rfl
@[simp] theorem vw_frs : vw δ (.frs (.lst ds)) = some (.lst ds) := rfl
def vwK : Option Slot → Option D
  | some (.own (.lst ds) _) => some (.lst ds)
  | some (.imm d _) => some d
  | _ => none
@[simp] theorem vw_pl : vw δ (.pl i) = vwK δ[i]? := by unfold vwK vw; rfl
@[simp] theorem vwK_own : vwK (some (.own (.lst ds) b)) = some (.lst ds) := rfl
@[simp] theorem vwK_imm : vwK (some (.imm d b)) = some d := rfl
def two (op : D → D → Option Ro) (a b : Option D) (δ : Env') : Res (R × Env') := match a, b with
  | some x, some y => opR (op x y) δ
  | _, _ => .stuck
@[simp] theorem two_some {op : D → D → Option Ro} {x y : D} : two op (some x) (some y) δ = opR (op x y) δ := rfl
def opK2 (op : D → D → Option Ro) (a : R) (q : R × Env') : Res (R × Env') := two op (vw q.2 a) (vw q.2 q.1) q.2
def opK1 (op : D → D → Option Ro) (g : Sem' R) (p : R × Env') : Res (R × Env') := (g p.2).bind (opK2 op p.1)
@[simp ↓] theorem ap_op {op : D → D → Option Ro} : vOp op f g δ = (f δ).bind (opK1 op g) := by
  unfold vOp
  congr 1
@[simp] theorem opK1_eq {op : D → D → Option Ro} : opK1 op g (r, δ) = (g δ).bind (opK2 op r) := rfl
@[simp] theorem opK2_eq {op : D → D → Option Ro} {a : R} : opK2 op a (r, δ) = two op (vw δ a) (vw δ r) δ := rfl
def unK (op : D → Option Ro) (p : R × Env') : Res (R × Env') := match vw p.2 p.1 with
  | some x => opR (op x) p.2
  | none => .stuck
@[simp ↓] theorem ap_un {op : D → Option Ro} : vUn op f δ = (f δ).bind (unK op) := by
  unfold vUn
  congr 1
  funext p
  unfold unK
  cases vw p.2 p.1 <;> rfl
@[simp] theorem unK_imm {op : D → Option Ro} : unK op (.imm d, δ) = opR (op d) δ := rfl
/-! truths -/
def bK (p : R × Env') : Res (Bool × Env') := match p.1 with
  | .imm (.bl b) => .ok (b, p.2)
  | _ => .stuck
@[simp ↓] theorem ap_B : vB f δ = (f δ).bind bK := rfl
@[simp] theorem bK_eq : bK (.imm (.bl b), δ) = .ok (b, δ) := rfl
def vK (p : Bool × Env') : Res (R × Env') := .ok (.imm (.bl p.1), p.2)
@[simp ↓] theorem ap_V : vV s δ = (s δ).bind vK := rfl
@[simp] theorem vK_eq : vK (b, δ) = .ok (.imm (.bl b), δ) := rfl
def andK (t : Sem' Bool) (p : Bool × Env') : Res (Bool × Env') := if p.1 then t p.2 else .ok (false, p.2)
@[simp ↓] theorem ap_and : vAnd s t δ = (s δ).bind (andK t) := rfl
@[simp ↓] theorem andK_t : andK t (true, δ) = t δ := rfl
@[simp ↓] theorem andK_f : andK t (false, δ) = .ok (false, δ) := rfl
def orK (t : Sem' Bool) (p : Bool × Env') : Res (Bool × Env') := if p.1 then .ok (true, p.2) else t p.2
@[simp ↓] theorem ap_or : vOr s t δ = (s δ).bind (orK t) := rfl
@[simp ↓] theorem orK_t : orK t (true, δ) = .ok (true, δ) := rfl
@[simp ↓] theorem orK_f : orK t (false, δ) = t δ := rfl
def notK (p : Bool × Env') : Res (Bool × Env') := .ok (!p.1, p.2)
@[simp ↓] theorem ap_not : vNot s δ = (s δ).bind notK := rfl
@[simp] theorem notK_eq : notK (b, δ) = .ok (!b, δ) := rfl
def ifK (f g : Sem' R) (p : Bool × Env') : Res (R × Env') := if p.1 then f p.2 else g p.2
@[simp ↓] theorem ap_if : vIf s f g δ = (s δ).bind (ifK f g) := rfl
@[simp ↓] theorem ifK_t : ifK f g (true, δ) = f δ := rfl
@[simp ↓] theorem ifK_f : ifK f g (false, δ) = g δ := rfl
def ifSK (u w : SemS) (p : Bool × Env') : Out := if p.1 then u p.2 else w p.2
@[simp ↓] theorem ap_ifS : vIfS s u w δ = (s δ).out (ifSK u w) := rfl
@[simp ↓] theorem ifSK_t : ifSK u w (true, δ) = u δ := rfl
@[simp ↓] theorem ifSK_f : ifSK u w (false, δ) = w δ := rfl
def isK (neg : Bool) (p : R × Env') : Res (R × Env') := if vOwn p.2 p.1 then
    (match p.1 with
    | .imm .non => .ok (.imm (.bl (!neg)), p.2)
    | _ => .ok (.imm (.bl neg), p.2)) else .stuck
@[simp ↓] theorem ap_is {neg : Bool} : vIs neg f δ = (f δ).bind (isK neg) := rfl
@[simp] theorem isK_non {neg : Bool} : isK neg (.imm .non, δ) = .ok (.imm (.bl (!neg)), δ) := rfl
@[simp] theorem isK_tup {neg : Bool} : isK neg (.imm (.tup ds), δ) = .ok (.imm (.bl neg), δ) := rfl
@[simp] theorem isK_int {neg : Bool} {k : Int} : isK neg (.imm (.int k), δ) = .ok (.imm (.bl neg), δ) := rfl
/-! chains -/
def chK3 (o' : D → D → Option Ro) (y : Option D) (p : R × Env') : Res (R × Env') := two o' y (vw p.2 p.1) p.2
def chM (o' : D → D → Option Ro) (h : Sem' R) (q : R) (δ : Env') : Option Ro → Res (R × Env')
  | some (.imm (.bl true)) => (h δ).bind fun r => (match vw r.2 q, vw r.2 r.1 with
      | some y', some z => (match o' y' z with
        | some ro => .ok (ro.r, r.2)
        | none => .stuck)
      | _, _ => .stuck)
  | some (.imm (.bl false)) => .ok (.imm (.bl false), δ)
  | _ => .stuck
def chK4 (o' : D → D → Option Ro) (q : R) (r : R × Env') : Res (R × Env') := match vw r.2 q, vw r.2 r.1 with
      | some y', some z => (match o' y' z with
        | some ro => .ok (ro.r, r.2)
        | none => .stuck)
      | _, _ => .stuck
def chK2 (o o' : D → D → Option Ro) (h : Sem' R) (a : R) (q : R × Env') : Res (R × Env') := match vw q.2 a, vw q.2 q.1 with
  | some x, some y => chM o' h q.1 q.2 (o x y)
  | _, _ => .stuck
def chK1 (o o' : D → D → Option Ro) (g h : Sem' R) (p : R × Env') : Res (R × Env') := (g p.2).bind (chK2 o o' h p.1)
@[simp ↓] theorem ap_chain {o o' : D → D → Option Ro} : vChain o o' f g h δ = (f δ).bind (chK1 o o' g h) := by
  unfold vChain
  congr 1
@[simp] theorem chK1_eq {o o' : D → D → Option Ro} : chK1 o o' g h (r, δ) = (g δ).bind (chK2 o o' h r) := rfl
@[simp] theorem chK2_imm {o o' : D → D → Option Ro} {x y : D} : chK2 o o' h (.imm x) (.imm y, δ) = chM o' h (.imm y) δ (o x y) := rfl
@[simp] theorem chM_t {o' : D → D → Option Ro} : chM o' h r δ (some (.imm (.bl true))) = (h δ).bind (chK4 o' r) := rfl
@[simp] theorem chM_f {o' : D → D → Option Ro} : chM o' h r δ (some (.imm (.bl false))) = .ok (.imm (.bl false), δ) := rfl
@[simp] theorem chK4_imm {o' : D → D → Option Ro} {x y : D} : chK4 o' (.imm x) (.imm y, δ) = opR (o' x y) δ := by
  unfold chK4 opR
  rfl
/-! stores -/
def stPK (i : Nat) (δ : Env') : Option Slot → Option (D × Env')
    | some (.own (.lst ds) b) => some (.lst ds, δ.set i (.imm (.lst ds) b))
    | some (.imm d _) => some (d, δ)
    | _ => none
@[simp] theorem st_imm : st δ (.imm d) = some (d, δ) := rfl
@[simp] theorem st_frs : st δ (.frs (.lst ds)) = some (.lst ds, δ) := rfl
@[simp] theorem st_pl : st δ (.pl i) = stPK i δ δ[i]? := by unfold stPK st; rfl
@[simp] theorem stPK_own : stPK i δ (some (.own (.lst ds) b)) = some (.lst ds, δ.set i (.imm (.lst ds) b)) := rfl
@[simp] theorem stPK_imm : stPK i δ (some (.imm d b)) = some (d, δ) := rfl
def iK : Option (D × Env') → Res (D × Env')
  | some q => .ok q
  | none => .stuck
def iK1 (p : R × Env') : Res (D × Env') := iK (st p.2 p.1)
@[simp ↓] theorem ap_I : vI f δ = (f δ).bind iK1 := by unfold vI; congr 1
@[simp] theorem iK1_eq : iK1 (r, δ) = iK (st δ r) := rfl
@[simp] theorem iK_eq : iK (some (d, δ)) = .ok (d, δ) := rfl
def freeK : Option Slot → Bool
  | some s => !pinned s
  | none => false
@[simp] theorem free_eq : free' δ i = freeK δ[i]? := by unfold free' freeK; rfl
@[simp] theorem freeK_imm : freeK (some (.imm d b)) = !b := rfl
@[simp] theorem freeK_own : freeK (some (.own o b)) = !b := rfl
@[simp] theorem freeK_none : freeK (some .none) = true := rfl
@[simp] theorem pin_imm : pinned (.imm d b) = b := rfl
@[simp] theorem pin_own : pinned (.own o b) = b := rfl
@[simp] theorem pin_none : pinned .none = false := rfl
def setC (δ : Env') (i : Nat) (s : Slot) (b : Bool) : Option Env' := if b then some (δ.set i s) else none
@[simp] theorem setC_t {s : Slot} : setC δ i s true = some (δ.set i s) := rfl
@[simp] theorem setI_eq : setI δ i d = setC δ i (.imm d false) (free' δ i) := rfl
@[simp] theorem setR_imm : setR δ i (.imm d) = setI δ i d := rfl
@[simp] theorem setR_frs : setR δ i (.frs o) = setC δ i (.own o false) (free' δ i) := rfl
def setRK (i : Nat) : Option (D × Env') → Option Env'
  | some (d, δ') => setI δ' i d
  | none => none
@[simp] theorem setR_pl : setR δ i (.pl j) = setRK i (st δ (.pl j)) := rfl
@[simp] theorem setRK_eq : setRK i (some (d, δ)) = setI δ i d := rfl
def nxO (m : Option Env') : Out := match m with
  | some δ => .next δ
  | none => .stuck
@[simp] theorem nxO_some : nxO (some δ) = .next δ := rfl
def asgK (i : Nat) (p : R × Env') : Out := nxO (setR p.2 i p.1)
@[simp ↓] theorem ap_asg : vAsg i f δ = (f δ).out (asgK i) := rfl
@[simp] theorem asgK_eq : asgK i (r, δ) = nxO (setR δ i r) := rfl
def dropK (p : R × Env') : Out := .next p.2
@[simp ↓] theorem ap_drop : vDrop f δ = (f δ).out dropK := rfl
@[simp] theorem dropK_eq : dropK (r, δ) = .next δ := rfl
def rtK (p : R × Env') : Out := .ret p.1 p.2
@[simp ↓] theorem ap_ret : vRet f δ = (f δ).out rtK := rfl
@[simp] theorem rtK_eq : rtK (r, δ) = .ret r δ := rfl
def unpM (is : List Nat) (δ : Env') : Option D → Out
  | some (.tup ds) => nxO (setMany is ds δ)
  | some (.lst ds) => nxO (setMany is ds δ)
  | _ => .stuck
def unpK (is : List Nat) (p : R × Env') : Out := unpM is p.2 (vw p.2 p.1)
@[simp ↓] theorem ap_unp {is : List Nat} : vUnp is f δ = (f δ).out (unpK is) := by unfold vUnp; congr 1
@[simp] theorem unpK_eq {is : List Nat} : unpK is (r, δ) = unpM is δ (vw δ r) := rfl
@[simp] theorem unpM_tup {is : List Nat} : unpM is δ (some (.tup ds)) = nxO (setMany is ds δ) := rfl
@[simp] theorem unpM_lst {is : List Nat} : unpM is δ (some (.lst ds)) = nxO (setMany is ds δ) := rfl
def manyK (is : List Nat) (ds : List D) : Option Env' → Option Env'
    | some δ' => setMany is ds δ'
    | none => none
@[simp] theorem many_nil : setMany [] [] δ = some δ := rfl
@[simp] theorem many_cons {is : List Nat} : setMany (i :: is) (d :: ds) δ = manyK is ds (setI δ i d) := by rw [setMany]; rfl
@[simp] theorem manyK_eq {is : List Nat} : manyK is ds (some δ) = setMany is ds δ := rfl
def augK2 (i : Nat) (k : Int → Int → Int) (a : Int) (p : R × Env') : Out := match p.1 with
    | .imm (.int b) => nxO (setI p.2 i (.int (k a b)))
    | _ => .stuck
def augK (i : Nat) (k : Int → Int → Int) (g : Sem' R) (δ : Env') : Option Slot → Out
  | some (.imm (.int a) _) => (g δ).out (augK2 i k a)
  | _ => .stuck
@[simp ↓] theorem ap_aug {k : Int → Int → Int} : vAug i k g δ = augK i k g δ δ[i]? := by unfold vAug augK; rfl
@[simp] theorem augK_eq {k : Int → Int → Int} {a : Int} : augK i k g δ (some (.imm (.int a) b)) = (g δ).out (augK2 i k a) := rfl
@[simp] theorem augK2_eq {k : Int → Int → Int} {a c : Int} : augK2 i k a (.imm (.int c), δ) = nxO (setI δ i (.int (k a c))) := rfl
/-! arguments -/
def acK2 (r : R) (q : List R × Env') : Res (List R × Env') := .ok (r :: q.1, q.2)
def acK1 (l : Sem' (List R)) (p : R × Env') : Res (List R × Env') := (l p.2).bind (acK2 p.1)
@[simp ↓] theorem ap_aCons : aCons f l δ = (f δ).bind (acK1 l) := rfl
@[simp] theorem acK1_eq : acK1 l (r, δ) = (l δ).bind (acK2 r) := rfl
@[simp] theorem acK2_eq : acK2 r (rs, δ) = .ok (r :: rs, δ) := rfl
def icK2 (d : D) (q : List D × Env') : Res (List D × Env') := .ok (d :: q.1, q.2)
def icK1 (l : Sem' (List D)) (p : D × Env') : Res (List D × Env') := (l p.2).bind (icK2 p.1)
@[simp ↓] theorem ap_iCons {k : Sem' D} : iCons k il δ = (k δ).bind (icK1 il) := rfl
@[simp] theorem icK1_eq : icK1 il (d, δ) = (il δ).bind (icK2 d) := rfl
@[simp] theorem icK2_eq : icK2 d (ds, δ) = .ok (d :: ds, δ) := rfl
def tupK (p : List D × Env') : Res (R × Env') := if p.1.length ≤ 1000 then .ok (.imm (.tup p.1), p.2) else .stuck
@[simp ↓] theorem ap_tup : vTup il δ = (il δ).bind tupK := rfl
theorem tupK_eq (h : ds.length ≤ 1000) : tupK (ds, δ) = .ok (.imm (.tup ds), δ) := if_pos h
def lstK (p : List D × Env') : Res (R × Env') := if p.1.length ≤ 1000 then .ok (.frs (.lst p.1), p.2) else .stuck
@[simp ↓] theorem ap_lst : vLst il δ = (il δ).bind lstK := rfl
theorem lstK_eq (h : ds.length ≤ 1000) : lstK (ds, δ) = .ok (.frs (.lst ds), δ) := if_pos h
def vwsK : Option D → Option (List D) → Option (List D)
    | some d, some ds => some (d :: ds)
    | _, _ => none
@[simp] theorem vws_nil : vws δ [] = some [] := rfl
@[simp] theorem vws_cons : vws δ (r :: rs) = vwsK (vw δ r) (vws δ rs) := by rw [vws]; rfl
@[simp] theorem vwsK_eq : vwsK (some d) (some ds) = some (d :: ds) := rfl
def cbM (k : List D → Option Ro) (δ : Env') : Option (List D) → Res (R × Env')
  | some ds => opR (k ds) δ
  | none => .stuck
def cbK (k : List D → Option Ro) (p : List R × Env') : Res (R × Env') := cbM k p.2 (vws p.2 p.1)
@[simp ↓] theorem ap_cb {k : List D → Option Ro} : vCB k l δ = (l δ).bind (cbK k) := by unfold vCB; congr 1
@[simp] theorem cbK_eq {k : List D → Option Ro} : cbK k (rs, δ) = cbM k δ (vws δ rs) := rfl
@[simp] theorem cbM_eq {k : List D → Option Ro} : cbM k δ (some ds) = opR (k ds) δ := rfl
def m1M (k : Str → D → Option Ro) (a : Str) (δ : Env') : Option D → Res (R × Env')
    | some d => opR (k a d) δ
    | none => .stuck
def m1K2 (k : Str → D → Option Ro) (a : Str) (q : R × Env') : Res (R × Env') := m1M k a q.2 (vw q.2 q.1)
def m1K (k : Str → D → Option Ro) (h : Sem' R) (p : R × Env') : Res (R × Env') := match p.1 with
  | .imm (.str a) => (h p.2).bind (m1K2 k a)
  | _ => .stuck
@[simp ↓] theorem ap_m1 {k : Str → D → Option Ro} : vM1 k g h δ = (g δ).bind (m1K k h) := by unfold vM1; congr 1
@[simp] theorem m1K_eq {k : Str → D → Option Ro} {a : Str} : m1K k h (.imm (.str a), δ) = (h δ).bind (m1K2 k a) := rfl
@[simp] theorem m1K2_eq {k : Str → D → Option Ro} {a : Str} : m1K2 k a (r, δ) = m1M k a δ (vw δ r) := rfl
@[simp] theorem m1M_eq {k : Str → D → Option Ro} {a : Str} : m1M k a δ (some d) = opR (k a d) δ := rfl
def oK (p : R × Env') : Res (Option Int × Env') := match p.1 with
  | .imm (.int i) => .ok (some i, p.2)
  | _ => .stuck
@[simp ↓] theorem ap_oS : oSome f δ = (f δ).bind oK := by unfold oSome; congr 1
@[simp] theorem oK_eq {k : Int} : oK (.imm (.int k), δ) = .ok (some k, δ) := rfl
def slM (a b : Option Int) (δ : Env') : Option D → Res (R × Env')
  | some d => opR (dSl a b d) δ
  | none => .stuck
def slK3 (r : R) (a : Option Int) (q : Option Int × Env') : Res (R × Env') := slM a q.1 q.2 (vw q.2 r)
def slK2 (hi : Sem' (Option Int)) (r : R) (q : Option Int × Env') : Res (R × Env') := (hi q.2).bind (slK3 r q.1)
def slK1 (lo hi : Sem' (Option Int)) (p : R × Env') : Res (R × Env') := (lo p.2).bind (slK2 hi p.1)
@[simp ↓] theorem ap_sl {lo hi : Sem' (Option Int)} : vSl f lo hi δ = (f δ).bind (slK1 lo hi) := by unfold vSl; congr 1
@[simp] theorem slK1_eq {lo hi : Sem' (Option Int)} : slK1 lo hi (r, δ) = (lo δ).bind (slK2 hi r) := rfl
@[simp] theorem slK2_eq {hi : Sem' (Option Int)} {a : Option Int} : slK2 hi r (a, δ) = (hi δ).bind (slK3 r a) := rfl
@[simp] theorem slK3_eq {a c : Option Int} : slK3 r a (c, δ) = slM a c δ (vw δ r) := rfl
@[simp] theorem slM_eq {a c : Option Int} : slM a c δ (some d) = opR (dSl a c d) δ := rfl
/-! loops -/
def itM (δ : Env') : Option (List D) → Res (List D × Env')
  | some ds => .ok (ds, δ)
  | none => .stuck
def itM1 : Option (D × Env') → Res (List D × Env')
  | some (d, δ') => itM δ' (itemsOf d)
  | none => .stuck
def itK (p : R × Env') : Res (List D × Env') := itM1 (st p.2 p.1)
@[simp ↓] theorem ap_it : vIt f δ = (f δ).bind itK := by unfold vIt; congr 1
@[simp] theorem itK_eq : itK (r, δ) = itM1 (st δ r) := rfl
@[simp] theorem itM1_eq : itM1 (some (d, δ)) = itM δ (itemsOf d) := rfl
@[simp] theorem itM_eq : itM δ (some ds) = .ok (ds, δ) := rfl
@[simp] theorem items_lst : itemsOf (.lst ds) = some ds := rfl
@[simp] theorem items_tup : itemsOf (.tup ds) = some ds := rfl
@[simp] theorem items_str {x : Str} : itemsOf (.str x) = some (signsD x) := rfl
def rngK (p : List R × Env') : Res (List D × Env') := match p.1 with
  | [.imm (.int n)] => if small62 n then .ok (rangeD 0 n.toNat, p.2) else .stuck
  | _ => .stuck
@[simp ↓] theorem ap_rng1 : vRng1 l δ = (l δ).bind rngK := by unfold vRng1; congr 1
theorem rngK_eq {n : Int} (h : small62 n = true) : rngK ([.imm (.int n)], δ) = .ok (rangeD 0 n.toNat, δ) := if_pos h
def forK (tg : D → Env' → Option Env') (u : SemS) (p : List D × Env') : Out := forGo tg u p.1 p.2
@[simp ↓] theorem ap_for {it : Sem' (List D)} {tg : D → Env' → Option Env'} : vFor it tg u δ = (it δ).out (forK tg u) := rfl
@[simp] theorem forK_eq {tg : D → Env' → Option Env'} : forK tg u (ds, δ) = forGo tg u ds δ := rfl
@[simp] theorem forGo_nil {tg : D → Env' → Option Env'} : forGo tg u [] δ = .next δ := rfl
def forM2 (tg : D → Env' → Option Env') (u : SemS) (ds : List D) : Out → Out
  | .next δ2 => forGo tg u ds δ2
  | .cont δ2 => forGo tg u ds δ2
  | .brk δ2 => .next δ2
  | .ret r δ2 => .ret r δ2
  | .raise k => .raise k
  | .stuck => .stuck
def forM1 (tg : D → Env' → Option Env') (u : SemS) (ds : List D) : Option Env' → Out
  | none => .stuck
  | some δ1 => forM2 tg u ds (u δ1)
theorem forGo_cons {tg : D → Env' → Option Env'} : forGo tg u (d :: ds) δ = forM1 tg u ds (tg d δ) := by
  rw [forGo]
  unfold forM1 forM2
  rfl
@[simp] theorem forM1_eq {tg : D → Env' → Option Env'} : forM1 tg u ds (some δ) = forM2 tg u ds (u δ) := rfl
@[simp] theorem forM2_next {tg : D → Env' → Option Env'} : forM2 tg u ds (.next δ) = forGo tg u ds δ := rfl
@[simp] theorem forM2_cont {tg : D → Env' → Option Env'} : forM2 tg u ds (.cont δ) = forGo tg u ds δ := rfl
@[simp] theorem forM2_brk {tg : D → Env' → Option Env'} : forM2 tg u ds (.brk δ) = .next δ := rfl
@[simp] theorem forM2_ret {tg : D → Env' → Option Env'} : forM2 tg u ds (.ret r δ) = .ret r δ := rfl
@[simp] theorem forM2_raise {tg : D → Env' → Option Env'} {k : Nat} : forM2 tg u ds (.raise k) = .raise k := rfl
@[simp] theorem tName_eq : tName i d δ = setI δ i d := rfl
/-! comprehensions -/
def frA : Option Slot → Bool
  | some s => !pinned s
  | none => true
@[simp] theorem frA_imm : frA (some (.imm d b)) = !b := rfl
@[simp] theorem frA_own : frA (some (.own o b)) = !b := rfl
@[simp] theorem frA_none : frA (some .none) = true := rfl
@[simp] theorem frAll_nil : freeAll δ [] = true := rfl
@[simp] theorem frAll_cons {vs : List Nat} : freeAll δ (i :: vs) = (frA δ[i]? && freeAll δ vs) := by
  unfold freeAll
  rw [List.all_cons]
  rfl
@[simp] theorem wipe_nil : wipeD [] δ = δ := rfl
@[simp] theorem wipe_cons {vs : List Nat} : wipeD (i :: vs) δ = (wipeD vs δ).set i .none := rfl
def bkK (i : Nat) (δ : Env') : Option Slot → Env'
  | some s => δ.set i s
  | none => δ
@[simp] theorem bkK_eq {s : Slot} : bkK i δ (some s) = δ.set i s := rfl
@[simp] theorem back1_nil : back1 δ' [] δ = δ := rfl
@[simp] theorem back1_cons {vs : List Nat} : back1 δ' (i :: vs) δ = bkK i (back1 δ' vs δ) δ'[i]? := by rw [back1]; unfold bkK; rfl
def lcK2 (δo : Env') (vs : List Nat) (q : List D × Env') : Res (R × Env') := .ok (.frs (.lst q.1), back1 δo vs q.2)
@[simp] theorem lcK2_eq {vs : List Nat} : lcK2 δ' vs (ds, δ) = .ok (.frs (.lst ds), back1 δ' vs δ) := rfl
def lcK (tg : D → Env' → Option Env') (s : Sem' Bool) (e : Sem' D) (vs : List Nat) (p : List D × Env') : Res (R × Env') := if freeAll p.2 vs then (lcGo tg s e vs p.1 [] (wipeD vs p.2)).nr.bind (lcK2 p.2 vs) else .stuck
@[simp ↓] theorem ap_lc {it : Sem' (List D)} {tg : D → Env' → Option Env'} {e : Sem' D} {vs : List Nat} : vLc it tg s e vs δ = (it δ).bind (lcK tg s e vs) := rfl
theorem lcK_eq {tg : D → Env' → Option Env'} {e : Sem' D} {vs : List Nat} (h : freeAll δ vs = true) : lcK tg s e vs (ds, δ) = (lcGo tg s e vs ds [] (wipeD vs δ)).nr.bind (lcK2 δ vs) := if_pos h
def lcKX (tg : D → Env' → Option Env') (s : Sem' Bool) (e : Sem' D) (vs : List Nat) (p : List D × Env') : Res (R × Env') := if freeAll p.2 vs then (lcGo tg s e vs p.1 [] (wipeD vs p.2)).bind (lcK2 p.2 vs) else .stuck
@[simp ↓] theorem ap_lcX {it : Sem' (List D)} {tg : D → Env' → Option Env'} {e : Sem' D} {vs : List Nat} : vLcX it tg s e vs δ = (it δ).bind (lcKX tg s e vs) := rfl
theorem lcKX_eq {tg : D → Env' → Option Env'} {e : Sem' D} {vs : List Nat} (h : freeAll δ vs = true) : lcKX tg s e vs (ds, δ) = (lcGo tg s e vs ds [] (wipeD vs δ)).bind (lcK2 δ vs) := if_pos h
def lcE (tg : D → Env' → Option Env') (s : Sem' Bool) (e : Sem' D) (vs : List Nat) (ds acc : List D) (q : D × Env') : Res (List D × Env') := if acc.length < 100000 && freeAll q.2 vs then lcGo tg s e vs ds (acc ++ [q.1]) (wipeD vs q.2) else .stuck
theorem lcE_eq {tg : D → Env' → Option Env'} {e : Sem' D} {vs : List Nat} {acc : List D} (h1 : acc.length < 100000) (h2 : freeAll δ vs = true) : lcE tg s e vs ds acc (d, δ) = lcGo tg s e vs ds (acc ++ [d]) (wipeD vs δ) := by
  unfold lcE
  simp [h1, h2]
def lcC (tg : D → Env' → Option Env') (s : Sem' Bool) (e : Sem' D) (vs : List Nat) (ds acc : List D) (p : Bool × Env') : Res (List D × Env') := if p.1 then (e p.2).bind (lcE tg s e vs ds acc) else if freeAll p.2 vs then lcGo tg s e vs ds acc (wipeD vs p.2) else .stuck
@[simp] theorem lcC_t {tg : D → Env' → Option Env'} {e : Sem' D} {vs : List Nat} {acc : List D} : lcC tg s e vs ds acc (true, δ) = (e δ).bind (lcE tg s e vs ds acc) := rfl
theorem lcC_f {tg : D → Env' → Option Env'} {e : Sem' D} {vs : List Nat} {acc : List D} (h : freeAll δ vs = true) : lcC tg s e vs ds acc (false, δ) = lcGo tg s e vs ds acc (wipeD vs δ) := if_pos h
def lcT (tg : D → Env' → Option Env') (s : Sem' Bool) (e : Sem' D) (vs : List Nat) (ds acc : List D) : Option Env' → Res (List D × Env')
  | none => .stuck
  | some δ1 => (s δ1).bind (lcC tg s e vs ds acc)
@[simp] theorem lcT_eq {tg : D → Env' → Option Env'} {e : Sem' D} {vs : List Nat} {acc : List D} : lcT tg s e vs ds acc (some δ) = (s δ).bind (lcC tg s e vs ds acc) := rfl
theorem lcGo_cons {tg : D → Env' → Option Env'} {e : Sem' D} {vs : List Nat} {acc : List D} : lcGo tg s e vs (d :: ds) acc δ = lcT tg s e vs ds acc (tg d δ) := by
  rw [lcGo]
  unfold lcT lcC lcE
  rfl
@[simp] theorem lcGo_nil {tg : D → Env' → Option Env'} {e : Sem' D} {vs : List Nat} {acc : List D} : lcGo tg s e vs [] acc δ = .ok (acc, δ) := by rw [lcGo]
/-! calls -/
def argK (p : R × Env') : Res (R × Env') := match p.1 with
  | .frs (.lst ds) => .ok (.imm (.lst ds), p.2)
  | .frs _ => .stuck
  | r => .ok (r, p.2)
@[simp ↓] theorem ap_arg : vArg f δ = (f δ).bind argK := by unfold vArg; congr 1
@[simp] theorem argK_imm : argK (.imm d, δ) = .ok (.imm d, δ) := rfl
@[simp] theorem argK_pl : argK (.pl i, δ) = .ok (.pl i, δ) := rfl
@[simp] theorem argK_frs : argK (.frs (.lst ds), δ) = .ok (.imm (.lst ds), δ) := rfl
@[simp ↓] theorem ap_call {F : Fn} {n : Nat} {dflt : List D} : vCall F n dflt l δ = (l δ).bind (callK F n dflt) := rfl
def retM (r : R) : Option Env' → Res (R × Env')
    | some δ' => (match r with
      | .pl _ => .stuck
      | r => .ok (r, δ'))
    | none => .stuck
@[simp] theorem retM_imm : retM (.imm d) (some δ) = .ok (.imm d, δ) := rfl
@[simp] theorem retM_frs : retM (.frs o) (some δ) = .ok (.frs o, δ) := rfl
def retK (rs : List R) (δ : Env') (m : FRes) : Res (R × Env') := match m with
  | .ret r outs => retM r (back rs outs δ)
  | .raise k => .raise k
  | .stuck => .stuck
@[simp] theorem retK_raise {k : Nat} : retK rs δ (.raise k) = .raise k := rfl
@[simp] theorem retK_ret {outs : List Slot} : retK rs δ (.ret r outs) = retM r (back rs outs δ) := rfl
def callM (F : Fn) (dflt : List D) (rs : List R) (δ : Env') : Option (List Slot) → Res (R × Env')
    | some ss => retK rs δ (F (ss ++ dflt.map fun d => .imm d false))
    | none => .stuck
theorem callK_eq {F : Fn} {n : Nat} {dflt : List D} (h1 : (places rs).Nodup) (h2 : rs.length + dflt.length = n) : callK F n dflt (rs, δ) = callM F dflt rs δ (slotsOf δ rs) := by
  unfold callK
  rw [if_pos (by simp [h1, h2])]
  unfold callM retK retM
  rfl
theorem pl_nodup1 : (places [r]).Nodup := by cases r <;> simp [places]
@[simp] theorem callK_0 {F : Fn} : callK F 0 [] ([], δ) = callM F [] [] δ (slotsOf δ []) := callK_eq (by simp [places]) rfl
@[simp] theorem callK_1 {F : Fn} : callK F 1 [] ([r], δ) = callM F [] [r] δ (slotsOf δ [r]) := callK_eq pl_nodup1 rfl
@[simp] theorem callK_2a {F : Fn} : callK F 2 [] ([.imm d, r], δ) = callM F [] [.imm d, r] δ (slotsOf δ [.imm d, r]) := callK_eq pl_nodup1 rfl
@[simp] theorem callK_2b {F : Fn} : callK F 2 [] ([r, .imm d], δ) = callM F [] [r, .imm d] δ (slotsOf δ [r, .imm d]) := callK_eq (by cases r <;> simp [places]) rfl
@[simp] theorem callM_eq {F : Fn} {ss : List Slot} : callM F [] rs δ (some ss) = retK rs δ (F ss) := by
  show retK rs δ (F (ss ++ [])) = _
  rw [List.append_nil]
@[simp] theorem pl_nil : places [] = [] := rfl
@[simp] theorem pl_pl : places (.pl i :: rs) = i :: places rs := rfl
@[simp] theorem pl_imm : places (.imm d :: rs) = places rs := rfl
def soK (rest : Option (List Slot)) : Option Slot → Option (List Slot)
    | some (.imm d _) => rest.map (.imm d false :: ·)
    | some (.own o _) => rest.map (.own o true :: ·)
    | _ => none
@[simp] theorem so_nil : slotsOf δ [] = some [] := rfl
@[simp] theorem so_imm : slotsOf δ (.imm d :: rs) = (slotsOf δ rs).map (.imm d false :: ·) := rfl
@[simp] theorem so_pl : slotsOf δ (.pl i :: rs) = soK (slotsOf δ rs) δ[i]? := by rw [slotsOf]; unfold soK; rfl
@[simp] theorem soK_imm {m : Option (List Slot)} : soK m (some (.imm d b)) = m.map (.imm d false :: ·) := rfl
@[simp] theorem soK_own {m : Option (List Slot)} : soK m (some (.own o b)) = m.map (.own o true :: ·) := rfl
def baK (i : Nat) (rs : List R) (s : Slot) (ss : List Slot) (δ : Env') : Option Slot → Option Env'
    | some (.own _ b) => (match s with
      | .own o' _ => back rs ss (δ.set i (.own o' b))
      | .imm d _ => back rs ss (δ.set i (.imm d b))
      | .none => none)
    | _ => back rs ss δ
@[simp] theorem ba_nil {ss : List Slot} : back [] ss δ = some δ := rfl
@[simp] theorem ba_imm {s : Slot} {ss : List Slot} : back (.imm d :: rs) (s :: ss) δ = back rs ss δ := rfl
@[simp] theorem ba_pl {s : Slot} {ss : List Slot} : back (.pl i :: rs) (s :: ss) δ = baK i rs s ss δ δ[i]? := by rw [back]; unfold baK; rfl
@[simp] theorem baK_imm {s : Slot} {ss : List Slot} : baK i rs s ss δ (some (.imm d b)) = back rs ss δ := rfl
@[simp] theorem baK_own {o' : O} {b' : Bool} {ss : List Slot} : baK i rs (.own o' b') ss δ (some (.own o b)) = back rs ss (δ.set i (.own o' b)) := rfl
@[simp] theorem baK_frz {b' : Bool} {ss : List Slot} : baK i rs (.imm d b') ss δ (some (.own o b)) = back rs ss (δ.set i (.imm d b)) := rfl
/-! lists changed in place -/
def muM2 (i : Nat) (b : Bool) (δ : Env') : Option (D × List D) → Res (R × Env')
        | some (d, ys) => .ok (.imm d, δ.set i (.own (.lst ys) b))
        | none => .stuck
def muM1 (k : List D → List D → Option (D × List D)) (i : Nat) (a : List D) (δ : Env') : Option Slot → Res (R × Env')
      | some (.own (.lst xs) b) => muM2 i b δ (k xs a)
      | _ => .stuck
def muK2 (k : List D → List D → Option (D × List D)) (i : Nat) (q : List D × Env') : Res (R × Env') := muM1 k i q.1 q.2 q.2[i]?
def muM0 (k : List D → List D → Option (D × List D)) (il : Sem' (List D)) (i : Nat) (δ : Env') : Option Slot → Res (R × Env')
    | some (.own (.lst _) _) => (il δ).bind (muK2 k i)
    | _ => .stuck
def muK (k : List D → List D → Option (D × List D)) (il : Sem' (List D)) (p : R × Env') : Res (R × Env') := match p.1 with
  | .pl i => muM0 k il i p.2 p.2[i]?
  | _ => .stuck
@[simp ↓] theorem ap_mut {k : List D → List D → Option (D × List D)} : vMut k g il δ = (g δ).bind (muK k il) := by unfold vMut; congr 1
@[simp] theorem muK_eq {k : List D → List D → Option (D × List D)} : muK k il (.pl i, δ) = muM0 k il i δ δ[i]? := rfl
@[simp] theorem muM0_eq {k : List D → List D → Option (D × List D)} : muM0 k il i δ (some (.own (.lst ds) b)) = (il δ).bind (muK2 k i) := rfl
@[simp] theorem muK2_eq {k : List D → List D → Option (D × List D)} : muK2 k i (ds, δ) = muM1 k i ds δ δ[i]? := rfl
@[simp] theorem muM1_eq {k : List D → List D → Option (D × List D)} {a : List D} : muM1 k i a δ (some (.own (.lst ds) b)) = muM2 i b δ (k ds a) := rfl
@[simp] theorem muM2_eq : muM2 i b δ (some (d, ds)) = .ok (.imm d, δ.set i (.own (.lst ds) b)) := rfl
def suM2 (i : Nat) (xs : List D) (b : Bool) (d : D) (δ : Env') : Option Nat → Res Env'
        | some j => .ok (δ.set i (.own (.lst (xs.set j d)) b))
        | none => .stuck
def suM1 (i : Nat) (k : Int) (d : D) (δ : Env') : Option Slot → Res Env'
      | some (.own (.lst xs) b) => suM2 i xs b d δ (L2.ixN xs.length k)
      | _ => .stuck
def suK (i : Nat) (d : D) (p : R × Env') : Res Env' := match p.1 with
    | .imm (.int k) => suM1 i k d p.2 p.2[i]?
    | _ => .stuck
def suM0 (i : Nat) (ix : Sem' R) (d : D) (δ : Env') : Option Slot → Res Env'
  | some (.own (.lst _) _) => (ix δ).bind (suK i d)
  | _ => .stuck
@[simp ↓] theorem ap_sub {ix : Sem' R} : vSub i ix d δ = suM0 i ix d δ δ[i]? := by unfold vSub suM0; rfl
@[simp] theorem suM0_eq {ix : Sem' R} : suM0 i ix d δ (some (.own (.lst ds) b)) = (ix δ).bind (suK i d) := rfl
@[simp] theorem suK_eq {k : Int} : suK i d (.imm (.int k), δ) = suM1 i k d δ δ[i]? := rfl
@[simp] theorem suM1_eq {k : Int} : suM1 i k d δ (some (.own (.lst ds) b)) = suM2 i ds b d δ (L2.ixN ds.length k) := rfl
@[simp] theorem suM2_eq : suM2 i ds b d δ (some j) = .ok (δ.set i (.own (.lst (ds.set j d)) b)) := rfl
def siK2 (δ : Env') : Out := .next δ
@[simp] theorem siK2_eq : siK2 δ = .next δ := rfl
def siK (i : Nat) (ix : Sem' R) (p : D × Env') : Out := (vSub i ix p.1 p.2).out siK2
@[simp ↓] theorem ap_setItem {ix : Sem' R} {k : Sem' D} : vSetItem i ix k δ = (k δ).out (siK i ix) := rfl
@[simp] theorem siK_eq {ix : Sem' R} : siK i ix (d, δ) = (vSub i ix d δ).out siK2 := rfl
def s2K2 (j : Nat) (jx : Sem' R) (y : D) (δ : Env') : Out := (vSub j jx y δ).out siK2
def s2K (i : Nat) (ix : Sem' R) (j : Nat) (jx : Sem' R) (p : R × Env') : Out := match p.1 with
  | .imm (.tup [x, y]) => (vSub i ix x p.2).out (s2K2 j jx y)
  | _ => .stuck
@[simp] theorem s2K_eq {ix jx : Sem' R} {x y : D} : s2K i ix j jx (.imm (.tup [x, y]), δ) = (vSub i ix x δ).out (s2K2 j jx y) := rfl
@[simp] theorem s2K2_eq {jx : Sem' R} {y : D} : s2K2 j jx y δ = (vSub j jx y δ).out siK2 := rfl
@[simp ↓] theorem ap_sub2 {ix jx : Sem' R} : vSub2 i ix j jx f δ = (f δ).out (s2K i ix j jx) := by
  unfold vSub2
  congr 1
/-! defs -/
def dfM (δ0 : Env') (i : Nat) (δ' : Env') : Option Slot → FRes
        | some (.own o false) => .ret (.frs o) (outs 0 δ0 (δ'.set i .none))
        | some (.own (.lst ds) true) => .ret (.imm (.lst ds)) (outs 0 δ0 (δ'.set i (.imm (.lst ds) true)))
        | some (.imm d _) => .ret (.imm d) (outs 0 δ0 δ')
        | _ => .stuck
def defR (δ0 : Env') (m : Out) : FRes := match m with
    | .next δ' => .ret (.imm .non) (outs 0 δ0 δ')
    | .ret r δ' => (match r with
      | .imm d => .ret (.imm d) (outs 0 δ0 δ')
      | .frs o => .ret (.frs o) (outs 0 δ0 δ')
      | .pl i => dfM δ0 i δ' δ'[i]?)
    | .raise k => .raise k
    | _ => .stuck
theorem vDef_eq {n N : Nat} {t : SemS} {δ0 : Env'} (h : δ0.length = n) : vDef n N t δ0 = defR δ0 (t (δ0 ++ List.replicate (N - n) .none)) := by
  unfold vDef
  rw [if_pos h]
  unfold defR dfM
  rfl
@[simp ↓] theorem ap_def1 {N : Nat} {t : SemS} {x0 : Slot} : vDef 1 N t [x0] = defR [x0] (t ([x0] ++ List.replicate (N - 1) .none)) := vDef_eq rfl
@[simp ↓] theorem ap_def2 {N : Nat} {t : SemS} {x0 x1 : Slot} : vDef 2 N t [x0, x1] = defR [x0, x1] (t ([x0, x1] ++ List.replicate (N - 2) .none)) := vDef_eq rfl
@[simp ↓] theorem ap_def3 {N : Nat} {t : SemS} {x0 x1 x2 : Slot} : vDef 3 N t [x0, x1, x2] = defR [x0, x1, x2] (t ([x0, x1, x2] ++ List.replicate (N - 3) .none)) := vDef_eq rfl
@[simp ↓] theorem ap_def4 {N : Nat} {t : SemS} {x0 x1 x2 x3 : Slot} : vDef 4 N t [x0, x1, x2, x3] = defR [x0, x1, x2, x3] (t ([x0, x1, x2, x3] ++ List.replicate (N - 4) .none)) := vDef_eq rfl
@[simp ↓] theorem ap_def5 {N : Nat} {t : SemS} {x0 x1 x2 x3 x4 : Slot} : vDef 5 N t [x0, x1, x2, x3, x4] = defR [x0, x1, x2, x3, x4] (t ([x0, x1, x2, x3, x4] ++ List.replicate (N - 5) .none)) := vDef_eq rfl
@[simp ↓] theorem ap_def6 {N : Nat} {t : SemS} {x0 x1 x2 x3 x4 x5 : Slot} : vDef 6 N t [x0, x1, x2, x3, x4, x5] = defR [x0, x1, x2, x3, x4, x5] (t ([x0, x1, x2, x3, x4, x5] ++ List.replicate (N - 6) .none)) := vDef_eq rfl
@[simp] theorem defR_next {δ0 : Env'} : defR δ0 (.next δ) = .ret (.imm .non) (outs 0 δ0 δ) := rfl
@[simp] theorem defR_imm {δ0 : Env'} : defR δ0 (.ret (.imm d) δ) = .ret (.imm d) (outs 0 δ0 δ) := rfl
@[simp] theorem defR_frs {δ0 : Env'} : defR δ0 (.ret (.frs o) δ) = .ret (.frs o) (outs 0 δ0 δ) := rfl
@[simp] theorem defR_pl {δ0 : Env'} : defR δ0 (.ret (.pl i) δ) = dfM δ0 i δ δ[i]? := rfl
@[simp] theorem dfM_own {δ0 : Env'} : dfM δ0 i δ (some (.own o false)) = .ret (.frs o) (outs 0 δ0 (δ.set i .none)) := by cases o <;> rfl
@[simp] theorem dfM_imm {δ0 : Env'} : dfM δ0 i δ (some (.imm d b)) = .ret (.imm d) (outs 0 δ0 δ) := rfl
@[simp] theorem defR_raise {δ0 : Env'} {k : Nat} : defR δ0 (.raise k) = .raise k := rfl
@[simp] theorem outs_nil : outs i [] δ = [] := rfl
@[simp] theorem outs_cons {s : Slot} {ss : List Slot} : outs i (s :: ss) δ = (if pinned s then (δ[i]?).getD .none else .none) :: outs (i + 1) ss δ := rfl
/-! operators -/
@[simp] theorem add_int {a c : Int} : dAdd (.int a) (.int c) = some (.imm (.int (a + c))) := rfl
@[simp] theorem sub_int {a c : Int} : dSub (.int a) (.int c) = some (.imm (.int (a - c))) := rfl
@[simp] theorem neg_int {a : Int} : dNeg (.int a) = some (.imm (.int (-a))) := rfl
@[simp] theorem cmp_int {k : Int → Int → Bool} {a c : Int} : dCmpI k (.int a) (.int c) = some (.imm (.bl (k a c))) := rfl
@[simp] theorem eq_int {a c : Int} : dEqG false (.int a) (.int c) = some (.imm (.bl (decide (a = c)))) := by unfold dEqG; simp
@[simp] theorem ne_int {a c : Int} : dEqG true (.int a) (.int c) = some (.imm (.bl (!decide (a = c)))) := by unfold dEqG; simp
@[simp] theorem eq_str {a c : Str} : dEqG false (.str a) (.str c) = some (.imm (.bl (decide (a = c)))) := by unfold dEqG; simp
@[simp] theorem ne_str {a c : Str} : dEqG true (.str a) (.str c) = some (.imm (.bl (!decide (a = c)))) := by unfold dEqG; simp
@[simp] theorem len_lst : fLen [.lst ds] = some (.imm (.int ds.length)) := rfl
@[simp] theorem len_tup : fLen [.tup ds] = some (.imm (.int ds.length)) := rfl
@[simp] theorem int_bl : fInt [.bl b] = some (.imm (.int (if b then 1 else 0))) := rfl
@[simp] theorem list_lst : fList [.lst ds] = some (.lst ds) := rfl
@[simp] theorem tuple_lst : fTuple [.lst ds] = some (.tup ds) := rfl
@[simp] theorem ix_lst {k : Int} : dIx (.lst ds) (.int k) = (L2.atI ds k).map Ro.imm := rfl
@[simp] theorem ix_tup {k : Int} : dIx (.tup ds) (.int k) = (L2.atI ds k).map Ro.imm := rfl
end
theorem at_nat {α : Type} {xs : List α} {k : Nat} (h : k < xs.length) : L2.atI xs (k : Int) = some xs[k] := by
  unfold L2.atI L2.ixN
  rw [if_pos (by omega), if_pos (by omega)]
  simp
@[simp] theorem at_zero {α : Type} {x : α} {xs : List α} : L2.atI (x :: xs) 0 = some x := at_nat (k := 0) (by simp)
@[simp] theorem at_one {α : Type} {x y : α} {xs : List α} : L2.atI (x :: y :: xs) 1 = some y := at_nat (xs := x :: y :: xs) (k := 1) (by simp)
theorem at_int {α : Type} {xs : List α} {k : Int} (h0 : 0 ≤ k) (h : k < xs.length) : ∃ x, x ∈ xs ∧ L2.atI xs k = some x := by
  obtain ⟨n, rfl⟩ := Int.eq_ofNat_of_zero_le h0
  have h : n < xs.length := by omega
  exact ⟨_, List.getElem_mem h, at_nat h⟩
theorem set_back {δ : Env'} {i : Nat} {s : Slot} (h : δ[i]? = some .none) : (δ.set i s).set i .none = δ := by
  rw [List.set_set]
  apply List.ext_getElem?
  intro j
  by_cases e : i = j
  · subst e
    rw [List.getElem?_set_self (List.getElem?_eq_some_iff.mp h).1, h]
  · rw [List.getElem?_set_ne e]
theorem set_at {δ : Env'} {i : Nat} {s s' : Slot} (h : δ[i]? = some s') : (δ.set i s)[i]? = some s := List.getElem?_set_self (List.getElem?_eq_some_iff.mp h).1
/-- [f(d) for d in ds] -/
theorem lc_map {i : Nat} {e : Sem' D} {f : D → D} {δ : Env'} (hi : δ[i]? = some .none) : ∀ (ds acc : List D), (∀ d ∈ ds, e (δ.set i (.imm d false)) = .ok (f d, δ.set i (.imm d false))) → acc.length + ds.length ≤ 100000 → lcGo (tName i) vYes e [i] ds acc δ = .ok (acc ++ ds.map f, δ)
  | [], acc, _, _ => by simp
  | d :: ds, acc, h, hl => by
    simp only [List.length_cons] at hl
    rw [lcGo_cons]
    simp [hi, h d List.mem_cons_self]
    rw [lcE_eq (by omega) (by simp [set_at hi])]
    simp only [wipe_cons, wipe_nil, set_back hi]
    rw [lc_map hi ds _ (fun x hx => h x (List.mem_cons_of_mem _ hx)) (by simp; omega)]
    simp
/-- .. where f may raise k -/
def mapR (f : D → Option D) : List D → Option (List D)
  | [] => some []
  | d :: ds => match f d with
    | some x => (mapR f ds).map (x :: ·)
    | none => none
def accR (k : Nat) (acc : List D) (δ : Env') : Option (List D) → Res (List D × Env')
  | some ds => .ok (acc ++ ds, δ)
  | none => .raise k
theorem lc_mapR {i k : Nat} {e : Sem' D} {f : D → Option D} {δ : Env'} (hi : δ[i]? = some .none) : ∀ (ds acc : List D), (∀ d ∈ ds, e (δ.set i (.imm d false)) = (match f d with | some x => .ok (x, δ.set i (.imm d false)) | none => .raise k)) → acc.length + ds.length ≤ 100000 → lcGo (tName i) vYes e [i] ds acc δ = accR k acc δ (mapR f ds)
  | [], acc, _, _ => by simp [mapR, accR]
  | d :: ds, acc, h, hl => by
    simp only [List.length_cons] at hl
    rw [lcGo_cons]
    have h0 := h d List.mem_cons_self
    cases hf : f d with
    | none =>
      rw [hf] at h0
      simp [hi, h0, mapR, hf, accR]
    | some x =>
      rw [hf] at h0
      simp [hi, h0]
      rw [lcE_eq (by omega) (by simp [set_at hi])]
      simp only [wipe_cons, wipe_nil, set_back hi]
      rw [lc_mapR (k := k) hi ds _ (fun x hx => h x (List.mem_cons_of_mem _ hx)) (by simp; omega)]
      simp only [mapR, hf]
      cases mapR f ds <;> simp [accR]
/-! data that may be compared -/
structure FinD (k : Nat) (d : D) : Prop where
  a : noA d = true
  c : (toPy d).canLay0 = true
  d : (toPy d).depth ≤ k
theorem FinD.mono {j k : Nat} {d : D} (h : FinD j d) (l : j ≤ k) : FinD k d := ⟨h.a, h.c, Nat.le_trans h.d l⟩
theorem fin_non {k : Nat} : FinD k .non := ⟨rfl, rfl, Nat.zero_le _⟩
theorem fin_bl {k : Nat} {b : Bool} : FinD k (.bl b) := ⟨rfl, rfl, Nat.zero_le _⟩
theorem fin_int {k : Nat} {i : Int} : FinD k (.int i) := ⟨rfl, rfl, Nat.zero_le _⟩
theorem fin_str {k : Nat} {x : Str} (h : PyData.strOk x = true) : FinD k (.str x) := ⟨rfl, by simpa [toPy, PyData.canLay0] using h, Nat.zero_le _⟩
theorem fins {k : Nat} : ∀ {ds : List D}, (∀ d ∈ ds, FinD k d) → noAs ds = true ∧ PyData.canLayAll0 (toPys ds) = true ∧ PyData.depthAll (toPys ds) ≤ k
  | [], _ => ⟨rfl, rfl, Nat.zero_le _⟩
  | d :: ds, h => by
    obtain ⟨h1, h2, h3⟩ := fins (k := k) fun x hx => h x (List.mem_cons_of_mem _ hx)
    have h0 := h d List.mem_cons_self
    refine ⟨by simp [noAs, h0.a, h1], by simp [toPys, PyData.canLayAll0, h0.c, h2], ?_⟩
    simp only [toPys, PyData.depthAll]
    exact Nat.max_le.mpr ⟨h0.d, h3⟩
theorem fin_lst {k : Nat} {ds : List D} (h : ∀ d ∈ ds, FinD k d) : FinD (k + 1) (.lst ds) := by
  obtain ⟨h1, h2, h3⟩ := fins h
  exact ⟨h1, by simpa [toPy, PyData.canLay0] using h2, by simp only [toPy, PyData.depth]; omega⟩
theorem fin_tup {k : Nat} {ds : List D} (h : ∀ d ∈ ds, FinD k d) : FinD (k + 1) (.tup ds) := by
  obtain ⟨h1, h2, h3⟩ := fins h
  exact ⟨h1, by simpa [toPy, PyData.canLay0] using h2, by simp only [toPy, PyData.depth]; omega⟩
theorem FinD.ok {k : Nat} {d : D} (h : FinD k d) (l : k ≤ 64 := by decide) : okD d = true := by
  unfold okD SeqAt.shaped
  rw [h.a, h.c, decide_eq_true (Nat.le_trans h.d l)]
  rfl
theorem FinD.self {k : Nat} {d : D} (h : FinD k d) : eqD d d = true := SeqAt.eqv_refl _ h.c
theorem eq_lst {xs ys : List D} (h1 : okD (.lst xs) = true) (h2 : okD (.lst ys) = true) (neg : Bool) : dEqG neg (.lst xs) (.lst ys) = some (.imm (.bl (eqD (.lst xs) (.lst ys) != neg))) := by
  show (if okD (.lst xs) && okD (.lst ys) then some (Ro.imm (.bl ((eqD (.lst xs) (.lst ys)) != neg))) else none) = _
  rw [h1, h2]
  rfl
theorem eq_tup {xs ys : List D} (h1 : okD (.tup xs) = true) (h2 : okD (.tup ys) = true) (neg : Bool) : dEqG neg (.tup xs) (.tup ys) = some (.imm (.bl (eqD (.tup xs) (.tup ys) != neg))) := by
  show (if okD (.tup xs) && okD (.tup ys) then some (Ro.imm (.bl ((eqD (.tup xs) (.tup ys)) != neg))) else none) = _
  rw [h1, h2]
  rfl
theorem in_lst {d : D} {ds : List D} (hd : d = .non) (h1 : okD d = true) (h2 : okD (.lst ds) = true) (neg : Bool) : dInG neg d (.lst ds) = some (.imm (.bl (((toPys ds).any fun z => PyData.eqv z (toPy d)) != neg))) := by
  subst hd
  show (if okD .non && okD (.lst ds) then some (Ro.imm (.bl (((toPys ds).any fun z => PyData.eqv z (toPy .non)) != neg))) else none) = _
  rw [h1, h2]
  rfl
end VI

set_option Elab.async false
set_option linter.all false
set_option maxRecDepth 100000
set_option maxHeartbeats 4000000
namespace K55
open PySem VI
def cl (w : Str) : List Nat := w.cps.toList
def S (l : List Nat) : Str := ⟨l.toArray⟩
theorem cl_S (l : List Nat) : cl (S l) = l := rfl
theorem S_cl (w : Str) : S (cl w) = w := by
  cases w
  simp [S, cl]
theorem ext {a b : Str} (h : cl a = cl b) : a = b := by rw [← S_cl a, ← S_cl b, h]
theorem len_cl (w : Str) : w.length = (cl w).length := by simp [Str.length, cl]
theorem cut_at (w : Str) (lo hi : Option Int) (a b : Nat) (h1 : HT.sIx (cl w).length 0 lo = a) (h2 : HT.sIx (cl w).length (cl w).length hi = b) : L2.cutS w lo hi = S (((cl w).drop a).take (b - a)) := by
  unfold L2.cutS
  rw [len_cl, h1, h2]
  rfl
theorem cut1 (w : Str) : L2.cutS w none (some 1) = S ((cl w).take 1) := by
  rw [cut_at w none (some 1) 0 (min 1 (cl w).length) rfl (HT.sIx_nat _ _ 1)]
  congr 1
  cases cl w <;> simp
theorem cutk (w : Str) (k : Nat) : L2.cutS w (some (k : Int)) none = S ((cl w).drop k) := by
  rw [cut_at w (some (k : Int)) none (min k (cl w).length) (cl w).length (HT.sIx_nat _ _ k) rfl]
  congr 1
  by_cases h : k ≤ (cl w).length
  · rw [Nat.min_eq_left h, List.take_of_length_le (by simp)]
  · rw [Nat.min_eq_right (by omega), List.drop_of_length_le (by omega), List.drop_of_length_le (by omega)]
    simp
theorem cuts (w : Str) (k : Nat) : L2.cutS w none (some (k : Int)) = S ((cl w).take k) := by
  rw [cut_at w none (some (k : Int)) 0 (min k (cl w).length) rfl (HT.sIx_nat _ _ k)]
  congr 1
  by_cases h : k ≤ (cl w).length
  · simp [Nat.min_eq_left h]
  · rw [Nat.min_eq_right (by omega), List.drop_zero, List.take_of_length_le (by omega), List.take_of_length_le (by omega)]
/-! the loop of made_of -/
def allIn (l z : List Nat) : Bool := l.all fun c => decide (c ∈ z)
theorem notIn_sign (c : Nat) (z : Str) : dInG true (.str ⟨#[c]⟩) (.str z) = some (.imm (.bl (!decide (c ∈ cl z)))) := by
  unfold dInG
  simp [cl]
theorem in_sign (c : Nat) (z : Str) : dInG false (.str ⟨#[c]⟩) (.str z) = some (.imm (.bl (decide (c ∈ cl z)))) := by
  unfold dInG
  simp [cl]
theorem made_of_eq (x z : Str) : F_made_of [.imm (.str x) false, .imm (.str z) false] = .ret (.imm (.bl (allIn (cl x) (cl z)))) [.none, .none] := by
  have go : ∀ (l : List Nat) (s : Slot), s = .none ∨ (∃ d, s = .imm d false) → ∃ s', (forGo (tName 2) (vIfS (vB (vOp dNotIn (vVar 2) (vVar 1))) (vRet (vC (.bl false))) vNext) (l.map fun c => D.str ⟨#[c]⟩) [.imm (.str x) false, .imm (.str z) false, s]) =
      (if allIn l (cl z) then Out.next [.imm (.str x) false, .imm (.str z) false, s'] else .ret (.imm (.bl false)) [.imm (.str x) false, .imm (.str z) false, s']) := by
    intro l
    induction l with
    | nil => exact fun s _ => ⟨s, by simp [allIn]⟩
    | cons c l ih =>
      intro s hs
      have hs' : freeK (some s) = true := by rcases hs with rfl | ⟨d, rfl⟩ <;> rfl
      rw [List.map_cons, forGo_cons]
      by_cases hc : c ∈ cl z
      · obtain ⟨s', e⟩ := ih (.imm (.str ⟨#[c]⟩) false) (.inr ⟨_, rfl⟩)
        refine ⟨s', ?_⟩
        simp [hs', notIn_sign, hc, e]
        simp [allIn, hc]
      · refine ⟨.imm (.str ⟨#[c]⟩) false, ?_⟩
        simp [hs', notIn_sign, hc, allIn]
  obtain ⟨s', e⟩ := go (cl x) .none (.inl rfl)
  unfold F_made_of t_made_of
  have es : signsD x = (cl x).map fun c => D.str ⟨#[c]⟩ := rfl
  simp [es, e]
  cases allIn (cl x) (cl z) <;> simp
end K55

set_option Elab.async false
set_option linter.all false
set_option maxRecDepth 100000
set_option maxHeartbeats 4000000
namespace K55
open PySem VI PySem.NumText
theorem dS (l : List Nat) (z : Str) : decide (S l = z) = decide (l = cl z) := by
  by_cases h : l = cl z
  · subst h
    rw [S_cl]
    simp
  · rw [decide_eq_false h, decide_eq_false fun e => h (by rw [← e, cl_S])]
theorem dW (w z : Str) : decide (w = z) = decide (cl w = cl z) := by
  have := dS (cl w) z
  rw [S_cl] at this
  exact this
theorem cl_minus : cl ("-" : Str) = [45] := by decide +kernel
theorem cl_nil : cl ("" : Str) = [] := by decide +kernel
theorem cl_zero : cl ("0" : Str) = [48] := by decide +kernel
def digs : List Nat := [48, 49, 50, 51, 52, 53, 54, 55, 56, 57]
theorem cl_digs : cl ("0123456789" : Str) = digs := by decide +kernel
def neg (w : Str) : Bool := decide ((cl w).take 1 = [45])
def fg (w : Str) : List Nat := if neg w then (cl w).drop 1 else cl w
def okN (w : Str) : Bool := !decide (fg w = []) && (!decide (9 < (fg w).length) && (allIn (fg w) digs && !(decide ((fg w).take 1 = [48]) && !decide (cl w = [48]))))
def num (w : Str) : Option Int := if okN w then PySem.intText? w else none
/-- short enough -/
def Sh (w : Str) : Prop := (cl w).length ≤ 100000
theorem Sh.size {w : Str} (h : Sh w) : w.length ≤ sizeLine := by
  rw [len_cl]
  exact Nat.le_trans h (by decide)
theorem sl_str {w : Str} (h : Sh w) (lo hi : Option Int) : dSl lo hi (.str w) = some (.imm (.str (L2.cutS w lo hi))) := if_pos h.size
theorem len_str {w : Str} (h : Sh w) : fLen [.str w] = some (.imm (.int (cl w).length)) := (if_pos h.size).trans (by rw [len_cl])
theorem ix_str {w : Str} (h : Sh w) (k : Int) : dIx (.str w) (.int k) = (L2.atI (cl w) k).map fun c => Ro.imm (.str ⟨#[c]⟩) := if_pos h.size
theorem Sh.S {l : List Nat} {w : Str} (h : Sh w) (hl : l.length ≤ (cl w).length) : Sh (K55.S l) := by
  unfold Sh
  rw [cl_S]
  exact Nat.le_trans hl h
theorem fg_le (w : Str) : (fg w).length ≤ (cl w).length := by
  unfold fg
  split <;> simp
theorem digs_all {l : List Nat} (h : allIn l digs = true) : AllDigits l := fun c hc => by
  have z := List.all_eq_true.mp h c hc
  simp [digs] at z
  omega
theorem num_ok {w : Str} (h : okN w = true) : ∃ n, PySem.intText? w = some n ∧ w.length ≤ 640 := by
  unfold okN at h
  simp only [Bool.and_eq_true, Bool.not_eq_true', decide_eq_false_iff_not] at h
  obtain ⟨h1, h2, h3, _⟩ := h
  have hd := digs_all h3
  cases hn : neg w with
  | true =>
    have e : fg w = (cl w).drop 1 := by unfold fg; rw [hn]; rfl
    have e2 : (cl w).take 1 = [45] := by simpa [neg] using hn
    have e3 : cl w = 45 :: fg w := by
      rw [e]
      cases q : cl w with
      | nil => rw [q] at e2; cases e2
      | cons c r => rw [q] at e2; simp at e2; simp [e2]
    have hl : w.length ≤ 640 := by rw [len_cl, e3]; simp; omega
    exact ⟨_, intText_neg e3 hd h1 (by omega), hl⟩
  | false =>
    have e : fg w = cl w := by unfold fg; rw [hn]; rfl
    rw [e] at hd h1 h2
    have hl : w.length ≤ 640 := by rw [len_cl]; omega
    exact ⟨_, intText_digits hd h1 (by omega), hl⟩
theorem one_sign (c : Nat) : (⟨#[c]⟩ : Str) = S [c] := rfl
theorem sl1 {w : Str} (h : Sh w) : dSl none (some 1) (.str w) = some (.imm (.str (S ((cl w).take 1)))) := by rw [sl_str h, cut1]
theorem sl1n {w : Str} (h : Sh w) : dSl (some 1) none (.str w) = some (.imm (.str (S ((cl w).drop 1)))) := by rw [sl_str h]; exact congrArg (fun z => some (Ro.imm (D.str z))) (cutk w 1)
theorem sl0n {w : Str} (h : Sh w) : dSl (some 0) none (.str w) = some (.imm (.str (S (cl w)))) := by rw [sl_str h]; exact congrArg (fun z => some (Ro.imm (D.str z))) (cutk w 0)
theorem int_str {w : Str} {n : Int} (h : PySem.intText? w = some n) (hl : w.length ≤ 640) : fInt [.str w] = some (.imm (.int n)) := by
  show (if w.length ≤ 640 then (PySem.intText? w).map fun n => Ro.imm (.int n) else none) = _
  rw [if_pos hl, h]
  rfl
theorem number_told_eq {w : Str} (h : Sh w) : F_number_told [.imm (.str w) false] = match num w with
    | some n => .ret (.imm (.int n)) [.none]
    | none => .raise 4 := by
  have hS : Sh (S (fg w)) := h.S (fg_le w)
  have key : ∀ b : Bool, F_number_told [.imm (.str w) false] = defR [.imm (.str w) false] ((vSeq (vIfS (vOr (vB (vOp dEq (vVar 1) (vC (.str "")))) (vOr (vB (vOp dGt (vCB fLen (aCons (vVar 1) aNil)) (vC c_MOST_FIGURES))) (vNot (vB (vCall F_made_of 2 [] (aCons (vArg (vVar 1)) (aCons (vArg (vC c_FIGURES)) aNil)))))))
  (vRaise 4)
  vNext)
  (vSeq (vIfS (vAnd (vB (vOp dEq (vOp dIx (vVar 1) (vC (.int 0))) (vC (.str "0")))) (vB (vOp dNe (vVar 0) (vC (.str "0")))))
  (vRaise 4)
  vNext)
  (vRet (vCB fInt (aCons (vVar 0) aNil))))) [.imm (.str w) false, .imm (.str (S (fg w))) false]) := by
    intro _
    unfold F_number_told t_number_told
    cases hn : neg w with
    | true =>
      have e : fg w = (cl w).drop 1 := by unfold fg; rw [hn]; rfl
      have e2 : decide (S ((cl w).take 1) = "-") = true := by rw [dS, cl_minus]; exact hn
      simp [sl1 h, sl1n h, e2, e]
    | false =>
      have e : fg w = cl w := by unfold fg; rw [hn]; rfl
      have e2 : decide (S ((cl w).take 1) = "-") = false := by rw [dS, cl_minus]; exact hn
      simp [sl1 h, sl1n h, e2, e, S_cl]
  rw [key true]
  have e0 : decide (S (fg w) = "") = decide (fg w = []) := by rw [dS, cl_nil]
  have e3 : F_made_of [.imm (.str (S (fg w))) false, .imm c_FIGURES false] = .ret (.imm (.bl (allIn (fg w) digs))) [.none, .none] := by
    show F_made_of [.imm (.str (S (fg w))) false, .imm (.str "0123456789") false] = _
    rw [made_of_eq, cl_S, cl_digs]
  have e9 : c_MOST_FIGURES = .int 9 := rfl
  cases h1 : decide (fg w = []) with
  | true =>
    have hk : num w = none := by unfold num okN; rw [h1]; rfl
    rw [hk]
    simp [e0, h1]
  | false =>
    cases h2 : decide ((9 : Int) < ((fg w).length : Int)) with
    | true =>
      have h2' : decide (9 < (fg w).length) = true := by simp at h2 ⊢; omega
      have hk : num w = none := by unfold num okN; rw [h1, h2']; rfl
      rw [hk]
      simp [e0, h1, len_str hS, cl_S, e9, h2]
    | false =>
      have h2' : decide (9 < (fg w).length) = false := by simp at h2 ⊢; omega
      cases h3 : allIn (fg w) digs with
      | false =>
        have hk : num w = none := by unfold num okN; rw [h1, h2', h3]; rfl
        rw [hk]
        simp [e0, h1, len_str hS, cl_S, e9, h2, e3, h3]
      | true =>
        obtain ⟨c, r, hc⟩ : ∃ c r, fg w = c :: r := by
          cases q : fg w with
          | nil => rw [q] at h1; simp at h1
          | cons c r => exact ⟨c, r, rfl⟩
        have hx : dIx (.str (S (fg w))) (.int 0) = some (.imm (.str (S [c]))) := by
          rw [ix_str hS, cl_S, hc, at_zero]
          rfl
        have hz : decide (S [c] = "0") = decide ((fg w).take 1 = [48]) := by rw [dS, cl_zero, hc]; rfl
        have hw : decide (w = "0") = decide (cl w = [48]) := by rw [dW, cl_zero]
        cases h4 : decide ((fg w).take 1 = [48]) with
        | false =>
          have ho : okN w = true := by unfold okN; rw [h1, h2', h3, h4]; rfl
          obtain ⟨n, hn, hl⟩ := num_ok ho
          have hk : num w = some n := by unfold num; rw [ho]; exact hn
          rw [hk]
          simp [e0, h1, len_str hS, cl_S, e9, h2, e3, h3, hx, hz, h4, int_str hn hl]
        | true =>
          cases h5 : decide (cl w = [48]) with
          | true =>
            have ho : okN w = true := by unfold okN; rw [h1, h2', h3, h4, h5]; rfl
            obtain ⟨n, hn, hl⟩ := num_ok ho
            have hk : num w = some n := by unfold num; rw [ho]; exact hn
            rw [hk]
            simp [e0, h1, len_str hS, cl_S, e9, h2, e3, h3, hx, hz, h4, hw, h5, int_str hn hl]
          | false =>
            have hk : num w = none := by unfold num okN; rw [h1, h2', h3, h4, h5]; rfl
            rw [hk]
            simp [e0, h1, len_str hS, cl_S, e9, h2, e3, h3, hx, hz, h4, hw, h5]
end K55

set_option Elab.async false
set_option linter.all false
set_option maxRecDepth 100000
set_option maxHeartbeats 4000000
namespace K55
open PySem VI PySem.NumText
def sg (c : Nat) : VI.D := .str ⟨#[c]⟩
theorem signs_eq (w : Str) : signsD w = (cl w).map sg := rfl
theorem filt_go (z : Str) (x y : VI.Slot) (cond : Sem' Bool) (hcond : ∀ c : Nat, cond [x, y, .imm (sg c) false] = .ok (decide (c ∈ cl z), [x, y, .imm (sg c) false])) : ∀ (cs : List Nat) (acc : List VI.D), acc.length + cs.length ≤ 100000 →
    lcGo (tName 2) cond (vI (vVarI 2)) [2] (cs.map sg) acc [x, y, .none] = .ok (acc ++ (cs.filter fun c => decide (c ∈ cl z)).map sg, [x, y, .none])
  | [], acc, _ => by simp
  | c :: cs, acc, h => by
    rw [List.map_cons, lcGo_cons]
    simp only [List.length_cons] at h
    by_cases hc : c ∈ cl z
    · have h1 : acc.length < 100000 := by omega
      simp [hcond, hc]
      rw [lcE_eq h1 (by simp)]
      simp
      rw [filt_go z x y cond hcond cs _ (by simp; omega)]
      simp
    · simp [hcond, hc]
      rw [lcC_f (by simp)]
      simp
      exact filt_go z x y cond hcond cs acc (by omega)
theorem filt_len (l z : List Nat) : decide ((((l.filter fun c => decide (c ∈ z)).map sg).length : Int) = (l.length : Int)) = allIn l z := by
  have h : (l.filter fun c => decide (c ∈ z)).length = l.length ↔ ∀ c ∈ l, decide (c ∈ z) = true := by
    rw [← List.countP_eq_length_filter, List.countP_eq_length]
  by_cases h2 : allIn l z = true
  · rw [h2]
    have := h.mpr (List.all_eq_true.mp h2)
    simp [this]
  · rw [Bool.eq_false_iff.mpr h2]
    simp only [List.length_map, decide_eq_false_iff_not]
    intro e
    exact h2 (List.all_eq_true.mpr (h.mp (by omega)))
/-- the law's answer -/
def optD : Option Int → VI.D
  | some n => .int n
  | none => .non
theorem l_number_eq {w : Str} (h : Sh w) : F_l_number [.imm (.str w) false] = .ret (.imm (optD (num w))) [.none] := by
  have hS : Sh (S (fg w)) := h.S (fg_le w)
  have e0 : decide (S (fg w) = "") = decide (fg w = []) := by rw [dS, cl_nil]
  have key : ∀ b : Bool, F_l_number [.imm (.str w) false] = defR [.imm (.str w) false] ((vSeq (vIfS (vOr (vB (vOp dEq (vVar 1) (vC (.str "")))) (vB (vOp dGt (vCB fLen (aCons (vVar 1) aNil)) (vC (.int 9)))))
  (vRet (vC .non))
  vNext)
  (vSeq (vIfS (vB (vOp dNe (vCB fLen (aCons (vLc (vIt (vVar 1)) (tName 2) (vB (vOp dIn (vVarI 2) (vC (.str "0123456789")))) (vI (vVarI 2)) [2]) aNil)) (vCB fLen (aCons (vVar 1) aNil))))
  (vRet (vC .non))
  vNext)
  (vSeq (vIfS (vAnd (vB (vOp dEq (vOp dIx (vVar 1) (vC (.int 0))) (vC (.str "0")))) (vB (vOp dNe (vVar 0) (vC (.str "0")))))
  (vRet (vC .non))
  vNext)
  (vRet (vCB fInt (aCons (vVar 0) aNil)))))) [.imm (.str w) false, .imm (.str (S (fg w))) false, .none]) := by
    intro _
    unfold F_l_number t_l_number
    cases hn : neg w with
    | true =>
      have e : fg w = (cl w).drop 1 := by unfold fg; rw [hn]; rfl
      have e2 : decide (S ((cl w).take 1) = "-") = true := by rw [dS, cl_minus]; exact hn
      simp [sl1 h, sl1n h, e2, e]
    | false =>
      have e : fg w = cl w := by unfold fg; rw [hn]; rfl
      have e2 : decide (S ((cl w).take 1) = "-") = false := by rw [dS, cl_minus]; exact hn
      simp [sl1 h, sl0n h, e2, e]
  rw [key true]
  have hcond : ∀ c : Nat, (vB (vOp dIn (vVarI 2) (vC (.str "0123456789")))) [.imm (.str w) false, .imm (.str (S (fg w))) false, .imm (sg c) false] = .ok (decide (c ∈ cl "0123456789"), [.imm (.str w) false, .imm (.str (S (fg w))) false, .imm (sg c) false]) := fun c => by
    simp [sg, in_sign]
  have hlc := filt_go "0123456789" (.imm (.str w) false) (.imm (.str (S (fg w))) false) _ hcond (fg w) [] (by have := hS; unfold Sh at this; rw [cl_S] at this; simpa using this)
  have hlen := filt_len (fg w) (cl "0123456789")
  rw [cl_digs] at hlc hlen
  have hall : (vLc (vIt (vVar 1)) (tName 2) (vB (vOp dIn (vVarI 2) (vC (.str "0123456789")))) (vI (vVarI 2)) [2]) [.imm (.str w) false, .imm (.str (S (fg w))) false, .none] = .ok (.frs (.lst (((fg w).filter fun c => decide (c ∈ digs)).map sg)), [.imm (.str w) false, .imm (.str (S (fg w))) false, .none]) := by
    simp [signs_eq, cl_S]
    rw [lcK_eq (by simp)]
    simp
    rw [hlc]
    simp
  cases h1 : decide (fg w = []) with
  | true =>
    have hk : num w = none := by unfold num okN; rw [h1]; rfl
    rw [hk]
    simp [e0, h1, optD]
  | false =>
    cases h2 : decide ((9 : Int) < ((fg w).length : Int)) with
    | true =>
      have h2' : decide (9 < (fg w).length) = true := by simp at h2 ⊢; omega
      have hk : num w = none := by unfold num okN; rw [h1, h2']; rfl
      rw [hk]
      simp [e0, h1, len_str hS, cl_S, h2, optD]
    | false =>
      have h2' : decide (9 < (fg w).length) = false := by simp at h2 ⊢; omega
      cases h3 : allIn (fg w) digs with
      | false =>
        have hk : num w = none := by unfold num okN; rw [h1, h2', h3]; rfl
        rw [hk]
        rw [h3] at hlen
        simp only [List.length_map] at hlen
        simp [-ap_lc, e0, h1, len_str hS, cl_S, h2, hall, hlen, optD]
      | true =>
        rw [h3] at hlen
        simp only [List.length_map] at hlen
        obtain ⟨c, r, hc⟩ : ∃ c r, fg w = c :: r := by
          cases q : fg w with
          | nil => rw [q] at h1; simp at h1
          | cons c r => exact ⟨c, r, rfl⟩
        have hx : dIx (.str (S (fg w))) (.int 0) = some (.imm (.str (S [c]))) := by
          rw [ix_str hS, cl_S, hc, at_zero]
          rfl
        have hz : decide (S [c] = "0") = decide ((fg w).take 1 = [48]) := by rw [dS, cl_zero, hc]; rfl
        have hw : decide (w = "0") = decide (cl w = [48]) := by rw [dW, cl_zero]
        cases h4 : decide ((fg w).take 1 = [48]) with
        | false =>
          have ho : okN w = true := by unfold okN; rw [h1, h2', h3, h4]; rfl
          obtain ⟨n, hn, hl⟩ := num_ok ho
          have hk : num w = some n := by unfold num; rw [ho]; exact hn
          rw [hk]
          simp [-ap_lc, e0, h1, len_str hS, cl_S, h2, hall, hlen, hx, hz, h4, int_str hn hl, optD]
        | true =>
          cases h5 : decide (cl w = [48]) with
          | true =>
            have ho : okN w = true := by unfold okN; rw [h1, h2', h3, h4, h5]; rfl
            obtain ⟨n, hn, hl⟩ := num_ok ho
            have hk : num w = some n := by unfold num; rw [ho]; exact hn
            rw [hk]
            simp [-ap_lc, e0, h1, len_str hS, cl_S, h2, hall, hlen, hx, hz, h4, hw, h5, int_str hn hl, optD]
          | false =>
            have hk : num w = none := by unfold num okN; rw [h1, h2', h3, h4, h5]; rfl
            rw [hk]
            simp [-ap_lc, e0, h1, len_str hS, cl_S, h2, hall, hlen, hx, hz, h4, hw, h5, optD]
end K55

set_option Elab.async false
set_option linter.all false
set_option maxRecDepth 100000
set_option maxHeartbeats 4000000
namespace K55
open PySem VI PySem.NumText
def WS : Str := "abcdefghijklmnopqrstuvwxyzABCDEFGHIJKLMNOPQRSTUVWXYZ0123456789.,-;:'()!?"
def isW (w : Str) : Bool := decide ((1 : Int) ≤ ((cl w).length : Int)) && (decide (((cl w).length : Int) ≤ 20) && allIn (cl w) (cl WS))
theorem is_word_eq {w : Str} (h : Sh w) : F_is_word [.imm (.str w) false] = .ret (.imm (.bl (isW w))) [.none] := by
  have e3 : F_made_of [.imm (.str w) false, .imm c_WORD_SIGNS false] = .ret (.imm (.bl (allIn (cl w) (cl WS)))) [.none, .none] := made_of_eq w WS
  have e9 : c_MOST_SIGNS = .int 20 := rfl
  unfold F_is_word t_is_word isW
  cases h1 : decide ((1 : Int) ≤ ((cl w).length : Int)) <;> cases h2 : decide (((cl w).length : Int) ≤ 20) <;> simp [len_str h, e9, h1, h2, e3]
theorem l_is_word_eq {w : Str} (h : Sh w) : F_l_is_word [.imm (.str w) false] = .ret (.imm (.bl (isW w))) [.none] := by
  have hcond : ∀ c : Nat, (vB (vOp dIn (vVarI 2) (vVar 1))) [.imm (.str w) false, .imm (.str WS) false, .imm (sg c) false] = .ok (decide (c ∈ cl WS), [.imm (.str w) false, .imm (.str WS) false, .imm (sg c) false]) := fun c => by
    simp [sg, in_sign]
  have hlc := filt_go WS (.imm (.str w) false) (.imm (.str WS) false) _ hcond (cl w) [] (by have := h; unfold Sh at this; simpa using this)
  have hlen := filt_len (cl w) (cl WS)
  simp only [List.length_map] at hlen
  have hall : (vLc (vIt (vVar 0)) (tName 2) (vB (vOp dIn (vVarI 2) (vVar 1))) (vI (vVarI 2)) [2]) [.imm (.str w) false, .imm (.str WS) false, .none] = .ok (.frs (.lst (((cl w).filter fun c => decide (c ∈ cl WS)).map sg)), [.imm (.str w) false, .imm (.str WS) false, .none]) := by
    simp [signs_eq]
    rw [lcK_eq (by simp)]
    simp
    rw [hlc]
    simp
  unfold F_l_is_word t_l_is_word isW
  rw [show (D.str "abcdefghijklmnopqrstuvwxyzABCDEFGHIJKLMNOPQRSTUVWXYZ0123456789.,-;:'()!?") = D.str WS from rfl]
  cases h1 : decide ((1 : Int) ≤ ((cl w).length : Int)) <;> cases h2 : decide (((cl w).length : Int) ≤ 20) <;> simp [-ap_lc, len_str h, h1, h2, hall, hlen]
/-- all are numbers -/
def numD : VI.D → Option VI.D
  | .str w => (num w).map .int
  | _ => none
def mapN (ws : List Str) : Option (List VI.D) := mapR numD (ws.map .str)
def ShL (ws : List Str) : Prop := (∀ w ∈ ws, Sh w) ∧ ws.length ≤ 100000
theorem numbers_told_eq {ws : List Str} (h : ShL ws) (m : Int) : F_numbers_told [.imm (.lst (ws.map .str)) false, .imm (.int m) false] = if (ws.length : Int) = m then (match mapN ws with
    | some ns => .ret (.frs (.lst ns)) [.none, .none]
    | none => .raise 4) else .raise 4 := by
  have he : ∀ d ∈ ws.map VI.D.str, (vI (vCall F_number_told 1 [] (aCons (vArg (vVarI 2)) aNil))) (([.imm (.lst (ws.map .str)) false, .imm (.int m) false, .none] : Env').set 2 (.imm d false)) = (match numD d with
      | some x => .ok (x, ([.imm (.lst (ws.map .str)) false, .imm (.int m) false, .none] : Env').set 2 (.imm d false))
      | none => .raise 4) := fun d hd => by
    obtain ⟨w, hw, rfl⟩ := List.mem_map.mp hd
    simp [number_told_eq (h.1 w hw), numD]
    cases num w <;> simp
  have hlc := lc_mapR (δ := [.imm (.lst (ws.map .str)) false, .imm (.int m) false, .none]) (i := 2) rfl (ws.map .str) [] he (by simpa using h.2)
  unfold F_numbers_told t_numbers_told
  by_cases hm : (ws.length : Int) = m
  · rw [if_pos hm]
    simp [hm]
    rw [lcKX_eq (by simp)]
    simp
    rw [hlc]
    unfold mapN
    cases mapR numD (ws.map .str) <;> simp [accR]
  · rw [if_neg hm]
    simp [hm]
end K55

set_option Elab.async false
set_option linter.all false
set_option maxRecDepth 100000
set_option maxHeartbeats 4000000
namespace K55
open PySem VI PySem.NumText
def SP : Str := " "
theorem cl_SP : cl SP = [32] := by decide +kernel
def parts (w : Str) : List Str := Txt.split w SP
theorem parts_cl (w : Str) : (parts w).map cl = TL.spl [32] 0 [] (cl w) := by
  have h := TL.split_spl w SP (by show cl SP ≠ []; rw [cl_SP]; simp) (TL.kind_ok (by decide +kernel))
  have e : TL.tl SP = [32] := cl_SP
  rw [e] at h
  exact h
theorem spl_cons (acc : List Nat) (c : Nat) (r : List Nat) : TL.spl [32] 0 acc (c :: r) = if TL.pre [32] (c :: r) = true then acc :: TL.spl [32] 0 [] r else TL.spl [32] 0 (acc ++ [c]) r := rfl
/-- lengths of parts and signs of them -/
theorem spl_facts : ∀ (l acc : List Nat), TL.spl [32] 0 acc l ≠ [] ∧ ((TL.spl [32] 0 acc l).map List.length).sum + (TL.spl [32] 0 acc l).length ≤ acc.length + l.length + 1 ∧ ∀ p ∈ TL.spl [32] 0 acc l, ∀ c ∈ p, c ∈ acc ∨ c ∈ l
  | [], acc => by
    rw [TL.spl_nil]
    refine ⟨by simp, by simp, fun p hp c hc => ?_⟩
    simp at hp
    subst hp
    exact .inl hc
  | c :: r, acc => by
    rw [spl_cons]
    split
    · obtain ⟨h1, h2, h3⟩ := spl_facts r []
      refine ⟨by simp, ?_, fun p hp x hx => ?_⟩
      · simp only [List.map_cons, List.sum_cons, List.length_cons, List.length_nil] at h2 ⊢
        omega
      · rcases List.mem_cons.mp hp with rfl | hp
        · exact .inl hx
        · rcases h3 p hp x hx with h | h
          · cases h
          · exact .inr (List.mem_cons_of_mem _ h)
    · obtain ⟨h1, h2, h3⟩ := spl_facts r (acc ++ [c])
      refine ⟨h1, ?_, fun p hp x hx => ?_⟩
      · simp only [List.length_append, List.length_cons, List.length_nil] at h2 ⊢
        omega
      · rcases h3 p hp x hx with h | h
        · rcases List.mem_append.mp h with h | h
          · exact .inl h
          · exact .inr (by simp at h; simp [h])
        · exact .inr (List.mem_cons_of_mem _ h)
/-- a row that is not too long -/
def Rw (w : Str) : Prop := (cl w).length ≤ 50000
theorem sum_le {l : List Nat} {x : Nat} (h : x ∈ l) : x ≤ l.sum := by
  induction l with
  | nil => cases h
  | cons y l ih =>
    rcases List.mem_cons.mp h with rfl | h
    · simp
    · have := ih h
      simp
      omega
theorem parts_sum (w : Str) : ((parts w).map fun p => (cl p).length).sum + (parts w).length ≤ (cl w).length + 1 := by
  have h := (spl_facts (cl w) []).2.1
  rw [← parts_cl] at h
  simp only [List.map_map, List.length_map, List.length_nil] at h
  have e : (List.length ∘ cl) = fun p => (cl p).length := rfl
  rw [e] at h
  omega
theorem parts_mem {w p : Str} (h : p ∈ parts w) : ∀ c ∈ cl p, c ∈ cl w := fun c hc => by
  have h3 := (spl_facts (cl w) []).2.2
  rw [← parts_cl] at h3
  rcases h3 (cl p) (List.mem_map.mpr ⟨p, h, rfl⟩) c hc with h | h
  · cases h
  · exact h
theorem parts_ne (w : Str) : ∃ p ps, parts w = p :: ps := by
  have h := (spl_facts (cl w) []).1
  rw [← parts_cl] at h
  cases e : parts w with
  | nil => rw [e] at h; exact absurd rfl h
  | cons p ps => exact ⟨p, ps, rfl⟩
theorem parts_sh {w : Str} (h : Rw w) : ShL (parts w) := by
  have hs := parts_sum w
  unfold Rw at h
  refine ⟨fun p hp => ?_, by omega⟩
  have := sum_le (List.mem_map.mpr ⟨p, hp, rfl⟩ : (cl p).length ∈ (parts w).map fun p => (cl p).length)
  unfold Sh
  omega
theorem split_row {w : Str} (h : Rw w) : fSplit w (.str " ") = some (.lst ((parts w).map .str)) := by
  have e : (!(SP.length == 0) && decide (w.length + 2 ≤ sizeLine)) = true := by
    have h1 : (SP.length == 0) = false := by decide +kernel
    have h2 : w.length + 2 ≤ sizeLine := by
      rw [len_cl]
      unfold Rw at h
      exact Nat.le_trans (show (cl w).length + 2 ≤ 50002 by omega) (by decide)
    rw [h1, decide_eq_true h2]
    rfl
  exact if_pos e
theorem ShL.sub {ws vs : List Str} (h : ShL ws) (hs : ∀ v ∈ vs, v ∈ ws) (hl : vs.length ≤ ws.length) : ShL vs := ⟨fun v hv => h.1 v (hs v hv), Nat.le_trans hl h.2⟩
theorem cutD_at (xs : List VI.D) (lo hi : Option Int) (a b : Nat) (h1 : HT.sIx xs.length 0 lo = a) (h2 : HT.sIx xs.length xs.length hi = b) : cutD xs lo hi = (xs.drop a).take (b - a) := by
  unfold cutD
  rw [h1, h2]
theorem sl_from (ds : List VI.D) (k : Nat) : dSl (some (k : Int)) none (.lst ds) = some (.lst (ds.drop k)) := by
  show some (Ro.lst (cutD ds (some (k : Int)) none)) = _
  rw [cutD_at ds _ _ (min k ds.length) ds.length (HT.sIx_nat _ _ k) rfl]
  by_cases h : k ≤ ds.length
  · rw [Nat.min_eq_left h, List.take_of_length_le (by simp)]
  · rw [Nat.min_eq_right (by omega), List.drop_of_length_le (by omega), List.drop_of_length_le (by omega)]
    simp
theorem sl_from1 (d : VI.D) (ds : List VI.D) : dSl (some 1) none (.lst (d :: ds)) = some (.lst ds) := sl_from (d :: ds) 1
theorem sl_mid (d : VI.D) (ds : List VI.D) : dSl (some 1) (some (-1)) (.lst (d :: ds)) = some (.lst ds.dropLast) := by
  show some (Ro.lst (cutD (d :: ds) (some ((1 : Nat) : Int)) (some (-1)))) = _
  have e : HT.sIx (d :: ds).length (d :: ds).length (some (-1)) = ds.length := by
    unfold HT.sIx
    simp
    omega
  rw [cutD_at (d :: ds) _ _ (min 1 (d :: ds).length) ds.length (HT.sIx_nat _ _ 1) e]
  have e1 : min 1 (d :: ds).length = 1 := by simp
  rw [e1, List.drop_one, List.tail_cons, List.dropLast_eq_take]
theorem sl_six (d : VI.D) (ds : List VI.D) : dSl (some 1) (some 6) (.lst (d :: ds)) = some (.lst (ds.take 5)) := by
  show some (Ro.lst (cutD (d :: ds) (some ((1 : Nat) : Int)) (some ((6 : Nat) : Int)))) = _
  rw [cutD_at (d :: ds) _ _ (min 1 (d :: ds).length) (min 6 (d :: ds).length) (HT.sIx_nat _ _ 1) (HT.sIx_nat _ _ 6)]
  have e1 : min 1 (d :: ds).length = 1 := by simp
  rw [e1, List.drop_one, List.tail_cons]
  simp only [List.length_cons]
  by_cases h : 5 ≤ ds.length
  · rw [Nat.min_eq_left (by omega)]
  · rw [Nat.min_eq_right (by omega), List.take_of_length_le (by omega), List.take_of_length_le (by omega)]
theorem at_last {α : Type} (x : α) (xs : List α) : L2.atI (x :: xs) (-1) = some ((x :: xs).getLast (by simp)) := by
  unfold L2.atI L2.ixN
  have h1 : (-((x :: xs).length : Int)) ≤ -1 := by simp only [List.length_cons]; omega
  have h2 : (-1 + ((x :: xs).length : Int)).toNat = xs.length := by simp only [List.length_cons]; omega
  rw [if_neg (by omega), if_pos h1, h2]
  show (x :: xs)[xs.length]? = _
  rw [List.getLast_eq_getElem, List.getElem?_eq_getElem (by simp)]
  simp
end K55

set_option Elab.async false
set_option linter.all false
set_option maxRecDepth 100000
set_option maxHeartbeats 8000000
namespace K55
open PySem VI PySem.NumText
def rd_body : SemS := (vSeq (vAsg 6 (vM1 fSplit (vVar 5) (vC (.str " "))))
  (vIfS (vB (vOp dEq (vOp dIx (vVar 6) (vC (.int 0))) (vC (.str "leaf"))))
  (vSeq (vDrop (vCall F_read_leaf 2 [] (aCons (vArg (vVar 6)) (aCons (vArg (vVar 1)) aNil))))
  (vSeq (vAug 1 (fun i j => i + j) (vC (.int 1)))
  (vAsg 4 (vC (.bl true)))))
  (vIfS (vAnd (vB (vOp dEq (vOp dIx (vVar 6) (vC (.int 0))) (vC (.str "box")))) (vB (vVar 4)))
  (vSeq (vUnp [7, 8, 9, 10, 11] (vCall F_numbers_told 2 [] (aCons (vArg (vSl (vVar 6) (oSome (vC (.int 1))) oNone)) (aCons (vArg (vC (.int 5))) aNil))))
  (vDrop (vMut fAppend (vVar 3) (iCons (vI (vTup (iCons (vI (vOp dSub (vVar 1) (vC (.int 1)))) (iCons (vI (vVar 7)) (iCons (vI (vVar 8)) (iCons (vI (vVar 9)) (iCons (vI (vVar 10)) (iCons (vI (vVar 11)) iNil)))))))) iNil))))
  (vIfS (vAnd (vB (vOp dEq (vOp dIx (vVar 6) (vC (.int 0))) (vC (.str "word")))) (vAnd (vB (vOp dGt (vVar 1) (vC (.int 0)))) (vB (vCall F_is_word 1 [] (aCons (vArg (vOp dIx (vVar 6) (vUn dNeg (vC (.int 1))))) aNil)))))
  (vSeq (vUnp [12, 13, 14, 11, 15] (vCall F_numbers_told 2 [] (aCons (vArg (vSl (vVar 6) (oSome (vC (.int 1))) (oSome (vUn dNeg (vC (.int 1)))))) (aCons (vArg (vC (.int 5))) aNil))))
  (vSeq (vDrop (vMut fAppend (vVar 2) (iCons (vI (vTup (iCons (vI (vOp dSub (vVar 1) (vC (.int 1)))) (iCons (vI (vVar 12)) (iCons (vI (vVar 13)) (iCons (vI (vVar 11)) (iCons (vI (vVar 15)) (iCons (vI (vOp dIx (vVar 6) (vUn dNeg (vC (.int 1))))) (iCons (vI (vVar 14)) iNil))))))))) iNil)))
  (vAsg 4 (vC (.bl false)))))
  (vRaise 4)))))
/-- the words that are a leaf's number -/
def leafOk (m : Int) : List Str → Bool
  | [w] => decide (num w = some m)
  | _ => false
theorem canI (n : Int) : okD (.lst [.int n]) = true := by rfl
theorem ne_one (n m : Int) : dEqG true (.lst [.int n]) (.lst [.int m]) = some (.imm (.bl (!decide (n = m)))) := by
  show (if okD (.lst [.int n]) && okD (.lst [.int m]) then some (Ro.imm (.bl ((eqD (.lst [.int n]) (.lst [.int m])) != true))) else none) = _
  rw [canI, canI]
  have e : eqD (.lst [.int n]) (.lst [.int m]) = decide (n = m) := by
    unfold eqD
    simp [toPy, toPys, PyData.eqv, PyData.eqvAll]
    try (by_cases h : n = m <;> simp [h])
  rw [e]
  cases decide (n = m) <;> rfl
theorem read_leaf_eq {p : Str} {ps : List Str} (h : ShL (p :: ps)) (m : Int) : F_read_leaf [.own (.lst ((p :: ps).map .str)) true, .imm (.int m) false] = if leafOk m ps then .ret (.imm .non) [.own (.lst ((p :: ps).map .str)) true, .none] else .raise 4 := by
  have hps : ShL ps := h.sub (fun v hv => List.mem_cons_of_mem _ hv) (by simp)
  have hn := numbers_told_eq hps 1
  unfold F_read_leaf t_read_leaf
  match ps, hps, hn with
  | [], hps, hn =>
    simp at hn
    simp [sl_from1, hn, leafOk]
  | [w], hps, hn =>
    have e : mapN [w] = (num w).map fun n => [.int n] := by
      unfold mapN
      simp [mapR, numD]
      cases num w <;> rfl
    rw [e] at hn
    simp at hn
    cases hw : num w with
    | none =>
      rw [hw] at hn
      simp at hn
      simp [sl_from1, hn, leafOk, hw]
    | some n =>
      rw [hw] at hn
      simp at hn
      by_cases hm : n = m
      · subst hm
        simp [sl_from1, hn, leafOk, hw, lstK_eq, ne_one]
      · simp [sl_from1, hn, leafOk, hw, lstK_eq, ne_one, hm]
  | w :: w2 :: r, hps, hn =>
    have e : ¬ (((w :: w2 :: r).length : Int) = 1) := by simp; omega
    rw [if_neg e] at hn
    simp at hn
    simp [sl_from1, hn, leafOk]
end K55

set_option Elab.async false
set_option linter.all false
set_option maxRecDepth 100000
set_option maxHeartbeats 8000000
namespace K55
open PySem VI PySem.NumText
/-- five numbers -/
def five (ps : List Str) : Option (VI.D × VI.D × VI.D × VI.D × VI.D) := if ps.length = 5 then (match mapN ps with
  | some [a, b, c, d, e] => some (a, b, c, d, e)
  | _ => none) else none
structure Lv where
  m : Int
  ws : List VI.D
  bs : List VI.D
  bd : Bool
def stepR (s : Lv) (p : Str) (ps : List Str) : Option Lv :=
  if p = "leaf" then (if leafOk s.m ps then some ⟨s.m + 1, s.ws, s.bs, true⟩ else none)
  else if p = "box" ∧ s.bd = true then (match five ps with
    | some (a, b, c, d, e) => some ⟨s.m, s.ws, s.bs ++ [.tup [.int (s.m - 1), a, b, c, d, e]], true⟩
    | none => none)
  else if p = "word" ∧ 0 < s.m ∧ isW ((p :: ps).getLast (by simp)) = true then (match five ps.dropLast with
    | some (a, b, c, d, e) => some ⟨s.m, s.ws ++ [.tup [.int (s.m - 1), a, b, d, e, .str ((p :: ps).getLast (by simp)), c]], s.bs, false⟩
    | none => none)
  else none
def Gt (n : Nat) (t : List VI.Slot) : Prop := t.length = n ∧ ∀ s ∈ t, pinned s = false
def envR (r0 : VI.Slot) (s : Lv) (t : List VI.Slot) : Env' := [r0, .imm (.int s.m) false, .own (.lst s.ws) false, .own (.lst s.bs) false, .imm (.bl s.bd) false] ++ t
def outR (r0 : VI.Slot) (t : List VI.Slot) : Option Lv → Out
  | some s => .next (envR r0 s t)
  | none => .raise 4
theorem mapR_len {f : VI.D → Option VI.D} : ∀ {ds ns : List VI.D}, mapR f ds = some ns → ns.length = ds.length
  | [], _, e => by cases e; rfl
  | d :: ds, ns, e => by
    unfold mapR at e
    cases h : f d with
    | none => rw [h] at e; cases e
    | some x =>
      rw [h] at e
      simp only [Option.map_eq_some_iff] at e
      obtain ⟨t, e1, rfl⟩ := e
      simp [mapR_len e1]
theorem five_cases {ps : List Str} (h : ShL ps) : (∃ a b c d e, five ps = some (a, b, c, d, e) ∧ F_numbers_told [.imm (.lst (ps.map .str)) false, .imm (.int 5) false] = .ret (.frs (.lst [a, b, c, d, e])) [.none, .none]) ∨
    (five ps = none ∧ F_numbers_told [.imm (.lst (ps.map .str)) false, .imm (.int 5) false] = .raise 4) := by
  have hn := numbers_told_eq h 5
  unfold five
  by_cases hl : ps.length = 5
  · have hl' : (ps.length : Int) = 5 := by omega
    rw [if_pos hl'] at hn
    rw [if_pos hl]
    cases hm : mapN ps with
    | none =>
      rw [hm] at hn
      exact .inr ⟨rfl, hn⟩
    | some ns =>
      have e : ns.length = 5 := by
        have := mapR_len hm
        simpa [hl] using this
      rw [hm] at hn
      match ns, e with
      | [a, b, c, d, e], _ => exact .inl ⟨a, b, c, d, e, rfl, hn⟩
  · have hl' : ¬ (ps.length : Int) = 5 := by omega
    rw [if_neg hl'] at hn
    rw [if_neg hl]
    exact .inr ⟨rfl, hn⟩
theorem Gt.cases {n : Nat} {t : List VI.Slot} (h : Gt (n + 1) t) : ∃ s r, t = s :: r ∧ pinned s = false ∧ Gt n r := by
  obtain ⟨hl, hp⟩ := h
  cases t with
  | nil => cases hl
  | cons s r => exact ⟨s, r, rfl, hp s List.mem_cons_self, by simpa using hl, fun x hx => hp x (List.mem_cons_of_mem _ hx)⟩
theorem Gt.nil {t : List VI.Slot} (h : Gt 0 t) : t = [] := List.eq_nil_of_length_eq_zero h.1
theorem freeK_of {s : VI.Slot} (h : pinned s = false) : freeK (some s) = true := by
  show (!pinned s) = true
  rw [h]
  rfl
theorem app_ok {xs : List VI.D} {d : VI.D} (h : xs.length < 100000) : fAppend xs [d] = some (.non, xs ++ [d]) := if_pos (Nat.lt_of_lt_of_le h (by decide))
theorem box_leaf : ¬ (("box" : Str) = "leaf") := by decide +kernel
theorem word_leaf : ¬ (("word" : Str) = "leaf") := by decide +kernel
theorem word_box : ¬ (("word" : Str) = "box") := by decide +kernel
theorem at_lastS (p : Str) (ps : List Str) : L2.atI (VI.D.str p :: ps.map .str) (-1) = some (.str ((p :: ps).getLast (by simp))) := by
  rw [at_last]
  have e : (VI.D.str p :: ps.map .str) = (p :: ps).map .str := rfl
  simp only [e, List.getLast_map]
theorem sl_midS (p : Str) (ps : List Str) : dSl (some 1) (some (-1)) (.lst (VI.D.str p :: ps.map .str)) = some (.lst (ps.dropLast.map .str)) := by
  rw [sl_mid, List.map_dropLast]
theorem step_R {r0 : VI.Slot} {s : Lv} {row : Str} {t : List VI.Slot} (hr : Rw row) (ht : Gt 11 t) (h1 : s.ws.length < 100000) (h2 : s.bs.length < 100000) {p : Str} {ps : List Str} (hp : parts row = p :: ps) :
    ∃ t', Gt 11 t' ∧ rd_body ((envR r0 s t).set 5 (.imm (.str row) false)) = outR r0 t' (stepR s p ps) := by
  obtain ⟨s5, t, rfl, g5, ht⟩ := ht.cases
  obtain ⟨s6, t, rfl, g6, ht⟩ := ht.cases
  obtain ⟨s7, t, rfl, g7, ht⟩ := ht.cases
  obtain ⟨s8, t, rfl, g8, ht⟩ := ht.cases
  obtain ⟨s9, t, rfl, g9, ht⟩ := ht.cases
  obtain ⟨s10, t, rfl, g10, ht⟩ := ht.cases
  obtain ⟨s11, t, rfl, g11, ht⟩ := ht.cases
  obtain ⟨s12, t, rfl, g12, ht⟩ := ht.cases
  obtain ⟨s13, t, rfl, g13, ht⟩ := ht.cases
  obtain ⟨s14, t, rfl, g14, ht⟩ := ht.cases
  obtain ⟨s15, t, rfl, g15, ht⟩ := ht.cases
  cases ht.nil
  have f6 := freeK_of g6
  have f7 := freeK_of g7
  have f8 := freeK_of g8
  have f9 := freeK_of g9
  have f10 := freeK_of g10
  have f11 := freeK_of g11
  have f12 := freeK_of g12
  have f13 := freeK_of g13
  have f14 := freeK_of g14
  have f15 := freeK_of g15
  have hsh := parts_sh hr
  rw [hp] at hsh
  have hps : ShL ps := hsh.sub (fun v hv => List.mem_cons_of_mem _ hv) (by simp)
  have hsplit : fSplit row (.str " ") = some (.lst (.str p :: ps.map .str)) := by
    have := split_row hr
    rw [hp] at this
    exact this
  have hleaf := read_leaf_eq hsh s.m
  rw [List.map_cons] at hleaf
  obtain ⟨m, ws, bs, bd⟩ := s
  dsimp only at hleaf h1 h2
  by_cases e1 : p = "leaf"
  · subst e1
    cases hl : leafOk m ps with
    | true =>
      rw [hl] at hleaf
      refine ⟨[.imm (.str row) false, .own (.lst (.str "leaf" :: ps.map .str)) false, s7, s8, s9, s10, s11, s12, s13, s14, s15], ⟨rfl, by simp [*]⟩, ?_⟩
      simp [rd_body, envR, hsplit, hleaf, f6, stepR, hl, outR]
    | false =>
      rw [hl] at hleaf
      refine ⟨[.none, .none, .none, .none, .none, .none, .none, .none, .none, .none, .none], ⟨rfl, by simp⟩, ?_⟩
      simp [rd_body, envR, hsplit, hleaf, f6, stepR, hl, outR]
  · by_cases e2 : p = "box" ∧ bd = true
    · obtain ⟨e2, e3⟩ := e2
      subst e2 e3
      rcases five_cases hps with ⟨a, b, c, d, e, k1, k2⟩ | ⟨k1, k2⟩
      · refine ⟨[.imm (.str row) false, .own (.lst (.str "box" :: ps.map .str)) false, .imm a false, .imm b false, .imm c false, .imm d false, .imm e false, s12, s13, s14, s15], ⟨rfl, by simp [*]⟩, ?_⟩
        simp [rd_body, envR, hsplit, f6, f7, f8, f9, f10, f11, stepR, sl_from1, k1, k2, tupK_eq, app_ok h2, outR, box_leaf]
      · refine ⟨[.none, .none, .none, .none, .none, .none, .none, .none, .none, .none, .none], ⟨rfl, by simp⟩, ?_⟩
        simp [rd_body, envR, hsplit, f6, f7, f8, f9, f10, f11, stepR, sl_from1, k1, k2, tupK_eq, app_ok h2, outR, box_leaf]
    · have e2' : decide (p = "box") = false ∨ (decide (p = "box") = true ∧ bd = false) := by
        by_cases q : p = "box"
        · cases bd with
          | true => exact absurd ⟨q, rfl⟩ e2
          | false => exact .inr ⟨decide_eq_true q, rfl⟩
        · exact .inl (decide_eq_false q)
      have hbox : (vAnd (vB (vOp dEq (vOp dIx (vVar 6) (vC (.int 0))) (vC (.str "box")))) (vB (vVar 4))) ([r0, .imm (.int m) false, .own (.lst ws) false, .own (.lst bs) false, .imm (.bl bd) false, .imm (.str row) false, .own (.lst (.str p :: ps.map .str)) false, s7, s8, s9, s10, s11, s12, s13, s14, s15] : Env') =
          .ok (false, [r0, .imm (.int m) false, .own (.lst ws) false, .own (.lst bs) false, .imm (.bl bd) false, .imm (.str row) false, .own (.lst (.str p :: ps.map .str)) false, s7, s8, s9, s10, s11, s12, s13, s14, s15]) := by
        rcases e2' with q | ⟨q, q2⟩
        · simp only [decide_eq_false_iff_not] at q
          simp [q]
        · simp only [decide_eq_true_eq] at q
          simp [q, q2]
      have hlast := is_word_eq (hsh.1 _ (List.getLast_mem (by simp) : (p :: ps).getLast (by simp) ∈ p :: ps))
      have hdl : ShL ps.dropLast := hps.sub (fun v hv => (List.dropLast_sublist ps).subset hv) (by simp)
      by_cases e3 : p = "word" ∧ 0 < m ∧ isW ((p :: ps).getLast (by simp)) = true
      · obtain ⟨e3, e4, e5⟩ := e3
        subst e3
        rw [e5] at hlast
        rcases five_cases hdl with ⟨a, b, c, d, e, k1, k2⟩ | ⟨k1, k2⟩ <;> rw [List.map_dropLast] at k2
        · refine ⟨[.imm (.str row) false, .own (.lst (.str "word" :: ps.map .str)) false, s7, s8, s9, s10, .imm d false, .imm a false, .imm b false, .imm c false, .imm e false], ⟨rfl, by simp [*]⟩, ?_⟩
          simp [-ap_and, rd_body, envR, hsplit, f6, hbox, word_leaf, word_box, e4, at_lastS]
          simp [rd_body, envR, hsplit, f6, f7, f8, f9, f10, f11, f12, f13, f14, f15, stepR, sl_mid, k1, k2, tupK_eq, app_ok h1, outR, word_leaf, word_box, at_lastS, e4, e5, hlast]
        · refine ⟨[.none, .none, .none, .none, .none, .none, .none, .none, .none, .none, .none], ⟨rfl, by simp⟩, ?_⟩
          simp [-ap_and, rd_body, envR, hsplit, f6, hbox, word_leaf, word_box, e4, at_lastS]
          simp [rd_body, envR, hsplit, f6, f7, f8, f9, f10, f11, f12, f13, f14, f15, stepR, sl_mid, k1, k2, tupK_eq, app_ok h1, outR, word_leaf, word_box, at_lastS, e4, e5, hlast]
      · refine ⟨[.none, .none, .none, .none, .none, .none, .none, .none, .none, .none, .none], ⟨rfl, by simp⟩, ?_⟩
        have hst : stepR ⟨m, ws, bs, bd⟩ p ps = none := by
          unfold stepR
          rw [if_neg e1, if_neg e2, if_neg e3]
        rw [hst]
        simp [-ap_and, rd_body, envR, hsplit, f6, hbox, e1]
        by_cases q : p = "word"
        · subst q
          by_cases q2 : 0 < m
          · have q3 : isW ((("word" : Str) :: ps).getLast (by simp)) = false := by
              cases q4 : isW ((("word" : Str) :: ps).getLast (by simp)) with
              | true => exact absurd ⟨rfl, q2, q4⟩ e3
              | false => rfl
            rw [q3] at hlast
            simp [q2, at_lastS, hlast, outR]
          · simp [q2, outR]
        · simp [q, outR]
end K55

set_option Elab.async false
set_option linter.all false
set_option maxRecDepth 100000
set_option maxHeartbeats 8000000
namespace K55
open PySem VI PySem.NumText
def ld_chain : SemS := (vIfS (vAnd (vB (vOp dEq (vOp dIx (vVar 5) (vC (.int 0))) (vC (.str "leaf")))) (vAnd (vB (vOp dEq (vVar 7) (vC (.int 2)))) (vB (vOp dEq (vVar 6) (vLst (iCons (vI (vOp dAdd (vVar 1) (vC (.int 1)))) iNil))))))
  (vAsg 1 (vOp dAdd (vVar 1) (vC (.int 1))))
  (vIfS (vOr (vB (vOp dLt (vVar 1) (vC (.int 0)))) (vOr (vB (vOp dIn (vC .non) (vVar 6))) (vB (vOp dNe (vCB fLen (aCons (vVar 6) aNil)) (vC (.int 5))))))
  (vRet (vC .non))
  (vIfS (vAnd (vB (vOp dEq (vOp dIx (vVar 5) (vC (.int 0))) (vC (.str "box")))) (vAnd (vB (vOp dEq (vVar 7) (vC (.int 6)))) (vNot (vB (vVar 8)))))
  (vDrop (vMut fAppend (vVar 3) (iCons (vI (vCB fTuple (aCons (vOp dAdd (vLst (iCons (vI (vVar 1)) iNil)) (vVar 6)) aNil))) iNil)))
  (vIfS (vAnd (vB (vOp dEq (vOp dIx (vVar 5) (vC (.int 0))) (vC (.str "word")))) (vAnd (vB (vOp dEq (vVar 7) (vC (.int 7)))) (vB (vCall F_l_is_word 1 [] (aCons (vArg (vOp dIx (vVar 5) (vC (.int 6)))) aNil)))))
  (vSeq (vUnp [9, 10, 11, 12, 13] (vVar 6))
  (vDrop (vMut fAppend (vVar 2) (iCons (vI (vTup (iCons (vI (vVar 1)) (iCons (vI (vVar 9)) (iCons (vI (vVar 10)) (iCons (vI (vVar 12)) (iCons (vI (vVar 13)) (iCons (vI (vOp dIx (vVar 5) (vC (.int 6)))) (iCons (vI (vVar 11)) iNil))))))))) iNil))))
  (vRet (vC .non))))))
def ld_body : SemS := (vSeq (vAsg 5 (vM1 fSplit (vVar 4) (vC (.str " "))))
  (vSeq (vAsg 6 (vLc (vIt (vSl (vVar 5) (oSome (vC (.int 1))) (oSome (vC (.int 6))))) (tName 14) vYes (vI (vCall F_l_number 1 [] (aCons (vArg (vVarI 14)) aNil))) [14]))
  (vSeq (vAsg 7 (vCB fLen (aCons (vVar 5) aNil)))
  (vSeq (vAsg 8 (vV (vAnd (vB (vOp dNe (vVar 2) (vLst iNil))) (vB (vOp dEq (vOp dIx (vOp dIx (vVar 2) (vUn dNeg (vC (.int 1)))) (vC (.int 0))) (vVar 1))))))
  ld_chain))))
structure Lw where
  f : Int
  ws : List VI.D
  bs : List VI.D
/-- the law's numbers -/
def nums (ps : List Str) : List VI.D := (ps.take 5).map fun w => optD (num w)
def allNum (ps : List Str) : Bool := (ps.take 5).all fun w => (num w).isSome
theorem fin_opt (o : Option Int) : FinD 0 (optD o) := by
  cases o
  · exact fin_non
  · exact fin_int
theorem nums_fin (ps : List Str) : ∀ d ∈ nums ps, FinD 0 d := fun d hd => by
  obtain ⟨w, _, rfl⟩ := List.mem_map.mp hd
  exact fin_opt _
theorem nums_ok (ps : List Str) : okD (.lst (nums ps)) = true := (fin_lst (nums_fin ps)).ok
theorem nums_in (ps : List Str) : ((toPys (nums ps)).any fun z => PyData.eqv z (toPy .non)) = !allNum ps := by
  unfold nums allNum
  generalize ps.take 5 = l
  induction l with
  | nil => rfl
  | cons w l ih =>
    simp only [List.map_cons, toPys, List.any_cons, List.all_cons, ih]
    cases num w <;> simp [optD, toPy, PyData.eqv]
theorem nums_len (ps : List Str) : (nums ps).length = min 5 ps.length := by simp [nums]
/-- the last word stands on the leaf -/
def lastB (f : Int) (ws : List VI.D) : Bool := match ws.getLast? with
  | some (.tup (.int l :: _)) => decide (l = f)
  | _ => false
structure WordD (f : Int) (d : VI.D) : Prop where
  ex : ∃ (l : Int) (r : List VI.D), d = .tup (.int l :: r) ∧ l ≤ f
  fin : FinD 1 d
def WsI (f : Int) (ws : List VI.D) : Prop := ∀ d ∈ ws, WordD f d
theorem WsI.ok {f : Int} {ws : List VI.D} (h : WsI f ws) : okD (.lst ws) = true := (fin_lst fun d hd => (h d hd).fin).ok
theorem eq_nil (ws : List VI.D) : eqD (.lst ws) (.lst []) = decide (ws = []) := by
  cases ws with
  | nil => rfl
  | cons d ds =>
    unfold eqD
    simp [toPy, toPys, PyData.eqv, PyData.eqvAll]
def envL (r0 : VI.Slot) (s : Lw) (t : List VI.Slot) : Env' := [r0, .imm (.int s.f) false, .own (.lst s.ws) false, .own (.lst s.bs) false] ++ t
def envC (r0 : VI.Slot) (s : Lw) (row p : Str) (ps : List Str) (s9 s10 s11 s12 s13 : VI.Slot) : Env' := [r0, .imm (.int s.f) false, .own (.lst s.ws) false, .own (.lst s.bs) false, .imm (.str row) false, .own (.lst (.str p :: ps.map .str)) false, .own (.lst (nums ps)) false, .imm (.int (((ps.length : Nat) : Int) + 1)) false, .imm (.bl (lastB s.f s.ws)) false, s9, s10, s11, s12, s13, .none]
theorem pre_L {r0 : VI.Slot} {s : Lw} {row : Str} {s4 s5 s6 s7 s8 s9 s10 s11 s12 s13 : VI.Slot} (hr : Rw row) (hw : WsI s.f s.ws) (f4 : freeK (some s4) = true) (f5 : freeK (some s5) = true) (f6 : freeK (some s6) = true) (f7 : freeK (some s7) = true) (f8 : freeK (some s8) = true) {p : Str} {ps : List Str} (hp : parts row = p :: ps) :
    ld_body ((envL r0 s [s4, s5, s6, s7, s8, s9, s10, s11, s12, s13, .none]).set 4 (.imm (.str row) false)) = ld_chain (envC r0 s row p ps s9 s10 s11 s12 s13) := by
  have hsh := parts_sh hr
  rw [hp] at hsh
  have hsplit : fSplit row (.str " ") = some (.lst (.str p :: ps.map .str)) := by
    have := split_row hr
    rw [hp] at this
    exact this
  obtain ⟨f, ws, bs⟩ := s
  have h5 : ∀ w ∈ ps.take 5, Sh w := fun w hw' => hsh.1 w (List.mem_cons_of_mem _ (List.mem_of_mem_take hw'))
  have hlc := lc_map (i := 14) (e := vI (vCall F_l_number 1 [] (aCons (vArg (vVarI 14)) aNil))) (f := fun d => match d with | .str w => optD (num w) | d => d)
    (δ := [r0, .imm (.int f) false, .own (.lst ws) false, .own (.lst bs) false, .imm (.str row) false, .own (.lst (.str p :: ps.map .str)) false, s6, s7, s8, s9, s10, s11, s12, s13, .none]) rfl ((ps.take 5).map .str) []
    (fun d hd => by
      obtain ⟨w, hw', rfl⟩ := List.mem_map.mp hd
      simp [l_number_eq (h5 w hw')]) (by simp; omega)
  have hm : ((ps.take 5).map VI.D.str).map (fun d => match d with | .str w => optD (num w) | d => d) = nums ps := by
    unfold nums
    rw [List.map_map]
    rfl
  rw [hm, List.nil_append] at hlc
  have h6 : (vLc (vIt (vSl (vVar 5) (oSome (vC (.int 1))) (oSome (vC (.int 6))))) (tName 14) vYes (vI (vCall F_l_number 1 [] (aCons (vArg (vVarI 14)) aNil))) [14])
      ([r0, .imm (.int f) false, .own (.lst ws) false, .own (.lst bs) false, .imm (.str row) false, .own (.lst (.str p :: ps.map .str)) false, s6, s7, s8, s9, s10, s11, s12, s13, .none] : Env') =
      .ok (.frs (.lst (nums ps)), [r0, .imm (.int f) false, .own (.lst ws) false, .own (.lst bs) false, .imm (.str row) false, .own (.lst (.str p :: ps.map .str)) false, s6, s7, s8, s9, s10, s11, s12, s13, .none]) := by
    simp [sl_six, ← List.map_take]
    rw [lcK_eq (by simp)]
    simp [-List.map_take]
    simp only [List.map_take] at hlc ⊢
    rw [hlc]
    simp
  have hL : dEqG true (.lst ws) (.lst []) = some (.imm (.bl (!decide (ws = [])))) := by
    rw [eq_lst hw.ok rfl true, eq_nil]
    cases decide (ws = []) <;> rfl
  have hlast : (vV (vAnd (vB (vOp dNe (vVar 2) (vLst iNil))) (vB (vOp dEq (vOp dIx (vOp dIx (vVar 2) (vUn dNeg (vC (.int 1)))) (vC (.int 0))) (vVar 1)))))
      ([r0, .imm (.int f) false, .own (.lst ws) false, .own (.lst bs) false, .imm (.str row) false, .own (.lst (.str p :: ps.map .str)) false, .own (.lst (nums ps)) false, .imm (.int (((ps.length : Nat) : Int) + 1)) false, s8, s9, s10, s11, s12, s13, .none] : Env') =
      .ok (.imm (.bl (lastB f ws)), [r0, .imm (.int f) false, .own (.lst ws) false, .own (.lst bs) false, .imm (.str row) false, .own (.lst (.str p :: ps.map .str)) false, .own (.lst (nums ps)) false, .imm (.int (((ps.length : Nat) : Int) + 1)) false, s8, s9, s10, s11, s12, s13, .none]) := by
    cases ws with
    | nil => simp [lstK_eq, hL, lastB]
    | cons d ds =>
      have hmem : (d :: ds).getLast (by simp) ∈ d :: ds := List.getLast_mem (by simp)
      obtain ⟨l, r, e, _⟩ := (hw _ hmem).ex
      have hx : L2.atI (d :: ds) (-1) = some (.tup (.int l :: r)) := by rw [at_last, e]
      have hb : lastB f (d :: ds) = decide (l = f) := by
        unfold lastB
        rw [List.getLast?_eq_some_getLast (by simp), e]
      simp [lstK_eq, hL, hx, hb]
  simp [-ap_lc, -ap_V, ld_body, envL, envC, hsplit, f5, f6, f7, f8, h6, hlast]
end K55

set_option Elab.async false
set_option linter.all false
set_option maxRecDepth 100000
set_option maxHeartbeats 8000000
namespace K55
open PySem VI PySem.NumText
theorem eq_opt (o : Option Int) (v : Int) : eqD (.lst [optD o]) (.lst [.int v]) = decide (o = some v) := by
  cases o with
  | none => rfl
  | some n =>
    unfold eqD
    simp [optD, toPy, toPys, PyData.eqv, PyData.eqvAll]
    try (by_cases h : n = v <;> simp [h])
theorem at_sixS {p : Str} {ps : List Str} (h : ps.length = 6) : L2.atI (VI.D.str p :: ps.map .str) 6 = some (.str ((p :: ps).getLast (by simp))) := by
  have e7 : (VI.D.str p :: ps.map .str) = (p :: ps).map .str := rfl
  have h8 : 6 < ((p :: ps).map VI.D.str).length := by simp [h]
  have z := at_nat (xs := (p :: ps).map VI.D.str) (k := 6) h8
  rw [e7]
  refine Eq.trans z ?_
  rw [List.getElem_map, List.getLast_eq_getElem]
  simp [h]
section
variable {r0 : VI.Slot} {s : Lw} {row p : Str} {ps : List Str} {s9 s10 s11 s12 s13 : VI.Slot}
theorem cond_A : (vAnd (vB (vOp dEq (vOp dIx (vVar 5) (vC (.int 0))) (vC (.str "leaf")))) (vAnd (vB (vOp dEq (vVar 7) (vC (.int 2)))) (vB (vOp dEq (vVar 6) (vLst (iCons (vI (vOp dAdd (vVar 1) (vC (.int 1)))) iNil)))))) (envC r0 s row p ps s9 s10 s11 s12 s13) =
    .ok (decide (p = "leaf") && leafOk (s.f + 1) ps, envC r0 s row p ps s9 s10 s11 s12 s13) := by
  by_cases h : p = "leaf"
  · match ps with
    | [] => simp [envC, h, leafOk]
    | [w] =>
      have e := eq_opt (num w) (s.f + 1)
      have e2 : dEqG false (.lst (nums [w])) (.lst [.int (s.f + 1)]) = some (.imm (.bl (decide (num w = some (s.f + 1))))) := by
        rw [eq_lst (nums_ok [w]) rfl false]
        show some (Ro.imm (.bl (eqD (.lst [optD (num w)]) (.lst [.int (s.f + 1)]) != false))) = _
        rw [e]
        cases decide (num w = some (s.f + 1)) <;> rfl
      simp [envC, h, leafOk, lstK_eq, e2]
    | w :: w2 :: r =>
      have e : ¬ ((((w :: w2 :: r).length : Nat) : Int) + 1 = 2) := by simp; omega
      simp [envC, h, leafOk]
      simp at e
      simp [e]
  · simp [envC, h]
theorem cond_B : (vOr (vB (vOp dLt (vVar 1) (vC (.int 0)))) (vOr (vB (vOp dIn (vC .non) (vVar 6))) (vB (vOp dNe (vCB fLen (aCons (vVar 6) aNil)) (vC (.int 5)))))) (envC r0 s row p ps s9 s10 s11 s12 s13) =
    .ok (decide (s.f < 0) || (!allNum ps || !decide (5 ≤ ps.length)), envC r0 s row p ps s9 s10 s11 s12 s13) := by
  have e1 : dInG false .non (.lst (nums ps)) = some (.imm (.bl (!allNum ps))) := by
    rw [in_lst rfl rfl (nums_ok ps) false, nums_in]
    cases allNum ps <;> rfl
  have e2 : decide (((nums ps).length : Int) = 5) = decide (5 ≤ ps.length) := by
    rw [nums_len]
    by_cases h : 5 ≤ ps.length
    · simp [h, Nat.min_eq_left h]
    · rw [Nat.min_eq_right (by omega)]
      simp only [decide_eq_decide]
      omega
  cases h1 : decide (s.f < 0) with
  | true => simp [envC, h1]
  | false =>
    cases h2 : allNum ps with
    | false => simp [envC, h1, e1, h2]
    | true => simp [envC, h1, e1, h2, e2]
theorem cond_C : (vAnd (vB (vOp dEq (vOp dIx (vVar 5) (vC (.int 0))) (vC (.str "box")))) (vAnd (vB (vOp dEq (vVar 7) (vC (.int 6)))) (vNot (vB (vVar 8))))) (envC r0 s row p ps s9 s10 s11 s12 s13) =
    .ok (decide (p = "box") && (decide (ps.length = 5) && !lastB s.f s.ws), envC r0 s row p ps s9 s10 s11 s12 s13) := by
  have e : decide ((ps.length : Int) + 1 = 6) = decide (ps.length = 5) := by
    simp only [decide_eq_decide]
    omega
  by_cases h : p = "box"
  · cases h2 : decide (ps.length = 5) with
    | true => simp [envC, h, e, h2]
    | false => simp [envC, h, e, h2]
  · simp [envC, h]
theorem cond_D (hsh : ShL (p :: ps)) : (vAnd (vB (vOp dEq (vOp dIx (vVar 5) (vC (.int 0))) (vC (.str "word")))) (vAnd (vB (vOp dEq (vVar 7) (vC (.int 7)))) (vB (vCall F_l_is_word 1 [] (aCons (vArg (vOp dIx (vVar 5) (vC (.int 6)))) aNil))))) (envC r0 s row p ps s9 s10 s11 s12 s13) =
    .ok (decide (p = "word") && (decide (ps.length = 6) && isW ((p :: ps).getLast (by simp))), envC r0 s row p ps s9 s10 s11 s12 s13) := by
  have e : decide ((ps.length : Int) + 1 = 7) = decide (ps.length = 6) := by
    simp only [decide_eq_decide]
    omega
  by_cases h : p = "word"
  · cases h2 : decide (ps.length = 6) with
    | true =>
      have h3 : ps.length = 6 := of_decide_eq_true h2
      have hx := at_sixS (p := p) h3
      have hw := l_is_word_eq (hsh.1 _ (List.getLast_mem (by simp) : (p :: ps).getLast (by simp) ∈ p :: ps))
      rw [h] at hx hw
      simp [envC, h, e, h2, hx, hw]
    | false => simp [envC, h, e, h2]
  · simp [envC, h]
end
def stepL (s : Lw) (p : Str) (ps : List Str) : Option Lw :=
  if (decide (p = "leaf") && leafOk (s.f + 1) ps) = true then some ⟨s.f + 1, s.ws, s.bs⟩
  else if (decide (s.f < 0) || (!allNum ps || !decide (5 ≤ ps.length))) = true then none
  else if (decide (p = "box") && (decide (ps.length = 5) && !lastB s.f s.ws)) = true then some ⟨s.f, s.ws, s.bs ++ [.tup (.int s.f :: nums ps)]⟩
  else if (decide (p = "word") && (decide (ps.length = 6) && isW ((p :: ps).getLast (by simp)))) = true then (match nums ps with
    | [a, b, c, d, e] => some ⟨s.f, s.ws ++ [.tup [.int s.f, a, b, d, e, .str ((p :: ps).getLast (by simp)), c]], s.bs⟩
    | _ => none)
  else none
def outL (r0 : VI.Slot) (t : List VI.Slot) : Option Lw → Out
  | some s => .next (envL r0 s t)
  | none => .ret (.imm .non) (r0 :: t)
/-- what else the frame holds -/
def Gl' (t : List VI.Slot) : Prop := ∃ t0, t = t0 ++ [.none] ∧ Gt 10 t0
theorem chain_L {r0 : VI.Slot} {s : Lw} {row p : Str} {ps : List Str} {s9 s10 s11 s12 s13 : VI.Slot} (g9 : pinned s9 = false) (g10 : pinned s10 = false) (g11 : pinned s11 = false) (g12 : pinned s12 = false) (g13 : pinned s13 = false) (hsh : ShL (p :: ps)) (h1 : s.ws.length < 100000) (h2 : s.bs.length < 100000) :
    (∃ s' t, stepL s p ps = some s' ∧ Gl' t ∧ ld_chain (envC r0 s row p ps s9 s10 s11 s12 s13) = .next (envL r0 s' t)) ∨ (stepL s p ps = none ∧ ∃ t, ld_chain (envC r0 s row p ps s9 s10 s11 s12 s13) = .ret (.imm .non) (r0 :: t)) := by
  have f9 := freeK_of g9
  have f10 := freeK_of g10
  have f11 := freeK_of g11
  have f12 := freeK_of g12
  have f13 := freeK_of g13
  unfold ld_chain stepL
  simp only [ap_ifS, cond_A, out_ok]
  cases hA : (decide (p = "leaf") && leafOk (s.f + 1) ps) with
  | true =>
    refine .inl ⟨⟨s.f + 1, s.ws, s.bs⟩, [.imm (.str row) false, .own (.lst (.str p :: ps.map .str)) false, .own (.lst (nums ps)) false, .imm (.int (((ps.length : Nat) : Int) + 1)) false, .imm (.bl (lastB s.f s.ws)) false, s9, s10, s11, s12, s13] ++ [.none], rfl, ⟨_, rfl, rfl, by simp [*]⟩, ?_⟩
    simp [envC, envL]
  | false =>
    rw [if_neg Bool.false_ne_true]
    simp only [ifSK_f, ap_ifS, cond_B, out_ok]
    cases hB : (decide (s.f < 0) || (!allNum ps || !decide (5 ≤ ps.length))) with
    | true =>
      refine .inr ⟨rfl, ?_⟩
      simp [envC]
    | false =>
      rw [if_neg Bool.false_ne_true]
      simp only [ifSK_f, ap_ifS, cond_C, out_ok]
      simp only [Bool.or_eq_false_iff, Bool.not_eq_false', decide_eq_true_eq] at hB
      obtain ⟨_, hB1, hB2⟩ := hB
      have hn5 : (nums ps).length = 5 := by rw [nums_len, Nat.min_eq_left hB2]
      cases hC : (decide (p = "box") && (decide (ps.length = 5) && !lastB s.f s.ws)) with
      | true =>
        refine .inl ⟨⟨s.f, s.ws, s.bs ++ [.tup (.int s.f :: nums ps)]⟩, [.imm (.str row) false, .own (.lst (.str p :: ps.map .str)) false, .own (.lst (nums ps)) false, .imm (.int (((ps.length : Nat) : Int) + 1)) false, .imm (.bl (lastB s.f s.ws)) false, s9, s10, s11, s12, s13] ++ [.none], rfl, ⟨_, rfl, rfl, by simp [*]⟩, ?_⟩
        have hadd : dAdd (.lst [.int s.f]) (.lst (nums ps)) = some (.lst (.int s.f :: nums ps)) := by
          show (if _ then _ else _) = _
          rw [if_pos (by rw [hn5]; exact (by decide : 1 + 5 ≤ sizeLine))]
          rfl
        simp [envC, envL, lstK_eq, hadd, app_ok h2]
      | false =>
        rw [if_neg Bool.false_ne_true]
        simp only [ifSK_f, ap_ifS, cond_D hsh, out_ok]
        cases hD : (decide (p = "word") && (decide (ps.length = 6) && isW ((p :: ps).getLast (by simp)))) with
        | true =>
          rw [if_pos rfl]
          simp only [Bool.and_eq_true, decide_eq_true_eq] at hD
          obtain ⟨_, hD1, _⟩ := hD
          have hx := at_sixS (p := p) hD1
          match hN : nums ps, hn5 with
          | [a, b, c, d, e], _ =>
            refine .inl ⟨⟨s.f, s.ws ++ [.tup [.int s.f, a, b, d, e, .str ((p :: ps).getLast (by simp)), c]], s.bs⟩, [.imm (.str row) false, .own (.lst (.str p :: ps.map .str)) false, .own (.lst (nums ps)) false, .imm (.int (((ps.length : Nat) : Int) + 1)) false, .imm (.bl (lastB s.f s.ws)) false, .imm a false, .imm b false, .imm c false, .imm d false, .imm e false] ++ [.none], rfl, ⟨_, rfl, rfl, by simp⟩, ?_⟩
            simp [envC, envL, hN, f9, f10, f11, f12, f13, hx, tupK_eq, app_ok h1]
        | false =>
          refine .inr ⟨rfl, ?_⟩
          simp [envC]
end K55

set_option Elab.async false
set_option linter.all false
set_option maxRecDepth 100000
set_option maxHeartbeats 8000000
namespace K55
open PySem VI PySem.NumText
theorem mapN_eq (ps : List Str) : mapN ps = if (ps.all fun w => (num w).isSome) = true then some (ps.map fun w => optD (num w)) else none := by
  unfold mapN
  induction ps with
  | nil => rfl
  | cons w ps ih =>
    rw [List.map_cons]
    unfold mapR
    rw [ih]
    simp only [numD, List.all_cons, List.map_cons]
    cases num w with
    | none => simp
    | some n =>
      simp only [Option.map_some, Option.isSome_some, Bool.true_and, optD]
      split <;> rfl
def toF : List VI.D → Option (VI.D × VI.D × VI.D × VI.D × VI.D)
  | [a, b, c, d, e] => some (a, b, c, d, e)
  | _ => none
theorem five_eq (ps : List Str) : five ps = if ps.length = 5 ∧ allNum ps = true then toF (nums ps) else none := by
  unfold five
  by_cases h : ps.length = 5
  · rw [if_pos h, mapN_eq]
    have e : ps.take 5 = ps := List.take_of_length_le (by omega)
    unfold allNum nums
    rw [e]
    by_cases h2 : (ps.all fun w => (num w).isSome) = true
    · rw [if_pos h2, if_pos ⟨h, h2⟩]
      generalize (ps.map fun w => optD (num w)) = l
      match l with
      | [] => rfl
      | [_] => rfl
      | [_, _] => rfl
      | [_, _, _] => rfl
      | [_, _, _, _] => rfl
      | [_, _, _, _, _] => rfl
      | _ :: _ :: _ :: _ :: _ :: _ :: _ => rfl
    · rw [if_neg h2, if_neg fun z => h2 z.2]
  · rw [if_neg h, if_neg fun z => h z.1]
def toLv (s : Lw) : Lv := ⟨s.f + 1, s.ws, s.bs, decide (0 ≤ s.f) && !lastB s.f s.ws⟩
structure InvL (s : Lw) : Prop where
  f : -1 ≤ s.f
  w : WsI s.f s.ws
  b : ∀ d ∈ s.bs, FinD 1 d
theorem lastB_next {f : Int} {ws : List VI.D} (h : WsI f ws) : lastB (f + 1) ws = false := by
  unfold lastB
  split
  · rename_i l r e
    obtain ⟨l', r', e', h'⟩ := (h _ (List.mem_of_getLast? e)).ex
    cases e'
    simp only [decide_eq_false_iff_not]
    omega
  · rfl
theorem isW_ok {w : Str} (h : isW w = true) : PyData.strOk w = true := by
  unfold isW at h
  simp only [Bool.and_eq_true] at h
  have h3 := List.all_eq_true.mp h.2.2
  have hW : ∀ c ∈ cl WS, c < 1114112 := by decide +kernel
  unfold PyData.strOk
  rw [← Array.all_toList]
  exact List.all_eq_true.mpr fun c hc => decide_eq_true (hW c (of_decide_eq_true (h3 c hc)))
theorem toF_five {l : List VI.D} (h : l.length = 5) : ∃ a b c d e, l = [a, b, c, d, e] := by
  match l, h with
  | [a, b, c, d, e], _ => exact ⟨a, b, c, d, e, rfl⟩
theorem ne_leaf_box : ¬ (("leaf" : Str) = "box") := by decide +kernel
theorem ne_leaf_word : ¬ (("leaf" : Str) = "word") := by decide +kernel
theorem ne_box_word : ¬ (("box" : Str) = "word") := by decide +kernel
theorem agree {s : Lw} {p : Str} {ps : List Str} (I : InvL s) : stepR (toLv s) p ps = (stepL s p ps).map toLv ∧ ∀ s', stepL s p ps = some s' → InvL s' := by
  obtain ⟨f, ws, bs⟩ := s
  obtain ⟨If, Iw, Ib⟩ := I
  dsimp only at If Iw Ib
  by_cases e1 : p = "leaf"
  · subst e1
    cases hl : leafOk (f + 1) ps with
    | true =>
      have h1 : stepL ⟨f, ws, bs⟩ "leaf" ps = some ⟨f + 1, ws, bs⟩ := by
        unfold stepL
        rw [if_pos (by simp [hl])]
      have h2 : stepR (toLv ⟨f, ws, bs⟩) "leaf" ps = some ⟨f + 1 + 1, ws, bs, true⟩ := by
        unfold stepR toLv
        rw [if_pos rfl, if_pos hl]
      refine ⟨?_, fun s' e => ?_⟩
      · rw [h1, h2]
        show some _ = some (toLv _)
        unfold toLv
        rw [lastB_next Iw, decide_eq_true (show (0 : Int) ≤ f + 1 by omega)]
        rfl
      · rw [h1] at e
        cases e
        refine ⟨by show -1 ≤ f + 1; omega, fun d hd => ?_, Ib⟩
        obtain ⟨⟨l, r, e, hl⟩, hf⟩ := Iw d hd
        exact ⟨⟨l, r, e, by show l ≤ f + 1; omega⟩, hf⟩
    | false =>
      have h1 : stepL ⟨f, ws, bs⟩ "leaf" ps = none := by
        unfold stepL
        simp [hl, ne_leaf_box, ne_leaf_word]
      have h2 : stepR (toLv ⟨f, ws, bs⟩) "leaf" ps = none := by
        unfold stepR toLv
        rw [if_pos rfl, if_neg (by simp [hl])]
      rw [h1, h2]
      exact ⟨rfl, fun s' e => by cases e⟩
  · by_cases e2 : p = "box"
    · subst e2
      cases hb : (decide (0 ≤ f) && !lastB f ws) with
      | false =>
        have h2 : stepR (toLv ⟨f, ws, bs⟩) "box" ps = none := by
          unfold stepR toLv
          simp only [hb]
          rw [if_neg e1, if_neg (by simp), if_neg (by simp [ne_box_word])]
        have h1 : stepL ⟨f, ws, bs⟩ "box" ps = none := by
          unfold stepL
          rw [if_neg (by simp [e1])]
          by_cases hB : (decide (f < 0) || (!allNum ps || !decide (5 ≤ ps.length))) = true
          · rw [if_pos hB]
          · rw [if_neg hB]
            simp only [Bool.or_eq_true, not_or, decide_eq_true_eq] at hB
            have hf0 : 0 ≤ f := by omega
            rw [decide_eq_true hf0] at hb
            simp at hb
            rw [if_neg (by simp [hb]), if_neg (by simp [ne_box_word])]
        rw [h1, h2]
        exact ⟨rfl, fun s' e => by cases e⟩
      | true =>
        have hb' := hb
        simp only [Bool.and_eq_true, decide_eq_true_eq, Bool.not_eq_true'] at hb
        obtain ⟨hf0, hlast⟩ := hb
        by_cases h5 : ps.length = 5 ∧ allNum ps = true
        · obtain ⟨a, b, c, d, e, hn⟩ := toF_five (l := nums ps) (by rw [nums_len]; omega)
          have hfive : five ps = some (a, b, c, d, e) := by rw [five_eq, if_pos h5, hn]; rfl
          have h2 : stepR (toLv ⟨f, ws, bs⟩) "box" ps = some ⟨f + 1, ws, bs ++ [.tup [.int f, a, b, c, d, e]], true⟩ := by
            unfold stepR toLv
            simp only [hb']
            rw [if_neg e1, if_pos (by simp), hfive]
            simp
          have h1 : stepL ⟨f, ws, bs⟩ "box" ps = some ⟨f, ws, bs ++ [.tup [.int f, a, b, c, d, e]]⟩ := by
            unfold stepL
            rw [if_neg (by simp [e1]), if_neg (by simp [h5.2, h5.1]; omega), if_pos (by simp [h5.1, hlast]), hn]
          refine ⟨?_, fun s' e' => ?_⟩
          · rw [h1, h2]
            show some _ = some (toLv _)
            unfold toLv
            rw [hb']
          · rw [h1] at e'
            cases e'
            refine ⟨If, Iw, fun x hx => ?_⟩
            rcases List.mem_append.mp hx with hx | hx
            · exact Ib x hx
            · simp at hx
              subst hx
              refine fin_tup fun y hy => ?_
              rcases List.mem_cons.mp hy with rfl | hy
              · exact fin_int
              · exact nums_fin ps y (by rw [hn]; exact hy)
        · have hfive : five ps = none := by rw [five_eq, if_neg h5]
          have h2 : stepR (toLv ⟨f, ws, bs⟩) "box" ps = none := by
            unfold stepR toLv
            simp only [hb']
            rw [if_neg e1, if_pos (by simp), hfive]
          have h1 : stepL ⟨f, ws, bs⟩ "box" ps = none := by
            unfold stepL
            rw [if_neg (by simp [e1])]
            by_cases hB : (decide (f < 0) || (!allNum ps || !decide (5 ≤ ps.length))) = true
            · rw [if_pos hB]
            · rw [if_neg hB]
              simp only [Bool.or_eq_true, not_or, Bool.not_eq_true, Bool.not_eq_false'] at hB
              have hl5 : ¬ ps.length = 5 := fun z => h5 ⟨z, by simpa using hB.2.1⟩
              rw [if_neg (by simp [hl5]), if_neg (by simp [ne_box_word])]
          rw [h1, h2]
          exact ⟨rfl, fun s' e => by cases e⟩
    · by_cases e3 : p = "word" ∧ 0 < f + 1 ∧ isW ((p :: ps).getLast (by simp)) = true
      · obtain ⟨e3, hf0, hw⟩ := e3
        have hf : ¬ f < 0 := by omega
        by_cases h6 : ps.length = 6 ∧ allNum ps = true
        · obtain ⟨a, b, c, d, e, hn⟩ := toF_five (l := nums ps) (by rw [nums_len]; omega)
          have hdl : ps.dropLast = ps.take 5 := by rw [List.dropLast_eq_take, h6.1]
          have hfive : five ps.dropLast = some (a, b, c, d, e) := by
            have e5 : (ps.take 5).take 5 = ps.take 5 := by rw [List.take_take, Nat.min_self]
            rw [five_eq, if_pos ⟨by rw [List.length_dropLast, h6.1], by unfold allNum; rw [hdl, e5]; exact h6.2⟩]
            have : nums ps.dropLast = nums ps := by unfold nums; rw [hdl, e5]
            rw [this, hn]
            rfl
          have h2 : stepR (toLv ⟨f, ws, bs⟩) p ps = some ⟨f + 1, ws ++ [.tup [.int f, a, b, d, e, .str ((p :: ps).getLast (by simp)), c]], bs, false⟩ := by
            unfold stepR toLv
            rw [if_neg e1, if_neg (by simp [e2]), if_pos ⟨e3, hf0, hw⟩, hfive]
            simp
          have h1 : stepL ⟨f, ws, bs⟩ p ps = some ⟨f, ws ++ [.tup [.int f, a, b, d, e, .str ((p :: ps).getLast (by simp)), c]], bs⟩ := by
            unfold stepL
            rw [if_neg (by simp [e1]), if_neg (by simp [h6.2, h6.1]; omega), if_neg (by simp [e2]), if_pos (by simp [e3, h6.1, hw] <;> (subst e3; exact hw)), hn]
          refine ⟨?_, fun s' e' => ?_⟩
          · rw [h1, h2]
            show some _ = some (toLv _)
            unfold toLv
            have hlb : lastB f (ws ++ [.tup [.int f, a, b, d, e, .str ((p :: ps).getLast (by simp)), c]]) = true := by
              unfold lastB
              rw [List.getLast?_append]
              simp
            rw [hlb]
            simp
          · rw [h1] at e'
            cases e'
            refine ⟨If, fun x hx => ?_, Ib⟩
            rcases List.mem_append.mp hx with hx | hx
            · exact Iw x hx
            · simp at hx
              subst hx
              have hm : ∀ y ∈ [a, b, c, d, e], FinD 0 y := fun y hy => nums_fin ps y (by rw [hn]; exact hy)
              refine ⟨⟨f, _, rfl, Int.le_refl _⟩, fin_tup fun y hy => ?_⟩
              simp only [List.mem_cons, List.not_mem_nil, or_false] at hy
              rcases hy with rfl | rfl | rfl | rfl | rfl | rfl | rfl
              · exact fin_int
              · exact hm _ (by simp)
              · exact hm _ (by simp)
              · exact hm _ (by simp)
              · exact hm _ (by simp)
              · exact fin_str (isW_ok hw)
              · exact hm _ (by simp)
        · have hfive : five ps.dropLast = none := by
            rw [five_eq]
            refine if_neg fun ⟨z1, z2⟩ => h6 ?_
            have hl : ps.length = 6 := by rw [List.length_dropLast] at z1; omega
            refine ⟨hl, ?_⟩
            have hdl : ps.dropLast = ps.take 5 := by rw [List.dropLast_eq_take, hl]
            unfold allNum at z2 ⊢
            rw [hdl, List.take_take, Nat.min_self] at z2
            exact z2
          have h2 : stepR (toLv ⟨f, ws, bs⟩) p ps = none := by
            unfold stepR toLv
            rw [if_neg e1, if_neg (by simp [e2]), if_pos ⟨e3, hf0, hw⟩, hfive]
          have h1 : stepL ⟨f, ws, bs⟩ p ps = none := by
            unfold stepL
            rw [if_neg (by simp [e1])]
            by_cases hB : (decide (f < 0) || (!allNum ps || !decide (5 ≤ ps.length))) = true
            · rw [if_pos hB]
            · rw [if_neg hB]
              simp only [Bool.or_eq_true, not_or, Bool.not_eq_true, Bool.not_eq_false'] at hB
              have hl6 : ¬ ps.length = 6 := fun z => h6 ⟨z, by simpa using hB.2.1⟩
              rw [if_neg (by simp [e2]), if_neg (by simp [hl6])]
          rw [h1, h2]
          exact ⟨rfl, fun s' e => by cases e⟩
      · have h2 : stepR (toLv ⟨f, ws, bs⟩) p ps = none := by
          unfold stepR toLv
          rw [if_neg e1, if_neg (by simp [e2]), if_neg e3]
        have h1 : stepL ⟨f, ws, bs⟩ p ps = none := by
          unfold stepL
          rw [if_neg (by simp [e1])]
          by_cases hB : (decide (f < 0) || (!allNum ps || !decide (5 ≤ ps.length))) = true
          · rw [if_pos hB]
          · rw [if_neg hB, if_neg (by simp [e2]), if_neg ?_]
            intro z
            simp only [Bool.and_eq_true, decide_eq_true_eq] at z
            simp only [Bool.or_eq_true, not_or, decide_eq_true_eq] at hB
            exact e3 ⟨z.1, by omega, z.2.2⟩
        rw [h1, h2]
        exact ⟨rfl, fun s' e => by cases e⟩
end K55

set_option Elab.async false
set_option linter.all false
set_option maxRecDepth 100000
set_option maxHeartbeats 8000000
namespace K55
open PySem VI PySem.NumText
def stepW (s : Lw) (row : Str) : Option Lw := match parts row with
  | p :: ps => stepL s p ps
  | [] => none
def runL (s : Lw) : List Str → Option Lw
  | [] => some s
  | row :: rows => match stepW s row with
    | some s' => runL s' rows
    | none => none
theorem stepL_len {s s' : Lw} {p : Str} {ps : List Str} (h : stepL s p ps = some s') : s'.ws.length ≤ s.ws.length + 1 ∧ s'.bs.length ≤ s.bs.length + 1 := by
  unfold stepL at h
  split at h
  · cases h
    exact ⟨by simp, by simp⟩
  · split at h
    · cases h
    · split at h
      · cases h
        exact ⟨by simp, by simp⟩
      · split at h
        · split at h
          · cases h
            exact ⟨by simp, by simp⟩
          · cases h
        · cases h
theorem loop_R {r0 : VI.Slot} : ∀ (rows : List Str) (s : Lw), InvL s → (∀ row ∈ rows, Rw row) → s.ws.length + rows.length < 100000 → s.bs.length + rows.length < 100000 → ∀ t, Gt 11 t →
    ∃ t', Gt 11 t' ∧ forGo (tName 5) rd_body (rows.map .str) (envR r0 (toLv s) t) = outR r0 t' ((runL s rows).map toLv)
  | [], s, _, _, _, _, t, ht => ⟨t, ht, rfl⟩
  | row :: rows, s, I, hr, h1, h2, t, ht => by
    simp only [List.length_cons] at h1 h2
    obtain ⟨p, ps, hp⟩ := parts_ne row
    obtain ⟨t1, ht1, e1⟩ := step_R (r0 := r0) (s := toLv s) (t := t) (hr row List.mem_cons_self) ht (by show s.ws.length < _; omega) (by show s.bs.length < _; omega) hp
    obtain ⟨a1, a2⟩ := agree (p := p) (ps := ps) I
    have hset : tName 5 (.str row) (envR r0 (toLv s) t) = some ((envR r0 (toLv s) t).set 5 (.imm (.str row) false)) := by
      obtain ⟨s5, t, rfl, g5, _⟩ := ht.cases
      have f5 := freeK_of g5
      simp [envR, f5]
    rw [List.map_cons, forGo_cons, hset, forM1_eq, e1, a1]
    unfold runL stepW
    rw [hp]
    dsimp only
    cases hs : stepL s p ps with
    | none => exact ⟨t1, ht1, rfl⟩
    | some s' =>
      obtain ⟨l1, l2⟩ := stepL_len hs
      obtain ⟨t', ht', e'⟩ := loop_R rows s' (a2 s' hs) (fun x hx => hr x (List.mem_cons_of_mem _ hx)) (by omega) (by omega) t1 ht1
      exact ⟨t', ht', e'⟩
theorem loop_L {r0 : VI.Slot} : ∀ (rows : List Str) (s : Lw), InvL s → (∀ row ∈ rows, Rw row) → s.ws.length + rows.length < 100000 → s.bs.length + rows.length < 100000 → ∀ t, Gl' t →
    (∃ s' t', runL s rows = some s' ∧ InvL s' ∧ Gl' t' ∧ forGo (tName 4) ld_body (rows.map .str) (envL r0 s t) = .next (envL r0 s' t')) ∨ (runL s rows = none ∧ ∃ t', forGo (tName 4) ld_body (rows.map .str) (envL r0 s t) = .ret (.imm .non) (r0 :: t'))
  | [], s, I, _, _, _, t, ht => .inl ⟨s, t, rfl, I, ht, rfl⟩
  | row :: rows, s, I, hr, h1, h2, t, ht => by
    simp only [List.length_cons] at h1 h2
    obtain ⟨p, ps, hp⟩ := parts_ne row
    have hsh := parts_sh (hr row List.mem_cons_self)
    rw [hp] at hsh
    obtain ⟨_, a2⟩ := agree (p := p) (ps := ps) I
    obtain ⟨t0, rfl, ht0⟩ := ht
    obtain ⟨s4, t, rfl, g4, ht⟩ := ht0.cases
    obtain ⟨s5, t, rfl, g5, ht⟩ := ht.cases
    obtain ⟨s6, t, rfl, g6, ht⟩ := ht.cases
    obtain ⟨s7, t, rfl, g7, ht⟩ := ht.cases
    obtain ⟨s8, t, rfl, g8, ht⟩ := ht.cases
    obtain ⟨s9, t, rfl, g9, ht⟩ := ht.cases
    obtain ⟨s10, t, rfl, g10, ht⟩ := ht.cases
    obtain ⟨s11, t, rfl, g11, ht⟩ := ht.cases
    obtain ⟨s12, t, rfl, g12, ht⟩ := ht.cases
    obtain ⟨s13, t, rfl, g13, ht⟩ := ht.cases
    cases ht.nil
    have f4 := freeK_of g4
    have hset : tName 4 (.str row) (envL r0 s ([s4, s5, s6, s7, s8, s9, s10, s11, s12, s13] ++ [.none])) = some ((envL r0 s [s4, s5, s6, s7, s8, s9, s10, s11, s12, s13, .none]).set 4 (.imm (.str row) false)) := by
      simp [envL, f4]
    rw [List.map_cons, forGo_cons, hset, forM1_eq, pre_L (hr row List.mem_cons_self) I.w f4 (freeK_of g5) (freeK_of g6) (freeK_of g7) (freeK_of g8) hp]
    unfold runL stepW
    rw [hp]
    dsimp only
    rcases chain_L (r0 := r0) (s := s) (row := row) g9 g10 g11 g12 g13 hsh (by omega) (by omega) with ⟨s', t1, hs, ht1, e1⟩ | ⟨hs, t1, e1⟩
    · obtain ⟨l1, l2⟩ := stepL_len hs
      rw [hs, e1, forM2_next]
      exact loop_L rows s' (a2 s' hs) (fun x hx => hr x (List.mem_cons_of_mem _ hx)) (by omega) (by omega) t1 ht1
    · rw [hs, e1, forM2_ret]
      exact .inr ⟨rfl, t1, rfl⟩
def s0 : Lw := ⟨-1, [], []⟩
theorem inv0 : InvL s0 := ⟨by decide, (fun d hd => by cases hd), (fun d hd => by cases hd)⟩
def resD (s : Lw) : VI.D := .tup [.int (s.f + 1), .lst s.ws, .lst s.bs]
/-- rows that may be asked for -/
def RowsOk (rows : List Str) : Prop := (∀ row ∈ rows, Rw row) ∧ rows.length < 100000
theorem t_rd : t_read_drawing = vSeq (vAsg 1 (vC (.int 0))) (vSeq (vAsg 2 (vLst iNil)) (vSeq (vAsg 3 (vLst iNil)) (vSeq (vAsg 4 (vC (.bl false))) (vSeq (vFor (vIt (vVar 0)) (tName 5) rd_body)
  (vRet (vTup (iCons (vI (vVar 1)) (iCons (vI (vVar 2)) (iCons (vI (vVar 3)) iNil))))))))) := rfl
theorem t_ld : t_l_due = vSeq (vAsg 1 (vUn dNeg (vC (.int 1)))) (vSeq (vAsg 2 (vLst iNil)) (vSeq (vAsg 3 (vLst iNil)) (vSeq (vFor (vIt (vVar 0)) (tName 4) ld_body)
  (vRet (vTup (iCons (vI (vOp dAdd (vVar 1) (vC (.int 1)))) (iCons (vI (vVar 2)) (iCons (vI (vVar 3)) iNil)))))))) := rfl
theorem gt11 : Gt 11 (List.replicate 11 .none) := ⟨rfl, by simp⟩
theorem read_own {rows : List Str} (h : RowsOk rows) : F_read_drawing [.own (.lst (rows.map .str)) true] = match runL s0 rows with
    | some s => .ret (.imm (resD s)) [.imm (.lst (rows.map .str)) true]
    | none => .raise 4 := by
  obtain ⟨t', _, e⟩ := loop_R (r0 := .imm (.lst (rows.map .str)) true) rows s0 inv0 h.1 (by show 0 + _ < _; have := h.2; omega) (by show 0 + _ < _; have := h.2; omega) _ gt11
  simp [envR, toLv, s0] at e
  unfold F_read_drawing
  rw [t_rd]
  simp [lstK_eq, e]
  unfold s0
  cases runL ⟨-1, [], []⟩ rows with
  | none => simp [outR]
  | some s => simp [outR, envR, toLv, tupK_eq, resD]
theorem read_imm {rows : List Str} (h : RowsOk rows) : F_read_drawing [.imm (.lst (rows.map .str)) false] = match runL s0 rows with
    | some s => .ret (.imm (resD s)) [.none]
    | none => .raise 4 := by
  obtain ⟨t', _, e⟩ := loop_R (r0 := .imm (.lst (rows.map .str)) false) rows s0 inv0 h.1 (by show 0 + _ < _; have := h.2; omega) (by show 0 + _ < _; have := h.2; omega) _ gt11
  simp [envR, toLv, s0] at e
  unfold F_read_drawing
  rw [t_rd]
  simp [lstK_eq, e]
  unfold s0
  cases runL ⟨-1, [], []⟩ rows with
  | none => simp [outR]
  | some s => simp [outR, envR, toLv, tupK_eq, resD]
theorem due_imm {rows : List Str} (h : RowsOk rows) : (∃ s, runL s0 rows = some s ∧ InvL s ∧ F_l_due [.imm (.lst (rows.map .str)) false] = .ret (.imm (resD s)) [.none]) ∨ (runL s0 rows = none ∧ F_l_due [.imm (.lst (rows.map .str)) false] = .ret (.imm .non) [.none]) := by
  have hg : Gl' (List.replicate 11 .none) := ⟨List.replicate 10 .none, rfl, rfl, by simp⟩
  rcases loop_L (r0 := .imm (.lst (rows.map .str)) false) rows s0 inv0 h.1 (by show 0 + _ < _; have := h.2; omega) (by show 0 + _ < _; have := h.2; omega) _ hg with ⟨s, t', hs, I, _, e⟩ | ⟨hs, t', e⟩
  · refine .inl ⟨s, hs, I, ?_⟩
    simp [envL, s0] at e
    unfold F_l_due
    rw [t_ld]
    simp [lstK_eq, e, tupK_eq, resD]
  · refine .inr ⟨hs, ?_⟩
    simp [envL, s0] at e
    unfold F_l_due
    rw [t_ld]
    simp [lstK_eq, e]
end K55

set_option Elab.async false
set_option linter.all false
set_option maxRecDepth 100000
set_option maxHeartbeats 8000000
namespace K55
open PySem VI PySem.NumText
theorem alone4 (a : Addr) : F_l_alone 4 a [.imm (.adr a) false] = .ret (.imm (.bl true)) [.none] := by
  have h : (([0, 1, 2, 3, 5, 6, 7] : List Nat).any (subC 4)) = false := by decide
  unfold F_l_alone t_l_alone
  rw [h]
  have e : vIsX 0 a false [.imm (.adr a) false] = .ok (.imm (.bl false), [.imm (.adr a) false]) := by
    unfold vIsX
    simp
  simp [e]
theorem try_raise {F : Fn} {n : Nat} {dflt : List VI.D} {g : Sem' (List R)} {i : Nat} {cat : Nat → Bool} {suite : Addr → Nat → SemS} {δ δ1 δ2 : Env'} {rs : List R} {k : Nat} {o : Out} (h1 : g δ = .ok (rs, δ1)) (h2 : callK F n dflt (rs, δ1) = .raise k) (hk : k < 9) (hc : cat k = true) (hl : lose δ1 = some δ2) (hf : free' δ2 i = true)
    (hs : ∀ a, (suite a k (δ2.set i (.imm (.adr a) false))).drop i = o) : vTryC F n dflt g i cat suite δ = o := by
  unfold vTryC
  rw [h1]
  dsimp only
  rw [h2]
  dsimp only
  rw [if_pos hk, if_pos hc, hl]
  dsimp only
  rw [if_pos hf, outX_eq (fun a => (hs a).trans (hs 0).symm)]
  exact hs 0
theorem refused_ok {rows : List Str} (h : RowsOk rows) (hn : runL s0 rows = none) : F_l_refused [.own (.lst (rows.map .str)) true] = .ret (.imm (.bl true)) [.imm (.lst (rows.map .str)) true] := by
  have hr := read_imm h
  rw [hn] at hr
  dsimp only at hr
  have t1 : vTryC F_read_drawing 1 [] (aCons (vArgF (vVar 0)) aNil) 2 (fun k => subC k 4) (fun a k => vAsg 1 (vOp dAdd (vC (.int 1)) (vCB fInt (aCons (vCall (F_l_alone k a) 1 [] (aCons (vArg (vVar 2)) aNil)) aNil)))) [.own (.lst (rows.map .str)) true, .imm (.int 0) false, .none] =
      .next [.imm (.lst (rows.map .str)) true, .imm (.int 2) false, .none] := by
    refine try_raise (rs := [.imm (.lst (rows.map .str))]) (δ1 := [.imm (.lst (rows.map .str)) true, .imm (.int 0) false, .none]) (δ2 := [.imm (.lst (rows.map .str)) true, .imm (.int 0) false, .none]) (k := 4) ?_ ?_ (by decide) rfl rfl rfl fun a => ?_
    · unfold vArgF
      simp
    · simp [hr]
    · simp [alone4]
      simp [Out.drop]
  have t2 : vTryC F_read_drawing 1 [] (aCons (vArgF (vVar 0)) aNil) 2 (fun k => subC k 8) (fun a k => vAsg 1 (vOp dMul (vC (.int 3)) (vCB fInt (aCons (vIsX 2 a true) aNil)))) [.imm (.lst (rows.map .str)) true, .imm (.int 2) false, .none] =
      .next [.imm (.lst (rows.map .str)) true, .imm (.int 3) false, .none] := by
    refine try_raise (rs := [.imm (.lst (rows.map .str))]) (δ1 := [.imm (.lst (rows.map .str)) true, .imm (.int 2) false, .none]) (δ2 := [.imm (.lst (rows.map .str)) true, .imm (.int 2) false, .none]) (k := 4) ?_ ?_ (by decide) rfl rfl rfl fun a => ?_
    · unfold vArgF
      simp
    · simp [hr]
    · have e : vIsX 2 a true [.imm (.lst (rows.map .str)) true, .imm (.int 2) false, .imm (.adr a) false] = .ok (.imm (.bl true), [.imm (.lst (rows.map .str)) true, .imm (.int 2) false, .imm (.adr a) false]) := by
        unfold vIsX
        simp
      have em : dMul (.int 3) (.int 1) = some (.imm (.int 3)) := by
        show (if (big64 3 || big64 1) = true then some (Ro.imm (.int (3 * 1))) else none) = _
        rw [if_pos (by decide +kernel)]
        rfl
      simp [e, em]
      simp [Out.drop]
  unfold F_l_refused t_l_refused
  simp [t1, t2]
/-- rows of texts that may be compared -/
def RowsC (rows : List Str) : Prop := ∀ row ∈ rows, PyData.strOk row = true
theorem rows_fin {rows : List Str} (h : RowsC rows) : FinD 1 (.lst (rows.map .str)) := fin_lst fun d hd => by
  obtain ⟨w, hw, rfl⟩ := List.mem_map.mp hd
  exact fin_str (h w hw)
theorem rows_eq {rows : List Str} (h : RowsC rows) : dEqG false (.lst (rows.map .str)) (.lst (rows.map .str)) = some (.imm (.bl true)) := by
  rw [eq_lst (rows_fin h).ok (rows_fin h).ok false, (rows_fin h).self]
  rfl
theorem asked_ok {rows : List Str} (h : RowsOk rows) (hc : RowsC rows) : F_l_asked [.imm (.lst (rows.map .str)) false] = .ret (.imm (.bl true)) [.none] := by
  have he := rows_eq hc
  rcases due_imm h with ⟨s, hs, I, hd⟩ | ⟨hs, hd⟩
  · have hr := read_own h
    rw [hs] at hr
    dsimp only at hr
    have hf : FinD 3 (resD s) := fin_tup fun d hd => by
      simp only [List.mem_cons, List.not_mem_nil, or_false] at hd
      rcases hd with rfl | rfl | rfl
      · exact fin_int
      · exact fin_lst fun d hd => (I.w d hd).fin
      · exact fin_lst fun d hd => I.b d hd
    have hq : dEqG false (resD s) (resD s) = some (.imm (.bl true)) := by
      have z := eq_tup hf.ok hf.ok false
      rw [show (.tup [.int (s.f + 1), .lst s.ws, .lst s.bs] : VI.D) = resD s from rfl] at z
      rw [z, hf.self]
      rfl
    unfold F_l_asked t_l_asked
    have hi : ∀ δ, isK false (.imm (resD s), δ) = .ok (.imm (.bl false), δ) := fun _ => rfl
    simp [hd, hr, he, hq, hi]
  · have hr := refused_ok h hs
    unfold F_l_asked t_l_asked
    simp [hd, hr, he]
end K55

set_option Elab.async false
set_option linter.all false
set_option maxRecDepth 100000
set_option maxHeartbeats 8000000
namespace K55
open PySem VI PySem.NumText
theorem take_ok (a b m : Int) (hm : 0 < m) (hm2 : m < 1073741824) : ∃ r a' b' : Int, 0 ≤ r ∧ r < m ∧ F_l_take [.own (.lst [.int a, .int b]) true, .imm (.int m) false] = .ret (.imm (.int r)) [.own (.lst [.int a', .int b']) true, .none] := by
  by_cases h : a = 0 ∨ a = -1
  · refine ⟨((b * 48271 + 12345) % 2147483647 * ((b * 48271 + 12345) % 2147483647)) % 2147483629 % m, a, (b * 48271 + 12345) % 2147483647, Int.emod_nonneg _ (by omega), Int.emod_lt_of_pos _ hm, ?_⟩
    have hb : big64 ((b * 48271 + 12345) % 2147483647) = true := by
      have h1 := Int.emod_nonneg (b * 48271 + 12345) (b := 2147483647) (by omega)
      have h2 := Int.emod_lt_of_pos (b * 48271 + 12345) (b := 2147483647) (by omega)
      simp only [big64, Bool.and_eq_true, decide_eq_true_eq]
      omega
    have hc : big64 48271 = true := by decide
    unfold F_l_take t_l_take
    rcases h with rfl | rfl <;>
    simp [dMod, dMul, hb, hc, hm, L2.ixN]
  · have h1 : decide (a = 0) = false := by simp; omega
    have h2 : decide (a = -1) = false := by simp; omega
    refine ⟨a % m, a / m, b, Int.emod_nonneg _ (by omega), Int.emod_lt_of_pos _ hm, ?_⟩
    unfold F_l_take t_l_take
    simp [dMod, dMul, dDiv, h1, h2, hm, hm2, L2.ixN]
/-! texts of a bounded length, of signs that there are -/
theorem strOk_iff (w : Str) : PyData.strOk w = true ↔ ∀ c ∈ cl w, c < 1114112 := by
  unfold PyData.strOk cl
  rw [← Array.all_toList, List.all_eq_true]
  simp
def okS (k : Nat) (w : Str) : Prop := (cl w).length ≤ k ∧ ∀ c ∈ cl w, c < 1114112
theorem okS.mono {j k : Nat} {w : Str} (h : okS j w) (l : j ≤ k) : okS k w := ⟨Nat.le_trans h.1 l, h.2⟩
theorem ok_sub {k : Nat} {w : Str} {l : List Nat} (h : okS k w) (h1 : ∀ c ∈ l, c ∈ cl w) (h2 : l.length ≤ (cl w).length) : okS k (S l) := ⟨by rw [cl_S]; exact Nat.le_trans h2 h.1, fun c hc => h.2 c (h1 c (by rw [cl_S] at hc; exact hc))⟩
theorem cl_app (a b : Str) : cl (a ++ b) = cl a ++ cl b := by
  unfold cl
  rw [Str.cps_append]
  simp
theorem ok_app {j k : Nat} {a b : Str} (h : okS j a) (h' : okS k b) : okS (j + k) (a ++ b) := by
  refine ⟨by rw [cl_app, List.length_append]; exact Nat.add_le_add h.1 h'.1, fun c hc => ?_⟩
  rw [cl_app] at hc
  rcases List.mem_append.mp hc with hc | hc
  · exact h.2 c hc
  · exact h'.2 c hc
theorem okS.sh {k : Nat} {w : Str} (h : okS k w) (hk : k ≤ 50000 := by decide) : Sh w := Nat.le_trans h.1 (by omega)
theorem okS.rw {k : Nat} {w : Str} (h : okS k w) (hk : k ≤ 50000 := by decide) : Rw w := Nat.le_trans h.1 hk
theorem add_str {j k : Nat} {a b : Str} (h : okS j a) (h' : okS k b) (hk : j + k ≤ 100000 := by decide) : dAdd (.str a) (.str b) = some (.imm (.str (a ++ b))) := by
  show (if a.length + b.length ≤ sizeLine then some (Ro.imm (.str (a ++ b))) else none) = _
  rw [if_pos]
  rw [len_cl, len_cl]
  exact Nat.le_trans (Nat.add_le_add h.1 h'.1) (Nat.le_trans hk (by decide))
/-- what the words of a row take -/
def tot (ws : List Str) : Nat := (ws.map fun w => (cl w).length + 1).sum
theorem tot_cons (w : Str) (ws : List Str) : tot (w :: ws) = (cl w).length + 1 + tot ws := rfl
theorem join_ok : ∀ (ws : List Str), (∀ w ∈ ws, ∀ c ∈ cl w, c < 1114112) → (cl (Txt.join SP ws)).length ≤ tot ws ∧ ∀ c ∈ cl (Txt.join SP ws), c < 1114112 := by
  have e : ∀ ws, Txt.join SP ws = Str.join SP ws := fun ws => StrLaws.glued_eq_join SP ws
  intro ws
  rw [e]
  induction ws with
  | nil =>
    intro _
    exact ⟨Nat.zero_le _, fun c hc => by cases hc⟩
  | cons w ws ih =>
    intro h
    obtain ⟨i1, i2⟩ := ih fun x hx => h x (List.mem_cons_of_mem _ hx)
    cases ws with
    | nil => exact ⟨by rw [tot_cons]; show (cl w).length ≤ _; omega, h w List.mem_cons_self⟩
    | cons w2 ws =>
      have e2 : Str.join SP (w :: w2 :: ws) = w ++ SP ++ Str.join SP (w2 :: ws) := rfl
      rw [e2, cl_app, cl_app, cl_SP, tot_cons]
      refine ⟨by simp only [List.length_append, List.length_cons, List.length_nil]; omega, fun c hc => ?_⟩
      rcases List.mem_append.mp hc with hc | hc
      · rcases List.mem_append.mp hc with hc | hc
        · exact h w List.mem_cons_self c hc
        · simp at hc
          omega
      · exact i2 c hc
theorem strs_map (ws : List Str) : strsOf (ws.map .str) = some ws := by
  induction ws with
  | nil => rfl
  | cons w ws ih => simp [strsOf, ih]
theorem tot_sum (ws : List Str) : (ws.map (·.length)).sum + ws.length = tot ws := by
  induction ws with
  | nil => rfl
  | cons w ws ih =>
    rw [tot_cons, ← ih, List.map_cons, List.sum_cons, List.length_cons, len_cl]
    omega
theorem join_eq {ws : List Str} (h : tot ws ≤ 100000) : fJoin " " (.lst (ws.map .str)) = some (.imm (.str (Txt.join SP ws))) := by
  show (match strsOf (ws.map .str) with
    | some ys => if (ys.map (fun w : Str => w.length)).sum + ys.length * SP.length ≤ 16777216 then some (Ro.imm (.str (Txt.join SP ys))) else none
    | none => none) = _
  rw [strs_map]
  dsimp only
  rw [if_pos]
  have e : SP.length = 1 := by decide +kernel
  rw [e, Nat.mul_one, tot_sum]
  omega
/-- the text of a small number -/
theorem str_small {i : Int} (h0 : 0 ≤ i) (h1 : i < 30) : fStr [.int (i - 9)] = some (.imm (.str (toString (i - 9) : String))) ∧ okS 5 (toString (i - 9) : String) := by
  have key : ∀ n : Fin 30, ((((n.val : Int) - 9).natAbs.log2 < 1920) ∧ (cl ((toString ((n.val : Int) - 9) : String) : Str)).length ≤ 5) ∧ (cl ((toString ((n.val : Int) - 9) : String) : Str)).all (· < 1114112) = true := by decide +kernel
  obtain ⟨n, rfl⟩ := Int.eq_ofNat_of_zero_le h0
  obtain ⟨⟨k1, k2⟩, k3⟩ := key ⟨n, by omega⟩
  refine ⟨?_, k2, fun c hc => of_decide_eq_true (List.all_eq_true.mp k3 c hc)⟩
  show (if ((n : Int) - 9).natAbs.log2 < 1920 then some (Ro.imm (.str (toString ((n : Int) - 9) : String))) else none) = _
  rw [if_pos k1]
theorem str_leaf {i : Int} (h0 : 0 ≤ i) (h1 : i < 30) : fStr [.int i] = some (.imm (.str (toString i : String))) ∧ okS 5 (toString i : String) := by
  have key : ∀ n : Fin 30, ((((n.val : Int)).natAbs.log2 < 1920) ∧ (cl ((toString ((n.val : Int)) : String) : Str)).length ≤ 5) ∧ (cl ((toString ((n.val : Int)) : String) : Str)).all (· < 1114112) = true := by decide +kernel
  obtain ⟨n, rfl⟩ := Int.eq_ofNat_of_zero_le h0
  obtain ⟨⟨k1, k2⟩, k3⟩ := key ⟨n, by omega⟩
  refine ⟨?_, k2, fun c hc => of_decide_eq_true (List.all_eq_true.mp k3 c hc)⟩
  show (if ((n : Int)).natAbs.log2 < 1920 then some (Ro.imm (.str (toString ((n : Int)) : String))) else none) = _
  rw [if_pos k1]
end K55

set_option Elab.async false
set_option linter.all false
set_option maxRecDepth 100000
set_option maxHeartbeats 8000000
namespace K55
open PySem VI PySem.NumText
theorem for_inv {tg : VI.D → Env' → Option Env'} {u : SemS} (P : Nat → Env' → Prop) : ∀ (ds : List VI.D) (i : Nat) (δ : Env'), P i δ → (∀ j d δ, d ∈ ds → j < i + ds.length → P j δ → ∃ δ1 δ2, tg d δ = some δ1 ∧ u δ1 = .next δ2 ∧ P (j + 1) δ2) → ∃ δ', forGo tg u ds δ = .next δ' ∧ P (i + ds.length) δ'
  | [], i, δ, h, _ => ⟨δ, rfl, h⟩
  | d :: ds, i, δ, h, hs => by
    obtain ⟨δ1, δ2, e1, e2, h2⟩ := hs i d δ List.mem_cons_self (by simp only [List.length_cons]; omega) h
    obtain ⟨δ', e, h'⟩ := for_inv P ds (i + 1) δ2 h2 fun j d δ hd hj => hs j d δ (List.mem_cons_of_mem _ hd) (by simp only [List.length_cons]; omega)
    refine ⟨δ', ?_, ?_⟩
    · rw [forGo_cons, e1, forM1_eq, e2, forM2_next]
      exact e
    · rw [show i + (d :: ds).length = i + 1 + ds.length by simp only [List.length_cons]; omega]
      exact h'
def n5_elt : Sem' VI.D := (vI (vCB fStr (aCons (vOp dSub (vCall F_l_take 2 [] (aCons (vArg (vVar 0)) (aCons (vArg (vC (.int 30))) aNil))) (vC (.int 9))) aNil)))
def n5 : Sem' R := (vLc (vRng1 (aCons (vC (.int 5)) aNil)) (tName 5) vYes n5_elt [5])
def box_body : SemS := (vDrop (vMut fAppend (vVar 1) (iCons (vI (vOp dAdd (vC (.str "box ")) (vM1 fJoin (vC (.str " ")) n5))) iNil)))
def word_body : SemS := (vSeq (vAsg 4 n5)
  (vDrop (vMut fAppend (vVar 1) (iCons (vI (vOp dAdd (vOp dAdd (vOp dAdd (vC (.str "word ")) (vM1 fJoin (vC (.str " ")) (vVar 4))) (vC (.str " "))) (vOp dIx (vLst (iCons (vI (vC (.str "a"))) (iCons (vI (vC (.str "b."))) (iCons (vI (vC (.str "7"))) (iCons (vI (vC (.str "-3"))) (iCons (vI (vC (.str "it's"))) iNil)))))) (vCall F_l_take 2 [] (aCons (vArg (vVar 0)) (aCons (vArg (vC (.int 5))) aNil)))))) iNil))))
def stO (a b : Int) : O := .lst [.int a, .int b]
theorem n5_go : ∀ (ds acc : List VI.D) (a b : Int) (s1 s2 s3 s4 : VI.Slot), acc.length + ds.length ≤ 1000 → ∃ (tx : List Str) (a' b' : Int), tx.length = ds.length ∧ (∀ w ∈ tx, okS 5 w) ∧
    lcGo (tName 5) vYes n5_elt [5] ds acc [.own (.lst [.int a, .int b]) true, s1, s2, s3, s4, .none] = .ok (acc ++ tx.map .str, [.own (.lst [.int a', .int b']) true, s1, s2, s3, s4, .none])
  | [], acc, a, b, s1, s2, s3, s4, _ => ⟨[], a, b, rfl, by simp, by simp⟩
  | d :: ds, acc, a, b, s1, s2, s3, s4, hl => by
    simp only [List.length_cons] at hl
    obtain ⟨r, a1, b1, r0, r1, e⟩ := take_ok a b 30 (by omega) (by omega)
    obtain ⟨z, t1, t2⟩ : ∃ z, fStr [.int (r - 9)] = some (.imm (.str z)) ∧ okS 5 z := ⟨_, str_small r0 r1⟩
    obtain ⟨tx, a', b', l1, l2, l3⟩ := n5_go ds (acc ++ [.str z]) a1 b1 s1 s2 s3 s4 (by simp; omega)
    refine ⟨z :: tx, a', b', by simp [l1], fun w hw => ?_, ?_⟩
    · rcases List.mem_cons.mp hw with rfl | hw
      · exact t2
      · exact l2 w hw
    · rw [lcGo_cons]
      simp [n5_elt, e, t1]
      rw [lcE_eq (by omega) (by simp)]
      simp
      have l3' := l3
      unfold n5_elt at l3'
      rw [l3']
      simp
theorem n5_eq (a b : Int) (s1 s2 s3 s4 : VI.Slot) : ∃ (tx : List Str) (a' b' : Int), tx.length = 5 ∧ (∀ w ∈ tx, okS 5 w) ∧
    n5 [.own (.lst [.int a, .int b]) true, s1, s2, s3, s4, .none] = .ok (.frs (.lst (tx.map .str)), [.own (.lst [.int a', .int b']) true, s1, s2, s3, s4, .none]) := by
  obtain ⟨tx, a', b', l1, l2, l3⟩ := n5_go (rangeD 0 5) [] a b s1 s2 s3 s4 (by decide)
  refine ⟨tx, a', b', l1, l2, ?_⟩
  unfold n5
  simp
  rw [rngK_eq (by decide)]
  simp
  rw [lcK_eq (by simp)]
  simp
  rw [l3]
  simp
theorem tot5 {tx : List Str} (h1 : tx.length = 5) (h2 : ∀ w ∈ tx, okS 5 w) : tot tx ≤ 30 := by
  match tx, h1 with
  | [a, b, c, d, e], _ =>
    have ha := (h2 a (by simp)).1
    have hb := (h2 b (by simp)).1
    have hc := (h2 c (by simp)).1
    have hd := (h2 d (by simp)).1
    have he := (h2 e (by simp)).1
    simp only [tot, List.map_cons, List.map_nil, List.sum_cons, List.sum_nil]
    omega
theorem join5 {tx : List Str} (h1 : tx.length = 5) (h2 : ∀ w ∈ tx, okS 5 w) : fJoin " " (.lst (tx.map .str)) = some (.imm (.str (Txt.join SP tx))) ∧ okS 30 (Txt.join SP tx) := by
  have ht := tot5 h1 h2
  obtain ⟨j1, j2⟩ := join_ok tx fun w hw => (h2 w hw).2
  exact ⟨join_eq (by omega), Nat.le_trans j1 ht, j2⟩
theorem box_step (a b : Int) (rows : List Str) (s2 s3 s4 : VI.Slot) (hl : rows.length < 1000) : ∃ (w : Str) (a' b' : Int), okS 60 w ∧
    box_body [.own (.lst [.int a, .int b]) true, .own (.lst (rows.map .str)) false, s2, s3, s4, .none] = .next [.own (.lst [.int a', .int b']) true, .own (.lst ((rows ++ [w]).map .str)) false, s2, s3, s4, .none] := by
  obtain ⟨tx, a', b', l1, l2, l3⟩ := n5_eq a b (.own (.lst (rows.map .str)) false) s2 s3 s4
  obtain ⟨j1, j2⟩ := join5 l1 l2
  have hbox : okS 4 "box " := ⟨by decide +kernel, by decide +kernel⟩
  refine ⟨"box " ++ Txt.join SP tx, a', b', (ok_app hbox j2).mono (by omega), ?_⟩
  unfold box_body
  simp [l3, j1, add_str hbox j2]
  rw [app_ok (by simp; omega)]
  simp
theorem word_step (a b : Int) (rows : List Str) (s2 s3 s4 : VI.Slot) (hl : rows.length < 1000) (f4 : freeK (some s4) = true) : ∃ (w : Str) (a' b' : Int) (tx : List Str), okS 60 w ∧
    word_body [.own (.lst [.int a, .int b]) true, .own (.lst (rows.map .str)) false, s2, s3, s4, .none] = .next [.own (.lst [.int a', .int b']) true, .own (.lst ((rows ++ [w]).map .str)) false, s2, s3, .own (.lst (tx.map .str)) false, .none] := by
  obtain ⟨tx, a1, b1, l1, l2, l3⟩ := n5_eq a b (.own (.lst (rows.map .str)) false) s2 s3 s4
  obtain ⟨j1, j2⟩ := join5 l1 l2
  obtain ⟨r, a', b', r0, r1, e⟩ := take_ok a1 b1 5 (by omega) (by omega)
  have hword : okS 5 "word " := ⟨by decide +kernel, by decide +kernel⟩
  have hsp : okS 1 " " := ⟨by decide +kernel, by decide +kernel⟩
  obtain ⟨x, hx, ex⟩ : ∃ x, okS 4 x ∧ L2.atI [VI.D.str "a", .str "b.", .str "7", .str "-3", .str "it's"] r = some (.str x) := by
    have hr : r = 0 ∨ r = 1 ∨ r = 2 ∨ r = 3 ∨ r = 4 := by omega
    rcases hr with rfl | rfl | rfl | rfl | rfl
    · exact ⟨"a", ⟨by decide +kernel, by decide +kernel⟩, rfl⟩
    · exact ⟨"b.", ⟨by decide +kernel, by decide +kernel⟩, rfl⟩
    · exact ⟨"7", ⟨by decide +kernel, by decide +kernel⟩, rfl⟩
    · exact ⟨"-3", ⟨by decide +kernel, by decide +kernel⟩, rfl⟩
    · exact ⟨"it's", ⟨by decide +kernel, by decide +kernel⟩, rfl⟩
  refine ⟨"word " ++ Txt.join SP tx ++ " " ++ x, a', b', tx, (ok_app (ok_app (ok_app hword j2) hsp) hx).mono (by omega), ?_⟩
  unfold word_body
  simp [l3, f4, j1, add_str hword j2, add_str (ok_app hword j2) hsp, add_str (ok_app (ok_app hword j2) hsp) hx, lstK_eq, e, ex]
  rw [app_ok (by simp; omega)]
  simp
end K55

set_option Elab.async false
set_option linter.all false
set_option maxRecDepth 100000
set_option maxHeartbeats 8000000
namespace K55
open PySem VI PySem.NumText
structure InvR (n : Nat) (δ : Env') : Prop where
  ex : ∃ (a b : Int) (rows : List Str) (s2 s3 s4 : VI.Slot), δ = [.own (.lst [.int a, .int b]) true, .own (.lst (rows.map .str)) false, s2, s3, s4, .none] ∧ freeK (some s2) = true ∧ freeK (some s3) = true ∧ freeK (some s4) = true ∧ (∀ w ∈ rows, okS 60 w) ∧ rows.length ≤ n
theorem range_len (n : Nat) : (rangeD 0 n).length = n := by simp [rangeD]
theorem range_mem {n : Nat} {d : VI.D} (h : d ∈ rangeD 0 n) : ∃ i : Int, d = .int i ∧ 0 ≤ i ∧ i < n := by
  unfold rangeD at h
  obtain ⟨k, hk, rfl⟩ := List.mem_map.mp h
  have := List.mem_range.mp hk
  exact ⟨_, rfl, by omega, by omega⟩
theorem small_rng {r : Int} (h0 : 0 ≤ r) (h1 : r < 1000) : small62 r = true := by
  unfold small62
  simp only [Bool.and_eq_true, decide_eq_true_eq]
  omega
theorem ok_more {rows : List Str} {w : Str} {k : Nat} (h : ∀ w ∈ rows, okS k w) (hw : okS k w) : ∀ x ∈ rows ++ [w], okS k x := fun x hx => by
  rcases List.mem_append.mp hx with hx | hx
  · exact h x hx
  · simp at hx
    rw [hx]
    exact hw
theorem boxes_loop {n m : Nat} {δ : Env'} (h : InvR n δ) (hn : n + m < 900) : ∃ δ', forGo (tName 3) box_body (rangeD 0 m) δ = .next δ' ∧ InvR (n + m) δ' := by
  obtain ⟨δ', e, p⟩ := for_inv (tg := tName 3) (u := box_body) (fun j δ => InvR (n + j) δ) (rangeD 0 m) 0 δ h fun j d δ hd hj hP => by
    obtain ⟨a, b, rows, s2, s3, s4, rfl, f2, f3, f4, hr, hl⟩ := hP.ex
    rw [range_len] at hj
    obtain ⟨w, a', b', hw, e⟩ := box_step a b rows s2 (.imm d false) s4 (by omega)
    exact ⟨_, _, by simp [f3], e, ⟨a', b', rows ++ [w], s2, .imm d false, s4, rfl, f2, rfl, f4, ok_more hr hw, by simp; omega⟩⟩
  rw [range_len, Nat.zero_add] at p
  exact ⟨δ', e, p⟩
theorem words_loop {n m : Nat} {δ : Env'} (h : InvR n δ) (hn : n + m < 900) : ∃ δ', forGo (tName 3) word_body (rangeD 0 m) δ = .next δ' ∧ InvR (n + m) δ' := by
  obtain ⟨δ', e, p⟩ := for_inv (tg := tName 3) (u := word_body) (fun j δ => InvR (n + j) δ) (rangeD 0 m) 0 δ h fun j d δ hd hj hP => by
    obtain ⟨a, b, rows, s2, s3, s4, rfl, f2, f3, f4, hr, hl⟩ := hP.ex
    rw [range_len] at hj
    obtain ⟨w, a', b', tx, hw, e⟩ := word_step a b rows s2 (.imm d false) s4 (by omega) f4
    exact ⟨_, _, by simp [f3], e, ⟨a', b', rows ++ [w], s2, .imm d false, _, rfl, f2, rfl, rfl, ok_more hr hw, by simp; omega⟩⟩
  rw [range_len, Nat.zero_add] at p
  exact ⟨δ', e, p⟩
def leaf_body : SemS := (vSeq (vDrop (vMut fAppend (vVar 1) (iCons (vI (vOp dAdd (vC (.str "leaf ")) (vCB fStr (aCons (vVar 2) aNil)))) iNil)))
  (vSeq (vFor (vRng1 (aCons (vCall F_l_take 2 [] (aCons (vArg (vVar 0)) (aCons (vArg (vC (.int 4))) aNil))) aNil)) (tName 3) box_body)
  (vFor (vRng1 (aCons (vCall F_l_take 2 [] (aCons (vArg (vVar 0)) (aCons (vArg (vC (.int 4))) aNil))) aNil)) (tName 3) word_body)))
theorem t_rows : t_l_rows = vSeq (vAsg 1 (vLst iNil)) (vSeq (vFor (vRng1 (aCons (vOp dAdd (vC (.int 1)) (vCall F_l_take 2 [] (aCons (vArg (vVar 0)) (aCons (vArg (vC (.int 2))) aNil)))) aNil)) (tName 2) leaf_body) (vRet (vVar 1))) := rfl
theorem leaf_step {n : Nat} {δ : Env'} {i : Int} (h : InvR n δ) (hn : n < 800) (h0 : 0 ≤ i) (h1 : i < 30) : ∃ δ1 δ2, tName 2 (.int i) δ = some δ1 ∧ leaf_body δ1 = .next δ2 ∧ InvR (n + 7) δ2 := by
  obtain ⟨a, b, rows, s2, s3, s4, rfl, f2, f3, f4, hr, hl⟩ := h.ex
  obtain ⟨z, z1, z2⟩ : ∃ z, fStr [.int i] = some (.imm (.str z)) ∧ okS 5 z := ⟨_, str_leaf h0 h1⟩
  have hleaf : okS 5 "leaf " := ⟨by decide +kernel, by decide +kernel⟩
  obtain ⟨r, a1, b1, r0, r1, e1⟩ := take_ok a b 4 (by omega) (by omega)
  have I1 : InvR (n + 1) [.own (.lst [.int a1, .int b1]) true, .own (.lst ((rows ++ [("leaf " : Str) ++ z]).map .str)) false, .imm (.int i) false, s3, s4, .none] :=
    ⟨a1, b1, _, _, s3, s4, rfl, rfl, f3, f4, ok_more hr ((ok_app hleaf z2).mono (by omega)), by simp; omega⟩
  obtain ⟨δ2, e2, I2⟩ := boxes_loop (m := r.toNat) I1 (by omega)
  obtain ⟨c, d, rows2, t2, t3, t4, rfl, g2, g3, g4, hr2, hl2⟩ := I2.ex
  obtain ⟨q, c1, d1, q0, q1, e3⟩ := take_ok c d 4 (by omega) (by omega)
  have I3 : InvR (n + 1 + r.toNat) [.own (.lst [.int c1, .int d1]) true, .own (.lst (rows2.map .str)) false, t2, t3, t4, .none] := ⟨c1, d1, rows2, t2, t3, t4, rfl, g2, g3, g4, hr2, hl2⟩
  obtain ⟨δ4, e4, I4⟩ := words_loop (m := q.toNat) I3 (by omega)
  refine ⟨_, δ4, by simp [f2]; rfl, ?_, ?_⟩
  · unfold leaf_body
    simp [z1, add_str hleaf z2]
    rw [app_ok (by simp; omega)]
    simp [e1]
    rw [rngK_eq (small_rng r0 (by omega))]
    simp only [List.map_append, List.map_cons, List.map_nil] at e2
    simp [e2, e3]
    rw [rngK_eq (small_rng q0 (by omega))]
    simp [e4]
  · obtain ⟨a', b', rows', u2, u3, u4, h1, h2, h3, h4, h5, h6⟩ := I4.ex
    exact ⟨a', b', rows', u2, u3, u4, h1, h2, h3, h4, h5, by omega⟩
theorem rows_ok (a b : Int) : ∃ (rows : List Str) (a' b' : Int), (∀ w ∈ rows, okS 60 w) ∧ rows.length ≤ 14 ∧ F_l_rows [.own (.lst [.int a, .int b]) true] = .ret (.frs (.lst (rows.map .str))) [.own (.lst [.int a', .int b']) true] := by
  obtain ⟨r, a1, b1, r0, r1, e1⟩ := take_ok a b 2 (by omega) (by omega)
  have I0 : InvR 0 [.own (.lst [.int a1, .int b1]) true, .own (.lst (([] : List Str).map .str)) false, .none, .none, .none, .none] := ⟨a1, b1, [], .none, .none, .none, rfl, rfl, rfl, rfl, by simp, by simp⟩
  obtain ⟨δ', e2, I2⟩ := for_inv (tg := tName 2) (u := leaf_body) (fun j δ => InvR (7 * j) δ) (rangeD 0 (1 + r).toNat) 0 _ I0 fun j d δ hd hj hP => by
    obtain ⟨i, rfl, i0, i1⟩ := range_mem hd
    rw [range_len] at hj
    obtain ⟨δ1, δ2, x1, x2, x3⟩ := leaf_step (i := i) hP (by omega) i0 (by omega)
    exact ⟨δ1, δ2, x1, x2, by rw [show 7 * (j + 1) = 7 * j + 7 by omega]; exact x3⟩
  rw [range_len] at I2
  obtain ⟨a', b', rows', u2, u3, u4, rfl, h2, h3, h4, h5, h6⟩ := I2.ex
  refine ⟨rows', a', b', h5, by omega, ?_⟩
  unfold F_l_rows
  rw [t_rows]
  simp only [List.map_nil] at e2
  simp [lstK_eq, e1]
  rw [rngK_eq (small_rng (by omega) (by omega))]
  simp [e2]
end K55

set_option Elab.async false
set_option linter.all false
set_option maxRecDepth 100000
set_option maxHeartbeats 8000000
namespace K55
open PySem VI PySem.NumText
/-- words that together take no more than T -/
def WO (T : Nat) (ws : List Str) : Prop := tot ws ≤ T ∧ ∀ w ∈ ws, ∀ c ∈ cl w, c < 1114112
theorem WO.mem {T : Nat} {ws : List Str} (h : WO T ws) {w : Str} (hw : w ∈ ws) : okS T w := by
  refine ⟨?_, h.2 w hw⟩
  have := sum_le (List.mem_map.mpr ⟨w, hw, rfl⟩ : (cl w).length + 1 ∈ ws.map fun w => (cl w).length + 1)
  have h1 := h.1
  unfold tot at h1
  omega
theorem tot_set : ∀ (ws : List Str) (i : Nat) (x : Str), tot (ws.set i x) ≤ tot ws + (cl x).length + 1
  | [], i, x => by simp [tot]
  | w :: ws, 0, x => by
    rw [List.set_cons_zero, tot_cons, tot_cons]
    omega
  | w :: ws, i + 1, x => by
    rw [List.set_cons_succ, tot_cons, tot_cons]
    have := tot_set ws i x
    omega
theorem tot_app (a b : List Str) : tot (a ++ b) = tot a + tot b := by simp [tot]
theorem WO.set {T k i : Nat} {ws : List Str} {x : Str} (h : WO T ws) (hx : okS k x) : WO (T + k + 1) (ws.set i x) := by
  refine ⟨Nat.le_trans (tot_set ws i x) (by have := h.1; have := hx.1; omega), fun w hw => ?_⟩
  rcases List.mem_or_eq_of_mem_set hw with hw | rfl
  · exact h.2 w hw
  · exact hx.2
theorem WO.erase {T i : Nat} {ws : List Str} (h : WO T ws) : WO T (ws.eraseIdx i) := by
  have key : ∀ (l : List Str) (i : Nat), tot (l.eraseIdx i) ≤ tot l := by
    intro l
    induction l with
    | nil => intro i; simp
    | cons w l ih =>
      intro i
      cases i with
      | zero => rw [List.eraseIdx_cons_zero, tot_cons]; omega
      | succ i => rw [List.eraseIdx_cons_succ, tot_cons, tot_cons]; have := ih i; omega
  exact ⟨Nat.le_trans (key ws i) h.1, fun w hw => h.2 w (List.mem_of_mem_eraseIdx hw)⟩
theorem WO.ins {T k i : Nat} {ws : List Str} {x : Str} (h : WO T ws) (hx : okS k x) : WO (T + k + 1) (ws.take i ++ [x] ++ ws.drop i) := by
  have e : tot (ws.take i) + tot (ws.drop i) = tot ws := by rw [← tot_app, List.take_append_drop]
  refine ⟨?_, fun w hw => ?_⟩
  · rw [tot_app, tot_app]
    have h1 : tot [x] = (cl x).length + 1 := by simp [tot]
    have := h.1
    have := hx.1
    omega
  · rcases List.mem_append.mp hw with hw | hw
    · rcases List.mem_append.mp hw with hw | hw
      · exact h.2 w (List.mem_of_mem_take hw)
      · simp at hw
        rw [hw]
        exact hx.2
    · exact h.2 w (List.mem_of_mem_drop hw)
theorem parts_WO {k : Nat} {w : Str} (h : okS k w) : WO (k + 1) (parts w) := by
  refine ⟨?_, fun p hp c hc => h.2 c (parts_mem hp c hc)⟩
  have := parts_sum w
  have h1 := h.1
  have e : ∀ l : List Str, tot l = (l.map fun p => (cl p).length).sum + l.length := by
    intro l
    induction l with
    | nil => rfl
    | cons x l ih => rw [tot_cons, ih, List.map_cons, List.sum_cons, List.length_cons]; omega
  rw [e]
  omega
theorem WO.join {T : Nat} {ws : List Str} (h : WO T ws) (hT : T ≤ 100000) : fJoin " " (.lst (ws.map .str)) = some (.imm (.str (Txt.join SP ws))) ∧ okS T (Txt.join SP ws) := by
  obtain ⟨j1, j2⟩ := join_ok ws h.2
  exact ⟨join_eq (Nat.le_trans h.1 hT), Nat.le_trans j1 h.1, j2⟩
theorem take_okS {k n : Nat} {w : Str} (h : okS k w) : okS k (S ((cl w).take n)) := ok_sub h (fun c hc => List.mem_of_mem_take hc) (by rw [List.length_take]; exact Nat.min_le_right _ _)
theorem drop_okS {k n : Nat} {w : Str} (h : okS k w) : okS k (S ((cl w).drop n)) := ok_sub h (fun c hc => List.mem_of_mem_drop hc) (by rw [List.length_drop]; omega)
theorem sl_to {w : Str} (h : Sh w) (n : Nat) : dSl none (some (n : Int)) (.str w) = some (.imm (.str (S ((cl w).take n)))) := by rw [sl_str h, cuts]
theorem sl_fr {w : Str} (h : Sh w) (n : Nat) : dSl (some (n : Int)) none (.str w) = some (.imm (.str (S ((cl w).drop n)))) := by rw [sl_str h, cutk]
theorem sl_fr1 {w : Str} (h : Sh w) (n : Nat) : dSl (some ((n : Int) + 1)) none (.str w) = some (.imm (.str (S ((cl w).drop (n + 1))))) := sl_fr h (n + 1)
def SGN : Str := "07- _ax+.\t\n|*{~"
def odd1 : List Str := ["", "-0", "00", "07", "+1", "-", "1.0", "1_0", "999999999", "1000000000", "-999999999", "-1000000000"]
def x20 : Str := repS "x" 20
def x21 : Str := repS "x" 21
def odd2 : List Str := ["leaf", "box", "word", x20, x21, "a*b", "1", "-05"]
theorem odd_ok : ∀ w ∈ odd1 ++ odd2, okS 21 w := by
  have h : ((odd1 ++ odd2).all fun w => decide ((cl w).length ≤ 21) && (cl w).all (· < 1114112)) = true := by decide +kernel
  intro w hw
  have := List.all_eq_true.mp h w hw
  simp only [Bool.and_eq_true, decide_eq_true_eq] at this
  exact ⟨this.1, fun c hc => of_decide_eq_true (List.all_eq_true.mp this.2 c hc)⟩
theorem mulS (n : Nat) (h : n ≤ 1000) : dMul (.str "x") (.int (n : Int)) = some (.imm (.str (repS "x" n))) := by
  show (if (decide ((("x" : Str)).length ≤ 1000) && decide ((-1000 : Int) ≤ (n : Int)) && decide ((n : Int) ≤ 1000)) = true then some (Ro.imm (.str (repS "x" n))) else none) = _
  rw [if_pos]
  simp only [Bool.and_eq_true, decide_eq_true_eq]
  refine ⟨⟨by decide +kernel, by omega⟩, by omega⟩
theorem sgn_at {r : Int} (h0 : 0 ≤ r) (h1 : r < 15) : ∃ x, okS 1 x ∧ dIx (.str SGN) (.int r) = some (.imm (.str x)) := by
  have hl : (cl SGN).length = 15 := by decide +kernel
  have hc : ∀ c ∈ cl SGN, c < 1114112 := by decide +kernel
  obtain ⟨c, m, e⟩ := at_int (xs := cl SGN) h0 (by rw [hl]; omega)
  refine ⟨S [c], ⟨by rw [cl_S]; simp, fun y hy => by rw [cl_S] at hy; simp at hy; rw [hy]; exact hc c m⟩, ?_⟩
  rw [ix_str (by unfold Sh; rw [hl]; omega), e]
  rfl
theorem at_str {ws : List Str} {k : Nat} (h : k < ws.length) : L2.atI (ws.map VI.D.str) (k : Int) = some (.str ws[k]) := by
  rw [at_nat (by simpa using h)]
  simp
theorem ixN_nat {n k : Nat} (h : k < n) : L2.ixN n (k : Int) = some k := by
  unfold L2.ixN
  rw [if_pos (by omega), if_pos (by omega)]
  simp
end K55

set_option Elab.async false
set_option linter.all false
set_option maxRecDepth 100000
set_option maxHeartbeats 8000000
namespace K55
open PySem VI PySem.NumText
theorem set_ex {T k j : Nat} {ws : List Str} {x : Str} (h : WO T ws) (hx : okS k x) : ∃ ws', WO (T + k + 1) ws' ∧ ws'.length = ws.length ∧ (ws.map VI.D.str).set j (.str x) = ws'.map .str :=
  ⟨ws.set j x, h.set hx, by simp, by rw [List.map_set]⟩
theorem map_erase (ws : List Str) (k : Nat) : (ws.map VI.D.str).eraseIdx k = (ws.eraseIdx k).map .str := by
  induction ws generalizing k with
  | nil => rfl
  | cons w ws ih =>
    cases k with
    | zero => rfl
    | succ k => simp only [List.map_cons, List.eraseIdx_cons_succ, ih]
theorem small_63 {k : Nat} (h : k ≤ 100000) : small63 (k : Int) = true := by
  unfold small63
  simp only [Bool.and_eq_true, decide_eq_true_eq]
  omega
theorem pop_ex {T k : Nat} {ws : List Str} (h : WO T ws) (hk : k < ws.length) (hl : ws.length ≤ 100000) : ∃ ws', WO T ws' ∧ ws'.length ≤ ws.length ∧ (∀ w ∈ ws', w ∈ ws) ∧ fPopAt (ws.map .str) [.int (k : Int)] = some (.str ws[k], ws'.map .str) := by
  refine ⟨ws.eraseIdx k, h.erase, by rw [List.length_eraseIdx_of_lt hk]; omega, fun w hw => List.mem_of_mem_eraseIdx hw, ?_⟩
  show (if small63 (k : Int) then (match seqIndex? (k : Int) (ws.map VI.D.str).length with
    | some k => ((ws.map VI.D.str)[k]?).map fun d => (d, (ws.map VI.D.str).eraseIdx k)
    | none => none) else none) = _
  rw [small_63 (by omega)]
  have e : seqIndex? (k : Int) (ws.map VI.D.str).length = some k := by
    unfold seqIndex?
    have h1 : (0 ≤ (k : Int) && decide ((k : Int) < ((ws.map VI.D.str).length : Int))) = true := by simp; omega
    have h2 : ¬ ((k : Int) < 0) := by omega
    simp only [if_neg h2]
    rw [if_pos (by simp; omega)]
    simp
  rw [if_pos rfl, e]
  dsimp only
  rw [map_erase]
  simp [hk]
theorem ins_eq {k : Nat} {ws : List Str} {x : Str} (hk : k ≤ 100000) (hl : ws.length ≤ 100000) : fInsert (ws.map .str) [.int (k : Int), .str x] = some (.non, (ws.take k ++ [x] ++ ws.drop k).map .str) := by
  show (if (decide ((ws.map VI.D.str).length < sizeLine) && decide (0 ≤ (k : Int)) && decide ((k : Int) < 2 ^ 63)) = true then some (VI.D.non, (ws.map VI.D.str).take (k : Int).toNat ++ [.str x] ++ (ws.map VI.D.str).drop (k : Int).toNat) else none) = _
  rw [if_pos]
  · simp [List.map_take, List.map_drop]
  · simp only [Bool.and_eq_true, decide_eq_true_eq, List.length_map]
    refine ⟨⟨Nat.lt_of_le_of_lt hl (by decide), by omega⟩, by omega⟩
theorem ins_ex {T k m : Nat} {ws : List Str} {x : Str} (h : WO T ws) (hx : okS m x) (hk : k ≤ 100000) (hl : ws.length ≤ 100000) : ∃ ws', WO (T + m + 1) ws' ∧ fInsert (ws.map .str) [.int (k : Int), .str x] = some (.non, ws'.map .str) := ⟨_, h.ins hx, ins_eq hk hl⟩
theorem m20 : dMul (.str "x") (.int 20) = some (.imm (.str x20)) := mulS 20 (by decide)
theorem m21 : dMul (.str "x") (.int 21) = some (.imm (.str x21)) := mulS 21 (by decide)
theorem hodd : dAdd (.lst [.str "", .str "-0", .str "00", .str "07", .str "+1", .str "-", .str "1.0", .str "1_0", .str "999999999", .str "1000000000", .str "-999999999", .str "-1000000000"]) (.lst [.str "leaf", .str "box", .str "word", .str x20, .str x21, .str "a*b", .str "1", .str "-05"]) = some (.lst ((odd1 ++ odd2).map .str)) := by
  have h : ∀ xs ys : List VI.D, xs.length + ys.length ≤ sizeLine → dAdd (.lst xs) (.lst ys) = some (.lst (xs ++ ys)) := fun xs ys h => if_pos h
  exact h _ _ (by decide : 12 + 8 ≤ sizeLine)
def bent_tail : SemS := (vSeq (vIfS (vB (vOp dEq (vVar 2) (vC (.int 3))))
  (vSub2 5 (vVar 6) 5 (vVar 7) (vTup (iCons (vI (vOp dIx (vVar 5) (vVar 7))) (iCons (vI (vOp dIx (vVar 5) (vVar 6))) iNil))))
  vNext)
  (vSeq (vIfS (vB (vOp dEq (vVar 2) (vC (.int 4))))
  (vDrop (vMut fPopAt (vVar 5) (iCons (vI (vVar 6)) iNil)))
  vNext)
  (vSeq (vIfS (vB (vOp dEq (vVar 2) (vC (.int 5))))
  (vDrop (vMut fInsert (vVar 5) (iCons (vI (vVar 6)) (iCons (vI (vOp dIx (vVar 5) (vVar 7))) iNil))))
  vNext)
  (vSeq (vIfS (vB (vOp dGt (vVar 2) (vC (.int 5))))
  (vSetItem 5 (vVar 6) (vI (vOp dIx (vVar 8) (vCall F_l_take 2 [] (aCons (vArg (vVar 1)) (aCons (vArg (vC (.int 20))) aNil))))))
  vNext)
  (vRet (vM1 fJoin (vC (.str " ")) (vVar 5)))))))
theorem t_bent : t_l_bent = (vSeq (vAsg 2 (vCall F_l_take 2 [] (aCons (vArg (vVar 1)) (aCons (vArg (vC (.int 8))) aNil))))
  (vSeq (vAsg 3 (vCall F_l_take 2 [] (aCons (vArg (vVar 1)) (aCons (vArg (vOp dAdd (vCB fLen (aCons (vVar 0) aNil)) (vC (.int 1)))) aNil))))
  (vSeq (vAsg 4 (vOp dIx (vC (.str "07- _ax+.\t\n|*{~")) (vCall F_l_take 2 [] (aCons (vArg (vVar 1)) (aCons (vArg (vC (.int 15))) aNil)))))
  (vSeq (vIfS (vB (vOp dEq (vVar 2) (vC (.int 0))))
  (vRet (vOp dAdd (vOp dAdd (vSl (vVar 0) oNone (oSome (vVar 3))) (vVar 4)) (vSl (vVar 0) (oSome (vVar 3)) oNone)))
  vNext)
  (vSeq (vIfS (vB (vOp dEq (vVar 2) (vC (.int 1))))
  (vRet (vOp dAdd (vSl (vVar 0) oNone (oSome (vVar 3))) (vSl (vVar 0) (oSome (vOp dAdd (vVar 3) (vC (.int 1)))) oNone)))
  vNext)
  (vSeq (vIfS (vB (vOp dEq (vVar 2) (vC (.int 2))))
  (vRet (vOp dAdd (vOp dAdd (vSl (vVar 0) oNone (oSome (vVar 3))) (vVar 4)) (vSl (vVar 0) (oSome (vOp dAdd (vVar 3) (vC (.int 1)))) oNone)))
  vNext)
  (vSeq (vAsg 5 (vM1 fSplit (vVar 0) (vC (.str " "))))
  (vSeq (vAsg 6 (vCall F_l_take 2 [] (aCons (vArg (vVar 1)) (aCons (vArg (vCB fLen (aCons (vVar 5) aNil))) aNil))))
  (vSeq (vAsg 7 (vCall F_l_take 2 [] (aCons (vArg (vVar 1)) (aCons (vArg (vCB fLen (aCons (vVar 5) aNil))) aNil))))
  (vSeq (vAsg 8 (vLst (iCons (vI (vC (.str ""))) (iCons (vI (vC (.str "-0"))) (iCons (vI (vC (.str "00"))) (iCons (vI (vC (.str "07"))) (iCons (vI (vC (.str "+1"))) (iCons (vI (vC (.str "-"))) (iCons (vI (vC (.str "1.0"))) (iCons (vI (vC (.str "1_0"))) (iCons (vI (vC (.str "999999999"))) (iCons (vI (vC (.str "1000000000"))) (iCons (vI (vC (.str "-999999999"))) (iCons (vI (vC (.str "-1000000000"))) iNil))))))))))))))
  (vSeq (vAsg 8 (vOp dAdd (vVar 8) (vLst (iCons (vI (vC (.str "leaf"))) (iCons (vI (vC (.str "box"))) (iCons (vI (vC (.str "word"))) (iCons (vI (vOp dMul (vC (.str "x")) (vC (.int 20)))) (iCons (vI (vOp dMul (vC (.str "x")) (vC (.int 21)))) (iCons (vI (vC (.str "a*b"))) (iCons (vI (vC (.str "1"))) (iCons (vI (vC (.str "-05"))) iNil)))))))))))
  bent_tail))))))))))) := rfl
def envB (row : Str) (st : VI.Slot) (way : Int) (n : Nat) (x : Str) (ws : List Str) (i j : Nat) : Env' := [.imm (.str row) false, st, .imm (.int way) false, .imm (.int (n : Int)) false, .imm (.str x) false, .own (.lst (ws.map .str)) false, .imm (.int (i : Int)) false, .imm (.int (j : Int)) false, .own (.lst ((odd1 ++ odd2).map .str)) false]
theorem bent_pre (row : Str) (way a b a1 b1 a2 b2 a3 b3 a4 b4 a5 b5 : Int) (n i j : Nat) (x : Str) (r : Int) (ws : List Str) (hs : Sh row) (hway : 2 < way)
    (e1 : F_l_take [.own (.lst [.int a, .int b]) true, .imm (.int 8) false] = .ret (.imm (.int way)) [.own (.lst [.int a1, .int b1]) true, .none])
    (e2 : F_l_take [.own (.lst [.int a1, .int b1]) true, .imm (.int (((cl row).length : Int) + 1)) false] = .ret (.imm (.int (n : Int))) [.own (.lst [.int a2, .int b2]) true, .none])
    (e3 : F_l_take [.own (.lst [.int a2, .int b2]) true, .imm (.int 15) false] = .ret (.imm (.int r)) [.own (.lst [.int a3, .int b3]) true, .none])
    (e4 : F_l_take [.own (.lst [.int a3, .int b3]) true, .imm (.int (ws.length : Int)) false] = .ret (.imm (.int (i : Int))) [.own (.lst [.int a4, .int b4]) true, .none])
    (e5 : F_l_take [.own (.lst [.int a4, .int b4]) true, .imm (.int (ws.length : Int)) false] = .ret (.imm (.int (j : Int))) [.own (.lst [.int a5, .int b5]) true, .none])
    (ex : dIx (.str "07- _ax+.\t\n|*{~") (.int r) = some (.imm (.str x)))
    (hspl : fSplit row (.str " ") = some (.lst (ws.map .str))) :
    F_l_bent [.imm (.str row) false, .own (.lst [.int a, .int b]) true] = defR [.imm (.str row) false, .own (.lst [.int a, .int b]) true] (bent_tail (envB row (.own (.lst [.int a5, .int b5]) true) way n x ws i j)) := by
  have g1 : ¬ way = 0 := by omega
  have g2 : ¬ way = 1 := by omega
  have g3 : ¬ way = 2 := by omega
  unfold F_l_bent
  rw [t_bent]
  have ho := hodd
  unfold envB
  generalize (odd1 ++ odd2).map VI.D.str = od at ho ⊢
  simp [e1, len_str hs, e2, e3, ex, hspl, e4, e5, lstK_eq, m20, m21, ho, g1, g2, g3]
def tailK (kf : List VI.D → List VI.D → Option (VI.D × List VI.D)) : SemS := (vSeq (vIfS (vB (vOp dEq (vVar 2) (vC (.int 3))))
  (vSub2 5 (vVar 6) 5 (vVar 7) (vTup (iCons (vI (vOp dIx (vVar 5) (vVar 7))) (iCons (vI (vOp dIx (vVar 5) (vVar 6))) iNil))))
  vNext)
  (vSeq (vIfS (vB (vOp dEq (vVar 2) (vC (.int 4))))
  (vDrop (vMut kf (vVar 5) (iCons (vI (vVar 6)) iNil)))
  vNext)
  (vSeq (vIfS (vB (vOp dEq (vVar 2) (vC (.int 5))))
  (vDrop (vMut fInsert (vVar 5) (iCons (vI (vVar 6)) (iCons (vI (vOp dIx (vVar 5) (vVar 7))) iNil))))
  vNext)
  (vSeq (vIfS (vB (vOp dGt (vVar 2) (vC (.int 5))))
  (vSetItem 5 (vVar 6) (vI (vOp dIx (vVar 8) (vCall F_l_take 2 [] (aCons (vArg (vVar 1)) (aCons (vArg (vC (.int 20))) aNil))))))
  vNext)
  (vRet (vM1 fJoin (vC (.str " ")) (vVar 5)))))))
theorem tailK_eq : bent_tail = tailK fPopAt := rfl
theorem tail4K (kf : List VI.D → List VI.D → Option (VI.D × List VI.D)) (row : Str) (st : VI.Slot) (n : Nat) (x : Str) (ws v1 : List Str) (i j : Nat) (d : VI.D) (res : Str) (s1 : kf (ws.map .str) [.int (i : Int)] = some (d, v1.map .str)) (j1 : fJoin " " (.lst (v1.map .str)) = some (.imm (.str res))) :
    tailK kf (envB row st 4 n x ws i j) = .ret (.imm (.str res)) (envB row st 4 n x v1 i j) := by
  unfold tailK envB
  generalize (odd1 ++ odd2).map VI.D.str = od
  simp [s1, j1]
theorem tail4 (row : Str) (st : VI.Slot) (n : Nat) (x : Str) (ws v1 : List Str) (i j : Nat) (d : VI.D) (res : Str) (s1 : fPopAt (ws.map .str) [.int (i : Int)] = some (d, v1.map .str)) (j1 : fJoin " " (.lst (v1.map .str)) = some (.imm (.str res))) :
    bent_tail (envB row st 4 n x ws i j) = .ret (.imm (.str res)) (envB row st 4 n x v1 i j) := by
  rw [tailK_eq]
  exact tail4K fPopAt row st n x ws v1 i j d res s1 j1
theorem bent_ok {k : Nat} {row : Str} (h : okS k row) (hk : k ≤ 10000) (a b : Int) : ∃ (row' : Str) (a' b' : Int), okS (3 * k + 60) row' ∧
    F_l_bent [.imm (.str row) false, .own (.lst [.int a, .int b]) true] = .ret (.imm (.str row')) [.none, .own (.lst [.int a', .int b']) true] := by
  have hs : Sh row := h.sh (by omega)
  have hrw : Rw row := h.rw (by omega)
  obtain ⟨way, a1, b1, w0, w1, e1⟩ := take_ok a b 8 (by omega) (by omega)
  have hlen : (cl row).length ≤ 10000 := by have := h.1; omega
  obtain ⟨at_, a2, b2, p0, p1, e2⟩ := take_ok a1 b1 (((cl row).length : Int) + 1) (by omega) (by omega)
  obtain ⟨r, a3, b3, r0, r1, e3⟩ := take_ok a2 b2 15 (by omega) (by omega)
  obtain ⟨x, hx, ex⟩ := sgn_at r0 r1
  unfold SGN at ex
  obtain ⟨n, rfl⟩ := Int.eq_ofNat_of_zero_le p0
  have hT := take_okS (n := n) h
  have hD := drop_okS (n := n) h
  have hD1 := drop_okS (n := n + 1) h
  have hway : way = 0 ∨ way = 1 ∨ way = 2 ∨ 2 < way := by omega
  rcases hway with rfl | rfl | rfl | hway
  · refine ⟨S ((cl row).take n) ++ x ++ S ((cl row).drop n), a3, b3, (ok_app (ok_app hT hx) hD).mono (by omega), ?_⟩
    unfold F_l_bent t_l_bent
    simp [e1, len_str hs, e2, e3, ex, sl_to hs, sl_fr hs, add_str hT hx (by omega), add_str (ok_app hT hx) hD (by omega)]
  · refine ⟨S ((cl row).take n) ++ S ((cl row).drop (n + 1)), a3, b3, (ok_app hT hD1).mono (by omega), ?_⟩
    unfold F_l_bent t_l_bent
    simp [e1, len_str hs, e2, e3, ex, sl_to hs, sl_fr1 hs, add_str hT hD1 (by omega)]
  · refine ⟨S ((cl row).take n) ++ x ++ S ((cl row).drop (n + 1)), a3, b3, (ok_app (ok_app hT hx) hD1).mono (by omega), ?_⟩
    unfold F_l_bent t_l_bent
    simp [e1, len_str hs, e2, e3, ex, sl_to hs, sl_fr1 hs, add_str hT hx (by omega), add_str (ok_app hT hx) hD1 (by omega)]
  · have hW := parts_WO h
    have hspl := split_row hrw
    have hpl : (parts row).length ≤ 100000 := (parts_sh hrw).2
    have hp0 : 0 < (parts row).length := by
      obtain ⟨p, ps, e⟩ := parts_ne row
      rw [e]
      simp
    obtain ⟨one, a4, b4, o0, o1, e4⟩ := take_ok a3 b3 ((parts row).length : Int) (by omega) (by omega)
    obtain ⟨oth, a5, b5, t0, t1, e5⟩ := take_ok a4 b4 ((parts row).length : Int) (by omega) (by omega)
    obtain ⟨i, rfl⟩ := Int.eq_ofNat_of_zero_le o0
    obtain ⟨j, rfl⟩ := Int.eq_ofNat_of_zero_le t0
    have hi : i < (parts row).length := by omega
    have hj : j < (parts row).length := by omega
    have ai := at_str hi
    have aj := at_str hj
    have xi := ixN_nat hi
    have xj := ixN_nat hj
    generalize hws : parts row = ws at *
    have g1 : ¬ way = 0 := by omega
    have g2 : ¬ way = 1 := by omega
    have g3 : ¬ way = 2 := by omega
    have oi : okS (k + 1) ws[i] := hW.mem (List.getElem_mem hi)
    have oj : okS (k + 1) ws[j] := hW.mem (List.getElem_mem hj)
    have hcase : way = 3 ∨ way = 4 ∨ way = 5 ∨ 5 < way := by omega
    rcases hcase with rfl | rfl | rfl | h6
    · obtain ⟨v1, V1, l1, s1⟩ := set_ex (j := i) hW oj
      obtain ⟨v2, V2, l2, s2⟩ := set_ex (j := j) V1 oi
      obtain ⟨j1, j2⟩ := V2.join (by omega)
      refine ⟨Txt.join SP v2, a5, b5, j2.mono (by omega), ?_⟩
      rw [← l1] at xj
      rw [bent_pre row 3 a b a1 b1 a2 b2 a3 b3 a4 b4 a5 b5 n i j x r ws hs (by omega) e1 e2 e3 e4 e5 ex hspl]
      unfold bent_tail envB
      generalize (odd1 ++ odd2).map VI.D.str = od
      simp [tupK_eq, ai, aj, xi, xj, s1, s2, j1]
    · obtain ⟨v1, V1, l1, _, s1⟩ := pop_ex hW hi hpl
      obtain ⟨j1, j2⟩ := V1.join (by omega)
      refine ⟨Txt.join SP v1, a5, b5, j2.mono (by omega), ?_⟩
      rw [bent_pre row 4 a b a1 b1 a2 b2 a3 b3 a4 b4 a5 b5 n i j x r ws hs (by omega) e1 e2 e3 e4 e5 ex hspl, tail4 row _ n x ws v1 i j _ _ s1 j1]
      simp [envB]
    · obtain ⟨v1, V1, s1⟩ := ins_ex (k := i) hW oj (by omega) hpl
      obtain ⟨j1, j2⟩ := V1.join (by omega)
      refine ⟨Txt.join SP v1, a5, b5, j2.mono (by omega), ?_⟩
      rw [bent_pre row 5 a b a1 b1 a2 b2 a3 b3 a4 b4 a5 b5 n i j x r ws hs (by omega) e1 e2 e3 e4 e5 ex hspl]
      unfold bent_tail envB
      generalize (odd1 ++ odd2).map VI.D.str = od
      simp [ai, aj, xi, xj, s1, j1]
    · obtain ⟨q, a6, b6, q0, q1, e6⟩ := take_ok a5 b5 20 (by omega) (by omega)
      obtain ⟨qn, rfl⟩ := Int.eq_ofNat_of_zero_le q0
      have hq : qn < (odd1 ++ odd2).length := by
        have : (odd1 ++ odd2).length = 20 := rfl
        omega
      have aq := at_str hq
      have oq : okS 21 (odd1 ++ odd2)[qn] := odd_ok _ (List.getElem_mem hq)
      generalize (odd1 ++ odd2)[qn] = ow at aq oq
      obtain ⟨v1, V1, l1, s1⟩ := set_ex (j := i) hW oq
      obtain ⟨j1, j2⟩ := V1.join (by omega)
      have g4 : ¬ way = 3 := by omega
      have g5 : ¬ way = 4 := by omega
      have g6 : ¬ way = 5 := by omega
      refine ⟨Txt.join SP v1, a6, b6, j2.mono (by omega), ?_⟩
      rw [bent_pre row way a b a1 b1 a2 b2 a3 b3 a4 b4 a5 b5 n i j x r ws hs (by omega) e1 e2 e3 e4 e5 ex hspl]
      unfold bent_tail envB
      generalize (odd1 ++ odd2).map VI.D.str = od at aq ⊢
      simp [xi, s1, j1, g4, g5, g6, h6, e6, aq]
end K55

set_option Elab.async false
set_option linter.all false
set_option maxRecDepth 100000
set_option maxHeartbeats 8000000
namespace K55
open PySem VI PySem.NumText
def spoilK (kf : List VI.D → List VI.D → Option (VI.D × List VI.D)) : SemS := (vSeq (vAsg 2 (vCall F_l_take 2 [] (aCons (vArg (vVar 1)) (aCons (vArg (vC (.int 8))) aNil))))
  (vSeq (vAsg 3 (vCall F_l_take 2 [] (aCons (vArg (vVar 1)) (aCons (vArg (vCB fMax2 (aCons (vC (.int 1)) (aCons (vCB fLen (aCons (vVar 0) aNil)) aNil)))) aNil))))
  (vSeq (vAsg 4 (vCB fList (aCons (vVar 0) aNil)))
  (vSeq (vIfS (vB (vOp dEq (vVar 0) (vLst iNil)))
  (vRet (vSl (vLst (iCons (vI (vC (.str ""))) (iCons (vI (vC (.str "leaf"))) (iCons (vI (vC (.str "leaf 1"))) (iCons (vI (vC (.str "box 0 0 0 0 0"))) iNil))))) (oSome (vOp dMod (vVar 2) (vC (.int 4)))) (oSome (vOp dAdd (vOp dMod (vVar 2) (vC (.int 4))) (vC (.int 1))))))
  vNext)
  (vSeq (vIfS (vB (vOp dEq (vVar 2) (vC (.int 1))))
  (vDrop (vMut kf (vVar 4) (iCons (vI (vVar 3)) iNil)))
  (vIfS (vB (vOp dEq (vVar 2) (vC (.int 2))))
  (vDrop (vMut fInsert (vVar 4) (iCons (vI (vVar 3)) (iCons (vI (vOp dIx (vVar 0) (vVar 3))) iNil))))
  (vIfS (vB (vOp dEq (vVar 2) (vC (.int 3))))
  (vDrop (vMut fInsert (vVar 4) (iCons (vI (vCall F_l_take 2 [] (aCons (vArg (vVar 1)) (aCons (vArg (vCB fLen (aCons (vVar 0) aNil))) aNil)))) (iCons (vI (vMut kf (vVar 4) (iCons (vI (vVar 3)) iNil))) iNil))))
  (vIfS (vB (vOp dGt (vVar 2) (vC (.int 3))))
  (vSetItem 4 (vVar 3) (vI (vCall F_l_bent 2 [] (aCons (vArg (vOp dIx (vVar 0) (vVar 3))) (aCons (vArg (vVar 1)) aNil)))))
  vNext))))
  (vRet (vVar 4)))))))
theorem spoil_eq : t_l_spoiled = spoilK fPopAt := rfl
structure RB (k m : Nat) (rows : List Str) : Prop where
  s : ∀ w ∈ rows, okS k w
  n : rows.length ≤ m
theorem RB.c {k m : Nat} {rows : List Str} (h : RB k m rows) : RowsC rows := fun w hw => (strOk_iff w).mpr (h.s w hw).2
theorem eq_rows {k m : Nat} {rows : List Str} (h : RB k m rows) : dEqG false (.lst (rows.map .str)) (.lst []) = some (.imm (.bl (decide (rows = [])))) := by
  rw [eq_lst (rows_fin h.c).ok rfl false, eq_nil]
  cases rows <;> rfl
theorem spoil_nil (kf : List VI.D → List VI.D → Option (VI.D × List VI.D)) (a b : Int) : ∃ (w : Str) (a' b' : Int), okS 20 w ∧
    vDef 2 5 (spoilK kf) [.imm (.lst []) false, .own (.lst [.int a, .int b]) true] = .ret (.frs (.lst [.str w])) [.none, .own (.lst [.int a', .int b']) true] := by
  obtain ⟨way, a1, b1, w0, w1, e1⟩ := take_ok a b 8 (by omega) (by omega)
  obtain ⟨p, a2, b2, p0, p1, e2⟩ := take_ok a1 b1 1 (by omega) (by omega)
  have hm : fMax2 [.int 1, .int 0] = some (.imm (.int 1)) := rfl
  have hq : dEqG false (.lst []) (.lst []) = some (.imm (.bl true)) := rfl
  obtain ⟨w, hw, hs⟩ : ∃ w, okS 20 w ∧ dSl (some (way % 4)) (some (way % 4 + 1)) (.lst [.str "", .str "leaf", .str "leaf 1", .str "box 0 0 0 0 0"]) = some (.lst [.str w]) := by
    have h4 : way % 4 = 0 ∨ way % 4 = 1 ∨ way % 4 = 2 ∨ way % 4 = 3 := by omega
    rcases h4 with h | h | h | h <;> rw [h]
    · exact ⟨"", ⟨by decide +kernel, by decide +kernel⟩, rfl⟩
    · exact ⟨"leaf", ⟨by decide +kernel, by decide +kernel⟩, rfl⟩
    · exact ⟨"leaf 1", ⟨by decide +kernel, by decide +kernel⟩, rfl⟩
    · exact ⟨"box 0 0 0 0 0", ⟨by decide +kernel, by decide +kernel⟩, rfl⟩
  refine ⟨w, a2, b2, hw, ?_⟩
  unfold spoilK
  simp [e1, e2, hm, hq, lstK_eq, dMod, hs]
theorem spoil_cons (kf : List VI.D → List VI.D → Option (VI.D × List VI.D)) {k m : Nat} {rows : List Str} (h : RB k m rows) (hk : k ≤ 10000) (hmm : m ≤ 10000) (hne : rows ≠ [])
    (hkf : ∀ p : Nat, p < rows.length → ∃ (v : List Str) (d : Str), (∀ w ∈ v, w ∈ rows) ∧ d ∈ rows ∧ v.length ≤ rows.length ∧ kf (rows.map .str) [.int (p : Int)] = some (.str d, v.map .str)) (a b : Int) : ∃ (rows' : List Str) (a' b' : Int), RB (3 * k + 60) (m + 1) rows' ∧
    vDef 2 5 (spoilK kf) [.imm (.lst (rows.map .str)) false, .own (.lst [.int a, .int b]) true] = .ret (.frs (.lst (rows'.map .str))) [.none, .own (.lst [.int a', .int b']) true] := by
  obtain ⟨way, a1, b1, w0, w1, e1⟩ := take_ok a b 8 (by omega) (by omega)
  have hl : 0 < rows.length := by
    cases rows with
    | nil => exact absurd rfl hne
    | cons _ _ => simp
  have hlm := h.n
  obtain ⟨p, a2, b2, p0, p1, e2⟩ := take_ok a1 b1 (rows.length : Int) (by omega) (by omega)
  obtain ⟨n, rfl⟩ := Int.eq_ofNat_of_zero_le p0
  have hn : n < rows.length := by omega
  have hm : fMax2 [.int 1, .int (rows.length : Int)] = some (.imm (.int (rows.length : Int))) := by
    show some (Ro.imm (.int (if (rows.length : Int) > 1 then (rows.length : Int) else 1))) = _
    split
    · rfl
    · rw [show (rows.length : Int) = 1 by omega]
  have hq : dEqG false (.lst (rows.map .str)) (.lst []) = some (.imm (.bl false)) := by rw [eq_rows h, decide_eq_false hne]
  have an := at_str hn
  have xn := ixN_nat hn
  have on : okS k rows[n] := h.s _ (List.getElem_mem hn)
  have big : ∀ w ∈ rows, okS (3 * k + 60) w := fun w hw => (h.s w hw).mono (by omega)
  have hcase : way = 0 ∨ way = 1 ∨ way = 2 ∨ way = 3 ∨ 3 < way := by omega
  rcases hcase with rfl | rfl | rfl | rfl | h4
  · refine ⟨rows, a2, b2, ⟨big, by omega⟩, ?_⟩
    unfold spoilK
    simp [e1, e2, hm, hq, lstK_eq]
  · obtain ⟨v, d, v1, v2, v3, v4⟩ := hkf n hn
    refine ⟨v, a2, b2, ⟨fun w hw => big w (v1 w hw), by omega⟩, ?_⟩
    unfold spoilK
    simp [e1, e2, hm, hq, lstK_eq, v4]
  · have hi := ins_eq (k := n) (ws := rows) (x := rows[n]) (by omega) (by omega)
    obtain ⟨v, v1, v2, hv⟩ : ∃ v : List Str, (∀ w ∈ v, w ∈ rows) ∧ v.length ≤ rows.length + 1 ∧ v = rows.take n ++ [rows[n]] ++ rows.drop n := ⟨rows.take n ++ [rows[n]] ++ rows.drop n, fun w hw => by
      rcases List.mem_append.mp hw with hw | hw
      · rcases List.mem_append.mp hw with hw | hw
        · exact List.mem_of_mem_take hw
        · simp at hw
          rw [hw]
          exact List.getElem_mem hn
      · exact List.mem_of_mem_drop hw, by simp; omega, rfl⟩
    rw [← hv] at hi
    refine ⟨v, a2, b2, ⟨fun w hw => big w (v1 w hw), by omega⟩, ?_⟩
    unfold spoilK
    simp [e1, e2, hm, hq, lstK_eq, an, hi]
  · obtain ⟨v, d, v1, v2, v3, v4⟩ := hkf n hn
    obtain ⟨q, a3, b3, q0, q1, e3⟩ := take_ok a2 b2 (rows.length : Int) (by omega) (by omega)
    obtain ⟨i, rfl⟩ := Int.eq_ofNat_of_zero_le q0
    have hi := ins_eq (k := i) (ws := v) (x := d) (by omega) (by omega)
    obtain ⟨u, u1, u2, hu⟩ : ∃ u : List Str, (∀ w ∈ u, w ∈ rows) ∧ u.length ≤ v.length + 1 ∧ u = v.take i ++ [d] ++ v.drop i := ⟨v.take i ++ [d] ++ v.drop i, fun w hw => by
      rcases List.mem_append.mp hw with hw | hw
      · rcases List.mem_append.mp hw with hw | hw
        · exact v1 w (List.mem_of_mem_take hw)
        · simp at hw
          rw [hw]
          exact v2
      · exact v1 w (List.mem_of_mem_drop hw), by simp; omega, rfl⟩
    rw [← hu] at hi
    refine ⟨u, a3, b3, ⟨fun w hw => big w (u1 w hw), by omega⟩, ?_⟩
    unfold spoilK
    simp [e1, e2, hm, hq, lstK_eq, e3, v4, hi]
  · obtain ⟨row', a3, b3, o3, e3⟩ := bent_ok on hk a2 b2
    have g1 : ¬ way = 1 := by omega
    have g2 : ¬ way = 2 := by omega
    have g3 : ¬ way = 3 := by omega
    refine ⟨rows.set n row', a3, b3, ⟨fun w hw => ?_, by simp; omega⟩, ?_⟩
    · rcases List.mem_or_eq_of_mem_set hw with hw | rfl
      · exact big w hw
      · exact o3
    · unfold spoilK
      simp [e1, e2, hm, hq, lstK_eq, an, xn, e3, g1, g2, g3, h4, List.map_set]
theorem spoiled_ok {k m : Nat} {rows : List Str} (h : RB k m rows) (hk : k ≤ 10000) (hmm : m ≤ 10000) (a b : Int) : ∃ (rows' : List Str) (a' b' : Int), RB (3 * k + 60) (m + 1) rows' ∧
    F_l_spoiled [.imm (.lst (rows.map .str)) false, .own (.lst [.int a, .int b]) true] = .ret (.frs (.lst (rows'.map .str))) [.none, .own (.lst [.int a', .int b']) true] := by
  unfold F_l_spoiled
  rw [spoil_eq]
  by_cases hne : rows = []
  · subst hne
    obtain ⟨w, a', b', hw, e⟩ := spoil_nil fPopAt a b
    refine ⟨[w], a', b', ⟨fun x hx => ?_, by simp⟩, e⟩
    simp at hx
    rw [hx]
    exact hw.mono (by omega)
  · exact spoil_cons fPopAt h hk hmm hne (fun p hp => by
      obtain ⟨v, _, l1, m1, e⟩ := pop_ex (T := tot rows) (k := p) ⟨Nat.le_refl _, fun w hw => (h.s w hw).2⟩ hp (by have := h.n; omega)
      exact ⟨v, rows[p], m1, List.getElem_mem hp, l1, e⟩) a b
end K55

set_option Elab.async false
set_option linter.all false
set_option maxRecDepth 100000
set_option maxHeartbeats 8000000
namespace K55
open PySem VI PySem.NumText
theorem due_own {rows : List Str} (h : RowsOk rows) : (∃ s, runL s0 rows = some s ∧ InvL s ∧ F_l_due [.own (.lst (rows.map .str)) true] = .ret (.imm (resD s)) [.imm (.lst (rows.map .str)) true]) ∨ (runL s0 rows = none ∧ F_l_due [.own (.lst (rows.map .str)) true] = .ret (.imm .non) [.imm (.lst (rows.map .str)) true]) := by
  have hg : Gl' (List.replicate 11 .none) := ⟨List.replicate 10 .none, rfl, rfl, by simp⟩
  rcases loop_L (r0 := .imm (.lst (rows.map .str)) true) rows s0 inv0 h.1 (by show 0 + _ < _; have := h.2; omega) (by show 0 + _ < _; have := h.2; omega) _ hg with ⟨s, t', hs, I, _, e⟩ | ⟨hs, t', e⟩
  · refine .inl ⟨s, hs, I, ?_⟩
    simp [envL, s0] at e
    unfold F_l_due
    rw [t_ld]
    simp [lstK_eq, e, tupK_eq, resD]
  · refine .inr ⟨hs, ?_⟩
    simp [envL, s0] at e
    unfold F_l_due
    rw [t_ld]
    simp [lstK_eq, e]
theorem asked_own {rows : List Str} (h : RowsOk rows) (hc : RowsC rows) : F_l_asked [.own (.lst (rows.map .str)) true] = .ret (.imm (.bl true)) [.imm (.lst (rows.map .str)) true] := by
  have he := rows_eq hc
  rcases due_own h with ⟨s, hs, I, hd⟩ | ⟨hs, hd⟩
  · have hr := read_own h
    rw [hs] at hr
    dsimp only at hr
    have hf : FinD 3 (resD s) := fin_tup fun d hd => by
      simp only [List.mem_cons, List.not_mem_nil, or_false] at hd
      rcases hd with rfl | rfl | rfl
      · exact fin_int
      · exact fin_lst fun d hd => (I.w d hd).fin
      · exact fin_lst fun d hd => I.b d hd
    have hq : dEqG false (resD s) (resD s) = some (.imm (.bl true)) := by
      have z := eq_tup hf.ok hf.ok false
      rw [show (.tup [.int (s.f + 1), .lst s.ws, .lst s.bs] : VI.D) = resD s from rfl] at z
      rw [z, hf.self]
      rfl
    have hi : ∀ δ, isK false (.imm (resD s), δ) = .ok (.imm (.bl false), δ) := fun _ => rfl
    unfold F_l_asked t_l_asked
    simp [hd, hr, he, hq, hi]
  · have hr := refused_ok h hs
    unfold F_l_asked t_l_asked
    simp [hd, hr, he]
theorem RB.ok {k m : Nat} {rows : List Str} (h : RB k m rows) (hk : k ≤ 50000) (hm : m < 100000) : RowsOk rows := ⟨fun w hw => (h.s w hw).rw hk, Nat.lt_of_le_of_lt h.n hm⟩
theorem stream_ok (ns : List Int) : ∃ a b : Int, F_l_stream [.imm (.scr ns) false, .imm (.int 0) false] = .ret (.frs (.lst [.int a, .int b])) [.none, .none] := by
  have hl : fLen [.scr ns] = some (.imm (.int ns.length)) := rfl
  have hm : ∀ i : Int, dMul (.int 0) (.int i) = some (.imm (.int (0 * i))) := fun i => by
    show (if (big64 0 || big64 i) = true then some (Ro.imm (.int (0 * i))) else none) = _
    rw [if_pos (by rw [show big64 0 = true by decide]; rfl)]
  cases ns with
  | nil =>
    refine ⟨5, 7, ?_⟩
    unfold F_l_stream t_l_stream
    simp [hl, hm, lstK_eq]
  | cons n r =>
    have hx : dIx (.scr (n :: r)) (.int 0) = some (.imm (.int n)) := by
      show (L2.atI (n :: r) 0).map (fun n => Ro.imm (.int n)) = _
      rw [at_zero]
      rfl
    have h0 : decide ((0 : Int) < ((n :: r).length : Int)) = true := decide_eq_true (by simp only [List.length_cons]; omega)
    refine ⟨n, n % 2147483629 + 0 + 1, ?_⟩
    unfold F_l_stream t_l_stream
    simp only [List.length_cons] at hl h0
    have h1 : (0 : Int) < (r.length : Int) + 1 := by omega
    simp [hl, hm, hx, h1, lstK_eq, dMod]
noncomputable def law_body : SemS := (vSeq (vAsg 3 (vCall F_l_spoiled 2 [] (aCons (vArg (vVar 3)) (aCons (vArg (vVar 1)) aNil))))
  (vIfS (vNot (vB (vCall F_l_asked 1 [] (aCons (vArg (vVar 3)) aNil))))
  (vRet (vC (.bl false)))
  vNext))
theorem t_law_eq : t_law = vSeq (vAsg 1 (vCall F_l_stream 2 [] (aCons (vArg (vVar 0)) (aCons (vArg (vC (.int 0))) aNil))))
  (vSeq (vAsg 2 (vCall F_l_rows 1 [] (aCons (vArg (vVar 1)) aNil)))
  (vSeq (vAsg 3 (vVar 2))
  (vSeq (vFor (vRng1 (aCons (vC (.int 2)) aNil)) (tName 4) law_body)
  (vRet (vV (vAnd (vB (vCall F_l_asked 1 [] (aCons (vArg (vVar 2)) aNil))) (vB (vCall F_l_asked 1 [] (aCons (vArg (vLst iNil)) aNil))))))))) := rfl
theorem law_turn {r0 r2 s4 : VI.Slot} {k m : Nat} {rows : List Str} (h : RB k m rows) (hk : k ≤ 10000) (hm : m ≤ 10000) (a b : Int) : ∃ (rows' : List Str) (a' b' : Int), RB (3 * k + 60) (m + 1) rows' ∧
    law_body [r0, .own (.lst [.int a, .int b]) false, r2, .imm (.lst (rows.map .str)) false, s4] = .next [r0, .own (.lst [.int a', .int b']) false, r2, .imm (.lst (rows'.map .str)) false, s4] := by
  obtain ⟨rows', a', b', h', e⟩ := spoiled_ok h hk hm a b
  have ha := asked_own (h'.ok (by omega) (by omega)) h'.c
  refine ⟨rows', a', b', h', ?_⟩
  unfold law_body
  simp [e, ha]
theorem law_true (ns : List Int) (h : ns.length ≤ 63) : ∃ outs, F_law [.imm (.scr ns) false] = .ret (.imm (.bl true)) outs := by
  obtain ⟨a, b, e1⟩ := stream_ok ns
  obtain ⟨rows, a1, b1, r1, r2, e2⟩ := rows_ok a b
  have R0 : RB 60 14 rows := ⟨r1, r2⟩
  obtain ⟨rows1, a2, b2, R1, e3⟩ := law_turn (r0 := .imm (.scr ns) false) (r2 := .imm (.lst (rows.map .str)) false) (s4 := .imm (.int 0) false) R0 (by omega) (by omega) a1 b1
  obtain ⟨rows2, a3, b3, R2, e4⟩ := law_turn (r0 := .imm (.scr ns) false) (r2 := .imm (.lst (rows.map .str)) false) (s4 := .imm (.int 1) false) R1 (by omega) (by omega) a2 b2
  have hr := asked_ok (R0.ok (by omega) (by omega)) R0.c
  have hn := asked_ok (rows := []) ⟨by simp, by simp⟩ (fun w hw => by cases hw)
  have hrng : rangeD 0 2 = [.int 0, .int 1] := rfl
  refine ⟨[.none], ?_⟩
  unfold F_law
  rw [t_law_eq]
  simp only [List.map_nil] at hn
  simp [e1, e2]
  rw [rngK_eq (by decide)]
  simp [hrng, forGo_cons, e3, e4, hr, hn, lstK_eq]
end K55

set_option Elab.async false
set_option linter.all false
set_option maxRecDepth 100000
set_option maxHeartbeats 4000000

namespace K55
open PySem PySem.Spec PyProof.Rows L2 VI
def d_made_of : He.DefD := ⟨("made_of", none), "made_of", "made_of", defArgs (top 14), defBody (top 14), defScope (top 14), [], []⟩
def d_is_word : He.DefD := ⟨("is_word", none), "is_word", "is_word", defArgs (top 15), defBody (top 15), defScope (top 15), [], []⟩
def d_number_told : He.DefD := ⟨("number_told", none), "number_told", "number_told", defArgs (top 19), defBody (top 19), defScope (top 19), [], []⟩
def d_numbers_told : He.DefD := ⟨("numbers_told", none), "numbers_told", "numbers_told", defArgs (top 20), defBody (top 20), defScope (top 20), [], []⟩
def d_read_leaf : He.DefD := ⟨("read_leaf", none), "read_leaf", "read_leaf", defArgs (top 21), defBody (top 21), defScope (top 21), [], []⟩
def d_read_drawing : He.DefD := ⟨("read_drawing", none), "read_drawing", "read_drawing", defArgs (top 22), defBody (top 22), defScope (top 22), [], []⟩
def d_l_stream : He.DefD := ⟨("_law_stream", none), "_law_stream", "_law_stream", defArgs (top 24), defBody (top 24), defScope (top 24), [], []⟩
def d_l_take : He.DefD := ⟨("_law_take", none), "_law_take", "_law_take", defArgs (top 25), defBody (top 25), defScope (top 25), [], []⟩
def d_l_rows : He.DefD := ⟨("_law_rows", none), "_law_rows", "_law_rows", defArgs (top 26), defBody (top 26), defScope (top 26), [], []⟩
def d_l_bent : He.DefD := ⟨("_law_bent", none), "_law_bent", "_law_bent", defArgs (top 27), defBody (top 27), defScope (top 27), [], []⟩
def d_l_spoiled : He.DefD := ⟨("_law_spoiled", none), "_law_spoiled", "_law_spoiled", defArgs (top 28), defBody (top 28), defScope (top 28), [], []⟩
def d_l_number : He.DefD := ⟨("_law_number", none), "_law_number", "_law_number", defArgs (top 29), defBody (top 29), defScope (top 29), [], []⟩
def d_l_is_word : He.DefD := ⟨("_law_is_word", none), "_law_is_word", "_law_is_word", defArgs (top 30), defBody (top 30), defScope (top 30), [], []⟩
def d_l_due : He.DefD := ⟨("_law_due", none), "_law_due", "_law_due", defArgs (top 31), defBody (top 31), defScope (top 31), [], []⟩
def d_l_alone : He.DefD := ⟨("_law_alone", none), "_law_alone", "_law_alone", defArgs (top 32), defBody (top 32), defScope (top 32), [], []⟩
def d_l_refused : He.DefD := ⟨("_law_refused", none), "_law_refused", "_law_refused", defArgs (top 33), defBody (top 33), defScope (top 33), [], []⟩
def d_l_asked : He.DefD := ⟨("_law_asked", none), "_law_asked", "_law_asked", defArgs (top 34), defBody (top 34), defScope (top 34), [], []⟩
def d_law : He.DefD := ⟨("law", none), "law", "law", defArgs (top 35), defBody (top 35), defScope (top 35), [], []⟩
def fn : List He.DefD := [d_made_of, d_is_word, d_number_told, d_numbers_told, d_read_leaf, d_read_drawing, d_l_stream, d_l_take, d_l_rows, d_l_bent, d_l_spoiled, d_l_number, d_l_is_word, d_l_due, d_l_alone, d_l_refused, d_l_asked, d_law]
def fa : List He.Fa := [.glo "made_of", .glo "is_word", .glo "number_told", .glo "numbers_told", .glo "read_leaf", .glo "read_drawing", .glo "_law_stream", .glo "_law_take", .glo "_law_rows", .glo "_law_bent", .glo "_law_spoiled", .glo "_law_number", .glo "_law_is_word", .glo "_law_due", .glo "_law_alone", .glo "_law_refused", .glo "_law_asked", .glo "law", .glo "NoFace", .glo "NoBook", .glo "NoRule", .glo "NoSheet", .glo "NoDrawing", .glo "NoNode", .glo "NoPart", .glo "NoLeaf", .glo "PressError", .free "ValueError", .free "int", .free "isinstance", .free "len", .free "list", .free "max", .free "range", .free "str", .free "tuple", .str "WORD_SIGNS" "abcdefghijklmnopqrstuvwxyzABCDEFGHIJKLMNOPQRSTUVWXYZ0123456789.,-;:'()!?", .int "MOST_SIGNS" 20, .str "FIGURES" "0123456789", .int "MOST_FIGURES" 9, .exc "NoDrawing"]
abbrev R : PySem.W.OpenRow := PySem.W.OpenLaw.row PySem.Challenge.rw_leafpress_k55_drawings_refused
abbrev hk : PySem.W.Hook := hookE 4 fa fn exB
def ob (s : PySem.W.SharedT) : AlE := obsEG 4 fa fn exB (HandSHeadRun.getT s)
theorem ob_eq (s : PySem.W.SharedT) : ob s = hk.obs s.abs := obsEG_eq (HandSHeadRun.getT_eq s)
def loose : List PySem.Str := ["PressError", "NoFace", "NoBook", "NoRule", "NoSheet", "NoDrawing", "NoNode", "NoPart", "NoLeaf", "SMALL", "WORD_SIGNS", "MOST_SIGNS", "made_of", "is_word", "FIGURES", "MOST_FIGURES", "number_told", "numbers_told", "read_leaf", "read_drawing", "_law_stream", "_law_take", "_law_rows", "_law_bent", "_law_spoiled", "_law_number", "_law_is_word", "_law_due", "_law_alone", "_law_refused", "_law_asked"]
theorem run (w : World) : HandSHeadRun.RunEq R (PySem.W.view R.prog [35]) hk ob 20000 loose w := by
  intro os
  kernel_rfl
end K55

set_option Elab.async false
set_option linter.all false
set_option maxRecDepth 100000
set_option maxHeartbeats 4000000

namespace K55
open PySem PySem.Spec PyProof.Rows L2 VI
abbrev cn (K : PySem.W.Frag) : Nat → Value := fun k => .ref (He.ga K (clsName k))
theorem txt {K : PySem.W.Frag} {h : Heap} {mg : Str → Option Value} (X : K.In h) (G : h.Ns mainGlobals mg) (c : He.SaysD fa fn K) : Txt K mg (cn K) where
  b_ValueError := He.free_ok X G (c.fact 27 (f := .free "ValueError") rfl)
  b_int := He.free_ok X G (c.fact 28 (f := .free "int") rfl)
  b_isinstance := He.free_ok X G (c.fact 29 (f := .free "isinstance") rfl)
  b_len := He.free_ok X G (c.fact 30 (f := .free "len") rfl)
  b_list := He.free_ok X G (c.fact 31 (f := .free "list") rfl)
  b_max := He.free_ok X G (c.fact 32 (f := .free "max") rfl)
  b_range := He.free_ok X G (c.fact 33 (f := .free "range") rfl)
  b_str := He.free_ok X G (c.fact 34 (f := .free "str") rfl)
  b_tuple := He.free_ok X G (c.fact 35 (f := .free "tuple") rfl)
  c_WORD_SIGNS := gc_str (He.str_ok X G (c.fact 36 (f := .str "WORD_SIGNS" "abcdefghijklmnopqrstuvwxyzABCDEFGHIJKLMNOPQRSTUVWXYZ0123456789.,-;:'()!?") rfl))
  c_MOST_SIGNS := gc_int (He.int_ok X G (c.fact 37 (f := .int "MOST_SIGNS" 20) rfl))
  c_FIGURES := gc_str (He.str_ok X G (c.fact 38 (f := .str "FIGURES" "0123456789") rfl))
  c_MOST_FIGURES := gc_int (He.int_ok X G (c.fact 39 (f := .int "MOST_FIGURES" 9) rfl))
  x_NoDrawing := excOk_of X G (c.fact 22 (f := .glo "NoDrawing") rfl) (c.fact 40 (f := .exc "NoDrawing") rfl)
theorem facts {P : Program} {w : World} {K : PySem.W.Frag} {h : Heap} {mg : Str → Option Value} {f : Addr} (X : K.In h) (G : h.Ns mainGlobals mg) (hfa : mg ("law" : Str) = some (.ref f)) (cc : SaysE fa fn exB K) :
    ∃ fd : FuncData, (∀ (s : Shared) (v : Value), BindsTo s fd ⟨[v], []⟩ [("_law_script", v)]) ∧ ∀ base : Heap, K.In base → base.Ns mainGlobals mg → FnOk P w K mg base (L2.CX P w) 8 f fd ["_law_script"] (spF K (cn K) 1 F_law) := by
  have c := cc.d
  have T := txt X G c
  have TX : ExT K mg (cn K) := exT_of cc.e fun k hk => by
    match k, hk with
    | 0, _ => exact (He.glo_ok X G (c.fact 18 (f := .glo "NoFace") rfl))
    | 1, _ => exact (He.glo_ok X G (c.fact 19 (f := .glo "NoBook") rfl))
    | 2, _ => exact (He.glo_ok X G (c.fact 20 (f := .glo "NoRule") rfl))
    | 3, _ => exact (He.glo_ok X G (c.fact 21 (f := .glo "NoSheet") rfl))
    | 4, _ => exact (He.glo_ok X G (c.fact 22 (f := .glo "NoDrawing") rfl))
    | 5, _ => exact (He.glo_ok X G (c.fact 23 (f := .glo "NoNode") rfl))
    | 6, _ => exact (He.glo_ok X G (c.fact 24 (f := .glo "NoPart") rfl))
    | 7, _ => exact (He.glo_ok X G (c.fact 25 (f := .glo "NoLeaf") rfl))
    | 8, _ => exact (He.glo_ok X G (c.fact 26 (f := .glo "PressError") rfl))
  obtain ⟨fd_made_of, D_made_of⟩ := c.def_ 0 (d := d_made_of) rfl
  obtain ⟨fd_is_word, D_is_word⟩ := c.def_ 1 (d := d_is_word) rfl
  obtain ⟨fd_number_told, D_number_told⟩ := c.def_ 2 (d := d_number_told) rfl
  obtain ⟨fd_numbers_told, D_numbers_told⟩ := c.def_ 3 (d := d_numbers_told) rfl
  obtain ⟨fd_read_leaf, D_read_leaf⟩ := c.def_ 4 (d := d_read_leaf) rfl
  obtain ⟨fd_read_drawing, D_read_drawing⟩ := c.def_ 5 (d := d_read_drawing) rfl
  obtain ⟨fd_l_stream, D_l_stream⟩ := c.def_ 6 (d := d_l_stream) rfl
  obtain ⟨fd_l_take, D_l_take⟩ := c.def_ 7 (d := d_l_take) rfl
  obtain ⟨fd_l_rows, D_l_rows⟩ := c.def_ 8 (d := d_l_rows) rfl
  obtain ⟨fd_l_bent, D_l_bent⟩ := c.def_ 9 (d := d_l_bent) rfl
  obtain ⟨fd_l_spoiled, D_l_spoiled⟩ := c.def_ 10 (d := d_l_spoiled) rfl
  obtain ⟨fd_l_number, D_l_number⟩ := c.def_ 11 (d := d_l_number) rfl
  obtain ⟨fd_l_is_word, D_l_is_word⟩ := c.def_ 12 (d := d_l_is_word) rfl
  obtain ⟨fd_l_due, D_l_due⟩ := c.def_ 13 (d := d_l_due) rfl
  obtain ⟨fd_l_alone, D_l_alone⟩ := c.def_ 14 (d := d_l_alone) rfl
  obtain ⟨fd_l_refused, D_l_refused⟩ := c.def_ 15 (d := d_l_refused) rfl
  obtain ⟨fd_l_asked, D_l_asked⟩ := c.def_ 16 (d := d_l_asked) rfl
  obtain ⟨fd_law, D_law⟩ := c.def_ 17 (d := d_law) rfl
  have e := hfa.symm.trans (He.glo_ok X G (c.fact 17 (f := .glo "law") rfl))
  cases e
  refine ⟨fd_law, fun s v => (FunD.bindsA (ps := ["_law_script"]) D_law fun _ _ _ _ _ _ us hl => match us, hl with | [_], _ => rfl) s [v] rfl, fun base _ _ => ?_⟩
  have G_made_of : DefOk P w K mg base (cn K) 1 2 "made_of" ["text", "signs"] [] F_made_of := .mk0 (ok_made_of T  D_made_of) (He.glo_ok X G (c.fact 0 (f := .glo "made_of") rfl)) D_made_of.kp (D_made_of.bindsN fun _ _ _ _ _ _ us hl => match us, hl with | [_, _], _ => rfl)
  have G_is_word : DefOk P w K mg base (cn K) 2 1 "is_word" ["text"] [] F_is_word := .mk0 (ok_is_word T G_made_of D_is_word) (He.glo_ok X G (c.fact 1 (f := .glo "is_word") rfl)) D_is_word.kp (D_is_word.bindsN fun _ _ _ _ _ _ us hl => match us, hl with | [_], _ => rfl)
  have G_number_told : DefOk P w K mg base (cn K) 2 1 "number_told" ["word"] [] F_number_told := .mk0 (ok_number_told T G_made_of D_number_told) (He.glo_ok X G (c.fact 2 (f := .glo "number_told") rfl)) D_number_told.kp (D_number_told.bindsN fun _ _ _ _ _ _ us hl => match us, hl with | [_], _ => rfl)
  have G_numbers_told : DefOk P w K mg base (cn K) 3 2 "numbers_told" ["words", "many"] [] F_numbers_told := .mk0 (ok_numbers_told T G_number_told D_numbers_told) (He.glo_ok X G (c.fact 3 (f := .glo "numbers_told") rfl)) D_numbers_told.kp (D_numbers_told.bindsN fun _ _ _ _ _ _ us hl => match us, hl with | [_, _], _ => rfl)
  have G_read_leaf : DefOk P w K mg base (cn K) 4 2 "read_leaf" ["words", "many"] [] F_read_leaf := .mk0 (ok_read_leaf T G_numbers_told D_read_leaf) (He.glo_ok X G (c.fact 4 (f := .glo "read_leaf") rfl)) D_read_leaf.kp (D_read_leaf.bindsN fun _ _ _ _ _ _ us hl => match us, hl with | [_, _], _ => rfl)
  have G_read_drawing : DefOk P w K mg base (cn K) 5 1 "read_drawing" ["rows"] [] F_read_drawing := .mk0 (ok_read_drawing T G_read_leaf G_numbers_told G_is_word D_read_drawing) (He.glo_ok X G (c.fact 5 (f := .glo "read_drawing") rfl)) D_read_drawing.kp (D_read_drawing.bindsN fun _ _ _ _ _ _ us hl => match us, hl with | [_], _ => rfl)
  have G_l_stream : DefOk P w K mg base (cn K) 1 2 "_law_stream" ["_law_script", "_law_k"] [] F_l_stream := .mk0 (ok_l_stream T  D_l_stream) (He.glo_ok X G (c.fact 6 (f := .glo "_law_stream") rfl)) D_l_stream.kp (D_l_stream.bindsN fun _ _ _ _ _ _ us hl => match us, hl with | [_, _], _ => rfl)
  have G_l_take : DefOk P w K mg base (cn K) 1 2 "_law_take" ["_law_stream_here", "_law_most"] [] F_l_take := .mk0 (ok_l_take T  D_l_take) (He.glo_ok X G (c.fact 7 (f := .glo "_law_take") rfl)) D_l_take.kp (D_l_take.bindsN fun _ _ _ _ _ _ us hl => match us, hl with | [_, _], _ => rfl)
  have G_l_rows : DefOk P w K mg base (cn K) 2 1 "_law_rows" ["_law_stream_here"] [] F_l_rows := .mk0 (ok_l_rows T G_l_take D_l_rows) (He.glo_ok X G (c.fact 8 (f := .glo "_law_rows") rfl)) D_l_rows.kp (D_l_rows.bindsN fun _ _ _ _ _ _ us hl => match us, hl with | [_], _ => rfl)
  have G_l_bent : DefOk P w K mg base (cn K) 2 2 "_law_bent" ["_law_row", "_law_stream_here"] [] F_l_bent := .mk0 (ok_l_bent T G_l_take D_l_bent) (He.glo_ok X G (c.fact 9 (f := .glo "_law_bent") rfl)) D_l_bent.kp (D_l_bent.bindsN fun _ _ _ _ _ _ us hl => match us, hl with | [_, _], _ => rfl)
  have G_l_spoiled : DefOk P w K mg base (cn K) 3 2 "_law_spoiled" ["_law_rows_here", "_law_stream_here"] [] F_l_spoiled := .mk0 (ok_l_spoiled T G_l_take G_l_bent D_l_spoiled) (He.glo_ok X G (c.fact 10 (f := .glo "_law_spoiled") rfl)) D_l_spoiled.kp (D_l_spoiled.bindsN fun _ _ _ _ _ _ us hl => match us, hl with | [_, _], _ => rfl)
  have G_l_number : DefOk P w K mg base (cn K) 1 1 "_law_number" ["_law_word"] [] F_l_number := .mk0 (ok_l_number T  D_l_number) (He.glo_ok X G (c.fact 11 (f := .glo "_law_number") rfl)) D_l_number.kp (D_l_number.bindsN fun _ _ _ _ _ _ us hl => match us, hl with | [_], _ => rfl)
  have G_l_is_word : DefOk P w K mg base (cn K) 1 1 "_law_is_word" ["_law_word"] [] F_l_is_word := .mk0 (ok_l_is_word T  D_l_is_word) (He.glo_ok X G (c.fact 12 (f := .glo "_law_is_word") rfl)) D_l_is_word.kp (D_l_is_word.bindsN fun _ _ _ _ _ _ us hl => match us, hl with | [_], _ => rfl)
  have G_l_due : DefOk P w K mg base (cn K) 2 1 "_law_due" ["_law_rows_here"] [] F_l_due := .mk0 (ok_l_due T G_l_number G_l_is_word D_l_due) (He.glo_ok X G (c.fact 13 (f := .glo "_law_due") rfl)) D_l_due.kp (D_l_due.bindsN fun _ _ _ _ _ _ us hl => match us, hl with | [_], _ => rfl)

  have G_l_refused : DefOk P w K mg base (cn K) 6 1 "_law_refused" ["_law_rows_here"] [] F_l_refused := .mk0 (ok_l_refused T TX G_read_drawing (fun k hk => ok_l_alone T TX D_l_alone k hk) (He.glo_ok X G (c.fact 14 (f := .glo "_law_alone") rfl)) D_l_alone.kp (D_l_alone.bindsN fun _ _ _ _ _ _ us hl => match us, hl with | [_], _ => rfl) D_l_refused) (He.glo_ok X G (c.fact 15 (f := .glo "_law_refused") rfl)) D_l_refused.kp (D_l_refused.bindsN fun _ _ _ _ _ _ us hl => match us, hl with | [_], _ => rfl)
  have G_l_asked : DefOk P w K mg base (cn K) 7 1 "_law_asked" ["_law_rows_here"] [] F_l_asked := .mk0 (ok_l_asked T G_l_due G_l_refused G_read_drawing D_l_asked) (He.glo_ok X G (c.fact 16 (f := .glo "_law_asked") rfl)) D_l_asked.kp (D_l_asked.bindsN fun _ _ _ _ _ _ us hl => match us, hl with | [_], _ => rfl)
  exact ok_law T G_l_stream G_l_rows G_l_spoiled G_l_asked D_law
end K55

set_option Elab.async false
set_option linter.all false
set_option maxRecDepth 100000
set_option maxHeartbeats 4000000

open PySem PySem.W PySem.Calls PyProof.Rows
theorem PySem.Challenge.cw_leafpress_k55_drawings_refused_holds : PySem.Challenge.rw_leafpress_k55_drawings_refused.Holds := by
  w_on; o_law
  refine HandSHeadRun.head_any (r := OpenLaw.row PySem.Challenge.rw_leafpress_k55_drawings_refused) (q := view (OpenLaw.row PySem.Challenge.rw_leafpress_k55_drawings_refused).prog [35]) (H := K55.hk) (ob := K55.ob) (M := 20000) (loose := K55.loose) (d := HandSHeadRun.topDef (OpenLaw.row PySem.Challenge.rw_leafpress_k55_drawings_refused).prog 35) (kwd := []) K55.ob_eq
    (by kernel_rfl) (fun s => by kernel_rfl) K55.run (by kernel_rfl) (by kernel_rfl) (by kernel_rfl) (by rfl) (by first | assumption | decide +kernel) (by decide +kernel) ⟨rfl, rfl, rfl, rfl, rfl, by decide +kernel⟩ ?hw ?hc
  case hw => w_witness2
  case hc =>
    refine VI.walk_end (l := PySem.Challenge.rw_leafpress_k55_drawings_refused) (n := 63) (k := 8) (x := "_law_script") (F := K55.F_law) (cn := K55.cn) rfl (by decide) (by kernel_rfl) ⟨rfl, by decide, by decide⟩ K55.law_true ?_
    intro w mg fa h Y G hmg0
    obtain ⟨K, KX, c⟩ := Y
    have hmg : mg ("law" : PySem.Str) = some (.ref fa) := by
      have e : (HandSHeadRun.topDef (OpenLaw.row PySem.Challenge.rw_leafpress_k55_drawings_refused).prog 35).name = ("law" : PySem.Str) := by kernel_rfl
      rw [← e]
      exact hmg0
    obtain ⟨fd, hb, hF⟩ := K55.facts (P := (PySem.Challenge.rw_leafpress_k55_drawings_refused).prog) (w := w) KX G hmg c
    exact ⟨K, fd, KX, hb, hF⟩

