import PyProof.Rows.All
import Wide.All
import OpenK.AllK
import Wide.FinOn
import HandS.ForMost
import HandS.More
import HandS.WordsExc
import HandS.TupAny
import HandS.Deep
import HandS.TupLe
import HandS.IsInst
import HandS.Conv
import HandS.Flow
import HandS.Style
import HandS.Defaults
import HandS.HeadEnd
import PyProof.ReprRoads
import KE.DataCmp
import KE.DataMinMax
import KE.KStateDown
import Lean
import HandS.Base
import HandS.Call
import HandS.Ends
import HandS.Words
import HandS.Head0
import HandS.Head1
import HandS.Head2
import HandS.HeadHook1
import HandS.HeadHook2
import PySem.Challenge.RW_thrownslips_k35_throw_tables
set_option Elab.async false
set_option linter.all false
set_option maxRecDepth 100000
set_option maxHeartbeats 4000000
/-! The P-layer, 1: pure data, cells, what stands in the heap for them. -/
namespace P
open PySem L2

abbrev D := PyData
/-- a test's two ways, kept as they are until the answer is known -/
@[irreducible] def iteB (b : Bool) (A B : Prop) : Prop := if b = true then A else B
theorem iteB_tt {A B : Prop} : iteB true A B = A := by unfold iteB; rw [if_pos rfl]
theorem iteB_ff {A B : Prop} : iteB false A B = B := by unfold iteB; rw [if_neg Bool.false_ne_true]
@[irreducible] def optP {α : Type} (o : Option α) (k : α → Prop) : Prop := ∃ x, o = some x ∧ k x
theorem optP_inv {α : Type} {o : Option α} {k : α → Prop} (h : optP o k) : ∃ x, o = some x ∧ k x := by unfold optP at h; exact h
theorem optP_intro {α : Type} {o : Option α} {k : α → Prop} {x : α} (e : o = some x) (h : k x) : optP o k := by unfold optP; exact ⟨x, e, h⟩
abbrev Frag := PySem.W.Frag
def KD : Key → D
  | .inl i => .int i
  | .inr s => .str s

theorem same_sqt {K : Frag} {F F' : Hp} {a : Addr} {xs : List V} (s : Same F F') (h : SqT K F a xs) : SqT K F' a xs := by
  rcases h with (h | ⟨o, h⟩) | h
  · exact .inl (.inl (s _ _ h))
  · exact .inl (.inr ⟨o, s _ _ h⟩)
  · exact .inr h

mutual
inductive Fz (K : Frag) (F : Hp) : V → D → Prop
  | non : Fz K F .non .none
  | bl (b : Bool) : Fz K F (.bl b) (.bool b)
  | int (i : Int) : Fz K F (.int i) (.int i)
  | str (x : Str) : Fz K F (.str x) (.str x)
  | lst {a : Addr} {xs : List V} {ds : List D} : F a = some (.lst xs) → FzL K F xs ds → Fz K F (.ref a) (.list ds)
  | tup {a : Addr} {xs : List V} {ds : List D} : SqT K F a xs → FzL K F xs ds → Fz K F (.ref a) (.tuple ds)
  | dic {a : Addr} {ws : List (Key × V)} {kvs : List (D × D)} : F a = some (.dK ws) → FzD K F ws kvs → Fz K F (.ref a) (.dict kvs)
inductive FzL (K : Frag) (F : Hp) : List V → List D → Prop
  | nil : FzL K F [] []
  | cons {v : V} {vs : List V} {d : D} {ds : List D} : Fz K F v d → FzL K F vs ds → FzL K F (v :: vs) (d :: ds)
inductive FzD (K : Frag) (F : Hp) : List (Key × V) → List (D × D) → Prop
  | nil : FzD K F [] []
  | cons {k : Key} {v : V} {ws : List (Key × V)} {d : D} {kvs : List (D × D)} : Fz K F v d → FzD K F ws kvs → FzD K F ((k, v) :: ws) ((KD k, d) :: kvs)
end

section
variable {K : Frag} {F F' H : Hp}
mutual
theorem Fz.mono (s : Same F F') : ∀ {v : V} {d : D}, Fz K F v d → Fz K F' v d
  | _, _, .non => .non
  | _, _, .bl b => .bl b
  | _, _, .int i => .int i
  | _, _, .str x => .str x
  | _, _, .lst h r => .lst (s _ _ h) (FzL.mono s r)
  | _, _, .tup h r => .tup (same_sqt s h) (FzL.mono s r)
  | _, _, .dic h r => .dic (s _ _ h) (FzD.mono s r)
theorem FzL.mono (s : Same F F') : ∀ {v : List V} {d : List D}, FzL K F v d → FzL K F' v d
  | _, _, .nil => .nil
  | _, _, .cons h r => .cons (Fz.mono s h) (FzL.mono s r)
theorem FzD.mono (s : Same F F') : ∀ {v : List (Key × V)} {d : List (D × D)}, FzD K F v d → FzD K F' v d
  | _, _, .nil => .nil
  | _, _, .cons h r => .cons (Fz.mono s h) (FzD.mono s r)
end
theorem FzL.length : ∀ {vs : List V} {ds : List D}, FzL K F vs ds → vs.length = ds.length
  | _, _, .nil => rfl
  | _, _, .cons _ r => by rw [List.length_cons, List.length_cons, FzL.length r]
theorem FzL.append : ∀ {vs ws : List V} {ds es : List D}, FzL K F vs ds → FzL K F ws es → FzL K F (vs ++ ws) (ds ++ es)
  | _, _, _, _, .nil, s => s
  | _, _, _, _, .cons h r, s => .cons h (FzL.append r s)
theorem FzL.one {v : V} {d : D} (h : Fz K F v d) : FzL K F [v] [d] := .cons h .nil
theorem FzL.get : ∀ {vs : List V} {ds : List D} {i : Nat} {d : D}, FzL K F vs ds → ds[i]? = some d → ∃ v, vs[i]? = some v ∧ Fz K F v d
  | _, _, _, _, .nil, e => by simp at e
  | _, _, 0, _, .cons h _, e => by simp at e; subst e; exact ⟨_, rfl, h⟩
  | _, _, i + 1, d, .cons _ r, e => by
    obtain ⟨v, h1, h2⟩ := FzL.get (i := i) (d := d) r (by simpa using e)
    exact ⟨v, by simpa using h1, h2⟩
theorem FzL.getV : ∀ {vs : List V} {ds : List D} {i : Nat} {v : V}, FzL K F vs ds → vs[i]? = some v → ∃ d, ds[i]? = some d ∧ Fz K F v d
  | _, _, _, _, .nil, e => by simp at e
  | _, _, 0, _, .cons h _, e => by simp at e; subst e; exact ⟨_, rfl, h⟩
  | _, _, i + 1, v, .cons _ r, e => by
    obtain ⟨d, h1, h2⟩ := FzL.getV (i := i) (v := v) r (by simpa using e)
    exact ⟨d, by simpa using h1, h2⟩
theorem FzL.set {v : V} {d : D} (h : Fz K F v d) : ∀ {vs : List V} {ds : List D} (i : Nat), FzL K F vs ds → FzL K F (vs.set i v) (ds.set i d)
  | _, _, _, .nil => .nil
  | _, _, 0, .cons _ r => .cons h r
  | _, _, i + 1, .cons q r => .cons q (FzL.set h i r)
theorem FzL.take : ∀ {vs : List V} {ds : List D} (n : Nat), FzL K F vs ds → FzL K F (vs.take n) (ds.take n)
  | _, _, 0, _ => .nil
  | _, _, _ + 1, .nil => .nil
  | _, _, n + 1, .cons h r => .cons h (FzL.take n r)
theorem FzL.drop : ∀ {vs : List V} {ds : List D} (n : Nat), FzL K F vs ds → FzL K F (vs.drop n) (ds.drop n)
  | _, _, 0, r => r
  | _, _, _ + 1, .nil => .nil
  | _, _, n + 1, .cons _ r => FzL.drop n r
theorem FzL.eraseIdx : ∀ {vs : List V} {ds : List D} (i : Nat), FzL K F vs ds → FzL K F (vs.eraseIdx i) (ds.eraseIdx i)
  | _, _, _, .nil => .nil
  | _, _, 0, .cons _ r => r
  | _, _, i + 1, .cons h r => .cons h (FzL.eraseIdx i r)
theorem FzL.dropLast {vs : List V} {ds : List D} (h : FzL K F vs ds) : FzL K F vs.dropLast ds.dropLast := by
  rw [List.dropLast_eq_take, List.dropLast_eq_take, h.length]
  exact h.take _
theorem FzL.ints : ∀ {vs : List V} {ns : List Int}, FzL K F vs (ns.map PyData.int) → vs = ns.map V.int
  | [], [], _ => rfl
  | [], _ :: _, h => by cases h
  | _ :: _, [], h => by cases h
  | v :: vs, n :: ns, h => by
    have h' : FzL K F (v :: vs) (.int n :: ns.map PyData.int) := h
    cases h' with
    | cons a b =>
      cases a
      rw [FzL.ints b]
      rfl
theorem FzL.of_ints : ∀ (ns : List Int), FzL K F (ns.map V.int) (ns.map PyData.int)
  | [] => .nil
  | n :: ns => .cons (.int n) (FzL.of_ints ns)
theorem FzL.strs : ∀ {vs : List V} {ns : List Str}, FzL K F vs (ns.map PyData.str) → vs = ns.map V.str
  | [], [], _ => rfl
  | [], _ :: _, h => by cases h
  | _ :: _, [], h => by cases h
  | v :: vs, n :: ns, h => by
    have h' : FzL K F (v :: vs) (.str n :: ns.map PyData.str) := h
    cases h' with
    | cons a b =>
      cases a
      rw [FzL.strs b]
      rfl
theorem FzL.of_strs : ∀ (ns : List Str), FzL K F (ns.map V.str) (ns.map PyData.str)
  | [] => .nil
  | n :: ns => .cons (.str n) (FzL.of_strs ns)

/-- as the hand layer's data -/
def hasDict : D → Bool
  | .dict _ => true
  | .list ds => anyDict ds
  | .tuple ds => anyDict ds
  | _ => false
where anyDict : List D → Bool
  | [] => false
  | d :: ds => hasDict d || anyDict ds
mutual
theorem Fz.dp (s : Same F H) : ∀ {v : V} {d : D}, Fz K F v d → hasDict d = false → Dp K H v d
  | _, _, .non, _ => .non
  | _, _, .bl b, _ => .bl b
  | _, _, .int i, _ => .int i
  | _, _, .str x, _ => .str x
  | _, _, .lst h r, e => .lst (SqL.of (s _ _ h)) (FzL.dp s r (by simpa [hasDict] using e))
  | _, _, .tup h r, e => .tup (same_sqt s h) (FzL.dp s r (by simpa [hasDict] using e))
  | _, _, .dic h r, e => by simp [hasDict] at e
theorem FzL.dp (s : Same F H) : ∀ {v : List V} {d : List D}, FzL K F v d → hasDict.anyDict d = false → DpAll K H v d
  | _, _, .nil, _ => .nil
  | _, _, .cons h r, e => by
    simp [hasDict.anyDict] at e
    exact .cons (Fz.dp s h e.1) (FzL.dp s r e.2)
end
end

/-! ### cells -/
/-- what a slot holds, or what an expression gives: frozen data; the source of draws; an owned list, of frozen data or of owned lists; an owned dict; what stands in slot i -/
inductive C where
  | fz (d : D) | orc | ls (ds : List D) | ll (dss : List (List D)) | dk (kvs : List (Key × D)) | at (i : Nat)
abbrev PEnv := List (Option C)
/-- who owns an address: slot i (none: what an expression has just given), and its place within -/
abbrev Own := Addr → Option (Option Nat × Nat)

def KZ (K : Frag) (F : Hp) : List (Key × V) → List (Key × D) → Prop := Paired fun p q => p.1 = q.1 ∧ Fz K F p.2 q.2
def Rows (K : Frag) (F H : Hp) (own : Own) (id : Option Nat) (vs : List V) (dss : List (List D)) : Prop :=
  vs.length = dss.length ∧ ∀ j ds, dss[j]? = some ds → ∃ b ws, vs[j]? = some (.ref b) ∧ H b = some (.lst ws) ∧ own b = some (id, j + 1) ∧ FzL K F ws ds
def Rep (K : Frag) (a0 : Option Addr) (F H : Hp) (own : Own) (id : Option Nat) : C → V → Prop
  | .fz d, v => Fz K F v d
  | .orc, v => ∃ a, a0 = some a ∧ v = .ref a
  | .ls ds, v => ∃ a vs, v = .ref a ∧ H a = some (.lst vs) ∧ own a = some (id, 0) ∧ FzL K F vs ds
  | .ll dss, v => ∃ a vs, v = .ref a ∧ H a = some (.lst vs) ∧ own a = some (id, 0) ∧ Rows K F H own id vs dss
  | .dk kvs, v => ∃ a ws, v = .ref a ∧ H a = some (.dK ws) ∧ own a = some (id, 0) ∧ KZ K F ws kvs
  | .at _, _ => False
/-- .. of what an expression gives -/
def RepT (K : Frag) (a0 : Option Addr) (F H : Hp) (own : Own) (σ : St) : C → V → Prop
  | .at i, v => σ[i]? = some (some v)
  | .fz d, v => Rep K a0 F H own none (.fz d) v
  | .orc, v => Rep K a0 F H own none .orc v
  | .ls ds, v => Rep K a0 F H own none (.ls ds) v
  | .ll ds, v => Rep K a0 F H own none (.ll ds) v
  | .dk ds, v => Rep K a0 F H own none (.dk ds) v
/-- the source of draws -/
def OrcAt (K : Frag) (F H : Hp) (a : Addr) : Prop :=
  ∃ (c : Addr) (ns : List Int) (n1 n2 n3 n4 n5 : Int), H a = some (.lst [.ref c, .int n1, .int n2, .int n3, .int n4, .int n5]) ∧ F c = some (.lst (ns.map V.int)) ∧ 0 ≤ n1
structure Box where
  K : Frag
  a0 : Option Addr
  H0 : Hp
  F0 : Hp
structure Ok (B : Box) (ρ : PEnv) (σ : St) (H F : Hp) (own : Own) : Prop where
  sub : Same F H
  keep : ∀ a o, B.H0 a = some o → B.a0 ≠ some a → H a = some o
  up : Same B.F0 F
  new : ∀ a o, F a = some o → B.F0 a = some o ∨ B.H0 a = none
  ow : ∀ a x, own a = some x → F a = none ∧ B.H0 a = none ∧ (H a).isSome
  orc : ∀ a, B.a0 = some a → OrcAt B.K F H a ∧ F a = none ∧ own a = none ∧ (B.H0 a).isSome
  len : ρ.length = σ.length
  slot : ∀ (i : Nat) c, ρ[i]? = some (some c) → ∃ v, σ[i]? = some (some v) ∧ Rep B.K B.a0 F H own (some i) c v

section
variable {K : Frag} {a0 : Option Addr} {F F' H H' : Hp} {own own' : Own} {id : Option Nat} {B : Box} {ρ ρ' : PEnv} {σ σ' : St} {v : V} {c : C}
theorem Paired.mp {α β : Type} {R S : α → β → Prop} (h : ∀ a b, R a b → S a b) {xs : List α} {ys : List β} (p : Paired R xs ys) : Paired S xs ys := L2.Paired.mapP p h
theorem KZ.mono (s : Same F F') {ws kvs} (h : KZ K F ws kvs) : KZ K F' ws kvs := Paired.mp (fun _ _ q => ⟨q.1, q.2.mono s⟩) h
theorem Rows.keep (s : Same F F') (k : ∀ a j, own a = some (id, j) → own' a = some (id, j) ∧ H' a = H a) {vs dss} (h : Rows K F H own id vs dss) : Rows K F' H' own' id vs dss := by
  refine ⟨h.1, fun j ds e => ?_⟩
  obtain ⟨b, ws, h1, h2, h3, h4⟩ := h.2 j ds e
  obtain ⟨k1, k2⟩ := k _ _ h3
  exact ⟨b, ws, h1, by rw [k2]; exact h2, k1, h4.mono s⟩
theorem Rep.keep (s : Same F F') (k : ∀ a j, own a = some (id, j) → own' a = some (id, j) ∧ H' a = H a) (h : Rep K a0 F H own id c v) : Rep K a0 F' H' own' id c v := by
  cases c with
  | fz d => exact Fz.mono s h
  | orc => exact h
  | ls ds =>
    obtain ⟨a, vs, e, h1, h2, h3⟩ := h
    obtain ⟨k1, k2⟩ := k _ _ h2
    exact ⟨a, vs, e, by rw [k2]; exact h1, k1, h3.mono s⟩
  | ll dss =>
    obtain ⟨a, vs, e, h1, h2, h3⟩ := h
    obtain ⟨k1, k2⟩ := k _ _ h2
    exact ⟨a, vs, e, by rw [k2]; exact h1, k1, h3.keep s k⟩
  | dk kvs =>
    obtain ⟨a, ws, e, h1, h2, h3⟩ := h
    obtain ⟨k1, k2⟩ := k _ _ h2
    exact ⟨a, ws, e, by rw [k2]; exact h1, k1, h3.mono s⟩
  | «at» i => exact h
theorem RepT.keep (s : Same F F') (k : ∀ a j, own a = some (none, j) → own' a = some (none, j) ∧ H' a = H a) (h : RepT K a0 F H own σ c v) : RepT K a0 F' H' own' σ c v := by
  cases c with
  | «at» i => exact h
  | fz d => exact Rep.keep (a0 := a0) (c := .fz d) s k h
  | orc => exact h
  | ls ds => exact Rep.keep (a0 := a0) (c := .ls ds) s k h
  | ll ds => exact Rep.keep (a0 := a0) (c := .ll ds) s k h
  | dk ds => exact Rep.keep (a0 := a0) (c := .dk ds) s k h
theorem OrcAt.mono (s : Same F F') {a : Addr} (e : H' a = H a) (h : OrcAt K F H a) : OrcAt K F' H' a := by
  obtain ⟨c, ns, n1, n2, n3, n4, n5, h1, h2, h3⟩ := h
  exact ⟨c, ns, n1, n2, n3, n4, n5, by rw [e]; exact h1, s _ _ h2, h3⟩
theorem Ok.freeH0 (ok : Ok B ρ σ H F own) {p : Addr} (hp : H p = none) : B.H0 p = none := by
  cases e : B.H0 p with
  | none => rfl
  | some o =>
    by_cases h : B.a0 = some p
    · obtain ⟨_, _, _, _, _, _, _, q, _⟩ := (ok.orc p h).1
      rw [hp] at q; cases q
    · have := ok.keep p o e h
      rw [hp] at this; cases this
theorem Ok.freeF (ok : Ok B ρ σ H F own) {p : Addr} (hp : H p = none) : F p = none := ok.sub.free hp
theorem Ok.freeO (ok : Ok B ρ σ H F own) {p : Addr} (hp : H p = none) : own p = none := by
  cases e : own p with
  | none => rfl
  | some x =>
    have := (ok.ow p x e).2.2
    rw [hp] at this; cases this
theorem Ok.nil (ok : Ok B ρ σ H F own) : Ok B [] [] H F own :=
  ⟨ok.sub, ok.keep, ok.up, ok.new, ok.ow, ok.orc, rfl, fun i c e => by simp at e⟩
/-- forgetting slots -/
theorem Ok.weak (ok : Ok B ρ σ H F own) (hl : ρ'.length = ρ.length) (h : ∀ (i : Nat) c, ρ'[i]? = some (some c) → ρ[i]? = some (some c)) : Ok B ρ' σ H F own :=
  ⟨ok.sub, ok.keep, ok.up, ok.new, ok.ow, ok.orc, hl.trans ok.len, fun i c e => ok.slot i c (h i c e)⟩
theorem same_new {p : Addr} {o : HO} (hp : H p = none) : Same H (upd H p o) := fun b x e => by
  rw [upd_ne (ne_of_none e hp)]
  exact e
/-- a new frozen object -/
theorem Ok.newF (ok : Ok B ρ σ H F own) {p : Addr} {o : HO} (hp : H p = none) : Ok B ρ σ (upd H p o) (upd F p o) own := by
  have hF := ok.freeF hp
  have ho := ok.freeO hp
  have h0 := ok.freeH0 hp
  have sF : Same F (upd F p o) := same_new hF
  have ne : ∀ a x, own a = some x → a ≠ p := fun a x e z => by rw [z, ho] at e; cases e
  refine ⟨fun a q e => ?_, fun a q e1 e2 => ?_, ok.up.trans sF, fun a q e => ?_, fun a x e => ?_, fun a e => ?_, ok.len, fun i c e => ?_⟩
  · by_cases h : a = p
    · subst h; rw [upd_same] at e ⊢; exact e
    · rw [upd_ne h] at e ⊢; exact ok.sub _ _ e
  · exact same_new hp _ _ (ok.keep a q e1 e2)
  · by_cases h : a = p
    · subst h; exact .inr h0
    · rw [upd_ne h] at e; exact ok.new a q e
  · obtain ⟨h1, h2, h3⟩ := ok.ow a x e
    rw [upd_ne (ne a x e), upd_ne (ne a x e)]
    exact ⟨h1, h2, h3⟩
  · obtain ⟨h1, h2, h3, h4⟩ := ok.orc a e
    have na : a ≠ p := fun z => by rw [z, h0] at h4; cases h4
    exact ⟨h1.mono sF (upd_ne na), by rw [upd_ne na]; exact h2, h3, h4⟩
  · obtain ⟨v, h1, h2⟩ := ok.slot i c e
    exact ⟨v, h1, h2.keep sF fun a j q => ⟨q, upd_ne (ne a _ q)⟩⟩
/-- a new owned object, just given -/
def ownNew (own : Own) (p : Addr) (j : Nat) : Own := fun a => if a = p then some (none, j) else own a
theorem Ok.newO (ok : Ok B ρ σ H F own) {p : Addr} {o : HO} (j : Nat) (hp : H p = none) : Ok B ρ σ (upd H p o) F (ownNew own p j) := by
  have hF := ok.freeF hp
  have ho := ok.freeO hp
  have h0 := ok.freeH0 hp
  have ne : ∀ a x, own a = some x → a ≠ p := fun a x e z => by rw [z, ho] at e; cases e
  refine ⟨ok.sub.trans (same_new hp), fun a q e1 e2 => ?_, ok.up, ok.new, fun a x e => ?_, fun a e => ?_, ok.len, fun i c e => ?_⟩
  · exact same_new hp _ _ (ok.keep a q e1 e2)
  · by_cases h : a = p
    · subst h; exact ⟨hF, h0, by rw [upd_same]; rfl⟩
    · have e' : own a = some x := by simpa [ownNew, h] using e
      obtain ⟨h1, h2, h3⟩ := ok.ow a x e'
      rw [upd_ne h]
      exact ⟨h1, h2, h3⟩
  · obtain ⟨h1, h2, h3, h4⟩ := ok.orc a e
    have na : a ≠ p := fun z => by rw [z, h0] at h4; cases h4
    refine ⟨h1.mono (Same.refl _) (upd_ne na), h2, ?_, h4⟩
    simp [ownNew, na, h3]
  · obtain ⟨v, h1, h2⟩ := ok.slot i c e
    refine ⟨v, h1, h2.keep (Same.refl _) fun a j q => ?_⟩
    have na := ne a _ q
    exact ⟨by simp [ownNew, na, q], upd_ne na⟩
/-- all that id owns is frozen -/
def ownIs (own : Own) (id : Option Nat) (a : Addr) : Bool := match own a with
  | some (i, _) => decide (i = id)
  | none => false
def frzF (own : Own) (id : Option Nat) (H F : Hp) : Hp := fun a => if ownIs own id a = true then H a else F a
def frzO (own : Own) (id : Option Nat) : Own := fun a => if ownIs own id a = true then none else own a
theorem ownIs_of {own : Own} {id : Option Nat} {a : Addr} {j : Nat} (h : own a = some (id, j)) : ownIs own id a = true := by simp [ownIs, h]
theorem ownIs_ne {own : Own} {id id' : Option Nat} {a : Addr} {j : Nat} (h : own a = some (id', j)) (n : id' ≠ id) : ownIs own id a = false := by simp [ownIs, h, n]
theorem ownIs_none {own : Own} {id : Option Nat} {a : Addr} (h : own a = none) : ownIs own id a = false := by simp [ownIs, h]
theorem ownIs_some {own : Own} {id : Option Nat} {a : Addr} (h : ownIs own id a = true) : ∃ x, own a = some x := by
  cases e : own a with
  | none => rw [ownIs_none e] at h; cases h
  | some x => exact ⟨x, rfl⟩
theorem Ok.sameFrz (ok : Ok B ρ σ H F own) (id : Option Nat) : Same F (frzF own id H F) := fun a o e => by
  unfold frzF
  split
  · rename_i h
    obtain ⟨x, hx⟩ := ownIs_some h
    rw [(ok.ow a x hx).1] at e; cases e
  · exact e
theorem Ok.freeze (ok : Ok B ρ σ H F own) (id : Option Nat) (hl : ρ'.length = ρ.length) (hs : ∀ (i : Nat) c, ρ'[i]? = some (some c) → ρ[i]? = some (some c) ∧ (some i = id → ∃ d, c = .fz d) ) :
    Ok B ρ' σ H (frzF own id H F) (frzO own id) := by
  have sF := ok.sameFrz id
  refine ⟨fun a o e => ?_, ok.keep, ok.up.trans sF, fun a o e => ?_, fun a x e => ?_, fun a e => ?_, hl.trans ok.len, fun i c e => ?_⟩
  · unfold frzF at e
    split at e
    · exact e
    · exact ok.sub _ _ e
  · unfold frzF at e
    split at e
    · rename_i h
      obtain ⟨x, hx⟩ := ownIs_some h
      exact .inr (ok.ow a x hx).2.1
    · exact ok.new _ _ e
  · unfold frzO at e
    split at e
    · cases e
    · rename_i h
      obtain ⟨h1, h2, h3⟩ := ok.ow a x e
      refine ⟨?_, h2, h3⟩
      unfold frzF
      rw [if_neg h]
      exact h1
  · obtain ⟨h1, h2, h3, h4⟩ := ok.orc a e
    have z : ownIs own id a = false := ownIs_none h3
    refine ⟨h1.mono sF rfl, ?_, ?_, h4⟩
    · unfold frzF; rw [z]; exact h2
    · unfold frzO; rw [z]; exact h3
  · obtain ⟨e1, e2⟩ := hs i c e
    obtain ⟨v, h1, h2⟩ := ok.slot i c e1
    refine ⟨v, h1, ?_⟩
    by_cases hi : some i = id
    · obtain ⟨d, rfl⟩ := e2 hi
      exact Fz.mono sF h2
    · refine h2.keep sF fun a j q => ⟨?_, rfl⟩
      unfold frzO
      rw [ownIs_ne q hi]
      exact q
/-- what a cell is when it is frozen -/
def settle : C → C
  | .ls ds => .fz (.list ds)
  | .ll dss => .fz (.list (dss.map .list))
  | .dk kvs => .fz (.dict (kvs.map fun p => (KD p.1, p.2)))
  | c => c
theorem KZ.fzd (s : Same F F') : ∀ {ws : List (Key × V)} {kvs : List (Key × D)}, KZ K F ws kvs → FzD K F' ws (kvs.map fun p => (KD p.1, p.2))
  | _, _, .nil => .nil
  | (k, v) :: _, (k', d) :: _, .cons ⟨e, h⟩ t => by
    have e' : k = k' := e
    subst e'
    exact .cons (h.mono s) (KZ.fzd s t)
theorem rows_fzl (s : Same F F') (hf : ∀ a j o, own a = some (id, j) → H a = some o → F' a = some o) : ∀ {vs : List V} {dss : List (List D)} (n : Nat), vs.length = dss.length →
    (∀ j ds, dss[j]? = some ds → ∃ b ws, vs[j]? = some (.ref b) ∧ H b = some (.lst ws) ∧ own b = some (id, n + j + 1) ∧ FzL K F ws ds) → FzL K F' vs (dss.map .list)
  | [], [], _, _, _ => .nil
  | [], _ :: _, _, e, _ => by simp at e
  | _ :: _, [], _, e, _ => by simp at e
  | v :: vs, ds :: dss, n, e, h => by
    obtain ⟨b, ws, h1, h2, h3, h4⟩ := h 0 ds rfl
    have e1 : v = .ref b := by simpa using h1
    subst e1
    refine .cons (.lst (hf _ _ _ h3 h2) (h4.mono s)) (rows_fzl s hf (n + 1) (by simpa using e) fun j ds' e' => ?_)
    obtain ⟨b', ws', g1, g2, g3, g4⟩ := h (j + 1) ds' (by simpa using e')
    exact ⟨b', ws', by simpa using g1, g2, by rw [g3]; congr 1; congr 1; omega, g4⟩
/-- freezing what id owns -/
theorem Rep.frozen (ok : Ok B ρ σ H F own) (h : Rep K a0 F H own id c v) (hc : ∀ i, c ≠ .at i) : Rep K a0 (frzF own id H F) H (frzO own id) none (settle c) v := by
  have sF := ok.sameFrz id
  have hf : ∀ a j o, own a = some (id, j) → H a = some o → frzF own id H F a = some o := fun a j o h1 h2 => by
    unfold frzF; rw [if_pos (ownIs_of h1)]; exact h2
  cases c with
  | fz d => exact Fz.mono sF h
  | orc => exact h
  | ls ds =>
    obtain ⟨a, vs, rfl, h1, h2, h3⟩ := h
    exact Fz.lst (hf _ _ _ h2 h1) (h3.mono sF)
  | ll dss =>
    obtain ⟨a, vs, rfl, h1, h2, h3, h4⟩ := h
    refine Fz.lst (hf _ _ _ h2 h1) (rows_fzl sF hf 0 h3 fun j ds e => ?_)
    obtain ⟨b, ws, g1, g2, g3, g4⟩ := h4 j ds e
    exact ⟨b, ws, g1, g2, by rw [g3]; congr 1; congr 1; omega, g4⟩
  | dk kvs =>
    obtain ⟨a, ws, rfl, h1, h2, h3⟩ := h
    exact Fz.dic (hf _ _ _ h2 h1) (h3.fzd sF)
  | «at» i => exact absurd rfl (hc i)
end
end P

set_option Elab.async false
set_option linter.all false
set_option maxRecDepth 100000
set_option maxHeartbeats 4000000
/-! The P-layer, 2: steps of the state; readings over pure data; expressions. -/
namespace P
open PySem L2
section
variable {K : Frag} {a0 : Option Addr} {F F' H H' : Hp} {own own' : Own} {id id' : Option Nat} {B : Box} {ρ ρ' : PEnv} {σ σ' : St} {v : V} {c : C}
def ren (own : Own) (id id' : Option Nat) : Own := fun a => match own a with
  | some (x, k) => some (if x = id then id' else x, k)
  | none => none
theorem ren_hit {a : Addr} {k : Nat} (h : own a = some (id, k)) : ren own id id' a = some (id', k) := by simp [ren, h]
theorem ren_miss {a : Addr} {k : Nat} {x : Option Nat} (h : own a = some (x, k)) (n : x ≠ id) : ren own id id' a = some (x, k) := by simp [ren, h, n]
theorem ren_none {a : Addr} (h : own a = none) : ren own id id' a = none := by simp [ren, h]
theorem ren_some {a : Addr} {x} (h : ren own id id' a = some x) : ∃ y, own a = some y := by
  cases e : own a with
  | none => rw [ren_none e] at h; cases h
  | some y => exact ⟨y, rfl⟩
theorem Rep.ren (h : Rep K a0 F H own id c v) : Rep K a0 F H (ren own id id') id' c v := by
  cases c with
  | fz d => exact h
  | orc => exact h
  | ls ds =>
    obtain ⟨a, vs, e, h1, h2, h3⟩ := h
    exact ⟨a, vs, e, h1, ren_hit h2, h3⟩
  | ll dss =>
    obtain ⟨a, vs, e, h1, h2, h3, h4⟩ := h
    refine ⟨a, vs, e, h1, ren_hit h2, h3, fun j ds q => ?_⟩
    obtain ⟨b, ws, g1, g2, g3, g4⟩ := h4 j ds q
    exact ⟨b, ws, g1, g2, ren_hit g3, g4⟩
  | dk kvs =>
    obtain ⟨a, ws, e, h1, h2, h3⟩ := h
    exact ⟨a, ws, e, h1, ren_hit h2, h3⟩
  | «at» i => exact h
theorem Ok.ren (ok : Ok B ρ σ H F own) (id id' : Option Nat) (hl : ρ'.length = σ'.length) (h : ∀ (i : Nat) c, ρ'[i]? = some (some c) → ∃ v, σ'[i]? = some (some v) ∧ Rep B.K B.a0 F H (ren own id id') (some i) c v) :
    Ok B ρ' σ' H F (ren own id id') := by
  refine ⟨ok.sub, ok.keep, ok.up, ok.new, fun a x e => ?_, fun a e => ?_, hl, h⟩
  · obtain ⟨y, hy⟩ := ren_some e
    exact ok.ow a y hy
  · obtain ⟨h1, h2, h3, h4⟩ := ok.orc a e
    exact ⟨h1, h2, ren_none h3, h4⟩
def notAt : C → Prop
  | .at _ => False
  | _ => True
theorem RepT.rep (h : RepT K a0 F H own σ c v) (hc : notAt c) : Rep K a0 F H own none c v := by
  cases c with
  | «at» i => exact hc.elim
  | _ => exact h
theorem Rep.repT (h : Rep K a0 F H own none c v) : RepT K a0 F H own σ c v := by
  cases c with
  | «at» i => exact h.elim
  | _ => exact h
/-- what an expression gave is stored in slot i -/
theorem Ok.store (ok : Ok B ρ σ H F own) (h : RepT B.K B.a0 F H own σ c v) (hc : notAt c) (i : Nat) : Ok B (ρ.set i (some c)) (σ.set i (some v)) H F (P.ren own none (some i)) := by
  refine ok.ren none (some i) (by rw [List.length_set, List.length_set]; exact ok.len) fun j c' e => ?_
  by_cases hj : j = i
  · subst hj
    have hlt : j < ρ.length := by
      by_cases q : j < ρ.length
      · exact q
      · rw [List.getElem?_eq_none (by rw [List.length_set]; omega)] at e; cases e
    rw [List.getElem?_set_self hlt] at e
    cases e
    exact ⟨v, by rw [List.getElem?_set_self (by rw [← ok.len]; exact hlt)], (h.rep hc).ren⟩
  · rw [List.getElem?_set_ne (Ne.symm hj)] at e
    obtain ⟨v', h1, h2⟩ := ok.slot j c' e
    refine ⟨v', by rw [List.getElem?_set_ne (Ne.symm hj)]; exact h1, h2.keep (Same.refl _) fun a k q => ⟨ren_miss q (by simp), rfl⟩⟩
/-- an owned object is written -/
theorem Ok.write (ok : Ok B ρ σ H F own) {a : Addr} {o : HO} {id : Option Nat} {k : Nat} (ha : own a = some (id, k)) (hl : ρ'.length = ρ.length)
    (hs : ∀ (j : Nat) c, ρ'[j]? = some (some c) → (some j ≠ id ∧ ρ[j]? = some (some c)) ∨ ∃ v, σ[j]? = some (some v) ∧ Rep B.K B.a0 F (upd H a o) own (some j) c v) : Ok B ρ' σ (upd H a o) F own := by
  obtain ⟨w1, w2, w3⟩ := ok.ow a _ ha
  refine ⟨fun b u e => ?_, fun b u e1 e2 => ?_, ok.up, ok.new, fun b x e => ?_, fun b e => ?_, hl.trans ok.len, fun j c e => ?_⟩
  · rw [upd_ne (by rintro rfl; rw [w1] at e; cases e)]
    exact ok.sub _ _ e
  · rw [upd_ne (by rintro rfl; rw [w2] at e1; cases e1)]
    exact ok.keep _ _ e1 e2
  · obtain ⟨h1, h2, h3⟩ := ok.ow b x e
    refine ⟨h1, h2, ?_⟩
    by_cases h : b = a
    · subst h; rw [upd_same]; rfl
    · rw [upd_ne h]; exact h3
  · obtain ⟨h1, h2, h3, h4⟩ := ok.orc b e
    exact ⟨h1.mono (Same.refl _) (upd_ne (by rintro rfl; rw [h3] at ha; cases ha)), h2, h3, h4⟩
  · rcases hs j c e with ⟨h1, h2⟩ | h
    · obtain ⟨v, g1, g2⟩ := ok.slot j c h2
      refine ⟨v, g1, g2.keep (Same.refl _) fun b k' q => ⟨q, upd_ne ?_⟩⟩
      rintro rfl
      rw [ha] at q
      injection q with q1
      injection q1 with q2
      exact h1 q2.symm
    · exact h
/-- behind a call -/
def ownJ (own own' : Own) : Own := fun a => match own' a with
  | some (none, k) => some (none, k)
  | _ => own a
theorem ownJ_new {a : Addr} {k : Nat} (h : own' a = some (none, k)) : ownJ own own' a = some (none, k) := by simp [ownJ, h]
theorem ownJ_none {a : Addr} (h : own' a = none) : ownJ own own' a = own a := by simp [ownJ, h]
theorem ownJ_some {a : Addr} {x} (h : ownJ own own' a = some x) : (∃ k, own' a = some (none, k)) ∨ own a = some x := by
  unfold ownJ at h
  split at h
  · rename_i k e; exact .inl ⟨_, e⟩
  · exact .inr h
theorem Ok.call (ok : Ok B ρ σ H F own) (ok' : Ok ⟨B.K, B.a0, H, F⟩ [] [] H' F' own') : Ok B ρ σ H' F' (ownJ own own') ∧ Same F F' := by
  have nO : ∀ a x, own a = some x → B.a0 ≠ some a := fun a x e z => by rw [(ok.orc a z).2.2.1] at e; cases e
  have hk : ∀ a x, own a = some x → H' a = H a := fun a x e => by
    obtain ⟨h1, h2, h3⟩ := ok.ow a x e
    obtain ⟨o, ho⟩ := Option.isSome_iff_exists.mp h3
    rw [ho]
    exact ok'.keep a o ho (nO a x e)
  have hj : ∀ a x, own a = some x → ownJ own own' a = some x := fun a x e => by
    unfold ownJ
    split
    · rename_i k q
      have := (ok'.ow a _ q).2.1
      have h3 := (ok.ow a x e).2.2
      rw [show H a = none from this] at h3
      cases h3
    · exact e
  refine ⟨⟨ok'.sub, fun a o e1 e2 => ok'.keep a o (ok.keep a o e1 e2) e2, ok.up.trans ok'.up, fun a o e => ?_, fun a x e => ?_, fun a e => ?_, ok.len, fun i c e => ?_⟩, ok'.up⟩
  · rcases ok'.new a o e with h | h
    · exact ok.new a o h
    · exact .inr (ok.freeH0 h)
  · rcases ownJ_some e with ⟨k, h⟩ | h
    · obtain ⟨h1, h2, h3⟩ := ok'.ow a _ h
      exact ⟨h1, ok.freeH0 h2, h3⟩
    · obtain ⟨h1, h2, h3⟩ := ok.ow a x h
      refine ⟨?_, h2, by rw [hk a x h]; exact h3⟩
      cases q : F' a with
      | none => rfl
      | some o =>
        rcases ok'.new a o q with z | z
        · rw [show F a = some o from z] at h1; cases h1
        · rw [show H a = none from z] at h3; cases h3
  · obtain ⟨h1, h2, h3, h4⟩ := ok'.orc a e
    exact ⟨h1, h2, by rw [ownJ_none h3]; exact (ok.orc a e).2.2.1, (ok.orc a e).2.2.2⟩
  · obtain ⟨v, h1, h2⟩ := ok.slot i c e
    exact ⟨v, h1, h2.keep ok'.up fun a j q => ⟨hj _ _ q, hk _ _ q⟩⟩
/-- a call's start -/
theorem Ok.start (ok : Ok B ρ σ H F own) : Ok ⟨B.K, B.a0, H, F⟩ [] [] H F (fun _ => none) :=
  ⟨ok.sub, fun _ _ e _ => e, Same.refl _, fun _ _ e => .inl e, (fun _ _ e => nomatch e), (fun a e => by
    obtain ⟨h1, h2, h3, h4⟩ := ok.orc a e
    refine ⟨h1, h2, rfl, ?_⟩
    obtain ⟨_, _, _, _, _, _, _, q, _⟩ := h1
    show (H a).isSome = true
    rw [q]
    rfl), rfl, fun i c e => by simp at e⟩
end

/-! ### readings over pure data -/
/-- an exception: its class, its own fields -/
abbrev Ex := Addr × List (Str × D)
abbrev G := PEnv → (C → PEnv → Prop) → (Ex → Prop) → Prop
abbrev GT := PEnv → (Bool → PEnv → Prop) → (Ex → Prop) → Prop
abbrev GA := PEnv → (List C → PEnv → Prop) → (Ex → Prop) → Prop
structure PEnds where
  nx : PEnv → Prop
  rt : C → Prop
  bk : PEnv → Prop := fun _ => False
  ct : PEnv → Prop := fun _ => False
  ex : Ex → Prop := fun _ => False
abbrev S := PEnv → PEnds → Prop
def FzF (K : Frag) (F : Hp) : List (Str × V) → List (Str × D) → Prop := Paired fun p q => p.1 = q.1 ∧ Fz K F p.2 q.2
/-- what is wanted of an exception, over pure data -/
def ExL (E : XK) (B : Box) (Ep : Ex → Prop) : Prop := ∀ (cl : Addr) (d : Addr) (fs : List (Str × V)) (fds : List (Str × D)) (H' F' : Hp) (own' : Own),
  Ok B [] [] H' F' own' → H' d = some (.xd fs) → FzF B.K F' fs fds → Ep (cl, fds) → E (.ref cl) (some d) H'
def dnE (K : Frag) (E : XK) (g : G) : TE := fun σ H Q => ∃ (B : Box) (ρ : PEnv) (F : Hp) (own : Own) (Qp : C → PEnv → Prop) (Ep : Ex → Prop), B.K = K ∧ Ok B ρ σ H F own ∧ g ρ Qp Ep ∧ ExL E B Ep ∧
  ∀ c ρ' v H' F' own', Ok B ρ' σ H' F' own' → RepT B.K B.a0 F' H' own' σ c v → Same F F' → Qp c ρ' → Q v H'
def dnT (K : Frag) (E : XK) (g : GT) : TT := fun σ H Q => ∃ (B : Box) (ρ : PEnv) (F : Hp) (own : Own) (Qp : Bool → PEnv → Prop) (Ep : Ex → Prop), B.K = K ∧ Ok B ρ σ H F own ∧ g ρ Qp Ep ∧ ExL E B Ep ∧
  ∀ b ρ' H' F' own', Ok B ρ' σ H' F' own' → Same F F' → Qp b ρ' → Q b H'
/-- the settled cells of an argument list -/
inductive Args (K : Frag) (a0 : Option Addr) (F H : Hp) (σ : St) : List C → List V → Prop
  | nil : Args K a0 F H σ [] []
  | cons {c : C} {cs : List C} {v : V} {vs : List V} : RepT K a0 F H (fun _ => none) σ c v → Args K a0 F H σ cs vs → Args K a0 F H σ (c :: cs) (v :: vs)
def dnA (K : Frag) (E : XK) (g : GA) : TA := fun σ H Q => ∃ (B : Box) (ρ : PEnv) (F : Hp) (own : Own) (Qp : List C → PEnv → Prop) (Ep : Ex → Prop), B.K = K ∧ Ok B ρ σ H F own ∧ g ρ Qp Ep ∧ ExL E B Ep ∧
  ∀ cs ρ' vs H' F' own', Ok B ρ' σ H' F' own' → Args B.K B.a0 F' H' σ cs vs → Same F F' → Qp cs ρ' → Q vs H'
def dnS (K : Frag) (E : XK) (s : S) : TS := fun Dn σ H => ∃ (B : Box) (ρ : PEnv) (F : Hp) (own : Own) (Dp : PEnds), B.K = K ∧ Ok B ρ σ H F own ∧ s ρ Dp ∧ ExL E B Dp.ex ∧
  (∀ ρ' σ' H' F' own', Ok B ρ' σ' H' F' own' → Dp.nx ρ' → Dn.nx σ' H') ∧
  (∀ c v H' F' own', Ok B [] [] H' F' own' → Rep B.K B.a0 F' H' own' none c v → Dp.rt c → Dn.rt v H') ∧
  (∀ ρ' σ' H' F' own', Ok B ρ' σ' H' F' own' → Dp.bk ρ' → Dn.bk σ' H') ∧
  (∀ ρ' σ' H' F' own', Ok B ρ' σ' H' F' own' → Dp.ct ρ' → Dn.ct σ' H')
abbrev GE (X : Cx) (E : XK) (e : Expr) (g : G) : Prop := PE X e (dnE X.K E g)
abbrev GTe (X : Cx) (E : XK) (e : Expr) (g : GT) : Prop := PT X e (dnT X.K E g)
abbrev GAe (X : Cx) (E : XK) (es : List Expr) (g : GA) : Prop := PA X es (dnA X.K E g)
abbrev GSt (X : Cx) (E : XK) (st : Stmt) (s : S) : Prop := PS X st (dnS X.K E s)
abbrev GSs (X : Cx) (E : XK) (sts : List Stmt) (s : S) : Prop := PSs X sts (dnS X.K E s)
theorem pe_weak {X : Cx} {e : Expr} {t t' : TE} (h : PE X e t) (i : ∀ σ H Q, t' σ H Q → t σ H Q) : PE X e t' := ⟨fun pins s σ H Q I q => h.run pins s σ H Q I (i _ _ _ q)⟩
theorem pt_weak {X : Cx} {e : Expr} {t t' : TT} (h : PT X e t) (i : ∀ σ H Q, t' σ H Q → t σ H Q) : PT X e t' := ⟨fun pins s σ H Q I q => h.run pins s σ H Q I (i _ _ _ q)⟩
theorem pw_weak {X : Cx} {e : Expr} {t t' : TT} (h : PW X e t) (i : ∀ σ H Q, t' σ H Q → t σ H Q) : PW X e t' := ⟨fun wh pins s σ H Q I q => h.run wh pins s σ H Q I (i _ _ _ q)⟩
theorem pa_weak {X : Cx} {e : List Expr} {t t' : TA} (h : PA X e t) (i : ∀ σ H Q, t' σ H Q → t σ H Q) : PA X e t' := ⟨fun pos pins s σ H Q I q => h.run pos pins s σ H Q I (i _ _ _ q)⟩
theorem ps_weak {X : Cx} {e : Stmt} {t t' : TS} (h : PS X e t) (i : ∀ σ H Q, t' σ H Q → t σ H Q) : PS X e t' := ⟨fun pins s σ H Q I q => h.run pins s σ H Q I (i _ _ _ q)⟩
theorem pss_weak {X : Cx} {e : List Stmt} {t t' : TS} (h : PSs X e t) (i : ∀ σ H Q, t' σ H Q → t σ H Q) : PSs X e t' := ⟨fun pins s σ H Q I q => h.run pins s σ H Q I (i _ _ _ q)⟩

/-! ### views -/
def datK (kvs : List (Key × D)) : D := .dict (kvs.map fun p => (KD p.1, p.2))
def dat (ρ : PEnv) : C → Option D
  | .fz d => some d
  | .ls ds => some (.list ds)
  | .dk kvs => some (datK kvs)
  | .at i => match ρ[i]? with
    | some (some (.ls ds)) => some (.list ds)
    | some (some (.dk kvs)) => some (datK kvs)
    | some (some (.fz d)) => some d
    | _ => none
  | _ => none
def Vw (K : Frag) (F H : Hp) (v : V) : D → Prop
  | .none => v = .non
  | .bool b => v = .bl b
  | .int i => v = .int i
  | .str x => v = .str x
  | .list ds => ∃ a xs, v = .ref a ∧ H a = some (.lst xs) ∧ FzL K F xs ds
  | .tuple ds => Fz K F v (.tuple ds)
  | .dict kvs => ∃ a ws, v = .ref a ∧ H a = some (.dK ws) ∧ FzD K F ws kvs
section
variable {K : Frag} {a0 : Option Addr} {F F' H H' : Hp} {own own' : Own} {id id' : Option Nat} {B : Box} {ρ ρ' : PEnv} {σ σ' : St} {v : V} {c : C} {d : D}
theorem Fz.vw (s : Same F H) (h : Fz K F v d) : Vw K F H v d := by
  cases h with
  | non => rfl
  | bl b => rfl
  | int i => rfl
  | str x => rfl
  | lst h r => exact ⟨_, _, rfl, s _ _ h, r⟩
  | tup h r => exact .tup h r
  | dic h r => exact ⟨_, _, rfl, s _ _ h, r⟩
theorem Rep.vw (s : Same F H) (h : Rep K a0 F H own id c v) (e : dat [] c = some d) : Vw K F H v d := by
  cases c with
  | fz d' => cases e; exact h.vw s
  | orc => cases e
  | ls ds =>
    cases e
    obtain ⟨a, vs, rfl, h1, h2, h3⟩ := h
    exact ⟨a, vs, rfl, h1, h3⟩
  | ll dss => cases e
  | dk kvs =>
    cases e
    obtain ⟨a, ws, rfl, h1, h2, h3⟩ := h
    exact ⟨a, ws, rfl, h1, h3.fzd (Same.refl _)⟩
  | «at» i => simp [dat] at e
theorem RepT.vw (ok : Ok B ρ σ H F own) (h : RepT B.K B.a0 F H own' σ c v) (e : dat ρ c = some d) : Vw B.K F H v d := by
  cases c with
  | «at» i =>
    have h : σ[i]? = some (some v) := h
    cases q : ρ[i]? with
    | none => simp [dat, q] at e
    | some oc =>
      cases oc with
      | none => simp [dat, q] at e
      | some c =>
        obtain ⟨v', h1, h2⟩ := ok.slot i c q
        rw [h] at h1; cases h1
        refine h2.vw ok.sub ?_
        cases c with
        | fz d' => simpa [dat, q] using e
        | ls ds => simpa [dat, q] using e
        | dk ds => simpa [dat, q] using e
        | orc => simp [dat, q] at e
        | ll ds => simp [dat, q] at e
        | «at» j => exact h2.elim
  | fz d' => exact Rep.vw (a0 := B.a0) (own := own') (id := none) (c := .fz d') ok.sub h e
  | orc => cases e
  | ls ds => exact Rep.vw (a0 := B.a0) (own := own') (id := none) (c := .ls ds) ok.sub h e
  | ll ds => cases e
  | dk ds => exact Rep.vw (a0 := B.a0) (own := own') (id := none) (c := .dk ds) ok.sub h e
/-- what has just been given is settled: frozen, or it was no owned thing -/
theorem settle_ok (ok : Ok B ρ σ H F own) (h : RepT B.K B.a0 F H own σ c v) : ∃ F' own', Ok B ρ σ H F' own' ∧ Same F F' ∧ RepT B.K B.a0 F' H (fun _ => none) σ (settle c) v := by
  have fr : Ok B ρ σ H (frzF own none H F) (frzO own none) := ok.freeze none rfl fun i c e => ⟨e, fun z => nomatch z⟩
  have z : ∀ {c v}, Rep B.K B.a0 F H own none c v → notAt c → Rep B.K B.a0 (frzF own none H F) H (fun _ => none) none (settle c) v := fun {c v} q n => by
    have w := q.frozen ok (fun i e => by subst e; exact n)
    cases c with
    | «at» i => exact n.elim
    | fz d => exact w
    | orc => exact w
    | ls ds => exact w
    | ll ds => exact w
    | dk ds => exact w
  cases c with
  | «at» i => exact ⟨F, own, ok, Same.refl _, h⟩
  | fz d => exact ⟨_, _, fr, ok.sameFrz none, z (c := .fz d) h trivial⟩
  | orc => exact ⟨_, _, fr, ok.sameFrz none, z (c := .orc) h trivial⟩
  | ls ds => exact ⟨_, _, fr, ok.sameFrz none, z (c := .ls ds) h trivial⟩
  | ll ds => exact ⟨_, _, fr, ok.sameFrz none, z (c := .ll ds) h trivial⟩
  | dk ds => exact ⟨_, _, fr, ok.sameFrz none, z (c := .dk ds) h trivial⟩
/-- a settled cell stands through what follows -/
theorem RepT.carry (h : RepT K a0 F H (fun _ => none) σ c v) (s : Same F F') : RepT K a0 F' H' (fun _ => none) σ c v := h.keep s fun _ _ e => by cases e
end
/-- what an operation by values may give -/
structure Res (K : Frag) (F H : Hp) (Qp : C → Prop) (Q : VK) : Prop where
  dat : ∀ d v, Fz K F v d → Qp (.fz d) → Q v H
  tup : ∀ p ds vs, H p = none → FzL K F vs ds → Qp (.fz (.tuple ds)) → Q (.ref p) (upd H p (.tup vs))
  lst : ∀ p ds vs, H p = none → FzL K F vs ds → Qp (.ls ds) → Q (.ref p) (upd H p (.lst vs))
section
variable {K : Frag} {a0 : Option Addr} {F F' H H' : Hp} {own own' : Own} {id id' : Option Nat} {B : Box} {ρ ρ' : PEnv} {σ σ' : St} {v : V} {c : C} {d : D}
theorem res_of (ok : Ok B ρ σ H F own) {Qp : C → Prop} {Q : VK} (k : ∀ c v H' F' own', Ok B ρ σ H' F' own' → RepT B.K B.a0 F' H' own' σ c v → Same F F' → Qp c → Q v H') : Res B.K F H Qp Q where
  dat := fun d v h q => k (.fz d) v H F own ok h (Same.refl _) q
  tup := fun p ds vs hp h q => k (.fz (.tuple ds)) (.ref p) _ _ _ (ok.newF (o := .tup vs) hp) (Fz.tup (SqT.of upd_same) (h.mono (same_new (ok.freeF hp)))) (same_new (ok.freeF hp)) q
  lst := fun p ds vs hp h q => k (.ls ds) (.ref p) _ _ _ (ok.newO (o := .lst vs) 0 hp) ⟨p, vs, rfl, upd_same, by simp [ownNew], h⟩ (Same.refl _) q
end
abbrev Pf2 := D → D → (C → Prop) → Prop
abbrev Pf1 := D → (C → Prop) → Prop
abbrev PfL := List D → (C → Prop) → Prop
def R2V (K : Frag) (r : R2) (pf : Pf2) : Prop := ∀ F H x y d e Qp Q, Same F H → Vw K F H x d → Vw K F H y e → pf d e Qp → Res K F H Qp Q → r x y H Q
def R1V (K : Frag) (r : V → Hp → VK → Prop) (pf : Pf1) : Prop := ∀ F H x d Qp Q, Same F H → Vw K F H x d → pf d Qp → Res K F H Qp Q → r x H Q

/-! ### expressions -/
section
variable {X : Cx} {E : XK}
def gVar (i : Nat) : G := fun ρ Q _ => match ρ[i]? with
  | some (some (.fz d)) => Q (.fz d) ρ
  | some (some .orc) => Q .orc ρ
  | some (some _) => Q (.at i) ρ
  | _ => False
theorem ge_var {i : Nat} {x : Str} {pos : Pos} (hN : X.N[i]? = some x) (hv : Vis X.env.scope x) (hd : (x == ("__debug__" : Str)) = false := by decide) (hcd : (x == ("__classdict__" : Str)) = false := by decide) : GE X E (.Name x pos) (gVar i) := by
  refine pe_weak (pe_var hN hv hd hcd) fun σ H Q ⟨B, ρ, F, own, Qp, Ep, hK, ok, h, lx, k⟩ => ?_
  cases q : ρ[i]? with
  | none => simp [gVar, q] at h
  | some oc =>
    cases oc with
    | none => simp [gVar, q] at h
    | some c =>
      obtain ⟨v, h1, h2⟩ := ok.slot i c q
      refine ⟨v, h1, ?_⟩
      cases c with
      | fz d => exact k (.fz d) ρ v H F own ok h2 (Same.refl _) (by simpa [gVar, q] using h)
      | orc => exact k .orc ρ v H F own ok h2 (Same.refl _) (by simpa [gVar, q] using h)
      | ls ds => exact k (.at i) ρ v H F own ok h1 (Same.refl _) (by simpa [gVar, q] using h)
      | ll ds => exact k (.at i) ρ v H F own ok h1 (Same.refl _) (by simpa [gVar, q] using h)
      | dk ds => exact k (.at i) ρ v H F own ok h1 (Same.refl _) (by simpa [gVar, q] using h)
      | «at» j => exact h2.elim
def gC (d : D) : G := fun ρ Q _ => Q (.fz d) ρ
theorem ge_const {e : Expr} {v : V} {d : D} (h : PE X e (tC v)) (f : ∀ F, Fz X.K F v d) : GE X E e (gC d) :=
  pe_weak h fun σ H Q ⟨B, ρ, F, own, Qp, Ep, hK, ok, h, lx, k⟩ => k (.fz d) ρ v H F own ok (by show Fz B.K F v d; rw [hK]; exact f F) (Same.refl _) h
theorem ge_int {i : Int} {j : Nat} {pos : Pos} : GE X E (.Constant (.int i) j pos) (gC (.int i)) := ge_const pe_int fun _ => .int i
theorem ge_str {x : Str} {j : Nat} {pos : Pos} : GE X E (.Constant (.str x) j pos) (gC (.str x)) := ge_const pe_str fun _ => .str x
theorem ge_bl {b : Bool} {j : Nat} {pos : Pos} : GE X E (.Constant (.bool b) j pos) (gC (.bool b)) := ge_const pe_bl fun _ => .bl b
theorem ge_non {j : Nat} {pos : Pos} : GE X E (.Constant .none j pos) (gC .none) := ge_const pe_non fun _ => .non
/-- two operands, an operation by values -/
def op2 (pf : Pf2) (c1 c2 : C) (ρ : PEnv) (k : C → Prop) : Prop := match dat ρ c1, dat ρ c2 with
  | some d, some e => pf d e k
  | _, _ => False
def gOp2 (pf : Pf2) (ga gb : G) : G := fun ρ Q Ep => ga ρ (fun c1 ρ1 => gb ρ1 (fun c2 ρ2 => op2 pf (settle c1) (settle c2) ρ2 fun r => Q r ρ2) Ep) Ep
theorem op2_ok {B : Box} {ρ : PEnv} {σ : St} {H F : Hp} {own own1 own2 : Own} {pf : Pf2} {r : R2} {c1 c2 : C} {x y : V} {Qp : C → Prop} {Q : VK} (hr : R2V B.K r pf) (ok : Ok B ρ σ H F own) (h1 : RepT B.K B.a0 F H own1 σ c1 x) (h2 : RepT B.K B.a0 F H own2 σ c2 y)
    (h : op2 pf c1 c2 ρ Qp) (k : ∀ c v H' F' own', Ok B ρ σ H' F' own' → RepT B.K B.a0 F' H' own' σ c v → Same F F' → Qp c → Q v H') : r x y H Q := by
  unfold op2 at h
  split at h
  · rename_i d e e1 e2
    exact hr F H x y d e Qp Q ok.sub (h1.vw ok e1) (h2.vw ok e2) h (res_of ok k)
  · exact h.elim
theorem dn2 {r : R2} {pf : Pf2} {ga gb : G} (hr : R2V X.K r pf) {σ : St} {H : Hp} {Q : VK} (h : dnE X.K E (gOp2 pf ga gb) σ H Q) : tOp r (dnE X.K E ga) (dnE X.K E gb) σ H Q := by
  obtain ⟨B, ρ, F, own, Qp, Ep, hK, ok, h, lx, k⟩ := h
  refine ⟨B, ρ, F, own, _, Ep, hK, ok, h, lx, fun c1 ρ1 x H1 F1 own1 ok1 r1 s1 q1 => ?_⟩
  obtain ⟨F1', own1', ok1', s1', r1'⟩ := settle_ok ok1 r1
  refine ⟨B, ρ1, F1', own1', _, Ep, hK, ok1', q1, lx, fun c2 ρ2 y H2 F2 own2 ok2 r2 s2 q2 => ?_⟩
  obtain ⟨F2', own2', ok2', s2', r2'⟩ := settle_ok ok2 r2
  exact op2_ok (by rw [hK]; exact hr) ok2' (r1'.carry (s2.trans s2')) r2' q2 fun c v H' F' own' ok' rp s q => k c ρ2 v H' F' own' ok' rp ((s1.trans s1').trans ((s2.trans s2').trans s)) q
theorem ge_op {op : Operator} {a b : Expr} {pos : Pos} {r : R2} {pf : Pf2} {ga gb : G} (ho : OpR X (binaryOp op) r) (hr : R2V X.K r pf) (ha : GE X E a ga) (hb : GE X E b gb) : GE X E (.BinOp a op b pos) (gOp2 pf ga gb) :=
  pe_weak (pe_op ho ha hb) fun _ _ _ h => dn2 hr h
theorem ge_cmp {op : CmpOp} {a b : Expr} {pos : Pos} {r : R2} {pf : Pf2} {ga gb : G} (ho : OpR X (compareOp op) r) (hr : R2V X.K r pf) (ha : GE X E a ga) (hb : GE X E b gb) (hm : behindInMarks op b = false) : GE X E (.Compare a [op] [b] pos) (gOp2 pf ga gb) :=
  pe_weak (pe_cmpR ho ha hb hm) fun _ _ _ h => dn2 hr h
/-- an answer as a test -/
def tstC : C → (Bool → Prop) → Prop
  | .fz (.bool b), k => k b
  | _, _ => False
theorem tstC_inv {c : C} {k : Bool → Prop} (h : tstC c k) : ∃ b, c = .fz (.bool b) ∧ k b := by
  unfold tstC at h
  split at h
  · exact ⟨_, rfl, h⟩
  · exact h.elim
def gTst (g : G) : GT := fun ρ Q Ep => g ρ (fun c ρ' => tstC c fun b => Q b ρ') Ep
theorem dnTst {t : TE} {g : G} (i : ∀ σ H Q, dnE X.K E g σ H Q → t σ H Q) {σ : St} {H : Hp} {Q : Bool → Hp → Prop} (h : dnT X.K E (gTst g) σ H Q) : tTest t σ H Q := by
  obtain ⟨B, ρ, F, own, Qp, Ep, hK, ok, h, lx, k⟩ := h
  refine i _ _ _ ⟨B, ρ, F, own, _, Ep, hK, ok, h, lx, fun c ρ' v H' F' own' ok' r s q => ?_⟩
  obtain ⟨b, rfl, q⟩ := tstC_inv q
  have r : Fz B.K F' v (.bool b) := r
  cases r
  exact ⟨b, rfl, k b ρ' H' F' own' ok' s q⟩
theorem gt_cmp {op : CmpOp} {a b : Expr} {pos : Pos} {r : R2} {pf : Pf2} {ga gb : G} (ho : OpR X (compareOp op) r) (hr : R2V X.K r pf) (ha : GE X E a ga) (hb : GE X E b gb) (hm : behindInMarks op b = false) : GTe X E (.Compare a [op] [b] pos) (gTst (gOp2 pf ga gb)) :=
  pt_weak (pt_cmpR ho ha hb hm) fun _ _ _ h => dnTst (fun _ _ _ h => dn2 hr h) h
theorem gt_val {e : Expr} {g : G} (h : GE X E e g) (he : ∀ whole, isTrue e X.env whole = (do let v ← whole; standAt e.pos; holding [v] (truthy v)) := by intro _; rfl) : GTe X E e (gTst g) :=
  pt_weak (pt_val h he) fun _ _ _ h => dnTst (fun _ _ _ h => h) h
def gNot (g : GT) : GT := fun ρ Q Ep => g ρ (fun b ρ' => Q (!b) ρ') Ep
theorem gt_not {a : Expr} {g : GT} {pos : Pos} (h : GTe X E a g) : GTe X E (.UnaryOp .Not a pos) (gNot g) :=
  pt_weak (pt_not h) fun σ H Q ⟨B, ρ, F, own, Qp, Ep, hK, ok, h, lx, k⟩ => ⟨B, ρ, F, own, _, Ep, hK, ok, h, lx, fun b ρ' H' F' own' ok' s q => k (!b) ρ' H' F' own' ok' s q⟩
abbrev GW (X : Cx) (E : XK) (e : Expr) (g : GT) : Prop := PW X e (dnT X.K E g)
theorem gw_pt {e : Expr} {g : GT} (h : GW X E e g) : GTe X E e g := h.pt
theorem gw_and1 {a : Expr} {g : GT} {pos : Pos} (h : GTe X E a g) : GW X E (.BoolOp .And [a] pos) g := pw_and1 h
theorem gw_or1 {a : Expr} {g : GT} {pos : Pos} (h : GTe X E a g) : GW X E (.BoolOp .Or [a] pos) g := pw_or1 h
def gAnd (g u : GT) : GT := fun ρ Q Ep => g ρ (fun b ρ' => iteB b (u ρ' Q Ep) (Q false ρ')) Ep
def gOr (g u : GT) : GT := fun ρ Q Ep => g ρ (fun b ρ' => iteB b (Q true ρ') (u ρ' Q Ep)) Ep
theorem gw_and {a b : Expr} {rest : List Expr} {g u : GT} {pos : Pos} (h : GTe X E a g) (h2 : GW X E (.BoolOp .And (b :: rest) pos) u) : GW X E (.BoolOp .And (a :: b :: rest) pos) (gAnd g u) :=
  pw_weak (pw_and h h2) fun σ H Q ⟨B, ρ, F, own, Qp, Ep, hK, ok, h, lx, k⟩ => ⟨B, ρ, F, own, _, Ep, hK, ok, h, lx, fun b ρ' H' F' own' ok' s q => by
    cases b with
    | true =>
      rw [iteB_tt] at q; rw [if_pos rfl]
      exact ⟨B, ρ', F', own', _, Ep, hK, ok', q, lx, fun b2 ρ2 H2 F2 own2 ok2 s2 q2 => k b2 ρ2 H2 F2 own2 ok2 (s.trans s2) q2⟩
    | false =>
      rw [iteB_ff] at q; rw [if_neg Bool.false_ne_true]
      exact k false ρ' H' F' own' ok' s q⟩
theorem gw_or {a b : Expr} {rest : List Expr} {g u : GT} {pos : Pos} (h : GTe X E a g) (h2 : GW X E (.BoolOp .Or (b :: rest) pos) u) : GW X E (.BoolOp .Or (a :: b :: rest) pos) (gOr g u) :=
  pw_weak (pw_or h h2) fun σ H Q ⟨B, ρ, F, own, Qp, Ep, hK, ok, h, lx, k⟩ => ⟨B, ρ, F, own, _, Ep, hK, ok, h, lx, fun b ρ' H' F' own' ok' s q => by
    cases b with
    | false =>
      rw [iteB_ff] at q; rw [if_neg Bool.false_ne_true]
      exact ⟨B, ρ', F', own', _, Ep, hK, ok', q, lx, fun b2 ρ2 H2 F2 own2 ok2 s2 q2 => k b2 ρ2 H2 F2 own2 ok2 (s.trans s2) q2⟩
    | true =>
      rw [iteB_tt] at q; rw [if_pos rfl]
      exact k true ρ' H' F' own' ok' s q⟩
def gIf (t : GT) (ga gb : G) : G := fun ρ Q Ep => t ρ (fun b ρ' => iteB b (ga ρ' Q Ep) (gb ρ' Q Ep)) Ep
theorem ge_if {c a b : Expr} {t : GT} {ga gb : G} {pos : Pos} (hc : GTe X E c t) (ha : GE X E a ga) (hb : GE X E b gb) : GE X E (.IfExp c a b pos) (gIf t ga gb) :=
  pe_weak (pe_ifExp hc ha hb) fun σ H Q ⟨B, ρ, F, own, Qp, Ep, hK, ok, h, lx, k⟩ => ⟨B, ρ, F, own, _, Ep, hK, ok, h, lx, fun b ρ' H' F' own' ok' s q => by
    cases b with
    | true =>
      rw [iteB_tt] at q; rw [if_pos rfl]
      exact ⟨B, ρ', F', own', _, Ep, hK, ok', q, lx, fun c2 ρ2 v2 H2 F2 own2 ok2 r2 s2 q2 => k c2 ρ2 v2 H2 F2 own2 ok2 r2 (s.trans s2) q2⟩
    | false =>
      rw [iteB_ff] at q; rw [if_neg Bool.false_ne_true]
      exact ⟨B, ρ', F', own', _, Ep, hK, ok', q, lx, fun c2 ρ2 v2 H2 F2 own2 ok2 r2 s2 q2 => k c2 ρ2 v2 H2 F2 own2 ok2 r2 (s.trans s2) q2⟩⟩
/-! argument lists -/
def gNil : GA := fun ρ Q _ => Q [] ρ
def gCons (g : G) (t : GA) : GA := fun ρ Q Ep => g ρ (fun c ρ1 => t ρ1 (fun cs ρ2 => Q (settle c :: cs) ρ2) Ep) Ep
theorem ga_nil : GAe X E [] gNil := pa_weak pa_nil fun σ H Q ⟨B, ρ, F, own, Qp, Ep, hK, ok, h, lx, k⟩ => k [] ρ [] H F own ok .nil (Same.refl _) h
theorem ga_cons {e : Expr} {es : List Expr} {g : G} {t : GA} (ha : GE X E e g) (hr : GAe X E es t) (hs : starEach (e :: es) X.env = (false, eval e X.env) :: starEach es X.env := by rfl) : GAe X E (e :: es) (gCons g t) :=
  pa_weak (pa_cons ha hr hs) fun σ H Q ⟨B, ρ, F, own, Qp, Ep, hK, ok, h, lx, k⟩ => by
    refine ⟨B, ρ, F, own, _, Ep, hK, ok, h, lx, fun c1 ρ1 x H1 F1 own1 ok1 r1 s1 q1 => ?_⟩
    obtain ⟨F1', own1', ok1', s1', r1'⟩ := settle_ok ok1 r1
    exact ⟨B, ρ1, F1', own1', _, Ep, hK, ok1', q1, lx, fun cs ρ2 vs H2 F2 own2 ok2 r2 s2 q2 => k _ ρ2 _ H2 F2 own2 ok2 (.cons (r1'.carry s2) r2) ((s1.trans s1').trans s2) q2⟩
/-- the data of settled cells -/
def dats (ρ : PEnv) : List C → Option (List D)
  | [] => some []
  | c :: cs => match dat ρ c, dats ρ cs with
    | some d, some ds => some (d :: ds)
    | _, _ => none
inductive VwL (K : Frag) (F H : Hp) : List V → List D → Prop
  | nil : VwL K F H [] []
  | cons {v : V} {vs : List V} {d : D} {ds : List D} : Vw K F H v d → VwL K F H vs ds → VwL K F H (v :: vs) (d :: ds)
theorem Args.vwL {B : Box} {ρ : PEnv} {σ : St} {H F : Hp} {own : Own} (ok : Ok B ρ σ H F own) : ∀ {cs vs ds}, Args B.K B.a0 F H σ cs vs → dats ρ cs = some ds → VwL B.K F H vs ds
  | [], _, _, .nil, e => by cases e; exact .nil
  | c :: cs, _, ds, .cons h r, e => by
    unfold dats at e
    split at e
    · rename_i d ds' e1 e2
      cases e
      exact .cons (h.vw ok e1) (Args.vwL ok r e2)
    · cases e
def RLV (K : Frag) (r : List V → Hp → VK → Prop) (pf : PfL) : Prop := ∀ F H xs ds Qp Q, Same F H → VwL K F H xs ds → pf ds Qp → Res K F H Qp Q → r xs H Q
def opL (pf : PfL) (cs : List C) (ρ : PEnv) (k : C → Prop) : Prop := match dats ρ cs with
  | some ds => pf ds k
  | none => False
def gCallB (pf : PfL) (ga : GA) : G := fun ρ Q Ep => ga ρ (fun cs ρ1 => opL pf cs ρ1 fun r => Q r ρ1) Ep
theorem dnL {r : List V → Hp → VK → Prop} {pf : PfL} {ga : GA} (hr : RLV X.K r pf) {σ : St} {H : Hp} {Q : VK} (h : dnE X.K E (gCallB pf ga) σ H Q) : tCB r (dnA X.K E ga) σ H Q := by
  obtain ⟨B, ρ, F, own, Qp, Ep, hK, ok, h, lx, k⟩ := h
  refine ⟨B, ρ, F, own, _, Ep, hK, ok, h, lx, fun cs ρ1 vs H1 F1 own1 ok1 r1 s1 q1 => ?_⟩
  have q1 : opL pf cs ρ1 fun r => Qp r ρ1 := q1
  unfold opL at q1
  split at q1
  · rename_i ds e
    refine hr F1 H1 vs ds _ Q ok1.sub (by rw [← hK]; exact r1.vwL ok1 e) q1 ?_
    rw [← hK]
    exact res_of ok1 fun c v H' F' own' ok' rp s q => k c ρ1 v H' F' own' ok' rp (s1.trans s) q
  · exact q1.elim
theorem ge_callB {id : String} {x : Str} {p pos : Pos} {e : Expr} {es : List Expr} {r : List V → Hp → VK → Prop} {pf : PfL} {ga : GA} (hc : CallR X (.builtin id) r) (hr : RLV X.K r pf) (hg : Gl X x) (hm : X.mg x = none) (hv : bootBuiltins x = some (.builtin id)) (ha : GAe X E (e :: es) ga)
    (hn : x ≠ "__name__" := by decide) (hdb : (x == ("__debug__" : Str)) = false := by decide) (he : starEach (e :: es) X.env = (false, eval e X.env) :: starEach es X.env := by rfl) (hpl : (backTo pos (starEach es X.env)).any (·.1) = false := by rfl) :
    GE X E (.Call (.Name x p) (e :: es) [] pos) (gCallB pf ga) := pe_weak (pe_callB hc hg hm hv ha hn hdb he hpl) fun _ _ _ h => dnL hr h
theorem ge_callTy {id : String} {x : Str} {p pos : Pos} {e : Expr} {es : List Expr} {r : List V → Hp → VK → Prop} {pf : PfL} {ga : GA} (hc : CallR X (.type id) r) (hr : RLV X.K r pf) (hg : Gl X x) (hm : X.mg x = none) (hv : bootBuiltins x = some (.type id)) (ha : GAe X E (e :: es) ga)
    (hn : x ≠ "__name__" := by decide) (hdb : (x == ("__debug__" : Str)) = false := by decide) (he : starEach (e :: es) X.env = (false, eval e X.env) :: starEach es X.env := by rfl) (hpl : (backTo pos (starEach es X.env)).any (·.1) = false := by rfl) :
    GE X E (.Call (.Name x p) (e :: es) [] pos) (gCallB pf ga) := pe_weak (pe_callTy hc hg hm hv ha hn hdb he hpl) fun _ _ _ h => dnL hr h
end
end P

set_option Elab.async false
set_option linter.all false
set_option maxRecDepth 100000
set_option maxHeartbeats 4000000
/-! The P-layer, 3: displays, calls of one's own defs, owned lists and dicts, statements. -/
namespace P
open PySem L2
section
variable {K : Frag} {a0 : Option Addr} {F F' H H' : Hp} {own own' : Own} {id id' : Option Nat} {B : Box} {ρ ρ' : PEnv} {σ σ' : St} {v : V} {c : C} {d : D}
/-! ### freezing what stands in slots -/
def frz1 (ρ : PEnv) : C → C × PEnv
  | .at i => match ρ[i]? with
    | some (some c) => (settle c, ρ.set i (some (settle c)))
    | _ => (.at i, ρ)
  | c => (c, ρ)
def frzL : PEnv → List C → List C × PEnv
  | ρ, [] => ([], ρ)
  | ρ, c :: cs => ((frz1 ρ c).1 :: (frzL (frz1 ρ c).2 cs).1, (frzL (frz1 ρ c).2 cs).2)
/-- a cell that may be handed on -/
def RepZ (K : Frag) (a0 : Option Addr) (F : Hp) : C → V → Prop
  | .fz d, v => Fz K F v d
  | .orc, v => ∃ a, a0 = some a ∧ v = .ref a
  | _, _ => False
theorem RepZ.mono (h : RepZ K a0 F c v) (s : Same F F') : RepZ K a0 F' c v := by
  cases c with
  | fz d => exact Fz.mono s h
  | orc => exact h
  | _ => exact h.elim
theorem RepZ.rep (h : RepZ K a0 F c v) : Rep K a0 F H own id c v := by
  cases c with
  | fz d => exact h
  | orc => exact h
  | _ => exact h.elim
theorem RepZ.repT (h : RepZ K a0 F c v) : RepT K a0 F H own σ c v := by
  cases c with
  | fz d => exact h
  | orc => exact h
  | _ => exact h.elim
theorem RepT.z (h : RepT K a0 F H (fun _ => none) σ c v) (hc : notAt c) : RepZ K a0 F c v := by
  cases c with
  | fz d => exact h
  | orc => exact h
  | ls ds => obtain ⟨_, _, _, _, e, _⟩ := h; cases e
  | ll ds => obtain ⟨_, _, _, _, e, _⟩ := h; cases e
  | dk ds => obtain ⟨_, _, _, _, e, _⟩ := h; cases e
  | «at» i => exact hc.elim
theorem settle_z (c : C) (hc : notAt c) (h : Rep K a0 F H own none (settle c) v) : RepZ K a0 F (settle c) v := by
  cases c with
  | fz d => exact h
  | orc => exact h
  | ls ds => exact h
  | ll ds => exact h
  | dk ds => exact h
  | «at» i => exact hc.elim
theorem set_get {α : Type} {l : List α} {i j : Nat} {x y : α} (h : (l.set i x)[j]? = some y) : (j = i ∧ y = x ∧ i < l.length) ∨ (j ≠ i ∧ l[j]? = some y) := by
  by_cases hj : j = i
  · subst hj
    by_cases q : j < l.length
    · rw [List.getElem?_set_self q] at h
      cases h
      exact .inl ⟨rfl, rfl, q⟩
    · rw [List.getElem?_eq_none (by rw [List.length_set]; omega)] at h; cases h
  · rw [List.getElem?_set_ne (Ne.symm hj)] at h
    exact .inr ⟨hj, h⟩
theorem frz1_ok (ok : Ok B ρ σ H F own) (h : RepT B.K B.a0 F H (fun _ => none) σ c v) : ∃ F' own', Ok B (frz1 ρ c).2 σ H F' own' ∧ Same F F' ∧ ((frz1 ρ c).1 = c ∧ (∃ i, c = .at i) ∨ RepZ B.K B.a0 F' (frz1 ρ c).1 v) := by
  cases c with
  | «at» i =>
    cases q : ρ[i]? with
    | none => exact ⟨F, own, by simpa [frz1, q] using ok, Same.refl _, .inl ⟨by simp [frz1, q], i, rfl⟩⟩
    | some oc =>
      cases oc with
      | none => exact ⟨F, own, by simpa [frz1, q] using ok, Same.refl _, .inl ⟨by simp [frz1, q], i, rfl⟩⟩
      | some c =>
        obtain ⟨v', h1, h2⟩ := ok.slot i c q
        have h : σ[i]? = some (some v) := h
        rw [h] at h1; cases h1
        have nc : ∀ j, c ≠ .at j := fun j e => by subst e; exact h2
        have nc' : notAt c := by cases c <;> first | trivial | exact h2
        have fr : Ok B (ρ.set i none) σ H (frzF own (some i) H F) (frzO own (some i)) := ok.freeze (some i) (by rw [List.length_set]) fun j c' e => by
          rcases set_get e with ⟨_, z, _⟩ | ⟨hj, z⟩
          · cases z
          · exact ⟨z, fun w => absurd (Option.some.inj w) hj⟩
        have z := settle_z c nc' (h2.frozen ok nc)
        have e1 : (frz1 ρ (.at i)).1 = settle c := by simp [frz1, q]
        have e2 : (frz1 ρ (.at i)).2 = ρ.set i (some (settle c)) := by simp [frz1, q]
        rw [e1, e2]
        refine ⟨_, _, ⟨fr.sub, fr.keep, fr.up, fr.new, fr.ow, fr.orc, by rw [List.length_set]; exact ok.len, fun j c' e => ?_⟩, ok.sameFrz _, .inr z⟩
        rcases set_get e with ⟨rfl, z', _⟩ | ⟨hj, z'⟩
        · cases z'
          exact ⟨v, h, z.rep⟩
        · exact fr.slot j c' (by rw [List.getElem?_set_ne (Ne.symm hj)]; exact z')
  | fz d => exact ⟨F, own, ok, Same.refl _, .inr (h.z trivial)⟩
  | orc => exact ⟨F, own, ok, Same.refl _, .inr (h.z trivial)⟩
  | ls ds => exact ⟨F, own, ok, Same.refl _, .inr (h.z trivial)⟩
  | ll ds => exact ⟨F, own, ok, Same.refl _, .inr (h.z trivial)⟩
  | dk ds => exact ⟨F, own, ok, Same.refl _, .inr (h.z trivial)⟩
inductive ArgsZ (K : Frag) (a0 : Option Addr) (F : Hp) : List C → List V → Prop
  | nil : ArgsZ K a0 F [] []
  | cons {c : C} {cs : List C} {v : V} {vs : List V} : RepZ K a0 F c v → ArgsZ K a0 F cs vs → ArgsZ K a0 F (c :: cs) (v :: vs)
theorem ArgsZ.mono (s : Same F F') : ∀ {cs vs}, ArgsZ K a0 F cs vs → ArgsZ K a0 F' cs vs
  | _, _, .nil => .nil
  | _, _, .cons h r => .cons (h.mono s) (ArgsZ.mono s r)
theorem ArgsZ.length : ∀ {cs vs}, ArgsZ K a0 F cs vs → cs.length = vs.length
  | _, _, .nil => rfl
  | _, _, .cons h r => by rw [List.length_cons, List.length_cons, ArgsZ.length r]
/-- all cells are data or the source -/
def clean : C → Bool
  | .fz _ => true
  | .orc => true
  | _ => false
theorem Args.carry (s : Same F F') : ∀ {cs : List C} {vs : List V}, Args K a0 F H σ cs vs → Args K a0 F' H' σ cs vs
  | _, _, .nil => .nil
  | _, _, .cons h r => .cons (RepT.carry h s) (Args.carry s r)
theorem frzL_ok : ∀ {cs : List C} {vs : List V} {ρ : PEnv} {F : Hp} {own : Own}, Ok B ρ σ H F own → Args B.K B.a0 F H σ cs vs → (frzL ρ cs).1.all clean = true → ∃ F' own', Ok B (frzL ρ cs).2 σ H F' own' ∧ Same F F' ∧ ArgsZ B.K B.a0 F' (frzL ρ cs).1 vs
  | [], _, ρ, F, own, ok, .nil, _ => ⟨F, own, ok, Same.refl _, .nil⟩
  | c :: cs, v :: vs, ρ, F, own, ok, .cons h r, e => by
    have e : (clean (frz1 ρ c).1 && (frzL (frz1 ρ c).2 cs).1.all clean) = true := e
    obtain ⟨e1, e2⟩ := Bool.and_eq_true_iff.mp e
    obtain ⟨F1, own1, ok1, s1, z⟩ := frz1_ok ok h
    have z : RepZ B.K B.a0 F1 (frz1 ρ c).1 v := by
      rcases z with ⟨z, i, rfl⟩ | z
      · rw [z] at e1; cases e1
      · exact z
    have r1 : Args B.K B.a0 F1 H σ cs vs := r.carry s1
    obtain ⟨F2, own2, ok2, s2, z2⟩ := frzL_ok ok1 r1 e2
    exact ⟨F2, own2, ok2, s1.trans s2, .cons (z.mono s2) z2⟩
/-- .. as data -/
def allD : List C → Option (List D)
  | [] => some []
  | .fz d :: cs => match allD cs with
    | some ds => some (d :: ds)
    | none => none
  | _ => none
theorem allD_clean : ∀ {cs : List C} {ds : List D}, allD cs = some ds → cs.all clean = true
  | [], _, _ => rfl
  | .fz d :: cs, ds, e => by
    unfold allD at e
    split at e
    · rename_i ds' q
      show (true && cs.all clean) = true
      rw [allD_clean q]; rfl
    · cases e
  | .orc :: cs, _, e => by cases e
  | .ls _ :: cs, _, e => by cases e
  | .ll _ :: cs, _, e => by cases e
  | .dk _ :: cs, _, e => by cases e
  | .at _ :: cs, _, e => by cases e
theorem allD_fz : ∀ {cs : List C} {ds : List D} {vs : List V}, allD cs = some ds → ArgsZ K a0 F cs vs → FzL K F vs ds
  | [], _, _, e, .nil => by cases e; exact .nil
  | .fz d :: cs, ds, v :: vs, e, .cons h r => by
    unfold allD at e
    split at e
    · rename_i ds' q
      cases e
      exact .cons h (allD_fz q r)
    · cases e
  | .orc :: cs, _, _, e, _ => by cases e
  | .ls _ :: cs, _, _, e, _ => by cases e
  | .ll _ :: cs, _, _, e, _ => by cases e
  | .dk _ :: cs, _, _, e, _ => by cases e
  | .at _ :: cs, _, _, e, _ => by cases e
end
section
variable {X : Cx} {E : XK}
/-! ### displays -/
def withD (ρ : PEnv) (cs : List C) (k : List D → PEnv → Prop) : Prop := match allD (frzL ρ cs).1 with
  | some ds => k ds (frzL ρ cs).2
  | none => False
theorem withD_inv {ρ : PEnv} {cs : List C} {k : List D → PEnv → Prop} (h : withD ρ cs k) : ∃ ds, allD (frzL ρ cs).1 = some ds ∧ k ds (frzL ρ cs).2 := by
  unfold withD at h
  split at h
  · exact ⟨_, ‹_›, h⟩
  · exact h.elim
def gTup (ga : GA) : G := fun ρ Q Ep => ga ρ (fun cs ρ1 => withD ρ1 cs fun ds ρ2 => ds.length ≤ 1000 ∧ Q (.fz (.tuple ds)) ρ2) Ep
def gLst (ga : GA) : G := fun ρ Q Ep => ga ρ (fun cs ρ1 => withD ρ1 cs fun ds ρ2 => ds.length ≤ 1000 ∧ Q (.ls ds) ρ2) Ep
theorem line1000 : 1000 ≤ sizeLine := by decide
theorem ge_tup {es : List Expr} {x1} {pos : Pos} {ga : GA} (h : GAe X E es ga) : GE X E (.Tuple es x1 pos) (gTup ga) :=
  pe_weak (pe_tup h) fun σ H Q ⟨B, ρ, F, own, Qp, Ep, hK, ok, h, lx, k⟩ => by
    refine ⟨B, ρ, F, own, _, Ep, hK, ok, h, lx, fun cs ρ1 vs H1 F1 own1 ok1 r1 s1 q1 => ?_⟩
    obtain ⟨ds, e, hl, q⟩ := withD_inv q1
    obtain ⟨F2, own2, ok2, s2, z⟩ := frzL_ok ok1 r1 (allD_clean e)
    have fz := allD_fz e z
    refine ⟨by rw [fz.length]; exact Nat.le_trans hl line1000, fun p hp => ?_⟩
    exact k (.fz (.tuple ds)) _ _ _ _ _ (ok2.newF (o := .tup vs) hp) (Fz.tup (SqT.of upd_same) (fz.mono (same_new (ok2.freeF hp)))) ((s1.trans s2).trans (same_new (ok2.freeF hp))) q
theorem ge_lst {es : List Expr} {pos : Pos} {ga : GA} (h : GAe X E es ga) : GE X E (.List es pos) (gLst ga) :=
  pe_weak (pe_lst h) fun σ H Q ⟨B, ρ, F, own, Qp, Ep, hK, ok, h, lx, k⟩ => by
    refine ⟨B, ρ, F, own, _, Ep, hK, ok, h, lx, fun cs ρ1 vs H1 F1 own1 ok1 r1 s1 q1 => ?_⟩
    obtain ⟨ds, e, hl, q⟩ := withD_inv q1
    obtain ⟨F2, own2, ok2, s2, z⟩ := frzL_ok ok1 r1 (allD_clean e)
    have fz := allD_fz e z
    refine ⟨by rw [fz.length]; exact Nat.le_trans hl line1000, fun p hp => ?_⟩
    exact k (.ls ds) _ _ _ _ _ (ok2.newO (o := .lst vs) 0 hp) ⟨p, vs, rfl, upd_same, by simp [ownNew], fz⟩ (s1.trans s2) q

/-! ### one's own defs that let no exception out -/
abbrev FnW := List C → (C → Prop) → Prop
def spG (K : Frag) (sp : FnW) : Sp := fun vs H Q _ => ∃ (a0 : Option Addr) (F : Hp) (cs : List C) (Qp : C → Prop), Ok ⟨K, a0, H, F⟩ [] [] H F (fun _ => none) ∧ ArgsZ K a0 F cs vs ∧ sp cs Qp ∧
  ∀ c v H' F' own', Ok ⟨K, a0, H, F⟩ [] [] H' F' own' → Rep K a0 F' H' own' none c v → Qp c → Q v H'
def withZ (ρ : PEnv) (cs : List C) (k : List C → PEnv → Prop) : Prop := (frzL ρ cs).1.all clean = true ∧ k (frzL ρ cs).1 (frzL ρ cs).2
def gCall (sp : FnW) (ga : GA) : G := fun ρ Q Ep => ga ρ (fun cs ρ1 => withZ ρ1 cs fun cs' ρ2 => sp cs' fun c => Q c ρ2) Ep
theorem call_in {B : Box} {ρ : PEnv} {σ : St} {H F : Hp} {own : Own} {sp : FnW} {cs : List C} {vs : List V} {Qp : C → Prop} {Q : VK} {E' : XK} (ok : Ok B ρ σ H F own) (z : ArgsZ B.K B.a0 F cs vs) (h : sp cs Qp)
    (k : ∀ c v H' F' own', Ok B ρ σ H' F' own' → RepT B.K B.a0 F' H' own' σ c v → Same F F' → Qp c → Q v H') : spG B.K sp vs H Q E' := by
  refine ⟨B.a0, F, cs, Qp, ok.start, z, h, fun c v H' F' own' ok' r q => ?_⟩
  obtain ⟨ok2, s2⟩ := ok.call ok'
  exact k c v H' F' _ ok2 (Rep.repT (r.keep (Same.refl _) fun a j e => ⟨ownJ_new e, rfl⟩)) s2 q
theorem dnCall {sp : FnW} {ga : GA} {σ : St} {H : Hp} {Q : VK} {E' : XK} (h : dnE X.K E (gCall sp ga) σ H Q) : tCall (spG X.K sp) [] E' (dnA X.K E ga) σ H Q := by
  obtain ⟨B, ρ, F, own, Qp, Ep, hK, ok, h, lx, k⟩ := h
  refine ⟨B, ρ, F, own, _, Ep, hK, ok, h, lx, fun cs ρ1 vs H1 F1 own1 ok1 r1 s1 q1 => ?_⟩
  obtain ⟨e, q⟩ := q1
  obtain ⟨F2, own2, ok2, s2, z⟩ := frzL_ok ok1 r1 e
  rw [List.append_nil, ← hK]
  exact call_in ok2 z q fun c v H' F' own' ok' r s q' => k c _ v H' F' own' ok' r ((s1.trans s2).trans s) q'
theorem ge_call {CX : CXT} {k : Nat} {f : Addr} {fd : FuncData} {ps : List Str} {sp : FnW} {x : Str} {p pos : Pos} {e : Expr} {es : List Expr} {ga : GA} (F : FnOk X.prog X.w X.K X.mg X.base CX0 k f fd ps (spG X.K sp)) (hr : Room k X.A) (hg : Gl X x) (hm : X.mg x = some (.ref f)) (hk : PySem.W.keepIn X.K (.ref f) = true)
    (hb : Binds X.K fd ps []) (ha : GAe X E (e :: es) ga) (hdb : (x == ("__debug__" : Str)) = false := by decide) (he : starEach (e :: es) X.env = (false, eval e X.env) :: starEach es X.env := by rfl) (hpl : (backTo pos (starEach es X.env)).any (·.1) = false := by rfl) :
    GE X E (.Call (.Name x p) (e :: es) [] pos) (gCall sp ga) :=
  pe_weak (pe_call (E := E0) F hr hg hm hk hb .nil pass0 ha hdb he hpl) fun _ _ _ h => dnCall h

/-! ### statements -/
def sSeq (s u : S) : S := fun ρ D => s ρ { D with nx := fun ρ' => u ρ' D }
def sNext : S := fun ρ D => D.nx ρ
theorem gs_nil : GSs X E [] sNext := pss_weak pss_nil fun Dn σ H ⟨B, ρ, F, own, Dp, hK, ok, h, lx, l1, l2, l3, l4⟩ => l1 ρ σ H F own ok h
theorem gs_cons {st : Stmt} {rest : List Stmt} {s u : S} (h1 : GSt X E st s) (h2 : GSs X E rest u) : GSs X E (st :: rest) (sSeq s u) :=
  pss_weak (pss_cons h1 h2) fun Dn σ H ⟨B, ρ, F, own, Dp, hK, ok, h, lx, l1, l2, l3, l4⟩ =>
    ⟨B, ρ, F, own, { Dp with nx := fun ρ' => u ρ' Dp }, hK, ok, h, lx, fun ρ' σ' H' F' own' ok' q => ⟨B, ρ', F', own', Dp, hK, ok', q, lx, l1, l2, l3, l4⟩, l2, l3, l4⟩
theorem gs_one {st : Stmt} {s : S} (h1 : GSt X E st s) : GSs X E [st] s := pss_one h1
def sBreak : S := fun ρ D => D.bk ρ
def sCont : S := fun ρ D => D.ct ρ
theorem gt_break {pos : Pos} : GSt X E (.Break pos) sBreak := ps_weak ps_break fun Dn σ H ⟨B, ρ, F, own, Dp, hK, ok, h, lx, l1, l2, l3, l4⟩ => l3 ρ σ H F own ok h
theorem gt_cont {pos : Pos} : GSt X E (.Continue pos) sCont := ps_weak ps_continue fun Dn σ H ⟨B, ρ, F, own, Dp, hK, ok, h, lx, l1, l2, l3, l4⟩ => l4 ρ σ H F own ok h
theorem gt_pass {pos : Pos} : GSt X E (.Pass pos) sNext := ps_weak ps_pass fun Dn σ H ⟨B, ρ, F, own, Dp, hK, ok, h, lx, l1, l2, l3, l4⟩ => l1 ρ σ H F own ok h
def sExpr (g : G) : S := fun ρ D => g ρ (fun _ ρ' => D.nx ρ') D.ex
theorem gt_expr {e : Expr} {g : G} {pos : Pos} (h : GE X E e g) (hs : swapsWith e none pos.line X.env = pure false := by rfl) : GSt X E (.Expr e pos) (sExpr g) :=
  ps_weak (ps_expr h hs) fun Dn σ H ⟨B, ρ, F, own, Dp, hK, ok, h, lx, l1, l2, l3, l4⟩ => ⟨B, ρ, F, own, _, Dp.ex, hK, ok, h, lx, fun c ρ' v H' F' own' ok' r s q => l1 ρ' σ H' F' own' ok' q⟩
/-- a returned cell -/
def retC (ρ : PEnv) : C → C
  | .at i => match ρ[i]? with
    | some (some c) => c
    | _ => .at i
  | c => c
theorem ret_ok {B : Box} {ρ : PEnv} {σ : St} {H F : Hp} {own : Own} {c : C} {v : V} (ok : Ok B ρ σ H F own) (h : RepT B.K B.a0 F H own σ c v) (n : notAt (retC ρ c)) : ∃ own', Ok B [] [] H F own' ∧ Rep B.K B.a0 F H own' none (retC ρ c) v := by
  cases c with
  | «at» i =>
    have h : σ[i]? = some (some v) := h
    cases q : ρ[i]? with
    | none => simp [retC, q, notAt] at n
    | some oc =>
      cases oc with
      | none => simp [retC, q, notAt] at n
      | some c =>
        obtain ⟨v', h1, h2⟩ := ok.slot i c q
        rw [h] at h1; cases h1
        have e : retC ρ (.at i) = c := by simp [retC, q]
        rw [e]
        exact ⟨ren own (some i) none, ok.ren (some i) none rfl (fun j c' z => by simp at z), h2.ren⟩
  | fz d => exact ⟨own, ok.nil, h⟩
  | orc => exact ⟨own, ok.nil, h⟩
  | ls ds => exact ⟨own, ok.nil, h⟩
  | ll ds => exact ⟨own, ok.nil, h⟩
  | dk ds => exact ⟨own, ok.nil, h⟩
def isAt : C → Bool
  | .at _ => true
  | _ => false
theorem notAt_of {c : C} (h : isAt c = false) : notAt c := by cases c <;> first | trivial | cases h
def sRet (g : G) : S := fun ρ D => g ρ (fun c ρ' => isAt (retC ρ' c) = false ∧ D.rt (retC ρ' c)) D.ex
theorem gt_ret {e : Expr} {g : G} {pos : Pos} (h : GE X E e g) : GSt X E (.Return (some e) pos) (sRet g) :=
  ps_weak (ps_ret h) fun Dn σ H ⟨B, ρ, F, own, Dp, hK, ok, h, lx, l1, l2, l3, l4⟩ => ⟨B, ρ, F, own, _, Dp.ex, hK, ok, h, lx, fun c ρ' v H' F' own' ok' r s q => by
    obtain ⟨n, q⟩ := q
    obtain ⟨own2, ok2, r2⟩ := ret_ok ok' r (notAt_of n)
    exact l2 _ v H' F' own2 ok2 r2 q⟩
def sRetN : S := fun _ D => D.rt (.fz .none)
theorem gt_retN {pos : Pos} : GSt X E (.Return none pos) sRetN := ps_weak ps_retN fun Dn σ H ⟨B, ρ, F, own, Dp, hK, ok, h, lx, l1, l2, l3, l4⟩ => l2 (.fz .none) .non H F own ok.nil Fz.non h
def sIf (t : GT) (s u : S) : S := fun ρ D => t ρ (fun b ρ' => iteB b (s ρ' D) (u ρ' D)) D.ex
theorem gt_if {c : Expr} {a b : List Stmt} {t : GT} {s u : S} {pos : Pos} (hc : GTe X E c t) (ha : GSs X E a s) (hb : GSs X E b u) : GSt X E (.If c a b pos) (sIf t s u) :=
  ps_weak (ps_if hc ha hb) fun Dn σ H ⟨B, ρ, F, own, Dp, hK, ok, h, lx, l1, l2, l3, l4⟩ => ⟨B, ρ, F, own, _, Dp.ex, hK, ok, h, lx, fun b ρ' H' F' own' ok' s q => by
    cases b with
    | true =>
      rw [iteB_tt] at q; rw [if_pos rfl]
      exact ⟨B, ρ', F', own', Dp, hK, ok', q, lx, l1, l2, l3, l4⟩
    | false =>
      rw [iteB_ff] at q; rw [if_neg Bool.false_ne_true]
      exact ⟨B, ρ', F', own', Dp, hK, ok', q, lx, l1, l2, l3, l4⟩⟩
/-- a cell to be stored in a slot -/
def mvC (ρ : PEnv) (c : C) : C × PEnv := match c with
  | .at i => frz1 ρ (.at i)
  | c => (c, ρ)
theorem mv_ok {B : Box} {ρ : PEnv} {σ : St} {H F : Hp} {own : Own} {c : C} {v : V} (ok : Ok B ρ σ H F own) (h : RepT B.K B.a0 F H own σ c v) (n : notAt (mvC ρ c).1) : ∃ F' own', Ok B (mvC ρ c).2 σ H F' own' ∧ Same F F' ∧ RepT B.K B.a0 F' H own' σ (mvC ρ c).1 v := by
  cases c with
  | «at» i =>
    obtain ⟨F', own', ok', s, z⟩ := frz1_ok (c := .at i) ok h
    refine ⟨F', own', ok', s, ?_⟩
    rcases z with ⟨z, _⟩ | z
    · have n : notAt (frz1 ρ (.at i)).1 := n
      rw [z] at n; exact n.elim
    · exact z.repT
  | fz d => exact ⟨F, own, ok, Same.refl _, h⟩
  | orc => exact ⟨F, own, ok, Same.refl _, h⟩
  | ls ds => exact ⟨F, own, ok, Same.refl _, h⟩
  | ll ds => exact ⟨F, own, ok, Same.refl _, h⟩
  | dk ds => exact ⟨F, own, ok, Same.refl _, h⟩
def sSet (i : Nat) (g : G) : S := fun ρ D => g ρ (fun c ρ' => isAt (mvC ρ' c).1 = false ∧ D.nx ((mvC ρ' c).2.set i (some (mvC ρ' c).1))) D.ex
theorem dnSet {te : TE} {g : G} (i : Nat) (im : ∀ σ H Q, dnE X.K E g σ H Q → te σ H Q) {Dn : Ends} {σ : St} {H : Hp} (h : dnS X.K E (sSet i g) Dn σ H) : tAsg te (gName i) Dn σ H := by
  obtain ⟨B, ρ, F, own, Dp, hK, ok, h, lx, l1, l2, l3, l4⟩ := h
  refine im _ _ _ ⟨B, ρ, F, own, _, Dp.ex, hK, ok, h, lx, fun c ρ' v H' F' own' ok' r s q => ?_⟩
  obtain ⟨n, q⟩ := q
  obtain ⟨F2, own2, ok2, s2, r2⟩ := mv_ok ok' r (notAt_of n)
  exact l1 _ _ H' F2 _ (ok2.store r2 (notAt_of n) i) q
theorem gt_set {i : Nat} {x : Str} {e : Expr} {g : G} {pos pos' : Pos} (hN : X.N.Nodup) (hi : X.N[i]? = some x) (hx : Loc X.env.scope x) (he : GE X E e g) (hs : swapsWith e (some (.Name x pos')) pos.line X.env = pure false := by rfl)
    (hf : X.fn x = true ∨ X.env.scope.names.lookup x = some .local := by first | exact .inl rfl | exact .inr rfl | assumption) : GSt X E (.Assign [.Name x pos'] e pos) (sSet i g) :=
  ps_weak (ps_set hN hi hx he hs hf) fun _ _ _ h => dnSet i (fun _ _ _ h => h) h
end

/-! ### a def's body keeps its promise -/
def startP (N : List Str) (cs : List C) : PEnv := cs.map some ++ List.replicate (N.length - cs.length) none
section
open PyProof.Rows PySem.Spec
variable {P : Program} {w : World} {K : Frag} {mg : Str → Option Value} {base : Heap}
theorem start_ok {B : Box} {H F : Hp} {N : List Str} {cs : List C} {vs : List V} (ok : Ok B [] [] H F (fun _ => none)) (z : ArgsZ B.K B.a0 F cs vs) : Ok B (startP N cs) (L2.start N vs) H F (fun _ => none) := by
  refine ⟨ok.sub, ok.keep, ok.up, ok.new, ok.ow, ok.orc, ?_, ?_⟩
  · unfold startP L2.start
    rw [List.length_append, List.length_append, List.length_map, List.length_map, List.length_replicate, List.length_replicate, z.length]
  · have gen : ∀ {cs vs}, ArgsZ B.K B.a0 F cs vs → ∀ (n : Nat) (i : Nat) c, (cs.map some ++ List.replicate n (none : Option C))[i]? = some (some c) → ∃ v, (vs.map some ++ List.replicate n (none : Option V))[i]? = some (some v) ∧ RepZ B.K B.a0 F c v := by
      intro cs vs z
      induction z with
      | nil =>
        intro n i c e
        have e : (List.replicate n (none : Option C))[i]? = some (some c) := e
        rw [List.getElem?_replicate] at e
        split at e <;> cases e
      | @cons c cs v vs h r ih =>
        intro n i c' e
        cases i with
        | zero =>
          have e : some (some c) = some (some c') := e
          cases e
          exact ⟨v, rfl, h⟩
        | succ i => exact ih n i c' e
    intro i c e
    obtain ⟨v, h1, h2⟩ := gen z (N.length - cs.length) i c e
    refine ⟨v, ?_, h2.rep⟩
    unfold L2.start
    rw [← z.length]
    exact h1
/-- THE RULE for a def that lets no exception out -/
theorem def_ok {x qual : Str} {st : Stmt} {f : Addr} {fd : FuncData} {N ps : List Str} {k : Nat} {sp : FnW} {s : S} (F : Fun K x qual st f fd) (Sc : FnScope N ps (defScope st)) (len : ∀ cs Q, sp cs Q → cs.length = ps.length)
    (hb : ∀ (cdv : Value) (A : Around) (outer : List Env) (s0 : Shared) (H : Hp) (E : XK), Room k (A.deeper (envOfC qual (defScope st) s0.heap.objs.size f cdv)) → GSs (cxOf CX0 P w K mg base N qual (defScope st) f cdv A outer s0 H E).nox E0 (defBody st) s)
    (hp : ∀ cs Q, sp cs Q → s (startP N cs) { nx := fun _ => Q (.fz .none), rt := Q }) : FnOk P w K mg base CX0 (k + 1) f fd ps (spG K sp) := by
  refine F.ok Sc (fun vs H Q E h => ?_) (fun cdv A outer s0 H vs Q E hr h => ⟨_, hb cdv A outer s0 H E hr, ?_⟩)
  · obtain ⟨a0, F, cs, Qp, ok, z, h, _⟩ := h
    rw [← z.length, len cs Qp h]
  · obtain ⟨a0, F, cs, Qp, ok, z, h, kk⟩ := h
    refine ⟨⟨K, a0, H, F⟩, startP N cs, F, (fun _ => none), _, rfl, start_ok ok z, hp cs Qp h, fun _ _ _ _ _ _ _ _ _ _ z => z.elim, fun ρ' σ' H' F' own' ok' q => ?_, fun c v H' F' own' ok' r q => ?_, fun _ _ _ _ _ _ z => z.elim, fun _ _ _ _ _ _ z => z.elim⟩
    · exact kk (.fz .none) .non H' F' own' ok'.nil Fz.non q
    · exact kk c v H' F' own' ok' r q
end
end P

set_option Elab.async false
set_option linter.all false
set_option maxRecDepth 100000
set_option maxHeartbeats 4000000
/-! The P-layer, 4: loops and comprehensions. -/
namespace P
open PySem L2
section
variable {K : Frag} {a0 : Option Addr} {F F' H H' : Hp} {own own' : Own} {id id' : Option Nat} {B : Box} {ρ ρ' : PEnv} {σ σ' : St} {v : V} {c : C} {d : D}
/-! ### boxes -/
theorem Ok.rebase (ok : Ok B ρ σ H F own) : Ok { B with F0 := F } ρ σ H F own :=
  ⟨ok.sub, ok.keep, Same.refl _, fun _ _ e => .inl e, ok.ow, ok.orc, ok.len, ok.slot⟩
theorem Ok.unbase (ok : Ok B ρ σ H F own) (ok' : Ok { B with F0 := F } ρ' σ' H' F' own') : Ok B ρ' σ' H' F' own' :=
  ⟨ok'.sub, ok'.keep, ok.up.trans ok'.up, fun a o e => (ok'.new a o e).elim (fun z => ok.new a o z) .inr, ok'.ow, ok'.orc, ok'.len, ok'.slot⟩
theorem ExL.rebase {E : XK} {Ep : Ex → Prop} (ok : Ok B ρ σ H F own) (h : ExL E B Ep) : ExL E { B with F0 := F } Ep :=
  fun cl d fs fds H' F' own' ok' => h cl d fs fds H' F' own' (ok.unbase ok')
/-! ### what is walked, over pure data -/
/-- the items of an iterator, all frozen -/
structure GoodIt (K : Frag) (F : Hp) (J : It) (ds : List D) : Prop where
  go : ∀ H i, Same F H → i < ds.length → J.go i H
  stop : ∀ H, Same F H → J.stop ds.length H
  yld : ∀ H i x H', Same F H → i < ds.length → J.yld i H x H' → H' = H ∧ ∃ d, ds[i]? = some d ∧ Fz K F x d
theorem GoodIt.list {a : Addr} {xs : List V} {ds : List D} (h : F a = some (.lst xs)) (r : FzL K F xs ds) : GoodIt K F (Itl K a) ds := by
  have hl := r.length
  refine ⟨fun H i s hi => ?_, fun H s => ⟨xs, SqL.of (s _ _ h), by omega⟩, fun H i x H' s hi y => ?_⟩
  · have hx : i < xs.length := by omega
    exact ⟨xs, xs[i], SqL.of (s _ _ h), by simp [hx]⟩
  · obtain ⟨e, y⟩ := y
    exact ⟨e, r.getV (y xs (SqL.of (s _ _ h)))⟩
theorem GoodIt.tup {a : Addr} {xs : List V} {ds : List D} (h : SqT K F a xs) (r : FzL K F xs ds) : GoodIt K F (Itt K a) ds := by
  have hl := r.length
  refine ⟨fun H i s hi => ?_, fun H s => ⟨xs, same_sqt s h, by omega⟩, fun H i x H' s hi y => ?_⟩
  · have hx : i < xs.length := by omega
    exact ⟨xs, xs[i], same_sqt s h, by simp [hx]⟩
  · obtain ⟨e, y⟩ := y
    exact ⟨e, r.getV (y xs (same_sqt s h))⟩
@[irreducible] def rangeD (lo : Int) (n : Nat) : List D := (List.range n).map fun k => .int (lo + (k : Nat))
theorem rangeD_length (lo : Int) (n : Nat) : (rangeD lo n).length = n := by simp [rangeD]
theorem rangeD_get {lo : Int} {n i : Nat} (h : i < n) : (rangeD lo n)[i]? = some (.int (lo + (i : Nat))) := by simp [rangeD, h]
theorem GoodIt.range (lo : Int) (n : Nat) : GoodIt K F (Itr lo n) (rangeD lo n) := by
  refine ⟨fun H i s hi => by rw [rangeD_length] at hi; exact hi, fun H s => by rw [rangeD_length]; exact Nat.le_refl _, fun H i x H' s hi y => ?_⟩
  obtain ⟨e, y⟩ := y
  rw [rangeD_length] at hi
  exact ⟨e, _, rangeD_get hi, by rw [y]; exact .int _⟩
def signsD (x : Str) : List D := x.cps.toList.map fun c => .str ⟨#[c]⟩
theorem GoodIt.str (x : Str) : GoodIt K F (Its x) (signsD x) := by
  have hl : (signsD x).length = x.cps.size := by simp [signsD]
  refine ⟨fun H i s hi => by rw [hl] at hi; exact hi, fun H s => by rw [hl]; exact Nat.le_refl _, fun H i x' H' s hi y => ?_⟩
  obtain ⟨e, c, y, z⟩ := y
  refine ⟨e, .str ⟨#[c]⟩, ?_, by rw [z]; exact .str _⟩
  simp [signsD, y]
abbrev GI := PEnv → (List D → PEnv → Prop) → (Ex → Prop) → Prop
def IterOk (K : Frag) (E : XK) (wi : TI) (gi : GI) : Prop := ∀ (σ : St) (H : Hp) (B : Box) (ρ : PEnv) (F : Hp) (own : Own) (Qp : List D → PEnv → Prop) (Ep : Ex → Prop) (R : It → Hp → Prop), B.K = K → Ok B ρ σ H F own → gi ρ Qp Ep → ExL E B Ep →
  (∀ ds ρ' H' F' own' J, Ok B ρ' σ H' F' own' → Same F F' → Qp ds ρ' → GoodIt K F' J ds → R J H') → wi σ H R
/-- a list or a tuple that is walked (frozen first) -/
def seqD (ρ : PEnv) (c : C) (k : List D → PEnv → Prop) : Prop := withD ρ [settle c] fun ds ρ' => match ds with
  | [.list xs] => k xs ρ'
  | [.tuple xs] => k xs ρ'
  | [.str x] => k (signsD x) ρ'
  | _ => False
def giL (g : G) : GI := fun ρ Q Ep => g ρ (fun c ρ1 => withD ρ1 [settle c] fun ds ρ' => match ds with
  | [.list xs] => Q xs ρ'
  | _ => False) Ep
def giT (g : G) : GI := fun ρ Q Ep => g ρ (fun c ρ1 => withD ρ1 [settle c] fun ds ρ' => match ds with
  | [.tuple xs] => Q xs ρ'
  | _ => False) Ep
def giS (g : G) : GI := fun ρ Q Ep => g ρ (fun c ρ1 => withD ρ1 [settle c] fun ds ρ' => match ds with
  | [.str x] => Q (signsD x) ρ'
  | _ => False) Ep
def giR1 (ga : GA) : GI := fun ρ Q Ep => ga ρ (fun cs ρ1 => match cs with
  | [.fz (.int n)] => n < 2 ^ 61 ∧ -(2 ^ 61) < n ∧ Q (rangeD 0 n.toNat) ρ1
  | _ => False) Ep
def giR2 (ga : GA) : GI := fun ρ Q Ep => ga ρ (fun cs ρ1 => match cs with
  | [.fz (.int m), .fz (.int n)] => (m < 2 ^ 61 ∧ -(2 ^ 61) < m ∧ n < 2 ^ 61 ∧ -(2 ^ 61) < n) ∧ Q (rangeD m (n - m).toNat) ρ1
  | _ => False) Ep
theorem one_fz {cs : List C} {v : V} {d : D} (e : allD cs = some [d]) (z : ArgsZ K a0 F cs [v]) : Fz K F v d := by
  have h := allD_fz e z
  cases h with
  | cons h _ => exact h
theorem iter_one {E : XK} {t : TE} {g : G} (i : ∀ σ H Q, dnE K E g σ H Q → t σ H Q) {σ : St} {H : Hp} {B : Box} {ρ : PEnv} {F : Hp} {own : Own} {Qd : List D → PEnv → Prop} {Ep : Ex → Prop} {Q : VK} (hK : B.K = K) (ok : Ok B ρ σ H F own)
    (h : g ρ (fun c ρ1 => withD ρ1 [settle c] Qd) Ep) (lx : ExL E B Ep) (k : ∀ d ρ' v H' F' own', Ok B ρ' σ H' F' own' → Same F F' → Qd [d] ρ' → Fz K F' v d → Q v H') : t σ H Q := by
  refine i _ _ _ ⟨B, ρ, F, own, _, Ep, hK, ok, h, lx, fun c ρ1 v H1 F1 own1 ok1 r1 s1 q1 => ?_⟩
  obtain ⟨F2, own2, ok2, s2, r2⟩ := settle_ok ok1 r1
  obtain ⟨ds, e, q⟩ := withD_inv q1
  obtain ⟨F3, own3, ok3, s3, z⟩ := frzL_ok ok2 (.cons r2 .nil) (allD_clean e)
  have fz := allD_fz e z
  cases fz with
  | cons f n =>
    cases n
    exact k _ _ v H1 F3 own3 ok3 ((s1.trans s2).trans s3) q (by rw [← hK]; exact f)
theorem it_list {E : XK} {t : TE} {g : G} (i : ∀ σ H Q, dnE K E g σ H Q → t σ H Q) : IterOk K E (iList K t) (giL g) := by
  intro σ H B ρ F own Qp Ep R hK ok h lx k
  refine iter_one i hK ok h lx fun d ρ' v H' F' own' ok' s q f => ?_
  cases d with
  | list xs =>
    cases f with
    | lst hf r => exact ⟨_, rfl, ⟨_, SqL.of (ok'.sub _ _ hf)⟩, k xs ρ' H' F' own' _ ok' s q (.list hf r)⟩
  | _ => exact q.elim
theorem it_tup {E : XK} {t : TE} {g : G} (i : ∀ σ H Q, dnE K E g σ H Q → t σ H Q) : IterOk K E (iTup K t) (giT g) := by
  intro σ H B ρ F own Qp Ep R hK ok h lx k
  refine iter_one i hK ok h lx fun d ρ' v H' F' own' ok' s q f => ?_
  cases d with
  | tuple xs =>
    cases f with
    | tup hf r => exact ⟨_, rfl, ⟨_, same_sqt ok'.sub hf⟩, k xs ρ' H' F' own' _ ok' s q (.tup hf r)⟩
  | _ => exact q.elim
theorem it_str {E : XK} {t : TE} {g : G} (i : ∀ σ H Q, dnE K E g σ H Q → t σ H Q) : IterOk K E (iStr t) (giS g) := by
  intro σ H B ρ F own Qp Ep R hK ok h lx k
  refine iter_one i hK ok h lx fun d ρ' v H' F' own' ok' s q f => ?_
  cases d with
  | str x =>
    cases f
    exact ⟨_, rfl, k _ ρ' H' F' own' _ ok' s q (.str x)⟩
  | _ => exact q.elim
theorem it_range1 {E : XK} {ta : TA} {ga : GA} (i : ∀ σ H Q, dnA K E ga σ H Q → ta σ H Q) : IterOk K E (iRng1 ta) (giR1 ga) := by
  intro σ H B ρ F own Qp Ep R hK ok h lx k
  refine i _ _ _ ⟨B, ρ, F, own, _, Ep, hK, ok, h, lx, fun cs ρ1 vs H1 F1 own1 ok1 r1 s1 q1 => ?_⟩
  split at q1
  · rename_i n
    cases r1 with
    | cons f r =>
      cases r
      have f : Fz B.K F1 _ (.int n) := f
      cases f
      obtain ⟨h1, h2, q⟩ := q1
      exact ⟨n, rfl, by omega, by omega, k _ ρ1 H1 F1 own1 _ ok1 s1 q (.range 0 _)⟩
  · exact q1.elim
theorem it_range2 {E : XK} {ta : TA} {ga : GA} (i : ∀ σ H Q, dnA K E ga σ H Q → ta σ H Q) : IterOk K E (iRng2 ta) (giR2 ga) := by
  intro σ H B ρ F own Qp Ep R hK ok h lx k
  refine i _ _ _ ⟨B, ρ, F, own, _, Ep, hK, ok, h, lx, fun cs ρ1 vs H1 F1 own1 ok1 r1 s1 q1 => ?_⟩
  split at q1
  · rename_i m n
    cases r1 with
    | cons f r =>
      cases r with
      | cons f' r =>
        cases r
        have f : Fz B.K F1 _ (.int m) := f
        have f' : Fz B.K F1 _ (.int n) := f'
        cases f
        cases f'
        obtain ⟨⟨h1, h2, h3, h4⟩, q⟩ := q1
        exact ⟨m, n, rfl, ⟨by omega, by omega, by omega, by omega⟩, k _ ρ1 H1 F1 own1 _ ok1 s1 q (.range m _)⟩
  · exact q1.elim
/-! ### targets -/
abbrev Tg := D → PEnv → (PEnv → Prop) → Prop
abbrev Tgs := List D → PEnv → (PEnv → Prop) → Prop
/-- the slots but ts are as they were -/
def But (ts : List Nat) (σ σ' : St) : Prop := σ'.length = σ.length ∧ ∀ j, j ∉ ts → σ'[j]? = σ[j]?
theorem But.set (i : Nat) (v : Option V) : But [i] σ (σ.set i v) := ⟨by rw [List.length_set], fun j h => by rw [List.getElem?_set_ne (by rintro rfl; exact h List.mem_cons_self)]⟩
theorem But.refl : But [] σ σ := ⟨rfl, fun _ _ => rfl⟩
theorem But.trans {ts us : List Nat} {σ'' : St} (a : But ts σ σ') (b : But us σ' σ'') : But (ts ++ us) σ σ'' := ⟨b.1.trans a.1, fun j h => (b.2 j fun z => h (List.mem_append_right _ z)).trans (a.2 j fun z => h (List.mem_append_left _ z))⟩
def dnG (K : Frag) (ts : List Nat) (tg : Tg) : TG := fun v σ H Q => ∃ (B : Box) (ρ : PEnv) (F : Hp) (own : Own) (d : D) (k : PEnv → Prop), B.K = K ∧ Ok B ρ σ H F own ∧ Fz K F v d ∧ tg d ρ k ∧ ∀ ρ' σ' own', But ts σ σ' → Ok B ρ' σ' H F own' → k ρ' → Q σ' H
def dnGs (K : Frag) (ts : List Nat) (tg : Tgs) : TGs := fun vs σ H Q => ∃ (B : Box) (ρ : PEnv) (F : Hp) (own : Own) (ds : List D) (k : PEnv → Prop), B.K = K ∧ Ok B ρ σ H F own ∧ FzL K F vs ds ∧ tg ds ρ k ∧ ∀ ρ' σ' own', But ts σ σ' → Ok B ρ' σ' H F own' → k ρ' → Q σ' H
abbrev GPG (X : Cx) (e : Expr) (ts : List Nat) (tg : Tg) : Prop := PG X e (dnG X.K ts tg)
abbrev GPGs (X : Cx) (es : List Expr) (ts : List Nat) (tg : Tgs) : Prop := PGs X es (dnGs X.K ts tg)
theorem pg_weak {X : Cx} {e : Expr} {t t' : TG} (h : PG X e t) (i : ∀ v σ H Q, t' v σ H Q → t v σ H Q) : PG X e t' := ⟨fun pins s σ H v u Q I r q => h.run pins s σ H v u Q I r (i _ _ _ _ q)⟩
theorem pgs_weak {X : Cx} {e : List Expr} {t t' : TGs} (h : PGs X e t) (i : ∀ v σ H Q, t' v σ H Q → t v σ H Q) : PGs X e t' := ⟨fun pins s σ H v u Q I r q => h.run pins s σ H v u Q I r (i _ _ _ _ q)⟩
def tName (i : Nat) : Tg := fun d ρ k => k (ρ.set i (some (.fz d)))
def tgNil : Tgs := fun ds ρ k => match ds with
  | [] => k ρ
  | _ => False
def tgCons (t : Tg) (u : Tgs) : Tgs := fun ds ρ k => match ds with
  | d :: r => t d ρ fun ρ' => u r ρ' k
  | _ => False
def tTuple (t : Tgs) (n : Nat) : Tg := fun d ρ k => match d with
  | .tuple ds => ds.length = n ∧ t ds ρ k
  | _ => False
theorem gg_name {X : Cx} {i : Nat} {x : Str} {pos : Pos} (hN : X.N.Nodup) (hi : X.N[i]? = some x) (hx : Loc X.env.scope x) (hf : X.fn x = true ∨ X.env.scope.names.lookup x = some .local := by first | exact .inl rfl | exact .inr rfl | assumption) : GPG X (.Name x pos) [i] (tName i) :=
  pg_weak (pg_name hN hi hx hf) fun v σ H Q ⟨B, ρ, F, own, d, k, hK, ok, f, h, kk⟩ => kk _ _ _ (But.set i _) (ok.store (c := .fz d) (by rw [← hK] at f; exact f) trivial i) h
theorem gg_nil {X : Cx} : GPGs X [] [] tgNil := pgs_weak pgs_nil fun vs σ H Q ⟨B, ρ, F, own, ds, k, hK, ok, f, h, kk⟩ => by
  cases f with
  | nil => exact ⟨rfl, kk _ _ _ But.refl ok h⟩
  | cons _ _ => exact h.elim
theorem gg_cons {X : Cx} {e : Expr} {es : List Expr} {t : Tg} {u : Tgs} {ts us : List Nat} (h1 : GPG X e ts t) (h2 : GPGs X es us u) (hs : (assignEach (e :: es) X.env).map (·.2) = assign e X.env :: (assignEach es X.env).map (·.2) := by rfl) : GPGs X (e :: es) (ts ++ us) (tgCons t u) :=
  pgs_weak (pgs_cons h1 h2 hs) fun vs σ H Q ⟨B, ρ, F, own, ds, k, hK, ok, f, h, kk⟩ => by
    cases f with
    | nil => exact h.elim
    | cons f r => exact ⟨_, _, rfl, B, ρ, F, own, _, _, hK, ok, f, h, fun ρ' σ' own' bt ok' q => ⟨B, ρ', F, own', _, k, hK, ok', r, q, fun ρ2 σ2 own2 bt2 ok2 q2 => kk ρ2 σ2 own2 (bt.trans bt2) ok2 q2⟩⟩
theorem gg_tup {X : Cx} {es : List Expr} {k : Nat} {t : Tgs} {ts : List Nat} {n : Nat} {pos : Pos} (hc : X.calm = true) (h : GPGs X es ts t) (hn : (assignEach es X.env).length = n := by rfl) (hst : (assignEach es X.env).findIdx? (·.1) = none := by rfl) : GPG X (.Tuple es k pos) ts (tTuple t n) :=
  pg_weak (pg_tup hc h hn hst) fun v σ H Q ⟨B, ρ, F, own, d, k, hK, ok, f, h, kk⟩ => by
    cases d with
    | tuple ds =>
      obtain ⟨hl, h⟩ := h
      cases f with
      | tup hf r => exact ⟨_, _, rfl, same_sqt ok.sub hf, by rw [r.length]; exact hl, B, ρ, F, own, ds, k, hK, ok, r, h, kk⟩
    | _ => exact h.elim
/-! ### for -/
def forW0 (tg : Tg) (body : S) (Dp : PEnds) : List D → PEnv → Prop
  | [], ρ => Dp.nx ρ
  | d :: ds, ρ => tg d ρ fun ρ1 => body ρ1 { Dp with nx := forW0 tg body Dp ds, ct := forW0 tg body Dp ds, bk := Dp.nx }
@[irreducible] def forW : Tg → S → PEnds → List D → PEnv → Prop := forW0
theorem forW_eq : forW = forW0 := by unfold forW; rfl
theorem forW_nil {tg : Tg} {body : S} {Dp : PEnds} {ρ : PEnv} : forW tg body Dp [] ρ = Dp.nx ρ := by rw [forW_eq]; rfl
theorem forW_cons {tg : Tg} {body : S} {Dp : PEnds} {d : D} {ds : List D} {ρ : PEnv} : forW tg body Dp (d :: ds) ρ = tg d ρ fun ρ1 => body ρ1 { Dp with nx := forW tg body Dp ds, ct := forW tg body Dp ds, bk := Dp.nx } := by rw [forW_eq]; rfl
def sFor (gi : GI) (tg : Tg) (body : S) : S := fun ρ D => gi ρ (fun ds ρ1 => forW tg body D ds ρ1) D.ex
theorem drop_at {α : Type} {l : List α} {i : Nat} {x : α} (h : l[i]? = some x) : l.drop i = x :: l.drop (i + 1) := by
  obtain ⟨h1, h2⟩ := List.getElem?_eq_some_iff.mp h
  rw [List.drop_eq_getElem_cons h1, h2]
theorem gt_for {X : Cx} {E : XK} {iter target : Expr} {body : List Stmt} {wi : TI} {gi : GI} {tg : Tg} {s : S} {pos : Pos} (hp : PassesOwn (model X.prog X.w) X.A X.env X.xe) (hc : X.calm = true) (hi : PI X target iter wi) (io : IterOk X.K E wi gi) {ts : List Nat} (hg : GPG X target ts tg) (hb : GSs X E body s)
    (hs : ∀ x, foldedSetIterable iter X.env x = pure x := by intro _; rfl) : GSt X E (.For target iter body [] pos) (sFor gi tg s) :=
  ps_weak (ps_for hp hc hi hg hb hs) fun Dn σ H ⟨B, ρ, F, own, Dp, hK, ok, h, lx, l1, l2, l3, l4⟩ => by
    refine io σ H B ρ F own _ Dp.ex _ hK ok h lx fun ds ρ1 H1 F1 own1 J ok1 s1 q g => ?_
    have okB := ok1.rebase
    refine ⟨fun i m σ' H' => m = ds.length - i ∧ i ≤ ds.length ∧ ∃ ρ' F' own', Ok { B with F0 := F1 } ρ' σ' H' F' own' ∧ forW tg s Dp (ds.drop i) ρ', ⟨_, rfl, Nat.zero_le _, ρ1, F1, own1, okB, q⟩, ?_⟩
    rintro i m σ' H' ⟨rfl, hi, ρ', F', own', ok', q'⟩
    have sm : Same F1 H' := ok'.up.trans ok'.sub
    by_cases hlt : i < ds.length
    · refine .inr ⟨g.go H' i sm hlt, fun σ2 H2 => ∃ ρ2 F2 own2, Ok { B with F0 := F1 } ρ2 σ2 H2 F2 own2 ∧ forW tg s Dp (ds.drop (i + 1)) ρ2, fun σ2 H2 ⟨ρ2, F2, own2, ok2, q2⟩ => ⟨_, by omega, rfl, hlt, ρ2, F2, own2, ok2, q2⟩, fun x H'' y => ?_⟩
      obtain ⟨e, d, hd, f⟩ := g.yld H' i x H'' sm hlt y
      subst e
      rw [drop_at hd, forW_cons] at q'
      have f' : Fz X.K F' x d := f.mono ok'.up
      refine ⟨{ B with F0 := F1 }, ρ', F', own', d, _, hK, ok', f', q', fun ρ2 σ2 own2 _ ok2 q2 => ?_⟩
      exact ⟨{ B with F0 := F1 }, ρ2, F', own2, _, hK, ok2, q2, lx.rebase ok1, fun ρ3 σ3 H3 F3 own3 ok3 q3 => ⟨ρ3, F3, own3, ok3, q3⟩, fun c v H3 F3 own3 ok3 r q3 => l2 c v H3 F3 own3 (ok1.nil.unbase ok3) r q3,
        fun ρ3 σ3 H3 F3 own3 ok3 q3 => l1 ρ3 σ3 H3 F3 own3 (ok1.unbase ok3) q3, fun ρ3 σ3 H3 F3 own3 ok3 q3 => ⟨ρ3, F3, own3, ok3, q3⟩⟩
    · have e : i = ds.length := by omega
      subst e
      rw [List.drop_length, forW_nil] at q'
      exact .inl ⟨g.stop H' sm, l1 ρ' σ' H' F' own' (ok1.unbase ok') q'⟩
/-! ### while -/
def sWhile (t : GT) (body : S) : S := fun ρ D => ∃ (I : PEnv → Prop) (μ : PEnv → Nat), I ρ ∧ ∀ ρ, I ρ → t ρ (fun b ρ' => iteB b (body ρ' { D with nx := fun ρ2 => I ρ2 ∧ μ ρ2 < μ ρ, ct := fun ρ2 => I ρ2 ∧ μ ρ2 < μ ρ, bk := D.nx }) (D.nx ρ')) D.ex
theorem gt_while {X : Cx} {E : XK} {c : Expr} {body : List Stmt} {t : GT} {s : S} {pos : Pos} (hp : PassesOwn (model X.prog X.w) X.A X.env X.xe) (hc : GTe X E c t) (hb : GSs X E body s) : GSt X E (.While c body [] pos) (sWhile t s) :=
  ps_weak (ps_while hp hc hb) fun Dn σ H ⟨B, ρ, F, own, Dp, hK, ok, h, lx, l1, l2, l3, l4⟩ => by
    obtain ⟨I, μ, i0, st⟩ := h
    refine ⟨fun m σ' H' => ∃ ρ' F' own', Ok B ρ' σ' H' F' own' ∧ I ρ' ∧ m = μ ρ', ⟨_, ρ, F, own, ok, i0, rfl⟩, ?_⟩
    rintro m σ' H' ⟨ρ', F', own', ok', i', rfl⟩
    refine ⟨B, ρ', F', own', _, Dp.ex, hK, ok', st ρ' i', lx, fun b ρ2 H2 F2 own2 ok2 s2 q2 => ?_⟩
    cases b with
    | true =>
      rw [iteB_tt] at q2; rw [if_pos rfl]
      refine ⟨fun σ3 H3 => ∃ ρ3 F3 own3, Ok B ρ3 σ3 H3 F3 own3 ∧ I ρ3 ∧ μ ρ3 < μ ρ', fun σ3 H3 ⟨ρ3, F3, own3, ok3, i3, m3⟩ => ⟨_, m3, ρ3, F3, own3, ok3, i3, rfl⟩, ?_⟩
      exact ⟨B, ρ2, F2, own2, _, hK, ok2, q2, lx, fun ρ3 σ3 H3 F3 own3 ok3 q3 => ⟨ρ3, F3, own3, ok3, q3⟩, l2, l1, fun ρ3 σ3 H3 F3 own3 ok3 q3 => ⟨ρ3, F3, own3, ok3, q3⟩⟩
    | false =>
      rw [iteB_ff] at q2; rw [if_neg Bool.false_ne_true]
      exact l1 ρ2 _ H2 F2 own2 ok2 q2
end
end P

set_option Elab.async false
set_option linter.all false
set_option maxRecDepth 100000
set_option maxHeartbeats 4000000
/-! The P-layer, 5: list comprehensions. -/
namespace P
open PySem L2
section
variable {K : Frag} {a0 : Option Addr} {F F' H H' : Hp} {own own' : Own} {id id' : Option Nat} {B : Box} {ρ ρ' : PEnv} {σ σ' : St} {v : V} {c : C} {d : D}
def wipeP (ρ : PEnv) : List Nat → PEnv
  | [] => ρ
  | v :: vs => (wipeP ρ vs).set v none
theorem wipeP_length (ρ : PEnv) : ∀ vs, (wipeP ρ vs).length = ρ.length
  | [] => rfl
  | v :: vs => by unfold wipeP; rw [List.length_set, wipeP_length ρ vs]
theorem wipeP_some {i : Nat} {x : C} : ∀ {vs : List Nat}, (wipeP ρ vs)[i]? = some (some x) → ρ[i]? = some (some x) ∧ i ∉ vs
  | [], h => ⟨h, by simp⟩
  | v :: vs, h => by
    unfold wipeP at h
    rcases set_get h with ⟨_, z, _⟩ | ⟨hj, z⟩
    · cases z
    · obtain ⟨h1, h2⟩ := wipeP_some z
      exact ⟨h1, by simp only [List.mem_cons, not_or]; exact ⟨hj, h2⟩⟩
theorem wipeP_out {i : Nat} : ∀ {vs : List Nat}, i ∉ vs → (wipeP ρ vs)[i]? = ρ[i]?
  | [], _ => rfl
  | v :: vs, h => by
    have h1 : v ≠ i := fun e => h (by rw [e]; exact List.mem_cons_self)
    have h2 : i ∉ vs := fun m => h (List.mem_cons_of_mem _ m)
    unfold wipeP
    rw [List.getElem?_set_ne h1]
    exact wipeP_out h2
theorem Ok.wipe (ok : Ok B ρ σ H F own) (vs : List Nat) : Ok B (wipeP ρ vs) (wipe σ vs) H F own :=
  ⟨ok.sub, ok.keep, ok.up, ok.new, ok.ow, ok.orc, by rw [wipeP_length, wipe_length]; exact ok.len, fun i c e => by
    obtain ⟨h1, h2⟩ := wipeP_some e
    obtain ⟨v, h3, h4⟩ := ok.slot i c h1
    exact ⟨v, by rw [wipe_out h2]; exact h3, h4⟩⟩
/-- rows made so far: their places and what they hold -/
abbrev RW := Addr → Option (Nat × HO)
/-- the box within a comprehension: the new list at D and its rows are guarded -/
def Bx (B : Box) (Dd : Addr) (acc : HO) (rw : RW) : Box := { B with H0 := fun a => if a = Dd then some acc else match rw a with
  | some (_, o) => some o
  | none => B.H0 a }
theorem Bx.at {Dd : Addr} {acc : HO} {rw : RW} : (Bx B Dd acc rw).H0 Dd = some acc := by simp [Bx]
theorem Bx.row {Dd a : Addr} {acc : HO} {rw : RW} {x} (h : a ≠ Dd) (e : rw a = some x) : (Bx B Dd acc rw).H0 a = some x.2 := by simp [Bx, h, e]
theorem Bx.out {Dd a : Addr} {acc : HO} {rw : RW} (h : a ≠ Dd) (e : rw a = none) : (Bx B Dd acc rw).H0 a = B.H0 a := by simp [Bx, h, e]
/-- what the guard needs of the outer box -/
structure BxOk (B : Box) (Dd : Addr) (rw : RW) : Prop where
  d0 : B.H0 Dd = none
  dr : rw Dd = none
  r0 : ∀ a x, rw a = some x → B.H0 a = none
  f0 : B.F0 Dd = none
  fr : ∀ a x, rw a = some x → B.F0 a = none
  da : B.a0 ≠ some Dd
  ra : ∀ a x, rw a = some x → B.a0 ≠ some a
theorem Ok.enter (ok : Ok B ρ σ H F own) {Dd : Addr} (o0 : HO) (hD : H Dd = none) : Ok (Bx B Dd o0 fun _ => none) ρ σ (upd H Dd o0) F own ∧ BxOk B Dd (fun _ => none) := by
  have h0 := ok.freeH0 hD
  have hF := ok.freeF hD
  have hO := ok.freeO hD
  have na : B.a0 ≠ some Dd := fun e => by have := (ok.orc Dd e).2.2.2; rw [h0] at this; cases this
  refine ⟨⟨ok.sub.trans (same_new hD), fun a o e1 e2 => ?_, ok.up, fun a o e => ?_, fun a x e => ?_, fun a e => ?_, ok.len, fun i c e => ?_⟩, ⟨h0, rfl, (fun _ _ e => nomatch e), ok.up.free hF, (fun _ _ e => nomatch e), na, (fun _ _ e => nomatch e)⟩⟩
  · by_cases h : a = Dd
    · subst h; rw [Bx.at] at e1; rw [upd_same]; exact e1
    · rw [Bx.out h rfl] at e1; rw [upd_ne h]; exact ok.keep a o e1 e2
  · by_cases h : a = Dd
    · subst h; rw [hF] at e; cases e
    · rw [Bx.out h rfl]; exact ok.new a o e
  · have h : a ≠ Dd := by rintro rfl; rw [hO] at e; cases e
    rw [Bx.out h rfl, upd_ne h]; exact ok.ow a x e
  · have e : B.a0 = some a := e
    have h : a ≠ Dd := by rintro rfl; exact na e
    obtain ⟨h1, h2, h3, h4⟩ := ok.orc a e
    rw [Bx.out h rfl]
    exact ⟨h1.mono (Same.refl _) (upd_ne h), h2, h3, h4⟩
  · obtain ⟨v, h1, h2⟩ := ok.slot i c e
    exact ⟨v, h1, h2.keep (Same.refl _) fun a j q => ⟨q, upd_ne (by rintro rfl; rw [hO] at q; cases q)⟩⟩
section
variable {Dd : Addr} {acc acc' : HO} {rw rw' : RW}
theorem Ok.dlist (ok : Ok (Bx B Dd acc rw) ρ σ H F own) (b : BxOk B Dd rw) : H Dd = some acc := ok.keep Dd _ Bx.at b.da
theorem Ok.dfree (ok : Ok (Bx B Dd acc rw) ρ σ H F own) (b : BxOk B Dd rw) : F Dd = none ∧ own Dd = none := by
  constructor
  · cases e : F Dd with
    | none => rfl
    | some o =>
      rcases ok.new Dd o e with h | h
      · cases (b.f0.symm.trans h)
      · rw [Bx.at] at h; cases h
  · cases e : own Dd with
    | none => rfl
    | some x => have := (ok.ow Dd x e).2.1; rw [Bx.at] at this; cases this
theorem Ok.rfree (ok : Ok (Bx B Dd acc rw) ρ σ H F own) (b : BxOk B Dd rw) {a : Addr} {x} (e : rw a = some x) : F a = none ∧ own a = none ∧ H a = some x.2 := by
  have h : a ≠ Dd := by rintro rfl; rw [b.dr] at e; cases e
  refine ⟨?_, ?_, ok.keep a _ (Bx.row h e) (b.ra a x e)⟩
  · cases q : F a with
    | none => rfl
    | some o =>
      rcases ok.new a o q with z | z
      · cases ((b.fr a x e).symm.trans z)
      · rw [Bx.row h e] at z; cases z
  · cases q : own a with
    | none => rfl
    | some y => have := (ok.ow a y q).2.1; rw [Bx.row h e] at this; cases this
/-- one more item, frozen -/
theorem Ok.appD (ok : Ok (Bx B Dd acc rw) ρ σ H F own) (b : BxOk B Dd rw) (acc' : HO) : Ok (Bx B Dd acc' rw) ρ σ (upd H Dd acc') F own := by
  obtain ⟨hF, hO⟩ := ok.dfree b
  refine ⟨fun a o e => ?_, fun a o e1 e2 => ?_, ok.up, fun a o e => ?_, fun a x e => ?_, fun a e => ?_, ok.len, fun i c e => ?_⟩
  · rw [upd_ne (by rintro rfl; rw [hF] at e; cases e)]; exact ok.sub a o e
  · by_cases h : a = Dd
    · subst h; rw [Bx.at] at e1; rw [upd_same]; exact e1
    · rw [upd_ne h]
      refine ok.keep a o ?_ e2
      simpa [Bx, h] using e1
  · have h : a ≠ Dd := by rintro rfl; rw [hF] at e; cases e
    rcases ok.new a o e with z | z
    · exact .inl z
    · right; simpa [Bx, h] using z
  · have h : a ≠ Dd := by rintro rfl; rw [hO] at e; cases e
    obtain ⟨h1, h2, h3⟩ := ok.ow a x e
    refine ⟨h1, by simpa [Bx, h] using h2, by rw [upd_ne h]; exact h3⟩
  · have e : B.a0 = some a := e
    have h : a ≠ Dd := by rintro rfl; exact b.da e
    obtain ⟨h1, h2, h3, h4⟩ := ok.orc a e
    refine ⟨h1.mono (Same.refl _) (upd_ne h), h2, h3, ?_⟩
    simpa [Bx, h] using h4
  · obtain ⟨v, h1, h2⟩ := ok.slot i c e
    exact ⟨v, h1, h2.keep (Same.refl _) fun a j q => ⟨q, upd_ne (by rintro rfl; rw [hO] at q; cases q)⟩⟩
/-- a row that an expression has just given is guarded -/
def addR (rw : RW) (a : Addr) (n : Nat) (o : HO) : RW := fun b => if b = a then some (n, o) else rw b
def dropO (own : Own) (a : Addr) : Own := fun b => if b = a then none else own b
theorem Ok.addRow (ok : Ok (Bx B Dd acc rw) ρ σ H F own) (b : BxOk B Dd rw) {a : Addr} {k n : Nat} {o : HO} (ha : own a = some (none, k)) (hH : H a = some o) : Ok (Bx B Dd acc (addR rw a n o)) ρ σ H F (dropO own a) ∧ BxOk B Dd (addR rw a n o) := by
  obtain ⟨hF, h0, _⟩ := ok.ow a _ ha
  have hD : a ≠ Dd := by rintro rfl; rw [(ok.dfree b).2] at ha; cases ha
  have hr : rw a = none := by
    cases e : rw a with
    | none => rfl
    | some x => rw [(ok.rfree b e).2.1] at ha; cases ha
  have h0' : B.H0 a = none := by rw [Bx.out hD hr] at h0; exact h0
  have na : B.a0 ≠ some a := fun e => by rw [(ok.orc a e).2.2.1] at ha; cases ha
  have hF0 : B.F0 a = none := ok.up.free hF
  refine ⟨⟨ok.sub, fun c u e1 e2 => ?_, ok.up, fun c u e => ?_, fun c x e => ?_, fun c e => ?_, ok.len, fun i c e => ?_⟩, ⟨b.d0, ?_, fun c x e => ?_, b.f0, fun c x e => ?_, b.da, fun c x e => ?_⟩⟩
  · by_cases h : c = a
    · subst h
      have : (Bx B Dd acc (addR rw c n o)).H0 c = some o := Bx.row (x := (n, o)) hD (by simp [addR])
      rw [this] at e1; cases e1; exact hH
    · refine ok.keep c u ?_ e2
      have : (Bx B Dd acc (addR rw a n o)).H0 c = (Bx B Dd acc rw).H0 c := by simp [Bx, addR, h]
      rw [← this]; exact e1
  · have h : c ≠ a := by rintro rfl; rw [hF] at e; cases e
    rcases ok.new c u e with z | z
    · exact .inl z
    · right; simpa [Bx, addR, h] using z
  · by_cases h : c = a
    · subst h; simp [dropO] at e
    · have e : own c = some x := by simpa [dropO, h] using e
      obtain ⟨h1, h2, h3⟩ := ok.ow c x e
      exact ⟨h1, by simpa [Bx, addR, h] using h2, h3⟩
  · have e : B.a0 = some c := e
    have h : c ≠ a := by rintro rfl; exact na e
    obtain ⟨h1, h2, h3, h4⟩ := ok.orc c e
    exact ⟨h1, h2, by simpa [dropO, h] using h3, by simpa [Bx, addR, h] using h4⟩
  · obtain ⟨v, h1, h2⟩ := ok.slot i c e
    refine ⟨v, h1, h2.keep (Same.refl _) fun q j e => ⟨?_, rfl⟩⟩
    have h : q ≠ a := by rintro rfl; rw [ha] at e; cases e
    simpa [dropO, h] using e
  · simp [addR, hD.symm, b.dr]
  · by_cases h : c = a
    · subst h; exact h0'
    · exact b.r0 c x (by simpa [addR, h] using e)
  · by_cases h : c = a
    · subst h; exact hF0
    · exact b.fr c x (by simpa [addR, h] using e)
  · by_cases h : c = a
    · subst h; exact na
    · exact b.ra c x (by simpa [addR, h] using e)
/-- the list is given, its rows with it -/
def ownL (own : Own) (Dd : Addr) (rw : RW) : Own := fun a => if a = Dd then some (none, 0) else match rw a with
  | some (j, _) => some (none, j + 1)
  | none => own a
theorem Ok.leave (ok : Ok (Bx B Dd acc rw) ρ σ H F own) (b : BxOk B Dd rw) {ρ' : PEnv} {σ' : St} (hl : ρ'.length = σ'.length) (hs : ∀ (i : Nat) c, ρ'[i]? = some (some c) → (ρ[i]? = some (some c) ∧ σ'[i]? = σ[i]?) ∨ ∃ v, σ'[i]? = some (some v) ∧ RepZ B.K B.a0 F c v) :
    Ok B ρ' σ' H F (ownL own Dd rw) := by
  obtain ⟨hF, hO⟩ := ok.dfree b
  have ne : ∀ a x, own a = some x → a ≠ Dd ∧ rw a = none := fun a x e => by
    refine ⟨(by rintro rfl; rw [hO] at e; cases e), ?_⟩
    cases q : rw a with
    | none => rfl
    | some y => rw [(ok.rfree b q).2.1] at e; cases e
  have kp : ∀ a x, own a = some x → ownL own Dd rw a = some x := fun a x e => by
    obtain ⟨h1, h2⟩ := ne a x e
    simp [ownL, h1, h2, e]
  refine ⟨ok.sub, fun a o e1 e2 => ?_, ok.up, fun a o e => ?_, fun a x e => ?_, fun a e => ?_, hl, fun i c e => ?_⟩
  · refine ok.keep a o ?_ e2
    have h : a ≠ Dd := by rintro rfl; rw [b.d0] at e1; cases e1
    have hr : rw a = none := by
      cases q : rw a with
      | none => rfl
      | some y => rw [b.r0 a y q] at e1; cases e1
    rw [Bx.out h hr]; exact e1
  · rcases ok.new a o e with z | z
    · exact .inl z
    · right
      by_cases h : a = Dd
      · subst h; rw [hF] at e; cases e
      · cases q : rw a with
        | none => rw [Bx.out h q] at z; exact z
        | some y => rw [(ok.rfree b q).1] at e; cases e
  · by_cases h : a = Dd
    · subst h; exact ⟨hF, b.d0, by rw [ok.dlist b]; rfl⟩
    · cases q : rw a with
      | some y =>
        obtain ⟨h1, h2, h3⟩ := ok.rfree b q
        exact ⟨h1, b.r0 a y q, by rw [h3]; rfl⟩
      | none =>
        have e : own a = some x := by simpa [ownL, h, q] using e
        obtain ⟨h1, h2, h3⟩ := ok.ow a x e
        rw [Bx.out h q] at h2
        exact ⟨h1, h2, h3⟩
  · have h : a ≠ Dd := by rintro rfl; exact b.da e
    have hr : rw a = none := by
      cases q : rw a with
      | none => rfl
      | some y => exact absurd e (b.ra a y q)
    obtain ⟨h1, h2, h3, h4⟩ := ok.orc a e
    exact ⟨h1, h2, by simpa [ownL, h, hr] using h3, by rw [Bx.out h hr] at h4; exact h4⟩
  · rcases hs i c e with ⟨h1, h2⟩ | ⟨v, h1, h2⟩
    · obtain ⟨v, g1, g2⟩ := ok.slot i c h1
      exact ⟨v, by rw [h2]; exact g1, g2.keep (Same.refl _) fun a j q => ⟨kp a _ q, rfl⟩⟩
    · exact ⟨v, h1, h2.rep⟩
end
end
/-! ### the reading -/
abbrev Never : Ex → Prop := fun _ => False
theorem exl_never {E : XK} {B : Box} : ExL E B Never := fun _ _ _ _ _ _ _ _ _ _ z => z.elim
/-- frozen items -/
def lcW0 (tg : Tg) (tt : GT) (te : G) (vs : List Nat) (ρ : PEnv) (k : List D → Prop) : List D → List D → Prop
  | acc, [] => k acc
  | acc, d :: ds => tg d ρ fun ρ1 => wipeP ρ1 vs = ρ ∧ tt ρ1 (fun b ρ2 => ρ2 = ρ1 ∧ iteB b (te ρ1 (fun c ρ3 => ρ3 = ρ1 ∧ withD ρ1 [settle c] fun xs ρ4 => ρ4 = ρ1 ∧ acc.length < sizeLine ∧ match xs with
    | [x] => lcW0 tg tt te vs ρ k (acc ++ [x]) ds
    | _ => False) Never) (lcW0 tg tt te vs ρ k acc ds)) Never
@[irreducible] def lcW : Tg → GT → G → List Nat → PEnv → (List D → Prop) → List D → List D → Prop := lcW0
theorem lcW_eq : lcW = lcW0 := by unfold lcW; rfl
/-- owned rows -/
def lcR0 (tg : Tg) (te : G) (vs : List Nat) (ρ : PEnv) (k : List (List D) → Prop) : List (List D) → List D → Prop
  | acc, [] => k acc
  | acc, d :: ds => tg d ρ fun ρ1 => wipeP ρ1 vs = ρ ∧ te ρ1 (fun c ρ3 => ρ3 = ρ1 ∧ acc.length < sizeLine ∧ match c with
    | .ls xs => lcR0 tg te vs ρ k (acc ++ [xs]) ds
    | _ => False) Never
@[irreducible] def lcR : Tg → G → List Nat → PEnv → (List (List D) → Prop) → List (List D) → List D → Prop := lcR0
theorem lcR_eq : lcR = lcR0 := by unfold lcR; rfl
theorem lcW_nil {tg : Tg} {tt : GT} {te : G} {vs : List Nat} {ρ : PEnv} {k : List D → Prop} {acc : List D} : lcW tg tt te vs ρ k acc [] = k acc := by rw [lcW_eq]; rfl
theorem lcW_cons {tg : Tg} {tt : GT} {te : G} {vs : List Nat} {ρ : PEnv} {k : List D → Prop} {acc : List D} {d : D} {ds : List D} : lcW tg tt te vs ρ k acc (d :: ds) = tg d ρ fun ρ1 => wipeP ρ1 vs = ρ ∧ tt ρ1 (fun b ρ2 => ρ2 = ρ1 ∧ iteB b (te ρ1 (fun c ρ3 => ρ3 = ρ1 ∧ withD ρ1 [settle c] fun xs ρ4 => ρ4 = ρ1 ∧ acc.length < sizeLine ∧ match xs with
    | [x] => lcW tg tt te vs ρ k (acc ++ [x]) ds
    | _ => False) Never) (lcW tg tt te vs ρ k acc ds)) Never := by rw [lcW_eq]; rfl
theorem lcR_nil {tg : Tg} {te : G} {vs : List Nat} {ρ : PEnv} {k : List (List D) → Prop} {acc : List (List D)} : lcR tg te vs ρ k acc [] = k acc := by rw [lcR_eq]; rfl
theorem lcR_cons {tg : Tg} {te : G} {vs : List Nat} {ρ : PEnv} {k : List (List D) → Prop} {acc : List (List D)} {d : D} {ds : List D} : lcR tg te vs ρ k acc (d :: ds) = tg d ρ fun ρ1 => wipeP ρ1 vs = ρ ∧ te ρ1 (fun c ρ3 => ρ3 = ρ1 ∧ acc.length < sizeLine ∧ match c with
    | .ls xs => lcR tg te vs ρ k (acc ++ [xs]) ds
    | _ => False) Never := by rw [lcR_eq]; rfl
def okVs (ρ : PEnv) : List Nat → Bool
  | [] => true
  | v :: vs => (match ρ[v]? with
    | some (some (.fz _)) => true
    | some (some .orc) => true
    | some none => true
    | _ => false) && okVs ρ vs
theorem okVs_at {ρ : PEnv} {i : Nat} {c : C} (e : ρ[i]? = some (some c)) : ∀ {vs : List Nat}, okVs ρ vs = true → i ∈ vs → clean c = true
  | [], _, m => by simp at m
  | v :: vs, h, m => by
    have h : ((match ρ[v]? with
      | some (some (.fz _)) => true
      | some (some .orc) => true
      | some none => true
      | _ => false) && okVs ρ vs) = true := h
    obtain ⟨h1, h2⟩ := Bool.and_eq_true_iff.mp h
    rcases List.mem_cons.mp m with q | q
    · subst q
      rw [e] at h1
      cases c with
      | fz d => rfl
      | orc => rfl
      | ls ds => cases h1
      | ll ds => cases h1
      | dk ds => cases h1
      | «at» j => cases h1
    · exact okVs_at e h2 q
def gLc (gi : GI) (tg : Tg) (tt : GT) (te : G) (vs : List Nat) : G := fun ρ Q Ep => gi ρ (fun ds ρ1 => okVs ρ1 vs = true ∧ lcW tg tt te vs (wipeP ρ1 vs) (fun acc => Q (.ls acc) ρ1) [] ds) Ep
def gLcR (gi : GI) (tg : Tg) (te : G) (vs : List Nat) : G := fun ρ Q Ep => gi ρ (fun ds ρ1 => okVs ρ1 vs = true ∧ lcR tg te vs (wipeP ρ1 vs) (fun acc => Q (.ll acc) ρ1) [] ds) Ep
section
variable {K : Frag} {E : XK}
theorem wipe_in {σ : St} {i : Nat} : ∀ {vs : List Nat}, i ∈ vs → (wipe σ vs)[i]? = if i < σ.length then some none else none
  | [], h => by simp at h
  | v :: vs, h => by
    show ((wipe σ vs).set v none)[i]? = _
    by_cases hv : i = v
    · subst hv
      rw [List.getElem?_set_self']
      by_cases q : i < σ.length
      · rw [if_pos q, List.getElem?_eq_getElem (by rw [wipe_length]; exact q)]; rfl
      · rw [if_neg q, List.getElem?_eq_none (by rw [wipe_length]; omega)]; rfl
    · rw [List.getElem?_set_ne (Ne.symm hv)]
      exact wipe_in ((List.mem_cons.mp h).resolve_left hv)
theorem wipe_but {σ σ2 : St} {vs ts : List Nat} (bt : But ts (wipe σ vs) σ2) (h : ∀ j ∈ ts, j ∈ vs) : wipe σ2 vs = wipe σ vs := by
  refine List.ext_getElem? fun i => ?_
  by_cases hi : i ∈ vs
  · rw [wipe_in hi, wipe_in hi, bt.1, wipe_length]
  · rw [wipe_out hi, bt.2 i fun z => hi (h i z)]
theorem leave_slots {B : Box} {ρ : PEnv} {σ : St} {H F F' : Hp} {own : Own} {vs : List Nat} (ok : Ok B ρ σ H F own) (s : Same F F') (hv : okVs ρ vs = true) : ∀ (i : Nat) c, ρ[i]? = some (some c) → ((wipeP ρ vs)[i]? = some (some c) ∧ σ[i]? = (wipe σ vs)[i]?) ∨ ∃ v, σ[i]? = some (some v) ∧ RepZ B.K B.a0 F' c v := fun i c e => by
  by_cases h : i ∈ vs
  · right
    obtain ⟨v, h1, h2⟩ := ok.slot i c e
    refine ⟨v, h1, ?_⟩
    have q := okVs_at e hv h
    cases c with
    | fz d => exact Fz.mono s h2
    | orc => exact h2
    | _ => cases q
  · left
    exact ⟨by rw [wipeP_out h]; exact e, by rw [wipe_out h]⟩
theorem dnLc {wi : TI} {gi : GI} {tg : Tg} {tt : GT} {te : G} {vs : List Nat} {t2 : TT} {ts : List Nat} (hts : ∀ j ∈ ts, j ∈ vs) (io : IterOk K E wi gi) (ht : ∀ σ H Q, dnT K E0 tt σ H Q → t2 σ H Q) {σ : St} {H : Hp} {Q : VK} (h : dnE K E (gLc gi tg tt te vs) σ H Q) : tLc wi (dnG K ts tg) t2 (dnE K E0 te) vs σ H Q := by
  obtain ⟨B, ρ, F, own, Qp, Ep, hK, ok, h, lx, k⟩ := h
  refine io σ H B ρ F own _ Ep _ hK ok h lx fun ds ρ1 H1 F1 own1 J ok1 s1 q g Dd hD => ?_
  obtain ⟨hv, q⟩ := q
  obtain ⟨okE, bx⟩ := (ok1.rebase.wipe vs).enter (.lst []) hD
  refine ⟨fun i m H' => m = ds.length - i ∧ i ≤ ds.length ∧ ∃ (acc : List D) (accV : List V) (F' : Hp) (own' : Own), Ok (Bx { B with F0 := F1 } Dd (.lst accV) fun _ => none) (wipeP ρ1 vs) (wipe σ vs) H' F' own' ∧ FzL K F' accV acc ∧ lcW tg tt te vs (wipeP ρ1 vs) (fun acc => Qp (.ls acc) ρ1) acc (ds.drop i),
    ⟨_, rfl, Nat.zero_le _, [], [], F1, own1, okE, .nil, q⟩, ?_⟩
  rintro i m H' ⟨rfl, hi, acc, accV, F', own', ok', fz, q'⟩
  have sm : Same F1 H' := ok'.up.trans ok'.sub
  by_cases hlt : i < ds.length
  · refine .inr ⟨g.go H' i sm hlt, fun H2 => ∃ (acc : List D) (accV : List V) (F' : Hp) (own' : Own), Ok (Bx { B with F0 := F1 } Dd (.lst accV) fun _ => none) (wipeP ρ1 vs) (wipe σ vs) H2 F' own' ∧ FzL K F' accV acc ∧ lcW tg tt te vs (wipeP ρ1 vs) (fun acc => Qp (.ls acc) ρ1) acc (ds.drop (i + 1)),
      fun H2 ⟨acc2, accV2, F2, own2, ok2, fz2, q2⟩ => ⟨_, by omega, rfl, hlt, acc2, accV2, F2, own2, ok2, fz2, q2⟩, fun x H'' y => ?_⟩
    obtain ⟨e, d, hd, f⟩ := g.yld H' i x H'' sm hlt y
    subst e
    rw [drop_at hd, lcW_cons] at q'
    refine ⟨Bx { B with F0 := F1 } Dd (.lst accV) fun _ => none, wipeP ρ1 vs, F', own', d, _, hK, ok', f.mono ok'.up, q', fun ρ2 σ2 own2 bt ok2 q2 => ?_⟩
    obtain ⟨hw, q2⟩ := q2
    have ew : wipe σ2 vs = wipe σ vs := wipe_but bt hts
    refine ⟨ew, ht _ _ _ ⟨Bx { B with F0 := F1 } Dd (.lst accV) fun _ => none, ρ2, F', own2, _, Never, hK, ok2, q2, exl_never, fun b ρ3 H3 F3 own3 ok3 s3 q3 => ?_⟩⟩
    obtain ⟨e3, q3⟩ := q3
    subst e3
    cases b with
    | false =>
      rw [iteB_ff] at q3; rw [if_neg Bool.false_ne_true]
      have w := ok3.wipe vs
      rw [hw, ew] at w
      exact ⟨acc, accV, F3, own3, w, fz.mono s3, q3⟩
    | true =>
      rw [iteB_tt] at q3; rw [if_pos rfl]
      refine ⟨Bx { B with F0 := F1 } Dd (.lst accV) fun _ => none, ρ3, F3, own3, _, Never, hK, ok3, q3, exl_never, fun c ρ4 v4 H4 F4 own4 ok4 r4 s4 q4 => ?_⟩
      obtain ⟨e4, q4⟩ := q4
      subst e4
      obtain ⟨F5, own5, ok5, s5, r5⟩ := settle_ok ok4 r4
      obtain ⟨xs, e5, q5⟩ := withD_inv q4
      obtain ⟨e6, hz, q6⟩ := q5
      obtain ⟨F6, own6, ok6, s6, z6⟩ := frzL_ok ok5 (.cons r5 .nil) (allD_clean e5)
      rw [e6] at ok6
      have w := ok6.wipe vs
      rw [hw, ew] at w
      have fz6 : FzL K F6 accV acc := fz.mono (((s3.trans s4).trans s5).trans s6)
      split at q6
      · rename_i x'
        have fx := one_fz e5 z6
        refine ⟨accV, w.dlist bx, by rw [fz6.length]; exact hz, acc ++ [x'], accV ++ [v4], F6, own6, w.appD bx _, fz6.append (.one (by rw [← hK]; exact fx)), q6⟩
      · exact q6.elim
  · have e : i = ds.length := by omega
    subst e
    rw [List.drop_length, lcW_nil] at q'
    refine .inl ⟨g.stop H' sm, ?_⟩
    have okL := ok'.leave bx (ρ' := ρ1) (σ' := σ) ok1.len (leave_slots ok1.rebase ok'.up hv)
    exact k (.ls acc) ρ1 _ H' F' _ (ok1.unbase okL) ⟨Dd, accV, rfl, ok'.dlist bx, by simp [ownL], by rw [← hK] at fz; exact fz⟩ (s1.trans ok'.up) q'
/-- rows -/
structure RowsG (K : Frag) (F : Hp) (rw : RW) (accV : List V) (acc : List (List D)) : Prop where
  len : accV.length = acc.length
  row : ∀ (j : Nat) ds, acc[j]? = some ds → ∃ (b : Addr) (ws : List V), accV[j]? = some (.ref b) ∧ rw b = some (j, .lst ws) ∧ FzL K F ws ds
theorem dnLcR {wi : TI} {gi : GI} {tg : Tg} {te : G} {vs : List Nat} {ts : List Nat} (hts : ∀ j ∈ ts, j ∈ vs) (io : IterOk K E wi gi) {σ : St} {H : Hp} {Q : VK} (h : dnE K E (gLcR gi tg te vs) σ H Q) : tLc wi (dnG K ts tg) tYes (dnE K E0 te) vs σ H Q := by
  obtain ⟨B, ρ, F, own, Qp, Ep, hK, ok, h, lx, k⟩ := h
  refine io σ H B ρ F own _ Ep _ hK ok h lx fun ds ρ1 H1 F1 own1 J ok1 s1 q g Dd hD => ?_
  obtain ⟨hv, q⟩ := q
  obtain ⟨okE, bx⟩ := (ok1.rebase.wipe vs).enter (.lst []) hD
  refine ⟨fun i m H' => m = ds.length - i ∧ i ≤ ds.length ∧ ∃ (acc : List (List D)) (accV : List V) (rw : RW) (F' : Hp) (own' : Own), BxOk { B with F0 := F1 } Dd rw ∧ Ok (Bx { B with F0 := F1 } Dd (.lst accV) rw) (wipeP ρ1 vs) (wipe σ vs) H' F' own' ∧ RowsG K F' rw accV acc ∧ lcR tg te vs (wipeP ρ1 vs) (fun acc => Qp (.ll acc) ρ1) acc (ds.drop i),
    ⟨_, rfl, Nat.zero_le _, [], [], (fun _ => none), F1, own1, bx, okE, ⟨rfl, fun j ds e => by simp at e⟩, q⟩, ?_⟩
  rintro i m H' ⟨rfl, hi, acc, accV, rw, F', own', bx, ok', rg, q'⟩
  have sm : Same F1 H' := ok'.up.trans ok'.sub
  by_cases hlt : i < ds.length
  · refine .inr ⟨g.go H' i sm hlt, fun H2 => ∃ (acc : List (List D)) (accV : List V) (rw : RW) (F' : Hp) (own' : Own), BxOk { B with F0 := F1 } Dd rw ∧ Ok (Bx { B with F0 := F1 } Dd (.lst accV) rw) (wipeP ρ1 vs) (wipe σ vs) H2 F' own' ∧ RowsG K F' rw accV acc ∧ lcR tg te vs (wipeP ρ1 vs) (fun acc => Qp (.ll acc) ρ1) acc (ds.drop (i + 1)),
      fun H2 ⟨acc2, accV2, rw2, F2, own2, b2, ok2, rg2, q2⟩ => ⟨_, by omega, rfl, hlt, acc2, accV2, rw2, F2, own2, b2, ok2, rg2, q2⟩, fun x H'' y => ?_⟩
    obtain ⟨e, d, hd, f⟩ := g.yld H' i x H'' sm hlt y
    subst e
    rw [drop_at hd, lcR_cons] at q'
    refine ⟨Bx { B with F0 := F1 } Dd (.lst accV) rw, wipeP ρ1 vs, F', own', d, _, hK, ok', f.mono ok'.up, q', fun ρ2 σ2 own2 bt ok2 q2 => ?_⟩
    obtain ⟨hw, q2⟩ := q2
    have ew : wipe σ2 vs = wipe σ vs := wipe_but bt hts
    refine ⟨ew, ?_⟩
    dsimp only [tYes]
    rw [if_pos rfl]
    refine ⟨Bx { B with F0 := F1 } Dd (.lst accV) rw, ρ2, F', own2, _, Never, hK, ok2, q2, exl_never, fun c ρ4 v4 H4 F4 own4 ok4 r4 s4 q4 => ?_⟩
    obtain ⟨e4, hz, q4⟩ := q4
    subst e4
    split at q4
    · rename_i xs
      obtain ⟨b, ws, rfl, hH, ho, fz⟩ := r4
      obtain ⟨ok5, bx5⟩ := ok4.addRow (n := acc.length) bx ho hH
      have w := ok5.wipe vs
      rw [hw, ew] at w
      have hr : rw b = none := by
        cases e : rw b with
        | none => rfl
        | some x => rw [(ok4.rfree bx e).2.1] at ho; cases ho
      refine ⟨accV, w.dlist bx5, by rw [rg.len]; exact hz, acc ++ [xs], accV ++ [.ref b], _, F4, _, bx5, w.appD bx5 _, ⟨by rw [List.length_append, List.length_append, rg.len]; rfl, fun j es e => ?_⟩, q4⟩
      by_cases hj : j < acc.length
      · rw [List.getElem?_append_left hj] at e
        obtain ⟨b', ws', h1, h2, h3⟩ := rg.row j es e
        refine ⟨b', ws', by rw [List.getElem?_append_left (by rw [rg.len]; exact hj)]; exact h1, ?_, by rw [← hK] at h3 ⊢; exact h3.mono s4⟩
        have : b' ≠ b := by rintro rfl; rw [hr] at h2; cases h2
        simpa [addR, this] using h2
      · have hj2 : j = acc.length := by
          have := (List.getElem?_eq_some_iff.mp e).1
          rw [List.length_append] at this
          have : j < acc.length + 1 := this
          omega
        subst hj2
        have e : xs = es := by simpa using e
        subst e
        refine ⟨b, ws, by rw [← rg.len]; simp, by simp [addR], by rw [← hK]; exact fz⟩
    · exact q4.elim
  · have e : i = ds.length := by omega
    subst e
    rw [List.drop_length, lcR_nil] at q'
    refine .inl ⟨g.stop H' sm, ?_⟩
    have okL := ok'.leave bx (ρ' := ρ1) (σ' := σ) ok1.len (leave_slots ok1.rebase ok'.up hv)
    refine k (.ll acc) ρ1 _ H' F' _ (ok1.unbase okL) ⟨Dd, accV, rfl, ok'.dlist bx, by simp [ownL], rg.len, fun j es e => ?_⟩ (s1.trans ok'.up) q'
    obtain ⟨b, ws, h1, h2, h3⟩ := rg.row j es e
    have hb : b ≠ Dd := by rintro rfl; rw [bx.dr] at h2; cases h2
    exact ⟨b, ws, h1, (ok'.rfree bx h2).2.2, by simp [ownL, hb, h2], by rw [← hK] at h3; exact h3⟩
end
section
variable {X : Cx} {E : XK}
abbrev GBlk (X : Cx) (scope : Scope) (P : Cx → Prop) : Prop := ∀ (s : Shared) (H : Hp) (C : Addr) (cl : List (Str × Addr)) (fp : List Addr), P (X.blk s H scope (compEnvC scope cl C X.env) fp)
abbrev GTs (X : Cx) (ifs : List Expr) (g : GT) : Prop := PTs X ifs (dnT X.K E0 g)
def gYes : GT := fun ρ Q _ => Q true ρ
theorem gts_nil : GTs X [] gYes := ⟨fun pins s σ H Q I ⟨B, ρ, F, own, Qp, Ep, hK, ok, h, lx, k⟩ => (pts_nil (X := X)).run pins s σ H Q I (k true ρ H F own ok (Same.refl _) h)⟩
theorem gts_one {c : Expr} {g : GT} (h : GTe X E0 c g) : GTs X [c] g := pts_one h
variable {elt tg iter : Expr} {ifs : List Expr} {scope : Scope} {own : List (Str × Nat)} {pos : Pos} {wi : TI} {gi : GI} {g : Tg} {ts : List Nat} {tt : GT} {te : G}
theorem ge_lc (hc : X.calm = true) (hN : X.N.Nodup) (hi : PI X tg iter wi) (io : IterOk X.K E wi gi) (ok : BlkOk X.N X.env.scope scope own) (hts : ∀ j ∈ ts, j ∈ own.map (·.2))
    (hg : GBlk X scope fun Y => GPG Y tg ts g) (ht : GBlk X scope fun Y => GTs Y ifs tt) (he : GBlk X scope fun Y => GE Y E0 elt te) (hs : ∀ x, foldedSetIterable iter X.env x = pure x := by intro _; rfl) :
    GE X E (.ListComp elt [⟨tg, iter, ifs, 0⟩] scope pos) (gLc gi g tt te (own.map (·.2))) :=
  pe_weak (pe_lc hc hN hi ok hg ht he hs) fun _ _ _ h => dnLc hts io (fun _ _ _ h => h) h
theorem ge_lcR (hc : X.calm = true) (hN : X.N.Nodup) (hi : PI X tg iter wi) (io : IterOk X.K E wi gi) (ok : BlkOk X.N X.env.scope scope own) (hts : ∀ j ∈ ts, j ∈ own.map (·.2))
    (hg : GBlk X scope fun Y => GPG Y tg ts g) (he : GBlk X scope fun Y => GE Y E0 elt te) (hs : ∀ x, foldedSetIterable iter X.env x = pure x := by intro _; rfl) :
    GE X E (.ListComp elt [⟨tg, iter, [], 0⟩] scope pos) (gLcR gi g te (own.map (·.2))) :=
  pe_weak (pe_lc hc hN hi ok hg (fun _ _ _ _ _ => pts_nil) he hs) fun _ _ _ h => dnLcR hts io h
theorem gt_setLc {i : Nat} {y : Str} {py spos : Pos} (hc : X.calm = true) (hN : X.N.Nodup) (hy : X.N[i]? = some y) (hyl : X.env.scope.names.lookup y = some .local)
    (hsw : swapsWith (.ListComp elt [⟨tg, iter, ifs, 0⟩] scope pos) (some (.Name y py)) spos.line X.env = pure true) (hi : PI X tg iter wi) (io : IterOk X.K E wi gi) (ok : BlkOk X.N X.env.scope scope own) (hts : ∀ j ∈ ts, j ∈ own.map (·.2))
    (hg : GBlk X scope fun Y => GPG Y tg ts g) (ht : GBlk X scope fun Y => GTs Y ifs tt) (he : GBlk X scope fun Y => GE Y E0 elt te) (hs : ∀ x, foldedSetIterable iter X.env x = pure x := by intro _; rfl) :
    GSt X E (.Assign [.Name y py] (.ListComp elt [⟨tg, iter, ifs, 0⟩] scope pos) spos) (sSet i (gLc gi g tt te (own.map (·.2)))) :=
  ps_weak (ps_setLc hc hN hy hyl hsw hi ok hg ht he hs) fun _ _ _ h => dnSet i (fun _ _ _ h => dnLc hts io (fun _ _ _ h => h) h) h
theorem gt_setLcR {i : Nat} {y : Str} {py spos : Pos} (hc : X.calm = true) (hN : X.N.Nodup) (hy : X.N[i]? = some y) (hyl : X.env.scope.names.lookup y = some .local)
    (hsw : swapsWith (.ListComp elt [⟨tg, iter, [], 0⟩] scope pos) (some (.Name y py)) spos.line X.env = pure true) (hi : PI X tg iter wi) (io : IterOk X.K E wi gi) (ok : BlkOk X.N X.env.scope scope own) (hts : ∀ j ∈ ts, j ∈ own.map (·.2))
    (hg : GBlk X scope fun Y => GPG Y tg ts g) (he : GBlk X scope fun Y => GE Y E0 elt te) (hs : ∀ x, foldedSetIterable iter X.env x = pure x := by intro _; rfl) :
    GSt X E (.Assign [.Name y py] (.ListComp elt [⟨tg, iter, [], 0⟩] scope pos) spos) (sSet i (gLcR gi g te (own.map (·.2)))) :=
  ps_weak (ps_setLc hc hN hy hyl hsw hi ok hg (fun _ _ _ _ _ => pts_nil) he hs) fun _ _ _ h => dnSet i (fun _ _ _ h => dnLcR hts io h) h
end
end P

set_option Elab.async false
set_option linter.all false
set_option maxRecDepth 100000
set_option maxHeartbeats 4000000
/-! The P-layer, 6: operations by values. -/
namespace P
open PySem L2
section
variable {K : Frag} {F H : Hp} {x y v : V} {d e : D}
theorem vw_int {i : Int} (h : Vw K F H x (.int i)) : x = .int i := h
theorem vw_str {i : Str} (h : Vw K F H x (.str i)) : x = .str i := h
theorem vw_bool {i : Bool} (h : Vw K F H x (.bool i)) : x = .bl i := h
theorem vw_tup {ds : List D} (s : Same F H) (h : Vw K F H x (.tuple ds)) : ∃ a xs, x = .ref a ∧ SqT K H a xs ∧ SqT K F a xs ∧ FzL K F xs ds := by
  have h : Fz K F x (.tuple ds) := h
  cases h with
  | tup h1 r => exact ⟨_, _, rfl, same_sqt s h1, h1, r⟩
theorem Vw.dp (s : Same F H) (h : Vw K F H x d) (n : hasDict d = false) : Dp K H x d := by
  cases d with
  | none => cases h; exact .non
  | bool b => cases h; exact .bl b
  | int i => cases h; exact .int i
  | str z => cases h; exact .str z
  | list ds =>
    obtain ⟨a, xs, rfl, h1, h2⟩ := h
    exact .lst (SqL.of h1) (h2.dp s (by simpa [hasDict] using n))
  | tuple ds => exact Fz.dp s h n
  | dict kvs => cases n
/-- arithmetic -/
def pAdd : Pf2 := fun d e k => match d, e with
  | .int i, .int j => k (.fz (.int (i + j)))
  | .str x, .str y => x.length + y.length ≤ sizeLine ∧ k (.fz (.str (x ++ y)))
  | .tuple xs, .tuple ys => xs.length + ys.length ≤ sizeLine ∧ k (.fz (.tuple (xs ++ ys)))
  | .list xs, .list ys => xs.length + ys.length ≤ sizeLine ∧ k (.ls (xs ++ ys))
  | _, _ => False
def rAddA (K : Frag) : R2 := fun x y H Q => (∃ i j, x = .int i ∧ y = .int j ∧ Q (.int (i + j)) H) ∨ (∃ i j, x = .str i ∧ y = .str j ∧ i.length + j.length ≤ sizeLine ∧ Q (.str (i ++ j)) H) ∨ rCatA K x y H Q ∨ rCat x y H Q
theorem op_addA {X : Cx} : OpR X (binaryOp .Add) (rAddA X.K) := op_add.or (op_add_str.or (op_catA.or op_cat))
theorem r_add : R2V K (rAddA K) pAdd := by
  intro F H x y d e Qp Q s vx vy h r
  unfold pAdd at h
  split at h
  · cases vx; cases vy
    exact .inl ⟨_, _, rfl, rfl, r.dat _ _ (.int _) h⟩
  · cases vx; cases vy
    exact .inr (.inl ⟨_, _, rfl, rfl, h.1, r.dat _ _ (.str _) h.2⟩)
  · obtain ⟨a, xs, rfl, h1, h1', f1⟩ := vw_tup s vx
    obtain ⟨b, ys, rfl, h2, h2', f2⟩ := vw_tup s vy
    refine .inr (.inr (.inl ⟨a, b, xs, ys, rfl, rfl, h1, h2, by rw [f1.length, f2.length]; exact h.1, fun e => ?_, fun e1 e2 => ?_, fun _ _ p hp => ?_⟩))
    · subst e
      cases f1
      exact r.dat _ _ vy h.2
    · subst e2
      cases f2
      exact r.dat _ _ vx (by simpa using h.2)
    · exact r.tup p _ _ hp (f1.append f2) h.2
  · obtain ⟨a, xs, rfl, h1, f1⟩ := vx
    obtain ⟨b, ys, rfl, h2, f2⟩ := vy
    exact .inr (.inr (.inr ⟨a, b, xs, ys, rfl, rfl, h1, h2, by rw [f1.length, f2.length]; exact h.1, fun p hp => r.lst p _ _ hp (f1.append f2) h.2⟩))
  · exact h.elim
def pII (g : Int → Int → Int) (C0 : Int → Int → Prop) : Pf2 := fun d e k => match d, e with
  | .int i, .int j => C0 i j ∧ k (.fz (.int (g i j)))
  | _, _ => False
theorem r_ii {C0 : Int → Int → Prop} {g : Int → Int → Int} : R2V K (rI C0 fun i j => .int (g i j)) (pII g C0) := by
  intro F H x y d e Qp Q s vx vy h r
  unfold pII at h
  split at h
  · cases vx; cases vy
    exact ⟨_, _, rfl, rfl, h.1, r.dat _ _ (.int _) h.2⟩
  · exact h.elim
def pSub : Pf2 := fun d e k => match d, e with
  | .int i, .int j => k (.fz (.int (i - j)))
  | _, _ => False
theorem r_sub : R2V K (rI0 fun i j => .int (i - j)) pSub := by
  intro F H x y d e Qp Q s vx vy h r
  unfold pSub at h
  split at h
  · cases vx; cases vy
    exact ⟨_, _, rfl, rfl, r.dat _ _ (.int _) h⟩
  · exact h.elim
abbrev pMul : Pf2 := pII (fun i j => i * j) CMul
abbrev pFDiv : Pf2 := pII (fun i j => i.fdiv j) CDivN
abbrev pMod : Pf2 := pII (fun i j => i.fmod j) fun _ j => j ≠ 0
abbrev pPow : Pf2 := pII (fun i j => i ^ j.toNat) CPow
def pIB (g : Int → Int → Bool) : Pf2 := fun d e k => match d, e with
  | .int i, .int j => k (.fz (.bool (g i j)))
  | _, _ => False
theorem r_ib {g : Int → Int → Bool} : R2V K (rI0 fun i j => .bl (g i j)) (pIB g) := by
  intro F H x y d e Qp Q s vx vy h r
  unfold pIB at h
  split at h
  · cases vx; cases vy
    exact ⟨_, _, rfl, rfl, r.dat _ _ (.bl _) h⟩
  · exact h.elim
abbrev pLt : Pf2 := pIB fun i j => decide (i < j)
abbrev pLe : Pf2 := pIB fun i j => decide (i ≤ j)
abbrev pGt : Pf2 := pIB fun i j => decide (j < i)
abbrev pGe : Pf2 := pIB fun i j => decide (j ≤ i)
/-- equality -/
def simpEq : D → D → Option Bool
  | .int i, .int j => some (decide (i = j))
  | .str i, .str j => some (decide (i = j))
  | .bool i, .bool j => some (decide (i = j))
  | .none, .none => some true
  | _, _ => none
def datOk (d : D) : Bool := SeqAt.shaped d && !hasDict d
def pEq : Pf2 := fun d e k => match simpEq d e with
  | some b => k (.fz (.bool b))
  | none => datOk d = true ∧ datOk e = true ∧ k (.fz (.bool (PyData.eqv d e)))
def pNe : Pf2 := fun d e k => match simpEq d e with
  | some b => k (.fz (.bool (!b)))
  | none => datOk d = true ∧ datOk e = true ∧ k (.fz (.bool (!PyData.eqv d e)))
theorem datOk_inv (h : datOk d = true) : SeqAt.shaped d = true ∧ hasDict d = false := by
  unfold datOk at h
  obtain ⟨h1, h2⟩ := Bool.and_eq_true_iff.mp h
  exact ⟨h1, by simpa using h2⟩
theorem simpEq_inv {b : Bool} (h : simpEq d e = some b) (vx : Vw K F H x d) (vy : Vw K F H y e) : scal x y = true ∧ decide (x = y) = b := by
  unfold simpEq at h
  split at h
  · cases vx; cases vy; cases h; exact ⟨rfl, by simp⟩
  · cases vx; cases vy; cases h; exact ⟨rfl, by simp⟩
  · cases vx; cases vy; cases h; exact ⟨rfl, by simp⟩
  · cases vx; cases vy; cases h; exact ⟨rfl, by simp⟩
  · cases h
theorem op_eqA {X : Cx} (hu : X.A.units + 64 < cLine) : OpR X (compareOp .Eq) (fun x y H Q => rEq x y H Q ∨ rEqD X.K x y H Q) := op_eq.or (op_eqD hu)
theorem op_neA {X : Cx} (hu : X.A.units + 64 < cLine) : OpR X (compareOp .NotEq) (fun x y H Q => rNe x y H Q ∨ rNeD X.K x y H Q) := op_ne.or (op_neD hu)
theorem r_eq : R2V K (fun x y H Q => rEq x y H Q ∨ rEqD K x y H Q) pEq := by
  intro F H x y d e Qp Q s vx vy h r
  unfold pEq at h
  split at h
  · rename_i b q
    obtain ⟨h1, h2⟩ := simpEq_inv q vx vy
    exact .inl ⟨h1, by rw [h2]; exact r.dat _ _ (.bl _) h⟩
  · obtain ⟨h1, h2, h3⟩ := h
    obtain ⟨a1, a2⟩ := datOk_inv h1
    obtain ⟨b1, b2⟩ := datOk_inv h2
    exact .inr ⟨d, e, vx.dp s a2, vy.dp s b2, a1, b1, r.dat _ _ (.bl _) h3⟩
theorem r_ne : R2V K (fun x y H Q => rNe x y H Q ∨ rNeD K x y H Q) pNe := by
  intro F H x y d e Qp Q s vx vy h r
  unfold pNe at h
  split at h
  · rename_i b q
    obtain ⟨h1, h2⟩ := simpEq_inv q vx vy
    exact .inl ⟨h1, by rw [h2]; exact r.dat _ _ (.bl _) h⟩
  · obtain ⟨h1, h2, h3⟩ := h
    obtain ⟨a1, a2⟩ := datOk_inv h1
    obtain ⟨b1, b2⟩ := datOk_inv h2
    exact .inr ⟨d, e, vx.dp s a2, vy.dp s b2, a1, b1, r.dat _ _ (.bl _) h3⟩
/-- in, not in -/
def inD (d : D) (ds : List D) : Bool := ds.any fun z => PyData.eqv z d
def flatD : D → Bool
  | .none | .bool _ | .int _ | .str _ => true
  | _ => false
def inC (d e : D) (k : Bool → Prop) : Prop := match d, e with
  | .str i, .str j => k (!(Builtin.Str.occurrences j i 0 j.length 1).isEmpty)
  | d, .list ds => datOk d = true ∧ datOk (.list ds) = true ∧ k (inD d ds)
  | d, .tuple ds => flatD d = true ∧ ds.all flatD = true ∧ k (inD d ds)
  | _, _ => False
def pIn : Pf2 := fun d e k => inC d e fun b => k (.fz (.bool b))
def pNotIn : Pf2 := fun d e k => inC d e fun b => k (.fz (.bool (!b)))
theorem flat_v (h : Fz K F x d) (f : flatD d = true) : flatV x = true := by
  cases h <;> first | rfl | cases f
theorem flat_vs : ∀ {xs : List V} {ds : List D}, FzL K F xs ds → ds.all flatD = true → xs.all flatV = true
  | _, _, .nil, _ => rfl
  | _, _, .cons h r, f => by
    rw [List.all_cons, Bool.and_eq_true_iff] at f
    rw [List.all_cons, Bool.and_eq_true_iff]
    exact ⟨flat_v h f.1, flat_vs r f.2⟩
theorem eqV_flat (h : Fz K F x d) (h' : Fz K F y e) (f : flatD d = true) (f' : flatD e = true) : eqV x y = PyData.eqv d e := by
  cases h <;> first | cases f | skip
  all_goals cases h' <;> first | cases f' | skip
  all_goals simp [eqV, PyData.eqv]
theorem in_flat (h : Fz K F x d) (f : flatD d = true) : ∀ {xs : List V} {ds : List D}, FzL K F xs ds → ds.all flatD = true → inV x xs = inD d ds
  | _, _, .nil, _ => rfl
  | _, _, .cons h' r, f' => by
    rw [List.all_cons, Bool.and_eq_true_iff] at f'
    have ih := in_flat h f r f'.2
    unfold inV inD at ih ⊢
    rw [List.any_cons, List.any_cons, ih, eqV_flat h' h f'.1 f]
theorem Vw.flat (h : Vw K F H x d) (f : flatD d = true) : Fz K F x d := by
  cases d with
  | none => cases h; exact .non
  | bool b => cases h; exact .bl b
  | int i => cases h; exact .int i
  | str z => cases h; exact .str z
  | _ => cases f
def rInA (K : Frag) : R2 := fun x y H Q => (∃ i j, x = .str i ∧ y = .str j ∧ Q (.bl (!(Builtin.Str.occurrences j i 0 j.length 1).isEmpty)) H) ∨ rInD K x y H Q ∨ rIn K false x y H Q
def rNotInA (K : Frag) : R2 := fun x y H Q => (∃ i j, x = .str i ∧ y = .str j ∧ Q (.bl (!(!(Builtin.Str.occurrences j i 0 j.length 1).isEmpty))) H) ∨ rNotInD K x y H Q ∨ rIn K true x y H Q
theorem op_inA {X : Cx} (hu : X.A.units + 65 < cLine) : OpR X (compareOp .In) (rInA X.K) := op_in_str.or ((op_inD hu).or op_in_seq)
theorem op_notInA {X : Cx} (hu : X.A.units + 65 < cLine) : OpR X (compareOp .NotIn) (rNotInA X.K) := op_notIn_str.or ((op_notInD hu).or op_notIn_seq)
theorem r_in : R2V K (rInA K) pIn := by
  intro F H x y d e Qp Q s vx vy h r
  unfold pIn inC at h
  split at h
  · cases vx; cases vy
    exact .inl ⟨_, _, rfl, rfl, r.dat _ _ (.bl _) h⟩
  · obtain ⟨h1, h2, h3⟩ := h
    obtain ⟨a1, a2⟩ := datOk_inv h1
    obtain ⟨b1, b2⟩ := datOk_inv h2
    exact .inr (.inl ⟨_, _, vx.dp s a2, vy.dp s b2, a1, b1, r.dat _ _ (.bl _) h3⟩)
  · obtain ⟨h1, h2, h3⟩ := h
    obtain ⟨a, xs, rfl, q1, q1', f1⟩ := vw_tup s vy
    have fx := vx.flat h1
    refine .inr (.inr ⟨a, xs, rfl, .inr q1, flat_v fx h1, flat_vs f1 h2, ?_⟩)
    rw [if_neg Bool.false_ne_true, in_flat fx h1 f1 h2]
    exact r.dat _ _ (.bl _) h3
  · exact h.elim
theorem r_notIn : R2V K (rNotInA K) pNotIn := by
  intro F H x y d e Qp Q s vx vy h r
  unfold pNotIn inC at h
  split at h
  · cases vx; cases vy
    exact .inl ⟨_, _, rfl, rfl, r.dat _ _ (.bl _) h⟩
  · obtain ⟨h1, h2, h3⟩ := h
    obtain ⟨a1, a2⟩ := datOk_inv h1
    obtain ⟨b1, b2⟩ := datOk_inv h2
    exact .inr (.inl ⟨_, _, vx.dp s a2, vy.dp s b2, a1, b1, r.dat _ _ (.bl _) h3⟩)
  · obtain ⟨h1, h2, h3⟩ := h
    obtain ⟨a, xs, rfl, q1, q1', f1⟩ := vw_tup s vy
    have fx := vx.flat h1
    refine .inr (.inr ⟨a, xs, rfl, .inr q1, flat_v fx h1, flat_vs f1 h2, ?_⟩)
    rw [if_pos rfl, in_flat fx h1 f1 h2]
    exact r.dat _ _ (.bl _) h3
  · exact h.elim
/-- is None -/
def isNone : D → Bool
  | .none => true
  | _ => false
def pIsN : Pf2 := fun d e k => match e with
  | .none => k (.fz (.bool (isNone d)))
  | _ => False
def pIsNotN : Pf2 := fun d e k => match e with
  | .none => k (.fz (.bool (!isNone d)))
  | _ => False
theorem vw_none (h : Vw K F H x d) : decide (x = .non) = isNone d := by
  cases d with
  | none => cases h; rfl
  | bool b => cases h; rfl
  | int i => cases h; rfl
  | str z => cases h; rfl
  | list ds => obtain ⟨a, xs, rfl, _⟩ := h; rfl
  | tuple ds =>
    have h : Fz K F x (.tuple ds) := h
    cases h; rfl
  | dict kvs => obtain ⟨a, xs, rfl, _⟩ := h; rfl
theorem r_isN : R2V K (fun x y H Q => y = .non ∧ Q (.bl (decide (x = .non))) H) pIsN := by
  intro F H x y d e Qp Q s vx vy h r
  unfold pIsN at h
  split at h
  · cases vy
    exact ⟨rfl, by rw [vw_none vx]; exact r.dat _ _ (.bl _) h⟩
  · exact h.elim
theorem r_isNotN : R2V K (fun x y H Q => y = .non ∧ Q (.bl (!decide (x = .non))) H) pIsNotN := by
  intro F H x y d e Qp Q s vx vy h r
  unfold pIsNotN at h
  split at h
  · cases vy
    exact ⟨rfl, by rw [vw_none vx]; exact r.dat _ _ (.bl _) h⟩
  · exact h.elim
/-- subscripts -/
def pIx : Pf2 := fun d e k => match d, e with
  | .list ds, .int i => optP (atI ds i) fun d => k (.fz d)
  | .tuple ds, .int i => optP (atI ds i) fun d => k (.fz d)
  | .str z, .int i => z.length ≤ sizeLine ∧ optP (atI z.cps.toList i) fun c => k (.fz (.str ⟨#[c]⟩))
  | _, _ => False
theorem FzL.atI {xs : List V} {ds : List D} {i : Int} (r : FzL K F xs ds) (h : L2.atI ds i = some d) : ∃ v, L2.atI xs i = some v ∧ Fz K F v d := by
  unfold L2.atI at h ⊢
  rw [r.length]
  cases e : ixN ds.length i with
  | none => rw [e] at h; cases h
  | some j => rw [e] at h; exact r.get h
theorem r_ix : R2V K (rIx K) pIx := by
  intro F H x y d e Qp Q s vx vy h r
  unfold pIx at h
  split at h
  · cases vy
    obtain ⟨a, xs, rfl, h1, f1⟩ := vx
    obtain ⟨d', q, h⟩ := optP_inv h
    obtain ⟨v, g1, g2⟩ := f1.atI q
    exact .inl ⟨a, xs, _, v, rfl, rfl, SqL.of h1, g1, r.dat _ _ g2 h⟩
  · cases vy
    obtain ⟨a, xs, rfl, h1, h1', f1⟩ := vw_tup s vx
    obtain ⟨d', q, h⟩ := optP_inv h
    obtain ⟨v, g1, g2⟩ := f1.atI q
    exact .inr (.inl ⟨a, xs, _, v, rfl, rfl, h1, g1, r.dat _ _ g2 h⟩)
  · cases vx; cases vy
    obtain ⟨hz, h⟩ := h
    obtain ⟨c, q, h⟩ := optP_inv h
    exact .inr (.inr ⟨_, _, c, rfl, rfl, hz, q, r.dat _ _ (.str _) h⟩)
  · exact h.elim
/-- built-in calls -/
def pLen : PfL := fun ds k => match ds with
  | [.list xs] => k (.fz (.int xs.length))
  | [.tuple xs] => k (.fz (.int xs.length))
  | [.str x] => x.length ≤ sizeLine ∧ k (.fz (.int x.length))
  | _ => False
theorem r_len : RLV K (fun xs H Q => ∃ x n, xs = [x] ∧ LenV K x H n ∧ Q (.int n) H) pLen := by
  intro F H xs ds Qp Q s vs h r
  unfold pLen at h
  split at h
  · cases vs with
    | cons v w =>
      cases w
      obtain ⟨a, ys, rfl, h1, f1⟩ := v
      exact ⟨_, ys.length, rfl, .inl ⟨ys, SqL.of h1, rfl⟩, by rw [f1.length]; exact r.dat _ _ (.int _) h⟩
  · cases vs with
    | cons v w =>
      cases w
      obtain ⟨a, ys, rfl, h1, h1', f1⟩ := vw_tup s v
      exact ⟨_, ys.length, rfl, .inr ⟨ys, h1, rfl⟩, by rw [f1.length]; exact r.dat _ _ (.int _) h⟩
  · cases vs with
    | cons v w =>
      cases w
      cases v
      exact ⟨_, _, rfl, ⟨h.1, rfl⟩, r.dat _ _ (.int _) h.2⟩
  · exact h.elim
def pStr : PfL := fun ds k => match ds with
  | [.int i] => i.natAbs.log2 < 1920 ∧ k (.fz (.str (toString i)))
  | _ => False
theorem r_str : RLV K (fun xs H Q => ∃ i, xs = [.int i] ∧ i.natAbs.log2 < 1920 ∧ Q (.str (toString i)) H) pStr := by
  intro F H xs ds Qp Q s vs h r
  unfold pStr at h
  split at h
  · cases vs with
    | cons v w => cases w; cases v; exact ⟨_, rfl, h.1, r.dat _ _ (.str _) h.2⟩
  · exact h.elim
def pInt : PfL := fun ds k => match ds with
  | [.int i] => k (.fz (.int i))
  | [.bool b] => k (.fz (.int (if b then 1 else 0)))
  | [.str a] => optP (PySem.intText? a) fun n => a.length ≤ 640 ∧ k (.fz (.int n))
  | _ => False
def rIntA : List V → Hp → VK → Prop := fun xs H Q => ((∃ i, xs = [.int i] ∧ Q (.int i) H) ∨ ∃ k, xs = [.bl k] ∧ Q (.int (if k then 1 else 0)) H) ∨ ∃ a n, xs = [.str a] ∧ PySem.intText? a = some n ∧ a.length ≤ 640 ∧ Q (.int n) H
theorem call_intA {X : Cx} : CallR X (.type "int") rIntA := call_int1.or call_int_str
theorem r_int : RLV K rIntA pInt := by
  intro F H xs ds Qp Q s vs h r
  unfold pInt at h
  split at h
  · cases vs with
    | cons v w => cases w; cases v; exact .inl (.inl ⟨_, rfl, r.dat _ _ (.int _) h⟩)
  · cases vs with
    | cons v w => cases w; cases v; exact .inl (.inr ⟨_, rfl, r.dat _ _ (.int _) h⟩)
  · cases vs with
    | cons v w =>
      cases w; cases v
      obtain ⟨n, q, h⟩ := optP_inv h
      exact .inr ⟨_, n, rfl, q, h.1, r.dat _ _ (.int _) h.2⟩
  · exact h.elim
def pMin2 : PfL := fun ds k => match ds with
  | [.int i, .int j] => k (.fz (.int (if j < i then j else i)))
  | _ => False
def pMax2 : PfL := fun ds k => match ds with
  | [.int i, .int j] => k (.fz (.int (if j > i then j else i)))
  | _ => False
theorem vwl2 {xs : List V} {i j : Int} (h : VwL K F H xs [.int i, .int j]) : xs = [.int i, .int j] := by
  cases h with
  | cons v w => cases w with
    | cons v' w' => cases w'; cases v; cases v'; rfl
theorem r_min2 : RLV K (fun xs H Q => ∃ i j, xs = [.int i, .int j] ∧ Q (.int (if j < i then j else i)) H) pMin2 := by
  intro F H xs ds Qp Q s vs h r
  unfold pMin2 at h
  split at h
  · exact ⟨_, _, vwl2 vs, r.dat _ _ (.int _) h⟩
  · exact h.elim
theorem r_max2 : RLV K (fun xs H Q => ∃ i j, xs = [.int i, .int j] ∧ Q (.int (if j > i then j else i)) H) pMax2 := by
  intro F H xs ds Qp Q s vs h r
  unfold pMax2 at h
  split at h
  · exact ⟨_, _, vwl2 vs, r.dat _ _ (.int _) h⟩
  · exact h.elim
def pList : PfL := fun ds k => match ds with
  | [.list xs] => k (.ls xs)
  | [.tuple xs] => k (.ls xs)
  | _ => False
theorem r_list : RLV K (fun xs H Q => ∃ p ys, xs = [.ref p] ∧ (SqL K H p ys ∨ SqT K H p ys) ∧ ∀ l, H l = none → Q (.ref l) (upd H l (.lst ys))) pList := by
  intro F H xs ds Qp Q s vs h r
  unfold pList at h
  split at h
  · cases vs with
    | cons v w =>
      cases w
      obtain ⟨a, ys, rfl, h1, f1⟩ := v
      exact ⟨a, ys, rfl, .inl (SqL.of h1), fun l hl => r.lst l _ _ hl f1 h⟩
  · cases vs with
    | cons v w =>
      cases w
      obtain ⟨a, ys, rfl, h1, h1', f1⟩ := vw_tup s v
      exact ⟨a, ys, rfl, .inr h1, fun l hl => r.lst l _ _ hl f1 h⟩
  · exact h.elim
def pTuple : PfL := fun ds k => match ds with
  | [.list xs] => k (.fz (.tuple xs))
  | [.tuple xs] => k (.fz (.tuple xs))
  | _ => False
theorem r_tuple : RLV K (fun xs H Q => ∃ p ys, xs = [.ref p] ∧ ((SqL K H p ys ∧ ∀ l, H l = none → Q (.ref l) (upd H l (.tup ys))) ∨ (SqT K H p ys ∧ Q (.ref p) H))) pTuple := by
  intro F H xs ds Qp Q s vs h r
  unfold pTuple at h
  split at h
  · cases vs with
    | cons v w =>
      cases w
      obtain ⟨a, ys, rfl, h1, f1⟩ := v
      exact ⟨a, ys, rfl, .inl ⟨SqL.of h1, fun l hl => r.tup l _ _ hl f1 h⟩⟩
  · cases vs with
    | cons v w =>
      cases w
      obtain ⟨a, ys, rfl, h1, h1', f1⟩ := vw_tup s v
      exact ⟨a, ys, rfl, .inr ⟨h1, r.dat _ _ (.tup h1' f1) h⟩⟩
  · exact h.elim
end
end P

set_option Elab.async false
set_option linter.all false
set_option maxRecDepth 100000
set_option maxHeartbeats 4000000
/-! The P-layer, 7: truth, subscripts, slices, methods, owned lists changed, dicts, unpacking. -/
namespace P
open PySem L2
/-! ### truth -/
def truD : D → (Bool → Prop) → Prop
  | .none, k => k false
  | .bool b, k => k b
  | .int i, k => k (i != 0)
  | .str x, k => x.length ≤ sizeLine ∧ k ((x.length : Int) != 0)
  | .list xs, k => k (!xs.isEmpty)
  | .tuple xs, k => k (!xs.isEmpty)
  | .dict kvs, k => k (!kvs.isEmpty)
def withV (ρ : PEnv) (c : C) (k : D → Prop) : Prop := match dat ρ (settle c) with
  | some d => k d
  | none => False
theorem withV_inv {ρ : PEnv} {c : C} {k : D → Prop} (h : withV ρ c k) : ∃ d, dat ρ (settle c) = some d ∧ k d := by
  unfold withV at h
  split at h
  · exact ⟨_, ‹_›, h⟩
  · exact h.elim
def gTru (g : G) : GT := fun ρ Q Ep => g ρ (fun c ρ' => withV ρ' c fun d => truD d fun b => Q b ρ') Ep
theorem fzd_empty {K : Frag} {F : Hp} : ∀ {ws : List (Key × V)} {kvs : List (D × D)}, FzD K F ws kvs → ws.isEmpty = kvs.isEmpty
  | _, _, .nil => rfl
  | _, _, .cons _ _ => rfl
theorem fzl_empty {K : Frag} {F : Hp} : ∀ {ws : List V} {kvs : List D}, FzL K F ws kvs → ws.isEmpty = kvs.isEmpty
  | _, _, .nil => rfl
  | _, _, .cons _ _ => rfl
section
variable {X : Cx} {E : XK}
theorem tru_v {K : Frag} {F H : Hp} {x : V} {d : D} {k : Bool → Prop} (s : Same F H) (v : Vw K F H x d) (h : truD d k) : ∃ b, TruV K x H b ∧ k b := by
  cases d with
  | none => cases v; exact ⟨false, rfl, h⟩
  | bool b => cases v; exact ⟨b, rfl, h⟩
  | int i => cases v; exact ⟨_, rfl, h⟩
  | str z => cases v; exact ⟨_, ⟨h.1, rfl⟩, h.2⟩
  | list xs =>
    obtain ⟨a, ys, rfl, h1, f⟩ := v
    exact ⟨_, .inl ⟨ys, SqL.of h1, by rw [fzl_empty f]⟩, h⟩
  | tuple xs =>
    obtain ⟨a, ys, rfl, h1, h1', f⟩ := vw_tup s v
    exact ⟨_, .inr (.inl ⟨ys, h1, by rw [fzl_empty f]⟩), h⟩
  | dict kvs =>
    obtain ⟨a, ws, rfl, h1, f⟩ := v
    exact ⟨_, .inr (.inr ⟨ws, h1, by rw [fzd_empty f]⟩), h⟩
end
/-! ### parts of a slice -/
abbrev GO := PEnv → (Option Int → PEnv → Prop) → (Ex → Prop) → Prop
def goNone : GO := fun ρ Q _ => Q none ρ
def goSome (g : G) : GO := fun ρ Q Ep => g ρ (fun c ρ' => match c with
  | .fz (.int i) => Q (some i) ρ'
  | _ => False) Ep
def dnO (K : Frag) (E : XK) (g : GO) : TO := fun σ H Q => ∃ (B : Box) (ρ : PEnv) (F : Hp) (own : Own) (Qp : Option Int → PEnv → Prop) (Ep : Ex → Prop), B.K = K ∧ Ok B ρ σ H F own ∧ g ρ Qp Ep ∧ ExL E B Ep ∧
  ∀ i ρ' H' F' own', Ok B ρ' σ H' F' own' → Same F F' → Qp i ρ' → Q i H'
theorem po_weak {X : Cx} {e : Option Expr} {t t' : TO} (h : PO X e t) (i : ∀ σ H Q, t' σ H Q → t σ H Q) : PO X e t' := ⟨fun pins s σ H Q I q => h.run pins s σ H Q I (i _ _ _ q)⟩
section
variable {X : Cx} {E : XK}
theorem go_none : PO X none (dnO X.K E goNone) := po_weak po_none fun σ H Q ⟨B, ρ, F, own, Qp, Ep, hK, ok, h, lx, k⟩ => k none ρ H F own ok (Same.refl _) h
theorem go_some {e : Expr} {g : G} (h : GE X E e g) : PO X (some e) (dnO X.K E (goSome g)) :=
  po_weak (po_some h) fun σ H Q ⟨B, ρ, F, own, Qp, Ep, hK, ok, h, lx, k⟩ => ⟨B, ρ, F, own, _, Ep, hK, ok, h, lx, fun c ρ' v H' F' own' ok' r s q => by
    split at q
    · rename_i i
      have r : Fz B.K F' v (.int i) := r
      cases r
      exact ⟨i, rfl, k (some i) ρ' H' F' own' ok' s q⟩
    · exact q.elim⟩
def cutD (xs : List D) (lo hi : Option Int) : List D := (xs.drop (HT.sIx xs.length 0 lo)).take (HT.sIx xs.length xs.length hi - HT.sIx xs.length 0 lo)
def pSl (d : D) (lo hi : Option Int) (k : C → Prop) : Prop := match d with
  | .list xs => k (.ls (cutD xs lo hi))
  | .tuple xs => k (.fz (.tuple (cutD xs lo hi)))
  | .str z => z.length ≤ sizeLine ∧ k (.fz (.str (cutS z lo hi)))
  | _ => False
def rSlAll (K : Frag) : V → Option Int → Option Int → Hp → VK → Prop := fun x lo hi H Q => rSlL K x lo hi H Q ∨ rSlA K x lo hi H Q ∨ rSlS x lo hi H Q
theorem sl_all : SlR X (rSlAll X.K) := sl_list.or (sl_tupA.or sl_str)
theorem cut_fz {K : Frag} {F : Hp} {xs : List V} {ds : List D} (f : FzL K F xs ds) (lo hi : Option Int) : FzL K F (cutV xs lo hi) (cutD ds lo hi) := by
  unfold cutV cutD
  rw [f.length]
  exact (f.drop _).take _
theorem r_sl {K : Frag} {F H : Hp} {x : V} {d : D} {lo hi : Option Int} {Qp : C → Prop} {Q : VK} (s : Same F H) (v : Vw K F H x d) (h : pSl d lo hi Qp) (r : Res K F H Qp Q) : rSlAll K x lo hi H Q := by
  unfold pSl at h
  split at h
  · obtain ⟨a, ys, rfl, h1, f⟩ := v
    exact .inl ⟨a, ys, rfl, SqL.of h1, fun p hp => r.lst p _ _ hp (cut_fz f lo hi) h⟩
  · obtain ⟨a, ys, rfl, h1, h1', f⟩ := vw_tup s v
    refine .inr (.inl ⟨a, ys, rfl, h1, fun e => ?_, fun _ p hp => r.tup p _ _ hp (cut_fz f lo hi) h⟩)
    refine r.dat _ _ v ?_
    rw [f.length] at e
    rename_i xs
    have : cutD xs lo hi = xs := by
      unfold cutD
      rw [e.1, e.2]; simp
    rw [this] at h; exact h
  · cases v
    exact .inr (.inr ⟨_, rfl, h.1, r.dat _ _ (.str _) h.2⟩)
  · exact h.elim
def gSl (g : G) (lo hi : GO) : G := fun ρ Q Ep => g ρ (fun c ρ1 => lo ρ1 (fun l ρ2 => hi ρ2 (fun u ρ3 => withV ρ3 (settle c) fun d => pSl d l u fun r => Q r ρ3) Ep) Ep) Ep
theorem settle_settle (c : C) : settle (settle c) = settle c := by cases c <;> rfl
theorem ge_sl {e : Expr} {lo hi : Option Expr} {g : G} {gl gh : GO} {pos p2 : Pos} (he : GE X E e g) (hl : PO X lo (dnO X.K E gl)) (hu : PO X hi (dnO X.K E gh)) : GE X E (.Subscript e (.Slice lo hi none p2) pos) (gSl g gl gh) :=
  pe_weak (pe_slice sl_all he hl hu) fun σ H Q ⟨B, ρ, F, own, Qp, Ep, hK, ok, h, lx, k⟩ => by
    refine ⟨B, ρ, F, own, _, Ep, hK, ok, h, lx, fun c ρ1 x H1 F1 own1 ok1 r1 s1 q1 => ?_⟩
    obtain ⟨F1', own1', ok1', s1', r1'⟩ := settle_ok ok1 r1
    refine ⟨B, ρ1, F1', own1', _, Ep, hK, ok1', q1, lx, fun l ρ2 H2 F2 own2 ok2 s2 q2 => ?_⟩
    refine ⟨B, ρ2, F2, own2, _, Ep, hK, ok2, q2, lx, fun u ρ3 H3 F3 own3 ok3 s3 q3 => ?_⟩
    obtain ⟨d, e1, q⟩ := withV_inv q3
    rw [settle_settle] at e1
    have r3 := (r1'.carry (H' := H3) (s2.trans s3))
    rw [← hK]
    exact r_sl ok3.sub (r3.vw ok3 e1) q (res_of ok3 fun c v H' F' own' ok' rp s q => k c ρ3 v H' F' own' ok' rp (((s1.trans s1').trans (s2.trans s3)).trans s) q)
theorem ge_ix {a b : Expr} {ga gb : G} {pos : Pos} (ha : GE X E a ga) (hb : GE X E b gb) (hs : PlainIx b) : GE X E (.Subscript a b pos) (gOp2 pIx ga gb) :=
  pe_weak (pe_ix ix_seq ha hb hs) fun _ _ _ h => dn2 r_ix h
theorem gt_tru {e : Expr} {g : G} (ha : GE X E e g) (he : ∀ whole, isTrue e X.env whole = (do let v ← whole; standAt e.pos; holding [v] (truthy v)) := by intro _; rfl) : GTe X E e (gTru g) :=
  pt_weak (pt_truth ha he) fun σ H Q ⟨B, ρ, F, own, Qp, Ep, hK, ok, h, lx, k⟩ => by
    refine ⟨B, ρ, F, own, _, Ep, hK, ok, h, lx, fun c ρ1 x H1 F1 own1 ok1 r1 s1 q1 => ?_⟩
    obtain ⟨F1', own1', ok1', s1', r1'⟩ := settle_ok ok1 r1
    obtain ⟨d, e1, q⟩ := withV_inv q1
    obtain ⟨b, t, q⟩ := tru_v ok1'.sub (r1'.vw ok1' e1) q
    exact ⟨b, by rw [← hK]; exact t, k b ρ1 H1 F1' own1' ok1' (s1.trans s1') q⟩
/-! ### methods of texts -/
def isStrC : C → Prop
  | .fz (.str _) => True
  | _ => False
def gM1 (pf : Pf2) (ga gb : G) : G := fun ρ Q Ep => ga ρ (fun c1 ρ1 => isStrC c1 ∧ gb ρ1 (fun c2 ρ2 => op2 pf c1 (settle c2) ρ2 fun r => Q r ρ2) Ep) Ep
theorem dnM1 {r : V → List V → Hp → VK → Prop} {pf : Pf2} {ga gb : G} (hr : R2V X.K (fun x y H Q => r x [y] H Q) pf) {σ : St} {H : Hp} {Q : VK} (h : dnE X.K E (gM1 pf ga gb) σ H Q) : tM1 r (dnE X.K E ga) (dnE X.K E gb) σ H Q := by
  obtain ⟨B, ρ, F, own, Qp, Ep, hK, ok, h, lx, k⟩ := h
  refine ⟨B, ρ, F, own, _, Ep, hK, ok, h, lx, fun c1 ρ1 x H1 F1 own1 ok1 r1 s1 q1 => ?_⟩
  obtain ⟨is, q1⟩ := q1
  unfold isStrC at is
  split at is
  · rename_i z
    have r1 : Fz B.K F1 x (.str z) := r1
    cases r1
    refine ⟨⟨z, rfl⟩, B, ρ1, F1, own1, _, Ep, hK, ok1, q1, lx, fun c2 ρ2 y H2 F2 own2 ok2 r2 s2 q2 => ?_⟩
    obtain ⟨F2', own2', ok2', s2', r2'⟩ := settle_ok ok2 r2
    exact op2_ok (r := fun x y H Q => r x [y] H Q) (own1 := fun _ => none) (x := .str z) (by rw [hK]; exact hr) ok2' (show RepT B.K B.a0 F2' H2 _ _ (.fz (.str z)) (.str z) from Fz.str z) r2' q2 fun c v H' F' own' ok' rp s q => k c ρ2 v H' F' own' ok' rp (s1.trans ((s2.trans s2').trans s)) q
  · exact is.elim
def pSplit : Pf2 := fun d e k => match d, e with
  | .str a, .str b => (b.length == 0) = false ∧ a.length + 2 ≤ sizeLine ∧ k (.ls ((Txt.split a b).map .str))
  | _, _ => False
def strsD : List D → Option (List Str)
  | [] => some []
  | .str x :: ds => match strsD ds with
    | some xs => some (x :: xs)
    | none => none
  | _ => none
theorem strsD_eq : ∀ {ds : List D} {xs : List Str}, strsD ds = some xs → ds = xs.map .str
  | [], _, h => by cases h; rfl
  | .str x :: ds, xs, h => by
    unfold strsD at h
    split at h
    · rename_i ys q
      cases h
      rw [strsD_eq q]; rfl
    · cases h
  | .none :: _, _, h => by cases h
  | .bool _ :: _, _, h => by cases h
  | .int _ :: _, _, h => by cases h
  | .list _ :: _, _, h => by cases h
  | .tuple _ :: _, _, h => by cases h
  | .dict _ :: _, _, h => by cases h
theorem strsD_map : ∀ xs : List Str, strsD (xs.map .str) = some xs
  | [] => rfl
  | x :: xs => by
    show (match strsD (xs.map .str) with | some ys => some (x :: ys) | none => none) = _
    rw [strsD_map xs]
def joinC (a : Str) (ds : List D) (k : C → Prop) : Prop := match strsD ds with
  | some ys => (ys.map (·.length)).sum + ys.length * a.length ≤ 16777216 ∧ k (.fz (.str (Txt.join a ys)))
  | none => False
def pJoin : Pf2 := fun d e k => match d, e with
  | .str a, .list ds => joinC a ds k
  | .str a, .tuple ds => joinC a ds k
  | _, _ => False
theorem ge_split {o e : Expr} {ga gb : G} {apos pos : Pos} (ho : GE X E o ga) (he : GE X E e gb) (hs : starEach [e] X.env = [(false, eval e X.env)] := by rfl) (hbase : attributeBase o "split" X.env (eval o X.env) = eval o X.env := by rfl) (hline : (apos.endLine == pos.line) = true := by rfl) :
    GE X E (.Call (.Attribute o "split" apos) [e] [] pos) (gM1 pSplit ga gb) :=
  pe_weak (pe_split ho he hs hbase hline) fun _ _ _ h => dnM1 (fun F H x y d e Qp Q s vx vy h r => by
    unfold pSplit at h
    split at h
    · cases vx; cases vy
      exact ⟨_, _, rfl, rfl, h.1, h.2.1, fun p hp => r.lst p _ _ hp (FzL.of_strs _) h.2.2⟩
    · exact h.elim) h
theorem ge_join {o e : Expr} {ga gb : G} {apos pos : Pos} (ho : GE X E o ga) (he : GE X E e gb) (hs : starEach [e] X.env = [(false, eval e X.env)] := by rfl) (hbase : attributeBase o "join" X.env (eval o X.env) = eval o X.env := by rfl) (hline : (apos.endLine == pos.line) = true := by rfl) :
    GE X E (.Call (.Attribute o "join" apos) [e] [] pos) (gM1 pJoin ga gb) :=
  pe_weak (pe_join ho he hs hbase hline) fun _ _ _ h => dnM1 (fun F H x y d e Qp Q s vx vy h r => by
    unfold pJoin joinC at h
    split at h
    · cases vx
      obtain ⟨a, xs, rfl, h1, f⟩ := vy
      split at h
      · rename_i ys q
        have e1 := strsD_eq q
        subst e1
        rw [f.strs] at h1
        exact ⟨_, a, ys, rfl, rfl, .inl (SqL.of h1), h.1, r.dat _ _ (.str _) h.2⟩
      · exact h.elim
    · cases vx
      obtain ⟨a, xs, rfl, h1, h1', f⟩ := vw_tup s vy
      split at h
      · rename_i ys q
        have e1 := strsD_eq q
        subst e1
        rw [f.strs] at h1
        exact ⟨_, a, ys, rfl, rfl, .inr h1, h.1, r.dat _ _ (.str _) h.2⟩
      · exact h.elim
    · exact h.elim) h
end
/-! ### owned lists that change -/
section
variable {B : Box} {ρ : PEnv} {σ : St} {H F : Hp} {own : Own}
theorem ls_at (ok : Ok B ρ σ H F own) {i : Nat} {ds : List D} (e : ρ[i]? = some (some (.ls ds))) : ∃ a vs, σ[i]? = some (some (.ref a)) ∧ H a = some (.lst vs) ∧ own a = some (some i, 0) ∧ FzL B.K F vs ds := by
  obtain ⟨v, h1, a, vs, rfl, h2, h3, h4⟩ := ok.slot i _ e
  exact ⟨a, vs, h1, h2, h3, h4⟩
theorem ls_upd (ok : Ok B ρ σ H F own) {i : Nat} {a : Addr} {vs' : List V} {ds' : List D} (hs : σ[i]? = some (some (.ref a))) (ho : own a = some (some i, 0)) (f : FzL B.K F vs' ds') : Ok B (ρ.set i (some (.ls ds'))) σ (upd H a (.lst vs')) F own :=
  ok.write ho (by rw [List.length_set]) fun j c e => by
    rcases set_get e with ⟨rfl, z, _⟩ | ⟨hj, z⟩
    · cases z
      exact .inr ⟨_, hs, a, vs', rfl, upd_same, ho, f⟩
    · exact .inl ⟨fun q => hj (Option.some.inj q), z⟩
end
def ownL? (ρ : PEnv) (i : Nat) : Prop := match ρ[i]? with
  | some (some (.ls _)) => True
  | _ => False
theorem ownL_inv {ρ : PEnv} {i : Nat} (h : ownL? ρ i) : ∃ ds, ρ[i]? = some (some (.ls ds)) := by
  unfold ownL? at h
  split at h
  · exact ⟨_, ‹_›⟩
  · exact h.elim
def lsAt (ρ : PEnv) (i : Nat) (k : List D → Prop) : Prop := match ρ[i]? with
  | some (some (.ls ds)) => k ds
  | _ => False
theorem lsAt_inv {ρ : PEnv} {i : Nat} {k : List D → Prop} (h : lsAt ρ i k) : ∃ ds, ρ[i]? = some (some (.ls ds)) ∧ k ds := by
  unfold lsAt at h
  split at h
  · exact ⟨_, ‹_›, h⟩
  · exact h.elim
def gApp (i : Nat) (ga : GA) : G := fun ρ Q Ep => ownL? ρ i ∧ ga ρ (fun cs ρ1 => withD ρ1 cs fun ds ρ2 => match ds with
  | [d] => lsAt ρ2 i fun xs => xs.length < sizeLine ∧ Q (.fz .none) (ρ2.set i (some (.ls (xs ++ [d]))))
  | _ => False) Ep
def gPopAt (i : Nat) (ga : GA) : G := fun ρ Q Ep => ownL? ρ i ∧ ga ρ (fun cs ρ1 => match cs with
  | [.fz (.int k)] => lsAt ρ1 i fun xs => (-(2 ^ 63) ≤ k ∧ k < 2 ^ 63) ∧ optP (ixN xs.length k) fun j => optP xs[j]? fun d => Q (.fz d) (ρ1.set i (some (.ls (xs.eraseIdx j))))
  | _ => False) Ep
def gPop (i : Nat) : G := fun ρ Q _ => lsAt ρ i fun xs => optP xs[xs.length - 1]? fun d => Q (.fz d) (ρ.set i (some (.ls xs.dropLast)))
section
variable {X : Cx} {E : XK}
theorem ge_app {i : Nat} {e : Expr} {o : Expr} {ga : GA} {apos pos : Pos} (ho : PE X o (L2.tVar i)) (ha : GAe X E [e] ga)
    (hh : ∀ {to : TE} {t : TA}, PE X o to → PA X [e] t → PE X (.Call (.Attribute o "append" apos) [e] [] pos) (tBM X.K "list" rAppend to t)) : GE X E (.Call (.Attribute o "append" apos) [e] [] pos) (gApp i ga) :=
  pe_weak (hh ho ha) fun σ H Q ⟨B, ρ, F, own, Qp, Ep, hK, ok, h, lx, k⟩ => by
    obtain ⟨hl, h⟩ := h
    obtain ⟨ds0, e0⟩ := ownL_inv hl
    obtain ⟨a, vs0, g1, g2, g3, g4⟩ := ls_at ok e0
    refine ⟨.ref a, g1, .inl ⟨rfl, vs0, SqL.of g2⟩, B, ρ, F, own, _, Ep, hK, ok, h, lx, fun cs ρ1 vs H1 F1 own1 ok1 r1 s1 q1 => ?_⟩
    obtain ⟨ds, e1, q⟩ := withD_inv q1
    obtain ⟨F2, own2, ok2, s2, z⟩ := frzL_ok ok1 r1 (allD_clean e1)
    have fz := allD_fz e1 z
    split at q
    · rename_i d
      obtain ⟨xs, e2, hz, q⟩ := lsAt_inv q
      obtain ⟨a', vs', j1, j2, j3, j4⟩ := ls_at ok2 e2
      rw [g1] at j1
      cases j1
      cases fz with
      | cons fd fn =>
        cases fn
        refine ⟨a, vs', _, rfl, rfl, j2, by rw [j4.length]; exact hz, ?_⟩
        exact k (.fz .none) _ .non _ F2 own2 (ls_upd ok2 g1 j3 (j4.append (.one fd))) Fz.non (s1.trans s2) q
    · exact q.elim
theorem ixN_seq' {n : Nat} {i : Int} {j : Nat} (h : ixN n i = some j) : seqIndex? i n = some j := (ixN_seq h).1
theorem ge_popAt {i : Nat} {e : Expr} {o : Expr} {ga : GA} {apos pos : Pos} (ho : PE X o (L2.tVar i)) (ha : GAe X E [e] ga)
    (hh : ∀ {to : TE} {t : TA}, PE X o to → PA X [e] t → PE X (.Call (.Attribute o "pop" apos) [e] [] pos) (tBM X.K "list" rPopAt to t)) : GE X E (.Call (.Attribute o "pop" apos) [e] [] pos) (gPopAt i ga) :=
  pe_weak (hh ho ha) fun σ H Q ⟨B, ρ, F, own, Qp, Ep, hK, ok, h, lx, k⟩ => by
    obtain ⟨hl, h⟩ := h
    obtain ⟨ds0, e0⟩ := ownL_inv hl
    obtain ⟨a, vs0, g1, g2, g3, g4⟩ := ls_at ok e0
    refine ⟨.ref a, g1, .inl ⟨rfl, vs0, SqL.of g2⟩, B, ρ, F, own, _, Ep, hK, ok, h, lx, fun cs ρ1 vs H1 F1 own1 ok1 r1 s1 q1 => ?_⟩
    split at q1
    · rename_i kk
      cases r1 with
      | cons f r =>
        cases r
        have f : Fz B.K F1 _ (.int kk) := f
        cases f
        obtain ⟨xs, e2, ⟨b1, b2⟩, q⟩ := lsAt_inv q1
        obtain ⟨a', vs', j1, j2, j3, j4⟩ := ls_at ok1 e2
        rw [g1] at j1
        cases j1
        obtain ⟨j, ej, q⟩ := optP_inv q
        obtain ⟨d, ed, q⟩ := optP_inv q
        obtain ⟨v, hv, fd⟩ := j4.get ed
        refine ⟨a, vs', kk, j, v, rfl, rfl, j2, b1, b2, by rw [j4.length]; exact ixN_seq' ej, hv, ?_⟩
        exact k (.fz d) _ v _ F1 own1 (ls_upd ok1 g1 j3 (j4.eraseIdx j)) fd s1 q
    · exact q1.elim
theorem ge_pop {i : Nat} {o : Expr} {apos pos : Pos} (ho : PE X o (L2.tVar i))
    (hh : ∀ {to : TE}, PE X o to → PE X (.Call (.Attribute o "pop" apos) [] [] pos) (tBM0 X.K "list" rPop to)) : GE X E (.Call (.Attribute o "pop" apos) [] [] pos) (gPop i) :=
  pe_weak (hh ho) fun σ H Q ⟨B, ρ, F, own, Qp, Ep, hK, ok, h, lx, k⟩ => by
    obtain ⟨xs, e0, q⟩ := lsAt_inv h
    obtain ⟨a, vs0, g1, g2, g3, g4⟩ := ls_at ok e0
    obtain ⟨d, ed, q⟩ := optP_inv q
    obtain ⟨v, hv, fd⟩ := g4.get ed
    refine ⟨.ref a, g1, .inl ⟨rfl, vs0, SqL.of g2⟩, a, vs0, v, rfl, rfl, g2, by rw [g4.length]; exact hv, ?_⟩
    exact k (.fz d) _ v _ F own (ls_upd ok g1 g3 g4.dropLast) fd (Same.refl _) q
/-- x[i] = e of an owned list -/
def sSetIx (i : Nat) (gv gi : G) : S := fun ρ D => gv ρ (fun cv ρ1 => withD ρ1 [settle cv] fun ds ρ2 => match ds with
  | [d] => ownL? ρ2 i ∧ gi ρ2 (fun ci ρ3 => match ci with
    | .fz (.int k) => lsAt ρ3 i fun xs => optP (ixN xs.length k) fun j => D.nx (ρ3.set i (some (.ls (xs.set j d))))
    | _ => False) D.ex
  | _ => False) D.ex
theorem val_one {B : Box} {ρ : PEnv} {σ : St} {H F : Hp} {own : Own} {c : C} {v : V} {k : List D → PEnv → Prop} (ok : Ok B ρ σ H F own) (r : RepT B.K B.a0 F H own σ c v) (h : withD ρ [settle c] k) : ∃ d ρ' F' own', Ok B ρ' σ H F' own' ∧ Same F F' ∧ Fz B.K F' v d ∧ k [d] ρ' := by
  obtain ⟨F2, own2, ok2, s2, r2⟩ := settle_ok ok r
  obtain ⟨ds, e, q⟩ := withD_inv h
  obtain ⟨F3, own3, ok3, s3, z⟩ := frzL_ok ok2 (.cons r2 .nil) (allD_clean e)
  have fz := allD_fz e z
  cases fz with
  | cons f n =>
    cases n
    exact ⟨_, _, F3, own3, ok3, s2.trans s3, f, q⟩
theorem gt_setIx {i : Nat} {o ix e : Expr} {gv gi : G} {pos p2 : Pos} (ho : PE X o (L2.tVar i)) (hi : GE X E ix gi) (hv : GE X E e gv)
    (hs : swapsWithSole [.Subscript o ix p2] e pos.line X.env = pure false := by rfl) (hw : swappedStores [.Subscript o ix p2] e X.env = pure none := by rfl) (hg : ∀ {to ti : TE}, PE X o to → PE X ix ti → PG X (.Subscript o ix p2) (L2.gSub to ti rSetL)) : GSt X E (.Assign [.Subscript o ix p2] e pos) (sSetIx i gv gi) :=
  ps_weak (ps_asg hv (hg ho hi) hs hw) fun Dn σ H ⟨B, ρ, F, own, Dp, hK, ok, h, lx, l1, l2, l3, l4⟩ => by
    refine ⟨B, ρ, F, own, _, Dp.ex, hK, ok, h, lx, fun cv ρ1 v H1 F1 own1 ok1 r1 s1 q1 => ?_⟩
    obtain ⟨d, ρ2, F2, own2, ok2, s2, fd, q2⟩ := val_one ok1 r1 q1
    obtain ⟨hl, q2⟩ := q2
    obtain ⟨ds0, e0⟩ := ownL_inv hl
    obtain ⟨a, vs0, g1, g2, g3, g4⟩ := ls_at ok2 e0
    refine ⟨.ref a, g1, B, ρ2, F2, own2, _, Dp.ex, hK, ok2, q2, lx, fun ci ρ3 w H3 F3 own3 ok3 r3 s3 q3 => ?_⟩
    split at q3
    · rename_i k
      have r3 : Fz B.K F3 w (.int k) := r3
      cases r3
      obtain ⟨xs, e2, q⟩ := lsAt_inv q3
      obtain ⟨a', vs', j1, j2, j3, j4⟩ := ls_at ok3 e2
      rw [g1] at j1
      cases j1
      obtain ⟨j, ej, q⟩ := optP_inv q
      refine ⟨a, vs', k, j, rfl, rfl, j2, by rw [j4.length]; exact ej, ?_⟩
      exact l1 _ σ _ F3 own3 (ls_upd ok3 g1 j3 (j4.set (fd.mono s3) j)) q
    · exact q3.elim
end
end P

set_option Elab.async false
set_option linter.all false
set_option maxRecDepth 100000
set_option maxHeartbeats 4000000
/-! The P-layer, 8: lists of lists, unpacking, dicts, index, isinstance, list(range(..)). -/
namespace P
open PySem L2
/-! ### a slot locked while an index is asked -/
section
variable {B : Box} {ρ ρ2 : PEnv} {σ : St} {H F H2 F2 : Hp} {own own2 : Own} {i : Nat} {c : C}
def Lk (B : Box) (own : Own) (i : Nat) (H : Hp) : Box := { B with H0 := fun a => if ownIs own (some i) a = true then H a else B.H0 a }
theorem Ok.lock (ok : Ok B ρ σ H F own) (i : Nat) : Ok (Lk B own i H) (ρ.set i none) σ H F (frzO own (some i)) := by
  refine ⟨ok.sub, fun a o e1 e2 => ?_, ok.up, fun a o e => ?_, fun a x e => ?_, fun a e => ?_, by rw [List.length_set]; exact ok.len, fun j c e => ?_⟩
  · have e1 : (if ownIs own (some i) a = true then H a else B.H0 a) = some o := e1
    split at e1
    · exact e1
    · exact ok.keep a o e1 e2
  · rcases ok.new a o e with z | z
    · exact .inl z
    · right
      show (if ownIs own (some i) a = true then H a else B.H0 a) = none
      rw [if_neg]
      · exact z
      · intro q
        obtain ⟨x, hx⟩ := ownIs_some q
        rw [(ok.ow a x hx).1] at e; cases e
  · unfold frzO at e
    split at e
    · cases e
    · rename_i hn
      obtain ⟨h1, h2, h3⟩ := ok.ow a x e
      refine ⟨h1, ?_, h3⟩
      show (if ownIs own (some i) a = true then H a else B.H0 a) = none
      rw [if_neg hn]; exact h2
  · have e : B.a0 = some a := e
    obtain ⟨h1, h2, h3, h4⟩ := ok.orc a e
    have z : ownIs own (some i) a = false := ownIs_none h3
    refine ⟨h1, h2, by unfold frzO; rw [z]; exact h3, ?_⟩
    show (if ownIs own (some i) a = true then H a else B.H0 a).isSome = true
    rw [z]; exact h4
  · rcases set_get e with ⟨_, z, _⟩ | ⟨hj, z⟩
    · cases z
    · obtain ⟨v, h1, h2⟩ := ok.slot j c z
      refine ⟨v, h1, h2.keep (Same.refl _) fun a k q => ⟨?_, rfl⟩⟩
      unfold frzO
      rw [ownIs_ne q (by simpa using hj)]
      exact q
def ownU (own own2 : Own) (i : Nat) : Own := fun a => if ownIs own (some i) a = true then own a else own2 a
theorem Ok.unlock (ok : Ok B ρ σ H F own) (ok2 : Ok (Lk B own i H) ρ2 σ H2 F2 own2) (s : Same F F2) (hρ : ρ[i]? = some (some c)) : Ok B (ρ2.set i (some c)) σ H2 F2 (ownU own own2 i) ∧ ∀ a, ownIs own (some i) a = true → H2 a = H a := by
  have hk : ∀ a, ownIs own (some i) a = true → H2 a = H a := fun a q => by
    obtain ⟨x, hx⟩ := ownIs_some q
    obtain ⟨o, ho⟩ := Option.isSome_iff_exists.mp (ok.ow a x hx).2.2
    rw [ho]
    refine ok2.keep a o ?_ fun z => by rw [(ok.orc a z).2.2.1] at hx; cases hx
    show (if ownIs own (some i) a = true then H a else B.H0 a) = some o
    rw [if_pos q]; exact ho
  have hF : ∀ a, ownIs own (some i) a = true → F2 a = none := fun a q => by
    obtain ⟨x, hx⟩ := ownIs_some q
    obtain ⟨h1, h2, h3⟩ := ok.ow a x hx
    cases e : F2 a with
    | none => rfl
    | some o =>
      rcases ok2.new a o e with z | z
      · have := ok.up a o z
        rw [h1] at this; cases this
      · have z : (if ownIs own (some i) a = true then H a else B.H0 a) = none := z
        rw [if_pos q] at z
        rw [z] at h3; cases h3
  have hO : ∀ a x, own2 a = some x → ownIs own (some i) a = false := fun a x e => by
    cases q : ownIs own (some i) a with
    | false => rfl
    | true =>
      have z : (if ownIs own (some i) a = true then H a else B.H0 a) = none := (ok2.ow a x e).2.1
      rw [if_pos q] at z
      obtain ⟨y, hy⟩ := ownIs_some q
      have := (ok.ow a y hy).2.2
      rw [z] at this; cases this
  refine ⟨⟨ok2.sub, fun a o e1 e2 => ?_, ok2.up, fun a o e => ?_, fun a x e => ?_, fun a e => ?_, by rw [List.length_set]; exact ok2.len, fun j c' e => ?_⟩, hk⟩
  · refine ok2.keep a o ?_ e2
    show (if ownIs own (some i) a = true then H a else B.H0 a) = some o
    rw [if_neg]
    · exact e1
    · intro q
      obtain ⟨x, hx⟩ := ownIs_some q
      rw [(ok.ow a x hx).2.1] at e1; cases e1
  · rcases ok2.new a o e with z | z
    · exact .inl z
    · right
      have z : (if ownIs own (some i) a = true then H a else B.H0 a) = none := z
      split at z
      · rename_i q
        rw [hF a q] at e; cases e
      · exact z
  · unfold ownU at e
    split at e
    · rename_i q
      exact ⟨hF a q, (ok.ow a x e).2.1, by rw [hk a q]; exact (ok.ow a x e).2.2⟩
    · rename_i q
      obtain ⟨h1, h2, h3⟩ := ok2.ow a x e
      have h2 : (if ownIs own (some i) a = true then H a else B.H0 a) = none := h2
      rw [if_neg q] at h2
      exact ⟨h1, h2, h3⟩
  · obtain ⟨h1, h2, h3, h4⟩ := ok2.orc a e
    have z : ownIs own (some i) a = false := ownIs_none (ok.orc a e).2.2.1
    refine ⟨h1, h2, by unfold ownU; rw [z]; exact h3, (ok.orc a e).2.2.2⟩
  · rcases set_get e with ⟨rfl, z, _⟩ | ⟨hj, z⟩
    · cases z
      obtain ⟨v, h1, h2⟩ := ok.slot j c hρ
      refine ⟨v, h1, h2.keep s fun a k q => ?_⟩
      have := ownIs_of q
      exact ⟨by unfold ownU; rw [if_pos this]; exact q, hk a this⟩
    · obtain ⟨v, h1, h2⟩ := ok2.slot j c' z
      refine ⟨v, h1, h2.keep (Same.refl _) fun a k q => ⟨?_, rfl⟩⟩
      unfold ownU
      rw [hO a _ q]
      exact q
theorem ll_at (ok : Ok B ρ σ H F own) {dss : List (List D)} (e : ρ[i]? = some (some (.ll dss))) : ∃ a vs, σ[i]? = some (some (.ref a)) ∧ H a = some (.lst vs) ∧ own a = some (some i, 0) ∧ Rows B.K F H own (some i) vs dss := by
  obtain ⟨v, h1, a, vs, rfl, h2, h3, h4⟩ := ok.slot i _ e
  exact ⟨a, vs, h1, h2, h3, h4⟩
theorem Rows.get {K : Frag} {F H : Hp} {own : Own} {id : Option Nat} {vs : List V} {dss : List (List D)} (r : Rows K F H own id vs dss) {k : Int} {row : List D} (h : L2.atI dss k = some row) : ∃ j b ws, ixN dss.length k = some j ∧ L2.atI vs k = some (.ref b) ∧ H b = some (.lst ws) ∧ own b = some (id, j + 1) ∧ FzL K F ws row := by
  unfold L2.atI at h ⊢
  rw [r.1]
  cases e : ixN dss.length k with
  | none => rw [e] at h; cases h
  | some j =>
    rw [e] at h
    obtain ⟨b, ws, h1, h2, h3, h4⟩ := r.2 j row h
    exact ⟨j, b, ws, rfl, h1, h2, h3, h4⟩
/-- one row is written -/
theorem ll_upd (ok : Ok B ρ σ H F own) {a b : Addr} {vs ws' : List V} {dss : List (List D)} {row' : List D} {j : Nat} (hs : σ[i]? = some (some (.ref a))) (hH : H a = some (.lst vs)) (ho : own a = some (some i, 0)) (r : Rows B.K F H own (some i) vs dss) (hv : vs[j]? = some (.ref b)) (hb : own b = some (some i, j + 1)) (f : FzL B.K F ws' row') :
    Ok B (ρ.set i (some (.ll (dss.set j row')))) σ (upd H b (.lst ws')) F own := by
  have nab : a ≠ b := by rintro rfl; rw [ho] at hb; cases hb
  refine ok.write hb (by rw [List.length_set]) fun j' c e => ?_
  rcases set_get e with ⟨rfl, z, _⟩ | ⟨hj, z⟩
  · cases z
    refine .inr ⟨_, hs, a, vs, rfl, by rw [upd_ne nab]; exact hH, ho, by rw [List.length_set]; exact r.1, fun j2 ds e2 => ?_⟩
    by_cases hj2 : j2 = j
    · subst hj2
      have hlt : j2 < dss.length := by
        by_cases q : j2 < dss.length
        · exact q
        · rw [List.getElem?_eq_none (by rw [List.length_set]; omega)] at e2; cases e2
      rw [List.getElem?_set_self hlt] at e2
      cases e2
      exact ⟨b, ws', hv, upd_same, hb, f⟩
    · rw [List.getElem?_set_ne (Ne.symm hj2)] at e2
      obtain ⟨b', ws, h1, h2, h3, h4⟩ := r.2 j2 ds e2
      refine ⟨b', ws, h1, ?_, h3, h4⟩
      rw [upd_ne]
      · exact h2
      · rintro rfl
        rw [hb] at h3
        simp at h3
        exact hj2 h3.symm
  · exact .inl ⟨fun q => hj (Option.some.inj q), z⟩
end
def llAt (ρ : PEnv) (i : Nat) (k : List (List D) → Prop) : Prop := match ρ[i]? with
  | some (some (.ll ds)) => k ds
  | _ => False
theorem llAt_inv {ρ : PEnv} {i : Nat} {k : List (List D) → Prop} (h : llAt ρ i k) : ∃ ds, ρ[i]? = some (some (.ll ds)) ∧ k ds := by
  unfold llAt at h
  split at h
  · exact ⟨_, ‹_›, h⟩
  · exact h.elim
def intC (c : C) (k : Int → Prop) : Prop := match c with
  | .fz (.int n) => k n
  | _ => False
theorem intC_inv {c : C} {k : Int → Prop} (h : intC c k) : ∃ n, c = .fz (.int n) ∧ k n := by
  unfold intC at h
  split at h
  · exact ⟨_, rfl, h⟩
  · exact h.elim
/-- x[e1][e2], slot i a list of owned lists -/
def gIx2 (i : Nat) (g1 g2 : G) : G := fun ρ Q Ep => llAt ρ i fun _ => g1 ρ (fun c1 ρ1 => intC c1 fun k1 => llAt ρ1 i fun dss => optP (atI dss k1) fun row => g2 (ρ1.set i none) (fun c2 ρ2 => intC c2 fun k2 => optP (atI row k2) fun d => Q (.fz d) (ρ2.set i (some (.ll dss)))) Ep) Ep
/-- x[e1][e2] = v -/
def sSetIx2 (i : Nat) (gv g1 g2 : G) : S := fun ρ D => gv ρ (fun cv ρ0 => withD ρ0 [settle cv] fun ds ρ' => match ds with
  | [d] => llAt ρ' i fun _ => g1 ρ' (fun c1 ρ1 => intC c1 fun k1 => llAt ρ1 i fun dss => optP (ixN dss.length k1) fun j => optP dss[j]? fun row => g2 (ρ1.set i none) (fun c2 ρ2 => intC c2 fun k2 => optP (ixN row.length k2) fun j2 => D.nx (ρ2.set i (some (.ll (dss.set j (row.set j2 d)))))) D.ex) D.ex
  | _ => False) D.ex
theorem exl_lk {E : XK} {B : Box} {ρ : PEnv} {σ : St} {H F : Hp} {own : Own} {i : Nat} {c : C} {Ep : Ex → Prop} (ok : Ok B ρ σ H F own) (lx : ExL E B Ep) : ExL E (Lk B own i H) Ep := fun cl d fs fds H' F' own' ok' h1 h2 h3 => by
  refine lx cl d fs fds H' F' (fun _ => none) ⟨ok'.sub, fun a o e1 e2 => ?_, ok'.up, fun a o e => ?_, (fun _ _ e => nomatch e), fun a e => ?_, rfl, fun j c e => by simp at e⟩ h1 h2 h3
  · refine ok'.keep a o ?_ e2
    show (if ownIs own (some i) a = true then H a else B.H0 a) = some o
    rw [if_neg]
    · exact e1
    · intro q
      obtain ⟨x, hx⟩ := ownIs_some q
      rw [(ok.ow a x hx).2.1] at e1; cases e1
  · rcases ok'.new a o e with z | z
    · exact .inl z
    · right
      have z : (if ownIs own (some i) a = true then H a else B.H0 a) = none := z
      split at z
      · rename_i q
        obtain ⟨x, hx⟩ := ownIs_some q
        have := (ok.ow a x hx).2.2
        rw [z] at this; cases this
      · exact z
  · obtain ⟨h1, h2, h3, h4⟩ := ok'.orc a e
    exact ⟨h1, h2, rfl, (ok.orc a e).2.2.2⟩
theorem atI_ix {α : Type} {xs : List α} {k : Int} {j : Nat} {x : α} (h : ixN xs.length k = some j) (e : xs[j]? = some x) : L2.atI xs k = some x := by
  unfold L2.atI; rw [h]; exact e
section
variable {X : Cx} {E : XK}
theorem ge_ix2 {i : Nat} {o e1 e2 : Expr} {g1 g2 : G} {p1 p2 : Pos} (ho : PE X o (L2.tVar i)) (h1 : GE X E e1 g1) (h2 : GE X E e2 g2) (hs1 : PlainIx e1) (hs2 : PlainIx e2) : GE X E (.Subscript (.Subscript o e1 p1) e2 p2) (gIx2 i g1 g2) :=
  pe_weak (pe_ix ix_list (pe_ix ix_list ho h1 hs1) h2 hs2) fun σ H Q ⟨B, ρ, F, own, Qp, Ep, hK, ok, h, lx, k⟩ => by
    obtain ⟨dss0, e0, h⟩ := llAt_inv h
    obtain ⟨a, vs0, g1', _, _, _⟩ := ll_at ok e0
    refine ⟨.ref a, g1', B, ρ, F, own, _, Ep, hK, ok, h, lx, fun c1 ρ1 x1 H1 F1 own1 ok1 r1 s1 q1 => ?_⟩
    obtain ⟨k1, rfl, q1⟩ := intC_inv q1
    have r1 : Fz B.K F1 x1 (.int k1) := r1
    cases r1
    obtain ⟨dss, e1, q1⟩ := llAt_inv q1
    obtain ⟨row, er, q1⟩ := optP_inv q1
    obtain ⟨a', vs, j1, j2, j3, j4⟩ := ll_at ok1 e1
    rw [g1'] at j1; cases j1
    obtain ⟨j, b, ws, z0, z1, z2, z3, z4⟩ := j4.get er
    refine ⟨a, vs, k1, .ref b, rfl, rfl, SqL.of j2, z1, ?_⟩
    refine ⟨Lk B own1 i H1, ρ1.set i none, F1, _, _, Ep, hK, ok1.lock i, q1, exl_lk (c := .orc) ok1 lx, fun c2 ρ2 x2 H2 F2 own2 ok2 r2 s2 q2 => ?_⟩
    obtain ⟨k2, rfl, q2⟩ := intC_inv q2
    have r2 : Fz B.K F2 x2 (.int k2) := r2
    cases r2
    obtain ⟨d, ed, q2⟩ := optP_inv q2
    obtain ⟨ok3, hk⟩ := ok1.unlock ok2 s2 e1
    obtain ⟨v, v1, v2⟩ := (z4.mono s2).atI ed
    refine ⟨b, ws, k2, v, rfl, rfl, SqL.of (by rw [hk b (ownIs_of z3)]; exact z2), v1, ?_⟩
    exact k (.fz d) _ v H2 F2 _ ok3 v2 (s1.trans s2) q2
theorem gt_setIx2 {i : Nat} {o e1 e2 e : Expr} {gv g1 g2 : G} {p1 p2 pos : Pos} (ho : PE X o (L2.tVar i)) (h1 : GE X E e1 g1) (h2 : GE X E e2 g2) (hv : GE X E e gv) (hs1 : PlainIx e1)
    (hs : swapsWithSole [.Subscript (.Subscript o e1 p1) e2 p2] e pos.line X.env = pure false := by rfl) (hw : swappedStores [.Subscript (.Subscript o e1 p1) e2 p2] e X.env = pure none := by rfl) (hg : ∀ {to ti : TE}, PE X (.Subscript o e1 p1) to → PE X e2 ti → PG X (.Subscript (.Subscript o e1 p1) e2 p2) (L2.gSub to ti rSetL)) :
    GSt X E (.Assign [.Subscript (.Subscript o e1 p1) e2 p2] e pos) (sSetIx2 i gv g1 g2) :=
  ps_weak (ps_asg hv (hg (pe_ix ix_list ho h1 hs1) h2) hs hw) fun Dn σ H ⟨B, ρ, F, own, Dp, hK, ok, h, lx, l1, l2, l3, l4⟩ => by
    refine ⟨B, ρ, F, own, _, Dp.ex, hK, ok, h, lx, fun cv ρ0 v H0 F0 own0 ok0 r0 s0 q0 => ?_⟩
    obtain ⟨d, ρ', F', own', ok', s', fd, q'⟩ := val_one ok0 r0 q0
    obtain ⟨dss0, e0, q'⟩ := llAt_inv q'
    obtain ⟨a, vs0, g1', _, _, _⟩ := ll_at ok' e0
    refine ⟨.ref a, g1', B, ρ', F', own', _, Dp.ex, hK, ok', q', lx, fun c1 ρ1 x1 H1 F1 own1 ok1 r1 s1 q1 => ?_⟩
    obtain ⟨k1, rfl, q1⟩ := intC_inv q1
    have r1 : Fz B.K F1 x1 (.int k1) := r1
    cases r1
    obtain ⟨dss, e1, q1⟩ := llAt_inv q1
    obtain ⟨j, ej, q1⟩ := optP_inv q1
    obtain ⟨row, er, q1⟩ := optP_inv q1
    obtain ⟨a', vs, j1, j2, j3, j4⟩ := ll_at ok1 e1
    rw [g1'] at j1; cases j1
    obtain ⟨j', b, ws, z0, z1, z2, z3, z4⟩ := j4.get (atI_ix ej er)
    rw [ej] at z0; cases z0
    refine ⟨a, vs, k1, .ref b, rfl, rfl, SqL.of j2, z1, ?_⟩
    refine ⟨Lk B own1 i H1, ρ1.set i none, F1, _, _, Dp.ex, hK, ok1.lock i, q1, exl_lk (c := .orc) ok1 lx, fun c2 ρ2 x2 H2 F2 own2 ok2 r2 s2 q2 => ?_⟩
    obtain ⟨k2, rfl, q2⟩ := intC_inv q2
    have r2 : Fz B.K F2 x2 (.int k2) := r2
    cases r2
    obtain ⟨jj, ejj, q2⟩ := optP_inv q2
    obtain ⟨ok3, hk⟩ := ok1.unlock ok2 s2 e1
    refine ⟨b, ws, k2, jj, rfl, rfl, by rw [hk b (ownIs_of z3)]; exact z2, by rw [z4.length]; exact ejj, ?_⟩
    have hlen : i < ρ2.length := by
      have h1 := ok3.len
      rw [List.length_set] at h1
      rw [h1]
      exact (List.getElem?_eq_some_iff.mp g1').1
    have e3 : (ρ2.set i (some (C.ll dss)))[i]? = some (some (.ll dss)) := List.getElem?_set_self hlen
    obtain ⟨a3, vs3, m1, m2, m3, m4⟩ := ll_at ok3 e3
    rw [g1'] at m1; cases m1
    have hvs : vs3 = vs := by
      have := hk a (ownIs_of j3)
      rw [m2, j2] at this
      cases this; rfl
    subst hvs
    have hvj : vs3[j]? = some (.ref b) := by
      have := z1
      unfold L2.atI at this
      rw [j4.1, ej] at this
      exact this
    have ob : ownU own1 own2 i b = some (some i, j + 1) := by
      unfold ownU
      rw [if_pos (ownIs_of z3)]
      exact z3
    have fin := ll_upd ok3 g1' m2 m3 m4 hvj ob ((z4.mono s2).set (fd.mono (s1.trans s2)) jj)
    rw [List.set_set] at fin
    exact l1 _ σ _ F2 _ fin q2
/-! ### unpacking -/
def sUnp (tg : Tg) (g : G) : S := fun ρ D => g ρ (fun c ρ1 => withD ρ1 [settle c] fun ds ρ2 => match ds with
  | [d] => tg d ρ2 D.nx
  | _ => False) D.ex
theorem gt_unp {e t : Expr} {ts : List Nat} {tg : Tg} {g : G} {pos : Pos} (he : GE X E e g) (hg : GPG X t ts tg) (hs : swapsWithSole [t] e pos.line X.env = pure false := by rfl) (hw : swappedStores [t] e X.env = pure none := by rfl) (hz : (assignEach [t] X.env).map (·.2) = [assign t X.env] := by rfl) : GSt X E (.Assign [t] e pos) (sUnp tg g) :=
  ps_weak (ps_asg he hg hs hw (h1 := hz)) fun Dn σ H ⟨B, ρ, F, own, Dp, hK, ok, h, lx, l1, l2, l3, l4⟩ => by
    refine ⟨B, ρ, F, own, _, Dp.ex, hK, ok, h, lx, fun c ρ1 v H1 F1 own1 ok1 r1 s1 q1 => ?_⟩
    obtain ⟨d, ρ2, F2, own2, ok2, s2, fd, q2⟩ := val_one ok1 r1 q1
    exact ⟨B, ρ2, F2, own2, d, _, hK, ok2, by rw [← hK]; exact fd, q2, fun ρ3 σ3 own3 _ ok3 q3 => l1 ρ3 σ3 H1 F2 own3 ok3 q3⟩
/-! ### isinstance of a built-in type -/
def tyD : D → String
  | .none => "NoneType"
  | .bool _ => "bool"
  | .int _ => "int"
  | .str _ => "str"
  | .list _ => "list"
  | .tuple _ => "tuple"
  | .dict _ => "dict"
def isiD (T : String) (d : D) : Option Bool := kitB (tyD d) T
def gIsi (T : String) (g : G) : G := fun ρ Q Ep => g ρ (fun c ρ1 => withV ρ1 c fun d => optP (isiD T d) fun b => Q (.fz (.bool b)) ρ1) Ep
theorem vw_ty {K : Frag} {F H : Hp} {v : V} {d : D} (s : Same F H) (h : Vw K F H v d) : TyX K H v (.type (tyD d)) := by
  cases d with
  | none => cases h; exact .base .non
  | bool b => cases h; exact .base (.bl b)
  | int i => cases h; exact .base (.int i)
  | str x => cases h; exact .base (.str x)
  | list ds => obtain ⟨a, xs, rfl, h1, _⟩ := h; exact .base (.lst h1)
  | tuple ds =>
    obtain ⟨a, xs, rfl, h1, _, _⟩ := vw_tup s h
    rcases h1 with (h1 | ⟨o, h1⟩) | ⟨o, its, n, h1, h2, _⟩
    · exact .base (.tup h1)
    · exact .fTuple h1
    · exact .kTuple h1 h2
  | dict kvs => obtain ⟨a, xs, rfl, h1, _⟩ := h; exact .base (.dK h1)
theorem ge_isi {T : String} {e : Expr} {t : Str} {pp tp pos : Pos} {g : G} (hg : Gl X "isinstance") (hm : X.mg "isinstance" = none) (hgT : Gl X t) (hmT : X.mg t = none) (hvT : bootBuiltins t = some (.type T)) (he : GE X E e g)
    (hnT : t ≠ "__name__" := by decide) (hdT : (t == ("__debug__" : Str)) = false := by decide) (hs : starEach [e, .Name t tp] X.env = (false, eval e X.env) :: starEach [.Name t tp] X.env := by rfl) (hs2 : starEach [.Name t tp] X.env = (false, eval (.Name t tp) X.env) :: starEach [] X.env := by rfl) (hpl : (backTo pos (starEach [.Name t tp] X.env)).any (·.1) = false := by rfl) :
    GE X E (.Call (.Name "isinstance" pp) [e, .Name t tp] [] pos) (gIsi T g) :=
  pe_weak (pe_callB call_isi hg hm (by decide +kernel) (pa_cons he (pa_cons (pe_bltn (v := .ty T) hgT hmT hvT rfl hnT hdT) pa_nil hs2) hs) (he := hs) (hpl := hpl)) fun σ H Q ⟨B, ρ, F, own, Qp, Ep, hK, ok, h, lx, k⟩ => by
    refine ⟨B, ρ, F, own, _, Ep, hK, ok, h, lx, fun c ρ1 v H1 F1 own1 ok1 r1 s1 q1 => ?_⟩
    obtain ⟨F1', own1', ok1', s1', r1'⟩ := settle_ok ok1 r1
    obtain ⟨d, e1, q⟩ := withV_inv q1
    obtain ⟨b, e2, q⟩ := optP_inv q
    refine ⟨v, .ty T, _, _, b, rfl, .ty T, by rw [← hK]; exact vw_ty ok1'.sub (r1'.vw ok1' e1), kit_ty e2, ?_⟩
    exact k (.fz (.bool b)) ρ1 (.bl b) H1 F1' own1' ok1' (Fz.bl b) (s1.trans s1') q
/-! ### list(range(..)) -/
theorem fz_rg {K : Frag} {F : Hp} (a b : Int) : FzL K F (rgV a b) (rangeD a (b - a).toNat) := by
  unfold rgV rangeD
  generalize (List.range (b - a).toNat) = l
  induction l with
  | nil => exact .nil
  | cons x l ih => exact .cons (.int _) ih
def gLRg1 (g : G) : G := fun ρ Q Ep => g ρ (fun c ρ1 => intC c fun n => (-(2 ^ 61) ≤ n ∧ n ≤ 16777216) ∧ Q (.ls (rangeD 0 (n - 0).toNat)) ρ1) Ep
def gLRg2 (ga gb : G) : G := fun ρ Q Ep => ga ρ (fun c ρ1 => intC c fun m => gb ρ1 (fun c2 ρ2 => intC c2 fun n => (0 ≤ m ∧ m ≤ 16777216 ∧ -(2 ^ 61) ≤ n ∧ n ≤ 16777216) ∧ Q (.ls (rangeD m (n - m).toNat)) ρ2) Ep) Ep
theorem ge_lrg1 {a : Expr} {p p2 pos pos2 : Pos} {g : G} (hc : X.calm = true) (hg : Gl X "list") (hm : X.mg "list" = none) (hgr : Gl X "range") (hmr : X.mg "range" = none) (ha : GE X E a g)
    (na : starEach [a] X.env = (false, eval a X.env) :: starEach [] X.env := by rfl) (nb : starEach [.Call (.Name "range" p2) [a] [] pos2] X.env = (false, eval (.Call (.Name "range" p2) [a] [] pos2) X.env) :: starEach [] X.env := by rfl) : GE X E (.Call (.Name "list" p) [.Call (.Name "range" p2) [a] [] pos2] [] pos) (gLRg1 g) :=
  pe_weak (pe_listRg hc hg hm (prg_1 hgr hmr ha na) nb) fun σ H Q ⟨B, ρ, F, own, Qp, Ep, hK, ok, h, lx, k⟩ => by
    refine ⟨B, ρ, F, own, _, Ep, hK, ok, h, lx, fun c ρ1 v H1 F1 own1 ok1 r1 s1 q1 => ?_⟩
    obtain ⟨n, rfl, ⟨b1, b2⟩, q⟩ := intC_inv q1
    have r1 : Fz B.K F1 v (.int n) := r1
    cases r1
    refine ⟨n, rfl, ⟨by omega, by omega, by omega, by omega, by omega⟩, fun q' hq' => ?_⟩
    exact k (.ls _) ρ1 _ _ F1 _ (ok1.newO (o := .lst (rgV 0 n)) 0 hq') ⟨q', _, rfl, upd_same, by simp [ownNew], fz_rg 0 n⟩ s1 q
theorem ge_lrg2 {a b : Expr} {p p2 pos pos2 : Pos} {ga gb : G} (hc : X.calm = true) (hg : Gl X "list") (hm : X.mg "list" = none) (hgr : Gl X "range") (hmr : X.mg "range" = none) (ha : GE X E a ga) (hb : GE X E b gb)
    (na : starEach [a, b] X.env = (false, eval a X.env) :: starEach [b] X.env := by rfl) (nb : starEach [b] X.env = (false, eval b X.env) :: starEach [] X.env := by rfl) (hp : (backTo pos2 (starEach [b] X.env)).any (·.1) = false := by rfl)
    (nc : starEach [.Call (.Name "range" p2) [a, b] [] pos2] X.env = (false, eval (.Call (.Name "range" p2) [a, b] [] pos2) X.env) :: starEach [] X.env := by rfl) : GE X E (.Call (.Name "list" p) [.Call (.Name "range" p2) [a, b] [] pos2] [] pos) (gLRg2 ga gb) :=
  pe_weak (pe_listRg hc hg hm (prg_2 hgr hmr ha hb na nb hp) nc) fun σ H Q ⟨B, ρ, F, own, Qp, Ep, hK, ok, h, lx, k⟩ => by
    refine ⟨B, ρ, F, own, _, Ep, hK, ok, h, lx, fun c ρ1 v H1 F1 own1 ok1 r1 s1 q1 => ?_⟩
    obtain ⟨m, rfl, q1⟩ := intC_inv q1
    have r1 : Fz B.K F1 v (.int m) := r1
    cases r1
    refine ⟨B, ρ1, F1, own1, _, Ep, hK, ok1, q1, lx, fun c2 ρ2 v2 H2 F2 own2 ok2 r2 s2 q2 => ?_⟩
    obtain ⟨n, rfl, ⟨b1, b2, b3, b4⟩, q⟩ := intC_inv q2
    have r2 : Fz B.K F2 v2 (.int n) := r2
    cases r2
    refine ⟨m, n, rfl, rfl, ⟨by omega, by omega, by omega, by omega, by omega⟩, fun q' hq' => ?_⟩
    exact k (.ls _) ρ2 _ _ F2 _ (ok2.newO (o := .lst (rgV m n)) 0 hq') ⟨q', _, rfl, upd_same, by simp [ownNew], fz_rg m n⟩ (s1.trans s2) q
end
end P

set_option Elab.async false
set_option linter.all false
set_option maxRecDepth 100000
set_option maxHeartbeats 4000000
/-! The P-layer, 9: dicts, list.index, sums. -/
namespace P
open PySem L2
def keyD : D → Option Key
  | .int i => some (.inl i)
  | .str s => some (.inr s)
  | _ => none
theorem keyD_KD (k : Key) : keyD (KD k) = some k := by cases k <;> rfl
/-- what a dict holds -/
def dgetD (kvs : List (D × D)) (k : Key) : Option D := (kvs.find? fun p => decide (keyD p.1 = some k)).map (·.2)
def dval (kvs : List (Key × D)) (k : Key) : Option D := (kvs.find? fun p => decide (p.1 = k)).map (·.2)
def dput (kvs : List (Key × D)) (k : Key) (d : D) : List (Key × D) := if (kvs.any fun p => decide (p.1 = k)) = true then kvs.map (fun p => if p.1 = k then (p.1, d) else p) else kvs ++ [(k, d)]
theorem dget_dval (kvs : List (Key × D)) (k : Key) : dgetD (kvs.map fun p => (KD p.1, p.2)) k = dval kvs k := by
  unfold dgetD dval
  induction kvs with
  | nil => rfl
  | cons p r ih =>
    rw [List.map_cons, List.find?_cons, List.find?_cons]
    have e : decide (keyD (KD p.1) = some k) = decide (p.1 = k) := by rw [keyD_KD]; simp
    simp only [e]
    cases decide (p.1 = k) with
    | true => rfl
    | false => exact ih
section
variable {K : Frag} {F H : Hp} {x y v : V} {d e : D}
theorem fzd_get {k : Key} : ∀ {ws : List (Key × V)} {kvs : List (D × D)}, FzD K F ws kvs → match dgetD kvs k with
    | some d => ∃ v, valV ws k = some v ∧ Fz K F v d
    | none => valV ws k = none
  | _, _, .nil => rfl
  | _, _, .cons (k := k') (v := v) (ws := ws) (d := d) (kvs := kvs) h r => by
    have ih := fzd_get (k := k) r
    by_cases q : k' = k
    · subst q
      have e : dgetD ((KD k', d) :: kvs) k' = some d := by simp [dgetD, List.find?_cons, keyD_KD]
      rw [e]
      exact ⟨v, valV_pos rfl, h⟩
    · have e : dgetD ((KD k', d) :: kvs) k = dgetD kvs k := by simp [dgetD, List.find?_cons, keyD_KD, q]
      rw [e, valV_neg (p := (k', v)) (show ¬ (k', v).1 = k from q)]
      exact ih
theorem vw_key (h : Vw K F H x d) {k : Key} (e : keyD d = some k) : x = kV k := by
  cases d with
  | int i => cases e; cases h; rfl
  | str s => cases e; cases h; rfl
  | _ => cases e
def pDGet : Pf2 := fun d e k => match d with
  | .dict kvs => optP (keyD e) fun key => optP (dgetD kvs key) fun x => k (.fz x)
  | _ => False
theorem r_dget : R2V K (fun x y H Q => ∃ a v, x = .ref a ∧ DGet H a y (some v) ∧ Q v H) pDGet := by
  intro F H x y d e Qp Q s vx vy h r
  unfold pDGet at h
  split at h
  · obtain ⟨a, ws, rfl, h1, f⟩ := vx
    obtain ⟨key, e1, h⟩ := optP_inv h
    obtain ⟨z, e2, h⟩ := optP_inv h
    have g := fzd_get (k := key) f
    rw [e2] at g
    obtain ⟨v, g1, g2⟩ := g
    refine ⟨a, v, rfl, ?_, r.dat _ _ g2 h⟩
    rw [vw_key vy e1, ← g1]
    exact DGet.k h1
  · exact h.elim
def pDIn : Pf2 := fun e d k => match d with
  | .dict kvs => optP (keyD e) fun key => k (.fz (.bool (dgetD kvs key).isSome))
  | _ => False
def pDNotIn : Pf2 := fun e d k => match d with
  | .dict kvs => optP (keyD e) fun key => k (.fz (.bool (!(dgetD kvs key).isSome)))
  | _ => False
theorem fzd_some {k : Key} {ws : List (Key × V)} {kvs : List (D × D)} (f : FzD K F ws kvs) : (valV ws k).isSome = (dgetD kvs k).isSome := by
  have g := fzd_get (k := k) f
  cases e : dgetD kvs k with
  | none => rw [e] at g; rw [g]; rfl
  | some d => rw [e] at g; obtain ⟨v, g, _⟩ := g; rw [g]; rfl
theorem r_din : R2V K (fun y x H Q => ∃ a o, x = .ref a ∧ DGet H a y o ∧ Q (.bl o.isSome) H) pDIn := by
  intro F H x y d e Qp Q s vx vy h r
  unfold pDIn at h
  split at h
  · obtain ⟨a, ws, rfl, h1, f⟩ := vy
    obtain ⟨key, e1, h⟩ := optP_inv h
    refine ⟨a, valV ws key, rfl, by rw [vw_key vx e1]; exact DGet.k h1, ?_⟩
    rw [fzd_some f]
    exact r.dat _ _ (.bl _) h
  · exact h.elim
theorem r_dnotin : R2V K (fun y x H Q => ∃ a o, x = .ref a ∧ DGet H a y o ∧ Q (.bl (!o.isSome)) H) pDNotIn := by
  intro F H x y d e Qp Q s vx vy h r
  unfold pDNotIn at h
  split at h
  · obtain ⟨a, ws, rfl, h1, f⟩ := vy
    obtain ⟨key, e1, h⟩ := optP_inv h
    refine ⟨a, valV ws key, rfl, by rw [vw_key vx e1]; exact DGet.k h1, ?_⟩
    rw [fzd_some f]
    exact r.dat _ _ (.bl _) h
  · exact h.elim
theorem kz_any {k : Key} : ∀ {ws : List (Key × V)} {kvs : List (Key × D)}, KZ K F ws kvs → (ws.any fun p => decide (p.1 = k)) = kvs.any fun p => decide (p.1 = k)
  | _, _, .nil => rfl
  | (k1, v) :: ws, (k2, d) :: kvs, .cons ⟨q, _⟩ r => by
    have q : k1 = k2 := q
    subst q
    rw [List.any_cons, List.any_cons, kz_any r]
theorem kz_put {k : Key} (h : Fz K F v d) {ws : List (Key × V)} {kvs : List (Key × D)} (r : KZ K F ws kvs) : KZ K F (putK ws k v) (dput kvs k d) := by
  unfold putK dput
  rw [kz_any r]
  split
  · have gen : ∀ {ws : List (Key × V)} {kvs : List (Key × D)}, KZ K F ws kvs → KZ K F (ws.map fun p => if p.1 = k then (p.1, v) else p) (kvs.map fun p => if p.1 = k then (p.1, d) else p) := by
      intro ws kvs r
      induction r with
      | nil => exact .nil
      | @cons p q ws kvs hh r ih =>
        obtain ⟨k1, v1⟩ := p
        obtain ⟨k2, d1⟩ := q
        obtain ⟨q1, f⟩ := hh
        have q1 : k1 = k2 := q1
        subst q1
        refine .cons ?_ ih
        by_cases z : k1 = k
        · dsimp only
          rw [if_pos z, if_pos z]
          exact ⟨rfl, h⟩
        · dsimp only
          rw [if_neg z, if_neg z]
          exact ⟨rfl, f⟩
    exact gen r
  · have app : ∀ {ws : List (Key × V)} {kvs : List (Key × D)}, KZ K F ws kvs → KZ K F (ws ++ [(k, v)]) (kvs ++ [(k, d)]) := by
      intro ws kvs r
      induction r with
      | nil => exact .cons ⟨rfl, h⟩ .nil
      | cons hh r ih => exact .cons hh ih
    exact app r
theorem kz_len : ∀ {ws : List (Key × V)} {kvs : List (Key × D)}, KZ K F ws kvs → ws.length = kvs.length
  | _, _, .nil => rfl
  | _, _, .cons _ r => by rw [List.length_cons, List.length_cons, kz_len r]
end
def dkAt (ρ : PEnv) (i : Nat) (k : List (Key × D) → Prop) : Prop := match ρ[i]? with
  | some (some (.dk kvs)) => k kvs
  | _ => False
theorem dkAt_inv {ρ : PEnv} {i : Nat} {k : List (Key × D) → Prop} (h : dkAt ρ i k) : ∃ ds, ρ[i]? = some (some (.dk ds)) ∧ k ds := by
  unfold dkAt at h
  split at h
  · exact ⟨_, ‹_›, h⟩
  · exact h.elim
/-- d[k] = v of an owned dict -/
def sDSet (i : Nat) (gv gk : G) : S := fun ρ D => gv ρ (fun cv ρ1 => withD ρ1 [settle cv] fun ds ρ2 => match ds with
  | [d] => dkAt ρ2 i fun _ => gk ρ2 (fun ck ρ3 => match ck with
    | .fz e => optP (keyD e) fun key => dkAt ρ3 i fun kvs => kvs.length < sizeLine ∧ D.nx (ρ3.set i (some (.dk (dput kvs key d))))
    | _ => False) D.ex
  | _ => False) D.ex
def gDNew : G := fun ρ Q _ => Q (.dk []) ρ
/-- d.get(k, x) -/
def isDictD : D → Prop
  | .dict _ => True
  | _ => False
def getP (d e : D) (cx : C) (k : D → Prop) : Prop := match d, cx with
  | .dict kvs, .fz x => optP (keyD e) fun key => k ((dgetD kvs key).getD x)
  | _, _ => False
theorem getP_inv {d e : D} {cx : C} {k : D → Prop} (h : getP d e cx k) : ∃ kvs x key, d = .dict kvs ∧ cx = .fz x ∧ keyD e = some key ∧ k ((dgetD kvs key).getD x) := by
  unfold getP at h
  split at h
  · obtain ⟨key, e1, q⟩ := optP_inv h
    exact ⟨_, _, key, rfl, rfl, e1, q⟩
  · exact h.elim
def gDGet2 (gd gk gx : G) : G := fun ρ Q Ep => gd ρ (fun cd ρ1 => withV ρ1 cd isDictD ∧ gk ρ1 (fun ck ρ2 => gx ρ2 (fun cx ρ3 => withV ρ3 (settle cd) fun d => withV ρ3 (settle ck) fun e => getP d e (settle cx) fun x => Q (.fz x) ρ3) Ep) Ep) Ep
theorem dk_at {B : Box} {ρ : PEnv} {σ : St} {H F : Hp} {own : Own} (ok : Ok B ρ σ H F own) {i : Nat} {ds : List (Key × D)} (e : ρ[i]? = some (some (.dk ds))) : ∃ a vs, σ[i]? = some (some (.ref a)) ∧ H a = some (.dK vs) ∧ own a = some (some i, 0) ∧ KZ B.K F vs ds := by
  obtain ⟨v, h1, a, vs, rfl, h2, h3, h4⟩ := ok.slot i _ e
  exact ⟨a, vs, h1, h2, h3, h4⟩
theorem dk_upd {B : Box} {ρ : PEnv} {σ : St} {H F : Hp} {own : Own} (ok : Ok B ρ σ H F own) {i : Nat} {a : Addr} {vs' : List (Key × V)} {ds' : List (Key × D)} (hs : σ[i]? = some (some (.ref a))) (ho : own a = some (some i, 0)) (f : KZ B.K F vs' ds') : Ok B (ρ.set i (some (.dk ds'))) σ (upd H a (.dK vs')) F own :=
  ok.write ho (by rw [List.length_set]) fun j c e => by
    rcases set_get e with ⟨rfl, z, _⟩ | ⟨hj, z⟩
    · cases z
      exact .inr ⟨_, hs, a, vs', rfl, upd_same, ho, f⟩
    · exact .inl ⟨fun q => hj (Option.some.inj q), z⟩
section
variable {X : Cx} {E : XK}
theorem ge_dnew {pos : Pos} : GE X E (.Dict [] [] pos) gDNew := pe_weak pe_dnewK fun σ H Q ⟨B, ρ, F, own, Qp, Ep, hK, ok, h, lx, k⟩ p hp =>
  k (.dk []) ρ _ _ F _ (ok.newO (o := .dK []) 0 hp) ⟨p, [], rfl, upd_same, by simp [ownNew], .nil⟩ (Same.refl _) h
theorem ge_dget {o i : Expr} {go gi : G} {pos : Pos} (hu : X.A.units + 1 < cLine) (ho : GE X E o go) (hi : GE X E i gi) (hs : NoSl i) : GE X E (.Subscript o i pos) (gOp2 pDGet go gi) :=
  pe_weak (pe_dget hu ho hi hs) fun _ _ _ h => dn2 r_dget h
theorem ge_din {o i : Expr} {go gi : G} {pos : Pos} (hu : X.A.units + 1 < cLine) (hi : GE X E i gi) (ho : GE X E o go) (hm : behindInMarks .In o = false := by rfl) : GE X E (.Compare i [.In] [o] pos) (gOp2 pDIn gi go) :=
  pe_weak (pe_cmp (pc_din hu hi ho) hm) fun _ _ _ h => dn2 r_din h
theorem ge_dnotin {o i : Expr} {go gi : G} {pos : Pos} (hu : X.A.units + 1 < cLine) (hi : GE X E i gi) (ho : GE X E o go) (hm : behindInMarks .NotIn o = false := by rfl) : GE X E (.Compare i [.NotIn] [o] pos) (gOp2 pDNotIn gi go) :=
  pe_weak (pe_cmp (pc_dnotin hu hi ho) hm) fun _ _ _ h => dn2 r_dnotin h
theorem gt_din {o i : Expr} {go gi : G} {pos : Pos} (hu : X.A.units + 1 < cLine) (hi : GE X E i gi) (ho : GE X E o go) (hm : behindInMarks .In o = false := by rfl) : GTe X E (.Compare i [.In] [o] pos) (gTst (gOp2 pDIn gi go)) :=
  pt_weak (pt_cmp (pc_din hu hi ho) hm) fun _ _ _ h => dnTst (fun _ _ _ h => dn2 r_din h) h
theorem gt_dnotin {o i : Expr} {go gi : G} {pos : Pos} (hu : X.A.units + 1 < cLine) (hi : GE X E i gi) (ho : GE X E o go) (hm : behindInMarks .NotIn o = false := by rfl) : GTe X E (.Compare i [.NotIn] [o] pos) (gTst (gOp2 pDNotIn gi go)) :=
  pt_weak (pt_cmp (pc_dnotin hu hi ho) hm) fun _ _ _ h => dnTst (fun _ _ _ h => dn2 r_dnotin h) h
theorem gt_dset {i : Nat} {o ix e : Expr} {gv gk : G} {pos p2 : Pos} (hu : X.A.units + 1 < cLine) (ho : PE X o (L2.tVar i)) (hi : GE X E ix gk) (hv : GE X E e gv) (hs : swapsWith e (some (.Subscript o ix p2)) pos.line X.env = pure false := by rfl) : GSt X E (.Assign [.Subscript o ix p2] e pos) (sDSet i gv gk) :=
  ps_weak (ps_dput hu ho hi hv hs) fun Dn σ H ⟨B, ρ, F, own, Dp, hK, ok, h, lx, l1, l2, l3, l4⟩ => by
    refine ⟨B, ρ, F, own, _, Dp.ex, hK, ok, h, lx, fun cv ρ1 v H1 F1 own1 ok1 r1 s1 q1 => ?_⟩
    obtain ⟨d, ρ2, F2, own2, ok2, s2, fd, q2⟩ := val_one ok1 r1 q1
    obtain ⟨ds0, e0, q2⟩ := dkAt_inv q2
    obtain ⟨a, vs0, g1, g2, g3, g4⟩ := dk_at ok2 e0
    refine ⟨.ref a, g1, B, ρ2, F2, own2, _, Dp.ex, hK, ok2, q2, lx, fun ck ρ3 w H3 F3 own3 ok3 r3 s3 q3 => ?_⟩
    split at q3
    · rename_i e
      have r3 : Fz B.K F3 w e := r3
      obtain ⟨key, ek, q3⟩ := optP_inv q3
      obtain ⟨kvs, e3, hz, q3⟩ := dkAt_inv q3
      obtain ⟨a', vs, j1, j2, j3, j4⟩ := dk_at ok3 e3
      rw [g1] at j1; cases j1
      refine ⟨a, _, rfl, by rw [vw_key (r3.vw ok3.sub) ek]; exact DPut.k j2 (by rw [kz_len j4]; exact hz), ?_⟩
      exact l1 _ σ _ F3 own3 (dk_upd ok3 g1 j3 (kz_put (fd.mono s3) j4)) q3
    · exact q3.elim
theorem ge_dget2 {o e f : Expr} {go ge gf : G} {apos cpos : Pos} (hu : X.A.units + 1 < cLine) (ho : GE X E o go) (he : GE X E e ge) (hf : GE X E f gf) (m : M2 X o "get" apos e f cpos) : GE X E (.Call (.Attribute o "get" apos) [e, f] [] cpos) (gDGet2 go ge gf) :=
  pe_weak (pe_dget2 hu ho he hf m) fun σ H Q ⟨B, ρ, F, own, Qp, Ep, hK, ok, h, lx, k⟩ => by
    refine ⟨B, ρ, F, own, _, Ep, hK, ok, h, lx, fun cd ρ1 v H1 F1 own1 ok1 r1 s1 q1 => ?_⟩
    obtain ⟨F1', own1', ok1', s1', r1'⟩ := settle_ok ok1 r1
    obtain ⟨t1, q1⟩ := q1
    obtain ⟨d, e1, t1⟩ := withV_inv t1
    cases d with
    | dict kvs0 =>
      have vd := r1'.vw ok1' e1
      obtain ⟨a, ws, rfl, hw, _⟩ := vd
      refine ⟨a, rfl, .inl ⟨ws, .inl hw⟩, B, ρ1, F1', own1', _, Ep, hK, ok1', q1, lx, fun ck ρ2 y H2 F2 own2 ok2 r2 s2 q2 => ?_⟩
      obtain ⟨F2', own2', ok2', s2', r2'⟩ := settle_ok ok2 r2
      refine ⟨B, ρ2, F2', own2', _, Ep, hK, ok2', q2, lx, fun cx ρ3 z H3 F3 own3 ok3 r3 s3 q3 => ?_⟩
      obtain ⟨F3', own3', ok3', s3', r3'⟩ := settle_ok ok3 r3
      obtain ⟨d, e2, q3⟩ := withV_inv q3
      obtain ⟨e, e3, q3⟩ := withV_inv q3
      rw [settle_settle] at e2 e3
      obtain ⟨kvs, xx, key, rfl, ex, ek, q3⟩ := getP_inv q3
      have rd := (r1'.carry (H' := H3) ((s2.trans s2').trans (s3.trans s3')))
      have rk := (r2'.carry (H' := H3) (s3.trans s3'))
      obtain ⟨a', ws', ea, hw', fd⟩ := rd.vw ok3' e2
      cases ea
      have vk := rk.vw ok3' e3
      refine ⟨valV ws' key, by rw [vw_key vk ek]; exact DGet.k hw', ?_⟩
      have g := fzd_get (k := key) fd
      rw [ex] at r3'
      have fx : Fz B.K F3' z xx := r3'
      cases eg : dgetD kvs key with
      | none =>
        rw [eg] at g q3
        rw [g]
        exact k (.fz xx) ρ3 z H3 F3' own3' ok3' fx (((s1.trans s1').trans (s2.trans s2')).trans (s3.trans s3')) q3
      | some w =>
        rw [eg] at g q3
        obtain ⟨vv, g1, g2⟩ := g
        rw [g1]
        exact k (.fz w) ρ3 vv H3 F3' own3' ok3' g2 (((s1.trans s1').trans (s2.trans s2')).trans (s3.trans s3')) q3
    | _ => exact t1.elim
/-! ### list.index -/
def pIndex : Pf2 := fun d e k => match d with
  | .list ds => datOk e = true ∧ datOk (.list ds) = true ∧ optP (ds.findIdx? fun z => PyData.eqv z e) fun j => k (.fz (.int (j : Nat)))
  | _ => False
def isListV (ρ : PEnv) (c : C) : Prop := withV ρ c fun d => match d with
  | .list _ => True
  | _ => False
def gIndex (ga gb : G) : G := fun ρ Q Ep => ga ρ (fun c1 ρ1 => isListV ρ1 c1 ∧ gb ρ1 (fun c2 ρ2 => op2 pIndex (settle c1) (settle c2) ρ2 fun r => Q r ρ2) Ep) Ep
theorem r_index {K : Frag} : R2V K (fun x y H Q => rIndexD K x [y] H Q) pIndex := by
  intro F H x y d e Qp Q s vx vy h r
  unfold pIndex at h
  split at h
  · rename_i ds
    obtain ⟨h1, h2, h3⟩ := h
    obtain ⟨a1, a2⟩ := datOk_inv h1
    obtain ⟨b1, b2⟩ := datOk_inv h2
    obtain ⟨j, ej, h3⟩ := optP_inv h3
    obtain ⟨hj, hz, hn⟩ := List.findIdx?_eq_some_iff_getElem.mp ej
    have dl := vx.dp s b2
    obtain ⟨a, xs, rfl, _, _⟩ := vx
    refine ⟨a, y, e, ds, j, ds[j], rfl, rfl, dl, vy.dp s a2, b1, a1, List.getElem?_eq_getElem hj, hz, fun m z' hm e' => ?_, r.dat _ _ (.int _) h3⟩
    have := hn m hm
    obtain ⟨hm', em⟩ := List.getElem?_eq_some_iff.mp e'
    rw [← em]
    simpa using this
  · exact h.elim
theorem ge_index {o e : Expr} {ga gb : G} {apos pos : Pos} (ho : GE X E o ga) (he : GE X E e gb) (hs : starEach [e] X.env = (false, eval e X.env) :: starEach [] X.env)
    (hh : ∀ {to : TE} {t : TA}, PE X o to → PA X [e] t → PE X (.Call (.Attribute o "index" apos) [e] [] pos) (tBM X.K "list" (rIndexD X.K) to t)) : GE X E (.Call (.Attribute o "index" apos) [e] [] pos) (gIndex ga gb) :=
  pe_weak (hh ho (pa_cons he pa_nil hs)) fun σ H Q ⟨B, ρ, F, own, Qp, Ep, hK, ok, h, lx, k⟩ => by
    refine ⟨B, ρ, F, own, _, Ep, hK, ok, h, lx, fun c1 ρ1 x H1 F1 own1 ok1 r1 s1 q1 => ?_⟩
    obtain ⟨F1', own1', ok1', s1', r1'⟩ := settle_ok ok1 r1
    obtain ⟨t1, q1⟩ := q1
    obtain ⟨d, e1, t1⟩ := withV_inv t1
    split at t1
    · have vd := r1'.vw ok1' e1
      obtain ⟨a, ws, rfl, hw, _⟩ := vd
      refine ⟨.inl ⟨rfl, ws, SqL.of hw⟩, B, ρ1, F1', own1', _, Ep, hK, ok1', q1, lx, fun c2 ρ2 y H2 F2 own2 ok2 r2 s2 q2 => ?_⟩
      obtain ⟨F2', own2', ok2', s2', r2'⟩ := settle_ok ok2 r2
      exact op2_ok (r := fun x y H Q => rIndexD X.K x [y] H Q) (by rw [← hK]; exact r_index) ok2' (r1'.carry (s2.trans s2')) r2' q2 fun c v H' F' own' ok' rp s q => k c ρ2 v H' F' own' ok' rp ((s1.trans s1').trans ((s2.trans s2').trans s)) q
    · exact t1.elim
end
/-! ### sums, greatest and least -/
def intsD : List D → Option (List Int)
  | [] => some []
  | .int x :: ds => match intsD ds with
    | some xs => some (x :: xs)
    | none => none
  | _ => none
theorem intsD_eq : ∀ {ds : List D} {xs : List Int}, intsD ds = some xs → ds = xs.map .int
  | [], _, h => by cases h; rfl
  | .int x :: ds, xs, h => by
    unfold intsD at h
    split at h
    · rename_i ys q
      cases h
      rw [intsD_eq q]; rfl
    · cases h
  | .none :: _, _, h => by cases h
  | .bool _ :: _, _, h => by cases h
  | .str _ :: _, _, h => by cases h
  | .list _ :: _, _, h => by cases h
  | .tuple _ :: _, _, h => by cases h
  | .dict _ :: _, _, h => by cases h
theorem intsD_map : ∀ xs : List Int, intsD (xs.map .int) = some xs
  | [] => rfl
  | x :: xs => by
    show (match intsD (xs.map .int) with | some ys => some (x :: ys) | none => none) = _
    rw [intsD_map xs]
def pSum : PfL := fun ds k => match ds with
  | [.list xs] => optP (intsD xs) fun ns => k (.fz (.int ns.sum))
  | _ => False
theorem r_sum {K : Frag} : RLV K (rSum K) pSum := by
  intro F H xs ds Qp Q s vs h r
  unfold pSum at h
  split at h
  · obtain ⟨ns, e, q⟩ := optP_inv h
    have e := intsD_eq e
    subst e
    cases vs with
    | cons v w =>
      cases w
      obtain ⟨a, ys, rfl, h1, f⟩ := v
      rw [f.ints] at h1
      exact ⟨a, ns, rfl, SqL.of h1, r.dat _ _ (.int _) q⟩
  · exact h.elim
def pMax1 : PfL := fun ds k => match ds with
  | [.list xs] => optP (intsD xs) fun ns => 0 < ns.length ∧ ∀ m, m ∈ ns → (∀ y, y ∈ ns → y ≤ m) → k (.fz (.int m))
  | _ => False
theorem r_max1 {K : Frag} : RLV K (rMax K) pMax1 := by
  intro F H xs ds Qp Q s vs h r
  unfold pMax1 at h
  split at h
  · obtain ⟨ns, e, h0, q⟩ := optP_inv h
    have e := intsD_eq e
    subst e
    cases vs with
    | cons v w =>
      cases w
      obtain ⟨a, ys, rfl, h1, f⟩ := v
      rw [f.ints] at h1
      exact ⟨a, ns, rfl, SqL.of h1, h0, fun m hm hle => r.dat _ _ (.int _) (q m hm hle)⟩
  · exact h.elim
def pMin1 : PfL := fun ds k => match ds with
  | [.list xs] => optP (intsD xs) fun ns => 0 < ns.length ∧ ∀ m, m ∈ ns → (∀ y, y ∈ ns → m ≤ y) → k (.fz (.int m))
  | _ => False
theorem r_min1 {K : Frag} : RLV K (rMin K) pMin1 := by
  intro F H xs ds Qp Q s vs h r
  unfold pMin1 at h
  split at h
  · obtain ⟨ns, e, h0, q⟩ := optP_inv h
    have e := intsD_eq e
    subst e
    cases vs with
    | cons v w =>
      cases w
      obtain ⟨a, ys, rfl, h1, f⟩ := v
      rw [f.ints] at h1
      exact ⟨a, ns, rfl, SqL.of h1, h0, fun m hm hle => r.dat _ _ (.int _) (q m hm hle)⟩
  · exact h.elim
end P

set_option Elab.async false
set_option linter.all false
set_option maxRecDepth 100000
set_option maxHeartbeats 4000000
/-! The P-layer, G: defs called where nothing is being shown (repr's guards are empty), repr of data. -/
namespace P
open PySem PySem.Spec PyProof.Rows L2
/-- room, and no repr under way -/
structure RoomG (k : Nat) (A : Around) : Prop where
  r : Room k A
  g : A.guards = some []
theorem RoomG.mono {j k : Nat} {A : Around} (h : RoomG k A) (l : j ≤ k) : RoomG j A := ⟨h.r.mono l, h.g⟩
theorem RoomG.hd {k : Nat} {A : Around} (h : RoomG k A) : A.handled = none := h.r.hd
theorem RoomG.deeper {k : Nat} {A : Around} (h : RoomG (k + 1) A) (env : Env) : RoomG k (A.deeper env) := ⟨h.r.deeper env, h.g⟩
section
variable {P : Program} {w : World} {K : Frag} {mg : Str → Option Value} {base : Heap} {CX : CXT} {k : Nat} {f : Addr} {fd : FuncData} {ps : List Str} {sp : Sp}
/-- a def's promise, where no repr is under way -/
structure FnG (P : Program) (w : World) (K : Frag) (mg : Str → Option Value) (base : Heap) (CX : CXT) (k : Nat) (f : Addr) (fd : FuncData) (ps : List Str) (sp : Sp) : Prop where
  len : ∀ {vs H Q E}, sp vs H Q E → vs.length = ps.length
  go : ∀ {A outer s H args us vs Q E}, RoomG k A → Env0 P w K mg base A outer s H → BindsTo s fd args (ps.zip us) → Vals vs us → sp vs H Q E →
    codeAny (model P w) A (.call (.ref f) args) (CR CX outer P w H s Q E) s
theorem FnG.of (F : FnOk P w K mg base CX k f fd ps sp) : FnG P w K mg base CX k f fd ps sp := ⟨fun h => F.len _ _ _ _ h, fun hr e b v h => F.run _ _ _ _ _ _ _ _ _ hr.r e b v h⟩
theorem FnG.mono {j : Nat} (F : FnG P w K mg base CX j f fd ps sp) (l : j ≤ k) : FnG P w K mg base CX k f fd ps sp := ⟨fun h => F.len h, fun hr e b v h => F.go (hr.mono l) e b v h⟩
theorem FnG.imp {sp' : Sp} (F : FnG P w K mg base CX k f fd ps sp) (i : ∀ vs H Q E, sp' vs H Q E → sp vs H Q E) : FnG P w K mg base CX k f fd ps sp' := ⟨fun h => F.len (i _ _ _ _ h), fun hr e b v h => F.go hr e b v (i _ _ _ _ h)⟩
end
section
variable {X : Cx} {CX : CXT} {k : Nat} {f : Addr} {fd : FuncData} {ps : List Str} {sp : Sp} {dvs : List V} {ds : List Value} {E : XK} {x : Str} {p pos : Pos} {e : Expr} {es : List Expr} {t : TA}
theorem FnG.runs {pins : List (Addr × Obj)} {σ : L2.St} {H : Hp} {s : Shared} {Q : VK} {us : List Value} {vs : List V} (F : FnG X.prog X.w X.K X.mg X.base CX k f fd ps sp) (room : RoomG k X.A)
    (bi : Binds X.K fd ps ds) (dv : Vals dvs ds) (px : Passes CX X E) (I : Inv X pins σ H s) (rv : Vals vs us) (want : sp (vs ++ dvs) H Q E) :
    wpAny (model X.prog X.w) X.A (call (.ref f) us) (EP X pins σ Q) X.xe s := by
  have all := rv.append dv
  have len : (us ++ ds).length = ps.length := all.length ▸ F.len want
  apply wpAny_call
  refine codeAny_mono (F.go room I.env0 (bi s us I.kIn len) all want) ?_
  intro res s' q
  match res, q with
  | .ok (.ret u), q => exact I.after q
  | .ok .next, q => exact q.elim
  | .ok .brk, q => exact q.elim
  | .ok .cont, q => exact q.elim
  | .error e, q => exact px pins σ H s e s' I q
theorem pe_callG (F : FnG X.prog X.w X.K X.mg X.base CX k f fd ps sp) (room : RoomG k X.A) (gl : Gl X x) (at_ : X.mg x = some (.ref f)) (kp : PySem.W.keepIn X.K (.ref f) = true) (bi : Binds X.K fd ps ds) (dv : Vals dvs ds) (px : Passes CX X E)
    (args : PA X (e :: es) t) (dbg : (x == ("__debug__" : Str)) = false) (each : starEach (e :: es) X.env = (false, eval e X.env) :: starEach es X.env) (plain : (backTo pos (starEach es X.env)).any (·.1) = false) :
    PE X (.Call (.Name x p) (e :: es) [] pos) (tCall sp dvs E t) :=
  ⟨fun pins s σ H Q I want => wpAny_Call_Name_kw (ld_glob I gl at_ (PySem.W.callWith_K (h₀ := X.base) I.ok.mod.kin kp
    (thn (args.run pos pins s σ H _ I want) fun us s1 ⟨vs, H1, I1, rv, q⟩ => ⟨I1.kIn, F.runs room bi dv px I1 rv q⟩) each plain) dbg)⟩
end
section
variable {P : Program} {w : World} {K : Frag} {mg : Str → Option Value} {base : Heap} {CX : CXT} {k : Nat} {f : Addr} {fd : FuncData} {x qual : Str} {params : Arguments} {body : List Stmt} {scope : Scope} {N ps : List Str} {dfl : List V} {kws : List (Str × V)} {sp : Sp}
/-- a def by its body -/
theorem okG (F : FunD K x qual params body scope dfl kws f fd) (S : FnScope N ps scope) (len : ∀ vs H Q E, sp vs H Q E → vs.length = ps.length)
    (walk : ∀ (cdv : Value) (A : Around) (outer : List Env) (s : Shared) (H : Hp) (vs : List V) (Q : VK) (E : XK), RoomG k (A.deeper (envOfC qual scope s.heap.objs.size f cdv)) → sp vs H Q E →
      ∃ t, PSs (cxOf CX P w K mg base N qual scope f cdv A outer s H E) body t ∧ t { nx := fun _ H' => Q .non H', rt := Q } (start N vs) H) : FnG P w K mg base CX (k + 1) f fd ps sp := by
  obtain ⟨oc, od, dV, kV, doc, pm, an, cdv, ct, osl, rfl, at_f, code, -, -⟩ := F.ex
  refine ⟨fun h => len _ _ _ _ h, ?_⟩
  intro A outer s H args us vs Q E room env bind vals want
  have count := len _ _ _ _ want
  have same : ∀ b o, base.get? b = some o → s.heap.get? b = some o := fun b o z => (env.bs b o z).1
  have inK : K.In s.heap := env.mod.kin.keeps same
  have slots : ∀ y ∈ ps.zip us, scope.names.lookup y.1 = some .local ∨ (scope.names.lookup y.1 = some .cell ∧ ((cellsFrom (s.heap.objs.size + 1) scope.names []).lookup y.1).isSome = true) := by
    rintro ⟨n, v⟩ hy
    refine (S.par n (List.of_mem_zip hy).1).imp id fun c => ⟨c, PySem.W.cellsFrom_some _ _ _ (.inl c)⟩
  refine codeAny_call_function room.r.depth (inK _ _ at_f) rfl S.co S.gen rfl (PySem.W.codeRec_of inK code) (bind _ _ _ _ ?_)
  refine wpAny_newFunctionEnv_cells S.kind slots ?_
  rintro env' rfl s1 fresh
  refine ⟨(env.mod.nolimit.keeps same).keeps fresh.toInCall.keep, codeAny_func ?_⟩
  obtain ⟨t, walked, got⟩ := walk cdv A outer s H vs Q E (room.deeper _) want
  have I := inv_start (CX := CX) (E := E) S room.hd env count vals fresh
  refine wpAny_mono (walked.run [] s1 (start N vs) H _ I got) (fun fl s' z => ?_) fun _ _ z => z
  match fl, z with
  | .ret u, ⟨v, σ', H', J, rel, q⟩ => exact ⟨v, H', J.os, J.bare, J.base, J.hok, rel, q⟩
  | .next, ⟨σ', H', J, q⟩ => exact ⟨V.non, H', J.os, J.bare, J.base, J.hok, (rfl : RelV V.non Value.none), q⟩
  | .brk, ⟨_, _, _, q⟩ => exact q.elim
  | .cont, ⟨_, _, _, q⟩ => exact q.elim
end
/-! ### a law's own call -/
theorem roomC {k : Nat} (h : Room k callerA) : RoomG k callerA := ⟨h, rfl⟩
section
variable {P : Program} {w : World} {K : Frag} {mg mb : Str → Option Value} {k : Nat} {fa a : Addr} {fd : FuncData} {x : Str} {sp : Sp} {s₁ : Shared} {vs : List Value} {ns : List Int}
abbrev Ended (s₁ : Shared) : Result → Shared → Prop := fun r s' => r = .ok (.ret (.bool true)) ∧ OldK s₁.heap s'.heap ∧ s'.os = s₁.os ∧ AllBare s'.gens
/-- .. over an abstract heap that holds at most the script -/
theorem top_core (inK : K.In s₁.heap) (nm : s₁.heap.Ns mainGlobals mg) (nb : s₁.heap.Ns builtinsNs mb) (boot : ∀ y : Str, y ≠ "__name__" → mb y = bootBuiltins y) (lim : s₁.heap.NoLimit) (g0 : s₁.gens = #[])
    (obj : s₁.heap.get? a = some { cls := .type "list", data := .seq vs.toArray }) (room : Room k callerA)
    (F : ∀ base : Heap, K.In base → base.Ns mainGlobals mg → FnG P w K mg base CX0 k fa fd [x] sp) (bind : ∀ (s : Shared) (u : Value), BindsTo s fd ⟨[u], []⟩ [(x, u)])
    {H : Hp} (only : Only H) (want : sp [.ref a] H (fun v _ => v = .bl true) fun _ _ _ => False) (hok : HOk P w H s₁.heap) (at_a : ∀ b, H b ≠ none → b = a) (not_k : H a ≠ none → K.lookup a = none) :
    codeAny (model P w) callerA (.call (.ref fa) ⟨[.ref a], []⟩) (Ended s₁) s₁ := by
  have free : ∀ {b : Addr} {o : Obj}, s₁.heap.get? b = some o → (b = a → H a = none) → H b = none := by
    intro b o _ h
    by_cases e : H b = none
    · exact e
    · have q := at_a b e
      subst q
      exact h rfl
  have dictFree : ∀ {b : Addr} {o : Obj} {es : Array DictEntry} {ep : Nat}, s₁.heap.get? b = some o → o.data = .dict es ep → H b = none := by
    intro b o es ep e d
    by_cases q : b = a
    · subst q
      rw [obj] at e
      cases e
      exact nomatch (show Data.seq vs.toArray _ = Data.dict es ep from d)
    · exact free e fun z => (q z).elim
  have nsT : ∀ {b : Addr} {m : Str → Option Value}, s₁.heap.Ns b m → (hidT s₁.heap H).Ns b m := by
    rintro b m ⟨o, es, ep, e, d, r⟩
    exact ⟨o, es, ep, hidT_get e (dictFree e d), d, r⟩
  have inT : K.In (hidT s₁.heap H) := by
    intro b o e
    refine hidT_get (inK b o e) (free (inK b o e) ?_)
    rintro rfl
    by_cases z : H b = none
    · exact z
    · rw [not_k z] at e
      cases e
  have modT : Mod K mg (hidT s₁.heap H) := by
    obtain ⟨mc, h1, h2⟩ := lim
    exact ⟨inT, nsT nm, ⟨mb, nsT nb, boot⟩, ⟨mc, nsT h1, h2⟩⟩
  have env : Env0 P w K mg (hidT s₁.heap H) callerA [] s₁ H := ⟨rfl, modT, (fun b o e => of_hidT e), Nat.le_of_eq (hidT_size _ _), trivial, (fun b hb => nomatch (show b ∈ ([] : List Addr) from hb)), hok, .of_eq g0⟩
  refine codeAny_mono ((F _ inT (nsT nm)).go (us := [.ref a]) (vs := [.ref a]) (roomC room) env (bind s₁ (.ref a)) (.cons rfl .nil) want) ?_
  intro res s' q
  match res, q with
  | .error _, q => exact q.elim
  | .ok .next, q => exact q.elim
  | .ok .brk, q => exact q.elim
  | .ok .cont, q => exact q.elim
  | .ok (.ret u), ⟨v, H', os, bare, un, hok', rel, z⟩ =>
    have z : v = .bl true := z
    subst z
    cases (show u = Value.bool true from rel)
    refine ⟨rfl, OldK.of_keep fun b o e => ?_, os, bare⟩
    rcases only b with n | ⟨ob, xs, n⟩
    · exact un.keep b o e n (fun m => nomatch (show b ∈ ([] : List Addr) from m)) List.not_mem_nil
    · have now := un.frzs b ob _ n
      have h1 := (hok b _ n).1
      have h2 := (hok' b _ now).1
      rw [e] at h1
      cases h1
      exact h2
theorem top_call (inK : K.In s₁.heap) (nm : s₁.heap.Ns mainGlobals mg) (nb : s₁.heap.Ns builtinsNs mb) (boot : ∀ y : Str, y ≠ "__name__" → mb y = bootBuiltins y) (lim : s₁.heap.NoLimit) (g0 : s₁.gens = #[])
    (obj : s₁.heap.get? a = some { cls := .type "list", data := .seq vs.toArray }) (nums : IntsAre vs ns) (few : ns.length ≤ sizeLine) (room : Room k callerA)
    (F : ∀ base : Heap, K.In base → base.Ns mainGlobals mg → FnG P w K mg base CX0 k fa fd [x] sp) (bind : ∀ (s : Shared) (u : Value), BindsTo s fd ⟨[u], []⟩ [(x, u)])
    (want : ∀ H : Hp, Only H → SqL K H a (ns.map V.int) → sp [.ref a] H (fun v _ => v = .bl true) fun _ _ _ => False) :
    codeAny (model P w) callerA (.call (.ref fa) ⟨[.ref a], []⟩) (Ended s₁) s₁ := by
  have rel := vals_ints nums
  have count := nums.length
  by_cases lk : ∃ o, K.lookup a = some o
  · obtain ⟨o, lk⟩ := lk
    have e := inK a o lk
    rw [obj] at e
    cases e
    have sq : SqL K (fun _ => none) a (ns.map V.int) := .inr ⟨_, vs.toArray, _, lk, rfl, rfl, rfl, by rw [List.size_toArray, count]; exact few, by simpa using rel⟩
    exact top_core inK nm nb boot lim g0 obj room F bind (H := fun _ => none) (fun _ => .inl rfl) (want _ (fun _ => .inl rfl) sq) (fun b u z => nomatch (show (none : Option HO) = some u from z)) (fun b z => (z rfl).elim) fun z => (z rfl).elim
  · have lk : K.lookup a = none := Option.eq_none_iff_forall_ne_some.mpr fun o z => lk ⟨o, z⟩
    have here : ∀ b : Addr, b = a ∨ b ≠ a := fun b => Classical.em _
    have only : Only fun b => if b = a then some (.frz { cls := .type "list", data := .seq vs.toArray } (.lst (ns.map V.int))) else none := fun b => by
      rcases here b with q | q
      · exact .inr ⟨_, _, if_pos q⟩
      · exact .inl (if_neg q)
    refine top_core inK nm nb boot lim g0 obj room F bind only (want _ only (.inl (.inr ⟨_, if_pos rfl⟩))) (fun b u z => ?_) (fun b z => ?_) fun _ => lk
    · rcases here b with q | q
      · cases (if_pos q).symm.trans z
        subst q
        exact ⟨obj, by rw [List.length_map]; exact few, vs, _, rel, obj⟩
      · exact nomatch (if_neg q).symm.trans z
    · rcases here b with q | q
      · exact q
      · exact (z (if_neg q)).elim
end
/-- a law over its head's facts -/
theorem walk_ofG {l : PySem.W.OpenLaw} {n k : Nat} {q : Program} {loose : List Str} {XP : (Str → Option Value) → Heap → Prop} {YP : World → Heap → Prop} {d : DefRec} {x : Str} (most : l.most = some n) (fits : n ≤ sizeLine) (plain : d.params.defaults = []) (room : Room k callerA)
    (F : ∀ (w : World) (mg : Str → Option Value) (fa : Addr) (h : Heap), YP w h → h.Ns mainGlobals mg → mg d.name = some (.ref fa) → ∃ (K : Frag) (fd : FuncData) (sp : Sp), K.In h ∧ (∀ (s : Shared) (u : Value), BindsTo s fd ⟨[u], []⟩ [(x, u)]) ∧
      (∀ (H : Hp) (a : Addr) (ns : List Int), ns.length ≤ n → Only H → SqL K H a (ns.map V.int) → sp [.ref a] H (fun v _ => v = .bl true) fun _ _ _ => False) ∧ ∀ base : Heap, K.In base → base.Ns mainGlobals mg → FnG l.prog w K mg base CX0 k fa fd [x] sp) :
    PySem.W.WalkO q loose XP YP l.row.toRowW d [] (fun f vs => PySem.call f vs) := by
  refine Att.attach_call most plain ?_
  intro w s₀ s₁ mg mb fa o pm cd doc a vs ns G Y ho hd hcd at_ obj nums few g0
  obtain ⟨K, fd, sp, inK, bind, want, good⟩ := F w mg fa _ Y G.T.g at_
  exact top_call inK G.T.g G.T.b G.T.builtins G.T.nolimit g0 obj nums (Nat.le_trans few fits) room good bind fun H o s => want H a ns few o s
end P
namespace P
open PySem PySem.Spec PyProof.Rows L2
/-! ### repr of data -/
/-- a bound of what a datum's text has in signs; none: it cannot be told -/
def reprOk (d : D) : Bool := d.showable && decide (d.depth ≤ 64) && !hasDict d && decide (d.shown.length ≤ sizeLine)
def rRepr (K : Frag) : V → Hp → VK → Prop := fun x H Q => ∃ d, Dp K H x d ∧ d.showable = true ∧ d.depth ≤ 64 ∧ d.hasDict = false ∧ d.shown.length ≤ sizeLine ∧ Q (.str d.shown) H
theorem call_reprD {X : Cx} {k : Nat} (room : RoomG k X.A) : CallR X (.builtin "repr") (fun xs H Q => ∃ x, xs = [x] ∧ rRepr X.K x H Q) := by
  intro pins s σ H xs us Q I r h
  obtain ⟨x, rfl, d, dp, sh, dep, nd, few, q⟩ := h
  obtain ⟨u, rfl, rel⟩ := vals1 r
  obtain ⟨as, rd⟩ := Dp.reads I d x u dp rel
  have un := room.r.un
  have ref : ∀ b : Addr, u = .ref b → wpAny (model X.prog X.w) X.A (call (.builtin "repr") [u]) (EP X pins σ Q) X.xe s := by
    rintro b rfl
    refine repr_of_reads' rd sh (fun z => ?_) room.g (by omega) (fun _ _ z => z) (fun h' tk t keep => ⟨.str _, H, I.kept keep, ⟨_, rfl⟩, q⟩) few
    rw [nd] at z
    cases z
  cases dp with
  | non =>
    cases rel
    exact PySem.P.repr_of_none ⟨.str _, H, I.tok _, ⟨_, rfl⟩, q⟩
  | bl b =>
    cases rel
    exact PySem.P.repr_of_bool ⟨.str _, H, I.tok _, ⟨_, rfl⟩, q⟩
  | int i =>
    obtain ⟨t, rfl⟩ := rel
    exact PySem.P.repr_of_int (of_decide_eq_true (by simpa [PyData.showable] using sh)) ⟨.str _, H, I.tok _, ⟨_, rfl⟩, q⟩
  | str y =>
    obtain ⟨t, rfl⟩ := rel
    exact PySem.P.repr_of_str ⟨.str _, H, I.tok _, ⟨_, rfl⟩, q⟩ few
  | lst h1 h2 =>
    cases rel
    exact ref _ rfl
  | tup h1 h2 =>
    cases rel
    exact ref _ rfl
def pRepr : PfL := fun ds k => match ds with
  | [d] => reprOk d = true ∧ k (.fz (.str d.shown))
  | _ => False
mutual
theorem hasD_eq : ∀ d : D, d.hasDict = hasDict d
  | .none => rfl
  | .bool _ => rfl
  | .int _ => rfl
  | .str _ => rfl
  | .list xs => by rw [PyData.hasDict, hasDict]; exact hasD_all xs
  | .tuple xs => by rw [PyData.hasDict, hasDict]; exact hasD_all xs
  | .dict kvs => by rw [PyData.hasDict, hasDict]
theorem hasD_all : ∀ xs : List D, PyData.hasDictAll xs = hasDict.anyDict xs
  | [] => rfl
  | x :: xs => by rw [PyData.hasDictAll, hasDict.anyDict, hasD_eq x, hasD_all xs]
end
theorem r_repr {K : Frag} : RLV K (fun xs H Q => ∃ x, xs = [x] ∧ rRepr K x H Q) pRepr := by
  intro F H xs ds Qp Q s vx h r
  unfold pRepr at h
  split at h
  · rename_i d
    cases vx with
    | cons v1 v2 =>
      cases v2
      obtain ⟨h1, h⟩ := h
      unfold reprOk at h1
      simp only [Bool.and_eq_true, decide_eq_true_eq, Bool.not_eq_true'] at h1
      obtain ⟨⟨⟨a1, a2⟩, a3⟩, a4⟩ := h1
      exact ⟨_, rfl, d, v1.dp s a3, a1, a2, by rw [hasD_eq]; exact a3, a4, r.dat _ _ (.str _) h⟩
  · exact h.elim
/-- a datum that can be told: at most n signs, at most dep deep -/
structure Shw (n dep : Nat) (d : D) : Prop where
  sh : d.showable = true
  dp : d.depth ≤ dep
  nd : hasDict d = false
  len : d.shown.length ≤ n
theorem Shw.ok {n dep : Nat} {d : D} (h : Shw n dep d) (hn : n ≤ 16777216) (hd : dep ≤ 64) : reprOk d = true := by
  have e : sizeLine = 16777216 := sizeLine_eq
  unfold reprOk
  rw [h.sh, h.nd, decide_eq_true (Nat.le_trans h.dp hd), decide_eq_true (by have := h.len; omega : d.shown.length ≤ sizeLine)]
  rfl
theorem Shw.mono {n m dep dep' : Nat} {d : D} (h : Shw n dep d) (hn : n ≤ m) (hd : dep ≤ dep') : Shw m dep' d := ⟨h.sh, Nat.le_trans h.dp hd, h.nd, Nat.le_trans h.len hn⟩
theorem Shw.none : Shw 4 0 .none := ⟨rfl, Nat.le_refl _, rfl, by decide⟩
theorem Shw.bool {b : Bool} : Shw 5 0 (.bool b) := ⟨rfl, Nat.le_refl _, rfl, by cases b <;> decide⟩
theorem Shw.int {i : Int} {k : Nat} (hk : 0 < k) (h : i.natAbs.log2 < k) (hk2 : k ≤ 1920) : Shw (k + 1) 0 (.int i) :=
  ⟨by rw [PyData.showable]; exact decide_eq_true (by omega), Nat.le_refl _, rfl, by rw [PyData.shown]; show (Str.ofString (toString i)).length ≤ _; exact by rw [PySem.ofString_length]; exact int_text_length_le hk h⟩
theorem shwAll {ds : List D} {n dep : Nat} (h : ∀ d ∈ ds, Shw n dep d) : PyData.showableAll ds = true ∧ PyData.depthAll ds ≤ dep ∧ hasDict.anyDict ds = false ∧ (PyData.shownAll ds).length = ds.length ∧ ∀ t ∈ PyData.shownAll ds, t.length ≤ n := by
  induction ds with
  | nil => exact ⟨rfl, Nat.zero_le _, rfl, rfl, fun t ht => by rw [PyData.shownAll] at ht; cases ht⟩
  | cons d ds ih =>
    obtain ⟨a1, a2, a3, a4, a5⟩ := ih fun x hx => h x (List.mem_cons_of_mem _ hx)
    have hd := h d List.mem_cons_self
    refine ⟨by rw [PyData.showableAll, hd.sh, a1]; rfl, by rw [PyData.depthAll]; exact Nat.max_le.mpr ⟨hd.dp, a2⟩, by rw [hasDict.anyDict, hd.nd, a3]; rfl, by rw [PyData.shownAll, List.length_cons, List.length_cons, a4], fun t ht => ?_⟩
    rw [PyData.shownAll] at ht
    rcases List.mem_cons.mp ht with rfl | ht
    · exact hd.len
    · exact a5 t ht
theorem join_few {n : Nat} : ∀ {ts : List Str}, (∀ t ∈ ts, t.length ≤ n) → (Str.join ", " ts).length ≤ ts.length * (n + 2)
  | [], _ => Nat.zero_le _
  | [x], h => by
    have := h x List.mem_cons_self
    show x.length ≤ 1 * (n + 2)
    omega
  | x :: y :: r, h => by
    have h1 := h x List.mem_cons_self
    have h2 := join_few (ts := y :: r) fun t ht => h t (List.mem_cons_of_mem _ ht)
    show (x ++ (", " : Str) ++ Str.join ", " (y :: r)).length ≤ _
    have e2 : (Str.ofString ", ").length = 2 := rfl
    rw [PySem.Str.length_append, PySem.Str.length_append, e2, List.length_cons, Nat.add_mul]
    omega
theorem from_few {n : Nat} : ∀ {ts : List Str} {k : Nat} {acc : Str}, (∀ t ∈ ts, t.length ≤ n) → (textFrom k acc ts).length ≤ acc.length + ts.length * (n + 2)
  | [], k, acc, _ => by show acc.length ≤ _; omega
  | x :: r, k, acc, h => by
    have h1 := h x List.mem_cons_self
    have h2 := from_few (ts := r) (k := k + 1) (acc := acc ++ (if k > 0 then ", " else "" : String) ++ x) fun t ht => h t (List.mem_cons_of_mem _ ht)
    have e : (acc ++ (if k > 0 then ", " else "" : String) ++ x).length ≤ acc.length + 2 + x.length := by
      rw [PySem.Str.length_append, PySem.Str.length_append]
      split
      · show acc.length + 2 + x.length ≤ _; omega
      · show acc.length + 0 + x.length ≤ _; omega
    rw [List.length_cons, Nat.add_mul]
    show (textFrom (k + 1) (acc ++ (if k > 0 then ", " else "" : String) ++ x) r).length ≤ _
    omega
theorem Shw.tup {ds : List D} {n dep c : Nat} (hl : ds.length ≤ c) (h : ∀ d ∈ ds, Shw n dep d) : Shw (c * (n + 2) + 3) (dep + 1) (.tuple ds) := by
  obtain ⟨a1, a2, a3, a4, a5⟩ := shwAll h
  refine ⟨by rw [PyData.showable]; exact a1, by rw [PyData.depth]; omega, by rw [hasDict]; exact a3, ?_⟩
  rw [PyData.shown]
  unfold tupleText
  have e := join_few a5
  have m := Nat.mul_le_mul_right (n + 2) (a4 ▸ hl : (PyData.shownAll ds).length ≤ c)
  have e1 : (Str.ofString "(").length = 1 := rfl
  rw [PySem.Str.length_append, PySem.Str.length_append, e1]
  split
  · show 1 + _ + 2 ≤ _; omega
  · show 1 + _ + 1 ≤ _; omega
theorem Shw.lst {ds : List D} {n dep c : Nat} (hl : ds.length ≤ c) (h : ∀ d ∈ ds, Shw n dep d) : Shw (c * (n + 2) + 3) (dep + 1) (.list ds) := by
  obtain ⟨a1, a2, a3, a4, a5⟩ := shwAll h
  refine ⟨by rw [PyData.showable]; exact a1, by rw [PyData.depth]; omega, by rw [hasDict]; exact a3, ?_⟩
  rw [PyData.shown]
  unfold listText
  have e := from_few (k := 0) (acc := "[") a5
  have m := Nat.mul_le_mul_right (n + 2) (a4 ▸ hl : (PyData.shownAll ds).length ≤ c)
  have e1 : (Str.ofString "]").length = 1 := rfl
  have e2 : (Str.ofString "[").length = 1 := rfl
  rw [PySem.Str.length_append, e1]
  have e : (textFrom 0 (Str.ofString "[") (PyData.shownAll ds)).length ≤ 1 + (PyData.shownAll ds).length * (n + 2) := e
  omega
end P

set_option Elab.async false
set_option linter.all false
set_option maxRecDepth 100000
set_option maxHeartbeats 4000000
/-! The P-layer, 10: short words for the printed derivations. -/
namespace P
open PySem L2
section
variable {X : Cx} {E : XK}
theorem gv (i : Nat) {x : Str} {pos : Pos} (hN : X.N[i]? = some x := by rfl) (hv : Vis X.env.scope x := by first | exact Or.inl rfl | exact Or.inr (Or.inl rfl) | exact Or.inr (Or.inr rfl)) (hd : (x == ("__debug__" : Str)) = false := by decide)
    (hcd : (x == ("__classdict__" : Str)) = false := by decide) : GE X E (.Name x pos) (gVar i) := ge_var hN hv hd hcd
def gUn (g : Int → Int) (ga : G) : G := fun ρ Q Ep => ga ρ (fun c ρ1 => intC c fun n => Q (.fz (.int (g n))) ρ1) Ep
theorem ge_neg {a : Expr} {ga : G} {pos : Pos} (ha : GE X E a ga) : GE X E (.UnaryOp .USub a pos) (gUn (fun i => -i) ga) :=
  pe_weak (pe_un un_neg ha) fun σ H Q ⟨B, ρ, F, own, Qp, Ep, hK, ok, h, lx, k⟩ => ⟨B, ρ, F, own, _, Ep, hK, ok, h, lx, fun c ρ1 v H1 F1 own1 ok1 r1 s1 q1 => by
    obtain ⟨n, rfl, q⟩ := intC_inv q1
    have r1 : Fz B.K F1 v (.int n) := r1
    cases r1
    exact ⟨n, rfl, k (.fz (.int (-n))) ρ1 _ H1 F1 own1 ok1 (Fz.int _) s1 q⟩⟩
/-- and, or, not as values -/
def boolC (c : C) (k : Bool → Prop) : Prop := match c with
  | .fz (.bool b) => k b
  | _ => False
theorem boolC_inv {c : C} {k : Bool → Prop} (h : boolC c k) : ∃ b, c = .fz (.bool b) ∧ k b := by
  unfold boolC at h
  split at h
  · exact ⟨_, rfl, h⟩
  · exact h.elim
def gAndV (ga gb : G) : G := fun ρ Q Ep => ga ρ (fun c ρ1 => boolC c fun b => iteB b (gb ρ1 Q Ep) (Q (.fz (.bool false)) ρ1)) Ep
def gOrV (ga gb : G) : G := fun ρ Q Ep => ga ρ (fun c ρ1 => boolC c fun b => iteB b (Q (.fz (.bool true)) ρ1) (gb ρ1 Q Ep)) Ep
theorem ge_one {op : PySem.BoolOp} {a : Expr} {g : G} {pos : Pos} (h : GE X E a g) : GE X E (.BoolOp op [a] pos) g := pe_one h
theorem ge_and {a b : Expr} {rest : List Expr} {ga gb : G} {pos : Pos} (ha : GE X E a ga) (hb : GE X E (.BoolOp .And (b :: rest) pos) gb) : GE X E (.BoolOp .And (a :: b :: rest) pos) (gAndV ga gb) :=
  pe_weak (pe_and ha hb) fun σ H Q ⟨B, ρ, F, own, Qp, Ep, hK, ok, h, lx, k⟩ => ⟨B, ρ, F, own, _, Ep, hK, ok, h, lx, fun c ρ1 v H1 F1 own1 ok1 r1 s1 q1 => by
    obtain ⟨b, rfl, q⟩ := boolC_inv q1
    have r1 : Fz B.K F1 v (.bool b) := r1
    cases r1
    refine ⟨b, rfl, ?_⟩
    cases b with
    | true =>
      rw [iteB_tt] at q; rw [if_pos rfl]
      exact ⟨B, ρ1, F1, own1, _, Ep, hK, ok1, q, lx, fun c2 ρ2 v2 H2 F2 own2 ok2 r2 s2 q2 => k c2 ρ2 v2 H2 F2 own2 ok2 r2 (s1.trans s2) q2⟩
    | false =>
      rw [iteB_ff] at q; rw [if_neg Bool.false_ne_true]
      exact k (.fz (.bool false)) ρ1 _ H1 F1 own1 ok1 (Fz.bl false) s1 q⟩
theorem ge_or {a b : Expr} {rest : List Expr} {ga gb : G} {pos : Pos} (ha : GE X E a ga) (hb : GE X E (.BoolOp .Or (b :: rest) pos) gb) : GE X E (.BoolOp .Or (a :: b :: rest) pos) (gOrV ga gb) :=
  pe_weak (pe_or ha hb) fun σ H Q ⟨B, ρ, F, own, Qp, Ep, hK, ok, h, lx, k⟩ => ⟨B, ρ, F, own, _, Ep, hK, ok, h, lx, fun c ρ1 v H1 F1 own1 ok1 r1 s1 q1 => by
    obtain ⟨b, rfl, q⟩ := boolC_inv q1
    have r1 : Fz B.K F1 v (.bool b) := r1
    cases r1
    refine ⟨b, rfl, ?_⟩
    cases b with
    | false =>
      rw [iteB_ff] at q; rw [if_neg Bool.false_ne_true]
      exact ⟨B, ρ1, F1, own1, _, Ep, hK, ok1, q, lx, fun c2 ρ2 v2 H2 F2 own2 ok2 r2 s2 q2 => k c2 ρ2 v2 H2 F2 own2 ok2 r2 (s1.trans s2) q2⟩
    | true =>
      rw [iteB_tt] at q; rw [if_pos rfl]
      exact k (.fz (.bool true)) ρ1 _ H1 F1 own1 ok1 (Fz.bl true) s1 q⟩
def gNotV (ga : G) : G := fun ρ Q Ep => ga ρ (fun c ρ1 => withV ρ1 c fun d => truD d fun b => Q (.fz (.bool (!b))) ρ1) Ep
theorem ge_not {a : Expr} {ga : G} {pos : Pos} (ha : GE X E a ga) : GE X E (.UnaryOp .Not a pos) (gNotV ga) :=
  pe_weak (pe_notT ha) fun σ H Q ⟨B, ρ, F, own, Qp, Ep, hK, ok, h, lx, k⟩ => ⟨B, ρ, F, own, _, Ep, hK, ok, h, lx, fun c ρ1 v H1 F1 own1 ok1 r1 s1 q1 => by
    obtain ⟨F1', own1', ok1', s1', r1'⟩ := settle_ok ok1 r1
    obtain ⟨d, e1, q⟩ := withV_inv q1
    obtain ⟨b, t, q⟩ := tru_v ok1'.sub (r1'.vw ok1' e1) q
    exact ⟨b, by rw [← hK]; exact t, k (.fz (.bool (!b))) ρ1 _ H1 F1' own1' ok1' (Fz.bl _) (s1.trans s1') q⟩⟩
end
/-! ### defs -/
/-- a def that may be called -/
structure Cal (P : Program) (w : World) (K : Frag) (mg : Str → Option Value) (base : Heap) (x : Str) (k : Nat) (sp : FnW) : Prop where
  ex : ∃ f fd ps, FnG P w K mg base CX0 k f fd ps (spG K sp) ∧ mg x = some (.ref f) ∧ PySem.W.keepIn K (.ref f) = true ∧ Binds K fd ps []
theorem ge_cal {X : Cx} {E : XK} {k k' : Nat} {sp : FnW} {x : Str} {p pos : Pos} {e : Expr} {es : List Expr} {ga : GA} (c : Cal X.prog X.w X.K X.mg X.base x k sp) (hr : RoomG k' X.A) (hk : k ≤ k') (hg : Gl X x) (ha : GAe X E (e :: es) ga)
    (hdb : (x == ("__debug__" : Str)) = false := by decide) (he : starEach (e :: es) X.env = (false, eval e X.env) :: starEach es X.env := by rfl) (hpl : (backTo pos (starEach es X.env)).any (·.1) = false := by rfl) : GE X E (.Call (.Name x p) (e :: es) [] pos) (gCall sp ga) := by
  obtain ⟨f, fd, ps, F, m, kp, b⟩ := c.ex
  exact pe_weak (pe_callG (E := E0) F (hr.mono hk) hg m kp b .nil pass0 ha hdb he hpl) fun _ _ _ h => dnCall h
section
open PyProof.Rows PySem.Spec
variable {P : Program} {w : World} {K : Frag} {mg : Str → Option Value} {base : Heap}
theorem def_okD {x qual : Str} {params : Arguments} {body : List Stmt} {scope : Scope} {f : Addr} {fd : FuncData} {N ps : List Str} {k : Nat} {sp : FnW} {s : S} (F : FunD K x qual params body scope [] [] f fd) (Sc : FnScope N ps scope) (len : ∀ cs Q, sp cs Q → cs.length = ps.length)
    (hb : ∀ (cdv : Value) (A : Around) (outer : List Env) (s0 : Shared) (H : Hp) (E : XK), RoomG k (A.deeper (envOfC qual scope s0.heap.objs.size f cdv)) → GSs (cxOf CX0 P w K mg base N qual scope f cdv A outer s0 H E).nox E0 body s)
    (hp : ∀ cs Q, sp cs Q → s (startP N cs) { nx := fun _ => Q (.fz .none), rt := Q }) : FnG P w K mg base CX0 (k + 1) f fd ps (spG K sp) := by
  refine okG F Sc (fun vs H Q E h => ?_) (fun cdv A outer s0 H vs Q E hr h => ⟨_, (hb cdv A outer s0 H E hr).nox, ?_⟩)
  · obtain ⟨a0, F, cs, Qp, ok, z, h, _⟩ := h
    rw [← z.length, len cs Qp h]
  · obtain ⟨a0, F, cs, Qp, ok, z, h, kk⟩ := h
    refine ⟨⟨K, a0, H, F⟩, startP N cs, F, (fun _ => none), _, rfl, start_ok ok z, hp cs Qp h, fun _ _ _ _ _ _ _ _ _ _ z => z.elim, fun ρ' σ' H' F' own' ok' q => ?_, fun c v H' F' own' ok' r q => ?_, fun _ _ _ _ _ _ z => z.elim, fun _ _ _ _ _ _ z => z.elim⟩
    · exact kk (.fz .none) .non H' F' own' ok'.nil Fz.non q
    · exact kk c v H' F' own' ok' r q
theorem cal_of {x : Str} {params : Arguments} {body : List Stmt} {scope : Scope} {f : Addr} {fd : FuncData} {N ps : List Str} {k : Nat} {sp : FnW} {s : S} (F : FunD K x x params body scope [] [] f fd) (m : mg x = some (.ref f))
    (hbind : ∀ (kV doc pm : Value) (an : Option Addr) (cdv ct : Value) (us : List Value), us.length = ps.length → bindArgs (PySem.W.fnOf x x params body scope .none kV doc pm an cdv ct) ⟨us, []⟩ = pure (ps.zip us)) (Sc : FnScope N ps scope) (len : ∀ cs Q, sp cs Q → cs.length = ps.length)
    (hb : ∀ (cdv : Value) (A : Around) (outer : List Env) (s0 : Shared) (H : Hp) (E : XK), RoomG k (A.deeper (envOfC x scope s0.heap.objs.size f cdv)) → GSs (cxOf CX0 P w K mg base N x scope f cdv A outer s0 H E).nox E0 body s)
    (hp : ∀ cs Q, sp cs Q → s (startP N cs) { nx := fun _ => Q (.fz .none), rt := Q }) : Cal P w K mg base x (k + 1) sp :=
  ⟨f, fd, ps, def_okD F Sc len hb hp, m, F.kp, F.bindsN hbind⟩
/-- a weaker promise -/
theorem Cal.imp {x : Str} {k : Nat} {sp sp' : FnW} (c : Cal P w K mg base x k sp) (h : ∀ cs Q, sp' cs Q → sp cs Q) : Cal P w K mg base x k sp' := by
  obtain ⟨f, fd, ps, F, m, kp, b⟩ := c.ex
  exact ⟨f, fd, ps, F.imp fun vs H Q E ⟨a0, F, cs, Qp, ok, z, q, kk⟩ => ⟨a0, F, cs, Qp, ok, z, h cs Qp q, kk⟩, m, kp, b⟩
end
theorem hu1 {k : Nat} {A : Around} (hr : RoomG k A) : A.units + 1 < cLine := by have := hr.r.un; omega
theorem hu64 {k : Nat} {A : Around} (hr : RoomG k A) : A.units + 64 < cLine := by have := hr.r.un; omega
theorem hu65 {k : Nat} {A : Around} (hr : RoomG k A) : A.units + 65 < cLine := by have := hr.r.un; omega
end P

set_option Elab.async false
set_option linter.all false
set_option maxRecDepth 100000
set_option maxHeartbeats 4000000
/-! The P-layer, 11: reading the readings: loops by invariants, tests, places. -/
namespace P
open PySem L2
theorem iteB_i {b : Bool} {A B : Prop} (h1 : b = true → A) (h2 : b = false → B) : iteB b A B := by
  cases b with
  | true => rw [iteB_tt]; exact h1 rfl
  | false => rw [iteB_ff]; exact h2 rfl
theorem iteB_t {b : Bool} {A B : Prop} (e : b = true) (h : A) : iteB b A B := by subst e; rw [iteB_tt]; exact h
theorem iteB_f {b : Bool} {A B : Prop} (e : b = false) (h : B) : iteB b A B := by subst e; rw [iteB_ff]; exact h
/-- by a decidable statement -/
theorem iteB_d {p A B : Prop} [Decidable p] (h1 : p → A) (h2 : ¬ p → B) : iteB (decide p) A B := iteB_i (fun h => h1 (of_decide_eq_true h)) fun h => h2 (of_decide_eq_false h)
theorem iteB_nd {p A B : Prop} [Decidable p] (h1 : ¬ p → A) (h2 : p → B) : iteB (!decide p) A B := iteB_i (fun h => h1 (by simpa using h)) fun h => h2 (by simpa using h)
/-- a for's loop -/
theorem for_inv {tg : Tg} {body : S} {Dp : PEnds} {ds : List D} {ρ : PEnv} (I : Nat → PEnv → Prop) (h0 : I 0 ρ)
    (hs : ∀ (i : Nat) (d : D) (ρ : PEnv) (K : PEnv → Prop), ds[i]? = some d → I i ρ → (∀ ρ', I (i + 1) ρ' → K ρ') → tg d ρ fun ρ1 => body ρ1 { Dp with nx := K, ct := K, bk := Dp.nx }) (hd : ∀ ρ, I ds.length ρ → Dp.nx ρ) : forW tg body Dp ds ρ := by
  have go : ∀ (n i : Nat) (ρ : PEnv), i + n = ds.length → I i ρ → forW tg body Dp (ds.drop i) ρ := by
    intro n
    induction n with
    | zero =>
      intro i ρ e hi
      have e : i = ds.length := by omega
      subst e
      rw [List.drop_length, forW_nil]
      exact hd ρ hi
    | succ n ih =>
      intro i ρ e hi
      have hlt : i < ds.length := by omega
      rw [List.drop_eq_getElem_cons hlt, forW_cons]
      exact hs i _ ρ _ (List.getElem?_eq_getElem hlt) hi fun ρ' q => ih (i + 1) ρ' (by omega) q
  exact go ds.length 0 ρ (by omega) h0
/-- over a range -/
theorem for_range' {tg : Tg} {body : S} {Dp : PEnds} {lo : Int} {n : Nat} {ρ : PEnv} (I : Nat → PEnv → Prop) (h0 : I 0 ρ)
    (hs : ∀ (i : Nat) (ρ : PEnv) (K : PEnv → Prop), i < n → I i ρ → (∀ ρ', I (i + 1) ρ' → K ρ') → tg (.int (lo + (i : Nat))) ρ fun ρ1 => body ρ1 { Dp with nx := K, ct := K, bk := Dp.nx }) (hd : ∀ ρ, I n ρ → Dp.nx ρ) : forW tg body Dp (rangeD lo n) ρ := by
  refine for_inv I h0 (fun i d ρ K e hi hk => ?_) (by rw [rangeD_length]; exact hd)
  have hlt : i < n := by
    have := (List.getElem?_eq_some_iff.mp e).1
    rw [rangeD_length] at this
    exact this
  rw [rangeD_get hlt] at e
  cases e
  exact hs i ρ K hlt hi hk
/-- one turn of a comprehension: Y takes the item that is made, N is for a turn that makes none -/
def lcT (tg : Tg) (tt : GT) (te : G) (vs : List Nat) (ρ : PEnv) (acc : List D) (d : D) (Y : D → Prop) (N : Prop) : Prop :=
  tg d ρ fun ρ1 => wipeP ρ1 vs = ρ ∧ tt ρ1 (fun b ρ2 => ρ2 = ρ1 ∧ iteB b (te ρ1 (fun c ρ3 => ρ3 = ρ1 ∧ withD ρ1 [settle c] fun xs ρ4 => ρ4 = ρ1 ∧ acc.length < sizeLine ∧ match xs with
    | [x] => Y x
    | _ => False) Never) N) Never
theorem lc_inv {tg : Tg} {tt : GT} {te : G} {vs : List Nat} {ρ : PEnv} {k : List D → Prop} {ds : List D} (I : Nat → List D → Prop) (h0 : I 0 [])
    (hs : ∀ (i : Nat) (d : D) (acc : List D) (Y : D → Prop) (N : Prop), ds[i]? = some d → I i acc → (∀ x, I (i + 1) (acc ++ [x]) → Y x) → (I (i + 1) acc → N) → lcT tg tt te vs ρ acc d Y N) (hd : ∀ acc, I ds.length acc → k acc) : lcW tg tt te vs ρ k [] ds := by
  have go : ∀ (n i : Nat) (acc : List D), i + n = ds.length → I i acc → lcW tg tt te vs ρ k acc (ds.drop i) := by
    intro n
    induction n with
    | zero =>
      intro i acc e hi
      have e : i = ds.length := by omega
      subst e
      rw [List.drop_length, lcW_nil]
      exact hd acc hi
    | succ n ih =>
      intro i acc e hi
      have hlt : i < ds.length := by omega
      rw [List.drop_eq_getElem_cons hlt, lcW_cons]
      exact hs i _ acc (fun x => lcW tg tt te vs ρ k (acc ++ [x]) (ds.drop (i + 1))) (lcW tg tt te vs ρ k acc (ds.drop (i + 1))) (List.getElem?_eq_getElem hlt) hi (fun x q => ih (i + 1) _ (by omega) q) fun q => ih (i + 1) _ (by omega) q
  exact go ds.length 0 [] (by omega) h0
theorem sizeLine_val : sizeLine = 16777216 := sizeLine_eq
/-- each item gives one -/
theorem lc_rel {tg : Tg} {tt : GT} {te : G} {vs : List Nat} {ρ : PEnv} {k : List D → Prop} {ds : List D} (R : Nat → D → D → Prop) (hz : ds.length ≤ 1000000)
    (hs : ∀ (i : Nat) (d : D) (acc : List D) (Y : D → Prop) (N : Prop), ds[i]? = some d → acc.length < sizeLine → (∀ x, R i d x → Y x) → lcT tg tt te vs ρ acc d Y N) (hd : ∀ xs : List D, xs.length = ds.length → (∀ i d x, ds[i]? = some d → xs[i]? = some x → R i d x) → k xs) : lcW tg tt te vs ρ k [] ds := by
  refine lc_inv (fun i acc => i ≤ ds.length ∧ acc.length = i ∧ ∀ j d x, ds[j]? = some d → acc[j]? = some x → R j d x) ⟨Nat.zero_le _, rfl, fun j d x _ e => by simp at e⟩ (fun i d acc Y N e hi hY _ => ?_) fun acc h => hd acc h.2.1 h.2.2
  obtain ⟨h1, h2, h3⟩ := hi
  have hlt : i < ds.length := (List.getElem?_eq_some_iff.mp e).1
  refine hs i d acc Y N e (by rw [sizeLine_val]; omega) fun x r => hY x ⟨by omega, by rw [List.length_append, h2]; rfl, fun j d' x' e1 e2 => ?_⟩
  by_cases hj : j < acc.length
  · rw [List.getElem?_append_left hj] at e2
    exact h3 j d' x' e1 e2
  · have hj2 : j = acc.length := by
      have := (List.getElem?_eq_some_iff.mp e2).1
      rw [List.length_append] at this
      have : j < acc.length + 1 := this
      omega
    subst hj2
    rw [h2] at e1
    rw [e] at e1
    cases e1
    have e2 : x = x' := by simpa using e2
    subst e2
    rw [h2]
    exact r
/-- each item gives one, by a function -/
theorem lc_map {tg : Tg} {tt : GT} {te : G} {vs : List Nat} {ρ : PEnv} {k : List D → Prop} {ds : List D} (f : D → D) (hz : ds.length ≤ 1000000)
    (hs : ∀ (d : D) (acc : List D) (Y : D → Prop) (N : Prop), d ∈ ds → acc.length < sizeLine → Y (f d) → lcT tg tt te vs ρ acc d Y N) (hd : k (ds.map f)) : lcW tg tt te vs ρ k [] ds := by
  refine lc_rel (fun _ d x => x = f d) hz (fun i d acc Y N e hl hY => hs d acc Y N (List.mem_of_getElem? e) hl (hY _ rfl)) fun xs hl h => ?_
  have e : xs = ds.map f := by
    refine List.ext_getElem? fun i => ?_
    rw [List.getElem?_map]
    by_cases hi : i < ds.length
    · rw [List.getElem?_eq_getElem hi, List.getElem?_eq_getElem (by omega), h i _ _ (List.getElem?_eq_getElem hi) (List.getElem?_eq_getElem (by omega))]
      rfl
    · rw [List.getElem?_eq_none (by omega), List.getElem?_eq_none (by omega)]
      rfl
  rw [e]
  exact hd
/-- some items give one -/
theorem lc_filterMap {tg : Tg} {tt : GT} {te : G} {vs : List Nat} {ρ : PEnv} {k : List D → Prop} {ds : List D} (f : D → Option D) (hz : ds.length ≤ 1000000)
    (hs : ∀ (d : D) (acc : List D) (Y : D → Prop) (N : Prop), d ∈ ds → acc.length < sizeLine → (∀ x, f d = some x → Y x) → (f d = none → N) → lcT tg tt te vs ρ acc d Y N) (hd : k (ds.filterMap f)) : lcW tg tt te vs ρ k [] ds := by
  refine lc_inv (fun i acc => acc = (ds.take i).filterMap f) (by simp) (fun i d acc Y N e hi hY hN => ?_) fun acc h => by rw [h, List.take_length]; exact hd
  have ht : ds.take (i + 1) = ds.take i ++ [d] := by rw [List.take_succ, e]; rfl
  have hl : acc.length ≤ i := by
    rw [hi]
    exact Nat.le_trans (List.length_filterMap_le _ _) (by rw [List.length_take]; exact Nat.min_le_left _ _)
  have hlt : i < ds.length := (List.getElem?_eq_some_iff.mp e).1
  refine hs d acc Y N (List.mem_of_getElem? e) (by rw [sizeLine_val]; omega) (fun x ex => hY x ?_) fun en => hN ?_
  · rw [ht, List.filterMap_append, ← hi]
    simp [ex]
  · rw [ht, List.filterMap_append, ← hi]
    simp [en]
/-- a comprehension of owned rows -/
def lcTR (tg : Tg) (te : G) (vs : List Nat) (ρ : PEnv) (acc : List (List D)) (d : D) (Y : List D → Prop) : Prop :=
  tg d ρ fun ρ1 => wipeP ρ1 vs = ρ ∧ te ρ1 (fun c ρ3 => ρ3 = ρ1 ∧ acc.length < sizeLine ∧ match c with
    | .ls xs => Y xs
    | _ => False) Never
theorem lcR_map {tg : Tg} {te : G} {vs : List Nat} {ρ : PEnv} {k : List (List D) → Prop} {ds : List D} (f : D → List D) (hz : ds.length ≤ 1000000)
    (hs : ∀ (d : D) (acc : List (List D)) (Y : List D → Prop), d ∈ ds → acc.length < sizeLine → Y (f d) → lcTR tg te vs ρ acc d Y) (hd : k (ds.map f)) : lcR tg te vs ρ k [] ds := by
  have go : ∀ (n i : Nat), i + n = ds.length → lcR tg te vs ρ k ((ds.take i).map f) (ds.drop i) := by
    intro n
    induction n with
    | zero =>
      intro i e
      have e : i = ds.length := by omega
      subst e
      rw [List.drop_length, lcR_nil, List.take_length]
      exact hd
    | succ n ih =>
      intro i e
      have hlt : i < ds.length := by omega
      have ht : ds.take (i + 1) = ds.take i ++ [ds[i]] := by rw [List.take_succ, List.getElem?_eq_getElem hlt]; rfl
      rw [List.drop_eq_getElem_cons hlt, lcR_cons]
      refine hs ds[i] _ (fun xs => lcR tg te vs ρ k ((ds.take i).map f ++ [xs]) (ds.drop (i + 1))) (List.getElem_mem hlt) (by rw [List.length_map, List.length_take, sizeLine_val]; omega) ?_
      have := ih (i + 1) (by omega)
      rw [ht, List.map_append] at this
      exact this
  exact go ds.length 0 (by omega)
/-- places -/
theorem atI_n {α : Type} {xs : List α} {n : Int} {x : α} (h0 : 0 ≤ n) (h : xs[n.toNat]? = some x) : L2.atI xs n = some x := at_of' (show n = ((n.toNat : Nat) : Int) by omega) h
where at_of' {α : Type} {xs : List α} {z : Int} {j : Nat} {v : α} (e : z = (j : Int)) (h : xs[j]? = some v) : L2.atI xs z = some v := by rw [e]; exact atI_nat h
theorem ixN_n {n : Nat} {k : Int} (h0 : 0 ≤ k) (h : k < n) : ixN n k = some k.toNat := by
  unfold ixN
  rw [if_pos h0, if_pos h]
end P

set_option Elab.async false
set_option linter.all false
set_option maxRecDepth 100000
set_option maxHeartbeats 4000000
/-! The P-layer, 12: from the hand layer's state to a box with a source of draws. -/
namespace P
open PySem L2
theorem orc_enter {K : Frag} {E : XK} {g : S} {Dn : Ends} {σ : St} {H : Hp} {p c : Addr} {ms : List Int} {n4 : Int} (h1 : H p = some (.lst [.ref c, .int 0, .int 0, .int 0, .int n4, .int 0])) (h2 : H c = some (.lst (ms.map V.int))) (hσ : σ[1]? = some (some (.ref p)))
    (hg : g ((List.replicate σ.length none).set 1 (some .orc)) { nx := fun _ => False, rt := fun c => c = .fz (.bool true) }) (hD : ∀ H, Dn.rt (.bl true) H) : dnS K E g Dn σ H := by
  have hc : c ≠ p := fun e => by
    subst e
    rw [h1] at h2
    cases ms with
    | nil => cases h2
    | cons m ms => cases h2
  refine ⟨⟨K, some p, H, fun x => if x = p then none else H x⟩, _, fun x => if x = p then none else H x, fun _ => none, _, rfl, ?_, hg, fun _ _ _ _ _ _ _ _ _ _ z => z.elim, fun _ _ _ _ _ _ z => z.elim, fun c v H' F' own' ok' r q => ?_, fun _ _ _ _ _ _ z => z.elim, fun _ _ _ _ _ _ z => z.elim⟩
  · refine ⟨fun a o e => ?_, fun a o e _ => e, Same.refl _, fun a o e => .inl e, (fun a x e => nomatch e), fun a e => ?_, by rw [List.length_set, List.length_replicate], fun i c e => ?_⟩
    · have e : (if a = p then none else H a) = some o := e
      split at e
      · cases e
      · exact e
    · cases e
      refine ⟨⟨c, ms, 0, 0, 0, n4, 0, h1, ?_, Int.le_refl 0⟩, if_pos rfl, rfl, ?_⟩
      · show (if c = p then none else H c) = _
        rw [if_neg hc]; exact h2
      · show (H p).isSome = true
        rw [h1]; rfl
    · by_cases hi : i = 1
      · subst hi
        refine ⟨.ref p, hσ, ?_⟩
        have hl : 1 < σ.length := (List.getElem?_eq_some_iff.mp hσ).1
        rw [List.getElem?_set_self (by rw [List.length_replicate]; exact hl)] at e
        cases e
        exact ⟨p, rfl, rfl⟩
      · rw [List.getElem?_set_ne (fun h => hi h.symm), List.getElem?_replicate] at e
        split at e <;> cases e
  · have q : c = .fz (.bool true) := q
    subst q
    have r : Fz K F' v (.bool true) := r
    cases r
    exact hD _
end P

set_option Elab.async false
set_option linter.all false
set_option maxRecDepth 100000
set_option maxHeartbeats 4000000
/-! The P-layer, 13: small laws for the walks. -/
namespace P
open PySem L2
theorem sIf_next {b : Bool} {ρ : PEnv} {s : S} {Dn : PEnds} (I : PEnv → Prop) (h1 : b = true → ∀ K : PEnv → Prop, (∀ ρ', I ρ' → K ρ') → s ρ { Dn with nx := K }) (h0 : b = false → I ρ) (h : ∀ ρ, I ρ → Dn.nx ρ) : iteB b (s ρ Dn) (sNext ρ Dn) :=
  iteB_i (fun e => h1 e Dn.nx h) fun e => h _ (h0 e)
theorem okVs1 {ρ : PEnv} {v : Nat} (h : ∃ o : Option D, ρ[v]? = some (o.map .fz)) : okVs ρ [v] = true := by
  obtain ⟨o, h⟩ := h
  unfold okVs
  rw [h]
  cases o <;> rfl
/-- a place of a mapped list -/
theorem at_map {α : Type} {xs : List α} {f : α → D} {n : Nat} {x : α} (h : xs[n]? = some x) : L2.atI (xs.map f) ((n : Nat) : Int) = some (f x) := atI_nat (by rw [List.getElem?_map, h]; rfl)
theorem get_map {α : Type} {xs : List α} {f : α → D} {n : Nat} {d : D} (h : (xs.map f)[n]? = some d) : ∃ x, xs[n]? = some x ∧ d = f x := by
  rw [List.getElem?_map] at h
  cases e : xs[n]? with
  | none => rw [e] at h; cases h
  | some x => rw [e] at h; exact ⟨x, rfl, by cases h; rfl⟩
theorem erase_perm {α : Type} : ∀ (l : List α) (i : Nat) (h : i < l.length), (l[i] :: l.eraseIdx i).Perm l
  | a :: l, 0, h => List.Perm.refl _
  | a :: l, i + 1, h => (List.Perm.swap a _ _).trans ((erase_perm l i (by simpa using h)).cons a)
/-- strings, by their pool -/
def unS : D → Str
  | .str x => x
  | _ => ""
theorem perm_strs {xs rest : List D} {pool : List Str} (h : (xs ++ rest).Perm (pool.map .str)) : ∃ a b : List Str, xs = a.map .str ∧ (a ++ b).Perm pool := by
  have hu : (pool.map PyData.str).map unS = pool := by rw [List.map_map]; exact List.map_id' pool
  refine ⟨xs.map unS, rest.map unS, ?_, ?_⟩
  · rw [List.map_map]
    symm
    refine (List.map_congr_left fun d hd => ?_).trans (List.map_id _)
    have hm : d ∈ pool.map PyData.str := h.mem_iff.mp (List.mem_append_left _ hd)
    obtain ⟨x, _, rfl⟩ := List.mem_map.mp hm
    rfl
  · have := h.map unS
    rw [hu, List.map_append] at this
    exact this
theorem cut_to {ds : List D} {n : Nat} (k : Int) (e : k = (n : Nat)) : cutD ds none (some k) = ds.take n := by
  subst e
  unfold cutD
  rw [HT.sIx_none, HT.sIx_nat]
  show (ds.drop 0).take (min n ds.length - 0) = ds.take n
  rw [List.drop_zero, Nat.sub_zero]
  by_cases h : n ≤ ds.length
  · rw [Nat.min_eq_left h]
  · rw [Nat.min_eq_right (by omega), List.take_length, List.take_of_length_le (by omega)]
theorem at_mapE {α : Type} {xs : List α} {f : α → D} {z : Int} {n : Nat} {x : α} (e : z = ((n : Nat) : Int)) (h : xs[n]? = some x) : L2.atI (xs.map f) z = some (f x) := by rw [e]; exact at_map h
/-- a list whose items are pictures -/
theorem pics {α : Type} (f : α → D) : ∀ {xs : List D}, (∀ x ∈ xs, ∃ a, x = f a) → ∃ ys : List α, xs = ys.map f
  | [], _ => ⟨[], rfl⟩
  | x :: xs, h => by
    obtain ⟨a, rfl⟩ := h x List.mem_cons_self
    obtain ⟨ys, rfl⟩ := pics f (xs := xs) fun y hy => h y (List.mem_cons_of_mem _ hy)
    exact ⟨a :: ys, rfl⟩
theorem pics_rel {α : Type} (f : α → D) {ds xs : List D} (hl : xs.length = ds.length) (h : ∀ (i : Nat) (d x : D), ds[i]? = some d → xs[i]? = some x → ∃ a, x = f a) : ∃ ys : List α, xs = ys.map f ∧ ys.length = ds.length := by
  obtain ⟨ys, e⟩ := pics f (xs := xs) fun x hx => by
    obtain ⟨i, hi, e⟩ := List.mem_iff_getElem.mp hx
    exact h i _ x (List.getElem?_eq_getElem (by omega)) (by rw [List.getElem?_eq_getElem hi, e])
  exact ⟨ys, e, by rw [← hl, e, List.length_map]⟩
theorem rangeD_at {lo : Int} {n i : Nat} {d : D} (h : (rangeD lo n)[i]? = some d) : i < n ∧ d = .int (lo + (i : Nat)) := by
  have hi := (List.getElem?_eq_some_iff.mp h).1
  rw [rangeD_length] at hi
  rw [rangeD_get hi] at h
  cases h
  exact ⟨hi, rfl⟩
theorem map_rep {α β : Type} (l : List α) (x : β) : l.map (fun _ => x) = List.replicate l.length x := by
  induction l with
  | nil => rfl
  | cons a l ih => rw [List.map_cons, ih]; rfl
theorem ixN_E {n : Nat} {z : Int} {j : Nat} (e : z = (j : Nat)) (h : j < n) : ixN n z = some j := by
  subst e
  have := ixN_n (n := n) (k := (j : Int)) (by omega) (by omega)
  rw [this, Int.toNat_natCast]
theorem add_le {a b : Nat} (h : a + b ≤ 16777216) : a + b ≤ sizeLine := by rw [sizeLine_val]; exact h
theorem truth {p : Prop} [Decidable p] {Q : C → Prop} (h : p) (q : Q (.fz (.bool true))) : Q (.fz (.bool (decide p))) := by rw [decide_eq_true h]; exact q
theorem pics_relP {α : Type} (f : α → D) (P : Nat → α → Prop) {ds xs : List D} (hl : xs.length = ds.length) (h : ∀ (i : Nat) (d x : D), ds[i]? = some d → xs[i]? = some x → ∃ a, x = f a ∧ P i a) : ∃ ys : List α, xs = ys.map f ∧ ys.length = ds.length ∧ ∀ i a, ys[i]? = some a → P i a := by
  induction xs generalizing ds P with
  | nil => exact ⟨[], rfl, hl, fun i a e => by cases e⟩
  | cons x xs ih =>
    cases ds with
    | nil => cases hl
    | cons d ds =>
      obtain ⟨a, e1, e2⟩ := h 0 d x rfl rfl
      obtain ⟨ys, e3, e4, e5⟩ := ih (fun i => P (i + 1)) (by simpa using hl) fun i d x h1 h2 => h (i + 1) d x h1 h2
      refine ⟨a :: ys, by rw [e1, e3]; rfl, by rw [List.length_cons, List.length_cons, e4], fun i b hb => ?_⟩
      cases i with
      | zero => cases hb; exact e2
      | succ i => exact e5 i b hb
theorem dval_dput {kvs : List (Key × D)} {k k' : Key} {d : D} : dval (dput kvs k d) k' = if k = k' then some d else dval kvs k' := by
  unfold dput
  split
  · rename_i h
    unfold dval
    induction kvs with
    | nil => cases h
    | cons p r ih =>
      rw [List.map_cons, List.find?_cons, List.find?_cons]
      by_cases h1 : p.1 = k
      · rw [if_pos h1]
        by_cases h2 : k = k'
        · subst h2
          simp [h1]
        · rw [if_neg h2]
          have : ¬ p.1 = k' := fun h => h2 (h1.symm.trans h)
          simp only [this, decide_false]
          have : ∀ r : List (Key × D), ((r.map fun p => if p.1 = k then (p.1, d) else p).find? fun p => decide (p.1 = k')).map (·.2) = (r.find? fun p => decide (p.1 = k')).map (·.2) := by
            intro r
            induction r with
            | nil => rfl
            | cons q r ih =>
              rw [List.map_cons, List.find?_cons, List.find?_cons]
              by_cases h3 : q.1 = k
              · rw [if_pos h3]
                have h4 : ¬ q.1 = k' := fun h => h2 (h3.symm.trans h)
                simp only [h4, decide_false]
                exact ih
              · rw [if_neg h3]
                cases decide (q.1 = k') with
                | true => rfl
                | false => exact ih
          exact this r
      · rw [if_neg h1]
        have h : (r.any fun p => decide (p.1 = k)) = true := by simpa [h1] using h
        have ih := ih h
        by_cases h5 : p.1 = k'
        · have h2 : ¬ k = k' := fun h => h1 (h5.trans h.symm)
          rw [if_neg h2]
          simp [h5]
        · simp only [h5, decide_false]
          exact ih
  · rename_i h
    unfold dval
    rw [List.find?_append]
    by_cases h2 : k = k'
    · subst h2
      rw [if_pos rfl]
      have : kvs.find? (fun p => decide (p.1 = k)) = none := by
        rw [List.find?_eq_none]
        intro p hp h3
        exact h (List.any_eq_true.mpr ⟨p, hp, h3⟩)
      rw [this]
      simp
    · rw [if_neg h2]
      have : ([(k, d)] : List (Key × D)).find? (fun p => decide (p.1 = k')) = none := by simp [h2]
      rw [this, Option.or_none]
theorem dput_len {kvs : List (Key × D)} {k : Key} {d : D} : (dput kvs k d).length ≤ kvs.length + 1 := by
  unfold dput
  split
  · rw [List.length_map]; omega
  · rw [List.length_append]; exact Nat.le_refl _
theorem seq_cut {s u : S} {ρ : PEnv} {Dn : PEnds} (I : PEnv → Prop) (h1 : ∀ K : PEnv → Prop, (∀ ρ', I ρ' → K ρ') → s ρ { Dn with nx := K }) (h2 : ∀ ρ', I ρ' → u ρ' Dn) : sSeq s u ρ Dn := h1 _ h2
theorem mul_ok {i j : Int} (h0 : 0 ≤ j) (h1 : j ≤ 1000000000000) : CMul i j := .inr ⟨by omega, by omega⟩
theorem perm_pics {α : Type} (f : α → D) (g : D → α) (hg : ∀ a, g (f a) = a) {xs rest : List D} {pool : List α} (h : (xs ++ rest).Perm (pool.map f)) : ∃ a b : List α, xs = a.map f ∧ (a ++ b).Perm pool := by
  have hu : (pool.map f).map g = pool := by
    rw [List.map_map]
    exact (List.map_congr_left fun a _ => hg a).trans (List.map_id _)
  refine ⟨xs.map g, rest.map g, ?_, ?_⟩
  · rw [List.map_map]
    symm
    refine (List.map_congr_left fun d hd => ?_).trans (List.map_id _)
    have hm : d ∈ pool.map f := h.mem_iff.mp (List.mem_append_left _ hd)
    obtain ⟨x, _, rfl⟩ := List.mem_map.mp hm
    show f (g (f x)) = f x
    rw [hg]
  · have := h.map g
    rw [hu, List.map_append] at this
    exact this
def unN : D → Nat
  | .int i => i.toNat
  | _ => 0
theorem rangeD_eq (lo : Int) (n : Nat) : rangeD lo n = (List.range n).map fun k : Nat => .int (lo + (k : Nat)) := by unfold rangeD; rfl
end P

set_option Elab.async false
set_option linter.all false
set_option maxRecDepth 100000
set_option maxHeartbeats 4000000
/-! The P-layer, 14: comparisons in a chain. -/
namespace P
open PySem L2
section
variable {X : Cx} {E : XK}
def gChain (p1 p2 : Pf2) (ga gb gc : G) : G := fun ρ Q Ep => ga ρ (fun c1 ρ1 => gb ρ1 (fun c2 ρ2 => op2 p1 (settle c1) (settle c2) ρ2 fun z => boolC z fun k => iteB k (gc ρ2 (fun c3 ρ3 => op2 p2 (settle c2) (settle c3) ρ3 fun r => Q r ρ3) Ep) (Q (.fz (.bool false)) ρ2)) Ep) Ep
theorem dnChain {r1 r2 : R2} {p1 p2 : Pf2} {ga gb gc : G} (hr1 : R2V X.K r1 p1) (hr2 : R2V X.K r2 p2) {σ : St} {H : Hp} {Q : VK} (h : dnE X.K E (gChain p1 p2 ga gb gc) σ H Q) : tChain r1 r2 (dnE X.K E ga) (dnE X.K E gb) (dnE X.K E gc) σ H Q := by
  obtain ⟨B, ρ, F, own, Qp, Ep, hK, ok, h, lx, k⟩ := h
  refine ⟨B, ρ, F, own, _, Ep, hK, ok, h, lx, fun c1 ρ1 x H1 F1 own1 ok1 r1 s1 q1 => ?_⟩
  obtain ⟨F1', own1', ok1', s1', r1'⟩ := settle_ok ok1 r1
  refine ⟨B, ρ1, F1', own1', _, Ep, hK, ok1', q1, lx, fun c2 ρ2 y H2 F2 own2 ok2 r2 s2 q2 => ?_⟩
  obtain ⟨F2', own2', ok2', s2', r2'⟩ := settle_ok ok2 r2
  refine op2_ok (by rw [hK]; exact hr1) ok2' (r1'.carry (s2.trans s2')) r2' q2 fun z v H3 F3 own3 ok3 rp s3 q3 => ?_
  obtain ⟨b, rfl, w3⟩ := boolC_inv q3
  have rp : Fz B.K F3 v (.bool b) := rp
  cases rp
  refine ⟨b, rfl, ?_⟩
  cases b with
  | false =>
    rw [iteB_ff] at w3; rw [if_neg Bool.false_ne_true]
    exact k (.fz (.bool false)) ρ2 _ H3 F3 own3 ok3 (Fz.bl false) ((s1.trans s1').trans ((s2.trans s2').trans s3)) w3
  | true =>
    rw [iteB_tt] at w3; rw [if_pos rfl]
    refine ⟨B, ρ2, F3, own3, _, Ep, hK, ok3, w3, lx, fun c3 ρ3 y3 H4 F4 own4 ok4 r4 s4 q4 => ?_⟩
    obtain ⟨F4', own4', ok4', s4', r4'⟩ := settle_ok ok4 r4
    exact op2_ok (by rw [hK]; exact hr2) ok4' (r2'.carry ((s3.trans s4).trans s4')) r4' q4 fun c v H' F' own' ok' rp s q => k c ρ3 v H' F' own' ok' rp ((s1.trans s1').trans ((s2.trans s2').trans (s3.trans ((s4.trans s4').trans s)))) q
theorem ge_chain {o1 o2 : CmpOp} {a b c : Expr} {pos : Pos} {r1 r2 : R2} {p1 p2 : Pf2} {ga gb gc : G} (ho1 : OpR X (compareOp o1) r1) (hr1 : R2V X.K r1 p1) (ho2 : OpR X (compareOp o2) r2) (hr2 : R2V X.K r2 p2) (ha : GE X E a ga) (hb : GE X E b gb) (hc : GE X E c gc)
    (hm : lastMarks [o1, o2] [b, c] = false := by with_unfolding_all rfl) : GE X E (.Compare a [o1, o2] [b, c] pos) (gChain p1 p2 ga gb gc) :=
  pe_weak (pe_chain ho1 ho2 ha hb hc hm) fun _ _ _ h => dnChain hr1 hr2 h
theorem gt_chain {o1 o2 : CmpOp} {a b c : Expr} {pos : Pos} {r1 r2 : R2} {p1 p2 : Pf2} {ga gb gc : G} (ho1 : OpR X (compareOp o1) r1) (hr1 : R2V X.K r1 p1) (ho2 : OpR X (compareOp o2) r2) (hr2 : R2V X.K r2 p2) (ha : GE X E a ga) (hb : GE X E b gb) (hc : GE X E c gc)
    (hm : lastMarks [o1, o2] [b, c] = false := by with_unfolding_all rfl) : GTe X E (.Compare a [o1, o2] [b, c] pos) (gTst (gChain p1 p2 ga gb gc)) :=
  pt_weak (pt_chain ho1 ho2 ha hb hc hm) fun _ _ _ h => dnTst (fun _ _ _ h => dnChain hr1 hr2 h) h
end
end P

set_option Elab.async false
set_option linter.all false
set_option maxRecDepth 100000
set_option maxHeartbeats 4000000
/-! The P-layer, 15: texts. -/
namespace P
open PySem L2
theorem spl_head (S : List Nat) : ∀ (L acc : List Nat) (k : Nat), ∃ h t, TL.spl S k acc L = h :: t ∧ h.length ≤ acc.length + L.length
  | [], acc, k => ⟨acc, [], by rw [TL.spl_nil], by simp⟩
  | c :: r, acc, 0 => by
    unfold TL.spl
    split
    · exact ⟨acc, _, rfl, by omega⟩
    · obtain ⟨h, t, e, hl⟩ := spl_head S r (acc ++ [c]) 0
      refine ⟨h, t, e, ?_⟩
      rw [List.length_append] at hl
      simp only [List.length_cons, List.length_nil] at hl ⊢
      omega
  | c :: r, acc, k + 1 => by
    unfold TL.spl
    obtain ⟨h, t, e, hl⟩ := spl_head S r acc k
    exact ⟨h, t, e, by rw [List.length_cons]; omega⟩
theorem split_head (x y : Str) (hy : TL.tl y ≠ []) (hk : y.cps.all (· < 256) = true) : ∃ h t, Txt.split x y = h :: t ∧ h.length ≤ x.length := by
  have e := TL.split_spl x y hy (TL.kind_ok hk)
  obtain ⟨h, t, e2, hl⟩ := spl_head (TL.tl y) (TL.tl x) [] 0
  rw [e2] at e
  cases q : Txt.split x y with
  | nil => rw [q] at e; cases e
  | cons a b =>
    rw [q, List.map_cons] at e
    refine ⟨a, b, rfl, ?_⟩
    have e := (List.cons.inj e).1
    rw [TL.len_tl a, TL.len_tl x, e]
    simpa using hl
theorem okVs2 {ρ : PEnv} {v u : Nat} (h : ∃ o : Option D, ρ[v]? = some (o.map .fz)) (h2 : ∃ o : Option D, ρ[u]? = some (o.map .fz)) : okVs ρ [v, u] = true := by
  have e2 := okVs1 h2
  obtain ⟨o, h⟩ := h
  unfold okVs
  rw [h, e2]
  cases o <;> rfl
/-- an answer, by what it is true of -/
def BQ (Q : C → Prop) (p : Prop) : Prop := ∀ b : Bool, (b = true ↔ p) → Q (.fz (.bool b))
theorem BQ.t {Q : C → Prop} {p : Prop} (h : BQ Q p) (x : p) : Q (.fz (.bool true)) := h true ⟨fun _ => x, fun _ => rfl⟩
theorem BQ.f {Q : C → Prop} {p : Prop} (h : BQ Q p) (x : ¬ p) : Q (.fz (.bool false)) := h false ⟨fun e => (nomatch e), fun y => (x y).elim⟩
theorem BQ.d {Q : C → Prop} {p q : Prop} [Decidable q] (h : BQ Q p) (x : q ↔ p) : Q (.fz (.bool (decide q))) := h _ ⟨fun e => x.mp (of_decide_eq_true e), fun y => decide_eq_true (x.mpr y)⟩
theorem inD_int (z : Int) (ds : List Int) : inD (.int z) (ds.map .int) = decide (z ∈ ds) := by
  unfold inD
  induction ds with
  | nil => simp
  | cons a r ih =>
    rw [List.map_cons, List.any_cons, ih]
    by_cases h : z = a
    · subst h; simp [PyData.eqv]
    · have : ¬ a = z := fun e => h e.symm
      simp [PyData.eqv, h, this]
theorem flat_ints (ds : List Int) : (ds.map PyData.int).all flatD = true := by
  induction ds with
  | nil => rfl
  | cons a r ih => rw [List.map_cons, List.all_cons, ih]; rfl
end P

set_option Elab.async false
set_option linter.all false
set_option maxRecDepth 100000
set_option maxHeartbeats 4000000
/-! The P-layer, 16: the order of data, dict displays, two names at once. -/
namespace P
open PySem L2
/-! ### order -/
def rOrd (K : Frag) (f : D → D → Bool) : R2 := fun x y H Q => ∃ d e, Dp K H x d ∧ Dp K H y e ∧ W.alike d e = true ∧ d ≠ .none ∧ d.depth ≤ 64 ∧ Q (.bl (f d e)) H
section
variable {X : Cx}
theorem ord_op {op : CmpOp} {f : D → D → Bool} (hu : X.A.units + 64 < cLine) (h : ∀ (s : Shared) (a b : Value) (as bs : List Addr) (da db : D) (E : Value → Shared → Prop) (Q : Value → Shared → Prop), Reads s.heap a da as → Reads s.heap b db bs → W.alike da db = true → da ≠ .none → X.A.units + min da.depth db.depth < cLine → Q (.bool (f da db)) s → wpAny (model X.prog X.w) X.A (compareOp op a b) Q E s) : OpR X (compareOp op) (rOrd X.K f) := by
  intro pins s σ H x y v u Q I rx ry q
  obtain ⟨d, e, hd, he, al, hn, hz, q⟩ := q
  obtain ⟨as, r1⟩ := Dp.reads I d x v hd rx
  obtain ⟨bs, r2⟩ := Dp.reads I e y u he ry
  have hm : min d.depth e.depth ≤ d.depth := Nat.min_le_left _ _
  exact h s v u as bs d e _ _ r1 r2 al hn (by omega) ⟨.bl _, H, I, rfl, q⟩
theorem op_ltD (hu : X.A.units + 64 < cLine) : OpR X (compareOp .Lt) (rOrd X.K W.dataLt) := ord_op hu fun s a b as bs da db E Q ra rb al hn hu h => W.lt_data ra rb al hn hu h
theorem op_gtD (hu : X.A.units + 64 < cLine) : OpR X (compareOp .Gt) (rOrd X.K fun d e => W.dataLt e d) := ord_op hu fun s a b as bs da db E Q ra rb al hn hu h => W.gt_data ra rb al hn hu h
theorem op_leD (hu : X.A.units + 64 < cLine) : OpR X (compareOp .LtE) (rOrd X.K fun d e => !W.dataLt e d) := ord_op hu fun s a b as bs da db E Q ra rb al hn hu h => W.le_data ra rb al hn hu h
theorem op_geD (hu : X.A.units + 64 < cLine) : OpR X (compareOp .GtE) (rOrd X.K fun d e => !W.dataLt d e) := ord_op hu fun s a b as bs da db E Q ra rb al hn hu h => W.ge_data ra rb al hn hu h
end
def ordOk (d e : D) : Bool := W.alike d e && decide (d.depth ≤ 64) && !hasDict d && !hasDict e && !isNone d
def pOrd (f : D → D → Bool) : Pf2 := fun d e k => ordOk d e = true ∧ k (.fz (.bool (f d e)))
theorem r_ord {K : Frag} {f : D → D → Bool} : R2V K (rOrd K f) (pOrd f) := by
  intro F H x y d e Qp Q s vx vy h r
  obtain ⟨ok, h⟩ := h
  unfold ordOk at ok
  simp only [Bool.and_eq_true, decide_eq_true_eq, Bool.not_eq_true'] at ok
  obtain ⟨⟨⟨⟨h1, h2⟩, h3⟩, h4⟩, h5⟩ := ok
  exact ⟨d, e, vx.dp s h3, vy.dp s h4, h1, (fun q => by rw [q] at h5; cases h5), h2, r.dat _ _ (.bl _) h⟩
/-- with whole numbers by themselves -/
def pCmp (g : Int → Int → Bool) (f : D → D → Bool) : Pf2 := fun d e k => match d, e with
  | .int i, .int j => k (.fz (.bool (g i j)))
  | d, e => pOrd f d e k
theorem r_cmp {K : Frag} {g : Int → Int → Bool} {f : D → D → Bool} : R2V K (fun x y H Q => rI0 (fun i j => .bl (g i j)) x y H Q ∨ rOrd K f x y H Q) (pCmp g f) := by
  intro F H x y d e Qp Q s vx vy h r
  unfold pCmp at h
  split at h
  · exact .inl (r_ib (g := g) F H x y _ _ Qp Q s vx vy h r)
  · exact .inr (r_ord F H x y _ _ Qp Q s vx vy h r)
abbrev pLtX : Pf2 := pCmp (fun i j => decide (i < j)) W.dataLt
abbrev pGtX : Pf2 := pCmp (fun i j => decide (j < i)) fun d e => W.dataLt e d
abbrev pLeX : Pf2 := pCmp (fun i j => decide (i ≤ j)) fun d e => !W.dataLt e d
abbrev pGeX : Pf2 := pCmp (fun i j => decide (j ≤ i)) fun d e => !W.dataLt d e
section
variable {X : Cx} {E : XK}
theorem op_ltX (hu : X.A.units + 64 < cLine) : OpR X (compareOp .Lt) (fun x y H Q => rI0 (fun i j => .bl (decide (i < j))) x y H Q ∨ rOrd X.K W.dataLt x y H Q) := op_lt.or (op_ltD hu)
theorem op_gtX (hu : X.A.units + 64 < cLine) : OpR X (compareOp .Gt) (fun x y H Q => rI0 (fun i j => .bl (decide (j < i))) x y H Q ∨ rOrd X.K (fun d e => W.dataLt e d) x y H Q) := op_gt.or (op_gtD hu)
theorem op_leX (hu : X.A.units + 64 < cLine) : OpR X (compareOp .LtE) (fun x y H Q => rI0 (fun i j => .bl (decide (i ≤ j))) x y H Q ∨ rOrd X.K (fun d e => !W.dataLt e d) x y H Q) := op_le.or (op_leD hu)
theorem op_geX (hu : X.A.units + 64 < cLine) : OpR X (compareOp .GtE) (fun x y H Q => rI0 (fun i j => .bl (decide (j ≤ i))) x y H Q ∨ rOrd X.K (fun d e => !W.dataLt d e) x y H Q) := op_ge.or (op_geD hu)
/-! ### two names at once -/
def sPar2 (i j : Nat) (ga : GA) : S := fun ρ D => ga ρ (fun cs ρ1 => withD ρ1 cs fun ds ρ2 => match ds with
  | [d, e] => D.nx ((ρ2.set i (some (.fz d))).set j (some (.fz e)))
  | _ => False) D.ex
theorem gt_par2 {i j : Nat} {x y : Str} {a b : Expr} {ga : GA} {px py pt pos : Pos} {kt k2 pt2} (hc : X.calm = true) (hN : X.N.Nodup) (hi : X.N[i]? = some x) (hj : X.N[j]? = some y) (hij : i ≠ j)
    (hx : X.env.scope.names.lookup x = some .local) (hy : X.env.scope.names.lookup y = some .local) (ha : GAe X E [a, b] ga)
    (hw : swappedStores [.Tuple [.Name x px, .Name y py] kt pt] (.Tuple [a, b] k2 pt2) X.env = pure (some [x, y]))
    (hs : swapsWithSole [.Tuple [.Name x px, .Name y py] kt pt] (.Tuple [a, b] k2 pt2) pos.line X.env = pure false := by rfl) :
    GSt X E (.Assign [.Tuple [.Name x px, .Name y py] kt pt] (.Tuple [a, b] k2 pt2) pos) (sPar2 i j ga) :=
  ps_weak (ps_par hc hN hi hj hij hx hy ha hw hs) fun Dn σ H ⟨B, ρ, F, own, Dp, hK, ok, h, lx, l1, l2, l3, l4⟩ => by
    refine ⟨B, ρ, F, own, _, Dp.ex, hK, ok, h, lx, fun cs ρ1 vs H1 F1 own1 ok1 r1 s1 q1 => ?_⟩
    obtain ⟨ds, e, q⟩ := withD_inv q1
    obtain ⟨F2, own2, ok2, s2, z⟩ := frzL_ok ok1 r1 (allD_clean e)
    have fz := allD_fz e z
    split at q
    · rename_i d e'
      cases fz with
      | cons f1 fz =>
        cases fz with
        | cons f2 fz =>
          cases fz
          exact ⟨_, _, rfl, l1 _ _ H1 F2 _ ((ok2.store (c := .fz d) f1 trivial i).store (c := .fz e') f2 trivial j) q⟩
    · exact q.elim
end
end P

set_option Elab.async false
set_option linter.all false
set_option maxRecDepth 100000
set_option maxHeartbeats 4000000
/-! The P-layer, 17: dict displays. -/
namespace P
open PySem L2
def keyC (c : C) (k : Key → Prop) : Prop := match c with
  | .fz e => optP (keyD e) k
  | _ => False
theorem keyC_inv {c : C} {k : Key → Prop} (h : keyC c k) : ∃ e key, c = .fz e ∧ keyD e = some key ∧ k key := by
  unfold keyC at h
  split at h
  · obtain ⟨key, e, q⟩ := optP_inv h
    exact ⟨_, key, rfl, e, q⟩
  · exact h.elim
def gPrs : List (G × G) → PEnv → (List (Key × D) → PEnv → Prop) → Prop
  | [], ρ, Q => Q [] ρ
  | (gk, gv) :: r, ρ, Q => gk ρ (fun ck ρ1 => keyC ck fun key => gv ρ1 (fun cv ρ2 => withD ρ2 [settle cv] fun ds ρ3 => match ds with
    | [d] => gPrs r ρ3 fun ps ρ4 => Q ((key, d) :: ps) ρ4
    | _ => False) Never) Never
def putAll (kvs ps : List (Key × D)) : List (Key × D) := ps.foldl (fun acc p => dput acc p.1 p.2) kvs
def gDisp (prs : List (G × G)) : G := fun ρ Q _ => gPrs prs ρ fun ps ρ1 => ps.length ≤ 15 ∧ Q (.dk (putAll [] ps)) ρ1
def PrZ (K : Frag) (F : Hp) : List (Key × D) → List (V × V) → Prop := Paired fun p q => q.1 = kV p.1 ∧ Fz K F q.2 p.2
theorem fz_key {K : Frag} {F : Hp} {v : V} {e : D} {key : Key} (h : Fz K F v e) (q : keyD e = some key) : v = kV key := by
  cases e with
  | int i => cases q; cases h; rfl
  | str s => cases q; cases h; rfl
  | _ => cases q
theorem dnPrs {K : Frag} {σ : St} : ∀ {prs : List (G × G)} {H : Hp} {B : Box} {ρ : PEnv} {F : Hp} {own : Own} {Qp : List (Key × D) → PEnv → Prop} {R : List (V × V) → Hp → Prop}, B.K = K → Ok B ρ σ H F own → gPrs prs ρ Qp →
    (∀ ps ρ' vs H' F' own', Ok B ρ' σ H' F' own' → Same F F' → PrZ K F' ps vs → Qp ps ρ' → R vs H') → tPairs (prs.map fun p => (dnE K E0 p.1, dnE K E0 p.2)) σ H R
  | [], H, B, ρ, F, own, Qp, R, hK, ok, h, k => k [] ρ [] H F own ok (Same.refl _) .nil h
  | (gk, gv) :: r, H, B, ρ, F, own, Qp, R, hK, ok, h, k => by
    refine ⟨B, ρ, F, own, _, Never, hK, ok, h, exl_never, fun c ρ1 x H1 F1 own1 ok1 r1 s1 q1 => ?_⟩
    obtain ⟨e, key, rfl, ek, q1⟩ := keyC_inv q1
    have r1 : Fz B.K F1 x e := r1
    have ex := fz_key r1 ek
    subst ex
    refine ⟨B, ρ1, F1, own1, _, Never, hK, ok1, q1, exl_never, fun c2 ρ2 y H2 F2 own2 ok2 r2 s2 q2 => ?_⟩
    obtain ⟨d, ρ3, F3, own3, ok3, s3, f3, q3⟩ := val_one ok2 r2 q2
    refine dnPrs hK ok3 q3 fun ps ρ' vs H' F' own' ok' s z q => ?_
    exact k ((key, d) :: ps) ρ' ((kV key, y) :: vs) H' F' own' ok' (((s1.trans s2).trans s3).trans s) (.cons ⟨rfl, by rw [← hK]; exact f3.mono s⟩ z) q
theorem prz_kvs {K : Frag} {F : Hp} : ∀ {ps : List (Key × D)} {vs : List (V × V)}, PrZ K F ps vs → ∃ kvs : List (Key × V), vs = kvs.map (fun kv => (kV kv.1, kv.2)) ∧ kvs.length = ps.length ∧ KZ K F kvs ps
  | _, _, .nil => ⟨[], rfl, rfl, .nil⟩
  | p :: ps, q :: vs, .cons h r => by
    obtain ⟨kvs, e1, e2, e3⟩ := prz_kvs r
    obtain ⟨q1, q2⟩ := q
    exact ⟨(p.1, q2) :: kvs, by rw [List.map_cons, ← e1]; show (q1, q2) :: vs = (kV p.1, q2) :: vs; rw [show q1 = kV p.1 from h.1], by simp [e2], .cons ⟨rfl, h.2⟩ e3⟩
theorem kz_merge {K : Frag} {F : Hp} : ∀ {more : List (Key × V)} {ps : List (Key × D)} {ws : List (Key × V)} {kvs : List (Key × D)}, KZ K F more ps → KZ K F ws kvs → KZ K F (mergeK ws more) (putAll kvs ps)
  | _, _, _, _, .nil, h => h
  | m :: more, p :: ps, ws, kvs, .cons g r, h => by
    have e : KZ K F (putK ws m.1 m.2) (dput kvs p.1 p.2) := by
      rw [show m.1 = p.1 from g.1]
      exact kz_put g.2 h
    exact kz_merge (more := more) (ps := ps) r e
section
variable {X : Cx} {E : XK}
abbrev GPs (X : Cx) (pos : Pos) (keys : List (Option Expr)) (values : List Expr) (prs : List (G × G)) : Prop := PPs X pos keys values (prs.map fun p => (dnE X.K E0 p.1, dnE X.K E0 p.2))
theorem gp_nil {pos : Pos} : GPs X pos [] [] [] := pps_nil
theorem gp_cons {pos : Pos} {k v : Expr} {ks : List (Option Expr)} {vs : List Expr} {gk gv : G} {prs : List (G × G)} (hk : GE X E0 k gk) (hv : GE X E0 v gv) (hr : GPs X pos ks vs prs) : GPs X pos (some k :: ks) (v :: vs) ((gk, gv) :: prs) := pps_cons hk hv hr
theorem ge_disp {pos : Pos} {keys : List (Option Expr)} {values : List Expr} {prs : List (G × G)} (h : GPs X pos keys values prs) (hall : keys.all (·.isSome) = true := by rfl) (hl : keys.length = values.length := by rfl) (h0 : keys ≠ [] := by intro q; cases q)
    (h15 : keys.length ≤ 15 := by decide) : GE X E (.Dict keys values pos) (gDisp prs) :=
  pe_weak (pe_disp h hall hl h0 h15) fun σ H Q ⟨B, ρ, F, own, Qp, Ep, hK, ok, h, lx, k⟩ => fun p hp => by
    obtain ⟨okE, bx⟩ := ok.enter (.dK []) hp
    refine dnPrs (B := Bx B p (.dK []) fun _ => none) hK okE h fun ps ρ' vs H' F' own' ok' s z q => ?_
    obtain ⟨kvs, e1, e2, e3⟩ := prz_kvs z
    have okL := (ok'.appD bx (.dK (mergeK [] kvs))).leave bx (ρ' := ρ') (σ' := σ) ok'.len fun i c e => .inl ⟨e, rfl⟩
    refine ⟨ok'.dlist bx, kvs, e1, by rw [e2]; exact q.1, ?_⟩
    exact k (.dk (putAll [] ps)) ρ' (.ref p) _ F' _ okL ⟨p, mergeK [] kvs, rfl, upd_same, by simp [ownL], by rw [hK]; exact kz_merge e3 .nil⟩ s q.2
end
end P

set_option Elab.async false
set_option linter.all false
set_option maxRecDepth 100000
set_option maxHeartbeats 4000000
/-! The P-layer, 18: plain data (no dict): its equality, its fitness. -/
namespace P
open PySem L2
/-- data without dicts, at most n deep -/
inductive Dt : Nat → D → Prop
  | none {n} : Dt n .none
  | bool {n b} : Dt n (.bool b)
  | int {n i} : Dt n (.int i)
  | str {n x} : PyData.strOk x = true → Dt n (.str x)
  | lst {n ds} : (∀ d ∈ ds, Dt n d) → Dt (n + 1) (.list ds)
  | tup {n ds} : (∀ d ∈ ds, Dt n d) → Dt (n + 1) (.tuple ds)
theorem dt_all {n : Nat} {ds : List D} (h : ∀ d ∈ ds, PyData.canLay0 d = true ∧ d.depth ≤ n ∧ hasDict d = false) : PyData.canLayAll0 ds = true ∧ PyData.depthAll ds ≤ n ∧ hasDict.anyDict ds = false := by
  induction ds with
  | nil => exact ⟨rfl, Nat.zero_le _, rfl⟩
  | cons d ds ih =>
    obtain ⟨a1, a2, a3⟩ := ih fun x hx => h x (List.mem_cons_of_mem _ hx)
    obtain ⟨b1, b2, b3⟩ := h d List.mem_cons_self
    exact ⟨by rw [PyData.canLayAll0, b1, a1]; rfl, by rw [PyData.depthAll]; exact Nat.max_le.mpr ⟨b2, a2⟩, by rw [hasDict.anyDict, b3, a3]; rfl⟩
theorem Dt.fit {n : Nat} {d : D} (h : Dt n d) : PyData.canLay0 d = true ∧ d.depth ≤ n ∧ hasDict d = false := by
  induction h with
  | none => exact ⟨rfl, Nat.zero_le _, rfl⟩
  | bool => exact ⟨rfl, Nat.zero_le _, rfl⟩
  | int => exact ⟨rfl, Nat.zero_le _, rfl⟩
  | str h => exact ⟨h, Nat.zero_le _, rfl⟩
  | lst _ ih =>
    obtain ⟨a1, a2, a3⟩ := dt_all ih
    exact ⟨by rw [PyData.canLay0]; exact a1, by rw [PyData.depth]; omega, by rw [hasDict]; exact a3⟩
  | tup _ ih =>
    obtain ⟨a1, a2, a3⟩ := dt_all ih
    exact ⟨by rw [PyData.canLay0]; exact a1, by rw [PyData.depth]; omega, by rw [hasDict]; exact a3⟩
theorem Dt.ok {n : Nat} {d : D} (h : Dt n d) (hn : n ≤ 64) : datOk d = true := by
  obtain ⟨a1, a2, a3⟩ := h.fit
  unfold datOk SeqAt.shaped
  rw [a1, a3, decide_eq_true (Nat.le_trans a2 hn)]
  rfl
/-- data in which no truth value stands for a number -/
inductive Nb : D → Prop
  | none : Nb .none
  | int {i} : Nb (.int i)
  | str {x} : Nb (.str x)
  | lst {ds} : (∀ d ∈ ds, Nb d) → Nb (.list ds)
  | tup {ds} : (∀ d ∈ ds, Nb d) → Nb (.tuple ds)
theorem eqvAll_iff {xs : List D} (ih : ∀ d ∈ xs, ∀ e, Nb e → (PyData.eqv d e = true ↔ d = e)) : ∀ {ys : List D}, (∀ e ∈ ys, Nb e) → (PyData.eqvAll xs ys = true ↔ xs = ys) := by
  induction xs with
  | nil =>
    intro ys _
    cases ys with
    | nil => exact ⟨fun _ => rfl, fun _ => rfl⟩
    | cons y ys => exact ⟨fun h => (by rw [PyData.eqvAll] at h; cases h), fun h => nomatch h⟩
  | cons x xs hx =>
    intro ys hy
    cases ys with
    | nil => exact ⟨fun h => (by rw [PyData.eqvAll] at h; cases h), fun h => nomatch h⟩
    | cons y ys =>
      rw [PyData.eqvAll, Bool.and_eq_true, ih x List.mem_cons_self y (hy y List.mem_cons_self), hx (fun d hd => ih d (List.mem_cons_of_mem _ hd)) fun e he => hy e (List.mem_cons_of_mem _ he)]
      exact ⟨fun ⟨a, b⟩ => by rw [a, b], fun h => by injection h with a b; exact ⟨a, b⟩⟩
theorem eqv_iff {d e : D} (h : Nb d) (h' : Nb e) : PyData.eqv d e = true ↔ d = e := by
  induction h generalizing e with
  | none => cases h' <;> simp [PyData.eqv]
  | int => cases h' <;> simp [PyData.eqv]
  | str => cases h' <;> simp [PyData.eqv]
  | lst hd ih =>
    cases h' with
    | lst he =>
      rw [PyData.eqv, eqvAll_iff (fun d hd e hn => ih d hd hn) he]
      exact ⟨fun h => by rw [h], fun h => by injection h⟩
    | _ => simp [PyData.eqv]
  | tup hd ih =>
    cases h' with
    | tup he =>
      rw [PyData.eqv, eqvAll_iff (fun d hd e hn => ih d hd hn) he]
      exact ⟨fun h => by rw [h], fun h => by injection h⟩
    | _ => simp [PyData.eqv]
theorem inD_iff {d : D} {ds : List D} (h : Nb d) (hs : ∀ e ∈ ds, Nb e) : inD d ds = true ↔ d ∈ ds := by
  unfold inD
  rw [List.any_eq_true]
  constructor
  · rintro ⟨z, hz, e⟩
    rw [← (eqv_iff (hs z hz) h).mp e]
    exact hz
  · exact fun hd => ⟨d, hd, (eqv_iff h h).mpr rfl⟩
/-- over an encoding -/
theorem inD_map {α : Type} {f : α → D} (hf : ∀ a, Nb (f a)) (inj : ∀ a b, f a = f b → a = b) {x : α} {xs : List α} : inD (f x) (xs.map f) = true ↔ x ∈ xs := by
  rw [inD_iff (hf x) (fun e he => by obtain ⟨a, _, rfl⟩ := List.mem_map.mp he; exact hf a), List.mem_map]
  exact ⟨fun ⟨a, h1, h2⟩ => inj a x h2 ▸ h1, fun h => ⟨x, h, rfl⟩⟩
theorem idx_map {α : Type} {f : α → D} (hf : ∀ a, Nb (f a)) (inj : ∀ a b, f a = f b → a = b) {x : α} : ∀ {xs : List α}, x ∈ xs → ∃ j, ((xs.map f).findIdx? fun z => PyData.eqv z (f x)) = some j ∧ xs[j]? = some x
  | y :: ys, h => by
    rw [List.map_cons, List.findIdx?_cons]
    by_cases e : PyData.eqv (f y) (f x) = true
    · rw [if_pos e]
      have := inj _ _ ((eqv_iff (hf y) (hf x)).mp e)
      subst this
      exact ⟨0, rfl, rfl⟩
    · rw [if_neg e]
      rcases List.mem_cons.mp h with rfl | h
      · exact (e ((eqv_iff (hf _) (hf _)).mpr rfl)).elim
      · obtain ⟨j, h1, h2⟩ := idx_map hf inj h
        exact ⟨j + 1, by rw [h1]; rfl, by simpa using h2⟩
theorem eqv_map {α : Type} {f : α → D} (hf : ∀ a, Nb (f a)) (inj : ∀ a b, f a = f b → a = b) {x y : α} [DecidableEq α] : PyData.eqv (f x) (f y) = decide (x = y) := by
  by_cases h : x = y
  · subst h
    rw [decide_eq_true rfl]
    exact (eqv_iff (hf x) (hf x)).mpr rfl
  · rw [decide_eq_false h]
    cases e : PyData.eqv (f x) (f y) with
    | false => rfl
    | true => exact (h (inj _ _ ((eqv_iff (hf x) (hf y)).mp e))).elim
theorem bool_of {b c : Bool} (h : b = true ↔ c = true) : b = c := by
  cases b <;> cases c <;> simp_all
end P

set_option Elab.async false
set_option linter.all false
set_option maxRecDepth 100000
set_option maxHeartbeats 4000000
/-! The P-layer, 19: max and min of a tuple of whole numbers. -/
namespace P
open PySem PySem.Spec PyProof.Rows L2
def rMaxT (K : Frag) : List V → Hp → VK → Prop := fun vs H Q => ∃ (a : Addr) (ns : List Int), vs = [V.ref a] ∧ SqT K H a (ns.map V.int) ∧ 0 < ns.length ∧ ∀ m, m ∈ ns → (∀ y, y ∈ ns → y ≤ m) → Q (.int m) H
def rMinT (K : Frag) : List V → Hp → VK → Prop := fun vs H Q => ∃ (a : Addr) (ns : List Int), vs = [V.ref a] ∧ SqT K H a (ns.map V.int) ∧ 0 < ns.length ∧ ∀ m, m ∈ ns → (∀ y, y ∈ ns → m ≤ y) → Q (.int m) H
theorem ints_read {h : Heap} : ∀ {its : List Value} {ns : List Int}, Vals (ns.map V.int) its → ReadsAll h its (ns.map PyData.int) []
  | _, [], .nil => .nil
  | _, n :: ns, .cons r rs => by
    obtain ⟨t, rfl⟩ := r
    exact .cons (as := []) (.int n t) (ints_read rs)
theorem ints_alike (ns : List Int) : W.AlikeAll (ns.map PyData.int) := by
  refine ⟨fun x hx y hy => ?_, fun x hx => ?_⟩
  · obtain ⟨i, _, rfl⟩ := List.mem_map.mp hx
    obtain ⟨j, _, rfl⟩ := List.mem_map.mp hy
    rfl
  · obtain ⟨i, _, rfl⟩ := List.mem_map.mp hx
    simp
theorem ints_flat (ns : List Int) : PyData.depthAll (ns.map PyData.int) = 0 := by
  induction ns with
  | nil => rfl
  | cons n ns ih => rw [List.map_cons, PyData.depthAll, ih]; rfl
theorem foldl_max (n : Int) : ∀ (ns : List Int), ns.foldl max n ∈ n :: ns ∧ ∀ y ∈ n :: ns, y ≤ ns.foldl max n := by
  intro ns
  induction ns generalizing n with
  | nil => exact ⟨List.mem_singleton.mpr rfl, fun y hy => by rw [List.mem_singleton] at hy; subst hy; exact Int.le_refl _⟩
  | cons a ns ih =>
    obtain ⟨h1, h2⟩ := ih (max n a)
    rw [List.foldl_cons]
    have h3 := h2 _ List.mem_cons_self
    refine ⟨?_, fun y hy => ?_⟩
    · rcases List.mem_cons.mp h1 with h | h
      · rw [h]
        by_cases q : n ≤ a
        · rw [Int.max_eq_right q]; simp
        · rw [Int.max_eq_left (by omega)]; simp
      · exact List.mem_cons_of_mem _ (List.mem_cons_of_mem _ h)
    · rcases List.mem_cons.mp hy with rfl | hy
      · omega
      · rcases List.mem_cons.mp hy with rfl | hy
        · omega
        · exact h2 y (List.mem_cons_of_mem _ hy)
theorem foldl_min (n : Int) : ∀ (ns : List Int), ns.foldl min n ∈ n :: ns ∧ ∀ y ∈ n :: ns, ns.foldl min n ≤ y := by
  intro ns
  induction ns generalizing n with
  | nil => exact ⟨List.mem_singleton.mpr rfl, fun y hy => by rw [List.mem_singleton] at hy; subst hy; exact Int.le_refl _⟩
  | cons a ns ih =>
    obtain ⟨h1, h2⟩ := ih (min n a)
    rw [List.foldl_cons]
    have h3 := h2 _ List.mem_cons_self
    refine ⟨?_, fun y hy => ?_⟩
    · rcases List.mem_cons.mp h1 with h | h
      · rw [h]
        by_cases q : n ≤ a
        · rw [Int.min_eq_left q]; simp
        · rw [Int.min_eq_right (by omega)]; simp
      · exact List.mem_cons_of_mem _ (List.mem_cons_of_mem _ h)
    · rcases List.mem_cons.mp hy with rfl | hy
      · omega
      · rcases List.mem_cons.mp hy with rfl | hy
        · omega
        · exact h2 y (List.mem_cons_of_mem _ hy)
theorem call_maxT {X : Cx} {k : Nat} (room : RoomG k X.A) : CallR X (.builtin "max") (rMaxT X.K) := by
  intro pins s σ H vs us Q I r h
  obtain ⟨a, ns, rfl, hs, hne, q⟩ := h
  obtain ⟨its, rv, hl, _⟩ := I.tuple hs
  rw [Vals.ref1 r]
  cases ns with
  | nil => exact absurd hne (Nat.lt_irrefl 0)
  | cons n ns =>
    have un := room.r.un
    have rd : ReadsAll s.heap its.toArray.toList (.int n :: ns.map PyData.int) [] := by simpa using ints_read (h := s.heap) rv
    refine W.max_tuple_data room.hd hl rd (ints_alike (n :: ns)) (by rw [show (PyData.int n :: ns.map PyData.int) = (n :: ns).map PyData.int from rfl, ints_flat]; omega) fun i v h' tk bs _ rd' keep => ?_
    rw [W.maxD_ints] at rd'
    obtain ⟨m1, m2⟩ := foldl_max n ns
    cases rd' with
    | int _ t => exact ⟨.int _, H, I.kept keep, ⟨_, rfl⟩, q _ m1 m2⟩
theorem call_minT {X : Cx} {k : Nat} (room : RoomG k X.A) : CallR X (.builtin "min") (rMinT X.K) := by
  intro pins s σ H vs us Q I r h
  obtain ⟨a, ns, rfl, hs, hne, q⟩ := h
  obtain ⟨its, rv, hl, _⟩ := I.tuple hs
  rw [Vals.ref1 r]
  cases ns with
  | nil => exact absurd hne (Nat.lt_irrefl 0)
  | cons n ns =>
    have un := room.r.un
    have rd : ReadsAll s.heap its.toArray.toList (.int n :: ns.map PyData.int) [] := by simpa using ints_read (h := s.heap) rv
    refine W.min_tuple_data room.hd hl rd (ints_alike (n :: ns)) (by rw [show (PyData.int n :: ns.map PyData.int) = (n :: ns).map PyData.int from rfl, ints_flat]; omega) fun i v h' tk bs _ rd' keep => ?_
    rw [W.minD_ints] at rd'
    obtain ⟨m1, m2⟩ := foldl_min n ns
    cases rd' with
    | int _ t => exact ⟨.int _, H, I.kept keep, ⟨_, rfl⟩, q _ m1 m2⟩
def pMax1A : PfL := fun ds k => match ds with
  | [.list xs] => optP (intsD xs) fun ns => 0 < ns.length ∧ ∀ m, m ∈ ns → (∀ y, y ∈ ns → y ≤ m) → k (.fz (.int m))
  | [.tuple xs] => optP (intsD xs) fun ns => 0 < ns.length ∧ ∀ m, m ∈ ns → (∀ y, y ∈ ns → y ≤ m) → k (.fz (.int m))
  | _ => False
def pMin1A : PfL := fun ds k => match ds with
  | [.list xs] => optP (intsD xs) fun ns => 0 < ns.length ∧ ∀ m, m ∈ ns → (∀ y, y ∈ ns → m ≤ y) → k (.fz (.int m))
  | [.tuple xs] => optP (intsD xs) fun ns => 0 < ns.length ∧ ∀ m, m ∈ ns → (∀ y, y ∈ ns → m ≤ y) → k (.fz (.int m))
  | _ => False
theorem r_max1A {K : Frag} : RLV K (fun xs H Q => rMax K xs H Q ∨ rMaxT K xs H Q) pMax1A := by
  intro F H xs ds Qp Q s vs h r
  unfold pMax1A at h
  split at h
  · exact .inl (r_max1 F H xs _ Qp Q s vs h r)
  · obtain ⟨ns, e, h0, q⟩ := optP_inv h
    have e := intsD_eq e
    subst e
    cases vs with
    | cons v w =>
      cases w
      obtain ⟨a, ys, rfl, h1, h1', f⟩ := vw_tup s v
      rw [f.ints] at h1
      exact .inr ⟨a, ns, rfl, h1, h0, fun m hm hle => r.dat _ _ (.int _) (q m hm hle)⟩
  · exact h.elim
theorem r_min1A {K : Frag} : RLV K (fun xs H Q => rMin K xs H Q ∨ rMinT K xs H Q) pMin1A := by
  intro F H xs ds Qp Q s vs h r
  unfold pMin1A at h
  split at h
  · exact .inl (r_min1 F H xs _ Qp Q s vs h r)
  · obtain ⟨ns, e, h0, q⟩ := optP_inv h
    have e := intsD_eq e
    subst e
    cases vs with
    | cons v w =>
      cases w
      obtain ⟨a, ys, rfl, h1, h1', f⟩ := vw_tup s v
      rw [f.ints] at h1
      exact .inr ⟨a, ns, rfl, h1, h0, fun m hm hle => r.dat _ _ (.int _) (q m hm hle)⟩
  · exact h.elim
theorem call_max1A {X : Cx} {k : Nat} (hc : X.calm = true) (room : RoomG k X.A) : CallR X (.builtin "max") (fun xs H Q => rMax X.K xs H Q ∨ rMaxT X.K xs H Q) := (cr_max hc).or (call_maxT room)
theorem call_min1A {X : Cx} {k : Nat} (hc : X.calm = true) (room : RoomG k X.A) : CallR X (.builtin "min") (fun xs H Q => rMin X.K xs H Q ∨ rMinT X.K xs H Q) := (cr_min hc).or (call_minT room)
end P

set_option Elab.async false
set_option linter.all false
set_option maxRecDepth 100000
set_option maxHeartbeats 4000000
/-! The P-layer, 20: a draw out of a list that stays its caller's own. -/
namespace P
open PySem PySem.Spec PyProof.Rows L2
structure CalV (P : Program) (w : World) (K : Frag) (mg : Str → Option Value) (base : Heap) (x : Str) (k : Nat) (sp : Sp) : Prop where
  ex : ∃ f fd ps, FnG P w K mg base CX0 k f fd ps sp ∧ mg x = some (.ref f) ∧ PySem.W.keepIn K (.ref f) = true ∧ L2.Binds K fd ps []
def spSome0 (K : Frag) : Sp := fun vs H Q _ => ∃ (a c b : Addr) (ns : List Int) (n1 n2 n3 n4 n5 : Int) (xs : List V), vs = [.ref a, .ref b] ∧ H a = some (.lst [.ref c, .int n1, .int n2, .int n3, .int n4, .int n5]) ∧ c ≠ a ∧ H c = some (.lst (ns.map V.int)) ∧ 0 ≤ n1 ∧ b ≠ a ∧ H b = some (.lst xs) ∧ 0 < xs.length ∧ xs.length ≤ 1000000 ∧
  ∀ (v : V) (H' : Hp) (n1' n2' n3' n4' n5' : Int), v ∈ xs → (∀ b o, H b = some o → b ≠ a → H' b = some o) → H' a = some (.lst [.ref c, .int n1', .int n2', .int n3', .int n4', .int n5']) → 0 ≤ n1' → Q v H'
/-- a draw leaves all but its source as it was -/
theorem Ok.drawn {B : Box} {ρ : PEnv} {σ : L2.St} {H H' F : Hp} {own : Own} {a c : Addr} {ns : List Int} {n1 n2 n3 n4 n5 : Int} (ok : Ok B ρ σ H F own) (ea : B.a0 = some a) (hc : F c = some (.lst (ns.map V.int))) (kp : ∀ b o, H b = some o → b ≠ a → H' b = some o)
    (ha : H' a = some (.lst [.ref c, .int n1, .int n2, .int n3, .int n4, .int n5])) (h0 : 0 ≤ n1) : Ok B ρ σ H' F own := by
  obtain ⟨o1, o2, o3, o4⟩ := ok.orc a ea
  have ne : ∀ b x, own b = some x → b ≠ a := fun b x e z => by rw [z, o3] at e; cases e
  have same : ∀ b x, own b = some x → H' b = H b := fun b x e => by
    obtain ⟨_, _, h3⟩ := ok.ow b x e
    obtain ⟨o, ho⟩ := Option.isSome_iff_exists.mp h3
    rw [ho, kp b o ho (ne b x e)]
  refine ⟨fun b o e => kp b o (ok.sub b o e) (fun z => by rw [z, o2] at e; cases e), fun b o e1 e2 => kp b o (ok.keep b o e1 e2) (fun z => e2 (z ▸ ea)), ok.up, ok.new, fun b x e => ?_, fun b e => ?_, ok.len, fun i c e => ?_⟩
  · obtain ⟨h1, h2, h3⟩ := ok.ow b x e
    exact ⟨h1, h2, by rw [same b x e]; exact h3⟩
  · rw [ea] at e
    cases e
    exact ⟨⟨c, ns, n1, n2, n3, n4, n5, ha, hc, h0⟩, o2, o3, o4⟩
  · obtain ⟨v, h1, h2⟩ := ok.slot i c e
    exact ⟨v, h1, h2.keep (Same.refl _) fun b j q => ⟨q, same b _ q⟩⟩
def gSomeO (j i : Nat) : G := fun ρ Q _ => match ρ[j]?, ρ[i]? with
  | some (some .orc), some (some (.ls ds)) => 0 < ds.length ∧ ds.length ≤ 1000000 ∧ ∀ x ∈ ds, Q (.fz x) ρ
  | _, _ => False
theorem ge_someO {X : Cx} {E : XK} {k k' : Nat} {i j : Nat} {x y : Str} {p p1 p2 pos : Pos} (c : CalV X.prog X.w X.K X.mg X.base "_law_some" k (spSome0 X.K)) (hr : RoomG k' X.A) (hk : k ≤ k') (hg : Gl X "_law_some")
    (h1 : PE X (.Name x p1) (tVar j)) (h2 : PE X (.Name y p2) (tVar i)) (he : starEach [.Name x p1, .Name y p2] X.env = (false, eval (.Name x p1) X.env) :: starEach [.Name y p2] X.env := by rfl) (he2 : starEach [.Name y p2] X.env = (false, eval (.Name y p2) X.env) :: starEach [] X.env := by rfl)
    (hpl : (backTo pos (starEach [.Name y p2] X.env)).any (·.1) = false := by rfl) : GE X E (.Call (.Name "_law_some" p) [.Name x p1, .Name y p2] [] pos) (gSomeO j i) := by
  obtain ⟨f, fd, ps, F, m, kp, b⟩ := c.ex
  refine pe_weak (pe_callG (E := E0) F (hr.mono hk) hg m kp b .nil pass0 (pa_cons h1 (pa_cons h2 pa_nil)) (by decide) he hpl) fun σ H Q ⟨B, ρ, F, own, Qp, Ep, hK, ok, h, lx, k⟩ => ?_
  unfold gSomeO at h
  split at h
  · rename_i ds e1 e2
    obtain ⟨l0, l1, h⟩ := h
    obtain ⟨v1, s1, a, ea, rfl⟩ := ok.slot j _ e1
    obtain ⟨v2, s2, a2, vs, rfl, hl, ow, fz⟩ := ok.slot i _ e2
    obtain ⟨⟨c, ns, n1, n2, n3, n4, n5, q1, q2, q3⟩, o2, o3, o4⟩ := ok.orc a ea
    have hca : c ≠ a := fun z => by rw [z, o2] at q2; cases q2
    have hba : a2 ≠ a := fun z => by rw [z, o3] at ow; cases ow
    have len := fz.length
    refine ⟨_, s1, _, s2, a, c, a2, ns, n1, n2, n3, n4, n5, vs, rfl, q1, hca, ok.sub _ _ q2, q3, hba, hl, by omega, by omega, fun v H' n1' n2' n3' n4' n5' hv kp' ha' h0' => ?_⟩
    obtain ⟨z, hz⟩ := List.mem_iff_getElem?.mp hv
    obtain ⟨d, hd, fd⟩ := fz.getV hz
    have ok' := ok.drawn (H' := H') ea q2 kp' ha' h0'
    exact k (.fz d) ρ v H' F own ok' fd (Same.refl _) (h d (List.mem_of_getElem? hd))
  · exact h.elim
end P

set_option Elab.async false
set_option linter.all false
set_option maxRecDepth 100000
set_option maxHeartbeats 4000000
namespace P
open PySem L2
def top (i : Nat) : Stmt := PySem.Challenge.pw_thrownslips_k35_throw_tables.main.body.getD i (.Pass ⟨0, 0, 0, 0⟩)
structure Tx (mg : Str → Option Value) : Prop where
  int : mg "int" = none
  len : mg "len" = none
  list : mg "list" = none
  max : mg "max" = none
  min : mg "min" = none
  range : mg "range" = none
  repr : mg "repr" = none
  str : mg "str" = none
  sum : mg "sum" = none
  tuple : mg "tuple" = none

/-! ### names of states -/
def baseS (x : Str) : Str := ((Txt.split x "@")[0]?).getD ""
def markS (x : Str) : Str := ((Txt.split (baseS x) "/")[0]?).getD ""
def hasSl (x : Str) : Bool := !(Builtin.Str.occurrences x "/" 0 x.length 1).isEmpty
def fitsS (p x : Str) : Bool := if p = "any" then true else if hasSl p = true then decide (baseS x = p) else decide (markS x = p)
/-! ### names put together -/
def sN (n : Nat) : Str := Str.ofString (toString ((n : Nat) : Int))
def btS (m : Str) (lv : List Nat) : Str := Txt.join "/" (m :: lv.map sN)
structure MkOk (m : Str) : Prop where
  sl : 47 ∉ TL.tl m
  at_ : 64 ∉ TL.tl m
  len : m.length ≤ 10
  any : m ≠ "any"
  same : m ≠ "same"
  more : m ≠ "more"
instance (m : Str) : Decidable (MkOk m) :=
  if h : (47 ∉ TL.tl m) ∧ (64 ∉ TL.tl m) ∧ m.length ≤ 10 ∧ m ≠ "any" ∧ m ≠ "same" ∧ m ≠ "more" then isTrue ⟨h.1, h.2.1, h.2.2.1, h.2.2.2.1, h.2.2.2.2.1, h.2.2.2.2.2⟩ else isFalse fun k => h ⟨k.1, k.2, k.3, k.4, k.5, k.6⟩
def LvOk (lv : List Nat) : Prop := lv.length ≤ 2 ∧ ∀ l ∈ lv, l < 100
theorem sN_free {n c : Nat} (h : c < 48 ∨ 57 < c) : c ∉ TL.tl (sN n) := by
  unfold sN
  rw [TL.tl_num]
  exact TL.numL_free h
theorem sN_inj {a b : Nat} (h : sN a = sN b) : a = b := by
  have e := congrArg TL.tl h
  unfold sN at e
  rw [TL.tl_num, TL.tl_num] at e
  exact TL.numL_inj e
theorem sN_len {n : Nat} (h : n < 100) : (sN n).length ≤ 2 := by
  unfold sN
  rw [TL.len_tl, TL.tl_num]
  exact TL.numL_len (by decide) h
theorem sN_int {n : Nat} (h : n < 100) : PySem.intText? (sN n) = some (n : Int) := by
  refine TL.int_num ?_
  have := TL.numL_len (n := n) (k := 2) (by decide) h
  omega
theorem sN_list_inj : ∀ {a b : List Nat}, a.map sN = b.map sN → a = b
  | [], [], _ => rfl
  | [], _ :: _, h => by simp at h
  | _ :: _, [], h => by simp at h
  | x :: a, y :: b, h => by
    rw [List.map_cons, List.map_cons] at h
    injection h with h1 h2
    rw [sN_inj h1, sN_list_inj h2]
theorem split_bt {m : Str} (h : MkOk m) (lv : List Nat) : Txt.split (btS m lv) "/" = m :: lv.map sN := by
  refine TL.split_join (s := 47) (S := []) rfl (by decide +kernel) (by simp) fun p hp => ?_
  rcases List.mem_cons.mp hp with rfl | hp
  · exact h.sl
  · obtain ⟨n, _, rfl⟩ := List.mem_map.mp hp
    exact sN_free (by omega)
theorem mem_joinL {c : Nat} {S : List Nat} : ∀ {ps : List (List Nat)}, c ∈ TL.joinL S ps → c ∈ S ∨ ∃ p ∈ ps, c ∈ p
  | [], h => by cases h
  | [p], h => .inr ⟨p, List.mem_singleton.mpr rfl, h⟩
  | p :: q :: r, h => by
    have h : c ∈ p ++ (S ++ TL.joinL S (q :: r)) := h
    rcases List.mem_append.mp h with h | h
    · exact .inr ⟨p, List.mem_cons_self, h⟩
    rcases List.mem_append.mp h with h | h
    · exact .inl h
    · rcases mem_joinL h with h | ⟨x, h1, h2⟩
      · exact .inl h
      · exact .inr ⟨x, List.mem_cons_of_mem _ h1, h2⟩
theorem tl_bt (m : Str) (lv : List Nat) : TL.tl (btS m lv) = TL.joinL [47] (TL.tl m :: lv.map fun n => TL.tl (sN n)) := by
  unfold btS
  rw [TL.join_eq, TL.tl_join, List.map_cons, List.map_map]
  rfl
theorem bt_free {m : Str} (h : MkOk m) (lv : List Nat) : 64 ∉ TL.tl (btS m lv) := fun hm => by
  rw [tl_bt] at hm
  rcases mem_joinL hm with hm | ⟨p, hp, hm⟩
  · simp at hm
  · rcases List.mem_cons.mp hp with rfl | hp
    · exact h.at_ hm
    · obtain ⟨n, _, rfl⟩ := List.mem_map.mp hp
      exact sN_free (by omega) hm
theorem bt_inj {m m' : Str} {lv lv' : List Nat} (h : MkOk m) (h' : MkOk m') (e : btS m lv = btS m' lv') : m = m' ∧ lv = lv' := by
  have q := split_bt h lv
  rw [e, split_bt h' lv'] at q
  injection q with q1 q2
  exact ⟨q1.symm, (sN_list_inj q2).symm⟩
/-- what stands behind a base: nothing, or something behind an @ -/
def TlOk (t : Str) : Prop := (t.cps.toList = [] ∨ ∃ r, t.cps.toList = 64 :: r) ∧ t.length ≤ 20
theorem base_bt {m t : Str} (h : MkOk m) (lv : List Nat) (ht : TlOk t) : baseS (btS m lv ++ t) = btS m lv := by
  have e := TL.split_spl (btS m lv ++ t) "@" (by decide +kernel) (TL.kind_ok (by decide +kernel))
  have f := bt_free h lv
  rw [TL.tl_append] at e
  have e1 : TL.tl ("@" : Str) = [64] := by decide +kernel
  rw [e1] at e
  unfold baseS
  rcases ht.1 with h0 | ⟨r, h0⟩
  · rw [show TL.tl t = [] from h0, List.append_nil, TL.spl_last1 f] at e
    cases q : Txt.split (btS m lv ++ t) "@" with
    | nil => rw [q] at e; cases e
    | cons a b =>
      rw [q, List.map_cons] at e
      injection e with e2 _
      show a = _
      exact TL.ext_tl e2
  · rw [show TL.tl t = 64 :: r from h0, show TL.tl (btS m lv) ++ 64 :: r = TL.tl (btS m lv) ++ ([64] ++ r) from rfl, TL.spl_part1 f] at e
    cases q : Txt.split (btS m lv ++ t) "@" with
    | nil => rw [q] at e; cases e
    | cons a b =>
      rw [q, List.map_cons] at e
      injection e with e2 _
      show a = _
      exact TL.ext_tl e2
theorem mark_bt {m t : Str} (h : MkOk m) (lv : List Nat) (ht : TlOk t) : markS (btS m lv ++ t) = m := by
  unfold markS
  rw [base_bt h lv ht, split_bt h lv]
  rfl
theorem hasSl_eq (x : Str) : hasSl x = decide (47 ∈ TL.tl x) := StrLaws.found_one x 47
theorem hasSl_bt {m : Str} (h : MkOk m) (lv : List Nat) : hasSl (btS m lv) = decide (lv ≠ []) := by
  rw [hasSl_eq]
  cases lv with
  | nil =>
    rw [tl_bt]
    show decide (47 ∈ TL.tl m) = _
    rw [decide_eq_false h.sl]
    rfl
  | cons a lv =>
    rw [tl_bt]
    rw [decide_eq_true (show (a :: lv : List Nat) ≠ [] by simp)]
    exact decide_eq_true (by
      show 47 ∈ TL.tl m ++ ([47] ++ _)
      simp)
theorem bt_nil (m : Str) : btS m [] = m := by
  refine TL.ext_tl ?_
  rw [tl_bt]
  rfl
theorem joinL_len {S : List Nat} {k : Nat} : ∀ {ps : List (List Nat)}, (∀ p ∈ ps, p.length ≤ k) → (TL.joinL S ps).length ≤ ps.length * (k + S.length)
  | [], _ => Nat.zero_le _
  | [p], h => by
    have := h p List.mem_cons_self
    show p.length ≤ 1 * _
    omega
  | p :: q :: r, h => by
    have h1 := h p List.mem_cons_self
    have h2 := joinL_len (S := S) (ps := q :: r) fun x hx => h x (List.mem_cons_of_mem _ hx)
    show (p ++ (S ++ TL.joinL S (q :: r))).length ≤ _
    rw [List.length_append, List.length_append, List.length_cons, Nat.add_mul]
    omega
theorem bt_len {m : Str} (h : MkOk m) {lv : List Nat} (hl : LvOk lv) : (btS m lv).length ≤ 33 := by
  rw [TL.len_tl, tl_bt]
  have := joinL_len (S := [47]) (k := 10) (ps := TL.tl m :: lv.map fun n => TL.tl (sN n)) fun p hp => by
    rcases List.mem_cons.mp hp with rfl | hp
    · rw [← TL.len_tl]; exact h.len
    · obtain ⟨n, hn, rfl⟩ := List.mem_map.mp hp
      rw [← TL.len_tl]
      have := sN_len (hl.2 n hn)
      omega
  rw [List.length_cons, List.length_map] at this
  have h2 := hl.1
  have h3 : (lv.length + 1) * (10 + [47].length) ≤ 3 * 11 := Nat.mul_le_mul (by omega) (by decide)
  omega
/-! asked patterns -/
inductive Ask where
  | any | same | more | mark (m : Str) | base (m : Str) (lv : List Nat)
def Ask.Ok : Ask → Prop
  | .mark m => MkOk m
  | .base m lv => MkOk m ∧ lv ≠ [] ∧ LvOk lv
  | _ => True
def Ask.d : Ask → D
  | .any => .tuple [.str "any"]
  | .same => .tuple [.str "same"]
  | .more => .tuple [.str "more"]
  | .mark m => .tuple [.str "mark", .str m]
  | .base m lv => .tuple [.str "base", .str m, .tuple (lv.map fun n => .int (n : Nat))]
def Ask.txt : Ask → Str
  | .any => "any"
  | .same => "same"
  | .more => "more"
  | .mark m => m
  | .base m lv => btS m lv
def Ask.isGoes : Ask → Prop
  | .same => False
  | .more => False
  | _ => True
structure Part where
  mark : Str
  lv : List Nat
  tail : Str
  lab : Nat
structure Part.Ok (p : Part) : Prop where
  mkk : MkOk p.mark
  lv : LvOk p.lv
  tl : TlOk p.tail
def Part.name (p : Part) : Str := btS p.mark p.lv ++ p.tail
def Part.d (p : Part) : D := .tuple [.str p.mark, .tuple (p.lv.map fun n => .int (n : Nat)), .int (p.lab : Nat)]
def NmF (x : Str) : Prop := ∃ p : Part, p.Ok ∧ p.tail.length ≤ 4 ∧ p.lab = 0 ∧ x = p.name
def askFits (a : Ask) (p : Part) : Bool := match a with
  | .mark m => decide (p.mark = m)
  | .base m lv => decide (p.mark = m) && decide (p.lv = lv)
  | _ => true
theorem fits_ask {a : Ask} {p : Part} (ha : a.Ok) (hg : a.isGoes) (hp : p.Ok) : fitsS a.txt p.name = askFits a p := by
  unfold fitsS Part.name
  rw [base_bt hp.mkk _ hp.tl, mark_bt hp.mkk _ hp.tl]
  cases a with
  | any => rfl
  | same => exact hg.elim
  | more => exact hg.elim
  | mark m =>
    have ha : MkOk m := ha
    show (if m = "any" then true else _) = _
    rw [if_neg ha.any, if_neg (by rw [show (Ask.mark m).txt = m from rfl, hasSl_eq, decide_eq_false ha.sl]; exact Bool.false_ne_true)]
    rfl
  | base m lv =>
    obtain ⟨h1, h2, h3⟩ : MkOk m ∧ lv ≠ [] ∧ LvOk lv := ha
    have hs : hasSl (btS m lv) = true := by rw [hasSl_bt h1, decide_eq_true h2]
    show (if btS m lv = "any" then true else if hasSl (btS m lv) = true then decide (btS p.mark p.lv = btS m lv) else _) = (decide (p.mark = m) && decide (p.lv = lv))
    rw [if_neg (fun e => by rw [e] at hs; revert hs; decide +kernel), if_pos hs]
    by_cases e : btS p.mark p.lv = btS m lv
    · obtain ⟨e1, e2⟩ := bt_inj hp.mkk h1 e
      rw [decide_eq_true e, decide_eq_true e1, decide_eq_true e2]
      rfl
    · rw [decide_eq_false e]
      by_cases e1 : p.mark = m
      · by_cases e2 : p.lv = lv
        · exact (e (by rw [e1, e2])).elim
        · rw [decide_eq_false e2, Bool.and_false]
      · rw [decide_eq_false e1, Bool.false_and]
theorem txt_same {a : Ask} (ha : a.Ok) : a.txt = "same" ↔ a = .same := by
  cases a with
  | any => exact ⟨fun h => absurd h (by decide +kernel), fun h => by cases h⟩
  | same => exact ⟨fun _ => rfl, fun _ => rfl⟩
  | more => exact ⟨fun h => absurd h (by decide +kernel), fun h => by cases h⟩
  | mark m => exact ⟨fun h => absurd h (show MkOk m from ha).same, fun h => by cases h⟩
  | base m lv =>
    obtain ⟨h1, h2, h3⟩ : MkOk m ∧ lv ≠ [] ∧ LvOk lv := ha
    have hs : hasSl (btS m lv) = true := by rw [hasSl_bt h1, decide_eq_true h2]
    exact ⟨fun h => absurd hs (by rw [show btS m lv = "same" from h]; decide +kernel), fun h => by cases h⟩
theorem txt_more {a : Ask} (ha : a.Ok) : a.txt = "more" ↔ a = .more := by
  cases a with
  | any => exact ⟨fun h => absurd h (by decide +kernel), fun h => by cases h⟩
  | same => exact ⟨fun h => absurd h (by decide +kernel), fun h => by cases h⟩
  | more => exact ⟨fun _ => rfl, fun _ => rfl⟩
  | mark m => exact ⟨fun h => absurd h (show MkOk m from ha).more, fun h => by cases h⟩
  | base m lv =>
    obtain ⟨h1, h2, h3⟩ : MkOk m ∧ lv ≠ [] ∧ LvOk lv := ha
    have hs : hasSl (btS m lv) = true := by rw [hasSl_bt h1, decide_eq_true h2]
    exact ⟨fun h => absurd hs (by rw [show btS m lv = "more" from h]; decide +kernel), fun h => by cases h⟩
def asMuch (p q : Part) : Bool := decide (p.mark = q.mark) && decide (p.lv.length = q.lv.length) && (List.range p.lv.length).all fun i => decide ((p.lv[i]?).getD 0 ≤ (q.lv[i]?).getD 0)
def stayFits (a : Ask) (ps : List Part) (s t : Nat) : Bool := match ps[s]?, ps[t]? with
  | some p, some q => match a with
    | .same => decide (s = t)
    | .more => asMuch p q
    | a => askFits a q
  | _, _ => false
def pairFits (ps : List Part) (goes stays : Ask) (s t : Nat) : Bool := match ps[s]?, ps[t]? with
  | some p, some q => decide (p.lab = q.lab) && askFits goes p && stayFits stays ps s t
  | _, _ => false
def pairD (s t : Nat) : D := .tuple [.int (s : Nat), .int (t : Nat)]
def rowPairs (f : Nat → Bool) (s n : Nat) : List D := (List.range n).filterMap fun t => if f t = true then some (pairD s t) else none
def allPairs (f : Nat → Nat → Bool) (k n : Nat) : List D := (List.range k).flatMap fun s => rowPairs (f s) s n
theorem rowPairs_succ (f : Nat → Bool) (s n : Nat) : rowPairs f s (n + 1) = if f n = true then rowPairs f s n ++ [pairD s n] else rowPairs f s n := by
  unfold rowPairs
  rw [List.range_succ, List.filterMap_append]
  cases h : f n <;> simp [h]
theorem allPairs_succ (f : Nat → Nat → Bool) (k n : Nat) : allPairs f (k + 1) n = allPairs f k n ++ rowPairs (f k) k n := by
  unfold allPairs
  rw [List.range_succ, List.flatMap_append]
  simp
theorem rowPairs_len (f : Nat → Bool) (s n : Nat) : (rowPairs f s n).length ≤ n := by
  have := List.length_filterMap_le (fun t => if f t = true then some (pairD s t) else none) (List.range n)
  rwa [List.length_range] at this
theorem allPairs_len (f : Nat → Nat → Bool) (k n : Nat) : (allPairs f k n).length ≤ k * n := by
  induction k with
  | zero => exact Nat.zero_le _
  | succ k ih =>
    rw [allPairs_succ, List.length_append, Nat.succ_mul]
    have := rowPairs_len (f k) k n
    omega
theorem allPairs_shw {f : Nat → Nat → Bool} {k n : Nat} (hk : k ≤ 12) (hn : n ≤ 12) : reprOk (.tuple (allPairs f k n)) = true := by
  have hl : (allPairs f k n).length ≤ 144 := Nat.le_trans (allPairs_len f k n) (Nat.mul_le_mul hk hn)
  refine (Shw.tup (n := 2 * (11 + 2) + 3) (dep := 1) hl fun d hd => ?_).ok (by decide) (by decide)
  obtain ⟨s, hs, hd⟩ := List.mem_flatMap.mp hd
  obtain ⟨t, ht, e⟩ := List.mem_filterMap.mp hd
  have hs := List.mem_range.mp hs
  have ht := List.mem_range.mp ht
  split at e
  · cases e
    refine Shw.tup (c := 2) (Nat.le_refl 2) fun x hx => ?_
    have go : ∀ z : Nat, z < 16 → Shw 11 0 (.int (z : Nat)) := fun z hz => Shw.int (k := 10) (by decide) (by
      have : z.log2 ≤ z := Nat.log2_le_self z
      by_cases h0 : z = 0
      · subst h0; decide
      · exact (Nat.log2_lt h0).mpr (by omega)) (by decide)
    rcases List.mem_cons.mp hx with rfl | hx
    · exact go s (by omega)
    · rw [List.mem_singleton] at hx; subst hx; exact go t (by omega)
  · cases e
/-! ### data -/
structure Mach where
  kinds : List Str
  names : List Str
  moves : List (List (Option (Nat × Int)))
  ends : List (Option Int)
  entry : Int
  places : List Int
def eMv : Option (Nat × Int) → D
  | none => .none
  | some (t, c) => .tuple [.int (t : Nat), .int c]
def eO : Option Int → D
  | none => .none
  | some c => .int c
def eRow (r : List (Option (Nat × Int))) : D := .tuple (r.map eMv)
def Mach.d (m : Mach) : D := .tuple [.tuple (m.kinds.map .str), .tuple (m.names.map .str), .tuple (m.moves.map eRow), .tuple (m.ends.map eO), .int m.entry, .tuple (m.places.map .int)]
structure Mach.Ok (m : Mach) : Prop where
  n0 : 0 < m.moves.length
  n1 : m.moves.length ≤ 12
  k0 : 0 < m.kinds.length
  k1 : m.kinds.length ≤ 8
  kl : ∀ x ∈ m.kinds, x.length ≤ 20
  rows : ∀ r ∈ m.moves, r.length = m.kinds.length
  tgt : ∀ r ∈ m.moves, ∀ t c, some (t, c) ∈ r → t < m.moves.length
  ends : m.ends.length = m.moves.length
  names : m.names.length = m.moves.length
  places : m.places.length = m.moves.length
  nl : ∀ x ∈ m.names, x.length ≤ 20
  fare : ∀ r ∈ m.moves, ∀ t c, some (t, c) ∈ r → 0 ≤ c
  fee : ∀ c, some c ∈ m.ends → 0 ≤ c
  en : 0 ≤ m.entry
  nf : ∀ x ∈ m.names, NmF x
def Mach.mv (m : Mach) (s k : Nat) : Option (Nat × Int) := ((m.moves[s]?.getD [])[k]?).getD none
def Mach.Tree (m : Mach) : Prop := ∀ s, 0 < s → s < m.moves.length → ∃ e k c, e < s ∧ m.mv e k = some (s, c)
inductive Mach.Rea (m : Mach) : Nat → Prop
  | zero : m.Rea 0
  | step {s k t : Nat} {c : Int} : m.Rea s → m.mv s k = some (t, c) → m.Rea t
def Mach.AllR (m : Mach) : Prop := ∀ s, s < m.moves.length → m.Rea s
theorem Mach.Tree.all {m : Mach} (h : m.Tree) : m.AllR := by
  intro s
  induction s using Nat.strongRecOn with
  | _ s ih =>
    intro hs
    by_cases h0 : s = 0
    · subst h0; exact .zero
    · obtain ⟨e, k, c, he, hm⟩ := h s (by omega) hs
      exact .step (ih e he (by omega)) hm
/-- few numbers below n -/
theorem nodup_few : ∀ (n : Nat) (l : List Nat), l.Nodup → (∀ x ∈ l, x < n) → l.length ≤ n
  | 0, l, _, h => by
    cases l with
    | nil => exact Nat.le_refl _
    | cons a l => exact absurd (h a List.mem_cons_self) (Nat.not_lt_zero _)
  | n + 1, l, hn, h => by
    have h1 := nodup_few n (l.filter fun x => decide (x ≠ n)) (hn.filter _) fun x hx => by
      obtain ⟨h1, h2⟩ := List.mem_filter.mp hx
      have := h x h1
      have := of_decide_eq_true h2
      omega
    have h2 : (l.filter fun x => decide (x ≠ n)).length + 1 ≥ l.length := by
      clear h1 h
      induction l with
      | nil => exact Nat.zero_le _
      | cons a l ih =>
        rw [List.nodup_cons] at hn
        by_cases e : a = n
        · subst e
          have : (a :: l).filter (fun x => decide (x ≠ a)) = l := by
            rw [List.filter_cons_of_neg (by simp)]
            exact List.filter_eq_self.mpr fun x hx => decide_eq_true fun e => hn.1 (e ▸ hx)
          rw [this]; exact Nat.le_refl _
        · rw [List.filter_cons_of_pos (by simpa using e), List.length_cons, List.length_cons]
          have := ih hn.2
          omega
    omega
/-- the states of o, in its order -/
structure MovedM (m : Mach) (o : List Nat) (m' : Mach) : Prop where
  kinds : m'.kinds = m.kinds
  entry : m'.entry = m.entry
  len : m'.moves.length = o.length
  none_ : ∀ (j s k : Nat), o[j]? = some s → m.mv s k = none → m'.mv j k = none
  some_ : ∀ (j s k t : Nat) (c : Int), o[j]? = some s → m.mv s k = some (t, c) → ∃ j', o[j']? = some t ∧ m'.mv j k = some (j', c)
  name : ∀ (j s : Nat), o[j]? = some s → m'.names[j]? = m.names[s]?
  fee : ∀ (j s : Nat), o[j]? = some s → m'.ends[j]? = m.ends[s]?
  place : ∀ (j s : Nat), o[j]? = some s → m'.places[j]? = m.places[s]?
theorem nodup_at {o : List Nat} (h : o.Nodup) {i j s : Nat} (hi : o[i]? = some s) (hj : o[j]? = some s) : i = j := by
  obtain ⟨a1, a2⟩ := List.getElem?_eq_some_iff.mp hi
  obtain ⟨b1, b2⟩ := List.getElem?_eq_some_iff.mp hj
  have hpw := List.pairwise_iff_getElem.mp h
  rcases Nat.lt_trichotomy j i with h | h | h
  · exact (hpw j i b1 a1 h (b2.trans a2.symm)).elim
  · exact h.symm
  · exact (hpw i j a1 b1 h (a2.trans b2.symm)).elim
theorem MovedM.rea {m m' : Mach} {o : List Nat} (h : MovedM m o m') (hn : o.Nodup) (h0 : o[0]? = some 0) {s : Nat} (r : m.Rea s) : ∃ j, o[j]? = some s ∧ m'.Rea j := by
  induction r with
  | zero => exact ⟨0, h0, .zero⟩
  | step r e ih =>
    obtain ⟨j, hj, rj⟩ := ih
    obtain ⟨j', h1, h2⟩ := h.some_ j _ _ _ _ hj e
    exact ⟨j', h1, .step rj h2⟩
theorem MovedM.all {m m' : Mach} {o : List Nat} (h : MovedM m o m') (hn : o.Nodup) (h0 : o[0]? = some 0) (hl : ∀ s ∈ o, s < m.moves.length) (r : m.AllR) : m'.AllR := fun j hj => by
  rw [h.len] at hj
  have hs : o[j]? = some o[j] := List.getElem?_eq_getElem hj
  obtain ⟨i, hi, ri⟩ := h.rea hn h0 (r _ (hl _ (List.getElem_mem hj)))
  rw [nodup_at hn hs hi]
  exact ri
def walkM (m : Mach) : Nat → Int → List Nat → Option (Nat × Int)
  | s, f, [] => some (s, f)
  | s, f, k :: w => match m.mv s k with
    | none => none
    | some (t, c) => walkM m t (f + c) w
def eWord (w : List Nat) : D := .tuple (w.map fun k => .int (k : Nat))
def priceM (m : Mach) (s : Nat) (w : List Nat) : Option Int := match walkM m s 0 w with
  | none => none
  | some (t, f) => match (m.ends[t]?.getD none) with
    | none => none
    | some c => some (f + c)
def wholeM (m : Mach) (w : List Nat) : Option Int := match priceM m 0 w with
  | none => none
  | some c => some (m.entry + c)
def WOk (m : Mach) (w : List Nat) : Prop := ∀ k ∈ w, k < m.kinds.length
/-! ### promises -/
def sp_law_draw : FnW := fun cs Q => match cs with
  | [.orc, .fz (.int n)] => n < 1073741824 ∧ ∀ r : Int, 0 ≤ r → (r < n ∨ r = 0) → Q (.fz (.int r))
  | _ => False
def spWalk : FnW := fun cs Q => ∃ (m : Mach) (s : Nat) (w : List Nat), cs = [.fz m.d, .fz (.int s), .fz (eWord w)] ∧ m.Ok ∧ s < m.moves.length ∧ WOk m w ∧ Q (.fz (eMv (walkM m s 0 w)))
def spPrice : FnW := fun cs Q => ∃ (m : Mach) (s : Nat) (w : List Nat), cs = [.fz m.d, .fz (.int s), .fz (eWord w)] ∧ m.Ok ∧ s < m.moves.length ∧ WOk m w ∧ Q (.fz (eO (priceM m s w)))
def seqOf (d : D) (ds : List D) : Prop := d = .tuple ds ∨ d = .list ds
def sp_law_some : FnW := fun cs Q => ∃ (d : D) (ds : List D), cs = [.orc, .fz d] ∧ seqOf d ds ∧ ds ≠ [] ∧ ds.length ≤ 1000000 ∧ ∀ x ∈ ds, Q (.fz x)
def sp_law_picks : FnW := fun cs Q => ∃ (d : D) (ds : List D) (n : Int), cs = [.orc, .fz d, .fz (.int n)] ∧ seqOf d ds ∧ 0 ≤ n ∧ n ≤ 1000000 ∧ ds.length ≤ 1000000 ∧ ∀ xs rest : List D, (xs ++ rest).Perm ds → xs.length = min n.toNat ds.length → Q (.ls xs)
def poolN : List Str := ["a", "b7", "road", "rail", "ferry", "harbour1", "harbour2", "z", "q0q0", "plain", "wet", "e5"]
def sp_law_names : FnW := fun cs Q => ∃ n : Nat, cs = [.orc, .fz (.int (n : Nat))] ∧ n ≤ 12 ∧ ∀ xs rest : List Str, (xs ++ rest).Perm poolN → xs.length = n → Q (.fz (.tuple (xs.map .str)))
def sp_law_fare : FnW := fun cs Q => cs = [.orc] ∧ ∀ r : Int, 0 ≤ r → r ≤ 20 → Q (.fz (.int r))
def sp_law_machine_names : FnW := fun cs Q => ∃ n : Nat, cs = [.orc, .fz (.int (n : Nat))] ∧ n ≤ 12 ∧ ∀ xs : List Str, xs.length = n → (∀ x ∈ xs, x.length ≤ 20) → (∀ x ∈ xs, NmF x) → Q (.fz (.tuple (xs.map .str)))
def sp_law_machine_sized : FnW := fun cs Q => ∃ n k : Nat, cs = [.orc, .fz (.int (n : Nat)), .fz (.int (k : Nat))] ∧ 1 ≤ n ∧ n ≤ 12 ∧ 1 ≤ k ∧ k ≤ 8 ∧ ∀ m : Mach, m.Ok → m.Tree → m.moves.length = n → m.kinds.length = k → (∀ x ∈ m.kinds, x.length ≤ 8) → (∀ p ∈ m.places, p = 0) → Q (.fz m.d)
def spMachine : FnW := fun cs Q => cs = [.orc] ∧ ∀ m : Mach, m.Ok → m.Tree → (∀ p ∈ m.places, p = 0) → Q (.fz m.d)
abbrev sp_law_machine : FnW := spMachine
inductive Plain : Nat → D → Prop
  | none {n} : Plain n .none
  | int {n i} : Plain n (.int i)
  | str {n x} : Plain n (.str x)
  | bool {n b} : Plain n (.bool b)
  | tup {n : Nat} {ds : List D} : ds.length ≤ 1000000 → (∀ d ∈ ds, Plain n d) → Plain (n + 1) (.tuple ds)
def spBase : FnW := fun cs Q => ∃ x : Str, cs = [.fz (.str x)] ∧ x.length ≤ 1000 ∧ Q (.fz (.str (baseS x)))
abbrev sp_base_of : FnW := spBase
abbrev sp_law_base : FnW := spBase
def sp_mark_of : FnW := fun cs Q => ∃ x : Str, cs = [.fz (.str x)] ∧ x.length ≤ 1000 ∧ Q (.fz (.str (markS x)))
def spFits : FnW := fun cs Q => ∃ p x : Str, cs = [.fz (.str p), .fz (.str x)] ∧ x.length ≤ 1000 ∧ Q (.fz (.bool (fitsS p x)))
abbrev sp_fits_goes : FnW := spFits
abbrev sp_law_fits : FnW := spFits
def eLv (lv : List Nat) : D := .tuple (lv.map fun n => .int (n : Nat))
def partD (p : Part) : D := .tuple [.str p.mark, eLv p.lv, .str p.tail]
def mD (dk dm de den : D) (ps : List Part) : D := .tuple [dk, .tuple (ps.map fun p => .str p.name), dm, de, den, .tuple (ps.map fun p => .int (p.lab : Nat))]
def PsOk (ps : List Part) : Prop := ps.length ≤ 12 ∧ ∀ p ∈ ps, p.Ok
def sp_levels_of : FnW := fun cs Q => ∃ p : Part, cs = [.fz (.str p.name)] ∧ p.Ok ∧ Q (.ls ((p.lv.map sN).map .str))
def sp_as_much : FnW := fun cs Q => ∃ p q : Part, cs = [.fz (.str p.name), .fz (.str q.name)] ∧ p.Ok ∧ q.Ok ∧ Q (.fz (.bool (asMuch p q)))
def sp_fits_pair : FnW := fun cs Q => ∃ (dk dm de den : D) (ps : List Part) (goes stays : Ask) (s t : Nat), cs = [.fz (mD dk dm de den ps), .fz (.str goes.txt), .fz (.str stays.txt), .fz (.int (s : Nat)), .fz (.int (t : Nat))] ∧ PsOk ps ∧ goes.Ok ∧ stays.Ok ∧ goes.isGoes ∧ s < ps.length ∧ t < ps.length ∧ Q (.fz (.bool (pairFits ps goes stays s t)))
def sp_pairs_of : FnW := fun cs Q => ∃ (dk dm de den : D) (ps : List Part) (goes stays : Ask), cs = [.fz (mD dk dm de den ps), .fz (.str goes.txt), .fz (.str stays.txt)] ∧ PsOk ps ∧ goes.Ok ∧ stays.Ok ∧ goes.isGoes ∧ Q (.fz (.tuple (allPairs (pairFits ps goes stays) ps.length ps.length)))
/-! ### k35: data -/
structure Row where
  goes : Ask
  stays : Ask
  lead : Int
  elder : Bool
structure Row.Ok (r : Row) : Prop where
  g : r.goes.Ok
  gg : r.goes.isGoes
  s : r.stays.Ok
  l : r.lead.natAbs < 9223372036854775808
def Row.d (r : Row) : D := .tuple [.str r.goes.txt, .str r.stays.txt, .int r.lead, .bool r.elder]
def eOf (rows : List Row) : D := .tuple (rows.map Row.d)
def RowsOk' (rows : List Row) : Prop := rows.length ≤ 40 ∧ ∀ r ∈ rows, r.Ok
def lsr (a b : Option Int) : Option Int := match a, b with
  | none, b => b
  | a, none => a
  | some x, some y => some (if y < x then y else x)
def minL (l : List Int) : Option Int := l.foldl (fun o x => lsr o (some x)) none
def leadsOf (ps : List Part) (rows : List Row) (s t : Nat) (e : Bool) : List Int := rows.filterMap fun r => if (r.elder == e && pairFits ps r.goes r.stays s t) = true then some r.lead else none
abbrev TT := Nat → Nat → Option Int × Option Int
def prD (p : Option Int × Option Int) : D := .tuple [eO p.1, eO p.2]
def tabD (n : Nat) (T : TT) : D := .tuple ((List.range n).map fun s => .tuple ((List.range n).map fun t => prD (T s t)))
def tabOf (ps : List Part) (rows : List Row) : TT := fun s t => (minL (leadsOf ps rows s t false), minL (leadsOf ps rows s t true))
def leB (o : Option Int) (a : Int) : Bool := match o with
  | some x => decide (x ≤ a)
  | none => false
def allowB (p : Option Int × Option Int) (ahead : Int) (older : Bool) : Bool := leB p.1 ahead || (older && leB p.2 ahead)
/-! ### k35: promises -/
def sp_lesser : FnW := fun cs Q => ∃ a b : Option Int, cs = [.fz (eO a), .fz (eO b)] ∧ Q (.fz (eO (lsr a b)))
def sp_throws_of : FnW := fun cs Q => ∃ (dk dm de den : D) (ps : List Part) (rows : List Row), cs = [.fz (mD dk dm de den ps), .fz (eOf rows)] ∧ PsOk ps ∧ RowsOk' rows ∧ Q (.fz (tabD ps.length (tabOf ps rows)))
def sp_allows : FnW := fun cs Q => ∃ (n : Nat) (T : TT) (s t : Nat) (ahead : Int) (older : Bool), cs = [.fz (tabD n T), .fz (.int (s : Nat)), .fz (.int (t : Nat)), .fz (.int ahead), .fz (.bool older)] ∧ s < n ∧ t < n ∧ Q (.fz (.bool (allowB (T s t) ahead older)))
def sp_least_throw : FnW := fun cs Q => ∃ (n : Nat) (T : TT) (s t : Nat), cs = [.fz (tabD n T), .fz (.int (s : Nat)), .fz (.int (t : Nat))] ∧ s < n ∧ t < n ∧ Q (.fz (eO (lsr (T s t).1 (T s t).2)))
def sp_law_as_much : FnW := fun cs Q => ∃ p q : Part, cs = [.fz (.str p.name), .fz (.str q.name)] ∧ p.Ok ∧ q.Ok ∧ Q (.fz (.bool (asMuch p q)))
abbrev sp_law_has_pair : FnW := sp_fits_pair
def pairsL (f : Nat → Nat → Bool) (n : Nat) : List D := allPairs f n n
def sp_law_pairs : FnW := fun cs Q => ∃ (dk dm de den : D) (ps : List Part) (goes stays : Ask), cs = [.fz (mD dk dm de den ps), .fz (.str goes.txt), .fz (.str stays.txt)] ∧ PsOk ps ∧ goes.Ok ∧ stays.Ok ∧ goes.isGoes ∧ Q (.ls (allPairs (pairFits ps goes stays) ps.length ps.length))
def sp_law_pattern : FnW := fun cs Q => ∃ (dk dm de den : D) (ps : List Part), cs = [.orc, .fz (mD dk dm de den ps)] ∧ PsOk ps ∧ ps ≠ [] ∧ ∀ a : Ask, a.Ok → a.isGoes → Q (.fz (.str a.txt))
def sp_law_lead : FnW := fun cs Q => cs = [.orc] ∧ ∀ i : Int, i.natAbs ≤ 999 → Q (.fz (.int i))
def spRows : FnW := fun cs Q => ∃ (dk dm de den : D) (ps : List Part), cs = [.orc, .fz (mD dk dm de den ps)] ∧ PsOk ps ∧ ps ≠ [] ∧ ∀ rows : List Row, rows.length ≤ 12 → (∀ r ∈ rows, r.Ok ∧ r.lead.natAbs ≤ 10000000000000) → Q (.fz (eOf rows))
def sp_law_offer : FnW := fun cs Q => ∃ (dk dm de den : D) (ps : List Part), cs = [.orc, .fz (mD dk dm de den ps)] ∧ PsOk ps ∧ ps ≠ [] ∧ ∀ rows : List Row, rows.length ≤ 12 → (∀ r ∈ rows, r.Ok ∧ r.lead.natAbs ≤ 999) → Q (.fz (eOf rows))
abbrev sp_law_rows_of : FnW := spRows
def sp_law_labelled : FnW := fun cs Q => ∃ (m : Mach) (ps : List Part), cs = [.orc, .fz m.d, .fz (.int 3)] ∧ m.Ok ∧ m.moves.length ≤ 4 ∧ m.names = ps.map Part.name ∧ (∀ p ∈ ps, p.Ok ∧ p.tail.length ≤ 4 ∧ p.lab = 0) ∧ ∀ (dk dm de den : D) (qs : List Part), PsOk qs → qs ≠ [] → Q (.fz (mD dk dm de den qs))
def sp_law_any_machine : FnW := fun cs Q => cs = [.orc] ∧ ∀ (dk dm de den : D) (qs : List Part), PsOk qs → qs ≠ [] → Q (.fz (mD dk dm de den qs))
def sp_law_leads_of : FnW := fun cs Q => ∃ (dk dm de den : D) (ps : List Part) (rows : List Row) (s t : Nat) (e : Bool), cs = [.fz (mD dk dm de den ps), .fz (eOf rows), .fz (.int (s : Nat)), .fz (.int (t : Nat)), .fz (.bool e)] ∧ PsOk ps ∧ RowsOk' rows ∧ s < ps.length ∧ t < ps.length ∧ Q (.ls ((leadsOf ps rows s t e).map .int))
def sp_law_least_of : FnW := fun cs Q => ∃ l : List Int, cs = [.fz (.list (l.map .int))] ∧ Q (.fz (eO (minL l)))
def sp_law_due_table : FnW := fun cs Q => ∃ (dk dm de den : D) (ps : List Part) (rows : List Row), cs = [.fz (mD dk dm de den ps), .fz (eOf rows)] ∧ PsOk ps ∧ RowsOk' rows ∧ Q (.fz (tabD ps.length (tabOf ps rows)))
def sp_law_row_allows : FnW := fun cs Q => ∃ (dk dm de den : D) (ps : List Part) (r : Row) (s t : Nat) (ahead : Int) (older : Bool), cs = [.fz (mD dk dm de den ps), .fz r.d, .fz (.int (s : Nat)), .fz (.int (t : Nat)), .fz (.int ahead), .fz (.bool older)] ∧ PsOk ps ∧ r.Ok ∧ s < ps.length ∧ t < ps.length ∧ Q (.fz (.bool (decide (r.lead ≤ ahead) && (!r.elder || older) && pairFits ps r.goes r.stays s t)))
def sp_law_asked_pair : FnW := fun cs Q => ∃ (dk dm de den : D) (ps : List Part) (rows : List Row), cs = [.orc, .fz (mD dk dm de den ps), .fz (eOf rows)] ∧ PsOk ps ∧ ps ≠ [] ∧ RowsOk' rows ∧ ∀ s t : Nat, s < ps.length → t < ps.length → Q (.fz (pairD s t))
def sp_law_allowed_right : FnW := fun cs Q => ∃ (dk dm de den : D) (ps : List Part) (rows : List Row), cs = [.orc, .fz (mD dk dm de den ps), .fz (eOf rows), .fz (tabD ps.length (tabOf ps rows))] ∧ PsOk ps ∧ ps ≠ [] ∧ RowsOk' rows ∧ Q (.fz (.bool true))
def sp_law_drawn_right : FnW := fun cs Q => cs = [.orc] ∧ Q (.fz (.bool true))

section
open PyProof.Rows PySem.Spec
variable {P : Program} {w : World} {K : Frag} {mg : Str → Option Value} {base : Heap}
/-! ### the source of draws: two defs at the hand layer's level -/
def spMix0 : Sp := fun vs H Q _ => ∃ (a c : Addr) (n1 n2 n3 n4 n5 m : Int), vs = [.ref a, .int m] ∧ H a = some (.lst [.ref c, .int n1, .int n2, .int n3, .int n4, .int n5]) ∧ 0 < m ∧ m < 1073741824 ∧
  ∀ (r n4' n5' : Int), 0 ≤ r → r < m → Q (.int r) (upd H a (.lst [.ref c, .int n1, .int n2, .int n3, .int n4', .int n5']))
def spDraw0 (K : Frag) : Sp := fun vs H Q _ => ∃ (a c : Addr) (ns : List Int) (n1 n2 n3 n4 n5 m : Int), vs = [.ref a, .int m] ∧ H a = some (.lst [.ref c, .int n1, .int n2, .int n3, .int n4, .int n5]) ∧ c ≠ a ∧ H c = some (.lst (ns.map V.int)) ∧ 0 ≤ n1 ∧ m < 1073741824 ∧
  ∀ (r : Int) (H' : Hp) (n1' n2' n3' n4' n5' : Int), 0 ≤ r → (r < m ∨ r = 0) → (∀ b o, H b = some o → b ≠ a → H' b = some o) → H' a = some (.lst [.ref c, .int n1', .int n2', .int n3', .int n4', .int n5']) → 0 ≤ n1' → Q (.int r) H'
theorem sc_law_mixed : FnScope ["source", "many"] ["source", "many"] (defScope (top 15)) := ⟨rfl, rfl, rfl, by decide +kernel, rfl, by decide +kernel, by decide +kernel⟩
theorem sc_law_draw : FnScope ["source", "many", "turn", "digit", "cell"] ["source", "many"] (defScope (top 16)) := ⟨rfl, rfl, rfl, by decide +kernel, rfl, by decide +kernel, by decide +kernel⟩
theorem fdiv16 (x : Int) : x.fdiv 16 = x / 16 := Int.fdiv_eq_ediv_of_nonneg _ (by decide)
theorem fmod_pos {x m : Int} (h : 0 < m) : 0 ≤ x.fmod m ∧ x.fmod m < m := ⟨Int.fmod_nonneg_of_pos x h, Int.fmod_lt_of_pos x h⟩
theorem ok_mixed0 {f : Addr} {fd : FuncData} (T : Tx mg) (F : FunD K "_law_mixed" "_law_mixed" (defArgs (top 15)) (defBody (top 15)) (defScope (top 15)) [] [] f fd) : FnOk P w K mg base CX0 1 f fd ["source", "many"] spMix0 := by
  refine F.ok sc_law_mixed (fun vs H Q E h => ?_) (fun cdv A outer s H vs Q E hr h => ⟨_, PSs.nox (pss_cons
      (ps_asg (pe_op op_add (pe_ix ix_list (L2.pv 0) pe_int (fun _ _ => rfl)) pe_int) (pg_sub (L2.pv 0) pe_int set_list))
      (pss_cons (ps_asg (pe_op op_modN (pe_callTy call_int1 rfl T.int (by decide +kernel) (pa_cons (pe_op op_add (pe_op op_add (pe_op op_mul (pe_ix ix_list (L2.pv 0) pe_int (fun _ _ => rfl)) pe_int) (pe_op op_mul (pe_ix ix_list (L2.pv 0) pe_int (fun _ _ => rfl)) pe_int)) pe_int) pa_nil)) pe_int) (pg_sub (L2.pv 0) pe_int set_list))
      (pss_one (ps_ret (pe_op op_modN (pe_callTy call_int1 rfl T.int (by decide +kernel) (pa_cons (pe_op op_fdivN (pe_ix ix_list (L2.pv 0) pe_int (fun _ _ => rfl)) pe_int) pa_nil)) (L2.pv 1)))))), ?_⟩)
  · obtain ⟨a, c, n1, n2, n3, n4, n5, m, rfl, _⟩ := h
    rfl
  · obtain ⟨a, c, n1, n2, n3, n4, n5, m, rfl, ha, h0, h1, k⟩ := h
    refine ⟨.ref a, rfl, a, _, 5, .int n5, rfl, rfl, SqL.of ha, rfl, n5, 1, rfl, rfl, .ref a, rfl, a, _, 5, 5, rfl, rfl, ha, rfl, ?_⟩
    refine ⟨.ref a, rfl, a, _, 4, .int n4, rfl, rfl, SqL.of upd_same, rfl, n4, 48271, rfl, rfl, .inr ⟨by decide, by decide⟩, .ref a, rfl, a, _, 5, .int (n5 + 1), rfl, rfl, SqL.of upd_same, rfl, n5 + 1, 69621, rfl, rfl, .inr ⟨by decide, by decide⟩, ?_⟩
    refine ⟨_, _, rfl, rfl, _, 11, rfl, rfl, .inl ⟨_, rfl, ?_⟩⟩
    refine ⟨_, 2147483647, rfl, rfl, (by show (2147483647 : Int) ≠ 0; decide), .ref a, rfl, a, _, 4, 4, rfl, rfl, upd_same, rfl, ?_⟩
    refine ⟨.ref a, rfl, a, _, 4, .int ((n4 * 48271 + (n5 + 1) * 69621 + 11).fmod 2147483647), rfl, rfl, SqL.of upd_same, rfl, _, 16, rfl, rfl, ⟨by decide, by decide⟩, .inl ⟨_, rfl, ?_⟩⟩
    refine ⟨.int m, rfl, _, m, rfl, rfl, by omega, ?_⟩
    rw [upd_upd]
    exact k _ _ _ (fmod_pos h0).1 (fmod_pos h0).2
theorem bind_mixed {f : Addr} {fd : FuncData} (F : FunD K "_law_mixed" "_law_mixed" (defArgs (top 15)) (defBody (top 15)) (defScope (top 15)) [] [] f fd) : Binds K fd ["source", "many"] [] := F.bindsN fun _ _ _ _ _ _ us hl => match us, hl with | [_, _], _ => rfl
theorem ok_draw0 {f fM : Addr} {fd fdM : FuncData} (T : Tx mg) (F : FunD K "_law_draw" "_law_draw" (defArgs (top 16)) (defBody (top 16)) (defScope (top 16)) [] [] f fd) (FM : FunD K "_law_mixed" "_law_mixed" (defArgs (top 15)) (defBody (top 15)) (defScope (top 15)) [] [] fM fdM) (mM : mg "_law_mixed" = some (.ref fM)) :
    FnOk P w K mg base CX0 2 f fd ["source", "many"] (spDraw0 K) := by
  have GM : FnOk P w K mg base CX0 1 fM fdM ["source", "many"] spMix0 := ok_mixed0 T FM
  refine F.ok sc_law_draw (fun vs H Q E h => ?_) (fun cdv A outer s H vs Q E hr h => ⟨_, PSs.nox (pss_cons (ps_if (pt_cmpR op_le (L2.pv 1) pe_int (nomark _)) (pss_one (ps_ret pe_int)) pss_nil)
      (pss_cons (ps_for PassesOwn.never rfl (pi_range1 rfl T.range (pa_cons pe_int pa_nil)) (pg_name (i := 2) sc_law_draw.nd rfl (.inl rfl))
        (pss_cons (ps_if (pt_cmpR op_gt (pe_ix ix_list (L2.pv 0) pe_int (fun _ _ => rfl)) pe_int (nomark _))
          (pss_cons (ps_set (i := 3) sc_law_draw.nd rfl (.inl rfl) (pe_op op_modN (pe_callTy call_int1 rfl T.int (by decide +kernel) (pa_cons (pe_ix ix_list (L2.pv 0) pe_int (fun _ _ => rfl)) pa_nil)) (L2.pv 1)))
            (pss_cons (ps_asg (pe_op op_fdivN (pe_ix ix_list (L2.pv 0) pe_int (fun _ _ => rfl)) (L2.pv 1)) (pg_sub (L2.pv 0) pe_int set_list)) (pss_one (ps_ret (L2.pv 3))))) pss_nil)
        (pss_cons (ps_if (PW.pt (pw_or (pt_cmpR op_gt (pe_ix ix_list (L2.pv 0) pe_int (fun _ _ => rfl)) pe_int (nomark _)) (pw_or1 (pt_cmpR op_ge (pe_ix ix_list (L2.pv 0) pe_int (fun _ _ => rfl)) (pe_callB call_len_seq rfl T.len (by decide +kernel) (pa_cons (pe_ix ix_list (L2.pv 0) pe_int (fun _ _ => rfl)) pa_nil)) (nomark _)))))
          (pss_cons (ps_asg (pe_callB (call_max2 rfl) rfl T.max (by decide +kernel) (pa_cons pe_int (pa_cons (pe_op op_sub (pe_ix ix_list (L2.pv 0) pe_int (fun _ _ => rfl)) pe_int) pa_nil))) (pg_sub (L2.pv 0) pe_int set_list))
            (pss_one (ps_ret (pe_call GM hr rfl mM FM.kp (bind_mixed FM) .nil pass0 (pa_cons (L2.pv 0) (pa_cons (L2.pv 1) pa_nil)))))) pss_nil)
        (pss_cons (ps_set (i := 4) sc_law_draw.nd rfl (.inl rfl) (pe_ix ix_list (pe_ix ix_list (L2.pv 0) pe_int (fun _ _ => rfl)) (pe_ix ix_list (L2.pv 0) pe_int (fun _ _ => rfl)) (fun _ _ => rfl)))
        (pss_cons (ps_asg (pe_op op_add (pe_ix ix_list (L2.pv 0) pe_int (fun _ _ => rfl)) pe_int) (pg_sub (L2.pv 0) pe_int set_list))
        (pss_one (ps_if (pt_cmpR op_ge (L2.pv 4) pe_int (nomark _)) (pss_one (ps_asg (L2.pv 4) (pg_sub (L2.pv 0) pe_int set_list)))
          (pss_cons (ps_asg pe_int (pg_sub (L2.pv 0) pe_int set_list))
            (pss_one (ps_asg (pe_op op_modN (pe_callTy call_int1 rfl T.int (by decide +kernel) (pa_cons (pe_op op_add (pe_op op_add (pe_op op_mul (pe_ix ix_list (L2.pv 0) pe_int (fun _ _ => rfl)) pe_int) (pe_op op_modN (pe_callTy call_int1 rfl T.int (by decide +kernel) (pa_cons (L2.pv 4) pa_nil)) pe_int)) pe_int) pa_nil)) pe_int) (pg_sub (L2.pv 0) pe_int set_list)))))))))))
      (pss_one (ps_ret (pe_call GM hr rfl mM FM.kp (bind_mixed FM) .nil pass0 (pa_cons (L2.pv 0) (pa_cons (L2.pv 1) pa_nil))))))), ?_⟩)
  · obtain ⟨a, c, ns, n1, n2, n3, n4, n5, m, rfl, _⟩ := h
    rfl
  · obtain ⟨a, c, ns, n1, n2, n3, n4, n5, m, rfl, ha, hca, hc, hn1, hm, k⟩ := h
    refine ⟨.int m, rfl, m, 1, rfl, rfl, _, rfl, ite2 (fun hle => ?_) fun hgt => ?_⟩
    · exact k 0 H n1 n2 n3 n4 n5 (Int.le_refl _) (.inr rfl) (fun b o e _ => e) ha hn1
    have m1 : 1 < m := by
      have := of_decide_eq_false (Bool.eq_false_iff.mpr hgt)
      omega
    refine ⟨2, rfl, by decide, by decide, for_range (n := 2) (fun i σ H' => ∃ y2 y3 y4, σ = [some (.ref a), some (.int m), y2, y3, y4] ∧ (∀ b o, H b = some o → b ≠ a → H' b = some o) ∧ ∃ n1' n2' n3' n4' n5' : Int, H' a = some (.lst [.ref c, .int n1', .int n2', .int n3', .int n4', .int n5']) ∧ 0 ≤ n1')
      ⟨none, none, none, rfl, fun b o e _ => e, n1, n2, n3, n4, n5, ha, hn1⟩ ?_ ?_⟩
    · rintro i σ H' hi ⟨y2, y3, y4, rfl, kp, n1', n2', n3', n4', n5', ha', hn1'⟩
      refine ⟨.ref a, rfl, a, _, 2, .int n2', rfl, rfl, SqL.of ha', rfl, n2', 0, rfl, rfl, _, rfl, ite2 (fun h2 => ?_) fun h2 => ?_⟩
      · refine ⟨.ref a, rfl, a, _, 2, .int n2', rfl, rfl, SqL.of ha', rfl, .inl ⟨_, rfl, .int m, rfl, n2', m, rfl, rfl, by omega, ?_⟩⟩
        refine ⟨.ref a, rfl, a, _, 2, .int n2', rfl, rfl, SqL.of ha', rfl, .int m, rfl, n2', m, rfl, rfl, ⟨by omega, by omega⟩, .ref a, rfl, a, _, 2, 2, rfl, rfl, ha', rfl, ?_⟩
        refine ⟨_, rfl, k _ _ n1' _ n3' n4' n5' (fmod_pos (by omega)).1 (.inl (fmod_pos (by omega)).2) (fun b o e nb => ?_) upd_same hn1'⟩
        rw [upd_ne nb]; exact kp b o e nb
      have go : ∀ (H2 : Hp) (x3 : Int), H2 = upd H' a (.lst [.ref c, .int n1', .int n2', .int x3, .int n4', .int n5']) → spMix0 [.ref a, .int m] H2 Q E0 := fun H2 x3 e => by
        subst e
        refine ⟨a, c, n1', n2', x3, n4', n5', m, rfl, upd_same, by omega, hm, fun r n4'' n5'' r0 r1 => ?_⟩
        rw [upd_upd]
        refine k r _ n1' n2' x3 n4'' n5'' r0 (.inl r1) (fun b o e nb => ?_) upd_same hn1'
        rw [upd_ne nb]; exact kp b o e nb
      have hc' : H' c = some (.lst (ns.map V.int)) := kp c _ hc hca
      refine ⟨.ref a, rfl, a, _, 3, .int n3', rfl, rfl, SqL.of ha', rfl, n3', 0, rfl, rfl, _, rfl, ite2 (fun h3 => ?_) fun h3 => ?_⟩
      · refine iteT ?_
        refine ⟨.ref a, rfl, a, _, 3, .int n3', rfl, rfl, SqL.of ha', rfl, n3', 1, rfl, rfl, 0, _, rfl, .ref a, rfl, a, _, 3, 3, rfl, rfl, ha', rfl, ?_⟩
        exact ⟨_, rfl, _, rfl, go _ _ rfl⟩
      refine ⟨.ref a, rfl, a, _, 1, .int n1', rfl, rfl, SqL.of ha', rfl, .ref a, rfl, a, _, 0, .ref c, rfl, rfl, SqL.of ha', rfl, c, _, rfl, .inl (SqL.of hc'), n1', _, rfl, rfl, _, rfl, ite2 (fun h4 => ?_) fun h4 => ?_⟩
      · refine ⟨.ref a, rfl, a, _, 3, .int n3', rfl, rfl, SqL.of ha', rfl, n3', 1, rfl, rfl, 0, _, rfl, .ref a, rfl, a, _, 3, 3, rfl, rfl, ha', rfl, ?_⟩
        exact ⟨_, rfl, _, rfl, go _ _ rfl⟩
      obtain ⟨z, hz⟩ : ∃ z, ns[n1'.toNat]? = some z := by
        have h5 := of_decide_eq_false (Bool.eq_false_iff.mpr h4)
        rw [List.length_map] at h5
        exact ⟨_, List.getElem?_eq_getElem (by omega)⟩
      have hcell : L2.atI (ns.map V.int) n1' = some (.int z) := at_of (show n1' = ((n1'.toNat : Nat) : Int) by omega) (by rw [List.getElem?_map, hz]; rfl)
      refine ⟨.ref a, rfl, a, _, 0, .ref c, rfl, rfl, SqL.of ha', rfl, .ref a, rfl, a, _, 1, .int n1', rfl, rfl, SqL.of ha', rfl, c, _, n1', _, rfl, rfl, SqL.of hc', hcell, ?_⟩
      refine ⟨.ref a, rfl, a, _, 1, .int n1', rfl, rfl, SqL.of ha', rfl, n1', 1, rfl, rfl, .ref a, rfl, a, _, 1, 1, rfl, rfl, ha', rfl, ?_⟩
      refine ⟨_, rfl, _, _, rfl, rfl, _, rfl, ite2 (fun h5 => ?_) fun h5 => ?_⟩
      · refine ⟨_, rfl, .ref a, rfl, a, _, 2, 2, rfl, rfl, upd_same, rfl, ?_⟩
        refine ⟨_, _, _, rfl, fun b o e nb => ?_, _, _, _, _, _, upd_same, by omega⟩
        rw [upd_ne nb, upd_ne nb]; exact kp b o e nb
      · refine ⟨.ref a, rfl, a, _, 3, 3, rfl, rfl, upd_same, rfl, ?_⟩
        refine ⟨.ref a, rfl, a, _, 4, .int n4', rfl, rfl, SqL.of upd_same, rfl, n4', 16807, rfl, rfl, .inr ⟨by decide, by decide⟩, _, rfl, .inl ⟨_, rfl, _, 2147483647, rfl, rfl, (by show (2147483647 : Int) ≠ 0; decide), ?_⟩⟩
        refine ⟨_, _, rfl, rfl, _, 7, rfl, rfl, .inl ⟨_, rfl, _, 2147483647, rfl, rfl, (by show (2147483647 : Int) ≠ 0; decide), ?_⟩⟩
        refine ⟨.ref a, rfl, a, _, 4, 4, rfl, rfl, upd_same, rfl, ?_⟩
        refine ⟨_, _, _, rfl, fun b o e nb => ?_, _, _, _, _, _, upd_same, by omega⟩
        rw [upd_ne nb, upd_ne nb, upd_ne nb]; exact kp b o e nb
    · rintro σ H' ⟨y2, y3, y4, rfl, kp, n1', n2', n3', n4', n5', ha', hn1'⟩
      refine ⟨_, rfl, _, rfl, a, c, n1', n2', n3', n4', n5', m, rfl, ha', by omega, hm, fun r n4'' n5'' r0 r1 => ?_⟩
      refine k r _ n1' n2' n3' n4'' n5'' r0 (.inl r1) (fun b o e nb => ?_) upd_same hn1'
      rw [upd_ne nb]; exact kp b o e nb
theorem ok_draw {f fM : Addr} {fd fdM : FuncData} (T : Tx mg) (F : FunD K "_law_draw" "_law_draw" (defArgs (top 16)) (defBody (top 16)) (defScope (top 16)) [] [] f fd) (FM : FunD K "_law_mixed" "_law_mixed" (defArgs (top 15)) (defBody (top 15)) (defScope (top 15)) [] [] fM fdM) (mM : mg "_law_mixed" = some (.ref fM)) (m : mg "_law_draw" = some (.ref f)) :
    Cal P w K mg base "_law_draw" 2 sp_law_draw := by
  refine ⟨f, fd, ["source", "many"], (FnG.of (ok_draw0 T F FM mM)).imp fun vs H Q E h => ?_, m, F.kp, F.bindsN fun _ _ _ _ _ _ us hl => match us, hl with | [_, _], _ => rfl⟩
  obtain ⟨a0, Fh, cs, Qp, ok, z, h, kk⟩ := h
  unfold sp_law_draw at h
  split at h
  · rename_i n
    cases z with
    | cons z1 z =>
      cases z with
      | cons z2 z =>
        cases z
        obtain ⟨a, e0, rfl⟩ := z1
        have z2 : Fz K Fh _ (.int n) := z2
        cases z2
        have e0 : a0 = some a := e0
        subst e0
        obtain ⟨⟨c, ns, n1, n2, n3, n4, n5, ha, hc, hn1⟩, hFa, _, _⟩ := ok.orc a rfl
        have hca : c ≠ a := by rintro rfl; rw [hFa] at hc; cases hc
        obtain ⟨hn, q⟩ := h
        refine ⟨a, c, ns, n1, n2, n3, n4, n5, n, rfl, ha, hca, ok.sub _ _ hc, hn1, hn, fun r H' n1' n2' n3' n4' n5' r0 r1 kp ha' hn1' => ?_⟩
        refine kk (.fz (.int r)) (.int r) H' Fh (fun _ => none) ⟨fun b o e => ?_, fun b o e1 e2 => ?_, Same.refl _, fun _ _ e => .inl e, (fun _ _ e => nomatch e), fun b e => ?_, rfl, fun i c e => by simp at e⟩ (Fz.int r) (q r r0 r1)
        · exact kp b o (ok.sub b o e) (by rintro rfl; rw [hFa] at e; cases e)
        · exact kp b o e1 (by rintro rfl; exact e2 rfl)
        · have e : some a = some b := e
          cases e
          refine ⟨⟨c, ns, n1', n2', n3', n4', n5', ha', hc, hn1'⟩, hFa, rfl, ?_⟩
          show (H a).isSome = true
          rw [ha]; rfl
  · exact h.elim

/-! ### where the source comes from -/
def spSrc0 (K : Frag) : Sp := fun vs H Q _ => ∃ (a : Addr) (ns : List Int), vs = [.ref a] ∧ SqL K H a (ns.map V.int) ∧ ns.length ≤ 1000 ∧
  ∀ (p c : Addr) (ms : List Int) (n4 : Int) (H' : Hp), Same H H' → H p = none → H' p = some (.lst [.ref c, .int 0, .int 0, .int 0, .int n4, .int 0]) → H' c = some (.lst (ms.map V.int)) → Q (.ref p) H'
theorem sc_law_source : FnScope ["script", "cells", "cell"] ["script"] (defScope (top 14)) := ⟨rfl, rfl, rfl, by decide +kernel, rfl, by decide +kernel, by decide +kernel⟩
theorem ok_src0 {f : Addr} {fd : FuncData} (T : Tx mg) (F : FunD K "_law_source" "_law_source" (defArgs (top 14)) (defBody (top 14)) (defScope (top 14)) [] [] f fd) : FnOk P w K mg base CX0 1 f fd ["script"] (spSrc0 K) := by
  refine F.ok sc_law_source (fun vs H Q E h => ?_) (fun cdv A outer s H vs Q E hr h => ⟨_, PSs.nox (pss_cons
      (ps_setLc (i := 1) (own := [("cell", 2)]) rfl sc_law_source.nd rfl rfl (sw_true rfl rfl rfl (by decide +kernel)) (pi_list (pe_slice sl_list (L2.pv 0) po_none (po_some pe_int))) (blkOk_by (own := [("cell", 2)]) (N := ["script", "cells", "cell"]) (sc := defScope (top 14)) (by decide +kernel))
        (fun _ _ _ _ _ => pg_name (i := 2) sc_law_source.nd rfl (.inl rfl)) (fun _ _ _ _ _ => pts_nil) (fun _ _ _ _ _ => pe_callTy call_int1 rfl T.int (by decide +kernel) (pa_cons (L2.pv 2) pa_nil)))
      (pss_one (ps_ret (pe_lst (pa_cons (L2.pv 1) (pa_cons pe_int (pa_cons pe_int (pa_cons pe_int (pa_cons (pe_op op_add pe_int (pe_op op_modN (pe_callTy call_int1 rfl T.int (by decide +kernel) (pa_cons (pe_callB (cr_sum rfl) rfl T.sum (by decide +kernel) (pa_cons (L2.pv 1) pa_nil)) pa_nil)) pe_int)) (pa_cons pe_int pa_nil)))))))))), ?_⟩)
  · obtain ⟨a, ns, rfl, _⟩ := h
    rfl
  · obtain ⟨a, ns, rfl, hs, hl, k⟩ := h
    refine ⟨.ref a, rfl, ?_⟩
    refine ⟨63, rfl, a, _, rfl, hs, fun p hp => ?_⟩
    obtain ⟨ms, hms, hml⟩ : ∃ ms : List Int, cutV (ns.map V.int) none (some 63) = ms.map V.int ∧ ms.length ≤ 1000 := by
      have hc := cutV_length (ns.map V.int) none (some 63)
      unfold cutV at hc ⊢
      rw [← List.map_drop, ← List.map_take] at hc ⊢
      exact ⟨_, rfl, by simp only [List.length_map] at hc ⊢; omega⟩
    rw [hms]
    refine ⟨p, rfl, ⟨_, SqL.of upd_same⟩, fun Dd hD => ?_⟩
    have pD : p ≠ Dd := fun e => by subst e; rw [upd_same] at hD; cases hD
    have hpD : ∀ o, upd (upd H p (.lst (ms.map V.int))) Dd o p = some (.lst (ms.map V.int)) := fun o => by rw [upd_ne pD, upd_same]
    refine ⟨fun i m H' => m = ms.length - i ∧ i ≤ ms.length ∧ H' = upd (upd H p (.lst (ms.map V.int))) Dd (.lst ((ms.take i).map V.int)), ⟨_, rfl, Nat.zero_le _, rfl⟩, ?_⟩
    rintro i m H' ⟨rfl, hi, rfl⟩
    by_cases hlt : i < ms.length
    · refine .inr ⟨⟨_, .int ms[i], SqL.of (hpD _), by rw [List.getElem?_map, List.getElem?_eq_getElem hlt]; rfl⟩, fun H2 => H2 = upd (upd H p (.lst (ms.map V.int))) Dd (.lst ((ms.take (i + 1)).map V.int)), fun H2 e => ⟨_, by omega, rfl, hlt, e⟩, fun x H2 y => ?_⟩
      obtain ⟨rfl, y⟩ := y
      have y := y _ (SqL.of (hpD _))
      rw [List.getElem?_map, List.getElem?_eq_getElem hlt] at y
      have y : V.int ms[i] = x := by simpa using y
      subst y
      refine ⟨rfl, ?_⟩
      conv => whnf
      refine ⟨_, rfl, .inl ⟨_, rfl, _, upd_same, by rw [List.length_map, List.length_take, sizeLine_val]; omega, ?_⟩⟩
      rw [upd_upd, List.take_succ, List.getElem?_eq_getElem hlt, List.map_append]
      rfl
    · have e : i = ms.length := by omega
      subst e
      refine .inl ⟨⟨_, SqL.of (hpD _), by rw [List.length_map]; exact Nat.le_refl _⟩, ?_⟩
      rw [List.take_length]
      refine ⟨_, rfl, ?_⟩
      refine ⟨_, rfl, Dd, ms, rfl, SqL.of upd_same, .inl ⟨_, rfl, _, 1000003, rfl, rfl, (by show (1000003 : Int) ≠ 0; decide), _, _, rfl, rfl, ?_⟩⟩
      refine ⟨by rw [sizeLine_val]; show (6 : Nat) ≤ 16777216; decide, fun p2 h2 => ?_⟩
      have n2 : p2 ≠ Dd := fun e => by subst e; rw [upd_same] at h2; cases h2
      have h2' := h2
      rw [upd_ne n2] at h2
      have n1 : p2 ≠ p := fun e => by subst e; rw [upd_same] at h2; cases h2
      rw [upd_ne n1] at h2
      have hD' := hD
      rw [upd_ne (fun e => pD e.symm)] at hD'
      refine k p2 Dd ms _ _ (((same_new hp).trans (same_new hD)).trans (same_new h2')) h2 upd_same ?_
      rw [upd_ne (fun e => n2 e.symm), upd_same]

/-! base_of: level 1; slots 0:name; cells  -/
def g_base_of : S := (sRet (gOp2 pIx (gM1 pSplit (gVar 0) (gC (.str "@"))) (gC (.int 0))))
abbrev n_base_of : List Str := ["name"]
theorem sc_base_of : FnScope ["name"] ["name"] (defScope (top 1)) := ⟨rfl, rfl, rfl, by decide +kernel, rfl, by decide +kernel, by decide +kernel⟩
theorem hb_base_of {f : Addr} : ∀ (cdv : Value) (A : Around) (outer : List Env) (s0 : Shared) (H : Hp) (E : XK), RoomG 0 (A.deeper (envOfC "base_of" (defScope (top 1)) s0.heap.objs.size f cdv)) → GSs (cxOf CX0 P w K mg base ["name"] "base_of" (defScope (top 1)) f cdv A outer s0 H E).nox E0 (defBody (top 1)) g_base_of :=
  fun cdv A outer s0 H E hr => (gs_one (gt_ret (ge_ix (ge_split (gv 0) ge_str) ge_int (fun _ _ => rfl))))
/-! mark_of: level 2; slots 0:name; cells  -/
def g_mark_of : S := (sRet (gOp2 pIx (gM1 pSplit (gCall sp_base_of (gCons (gVar 0) gNil)) (gC (.str "/"))) (gC (.int 0))))
abbrev n_mark_of : List Str := ["name"]
theorem sc_mark_of : FnScope ["name"] ["name"] (defScope (top 2)) := ⟨rfl, rfl, rfl, by decide +kernel, rfl, by decide +kernel, by decide +kernel⟩
theorem hb_mark_of {f : Addr} (c_base_of : Cal P w K mg base "base_of" 1 sp_base_of) : ∀ (cdv : Value) (A : Around) (outer : List Env) (s0 : Shared) (H : Hp) (E : XK), RoomG 1 (A.deeper (envOfC "mark_of" (defScope (top 2)) s0.heap.objs.size f cdv)) → GSs (cxOf CX0 P w K mg base ["name"] "mark_of" (defScope (top 2)) f cdv A outer s0 H E).nox E0 (defBody (top 2)) g_mark_of :=
  fun cdv A outer s0 H E hr => (gs_one (gt_ret (ge_ix (ge_split (ge_cal c_base_of hr (by decide) rfl (ga_cons (gv 0) ga_nil)) ge_str) ge_int (fun _ _ => rfl))))
/-! levels_of: level 2; slots 0:name; cells  -/
def g_levels_of : S := (sRet (gSl (gM1 pSplit (gCall sp_base_of (gCons (gVar 0) gNil)) (gC (.str "/"))) (goSome (gC (.int 1))) goNone))
abbrev n_levels_of : List Str := ["name"]
theorem sc_levels_of : FnScope ["name"] ["name"] (defScope (top 3)) := ⟨rfl, rfl, rfl, by decide +kernel, rfl, by decide +kernel, by decide +kernel⟩
theorem hb_levels_of {f : Addr} (c_base_of : Cal P w K mg base "base_of" 1 sp_base_of) : ∀ (cdv : Value) (A : Around) (outer : List Env) (s0 : Shared) (H : Hp) (E : XK), RoomG 1 (A.deeper (envOfC "levels_of" (defScope (top 3)) s0.heap.objs.size f cdv)) → GSs (cxOf CX0 P w K mg base ["name"] "levels_of" (defScope (top 3)) f cdv A outer s0 H E).nox E0 (defBody (top 3)) g_levels_of :=
  fun cdv A outer s0 H E hr => (gs_one (gt_ret (ge_sl (ge_split (ge_cal c_base_of hr (by decide) rfl (ga_cons (gv 0) ga_nil)) ge_str) (go_some ge_int) go_none)))
/-! fits_goes: level 3; slots 0:pattern 1:name; cells  -/
def g_fits_goes : S := (sSeq (sIf (gTst (gOp2 pEq (gVar 0) (gC (.str "any")))) (sRet (gC (.bool true))) sNext) (sSeq (sIf (gTst (gOp2 pIn (gC (.str "/")) (gVar 0))) (sRet (gOp2 pEq (gCall sp_base_of (gCons (gVar 1) gNil)) (gVar 0))) sNext) (sRet (gOp2 pEq (gCall sp_mark_of (gCons (gVar 1) gNil)) (gVar 0)))))
abbrev n_fits_goes : List Str := ["pattern", "name"]
theorem sc_fits_goes : FnScope ["pattern", "name"] ["pattern", "name"] (defScope (top 4)) := ⟨rfl, rfl, rfl, by decide +kernel, rfl, by decide +kernel, by decide +kernel⟩
theorem hb_fits_goes {f : Addr} (c_mark_of : Cal P w K mg base "mark_of" 2 sp_mark_of) (c_base_of : Cal P w K mg base "base_of" 1 sp_base_of) : ∀ (cdv : Value) (A : Around) (outer : List Env) (s0 : Shared) (H : Hp) (E : XK), RoomG 2 (A.deeper (envOfC "fits_goes" (defScope (top 4)) s0.heap.objs.size f cdv)) → GSs (cxOf CX0 P w K mg base ["pattern", "name"] "fits_goes" (defScope (top 4)) f cdv A outer s0 H E).nox E0 (defBody (top 4)) g_fits_goes :=
  fun cdv A outer s0 H E hr => (gs_cons (gt_if (gt_cmp (op_eqA (hu64 hr)) r_eq (gv 0) ge_str (nomark _)) (gs_one (gt_ret ge_bl)) gs_nil) (gs_cons (gt_if (gt_cmp (op_inA (hu65 hr)) r_in ge_str (gv 0) (by rfl)) (gs_one (gt_ret (ge_cmp (op_eqA (hu64 hr)) r_eq (ge_cal c_base_of hr (by decide) rfl (ga_cons (gv 1) ga_nil)) (gv 0) (nomark _)))) gs_nil) (gs_one (gt_ret (ge_cmp (op_eqA (hu64 hr)) r_eq (ge_cal c_mark_of hr (by decide) rfl (ga_cons (gv 1) ga_nil)) (gv 0) (nomark _))))))
/-! as_much: level 3; slots 0:goes 1:stays 2:one 3:other 4:at; cells  -/
def b_as_much_0 : S := (sIf (gTst (gOp2 pLt (gCallB pInt (gCons (gOp2 pIx (gVar 3) (gVar 4)) gNil)) (gCallB pInt (gCons (gOp2 pIx (gVar 2) (gVar 4)) gNil)))) (sRet (gC (.bool false))) sNext)
def g_as_much : S := (sSeq (sSet 2 (gCall sp_levels_of (gCons (gVar 0) gNil))) (sSeq (sSet 3 (gCall sp_levels_of (gCons (gVar 1) gNil))) (sSeq (sIf (gOr (gTst (gOp2 pNe (gCall sp_mark_of (gCons (gVar 0) gNil)) (gCall sp_mark_of (gCons (gVar 1) gNil)))) (gTst (gOp2 pNe (gCallB pLen (gCons (gVar 2) gNil)) (gCallB pLen (gCons (gVar 3) gNil))))) (sRet (gC (.bool false))) sNext) (sSeq (sFor (giR1 (gCons (gCallB pLen (gCons (gVar 2) gNil)) gNil)) (tName 4) b_as_much_0) (sRet (gC (.bool true)))))))
abbrev n_as_much : List Str := ["goes", "stays", "one", "other", "at"]
theorem sc_as_much : FnScope ["goes", "stays", "one", "other", "at"] ["goes", "stays"] (defScope (top 5)) := ⟨rfl, rfl, rfl, by decide +kernel, rfl, by decide +kernel, by decide +kernel⟩
theorem hb_as_much {f : Addr} (T : Tx mg) (c_mark_of : Cal P w K mg base "mark_of" 2 sp_mark_of) (c_levels_of : Cal P w K mg base "levels_of" 2 sp_levels_of) : ∀ (cdv : Value) (A : Around) (outer : List Env) (s0 : Shared) (H : Hp) (E : XK), RoomG 2 (A.deeper (envOfC "as_much" (defScope (top 5)) s0.heap.objs.size f cdv)) → GSs (cxOf CX0 P w K mg base ["goes", "stays", "one", "other", "at"] "as_much" (defScope (top 5)) f cdv A outer s0 H E).nox E0 (defBody (top 5)) g_as_much :=
  fun cdv A outer s0 H E hr => (gs_cons (gt_set (i := 2) sc_as_much.nd rfl (.inl rfl) (ge_cal c_levels_of hr (by decide) rfl (ga_cons (gv 0) ga_nil))) (gs_cons (gt_set (i := 3) sc_as_much.nd rfl (.inl rfl) (ge_cal c_levels_of hr (by decide) rfl (ga_cons (gv 1) ga_nil))) (gs_cons (gt_if (gw_pt (gw_or (gt_cmp (op_neA (hu64 hr)) r_ne (ge_cal c_mark_of hr (by decide) rfl (ga_cons (gv 0) ga_nil)) (ge_cal c_mark_of hr (by decide) rfl (ga_cons (gv 1) ga_nil)) (nomark _)) (gw_or1 (gt_cmp (op_neA (hu64 hr)) r_ne (ge_callB call_len r_len rfl T.len (by decide +kernel) (ga_cons (gv 2) ga_nil)) (ge_callB call_len r_len rfl T.len (by decide +kernel) (ga_cons (gv 3) ga_nil)) (nomark _))))) (gs_one (gt_ret ge_bl)) gs_nil) (gs_cons (gt_for PassesOwn.never rfl (pi_range1 rfl T.range (ga_cons (ge_callB call_len r_len rfl T.len (by decide +kernel) (ga_cons (gv 2) ga_nil)) ga_nil)) (it_range1 (fun _ _ _ h => h)) (gg_name (i := 4) sc_as_much.nd rfl (.inl rfl)) (gs_one (gt_if (gt_cmp op_lt r_ib (ge_callTy call_intA r_int rfl T.int (by decide +kernel) (ga_cons (ge_ix (gv 3) (gv 4) (fun _ _ => rfl)) ga_nil)) (ge_callTy call_intA r_int rfl T.int (by decide +kernel) (ga_cons (ge_ix (gv 2) (gv 4) (fun _ _ => rfl)) ga_nil)) (nomark _)) (gs_one (gt_ret ge_bl)) gs_nil))) (gs_one (gt_ret ge_bl))))))
/-! fits_pair: level 4; slots 0:machine 1:goes 2:stays 3:s 4:t; cells  -/
def g_fits_pair : S := (sSeq (sIf (gOr (gTst (gOp2 pNe (gOp2 pIx (gOp2 pIx (gVar 0) (gC (.int 5))) (gVar 3)) (gOp2 pIx (gOp2 pIx (gVar 0) (gC (.int 5))) (gVar 4)))) (gNot (gTst (gCall sp_fits_goes (gCons (gVar 1) (gCons (gOp2 pIx (gOp2 pIx (gVar 0) (gC (.int 1))) (gVar 3)) gNil)))))) (sRet (gC (.bool false))) sNext) (sSeq (sIf (gTst (gOp2 pEq (gVar 2) (gC (.str "same")))) (sRet (gOp2 pEq (gVar 3) (gVar 4))) sNext) (sSeq (sIf (gTst (gOp2 pEq (gVar 2) (gC (.str "more")))) (sRet (gCall sp_as_much (gCons (gOp2 pIx (gOp2 pIx (gVar 0) (gC (.int 1))) (gVar 3)) (gCons (gOp2 pIx (gOp2 pIx (gVar 0) (gC (.int 1))) (gVar 4)) gNil)))) sNext) (sRet (gCall sp_fits_goes (gCons (gVar 2) (gCons (gOp2 pIx (gOp2 pIx (gVar 0) (gC (.int 1))) (gVar 4)) gNil)))))))
abbrev n_fits_pair : List Str := ["machine", "goes", "stays", "s", "t"]
theorem sc_fits_pair : FnScope ["machine", "goes", "stays", "s", "t"] ["machine", "goes", "stays", "s", "t"] (defScope (top 6)) := ⟨rfl, rfl, rfl, by decide +kernel, rfl, by decide +kernel, by decide +kernel⟩
theorem hb_fits_pair {f : Addr} (c_fits_goes : Cal P w K mg base "fits_goes" 3 sp_fits_goes) (c_as_much : Cal P w K mg base "as_much" 3 sp_as_much) : ∀ (cdv : Value) (A : Around) (outer : List Env) (s0 : Shared) (H : Hp) (E : XK), RoomG 3 (A.deeper (envOfC "fits_pair" (defScope (top 6)) s0.heap.objs.size f cdv)) → GSs (cxOf CX0 P w K mg base ["machine", "goes", "stays", "s", "t"] "fits_pair" (defScope (top 6)) f cdv A outer s0 H E).nox E0 (defBody (top 6)) g_fits_pair :=
  fun cdv A outer s0 H E hr => (gs_cons (gt_if (gw_pt (gw_or (gt_cmp (op_neA (hu64 hr)) r_ne (ge_ix (ge_ix (gv 0) ge_int (fun _ _ => rfl)) (gv 3) (fun _ _ => rfl)) (ge_ix (ge_ix (gv 0) ge_int (fun _ _ => rfl)) (gv 4) (fun _ _ => rfl)) (nomark _)) (gw_or1 (gt_not (gt_val (ge_cal c_fits_goes hr (by decide) rfl (ga_cons (gv 1) (ga_cons (ge_ix (ge_ix (gv 0) ge_int (fun _ _ => rfl)) (gv 3) (fun _ _ => rfl)) ga_nil)))))))) (gs_one (gt_ret ge_bl)) gs_nil) (gs_cons (gt_if (gt_cmp (op_eqA (hu64 hr)) r_eq (gv 2) ge_str (nomark _)) (gs_one (gt_ret (ge_cmp (op_eqA (hu64 hr)) r_eq (gv 3) (gv 4) (nomark _)))) gs_nil) (gs_cons (gt_if (gt_cmp (op_eqA (hu64 hr)) r_eq (gv 2) ge_str (nomark _)) (gs_one (gt_ret (ge_cal c_as_much hr (by decide) rfl (ga_cons (ge_ix (ge_ix (gv 0) ge_int (fun _ _ => rfl)) (gv 3) (fun _ _ => rfl)) (ga_cons (ge_ix (ge_ix (gv 0) ge_int (fun _ _ => rfl)) (gv 4) (fun _ _ => rfl)) ga_nil))))) gs_nil) (gs_one (gt_ret (ge_cal c_fits_goes hr (by decide) rfl (ga_cons (gv 2) (ga_cons (ge_ix (ge_ix (gv 0) ge_int (fun _ _ => rfl)) (gv 4) (fun _ _ => rfl)) ga_nil))))))))
/-! pairs_of: level 5; slots 0:machine 1:goes 2:stays 3:size 4:pairs 5:s 6:t; cells  -/
def b_pairs_of_0 : S := (sIf (gTst (gCall sp_fits_pair (gCons (gVar 0) (gCons (gVar 1) (gCons (gVar 2) (gCons (gVar 5) (gCons (gVar 6) gNil))))))) (sExpr (gApp 4 (gCons (gTup (gCons (gVar 5) (gCons (gVar 6) gNil))) gNil))) sNext)
def b_pairs_of_1 : S := (sFor (giR1 (gCons (gVar 3) gNil)) (tName 6) b_pairs_of_0)
def g_pairs_of : S := (sSeq (sSet 3 (gCallB pLen (gCons (gOp2 pIx (gVar 0) (gC (.int 1))) gNil))) (sSeq (sSet 4 (gLst gNil)) (sSeq (sFor (giR1 (gCons (gVar 3) gNil)) (tName 5) b_pairs_of_1) (sRet (gCallB pTuple (gCons (gVar 4) gNil))))))
abbrev n_pairs_of : List Str := ["machine", "goes", "stays", "size", "pairs", "s", "t"]
theorem sc_pairs_of : FnScope ["machine", "goes", "stays", "size", "pairs", "s", "t"] ["machine", "goes", "stays"] (defScope (top 7)) := ⟨rfl, rfl, rfl, by decide +kernel, rfl, by decide +kernel, by decide +kernel⟩
theorem hb_pairs_of {f : Addr} (T : Tx mg) (c_fits_pair : Cal P w K mg base "fits_pair" 4 sp_fits_pair) : ∀ (cdv : Value) (A : Around) (outer : List Env) (s0 : Shared) (H : Hp) (E : XK), RoomG 4 (A.deeper (envOfC "pairs_of" (defScope (top 7)) s0.heap.objs.size f cdv)) → GSs (cxOf CX0 P w K mg base ["machine", "goes", "stays", "size", "pairs", "s", "t"] "pairs_of" (defScope (top 7)) f cdv A outer s0 H E).nox E0 (defBody (top 7)) g_pairs_of :=
  fun cdv A outer s0 H E hr => (gs_cons (gt_set (i := 3) sc_pairs_of.nd rfl (.inl rfl) (ge_callB call_len r_len rfl T.len (by decide +kernel) (ga_cons (ge_ix (gv 0) ge_int (fun _ _ => rfl)) ga_nil))) (gs_cons (gt_set (i := 4) sc_pairs_of.nd rfl (.inl rfl) (ge_lst ga_nil)) (gs_cons (gt_for PassesOwn.never rfl (pi_range1 rfl T.range (ga_cons (gv 3) ga_nil)) (it_range1 (fun _ _ _ h => h)) (gg_name (i := 5) sc_pairs_of.nd rfl (.inl rfl)) (gs_one (gt_for PassesOwn.never rfl (pi_range1 rfl T.range (ga_cons (gv 3) ga_nil)) (it_range1 (fun _ _ _ h => h)) (gg_name (i := 6) sc_pairs_of.nd rfl (.inl rfl)) (gs_one (gt_if (gt_val (ge_cal c_fits_pair hr (by decide) rfl (ga_cons (gv 0) (ga_cons (gv 1) (ga_cons (gv 2) (ga_cons (gv 5) (ga_cons (gv 6) ga_nil))))))) (gs_one (gt_expr (ge_app (L2.pv 4) (ga_cons (ge_tup (ga_cons (gv 5) (ga_cons (gv 6) ga_nil))) ga_nil) (fun ho ha => pe_bm PySem.F.plainAttrs_list PySem.F.slot_list_append PySem.F.type_list_append mt_append ho ha)))) gs_nil))))) (gs_one (gt_ret (ge_callTy call_tuple_of r_tuple rfl T.tuple (by decide +kernel) (ga_cons (gv 4) ga_nil)))))))
/-! lesser: level 1; slots 0:one 1:other; cells  -/
def g_lesser : S := (sSeq (sIf (gTst (gOp2 pIsN (gVar 0) (gC .none))) (sRet (gVar 1)) sNext) (sSeq (sIf (gTst (gOp2 pIsN (gVar 1) (gC .none))) (sRet (gVar 0)) sNext) (sRet (gCallB pMin2 (gCons (gVar 0) (gCons (gVar 1) gNil))))))
abbrev n_lesser : List Str := ["one", "other"]
theorem sc_lesser : FnScope ["one", "other"] ["one", "other"] (defScope (top 9)) := ⟨rfl, rfl, rfl, by decide +kernel, rfl, by decide +kernel, by decide +kernel⟩
theorem hb_lesser {f : Addr} (T : Tx mg) : ∀ (cdv : Value) (A : Around) (outer : List Env) (s0 : Shared) (H : Hp) (E : XK), RoomG 0 (A.deeper (envOfC "lesser" (defScope (top 9)) s0.heap.objs.size f cdv)) → GSs (cxOf CX0 P w K mg base ["one", "other"] "lesser" (defScope (top 9)) f cdv A outer s0 H E).nox E0 (defBody (top 9)) g_lesser :=
  fun cdv A outer s0 H E hr => (gs_cons (gt_if (gt_cmp op_isN r_isN (gv 0) ge_non (nomark _)) (gs_one (gt_ret (gv 1))) gs_nil) (gs_cons (gt_if (gt_cmp op_isN r_isN (gv 1) ge_non (nomark _)) (gs_one (gt_ret (gv 0))) gs_nil) (gs_one (gt_ret (ge_callB (call_min2 rfl) r_min2 rfl T.min (by decide +kernel) (ga_cons (gv 0) (ga_cons (gv 1) ga_nil)))))))
/-! throws_of: level 6; slots 0:machine 1:offer 2:size 3:table 4:goes 5:stays 6:lead 7:elder 8:s 9:t 10:plain 11:aged 12:row; cells size -/
def b_throws_of_0 : S := (sSeq (sUnp (tTuple (tgCons (tName 10) (tgCons (tName 11) tgNil)) 2) (gIx2 3 (gVar 8) (gVar 9))) (sIf (gTru (gVar 7)) (sSetIx2 3 (gTup (gCons (gVar 10) (gCons (gCall sp_lesser (gCons (gVar 11) (gCons (gVar 6) gNil))) gNil))) (gVar 8) (gVar 9)) (sSetIx2 3 (gTup (gCons (gCall sp_lesser (gCons (gVar 10) (gCons (gVar 6) gNil))) (gCons (gVar 11) gNil))) (gVar 8) (gVar 9))))
def b_throws_of_1 : S := (sFor (giT (gCall sp_pairs_of (gCons (gVar 0) (gCons (gVar 4) (gCons (gVar 5) gNil))))) (tTuple (tgCons (tName 8) (tgCons (tName 9) tgNil)) 2) b_throws_of_0)
def g_throws_of : S := (sSeq (sSet 2 (gCallB pLen (gCons (gOp2 pIx (gVar 0) (gC (.int 1))) gNil))) (sSeq (sSet 3 (gLcR (giR1 (gCons (gVar 2) gNil)) (tName 8) (gLc (giR1 (gCons (gVar 2) gNil)) (tName 9) gYes (gTup (gCons (gC .none) (gCons (gC .none) gNil))) [9]) [8])) (sSeq (sFor (giT (gVar 1)) (tTuple (tgCons (tName 4) (tgCons (tName 5) (tgCons (tName 6) (tgCons (tName 7) tgNil)))) 4) b_throws_of_1) (sRet (gCallB pTuple (gCons (gLc (giL (gVar 3)) (tName 12) gYes (gCallB pTuple (gCons (gVar 12) gNil)) [12]) gNil))))))
abbrev n_throws_of : List Str := ["machine", "offer", "size", "table", "goes", "stays", "lead", "elder", "s", "t", "plain", "aged", "row"]
theorem sc_throws_of : FnScope ["machine", "offer", "size", "table", "goes", "stays", "lead", "elder", "s", "t", "plain", "aged", "row"] ["machine", "offer"] (defScope (top 10)) := ⟨rfl, rfl, rfl, by decide +kernel, rfl, by decide +kernel, by decide +kernel⟩
theorem hb_throws_of {f : Addr} (T : Tx mg) (c_pairs_of : Cal P w K mg base "pairs_of" 5 sp_pairs_of) (c_lesser : Cal P w K mg base "lesser" 1 sp_lesser) : ∀ (cdv : Value) (A : Around) (outer : List Env) (s0 : Shared) (H : Hp) (E : XK), RoomG 5 (A.deeper (envOfC "throws_of" (defScope (top 10)) s0.heap.objs.size f cdv)) → GSs (cxOf CX0 P w K mg base ["machine", "offer", "size", "table", "goes", "stays", "lead", "elder", "s", "t", "plain", "aged", "row"] "throws_of" (defScope (top 10)) f cdv A outer s0 H E).nox E0 (defBody (top 10)) g_throws_of :=
  fun cdv A outer s0 H E hr => (gs_cons (gt_set (i := 2) sc_throws_of.nd rfl (.inr rfl) (ge_callB call_len r_len rfl T.len (by decide +kernel) (ga_cons (ge_ix (gv 0) ge_int (fun _ _ => rfl)) ga_nil))) (gs_cons (gt_setLcR (i := 3) (own := [("s", 8)]) rfl sc_throws_of.nd rfl rfl (sw_true rfl rfl rfl (by decide +kernel)) (pi_range1 rfl T.range (ga_cons (gv 2) ga_nil)) (it_range1 (fun _ _ _ h => h)) (blkOk_by (own := [("s", 8)]) (N := ["machine", "offer", "size", "table", "goes", "stays", "lead", "elder", "s", "t", "plain", "aged", "row"]) (sc := defScope (top 10)) (by decide +kernel)) (by decide) (fun _ _ _ _ _ => (gg_name (i := 8) sc_throws_of.nd rfl (.inl rfl))) (fun _ _ _ _ _ => (ge_lc (own := [("t", 9)]) rfl sc_throws_of.nd (pi_range1 rfl T.range (ga_cons (gv 2) ga_nil)) (it_range1 (fun _ _ _ h => h)) (blkOk_by (own := [("t", 9)]) (by rfl)) (by decide) (fun _ _ _ _ _ => (gg_name (i := 9) sc_throws_of.nd rfl (.inl rfl))) (fun _ _ _ _ _ => gts_nil) (fun _ _ _ _ _ => (ge_tup (ga_cons ge_non (ga_cons ge_non ga_nil))))))) (gs_cons (gt_for PassesOwn.never rfl (pi_tup (gv 1)) (it_tup (fun _ _ _ h => h)) (gg_tup rfl (gg_cons (gg_name (i := 4) sc_throws_of.nd rfl (.inl rfl)) (gg_cons (gg_name (i := 5) sc_throws_of.nd rfl (.inl rfl)) (gg_cons (gg_name (i := 6) sc_throws_of.nd rfl (.inl rfl)) (gg_cons (gg_name (i := 7) sc_throws_of.nd rfl (.inl rfl)) gg_nil))))) (gs_one (gt_for PassesOwn.never rfl (pi_tup (ge_cal c_pairs_of hr (by decide) rfl (ga_cons (gv 0) (ga_cons (gv 4) (ga_cons (gv 5) ga_nil))))) (it_tup (fun _ _ _ h => h)) (gg_tup rfl (gg_cons (gg_name (i := 8) sc_throws_of.nd rfl (.inl rfl)) (gg_cons (gg_name (i := 9) sc_throws_of.nd rfl (.inl rfl)) gg_nil))) (gs_cons (gt_unp (ge_ix2 (L2.pv 3) (gv 8) (gv 9) (fun _ _ => rfl) (fun _ _ => rfl)) (gg_tup rfl (gg_cons (gg_name (i := 10) sc_throws_of.nd rfl (.inl rfl)) (gg_cons (gg_name (i := 11) sc_throws_of.nd rfl (.inl rfl)) gg_nil)))) (gs_one (gt_if (gt_tru (gv 7)) (gs_one (gt_setIx2 (L2.pv 3) (gv 8) (gv 9) (ge_tup (ga_cons (gv 10) (ga_cons (ge_cal c_lesser hr (by decide) rfl (ga_cons (gv 11) (ga_cons (gv 6) ga_nil))) ga_nil))) (fun _ _ => rfl) (hg := fun ho hi => pg_sub ho hi set_list))) (gs_one (gt_setIx2 (L2.pv 3) (gv 8) (gv 9) (ge_tup (ga_cons (ge_cal c_lesser hr (by decide) rfl (ga_cons (gv 10) (ga_cons (gv 6) ga_nil))) (ga_cons (gv 11) ga_nil))) (fun _ _ => rfl) (hg := fun ho hi => pg_sub ho hi set_list))))))))) (gs_one (gt_ret (ge_callTy call_tuple_of r_tuple rfl T.tuple (by decide +kernel) (ga_cons (ge_lc (own := [("row", 12)]) rfl sc_throws_of.nd (pi_list (gv 3)) (it_list (fun _ _ _ h => h)) (blkOk_by (own := [("row", 12)]) (N := ["machine", "offer", "size", "table", "goes", "stays", "lead", "elder", "s", "t", "plain", "aged", "row"]) (sc := defScope (top 10)) (by decide +kernel)) (by decide) (fun _ _ _ _ _ => (gg_name (i := 12) sc_throws_of.nd rfl (.inl rfl))) (fun _ _ _ _ _ => gts_nil) (fun _ _ _ _ _ => (ge_callTy call_tuple_of r_tuple rfl T.tuple (by decide +kernel) (ga_cons (gv 12) ga_nil)))) ga_nil)))))))
/-! allows: level 1; slots 0:throws 1:s 2:t 3:ahead 4:older 5:plain 6:aged; cells  -/
def g_allows : S := (sSeq (sUnp (tTuple (tgCons (tName 5) (tgCons (tName 6) tgNil)) 2) (gOp2 pIx (gOp2 pIx (gVar 0) (gVar 1)) (gVar 2))) (sSeq (sIf (gAnd (gTst (gOp2 pIsNotN (gVar 5) (gC .none))) (gTst (gOp2 pLe (gVar 5) (gVar 3)))) (sRet (gC (.bool true))) sNext) (sRet (gAndV (gVar 4) (gAndV (gOp2 pIsNotN (gVar 6) (gC .none)) (gOp2 pLe (gVar 6) (gVar 3)))))))
abbrev n_allows : List Str := ["throws", "s", "t", "ahead", "older", "plain", "aged"]
theorem sc_allows : FnScope ["throws", "s", "t", "ahead", "older", "plain", "aged"] ["throws", "s", "t", "ahead", "older"] (defScope (top 11)) := ⟨rfl, rfl, rfl, by decide +kernel, rfl, by decide +kernel, by decide +kernel⟩
theorem hb_allows {f : Addr} : ∀ (cdv : Value) (A : Around) (outer : List Env) (s0 : Shared) (H : Hp) (E : XK), RoomG 0 (A.deeper (envOfC "allows" (defScope (top 11)) s0.heap.objs.size f cdv)) → GSs (cxOf CX0 P w K mg base ["throws", "s", "t", "ahead", "older", "plain", "aged"] "allows" (defScope (top 11)) f cdv A outer s0 H E).nox E0 (defBody (top 11)) g_allows :=
  fun cdv A outer s0 H E hr => (gs_cons (gt_unp (ge_ix (ge_ix (gv 0) (gv 1) (fun _ _ => rfl)) (gv 2) (fun _ _ => rfl)) (gg_tup rfl (gg_cons (gg_name (i := 5) sc_allows.nd rfl (.inl rfl)) (gg_cons (gg_name (i := 6) sc_allows.nd rfl (.inl rfl)) gg_nil)))) (gs_cons (gt_if (gw_pt (gw_and (gt_cmp op_notN r_isNotN (gv 5) ge_non (nomark _)) (gw_and1 (gt_cmp op_le r_ib (gv 5) (gv 3) (nomark _))))) (gs_one (gt_ret ge_bl)) gs_nil) (gs_one (gt_ret (ge_and (gv 4) (ge_and (ge_cmp op_notN r_isNotN (gv 6) ge_non (nomark _)) (ge_one (ge_cmp op_le r_ib (gv 6) (gv 3) (nomark _)))))))))
/-! least_throw: level 2; slots 0:throws 1:s 2:t; cells  -/
def g_least_throw : S := (sRet (gCall sp_lesser (gCons (gOp2 pIx (gOp2 pIx (gOp2 pIx (gVar 0) (gVar 1)) (gVar 2)) (gC (.int 0))) (gCons (gOp2 pIx (gOp2 pIx (gOp2 pIx (gVar 0) (gVar 1)) (gVar 2)) (gC (.int 1))) gNil))))
abbrev n_least_throw : List Str := ["throws", "s", "t"]
theorem sc_least_throw : FnScope ["throws", "s", "t"] ["throws", "s", "t"] (defScope (top 12)) := ⟨rfl, rfl, rfl, by decide +kernel, rfl, by decide +kernel, by decide +kernel⟩
theorem hb_least_throw {f : Addr} (c_lesser : Cal P w K mg base "lesser" 1 sp_lesser) : ∀ (cdv : Value) (A : Around) (outer : List Env) (s0 : Shared) (H : Hp) (E : XK), RoomG 1 (A.deeper (envOfC "least_throw" (defScope (top 12)) s0.heap.objs.size f cdv)) → GSs (cxOf CX0 P w K mg base ["throws", "s", "t"] "least_throw" (defScope (top 12)) f cdv A outer s0 H E).nox E0 (defBody (top 12)) g_least_throw :=
  fun cdv A outer s0 H E hr => (gs_one (gt_ret (ge_cal c_lesser hr (by decide) rfl (ga_cons (ge_ix (ge_ix (ge_ix (gv 0) (gv 1) (fun _ _ => rfl)) (gv 2) (fun _ _ => rfl)) ge_int (fun _ _ => rfl)) (ga_cons (ge_ix (ge_ix (ge_ix (gv 0) (gv 1) (fun _ _ => rfl)) (gv 2) (fun _ _ => rfl)) ge_int (fun _ _ => rfl)) ga_nil)))))
/-! _law_some: level 3; slots 0:source 1:things; cells  -/
def g_law_some : S := (sRet (gOp2 pIx (gVar 1) (gCall sp_law_draw (gCons (gVar 0) (gCons (gCallB pLen (gCons (gVar 1) gNil)) gNil)))))
abbrev n_law_some : List Str := ["source", "things"]
theorem sc_law_some : FnScope ["source", "things"] ["source", "things"] (defScope (top 17)) := ⟨rfl, rfl, rfl, by decide +kernel, rfl, by decide +kernel, by decide +kernel⟩
theorem hb_law_some {f : Addr} (T : Tx mg) (c_law_draw : Cal P w K mg base "_law_draw" 2 sp_law_draw) : ∀ (cdv : Value) (A : Around) (outer : List Env) (s0 : Shared) (H : Hp) (E : XK), RoomG 2 (A.deeper (envOfC "_law_some" (defScope (top 17)) s0.heap.objs.size f cdv)) → GSs (cxOf CX0 P w K mg base ["source", "things"] "_law_some" (defScope (top 17)) f cdv A outer s0 H E).nox E0 (defBody (top 17)) g_law_some :=
  fun cdv A outer s0 H E hr => (gs_one (gt_ret (ge_ix (gv 1) (ge_cal c_law_draw hr (by decide) rfl (ga_cons (gv 0) (ga_cons (ge_callB call_len r_len rfl T.len (by decide +kernel) (ga_cons (gv 1) ga_nil)) ga_nil))) (fun _ _ => rfl))))
/-! _law_picks: level 3; slots 0:source 1:pool 2:many 3:left 4:picked 5:k; cells  -/
def b_law_picks_0 : S := (sExpr (gApp 4 (gCons (gPopAt 3 (gCons (gCall sp_law_draw (gCons (gVar 0) (gCons (gCallB pLen (gCons (gVar 3) gNil)) gNil))) gNil)) gNil)))
def g_law_picks : S := (sSeq (sSet 3 (gCallB pList (gCons (gVar 1) gNil))) (sSeq (sSet 4 (gLst gNil)) (sSeq (sFor (giR1 (gCons (gCallB pMin2 (gCons (gVar 2) (gCons (gCallB pLen (gCons (gVar 3) gNil)) gNil))) gNil)) (tName 5) b_law_picks_0) (sRet (gVar 4)))))
abbrev n_law_picks : List Str := ["source", "pool", "many", "left", "picked", "k"]
theorem sc_law_picks : FnScope ["source", "pool", "many", "left", "picked", "k"] ["source", "pool", "many"] (defScope (top 18)) := ⟨rfl, rfl, rfl, by decide +kernel, rfl, by decide +kernel, by decide +kernel⟩
theorem hb_law_picks {f : Addr} (T : Tx mg) (c_law_draw : Cal P w K mg base "_law_draw" 2 sp_law_draw) : ∀ (cdv : Value) (A : Around) (outer : List Env) (s0 : Shared) (H : Hp) (E : XK), RoomG 2 (A.deeper (envOfC "_law_picks" (defScope (top 18)) s0.heap.objs.size f cdv)) → GSs (cxOf CX0 P w K mg base ["source", "pool", "many", "left", "picked", "k"] "_law_picks" (defScope (top 18)) f cdv A outer s0 H E).nox E0 (defBody (top 18)) g_law_picks :=
  fun cdv A outer s0 H E hr => (gs_cons (gt_set (i := 3) sc_law_picks.nd rfl (.inl rfl) (ge_callTy call_list_of r_list rfl T.list (by decide +kernel) (ga_cons (gv 1) ga_nil))) (gs_cons (gt_set (i := 4) sc_law_picks.nd rfl (.inl rfl) (ge_lst ga_nil)) (gs_cons (gt_for PassesOwn.never rfl (pi_range1 rfl T.range (ga_cons (ge_callB (call_min2 rfl) r_min2 rfl T.min (by decide +kernel) (ga_cons (gv 2) (ga_cons (ge_callB call_len r_len rfl T.len (by decide +kernel) (ga_cons (gv 3) ga_nil)) ga_nil))) ga_nil)) (it_range1 (fun _ _ _ h => h)) (gg_name (i := 5) sc_law_picks.nd rfl (.inl rfl)) (gs_one (gt_expr (ge_app (L2.pv 4) (ga_cons (ge_popAt (L2.pv 3) (ga_cons (ge_cal c_law_draw hr (by decide) rfl (ga_cons (gv 0) (ga_cons (ge_callB call_len r_len rfl T.len (by decide +kernel) (ga_cons (gv 3) ga_nil)) ga_nil))) ga_nil) (fun ho ha => pe_bm PySem.F.plainAttrs_list PySem.F.slot_list_pop PySem.F.type_list_pop mt_popAt ho ha)) ga_nil) (fun ho ha => pe_bm PySem.F.plainAttrs_list PySem.F.slot_list_append PySem.F.type_list_append mt_append ho ha))))) (gs_one (gt_ret (gv 4))))))
/-! _law_names: level 4; slots 0:source 1:many 2:pool; cells  -/
def g_law_names : S := (sSeq (sSet 2 (gTup (gCons (gC (.str "a")) (gCons (gC (.str "b7")) (gCons (gC (.str "road")) (gCons (gC (.str "rail")) (gCons (gC (.str "ferry")) (gCons (gC (.str "harbour1")) (gCons (gC (.str "harbour2")) (gCons (gC (.str "z")) (gCons (gC (.str "q0q0")) (gCons (gC (.str "plain")) (gCons (gC (.str "wet")) (gCons (gC (.str "e5")) gNil)))))))))))))) (sRet (gCallB pTuple (gCons (gCall sp_law_picks (gCons (gVar 0) (gCons (gVar 2) (gCons (gVar 1) gNil)))) gNil))))
abbrev n_law_names : List Str := ["source", "many", "pool"]
theorem sc_law_names : FnScope ["source", "many", "pool"] ["source", "many"] (defScope (top 19)) := ⟨rfl, rfl, rfl, by decide +kernel, rfl, by decide +kernel, by decide +kernel⟩
theorem hb_law_names {f : Addr} (T : Tx mg) (c_law_picks : Cal P w K mg base "_law_picks" 3 sp_law_picks) : ∀ (cdv : Value) (A : Around) (outer : List Env) (s0 : Shared) (H : Hp) (E : XK), RoomG 3 (A.deeper (envOfC "_law_names" (defScope (top 19)) s0.heap.objs.size f cdv)) → GSs (cxOf CX0 P w K mg base ["source", "many", "pool"] "_law_names" (defScope (top 19)) f cdv A outer s0 H E).nox E0 (defBody (top 19)) g_law_names :=
  fun cdv A outer s0 H E hr => (gs_cons (gt_set (i := 2) sc_law_names.nd rfl (.inl rfl) (ge_tup (ga_cons ge_str (ga_cons ge_str (ga_cons ge_str (ga_cons ge_str (ga_cons ge_str (ga_cons ge_str (ga_cons ge_str (ga_cons ge_str (ga_cons ge_str (ga_cons ge_str (ga_cons ge_str (ga_cons ge_str ga_nil)))))))))))))) (gs_one (gt_ret (ge_callTy call_tuple_of r_tuple rfl T.tuple (by decide +kernel) (ga_cons (ge_cal c_law_picks hr (by decide) rfl (ga_cons (gv 0) (ga_cons (gv 2) (ga_cons (gv 1) ga_nil)))) ga_nil)))))
/-! _law_fare: level 4; slots 0:source; cells  -/
def g_law_fare : S := (sRet (gCall sp_law_some (gCons (gVar 0) (gCons (gTup (gCons (gC (.int 0)) (gCons (gC (.int 0)) (gCons (gC (.int 1)) (gCons (gC (.int 1)) (gCons (gC (.int 2)) (gCons (gC (.int 3)) (gCons (gC (.int 4)) (gCons (gC (.int 5)) (gCons (gC (.int 7)) (gCons (gC (.int 9)) (gCons (gC (.int 20)) gNil)))))))))))) gNil))))
abbrev n_law_fare : List Str := ["source"]
theorem sc_law_fare : FnScope ["source"] ["source"] (defScope (top 20)) := ⟨rfl, rfl, rfl, by decide +kernel, rfl, by decide +kernel, by decide +kernel⟩
theorem hb_law_fare {f : Addr} (c_law_some : Cal P w K mg base "_law_some" 3 sp_law_some) : ∀ (cdv : Value) (A : Around) (outer : List Env) (s0 : Shared) (H : Hp) (E : XK), RoomG 3 (A.deeper (envOfC "_law_fare" (defScope (top 20)) s0.heap.objs.size f cdv)) → GSs (cxOf CX0 P w K mg base ["source"] "_law_fare" (defScope (top 20)) f cdv A outer s0 H E).nox E0 (defBody (top 20)) g_law_fare :=
  fun cdv A outer s0 H E hr => (gs_one (gt_ret (ge_cal c_law_some hr (by decide) rfl (ga_cons (gv 0) (ga_cons (ge_tup (ga_cons ge_int (ga_cons ge_int (ga_cons ge_int (ga_cons ge_int (ga_cons ge_int (ga_cons ge_int (ga_cons ge_int (ga_cons ge_int (ga_cons ge_int (ga_cons ge_int (ga_cons ge_int ga_nil)))))))))))) ga_nil)))))
/-! _law_machine_names: level 5; slots 0:source 1:many 2:marks 3:extra 4:at; cells marks -/
def g_law_machine_names : S := (sSeq (sSet 2 (gCall sp_law_names (gCons (gVar 0) (gCons (gC (.int 6)) gNil)))) (sSeq (sIf (gTst (gOp2 pEq (gCall sp_law_draw (gCons (gVar 0) (gCons (gC (.int 2)) gNil))) (gC (.int 0)))) (sSeq (sSet 3 (gTup (gCons (gC (.str "m6")) (gCons (gC (.str "m7")) (gCons (gC (.str "m8")) (gCons (gC (.str "m9")) (gCons (gC (.str "m10")) (gCons (gC (.str "m11")) gNil)))))))) (sRet (gSl (gOp2 pAdd (gVar 2) (gVar 3)) goNone (goSome (gVar 1))))) sNext) (sRet (gCallB pTuple (gCons (gLc (giR1 (gCons (gVar 1) gNil)) (tName 4) gYes (gOp2 pAdd (gOp2 pAdd (gOp2 pIx (gVar 2) (gOp2 pFDiv (gVar 4) (gC (.int 2)))) (gC (.str "/"))) (gCallB pStr (gCons (gOp2 pSub (gVar 4) (gOp2 pMul (gOp2 pFDiv (gVar 4) (gC (.int 2))) (gC (.int 2)))) gNil))) [4]) gNil)))))
abbrev n_law_machine_names : List Str := ["source", "many", "marks", "extra", "at"]
theorem sc_law_machine_names : FnScope ["source", "many", "marks", "extra", "at"] ["source", "many"] (defScope (top 21)) := ⟨rfl, rfl, rfl, by decide +kernel, rfl, by decide +kernel, by decide +kernel⟩
theorem hb_law_machine_names {f : Addr} (T : Tx mg) (c_law_draw : Cal P w K mg base "_law_draw" 2 sp_law_draw) (c_law_names : Cal P w K mg base "_law_names" 4 sp_law_names) : ∀ (cdv : Value) (A : Around) (outer : List Env) (s0 : Shared) (H : Hp) (E : XK), RoomG 4 (A.deeper (envOfC "_law_machine_names" (defScope (top 21)) s0.heap.objs.size f cdv)) → GSs (cxOf CX0 P w K mg base ["source", "many", "marks", "extra", "at"] "_law_machine_names" (defScope (top 21)) f cdv A outer s0 H E).nox E0 (defBody (top 21)) g_law_machine_names :=
  fun cdv A outer s0 H E hr => (gs_cons (gt_set (i := 2) sc_law_machine_names.nd rfl (.inr rfl) (ge_cal c_law_names hr (by decide) rfl (ga_cons (gv 0) (ga_cons ge_int ga_nil)))) (gs_cons (gt_if (gt_cmp (op_eqA (hu64 hr)) r_eq (ge_cal c_law_draw hr (by decide) rfl (ga_cons (gv 0) (ga_cons ge_int ga_nil))) ge_int (nomark _)) (gs_cons (gt_set (i := 3) sc_law_machine_names.nd rfl (.inl rfl) (ge_tup (ga_cons ge_str (ga_cons ge_str (ga_cons ge_str (ga_cons ge_str (ga_cons ge_str (ga_cons ge_str ga_nil)))))))) (gs_one (gt_ret (ge_sl (ge_op op_addA r_add (gv 2) (gv 3)) go_none (go_some (gv 1)))))) gs_nil) (gs_one (gt_ret (ge_callTy call_tuple_of r_tuple rfl T.tuple (by decide +kernel) (ga_cons (ge_lc (own := [("at", 4)]) rfl sc_law_machine_names.nd (pi_range1 rfl T.range (ga_cons (gv 1) ga_nil)) (it_range1 (fun _ _ _ h => h)) (blkOk_by (own := [("at", 4)]) (N := ["source", "many", "marks", "extra", "at"]) (sc := defScope (top 21)) (by decide +kernel)) (by decide) (fun _ _ _ _ _ => (gg_name (i := 4) sc_law_machine_names.nd rfl (.inl rfl))) (fun _ _ _ _ _ => gts_nil) (fun _ _ _ _ _ => (ge_op op_addA r_add (ge_op op_addA r_add (ge_ix (gv 2) (ge_op op_fdivN r_ii (gv 4) ge_int) (fun _ _ => rfl)) ge_str) (ge_callTy call_str_int r_str rfl T.str (by decide +kernel) (ga_cons (ge_op op_sub r_sub (gv 4) (ge_op op_mul r_ii (ge_op op_fdivN r_ii (gv 4) ge_int) ge_int)) ga_nil))))) ga_nil))))))
/-! _law_machine_sized: level 6; slots 0:source 1:many 2:kinds 3:moves 4:state 5:free 6:earlier 7:spot 8:kind 9:ends 10:names 11:table 12:row 13:name; cells earlier kinds moves source -/
def b_law_machine_sized_0 : S := (sIf (gAnd (gTst (gOp2 pIsN (gIx2 3 (gVar 4) (gVar 8)) (gC .none))) (gTst (gOp2 pGt (gCall sp_law_draw (gCons (gVar 0) (gCons (gC (.int 4)) gNil))) (gC (.int 0))))) (sSetIx2 3 (gTup (gCons (gCall sp_law_draw (gCons (gVar 0) (gCons (gVar 1) gNil))) (gCons (gCall sp_law_fare (gCons (gVar 0) gNil)) gNil))) (gVar 4) (gVar 8)) sNext)
def b_law_machine_sized_1 : S := (sFor (giR1 (gCons (gVar 2) gNil)) (tName 8) b_law_machine_sized_0)
def b_law_machine_sized_2 : S := (sSet 5 (gOp2 pAdd (gVar 5) (gLc (giR1 (gCons (gVar 2) gNil)) (tName 8) (gTst (gOp2 pIsN (gIx2 3 (gVar 6) (gVar 8)) (gC .none))) (gTup (gCons (gVar 6) (gCons (gVar 8) gNil))) [8])))
def b_law_machine_sized_3 : S := (sSeq (sSet 5 (gLst gNil)) (sSeq (sFor (giR1 (gCons (gVar 4) gNil)) (tName 6) b_law_machine_sized_2) (sSeq (sSet 7 (gCall sp_law_some (gCons (gVar 0) (gCons (gVar 5) gNil)))) (sSetIx2 3 (gTup (gCons (gVar 4) (gCons (gCall sp_law_fare (gCons (gVar 0) gNil)) gNil))) (gOp2 pIx (gVar 7) (gC (.int 0))) (gOp2 pIx (gVar 7) (gC (.int 1)))))))
def g_law_machine_sized : S := (sSeq (sSet 3 (gLcR (giR1 (gCons (gVar 1) gNil)) (tName 4) (gLc (giR1 (gCons (gVar 2) gNil)) (tName 8) gYes (gC .none) [8]) [4])) (sSeq (sFor (giR2 (gCons (gC (.int 1)) (gCons (gVar 1) gNil))) (tName 4) b_law_machine_sized_3) (sSeq (sFor (giR1 (gCons (gVar 1) gNil)) (tName 4) b_law_machine_sized_1) (sSeq (sSet 9 (gLc (giR1 (gCons (gVar 1) gNil)) (tName 4) gYes (gIf (gTst (gOp2 pEq (gCall sp_law_draw (gCons (gVar 0) (gCons (gC (.int 2)) gNil))) (gC (.int 0)))) (gCall sp_law_fare (gCons (gVar 0) gNil)) (gC .none)) [4])) (sSeq (sIf (gTst (gOp2 pGt (gCall sp_law_draw (gCons (gVar 0) (gCons (gC (.int 16)) gNil))) (gC (.int 0)))) (sSetIx 9 (gCall sp_law_fare (gCons (gVar 0) gNil)) (gCall sp_law_draw (gCons (gVar 0) (gCons (gVar 1) gNil)))) sNext) (sSeq (sSet 10 (gCall sp_law_machine_names (gCons (gVar 0) (gCons (gVar 1) gNil)))) (sSeq (sSet 11 (gCallB pTuple (gCons (gLc (giL (gVar 3)) (tName 12) gYes (gCallB pTuple (gCons (gVar 12) gNil)) [12]) gNil))) (sRet (gTup (gCons (gCall sp_law_names (gCons (gVar 0) (gCons (gVar 2) gNil))) (gCons (gVar 10) (gCons (gVar 11) (gCons (gCallB pTuple (gCons (gVar 9) gNil)) (gCons (gCall sp_law_fare (gCons (gVar 0) gNil)) (gCons (gCallB pTuple (gCons (gLc (giT (gVar 10)) (tName 13) gYes (gC (.int 0)) [13]) gNil)) gNil)))))))))))))))
abbrev n_law_machine_sized : List Str := ["source", "many", "kinds", "moves", "state", "free", "earlier", "spot", "kind", "ends", "names", "table", "row", "name"]
theorem sc_law_machine_sized : FnScope ["source", "many", "kinds", "moves", "state", "free", "earlier", "spot", "kind", "ends", "names", "table", "row", "name"] ["source", "many", "kinds"] (defScope (top 22)) := ⟨rfl, rfl, rfl, by decide +kernel, rfl, by decide +kernel, by decide +kernel⟩
theorem hb_law_machine_sized {f : Addr} (T : Tx mg) (c_law_fare : Cal P w K mg base "_law_fare" 4 sp_law_fare) (c_law_names : Cal P w K mg base "_law_names" 4 sp_law_names) (c_law_machine_names : Cal P w K mg base "_law_machine_names" 5 sp_law_machine_names) (c_law_draw : Cal P w K mg base "_law_draw" 2 sp_law_draw) (c_law_some : Cal P w K mg base "_law_some" 3 sp_law_some) : ∀ (cdv : Value) (A : Around) (outer : List Env) (s0 : Shared) (H : Hp) (E : XK), RoomG 5 (A.deeper (envOfC "_law_machine_sized" (defScope (top 22)) s0.heap.objs.size f cdv)) → GSs (cxOf CX0 P w K mg base ["source", "many", "kinds", "moves", "state", "free", "earlier", "spot", "kind", "ends", "names", "table", "row", "name"] "_law_machine_sized" (defScope (top 22)) f cdv A outer s0 H E).nox E0 (defBody (top 22)) g_law_machine_sized :=
  fun cdv A outer s0 H E hr => (gs_cons (gt_set (i := 3) sc_law_machine_sized.nd rfl (.inr rfl) (ge_lcR (own := [("state", 4)]) rfl sc_law_machine_sized.nd (pi_range1 rfl T.range (ga_cons (gv 1) ga_nil)) (it_range1 (fun _ _ _ h => h)) (blkOk_by (own := [("state", 4)]) (N := ["source", "many", "kinds", "moves", "state", "free", "earlier", "spot", "kind", "ends", "names", "table", "row", "name"]) (sc := defScope (top 22)) (by decide +kernel)) (by decide) (fun _ _ _ _ _ => (gg_name (i := 4) sc_law_machine_sized.nd rfl (.inl rfl))) (fun _ _ _ _ _ => (ge_lc (own := [("kind", 8)]) rfl sc_law_machine_sized.nd (pi_range1 rfl T.range (ga_cons (gv 2) ga_nil)) (it_range1 (fun _ _ _ h => h)) (blkOk_by (own := [("kind", 8)]) (by rfl)) (by decide) (fun _ _ _ _ _ => (gg_name (i := 8) sc_law_machine_sized.nd rfl (.inl rfl))) (fun _ _ _ _ _ => gts_nil) (fun _ _ _ _ _ => ge_non))))) (gs_cons (gt_for PassesOwn.never rfl (pi_range2 rfl T.range (ga_cons ge_int (ga_cons (gv 1) ga_nil))) (it_range2 (fun _ _ _ h => h)) (gg_name (i := 4) sc_law_machine_sized.nd rfl (.inl rfl)) (gs_cons (gt_set (i := 5) sc_law_machine_sized.nd rfl (.inl rfl) (ge_lst ga_nil)) (gs_cons (gt_for PassesOwn.never rfl (pi_range1 rfl T.range (ga_cons (gv 4) ga_nil)) (it_range1 (fun _ _ _ h => h)) (gg_name (i := 6) sc_law_machine_sized.nd rfl (.inr rfl)) (gs_one (gt_set (i := 5) sc_law_machine_sized.nd rfl (.inl rfl) (ge_op op_addA r_add (gv 5) (ge_lc (own := [("kind", 8)]) rfl sc_law_machine_sized.nd (pi_range1 rfl T.range (ga_cons (gv 2) ga_nil)) (it_range1 (fun _ _ _ h => h)) (blkOk_by (own := [("kind", 8)]) (N := ["source", "many", "kinds", "moves", "state", "free", "earlier", "spot", "kind", "ends", "names", "table", "row", "name"]) (sc := defScope (top 22)) (by decide +kernel)) (by decide) (fun _ _ _ _ _ => (gg_name (i := 8) sc_law_machine_sized.nd rfl (.inl rfl))) (fun _ _ _ _ _ => (gts_one (gt_cmp op_isN r_isN (ge_ix2 (L2.pv 3) (gv 6) (gv 8) (fun _ _ => rfl) (fun _ _ => rfl)) ge_non (nomark _)))) (fun _ _ _ _ _ => (ge_tup (ga_cons (gv 6) (ga_cons (gv 8) ga_nil))))))))) (gs_cons (gt_set (i := 7) sc_law_machine_sized.nd rfl (.inl rfl) (ge_cal c_law_some hr (by decide) rfl (ga_cons (gv 0) (ga_cons (gv 5) ga_nil)))) (gs_one (gt_setIx2 (L2.pv 3) (ge_ix (gv 7) ge_int (fun _ _ => rfl)) (ge_ix (gv 7) ge_int (fun _ _ => rfl)) (ge_tup (ga_cons (gv 4) (ga_cons (ge_cal c_law_fare hr (by decide) rfl (ga_cons (gv 0) ga_nil)) ga_nil))) (fun _ _ => rfl) (hg := fun ho hi => pg_sub ho hi set_list))))))) (gs_cons (gt_for PassesOwn.never rfl (pi_range1 rfl T.range (ga_cons (gv 1) ga_nil)) (it_range1 (fun _ _ _ h => h)) (gg_name (i := 4) sc_law_machine_sized.nd rfl (.inl rfl)) (gs_one (gt_for PassesOwn.never rfl (pi_range1 rfl T.range (ga_cons (gv 2) ga_nil)) (it_range1 (fun _ _ _ h => h)) (gg_name (i := 8) sc_law_machine_sized.nd rfl (.inl rfl)) (gs_one (gt_if (gw_pt (gw_and (gt_cmp op_isN r_isN (ge_ix2 (L2.pv 3) (gv 4) (gv 8) (fun _ _ => rfl) (fun _ _ => rfl)) ge_non (nomark _)) (gw_and1 (gt_cmp op_gt r_ib (ge_cal c_law_draw hr (by decide) rfl (ga_cons (gv 0) (ga_cons ge_int ga_nil))) ge_int (nomark _))))) (gs_one (gt_setIx2 (L2.pv 3) (gv 4) (gv 8) (ge_tup (ga_cons (ge_cal c_law_draw hr (by decide) rfl (ga_cons (gv 0) (ga_cons (gv 1) ga_nil))) (ga_cons (ge_cal c_law_fare hr (by decide) rfl (ga_cons (gv 0) ga_nil)) ga_nil))) (fun _ _ => rfl) (hg := fun ho hi => pg_sub ho hi set_list))) gs_nil))))) (gs_cons (gt_setLc (i := 9) (own := [("state", 4)]) rfl sc_law_machine_sized.nd rfl rfl (sw_true rfl rfl rfl (by decide +kernel)) (pi_range1 rfl T.range (ga_cons (gv 1) ga_nil)) (it_range1 (fun _ _ _ h => h)) (blkOk_by (own := [("state", 4)]) (N := ["source", "many", "kinds", "moves", "state", "free", "earlier", "spot", "kind", "ends", "names", "table", "row", "name"]) (sc := defScope (top 22)) (by decide +kernel)) (by decide) (fun _ _ _ _ _ => (gg_name (i := 4) sc_law_machine_sized.nd rfl (.inl rfl))) (fun _ _ _ _ _ => gts_nil) (fun _ _ _ _ _ => (ge_if (gt_cmp (op_eqA (hu64 hr)) r_eq (ge_cal c_law_draw hr (by decide) rfl (ga_cons (gv 0) (ga_cons ge_int ga_nil))) ge_int (nomark _)) (ge_cal c_law_fare hr (by decide) rfl (ga_cons (gv 0) ga_nil)) ge_non))) (gs_cons (gt_if (gt_cmp op_gt r_ib (ge_cal c_law_draw hr (by decide) rfl (ga_cons (gv 0) (ga_cons ge_int ga_nil))) ge_int (nomark _)) (gs_one (gt_setIx (L2.pv 9) (ge_cal c_law_draw hr (by decide) rfl (ga_cons (gv 0) (ga_cons (gv 1) ga_nil))) (ge_cal c_law_fare hr (by decide) rfl (ga_cons (gv 0) ga_nil)) (hg := fun ho hi => pg_sub ho hi set_list))) gs_nil) (gs_cons (gt_set (i := 10) sc_law_machine_sized.nd rfl (.inl rfl) (ge_cal c_law_machine_names hr (by decide) rfl (ga_cons (gv 0) (ga_cons (gv 1) ga_nil)))) (gs_cons (gt_set (i := 11) sc_law_machine_sized.nd rfl (.inl rfl) (ge_callTy call_tuple_of r_tuple rfl T.tuple (by decide +kernel) (ga_cons (ge_lc (own := [("row", 12)]) rfl sc_law_machine_sized.nd (pi_list (gv 3)) (it_list (fun _ _ _ h => h)) (blkOk_by (own := [("row", 12)]) (N := ["source", "many", "kinds", "moves", "state", "free", "earlier", "spot", "kind", "ends", "names", "table", "row", "name"]) (sc := defScope (top 22)) (by decide +kernel)) (by decide) (fun _ _ _ _ _ => (gg_name (i := 12) sc_law_machine_sized.nd rfl (.inl rfl))) (fun _ _ _ _ _ => gts_nil) (fun _ _ _ _ _ => (ge_callTy call_tuple_of r_tuple rfl T.tuple (by decide +kernel) (ga_cons (gv 12) ga_nil)))) ga_nil))) (gs_one (gt_ret (ge_tup (ga_cons (ge_cal c_law_names hr (by decide) rfl (ga_cons (gv 0) (ga_cons (gv 2) ga_nil))) (ga_cons (gv 10) (ga_cons (gv 11) (ga_cons (ge_callTy call_tuple_of r_tuple rfl T.tuple (by decide +kernel) (ga_cons (gv 9) ga_nil)) (ga_cons (ge_cal c_law_fare hr (by decide) rfl (ga_cons (gv 0) ga_nil)) (ga_cons (ge_callTy call_tuple_of r_tuple rfl T.tuple (by decide +kernel) (ga_cons (ge_lc (own := [("name", 13)]) rfl sc_law_machine_sized.nd (pi_tup (gv 10)) (it_tup (fun _ _ _ h => h)) (blkOk_by (own := [("name", 13)]) (N := ["source", "many", "kinds", "moves", "state", "free", "earlier", "spot", "kind", "ends", "names", "table", "row", "name"]) (sc := defScope (top 22)) (by decide +kernel)) (by decide) (fun _ _ _ _ _ => (gg_name (i := 13) sc_law_machine_sized.nd rfl (.inl rfl))) (fun _ _ _ _ _ => gts_nil) (fun _ _ _ _ _ => ge_int)) ga_nil)) ga_nil))))))))))))))))
/-! _law_machine: level 7; slots 0:source 1:many; cells  -/
def g_law_machine : S := (sSeq (sSet 1 (gCall sp_law_some (gCons (gVar 0) (gCons (gTup (gCons (gC (.int 1)) (gCons (gC (.int 2)) (gCons (gC (.int 2)) (gCons (gC (.int 3)) (gCons (gC (.int 3)) (gCons (gC (.int 3)) (gCons (gC (.int 4)) (gCons (gC (.int 4)) (gCons (gC (.int 5)) (gCons (gC (.int 6)) gNil))))))))))) gNil)))) (sRet (gCall sp_law_machine_sized (gCons (gVar 0) (gCons (gVar 1) (gCons (gCall sp_law_some (gCons (gVar 0) (gCons (gTup (gCons (gC (.int 1)) (gCons (gC (.int 1)) (gCons (gC (.int 2)) (gCons (gC (.int 2)) (gCons (gC (.int 3)) gNil)))))) gNil))) gNil))))))
abbrev n_law_machine : List Str := ["source", "many"]
theorem sc_law_machine : FnScope ["source", "many"] ["source"] (defScope (top 23)) := ⟨rfl, rfl, rfl, by decide +kernel, rfl, by decide +kernel, by decide +kernel⟩
theorem hb_law_machine {f : Addr} (c_law_machine_sized : Cal P w K mg base "_law_machine_sized" 6 sp_law_machine_sized) (c_law_some : Cal P w K mg base "_law_some" 3 sp_law_some) : ∀ (cdv : Value) (A : Around) (outer : List Env) (s0 : Shared) (H : Hp) (E : XK), RoomG 6 (A.deeper (envOfC "_law_machine" (defScope (top 23)) s0.heap.objs.size f cdv)) → GSs (cxOf CX0 P w K mg base ["source", "many"] "_law_machine" (defScope (top 23)) f cdv A outer s0 H E).nox E0 (defBody (top 23)) g_law_machine :=
  fun cdv A outer s0 H E hr => (gs_cons (gt_set (i := 1) sc_law_machine.nd rfl (.inl rfl) (ge_cal c_law_some hr (by decide) rfl (ga_cons (gv 0) (ga_cons (ge_tup (ga_cons ge_int (ga_cons ge_int (ga_cons ge_int (ga_cons ge_int (ga_cons ge_int (ga_cons ge_int (ga_cons ge_int (ga_cons ge_int (ga_cons ge_int (ga_cons ge_int ga_nil))))))))))) ga_nil)))) (gs_one (gt_ret (ge_cal c_law_machine_sized hr (by decide) rfl (ga_cons (gv 0) (ga_cons (gv 1) (ga_cons (ge_cal c_law_some hr (by decide) rfl (ga_cons (gv 0) (ga_cons (ge_tup (ga_cons ge_int (ga_cons ge_int (ga_cons ge_int (ga_cons ge_int (ga_cons ge_int ga_nil)))))) ga_nil))) ga_nil)))))))
/-! _law_base: level 1; slots 0:name; cells  -/
def g_law_base : S := (sRet (gOp2 pIx (gM1 pSplit (gVar 0) (gC (.str "@"))) (gC (.int 0))))
abbrev n_law_base : List Str := ["name"]
theorem sc_law_base : FnScope ["name"] ["name"] (defScope (top 24)) := ⟨rfl, rfl, rfl, by decide +kernel, rfl, by decide +kernel, by decide +kernel⟩
theorem hb_law_base {f : Addr} : ∀ (cdv : Value) (A : Around) (outer : List Env) (s0 : Shared) (H : Hp) (E : XK), RoomG 0 (A.deeper (envOfC "_law_base" (defScope (top 24)) s0.heap.objs.size f cdv)) → GSs (cxOf CX0 P w K mg base ["name"] "_law_base" (defScope (top 24)) f cdv A outer s0 H E).nox E0 (defBody (top 24)) g_law_base :=
  fun cdv A outer s0 H E hr => (gs_one (gt_ret (ge_ix (ge_split (gv 0) ge_str) ge_int (fun _ _ => rfl))))
/-! _law_fits: level 2; slots 0:pattern 1:name; cells  -/
def g_law_fits : S := (sSeq (sIf (gTst (gOp2 pEq (gVar 0) (gC (.str "any")))) (sRet (gC (.bool true))) sNext) (sSeq (sIf (gTst (gOp2 pIn (gC (.str "/")) (gVar 0))) (sRet (gOp2 pEq (gCall sp_law_base (gCons (gVar 1) gNil)) (gVar 0))) sNext) (sRet (gOp2 pEq (gOp2 pIx (gM1 pSplit (gCall sp_law_base (gCons (gVar 1) gNil)) (gC (.str "/"))) (gC (.int 0))) (gVar 0)))))
abbrev n_law_fits : List Str := ["pattern", "name"]
theorem sc_law_fits : FnScope ["pattern", "name"] ["pattern", "name"] (defScope (top 25)) := ⟨rfl, rfl, rfl, by decide +kernel, rfl, by decide +kernel, by decide +kernel⟩
theorem hb_law_fits {f : Addr} (c_law_base : Cal P w K mg base "_law_base" 1 sp_law_base) : ∀ (cdv : Value) (A : Around) (outer : List Env) (s0 : Shared) (H : Hp) (E : XK), RoomG 1 (A.deeper (envOfC "_law_fits" (defScope (top 25)) s0.heap.objs.size f cdv)) → GSs (cxOf CX0 P w K mg base ["pattern", "name"] "_law_fits" (defScope (top 25)) f cdv A outer s0 H E).nox E0 (defBody (top 25)) g_law_fits :=
  fun cdv A outer s0 H E hr => (gs_cons (gt_if (gt_cmp (op_eqA (hu64 hr)) r_eq (gv 0) ge_str (nomark _)) (gs_one (gt_ret ge_bl)) gs_nil) (gs_cons (gt_if (gt_cmp (op_inA (hu65 hr)) r_in ge_str (gv 0) (by rfl)) (gs_one (gt_ret (ge_cmp (op_eqA (hu64 hr)) r_eq (ge_cal c_law_base hr (by decide) rfl (ga_cons (gv 1) ga_nil)) (gv 0) (nomark _)))) gs_nil) (gs_one (gt_ret (ge_cmp (op_eqA (hu64 hr)) r_eq (ge_ix (ge_split (ge_cal c_law_base hr (by decide) rfl (ga_cons (gv 1) ga_nil)) ge_str) ge_int (fun _ _ => rfl)) (gv 0) (nomark _))))))
/-! _law_as_much: level 2; slots 0:one 1:other 2:first 3:second 4:less 5:at; cells first second -/
def g_law_as_much : S := (sSeq (sSet 2 (gM1 pSplit (gCall sp_law_base (gCons (gVar 0) gNil)) (gC (.str "/")))) (sSeq (sSet 3 (gM1 pSplit (gCall sp_law_base (gCons (gVar 1) gNil)) (gC (.str "/")))) (sSeq (sIf (gOr (gTst (gOp2 pNe (gOp2 pIx (gVar 2) (gC (.int 0))) (gOp2 pIx (gVar 3) (gC (.int 0))))) (gTst (gOp2 pNe (gCallB pLen (gCons (gVar 2) gNil)) (gCallB pLen (gCons (gVar 3) gNil))))) (sRet (gC (.bool false))) sNext) (sSeq (sSet 4 (gLc (giR2 (gCons (gC (.int 1)) (gCons (gCallB pLen (gCons (gVar 2) gNil)) gNil))) (tName 5) (gTst (gOp2 pLt (gCallB pInt (gCons (gOp2 pIx (gVar 3) (gVar 5)) gNil)) (gCallB pInt (gCons (gOp2 pIx (gVar 2) (gVar 5)) gNil)))) (gVar 5) [5])) (sRet (gNotV (gVar 4)))))))
abbrev n_law_as_much : List Str := ["one", "other", "first", "second", "less", "at"]
theorem sc_law_as_much : FnScope ["one", "other", "first", "second", "less", "at"] ["one", "other"] (defScope (top 26)) := ⟨rfl, rfl, rfl, by decide +kernel, rfl, by decide +kernel, by decide +kernel⟩
theorem hb_law_as_much {f : Addr} (T : Tx mg) (c_law_base : Cal P w K mg base "_law_base" 1 sp_law_base) : ∀ (cdv : Value) (A : Around) (outer : List Env) (s0 : Shared) (H : Hp) (E : XK), RoomG 1 (A.deeper (envOfC "_law_as_much" (defScope (top 26)) s0.heap.objs.size f cdv)) → GSs (cxOf CX0 P w K mg base ["one", "other", "first", "second", "less", "at"] "_law_as_much" (defScope (top 26)) f cdv A outer s0 H E).nox E0 (defBody (top 26)) g_law_as_much :=
  fun cdv A outer s0 H E hr => (gs_cons (gt_set (i := 2) sc_law_as_much.nd rfl (.inr rfl) (ge_split (ge_cal c_law_base hr (by decide) rfl (ga_cons (gv 0) ga_nil)) ge_str)) (gs_cons (gt_set (i := 3) sc_law_as_much.nd rfl (.inr rfl) (ge_split (ge_cal c_law_base hr (by decide) rfl (ga_cons (gv 1) ga_nil)) ge_str)) (gs_cons (gt_if (gw_pt (gw_or (gt_cmp (op_neA (hu64 hr)) r_ne (ge_ix (gv 2) ge_int (fun _ _ => rfl)) (ge_ix (gv 3) ge_int (fun _ _ => rfl)) (nomark _)) (gw_or1 (gt_cmp (op_neA (hu64 hr)) r_ne (ge_callB call_len r_len rfl T.len (by decide +kernel) (ga_cons (gv 2) ga_nil)) (ge_callB call_len r_len rfl T.len (by decide +kernel) (ga_cons (gv 3) ga_nil)) (nomark _))))) (gs_one (gt_ret ge_bl)) gs_nil) (gs_cons (gt_setLc (i := 4) (own := [("at", 5)]) rfl sc_law_as_much.nd rfl rfl (sw_true rfl rfl rfl (by decide +kernel)) (pi_range2 rfl T.range (ga_cons ge_int (ga_cons (ge_callB call_len r_len rfl T.len (by decide +kernel) (ga_cons (gv 2) ga_nil)) ga_nil))) (it_range2 (fun _ _ _ h => h)) (blkOk_by (own := [("at", 5)]) (N := ["one", "other", "first", "second", "less", "at"]) (sc := defScope (top 26)) (by decide +kernel)) (by decide) (fun _ _ _ _ _ => (gg_name (i := 5) sc_law_as_much.nd rfl (.inl rfl))) (fun _ _ _ _ _ => (gts_one (gt_cmp op_lt r_ib (ge_callTy call_intA r_int rfl T.int (by decide +kernel) (ga_cons (ge_ix (gv 3) (gv 5) (fun _ _ => rfl)) ga_nil)) (ge_callTy call_intA r_int rfl T.int (by decide +kernel) (ga_cons (ge_ix (gv 2) (gv 5) (fun _ _ => rfl)) ga_nil)) (nomark _)))) (fun _ _ _ _ _ => (gv 5))) (gs_one (gt_ret (ge_not (gv 4))))))))
/-! _law_has_pair: level 3; slots 0:machine 1:goes 2:stays 3:s 4:t; cells  -/
def g_law_has_pair : S := (sSeq (sIf (gOr (gTst (gOp2 pNe (gOp2 pIx (gOp2 pIx (gVar 0) (gC (.int 5))) (gVar 3)) (gOp2 pIx (gOp2 pIx (gVar 0) (gC (.int 5))) (gVar 4)))) (gNot (gTst (gCall sp_law_fits (gCons (gVar 1) (gCons (gOp2 pIx (gOp2 pIx (gVar 0) (gC (.int 1))) (gVar 3)) gNil)))))) (sRet (gC (.bool false))) sNext) (sSeq (sIf (gTst (gOp2 pEq (gVar 2) (gC (.str "same")))) (sRet (gOp2 pEq (gVar 3) (gVar 4))) sNext) (sSeq (sIf (gTst (gOp2 pEq (gVar 2) (gC (.str "more")))) (sRet (gCall sp_law_as_much (gCons (gOp2 pIx (gOp2 pIx (gVar 0) (gC (.int 1))) (gVar 3)) (gCons (gOp2 pIx (gOp2 pIx (gVar 0) (gC (.int 1))) (gVar 4)) gNil)))) sNext) (sRet (gCall sp_law_fits (gCons (gVar 2) (gCons (gOp2 pIx (gOp2 pIx (gVar 0) (gC (.int 1))) (gVar 4)) gNil)))))))
abbrev n_law_has_pair : List Str := ["machine", "goes", "stays", "s", "t"]
theorem sc_law_has_pair : FnScope ["machine", "goes", "stays", "s", "t"] ["machine", "goes", "stays", "s", "t"] (defScope (top 27)) := ⟨rfl, rfl, rfl, by decide +kernel, rfl, by decide +kernel, by decide +kernel⟩
theorem hb_law_has_pair {f : Addr} (c_law_fits : Cal P w K mg base "_law_fits" 2 sp_law_fits) (c_law_as_much : Cal P w K mg base "_law_as_much" 2 sp_law_as_much) : ∀ (cdv : Value) (A : Around) (outer : List Env) (s0 : Shared) (H : Hp) (E : XK), RoomG 2 (A.deeper (envOfC "_law_has_pair" (defScope (top 27)) s0.heap.objs.size f cdv)) → GSs (cxOf CX0 P w K mg base ["machine", "goes", "stays", "s", "t"] "_law_has_pair" (defScope (top 27)) f cdv A outer s0 H E).nox E0 (defBody (top 27)) g_law_has_pair :=
  fun cdv A outer s0 H E hr => (gs_cons (gt_if (gw_pt (gw_or (gt_cmp (op_neA (hu64 hr)) r_ne (ge_ix (ge_ix (gv 0) ge_int (fun _ _ => rfl)) (gv 3) (fun _ _ => rfl)) (ge_ix (ge_ix (gv 0) ge_int (fun _ _ => rfl)) (gv 4) (fun _ _ => rfl)) (nomark _)) (gw_or1 (gt_not (gt_val (ge_cal c_law_fits hr (by decide) rfl (ga_cons (gv 1) (ga_cons (ge_ix (ge_ix (gv 0) ge_int (fun _ _ => rfl)) (gv 3) (fun _ _ => rfl)) ga_nil)))))))) (gs_one (gt_ret ge_bl)) gs_nil) (gs_cons (gt_if (gt_cmp (op_eqA (hu64 hr)) r_eq (gv 2) ge_str (nomark _)) (gs_one (gt_ret (ge_cmp (op_eqA (hu64 hr)) r_eq (gv 3) (gv 4) (nomark _)))) gs_nil) (gs_cons (gt_if (gt_cmp (op_eqA (hu64 hr)) r_eq (gv 2) ge_str (nomark _)) (gs_one (gt_ret (ge_cal c_law_as_much hr (by decide) rfl (ga_cons (ge_ix (ge_ix (gv 0) ge_int (fun _ _ => rfl)) (gv 3) (fun _ _ => rfl)) (ga_cons (ge_ix (ge_ix (gv 0) ge_int (fun _ _ => rfl)) (gv 4) (fun _ _ => rfl)) ga_nil))))) gs_nil) (gs_one (gt_ret (ge_cal c_law_fits hr (by decide) rfl (ga_cons (gv 2) (ga_cons (ge_ix (ge_ix (gv 0) ge_int (fun _ _ => rfl)) (gv 4) (fun _ _ => rfl)) ga_nil))))))))
/-! _law_pairs: level 4; slots 0:machine 1:goes 2:stays 3:pairs 4:s 5:t; cells goes machine s stays -/
def b_law_pairs_0 : S := (sSet 3 (gOp2 pAdd (gVar 3) (gLc (giR1 (gCons (gCallB pLen (gCons (gOp2 pIx (gVar 0) (gC (.int 1))) gNil)) gNil)) (tName 5) (gTst (gCall sp_law_has_pair (gCons (gVar 0) (gCons (gVar 1) (gCons (gVar 2) (gCons (gVar 4) (gCons (gVar 5) gNil))))))) (gTup (gCons (gVar 4) (gCons (gVar 5) gNil))) [5])))
def g_law_pairs : S := (sSeq (sSet 3 (gLst gNil)) (sSeq (sFor (giR1 (gCons (gCallB pLen (gCons (gOp2 pIx (gVar 0) (gC (.int 1))) gNil)) gNil)) (tName 4) b_law_pairs_0) (sRet (gVar 3))))
abbrev n_law_pairs : List Str := ["machine", "goes", "stays", "pairs", "s", "t"]
theorem sc_law_pairs : FnScope ["machine", "goes", "stays", "pairs", "s", "t"] ["machine", "goes", "stays"] (defScope (top 28)) := ⟨rfl, rfl, rfl, by decide +kernel, rfl, by decide +kernel, by decide +kernel⟩
theorem hb_law_pairs {f : Addr} (T : Tx mg) (c_law_has_pair : Cal P w K mg base "_law_has_pair" 3 sp_law_has_pair) : ∀ (cdv : Value) (A : Around) (outer : List Env) (s0 : Shared) (H : Hp) (E : XK), RoomG 3 (A.deeper (envOfC "_law_pairs" (defScope (top 28)) s0.heap.objs.size f cdv)) → GSs (cxOf CX0 P w K mg base ["machine", "goes", "stays", "pairs", "s", "t"] "_law_pairs" (defScope (top 28)) f cdv A outer s0 H E).nox E0 (defBody (top 28)) g_law_pairs :=
  fun cdv A outer s0 H E hr => (gs_cons (gt_set (i := 3) sc_law_pairs.nd rfl (.inl rfl) (ge_lst ga_nil)) (gs_cons (gt_for PassesOwn.never rfl (pi_range1 rfl T.range (ga_cons (ge_callB call_len r_len rfl T.len (by decide +kernel) (ga_cons (ge_ix (gv 0) ge_int (fun _ _ => rfl)) ga_nil)) ga_nil)) (it_range1 (fun _ _ _ h => h)) (gg_name (i := 4) sc_law_pairs.nd rfl (.inr rfl)) (gs_one (gt_set (i := 3) sc_law_pairs.nd rfl (.inl rfl) (ge_op op_addA r_add (gv 3) (ge_lc (own := [("t", 5)]) rfl sc_law_pairs.nd (pi_range1 rfl T.range (ga_cons (ge_callB call_len r_len rfl T.len (by decide +kernel) (ga_cons (ge_ix (gv 0) ge_int (fun _ _ => rfl)) ga_nil)) ga_nil)) (it_range1 (fun _ _ _ h => h)) (blkOk_by (own := [("t", 5)]) (N := ["machine", "goes", "stays", "pairs", "s", "t"]) (sc := defScope (top 28)) (by decide +kernel)) (by decide) (fun _ _ _ _ _ => (gg_name (i := 5) sc_law_pairs.nd rfl (.inl rfl))) (fun _ _ _ _ _ => (gts_one (gt_val (ge_cal c_law_has_pair hr (by decide) rfl (ga_cons (gv 0) (ga_cons (gv 1) (ga_cons (gv 2) (ga_cons (gv 4) (ga_cons (gv 5) ga_nil))))))))) (fun _ _ _ _ _ => (ge_tup (ga_cons (gv 4) (ga_cons (gv 5) ga_nil))))))))) (gs_one (gt_ret (gv 3)))))
/-! _law_pattern: level 4; slots 0:source 1:machine 2:name; cells  -/
def g_law_pattern : S := (sSeq (sSet 2 (gCall sp_law_base (gCons (gCall sp_law_some (gCons (gVar 0) (gCons (gOp2 pIx (gVar 1) (gC (.int 1))) gNil))) gNil))) (sRet (gCall sp_law_some (gCons (gVar 0) (gCons (gTup (gCons (gC (.str "any")) (gCons (gVar 2) (gCons (gVar 2) (gCons (gOp2 pIx (gM1 pSplit (gVar 2) (gC (.str "/"))) (gC (.int 0))) gNil))))) gNil)))))
abbrev n_law_pattern : List Str := ["source", "machine", "name"]
theorem sc_law_pattern : FnScope ["source", "machine", "name"] ["source", "machine"] (defScope (top 29)) := ⟨rfl, rfl, rfl, by decide +kernel, rfl, by decide +kernel, by decide +kernel⟩
theorem hb_law_pattern {f : Addr} (c_law_some : Cal P w K mg base "_law_some" 3 sp_law_some) (c_law_base : Cal P w K mg base "_law_base" 1 sp_law_base) : ∀ (cdv : Value) (A : Around) (outer : List Env) (s0 : Shared) (H : Hp) (E : XK), RoomG 3 (A.deeper (envOfC "_law_pattern" (defScope (top 29)) s0.heap.objs.size f cdv)) → GSs (cxOf CX0 P w K mg base ["source", "machine", "name"] "_law_pattern" (defScope (top 29)) f cdv A outer s0 H E).nox E0 (defBody (top 29)) g_law_pattern :=
  fun cdv A outer s0 H E hr => (gs_cons (gt_set (i := 2) sc_law_pattern.nd rfl (.inl rfl) (ge_cal c_law_base hr (by decide) rfl (ga_cons (ge_cal c_law_some hr (by decide) rfl (ga_cons (gv 0) (ga_cons (ge_ix (gv 1) ge_int (fun _ _ => rfl)) ga_nil))) ga_nil))) (gs_one (gt_ret (ge_cal c_law_some hr (by decide) rfl (ga_cons (gv 0) (ga_cons (ge_tup (ga_cons ge_str (ga_cons (gv 2) (ga_cons (gv 2) (ga_cons (ge_ix (ge_split (gv 2) ge_str) ge_int (fun _ _ => rfl)) ga_nil))))) ga_nil))))))
/-! _law_lead: level 4; slots 0:source; cells  -/
def g_law_lead : S := (sSeq (sIf (gTst (gOp2 pEq (gCall sp_law_draw (gCons (gVar 0) (gCons (gC (.int 12)) gNil))) (gC (.int 0)))) (sRet (gCall sp_law_some (gCons (gVar 0) (gCons (gTup (gCons (gUn (fun i => -i) (gC (.int 999))) (gCons (gC (.int 999)) (gCons (gUn (fun i => -i) (gC (.int 60))) (gCons (gC (.int 60)) (gCons (gC (.int 25)) (gCons (gUn (fun i => -i) (gC (.int 25))) gNil))))))) gNil)))) sNext) (sRet (gCall sp_law_some (gCons (gVar 0) (gCons (gTup (gCons (gC (.int 0)) (gCons (gC (.int 0)) (gCons (gC (.int 0)) (gCons (gC (.int 1)) (gCons (gC (.int 1)) (gCons (gC (.int 2)) (gCons (gC (.int 3)) (gCons (gC (.int 4)) (gCons (gC (.int 5)) (gCons (gC (.int 8)) (gCons (gC (.int 12)) (gCons (gUn (fun i => -i) (gC (.int 1))) (gCons (gUn (fun i => -i) (gC (.int 2))) (gCons (gUn (fun i => -i) (gC (.int 4))) gNil))))))))))))))) gNil)))))
abbrev n_law_lead : List Str := ["source"]
theorem sc_law_lead : FnScope ["source"] ["source"] (defScope (top 30)) := ⟨rfl, rfl, rfl, by decide +kernel, rfl, by decide +kernel, by decide +kernel⟩
theorem hb_law_lead {f : Addr} (c_law_some : Cal P w K mg base "_law_some" 3 sp_law_some) (c_law_draw : Cal P w K mg base "_law_draw" 2 sp_law_draw) : ∀ (cdv : Value) (A : Around) (outer : List Env) (s0 : Shared) (H : Hp) (E : XK), RoomG 3 (A.deeper (envOfC "_law_lead" (defScope (top 30)) s0.heap.objs.size f cdv)) → GSs (cxOf CX0 P w K mg base ["source"] "_law_lead" (defScope (top 30)) f cdv A outer s0 H E).nox E0 (defBody (top 30)) g_law_lead :=
  fun cdv A outer s0 H E hr => (gs_cons (gt_if (gt_cmp (op_eqA (hu64 hr)) r_eq (ge_cal c_law_draw hr (by decide) rfl (ga_cons (gv 0) (ga_cons ge_int ga_nil))) ge_int (nomark _)) (gs_one (gt_ret (ge_cal c_law_some hr (by decide) rfl (ga_cons (gv 0) (ga_cons (ge_tup (ga_cons (ge_neg ge_int) (ga_cons ge_int (ga_cons (ge_neg ge_int) (ga_cons ge_int (ga_cons ge_int (ga_cons (ge_neg ge_int) ga_nil))))))) ga_nil))))) gs_nil) (gs_one (gt_ret (ge_cal c_law_some hr (by decide) rfl (ga_cons (gv 0) (ga_cons (ge_tup (ga_cons ge_int (ga_cons ge_int (ga_cons ge_int (ga_cons ge_int (ga_cons ge_int (ga_cons ge_int (ga_cons ge_int (ga_cons ge_int (ga_cons ge_int (ga_cons ge_int (ga_cons ge_int (ga_cons (ge_neg ge_int) (ga_cons (ge_neg ge_int) (ga_cons (ge_neg ge_int) ga_nil))))))))))))))) ga_nil))))))
/-! _law_offer: level 5; slots 0:source 1:machine 2:rows 3:k 4:goes 5:stays; cells  -/
def b_law_offer_0 : S := (sSeq (sSet 4 (gCall sp_law_pattern (gCons (gVar 0) (gCons (gVar 1) gNil)))) (sSeq (sSet 5 (gCall sp_law_some (gCons (gVar 0) (gCons (gTup (gCons (gC (.str "same")) (gCons (gC (.str "more")) (gCons (gC (.str "more")) (gCons (gC (.str "any")) (gCons (gCall sp_law_pattern (gCons (gVar 0) (gCons (gVar 1) gNil))) gNil)))))) gNil)))) (sExpr (gApp 2 (gCons (gTup (gCons (gVar 4) (gCons (gVar 5) (gCons (gCall sp_law_lead (gCons (gVar 0) gNil)) (gCons (gOp2 pEq (gCall sp_law_draw (gCons (gVar 0) (gCons (gC (.int 3)) gNil))) (gC (.int 0))) gNil))))) gNil)))))
def g_law_offer : S := (sSeq (sSet 2 (gLst gNil)) (sSeq (sFor (giR1 (gCons (gCall sp_law_some (gCons (gVar 0) (gCons (gTup (gCons (gC (.int 0)) (gCons (gC (.int 1)) (gCons (gC (.int 1)) (gCons (gC (.int 2)) (gCons (gC (.int 2)) (gCons (gC (.int 3)) (gCons (gC (.int 4)) (gCons (gC (.int 12)) gNil))))))))) gNil))) gNil)) (tName 3) b_law_offer_0) (sRet (gCallB pTuple (gCons (gVar 2) gNil)))))
abbrev n_law_offer : List Str := ["source", "machine", "rows", "k", "goes", "stays"]
theorem sc_law_offer : FnScope ["source", "machine", "rows", "k", "goes", "stays"] ["source", "machine"] (defScope (top 31)) := ⟨rfl, rfl, rfl, by decide +kernel, rfl, by decide +kernel, by decide +kernel⟩
theorem hb_law_offer {f : Addr} (T : Tx mg) (c_law_some : Cal P w K mg base "_law_some" 3 sp_law_some) (c_law_draw : Cal P w K mg base "_law_draw" 2 sp_law_draw) (c_law_lead : Cal P w K mg base "_law_lead" 4 sp_law_lead) (c_law_pattern : Cal P w K mg base "_law_pattern" 4 sp_law_pattern) : ∀ (cdv : Value) (A : Around) (outer : List Env) (s0 : Shared) (H : Hp) (E : XK), RoomG 4 (A.deeper (envOfC "_law_offer" (defScope (top 31)) s0.heap.objs.size f cdv)) → GSs (cxOf CX0 P w K mg base ["source", "machine", "rows", "k", "goes", "stays"] "_law_offer" (defScope (top 31)) f cdv A outer s0 H E).nox E0 (defBody (top 31)) g_law_offer :=
  fun cdv A outer s0 H E hr => (gs_cons (gt_set (i := 2) sc_law_offer.nd rfl (.inl rfl) (ge_lst ga_nil)) (gs_cons (gt_for PassesOwn.never rfl (pi_range1 rfl T.range (ga_cons (ge_cal c_law_some hr (by decide) rfl (ga_cons (gv 0) (ga_cons (ge_tup (ga_cons ge_int (ga_cons ge_int (ga_cons ge_int (ga_cons ge_int (ga_cons ge_int (ga_cons ge_int (ga_cons ge_int (ga_cons ge_int ga_nil))))))))) ga_nil))) ga_nil)) (it_range1 (fun _ _ _ h => h)) (gg_name (i := 3) sc_law_offer.nd rfl (.inl rfl)) (gs_cons (gt_set (i := 4) sc_law_offer.nd rfl (.inl rfl) (ge_cal c_law_pattern hr (by decide) rfl (ga_cons (gv 0) (ga_cons (gv 1) ga_nil)))) (gs_cons (gt_set (i := 5) sc_law_offer.nd rfl (.inl rfl) (ge_cal c_law_some hr (by decide) rfl (ga_cons (gv 0) (ga_cons (ge_tup (ga_cons ge_str (ga_cons ge_str (ga_cons ge_str (ga_cons ge_str (ga_cons (ge_cal c_law_pattern hr (by decide) rfl (ga_cons (gv 0) (ga_cons (gv 1) ga_nil))) ga_nil)))))) ga_nil)))) (gs_one (gt_expr (ge_app (L2.pv 2) (ga_cons (ge_tup (ga_cons (gv 4) (ga_cons (gv 5) (ga_cons (ge_cal c_law_lead hr (by decide) rfl (ga_cons (gv 0) ga_nil)) (ga_cons (ge_cmp (op_eqA (hu64 hr)) r_eq (ge_cal c_law_draw hr (by decide) rfl (ga_cons (gv 0) (ga_cons ge_int ga_nil))) ge_int (nomark _)) ga_nil))))) ga_nil) (fun ho ha => pe_bm PySem.F.plainAttrs_list PySem.F.slot_list_append PySem.F.type_list_append mt_append ho ha))))))) (gs_one (gt_ret (ge_callTy call_tuple_of r_tuple rfl T.tuple (by decide +kernel) (ga_cons (gv 2) ga_nil))))))
/-! _law_labelled: level 3; slots 0:source 1:machine 2:labels 3:kinds 4:names 5:moves 6:ends 7:entry 8:places 9:order 10:rows 11:steps 12:turn 13:row 14:kind 15:move 16:label 17:told 18:fees 19:state; cells ends kinds labels names source -/
def b_law_labelled_0 : S := (sSeq (sSet 15 (gOp2 pIx (gOp2 pIx (gVar 5) (gOp2 pIx (gOp2 pIx (gVar 9) (gVar 12)) (gC (.int 0)))) (gVar 14))) (sSeq (sSet 16 (gOp2 pIx (gOp2 pIx (gVar 11) (gOp2 pIx (gOp2 pIx (gVar 9) (gVar 12)) (gC (.int 1)))) (gVar 14))) (sSeq (sIf (gAnd (gTst (gOp2 pIsNotN (gVar 15) (gC .none))) (gTst (gOp2 pNotIn (gTup (gCons (gOp2 pIx (gVar 15) (gC (.int 0))) (gCons (gVar 16) gNil))) (gVar 9)))) (sExpr (gApp 9 (gCons (gTup (gCons (gOp2 pIx (gVar 15) (gC (.int 0))) (gCons (gVar 16) gNil))) gNil))) sNext) (sExpr (gApp 13 (gCons (gIf (gTst (gOp2 pIsN (gVar 15) (gC .none))) (gC .none) (gTup (gCons (gIndex (gVar 9) (gTup (gCons (gOp2 pIx (gVar 15) (gC (.int 0))) (gCons (gVar 16) gNil)))) (gCons (gOp2 pIx (gVar 15) (gC (.int 1))) gNil)))) gNil))))))
def b_law_labelled_1 : S := (sSeq (sIf (gTst (gOp2 pGe (gVar 12) (gCallB pLen (gCons (gVar 9) gNil)))) sBreak sNext) (sSeq (sSet 13 (gLst gNil)) (sSeq (sFor (giR1 (gCons (gCallB pLen (gCons (gVar 3) gNil)) gNil)) (tName 14) b_law_labelled_0) (sExpr (gApp 10 (gCons (gCallB pTuple (gCons (gVar 13) gNil)) gNil))))))
def g_law_labelled : S := (sSeq (sUnp (tTuple (tgCons (tName 3) (tgCons (tName 4) (tgCons (tName 5) (tgCons (tName 6) (tgCons (tName 7) (tgCons (tName 8) tgNil)))))) 6) (gVar 1)) (sSeq (sSet 9 (gLst (gCons (gTup (gCons (gC (.int 0)) (gCons (gC (.int 0)) gNil))) gNil))) (sSeq (sSet 10 (gLst gNil)) (sSeq (sSet 11 (gLc (giR1 (gCons (gVar 2) gNil)) (tName 16) gYes (gLc (giT (gVar 3)) (tName 14) gYes (gCall sp_law_draw (gCons (gVar 0) (gCons (gVar 2) gNil))) [14]) [16])) (sSeq (sFor (giR1 (gCons (gC (.int 12)) gNil)) (tName 12) b_law_labelled_1) (sSeq (sSet 17 (gCallB pTuple (gCons (gLc (giL (gVar 9)) (tTuple (tgCons (tName 19) (tgCons (tName 16) tgNil)) 2) gYes (gOp2 pAdd (gOp2 pAdd (gOp2 pIx (gVar 4) (gVar 19)) (gC (.str "@"))) (gOp2 pIx (gTup (gCons (gC (.str "x")) (gCons (gC (.str "y")) (gCons (gC (.str "z")) gNil)))) (gVar 16))) [19, 16]) gNil))) (sSeq (sSet 18 (gCallB pTuple (gCons (gLc (giL (gVar 9)) (tTuple (tgCons (tName 19) (tgCons (tName 16) tgNil)) 2) gYes (gOp2 pIx (gVar 6) (gVar 19)) [19, 16]) gNil))) (sRet (gTup (gCons (gVar 3) (gCons (gVar 17) (gCons (gCallB pTuple (gCons (gVar 10) gNil)) (gCons (gVar 18) (gCons (gVar 7) (gCons (gCallB pTuple (gCons (gLc (giL (gVar 9)) (tTuple (tgCons (tName 19) (tgCons (tName 16) tgNil)) 2) gYes (gVar 16) [19, 16]) gNil)) gNil)))))))))))))))
abbrev n_law_labelled : List Str := ["source", "machine", "labels", "kinds", "names", "moves", "ends", "entry", "places", "order", "rows", "steps", "turn", "row", "kind", "move", "label", "told", "fees", "state"]
theorem sc_law_labelled : FnScope ["source", "machine", "labels", "kinds", "names", "moves", "ends", "entry", "places", "order", "rows", "steps", "turn", "row", "kind", "move", "label", "told", "fees", "state"] ["source", "machine", "labels"] (defScope (top 32)) := ⟨rfl, rfl, rfl, by decide +kernel, rfl, by decide +kernel, by decide +kernel⟩
theorem hb_law_labelled {f : Addr} (T : Tx mg) (c_law_draw : Cal P w K mg base "_law_draw" 2 sp_law_draw) : ∀ (cdv : Value) (A : Around) (outer : List Env) (s0 : Shared) (H : Hp) (E : XK), RoomG 2 (A.deeper (envOfC "_law_labelled" (defScope (top 32)) s0.heap.objs.size f cdv)) → GSs (cxOf CX0 P w K mg base ["source", "machine", "labels", "kinds", "names", "moves", "ends", "entry", "places", "order", "rows", "steps", "turn", "row", "kind", "move", "label", "told", "fees", "state"] "_law_labelled" (defScope (top 32)) f cdv A outer s0 H E).nox E0 (defBody (top 32)) g_law_labelled :=
  fun cdv A outer s0 H E hr => (gs_cons (gt_unp (gv 1) (gg_tup rfl (gg_cons (gg_name (i := 3) sc_law_labelled.nd rfl (.inr rfl)) (gg_cons (gg_name (i := 4) sc_law_labelled.nd rfl (.inr rfl)) (gg_cons (gg_name (i := 5) sc_law_labelled.nd rfl (.inl rfl)) (gg_cons (gg_name (i := 6) sc_law_labelled.nd rfl (.inr rfl)) (gg_cons (gg_name (i := 7) sc_law_labelled.nd rfl (.inl rfl)) (gg_cons (gg_name (i := 8) sc_law_labelled.nd rfl (.inl rfl)) gg_nil)))))))) (gs_cons (gt_set (i := 9) sc_law_labelled.nd rfl (.inl rfl) (ge_lst (ga_cons (ge_tup (ga_cons ge_int (ga_cons ge_int ga_nil))) ga_nil))) (gs_cons (gt_set (i := 10) sc_law_labelled.nd rfl (.inl rfl) (ge_lst ga_nil)) (gs_cons (gt_setLc (i := 11) (own := [("label", 16)]) rfl sc_law_labelled.nd rfl rfl (sw_true rfl rfl rfl (by decide +kernel)) (pi_range1 rfl T.range (ga_cons (gv 2) ga_nil)) (it_range1 (fun _ _ _ h => h)) (blkOk_by (own := [("label", 16)]) (N := ["source", "machine", "labels", "kinds", "names", "moves", "ends", "entry", "places", "order", "rows", "steps", "turn", "row", "kind", "move", "label", "told", "fees", "state"]) (sc := defScope (top 32)) (by decide +kernel)) (by decide) (fun _ _ _ _ _ => (gg_name (i := 16) sc_law_labelled.nd rfl (.inl rfl))) (fun _ _ _ _ _ => gts_nil) (fun _ _ _ _ _ => (ge_lc (own := [("kind", 14)]) rfl sc_law_labelled.nd (pi_tup (gv 3)) (it_tup (fun _ _ _ h => h)) (blkOk_by (own := [("kind", 14)]) (by rfl)) (by decide) (fun _ _ _ _ _ => (gg_name (i := 14) sc_law_labelled.nd rfl (.inl rfl))) (fun _ _ _ _ _ => gts_nil) (fun _ _ _ _ _ => (ge_cal c_law_draw hr (by decide) rfl (ga_cons (gv 0) (ga_cons (gv 2) ga_nil))))))) (gs_cons (gt_for PassesOwn.never rfl (pi_range1 rfl T.range (ga_cons ge_int ga_nil)) (it_range1 (fun _ _ _ h => h)) (gg_name (i := 12) sc_law_labelled.nd rfl (.inl rfl)) (gs_cons (gt_if (gt_cmp op_ge r_ib (gv 12) (ge_callB call_len r_len rfl T.len (by decide +kernel) (ga_cons (gv 9) ga_nil)) (nomark _)) (gs_one gt_break) gs_nil) (gs_cons (gt_set (i := 13) sc_law_labelled.nd rfl (.inl rfl) (ge_lst ga_nil)) (gs_cons (gt_for PassesOwn.never rfl (pi_range1 rfl T.range (ga_cons (ge_callB call_len r_len rfl T.len (by decide +kernel) (ga_cons (gv 3) ga_nil)) ga_nil)) (it_range1 (fun _ _ _ h => h)) (gg_name (i := 14) sc_law_labelled.nd rfl (.inl rfl)) (gs_cons (gt_set (i := 15) sc_law_labelled.nd rfl (.inl rfl) (ge_ix (ge_ix (gv 5) (ge_ix (ge_ix (gv 9) (gv 12) (fun _ _ => rfl)) ge_int (fun _ _ => rfl)) (fun _ _ => rfl)) (gv 14) (fun _ _ => rfl))) (gs_cons (gt_set (i := 16) sc_law_labelled.nd rfl (.inl rfl) (ge_ix (ge_ix (gv 11) (ge_ix (ge_ix (gv 9) (gv 12) (fun _ _ => rfl)) ge_int (fun _ _ => rfl)) (fun _ _ => rfl)) (gv 14) (fun _ _ => rfl))) (gs_cons (gt_if (gw_pt (gw_and (gt_cmp op_notN r_isNotN (gv 15) ge_non (nomark _)) (gw_and1 (gt_cmp (op_notInA (hu65 hr)) r_notIn (ge_tup (ga_cons (ge_ix (gv 15) ge_int (fun _ _ => rfl)) (ga_cons (gv 16) ga_nil))) (gv 9) (by rfl))))) (gs_one (gt_expr (ge_app (L2.pv 9) (ga_cons (ge_tup (ga_cons (ge_ix (gv 15) ge_int (fun _ _ => rfl)) (ga_cons (gv 16) ga_nil))) ga_nil) (fun ho ha => pe_bm PySem.F.plainAttrs_list PySem.F.slot_list_append PySem.F.type_list_append mt_append ho ha)))) gs_nil) (gs_one (gt_expr (ge_app (L2.pv 13) (ga_cons (ge_if (gt_cmp op_isN r_isN (gv 15) ge_non (nomark _)) ge_non (ge_tup (ga_cons (ge_index (gv 9) (ge_tup (ga_cons (ge_ix (gv 15) ge_int (fun _ _ => rfl)) (ga_cons (gv 16) ga_nil))) rfl (fun ho ha => pe_bm PySem.F.plainAttrs_list PySem.F.slot_list_index PySem.F.type_list_index (mt_indexD (hu65 hr)) ho ha)) (ga_cons (ge_ix (gv 15) ge_int (fun _ _ => rfl)) ga_nil)))) ga_nil) (fun ho ha => pe_bm PySem.F.plainAttrs_list PySem.F.slot_list_append PySem.F.type_list_append mt_append ho ha)))))))) (gs_one (gt_expr (ge_app (L2.pv 10) (ga_cons (ge_callTy call_tuple_of r_tuple rfl T.tuple (by decide +kernel) (ga_cons (gv 13) ga_nil)) ga_nil) (fun ho ha => pe_bm PySem.F.plainAttrs_list PySem.F.slot_list_append PySem.F.type_list_append mt_append ho ha)))))))) (gs_cons (gt_set (i := 17) sc_law_labelled.nd rfl (.inl rfl) (ge_callTy call_tuple_of r_tuple rfl T.tuple (by decide +kernel) (ga_cons (ge_lc (own := [("state", 19), ("label", 16)]) rfl sc_law_labelled.nd (pi_list (gv 9)) (it_list (fun _ _ _ h => h)) (blkOk_by (own := [("state", 19), ("label", 16)]) (N := ["source", "machine", "labels", "kinds", "names", "moves", "ends", "entry", "places", "order", "rows", "steps", "turn", "row", "kind", "move", "label", "told", "fees", "state"]) (sc := defScope (top 32)) (by decide +kernel)) (by decide) (fun _ _ _ _ _ => (gg_tup rfl (gg_cons (gg_name (i := 19) sc_law_labelled.nd rfl (.inl rfl)) (gg_cons (gg_name (i := 16) sc_law_labelled.nd rfl (.inl rfl)) gg_nil)))) (fun _ _ _ _ _ => gts_nil) (fun _ _ _ _ _ => (ge_op op_addA r_add (ge_op op_addA r_add (ge_ix (gv 4) (gv 19) (fun _ _ => rfl)) ge_str) (ge_ix (ge_tup (ga_cons ge_str (ga_cons ge_str (ga_cons ge_str ga_nil)))) (gv 16) (fun _ _ => rfl))))) ga_nil))) (gs_cons (gt_set (i := 18) sc_law_labelled.nd rfl (.inl rfl) (ge_callTy call_tuple_of r_tuple rfl T.tuple (by decide +kernel) (ga_cons (ge_lc (own := [("state", 19), ("label", 16)]) rfl sc_law_labelled.nd (pi_list (gv 9)) (it_list (fun _ _ _ h => h)) (blkOk_by (own := [("state", 19), ("label", 16)]) (N := ["source", "machine", "labels", "kinds", "names", "moves", "ends", "entry", "places", "order", "rows", "steps", "turn", "row", "kind", "move", "label", "told", "fees", "state"]) (sc := defScope (top 32)) (by decide +kernel)) (by decide) (fun _ _ _ _ _ => (gg_tup rfl (gg_cons (gg_name (i := 19) sc_law_labelled.nd rfl (.inl rfl)) (gg_cons (gg_name (i := 16) sc_law_labelled.nd rfl (.inl rfl)) gg_nil)))) (fun _ _ _ _ _ => gts_nil) (fun _ _ _ _ _ => (ge_ix (gv 6) (gv 19) (fun _ _ => rfl)))) ga_nil))) (gs_one (gt_ret (ge_tup (ga_cons (gv 3) (ga_cons (gv 17) (ga_cons (ge_callTy call_tuple_of r_tuple rfl T.tuple (by decide +kernel) (ga_cons (gv 10) ga_nil)) (ga_cons (gv 18) (ga_cons (gv 7) (ga_cons (ge_callTy call_tuple_of r_tuple rfl T.tuple (by decide +kernel) (ga_cons (ge_lc (own := [("state", 19), ("label", 16)]) rfl sc_law_labelled.nd (pi_list (gv 9)) (it_list (fun _ _ _ h => h)) (blkOk_by (own := [("state", 19), ("label", 16)]) (N := ["source", "machine", "labels", "kinds", "names", "moves", "ends", "entry", "places", "order", "rows", "steps", "turn", "row", "kind", "move", "label", "told", "fees", "state"]) (sc := defScope (top 32)) (by decide +kernel)) (by decide) (fun _ _ _ _ _ => (gg_tup rfl (gg_cons (gg_name (i := 19) sc_law_labelled.nd rfl (.inl rfl)) (gg_cons (gg_name (i := 16) sc_law_labelled.nd rfl (.inl rfl)) gg_nil)))) (fun _ _ _ _ _ => gts_nil) (fun _ _ _ _ _ => (gv 16))) ga_nil)) ga_nil))))))))))))))))
/-! _law_any_machine: level 8; slots 0:source 1:way; cells  -/
def g_law_any_machine : S := (sSeq (sSet 1 (gCall sp_law_draw (gCons (gVar 0) (gCons (gC (.int 6)) gNil)))) (sSeq (sIf (gTst (gOp2 pEq (gVar 1) (gC (.int 0)))) (sRet (gCall sp_law_machine_sized (gCons (gVar 0) (gCons (gC (.int 12)) (gCons (gCall sp_law_some (gCons (gVar 0) (gCons (gTup (gCons (gC (.int 1)) (gCons (gC (.int 2)) (gCons (gC (.int 8)) gNil)))) gNil))) gNil))))) sNext) (sSeq (sIf (gTst (gOp2 pLt (gVar 1) (gC (.int 3)))) (sRet (gCall sp_law_labelled (gCons (gVar 0) (gCons (gCall sp_law_machine_sized (gCons (gVar 0) (gCons (gCall sp_law_some (gCons (gVar 0) (gCons (gTup (gCons (gC (.int 1)) (gCons (gC (.int 2)) (gCons (gC (.int 4)) gNil)))) gNil))) (gCons (gC (.int 2)) gNil)))) (gCons (gC (.int 3)) gNil))))) sNext) (sRet (gCall sp_law_machine (gCons (gVar 0) gNil))))))
abbrev n_law_any_machine : List Str := ["source", "way"]
theorem sc_law_any_machine : FnScope ["source", "way"] ["source"] (defScope (top 33)) := ⟨rfl, rfl, rfl, by decide +kernel, rfl, by decide +kernel, by decide +kernel⟩
theorem hb_law_any_machine {f : Addr} (c_law_machine : Cal P w K mg base "_law_machine" 7 sp_law_machine) (c_law_labelled : Cal P w K mg base "_law_labelled" 3 sp_law_labelled) (c_law_machine_sized : Cal P w K mg base "_law_machine_sized" 6 sp_law_machine_sized) (c_law_some : Cal P w K mg base "_law_some" 3 sp_law_some) (c_law_draw : Cal P w K mg base "_law_draw" 2 sp_law_draw) : ∀ (cdv : Value) (A : Around) (outer : List Env) (s0 : Shared) (H : Hp) (E : XK), RoomG 7 (A.deeper (envOfC "_law_any_machine" (defScope (top 33)) s0.heap.objs.size f cdv)) → GSs (cxOf CX0 P w K mg base ["source", "way"] "_law_any_machine" (defScope (top 33)) f cdv A outer s0 H E).nox E0 (defBody (top 33)) g_law_any_machine :=
  fun cdv A outer s0 H E hr => (gs_cons (gt_set (i := 1) sc_law_any_machine.nd rfl (.inl rfl) (ge_cal c_law_draw hr (by decide) rfl (ga_cons (gv 0) (ga_cons ge_int ga_nil)))) (gs_cons (gt_if (gt_cmp (op_eqA (hu64 hr)) r_eq (gv 1) ge_int (nomark _)) (gs_one (gt_ret (ge_cal c_law_machine_sized hr (by decide) rfl (ga_cons (gv 0) (ga_cons ge_int (ga_cons (ge_cal c_law_some hr (by decide) rfl (ga_cons (gv 0) (ga_cons (ge_tup (ga_cons ge_int (ga_cons ge_int (ga_cons ge_int ga_nil)))) ga_nil))) ga_nil)))))) gs_nil) (gs_cons (gt_if (gt_cmp op_lt r_ib (gv 1) ge_int (nomark _)) (gs_one (gt_ret (ge_cal c_law_labelled hr (by decide) rfl (ga_cons (gv 0) (ga_cons (ge_cal c_law_machine_sized hr (by decide) rfl (ga_cons (gv 0) (ga_cons (ge_cal c_law_some hr (by decide) rfl (ga_cons (gv 0) (ga_cons (ge_tup (ga_cons ge_int (ga_cons ge_int (ga_cons ge_int ga_nil)))) ga_nil))) (ga_cons ge_int ga_nil)))) (ga_cons ge_int ga_nil)))))) gs_nil) (gs_one (gt_ret (ge_cal c_law_machine hr (by decide) rfl (ga_cons (gv 0) ga_nil)))))))
/-! _law_rows_of: level 6; slots 0:source 1:machine 2:rows 3:k 4:goes 5:stays 6:lead 7:elder; cells  -/
def b_law_rows_of_0 : S := (sIf (gTru (gVar 2)) (sSeq (sUnp (tTuple (tgCons (tName 4) (tgCons (tName 5) (tgCons (tName 6) (tgCons (tName 7) tgNil)))) 4) (gSomeO 0 2)) (sExpr (gApp 2 (gCons (gTup (gCons (gVar 4) (gCons (gVar 5) (gCons (gOp2 pAdd (gVar 6) (gCall sp_law_some (gCons (gVar 0) (gCons (gTup (gCons (gUn (fun i => -i) (gC (.int 1))) (gCons (gC (.int 0)) (gCons (gC (.int 1)) (gCons (gC (.int 2)) gNil))))) gNil)))) (gCons (gOp2 pEq (gCall sp_law_draw (gCons (gVar 0) (gCons (gC (.int 2)) gNil))) (gC (.int 0))) gNil))))) gNil)))) sNext)
def g_law_rows_of : S := (sSeq (sSet 2 (gSl (gCallB pList (gCons (gCall sp_law_offer (gCons (gVar 0) (gCons (gVar 1) gNil))) gNil)) goNone (goSome (gC (.int 10))))) (sSeq (sFor (giR1 (gCons (gCall sp_law_draw (gCons (gVar 0) (gCons (gC (.int 3)) gNil))) gNil)) (tName 3) b_law_rows_of_0) (sSeq (sIf (gAnd (gTru (gVar 2)) (gTst (gOp2 pEq (gCall sp_law_draw (gCons (gVar 0) (gCons (gC (.int 8)) gNil))) (gC (.int 0))))) (sSet 2 (gOp2 pAdd (gLst (gCons (gTup (gCons (gOp2 pIx (gOp2 pIx (gVar 2) (gC (.int 0))) (gC (.int 0))) (gCons (gC (.str "any")) (gCons (gCall sp_law_some (gCons (gVar 0) (gCons (gTup (gCons (gOp2 pPow (gC (.int 10)) (gC (.int 12))) (gCons (gUn (fun i => -i) (gOp2 pPow (gC (.int 10)) (gC (.int 12)))) gNil))) gNil))) (gCons (gOp2 pIx (gOp2 pIx (gVar 2) (gC (.int 0))) (gC (.int 3))) gNil))))) gNil)) (gSl (gVar 2) (goSome (gC (.int 1))) goNone))) sNext) (sRet (gCallB pTuple (gCons (gVar 2) gNil))))))
abbrev n_law_rows_of : List Str := ["source", "machine", "rows", "k", "goes", "stays", "lead", "elder"]
theorem sc_law_rows_of : FnScope ["source", "machine", "rows", "k", "goes", "stays", "lead", "elder"] ["source", "machine"] (defScope (top 34)) := ⟨rfl, rfl, rfl, by decide +kernel, rfl, by decide +kernel, by decide +kernel⟩
theorem hb_law_rows_of {f : Addr} (T : Tx mg) (c_law_draw : Cal P w K mg base "_law_draw" 2 sp_law_draw) (c_law_some : Cal P w K mg base "_law_some" 3 sp_law_some) (c_law_offer : Cal P w K mg base "_law_offer" 5 sp_law_offer) (v_law_some : CalV P w K mg base "_law_some" 3 (spSome0 K)) : ∀ (cdv : Value) (A : Around) (outer : List Env) (s0 : Shared) (H : Hp) (E : XK), RoomG 5 (A.deeper (envOfC "_law_rows_of" (defScope (top 34)) s0.heap.objs.size f cdv)) → GSs (cxOf CX0 P w K mg base ["source", "machine", "rows", "k", "goes", "stays", "lead", "elder"] "_law_rows_of" (defScope (top 34)) f cdv A outer s0 H E).nox E0 (defBody (top 34)) g_law_rows_of :=
  fun cdv A outer s0 H E hr => (gs_cons (gt_set (i := 2) sc_law_rows_of.nd rfl (.inl rfl) (ge_sl (ge_callTy call_list_of r_list rfl T.list (by decide +kernel) (ga_cons (ge_cal c_law_offer hr (by decide) rfl (ga_cons (gv 0) (ga_cons (gv 1) ga_nil))) ga_nil)) go_none (go_some ge_int))) (gs_cons (gt_for PassesOwn.never rfl (pi_range1 rfl T.range (ga_cons (ge_cal c_law_draw hr (by decide) rfl (ga_cons (gv 0) (ga_cons ge_int ga_nil))) ga_nil)) (it_range1 (fun _ _ _ h => h)) (gg_name (i := 3) sc_law_rows_of.nd rfl (.inl rfl)) (gs_one (gt_if (gt_tru (gv 2)) (gs_cons (gt_unp (ge_someO v_law_some hr (by decide) rfl (L2.pv 0) (L2.pv 2)) (gg_tup rfl (gg_cons (gg_name (i := 4) sc_law_rows_of.nd rfl (.inl rfl)) (gg_cons (gg_name (i := 5) sc_law_rows_of.nd rfl (.inl rfl)) (gg_cons (gg_name (i := 6) sc_law_rows_of.nd rfl (.inl rfl)) (gg_cons (gg_name (i := 7) sc_law_rows_of.nd rfl (.inl rfl)) gg_nil)))))) (gs_one (gt_expr (ge_app (L2.pv 2) (ga_cons (ge_tup (ga_cons (gv 4) (ga_cons (gv 5) (ga_cons (ge_op op_addA r_add (gv 6) (ge_cal c_law_some hr (by decide) rfl (ga_cons (gv 0) (ga_cons (ge_tup (ga_cons (ge_neg ge_int) (ga_cons ge_int (ga_cons ge_int (ga_cons ge_int ga_nil))))) ga_nil)))) (ga_cons (ge_cmp (op_eqA (hu64 hr)) r_eq (ge_cal c_law_draw hr (by decide) rfl (ga_cons (gv 0) (ga_cons ge_int ga_nil))) ge_int (nomark _)) ga_nil))))) ga_nil) (fun ho ha => pe_bm PySem.F.plainAttrs_list PySem.F.slot_list_append PySem.F.type_list_append mt_append ho ha))))) gs_nil))) (gs_cons (gt_if (gw_pt (gw_and (gt_tru (gv 2)) (gw_and1 (gt_cmp (op_eqA (hu64 hr)) r_eq (ge_cal c_law_draw hr (by decide) rfl (ga_cons (gv 0) (ga_cons ge_int ga_nil))) ge_int (nomark _))))) (gs_one (gt_set (i := 2) sc_law_rows_of.nd rfl (.inl rfl) (ge_op op_addA r_add (ge_lst (ga_cons (ge_tup (ga_cons (ge_ix (ge_ix (gv 2) ge_int (fun _ _ => rfl)) ge_int (fun _ _ => rfl)) (ga_cons ge_str (ga_cons (ge_cal c_law_some hr (by decide) rfl (ga_cons (gv 0) (ga_cons (ge_tup (ga_cons (ge_op op_pow r_ii ge_int ge_int) (ga_cons (ge_neg (ge_op op_pow r_ii ge_int ge_int)) ga_nil))) ga_nil))) (ga_cons (ge_ix (ge_ix (gv 2) ge_int (fun _ _ => rfl)) ge_int (fun _ _ => rfl)) ga_nil))))) ga_nil)) (ge_sl (gv 2) (go_some ge_int) go_none)))) gs_nil) (gs_one (gt_ret (ge_callTy call_tuple_of r_tuple rfl T.tuple (by decide +kernel) (ga_cons (gv 2) ga_nil)))))))
/-! _law_leads_of: level 4; slots 0:machine 1:offer 2:s 3:t 4:elder 5:row; cells elder machine s t -/
def g_law_leads_of : S := (sRet (gLc (giT (gVar 1)) (tName 5) (gAnd (gTst (gOp2 pEq (gOp2 pIx (gVar 5) (gC (.int 3))) (gVar 4))) (gTst (gCall sp_law_has_pair (gCons (gVar 0) (gCons (gOp2 pIx (gVar 5) (gC (.int 0))) (gCons (gOp2 pIx (gVar 5) (gC (.int 1))) (gCons (gVar 2) (gCons (gVar 3) gNil)))))))) (gOp2 pIx (gVar 5) (gC (.int 2))) [5]))
abbrev n_law_leads_of : List Str := ["machine", "offer", "s", "t", "elder", "row"]
theorem sc_law_leads_of : FnScope ["machine", "offer", "s", "t", "elder", "row"] ["machine", "offer", "s", "t", "elder"] (defScope (top 35)) := ⟨rfl, rfl, rfl, by decide +kernel, rfl, by decide +kernel, by decide +kernel⟩
theorem hb_law_leads_of {f : Addr} (c_law_has_pair : Cal P w K mg base "_law_has_pair" 3 sp_law_has_pair) : ∀ (cdv : Value) (A : Around) (outer : List Env) (s0 : Shared) (H : Hp) (E : XK), RoomG 3 (A.deeper (envOfC "_law_leads_of" (defScope (top 35)) s0.heap.objs.size f cdv)) → GSs (cxOf CX0 P w K mg base ["machine", "offer", "s", "t", "elder", "row"] "_law_leads_of" (defScope (top 35)) f cdv A outer s0 H E).nox E0 (defBody (top 35)) g_law_leads_of :=
  fun cdv A outer s0 H E hr => (gs_one (gt_ret (ge_lc (own := [("row", 5)]) rfl sc_law_leads_of.nd (pi_tup (gv 1)) (it_tup (fun _ _ _ h => h)) (blkOk_by (own := [("row", 5)]) (N := ["machine", "offer", "s", "t", "elder", "row"]) (sc := defScope (top 35)) (by decide +kernel)) (by decide) (fun _ _ _ _ _ => (gg_name (i := 5) sc_law_leads_of.nd rfl (.inl rfl))) (fun _ _ _ _ _ => (gts_one (gw_pt (gw_and (gt_cmp (op_eqA (hu64 hr)) r_eq (ge_ix (gv 5) ge_int (fun _ _ => rfl)) (gv 4) (nomark _)) (gw_and1 (gt_val (ge_cal c_law_has_pair hr (by decide) rfl (ga_cons (gv 0) (ga_cons (ge_ix (gv 5) ge_int (fun _ _ => rfl)) (ga_cons (ge_ix (gv 5) ge_int (fun _ _ => rfl)) (ga_cons (gv 2) (ga_cons (gv 3) ga_nil)))))))))))) (fun _ _ _ _ _ => (ge_ix (gv 5) ge_int (fun _ _ => rfl))))))
/-! _law_least_of: level 1; slots 0:numbers; cells  -/
def g_law_least_of : S := (sRet (gIf (gTru (gVar 0)) (gCallB pMin1A (gCons (gVar 0) gNil)) (gC .none)))
abbrev n_law_least_of : List Str := ["numbers"]
theorem sc_law_least_of : FnScope ["numbers"] ["numbers"] (defScope (top 36)) := ⟨rfl, rfl, rfl, by decide +kernel, rfl, by decide +kernel, by decide +kernel⟩
theorem hb_law_least_of {f : Addr} (T : Tx mg) : ∀ (cdv : Value) (A : Around) (outer : List Env) (s0 : Shared) (H : Hp) (E : XK), RoomG 0 (A.deeper (envOfC "_law_least_of" (defScope (top 36)) s0.heap.objs.size f cdv)) → GSs (cxOf CX0 P w K mg base ["numbers"] "_law_least_of" (defScope (top 36)) f cdv A outer s0 H E).nox E0 (defBody (top 36)) g_law_least_of :=
  fun cdv A outer s0 H E hr => (gs_one (gt_ret (ge_if (gt_tru (gv 0)) (ge_callB (call_min1A rfl hr) r_min1A rfl T.min (by decide +kernel) (ga_cons (gv 0) ga_nil)) ge_non)))
/-! _law_due_table: level 5; slots 0:machine 1:offer 2:rows 3:s 4:row 5:t 6:plain; cells  -/
def b_law_due_table_0 : S := (sSeq (sSet 6 (gCall sp_law_leads_of (gCons (gVar 0) (gCons (gVar 1) (gCons (gVar 3) (gCons (gVar 5) (gCons (gC (.bool false)) gNil))))))) (sExpr (gApp 4 (gCons (gTup (gCons (gCall sp_law_least_of (gCons (gVar 6) gNil)) (gCons (gCall sp_law_least_of (gCons (gCall sp_law_leads_of (gCons (gVar 0) (gCons (gVar 1) (gCons (gVar 3) (gCons (gVar 5) (gCons (gC (.bool true)) gNil)))))) gNil)) gNil))) gNil))))
def b_law_due_table_1 : S := (sSeq (sSet 4 (gLst gNil)) (sSeq (sFor (giR1 (gCons (gCallB pLen (gCons (gOp2 pIx (gVar 0) (gC (.int 1))) gNil)) gNil)) (tName 5) b_law_due_table_0) (sExpr (gApp 2 (gCons (gCallB pTuple (gCons (gVar 4) gNil)) gNil)))))
def g_law_due_table : S := (sSeq (sSet 2 (gLst gNil)) (sSeq (sFor (giR1 (gCons (gCallB pLen (gCons (gOp2 pIx (gVar 0) (gC (.int 1))) gNil)) gNil)) (tName 3) b_law_due_table_1) (sRet (gCallB pTuple (gCons (gVar 2) gNil)))))
abbrev n_law_due_table : List Str := ["machine", "offer", "rows", "s", "row", "t", "plain"]
theorem sc_law_due_table : FnScope ["machine", "offer", "rows", "s", "row", "t", "plain"] ["machine", "offer"] (defScope (top 37)) := ⟨rfl, rfl, rfl, by decide +kernel, rfl, by decide +kernel, by decide +kernel⟩
theorem hb_law_due_table {f : Addr} (T : Tx mg) (c_law_least_of : Cal P w K mg base "_law_least_of" 1 sp_law_least_of) (c_law_leads_of : Cal P w K mg base "_law_leads_of" 4 sp_law_leads_of) : ∀ (cdv : Value) (A : Around) (outer : List Env) (s0 : Shared) (H : Hp) (E : XK), RoomG 4 (A.deeper (envOfC "_law_due_table" (defScope (top 37)) s0.heap.objs.size f cdv)) → GSs (cxOf CX0 P w K mg base ["machine", "offer", "rows", "s", "row", "t", "plain"] "_law_due_table" (defScope (top 37)) f cdv A outer s0 H E).nox E0 (defBody (top 37)) g_law_due_table :=
  fun cdv A outer s0 H E hr => (gs_cons (gt_set (i := 2) sc_law_due_table.nd rfl (.inl rfl) (ge_lst ga_nil)) (gs_cons (gt_for PassesOwn.never rfl (pi_range1 rfl T.range (ga_cons (ge_callB call_len r_len rfl T.len (by decide +kernel) (ga_cons (ge_ix (gv 0) ge_int (fun _ _ => rfl)) ga_nil)) ga_nil)) (it_range1 (fun _ _ _ h => h)) (gg_name (i := 3) sc_law_due_table.nd rfl (.inl rfl)) (gs_cons (gt_set (i := 4) sc_law_due_table.nd rfl (.inl rfl) (ge_lst ga_nil)) (gs_cons (gt_for PassesOwn.never rfl (pi_range1 rfl T.range (ga_cons (ge_callB call_len r_len rfl T.len (by decide +kernel) (ga_cons (ge_ix (gv 0) ge_int (fun _ _ => rfl)) ga_nil)) ga_nil)) (it_range1 (fun _ _ _ h => h)) (gg_name (i := 5) sc_law_due_table.nd rfl (.inl rfl)) (gs_cons (gt_set (i := 6) sc_law_due_table.nd rfl (.inl rfl) (ge_cal c_law_leads_of hr (by decide) rfl (ga_cons (gv 0) (ga_cons (gv 1) (ga_cons (gv 3) (ga_cons (gv 5) (ga_cons ge_bl ga_nil))))))) (gs_one (gt_expr (ge_app (L2.pv 4) (ga_cons (ge_tup (ga_cons (ge_cal c_law_least_of hr (by decide) rfl (ga_cons (gv 6) ga_nil)) (ga_cons (ge_cal c_law_least_of hr (by decide) rfl (ga_cons (ge_cal c_law_leads_of hr (by decide) rfl (ga_cons (gv 0) (ga_cons (gv 1) (ga_cons (gv 3) (ga_cons (gv 5) (ga_cons ge_bl ga_nil)))))) ga_nil)) ga_nil))) ga_nil) (fun ho ha => pe_bm PySem.F.plainAttrs_list PySem.F.slot_list_append PySem.F.type_list_append mt_append ho ha)))))) (gs_one (gt_expr (ge_app (L2.pv 2) (ga_cons (ge_callTy call_tuple_of r_tuple rfl T.tuple (by decide +kernel) (ga_cons (gv 4) ga_nil)) ga_nil) (fun ho ha => pe_bm PySem.F.plainAttrs_list PySem.F.slot_list_append PySem.F.type_list_append mt_append ho ha))))))) (gs_one (gt_ret (ge_callTy call_tuple_of r_tuple rfl T.tuple (by decide +kernel) (ga_cons (gv 2) ga_nil))))))
/-! _law_row_allows: level 4; slots 0:machine 1:row 2:s 3:t 4:ahead 5:older; cells  -/
def g_law_row_allows : S := (sSeq (sIf (gOr (gTst (gOp2 pGt (gOp2 pIx (gVar 1) (gC (.int 2))) (gVar 4))) (gAnd (gTru (gOp2 pIx (gVar 1) (gC (.int 3)))) (gNot (gTru (gVar 5))))) (sRet (gC (.bool false))) sNext) (sRet (gCall sp_law_has_pair (gCons (gVar 0) (gCons (gOp2 pIx (gVar 1) (gC (.int 0))) (gCons (gOp2 pIx (gVar 1) (gC (.int 1))) (gCons (gVar 2) (gCons (gVar 3) gNil))))))))
abbrev n_law_row_allows : List Str := ["machine", "row", "s", "t", "ahead", "older"]
theorem sc_law_row_allows : FnScope ["machine", "row", "s", "t", "ahead", "older"] ["machine", "row", "s", "t", "ahead", "older"] (defScope (top 38)) := ⟨rfl, rfl, rfl, by decide +kernel, rfl, by decide +kernel, by decide +kernel⟩
theorem hb_law_row_allows {f : Addr} (c_law_has_pair : Cal P w K mg base "_law_has_pair" 3 sp_law_has_pair) : ∀ (cdv : Value) (A : Around) (outer : List Env) (s0 : Shared) (H : Hp) (E : XK), RoomG 3 (A.deeper (envOfC "_law_row_allows" (defScope (top 38)) s0.heap.objs.size f cdv)) → GSs (cxOf CX0 P w K mg base ["machine", "row", "s", "t", "ahead", "older"] "_law_row_allows" (defScope (top 38)) f cdv A outer s0 H E).nox E0 (defBody (top 38)) g_law_row_allows :=
  fun cdv A outer s0 H E hr => (gs_cons (gt_if (gw_pt (gw_or (gt_cmp op_gt r_ib (ge_ix (gv 1) ge_int (fun _ _ => rfl)) (gv 4) (nomark _)) (gw_or1 (gw_pt (gw_and (gt_tru (ge_ix (gv 1) ge_int (fun _ _ => rfl))) (gw_and1 (gt_not (gt_tru (gv 5))))))))) (gs_one (gt_ret ge_bl)) gs_nil) (gs_one (gt_ret (ge_cal c_law_has_pair hr (by decide) rfl (ga_cons (gv 0) (ga_cons (ge_ix (gv 1) ge_int (fun _ _ => rfl)) (ga_cons (ge_ix (gv 1) ge_int (fun _ _ => rfl)) (ga_cons (gv 2) (ga_cons (gv 3) ga_nil)))))))))
/-! _law_asked_pair: level 5; slots 0:source 1:machine 2:offer 3:row 4:pairs; cells  -/
def g_law_asked_pair : S := (sSeq (sIf (gAnd (gTru (gVar 2)) (gTst (gOp2 pGt (gCall sp_law_draw (gCons (gVar 0) (gCons (gC (.int 4)) gNil))) (gC (.int 0))))) (sSeq (sSet 3 (gCall sp_law_some (gCons (gVar 0) (gCons (gVar 2) gNil)))) (sSeq (sSet 4 (gCall sp_law_pairs (gCons (gVar 1) (gCons (gOp2 pIx (gVar 3) (gC (.int 0))) (gCons (gOp2 pIx (gVar 3) (gC (.int 1))) gNil))))) (sIf (gTru (gVar 4)) (sRet (gCall sp_law_some (gCons (gVar 0) (gCons (gVar 4) gNil)))) sNext))) sNext) (sRet (gTup (gCons (gCall sp_law_draw (gCons (gVar 0) (gCons (gCallB pLen (gCons (gOp2 pIx (gVar 1) (gC (.int 1))) gNil)) gNil))) (gCons (gCall sp_law_draw (gCons (gVar 0) (gCons (gCallB pLen (gCons (gOp2 pIx (gVar 1) (gC (.int 1))) gNil)) gNil))) gNil)))))
abbrev n_law_asked_pair : List Str := ["source", "machine", "offer", "row", "pairs"]
theorem sc_law_asked_pair : FnScope ["source", "machine", "offer", "row", "pairs"] ["source", "machine", "offer"] (defScope (top 39)) := ⟨rfl, rfl, rfl, by decide +kernel, rfl, by decide +kernel, by decide +kernel⟩
theorem hb_law_asked_pair {f : Addr} (T : Tx mg) (c_law_draw : Cal P w K mg base "_law_draw" 2 sp_law_draw) (c_law_some : Cal P w K mg base "_law_some" 3 sp_law_some) (c_law_pairs : Cal P w K mg base "_law_pairs" 4 sp_law_pairs) : ∀ (cdv : Value) (A : Around) (outer : List Env) (s0 : Shared) (H : Hp) (E : XK), RoomG 4 (A.deeper (envOfC "_law_asked_pair" (defScope (top 39)) s0.heap.objs.size f cdv)) → GSs (cxOf CX0 P w K mg base ["source", "machine", "offer", "row", "pairs"] "_law_asked_pair" (defScope (top 39)) f cdv A outer s0 H E).nox E0 (defBody (top 39)) g_law_asked_pair :=
  fun cdv A outer s0 H E hr => (gs_cons (gt_if (gw_pt (gw_and (gt_tru (gv 2)) (gw_and1 (gt_cmp op_gt r_ib (ge_cal c_law_draw hr (by decide) rfl (ga_cons (gv 0) (ga_cons ge_int ga_nil))) ge_int (nomark _))))) (gs_cons (gt_set (i := 3) sc_law_asked_pair.nd rfl (.inl rfl) (ge_cal c_law_some hr (by decide) rfl (ga_cons (gv 0) (ga_cons (gv 2) ga_nil)))) (gs_cons (gt_set (i := 4) sc_law_asked_pair.nd rfl (.inl rfl) (ge_cal c_law_pairs hr (by decide) rfl (ga_cons (gv 1) (ga_cons (ge_ix (gv 3) ge_int (fun _ _ => rfl)) (ga_cons (ge_ix (gv 3) ge_int (fun _ _ => rfl)) ga_nil))))) (gs_one (gt_if (gt_tru (gv 4)) (gs_one (gt_ret (ge_cal c_law_some hr (by decide) rfl (ga_cons (gv 0) (ga_cons (gv 4) ga_nil))))) gs_nil)))) gs_nil) (gs_one (gt_ret (ge_tup (ga_cons (ge_cal c_law_draw hr (by decide) rfl (ga_cons (gv 0) (ga_cons (ge_callB call_len r_len rfl T.len (by decide +kernel) (ga_cons (ge_ix (gv 1) ge_int (fun _ _ => rfl)) ga_nil)) ga_nil))) (ga_cons (ge_cal c_law_draw hr (by decide) rfl (ga_cons (gv 0) (ga_cons (ge_callB call_len r_len rfl T.len (by decide +kernel) (ga_cons (ge_ix (gv 1) ge_int (fun _ _ => rfl)) ga_nil)) ga_nil))) ga_nil))))))
/-! _law_allowed_right: level 6; slots 0:source 1:machine 2:offer 3:throws 4:s 5:t 6:leads 7:ahead 8:older 9:due 10:row; cells ahead machine older s t -/
def b_law_allowed_right_0 : S := (sSeq (sSet 9 (gLc (giT (gVar 2)) (tName 10) (gTst (gCall sp_law_row_allows (gCons (gVar 1) (gCons (gVar 10) (gCons (gVar 4) (gCons (gVar 5) (gCons (gVar 7) (gCons (gVar 8) gNil)))))))) (gVar 10) [10])) (sIf (gTst (gOp2 pNe (gCallB pRepr (gCons (gCall sp_allows (gCons (gVar 3) (gCons (gVar 4) (gCons (gVar 5) (gCons (gVar 7) (gCons (gVar 8) gNil)))))) gNil)) (gCallB pRepr (gCons (gOp2 pGt (gCallB pLen (gCons (gVar 9) gNil)) (gC (.int 0))) gNil)))) (sRet (gC (.bool false))) sNext))
def g_law_allowed_right : S := (sSeq (sUnp (tTuple (tgCons (tName 4) (tgCons (tName 5) tgNil)) 2) (gCall sp_law_asked_pair (gCons (gVar 0) (gCons (gVar 1) (gCons (gVar 2) gNil))))) (sSeq (sSet 6 (gOp2 pAdd (gCall sp_law_leads_of (gCons (gVar 1) (gCons (gVar 2) (gCons (gVar 4) (gCons (gVar 5) (gCons (gC (.bool false)) gNil)))))) (gCall sp_law_leads_of (gCons (gVar 1) (gCons (gVar 2) (gCons (gVar 4) (gCons (gVar 5) (gCons (gC (.bool true)) gNil)))))))) (sSeq (sIf (gTst (gOp2 pNe (gCallB pRepr (gCons (gCall sp_least_throw (gCons (gVar 3) (gCons (gVar 4) (gCons (gVar 5) gNil)))) gNil)) (gCallB pRepr (gCons (gCall sp_law_least_of (gCons (gVar 6) gNil)) gNil)))) (sRet (gC (.bool false))) sNext) (sSeq (sSet 7 (gOp2 pSub (gOp2 pAdd (gCall sp_law_some (gCons (gVar 0) (gCons (gOp2 pAdd (gVar 6) (gLst (gCons (gC (.int 0)) gNil))) gNil))) (gCall sp_law_draw (gCons (gVar 0) (gCons (gC (.int 3)) gNil)))) (gC (.int 1)))) (sSeq (sFor (giT (gTup (gCons (gC (.bool false)) (gCons (gC (.bool true)) gNil)))) (tName 8) b_law_allowed_right_0) (sRet (gC (.bool true))))))))
abbrev n_law_allowed_right : List Str := ["source", "machine", "offer", "throws", "s", "t", "leads", "ahead", "older", "due", "row"]
theorem sc_law_allowed_right : FnScope ["source", "machine", "offer", "throws", "s", "t", "leads", "ahead", "older", "due", "row"] ["source", "machine", "offer", "throws"] (defScope (top 40)) := ⟨rfl, rfl, rfl, by decide +kernel, rfl, by decide +kernel, by decide +kernel⟩
theorem hb_law_allowed_right {f : Addr} (T : Tx mg) (c_allows : Cal P w K mg base "allows" 1 sp_allows) (c_law_row_allows : Cal P w K mg base "_law_row_allows" 4 sp_law_row_allows) (c_law_some : Cal P w K mg base "_law_some" 3 sp_law_some) (c_law_draw : Cal P w K mg base "_law_draw" 2 sp_law_draw) (c_least_throw : Cal P w K mg base "least_throw" 2 sp_least_throw) (c_law_least_of : Cal P w K mg base "_law_least_of" 1 sp_law_least_of) (c_law_leads_of : Cal P w K mg base "_law_leads_of" 4 sp_law_leads_of) (c_law_asked_pair : Cal P w K mg base "_law_asked_pair" 5 sp_law_asked_pair) : ∀ (cdv : Value) (A : Around) (outer : List Env) (s0 : Shared) (H : Hp) (E : XK), RoomG 5 (A.deeper (envOfC "_law_allowed_right" (defScope (top 40)) s0.heap.objs.size f cdv)) → GSs (cxOf CX0 P w K mg base ["source", "machine", "offer", "throws", "s", "t", "leads", "ahead", "older", "due", "row"] "_law_allowed_right" (defScope (top 40)) f cdv A outer s0 H E).nox E0 (defBody (top 40)) g_law_allowed_right :=
  fun cdv A outer s0 H E hr => (gs_cons (gt_unp (ge_cal c_law_asked_pair hr (by decide) rfl (ga_cons (gv 0) (ga_cons (gv 1) (ga_cons (gv 2) ga_nil)))) (gg_tup rfl (gg_cons (gg_name (i := 4) sc_law_allowed_right.nd rfl (.inr rfl)) (gg_cons (gg_name (i := 5) sc_law_allowed_right.nd rfl (.inr rfl)) gg_nil)))) (gs_cons (gt_set (i := 6) sc_law_allowed_right.nd rfl (.inl rfl) (ge_op op_addA r_add (ge_cal c_law_leads_of hr (by decide) rfl (ga_cons (gv 1) (ga_cons (gv 2) (ga_cons (gv 4) (ga_cons (gv 5) (ga_cons ge_bl ga_nil)))))) (ge_cal c_law_leads_of hr (by decide) rfl (ga_cons (gv 1) (ga_cons (gv 2) (ga_cons (gv 4) (ga_cons (gv 5) (ga_cons ge_bl ga_nil)))))))) (gs_cons (gt_if (gt_cmp (op_neA (hu64 hr)) r_ne (ge_callB (call_reprD hr) r_repr rfl T.repr (by decide +kernel) (ga_cons (ge_cal c_least_throw hr (by decide) rfl (ga_cons (gv 3) (ga_cons (gv 4) (ga_cons (gv 5) ga_nil)))) ga_nil)) (ge_callB (call_reprD hr) r_repr rfl T.repr (by decide +kernel) (ga_cons (ge_cal c_law_least_of hr (by decide) rfl (ga_cons (gv 6) ga_nil)) ga_nil)) (nomark _)) (gs_one (gt_ret ge_bl)) gs_nil) (gs_cons (gt_set (i := 7) sc_law_allowed_right.nd rfl (.inr rfl) (ge_op op_sub r_sub (ge_op op_addA r_add (ge_cal c_law_some hr (by decide) rfl (ga_cons (gv 0) (ga_cons (ge_op op_addA r_add (gv 6) (ge_lst (ga_cons ge_int ga_nil))) ga_nil))) (ge_cal c_law_draw hr (by decide) rfl (ga_cons (gv 0) (ga_cons ge_int ga_nil)))) ge_int)) (gs_cons (gt_for PassesOwn.never rfl (pi_tup (ge_tup (ga_cons ge_bl (ga_cons ge_bl ga_nil)))) (it_tup (fun _ _ _ h => h)) (gg_name (i := 8) sc_law_allowed_right.nd rfl (.inr rfl)) (gs_cons (gt_setLc (i := 9) (own := [("row", 10)]) rfl sc_law_allowed_right.nd rfl rfl (sw_true rfl rfl rfl (by decide +kernel)) (pi_tup (gv 2)) (it_tup (fun _ _ _ h => h)) (blkOk_by (own := [("row", 10)]) (N := ["source", "machine", "offer", "throws", "s", "t", "leads", "ahead", "older", "due", "row"]) (sc := defScope (top 40)) (by decide +kernel)) (by decide) (fun _ _ _ _ _ => (gg_name (i := 10) sc_law_allowed_right.nd rfl (.inl rfl))) (fun _ _ _ _ _ => (gts_one (gt_val (ge_cal c_law_row_allows hr (by decide) rfl (ga_cons (gv 1) (ga_cons (gv 10) (ga_cons (gv 4) (ga_cons (gv 5) (ga_cons (gv 7) (ga_cons (gv 8) ga_nil)))))))))) (fun _ _ _ _ _ => (gv 10))) (gs_one (gt_if (gt_cmp (op_neA (hu64 hr)) r_ne (ge_callB (call_reprD hr) r_repr rfl T.repr (by decide +kernel) (ga_cons (ge_cal c_allows hr (by decide) rfl (ga_cons (gv 3) (ga_cons (gv 4) (ga_cons (gv 5) (ga_cons (gv 7) (ga_cons (gv 8) ga_nil)))))) ga_nil)) (ge_callB (call_reprD hr) r_repr rfl T.repr (by decide +kernel) (ga_cons (ge_cmp op_gt r_ib (ge_callB call_len r_len rfl T.len (by decide +kernel) (ga_cons (gv 9) ga_nil)) ge_int (nomark _)) ga_nil)) (nomark _)) (gs_one (gt_ret ge_bl)) gs_nil)))) (gs_one (gt_ret ge_bl)))))))
/-! _law_drawn_right: level 4; slots 0:source 1:size 2:numbers 3:table 4:s 5:throws 6:t 7:ahead 8:older 9:plain 10:aged 11:due 12:leads 13:lead; cells numbers source -/
def b_law_drawn_right_0 : S := (sSeq (sSet 7 (gCall sp_law_some (gCons (gVar 0) (gCons (gTup (gCons (gUn (fun i => -i) (gC (.int 4))) (gCons (gUn (fun i => -i) (gC (.int 3))) (gCons (gUn (fun i => -i) (gC (.int 1))) (gCons (gC (.int 0)) (gCons (gC (.int 1)) (gCons (gC (.int 2)) (gCons (gC (.int 6)) (gCons (gC (.int 7)) (gCons (gC (.int 999)) gNil)))))))))) gNil)))) (sSeq (sSet 8 (gOp2 pEq (gCall sp_law_draw (gCons (gVar 0) (gCons (gC (.int 2)) gNil))) (gC (.int 0)))) (sSeq (sUnp (tTuple (tgCons (tName 9) (tgCons (tName 10) tgNil)) 2) (gOp2 pIx (gOp2 pIx (gVar 5) (gVar 4)) (gVar 6))) (sSeq (sSet 11 (gAndV (gOp2 pIsNotN (gVar 9) (gC .none)) (gOp2 pLe (gVar 9) (gVar 7)))) (sSeq (sIf (gAnd (gTru (gVar 8)) (gAnd (gTst (gOp2 pIsNotN (gVar 10) (gC .none))) (gTst (gOp2 pLe (gVar 10) (gVar 7))))) (sSet 11 (gC (.bool true))) sNext) (sSeq (sIf (gTst (gOp2 pNe (gCallB pRepr (gCons (gCall sp_allows (gCons (gVar 5) (gCons (gVar 4) (gCons (gVar 6) (gCons (gVar 7) (gCons (gVar 8) gNil)))))) gNil)) (gCallB pRepr (gCons (gVar 11) gNil)))) (sRet (gC (.bool false))) sNext) (sSeq (sSet 12 (gLc (giT (gOp2 pIx (gOp2 pIx (gVar 5) (gVar 4)) (gVar 6))) (tName 13) (gTst (gOp2 pIsNotN (gVar 13) (gC .none))) (gVar 13) [13])) (sIf (gTst (gOp2 pNe (gCallB pRepr (gCons (gCall sp_least_throw (gCons (gVar 5) (gCons (gVar 4) (gCons (gVar 6) gNil)))) gNil)) (gCallB pRepr (gCons (gCall sp_law_least_of (gCons (gVar 12) gNil)) gNil)))) (sRet (gC (.bool false))) sNext))))))))
def b_law_drawn_right_1 : S := (sFor (giR1 (gCons (gVar 1) gNil)) (tName 6) b_law_drawn_right_0)
def b_law_drawn_right_2 : S := (sExpr (gApp 3 (gCons (gCallB pTuple (gCons (gLc (giR1 (gCons (gVar 1) gNil)) (tName 6) gYes (gTup (gCons (gCall sp_law_some (gCons (gVar 0) (gCons (gVar 2) gNil))) (gCons (gCall sp_law_some (gCons (gVar 0) (gCons (gVar 2) gNil))) gNil))) [6]) gNil)) gNil)))
def g_law_drawn_right : S := (sSeq (sSet 1 (gOp2 pAdd (gC (.int 1)) (gCall sp_law_draw (gCons (gVar 0) (gCons (gC (.int 3)) gNil))))) (sSeq (sSet 2 (gTup (gCons (gC .none) (gCons (gC .none) (gCons (gC (.int 0)) (gCons (gC (.int 1)) (gCons (gUn (fun i => -i) (gC (.int 3))) (gCons (gC (.int 7)) (gCons (gC (.int 999)) gNil))))))))) (sSeq (sSet 3 (gLst gNil)) (sSeq (sFor (giR1 (gCons (gVar 1) gNil)) (tName 4) b_law_drawn_right_2) (sSeq (sSet 5 (gCallB pTuple (gCons (gVar 3) gNil))) (sSeq (sFor (giR1 (gCons (gVar 1) gNil)) (tName 4) b_law_drawn_right_1) (sRet (gC (.bool true)))))))))
abbrev n_law_drawn_right : List Str := ["source", "size", "numbers", "table", "s", "throws", "t", "ahead", "older", "plain", "aged", "due", "leads", "lead"]
theorem sc_law_drawn_right : FnScope ["source", "size", "numbers", "table", "s", "throws", "t", "ahead", "older", "plain", "aged", "due", "leads", "lead"] ["source"] (defScope (top 41)) := ⟨rfl, rfl, rfl, by decide +kernel, rfl, by decide +kernel, by decide +kernel⟩
theorem hb_law_drawn_right {f : Addr} (T : Tx mg) (c_least_throw : Cal P w K mg base "least_throw" 2 sp_least_throw) (c_law_least_of : Cal P w K mg base "_law_least_of" 1 sp_law_least_of) (c_allows : Cal P w K mg base "allows" 1 sp_allows) (c_law_draw : Cal P w K mg base "_law_draw" 2 sp_law_draw) (c_law_some : Cal P w K mg base "_law_some" 3 sp_law_some) : ∀ (cdv : Value) (A : Around) (outer : List Env) (s0 : Shared) (H : Hp) (E : XK), RoomG 3 (A.deeper (envOfC "_law_drawn_right" (defScope (top 41)) s0.heap.objs.size f cdv)) → GSs (cxOf CX0 P w K mg base ["source", "size", "numbers", "table", "s", "throws", "t", "ahead", "older", "plain", "aged", "due", "leads", "lead"] "_law_drawn_right" (defScope (top 41)) f cdv A outer s0 H E).nox E0 (defBody (top 41)) g_law_drawn_right :=
  fun cdv A outer s0 H E hr => (gs_cons (gt_set (i := 1) sc_law_drawn_right.nd rfl (.inl rfl) (ge_op op_addA r_add ge_int (ge_cal c_law_draw hr (by decide) rfl (ga_cons (gv 0) (ga_cons ge_int ga_nil))))) (gs_cons (gt_set (i := 2) sc_law_drawn_right.nd rfl (.inr rfl) (ge_tup (ga_cons ge_non (ga_cons ge_non (ga_cons ge_int (ga_cons ge_int (ga_cons (ge_neg ge_int) (ga_cons ge_int (ga_cons ge_int ga_nil))))))))) (gs_cons (gt_set (i := 3) sc_law_drawn_right.nd rfl (.inl rfl) (ge_lst ga_nil)) (gs_cons (gt_for PassesOwn.never rfl (pi_range1 rfl T.range (ga_cons (gv 1) ga_nil)) (it_range1 (fun _ _ _ h => h)) (gg_name (i := 4) sc_law_drawn_right.nd rfl (.inl rfl)) (gs_one (gt_expr (ge_app (L2.pv 3) (ga_cons (ge_callTy call_tuple_of r_tuple rfl T.tuple (by decide +kernel) (ga_cons (ge_lc (own := [("t", 6)]) rfl sc_law_drawn_right.nd (pi_range1 rfl T.range (ga_cons (gv 1) ga_nil)) (it_range1 (fun _ _ _ h => h)) (blkOk_by (own := [("t", 6)]) (N := ["source", "size", "numbers", "table", "s", "throws", "t", "ahead", "older", "plain", "aged", "due", "leads", "lead"]) (sc := defScope (top 41)) (by decide +kernel)) (by decide) (fun _ _ _ _ _ => (gg_name (i := 6) sc_law_drawn_right.nd rfl (.inl rfl))) (fun _ _ _ _ _ => gts_nil) (fun _ _ _ _ _ => (ge_tup (ga_cons (ge_cal c_law_some hr (by decide) rfl (ga_cons (gv 0) (ga_cons (gv 2) ga_nil))) (ga_cons (ge_cal c_law_some hr (by decide) rfl (ga_cons (gv 0) (ga_cons (gv 2) ga_nil))) ga_nil))))) ga_nil)) ga_nil) (fun ho ha => pe_bm PySem.F.plainAttrs_list PySem.F.slot_list_append PySem.F.type_list_append mt_append ho ha))))) (gs_cons (gt_set (i := 5) sc_law_drawn_right.nd rfl (.inl rfl) (ge_callTy call_tuple_of r_tuple rfl T.tuple (by decide +kernel) (ga_cons (gv 3) ga_nil))) (gs_cons (gt_for PassesOwn.never rfl (pi_range1 rfl T.range (ga_cons (gv 1) ga_nil)) (it_range1 (fun _ _ _ h => h)) (gg_name (i := 4) sc_law_drawn_right.nd rfl (.inl rfl)) (gs_one (gt_for PassesOwn.never rfl (pi_range1 rfl T.range (ga_cons (gv 1) ga_nil)) (it_range1 (fun _ _ _ h => h)) (gg_name (i := 6) sc_law_drawn_right.nd rfl (.inl rfl)) (gs_cons (gt_set (i := 7) sc_law_drawn_right.nd rfl (.inl rfl) (ge_cal c_law_some hr (by decide) rfl (ga_cons (gv 0) (ga_cons (ge_tup (ga_cons (ge_neg ge_int) (ga_cons (ge_neg ge_int) (ga_cons (ge_neg ge_int) (ga_cons ge_int (ga_cons ge_int (ga_cons ge_int (ga_cons ge_int (ga_cons ge_int (ga_cons ge_int ga_nil)))))))))) ga_nil)))) (gs_cons (gt_set (i := 8) sc_law_drawn_right.nd rfl (.inl rfl) (ge_cmp (op_eqA (hu64 hr)) r_eq (ge_cal c_law_draw hr (by decide) rfl (ga_cons (gv 0) (ga_cons ge_int ga_nil))) ge_int (nomark _))) (gs_cons (gt_unp (ge_ix (ge_ix (gv 5) (gv 4) (fun _ _ => rfl)) (gv 6) (fun _ _ => rfl)) (gg_tup rfl (gg_cons (gg_name (i := 9) sc_law_drawn_right.nd rfl (.inl rfl)) (gg_cons (gg_name (i := 10) sc_law_drawn_right.nd rfl (.inl rfl)) gg_nil)))) (gs_cons (gt_set (i := 11) sc_law_drawn_right.nd rfl (.inl rfl) (ge_and (ge_cmp op_notN r_isNotN (gv 9) ge_non (nomark _)) (ge_one (ge_cmp op_le r_ib (gv 9) (gv 7) (nomark _))))) (gs_cons (gt_if (gw_pt (gw_and (gt_tru (gv 8)) (gw_and (gt_cmp op_notN r_isNotN (gv 10) ge_non (nomark _)) (gw_and1 (gt_cmp op_le r_ib (gv 10) (gv 7) (nomark _)))))) (gs_one (gt_set (i := 11) sc_law_drawn_right.nd rfl (.inl rfl) ge_bl)) gs_nil) (gs_cons (gt_if (gt_cmp (op_neA (hu64 hr)) r_ne (ge_callB (call_reprD hr) r_repr rfl T.repr (by decide +kernel) (ga_cons (ge_cal c_allows hr (by decide) rfl (ga_cons (gv 5) (ga_cons (gv 4) (ga_cons (gv 6) (ga_cons (gv 7) (ga_cons (gv 8) ga_nil)))))) ga_nil)) (ge_callB (call_reprD hr) r_repr rfl T.repr (by decide +kernel) (ga_cons (gv 11) ga_nil)) (nomark _)) (gs_one (gt_ret ge_bl)) gs_nil) (gs_cons (gt_setLc (i := 12) (own := [("lead", 13)]) rfl sc_law_drawn_right.nd rfl rfl (sw_true rfl rfl rfl (by decide +kernel)) (pi_tup (ge_ix (ge_ix (gv 5) (gv 4) (fun _ _ => rfl)) (gv 6) (fun _ _ => rfl))) (it_tup (fun _ _ _ h => h)) (blkOk_by (own := [("lead", 13)]) (N := ["source", "size", "numbers", "table", "s", "throws", "t", "ahead", "older", "plain", "aged", "due", "leads", "lead"]) (sc := defScope (top 41)) (by decide +kernel)) (by decide) (fun _ _ _ _ _ => (gg_name (i := 13) sc_law_drawn_right.nd rfl (.inl rfl))) (fun _ _ _ _ _ => (gts_one (gt_cmp op_notN r_isNotN (gv 13) ge_non (nomark _)))) (fun _ _ _ _ _ => (gv 13))) (gs_one (gt_if (gt_cmp (op_neA (hu64 hr)) r_ne (ge_callB (call_reprD hr) r_repr rfl T.repr (by decide +kernel) (ga_cons (ge_cal c_least_throw hr (by decide) rfl (ga_cons (gv 5) (ga_cons (gv 4) (ga_cons (gv 6) ga_nil)))) ga_nil)) (ge_callB (call_reprD hr) r_repr rfl T.repr (by decide +kernel) (ga_cons (ge_cal c_law_least_of hr (by decide) rfl (ga_cons (gv 12) ga_nil)) ga_nil)) (nomark _)) (gs_one (gt_ret ge_bl)) gs_nil)))))))))))) (gs_one (gt_ret ge_bl))))))))
/-! law: level 9; slots 0:script 1:source 2:machine 3:one 4:other 5:first 6:second 7:turn 8:offer 9:throws; cells  -/
def b_law_0 : S := (sSeq (sSet 8 (gIf (gTst (gOp2 pGt (gVar 7) (gC (.int 4)))) (gVar 4) (gVar 3))) (sSeq (sSet 9 (gIf (gTst (gOp2 pGt (gVar 7) (gC (.int 4)))) (gVar 6) (gVar 5))) (sIf (gNot (gTst (gCall sp_law_allowed_right (gCons (gVar 1) (gCons (gVar 2) (gCons (gVar 8) (gCons (gVar 9) gNil))))))) (sRet (gC (.bool false))) sNext)))
def g_law : S := (sSeq (sSet 2 (gCall sp_law_any_machine (gCons (gVar 1) gNil))) (sSeq (sSet 3 (gCall sp_law_rows_of (gCons (gVar 1) (gCons (gVar 2) gNil)))) (sSeq (sSet 4 (gCall sp_law_rows_of (gCons (gVar 1) (gCons (gVar 2) gNil)))) (sSeq (sSet 5 (gCall sp_throws_of (gCons (gVar 2) (gCons (gVar 3) gNil)))) (sSeq (sSet 6 (gCall sp_throws_of (gCons (gVar 2) (gCons (gVar 4) gNil)))) (sSeq (sIf (gOr (gTst (gOp2 pNe (gCallB pRepr (gCons (gVar 5) gNil)) (gCallB pRepr (gCons (gCall sp_law_due_table (gCons (gVar 2) (gCons (gVar 3) gNil))) gNil)))) (gTst (gOp2 pNe (gCallB pRepr (gCons (gVar 6) gNil)) (gCallB pRepr (gCons (gCall sp_law_due_table (gCons (gVar 2) (gCons (gVar 4) gNil))) gNil))))) (sRet (gC (.bool false))) sNext) (sSeq (sFor (giR1 (gCons (gC (.int 8)) gNil)) (tName 7) b_law_0) (sRet (gAndV (gCall sp_law_drawn_right (gCons (gVar 1) gNil)) (gOp2 pEq (gCallB pRepr (gCons (gCall sp_throws_of (gCons (gVar 2) (gCons (gVar 3) gNil))) gNil)) (gCallB pRepr (gCons (gVar 5) gNil))))))))))))
abbrev n_law : List Str := ["script", "source", "machine", "one", "other", "first", "second", "turn", "offer", "throws"]
theorem sc_law : FnScope ["script", "source", "machine", "one", "other", "first", "second", "turn", "offer", "throws"] ["script"] (defScope (top 42)) := ⟨rfl, rfl, rfl, by decide +kernel, rfl, by decide +kernel, by decide +kernel⟩
theorem hb_law {f : Addr} (T : Tx mg) (c_throws_of : Cal P w K mg base "throws_of" 6 sp_throws_of) (c_law_drawn_right : Cal P w K mg base "_law_drawn_right" 4 sp_law_drawn_right) (c_law_allowed_right : Cal P w K mg base "_law_allowed_right" 6 sp_law_allowed_right) (c_law_due_table : Cal P w K mg base "_law_due_table" 5 sp_law_due_table) (c_law_rows_of : Cal P w K mg base "_law_rows_of" 6 sp_law_rows_of) (c_law_any_machine : Cal P w K mg base "_law_any_machine" 8 sp_law_any_machine) : ∀ (cdv : Value) (A : Around) (outer : List Env) (s0 : Shared) (H : Hp) (E : XK), RoomG 8 (A.deeper (envOfC "law" (defScope (top 42)) s0.heap.objs.size f cdv)) → GSs (cxOf CX0 P w K mg base ["script", "source", "machine", "one", "other", "first", "second", "turn", "offer", "throws"] "law" (defScope (top 42)) f cdv A outer s0 H E).nox E0 ((defBody (top 42)).drop 1) g_law :=
  fun cdv A outer s0 H E hr => (gs_cons (gt_set (i := 2) sc_law.nd rfl (.inl rfl) (ge_cal c_law_any_machine hr (by decide) rfl (ga_cons (gv 1) ga_nil))) (gs_cons (gt_set (i := 3) sc_law.nd rfl (.inl rfl) (ge_cal c_law_rows_of hr (by decide) rfl (ga_cons (gv 1) (ga_cons (gv 2) ga_nil)))) (gs_cons (gt_set (i := 4) sc_law.nd rfl (.inl rfl) (ge_cal c_law_rows_of hr (by decide) rfl (ga_cons (gv 1) (ga_cons (gv 2) ga_nil)))) (gs_cons (gt_set (i := 5) sc_law.nd rfl (.inl rfl) (ge_cal c_throws_of hr (by decide) rfl (ga_cons (gv 2) (ga_cons (gv 3) ga_nil)))) (gs_cons (gt_set (i := 6) sc_law.nd rfl (.inl rfl) (ge_cal c_throws_of hr (by decide) rfl (ga_cons (gv 2) (ga_cons (gv 4) ga_nil)))) (gs_cons (gt_if (gw_pt (gw_or (gt_cmp (op_neA (hu64 hr)) r_ne (ge_callB (call_reprD hr) r_repr rfl T.repr (by decide +kernel) (ga_cons (gv 5) ga_nil)) (ge_callB (call_reprD hr) r_repr rfl T.repr (by decide +kernel) (ga_cons (ge_cal c_law_due_table hr (by decide) rfl (ga_cons (gv 2) (ga_cons (gv 3) ga_nil))) ga_nil)) (nomark _)) (gw_or1 (gt_cmp (op_neA (hu64 hr)) r_ne (ge_callB (call_reprD hr) r_repr rfl T.repr (by decide +kernel) (ga_cons (gv 6) ga_nil)) (ge_callB (call_reprD hr) r_repr rfl T.repr (by decide +kernel) (ga_cons (ge_cal c_law_due_table hr (by decide) rfl (ga_cons (gv 2) (ga_cons (gv 4) ga_nil))) ga_nil)) (nomark _))))) (gs_one (gt_ret ge_bl)) gs_nil) (gs_cons (gt_for PassesOwn.never rfl (pi_range1 rfl T.range (ga_cons ge_int ga_nil)) (it_range1 (fun _ _ _ h => h)) (gg_name (i := 7) sc_law.nd rfl (.inl rfl)) (gs_cons (gt_set (i := 8) sc_law.nd rfl (.inl rfl) (ge_if (gt_cmp op_gt r_ib (gv 7) ge_int (nomark _)) (gv 4) (gv 3))) (gs_cons (gt_set (i := 9) sc_law.nd rfl (.inl rfl) (ge_if (gt_cmp op_gt r_ib (gv 7) ge_int (nomark _)) (gv 6) (gv 5))) (gs_one (gt_if (gt_not (gt_val (ge_cal c_law_allowed_right hr (by decide) rfl (ga_cons (gv 1) (ga_cons (gv 2) (ga_cons (gv 8) (ga_cons (gv 9) ga_nil))))))) (gs_one (gt_ret ge_bl)) gs_nil))))) (gs_one (gt_ret (ge_and (ge_cal c_law_drawn_right hr (by decide) rfl (ga_cons (gv 1) ga_nil)) (ge_one (ge_cmp (op_eqA (hu64 hr)) r_eq (ge_callB (call_reprD hr) r_repr rfl T.repr (by decide +kernel) (ga_cons (ge_cal c_throws_of hr (by decide) rfl (ga_cons (gv 2) (ga_cons (gv 3) ga_nil))) ga_nil)) (ge_callB (call_reprD hr) r_repr rfl T.repr (by decide +kernel) (ga_cons (gv 5) ga_nil)) (nomark _)))))))))))))

theorem bind_draw {f : Addr} {fd : FuncData} (F : FunD K "_law_draw" "_law_draw" (defArgs (top 16)) (defBody (top 16)) (defScope (top 16)) [] [] f fd) : L2.Binds K fd ["source", "many"] [] := F.bindsN fun _ _ _ _ _ _ us hl => match us, hl with | [_, _], _ => rfl
theorem ok_some0 {f fD fM : Addr} {fd fdD fdM : FuncData} (T : Tx mg) (F : FunD K "_law_some" "_law_some" (defArgs (top 17)) (defBody (top 17)) (defScope (top 17)) [] [] f fd) (FD : FunD K "_law_draw" "_law_draw" (defArgs (top 16)) (defBody (top 16)) (defScope (top 16)) [] [] fD fdD) (FM : FunD K "_law_mixed" "_law_mixed" (defArgs (top 15)) (defBody (top 15)) (defScope (top 15)) [] [] fM fdM) (mM : mg "_law_mixed" = some (.ref fM)) (mD : mg "_law_draw" = some (.ref fD)) (m : mg "_law_some" = some (.ref f)) :
    CalV P w K mg base "_law_some" 3 (spSome0 K) := by
  have GD : FnOk P w K mg base CX0 2 fD fdD ["source", "many"] (spDraw0 K) := ok_draw0 T FD FM mM
  refine ⟨f, fd, ["source", "things"], FnG.of (F.ok sc_law_some (fun vs H Q E h => ?_) (fun cdv A outer s H vs Q E hr h => ⟨_, PSs.nox (pss_one (ps_ret (pe_ix ix_list (L2.pv 1) (pe_call GD hr rfl mD FD.kp (bind_draw FD) .nil pass0 (pa_cons (L2.pv 0) (pa_cons (pe_callB call_len_seq rfl T.len (by decide +kernel) (pa_cons (L2.pv 1) pa_nil)) pa_nil))) (fun _ _ => rfl)))), ?_⟩)), m, F.kp, F.bindsN fun _ _ _ _ _ _ us hl => match us, hl with | [_, _], _ => rfl⟩
  · obtain ⟨a, c, b, ns, n1, n2, n3, n4, n5, xs, rfl, _⟩ := h
    rfl
  · obtain ⟨a, c, b, ns, n1, n2, n3, n4, n5, xs, rfl, ha, hca, hc, hn1, hba, hb, h0, hl, k⟩ := h
    refine ⟨.ref b, rfl, .ref a, rfl, .ref b, rfl, ?_⟩
    refine ⟨b, xs, rfl, .inl (SqL.of hb), ?_⟩
    refine ⟨a, c, ns, n1, n2, n3, n4, n5, (xs.length : Int), rfl, ha, hca, hc, hn1, by omega, fun r H' n1' n2' n3' n4' n5' r0 r1 kp ha' h0' => ?_⟩
    have hr : r.toNat < xs.length := by omega
    exact ⟨b, xs, r, xs[r.toNat], rfl, rfl, SqL.of (kp b _ hb hba), atI_n r0 (List.getElem?_eq_getElem hr), k _ H' n1' n2' n3' n4' n5' (List.getElem_mem hr) kp ha' h0'⟩

end
end P
set_option Elab.async false
set_option linter.all false
set_option pp.deepTerms false
set_option pp.deepTerms.threshold 12
set_option pp.maxSteps 4000
set_option maxRecDepth 100000
set_option maxHeartbeats 4000000
namespace P
open PySem L2
local macro_rules | `(tactic| walk_at "w") => `(tactic| conv => whnf)
local macro_rules | `(tactic| walk_at "s") => `(tactic| ((conv => whnf); first | refine optP_intro rfl ?_ | refine And.intro rfl ?_ | refine And.intro True.intro ?_ | refine And.intro (okVs1 ⟨_, rfl⟩) ?_ | refine And.intro (okVs2 ⟨_, rfl⟩ ⟨_, rfl⟩) ?_ | refine iteB_t rfl ?_ | refine iteB_f rfl ?_ | refine And.intro (by with_reducible assumption) ?_ | refine And.intro (flat_ints _) ?_ | refine And.intro (by simp only [List.length_cons, List.length_nil]; decide) ?_))
local macro_rules | `(tactic| walk_at "g") => `(tactic| ((repeat (walk_at "s")); (try (conv => whnf))))
local macro_rules | `(tactic| walk_at "o") => `(tactic| ((conv => whnf); refine And.intro (by (try dsimp only); (try rw [sizeLine_val]); omega) ?_))
local macro_rules | `(tactic| walk_at "a") => `(tactic| ((repeat (first | walk_at "s" | walk_at "o")); (try (conv => whnf))))
local macro_rules | `(tactic| walk_at "m") => `(tactic| (repeat' (first | refine List.forall_mem_cons.mpr ⟨?_, ?_⟩ | exact fun _ h => nomatch h)))

theorem mv_row {m : Mach} (ho : m.Ok) {s : Nat} (hs : s < m.moves.length) : ∃ r, m.moves[s]? = some r ∧ r.length = m.kinds.length ∧ r ∈ m.moves := by
  refine ⟨_, List.getElem?_eq_getElem hs, ho.rows _ (List.getElem_mem hs), List.getElem_mem hs⟩
theorem mv_at {m : Mach} (ho : m.Ok) {s k : Nat} (hs : s < m.moves.length) (hk : k < m.kinds.length) : ∃ r x, m.moves[s]? = some r ∧ r[k]? = some x ∧ m.mv s k = x ∧ (∀ t c, x = some (t, c) → t < m.moves.length) := by
  obtain ⟨r, h1, h2, h3⟩ := mv_row ho hs
  refine ⟨r, r[k]'(by omega), h1, List.getElem?_eq_getElem (by omega), ?_, fun t c e => ho.tgt r h3 t c (by rw [← e]; exact List.getElem_mem _)⟩
  unfold Mach.mv
  rw [h1]
  simp [h2, hk]
theorem mv_tgt {m : Mach} (ho : m.Ok) {s k t : Nat} {c : Int} (e : m.mv s k = some (t, c)) : t < m.moves.length := by
  unfold Mach.mv at e
  cases h1 : m.moves[s]? with
  | none => rw [h1] at e; simp at e
  | some r =>
    rw [h1, Option.getD_some] at e
    cases h2 : r[k]? with
    | none => rw [h2] at e; cases e
    | some y =>
      rw [h2] at e
      rw [show y = some (t, c) from e] at h2
      exact ho.tgt r (List.mem_of_getElem? h1) t c (List.mem_of_getElem? h2)
theorem walk_lt {m : Mach} (ho : m.Ok) : ∀ (w : List Nat) (s : Nat) (f : Int), s < m.moves.length → WOk m w → ∀ t c, walkM m s f w = some (t, c) → t < m.moves.length
  | [], s, f, hs, _, t, c, e => by
    rw [walkM] at e
    cases e
    exact hs
  | k :: w, s, f, hs, hw, t, c, e => by
    obtain ⟨r, x, h1, h2, h3, h4⟩ := mv_at ho hs (hw k List.mem_cons_self)
    rw [walkM, h3] at e
    cases x with
    | none => cases e
    | some tc => exact walk_lt ho w tc.1 _ (h4 _ _ rfl) (fun k hk => hw k (List.mem_cons_of_mem _ hk)) t c e
theorem end_at {m : Mach} (ho : m.Ok) {t : Nat} (h : t < m.moves.length) : ∃ x, m.ends[t]? = some x := ⟨_, List.getElem?_eq_getElem (by rw [ho.ends]; exact h)⟩
theorem len_eq {xs : List D} {n : Nat} (h : n = xs.length) : (xs.length : Int) = (n : Nat) := by omega
theorem pf_law_some : ∀ cs Q, sp_law_some cs Q → g_law_some (startP n_law_some cs) { nx := fun _ => Q (.fz .none), rt := Q } := by
  rintro cs Q ⟨d, ds, rfl, hd, hn, hl, hq⟩
  have h0 : 0 < ds.length := List.length_pos_iff.mpr hn
  rcases hd with rfl | rfl
  all_goals
    walk_at "g"
    refine ⟨by omega, fun r r0 r1 => ?_⟩
    have hr : r.toNat < ds.length := by omega
    walk_at "g"
    refine optP_intro (atI_n r0 (List.getElem?_eq_getElem hr)) ?_
    refine ⟨rfl, ?_⟩
    exact hq _ (List.getElem_mem hr)
theorem pf_law_picks : ∀ cs Q, sp_law_picks cs Q → g_law_picks (startP n_law_picks cs) { nx := fun _ => Q (.fz .none), rt := Q } := by
  rintro cs Q ⟨d, ds, n, rfl, hd, h0, h1, hl, hq⟩
  have hm : (if (ds.length : Int) < n then (ds.length : Int) else n).toNat = min n.toNat ds.length := by split <;> omega
  rcases hd with rfl | rfl
  all_goals
    walk_at "g"
    refine ⟨by (try dsimp only); split <;> omega, by (try dsimp only); split <;> omega, ?_⟩
    walk_at "w"
    refine for_range' (fun i ρ => ∃ (l p : List D) (d5 : Option C), ρ = [some .orc, _, some (.fz (.int n)), some (.ls l), some (.ls p), d5] ∧ (p ++ l).Perm ds ∧ p.length = i) ⟨ds, [], _, rfl, List.Perm.refl _, rfl⟩ ?_ ?_
    · rintro i ρ K hi ⟨l, p, d5, rfl, hp, hpi⟩ hK
      have hll := hp.length_eq
      rw [List.length_append] at hll
      walk_at "g"
      refine ⟨by omega, fun r r0 r1 => ?_⟩
      walk_at "g"
      have hr : r.toNat < l.length := by (try dsimp only at hi); omega
      refine ⟨⟨by omega, by omega⟩, optP_intro (ixN_n r0 (by omega)) (optP_intro (List.getElem?_eq_getElem hr) ?_)⟩
      walk_at "g"
      refine ⟨by rw [sizeLine_val]; omega, ?_⟩
      refine hK _ ⟨l.eraseIdx r.toNat, p ++ [l[r.toNat]], _, rfl, ?_, by rw [List.length_append, hpi]; rfl⟩
      refine List.Perm.trans ?_ hp
      rw [List.append_assoc]
      exact List.Perm.append_left p (erase_perm l _ hr)
    · rintro ρ ⟨l, p, d5, rfl, hp, hpi⟩
      walk_at "g"
      exact hq p l hp (by rw [hpi]; exact hm)
theorem pf_law_names : ∀ cs Q, sp_law_names cs Q → g_law_names (startP n_law_names cs) { nx := fun _ => Q (.fz .none), rt := Q } := by
  rintro cs Q ⟨n, rfl, hn, hq⟩
  walk_at "g"
  refine ⟨_, poolN.map .str, n, rfl, .inl rfl, by omega, by omega, by decide, fun xs rest hp hl => ?_⟩
  obtain ⟨a, b, rfl, hab⟩ := perm_strs hp
  rw [List.length_map] at hl
  have e : (poolN.map PyData.str).length = 12 := rfl
  walk_at "g"
  exact hq a b hab (by rw [hl, e]; omega)
theorem pf_law_fare : ∀ cs Q, sp_law_fare cs Q → g_law_fare (startP n_law_fare cs) { nx := fun _ => Q (.fz .none), rt := Q } := by
  rintro cs Q ⟨rfl, hq⟩
  walk_at "g"
  refine ⟨_, [.int 0, .int 0, .int 1, .int 1, .int 2, .int 3, .int 4, .int 5, .int 7, .int 9, .int 20], rfl, .inl rfl, by decide, by decide, ?_⟩
  walk_at "m"
  all_goals
    walk_at "g"
    refine hq _ ?_ ?_ <;> decide
theorem nmF_mk {x : Str} (h : MkOk x) : NmF x := ⟨⟨x, [], "", 0⟩, ⟨h, ⟨by show 0 ≤ 2; decide, by simp⟩, ⟨.inl rfl, show 0 ≤ 20 by decide⟩⟩, (by show 0 ≤ 4; decide), rfl, by
  refine TL.ext_tl ?_
  unfold Part.name
  rw [TL.tl_append, bt_nil]
  exact (List.append_nil _).symm⟩
theorem nmF_slash {x : Str} (h : MkOk x) {v : Int} (hv : v = 0 ∨ v = 1) : NmF (x ++ "/" ++ Str.ofString (toString v)) := by
  obtain ⟨b, rfl, hb⟩ : ∃ b : Nat, v = b ∧ b < 100 := ⟨v.toNat, by omega, by omega⟩
  refine ⟨⟨x, [b], "", 0⟩, ⟨h, ⟨by show 1 ≤ 2; decide, fun l hl => by rw [List.mem_singleton] at hl; omega⟩, ⟨.inl rfl, show 0 ≤ 20 by decide⟩⟩, (by show 0 ≤ 4; decide), rfl, ?_⟩
  refine TL.ext_tl ?_
  unfold Part.name
  have e1 : TL.tl ("/" : Str) = [47] := by decide +kernel
  rw [TL.tl_append, TL.tl_append x "/", TL.tl_append, tl_bt, e1, List.append_assoc]
  exact (List.append_nil _).symm
theorem pool_mk : ∀ x ∈ poolN, MkOk x := by decide +kernel
theorem extra_mk : ∀ x ∈ (["m6", "m7", "m8", "m9", "m10", "m11"] : List Str), MkOk x := by decide +kernel
theorem pf_law_machine_names : ∀ cs Q, sp_law_machine_names cs Q → g_law_machine_names (startP n_law_machine_names cs) { nx := fun _ => Q (.fz .none), rt := Q } := by
  rintro cs Q ⟨n, rfl, hn, hq⟩
  walk_at "g"
  refine ⟨6, rfl, by decide, fun xs rest hp hl => ?_⟩
  have hx8 : ∀ x ∈ xs, x.length ≤ 8 := fun x hx => by
    exact (by decide : ∀ x ∈ poolN, x.length ≤ 8) x (hp.mem_iff.mp (List.mem_append_left rest hx))
  have hxm : ∀ x ∈ xs, MkOk x := fun x hx => pool_mk x (hp.mem_iff.mp (List.mem_append_left rest hx))
  walk_at "g"
  refine ⟨by decide, fun r r0 r1 => ?_⟩
  walk_at "g"
  refine iteB_i (fun h => ?_) (fun h => ?_)
  · walk_at "g"
    refine ⟨by rw [sizeLine_val, List.length_map, hl]; decide, ?_⟩
    walk_at "g"
    rw [cut_to _ rfl]
    show Q (.fz (.tuple ((xs.map PyData.str ++ (["m6", "m7", "m8", "m9", "m10", "m11"] : List Str).map PyData.str).take n)))
    rw [← List.map_append, ← List.map_take]
    refine hq _ ?_ (fun x hx => ?_) fun x hx => ?_
    · rw [List.length_take, List.length_append, hl]
      show min n 12 = n
      omega
    rotate_left
    · rcases List.mem_append.mp (List.mem_of_mem_take hx) with h | h
      · exact nmF_mk (hxm x h)
      · exact nmF_mk (extra_mk x h)
    · rcases List.mem_append.mp (List.mem_of_mem_take hx) with h | h
      · exact Nat.le_trans (hx8 x h) (by decide)
      · exact (by decide : ∀ x ∈ (["m6", "m7", "m8", "m9", "m10", "m11"] : List Str), x.length ≤ 20) x h
  · walk_at "g"
    refine ⟨by omega, by omega, ?_⟩
    walk_at "g"
    refine lc_rel (fun _ _ x => ∃ s : Str, x = .str s ∧ s.length ≤ 20 ∧ NmF s) (by rw [rangeD_length]; omega) (fun i d acc Y N e hl' hY => ?_) fun ys hly hR => ?_
    · obtain ⟨hi, rfl⟩ := rangeD_at e
      walk_at "g"
      have q : (0 + (i : Int)).fdiv 2 = ((i / 2 : Nat) : Int) := by rw [Int.fdiv_eq_ediv_of_nonneg _ (by decide)]; omega
      have hv : (0 + (i : Int)) - (0 + (i : Int)).fdiv 2 * 2 = 0 ∨ (0 + (i : Int)) - (0 + (i : Int)).fdiv 2 * 2 = 1 := by rw [q]; omega
      have hx : i / 2 < xs.length := by omega
      have h8 := hx8 _ (List.getElem_mem hx)
      refine ⟨⟨by decide, by decide⟩, ?_⟩
      walk_at "w"
      refine optP_intro (at_mapE q (List.getElem?_eq_getElem hx)) ?_
      walk_at "w"
      refine ⟨by rw [sizeLine_val]; show xs[i / 2].length + 1 ≤ 16777216; omega, ?_⟩
      walk_at "w"
      refine ⟨⟨by decide, by decide⟩, ?_⟩
      walk_at "w"
      refine ⟨.inr ⟨by decide, by decide⟩, ?_⟩
      walk_at "w"
      refine ⟨by (try dsimp only); rcases hv with h | h <;> rw [h] <;> decide, ?_⟩
      walk_at "w"
      have e1 : (Str.ofString (toString ((0 + (i : Int)) - (0 + (i : Int)).fdiv 2 * 2))).length = 1 := by rcases hv with h | h <;> rw [h] <;> rfl
      have e2 : (Str.ofString "/").length = 1 := rfl
      refine ⟨?_, ?_⟩
      · rw [sizeLine_val]
        show (xs[i / 2] ++ "/").length + (toString ((0 + (i : Int)) - (0 + (i : Int)).fdiv 2 * 2) : Str).length ≤ 16777216
        rw [PySem.Str.length_append, e2, e1]
        omega
      walk_at "g"
      exact hY _ ⟨_, rfl, (by rw [PySem.Str.length_append, PySem.Str.length_append]; have := e1; have := e2; show xs[i / 2].length + (Str.ofString "/").length + (Str.ofString (toString ((0 + (i : Int)) - (0 + (i : Int)).fdiv 2 * 2))).length ≤ 20; omega), nmF_slash (hxm _ (List.getElem_mem hx)) hv⟩
    · rw [rangeD_length] at hly
      obtain ⟨zs, rfl, hz, hP⟩ := pics_relP PyData.str (fun _ s => s.length ≤ 20 ∧ NmF s) (by rw [rangeD_length]; exact hly) hR
      rw [rangeD_length] at hz
      walk_at "g"
      exact hq zs (by omega) (fun x hx => by
        obtain ⟨j, hj⟩ := List.mem_iff_getElem?.mp hx
        exact (hP j x hj).1) fun x hx => by
        obtain ⟨j, hj⟩ := List.mem_iff_getElem?.mp hx
        exact (hP j x hj).2
/-! ### tables of moves under way -/
abbrev Rw := List (Option (Nat × Int))
structure RowsOk (n k : Nat) (rows : List Rw) : Prop where
  len : rows.length = n
  row : ∀ r ∈ rows, r.length = k
  tgt : ∀ r ∈ rows, ∀ t c, some (t, c) ∈ r → t < n
  fare : ∀ r ∈ rows, ∀ t c, some (t, c) ∈ r → 0 ≤ c
def enc (rows : List Rw) : List (List D) := rows.map fun r => r.map eMv
def cnt : List Rw → Nat
  | [] => 0
  | r :: rows => r.countP Option.isSome + cnt rows
theorem RowsOk.init (n k : Nat) : RowsOk n k (List.replicate n (List.replicate k none)) :=
  ⟨List.length_replicate, fun r hr => by rw [List.eq_of_mem_replicate hr]; exact List.length_replicate, fun r hr t c h => (by rw [List.eq_of_mem_replicate hr] at h; have h := List.eq_of_mem_replicate h; cases h), fun r hr t c h => (by rw [List.eq_of_mem_replicate hr] at h; have h := List.eq_of_mem_replicate h; cases h)⟩
theorem enc_init (n k : Nat) (a b : Int) : (rangeD a n).map (fun _ => (rangeD b k).map fun _ => PyData.none) = enc (List.replicate n (List.replicate k none)) := by
  rw [map_rep, map_rep, rangeD_length, rangeD_length]
  unfold enc
  rw [List.map_replicate, List.map_replicate]
  rfl
theorem cnt_init (n k : Nat) : cnt (List.replicate n (List.replicate k none)) = 0 := by
  induction n with
  | zero => rfl
  | succ n ih =>
    rw [List.replicate_succ, cnt, ih]
    have : (List.replicate k (none : Option (Nat × Int))).countP Option.isSome = 0 := List.countP_eq_zero.mpr fun x hx => by rw [List.eq_of_mem_replicate hx]; exact Bool.false_ne_true
    omega
theorem RowsOk.get {n k : Nat} {rows : List Rw} (h : RowsOk n k rows) {e : Nat} (he : e < n) : ∃ r, rows[e]? = some r ∧ r.length = k ∧ r ∈ rows := by
  have := h.len
  exact ⟨_, List.getElem?_eq_getElem (by omega), h.row _ (List.getElem_mem _), List.getElem_mem (by omega)⟩
theorem enc_get {rows : List Rw} {e : Nat} {r : Rw} (h : rows[e]? = some r) : (enc rows)[e]? = some (r.map eMv) := by unfold enc; rw [List.getElem?_map, h]; rfl
theorem enc_at {rows : List Rw} {z : Int} {e : Nat} {r : Rw} (hz : z = (e : Nat)) (h : rows[e]? = some r) : L2.atI (enc rows) z = some (r.map eMv) := by rw [hz]; exact atI_nat (enc_get h)
theorem enc_len {rows : List Rw} : (enc rows).length = rows.length := by unfold enc; exact List.length_map _
theorem enc_set (rows : List Rw) (e kd : Nat) (r : Rw) (x : Option (Nat × Int)) : (enc rows).set e ((r.map eMv).set kd (eMv x)) = enc (rows.set e (r.set kd x)) := by
  unfold enc
  rw [List.map_set, List.map_set]
theorem RowsOk.set {n k : Nat} {rows : List Rw} (h : RowsOk n k rows) {e : Nat} {r : Rw} (hr : rows[e]? = some r) (kd t : Nat) (c : Int) (ht : t < n) (hc : 0 ≤ c) : RowsOk n k (rows.set e (r.set kd (some (t, c)))) := by
  have hm := List.mem_of_getElem? hr
  refine ⟨by rw [List.length_set]; exact h.len, fun q hq => ?_, fun q hq t' c' hx => ?_, fun q hq t' c' hx => ?_⟩
  · rcases List.mem_or_eq_of_mem_set hq with h1 | rfl
    · exact h.row q h1
    · rw [List.length_set]; exact h.row r hm
  · rcases List.mem_or_eq_of_mem_set hq with h1 | rfl
    · exact h.tgt q h1 t' c' hx
    · rcases List.mem_or_eq_of_mem_set hx with h2 | h2
      · exact h.tgt r hm t' c' h2
      · cases h2; exact ht
  · rcases List.mem_or_eq_of_mem_set hq with h1 | rfl
    · exact h.fare q h1 t' c' hx
    · rcases List.mem_or_eq_of_mem_set hx with h2 | h2
      · exact h.fare r hm t' c' h2
      · cases h2; exact hc
theorem countP_set (r : Rw) (kd : Nat) (x : Option (Nat × Int)) : (r.set kd x).countP Option.isSome ≤ r.countP Option.isSome + 1 := by
  induction r generalizing kd with
  | nil => simp
  | cons a r ih =>
    cases kd with
    | zero =>
      rw [List.set_cons_zero, List.countP_cons, List.countP_cons]
      split <;> split <;> omega
    | succ kd =>
      rw [List.set_cons_succ, List.countP_cons, List.countP_cons]
      have := ih kd
      omega
theorem cnt_set {rows : List Rw} {e : Nat} {r : Rw} (hr : rows[e]? = some r) (kd : Nat) (x : Option (Nat × Int)) : cnt (rows.set e (r.set kd x)) ≤ cnt rows + 1 := by
  induction rows generalizing e with
  | nil => cases hr
  | cons a rows ih =>
    cases e with
    | zero =>
      have hr : a = r := by simpa using hr
      subst hr
      rw [List.set_cons_zero, cnt, cnt]
      have := countP_set a kd x
      omega
    | succ e =>
      rw [List.set_cons_succ, cnt, cnt]
      have := ih (e := e) (by simpa using hr)
      omega
theorem cnt_full {rows : List Rw} {k s : Nat} (hk : 1 ≤ k) (hr : ∀ r ∈ rows, r.length = k) (hs : s ≤ rows.length) (h : ∀ e r, e < s → rows[e]? = some r → ∀ c ∈ r, c ≠ none) : s ≤ cnt rows := by
  induction rows generalizing s with
  | nil => simpa [cnt] using hs
  | cons a rows ih =>
    cases s with
    | zero => exact Nat.zero_le _
    | succ s =>
      rw [cnt]
      have h1 := ih (s := s) (fun r hr' => hr r (List.mem_cons_of_mem _ hr')) (by simpa using hs) (fun e r he hr' => h (e + 1) r (by omega) (by simpa using hr'))
      have h2 : a.countP Option.isSome = a.length := List.countP_eq_length.mpr fun c hc => by
        have := h 0 a (by omega) rfl c hc
        cases c with
        | none => exact (this rfl).elim
        | some _ => rfl
      have h3 := hr a List.mem_cons_self
      omega
theorem enc_setE (rows : List Rw) (e kd : Nat) (r : Rw) {x : Option (Nat × Int)} {d : D} (h : d = eMv x) : enc (rows.set e (r.set kd x)) = (enc rows).set e ((r.map eMv).set kd d) := by rw [h]; exact (enc_set rows e kd r x).symm
theorem eMvE {z : Int} {t : Nat} {c : Int} (h : z = (t : Nat)) : PyData.tuple [.int z, .int c] = eMv (some (t, c)) := by subst h; rfl
def cellR (rows : List Rw) (e k : Nat) : Option (Nat × Int) := ((rows[e]?.getD [])[k]?).getD none
/-- each state up to i has a row ahead of it that leads there -/
def TreeR (rows : List Rw) (i : Nat) : Prop := ∀ s, 0 < s → s ≤ i → ∃ e k c, e < s ∧ cellR rows e k = some (s, c)
theorem cellR_set {rows : List Rw} {e kd : Nat} {r : Rw} {x : Option (Nat × Int)} (hr : rows[e]? = some r) (hk : kd < r.length) : cellR (rows.set e (r.set kd x)) e kd = x := by
  have he := (List.getElem?_eq_some_iff.mp hr).1
  unfold cellR
  simp [he, hk]
theorem cellR_row {rows : List Rw} {e e' kd : Nat} {r : Rw} (h : e' ≠ e) (k : Nat) : cellR (rows.set e r) e' k = cellR rows e' k := by
  unfold cellR
  rw [List.getElem?_set_ne h.symm]
theorem cellR_ne {rows : List Rw} {e kd : Nat} {r : Rw} {x : Option (Nat × Int)} (hr : rows[e]? = some r) {e' k : Nat} (h : e' ≠ e ∨ k ≠ kd) : cellR (rows.set e (r.set kd x)) e' k = cellR rows e' k := by
  by_cases he : e' = e
  · subst he
    have hk : k ≠ kd := by rcases h with h | h; exact absurd rfl h; exact h
    have hl := (List.getElem?_eq_some_iff.mp hr).1
    unfold cellR
    rw [List.getElem?_set_self hl, hr, Option.getD_some, Option.getD_some, List.getElem?_set_ne hk.symm]
  · exact cellR_row (kd := kd) he k
/-- a free place is filled -/
theorem TreeR.put {rows : List Rw} {i e kd : Nat} {r : Rw} {x : Option (Nat × Int)} (h : TreeR rows i) (hr : rows[e]? = some r) (hn : r[kd]? = some none) : TreeR (rows.set e (r.set kd x)) i := by
  intro s h0 hs
  obtain ⟨e', k, c, he, hc⟩ := h s h0 hs
  refine ⟨e', k, c, he, ?_⟩
  rw [cellR_ne hr, hc]
  by_cases h1 : e' = e
  · subst h1
    refine .inr fun hk => ?_
    subst hk
    unfold cellR at hc
    rw [hr, Option.getD_some, hn] at hc
    cases hc
  · exact .inl h1
/-- .. of a row behind -/
theorem TreeR.row {rows : List Rw} {i e : Nat} {r : Rw} (h : TreeR rows i) (he : i ≤ e) : TreeR (rows.set e r) i := by
  intro s h0 hs
  obtain ⟨e', k, c, he', hc⟩ := h s h0 hs
  exact ⟨e', k, c, he', by rw [cellR_row (kd := 0) (by omega)]; exact hc⟩
theorem TreeR.grow {rows : List Rw} {i e kd : Nat} {r : Rw} {c : Int} (h : TreeR (rows.set e (r.set kd (some (i + 1, c)))) i) (hr : rows[e]? = some r) (hk : kd < r.length) (he : e ≤ i) : TreeR (rows.set e (r.set kd (some (i + 1, c)))) (i + 1) := by
  intro s h0 hs
  by_cases q : s = i + 1
  · subst q
    exact ⟨e, kd, c, by omega, cellR_set hr hk⟩
  · exact h s h0 (by omega)
theorem TreeR.zero (rows : List Rw) : TreeR rows 0 := fun s h0 hs => by omega
theorem TreeR.tree {m : Mach} {n : Nat} (h : TreeR m.moves n) (hn : m.moves.length = n + 1) : m.Tree := fun s h0 hs => h s h0 (by omega)
theorem mach_of {n k : Nat} {rows : List Rw} {ns ks rest : List Str} {os : List (Option Int)} {fee : Int} (hr : RowsOk n k rows) (hns : ns.length = n) (ho : os.length = n) (hp : (ks ++ rest).Perm poolN) (hks : ks.length = k) (hn20 : ∀ x ∈ ns, x.length ≤ 20) (hnf : ∀ x ∈ ns, NmF x) (ho0 : ∀ c, some c ∈ os → 0 ≤ c) (hf0 : 0 ≤ fee) (n1 : 1 ≤ n) (n2 : n ≤ 12) (k1 : 1 ≤ k) (k2 : k ≤ 8) : ∃ m : Mach, m.Ok ∧ m.d = .tuple [.tuple (ks.map .str), .tuple (ns.map .str), .tuple (((enc rows).map PyData.list).map (fun d => match d with
    | .list xs => .tuple xs
    | d => d)), .tuple (os.map eO), .int fee, .tuple ((ns.map PyData.str).map fun _ => PyData.int 0)] ∧ m.moves.length = n ∧ m.kinds.length = k ∧ (∀ x ∈ m.kinds, x.length ≤ 8) ∧ m.moves = rows ∧ ∀ p ∈ m.places, p = 0 := by
  have k8 : ∀ x ∈ ks, x.length ≤ 8 := fun x hx => (by decide : ∀ x ∈ poolN, x.length ≤ 8) x (hp.mem_iff.mp (List.mem_append_left rest hx))
  have hl := hr.len
  have et : ((enc rows).map PyData.list).map (fun d => match d with
    | .list xs => .tuple xs
    | d => d) = rows.map eRow := by
    unfold enc
    rw [List.map_map, List.map_map]
    rfl
  have ez : (ns.map fun _ => (0 : Int)).map PyData.int = (ns.map PyData.str).map fun _ => PyData.int 0 := by rw [List.map_map, List.map_map]; rfl
  refine ⟨⟨ks, ns, rows, os, fee, ns.map fun _ => 0⟩, ⟨by show 0 < rows.length; omega, by show rows.length ≤ 12; omega, by show 0 < ks.length; omega, by show ks.length ≤ 8; omega, fun x hx => Nat.le_trans (k8 x hx) (by decide), fun r h => by rw [hr.row r h]; exact hks.symm, fun r h t c hx => by show t < rows.length; rw [hl]; exact hr.tgt r h t c hx, by show os.length = rows.length; omega, by show ns.length = rows.length; omega, by show (ns.map fun _ => (0 : Int)).length = rows.length; rw [List.length_map]; omega, hn20, fun r h t c hx => hr.fare r h t c hx, ho0, hf0, hnf⟩, ?_, hl, hks, k8, rfl, fun p hp => by obtain ⟨_, _, rfl⟩ := List.mem_map.mp hp; rfl⟩
  rw [et, ← ez]
  rfl
def eM (n k : Nat) (rows : List Rw) (d4 : Option D) (d5 d6 d7 : Option C) (d8 : Option D) : PEnv := [some .orc, some (.fz (.int (n : Nat))), some (.fz (.int (k : Nat))), some (.ll (enc rows)), d4.map .fz, d5, d6, d7, d8.map .fz, none, none, none, none, none]
/-- a free place of the rows before j -/
def Fit (k j : Nat) (rows : List Rw) (x : D) : Prop := ∃ (e kd : Nat) (r : Rw), x = .tuple [.int (e : Nat), .int (kd : Nat)] ∧ e < j ∧ kd < k ∧ rows[e]? = some r ∧ r[kd]? = some none
theorem pf_law_machine_sized : ∀ cs Q, sp_law_machine_sized cs Q → g_law_machine_sized (startP n_law_machine_sized cs) { nx := fun _ => Q (.fz .none), rt := Q } := by
  rintro cs Q ⟨n, k, rfl, n1, n2, k1, k2, hq⟩
  walk_at "a"
  refine lcR_map (fun _ => (rangeD 0 k).map fun _ => PyData.none) (by rw [rangeD_length]; omega) (fun d acc Y hd hl hY => ?_) ?_
  · walk_at "a"
    rw [Int.toNat_natCast]
    refine lc_map (fun _ => PyData.none) (by rw [rangeD_length]; omega) (fun d acc Y N hd hl hY => ?_) ?_
    · walk_at "g"
      exact hY
    · walk_at "g"
      exact hY
  rw [Int.toNat_natCast, enc_init]
  walk_at "a"
  refine for_range' (fun i ρ => ∃ (rows : List Rw) (d4 : Option D) (d5 d6 d7 : Option C) (d8 : Option D), ρ = eM n k rows d4 d5 d6 d7 d8 ∧ RowsOk n k rows ∧ cnt rows ≤ i ∧ TreeR rows i) ⟨_, none, _, _, _, none, rfl, RowsOk.init n k, Nat.le_of_eq (cnt_init n k), TreeR.zero _⟩ ?_ ?_
  · rintro i ρ K hi ⟨rows, d4, d5, d6, d7, d8, rfl, hr, hc, htr⟩ hK
    walk_at "a"
    have e1 : (1 + (i : Int)).toNat = i + 1 := by omega
    rw [e1]
    refine for_range' (fun j ρ => ∃ (fl : List D) (d6 d7 : Option C) (d8 : Option D), ρ = eM n k rows (some (.int (1 + (i : Nat)))) (some (.ls fl)) d6 d7 d8 ∧ (∀ x ∈ fl, Fit k j rows x) ∧ fl.length ≤ j * k ∧ (fl = [] → ∀ e r, e < j → rows[e]? = some r → ∀ c ∈ r, c ≠ none)) ⟨[], _, _, _, rfl, (fun _ h => nomatch h), Nat.zero_le _, fun _ e r h => absurd h (Nat.not_lt_zero _)⟩ ?_ ?_
    · rintro j ρ K hj ⟨fl, d6, d7, d8, rfl, hf, hfl, hfe⟩ hK
      obtain ⟨r, hr1, hr2, hr3⟩ := hr.get (e := j) (by omega)
      walk_at "a"
      rw [Int.toNat_natCast]
      refine lc_inv (fun t acc => acc.length ≤ t ∧ (∀ x ∈ acc, Fit k (j + 1) rows x) ∧ (acc = [] → ∀ e c, e < t → r[e]? = some c → c ≠ none)) ⟨Nat.zero_le _, (fun _ h => nomatch h), fun _ e r h => absurd h (Nat.not_lt_zero _)⟩ (fun t d acc Y N e ⟨a1, a2, a3⟩ hY hN => ?_) ?_
      · obtain ⟨ht, rfl⟩ := rangeD_at e
        have hx : t < r.length := by omega
        walk_at "g"
        refine optP_intro (enc_at (e := j) (by omega) hr1) ?_
        walk_at "g"
        refine optP_intro (at_mapE (n := t) (by omega) (List.getElem?_eq_getElem hx)) ?_
        cases hb : r[t] with
        | none =>
          walk_at "g"
          refine ⟨by rw [sizeLine_val]; omega, hY _ ⟨by rw [List.length_append]; show acc.length + 1 ≤ t + 1; omega, fun x hx => ?_, fun h => absurd h (by simp)⟩⟩
          rcases List.mem_append.mp hx with h | h
          · exact a2 x h
          · rw [List.mem_singleton] at h
            subst h
            exact ⟨j, t, r, by rw [Int.zero_add, Int.zero_add], by omega, by omega, hr1, by rw [List.getElem?_eq_getElem (show t < r.length by omega), hb]⟩
        | some tc =>
          walk_at "g"
          refine hN ⟨by omega, a2, fun h e c he hc => ?_⟩
          by_cases hte : e = t
          · subst hte
            rw [List.getElem?_eq_getElem hx, hb] at hc
            cases hc
            simp
          · exact a3 h e c (by omega) hc
      · rintro acc ⟨a1, a2, a3⟩
        rw [rangeD_length] at a1 a3
        have hb : j * k ≤ 12 * 8 := Nat.mul_le_mul (by omega) k2
        walk_at "g"
        refine ⟨by rw [sizeLine_val]; omega, ?_⟩
        walk_at "g"
        refine hK _ ⟨fl ++ acc, _, _, _, rfl, fun x hx => ?_, by rw [List.length_append, Nat.succ_mul]; omega, fun h e r' he hr' c hc => ?_⟩
        · rcases List.mem_append.mp hx with h | h
          · obtain ⟨e, kd, r', h3, h1, h2⟩ := hf x h
            exact ⟨e, kd, r', h3, by omega, h2⟩
          · exact a2 x h
        · obtain ⟨h1, h2⟩ := List.append_eq_nil_iff.mp h
          by_cases hej : e = j
          · subst hej
            rw [hr1] at hr'
            cases hr'
            obtain ⟨t, ht, rfl⟩ := List.mem_iff_getElem.mp hc
            exact a3 h2 t _ (by omega) (List.getElem?_eq_getElem ht)
          · exact hfe h1 e r' (by omega) hr' c hc
    · rintro ρ ⟨fl, d6, d7, d8, rfl, hf, hfl, hfe⟩
      have hb : (i + 1) * k ≤ 12 * 8 := Nat.mul_le_mul (by omega) k2
      walk_at "g"
      refine ⟨_, fl, rfl, .inr rfl, fun h => ?_, by omega, fun x hx => ?_⟩
      · have := cnt_full k1 hr.row (s := i + 1) (by rw [hr.len]; omega) (hfe h)
        omega
      · obtain ⟨e, kd, r, rfl, h1, h2, hr1, hfree⟩ := hf x hx
        have hr2 := hr.row r (List.mem_of_getElem? hr1)
        walk_at "g"
        refine fun fee f0 f1 => ?_
        walk_at "g"
        refine optP_intro (ixN_E (j := e) rfl (by rw [enc_len, hr.len]; omega)) ?_
        walk_at "w"
        refine optP_intro (enc_get hr1) ?_
        walk_at "g"
        refine optP_intro (ixN_E (j := kd) rfl (by rw [List.length_map]; omega)) ?_
        refine hK _ ⟨rows.set e (r.set kd (some (i + 1, fee))), some (.int (1 + (i : Nat))), some (.fz (.list fl)), d6, some (.fz (.tuple [.int (e : Nat), .int (kd : Nat)])), d8, ?_, hr.set hr1 kd (i + 1) fee (by omega) f0, by have := cnt_set hr1 kd (some (i + 1, fee)); omega, (htr.put hr1 hfree).grow hr1 (by omega) (by omega)⟩
        unfold eM
        rw [enc_setE rows e kd r (eMvE (z := 1 + (i : Int)) (c := fee) (by omega))]
        rfl
  · rintro ρ ⟨rows, d4, d5, d6, d7, d8, rfl, hr, hc, htr⟩
    clear hc
    rw [show ((n : Int) - 1).toNat = n - 1 by omega] at htr
    walk_at "a"
    rw [Int.toNat_natCast]
    refine for_range' (fun i ρ => ∃ (rows : List Rw) (d4 : Option D) (d5 d6 d7 : Option C) (d8 : Option D), ρ = eM n k rows d4 d5 d6 d7 d8 ∧ RowsOk n k rows ∧ TreeR rows (n - 1)) ⟨rows, d4, d5, d6, d7, d8, rfl, hr, htr⟩ ?_ ?_
    · rintro i ρ K hi ⟨rows, d4, d5, d6, d7, d8, rfl, hr, htr⟩ hK
      walk_at "a"
      rw [Int.toNat_natCast]
      refine for_range' (fun j ρ => ∃ (rows : List Rw) (d8 : Option D), ρ = eM n k rows (some (.int (0 + (i : Nat)))) d5 d6 d7 d8 ∧ RowsOk n k rows ∧ TreeR rows (n - 1)) ⟨rows, d8, rfl, hr, htr⟩ ?_ ?_
      · rintro j ρ K hj ⟨rows, d8, rfl, hr, htr⟩ hK
        obtain ⟨r, hr1, hr2, hr3⟩ := hr.get hi
        have hx : j < r.length := by omega
        walk_at "g"
        refine optP_intro (enc_at (e := i) (by omega) hr1) ?_
        walk_at "g"
        refine optP_intro (at_mapE (n := j) (by omega) (List.getElem?_eq_getElem hx)) ?_
        cases hb : r[j] with
        | some tc =>
          walk_at "g"
          exact hK _ ⟨rows, some _, rfl, hr, htr⟩
        | none =>
          walk_at "g"
          refine ⟨by decide, fun z z0 z1 => ?_⟩
          walk_at "w"
          refine iteB_i (fun h => ?_) (fun h => ?_)
          · walk_at "g"
            refine ⟨by omega, fun t t0 t1 => ?_⟩
            walk_at "g"
            refine fun fee f0 f1 => ?_
            walk_at "g"
            refine optP_intro (ixN_E (j := i) (by omega) (by rw [enc_len, hr.len]; omega)) ?_
            walk_at "w"
            refine optP_intro (enc_get hr1) ?_
            walk_at "g"
            refine optP_intro (ixN_E (j := j) (by omega) (by rw [List.length_map]; omega)) ?_
            refine hK _ ⟨rows.set i (r.set j (some (t.toNat, fee))), some (.int (0 + (j : Nat))), ?_, hr.set hr1 j t.toNat fee (by omega) f0, htr.put hr1 (by rw [List.getElem?_eq_getElem hx, hb])⟩
            unfold eM
            rw [enc_setE rows i j r (eMvE (z := t) (c := fee) (by omega))]
            rfl
          · walk_at "g"
            exact hK _ ⟨rows, some _, rfl, hr, htr⟩
      · rintro ρ ⟨rows, d8, rfl, hr, htr⟩
        exact hK _ ⟨rows, _, _, _, _, d8, rfl, hr, htr⟩
    · rintro ρ ⟨rows, d4, d5, d6, d7, d8, rfl, hr, htr⟩
      walk_at "a"
      rw [Int.toNat_natCast]
      refine lc_rel (fun _ _ x => ∃ o : Option Int, x = eO o ∧ ∀ c, o = some c → 0 ≤ c) (by rw [rangeD_length]; omega) (fun i d acc Y N e hl hY => ?_) fun ys hly hR => ?_
      · walk_at "g"
        refine ⟨by decide, fun z z0 z1 => ?_⟩
        walk_at "w"
        refine iteB_i (fun h => ?_) (fun h => ?_)
        · walk_at "g"
          refine fun fee f0 f1 => ?_
          walk_at "g"
          exact hY _ ⟨some fee, rfl, fun c h => by cases h; exact f0⟩
        · walk_at "g"
          exact hY _ ⟨none, rfl, by simp⟩
      · obtain ⟨os, rfl, ho, hoP⟩ := pics_relP eO (fun _ o => ∀ c, o = some c → 0 ≤ c) hly hR
        have ho0 : ∀ c, some c ∈ os → 0 ≤ c := fun c h => by
          obtain ⟨j, hj⟩ := List.mem_iff_getElem?.mp h
          exact hoP j _ hj c rfl
        clear hoP hR hly
        rw [rangeD_length] at ho
        walk_at "g"
        refine ⟨by decide, fun z z0 z1 => ?_⟩
        walk_at "w"
        refine sIf_next (fun ρ => ∃ os : List (Option Int), os.length = n ∧ (∀ c, some c ∈ os → 0 ≤ c) ∧ ρ = (eM n k rows d4 d5 d6 d7 d8).set 9 (some (.ls (os.map eO)))) (fun h K hK => ?_) (fun h => ⟨os, ho, ho0, rfl⟩) ?_
        · walk_at "g"
          refine fun fee f0 f1 => ?_
          walk_at "g"
          refine ⟨by omega, fun t t0 t1 => ?_⟩
          walk_at "g"
          refine optP_intro (ixN_E (j := t.toNat) (by omega) (by rw [List.length_map]; omega)) ?_
          have es : (os.set t.toNat (some fee)).map eO = (os.map eO).set t.toNat (.int fee) := by rw [List.map_set]; rfl
          refine hK _ ⟨os.set t.toNat (some fee), by rw [List.length_set]; exact ho, fun c h => ?_, ?_⟩
          · rcases List.mem_or_eq_of_mem_set h with h | h
            · exact ho0 c h
            · cases h; exact f0
          rw [es]
          rfl
        rintro ρ ⟨os, ho, ho0, rfl⟩
        walk_at "g"
        refine ⟨n, rfl, n2, fun ns hns hns20 hnf => ?_⟩
        walk_at "g"
        refine lc_map (fun d => match d with
          | .list xs => .tuple xs
          | d => d) (by rw [List.length_map, enc_len, hr.len]; omega) (fun d acc Y N hd hl hY => ?_) ?_
        · obtain ⟨xs, hxs, rfl⟩ := List.mem_map.mp hd
          walk_at "g"
          exact hY
        walk_at "g"
        refine ⟨k, rfl, by omega, fun ks rest hp hks => ?_⟩
        walk_at "g"
        refine fun fee f0 f1 => ?_
        walk_at "g"
        refine lc_map (fun _ => PyData.int 0) (by rw [List.length_map]; omega) (fun d acc Y N hd hl hY => ?_) ?_
        · walk_at "g"
          exact hY
        walk_at "g"
        obtain ⟨m, hom, he, hm1, hm2, hm3, hm4, hm5⟩ := mach_of hr hns ho hp hks hns20 hnf ho0 f0 n1 n2 k1 k2
        have q := hq m hom (TreeR.tree (n := n - 1) (by rw [hm4]; exact htr) (by omega)) hm1 hm2 hm3 hm5
        rw [he] at q
        exact q
theorem sp_mz {L : List C} {QQ : Mach → Prop} (z y : Int) (hL : L = [.orc, .fz (.int z), .fz (.int y)]) (h1 : 1 ≤ z) (h2 : z ≤ 12) (h3 : 1 ≤ y) (h4 : y ≤ 8) (hq : ∀ m : Mach, m.Ok → m.Tree → m.kinds.length = y.toNat → (∀ x ∈ m.kinds, x.length ≤ 8) → (∀ p ∈ m.places, p = 0) → QQ m) : ∃ n k : Nat, L = [.orc, .fz (.int (n : Nat)), .fz (.int (k : Nat))] ∧ 1 ≤ n ∧ n ≤ 12 ∧ 1 ≤ k ∧ k ≤ 8 ∧ ∀ m : Mach, m.Ok → m.Tree → m.moves.length = n → m.kinds.length = k → (∀ x ∈ m.kinds, x.length ≤ 8) → (∀ p ∈ m.places, p = 0) → QQ m :=
  ⟨z.toNat, y.toNat, by rw [Int.toNat_of_nonneg (by omega), Int.toNat_of_nonneg (by omega)]; exact hL, by omega, by omega, by omega, by omega, fun m ho ht _ hk h8 hz => hq m ho ht hk h8 hz⟩
/-- from a list of ints -/
theorem sp_ints {L : List C} {QQ : D → Prop} (is : List Int) (hL : L = [.orc, .fz (.tuple (is.map .int))]) (hn : is ≠ []) (hl : is.length ≤ 100) (h : ∀ i ∈ is, QQ (.int i)) : ∃ (d : D) (ds : List D), L = [.orc, .fz d] ∧ seqOf d ds ∧ ds ≠ [] ∧ ds.length ≤ 1000000 ∧ ∀ x ∈ ds, QQ x := by
  refine ⟨_, is.map .int, hL, .inl rfl, by simpa using hn, by rw [List.length_map]; omega, fun x hx => ?_⟩
  obtain ⟨i, hi, rfl⟩ := List.mem_map.mp hx
  exact h i hi
theorem pf_law_machine : ∀ cs Q, sp_law_machine cs Q → g_law_machine (startP n_law_machine cs) { nx := fun _ => Q (.fz .none), rt := Q } := by
  rintro cs Q ⟨rfl, hq⟩
  walk_at "g"
  refine sp_ints [1, 2, 2, 3, 3, 3, 4, 4, 5, 6] rfl (by decide) (by decide) fun z hz => ?_
  have hz := (by decide : ∀ z ∈ ([1, 2, 2, 3, 3, 3, 4, 4, 5, 6] : List Int), 1 ≤ z ∧ z ≤ 12) z hz
  walk_at "g"
  refine sp_ints [1, 1, 2, 2, 3] rfl (by decide) (by decide) fun y hy => ?_
  have hy := (by decide : ∀ z ∈ ([1, 1, 2, 2, 3] : List Int), 1 ≤ z ∧ z ≤ 8) y hy
  walk_at "g"
  refine sp_mz z y rfl hz.1 hz.2 hy.1 hy.2 (fun m ho ht _ _ hz => ?_)
  walk_at "g"
  exact hq m ho ht hz
def eC (n k : Nat) (rows : List Rw) (f : Int) (d5 d6 : Option D) (d7 : Option C) : PEnv := [some .orc, some (.fz (.int (n : Nat))), some (.fz (.int (k : Nat))), some (.ll (enc rows)), some (.fz (.int f)), d5.map .fz, d6.map .fz, d7, none, none, none, none, none]
theorem eWord_len (w : List Nat) : (w.map fun k : Nat => PyData.int k).length = w.length := List.length_map _
def RowMv (m : Mach) (o : List Nat) (s : Nat) (r : Rw) : Prop := ∀ k, (m.mv s k = none → (r[k]?).getD none = none) ∧ ∀ t c, m.mv s k = some (t, c) → ∃ j', o[j']? = some t ∧ (r[k]?).getD none = some (j', c)
theorem plain_mv (o : Option (Nat × Int)) : Plain 1 (eMv o) := by
  cases o with
  | none => exact .none
  | some tc =>
    refine .tup (by simp) fun d hd => ?_
    rcases List.mem_cons.mp hd with rfl | hd
    · exact .int
    · rw [List.mem_singleton] at hd; subst hd; exact .int
theorem plain_o (o : Option Int) : Plain 1 (eO o) := by
  cases o with
  | none => exact .none
  | some c => exact .int
theorem head_at {xs : List Str} {x : Str} {t : List Str} (h : xs = x :: t) : L2.atI (xs.map PyData.str) 0 = some (.str x) := at_mapE (n := 0) rfl (by rw [h]; rfl)
theorem split_at (x : Str) : ∃ h t, Txt.split x "@" = h :: t ∧ h.length ≤ x.length := split_head x "@" (by decide +kernel) (by decide +kernel)
theorem split_sl (x : Str) : ∃ h t, Txt.split x "/" = h :: t ∧ h.length ≤ x.length := split_head x "/" (by decide +kernel) (by decide +kernel)
theorem base_len (x : Str) : (baseS x).length ≤ x.length := by
  obtain ⟨h, t, e, hl⟩ := split_at x
  unfold baseS
  rw [e]
  exact hl
theorem base_at (x : Str) : L2.atI ((Txt.split x "@").map PyData.str) 0 = some (.str (baseS x)) := by
  obtain ⟨h, t, e, hl⟩ := split_at x
  refine at_mapE (n := 0) rfl ?_
  unfold baseS
  rw [e]; rfl
theorem mark_at (x : Str) : L2.atI ((Txt.split (baseS x) "/").map PyData.str) 0 = some (.str (markS x)) := by
  obtain ⟨h, t, e, hl⟩ := split_sl (baseS x)
  refine at_mapE (n := 0) rfl ?_
  unfold markS
  rw [e]; rfl
theorem pf_base_of : ∀ cs Q, sp_base_of cs Q → g_base_of (startP n_base_of cs) { nx := fun _ => Q (.fz .none), rt := Q } := by
  rintro cs Q ⟨x, rfl, hx, hq⟩
  walk_at "a"
  refine optP_intro (base_at x) ?_
  walk_at "g"
  exact hq
theorem pf_law_base : ∀ cs Q, sp_law_base cs Q → g_law_base (startP n_law_base cs) { nx := fun _ => Q (.fz .none), rt := Q } := pf_base_of
theorem pf_mark_of : ∀ cs Q, sp_mark_of cs Q → g_mark_of (startP n_mark_of cs) { nx := fun _ => Q (.fz .none), rt := Q } := by
  rintro cs Q ⟨x, rfl, hx, hq⟩
  have hb := base_len x
  walk_at "g"
  refine ⟨x, rfl, hx, ?_⟩
  walk_at "a"
  refine optP_intro (mark_at x) ?_
  walk_at "g"
  exact hq
theorem pf_fits_goes : ∀ cs Q, sp_fits_goes cs Q → g_fits_goes (startP n_fits_goes cs) { nx := fun _ => Q (.fz .none), rt := Q } := by
  rintro cs Q ⟨p, x, rfl, hx, hq⟩
  unfold fitsS at hq
  walk_at "g"
  refine iteB_d (fun h => ?_) (fun h => ?_)
  · rw [if_pos h] at hq
    walk_at "g"
    exact hq
  rw [if_neg h] at hq
  walk_at "g"
  refine iteB_i (fun h => ?_) (fun h => ?_)
  · rw [if_pos (show hasSl p = true from h)] at hq
    walk_at "g"
    refine ⟨x, rfl, hx, ?_⟩
    walk_at "g"
    exact hq
  · rw [if_neg (fun e => by rw [show hasSl p = false from h] at e; cases e)] at hq
    walk_at "g"
    refine ⟨x, rfl, hx, ?_⟩
    walk_at "g"
    exact hq
theorem pf_law_fits : ∀ cs Q, sp_law_fits cs Q → g_law_fits (startP n_law_fits cs) { nx := fun _ => Q (.fz .none), rt := Q } := by
  rintro cs Q ⟨p, x, rfl, hx, hq⟩
  have hb := base_len x
  unfold fitsS at hq
  walk_at "g"
  refine iteB_d (fun h => ?_) (fun h => ?_)
  · rw [if_pos h] at hq
    walk_at "g"
    exact hq
  rw [if_neg h] at hq
  walk_at "g"
  refine iteB_i (fun h => ?_) (fun h => ?_)
  · rw [if_pos (show hasSl p = true from h)] at hq
    walk_at "g"
    refine ⟨x, rfl, hx, ?_⟩
    walk_at "g"
    exact hq
  · rw [if_neg (fun e => by rw [show hasSl p = false from h] at e; cases e)] at hq
    walk_at "g"
    refine ⟨x, rfl, hx, ?_⟩
    walk_at "a"
    refine optP_intro (mark_at x) ?_
    walk_at "g"
    exact hq
theorem name_len {p : Part} (h : p.Ok) : p.name.length ≤ 60 := by
  have h1 := bt_len h.mkk h.lv
  have h2 := h.tl.2
  unfold Part.name
  rw [PySem.Str.length_append]
  omega
theorem cut_tail (d : D) (ds : List D) : cutD (d :: ds) (some 1) none = ds := by
  unfold cutD
  rw [HT.sIx_none, show (1 : Int) = ((1 : Nat) : Int) from rfl, HT.sIx_nat, List.length_cons, Nat.min_eq_left (by omega), List.drop_one, List.tail_cons]
  exact List.take_of_length_le (by omega)
theorem pf_levels_of : ∀ cs Q, sp_levels_of cs Q → g_levels_of (startP n_levels_of cs) { nx := fun _ => Q (.fz .none), rt := Q } := by
  rintro cs Q ⟨p, rfl, hp, hq⟩
  have hl := name_len hp
  have hb := base_len p.name
  walk_at "g"
  refine ⟨_, rfl, by omega, ?_⟩
  walk_at "a"
  have e : (Txt.split (baseS p.name) "/") = p.mark :: p.lv.map sN := by
    unfold Part.name
    rw [base_bt hp.mkk _ hp.tl, split_bt hp.mkk]
  rw [e, List.map_cons, cut_tail]
  exact hq
theorem bool_eq {p q : Bool} {Q : C → Prop} (h : p = q) (x : Q (.fz (.bool p))) : Q (.fz (.bool q)) := h ▸ x
theorem pf_as_much : ∀ cs Q, sp_as_much cs Q → g_as_much (startP n_as_much cs) { nx := fun _ => Q (.fz .none), rt := Q } := by
  rintro cs Q ⟨p, q, rfl, hp, hq, k⟩
  have hlp := name_len hp
  have hlq := name_len hq
  have hp2 := hp.lv.1
  have hq2 := hq.lv.1
  walk_at "g"
  refine ⟨p, rfl, hp, ?_⟩
  walk_at "g"
  refine ⟨q, rfl, hq, ?_⟩
  walk_at "g"
  refine ⟨_, rfl, by omega, ?_⟩
  walk_at "g"
  refine ⟨_, rfl, by omega, ?_⟩
  unfold Part.name
  rw [mark_bt hp.mkk _ hp.tl, mark_bt hq.mkk _ hq.tl]
  unfold asMuch at k
  walk_at "g"
  refine iteB_nd (fun h => ?_) (fun h => ?_)
  · rw [decide_eq_false h, Bool.false_and, Bool.false_and] at k
    walk_at "g"
    exact k
  rw [decide_eq_true h, Bool.true_and] at k
  walk_at "g"
  rw [List.length_map, List.length_map, List.length_map, List.length_map]
  refine iteB_nd (fun h2 => ?_) (fun h2 => ?_)
  · rw [decide_eq_false (by omega), Bool.false_and] at k
    walk_at "g"
    exact k
  have h2 : p.lv.length = q.lv.length := by omega
  rw [decide_eq_true h2, Bool.true_and] at k
  walk_at "g"
  rw [List.length_map, List.length_map]
  walk_at "a"
  rw [Int.toNat_natCast]
  refine for_range' (fun i ρ => ∃ d4, ρ = [some (.fz (.str p.name)), some (.fz (.str q.name)), some (.ls ((p.lv.map sN).map .str)), some (.ls ((q.lv.map sN).map .str)), d4] ∧ ∀ j, j < i → (p.lv[j]?).getD 0 ≤ (q.lv[j]?).getD 0) ⟨none, rfl, fun j h => absurd h (Nat.not_lt_zero _)⟩ ?_ ?_
  · rintro i ρ K hi ⟨d4, rfl, hj⟩ hK
    rw [Int.zero_add]
    have e1 : p.lv[i]? = some p.lv[i] := List.getElem?_eq_getElem hi
    have e2 : q.lv[i]? = some (q.lv[i]'(by omega)) := List.getElem?_eq_getElem (by omega)
    have l1 := hp.lv.2 _ (List.mem_of_getElem? e1)
    have l2 := hq.lv.2 _ (List.mem_of_getElem? e2)
    have n1 := sN_len l1
    have n2 := sN_len l2
    walk_at "g"
    refine optP_intro (at_map (x := sN (q.lv[i]'(by omega))) (by rw [List.getElem?_map, e2]; rfl)) ?_
    walk_at "w"
    refine optP_intro (sN_int l2) ?_
    refine ⟨by omega, ?_⟩
    walk_at "w"
    refine optP_intro (at_map (x := sN p.lv[i]) (by rw [List.getElem?_map, e1]; rfl)) ?_
    walk_at "w"
    refine optP_intro (sN_int l1) ?_
    refine ⟨by omega, ?_⟩
    walk_at "g"
    refine iteB_d (fun h => ?_) (fun h => ?_)
    · walk_at "g"
      refine bool_eq ?_ k
      cases e : (List.range p.lv.length).all fun i => decide ((p.lv[i]?).getD 0 ≤ (q.lv[i]?).getD 0) with
      | false => rfl
      | true =>
        have := of_decide_eq_true (List.all_eq_true.mp e i (List.mem_range.mpr hi))
        rw [e1, e2, Option.getD_some, Option.getD_some] at this
        omega
    · walk_at "g"
      refine hK _ ⟨_, rfl, fun j hj' => ?_⟩
      by_cases hji : j = i
      · subst hji
        rw [e1, e2, Option.getD_some, Option.getD_some]
        omega
      · exact hj j (by omega)
  · rintro ρ ⟨d4, rfl, hj⟩
    walk_at "g"
    refine bool_eq ?_ k
    exact List.all_eq_true.mpr fun j hj' => decide_eq_true (hj j (List.mem_range.mp hj'))
theorem pf_fits_pair : ∀ cs Q, sp_fits_pair cs Q → g_fits_pair (startP n_fits_pair cs) { nx := fun _ => Q (.fz .none), rt := Q } := by
  rintro cs Q ⟨dk, dm, de, den, ps, goes, stays, s, t, rfl, hps, hg, hst, hgo, hs, ht, k⟩
  have es : ps[s]? = some ps[s] := List.getElem?_eq_getElem hs
  have et : ps[t]? = some ps[t] := List.getElem?_eq_getElem ht
  have ps' := hps.2 _ (List.getElem_mem hs)
  have pt' := hps.2 _ (List.getElem_mem ht)
  have ls := name_len ps'
  have lt := name_len pt'
  unfold pairFits stayFits at k
  rw [es, et] at k
  dsimp only at k
  walk_at "g"
  refine optP_intro (at_map es) ?_
  walk_at "g"
  refine optP_intro (at_map et) ?_
  walk_at "g"
  refine iteB_nd (fun h => ?_) (fun h => ?_)
  · rw [decide_eq_false (fun e => h (by rw [e])), Bool.false_and, Bool.false_and] at k
    walk_at "g"
    exact k
  rw [decide_eq_true (by omega), Bool.true_and] at k
  walk_at "g"
  refine optP_intro (at_map es) ?_
  walk_at "g"
  refine ⟨goes.txt, ps[s].name, rfl, by omega, ?_⟩
  rw [fits_ask hg hgo ps']
  walk_at "g"
  cases e : askFits goes ps[s] with
  | false =>
    rw [e, Bool.false_and] at k
    walk_at "g"
    exact k
  | true =>
    rw [e, Bool.true_and] at k
    walk_at "g"
    refine iteB_d (fun h => ?_) (fun h => ?_)
    · rw [(txt_same hst).mp h] at k
      walk_at "g"
      exact bool_eq (by by_cases q : s = t; (subst q; rw [decide_eq_true rfl, decide_eq_true rfl]); (rw [decide_eq_false q, decide_eq_false (by omega)])) k
    · walk_at "g"
      refine iteB_d (fun h2 => ?_) (fun h2 => ?_)
      · rw [(txt_more hst).mp h2] at k
        walk_at "g"
        refine optP_intro (at_map es) ?_
        walk_at "g"
        refine optP_intro (at_map et) ?_
        walk_at "g"
        refine ⟨_, _, rfl, ps', pt', ?_⟩
        walk_at "g"
        exact k
      · walk_at "g"
        refine optP_intro (at_map et) ?_
        walk_at "g"
        refine ⟨stays.txt, ps[t].name, rfl, by omega, ?_⟩
        walk_at "g"
        cases stays with
        | same => exact (h rfl).elim
        | more => exact (h2 rfl).elim
        | any => rw [fits_ask hst trivial pt']; exact k
        | mark m => rw [fits_ask hst trivial pt']; exact k
        | base m lv => rw [fits_ask hst trivial pt']; exact k
theorem pf_pairs_of : ∀ cs Q, sp_pairs_of cs Q → g_pairs_of (startP n_pairs_of cs) { nx := fun _ => Q (.fz .none), rt := Q } := by
  rintro cs Q ⟨dk, dm, de, den, ps, goes, stays, rfl, hps, hg, hst, hgo, k⟩
  have hl := hps.1
  walk_at "g"
  rw [List.length_map]
  walk_at "a"
  rw [Int.toNat_natCast]
  refine for_range' (fun i ρ => ∃ d5 d6, ρ = [some (.fz (mD dk dm de den ps)), some (.fz (.str goes.txt)), some (.fz (.str stays.txt)), some (.fz (.int (ps.length : Nat))), some (.ls (allPairs (pairFits ps goes stays) i ps.length)), d5, d6]) ⟨none, none, rfl⟩ ?_ ?_
  · rintro i ρ K hi ⟨d5, d6, rfl⟩ hK
    rw [Int.zero_add]
    walk_at "a"
    rw [Int.toNat_natCast]
    refine for_range' (fun j ρ => ∃ d6, ρ = [some (.fz (mD dk dm de den ps)), some (.fz (.str goes.txt)), some (.fz (.str stays.txt)), some (.fz (.int (ps.length : Nat))), some (.ls (allPairs (pairFits ps goes stays) i ps.length ++ rowPairs (pairFits ps goes stays i) i j)), some (.fz (.int (i : Nat))), d6]) ⟨d6, by rw [show rowPairs (pairFits ps goes stays i) i 0 = [] from rfl, List.append_nil]; rfl⟩ ?_ ?_
    · rintro j ρ K hj ⟨d6, rfl⟩ hK
      rw [Int.zero_add]
      walk_at "g"
      refine ⟨dk, dm, de, den, ps, goes, stays, i, j, rfl, hps, hg, hst, hgo, hi, hj, ?_⟩
      have h1 := allPairs_len (pairFits ps goes stays) i ps.length
      have h2 := rowPairs_len (pairFits ps goes stays i) i j
      have h3 : i * ps.length ≤ 12 * 12 := Nat.mul_le_mul (by omega) hl
      have hr := rowPairs_succ (pairFits ps goes stays i) i j
      walk_at "g"
      cases e : pairFits ps goes stays i j with
      | false =>
        rw [e, if_neg Bool.false_ne_true] at hr
        walk_at "g"
        exact hK _ ⟨_, by rw [hr]; rfl⟩
      | true =>
        rw [e, if_pos rfl] at hr
        walk_at "g"
        refine ⟨by rw [sizeLine_val, List.length_append]; omega, ?_⟩
        refine hK _ ⟨some (.fz (.int (j : Nat))), ?_⟩
        rw [hr, ← List.append_assoc]
        rfl
    · rintro ρ ⟨d6, rfl⟩
      exact hK _ ⟨_, _, by rw [allPairs_succ]⟩
  · rintro ρ ⟨d5, d6, rfl⟩
    walk_at "g"
    exact k


theorem lsr_none (a : Option Int) : lsr a none = a := by cases a <;> rfl
theorem none_lsr (a : Option Int) : lsr none a = a := by cases a <;> rfl
theorem minL_snoc (l : List Int) (x : Int) : minL (l ++ [x]) = lsr (minL l) (some x) := by
  unfold minL
  rw [List.foldl_append]
  rfl
theorem minL_spec : ∀ (l : List Int), l ≠ [] → ∃ m, minL l = some m ∧ m ∈ l ∧ ∀ y ∈ l, m ≤ y := by
  intro l
  induction h : l.length generalizing l with
  | zero => exact fun q => absurd (List.eq_nil_of_length_eq_zero h) q
  | succ n ih =>
    intro q
    obtain ⟨a, x, rfl⟩ : ∃ a x, l = a ++ [x] := ⟨l.dropLast, l.getLast q, (List.dropLast_concat_getLast q).symm⟩
    rw [List.length_append] at h
    have h : a.length = n := by simpa using h
    rw [minL_snoc]
    cases a with
    | nil => exact ⟨x, rfl, by simp, fun y hy => by simp at hy; omega⟩
    | cons b a =>
      obtain ⟨m, h1, h2, h3⟩ := ih (b :: a) h (by simp)
      rw [h1]
      by_cases e : x < m
      · refine ⟨x, by show some _ = _; rw [if_pos e], by simp, fun y hy => ?_⟩
        rcases List.mem_append.mp hy with hy | hy
        · have := h3 y hy; omega
        · rw [List.mem_singleton] at hy; omega
      · refine ⟨m, by show some _ = _; rw [if_neg e], List.mem_append_left _ h2, fun y hy => ?_⟩
        rcases List.mem_append.mp hy with hy | hy
        · exact h3 y hy
        · rw [List.mem_singleton] at hy; omega
theorem minL_of {l : List Int} {m : Int} (h1 : m ∈ l) (h2 : ∀ y ∈ l, m ≤ y) : minL l = some m := by
  obtain ⟨k, e, k1, k2⟩ := minL_spec l (fun h => by rw [h] at h1; cases h1)
  rw [e]
  have := h2 k k1
  have := k2 m h1
  rw [show k = m by omega]
theorem lsr_minL (a b : List Int) : lsr (minL a) (minL b) = minL (a ++ b) := by
  cases a with
  | nil => rw [List.nil_append]; exact none_lsr _
  | cons x a =>
    cases b with
    | nil => rw [List.append_nil]; exact lsr_none _
    | cons y b =>
      obtain ⟨m, h1, h2, h3⟩ := minL_spec (x :: a) (by simp)
      obtain ⟨k, k1, k2, k3⟩ := minL_spec (y :: b) (by simp)
      rw [h1, k1]
      show some _ = _
      refine (minL_of ?_ ?_).symm
      · split
        · exact List.mem_append_right _ k2
        · exact List.mem_append_left _ h2
      · intro z hz
        rcases List.mem_append.mp hz with hz | hz
        · have := h3 z hz; split <;> omega
        · have := k3 z hz; split <;> omega
theorem minL_le {l : List Int} {a : Int} : leB (minL l) a = true ↔ ∃ x ∈ l, x ≤ a := by
  cases l with
  | nil => exact ⟨fun h => (nomatch h), fun ⟨x, h, _⟩ => (nomatch h)⟩
  | cons y l =>
    obtain ⟨m, h1, h2, h3⟩ := minL_spec (y :: l) (by simp)
    rw [h1]
    exact ⟨fun h => ⟨m, h2, of_decide_eq_true h⟩, fun ⟨x, hx, hl⟩ => decide_eq_true (by have := h3 x hx; omega)⟩
theorem lsr_idem (o : Option Int) (x : Int) : lsr (lsr o (some x)) (some x) = lsr o (some x) := by
  cases o with
  | none => show some _ = some _; rw [if_neg (by omega)]
  | some y =>
    show lsr (some _) _ = some _
    show some _ = some _
    congr 1
    by_cases h : x < y
    · rw [if_pos h, if_neg (by omega)]
    · rw [if_neg h, if_neg h]
theorem pf_lesser : ∀ cs Q, sp_lesser cs Q → g_lesser (startP n_lesser cs) { nx := fun _ => Q (.fz .none), rt := Q } := by
  rintro cs Q ⟨a, b, rfl, k⟩
  cases a with
  | none =>
    rw [none_lsr] at k
    walk_at "g"
    exact k
  | some x =>
    cases b with
    | none =>
      walk_at "g"
      exact k
    | some y =>
      walk_at "g"
      exact k
theorem eO_at {o : Option Int} : ∃ d, eO o = d := ⟨_, rfl⟩
theorem tab_at {n s : Nat} (T : TT) (h : s < n) : L2.atI ((List.range n).map fun s => PyData.tuple ((List.range n).map fun t => prD (T s t))) ((s : Nat) : Int) = some (.tuple ((List.range n).map fun t => prD (T s t))) := by
  refine (at_map (x := s) ?_)
  rw [List.getElem?_eq_getElem (by rw [List.length_range]; exact h), List.getElem_range]
theorem row_at {n s t : Nat} (T : TT) (h : t < n) : L2.atI ((List.range n).map fun t => prD (T s t)) ((t : Nat) : Int) = some (prD (T s t)) := by
  refine (at_map (f := fun t => prD (T s t)) (x := t) ?_)
  rw [List.getElem?_eq_getElem (by rw [List.length_range]; exact h), List.getElem_range]
theorem pf_allows : ∀ cs Q, sp_allows cs Q → g_allows (startP n_allows cs) { nx := fun _ => Q (.fz .none), rt := Q } := by
  rintro cs Q ⟨n, T, s, t, ahead, older, rfl, hs, ht, k⟩
  walk_at "g"
  refine optP_intro (tab_at T hs) ?_
  walk_at "g"
  refine optP_intro (row_at T ht) ?_
  unfold allowB at k
  generalize T s t = pa at k
  obtain ⟨p, a⟩ := pa
  have snd : older = true ∧ (∃ y, a = some y) ∨ (older && leB a ahead) = false := by
    cases older with
    | false => exact .inr rfl
    | true =>
      cases a with
      | none => exact .inr rfl
      | some y => exact .inl ⟨rfl, y, rfl⟩
  walk_at "g"
  cases p with
  | some x =>
    have k : Q (.fz (.bool (decide (x ≤ ahead) || (older && leB a ahead)))) := k
    walk_at "g"
    refine iteB_d (fun h => ?_) (fun h => ?_)
    · rw [decide_eq_true h, Bool.true_or] at k
      walk_at "g"
      exact k
    · rw [decide_eq_false h, Bool.false_or] at k
      cases older with
      | false => walk_at "g"; exact k
      | true =>
        cases a with
        | none => walk_at "g"; exact k
        | some y => walk_at "g"; exact k
  | none =>
    have k : Q (.fz (.bool (older && leB a ahead))) := k
    cases older with
    | false => walk_at "g"; exact k
    | true =>
      cases a with
      | none => walk_at "g"; exact k
      | some y => walk_at "g"; exact k
theorem pf_least_throw : ∀ cs Q, sp_least_throw cs Q → g_least_throw (startP n_least_throw cs) { nx := fun _ => Q (.fz .none), rt := Q } := by
  rintro cs Q ⟨n, T, s, t, rfl, hs, ht, k⟩
  walk_at "g"
  refine optP_intro (tab_at T hs) ?_
  walk_at "g"
  refine optP_intro (row_at T ht) ?_
  walk_at "g"
  refine optP_intro (tab_at T hs) ?_
  walk_at "g"
  refine optP_intro (row_at T ht) ?_
  walk_at "g"
  refine ⟨(T s t).1, (T s t).2, rfl, ?_⟩
  walk_at "g"
  exact k
theorem pf_law_least_of : ∀ cs Q, sp_law_least_of cs Q → g_law_least_of (startP n_law_least_of cs) { nx := fun _ => Q (.fz .none), rt := Q } := by
  rintro cs Q ⟨l, rfl, k⟩
  cases l with
  | nil => walk_at "g"; exact k
  | cons x l =>
    walk_at "g"
    refine optP_intro (intsD_map (x :: l)) ⟨by simp, fun m h1 h2 => ?_⟩
    rw [minL_of h1 h2] at k
    walk_at "g"
    exact k
theorem pf_law_lead : ∀ cs Q, sp_law_lead cs Q → g_law_lead (startP n_law_lead cs) { nx := fun _ => Q (.fz .none), rt := Q } := by
  rintro cs Q ⟨rfl, k⟩
  walk_at "g"
  refine ⟨by decide, fun z z0 z1 => ?_⟩
  walk_at "g"
  refine iteB_d (fun h => ?_) (fun h => ?_)
  · walk_at "g"
    refine sp_ints [-999, 999, -60, 60, 25, -25] rfl (by decide) (by decide) fun z hz => ?_
    walk_at "g"
    exact k z ((by decide : ∀ z ∈ ([-999, 999, -60, 60, 25, -25] : List Int), z.natAbs ≤ 999) z hz)
  · walk_at "g"
    refine sp_ints [0, 0, 0, 1, 1, 2, 3, 4, 5, 8, 12, -1, -2, -4] rfl (by decide) (by decide) fun z hz => ?_
    walk_at "g"
    exact k z ((by decide : ∀ z ∈ ([0, 0, 0, 1, 1, 2, 3, 4, 5, 8, 12, -1, -2, -4] : List Int), z.natAbs ≤ 999) z hz)


theorem pf_law_as_much : ∀ cs Q, sp_law_as_much cs Q → g_law_as_much (startP n_law_as_much cs) { nx := fun _ => Q (.fz .none), rt := Q } := by
  rintro cs Q ⟨p, q, rfl, hp, hq, k⟩
  have hlp := name_len hp
  have hlq := name_len hq
  have hp2 := hp.lv.1
  have hq2 := hq.lv.1
  have bp := base_len p.name
  have bq := base_len q.name
  have ep : Txt.split (baseS p.name) "/" = p.mark :: p.lv.map sN := by
    unfold Part.name
    rw [base_bt hp.mkk _ hp.tl, split_bt hp.mkk]
  have eq : Txt.split (baseS q.name) "/" = q.mark :: q.lv.map sN := by
    unfold Part.name
    rw [base_bt hq.mkk _ hq.tl, split_bt hq.mkk]
  unfold asMuch at k
  walk_at "g"
  refine ⟨_, rfl, by omega, ?_⟩
  walk_at "a"
  rw [ep]
  walk_at "g"
  refine ⟨_, rfl, by omega, ?_⟩
  walk_at "a"
  rw [eq]
  walk_at "g"
  refine optP_intro (at_mapE (n := 0) rfl rfl) ?_
  walk_at "g"
  refine optP_intro (at_mapE (n := 0) rfl rfl) ?_
  walk_at "g"
  refine iteB_nd (fun h => ?_) (fun h => ?_)
  · rw [decide_eq_false h, Bool.false_and, Bool.false_and] at k
    walk_at "g"
    exact k
  rw [decide_eq_true h, Bool.true_and] at k
  walk_at "g"
  rw [List.length_map, List.length_map, List.length_cons, List.length_cons, List.length_map, List.length_map]
  refine iteB_nd (fun h2 => ?_) (fun h2 => ?_)
  · rw [decide_eq_false (by omega), Bool.false_and] at k
    walk_at "g"
    exact k
  have h2 : p.lv.length = q.lv.length := by omega
  rw [decide_eq_true h2, Bool.true_and] at k
  walk_at "g"
  rw [List.length_map, List.length_cons, List.length_map]
  walk_at "a"
  rw [show ((((p.lv.length + 1 : Nat) : Int) - 1).toNat) = p.lv.length by omega]
  refine lc_inv (fun i acc => acc.length ≤ i ∧ (acc = [] ↔ ∀ j, j < i → (p.lv[j]?).getD 0 ≤ (q.lv[j]?).getD 0)) ⟨Nat.le_refl _, fun _ j h => absurd h (Nat.not_lt_zero _), fun _ => rfl⟩ (fun i d acc Y N e ⟨h0, hi⟩ hY hN => ?_) fun acc ⟨h0, hi⟩ => ?_
  · obtain ⟨hil, rfl⟩ := rangeD_at e
    have e1 : p.lv[i]? = some p.lv[i] := List.getElem?_eq_getElem hil
    have e2 : q.lv[i]? = some (q.lv[i]'(by omega)) := List.getElem?_eq_getElem (by omega)
    have l1 := hp.lv.2 _ (List.mem_of_getElem? e1)
    have l2 := hq.lv.2 _ (List.mem_of_getElem? e2)
    have n1 := sN_len l1
    have n2 := sN_len l2
    have ei : (1 : Int) + (i : Nat) = ((i + 1 : Nat) : Int) := by omega
    rw [ei]
    walk_at "g"
    refine optP_intro (at_map (x := sN (q.lv[i]'(by omega))) (by rw [List.getElem?_cons_succ, List.getElem?_map, e2]; rfl)) ?_
    walk_at "w"
    refine optP_intro (sN_int l2) ?_
    refine ⟨by omega, ?_⟩
    walk_at "w"
    refine optP_intro (at_map (x := sN p.lv[i]) (by rw [List.getElem?_cons_succ, List.getElem?_map, e1]; rfl)) ?_
    walk_at "w"
    refine optP_intro (sN_int l1) ?_
    refine ⟨by omega, ?_⟩
    walk_at "g"
    refine iteB_d (fun h => ?_) (fun h => ?_)
    · walk_at "g"
      refine ⟨by rw [sizeLine_val]; omega, hY _ ⟨by rw [List.length_append]; show acc.length + 1 ≤ i + 1; omega, fun h => absurd h (by simp), fun h3 => ?_⟩⟩
      have := h3 i (by omega)
      rw [e1, e2, Option.getD_some, Option.getD_some] at this
      omega
    · refine hN ⟨by omega, hi.trans ⟨fun h3 j hj => ?_, fun h3 j hj => h3 j (by omega)⟩⟩
      by_cases hji : j = i
      · subst hji
        rw [e1, e2, Option.getD_some, Option.getD_some]
        omega
      · exact h3 j (by omega)
  · rw [rangeD_length] at hi
    walk_at "g"
    refine bool_eq ?_ k
    cases acc with
    | nil => exact List.all_eq_true.mpr fun j hj => decide_eq_true (hi.mp rfl j (List.mem_range.mp hj))
    | cons x acc =>
      cases e : (List.range p.lv.length).all fun i => decide ((p.lv[i]?).getD 0 ≤ (q.lv[i]?).getD 0) with
      | false => rfl
      | true => exact absurd (hi.mpr fun j hj => of_decide_eq_true (List.all_eq_true.mp e j (List.mem_range.mpr hj))) (by simp)
theorem pf_law_has_pair : ∀ cs Q, sp_law_has_pair cs Q → g_law_has_pair (startP n_law_has_pair cs) { nx := fun _ => Q (.fz .none), rt := Q } := by
  rintro cs Q ⟨dk, dm, de, den, ps, goes, stays, s, t, rfl, hps, hg, hst, hgo, hs, ht, k⟩
  have es : ps[s]? = some ps[s] := List.getElem?_eq_getElem hs
  have et : ps[t]? = some ps[t] := List.getElem?_eq_getElem ht
  have ps' := hps.2 _ (List.getElem_mem hs)
  have pt' := hps.2 _ (List.getElem_mem ht)
  have ls := name_len ps'
  have lt := name_len pt'
  unfold pairFits stayFits at k
  rw [es, et] at k
  dsimp only at k
  walk_at "g"
  refine optP_intro (at_map es) ?_
  walk_at "g"
  refine optP_intro (at_map et) ?_
  walk_at "g"
  refine iteB_nd (fun h => ?_) (fun h => ?_)
  · rw [decide_eq_false (fun e => h (by rw [e])), Bool.false_and, Bool.false_and] at k
    walk_at "g"
    exact k
  rw [decide_eq_true (by omega), Bool.true_and] at k
  walk_at "g"
  refine optP_intro (at_map es) ?_
  walk_at "g"
  refine ⟨goes.txt, ps[s].name, rfl, by omega, ?_⟩
  rw [fits_ask hg hgo ps']
  walk_at "g"
  cases e : askFits goes ps[s] with
  | false =>
    rw [e, Bool.false_and] at k
    walk_at "g"
    exact k
  | true =>
    rw [e, Bool.true_and] at k
    walk_at "g"
    refine iteB_d (fun h => ?_) (fun h => ?_)
    · rw [(txt_same hst).mp h] at k
      walk_at "g"
      exact bool_eq (by by_cases q : s = t; (subst q; rw [decide_eq_true rfl, decide_eq_true rfl]); (rw [decide_eq_false q, decide_eq_false (by omega)])) k
    · walk_at "g"
      refine iteB_d (fun h2 => ?_) (fun h2 => ?_)
      · rw [(txt_more hst).mp h2] at k
        walk_at "g"
        refine optP_intro (at_map es) ?_
        walk_at "g"
        refine optP_intro (at_map et) ?_
        walk_at "g"
        refine ⟨_, _, rfl, ps', pt', ?_⟩
        walk_at "g"
        exact k
      · walk_at "g"
        refine optP_intro (at_map et) ?_
        walk_at "g"
        refine ⟨stays.txt, ps[t].name, rfl, by omega, ?_⟩
        walk_at "g"
        cases stays with
        | same => exact (h rfl).elim
        | more => exact (h2 rfl).elim
        | any => rw [fits_ask hst trivial pt']; exact k
        | mark m => rw [fits_ask hst trivial pt']; exact k
        | base m lv => rw [fits_ask hst trivial pt']; exact k
theorem pf_law_pairs : ∀ cs Q, sp_law_pairs cs Q → g_law_pairs (startP n_law_pairs cs) { nx := fun _ => Q (.fz .none), rt := Q } := by
  rintro cs Q ⟨dk, dm, de, den, ps, goes, stays, rfl, hps, hg, hst, hgo, k⟩
  have hl := hps.1
  walk_at "g"
  rw [List.length_map]
  walk_at "a"
  rw [Int.toNat_natCast]
  refine for_range' (fun i ρ => ∃ d4, ρ = [some (.fz (mD dk dm de den ps)), some (.fz (.str goes.txt)), some (.fz (.str stays.txt)), some (.ls (allPairs (pairFits ps goes stays) i ps.length)), d4, none]) ⟨none, rfl⟩ ?_ ?_
  · rintro i ρ K hi ⟨d4, rfl⟩ hK
    rw [Int.zero_add]
    walk_at "g"
    rw [List.length_map]
    walk_at "a"
    rw [Int.toNat_natCast]
    refine lc_inv (fun j acc => acc = rowPairs (pairFits ps goes stays i) i j) rfl (fun j d acc Y N e hacc hY hN => ?_) fun acc hacc => ?_
    · obtain ⟨hj, rfl⟩ := rangeD_at e
      rw [Int.zero_add]
      have h2 := rowPairs_len (pairFits ps goes stays i) i j
      have hr := rowPairs_succ (pairFits ps goes stays i) i j
      walk_at "g"
      refine ⟨dk, dm, de, den, ps, goes, stays, i, j, rfl, hps, hg, hst, hgo, hi, hj, ?_⟩
      walk_at "g"
      cases e : pairFits ps goes stays i j with
      | false =>
        rw [e, if_neg Bool.false_ne_true] at hr
        walk_at "g"
        exact hN (by rw [hacc, hr])
      | true =>
        rw [e, if_pos rfl] at hr
        walk_at "g"
        refine ⟨by rw [sizeLine_val, hacc]; omega, hY _ (by rw [hacc, hr]; rfl)⟩
    · rw [rangeD_length] at hacc
      subst hacc
      have h1 := allPairs_len (pairFits ps goes stays) i ps.length
      have h2 := rowPairs_len (pairFits ps goes stays i) i ps.length
      have h3 : i * ps.length ≤ 12 * 12 := Nat.mul_le_mul (by omega) hl
      walk_at "g"
      refine ⟨add_le (by omega), ?_⟩
      walk_at "g"
      exact hK _ ⟨some (.fz (.int (i : Nat))), by rw [allPairs_succ]; rfl⟩
  · rintro ρ ⟨d4, rfl⟩
    walk_at "g"
    exact k
theorem leads_snoc (ps : List Part) (rows : List Row) (r : Row) (s t : Nat) (e : Bool) : leadsOf ps (rows ++ [r]) s t e = leadsOf ps rows s t e ++ if (r.elder == e && pairFits ps r.goes r.stays s t) = true then [r.lead] else [] := by
  unfold leadsOf
  rw [List.filterMap_append]
  congr 1
  rw [List.filterMap_cons, List.filterMap_nil]
  cases h : (r.elder == e && pairFits ps r.goes r.stays s t)
  · rw [if_neg Bool.false_ne_true, if_neg Bool.false_ne_true]
  · rw [if_pos rfl, if_pos rfl]
theorem leads_len (ps : List Part) (rows : List Row) (s t : Nat) (e : Bool) : (leadsOf ps rows s t e).length ≤ rows.length := List.length_filterMap_le _ _
theorem pf_law_leads_of : ∀ cs Q, sp_law_leads_of cs Q → g_law_leads_of (startP n_law_leads_of cs) { nx := fun _ => Q (.fz .none), rt := Q } := by
  rintro cs Q ⟨dk, dm, de, den, ps, rows, s, t, e, rfl, hps, hr, hs, ht, k⟩
  have hrl := hr.1
  walk_at "g"
  refine lc_inv (fun i acc => acc = (leadsOf ps (rows.take i) s t e).map .int) rfl (fun i d acc Y N ed hacc hY hN => ?_) fun acc hacc => ?_
  · obtain ⟨r, hri, rfl⟩ := get_map ed
    have ro := hr.2 r (List.mem_of_getElem? hri)
    have e1 : rows.take (i + 1) = rows.take i ++ [r] := by rw [List.take_succ, hri]; rfl
    have e2 := leads_snoc ps (rows.take i) r s t e
    rw [← e1] at e2
    have hl := leads_len ps (rows.take i) s t e
    have hl2 : (rows.take i).length ≤ rows.length := by rw [List.length_take]; omega
    walk_at "g"
    refine iteB_i (fun h => ?_) (fun h => ?_)
    · have h : r.elder = e := by simpa using h
      rw [show (r.elder == e) = true by simp [h], Bool.true_and] at e2
      walk_at "g"
      refine ⟨dk, dm, de, den, ps, r.goes, r.stays, s, t, rfl, hps, ro.g, ro.s, ro.gg, hs, ht, ?_⟩
      walk_at "g"
      cases hp : pairFits ps r.goes r.stays s t with
      | false =>
        rw [hp, if_neg Bool.false_ne_true, List.append_nil] at e2
        walk_at "g"
        exact hN (by rw [hacc, e2])
      | true =>
        rw [hp, if_pos rfl] at e2
        walk_at "g"
        refine ⟨by rw [sizeLine_val, hacc, List.length_map]; omega, hY _ (by rw [hacc, e2, List.map_append]; rfl)⟩
    · have h : ¬ r.elder = e := by simpa using h
      rw [show (r.elder == e) = false by simp [h], Bool.false_and, if_neg Bool.false_ne_true, List.append_nil] at e2
      walk_at "g"
      exact hN (by rw [hacc, e2])
  · rw [List.length_map, List.take_length] at hacc
    subst hacc
    walk_at "g"
    exact k
theorem pf_law_row_allows : ∀ cs Q, sp_law_row_allows cs Q → g_law_row_allows (startP n_law_row_allows cs) { nx := fun _ => Q (.fz .none), rt := Q } := by
  rintro cs Q ⟨dk, dm, de, den, ps, r, s, t, ahead, older, rfl, hps, ro, hs, ht, k⟩
  walk_at "g"
  refine iteB_d (fun h => ?_) (fun h => ?_)
  · rw [decide_eq_false (by omega), Bool.false_and, Bool.false_and] at k
    walk_at "g"
    exact k
  rw [decide_eq_true (by omega), Bool.true_and] at k
  have fin : (!r.elder || older) = true → Q (.fz (.bool (pairFits ps r.goes r.stays s t))) := fun h => by
    rw [h, Bool.true_and] at k
    exact k
  cases he : r.elder with
  | false =>
    walk_at "g"
    rw [he]
    walk_at "g"
    refine ⟨dk, dm, de, den, ps, r.goes, r.stays, s, t, rfl, hps, ro.g, ro.s, ro.gg, hs, ht, ?_⟩
    walk_at "g"
    exact fin (by rw [he]; rfl)
  | true =>
    cases older with
    | true =>
      walk_at "g"
      rw [he]
      walk_at "g"
      refine ⟨dk, dm, de, den, ps, r.goes, r.stays, s, t, rfl, hps, ro.g, ro.s, ro.gg, hs, ht, ?_⟩
      walk_at "g"
      exact fin (by rw [he]; rfl)
    | false =>
      rw [he] at k
      walk_at "g"
      rw [he]
      walk_at "g"
      exact k


theorem pairD_inj {a b s t : Nat} (h : pairD a b = pairD s t) : a = s ∧ b = t := by
  unfold pairD at h
  injection h with h
  injection h with h1 h2
  injection h2 with h2 _
  injection h1 with h1
  injection h2 with h2
  exact ⟨by omega, by omega⟩
theorem mem_allPairs {f : Nat → Nat → Bool} {k n : Nat} {d : D} : d ∈ allPairs f k n ↔ ∃ s t, d = pairD s t ∧ s < k ∧ t < n ∧ f s t = true := by
  unfold allPairs rowPairs
  rw [List.mem_flatMap]
  constructor
  · rintro ⟨s, hs, h⟩
    obtain ⟨t, ht, e⟩ := List.mem_filterMap.mp h
    split at e
    · rename_i q
      cases e
      exact ⟨s, t, rfl, List.mem_range.mp hs, List.mem_range.mp ht, q⟩
    · cases e
  · rintro ⟨s, t, rfl, hs, ht, q⟩
    exact ⟨s, List.mem_range.mpr hs, List.mem_filterMap.mpr ⟨t, List.mem_range.mpr ht, by rw [if_pos q]⟩⟩
def encT (n : Nat) (T : TT) : List (List D) := (List.range n).map fun s => (List.range n).map fun t => prD (T s t)
def updT (T : TT) (s t : Nat) (p : Option Int × Option Int) : TT := fun a b => if a = s ∧ b = t then p else T a b
theorem encT_len (n : Nat) (T : TT) : (encT n T).length = n := by unfold encT; rw [List.length_map, List.length_range]
theorem encT_get {n s : Nat} (T : TT) (h : s < n) : (encT n T)[s]? = some ((List.range n).map fun t => prD (T s t)) := by
  unfold encT
  rw [List.getElem?_map, List.getElem?_eq_getElem (by rw [List.length_range]; exact h), List.getElem_range]
  rfl
theorem encT_set {n s t : Nat} (T : TT) (p : Option Int × Option Int) (hs : s < n) : (encT n T).set s (((List.range n).map fun t => prD (T s t)).set t (prD p)) = encT n (updT T s t p) := by
  refine List.ext_getElem (by rw [List.length_set, encT_len, encT_len]) fun a h1 h2 => ?_
  rw [encT_len] at h2
  have e1 : (encT n (updT T s t p))[a]'(by rw [encT_len]; exact h2) = (List.range n).map fun b => prD (updT T s t p a b) := by
    have := encT_get (updT T s t p) h2
    rw [List.getElem?_eq_getElem (by rw [encT_len]; exact h2)] at this
    exact Option.some.inj this
  rw [e1, List.getElem_set]
  by_cases q : s = a
  · subst q
    rw [if_pos rfl]
    refine List.ext_getElem (by simp) fun b h3 h4 => ?_
    have hb : b < n := by simpa using h4
    rw [List.getElem_set, List.getElem_map, List.getElem_map, List.getElem_range]
    unfold updT
    by_cases z : t = b
    · subst z; rw [if_pos rfl, if_pos ⟨rfl, rfl⟩]
    · rw [if_neg z, if_neg (fun h => z h.2.symm)]
  · rw [if_neg q]
    have e2 : (encT n T)[a]'(by rw [encT_len]; exact h2) = (List.range n).map fun b => prD (T a b) := by
      have := encT_get T h2
      rw [List.getElem?_eq_getElem (by rw [encT_len]; exact h2)] at this
      exact Option.some.inj this
    rw [e2]
    refine List.map_congr_left fun b _ => ?_
    unfold updT
    rw [if_neg (fun h => q h.1.symm)]
def stepR (r : Row) (p : Option Int × Option Int) : Option Int × Option Int := if r.elder = true then (p.1, lsr p.2 (some r.lead)) else (lsr p.1 (some r.lead), p.2)
theorem stepR_idem (r : Row) (p) : stepR r (stepR r p) = stepR r p := by
  unfold stepR
  by_cases h : r.elder = true
  · rw [if_pos h, if_pos h, lsr_idem]
  · rw [if_neg h, if_neg h, lsr_idem]
theorem tabOf_snoc (ps : List Part) (rows : List Row) (r : Row) (s t : Nat) : tabOf ps (rows ++ [r]) s t = if pairFits ps r.goes r.stays s t = true then stepR r (tabOf ps rows s t) else tabOf ps rows s t := by
  unfold tabOf stepR
  rw [leads_snoc, leads_snoc]
  cases h : pairFits ps r.goes r.stays s t with
  | false => rw [Bool.and_false, Bool.and_false, if_neg Bool.false_ne_true, if_neg Bool.false_ne_true, List.append_nil, List.append_nil]
  | true =>
    rw [Bool.and_true, Bool.and_true, if_pos rfl]
    cases e : r.elder with
    | true =>
      rw [if_neg (show ¬ (true == false) = true by decide), if_pos (show (true == true) = true by decide), if_pos rfl, List.append_nil, minL_snoc]
    | false =>
      rw [if_pos (show (false == false) = true by decide), if_neg (show ¬ (false == true) = true by decide), if_neg Bool.false_ne_true, List.append_nil, minL_snoc]
theorem tabD_eq {n : Nat} {T T' : TT} (h : ∀ s t, s < n → t < n → T s t = T' s t) : tabD n T = tabD n T' := by
  unfold tabD
  congr 1
  refine List.map_congr_left fun s hs => ?_
  congr 1
  refine List.map_congr_left fun t ht => ?_
  rw [h s t (List.mem_range.mp hs) (List.mem_range.mp ht)]
theorem encT_init (n : Nat) (a b : Int) : (rangeD a n).map (fun _ => (rangeD b n).map fun _ => PyData.tuple [.none, .none]) = encT n (fun _ _ => (none, none)) := by
  unfold encT
  rw [map_rep, map_rep, rangeD_length, rangeD_length]
  rw [show (fun s : Nat => (List.range n).map fun t => prD ((fun _ _ => (none, none) : TT) s t)) = fun _ => (List.range n).map fun _ => PyData.tuple [.none, .none] from rfl, map_rep, map_rep, List.length_range]
theorem encT_tab (n : Nat) (T : TT) : PyData.tuple (((encT n T).map PyData.list).map fun d => match d with
    | .list xs => .tuple xs
    | d => d) = tabD n T := by
  unfold encT tabD
  rw [List.map_map, List.map_map]
  rfl
open Classical in
theorem pf_throws_of : ∀ cs Q, sp_throws_of cs Q → g_throws_of (startP n_throws_of cs) { nx := fun _ => Q (.fz .none), rt := Q } := by
  rintro cs Q ⟨dk, dm, de, den, ps, rows, rfl, hps, hr, k⟩
  have hl := hps.1
  have hrl := hr.1
  walk_at "g"
  rw [List.length_map]
  walk_at "a"
  rw [Int.toNat_natCast]
  refine lcR_map (fun _ => (rangeD 0 ps.length).map fun _ => PyData.tuple [.none, .none]) (by rw [rangeD_length]; omega) (fun d acc Y hd hl' hY => ?_) ?_
  · walk_at "a"
    rw [Int.toNat_natCast]
    refine lc_map (fun _ => PyData.tuple [.none, .none]) (by rw [rangeD_length]; omega) (fun d acc Y N hd hl' hY => ?_) ?_
    · walk_at "g"
      exact hY
    · walk_at "g"
      exact hY
  rw [encT_init]
  walk_at "g"
  refine for_inv (fun i ρ => ∃ (T : TT) (d4 d5 d6 d7 d8 d9 d10 d11 : Option D), ρ = [some (.fz (mD dk dm de den ps)), some (.fz (eOf rows)), some (.fz (.int (ps.length : Nat))), some (.ll (encT ps.length T)), d4.map .fz, d5.map .fz, d6.map .fz, d7.map .fz, d8.map .fz, d9.map .fz, d10.map .fz, d11.map .fz, none] ∧ ∀ s t, s < ps.length → t < ps.length → T s t = tabOf ps (rows.take i) s t) ⟨_, none, none, none, none, none, none, none, none, rfl, fun _ _ _ _ => rfl⟩ ?_ ?_
  · rintro i d ρ K e ⟨T, d4, d5, d6, d7, d8, d9, d10, d11, rfl, hT⟩ hK
    obtain ⟨r, hri, rfl⟩ := get_map e
    have ro := hr.2 r (List.mem_of_getElem? hri)
    have e1 : rows.take (i + 1) = rows.take i ++ [r] := by rw [List.take_succ, hri]; rfl
    walk_at "g"
    refine ⟨dk, dm, de, den, ps, r.goes, r.stays, rfl, hps, ro.g, ro.s, ro.gg, ?_⟩
    walk_at "g"
    refine for_inv (fun j ρ => ∃ (T : TT) (d8 d9 d10 d11 : Option D), ρ = [some (.fz (mD dk dm de den ps)), some (.fz (eOf rows)), some (.fz (.int (ps.length : Nat))), some (.ll (encT ps.length T)), some (.fz (.str r.goes.txt)), some (.fz (.str r.stays.txt)), some (.fz (.int r.lead)), some (.fz (.bool r.elder)), d8.map .fz, d9.map .fz, d10.map .fz, d11.map .fz, none] ∧ ∀ s t, s < ps.length → t < ps.length → T s t = if pairD s t ∈ (allPairs (pairFits ps r.goes r.stays) ps.length ps.length).take j then stepR r (tabOf ps (rows.take i) s t) else tabOf ps (rows.take i) s t) ⟨T, d8, d9, d10, d11, rfl, fun s t hs ht => by rw [hT s t hs ht, List.take_zero, if_neg (by simp)]⟩ ?_ ?_
    · rintro j d ρ K ej ⟨T, d8, d9, d10, d11, rfl, hT⟩ hK
      obtain ⟨s, t, rfl, hs, ht, hf⟩ := mem_allPairs.mp (List.mem_of_getElem? ej)
      have e2 : (allPairs (pairFits ps r.goes r.stays) ps.length ps.length).take (j + 1) = (allPairs (pairFits ps r.goes r.stays) ps.length ps.length).take j ++ [pairD s t] := by rw [List.take_succ, ej]; rfl
      have hst := hT s t hs ht
      have fin : ∀ a b, a < ps.length → b < ps.length → updT T s t (stepR r (T s t)) a b = if pairD a b ∈ (allPairs (pairFits ps r.goes r.stays) ps.length ps.length).take (j + 1) then stepR r (tabOf ps (rows.take i) a b) else tabOf ps (rows.take i) a b := fun a b ha hb => by
        rw [e2]
        unfold updT
        by_cases q : a = s ∧ b = t
        · obtain ⟨rfl, rfl⟩ := q
          rw [if_pos ⟨rfl, rfl⟩, if_pos (by simp), hst]
          split
          · exact stepR_idem r _
          · rfl
        · rw [if_neg q, hT a b ha hb]
          have : pairD a b ∈ (allPairs (pairFits ps r.goes r.stays) ps.length ps.length).take j ++ [pairD s t] ↔ pairD a b ∈ (allPairs (pairFits ps r.goes r.stays) ps.length ps.length).take j := by
            rw [List.mem_append, List.mem_singleton]
            exact ⟨fun h => h.elim id fun h => (q (pairD_inj h)).elim, .inl⟩
          simp only [this]
      have es := encT_set (n := ps.length) (t := t) T (stepR r (T s t)) hs
      walk_at "g"
      refine optP_intro (atI_nat (encT_get T hs)) ?_
      walk_at "g"
      refine optP_intro (row_at T ht) ?_
      walk_at "g"
      cases he : r.elder with
      | true =>
        have e3 : stepR r (T s t) = ((T s t).1, lsr (T s t).2 (some r.lead)) := by unfold stepR; rw [if_pos he]
        rw [e3] at es fin
        walk_at "g"
        refine ⟨(T s t).2, some r.lead, rfl, ?_⟩
        walk_at "g"
        refine optP_intro (ixN_E (j := s) rfl (by rw [encT_len]; exact hs)) ?_
        walk_at "w"
        refine optP_intro (encT_get T hs) ?_
        walk_at "g"
        refine optP_intro (ixN_E (j := t) rfl (by rw [List.length_map, List.length_range]; exact ht)) ?_
        refine hK _ ⟨_, some (.int (s : Nat)), some (.int (t : Nat)), some (eO (T s t).1), some (eO (T s t).2), ?_, fin⟩
        rw [← es, he]
        rfl
      | false =>
        have e3 : stepR r (T s t) = (lsr (T s t).1 (some r.lead), (T s t).2) := by unfold stepR; rw [if_neg (by rw [he]; exact Bool.false_ne_true)]
        rw [e3] at es fin
        walk_at "g"
        refine ⟨(T s t).1, some r.lead, rfl, ?_⟩
        walk_at "g"
        refine optP_intro (ixN_E (j := s) rfl (by rw [encT_len]; exact hs)) ?_
        walk_at "w"
        refine optP_intro (encT_get T hs) ?_
        walk_at "g"
        refine optP_intro (ixN_E (j := t) rfl (by rw [List.length_map, List.length_range]; exact ht)) ?_
        refine hK _ ⟨_, some (.int (s : Nat)), some (.int (t : Nat)), some (eO (T s t).1), some (eO (T s t).2), ?_, fin⟩
        rw [← es, he]
        rfl
    · rintro ρ ⟨T, d8, d9, d10, d11, rfl, hT⟩
      refine hK _ ⟨T, some (.str r.goes.txt), some (.str r.stays.txt), some (.int r.lead), some (.bool r.elder), d8, d9, d10, d11, rfl, fun s t hs ht => ?_⟩
      rw [hT s t hs ht, List.take_length, e1, tabOf_snoc]
      have : pairD s t ∈ allPairs (pairFits ps r.goes r.stays) ps.length ps.length ↔ pairFits ps r.goes r.stays s t = true := by
        rw [mem_allPairs]
        exact ⟨fun ⟨a, b, h1, _, _, h2⟩ => by obtain ⟨rfl, rfl⟩ := pairD_inj h1; exact h2, fun h => ⟨s, t, rfl, hs, ht, h⟩⟩
      simp only [this]
  · rintro ρ ⟨T, d4, d5, d6, d7, d8, d9, d10, d11, rfl, hT⟩
    rw [List.length_map, List.take_length] at hT
    walk_at "g"
    refine lc_map (fun d => match d with
      | .list xs => .tuple xs
      | d => d) (by rw [List.length_map, encT_len]; omega) (fun d acc Y N hd hl' hY => ?_) ?_
    · obtain ⟨xs, hxs, rfl⟩ := List.mem_map.mp hd
      walk_at "g"
      exact hY
    walk_at "g"
    have k2 : Q (.fz (tabD ps.length T)) := by rw [tabD_eq hT]; exact k
    rw [← encT_tab] at k2
    exact k2


theorem pf_law_due_table : ∀ cs Q, sp_law_due_table cs Q → g_law_due_table (startP n_law_due_table cs) { nx := fun _ => Q (.fz .none), rt := Q } := by
  rintro cs Q ⟨dk, dm, de, den, ps, rows, rfl, hps, hr, k⟩
  have hl := hps.1
  walk_at "g"
  rw [List.length_map]
  walk_at "a"
  rw [Int.toNat_natCast]
  refine for_range' (fun i ρ => ∃ (d3 d4 d5 d6 : Option C), ρ = [some (.fz (mD dk dm de den ps)), some (.fz (eOf rows)), some (.ls ((List.range i).map fun s => .tuple ((List.range ps.length).map fun t => prD (tabOf ps rows s t)))), d3, d4, d5, d6]) ⟨none, none, none, none, rfl⟩ ?_ ?_
  · rintro i ρ K hi ⟨d3, d4, d5, d6, rfl⟩ hK
    rw [Int.zero_add]
    walk_at "g"
    rw [List.length_map]
    walk_at "a"
    rw [Int.toNat_natCast]
    refine for_range' (fun j ρ => ∃ (d5 d6 : Option C), ρ = [some (.fz (mD dk dm de den ps)), some (.fz (eOf rows)), some (.ls ((List.range i).map fun s => .tuple ((List.range ps.length).map fun t => prD (tabOf ps rows s t)))), some (.fz (.int (i : Nat))), some (.ls ((List.range j).map fun t => prD (tabOf ps rows i t))), d5, d6]) ⟨d5, d6, rfl⟩ ?_ ?_
    · rintro j ρ K hj ⟨d5, d6, rfl⟩ hK
      rw [Int.zero_add]
      walk_at "g"
      refine ⟨dk, dm, de, den, ps, rows, i, j, false, rfl, hps, hr, hi, hj, ?_⟩
      walk_at "g"
      refine ⟨_, rfl, ?_⟩
      walk_at "g"
      refine ⟨dk, dm, de, den, ps, rows, i, j, true, rfl, hps, hr, hi, hj, ?_⟩
      walk_at "g"
      refine ⟨_, rfl, ?_⟩
      walk_at "g"
      refine ⟨by rw [sizeLine_val, List.length_map, List.length_range]; omega, ?_⟩
      exact hK _ ⟨some (.fz (.int (j : Nat))), some (.fz (.list ((leadsOf ps rows i j false).map .int))), by rw [List.range_succ, List.map_append]; rfl⟩
    · rintro ρ ⟨d5, d6, rfl⟩
      walk_at "g"
      refine ⟨by rw [sizeLine_val, List.length_map, List.length_range]; omega, ?_⟩
      exact hK _ ⟨some (.fz (.int (i : Nat))), some (.ls ((List.range ps.length).map fun t => prD (tabOf ps rows i t))), d5, d6, by rw [List.range_succ, List.map_append]; rfl⟩
  · rintro ρ ⟨d3, d4, d5, d6, rfl⟩
    walk_at "g"
    exact k
/-- the pattern that is a base -/
def baseAsk (m : Str) (lv : List Nat) : Ask := if lv = [] then .mark m else .base m lv
theorem baseAsk_ok {p : Part} (h : p.Ok) : (baseAsk p.mark p.lv).Ok ∧ (baseAsk p.mark p.lv).isGoes ∧ (baseAsk p.mark p.lv).txt = btS p.mark p.lv := by
  unfold baseAsk
  by_cases e : p.lv = []
  · rw [if_pos e, e]
    exact ⟨h.mkk, trivial, (bt_nil _).symm⟩
  · rw [if_neg e]
    exact ⟨⟨h.mkk, e, h.lv⟩, trivial, rfl⟩
theorem pf_law_pattern : ∀ cs Q, sp_law_pattern cs Q → g_law_pattern (startP n_law_pattern cs) { nx := fun _ => Q (.fz .none), rt := Q } := by
  rintro cs Q ⟨dk, dm, de, den, ps, rfl, hps, hne, k⟩
  have hl := hps.1
  walk_at "g"
  refine ⟨_, _, rfl, .inl rfl, by simpa using hne, by rw [List.length_map]; omega, fun x hx => ?_⟩
  obtain ⟨p, hp, rfl⟩ := List.mem_map.mp hx
  have po := hps.2 p hp
  have pl := name_len po
  have bl := base_len p.name
  have eb : baseS p.name = btS p.mark p.lv := base_bt po.mkk _ po.tl
  obtain ⟨a1, a2, a3⟩ := baseAsk_ok po
  walk_at "g"
  refine ⟨_, rfl, by omega, ?_⟩
  rw [eb] at bl ⊢
  walk_at "g"
  refine ⟨by rw [sizeLine_val]; omega, ?_⟩
  rw [split_bt po.mkk]
  walk_at "g"
  refine optP_intro (at_mapE (n := 0) rfl rfl) ?_
  walk_at "g"
  refine ⟨_, _, rfl, .inl rfl, by simp, by show 4 ≤ 1000000; decide, ?_⟩
  walk_at "m"
  · walk_at "g"
    exact k .any trivial trivial
  · walk_at "g"
    rw [← a3]
    exact k _ a1 a2
  · walk_at "g"
    rw [← a3]
    exact k _ a1 a2
  · walk_at "g"
    exact k (.mark p.mark) po.mkk trivial
theorem pf_law_offer : ∀ cs Q, sp_law_offer cs Q → g_law_offer (startP n_law_offer cs) { nx := fun _ => Q (.fz .none), rt := Q } := by
  rintro cs Q ⟨dk, dm, de, den, ps, rfl, hps, hne, k⟩
  walk_at "g"
  refine sp_ints [0, 1, 1, 2, 2, 3, 4, 12] rfl (by decide) (by decide) fun z hz => ?_
  have hz := (by decide : ∀ z ∈ ([0, 1, 1, 2, 2, 3, 4, 12] : List Int), 0 ≤ z ∧ z ≤ 12) z hz
  walk_at "a"
  refine for_range' (fun i ρ => ∃ (rows : List Row) (d3 d4 d5 : Option C), ρ = [some .orc, some (.fz (mD dk dm de den ps)), some (.ls (rows.map Row.d)), d3, d4, d5] ∧ rows.length = i ∧ ∀ r ∈ rows, r.Ok ∧ r.lead.natAbs ≤ 999) ⟨[], none, none, none, rfl, rfl, by simp⟩ ?_ ?_
  · rintro i ρ K hi ⟨rows, d3, d4, d5, rfl, hl, hr⟩ hK
    walk_at "g"
    refine ⟨dk, dm, de, den, ps, rfl, hps, hne, fun g g1 g2 => ?_⟩
    walk_at "g"
    refine ⟨dk, dm, de, den, ps, rfl, hps, hne, fun o o1 o2 => ?_⟩
    walk_at "g"
    refine ⟨_, _, rfl, .inl rfl, by simp, by show 5 ≤ 1000000; decide, ?_⟩
    have go : ∀ (s : Ask) (z : Int) (b : Bool), s.Ok → z.natAbs ≤ 999 → ∃ (rows' : List Row) (d3 d4 d5 : Option C), [some .orc, some (.fz (mD dk dm de den ps)), some (.ls (rows.map Row.d ++ [Row.d ⟨g, s, z, b⟩])), some (.fz (.int (0 + (i : Nat)))), some (.fz (.str g.txt)), some (.fz (.str s.txt))] = [some .orc, some (.fz (mD dk dm de den ps)), some (.ls (rows'.map Row.d)), d3, d4, d5] ∧ rows'.length = i + 1 ∧ ∀ r ∈ rows', r.Ok ∧ r.lead.natAbs ≤ 999 := fun s z b h1 h2 => ⟨rows ++ [⟨g, s, z, b⟩], _, _, _, by rw [List.map_append]; rfl, by rw [List.length_append]; show rows.length + 1 = _; omega, fun r hr' => by
      rcases List.mem_append.mp hr' with h | h
      · exact hr r h
      · rw [List.mem_singleton] at h; subst h; exact ⟨⟨g1, g2, h1, by show z.natAbs < _; omega⟩, h2⟩⟩
    walk_at "m"
    all_goals
      walk_at "g"
      refine fun z hz => ?_
      walk_at "g"
      refine ⟨by decide, fun y y0 y1 => ?_⟩
      walk_at "g"
      refine ⟨by rw [sizeLine_val, List.length_map]; omega, ?_⟩
    · exact hK _ (go .same z _ trivial hz)
    · exact hK _ (go .more z _ trivial hz)
    · exact hK _ (go .more z _ trivial hz)
    · exact hK _ (go .any z _ trivial hz)
    · exact hK _ (go o z _ o1 hz)
  · rintro ρ ⟨rows, d3, d4, d5, rfl, hl, hr⟩
    walk_at "g"
    exact k rows (by omega) fun r h => ⟨(hr r h).1, by have := (hr r h).2; omega⟩


theorem pf_law_rows_of : ∀ cs Q, sp_law_rows_of cs Q → g_law_rows_of (startP n_law_rows_of cs) { nx := fun _ => Q (.fz .none), rt := Q } := by
  rintro cs Q ⟨dk, dm, de, den, ps, rfl, hps, hne, k⟩
  walk_at "g"
  refine ⟨dk, dm, de, den, ps, rfl, hps, hne, fun rows hl hr => ?_⟩
  have ec : cutD (rows.map Row.d) none (some 10) = (rows.take 10).map Row.d := by rw [cut_to (n := 10) 10 rfl, List.map_take]
  have hl' : (rows.take 10).length ≤ 10 := by rw [List.length_take]; omega
  have hr' : ∀ r ∈ rows.take 10, r.Ok ∧ r.lead.natAbs ≤ 999 := fun r h => hr r (List.mem_of_mem_take h)
  walk_at "g"
  refine ⟨by decide, fun z z0 z1 => ?_⟩
  walk_at "a"
  refine for_range' (fun i ρ => ∃ (rows : List Row) (d3 d4 d5 d6 d7 : Option D), ρ = [some .orc, some (.fz (mD dk dm de den ps)), some (.ls (rows.map Row.d)), d3.map .fz, d4.map .fz, d5.map .fz, d6.map .fz, d7.map .fz] ∧ rows.length ≤ 10 + i ∧ ∀ r ∈ rows, r.Ok ∧ r.lead.natAbs ≤ 999 + 2 * i) ⟨rows.take 10, none, none, none, none, none, by rw [← ec]; rfl, by omega, hr'⟩ ?_ ?_
  · rintro i ρ K hi ⟨rows, d3, d4, d5, d6, d7, rfl, hl, hr⟩ hK
    have hi : i < 2 := by omega
    cases rows with
    | nil =>
      walk_at "g"
      exact hK _ ⟨[], some (.int (0 + (i : Nat))), d4, d5, d6, d7, rfl, by show 0 ≤ _; omega, by simp⟩
    | cons q rows =>
      walk_at "g"
      refine ⟨by simp, by rw [List.length_map]; omega, fun x hx => ?_⟩
      obtain ⟨r, hrm, rfl⟩ := List.mem_map.mp hx
      obtain ⟨ro, rl⟩ := hr r hrm
      walk_at "g"
      refine sp_ints [-1, 0, 1, 2] rfl (by decide) (by decide) fun y hy => ?_
      have hy := (by decide : ∀ z ∈ ([-1, 0, 1, 2] : List Int), -1 ≤ z ∧ z ≤ 2) y hy
      walk_at "g"
      refine ⟨by decide, fun x x0 x1 => ?_⟩
      walk_at "g"
      refine ⟨by rw [sizeLine_val]; show (((q :: rows).map Row.d).length) < _; rw [List.length_map]; omega, ?_⟩
      refine hK _ ⟨(q :: rows) ++ [⟨r.goes, r.stays, r.lead + y, decide (x = 0)⟩], some (.int (0 + (i : Nat))), some (.str r.goes.txt), some (.str r.stays.txt), some (.int r.lead), some (.bool r.elder), by rw [List.map_append]; rfl, by rw [List.length_append]; show (q :: rows).length + 1 ≤ _; omega, fun z hz => ?_⟩
      rcases List.mem_append.mp hz with h | h
      · have := hr z h
        exact ⟨this.1, by omega⟩
      · rw [List.mem_singleton] at h
        subst h
        exact ⟨⟨ro.g, ro.gg, ro.s, by show (r.lead + y).natAbs < _; omega⟩, by show (r.lead + y).natAbs ≤ _; omega⟩
  · rintro ρ ⟨rows, d3, d4, d5, d6, d7, rfl, hl, hr⟩
    have hl : rows.length ≤ 12 := by have : z.toNat ≤ 2 := (by omega); omega
    have hr : ∀ r ∈ rows, r.Ok ∧ r.lead.natAbs ≤ 10000000000000 := fun r h => ⟨(hr r h).1, by have := (hr r h).2; omega⟩
    have fin : ∀ rows : List Row, rows.length ≤ 12 → (∀ r ∈ rows, r.Ok ∧ r.lead.natAbs ≤ 10000000000000) → Q (.fz (.tuple (rows.map Row.d))) := fun rows h1 h2 => k rows h1 h2
    cases rows with
    | nil =>
      walk_at "g"
      exact fin [] hl hr
    | cons q rows =>
      have hq := hr q List.mem_cons_self
      walk_at "g"
      refine ⟨by decide, fun y y0 y1 => ?_⟩
      walk_at "g"
      refine iteB_d (fun _ => ?_) (fun _ => ?_)
      · walk_at "g"
        refine optP_intro (at_mapE (n := 0) rfl rfl) ?_
        walk_at "g"
        refine ⟨⟨by decide, by decide, by decide⟩, ?_⟩
        walk_at "g"
        refine ⟨⟨by decide, by decide, by decide⟩, ?_⟩
        walk_at "g"
        refine sp_ints [1000000000000, -1000000000000] rfl (by decide) (by decide) fun z hz => ?_
        have hz := (by decide : ∀ z ∈ ([1000000000000, -1000000000000] : List Int), z.natAbs ≤ 1000000000000) z hz
        walk_at "g"
        refine optP_intro (at_mapE (n := 0) rfl rfl) ?_
        walk_at "g"
        rw [show ((q :: rows).map Row.d) = q.d :: rows.map Row.d from rfl, cut_tail]
        refine ⟨add_le (by rw [List.length_map]; show 1 + rows.length ≤ _; have : (q :: rows).length ≤ 12 := hl; rw [List.length_cons] at this; omega), ?_⟩
        walk_at "g"
        exact fin (⟨q.goes, .any, z, q.elder⟩ :: rows) hl fun r h => by
          rcases List.mem_cons.mp h with rfl | h
          · exact ⟨⟨hq.1.g, hq.1.gg, trivial, by show z.natAbs < _; omega⟩, by show z.natAbs ≤ _; omega⟩
          · exact hr r (List.mem_cons_of_mem _ h)
      · walk_at "g"
        exact fin (q :: rows) hl hr
theorem pf_law_asked_pair : ∀ cs Q, sp_law_asked_pair cs Q → g_law_asked_pair (startP n_law_asked_pair cs) { nx := fun _ => Q (.fz .none), rt := Q } := by
  rintro cs Q ⟨dk, dm, de, den, ps, rows, rfl, hps, hne, hr, k⟩
  have hl := hps.1
  have hrl := hr.1
  have hpos : 0 < ps.length := List.length_pos_iff.mpr hne
  have two : ∀ (s t : Int), 0 ≤ s → (s < ps.length ∨ s = 0) → 0 ≤ t → (t < ps.length ∨ t = 0) → Q (.fz (.tuple [.int s, .int t])) := fun s t h1 h2 h3 h4 => by
    have := k s.toNat t.toNat (by omega) (by omega)
    unfold pairD at this
    rw [Int.toNat_of_nonneg h1, Int.toNat_of_nonneg h3] at this
    exact this
  have last : ∀ d3 d4 : Option C, sRet (gTup (gCons (gCall sp_law_draw (gCons (gVar 0) (gCons (gCallB pLen (gCons (gOp2 pIx (gVar 1) (gC (.int 1))) gNil)) gNil))) (gCons (gCall sp_law_draw (gCons (gVar 0) (gCons (gCallB pLen (gCons (gOp2 pIx (gVar 1) (gC (.int 1))) gNil)) gNil))) gNil))) [some .orc, some (.fz (mD dk dm de den ps)), some (.fz (eOf rows)), d3, d4] { nx := fun _ => Q (.fz .none), rt := Q } := fun d3 d4 => by
    walk_at "g"
    rw [List.length_map]
    refine ⟨by omega, fun s s0 s1 => ?_⟩
    walk_at "g"
    rw [List.length_map]
    refine ⟨by omega, fun t t0 t1 => ?_⟩
    walk_at "g"
    exact two s t s0 s1 t0 t1
  cases rows with
  | nil =>
    walk_at "w"
    refine iteB_f rfl ?_
    refine iteB_f rfl ?_
    exact last none none
  | cons q rows =>
    walk_at "g"
    refine ⟨by decide, fun y y0 y1 => ?_⟩
    walk_at "w"
    refine iteB_d (fun _ => ?_) (fun _ => ?_)
    · walk_at "g"
      refine ⟨_, _, rfl, .inl rfl, by simp, by rw [List.length_map]; omega, fun x hx => ?_⟩
      obtain ⟨r, hrm, rfl⟩ := List.mem_map.mp hx
      have ro := hr.2 r hrm
      walk_at "g"
      refine ⟨dk, dm, de, den, ps, r.goes, r.stays, rfl, hps, ro.g, ro.s, ro.gg, ?_⟩
      have hal := allPairs_len (pairFits ps r.goes r.stays) ps.length ps.length
      have h3 : ps.length * ps.length ≤ 12 * 12 := Nat.mul_le_mul hl hl
      have mem := fun d => @mem_allPairs (pairFits ps r.goes r.stays) ps.length ps.length d
      generalize allPairs (pairFits ps r.goes r.stays) ps.length ps.length = L at hal mem
      cases L with
      | nil =>
        walk_at "w"
        refine And.intro rfl ?_
        walk_at "w"
        refine iteB_f rfl ?_
        exact last (some (.fz r.d)) (some (.ls []))
      | cons d L =>
        walk_at "g"
        refine ⟨_, _, rfl, .inr rfl, by simp, by omega, fun x hx => ?_⟩
        obtain ⟨s, t, rfl, h1, h2, _⟩ := (mem x).mp hx
        walk_at "g"
        exact k s t h1 h2
    · exact last none none


def ordD (p : Nat × Nat) : D := .tuple [.int (p.1 : Nat), .int (p.2 : Nat)]
theorem nb_ord (p : Nat × Nat) : Nb (ordD p) := .tup fun d hd => by
  rcases List.mem_cons.mp hd with rfl | hd
  · exact .int
  · rw [List.mem_singleton] at hd; subst hd; exact .int
theorem ord_inj (a b : Nat × Nat) (h : ordD a = ordD b) : a = b := by
  unfold ordD at h
  injection h with h
  injection h with h1 h2
  injection h2 with h2 _
  injection h1 with h1
  injection h2 with h2
  exact Prod.ext (by omega) (by omega)
theorem ord_dt (p : Nat × Nat) : Dt 1 (ordD p) := .tup fun d hd => by
  rcases List.mem_cons.mp hd with rfl | hd
  · exact .int
  · rw [List.mem_singleton] at hd; subst hd; exact .int
theorem ords_ok (o : List (Nat × Nat)) : datOk (.list (o.map ordD)) = true := Dt.ok (n := 2) (.lst fun d hd => by obtain ⟨p, _, rfl⟩ := List.mem_map.mp hd; exact ord_dt p) (by decide)
theorem ord_ok (p : Nat × Nat) : datOk (ordD p) = true := (ord_dt p).ok (by decide)
/-- pairs found: each below n, L, none twice -/
structure OrdOk (n L : Nat) (o : List (Nat × Nat)) : Prop where
  lt : ∀ p ∈ o, p.1 < n ∧ p.2 < L
  nd : o.Nodup
theorem OrdOk.few {n L : Nat} {o : List (Nat × Nat)} (h : OrdOk n L o) (hl : n * L ≤ 12) : o.length ≤ 12 := by
  have h1 : (o.map fun p => p.1 * L + p.2).Nodup := by
    refine List.pairwise_map.mpr (List.Pairwise.imp_of_mem (fun {a b} ha hb hn e => hn ?_) h.nd)
    have la := (h.lt a ha).2
    have lb := (h.lt b hb).2
    have e : a.1 * L + a.2 = b.1 * L + b.2 := e
    have key : ∀ x y : Nat, y < L → (x * L + y) / L = x := fun x y hy => by
      rw [Nat.mul_comm, Nat.mul_add_div (by omega), Nat.div_eq_of_lt hy, Nat.add_zero]
    have e1 := congrArg (· / L) e
    rw [key _ _ la, key _ _ lb] at e1
    rw [e1] at e
    exact Prod.ext e1 (by omega)
  have h2 := nodup_few (n * L) _ h1 fun x hx => by
    obtain ⟨p, hp, rfl⟩ := List.mem_map.mp hx
    obtain ⟨a, b⟩ := h.lt p hp
    have : (p.1 + 1) * L ≤ n * L := Nat.mul_le_mul_right L a
    rw [Nat.succ_mul] at this
    omega
  rw [List.length_map] at h2
  omega
theorem OrdOk.add {n L : Nat} {o : List (Nat × Nat)} (h : OrdOk n L o) {p : Nat × Nat} (h1 : p.1 < n) (h2 : p.2 < L) (hn : p ∉ o) : OrdOk n L (o ++ [p]) := by
  refine ⟨fun q hq => ?_, ?_⟩
  · rcases List.mem_append.mp hq with hq | hq
    · exact h.lt q hq
    · rw [List.mem_singleton] at hq; subst hq; exact ⟨h1, h2⟩
  · rw [List.nodup_append]
    exact ⟨h.nd, by simp, fun a ha b hb => by rw [List.mem_singleton] at hb; subst hb; exact fun e => hn (e ▸ ha)⟩
theorem tl_more {t w : Str} (h : TlOk t) (h4 : t.length ≤ 4) (hw : w.length ≤ 3) : TlOk (t ++ "@" ++ w) := by
  refine ⟨.inr ?_, by rw [PySem.Str.length_append, PySem.Str.length_append]; show t.length + 1 + w.length ≤ 20; omega⟩
  have e : (t ++ "@" ++ w).cps.toList = t.cps.toList ++ (64 :: w.cps.toList) := by
    have := TL.tl_append (t ++ "@") w
    rw [TL.tl_append t "@"] at this
    have e1 : TL.tl ("@" : Str) = [64] := by decide +kernel
    rw [e1] at this
    rw [show (t ++ "@" ++ w).cps.toList = TL.tl (t ++ "@" ++ w) from rfl, this, List.append_assoc]
    rfl
  rcases h.1 with h | ⟨r, h⟩
  · exact ⟨w.cps.toList, by rw [e, h]; rfl⟩
  · exact ⟨r ++ 64 :: w.cps.toList, by rw [e, h]; rfl⟩
theorem withEnd {tg : Tg} {body : S} {Dp : PEnds} {ds : List D} {ρ : PEnv} (I : PEnv → Prop) (h : ∀ ρ, I ρ → Dp.nx ρ) (g : (∀ ρ, I ρ → Dp.nx ρ) → forW tg body Dp ds ρ) : forW tg body Dp ds ρ := g h
def eLb (m : Mach) (sts : List (List Nat)) (o : List (Nat × Nat)) (rows : List D) (d12 c13 d14 d15 : Option C) (d16 : Option D) : PEnv :=
  [some .orc, some (.fz m.d), some (.fz (.int 3)), some (.fz (.tuple (m.kinds.map .str))), some (.fz (.tuple (m.names.map .str))), some (.fz (.tuple (m.moves.map eRow))), some (.fz (.tuple (m.ends.map eO))), some (.fz (.int m.entry)), some (.fz (.tuple (m.places.map .int))),
   some (.ls (o.map ordD)), some (.ls rows), some (.ls (sts.map fun r => .list (r.map fun k : Nat => .int k))), d12, c13, d14, d15, d16.map .fz, none, none, none]
theorem nat_at {r : List Nat} {j : Nat} {x : Nat} (h : r[j]? = some x) : L2.atI (r.map fun k : Nat => PyData.int k) ((j : Nat) : Int) = some (.int (x : Nat)) := at_map h
theorem nmf_list : ∀ {l : List Str}, (∀ x ∈ l, NmF x) → ∃ ps : List Part, l = ps.map Part.name ∧ ∀ p ∈ ps, p.Ok ∧ p.tail.length ≤ 4 ∧ p.lab = 0
  | [], _ => ⟨[], rfl, fun _ h => nomatch h⟩
  | x :: l, h => by
    obtain ⟨p, p1, p2, p3, rfl⟩ := h x List.mem_cons_self
    obtain ⟨ps, rfl, hp⟩ := nmf_list fun y hy => h y (List.mem_cons_of_mem _ hy)
    exact ⟨p :: ps, rfl, List.forall_mem_cons.mpr ⟨⟨p1, p2, p3⟩, hp⟩⟩
theorem xyz_at {l : Nat} (h : l < 3) : ∃ w : Str, L2.atI ([.str "x", .str "y", .str "z"] : List D) ((l : Nat) : Int) = some (.str w) ∧ w.length ≤ 3 := by
  obtain rfl | rfl | rfl : l = 0 ∨ l = 1 ∨ l = 2 := by omega
  · exact ⟨"x", rfl, by decide⟩
  · exact ⟨"y", rfl, by decide⟩
  · exact ⟨"z", rfl, by decide⟩
theorem pf_law_labelled : ∀ cs Q, sp_law_labelled cs Q → g_law_labelled (startP n_law_labelled cs) { nx := fun _ => Q (.fz .none), rt := Q } := by
  rintro cs Q ⟨m, ps, rfl, ho, h4, hnm, hp, k⟩
  have hk1 := ho.k1
  have hn0 := ho.n0
  have hn1 := ho.n1
  have hee := ho.ends
  have hps : ps.length = m.moves.length := by have := ho.names; rw [hnm, List.length_map] at this; exact this
  have hl : m.moves.length * 3 ≤ 12 := Nat.mul_le_mul_right 3 h4
  walk_at "a"
  refine lc_rel (fun j _ x => ∃ r : List Nat, x = .list (r.map fun k : Nat => PyData.int k) ∧ r.length = m.kinds.length ∧ ∀ k ∈ r, k < 3) (by rw [rangeD_length]; decide) (fun j d acc Y N e hl' hY => ?_) fun xs hly hR => ?_
  · walk_at "g"
    refine lc_rel (fun j _ x => ∃ k : Nat, x = .int (k : Nat) ∧ k < 3) (by rw [List.length_map]; omega) (fun j d acc Y N e hl' hY => ?_) fun xs hly hR => ?_
    · obtain ⟨s, hs, rfl⟩ := get_map e
      walk_at "g"
      refine ⟨by decide, fun z z0 z1 => ?_⟩
      walk_at "g"
      exact hY _ ⟨z.toNat, by rw [Int.toNat_of_nonneg z0], by omega⟩
    · obtain ⟨r, rfl, hr2, hP⟩ := pics_relP (fun k : Nat => PyData.int k) (fun _ k => k < 3) hly hR
      rw [List.length_map] at hr2
      walk_at "g"
      exact hY _ ⟨r, rfl, hr2, fun k hk => by obtain ⟨j, hj⟩ := List.mem_iff_getElem?.mp hk; exact hP j k hj⟩
  obtain ⟨ts, rfl, hts, hT⟩ := pics_relP (fun r : List Nat => PyData.list (r.map fun k : Nat => PyData.int k)) (fun _ r => r.length = m.kinds.length ∧ ∀ k ∈ r, k < 3) hly hR
  have hts : ts.length = 3 := by rw [rangeD_length] at hts; exact hts
  walk_at "a"
  refine P.withEnd (I := fun ρ => ∃ (o : List (Nat × Nat)) (rows : List D) (d12 c13 d14 d15 : Option C) (d16 : Option D), ρ = eLb m ts o rows d12 c13 d14 d15 d16 ∧ OrdOk m.moves.length 3 o ∧ 0 < o.length ∧ rows.length ≤ 12) (fun ρ => ?_) fun hE => ?_
  · rintro ⟨o, rows, d12, c13, d14, d15, d16, rfl, hO, ho0, hr⟩
    have hfew := hO.few hl
    walk_at "g"
    refine lc_rel (fun j _ x => ∃ q : Part, x = .str q.name ∧ ∀ p, o[j]? = some p → q.lab = p.2 ∧ q.Ok) (by rw [List.length_map]; omega) (fun j d acc Y N e hl' hY => ?_) fun xs hly hR => ?_
    · obtain ⟨p, hpj, rfl⟩ := get_map e
      obtain ⟨p1, p2⟩ := hO.lt p (List.mem_of_getElem? hpj)
      have ea : ps[p.1]? = some (ps[p.1]'(by omega)) := List.getElem?_eq_getElem (by omega)
      obtain ⟨w, ew, w3⟩ := xyz_at p2
      obtain ⟨a1, a2, _⟩ := hp _ (List.mem_of_getElem? ea)
      have a3 := name_len a1
      have e1 : (Str.ofString "@").length = 1 := rfl
      walk_at "g"
      refine optP_intro (at_map (xs := m.names) (f := PyData.str) (x := (ps[p.1]'(by omega)).name) (by rw [hnm, List.getElem?_map, ea]; rfl)) ?_
      walk_at "g"
      refine ⟨add_le (by rw [e1]; omega), ?_⟩
      walk_at "g"
      refine optP_intro ew ?_
      walk_at "g"
      refine ⟨add_le (by rw [PySem.Str.length_append, e1]; omega), ?_⟩
      walk_at "g"
      refine hY _ ⟨⟨(ps[p.1]'(by omega)).mark, (ps[p.1]'(by omega)).lv, (ps[p.1]'(by omega)).tail ++ "@" ++ w, p.2⟩, ?_, fun p' hp' => ?_⟩
      · congr 1
        refine TL.ext_tl ?_
        unfold Part.name
        rw [TL.tl_append, TL.tl_append, TL.tl_append, TL.tl_append, TL.tl_append, TL.tl_append, List.append_assoc, List.append_assoc, List.append_assoc]
      · rw [hpj] at hp'
        cases hp'
        exact ⟨rfl, a1.mkk, a1.lv, tl_more a1.tl a2 w3⟩
    obtain ⟨qs, rfl, hql, hP⟩ := pics_relP (fun q : Part => PyData.str q.name) (fun j q => ∀ p, o[j]? = some p → q.lab = p.2 ∧ q.Ok) hly hR
    rw [List.length_map] at hql
    walk_at "g"
    refine lc_rel (fun j _ x => True) (by rw [List.length_map]; omega) (fun j d acc Y N e hl' hY => ?_) fun fees hfl hfR => ?_
    · obtain ⟨p, hpj, rfl⟩ := get_map e
      obtain ⟨p1, p2⟩ := hO.lt p (List.mem_of_getElem? hpj)
      have ee : m.ends[p.1]? = some (m.ends[p.1]'(by omega)) := List.getElem?_eq_getElem (by omega)
      walk_at "g"
      refine optP_intro (at_map ee) ?_
      walk_at "g"
      exact hY _ trivial
    walk_at "g"
    refine lc_map (fun d => match d with
      | .tuple [_, l] => l
      | d => d) (by rw [List.length_map]; omega) (fun d acc Y N hd hl' hY => ?_) ?_
    · obtain ⟨p, hpo, rfl⟩ := List.mem_map.mp hd
      walk_at "g"
      exact hY
    walk_at "g"
    have ep : ((o.map ordD).map fun d => match d with
      | .tuple [_, l] => l
      | d => d) = qs.map fun q => PyData.int (q.lab : Nat) := by
      rw [List.map_map]
      refine List.ext_getElem (by rw [List.length_map, List.length_map]; omega) fun j h1 h2 => ?_
      rw [List.getElem_map, List.getElem_map]
      rw [List.length_map] at h1 h2
      have := (hP j _ (List.getElem?_eq_getElem h2) _ (List.getElem?_eq_getElem h1)).1
      rw [this]
      rfl
    rw [ep]
    exact k _ _ _ _ qs ⟨by omega, fun q hq => by
      obtain ⟨j, hj⟩ := List.mem_iff_getElem?.mp hq
      have h1 := (List.getElem?_eq_some_iff.mp hj).1
      exact (hP j q hj _ (List.getElem?_eq_getElem (by omega))).2⟩ (fun h => by rw [h] at hql; simp at hql; omega)
  have hEnd := fun (o : List (Nat × Nat)) (rows : List D) (d12 c13 d14 d15 : Option C) (d16 : Option D) (h1 : OrdOk m.moves.length 3 o) (h2 : 0 < o.length) (h3 : rows.length ≤ 12) => hE _ ⟨o, rows, d12, c13, d14, d15, d16, rfl, h1, h2, h3⟩
  refine for_range' (fun i ρ => ∃ (o : List (Nat × Nat)) (rows : List D) (d12 c13 d14 d15 : Option C) (d16 : Option D), ρ = eLb m ts o rows d12 c13 d14 d15 d16 ∧ OrdOk m.moves.length 3 o ∧ 0 < o.length ∧ rows.length ≤ i) ⟨[(0, 0)], [], none, none, none, none, none, rfl, ⟨fun p hp => by rw [List.mem_singleton] at hp; subst hp; exact ⟨hn0, by decide⟩, by simp⟩, by decide, Nat.le_refl _⟩ ?_ ?_
  · rintro i ρ K hi ⟨o, rows, d12, c13, d14, d15, d16, rfl, hO, ho0, hr⟩ hK
    have hi : i < 12 := hi
    rw [Int.zero_add]
    have hfew := hO.few hl
    walk_at "g"
    rw [List.length_map]
    refine iteB_d (fun h => ?_) (fun h => ?_)
    · exact hEnd o rows _ _ _ _ _ hO ho0 (by omega)
    · have hio : i < o.length := by omega
      obtain ⟨s, l, hsl⟩ : ∃ s l, o[i]? = some (s, l) := ⟨o[i].1, o[i].2, by rw [List.getElem?_eq_getElem hio]⟩
      obtain ⟨hs, hll⟩ := hO.lt _ (List.mem_of_getElem? hsl)
      have hs : s < m.moves.length := hs
      have hll : l < 3 := hll
      obtain ⟨r, g1, g2, g3⟩ := mv_row ho hs
      have tl : ts[l]? = some (ts[l]'(by omega)) := List.getElem?_eq_getElem (by omega)
      obtain ⟨t1, t2⟩ := hT _ _ tl
      walk_at "g"
      rw [List.length_map]
      walk_at "a"
      rw [Int.toNat_natCast]
      refine for_range' (fun j ρ => ∃ (o' : List (Nat × Nat)) (row : List D) (d14 d15 : Option C) (d16 : Option D), ρ = eLb m ts o' rows (some (.fz (.int (i : Nat)))) (some (.ls row)) d14 d15 d16 ∧ OrdOk m.moves.length 3 o' ∧ o'[i]? = some (s, l) ∧ row.length ≤ j) ⟨o, [], d14, d15, d16, rfl, hO, hsl, Nat.le_refl _⟩ ?_ ?_
      · rintro j ρ K hj ⟨o', row, d14, d15, d16, rfl, hO, hsl, hrl⟩ hK
        rw [Int.zero_add]
        have hfew := hO.few hl
        have ej : r[j]? = some (r[j]'(by omega)) := List.getElem?_eq_getElem (by omega)
        have tj : (ts[l]'(by omega))[j]? = some ((ts[l]'(by omega))[j]'(by omega)) := List.getElem?_eq_getElem (by omega)
        have hb : (ts[l]'(by omega))[j]'(by omega) < 3 := t2 _ (List.getElem_mem _)
        generalize (ts[l]'(by omega))[j]'(by omega) = b at tj hb
        walk_at "g"
        refine optP_intro (at_map hsl) ?_
        walk_at "g"
        refine optP_intro (at_map g1) ?_
        walk_at "g"
        refine optP_intro (at_map ej) ?_
        walk_at "g"
        refine optP_intro (at_map hsl) ?_
        walk_at "g"
        refine optP_intro (at_map tl) ?_
        walk_at "g"
        refine optP_intro (nat_at tj) ?_
        cases em : r[j]'(by omega) with
        | none =>
          walk_at "g"
          refine ⟨by rw [sizeLine_val]; omega, ?_⟩
          exact hK _ ⟨o', row ++ [.none], some (.fz (.int (j : Nat))), some (.fz .none), some (.int (b : Nat)), rfl, hO, hsl, by rw [List.length_append]; show row.length + 1 ≤ j + 1; omega⟩
        | some tc =>
          obtain ⟨t, c⟩ := tc
          have ht' : t < m.moves.length := ho.tgt r g3 t c (by rw [← em]; exact List.getElem_mem _)
          walk_at "g"
          refine ⟨ords_ok o', ?_⟩
          have hin := inD_map (f := ordD) nb_ord ord_inj (x := (t, b)) (xs := o')
          have e0 : ordD (t, b) = .tuple [.int (t : Nat), .int (b : Nat)] := rfl
          rw [e0] at hin
          have go : ∀ (Dn : PEnds) (o2 : List (Nat × Nat)), Dn.nx = K → OrdOk m.moves.length 3 o2 → o2[i]? = some (s, l) → (t, b) ∈ o2 → sExpr (gApp 13 (gCons (gIf (gTst (gOp2 pIsN (gVar 15) (gC .none))) (gC .none) (gTup (gCons (gIndex (gVar 9) (gTup (gCons (gOp2 pIx (gVar 15) (gC (.int 0))) (gCons (gVar 16) gNil)))) (gCons (gOp2 pIx (gVar 15) (gC (.int 1))) gNil)))) gNil)) (eLb m ts o2 rows (some (.fz (.int (i : Nat)))) (some (.ls row)) (some (.fz (.int (j : Nat)))) (some (.fz (.tuple [.int (t : Nat), .int c]))) (some (.int (b : Nat)))) Dn := fun Dn o2 hDn h1 h2 h3 => by
            obtain ⟨q, hq1, hq2⟩ := idx_map (f := ordD) nb_ord ord_inj h3
            walk_at "g"
            refine ⟨ords_ok o2, ?_⟩
            walk_at "g"
            refine optP_intro hq1 ?_
            walk_at "g"
            refine ⟨by rw [sizeLine_val]; omega, ?_⟩
            rw [hDn]
            exact hK _ ⟨o2, row ++ [.tuple [.int (q : Nat), .int c]], some (.fz (.int (j : Nat))), some (.fz (.tuple [.int (t : Nat), .int c])), some (.int (b : Nat)), rfl, h1, h2, by rw [List.length_append]; show row.length + 1 ≤ j + 1; omega⟩
          by_cases hm : (t, b) ∈ o'
          · rw [hin.mpr hm]
            walk_at "w"
            refine iteB_f rfl ?_
            exact go _ o' rfl hO hsl hm
          · rw [show inD (.tuple [.int (t : Nat), .int (b : Nat)]) (o'.map ordD) = false from by
              cases q : inD (.tuple [.int (t : Nat), .int (b : Nat)]) (o'.map ordD) with
              | false => rfl
              | true => exact (hm (hin.mp q)).elim]
            have h0 := (List.getElem?_eq_some_iff.mp hsl).1
            walk_at "g"
            refine ⟨by rw [sizeLine_val, List.length_map]; omega, ?_⟩
            have e1 : o'.map ordD ++ [.tuple [.int (t : Nat), .int (b : Nat)]] = (o' ++ [(t, b)]).map ordD := by rw [List.map_append]; rfl
            rw [e1]
            exact go _ (o' ++ [(t, b)]) rfl (hO.add ht' hb hm) (by rw [List.getElem?_append_left h0]; exact hsl) (by simp)
      · rintro ρ ⟨o', row, d14, d15, d16, rfl, hO, hsl, hrl⟩
        have h0 := (List.getElem?_eq_some_iff.mp hsl).1
        walk_at "g"
        refine ⟨by rw [sizeLine_val]; omega, ?_⟩
        exact hK _ ⟨o', rows ++ [.tuple row], _, some (.ls row), _, _, d16, rfl, hO, by omega, by rw [List.length_append]; show rows.length + 1 ≤ i + 1; omega⟩
  · rintro ρ ⟨o, rows, d12, c13, d14, d15, d16, rfl, hO, ho0, hr⟩
    have hr : rows.length ≤ 12 := hr
    exact hEnd o rows _ _ _ _ _ hO ho0 hr
theorem mach_mD {m : Mach} (ho : m.Ok) (hz : ∀ p ∈ m.places, p = 0) : ∃ (dk dm de den : D) (ps : List Part), m.d = mD dk dm de den ps ∧ PsOk ps ∧ ps ≠ [] := by
  obtain ⟨ps, e, hp⟩ := nmf_list ho.nf
  have hl := ho.names
  rw [e, List.length_map] at hl
  have n0 := ho.n0
  have n1 := ho.n1
  have hpl := ho.places
  refine ⟨.tuple (m.kinds.map .str), .tuple (m.moves.map eRow), .tuple (m.ends.map eO), .int m.entry, ps, ?_, ⟨by omega, fun p h => (hp p h).1⟩, fun h => by rw [h] at hl; simp at hl; omega⟩
  have e2 : m.places.map PyData.int = ps.map fun p => PyData.int (p.lab : Nat) := by
    refine List.ext_getElem (by rw [List.length_map, List.length_map]; omega) fun i a b => ?_
    rw [List.getElem_map, List.getElem_map, hz _ (List.getElem_mem _), (hp _ (List.getElem_mem _)).2.2]
    rfl
  unfold Mach.d mD
  rw [e2, e, List.map_map]
  rfl
theorem pf_law_any_machine : ∀ cs Q, sp_law_any_machine cs Q → g_law_any_machine (startP n_law_any_machine cs) { nx := fun _ => Q (.fz .none), rt := Q } := by
  rintro cs Q ⟨rfl, k⟩
  have fin : ∀ m : Mach, m.Ok → (∀ p ∈ m.places, p = 0) → Q (.fz m.d) := fun m ho hz => by
    obtain ⟨dk, dm, de, den, ps, e, h1, h2⟩ := mach_mD ho hz
    rw [e]
    exact k _ _ _ _ _ h1 h2
  walk_at "g"
  refine ⟨by decide, fun z z0 z1 => ?_⟩
  walk_at "g"
  refine iteB_d (fun _ => ?_) (fun _ => ?_)
  · walk_at "g"
    refine sp_ints [1, 2, 8] rfl (by decide) (by decide) fun y hy => ?_
    have hy := (by decide : ∀ z ∈ ([1, 2, 8] : List Int), 1 ≤ z ∧ z ≤ 8) y hy
    walk_at "g"
    refine sp_mz 12 y rfl (by decide) (by decide) hy.1 hy.2 (fun m ho _ _ _ hz => ?_)
    walk_at "g"
    exact fin m ho hz
  walk_at "g"
  refine iteB_d (fun _ => ?_) (fun _ => ?_)
  · walk_at "g"
    refine sp_ints [1, 2, 4] rfl (by decide) (by decide) fun y hy => ?_
    have hy := (by decide : ∀ z ∈ ([1, 2, 4] : List Int), 1 ≤ z ∧ z ≤ 4) y hy
    walk_at "g"
    refine ⟨y.toNat, 2, by rw [Int.toNat_of_nonneg (by omega)]; rfl, by omega, by omega, by decide, by decide, fun m ho _ hml _ _ hz => ?_⟩
    obtain ⟨ps, e, hp⟩ := nmf_list ho.nf
    walk_at "g"
    refine ⟨m, ps, rfl, ho, by omega, e, hp, fun dk dm de den qs h1 h2 => ?_⟩
    walk_at "g"
    exact k _ _ _ _ qs h1 h2
  · walk_at "g"
    refine fun m ho _ hz => ?_
    walk_at "g"
    exact fin m ho hz


theorem shw_eO {o : Option Int} (h : ∀ i, o = some i → i.natAbs < 9223372036854775808) : Shw 65 0 (eO o) := by
  cases o with
  | none => exact Shw.none.mono (by decide) (Nat.le_refl _)
  | some i =>
    refine Shw.int (k := 64) (by decide) ?_ (by decide)
    have := h i rfl
    by_cases h0 : i.natAbs = 0
    · rw [h0]; decide
    · exact (Nat.log2_lt h0).mpr (by omega)
theorem minL_bound {l : List Int} (h : ∀ x ∈ l, x.natAbs < 9223372036854775808) : ∀ i, minL l = some i → i.natAbs < 9223372036854775808 := fun i e => by
  cases l with
  | nil => cases e
  | cons y l =>
    obtain ⟨m, h1, h2, _⟩ := minL_spec (y :: l) (by simp)
    rw [h1] at e
    cases e
    exact h _ h2
theorem leads_bound {ps : List Part} {rows : List Row} (hr : RowsOk' rows) (s t : Nat) (e : Bool) : ∀ x ∈ leadsOf ps rows s t e, x.natAbs < 9223372036854775808 := fun x hx => by
  obtain ⟨r, hr1, e⟩ := List.mem_filterMap.mp hx
  split at e
  · cases e
    exact (hr.2 r hr1).l
  · cases e
theorem tab_shw {ps : List Part} {rows : List Row} (hps : PsOk ps) (hr : RowsOk' rows) : reprOk (tabD ps.length (tabOf ps rows)) = true := by
  have hl := hps.1
  refine (Shw.tup (c := 12) (n := 12 * ((2 * (65 + 2) + 3) + 2) + 3) (dep := 2) (by rw [List.length_map, List.length_range]; exact hl) fun d hd => ?_).ok (by decide) (by decide)
  obtain ⟨s, _, rfl⟩ := List.mem_map.mp hd
  refine Shw.tup (c := 12) (dep := 1) (by rw [List.length_map, List.length_range]; exact hl) fun d hd => ?_
  obtain ⟨t, _, rfl⟩ := List.mem_map.mp hd
  refine Shw.tup (c := 2) (dep := 0) (Nat.le_refl 2) fun d hd => ?_
  rcases List.mem_cons.mp hd with rfl | hd
  · exact shw_eO (minL_bound (leads_bound hr s t false))
  · rw [List.mem_singleton] at hd
    subst hd
    exact shw_eO (minL_bound (leads_bound hr s t true))
theorem allow_rows {ps : List Part} {rows : List Row} {s t : Nat} {ahead : Int} {older : Bool} : allowB (tabOf ps rows s t) ahead older = true ↔ ∃ r ∈ rows, (decide (r.lead ≤ ahead) && (!r.elder || older) && pairFits ps r.goes r.stays s t) = true := by
  unfold allowB tabOf
  dsimp only
  rw [Bool.or_eq_true, Bool.and_eq_true, minL_le, minL_le]
  have mem : ∀ (e : Bool) (x : Int), x ∈ leadsOf ps rows s t e ↔ ∃ r ∈ rows, r.elder = e ∧ pairFits ps r.goes r.stays s t = true ∧ r.lead = x := fun e x => by
    unfold leadsOf
    rw [List.mem_filterMap]
    constructor
    · rintro ⟨r, h1, h2⟩
      split at h2
      · rename_i q
        rw [Bool.and_eq_true] at q
        cases h2
        exact ⟨r, h1, by simpa using q.1, q.2, rfl⟩
      · cases h2
    · rintro ⟨r, h1, h2, h3, rfl⟩
      exact ⟨r, h1, by rw [if_pos]; rw [Bool.and_eq_true]; exact ⟨by simpa using h2, h3⟩⟩
  constructor
  · rintro (⟨x, h, hx⟩ | ⟨ho, x, h, hx⟩)
    · obtain ⟨r, h1, h2, h3, rfl⟩ := (mem _ _).mp h
      exact ⟨r, h1, by rw [decide_eq_true hx, h2, h3]; rfl⟩
    · obtain ⟨r, h1, h2, h3, rfl⟩ := (mem _ _).mp h
      exact ⟨r, h1, by rw [decide_eq_true hx, ho, h3, Bool.or_true]; rfl⟩
  · rintro ⟨r, h1, h2⟩
    rw [Bool.and_eq_true, Bool.and_eq_true] at h2
    obtain ⟨⟨h3, h4⟩, h5⟩ := h2
    cases he : r.elder with
    | false => exact .inl ⟨r.lead, (mem _ _).mpr ⟨r, h1, he, h5, rfl⟩, of_decide_eq_true h3⟩
    | true =>
      rw [he] at h4
      exact .inr ⟨by simpa using h4, r.lead, (mem _ _).mpr ⟨r, h1, he, h5, rfl⟩, of_decide_eq_true h3⟩
theorem bool_shw (b : Bool) : reprOk (.bool b) = true := Shw.bool.ok (by decide) (by decide)
theorem pf_law_allowed_right : ∀ cs Q, sp_law_allowed_right cs Q → g_law_allowed_right (startP n_law_allowed_right cs) { nx := fun _ => Q (.fz .none), rt := Q } := by
  rintro cs Q ⟨dk, dm, de, den, ps, rows, rfl, hps, hne, hr, k⟩
  have hrl := hr.1
  walk_at "g"
  refine ⟨dk, dm, de, den, ps, rows, rfl, hps, hne, hr, fun s t hs ht => ?_⟩
  have l1 := leads_len ps rows s t false
  have l2 := leads_len ps rows s t true
  have b1 := leads_bound (ps := ps) hr s t false
  have b2 := leads_bound (ps := ps) hr s t true
  have eL : (leadsOf ps rows s t false).map PyData.int ++ (leadsOf ps rows s t true).map PyData.int = (leadsOf ps rows s t false ++ leadsOf ps rows s t true).map PyData.int := by rw [List.map_append]
  walk_at "g"
  refine ⟨dk, dm, de, den, ps, rows, s, t, false, rfl, hps, hr, hs, ht, ?_⟩
  walk_at "g"
  refine ⟨dk, dm, de, den, ps, rows, s, t, true, rfl, hps, hr, hs, ht, ?_⟩
  walk_at "g"
  refine ⟨add_le (by rw [List.length_map, List.length_map]; omega), ?_⟩
  rw [eL]
  have hsh : reprOk (eO (minL (leadsOf ps rows s t false ++ leadsOf ps rows s t true))) = true := (shw_eO (minL_bound fun x hx => by
    rcases List.mem_append.mp hx with h | h
    · exact b1 x h
    · exact b2 x h)).ok (by decide) (by decide)
  have hlt : lsr (tabOf ps rows s t).1 (tabOf ps rows s t).2 = minL (leadsOf ps rows s t false ++ leadsOf ps rows s t true) := lsr_minL _ _
  have hlen : (leadsOf ps rows s t false ++ leadsOf ps rows s t true).length ≤ 80 := by rw [List.length_append]; omega
  generalize leadsOf ps rows s t false ++ leadsOf ps rows s t true = L at hsh hlt hlen
  walk_at "g"
  refine ⟨ps.length, tabOf ps rows, s, t, rfl, hs, ht, ?_⟩
  rw [hlt]
  walk_at "g"
  refine ⟨L, rfl, ?_⟩
  walk_at "g"
  refine iteB_nd (fun h => absurd rfl h) (fun _ => ?_)
  walk_at "g"
  refine ⟨add_le (by rw [List.length_map]; show L.length + 1 ≤ _; omega), ?_⟩
  walk_at "g"
  refine ⟨_, _, rfl, .inr rfl, by simp, by rw [List.length_append, List.length_map]; show L.length + 1 ≤ _; omega, fun x hx => ?_⟩
  obtain ⟨z, rfl⟩ : ∃ z : Int, x = .int z := by
    rcases List.mem_append.mp hx with h | h
    · obtain ⟨z, _, rfl⟩ := List.mem_map.mp h
      exact ⟨z, rfl⟩
    · rw [List.mem_singleton] at h
      exact ⟨0, h⟩
  walk_at "g"
  refine ⟨by decide, fun y y0 y1 => ?_⟩
  walk_at "g"
  generalize z + y - 1 = ahead
  refine for_inv (fun i ρ => ∃ (c6 : C) (d8 d9 : Option C), ρ = [some .orc, some (.fz (mD dk dm de den ps)), some (.fz (eOf rows)), some (.fz (tabD ps.length (tabOf ps rows))), some (.fz (.int (s : Nat))), some (.fz (.int (t : Nat))), some c6, some (.fz (.int ahead)), d8, d9, none]) ⟨_, none, none, rfl⟩ ?_ ?_
  · rintro i d ρ K e ⟨c6, d8, d9, rfl⟩ hK
    obtain ⟨older, rfl⟩ : ∃ b : Bool, d = .bool b := by
      have := List.mem_of_getElem? e
      simp only [List.mem_cons, List.not_mem_nil, or_false] at this
      rcases this with rfl | rfl
      · exact ⟨_, rfl⟩
      · exact ⟨_, rfl⟩
    walk_at "g"
    refine lc_inv (fun i acc => acc.length ≤ i ∧ (acc ≠ [] ↔ ∃ r ∈ rows.take i, (decide (r.lead ≤ ahead) && (!r.elder || older) && pairFits ps r.goes r.stays s t) = true)) ⟨Nat.le_refl _, by simp⟩ (fun i d acc Y N ed ⟨h0, hi⟩ hY hN => ?_) fun acc ⟨h0, hi⟩ => ?_
    · obtain ⟨r, hri, rfl⟩ := get_map ed
      have ro := hr.2 r (List.mem_of_getElem? hri)
      have hil := (List.getElem?_eq_some_iff.mp hri).1
      have e1 : rows.take (i + 1) = rows.take i ++ [r] := by rw [List.take_succ, hri]; rfl
      walk_at "g"
      refine ⟨dk, dm, de, den, ps, r, s, t, ahead, older, rfl, hps, ro, hs, ht, ?_⟩
      walk_at "g"
      cases hp : (decide (r.lead ≤ ahead) && (!r.elder || older) && pairFits ps r.goes r.stays s t) with
      | true =>
        walk_at "g"
        exact ⟨by rw [sizeLine_val]; omega, hY _ ⟨by rw [List.length_append]; show acc.length + 1 ≤ i + 1; omega, fun _ => ⟨r, by rw [e1]; simp, hp⟩, fun _ => by simp⟩⟩
      | false =>
        walk_at "g"
        refine hN ⟨by omega, hi.trans ?_⟩
        rw [e1]
        constructor
        · rintro ⟨q, h1, h2⟩
          exact ⟨q, List.mem_append_left _ h1, h2⟩
        · rintro ⟨q, h1, h2⟩
          rcases List.mem_append.mp h1 with h | h
          · exact ⟨q, h, h2⟩
          · rw [List.mem_singleton] at h
            subst h
            rw [hp] at h2
            cases h2
    · rw [List.length_map, List.take_length] at hi
      have hb : allowB (tabOf ps rows s t) ahead older = decide ((0 : Int) < (acc.length : Int)) := by
        refine bool_of ?_
        rw [allow_rows, ← hi, decide_eq_true_iff]
        have := List.length_pos_iff (l := acc)
        constructor
        · intro h; have := this.mpr h; omega
        · intro h; exact this.mp (by omega)
      have sh := bool_shw (decide ((0 : Int) < (acc.length : Int)))
      walk_at "g"
      refine ⟨ps.length, tabOf ps rows, s, t, ahead, older, rfl, hs, ht, ?_⟩
      rw [hb]
      walk_at "g"
      refine iteB_nd (fun h => absurd rfl h) (fun _ => ?_)
      exact hK _ ⟨_, _, _, rfl⟩
  · rintro ρ ⟨c6, d8, d9, rfl⟩
    walk_at "g"
    exact k


def RowsP := List (List (Option Int × Option Int))
def tOf (R : List (List (Option Int × Option Int))) : TT := fun s t => ((R[s]?.getD [])[t]?).getD (none, none)
theorem tOf_tab {R : List (List (Option Int × Option Int))} {n : Nat} (h : R.length = n) (hr : ∀ r ∈ R, r.length = n) : PyData.tuple (R.map fun r => PyData.tuple (r.map prD)) = tabD n (tOf R) := by
  unfold tabD
  congr 1
  refine List.ext_getElem (by rw [List.length_map, List.length_map, List.length_range, h]) fun s h1 h2 => ?_
  rw [List.length_map] at h1
  rw [List.getElem_map, List.getElem_map, List.getElem_range]
  congr 1
  have hl := hr _ (List.getElem_mem h1)
  refine List.ext_getElem (by simp [hl]) fun t h3 h4 => ?_
  rw [List.length_map] at h3
  rw [List.getElem_map, List.getElem_map, List.getElem_range]
  unfold tOf
  rw [List.getElem?_eq_getElem h1, Option.getD_some, List.getElem?_eq_getElem h3, Option.getD_some]
theorem numbers_ok : ∀ x ∈ ([.none, .none, .int 0, .int 1, .int (-3), .int 7, .int 999] : List D), ∃ o : Option Int, x = eO o ∧ ∀ i, o = some i → i.natAbs < 9223372036854775808 := by
  walk_at "m"
  · exact ⟨none, rfl, by simp⟩
  · exact ⟨none, rfl, by simp⟩
  · exact ⟨some 0, rfl, fun i h => by cases h; decide⟩
  · exact ⟨some 1, rfl, fun i h => by cases h; decide⟩
  · exact ⟨some (-3), rfl, fun i h => by cases h; decide⟩
  · exact ⟨some 7, rfl, fun i h => by cases h; decide⟩
  · exact ⟨some 999, rfl, fun i h => by cases h; decide⟩
def pairB (p : Option Int × Option Int) : Prop := (∀ i, p.1 = some i → i.natAbs < 9223372036854775808) ∧ ∀ i, p.2 = some i → i.natAbs < 9223372036854775808
def twoL (p : Option Int × Option Int) : List Int := match p.1, p.2 with
  | some x, some y => [x, y]
  | some x, none => [x]
  | none, some y => [y]
  | none, none => []
theorem twoL_min (p : Option Int × Option Int) : minL (twoL p) = lsr p.1 p.2 := by
  obtain ⟨a, b⟩ := p
  cases a <;> cases b <;> rfl
theorem drawn_rest {n : Nat} {T : TT} {i j : Nat} {ahead : Int} {older : Bool} {c3 : C} {d12 : Option C} {d13 : Option D} (hi : i < n) (hj : j < n) (hB : pairB (T i j)) (Dn : PEnds) (hK : ∀ ρ', (∃ (d6 d7 d8 d9 d10 d11 d12 : Option C) (d13 : Option D), ρ' = [some .orc, some (.fz (.int (n : Nat))), some (.fz (.tuple [.none, .none, .int 0, .int 1, .int (-3), .int 7, .int 999])), some c3, some (.fz (.int (i : Nat))), some (.fz (tabD n T)), d6, d7, d8, d9, d10, d11, d12, d13.map .fz]) → Dn.nx ρ') :
    (sSeq (sIf (gTst (gOp2 pNe (gCallB pRepr (gCons (gCall sp_allows (gCons (gVar 5) (gCons (gVar 4) (gCons (gVar 6) (gCons (gVar 7) (gCons (gVar 8) gNil)))))) gNil)) (gCallB pRepr (gCons (gVar 11) gNil)))) (sRet (gC (.bool false))) sNext) (sSeq (sSet 12 (gLc (giT (gOp2 pIx (gOp2 pIx (gVar 5) (gVar 4)) (gVar 6))) (tName 13) (gTst (gOp2 pIsNotN (gVar 13) (gC .none))) (gVar 13) [13])) (sIf (gTst (gOp2 pNe (gCallB pRepr (gCons (gCall sp_least_throw (gCons (gVar 5) (gCons (gVar 4) (gCons (gVar 6) gNil)))) gNil)) (gCallB pRepr (gCons (gCall sp_law_least_of (gCons (gVar 12) gNil)) gNil)))) (sRet (gC (.bool false))) sNext))) [some .orc, some (.fz (.int (n : Nat))), some (.fz (.tuple [.none, .none, .int 0, .int 1, .int (-3), .int 7, .int 999])), some c3, some (.fz (.int (i : Nat))), some (.fz (tabD n T)), some (.fz (.int (j : Nat))), some (.fz (.int ahead)), some (.fz (.bool older)), some (.fz (eO (T i j).1)), some (.fz (eO (T i j).2)), some (.fz (.bool (allowB (T i j) ahead older))), d12, d13.map .fz] Dn := by
  have sh := bool_shw (allowB (T i j) ahead older)
  have hml := twoL_min (T i j)
  have sh2 : reprOk (eO (minL (twoL (T i j)))) = true := (shw_eO (minL_bound fun x hx => by
    obtain ⟨h1, h2⟩ := hB
    unfold twoL at hx
    split at hx
    · rename_i a b e1 e2
      rcases List.mem_cons.mp hx with rfl | hx
      · exact h1 _ e1
      · rw [List.mem_singleton] at hx; subst hx; exact h2 _ e2
    · rename_i a e1 e2
      rw [List.mem_singleton] at hx; subst hx; exact h1 _ e1
    · rename_i b e1 e2
      rw [List.mem_singleton] at hx; subst hx; exact h2 _ e2
    · cases hx)).ok (by decide) (by decide)
  walk_at "g"
  refine ⟨n, T, i, j, ahead, older, rfl, hi, hj, ?_⟩
  walk_at "g"
  refine iteB_nd (fun h => absurd rfl h) (fun _ => ?_)
  walk_at "g"
  refine optP_intro (tab_at T hi) ?_
  walk_at "g"
  refine optP_intro (row_at T hj) ?_
  walk_at "g"
  refine lc_filterMap (fun d => match d with
    | .none => none
    | d => some d) (by show 2 ≤ 1000000; decide) (fun d acc Y N hd _ hY hN => ?_) ?_
  · obtain ⟨o, rfl⟩ : ∃ o : Option Int, d = eO o := by
      rcases List.mem_cons.mp hd with rfl | hd
      · exact ⟨_, rfl⟩
      · rw [List.mem_singleton] at hd; exact ⟨_, hd⟩
    cases o with
    | none =>
      walk_at "g"
      exact hN rfl
    | some x =>
      walk_at "g"
      exact hY _ rfl
  · have e : [eO (T i j).1, eO (T i j).2].filterMap (fun d => match d with
      | .none => none
      | d => some d) = (twoL (T i j)).map PyData.int := by
      unfold twoL
      generalize T i j = p
      obtain ⟨a, b⟩ := p
      cases a <;> cases b <;> rfl
    rw [e]
    walk_at "g"
    refine ⟨n, T, i, j, rfl, hi, hj, ?_⟩
    rw [← hml]
    walk_at "g"
    refine ⟨_, rfl, ?_⟩
    walk_at "g"
    refine iteB_nd (fun h => absurd rfl h) (fun _ => ?_)
    exact hK _ ⟨_, _, _, _, _, _, _, d13, rfl⟩
theorem pf_law_drawn_right : ∀ cs Q, sp_law_drawn_right cs Q → g_law_drawn_right (startP n_law_drawn_right cs) { nx := fun _ => Q (.fz .none), rt := Q } := by
  rintro cs Q ⟨rfl, k⟩
  walk_at "g"
  refine ⟨by decide, fun z z0 z1 => ?_⟩
  obtain ⟨n, hn, n1, n3⟩ : ∃ n : Nat, 1 + z = n ∧ 1 ≤ n ∧ n ≤ 3 := ⟨(1 + z).toNat, by omega, by omega, by omega⟩
  walk_at "g"
  rw [hn]
  walk_at "a"
  rw [Int.toNat_natCast]
  refine for_range' (fun i ρ => ∃ (R : List (List (Option Int × Option Int))) (d4 : Option C), ρ = [some .orc, some (.fz (.int (n : Nat))), some (.fz (.tuple [.none, .none, .int 0, .int 1, .int (-3), .int 7, .int 999])), some (.ls (R.map fun r => .tuple (r.map prD))), d4, none, none, none, none, none, none, none, none, none] ∧ R.length = i ∧ (∀ r ∈ R, r.length = n) ∧ ∀ r ∈ R, ∀ p ∈ r, pairB p) ⟨[], none, rfl, rfl, by simp, by simp⟩ ?_ ?_
  · rintro i ρ K hi ⟨R, d4, rfl, hl, hr1, hr2⟩ hK
    walk_at "a"
    rw [Int.toNat_natCast]
    refine lc_rel (fun _ _ x => ∃ p, x = prD p ∧ pairB p) (by rw [rangeD_length]; omega) (fun j d acc Y N e hl' hY => ?_) fun xs hly hR => ?_
    · walk_at "g"
      refine ⟨_, _, rfl, .inl rfl, by simp, by decide, fun x hx => ?_⟩
      obtain ⟨o, rfl, ho⟩ := numbers_ok x hx
      walk_at "g"
      refine ⟨_, _, rfl, .inl rfl, by simp, by decide, fun y hy => ?_⟩
      obtain ⟨o2, rfl, ho2⟩ := numbers_ok y hy
      walk_at "g"
      exact hY _ ⟨(o, o2), rfl, ho, ho2⟩
    · obtain ⟨r, rfl, hr, hP⟩ := pics_relP prD (fun _ p => pairB p) hly hR
      rw [rangeD_length] at hr
      walk_at "g"
      refine ⟨by rw [sizeLine_val, List.length_map]; omega, ?_⟩
      refine hK _ ⟨R ++ [r], some (.fz (.int (0 + (i : Nat)))), by rw [List.map_append]; rfl, by rw [List.length_append]; show R.length + 1 = _; omega, fun q hq => ?_, fun q hq p hp => ?_⟩
      · rcases List.mem_append.mp hq with h | h
        · exact hr1 q h
        · rw [List.mem_singleton] at h; subst h; exact hr
      · rcases List.mem_append.mp hq with h | h
        · exact hr2 q h p hp
        · rw [List.mem_singleton] at h
          subst h
          obtain ⟨j, hj⟩ := List.mem_iff_getElem?.mp hp
          exact hP j p hj
  rintro ρ ⟨R, d4, rfl, hl, hr1, hr2⟩
  have eT := tOf_tab hl hr1
  have hB : ∀ s t, s < n → t < n → pairB (tOf R s t) := fun s t hs ht => by
    unfold tOf
    have h1 : R[s]? = some (R[s]'(by omega)) := List.getElem?_eq_getElem (by omega)
    have h2 := hr1 _ (List.mem_of_getElem? h1)
    rw [h1, Option.getD_some, List.getElem?_eq_getElem (by omega), Option.getD_some]
    exact hr2 _ (List.mem_of_getElem? h1) _ (List.getElem_mem _)
  generalize tOf R = T at eT hB
  walk_at "g"
  rw [eT]
  walk_at "a"
  rw [Int.toNat_natCast]
  refine for_range' (fun i ρ => ∃ (c3 : C) (d4 d6 d7 d8 d9 d10 d11 d12 : Option C) (d13 : Option D), ρ = [some .orc, some (.fz (.int (n : Nat))), some (.fz (.tuple [.none, .none, .int 0, .int 1, .int (-3), .int 7, .int 999])), some c3, d4, some (.fz (tabD n T)), d6, d7, d8, d9, d10, d11, d12, d13.map .fz]) ⟨_, _, _, _, _, _, _, _, _, none, rfl⟩ ?_ ?_
  · rintro i ρ K hi ⟨c3, d4, d6, d7, d8, d9, d10, d11, d12, d13, rfl⟩ hK
    rw [Int.zero_add]
    walk_at "a"
    rw [Int.toNat_natCast]
    refine for_range' (fun j ρ => ∃ (d6 d7 d8 d9 d10 d11 d12 : Option C) (d13 : Option D), ρ = [some .orc, some (.fz (.int (n : Nat))), some (.fz (.tuple [.none, .none, .int 0, .int 1, .int (-3), .int 7, .int 999])), some c3, some (.fz (.int (i : Nat))), some (.fz (tabD n T)), d6, d7, d8, d9, d10, d11, d12, d13.map .fz]) ⟨_, _, _, _, _, _, _, d13, rfl⟩ ?_ ?_
    · rintro j ρ K hj ⟨d6, d7, d8, d9, d10, d11, d12, d13, rfl⟩ hK
      rw [Int.zero_add]
      obtain ⟨p1, p2⟩ := hB i j hi hj
      walk_at "g"
      refine sp_ints [-4, -3, -1, 0, 1, 2, 6, 7, 999] rfl (by decide) (by decide) fun ahead _ => ?_
      walk_at "g"
      refine ⟨by decide, fun y y0 y1 => ?_⟩
      walk_at "g"
      generalize decide (y = 0) = older
      refine optP_intro (tab_at T hi) ?_
      walk_at "g"
      refine optP_intro (row_at T hj) ?_
      have fin : ∀ (Dn : PEnds), Dn.nx = K → ∀ due : Bool, due = allowB (T i j) ahead older → (sSeq (sIf (gTst (gOp2 pNe (gCallB pRepr (gCons (gCall sp_allows (gCons (gVar 5) (gCons (gVar 4) (gCons (gVar 6) (gCons (gVar 7) (gCons (gVar 8) gNil)))))) gNil)) (gCallB pRepr (gCons (gVar 11) gNil)))) (sRet (gC (.bool false))) sNext) (sSeq (sSet 12 (gLc (giT (gOp2 pIx (gOp2 pIx (gVar 5) (gVar 4)) (gVar 6))) (tName 13) (gTst (gOp2 pIsNotN (gVar 13) (gC .none))) (gVar 13) [13])) (sIf (gTst (gOp2 pNe (gCallB pRepr (gCons (gCall sp_least_throw (gCons (gVar 5) (gCons (gVar 4) (gCons (gVar 6) gNil)))) gNil)) (gCallB pRepr (gCons (gCall sp_law_least_of (gCons (gVar 12) gNil)) gNil)))) (sRet (gC (.bool false))) sNext))) [some .orc, some (.fz (.int (n : Nat))), some (.fz (.tuple [.none, .none, .int 0, .int 1, .int (-3), .int 7, .int 999])), some c3, some (.fz (.int (i : Nat))), some (.fz (tabD n T)), some (.fz (.int (j : Nat))), some (.fz (.int ahead)), some (.fz (.bool older)), some (.fz (eO (T i j).1)), some (.fz (eO (T i j).2)), some (.fz (.bool due)), d12, d13.map .fz] Dn := fun Dn hD due e => by
        subst e
        exact drawn_rest hi hj (hB i j hi hj) Dn (by rw [hD]; exact hK)
      generalize T i j = p at fin
      obtain ⟨pl, ag⟩ := p
      cases pl with
      | none =>
        have fin : ∀ (Dn : PEnds), Dn.nx = K → ∀ due : Bool, due = (older && leB ag ahead) → _ := fin
        walk_at "g"
        cases older with
        | false =>
          refine iteB_f rfl ?_
          refine iteB_f rfl ?_
          exact fin _ (by rfl) false rfl
        | true =>
          refine iteB_t rfl ?_
          cases ag with
          | none =>
            walk_at "w"
            refine iteB_f rfl ?_
            refine iteB_f rfl ?_
            exact fin _ (by rfl) false rfl
          | some y =>
            walk_at "g"
            refine iteB_d (fun h => ?_) (fun h => ?_)
            · walk_at "w"
              refine And.intro rfl ?_
              exact fin _ (by rfl) true (decide_eq_true h).symm
            · exact fin _ (by rfl) false (decide_eq_false h).symm
      | some x =>
        have fin : ∀ (Dn : PEnds), Dn.nx = K → ∀ due : Bool, due = (decide (x ≤ ahead) || (older && leB ag ahead)) → _ := fin
        walk_at "g"
        cases older with
        | false =>
          refine iteB_f rfl ?_
          refine iteB_f rfl ?_
          exact fin _ (by rfl) (decide (x ≤ ahead)) (by rw [Bool.false_and, Bool.or_false])
        | true =>
          refine iteB_t rfl ?_
          cases ag with
          | none =>
            walk_at "w"
            refine iteB_f rfl ?_
            refine iteB_f rfl ?_
            exact fin _ (by rfl) (decide (x ≤ ahead)) (by show _ = (decide (x ≤ ahead) || false); rw [Bool.or_false])
          | some y =>
            walk_at "g"
            refine iteB_d (fun h => ?_) (fun h => ?_)
            · walk_at "w"
              refine And.intro rfl ?_
              exact fin _ (by rfl) true (by show _ = (decide (x ≤ ahead) || decide (y ≤ ahead)); rw [decide_eq_true h, Bool.or_true])
            · exact fin _ (by rfl) (decide (x ≤ ahead)) (by show _ = (decide (x ≤ ahead) || decide (y ≤ ahead)); rw [decide_eq_false h, Bool.or_false])
    · rintro ρ ⟨d6, d7, d8, d9, d10, d11, d12, d13, rfl⟩
      exact hK _ ⟨_, _, _, _, _, _, _, _, _, d13, rfl⟩
  · rintro ρ ⟨c3, d4, d6, d7, d8, d9, d10, d11, d12, d13, rfl⟩
    walk_at "g"
    exact k
theorem pf_law : g_law ((List.replicate 10 none).set 1 (some .orc)) { nx := fun _ => False, rt := fun c => c = .fz (.bool true) } := by
  walk_at "g"
  refine fun dk dm de den ps hps hne => ?_
  walk_at "g"
  refine ⟨dk, dm, de, den, ps, rfl, hps, hne, fun one hl1 hr1 => ?_⟩
  have r1 : RowsOk' one := ⟨by omega, fun r h => (hr1 r h).1⟩
  walk_at "g"
  refine ⟨dk, dm, de, den, ps, rfl, hps, hne, fun two hl2 hr2 => ?_⟩
  have r2 : RowsOk' two := ⟨by omega, fun r h => (hr2 r h).1⟩
  have s1 := tab_shw hps r1
  have s2 := tab_shw hps r2
  walk_at "g"
  refine ⟨dk, dm, de, den, ps, one, rfl, hps, r1, ?_⟩
  walk_at "g"
  refine ⟨dk, dm, de, den, ps, two, rfl, hps, r2, ?_⟩
  walk_at "g"
  refine ⟨dk, dm, de, den, ps, one, rfl, hps, r1, ?_⟩
  walk_at "g"
  refine iteB_nd (fun h => absurd rfl h) (fun _ => ?_)
  walk_at "g"
  refine ⟨dk, dm, de, den, ps, two, rfl, hps, r2, ?_⟩
  walk_at "g"
  refine iteB_nd (fun h => absurd rfl h) (fun _ => ?_)
  walk_at "a"
  refine for_range' (fun i ρ => ∃ (d7 d8 d9 : Option C), ρ = [none, some .orc, some (.fz (mD dk dm de den ps)), some (.fz (eOf one)), some (.fz (eOf two)), some (.fz (tabD ps.length (tabOf ps one))), some (.fz (tabD ps.length (tabOf ps two))), d7, d8, d9]) ⟨none, none, none, rfl⟩ ?_ ?_
  · rintro i ρ K hi ⟨d7, d8, d9, rfl⟩ hK
    walk_at "g"
    refine iteB_d (fun h => ?_) (fun h => ?_)
    · walk_at "g"
      refine iteB_t (decide_eq_true h) ?_
      walk_at "g"
      refine ⟨dk, dm, de, den, ps, two, rfl, hps, hne, r2, ?_⟩
      walk_at "g"
      exact hK _ ⟨_, _, _, rfl⟩
    · walk_at "g"
      refine iteB_f (decide_eq_false h) ?_
      walk_at "g"
      refine ⟨dk, dm, de, den, ps, one, rfl, hps, hne, r1, ?_⟩
      walk_at "g"
      exact hK _ ⟨_, _, _, rfl⟩
  · rintro ρ ⟨d7, d8, d9, rfl⟩
    walk_at "g"
    refine ⟨dk, dm, de, den, ps, one, rfl, hps, r1, ?_⟩
    walk_at "g"
    rw [decide_eq_true rfl]
    rfl

end P
set_option Elab.async false
set_option linter.all false
set_option maxRecDepth 100000
set_option maxHeartbeats 0
namespace G
open P PySem PySem.Spec PyProof.Rows L2
def df (x : Str) (i : Nat) : He.DefD := ⟨(x, none), x, x, defArgs (top i), defBody (top i), defScope (top i), [], []⟩
def fn : List He.DefD := [df "base_of" 1, df "mark_of" 2, df "levels_of" 3, df "fits_goes" 4, df "as_much" 5, df "fits_pair" 6, df "pairs_of" 7, df "lesser" 9, df "throws_of" 10, df "allows" 11, df "least_throw" 12, df "_law_source" 14, df "_law_mixed" 15, df "_law_draw" 16, df "_law_some" 17, df "_law_picks" 18, df "_law_names" 19, df "_law_fare" 20, df "_law_machine_names" 21, df "_law_machine_sized" 22, df "_law_machine" 23, df "_law_base" 24, df "_law_fits" 25, df "_law_as_much" 26, df "_law_has_pair" 27, df "_law_pairs" 28, df "_law_pattern" 29, df "_law_lead" 30, df "_law_offer" 31, df "_law_labelled" 32, df "_law_any_machine" 33, df "_law_rows_of" 34, df "_law_leads_of" 35, df "_law_least_of" 36, df "_law_due_table" 37, df "_law_row_allows" 38, df "_law_asked_pair" 39, df "_law_allowed_right" 40, df "_law_drawn_right" 41, df "law" 42]
def fa : List He.Fa := [.glo "base_of", .glo "mark_of", .glo "levels_of", .glo "fits_goes", .glo "as_much", .glo "fits_pair", .glo "pairs_of", .glo "lesser", .glo "throws_of", .glo "allows", .glo "least_throw", .glo "_law_source", .glo "_law_mixed", .glo "_law_draw", .glo "_law_some", .glo "_law_picks", .glo "_law_names", .glo "_law_fare", .glo "_law_machine_names", .glo "_law_machine_sized", .glo "_law_machine", .glo "_law_base", .glo "_law_fits", .glo "_law_as_much", .glo "_law_has_pair", .glo "_law_pairs", .glo "_law_pattern", .glo "_law_lead", .glo "_law_offer", .glo "_law_labelled", .glo "_law_any_machine", .glo "_law_rows_of", .glo "_law_leads_of", .glo "_law_least_of", .glo "_law_due_table", .glo "_law_row_allows", .glo "_law_asked_pair", .glo "_law_allowed_right", .glo "_law_drawn_right", .glo "law", .free "int", .free "len", .free "list", .free "max", .free "min", .free "range", .free "repr", .free "str", .free "sum", .free "tuple"]
def loose0 : List Str := ["__name__", "base_of", "mark_of", "levels_of", "fits_goes", "as_much", "fits_pair", "pairs_of", "lesser", "throws_of", "allows", "least_throw", "_law_source", "_law_mixed", "_law_draw", "_law_some", "_law_picks", "_law_names", "_law_fare", "_law_machine_names", "_law_machine_sized", "_law_machine", "_law_base", "_law_fits", "_law_as_much", "_law_has_pair", "_law_pairs", "_law_pattern", "_law_lead", "_law_offer"]
def loose1 : List Str := ["_law_labelled", "_law_any_machine", "_law_rows_of", "_law_leads_of", "_law_least_of", "_law_due_table", "_law_row_allows", "_law_asked_pair", "_law_allowed_right", "_law_drawn_right"]
abbrev R : PySem.W.OpenRow := PySem.W.OpenLaw.row PySem.Challenge.rw_thrownslips_k35_throw_tables
abbrev hk : PySem.W.Hook := He.hookD 4 fa fn
def ob (s : PySem.W.SharedT) : He.AlD := He.obsDG 4 fa fn (HandSHeadRun.getT s)
theorem ob_eq (s : PySem.W.SharedT) : ob s = hk.obs s.abs := He.obsDG_eq (HandSHeadRun.getT_eq s)
theorem run (w : World) : HandSHeadRun.RunEq R (PySem.W.view R.prog [42]) hk ob 3000 (loose0 ++ loose1) w := by
  intro os
  kernel_rfl
section
variable {P : Program} {w : World} {K : Frag} {mg : Str → Option Value} {base : Heap}
def spLaw (K : Frag) : Sp := fun vs H Q _ => ∃ (a : Addr) (ns : List Int), vs = [.ref a] ∧ SqL K H a (ns.map V.int) ∧ ns.length ≤ 1000 ∧ ∀ H', Q (.bl true) H' 
theorem len_base_of : ∀ cs Q, sp_base_of cs Q → cs.length = 1 := by
  intro cs Q h
  first
  | (obtain ⟨rfl, _⟩ := h; rfl)
  | (obtain ⟨_, rfl, _⟩ := h; rfl)
  | (obtain ⟨_, _, rfl, _⟩ := h; rfl)
  | (obtain ⟨_, _, _, rfl, _⟩ := h; rfl)
  | (obtain ⟨_, _, _, _, rfl, _⟩ := h; rfl)
  | (obtain ⟨_, _, _, _, _, rfl, _⟩ := h; rfl)
  | (obtain ⟨_, _, _, _, _, _, rfl, _⟩ := h; rfl)
  | (obtain ⟨_, _, _, _, _, _, _, rfl, _⟩ := h; rfl)
  | (obtain ⟨_, _, _, _, _, _, _, _, rfl, _⟩ := h; rfl)
  | (obtain ⟨_, _, _, _, _, _, _, _, _, rfl, _⟩ := h; rfl)
  | (obtain ⟨_, _, _, _, _, _, _, _, _, _, rfl, _⟩ := h; rfl)
  | (obtain ⟨_, _, _, _, _, _, _, _, _, _, _, rfl, _⟩ := h; rfl)
  | (obtain ⟨_, _, _, _, _, _, _, _, _, _, _, _, rfl, _⟩ := h; rfl)
  | (obtain ⟨_, _, _, _, _, _, _, _, _, _, _, _, _, rfl, _⟩ := h; rfl)
  | (obtain ⟨_, _, _, _, _, _, _, _, _, _, _, _, _, _, rfl, _⟩ := h; rfl)
  | (obtain ⟨_, _, _, _, _, _, _, _, _, _, _, _, _, _, _, rfl, _⟩ := h; rfl)
theorem len_mark_of : ∀ cs Q, sp_mark_of cs Q → cs.length = 1 := by
  intro cs Q h
  first
  | (obtain ⟨rfl, _⟩ := h; rfl)
  | (obtain ⟨_, rfl, _⟩ := h; rfl)
  | (obtain ⟨_, _, rfl, _⟩ := h; rfl)
  | (obtain ⟨_, _, _, rfl, _⟩ := h; rfl)
  | (obtain ⟨_, _, _, _, rfl, _⟩ := h; rfl)
  | (obtain ⟨_, _, _, _, _, rfl, _⟩ := h; rfl)
  | (obtain ⟨_, _, _, _, _, _, rfl, _⟩ := h; rfl)
  | (obtain ⟨_, _, _, _, _, _, _, rfl, _⟩ := h; rfl)
  | (obtain ⟨_, _, _, _, _, _, _, _, rfl, _⟩ := h; rfl)
  | (obtain ⟨_, _, _, _, _, _, _, _, _, rfl, _⟩ := h; rfl)
  | (obtain ⟨_, _, _, _, _, _, _, _, _, _, rfl, _⟩ := h; rfl)
  | (obtain ⟨_, _, _, _, _, _, _, _, _, _, _, rfl, _⟩ := h; rfl)
  | (obtain ⟨_, _, _, _, _, _, _, _, _, _, _, _, rfl, _⟩ := h; rfl)
  | (obtain ⟨_, _, _, _, _, _, _, _, _, _, _, _, _, rfl, _⟩ := h; rfl)
  | (obtain ⟨_, _, _, _, _, _, _, _, _, _, _, _, _, _, rfl, _⟩ := h; rfl)
  | (obtain ⟨_, _, _, _, _, _, _, _, _, _, _, _, _, _, _, rfl, _⟩ := h; rfl)
theorem len_levels_of : ∀ cs Q, sp_levels_of cs Q → cs.length = 1 := by
  intro cs Q h
  first
  | (obtain ⟨rfl, _⟩ := h; rfl)
  | (obtain ⟨_, rfl, _⟩ := h; rfl)
  | (obtain ⟨_, _, rfl, _⟩ := h; rfl)
  | (obtain ⟨_, _, _, rfl, _⟩ := h; rfl)
  | (obtain ⟨_, _, _, _, rfl, _⟩ := h; rfl)
  | (obtain ⟨_, _, _, _, _, rfl, _⟩ := h; rfl)
  | (obtain ⟨_, _, _, _, _, _, rfl, _⟩ := h; rfl)
  | (obtain ⟨_, _, _, _, _, _, _, rfl, _⟩ := h; rfl)
  | (obtain ⟨_, _, _, _, _, _, _, _, rfl, _⟩ := h; rfl)
  | (obtain ⟨_, _, _, _, _, _, _, _, _, rfl, _⟩ := h; rfl)
  | (obtain ⟨_, _, _, _, _, _, _, _, _, _, rfl, _⟩ := h; rfl)
  | (obtain ⟨_, _, _, _, _, _, _, _, _, _, _, rfl, _⟩ := h; rfl)
  | (obtain ⟨_, _, _, _, _, _, _, _, _, _, _, _, rfl, _⟩ := h; rfl)
  | (obtain ⟨_, _, _, _, _, _, _, _, _, _, _, _, _, rfl, _⟩ := h; rfl)
  | (obtain ⟨_, _, _, _, _, _, _, _, _, _, _, _, _, _, rfl, _⟩ := h; rfl)
  | (obtain ⟨_, _, _, _, _, _, _, _, _, _, _, _, _, _, _, rfl, _⟩ := h; rfl)
theorem len_fits_goes : ∀ cs Q, sp_fits_goes cs Q → cs.length = 2 := by
  intro cs Q h
  first
  | (obtain ⟨rfl, _⟩ := h; rfl)
  | (obtain ⟨_, rfl, _⟩ := h; rfl)
  | (obtain ⟨_, _, rfl, _⟩ := h; rfl)
  | (obtain ⟨_, _, _, rfl, _⟩ := h; rfl)
  | (obtain ⟨_, _, _, _, rfl, _⟩ := h; rfl)
  | (obtain ⟨_, _, _, _, _, rfl, _⟩ := h; rfl)
  | (obtain ⟨_, _, _, _, _, _, rfl, _⟩ := h; rfl)
  | (obtain ⟨_, _, _, _, _, _, _, rfl, _⟩ := h; rfl)
  | (obtain ⟨_, _, _, _, _, _, _, _, rfl, _⟩ := h; rfl)
  | (obtain ⟨_, _, _, _, _, _, _, _, _, rfl, _⟩ := h; rfl)
  | (obtain ⟨_, _, _, _, _, _, _, _, _, _, rfl, _⟩ := h; rfl)
  | (obtain ⟨_, _, _, _, _, _, _, _, _, _, _, rfl, _⟩ := h; rfl)
  | (obtain ⟨_, _, _, _, _, _, _, _, _, _, _, _, rfl, _⟩ := h; rfl)
  | (obtain ⟨_, _, _, _, _, _, _, _, _, _, _, _, _, rfl, _⟩ := h; rfl)
  | (obtain ⟨_, _, _, _, _, _, _, _, _, _, _, _, _, _, rfl, _⟩ := h; rfl)
  | (obtain ⟨_, _, _, _, _, _, _, _, _, _, _, _, _, _, _, rfl, _⟩ := h; rfl)
theorem len_as_much : ∀ cs Q, sp_as_much cs Q → cs.length = 2 := by
  intro cs Q h
  first
  | (obtain ⟨rfl, _⟩ := h; rfl)
  | (obtain ⟨_, rfl, _⟩ := h; rfl)
  | (obtain ⟨_, _, rfl, _⟩ := h; rfl)
  | (obtain ⟨_, _, _, rfl, _⟩ := h; rfl)
  | (obtain ⟨_, _, _, _, rfl, _⟩ := h; rfl)
  | (obtain ⟨_, _, _, _, _, rfl, _⟩ := h; rfl)
  | (obtain ⟨_, _, _, _, _, _, rfl, _⟩ := h; rfl)
  | (obtain ⟨_, _, _, _, _, _, _, rfl, _⟩ := h; rfl)
  | (obtain ⟨_, _, _, _, _, _, _, _, rfl, _⟩ := h; rfl)
  | (obtain ⟨_, _, _, _, _, _, _, _, _, rfl, _⟩ := h; rfl)
  | (obtain ⟨_, _, _, _, _, _, _, _, _, _, rfl, _⟩ := h; rfl)
  | (obtain ⟨_, _, _, _, _, _, _, _, _, _, _, rfl, _⟩ := h; rfl)
  | (obtain ⟨_, _, _, _, _, _, _, _, _, _, _, _, rfl, _⟩ := h; rfl)
  | (obtain ⟨_, _, _, _, _, _, _, _, _, _, _, _, _, rfl, _⟩ := h; rfl)
  | (obtain ⟨_, _, _, _, _, _, _, _, _, _, _, _, _, _, rfl, _⟩ := h; rfl)
  | (obtain ⟨_, _, _, _, _, _, _, _, _, _, _, _, _, _, _, rfl, _⟩ := h; rfl)
theorem len_fits_pair : ∀ cs Q, sp_fits_pair cs Q → cs.length = 5 := by
  intro cs Q h
  first
  | (obtain ⟨rfl, _⟩ := h; rfl)
  | (obtain ⟨_, rfl, _⟩ := h; rfl)
  | (obtain ⟨_, _, rfl, _⟩ := h; rfl)
  | (obtain ⟨_, _, _, rfl, _⟩ := h; rfl)
  | (obtain ⟨_, _, _, _, rfl, _⟩ := h; rfl)
  | (obtain ⟨_, _, _, _, _, rfl, _⟩ := h; rfl)
  | (obtain ⟨_, _, _, _, _, _, rfl, _⟩ := h; rfl)
  | (obtain ⟨_, _, _, _, _, _, _, rfl, _⟩ := h; rfl)
  | (obtain ⟨_, _, _, _, _, _, _, _, rfl, _⟩ := h; rfl)
  | (obtain ⟨_, _, _, _, _, _, _, _, _, rfl, _⟩ := h; rfl)
  | (obtain ⟨_, _, _, _, _, _, _, _, _, _, rfl, _⟩ := h; rfl)
  | (obtain ⟨_, _, _, _, _, _, _, _, _, _, _, rfl, _⟩ := h; rfl)
  | (obtain ⟨_, _, _, _, _, _, _, _, _, _, _, _, rfl, _⟩ := h; rfl)
  | (obtain ⟨_, _, _, _, _, _, _, _, _, _, _, _, _, rfl, _⟩ := h; rfl)
  | (obtain ⟨_, _, _, _, _, _, _, _, _, _, _, _, _, _, rfl, _⟩ := h; rfl)
  | (obtain ⟨_, _, _, _, _, _, _, _, _, _, _, _, _, _, _, rfl, _⟩ := h; rfl)
theorem len_pairs_of : ∀ cs Q, sp_pairs_of cs Q → cs.length = 3 := by
  intro cs Q h
  first
  | (obtain ⟨rfl, _⟩ := h; rfl)
  | (obtain ⟨_, rfl, _⟩ := h; rfl)
  | (obtain ⟨_, _, rfl, _⟩ := h; rfl)
  | (obtain ⟨_, _, _, rfl, _⟩ := h; rfl)
  | (obtain ⟨_, _, _, _, rfl, _⟩ := h; rfl)
  | (obtain ⟨_, _, _, _, _, rfl, _⟩ := h; rfl)
  | (obtain ⟨_, _, _, _, _, _, rfl, _⟩ := h; rfl)
  | (obtain ⟨_, _, _, _, _, _, _, rfl, _⟩ := h; rfl)
  | (obtain ⟨_, _, _, _, _, _, _, _, rfl, _⟩ := h; rfl)
  | (obtain ⟨_, _, _, _, _, _, _, _, _, rfl, _⟩ := h; rfl)
  | (obtain ⟨_, _, _, _, _, _, _, _, _, _, rfl, _⟩ := h; rfl)
  | (obtain ⟨_, _, _, _, _, _, _, _, _, _, _, rfl, _⟩ := h; rfl)
  | (obtain ⟨_, _, _, _, _, _, _, _, _, _, _, _, rfl, _⟩ := h; rfl)
  | (obtain ⟨_, _, _, _, _, _, _, _, _, _, _, _, _, rfl, _⟩ := h; rfl)
  | (obtain ⟨_, _, _, _, _, _, _, _, _, _, _, _, _, _, rfl, _⟩ := h; rfl)
  | (obtain ⟨_, _, _, _, _, _, _, _, _, _, _, _, _, _, _, rfl, _⟩ := h; rfl)
theorem len_lesser : ∀ cs Q, sp_lesser cs Q → cs.length = 2 := by
  intro cs Q h
  first
  | (obtain ⟨rfl, _⟩ := h; rfl)
  | (obtain ⟨_, rfl, _⟩ := h; rfl)
  | (obtain ⟨_, _, rfl, _⟩ := h; rfl)
  | (obtain ⟨_, _, _, rfl, _⟩ := h; rfl)
  | (obtain ⟨_, _, _, _, rfl, _⟩ := h; rfl)
  | (obtain ⟨_, _, _, _, _, rfl, _⟩ := h; rfl)
  | (obtain ⟨_, _, _, _, _, _, rfl, _⟩ := h; rfl)
  | (obtain ⟨_, _, _, _, _, _, _, rfl, _⟩ := h; rfl)
  | (obtain ⟨_, _, _, _, _, _, _, _, rfl, _⟩ := h; rfl)
  | (obtain ⟨_, _, _, _, _, _, _, _, _, rfl, _⟩ := h; rfl)
  | (obtain ⟨_, _, _, _, _, _, _, _, _, _, rfl, _⟩ := h; rfl)
  | (obtain ⟨_, _, _, _, _, _, _, _, _, _, _, rfl, _⟩ := h; rfl)
  | (obtain ⟨_, _, _, _, _, _, _, _, _, _, _, _, rfl, _⟩ := h; rfl)
  | (obtain ⟨_, _, _, _, _, _, _, _, _, _, _, _, _, rfl, _⟩ := h; rfl)
  | (obtain ⟨_, _, _, _, _, _, _, _, _, _, _, _, _, _, rfl, _⟩ := h; rfl)
  | (obtain ⟨_, _, _, _, _, _, _, _, _, _, _, _, _, _, _, rfl, _⟩ := h; rfl)
theorem len_throws_of : ∀ cs Q, sp_throws_of cs Q → cs.length = 2 := by
  intro cs Q h
  first
  | (obtain ⟨rfl, _⟩ := h; rfl)
  | (obtain ⟨_, rfl, _⟩ := h; rfl)
  | (obtain ⟨_, _, rfl, _⟩ := h; rfl)
  | (obtain ⟨_, _, _, rfl, _⟩ := h; rfl)
  | (obtain ⟨_, _, _, _, rfl, _⟩ := h; rfl)
  | (obtain ⟨_, _, _, _, _, rfl, _⟩ := h; rfl)
  | (obtain ⟨_, _, _, _, _, _, rfl, _⟩ := h; rfl)
  | (obtain ⟨_, _, _, _, _, _, _, rfl, _⟩ := h; rfl)
  | (obtain ⟨_, _, _, _, _, _, _, _, rfl, _⟩ := h; rfl)
  | (obtain ⟨_, _, _, _, _, _, _, _, _, rfl, _⟩ := h; rfl)
  | (obtain ⟨_, _, _, _, _, _, _, _, _, _, rfl, _⟩ := h; rfl)
  | (obtain ⟨_, _, _, _, _, _, _, _, _, _, _, rfl, _⟩ := h; rfl)
  | (obtain ⟨_, _, _, _, _, _, _, _, _, _, _, _, rfl, _⟩ := h; rfl)
  | (obtain ⟨_, _, _, _, _, _, _, _, _, _, _, _, _, rfl, _⟩ := h; rfl)
  | (obtain ⟨_, _, _, _, _, _, _, _, _, _, _, _, _, _, rfl, _⟩ := h; rfl)
  | (obtain ⟨_, _, _, _, _, _, _, _, _, _, _, _, _, _, _, rfl, _⟩ := h; rfl)
theorem len_allows : ∀ cs Q, sp_allows cs Q → cs.length = 5 := by
  intro cs Q h
  first
  | (obtain ⟨rfl, _⟩ := h; rfl)
  | (obtain ⟨_, rfl, _⟩ := h; rfl)
  | (obtain ⟨_, _, rfl, _⟩ := h; rfl)
  | (obtain ⟨_, _, _, rfl, _⟩ := h; rfl)
  | (obtain ⟨_, _, _, _, rfl, _⟩ := h; rfl)
  | (obtain ⟨_, _, _, _, _, rfl, _⟩ := h; rfl)
  | (obtain ⟨_, _, _, _, _, _, rfl, _⟩ := h; rfl)
  | (obtain ⟨_, _, _, _, _, _, _, rfl, _⟩ := h; rfl)
  | (obtain ⟨_, _, _, _, _, _, _, _, rfl, _⟩ := h; rfl)
  | (obtain ⟨_, _, _, _, _, _, _, _, _, rfl, _⟩ := h; rfl)
  | (obtain ⟨_, _, _, _, _, _, _, _, _, _, rfl, _⟩ := h; rfl)
  | (obtain ⟨_, _, _, _, _, _, _, _, _, _, _, rfl, _⟩ := h; rfl)
  | (obtain ⟨_, _, _, _, _, _, _, _, _, _, _, _, rfl, _⟩ := h; rfl)
  | (obtain ⟨_, _, _, _, _, _, _, _, _, _, _, _, _, rfl, _⟩ := h; rfl)
  | (obtain ⟨_, _, _, _, _, _, _, _, _, _, _, _, _, _, rfl, _⟩ := h; rfl)
  | (obtain ⟨_, _, _, _, _, _, _, _, _, _, _, _, _, _, _, rfl, _⟩ := h; rfl)
theorem len_least_throw : ∀ cs Q, sp_least_throw cs Q → cs.length = 3 := by
  intro cs Q h
  first
  | (obtain ⟨rfl, _⟩ := h; rfl)
  | (obtain ⟨_, rfl, _⟩ := h; rfl)
  | (obtain ⟨_, _, rfl, _⟩ := h; rfl)
  | (obtain ⟨_, _, _, rfl, _⟩ := h; rfl)
  | (obtain ⟨_, _, _, _, rfl, _⟩ := h; rfl)
  | (obtain ⟨_, _, _, _, _, rfl, _⟩ := h; rfl)
  | (obtain ⟨_, _, _, _, _, _, rfl, _⟩ := h; rfl)
  | (obtain ⟨_, _, _, _, _, _, _, rfl, _⟩ := h; rfl)
  | (obtain ⟨_, _, _, _, _, _, _, _, rfl, _⟩ := h; rfl)
  | (obtain ⟨_, _, _, _, _, _, _, _, _, rfl, _⟩ := h; rfl)
  | (obtain ⟨_, _, _, _, _, _, _, _, _, _, rfl, _⟩ := h; rfl)
  | (obtain ⟨_, _, _, _, _, _, _, _, _, _, _, rfl, _⟩ := h; rfl)
  | (obtain ⟨_, _, _, _, _, _, _, _, _, _, _, _, rfl, _⟩ := h; rfl)
  | (obtain ⟨_, _, _, _, _, _, _, _, _, _, _, _, _, rfl, _⟩ := h; rfl)
  | (obtain ⟨_, _, _, _, _, _, _, _, _, _, _, _, _, _, rfl, _⟩ := h; rfl)
  | (obtain ⟨_, _, _, _, _, _, _, _, _, _, _, _, _, _, _, rfl, _⟩ := h; rfl)
theorem len_law_some : ∀ cs Q, sp_law_some cs Q → cs.length = 2 := by
  intro cs Q h
  first
  | (obtain ⟨rfl, _⟩ := h; rfl)
  | (obtain ⟨_, rfl, _⟩ := h; rfl)
  | (obtain ⟨_, _, rfl, _⟩ := h; rfl)
  | (obtain ⟨_, _, _, rfl, _⟩ := h; rfl)
  | (obtain ⟨_, _, _, _, rfl, _⟩ := h; rfl)
  | (obtain ⟨_, _, _, _, _, rfl, _⟩ := h; rfl)
  | (obtain ⟨_, _, _, _, _, _, rfl, _⟩ := h; rfl)
  | (obtain ⟨_, _, _, _, _, _, _, rfl, _⟩ := h; rfl)
  | (obtain ⟨_, _, _, _, _, _, _, _, rfl, _⟩ := h; rfl)
  | (obtain ⟨_, _, _, _, _, _, _, _, _, rfl, _⟩ := h; rfl)
  | (obtain ⟨_, _, _, _, _, _, _, _, _, _, rfl, _⟩ := h; rfl)
  | (obtain ⟨_, _, _, _, _, _, _, _, _, _, _, rfl, _⟩ := h; rfl)
  | (obtain ⟨_, _, _, _, _, _, _, _, _, _, _, _, rfl, _⟩ := h; rfl)
  | (obtain ⟨_, _, _, _, _, _, _, _, _, _, _, _, _, rfl, _⟩ := h; rfl)
  | (obtain ⟨_, _, _, _, _, _, _, _, _, _, _, _, _, _, rfl, _⟩ := h; rfl)
  | (obtain ⟨_, _, _, _, _, _, _, _, _, _, _, _, _, _, _, rfl, _⟩ := h; rfl)
theorem len_law_picks : ∀ cs Q, sp_law_picks cs Q → cs.length = 3 := by
  intro cs Q h
  first
  | (obtain ⟨rfl, _⟩ := h; rfl)
  | (obtain ⟨_, rfl, _⟩ := h; rfl)
  | (obtain ⟨_, _, rfl, _⟩ := h; rfl)
  | (obtain ⟨_, _, _, rfl, _⟩ := h; rfl)
  | (obtain ⟨_, _, _, _, rfl, _⟩ := h; rfl)
  | (obtain ⟨_, _, _, _, _, rfl, _⟩ := h; rfl)
  | (obtain ⟨_, _, _, _, _, _, rfl, _⟩ := h; rfl)
  | (obtain ⟨_, _, _, _, _, _, _, rfl, _⟩ := h; rfl)
  | (obtain ⟨_, _, _, _, _, _, _, _, rfl, _⟩ := h; rfl)
  | (obtain ⟨_, _, _, _, _, _, _, _, _, rfl, _⟩ := h; rfl)
  | (obtain ⟨_, _, _, _, _, _, _, _, _, _, rfl, _⟩ := h; rfl)
  | (obtain ⟨_, _, _, _, _, _, _, _, _, _, _, rfl, _⟩ := h; rfl)
  | (obtain ⟨_, _, _, _, _, _, _, _, _, _, _, _, rfl, _⟩ := h; rfl)
  | (obtain ⟨_, _, _, _, _, _, _, _, _, _, _, _, _, rfl, _⟩ := h; rfl)
  | (obtain ⟨_, _, _, _, _, _, _, _, _, _, _, _, _, _, rfl, _⟩ := h; rfl)
  | (obtain ⟨_, _, _, _, _, _, _, _, _, _, _, _, _, _, _, rfl, _⟩ := h; rfl)
theorem len_law_names : ∀ cs Q, sp_law_names cs Q → cs.length = 2 := by
  intro cs Q h
  first
  | (obtain ⟨rfl, _⟩ := h; rfl)
  | (obtain ⟨_, rfl, _⟩ := h; rfl)
  | (obtain ⟨_, _, rfl, _⟩ := h; rfl)
  | (obtain ⟨_, _, _, rfl, _⟩ := h; rfl)
  | (obtain ⟨_, _, _, _, rfl, _⟩ := h; rfl)
  | (obtain ⟨_, _, _, _, _, rfl, _⟩ := h; rfl)
  | (obtain ⟨_, _, _, _, _, _, rfl, _⟩ := h; rfl)
  | (obtain ⟨_, _, _, _, _, _, _, rfl, _⟩ := h; rfl)
  | (obtain ⟨_, _, _, _, _, _, _, _, rfl, _⟩ := h; rfl)
  | (obtain ⟨_, _, _, _, _, _, _, _, _, rfl, _⟩ := h; rfl)
  | (obtain ⟨_, _, _, _, _, _, _, _, _, _, rfl, _⟩ := h; rfl)
  | (obtain ⟨_, _, _, _, _, _, _, _, _, _, _, rfl, _⟩ := h; rfl)
  | (obtain ⟨_, _, _, _, _, _, _, _, _, _, _, _, rfl, _⟩ := h; rfl)
  | (obtain ⟨_, _, _, _, _, _, _, _, _, _, _, _, _, rfl, _⟩ := h; rfl)
  | (obtain ⟨_, _, _, _, _, _, _, _, _, _, _, _, _, _, rfl, _⟩ := h; rfl)
  | (obtain ⟨_, _, _, _, _, _, _, _, _, _, _, _, _, _, _, rfl, _⟩ := h; rfl)
theorem len_law_fare : ∀ cs Q, sp_law_fare cs Q → cs.length = 1 := by
  intro cs Q h
  first
  | (obtain ⟨rfl, _⟩ := h; rfl)
  | (obtain ⟨_, rfl, _⟩ := h; rfl)
  | (obtain ⟨_, _, rfl, _⟩ := h; rfl)
  | (obtain ⟨_, _, _, rfl, _⟩ := h; rfl)
  | (obtain ⟨_, _, _, _, rfl, _⟩ := h; rfl)
  | (obtain ⟨_, _, _, _, _, rfl, _⟩ := h; rfl)
  | (obtain ⟨_, _, _, _, _, _, rfl, _⟩ := h; rfl)
  | (obtain ⟨_, _, _, _, _, _, _, rfl, _⟩ := h; rfl)
  | (obtain ⟨_, _, _, _, _, _, _, _, rfl, _⟩ := h; rfl)
  | (obtain ⟨_, _, _, _, _, _, _, _, _, rfl, _⟩ := h; rfl)
  | (obtain ⟨_, _, _, _, _, _, _, _, _, _, rfl, _⟩ := h; rfl)
  | (obtain ⟨_, _, _, _, _, _, _, _, _, _, _, rfl, _⟩ := h; rfl)
  | (obtain ⟨_, _, _, _, _, _, _, _, _, _, _, _, rfl, _⟩ := h; rfl)
  | (obtain ⟨_, _, _, _, _, _, _, _, _, _, _, _, _, rfl, _⟩ := h; rfl)
  | (obtain ⟨_, _, _, _, _, _, _, _, _, _, _, _, _, _, rfl, _⟩ := h; rfl)
  | (obtain ⟨_, _, _, _, _, _, _, _, _, _, _, _, _, _, _, rfl, _⟩ := h; rfl)
theorem len_law_machine_names : ∀ cs Q, sp_law_machine_names cs Q → cs.length = 2 := by
  intro cs Q h
  first
  | (obtain ⟨rfl, _⟩ := h; rfl)
  | (obtain ⟨_, rfl, _⟩ := h; rfl)
  | (obtain ⟨_, _, rfl, _⟩ := h; rfl)
  | (obtain ⟨_, _, _, rfl, _⟩ := h; rfl)
  | (obtain ⟨_, _, _, _, rfl, _⟩ := h; rfl)
  | (obtain ⟨_, _, _, _, _, rfl, _⟩ := h; rfl)
  | (obtain ⟨_, _, _, _, _, _, rfl, _⟩ := h; rfl)
  | (obtain ⟨_, _, _, _, _, _, _, rfl, _⟩ := h; rfl)
  | (obtain ⟨_, _, _, _, _, _, _, _, rfl, _⟩ := h; rfl)
  | (obtain ⟨_, _, _, _, _, _, _, _, _, rfl, _⟩ := h; rfl)
  | (obtain ⟨_, _, _, _, _, _, _, _, _, _, rfl, _⟩ := h; rfl)
  | (obtain ⟨_, _, _, _, _, _, _, _, _, _, _, rfl, _⟩ := h; rfl)
  | (obtain ⟨_, _, _, _, _, _, _, _, _, _, _, _, rfl, _⟩ := h; rfl)
  | (obtain ⟨_, _, _, _, _, _, _, _, _, _, _, _, _, rfl, _⟩ := h; rfl)
  | (obtain ⟨_, _, _, _, _, _, _, _, _, _, _, _, _, _, rfl, _⟩ := h; rfl)
  | (obtain ⟨_, _, _, _, _, _, _, _, _, _, _, _, _, _, _, rfl, _⟩ := h; rfl)
theorem len_law_machine_sized : ∀ cs Q, sp_law_machine_sized cs Q → cs.length = 3 := by
  intro cs Q h
  first
  | (obtain ⟨rfl, _⟩ := h; rfl)
  | (obtain ⟨_, rfl, _⟩ := h; rfl)
  | (obtain ⟨_, _, rfl, _⟩ := h; rfl)
  | (obtain ⟨_, _, _, rfl, _⟩ := h; rfl)
  | (obtain ⟨_, _, _, _, rfl, _⟩ := h; rfl)
  | (obtain ⟨_, _, _, _, _, rfl, _⟩ := h; rfl)
  | (obtain ⟨_, _, _, _, _, _, rfl, _⟩ := h; rfl)
  | (obtain ⟨_, _, _, _, _, _, _, rfl, _⟩ := h; rfl)
  | (obtain ⟨_, _, _, _, _, _, _, _, rfl, _⟩ := h; rfl)
  | (obtain ⟨_, _, _, _, _, _, _, _, _, rfl, _⟩ := h; rfl)
  | (obtain ⟨_, _, _, _, _, _, _, _, _, _, rfl, _⟩ := h; rfl)
  | (obtain ⟨_, _, _, _, _, _, _, _, _, _, _, rfl, _⟩ := h; rfl)
  | (obtain ⟨_, _, _, _, _, _, _, _, _, _, _, _, rfl, _⟩ := h; rfl)
  | (obtain ⟨_, _, _, _, _, _, _, _, _, _, _, _, _, rfl, _⟩ := h; rfl)
  | (obtain ⟨_, _, _, _, _, _, _, _, _, _, _, _, _, _, rfl, _⟩ := h; rfl)
  | (obtain ⟨_, _, _, _, _, _, _, _, _, _, _, _, _, _, _, rfl, _⟩ := h; rfl)
theorem len_law_machine : ∀ cs Q, sp_law_machine cs Q → cs.length = 1 := by
  intro cs Q h
  first
  | (obtain ⟨rfl, _⟩ := h; rfl)
  | (obtain ⟨_, rfl, _⟩ := h; rfl)
  | (obtain ⟨_, _, rfl, _⟩ := h; rfl)
  | (obtain ⟨_, _, _, rfl, _⟩ := h; rfl)
  | (obtain ⟨_, _, _, _, rfl, _⟩ := h; rfl)
  | (obtain ⟨_, _, _, _, _, rfl, _⟩ := h; rfl)
  | (obtain ⟨_, _, _, _, _, _, rfl, _⟩ := h; rfl)
  | (obtain ⟨_, _, _, _, _, _, _, rfl, _⟩ := h; rfl)
  | (obtain ⟨_, _, _, _, _, _, _, _, rfl, _⟩ := h; rfl)
  | (obtain ⟨_, _, _, _, _, _, _, _, _, rfl, _⟩ := h; rfl)
  | (obtain ⟨_, _, _, _, _, _, _, _, _, _, rfl, _⟩ := h; rfl)
  | (obtain ⟨_, _, _, _, _, _, _, _, _, _, _, rfl, _⟩ := h; rfl)
  | (obtain ⟨_, _, _, _, _, _, _, _, _, _, _, _, rfl, _⟩ := h; rfl)
  | (obtain ⟨_, _, _, _, _, _, _, _, _, _, _, _, _, rfl, _⟩ := h; rfl)
  | (obtain ⟨_, _, _, _, _, _, _, _, _, _, _, _, _, _, rfl, _⟩ := h; rfl)
  | (obtain ⟨_, _, _, _, _, _, _, _, _, _, _, _, _, _, _, rfl, _⟩ := h; rfl)
theorem len_law_base : ∀ cs Q, sp_law_base cs Q → cs.length = 1 := by
  intro cs Q h
  first
  | (obtain ⟨rfl, _⟩ := h; rfl)
  | (obtain ⟨_, rfl, _⟩ := h; rfl)
  | (obtain ⟨_, _, rfl, _⟩ := h; rfl)
  | (obtain ⟨_, _, _, rfl, _⟩ := h; rfl)
  | (obtain ⟨_, _, _, _, rfl, _⟩ := h; rfl)
  | (obtain ⟨_, _, _, _, _, rfl, _⟩ := h; rfl)
  | (obtain ⟨_, _, _, _, _, _, rfl, _⟩ := h; rfl)
  | (obtain ⟨_, _, _, _, _, _, _, rfl, _⟩ := h; rfl)
  | (obtain ⟨_, _, _, _, _, _, _, _, rfl, _⟩ := h; rfl)
  | (obtain ⟨_, _, _, _, _, _, _, _, _, rfl, _⟩ := h; rfl)
  | (obtain ⟨_, _, _, _, _, _, _, _, _, _, rfl, _⟩ := h; rfl)
  | (obtain ⟨_, _, _, _, _, _, _, _, _, _, _, rfl, _⟩ := h; rfl)
  | (obtain ⟨_, _, _, _, _, _, _, _, _, _, _, _, rfl, _⟩ := h; rfl)
  | (obtain ⟨_, _, _, _, _, _, _, _, _, _, _, _, _, rfl, _⟩ := h; rfl)
  | (obtain ⟨_, _, _, _, _, _, _, _, _, _, _, _, _, _, rfl, _⟩ := h; rfl)
  | (obtain ⟨_, _, _, _, _, _, _, _, _, _, _, _, _, _, _, rfl, _⟩ := h; rfl)
theorem len_law_fits : ∀ cs Q, sp_law_fits cs Q → cs.length = 2 := by
  intro cs Q h
  first
  | (obtain ⟨rfl, _⟩ := h; rfl)
  | (obtain ⟨_, rfl, _⟩ := h; rfl)
  | (obtain ⟨_, _, rfl, _⟩ := h; rfl)
  | (obtain ⟨_, _, _, rfl, _⟩ := h; rfl)
  | (obtain ⟨_, _, _, _, rfl, _⟩ := h; rfl)
  | (obtain ⟨_, _, _, _, _, rfl, _⟩ := h; rfl)
  | (obtain ⟨_, _, _, _, _, _, rfl, _⟩ := h; rfl)
  | (obtain ⟨_, _, _, _, _, _, _, rfl, _⟩ := h; rfl)
  | (obtain ⟨_, _, _, _, _, _, _, _, rfl, _⟩ := h; rfl)
  | (obtain ⟨_, _, _, _, _, _, _, _, _, rfl, _⟩ := h; rfl)
  | (obtain ⟨_, _, _, _, _, _, _, _, _, _, rfl, _⟩ := h; rfl)
  | (obtain ⟨_, _, _, _, _, _, _, _, _, _, _, rfl, _⟩ := h; rfl)
  | (obtain ⟨_, _, _, _, _, _, _, _, _, _, _, _, rfl, _⟩ := h; rfl)
  | (obtain ⟨_, _, _, _, _, _, _, _, _, _, _, _, _, rfl, _⟩ := h; rfl)
  | (obtain ⟨_, _, _, _, _, _, _, _, _, _, _, _, _, _, rfl, _⟩ := h; rfl)
  | (obtain ⟨_, _, _, _, _, _, _, _, _, _, _, _, _, _, _, rfl, _⟩ := h; rfl)
theorem len_law_as_much : ∀ cs Q, sp_law_as_much cs Q → cs.length = 2 := by
  intro cs Q h
  first
  | (obtain ⟨rfl, _⟩ := h; rfl)
  | (obtain ⟨_, rfl, _⟩ := h; rfl)
  | (obtain ⟨_, _, rfl, _⟩ := h; rfl)
  | (obtain ⟨_, _, _, rfl, _⟩ := h; rfl)
  | (obtain ⟨_, _, _, _, rfl, _⟩ := h; rfl)
  | (obtain ⟨_, _, _, _, _, rfl, _⟩ := h; rfl)
  | (obtain ⟨_, _, _, _, _, _, rfl, _⟩ := h; rfl)
  | (obtain ⟨_, _, _, _, _, _, _, rfl, _⟩ := h; rfl)
  | (obtain ⟨_, _, _, _, _, _, _, _, rfl, _⟩ := h; rfl)
  | (obtain ⟨_, _, _, _, _, _, _, _, _, rfl, _⟩ := h; rfl)
  | (obtain ⟨_, _, _, _, _, _, _, _, _, _, rfl, _⟩ := h; rfl)
  | (obtain ⟨_, _, _, _, _, _, _, _, _, _, _, rfl, _⟩ := h; rfl)
  | (obtain ⟨_, _, _, _, _, _, _, _, _, _, _, _, rfl, _⟩ := h; rfl)
  | (obtain ⟨_, _, _, _, _, _, _, _, _, _, _, _, _, rfl, _⟩ := h; rfl)
  | (obtain ⟨_, _, _, _, _, _, _, _, _, _, _, _, _, _, rfl, _⟩ := h; rfl)
  | (obtain ⟨_, _, _, _, _, _, _, _, _, _, _, _, _, _, _, rfl, _⟩ := h; rfl)
theorem len_law_has_pair : ∀ cs Q, sp_law_has_pair cs Q → cs.length = 5 := by
  intro cs Q h
  first
  | (obtain ⟨rfl, _⟩ := h; rfl)
  | (obtain ⟨_, rfl, _⟩ := h; rfl)
  | (obtain ⟨_, _, rfl, _⟩ := h; rfl)
  | (obtain ⟨_, _, _, rfl, _⟩ := h; rfl)
  | (obtain ⟨_, _, _, _, rfl, _⟩ := h; rfl)
  | (obtain ⟨_, _, _, _, _, rfl, _⟩ := h; rfl)
  | (obtain ⟨_, _, _, _, _, _, rfl, _⟩ := h; rfl)
  | (obtain ⟨_, _, _, _, _, _, _, rfl, _⟩ := h; rfl)
  | (obtain ⟨_, _, _, _, _, _, _, _, rfl, _⟩ := h; rfl)
  | (obtain ⟨_, _, _, _, _, _, _, _, _, rfl, _⟩ := h; rfl)
  | (obtain ⟨_, _, _, _, _, _, _, _, _, _, rfl, _⟩ := h; rfl)
  | (obtain ⟨_, _, _, _, _, _, _, _, _, _, _, rfl, _⟩ := h; rfl)
  | (obtain ⟨_, _, _, _, _, _, _, _, _, _, _, _, rfl, _⟩ := h; rfl)
  | (obtain ⟨_, _, _, _, _, _, _, _, _, _, _, _, _, rfl, _⟩ := h; rfl)
  | (obtain ⟨_, _, _, _, _, _, _, _, _, _, _, _, _, _, rfl, _⟩ := h; rfl)
  | (obtain ⟨_, _, _, _, _, _, _, _, _, _, _, _, _, _, _, rfl, _⟩ := h; rfl)
theorem len_law_pairs : ∀ cs Q, sp_law_pairs cs Q → cs.length = 3 := by
  intro cs Q h
  first
  | (obtain ⟨rfl, _⟩ := h; rfl)
  | (obtain ⟨_, rfl, _⟩ := h; rfl)
  | (obtain ⟨_, _, rfl, _⟩ := h; rfl)
  | (obtain ⟨_, _, _, rfl, _⟩ := h; rfl)
  | (obtain ⟨_, _, _, _, rfl, _⟩ := h; rfl)
  | (obtain ⟨_, _, _, _, _, rfl, _⟩ := h; rfl)
  | (obtain ⟨_, _, _, _, _, _, rfl, _⟩ := h; rfl)
  | (obtain ⟨_, _, _, _, _, _, _, rfl, _⟩ := h; rfl)
  | (obtain ⟨_, _, _, _, _, _, _, _, rfl, _⟩ := h; rfl)
  | (obtain ⟨_, _, _, _, _, _, _, _, _, rfl, _⟩ := h; rfl)
  | (obtain ⟨_, _, _, _, _, _, _, _, _, _, rfl, _⟩ := h; rfl)
  | (obtain ⟨_, _, _, _, _, _, _, _, _, _, _, rfl, _⟩ := h; rfl)
  | (obtain ⟨_, _, _, _, _, _, _, _, _, _, _, _, rfl, _⟩ := h; rfl)
  | (obtain ⟨_, _, _, _, _, _, _, _, _, _, _, _, _, rfl, _⟩ := h; rfl)
  | (obtain ⟨_, _, _, _, _, _, _, _, _, _, _, _, _, _, rfl, _⟩ := h; rfl)
  | (obtain ⟨_, _, _, _, _, _, _, _, _, _, _, _, _, _, _, rfl, _⟩ := h; rfl)
theorem len_law_pattern : ∀ cs Q, sp_law_pattern cs Q → cs.length = 2 := by
  intro cs Q h
  first
  | (obtain ⟨rfl, _⟩ := h; rfl)
  | (obtain ⟨_, rfl, _⟩ := h; rfl)
  | (obtain ⟨_, _, rfl, _⟩ := h; rfl)
  | (obtain ⟨_, _, _, rfl, _⟩ := h; rfl)
  | (obtain ⟨_, _, _, _, rfl, _⟩ := h; rfl)
  | (obtain ⟨_, _, _, _, _, rfl, _⟩ := h; rfl)
  | (obtain ⟨_, _, _, _, _, _, rfl, _⟩ := h; rfl)
  | (obtain ⟨_, _, _, _, _, _, _, rfl, _⟩ := h; rfl)
  | (obtain ⟨_, _, _, _, _, _, _, _, rfl, _⟩ := h; rfl)
  | (obtain ⟨_, _, _, _, _, _, _, _, _, rfl, _⟩ := h; rfl)
  | (obtain ⟨_, _, _, _, _, _, _, _, _, _, rfl, _⟩ := h; rfl)
  | (obtain ⟨_, _, _, _, _, _, _, _, _, _, _, rfl, _⟩ := h; rfl)
  | (obtain ⟨_, _, _, _, _, _, _, _, _, _, _, _, rfl, _⟩ := h; rfl)
  | (obtain ⟨_, _, _, _, _, _, _, _, _, _, _, _, _, rfl, _⟩ := h; rfl)
  | (obtain ⟨_, _, _, _, _, _, _, _, _, _, _, _, _, _, rfl, _⟩ := h; rfl)
  | (obtain ⟨_, _, _, _, _, _, _, _, _, _, _, _, _, _, _, rfl, _⟩ := h; rfl)
theorem len_law_lead : ∀ cs Q, sp_law_lead cs Q → cs.length = 1 := by
  intro cs Q h
  first
  | (obtain ⟨rfl, _⟩ := h; rfl)
  | (obtain ⟨_, rfl, _⟩ := h; rfl)
  | (obtain ⟨_, _, rfl, _⟩ := h; rfl)
  | (obtain ⟨_, _, _, rfl, _⟩ := h; rfl)
  | (obtain ⟨_, _, _, _, rfl, _⟩ := h; rfl)
  | (obtain ⟨_, _, _, _, _, rfl, _⟩ := h; rfl)
  | (obtain ⟨_, _, _, _, _, _, rfl, _⟩ := h; rfl)
  | (obtain ⟨_, _, _, _, _, _, _, rfl, _⟩ := h; rfl)
  | (obtain ⟨_, _, _, _, _, _, _, _, rfl, _⟩ := h; rfl)
  | (obtain ⟨_, _, _, _, _, _, _, _, _, rfl, _⟩ := h; rfl)
  | (obtain ⟨_, _, _, _, _, _, _, _, _, _, rfl, _⟩ := h; rfl)
  | (obtain ⟨_, _, _, _, _, _, _, _, _, _, _, rfl, _⟩ := h; rfl)
  | (obtain ⟨_, _, _, _, _, _, _, _, _, _, _, _, rfl, _⟩ := h; rfl)
  | (obtain ⟨_, _, _, _, _, _, _, _, _, _, _, _, _, rfl, _⟩ := h; rfl)
  | (obtain ⟨_, _, _, _, _, _, _, _, _, _, _, _, _, _, rfl, _⟩ := h; rfl)
  | (obtain ⟨_, _, _, _, _, _, _, _, _, _, _, _, _, _, _, rfl, _⟩ := h; rfl)
theorem len_law_offer : ∀ cs Q, sp_law_offer cs Q → cs.length = 2 := by
  intro cs Q h
  first
  | (obtain ⟨rfl, _⟩ := h; rfl)
  | (obtain ⟨_, rfl, _⟩ := h; rfl)
  | (obtain ⟨_, _, rfl, _⟩ := h; rfl)
  | (obtain ⟨_, _, _, rfl, _⟩ := h; rfl)
  | (obtain ⟨_, _, _, _, rfl, _⟩ := h; rfl)
  | (obtain ⟨_, _, _, _, _, rfl, _⟩ := h; rfl)
  | (obtain ⟨_, _, _, _, _, _, rfl, _⟩ := h; rfl)
  | (obtain ⟨_, _, _, _, _, _, _, rfl, _⟩ := h; rfl)
  | (obtain ⟨_, _, _, _, _, _, _, _, rfl, _⟩ := h; rfl)
  | (obtain ⟨_, _, _, _, _, _, _, _, _, rfl, _⟩ := h; rfl)
  | (obtain ⟨_, _, _, _, _, _, _, _, _, _, rfl, _⟩ := h; rfl)
  | (obtain ⟨_, _, _, _, _, _, _, _, _, _, _, rfl, _⟩ := h; rfl)
  | (obtain ⟨_, _, _, _, _, _, _, _, _, _, _, _, rfl, _⟩ := h; rfl)
  | (obtain ⟨_, _, _, _, _, _, _, _, _, _, _, _, _, rfl, _⟩ := h; rfl)
  | (obtain ⟨_, _, _, _, _, _, _, _, _, _, _, _, _, _, rfl, _⟩ := h; rfl)
  | (obtain ⟨_, _, _, _, _, _, _, _, _, _, _, _, _, _, _, rfl, _⟩ := h; rfl)
theorem len_law_labelled : ∀ cs Q, sp_law_labelled cs Q → cs.length = 3 := by
  intro cs Q h
  first
  | (obtain ⟨rfl, _⟩ := h; rfl)
  | (obtain ⟨_, rfl, _⟩ := h; rfl)
  | (obtain ⟨_, _, rfl, _⟩ := h; rfl)
  | (obtain ⟨_, _, _, rfl, _⟩ := h; rfl)
  | (obtain ⟨_, _, _, _, rfl, _⟩ := h; rfl)
  | (obtain ⟨_, _, _, _, _, rfl, _⟩ := h; rfl)
  | (obtain ⟨_, _, _, _, _, _, rfl, _⟩ := h; rfl)
  | (obtain ⟨_, _, _, _, _, _, _, rfl, _⟩ := h; rfl)
  | (obtain ⟨_, _, _, _, _, _, _, _, rfl, _⟩ := h; rfl)
  | (obtain ⟨_, _, _, _, _, _, _, _, _, rfl, _⟩ := h; rfl)
  | (obtain ⟨_, _, _, _, _, _, _, _, _, _, rfl, _⟩ := h; rfl)
  | (obtain ⟨_, _, _, _, _, _, _, _, _, _, _, rfl, _⟩ := h; rfl)
  | (obtain ⟨_, _, _, _, _, _, _, _, _, _, _, _, rfl, _⟩ := h; rfl)
  | (obtain ⟨_, _, _, _, _, _, _, _, _, _, _, _, _, rfl, _⟩ := h; rfl)
  | (obtain ⟨_, _, _, _, _, _, _, _, _, _, _, _, _, _, rfl, _⟩ := h; rfl)
  | (obtain ⟨_, _, _, _, _, _, _, _, _, _, _, _, _, _, _, rfl, _⟩ := h; rfl)
theorem len_law_any_machine : ∀ cs Q, sp_law_any_machine cs Q → cs.length = 1 := by
  intro cs Q h
  first
  | (obtain ⟨rfl, _⟩ := h; rfl)
  | (obtain ⟨_, rfl, _⟩ := h; rfl)
  | (obtain ⟨_, _, rfl, _⟩ := h; rfl)
  | (obtain ⟨_, _, _, rfl, _⟩ := h; rfl)
  | (obtain ⟨_, _, _, _, rfl, _⟩ := h; rfl)
  | (obtain ⟨_, _, _, _, _, rfl, _⟩ := h; rfl)
  | (obtain ⟨_, _, _, _, _, _, rfl, _⟩ := h; rfl)
  | (obtain ⟨_, _, _, _, _, _, _, rfl, _⟩ := h; rfl)
  | (obtain ⟨_, _, _, _, _, _, _, _, rfl, _⟩ := h; rfl)
  | (obtain ⟨_, _, _, _, _, _, _, _, _, rfl, _⟩ := h; rfl)
  | (obtain ⟨_, _, _, _, _, _, _, _, _, _, rfl, _⟩ := h; rfl)
  | (obtain ⟨_, _, _, _, _, _, _, _, _, _, _, rfl, _⟩ := h; rfl)
  | (obtain ⟨_, _, _, _, _, _, _, _, _, _, _, _, rfl, _⟩ := h; rfl)
  | (obtain ⟨_, _, _, _, _, _, _, _, _, _, _, _, _, rfl, _⟩ := h; rfl)
  | (obtain ⟨_, _, _, _, _, _, _, _, _, _, _, _, _, _, rfl, _⟩ := h; rfl)
  | (obtain ⟨_, _, _, _, _, _, _, _, _, _, _, _, _, _, _, rfl, _⟩ := h; rfl)
theorem len_law_rows_of : ∀ cs Q, sp_law_rows_of cs Q → cs.length = 2 := by
  intro cs Q h
  first
  | (obtain ⟨rfl, _⟩ := h; rfl)
  | (obtain ⟨_, rfl, _⟩ := h; rfl)
  | (obtain ⟨_, _, rfl, _⟩ := h; rfl)
  | (obtain ⟨_, _, _, rfl, _⟩ := h; rfl)
  | (obtain ⟨_, _, _, _, rfl, _⟩ := h; rfl)
  | (obtain ⟨_, _, _, _, _, rfl, _⟩ := h; rfl)
  | (obtain ⟨_, _, _, _, _, _, rfl, _⟩ := h; rfl)
  | (obtain ⟨_, _, _, _, _, _, _, rfl, _⟩ := h; rfl)
  | (obtain ⟨_, _, _, _, _, _, _, _, rfl, _⟩ := h; rfl)
  | (obtain ⟨_, _, _, _, _, _, _, _, _, rfl, _⟩ := h; rfl)
  | (obtain ⟨_, _, _, _, _, _, _, _, _, _, rfl, _⟩ := h; rfl)
  | (obtain ⟨_, _, _, _, _, _, _, _, _, _, _, rfl, _⟩ := h; rfl)
  | (obtain ⟨_, _, _, _, _, _, _, _, _, _, _, _, rfl, _⟩ := h; rfl)
  | (obtain ⟨_, _, _, _, _, _, _, _, _, _, _, _, _, rfl, _⟩ := h; rfl)
  | (obtain ⟨_, _, _, _, _, _, _, _, _, _, _, _, _, _, rfl, _⟩ := h; rfl)
  | (obtain ⟨_, _, _, _, _, _, _, _, _, _, _, _, _, _, _, rfl, _⟩ := h; rfl)
theorem len_law_leads_of : ∀ cs Q, sp_law_leads_of cs Q → cs.length = 5 := by
  intro cs Q h
  first
  | (obtain ⟨rfl, _⟩ := h; rfl)
  | (obtain ⟨_, rfl, _⟩ := h; rfl)
  | (obtain ⟨_, _, rfl, _⟩ := h; rfl)
  | (obtain ⟨_, _, _, rfl, _⟩ := h; rfl)
  | (obtain ⟨_, _, _, _, rfl, _⟩ := h; rfl)
  | (obtain ⟨_, _, _, _, _, rfl, _⟩ := h; rfl)
  | (obtain ⟨_, _, _, _, _, _, rfl, _⟩ := h; rfl)
  | (obtain ⟨_, _, _, _, _, _, _, rfl, _⟩ := h; rfl)
  | (obtain ⟨_, _, _, _, _, _, _, _, rfl, _⟩ := h; rfl)
  | (obtain ⟨_, _, _, _, _, _, _, _, _, rfl, _⟩ := h; rfl)
  | (obtain ⟨_, _, _, _, _, _, _, _, _, _, rfl, _⟩ := h; rfl)
  | (obtain ⟨_, _, _, _, _, _, _, _, _, _, _, rfl, _⟩ := h; rfl)
  | (obtain ⟨_, _, _, _, _, _, _, _, _, _, _, _, rfl, _⟩ := h; rfl)
  | (obtain ⟨_, _, _, _, _, _, _, _, _, _, _, _, _, rfl, _⟩ := h; rfl)
  | (obtain ⟨_, _, _, _, _, _, _, _, _, _, _, _, _, _, rfl, _⟩ := h; rfl)
  | (obtain ⟨_, _, _, _, _, _, _, _, _, _, _, _, _, _, _, rfl, _⟩ := h; rfl)
theorem len_law_least_of : ∀ cs Q, sp_law_least_of cs Q → cs.length = 1 := by
  intro cs Q h
  first
  | (obtain ⟨rfl, _⟩ := h; rfl)
  | (obtain ⟨_, rfl, _⟩ := h; rfl)
  | (obtain ⟨_, _, rfl, _⟩ := h; rfl)
  | (obtain ⟨_, _, _, rfl, _⟩ := h; rfl)
  | (obtain ⟨_, _, _, _, rfl, _⟩ := h; rfl)
  | (obtain ⟨_, _, _, _, _, rfl, _⟩ := h; rfl)
  | (obtain ⟨_, _, _, _, _, _, rfl, _⟩ := h; rfl)
  | (obtain ⟨_, _, _, _, _, _, _, rfl, _⟩ := h; rfl)
  | (obtain ⟨_, _, _, _, _, _, _, _, rfl, _⟩ := h; rfl)
  | (obtain ⟨_, _, _, _, _, _, _, _, _, rfl, _⟩ := h; rfl)
  | (obtain ⟨_, _, _, _, _, _, _, _, _, _, rfl, _⟩ := h; rfl)
  | (obtain ⟨_, _, _, _, _, _, _, _, _, _, _, rfl, _⟩ := h; rfl)
  | (obtain ⟨_, _, _, _, _, _, _, _, _, _, _, _, rfl, _⟩ := h; rfl)
  | (obtain ⟨_, _, _, _, _, _, _, _, _, _, _, _, _, rfl, _⟩ := h; rfl)
  | (obtain ⟨_, _, _, _, _, _, _, _, _, _, _, _, _, _, rfl, _⟩ := h; rfl)
  | (obtain ⟨_, _, _, _, _, _, _, _, _, _, _, _, _, _, _, rfl, _⟩ := h; rfl)
theorem len_law_due_table : ∀ cs Q, sp_law_due_table cs Q → cs.length = 2 := by
  intro cs Q h
  first
  | (obtain ⟨rfl, _⟩ := h; rfl)
  | (obtain ⟨_, rfl, _⟩ := h; rfl)
  | (obtain ⟨_, _, rfl, _⟩ := h; rfl)
  | (obtain ⟨_, _, _, rfl, _⟩ := h; rfl)
  | (obtain ⟨_, _, _, _, rfl, _⟩ := h; rfl)
  | (obtain ⟨_, _, _, _, _, rfl, _⟩ := h; rfl)
  | (obtain ⟨_, _, _, _, _, _, rfl, _⟩ := h; rfl)
  | (obtain ⟨_, _, _, _, _, _, _, rfl, _⟩ := h; rfl)
  | (obtain ⟨_, _, _, _, _, _, _, _, rfl, _⟩ := h; rfl)
  | (obtain ⟨_, _, _, _, _, _, _, _, _, rfl, _⟩ := h; rfl)
  | (obtain ⟨_, _, _, _, _, _, _, _, _, _, rfl, _⟩ := h; rfl)
  | (obtain ⟨_, _, _, _, _, _, _, _, _, _, _, rfl, _⟩ := h; rfl)
  | (obtain ⟨_, _, _, _, _, _, _, _, _, _, _, _, rfl, _⟩ := h; rfl)
  | (obtain ⟨_, _, _, _, _, _, _, _, _, _, _, _, _, rfl, _⟩ := h; rfl)
  | (obtain ⟨_, _, _, _, _, _, _, _, _, _, _, _, _, _, rfl, _⟩ := h; rfl)
  | (obtain ⟨_, _, _, _, _, _, _, _, _, _, _, _, _, _, _, rfl, _⟩ := h; rfl)
theorem len_law_row_allows : ∀ cs Q, sp_law_row_allows cs Q → cs.length = 6 := by
  intro cs Q h
  first
  | (obtain ⟨rfl, _⟩ := h; rfl)
  | (obtain ⟨_, rfl, _⟩ := h; rfl)
  | (obtain ⟨_, _, rfl, _⟩ := h; rfl)
  | (obtain ⟨_, _, _, rfl, _⟩ := h; rfl)
  | (obtain ⟨_, _, _, _, rfl, _⟩ := h; rfl)
  | (obtain ⟨_, _, _, _, _, rfl, _⟩ := h; rfl)
  | (obtain ⟨_, _, _, _, _, _, rfl, _⟩ := h; rfl)
  | (obtain ⟨_, _, _, _, _, _, _, rfl, _⟩ := h; rfl)
  | (obtain ⟨_, _, _, _, _, _, _, _, rfl, _⟩ := h; rfl)
  | (obtain ⟨_, _, _, _, _, _, _, _, _, rfl, _⟩ := h; rfl)
  | (obtain ⟨_, _, _, _, _, _, _, _, _, _, rfl, _⟩ := h; rfl)
  | (obtain ⟨_, _, _, _, _, _, _, _, _, _, _, rfl, _⟩ := h; rfl)
  | (obtain ⟨_, _, _, _, _, _, _, _, _, _, _, _, rfl, _⟩ := h; rfl)
  | (obtain ⟨_, _, _, _, _, _, _, _, _, _, _, _, _, rfl, _⟩ := h; rfl)
  | (obtain ⟨_, _, _, _, _, _, _, _, _, _, _, _, _, _, rfl, _⟩ := h; rfl)
  | (obtain ⟨_, _, _, _, _, _, _, _, _, _, _, _, _, _, _, rfl, _⟩ := h; rfl)
theorem len_law_asked_pair : ∀ cs Q, sp_law_asked_pair cs Q → cs.length = 3 := by
  intro cs Q h
  first
  | (obtain ⟨rfl, _⟩ := h; rfl)
  | (obtain ⟨_, rfl, _⟩ := h; rfl)
  | (obtain ⟨_, _, rfl, _⟩ := h; rfl)
  | (obtain ⟨_, _, _, rfl, _⟩ := h; rfl)
  | (obtain ⟨_, _, _, _, rfl, _⟩ := h; rfl)
  | (obtain ⟨_, _, _, _, _, rfl, _⟩ := h; rfl)
  | (obtain ⟨_, _, _, _, _, _, rfl, _⟩ := h; rfl)
  | (obtain ⟨_, _, _, _, _, _, _, rfl, _⟩ := h; rfl)
  | (obtain ⟨_, _, _, _, _, _, _, _, rfl, _⟩ := h; rfl)
  | (obtain ⟨_, _, _, _, _, _, _, _, _, rfl, _⟩ := h; rfl)
  | (obtain ⟨_, _, _, _, _, _, _, _, _, _, rfl, _⟩ := h; rfl)
  | (obtain ⟨_, _, _, _, _, _, _, _, _, _, _, rfl, _⟩ := h; rfl)
  | (obtain ⟨_, _, _, _, _, _, _, _, _, _, _, _, rfl, _⟩ := h; rfl)
  | (obtain ⟨_, _, _, _, _, _, _, _, _, _, _, _, _, rfl, _⟩ := h; rfl)
  | (obtain ⟨_, _, _, _, _, _, _, _, _, _, _, _, _, _, rfl, _⟩ := h; rfl)
  | (obtain ⟨_, _, _, _, _, _, _, _, _, _, _, _, _, _, _, rfl, _⟩ := h; rfl)
theorem len_law_allowed_right : ∀ cs Q, sp_law_allowed_right cs Q → cs.length = 4 := by
  intro cs Q h
  first
  | (obtain ⟨rfl, _⟩ := h; rfl)
  | (obtain ⟨_, rfl, _⟩ := h; rfl)
  | (obtain ⟨_, _, rfl, _⟩ := h; rfl)
  | (obtain ⟨_, _, _, rfl, _⟩ := h; rfl)
  | (obtain ⟨_, _, _, _, rfl, _⟩ := h; rfl)
  | (obtain ⟨_, _, _, _, _, rfl, _⟩ := h; rfl)
  | (obtain ⟨_, _, _, _, _, _, rfl, _⟩ := h; rfl)
  | (obtain ⟨_, _, _, _, _, _, _, rfl, _⟩ := h; rfl)
  | (obtain ⟨_, _, _, _, _, _, _, _, rfl, _⟩ := h; rfl)
  | (obtain ⟨_, _, _, _, _, _, _, _, _, rfl, _⟩ := h; rfl)
  | (obtain ⟨_, _, _, _, _, _, _, _, _, _, rfl, _⟩ := h; rfl)
  | (obtain ⟨_, _, _, _, _, _, _, _, _, _, _, rfl, _⟩ := h; rfl)
  | (obtain ⟨_, _, _, _, _, _, _, _, _, _, _, _, rfl, _⟩ := h; rfl)
  | (obtain ⟨_, _, _, _, _, _, _, _, _, _, _, _, _, rfl, _⟩ := h; rfl)
  | (obtain ⟨_, _, _, _, _, _, _, _, _, _, _, _, _, _, rfl, _⟩ := h; rfl)
  | (obtain ⟨_, _, _, _, _, _, _, _, _, _, _, _, _, _, _, rfl, _⟩ := h; rfl)
theorem len_law_drawn_right : ∀ cs Q, sp_law_drawn_right cs Q → cs.length = 1 := by
  intro cs Q h
  first
  | (obtain ⟨rfl, _⟩ := h; rfl)
  | (obtain ⟨_, rfl, _⟩ := h; rfl)
  | (obtain ⟨_, _, rfl, _⟩ := h; rfl)
  | (obtain ⟨_, _, _, rfl, _⟩ := h; rfl)
  | (obtain ⟨_, _, _, _, rfl, _⟩ := h; rfl)
  | (obtain ⟨_, _, _, _, _, rfl, _⟩ := h; rfl)
  | (obtain ⟨_, _, _, _, _, _, rfl, _⟩ := h; rfl)
  | (obtain ⟨_, _, _, _, _, _, _, rfl, _⟩ := h; rfl)
  | (obtain ⟨_, _, _, _, _, _, _, _, rfl, _⟩ := h; rfl)
  | (obtain ⟨_, _, _, _, _, _, _, _, _, rfl, _⟩ := h; rfl)
  | (obtain ⟨_, _, _, _, _, _, _, _, _, _, rfl, _⟩ := h; rfl)
  | (obtain ⟨_, _, _, _, _, _, _, _, _, _, _, rfl, _⟩ := h; rfl)
  | (obtain ⟨_, _, _, _, _, _, _, _, _, _, _, _, rfl, _⟩ := h; rfl)
  | (obtain ⟨_, _, _, _, _, _, _, _, _, _, _, _, _, rfl, _⟩ := h; rfl)
  | (obtain ⟨_, _, _, _, _, _, _, _, _, _, _, _, _, _, rfl, _⟩ := h; rfl)
  | (obtain ⟨_, _, _, _, _, _, _, _, _, _, _, _, _, _, _, rfl, _⟩ := h; rfl)
theorem ok_law (T : Tx mg)
    {f_0 : Addr} {fd_0 : FuncData} (F_0 : FunD K "base_of" "base_of" (defArgs (top 1)) (defBody (top 1)) (defScope (top 1)) [] [] f_0 fd_0)
    (m_0 : mg "base_of" = some (.ref f_0))
    {f_1 : Addr} {fd_1 : FuncData} (F_1 : FunD K "mark_of" "mark_of" (defArgs (top 2)) (defBody (top 2)) (defScope (top 2)) [] [] f_1 fd_1)
    (m_1 : mg "mark_of" = some (.ref f_1))
    {f_2 : Addr} {fd_2 : FuncData} (F_2 : FunD K "levels_of" "levels_of" (defArgs (top 3)) (defBody (top 3)) (defScope (top 3)) [] [] f_2 fd_2)
    (m_2 : mg "levels_of" = some (.ref f_2))
    {f_3 : Addr} {fd_3 : FuncData} (F_3 : FunD K "fits_goes" "fits_goes" (defArgs (top 4)) (defBody (top 4)) (defScope (top 4)) [] [] f_3 fd_3)
    (m_3 : mg "fits_goes" = some (.ref f_3))
    {f_4 : Addr} {fd_4 : FuncData} (F_4 : FunD K "as_much" "as_much" (defArgs (top 5)) (defBody (top 5)) (defScope (top 5)) [] [] f_4 fd_4)
    (m_4 : mg "as_much" = some (.ref f_4))
    {f_5 : Addr} {fd_5 : FuncData} (F_5 : FunD K "fits_pair" "fits_pair" (defArgs (top 6)) (defBody (top 6)) (defScope (top 6)) [] [] f_5 fd_5)
    (m_5 : mg "fits_pair" = some (.ref f_5))
    {f_6 : Addr} {fd_6 : FuncData} (F_6 : FunD K "pairs_of" "pairs_of" (defArgs (top 7)) (defBody (top 7)) (defScope (top 7)) [] [] f_6 fd_6)
    (m_6 : mg "pairs_of" = some (.ref f_6))
    {f_7 : Addr} {fd_7 : FuncData} (F_7 : FunD K "lesser" "lesser" (defArgs (top 9)) (defBody (top 9)) (defScope (top 9)) [] [] f_7 fd_7)
    (m_7 : mg "lesser" = some (.ref f_7))
    {f_8 : Addr} {fd_8 : FuncData} (F_8 : FunD K "throws_of" "throws_of" (defArgs (top 10)) (defBody (top 10)) (defScope (top 10)) [] [] f_8 fd_8)
    (m_8 : mg "throws_of" = some (.ref f_8))
    {f_9 : Addr} {fd_9 : FuncData} (F_9 : FunD K "allows" "allows" (defArgs (top 11)) (defBody (top 11)) (defScope (top 11)) [] [] f_9 fd_9)
    (m_9 : mg "allows" = some (.ref f_9))
    {f_10 : Addr} {fd_10 : FuncData} (F_10 : FunD K "least_throw" "least_throw" (defArgs (top 12)) (defBody (top 12)) (defScope (top 12)) [] [] f_10 fd_10)
    (m_10 : mg "least_throw" = some (.ref f_10))
    {f_11 : Addr} {fd_11 : FuncData} (F_11 : FunD K "_law_source" "_law_source" (defArgs (top 14)) (defBody (top 14)) (defScope (top 14)) [] [] f_11 fd_11)
    (m_11 : mg "_law_source" = some (.ref f_11))
    {f_12 : Addr} {fd_12 : FuncData} (F_12 : FunD K "_law_mixed" "_law_mixed" (defArgs (top 15)) (defBody (top 15)) (defScope (top 15)) [] [] f_12 fd_12)
    (m_12 : mg "_law_mixed" = some (.ref f_12))
    {f_13 : Addr} {fd_13 : FuncData} (F_13 : FunD K "_law_draw" "_law_draw" (defArgs (top 16)) (defBody (top 16)) (defScope (top 16)) [] [] f_13 fd_13)
    (m_13 : mg "_law_draw" = some (.ref f_13))
    {f_14 : Addr} {fd_14 : FuncData} (F_14 : FunD K "_law_some" "_law_some" (defArgs (top 17)) (defBody (top 17)) (defScope (top 17)) [] [] f_14 fd_14)
    (m_14 : mg "_law_some" = some (.ref f_14))
    {f_15 : Addr} {fd_15 : FuncData} (F_15 : FunD K "_law_picks" "_law_picks" (defArgs (top 18)) (defBody (top 18)) (defScope (top 18)) [] [] f_15 fd_15)
    (m_15 : mg "_law_picks" = some (.ref f_15))
    {f_16 : Addr} {fd_16 : FuncData} (F_16 : FunD K "_law_names" "_law_names" (defArgs (top 19)) (defBody (top 19)) (defScope (top 19)) [] [] f_16 fd_16)
    (m_16 : mg "_law_names" = some (.ref f_16))
    {f_17 : Addr} {fd_17 : FuncData} (F_17 : FunD K "_law_fare" "_law_fare" (defArgs (top 20)) (defBody (top 20)) (defScope (top 20)) [] [] f_17 fd_17)
    (m_17 : mg "_law_fare" = some (.ref f_17))
    {f_18 : Addr} {fd_18 : FuncData} (F_18 : FunD K "_law_machine_names" "_law_machine_names" (defArgs (top 21)) (defBody (top 21)) (defScope (top 21)) [] [] f_18 fd_18)
    (m_18 : mg "_law_machine_names" = some (.ref f_18))
    {f_19 : Addr} {fd_19 : FuncData} (F_19 : FunD K "_law_machine_sized" "_law_machine_sized" (defArgs (top 22)) (defBody (top 22)) (defScope (top 22)) [] [] f_19 fd_19)
    (m_19 : mg "_law_machine_sized" = some (.ref f_19))
    {f_20 : Addr} {fd_20 : FuncData} (F_20 : FunD K "_law_machine" "_law_machine" (defArgs (top 23)) (defBody (top 23)) (defScope (top 23)) [] [] f_20 fd_20)
    (m_20 : mg "_law_machine" = some (.ref f_20))
    {f_21 : Addr} {fd_21 : FuncData} (F_21 : FunD K "_law_base" "_law_base" (defArgs (top 24)) (defBody (top 24)) (defScope (top 24)) [] [] f_21 fd_21)
    (m_21 : mg "_law_base" = some (.ref f_21))
    {f_22 : Addr} {fd_22 : FuncData} (F_22 : FunD K "_law_fits" "_law_fits" (defArgs (top 25)) (defBody (top 25)) (defScope (top 25)) [] [] f_22 fd_22)
    (m_22 : mg "_law_fits" = some (.ref f_22))
    {f_23 : Addr} {fd_23 : FuncData} (F_23 : FunD K "_law_as_much" "_law_as_much" (defArgs (top 26)) (defBody (top 26)) (defScope (top 26)) [] [] f_23 fd_23)
    (m_23 : mg "_law_as_much" = some (.ref f_23))
    {f_24 : Addr} {fd_24 : FuncData} (F_24 : FunD K "_law_has_pair" "_law_has_pair" (defArgs (top 27)) (defBody (top 27)) (defScope (top 27)) [] [] f_24 fd_24)
    (m_24 : mg "_law_has_pair" = some (.ref f_24))
    {f_25 : Addr} {fd_25 : FuncData} (F_25 : FunD K "_law_pairs" "_law_pairs" (defArgs (top 28)) (defBody (top 28)) (defScope (top 28)) [] [] f_25 fd_25)
    (m_25 : mg "_law_pairs" = some (.ref f_25))
    {f_26 : Addr} {fd_26 : FuncData} (F_26 : FunD K "_law_pattern" "_law_pattern" (defArgs (top 29)) (defBody (top 29)) (defScope (top 29)) [] [] f_26 fd_26)
    (m_26 : mg "_law_pattern" = some (.ref f_26))
    {f_27 : Addr} {fd_27 : FuncData} (F_27 : FunD K "_law_lead" "_law_lead" (defArgs (top 30)) (defBody (top 30)) (defScope (top 30)) [] [] f_27 fd_27)
    (m_27 : mg "_law_lead" = some (.ref f_27))
    {f_28 : Addr} {fd_28 : FuncData} (F_28 : FunD K "_law_offer" "_law_offer" (defArgs (top 31)) (defBody (top 31)) (defScope (top 31)) [] [] f_28 fd_28)
    (m_28 : mg "_law_offer" = some (.ref f_28))
    {f_29 : Addr} {fd_29 : FuncData} (F_29 : FunD K "_law_labelled" "_law_labelled" (defArgs (top 32)) (defBody (top 32)) (defScope (top 32)) [] [] f_29 fd_29)
    (m_29 : mg "_law_labelled" = some (.ref f_29))
    {f_30 : Addr} {fd_30 : FuncData} (F_30 : FunD K "_law_any_machine" "_law_any_machine" (defArgs (top 33)) (defBody (top 33)) (defScope (top 33)) [] [] f_30 fd_30)
    (m_30 : mg "_law_any_machine" = some (.ref f_30))
    {f_31 : Addr} {fd_31 : FuncData} (F_31 : FunD K "_law_rows_of" "_law_rows_of" (defArgs (top 34)) (defBody (top 34)) (defScope (top 34)) [] [] f_31 fd_31)
    (m_31 : mg "_law_rows_of" = some (.ref f_31))
    {f_32 : Addr} {fd_32 : FuncData} (F_32 : FunD K "_law_leads_of" "_law_leads_of" (defArgs (top 35)) (defBody (top 35)) (defScope (top 35)) [] [] f_32 fd_32)
    (m_32 : mg "_law_leads_of" = some (.ref f_32))
    {f_33 : Addr} {fd_33 : FuncData} (F_33 : FunD K "_law_least_of" "_law_least_of" (defArgs (top 36)) (defBody (top 36)) (defScope (top 36)) [] [] f_33 fd_33)
    (m_33 : mg "_law_least_of" = some (.ref f_33))
    {f_34 : Addr} {fd_34 : FuncData} (F_34 : FunD K "_law_due_table" "_law_due_table" (defArgs (top 37)) (defBody (top 37)) (defScope (top 37)) [] [] f_34 fd_34)
    (m_34 : mg "_law_due_table" = some (.ref f_34))
    {f_35 : Addr} {fd_35 : FuncData} (F_35 : FunD K "_law_row_allows" "_law_row_allows" (defArgs (top 38)) (defBody (top 38)) (defScope (top 38)) [] [] f_35 fd_35)
    (m_35 : mg "_law_row_allows" = some (.ref f_35))
    {f_36 : Addr} {fd_36 : FuncData} (F_36 : FunD K "_law_asked_pair" "_law_asked_pair" (defArgs (top 39)) (defBody (top 39)) (defScope (top 39)) [] [] f_36 fd_36)
    (m_36 : mg "_law_asked_pair" = some (.ref f_36))
    {f_37 : Addr} {fd_37 : FuncData} (F_37 : FunD K "_law_allowed_right" "_law_allowed_right" (defArgs (top 40)) (defBody (top 40)) (defScope (top 40)) [] [] f_37 fd_37)
    (m_37 : mg "_law_allowed_right" = some (.ref f_37))
    {f_38 : Addr} {fd_38 : FuncData} (F_38 : FunD K "_law_drawn_right" "_law_drawn_right" (defArgs (top 41)) (defBody (top 41)) (defScope (top 41)) [] [] f_38 fd_38)
    (m_38 : mg "_law_drawn_right" = some (.ref f_38))
    {f_39 : Addr} {fd_39 : FuncData} (F_39 : FunD K "law" "law" (defArgs (top 42)) (defBody (top 42)) (defScope (top 42)) [] [] f_39 fd_39) :
    FnG P w K mg base CX0 9 f_39 fd_39 ["script"] (spLaw K) := by
  have c_law_draw := ok_draw (P := P) (w := w) (base := base) T F_13 F_12 m_12 m_13
  have v_law_some := ok_some0 (P := P) (w := w) (base := base) T F_14 F_13 F_12 m_12 m_13 m_14
  have c_base_of : Cal P w K mg base "base_of" 1 sp_base_of := cal_of F_0 m_0 (fun _ _ _ _ _ _ us hl => match us, hl with | [_], _ => rfl) sc_base_of len_base_of (hb_base_of) pf_base_of
  have c_lesser : Cal P w K mg base "lesser" 1 sp_lesser := cal_of F_7 m_7 (fun _ _ _ _ _ _ us hl => match us, hl with | [_, _], _ => rfl) sc_lesser len_lesser (hb_lesser T) pf_lesser
  have c_allows : Cal P w K mg base "allows" 1 sp_allows := cal_of F_9 m_9 (fun _ _ _ _ _ _ us hl => match us, hl with | [_, _, _, _, _], _ => rfl) sc_allows len_allows (hb_allows) pf_allows
  have c_law_base : Cal P w K mg base "_law_base" 1 sp_law_base := cal_of F_21 m_21 (fun _ _ _ _ _ _ us hl => match us, hl with | [_], _ => rfl) sc_law_base len_law_base (hb_law_base) pf_law_base
  have c_law_least_of : Cal P w K mg base "_law_least_of" 1 sp_law_least_of := cal_of F_33 m_33 (fun _ _ _ _ _ _ us hl => match us, hl with | [_], _ => rfl) sc_law_least_of len_law_least_of (hb_law_least_of T) pf_law_least_of
  have c_mark_of : Cal P w K mg base "mark_of" 2 sp_mark_of := cal_of F_1 m_1 (fun _ _ _ _ _ _ us hl => match us, hl with | [_], _ => rfl) sc_mark_of len_mark_of (hb_mark_of c_base_of) pf_mark_of
  have c_levels_of : Cal P w K mg base "levels_of" 2 sp_levels_of := cal_of F_2 m_2 (fun _ _ _ _ _ _ us hl => match us, hl with | [_], _ => rfl) sc_levels_of len_levels_of (hb_levels_of c_base_of) pf_levels_of
  have c_least_throw : Cal P w K mg base "least_throw" 2 sp_least_throw := cal_of F_10 m_10 (fun _ _ _ _ _ _ us hl => match us, hl with | [_, _, _], _ => rfl) sc_least_throw len_least_throw (hb_least_throw c_lesser) pf_least_throw
  have c_law_fits : Cal P w K mg base "_law_fits" 2 sp_law_fits := cal_of F_22 m_22 (fun _ _ _ _ _ _ us hl => match us, hl with | [_, _], _ => rfl) sc_law_fits len_law_fits (hb_law_fits c_law_base) pf_law_fits
  have c_law_as_much : Cal P w K mg base "_law_as_much" 2 sp_law_as_much := cal_of F_23 m_23 (fun _ _ _ _ _ _ us hl => match us, hl with | [_, _], _ => rfl) sc_law_as_much len_law_as_much (hb_law_as_much T c_law_base) pf_law_as_much
  have c_fits_goes : Cal P w K mg base "fits_goes" 3 sp_fits_goes := cal_of F_3 m_3 (fun _ _ _ _ _ _ us hl => match us, hl with | [_, _], _ => rfl) sc_fits_goes len_fits_goes (hb_fits_goes c_mark_of c_base_of) pf_fits_goes
  have c_as_much : Cal P w K mg base "as_much" 3 sp_as_much := cal_of F_4 m_4 (fun _ _ _ _ _ _ us hl => match us, hl with | [_, _], _ => rfl) sc_as_much len_as_much (hb_as_much T c_mark_of c_levels_of) pf_as_much
  have c_law_some : Cal P w K mg base "_law_some" 3 sp_law_some := cal_of F_14 m_14 (fun _ _ _ _ _ _ us hl => match us, hl with | [_, _], _ => rfl) sc_law_some len_law_some (hb_law_some T c_law_draw) pf_law_some
  have c_law_picks : Cal P w K mg base "_law_picks" 3 sp_law_picks := cal_of F_15 m_15 (fun _ _ _ _ _ _ us hl => match us, hl with | [_, _, _], _ => rfl) sc_law_picks len_law_picks (hb_law_picks T c_law_draw) pf_law_picks
  have c_law_has_pair : Cal P w K mg base "_law_has_pair" 3 sp_law_has_pair := cal_of F_24 m_24 (fun _ _ _ _ _ _ us hl => match us, hl with | [_, _, _, _, _], _ => rfl) sc_law_has_pair len_law_has_pair (hb_law_has_pair c_law_fits c_law_as_much) pf_law_has_pair
  have c_law_labelled : Cal P w K mg base "_law_labelled" 3 sp_law_labelled := cal_of F_29 m_29 (fun _ _ _ _ _ _ us hl => match us, hl with | [_, _, _], _ => rfl) sc_law_labelled len_law_labelled (hb_law_labelled T c_law_draw) pf_law_labelled
  have c_fits_pair : Cal P w K mg base "fits_pair" 4 sp_fits_pair := cal_of F_5 m_5 (fun _ _ _ _ _ _ us hl => match us, hl with | [_, _, _, _, _], _ => rfl) sc_fits_pair len_fits_pair (hb_fits_pair c_fits_goes c_as_much) pf_fits_pair
  have c_law_names : Cal P w K mg base "_law_names" 4 sp_law_names := cal_of F_16 m_16 (fun _ _ _ _ _ _ us hl => match us, hl with | [_, _], _ => rfl) sc_law_names len_law_names (hb_law_names T c_law_picks) pf_law_names
  have c_law_fare : Cal P w K mg base "_law_fare" 4 sp_law_fare := cal_of F_17 m_17 (fun _ _ _ _ _ _ us hl => match us, hl with | [_], _ => rfl) sc_law_fare len_law_fare (hb_law_fare c_law_some) pf_law_fare
  have c_law_pairs : Cal P w K mg base "_law_pairs" 4 sp_law_pairs := cal_of F_25 m_25 (fun _ _ _ _ _ _ us hl => match us, hl with | [_, _, _], _ => rfl) sc_law_pairs len_law_pairs (hb_law_pairs T c_law_has_pair) pf_law_pairs
  have c_law_pattern : Cal P w K mg base "_law_pattern" 4 sp_law_pattern := cal_of F_26 m_26 (fun _ _ _ _ _ _ us hl => match us, hl with | [_, _], _ => rfl) sc_law_pattern len_law_pattern (hb_law_pattern c_law_some c_law_base) pf_law_pattern
  have c_law_lead : Cal P w K mg base "_law_lead" 4 sp_law_lead := cal_of F_27 m_27 (fun _ _ _ _ _ _ us hl => match us, hl with | [_], _ => rfl) sc_law_lead len_law_lead (hb_law_lead c_law_some c_law_draw) pf_law_lead
  have c_law_leads_of : Cal P w K mg base "_law_leads_of" 4 sp_law_leads_of := cal_of F_32 m_32 (fun _ _ _ _ _ _ us hl => match us, hl with | [_, _, _, _, _], _ => rfl) sc_law_leads_of len_law_leads_of (hb_law_leads_of c_law_has_pair) pf_law_leads_of
  have c_law_row_allows : Cal P w K mg base "_law_row_allows" 4 sp_law_row_allows := cal_of F_35 m_35 (fun _ _ _ _ _ _ us hl => match us, hl with | [_, _, _, _, _, _], _ => rfl) sc_law_row_allows len_law_row_allows (hb_law_row_allows c_law_has_pair) pf_law_row_allows
  have c_law_drawn_right : Cal P w K mg base "_law_drawn_right" 4 sp_law_drawn_right := cal_of F_38 m_38 (fun _ _ _ _ _ _ us hl => match us, hl with | [_], _ => rfl) sc_law_drawn_right len_law_drawn_right (hb_law_drawn_right T c_least_throw c_law_least_of c_allows c_law_draw c_law_some) pf_law_drawn_right
  have c_pairs_of : Cal P w K mg base "pairs_of" 5 sp_pairs_of := cal_of F_6 m_6 (fun _ _ _ _ _ _ us hl => match us, hl with | [_, _, _], _ => rfl) sc_pairs_of len_pairs_of (hb_pairs_of T c_fits_pair) pf_pairs_of
  have c_law_machine_names : Cal P w K mg base "_law_machine_names" 5 sp_law_machine_names := cal_of F_18 m_18 (fun _ _ _ _ _ _ us hl => match us, hl with | [_, _], _ => rfl) sc_law_machine_names len_law_machine_names (hb_law_machine_names T c_law_draw c_law_names) pf_law_machine_names
  have c_law_offer : Cal P w K mg base "_law_offer" 5 sp_law_offer := cal_of F_28 m_28 (fun _ _ _ _ _ _ us hl => match us, hl with | [_, _], _ => rfl) sc_law_offer len_law_offer (hb_law_offer T c_law_some c_law_draw c_law_lead c_law_pattern) pf_law_offer
  have c_law_due_table : Cal P w K mg base "_law_due_table" 5 sp_law_due_table := cal_of F_34 m_34 (fun _ _ _ _ _ _ us hl => match us, hl with | [_, _], _ => rfl) sc_law_due_table len_law_due_table (hb_law_due_table T c_law_least_of c_law_leads_of) pf_law_due_table
  have c_law_asked_pair : Cal P w K mg base "_law_asked_pair" 5 sp_law_asked_pair := cal_of F_36 m_36 (fun _ _ _ _ _ _ us hl => match us, hl with | [_, _, _], _ => rfl) sc_law_asked_pair len_law_asked_pair (hb_law_asked_pair T c_law_draw c_law_some c_law_pairs) pf_law_asked_pair
  have c_throws_of : Cal P w K mg base "throws_of" 6 sp_throws_of := cal_of F_8 m_8 (fun _ _ _ _ _ _ us hl => match us, hl with | [_, _], _ => rfl) sc_throws_of len_throws_of (hb_throws_of T c_pairs_of c_lesser) pf_throws_of
  have c_law_machine_sized : Cal P w K mg base "_law_machine_sized" 6 sp_law_machine_sized := cal_of F_19 m_19 (fun _ _ _ _ _ _ us hl => match us, hl with | [_, _, _], _ => rfl) sc_law_machine_sized len_law_machine_sized (hb_law_machine_sized T c_law_fare c_law_names c_law_machine_names c_law_draw c_law_some) pf_law_machine_sized
  have c_law_rows_of : Cal P w K mg base "_law_rows_of" 6 sp_law_rows_of := cal_of F_31 m_31 (fun _ _ _ _ _ _ us hl => match us, hl with | [_, _], _ => rfl) sc_law_rows_of len_law_rows_of (hb_law_rows_of T c_law_draw c_law_some c_law_offer v_law_some) pf_law_rows_of
  have c_law_allowed_right : Cal P w K mg base "_law_allowed_right" 6 sp_law_allowed_right := cal_of F_37 m_37 (fun _ _ _ _ _ _ us hl => match us, hl with | [_, _, _, _], _ => rfl) sc_law_allowed_right len_law_allowed_right (hb_law_allowed_right T c_allows c_law_row_allows c_law_some c_law_draw c_least_throw c_law_least_of c_law_leads_of c_law_asked_pair) pf_law_allowed_right
  have c_law_machine : Cal P w K mg base "_law_machine" 7 sp_law_machine := cal_of F_20 m_20 (fun _ _ _ _ _ _ us hl => match us, hl with | [_], _ => rfl) sc_law_machine len_law_machine (hb_law_machine c_law_machine_sized c_law_some) pf_law_machine
  have c_law_any_machine : Cal P w K mg base "_law_any_machine" 8 sp_law_any_machine := cal_of F_30 m_30 (fun _ _ _ _ _ _ us hl => match us, hl with | [_], _ => rfl) sc_law_any_machine len_law_any_machine (hb_law_any_machine c_law_machine c_law_labelled c_law_machine_sized c_law_some c_law_draw) pf_law_any_machine
  have GS : FnOk P w K mg base CX0 1 f_11 fd_11 ["script"] (spSrc0 K) := ok_src0 T F_11
  have bS : Binds K fd_11 ["script"] [] := FunD.bindsN F_11 fun _ _ _ _ _ _ us hl => match us, hl with | [_], _ => rfl
  refine okG F_39 sc_law (fun vs H Q E h => ?_) (fun cdv A outer s H vs Q E hr h => ⟨_, PSs.nox (pss_cons (ps_set (i := 1) sc_law.nd rfl (.inl rfl) (pe_call (E := E0) GS (hr.r.mono (by decide)) rfl m_11 F_11.kp bS .nil pass0 (pa_cons (L2.pv 0) pa_nil))) (hb_law T c_throws_of c_law_drawn_right c_law_allowed_right c_law_due_table c_law_rows_of c_law_any_machine cdv A outer s H E hr)), ?_⟩)
  · obtain ⟨a, ns, rfl, _⟩ := h
    rfl
  · obtain ⟨a, ns, rfl, hs, hl, k⟩ := h
    refine ⟨.ref a, rfl, a, ns, rfl, hs, hl, fun p c ms n4 H' s1 hp h1 h2 => ?_⟩
    exact orc_enter h1 h2 rfl pf_law k
end
theorem facts {P : Program} {w : World} {K : Frag} {h : Heap} {mg : Str → Option Value} {f : Addr} (X : K.In h) (G : h.Ns mainGlobals mg) (hfa : mg ("law" : Str) = some (.ref f)) (c : He.SaysD fa fn K) :
    ∃ fd : FuncData, (∀ (s : Shared) (v : Value), BindsTo s fd ⟨[v], []⟩ [("script", v)]) ∧ ∀ base : Heap, K.In base → base.Ns mainGlobals mg → FnG P w K mg base CX0 9 f fd ["script"] (spLaw K) := by
  obtain ⟨fd_0, F_0⟩ := c.def_ 0 (d := df "base_of" 1) rfl
  obtain ⟨fd_1, F_1⟩ := c.def_ 1 (d := df "mark_of" 2) rfl
  obtain ⟨fd_2, F_2⟩ := c.def_ 2 (d := df "levels_of" 3) rfl
  obtain ⟨fd_3, F_3⟩ := c.def_ 3 (d := df "fits_goes" 4) rfl
  obtain ⟨fd_4, F_4⟩ := c.def_ 4 (d := df "as_much" 5) rfl
  obtain ⟨fd_5, F_5⟩ := c.def_ 5 (d := df "fits_pair" 6) rfl
  obtain ⟨fd_6, F_6⟩ := c.def_ 6 (d := df "pairs_of" 7) rfl
  obtain ⟨fd_7, F_7⟩ := c.def_ 7 (d := df "lesser" 9) rfl
  obtain ⟨fd_8, F_8⟩ := c.def_ 8 (d := df "throws_of" 10) rfl
  obtain ⟨fd_9, F_9⟩ := c.def_ 9 (d := df "allows" 11) rfl
  obtain ⟨fd_10, F_10⟩ := c.def_ 10 (d := df "least_throw" 12) rfl
  obtain ⟨fd_11, F_11⟩ := c.def_ 11 (d := df "_law_source" 14) rfl
  obtain ⟨fd_12, F_12⟩ := c.def_ 12 (d := df "_law_mixed" 15) rfl
  obtain ⟨fd_13, F_13⟩ := c.def_ 13 (d := df "_law_draw" 16) rfl
  obtain ⟨fd_14, F_14⟩ := c.def_ 14 (d := df "_law_some" 17) rfl
  obtain ⟨fd_15, F_15⟩ := c.def_ 15 (d := df "_law_picks" 18) rfl
  obtain ⟨fd_16, F_16⟩ := c.def_ 16 (d := df "_law_names" 19) rfl
  obtain ⟨fd_17, F_17⟩ := c.def_ 17 (d := df "_law_fare" 20) rfl
  obtain ⟨fd_18, F_18⟩ := c.def_ 18 (d := df "_law_machine_names" 21) rfl
  obtain ⟨fd_19, F_19⟩ := c.def_ 19 (d := df "_law_machine_sized" 22) rfl
  obtain ⟨fd_20, F_20⟩ := c.def_ 20 (d := df "_law_machine" 23) rfl
  obtain ⟨fd_21, F_21⟩ := c.def_ 21 (d := df "_law_base" 24) rfl
  obtain ⟨fd_22, F_22⟩ := c.def_ 22 (d := df "_law_fits" 25) rfl
  obtain ⟨fd_23, F_23⟩ := c.def_ 23 (d := df "_law_as_much" 26) rfl
  obtain ⟨fd_24, F_24⟩ := c.def_ 24 (d := df "_law_has_pair" 27) rfl
  obtain ⟨fd_25, F_25⟩ := c.def_ 25 (d := df "_law_pairs" 28) rfl
  obtain ⟨fd_26, F_26⟩ := c.def_ 26 (d := df "_law_pattern" 29) rfl
  obtain ⟨fd_27, F_27⟩ := c.def_ 27 (d := df "_law_lead" 30) rfl
  obtain ⟨fd_28, F_28⟩ := c.def_ 28 (d := df "_law_offer" 31) rfl
  obtain ⟨fd_29, F_29⟩ := c.def_ 29 (d := df "_law_labelled" 32) rfl
  obtain ⟨fd_30, F_30⟩ := c.def_ 30 (d := df "_law_any_machine" 33) rfl
  obtain ⟨fd_31, F_31⟩ := c.def_ 31 (d := df "_law_rows_of" 34) rfl
  obtain ⟨fd_32, F_32⟩ := c.def_ 32 (d := df "_law_leads_of" 35) rfl
  obtain ⟨fd_33, F_33⟩ := c.def_ 33 (d := df "_law_least_of" 36) rfl
  obtain ⟨fd_34, F_34⟩ := c.def_ 34 (d := df "_law_due_table" 37) rfl
  obtain ⟨fd_35, F_35⟩ := c.def_ 35 (d := df "_law_row_allows" 38) rfl
  obtain ⟨fd_36, F_36⟩ := c.def_ 36 (d := df "_law_asked_pair" 39) rfl
  obtain ⟨fd_37, F_37⟩ := c.def_ 37 (d := df "_law_allowed_right" 40) rfl
  obtain ⟨fd_38, F_38⟩ := c.def_ 38 (d := df "_law_drawn_right" 41) rfl
  obtain ⟨fd_39, F_39⟩ := c.def_ 39 (d := df "law" 42) rfl
  have e := hfa.symm.trans (He.glo_ok X G (c.fact 39 (f := .glo "law") rfl))
  cases e
  have T : Tx mg := ⟨He.free_ok X G (c.fact 40 (f := .free "int") rfl), He.free_ok X G (c.fact 41 (f := .free "len") rfl), He.free_ok X G (c.fact 42 (f := .free "list") rfl), He.free_ok X G (c.fact 43 (f := .free "max") rfl), He.free_ok X G (c.fact 44 (f := .free "min") rfl), He.free_ok X G (c.fact 45 (f := .free "range") rfl), He.free_ok X G (c.fact 46 (f := .free "repr") rfl), He.free_ok X G (c.fact 47 (f := .free "str") rfl), He.free_ok X G (c.fact 48 (f := .free "sum") rfl), He.free_ok X G (c.fact 49 (f := .free "tuple") rfl)⟩
  have b := FunD.bindsA (ps := ["script"]) F_39 fun _ _ _ _ _ _ us hl => match us, hl with | [_], _ => rfl
  exact ⟨fd_39, fun s v => b s [v] rfl, fun base _ _ => ok_law T F_0 (He.glo_ok X G (c.fact 0 (f := .glo "base_of") rfl)) F_1 (He.glo_ok X G (c.fact 1 (f := .glo "mark_of") rfl)) F_2 (He.glo_ok X G (c.fact 2 (f := .glo "levels_of") rfl)) F_3 (He.glo_ok X G (c.fact 3 (f := .glo "fits_goes") rfl)) F_4 (He.glo_ok X G (c.fact 4 (f := .glo "as_much") rfl)) F_5 (He.glo_ok X G (c.fact 5 (f := .glo "fits_pair") rfl)) F_6 (He.glo_ok X G (c.fact 6 (f := .glo "pairs_of") rfl)) F_7 (He.glo_ok X G (c.fact 7 (f := .glo "lesser") rfl)) F_8 (He.glo_ok X G (c.fact 8 (f := .glo "throws_of") rfl)) F_9 (He.glo_ok X G (c.fact 9 (f := .glo "allows") rfl)) F_10 (He.glo_ok X G (c.fact 10 (f := .glo "least_throw") rfl)) F_11 (He.glo_ok X G (c.fact 11 (f := .glo "_law_source") rfl)) F_12 (He.glo_ok X G (c.fact 12 (f := .glo "_law_mixed") rfl)) F_13 (He.glo_ok X G (c.fact 13 (f := .glo "_law_draw") rfl)) F_14 (He.glo_ok X G (c.fact 14 (f := .glo "_law_some") rfl)) F_15 (He.glo_ok X G (c.fact 15 (f := .glo "_law_picks") rfl)) F_16 (He.glo_ok X G (c.fact 16 (f := .glo "_law_names") rfl)) F_17 (He.glo_ok X G (c.fact 17 (f := .glo "_law_fare") rfl)) F_18 (He.glo_ok X G (c.fact 18 (f := .glo "_law_machine_names") rfl)) F_19 (He.glo_ok X G (c.fact 19 (f := .glo "_law_machine_sized") rfl)) F_20 (He.glo_ok X G (c.fact 20 (f := .glo "_law_machine") rfl)) F_21 (He.glo_ok X G (c.fact 21 (f := .glo "_law_base") rfl)) F_22 (He.glo_ok X G (c.fact 22 (f := .glo "_law_fits") rfl)) F_23 (He.glo_ok X G (c.fact 23 (f := .glo "_law_as_much") rfl)) F_24 (He.glo_ok X G (c.fact 24 (f := .glo "_law_has_pair") rfl)) F_25 (He.glo_ok X G (c.fact 25 (f := .glo "_law_pairs") rfl)) F_26 (He.glo_ok X G (c.fact 26 (f := .glo "_law_pattern") rfl)) F_27 (He.glo_ok X G (c.fact 27 (f := .glo "_law_lead") rfl)) F_28 (He.glo_ok X G (c.fact 28 (f := .glo "_law_offer") rfl)) F_29 (He.glo_ok X G (c.fact 29 (f := .glo "_law_labelled") rfl)) F_30 (He.glo_ok X G (c.fact 30 (f := .glo "_law_any_machine") rfl)) F_31 (He.glo_ok X G (c.fact 31 (f := .glo "_law_rows_of") rfl)) F_32 (He.glo_ok X G (c.fact 32 (f := .glo "_law_leads_of") rfl)) F_33 (He.glo_ok X G (c.fact 33 (f := .glo "_law_least_of") rfl)) F_34 (He.glo_ok X G (c.fact 34 (f := .glo "_law_due_table") rfl)) F_35 (He.glo_ok X G (c.fact 35 (f := .glo "_law_row_allows") rfl)) F_36 (He.glo_ok X G (c.fact 36 (f := .glo "_law_asked_pair") rfl)) F_37 (He.glo_ok X G (c.fact 37 (f := .glo "_law_allowed_right") rfl)) F_38 (He.glo_ok X G (c.fact 38 (f := .glo "_law_drawn_right") rfl)) F_39⟩
end G
open PySem PySem.W PySem.Calls PyProof.Rows
theorem PySem.Challenge.cw_thrownslips_k35_throw_tables_holds : PySem.Challenge.rw_thrownslips_k35_throw_tables.Holds := by
  w_on; o_law
  refine HandSHeadRun.head_any (r := G.R) (q := view G.R.prog [42]) (H := G.hk) (ob := G.ob) (M := 3000) (loose := (G.loose0 ++ G.loose1)) (d := HandSHeadRun.topDef G.R.prog 42) (kwd := []) G.ob_eq
    (by kernel_rfl) (fun s => by kernel_rfl) G.run (by kernel_rfl) (by kernel_rfl) (by kernel_rfl) (by rfl) (by first | assumption | decide +kernel) (by decide +kernel) ⟨rfl, rfl, rfl, rfl, rfl, by decide +kernel⟩ ?hw ?hc
  case hw => w_witness2
  case hc =>
    refine P.walk_ofG (l := PySem.Challenge.rw_thrownslips_k35_throw_tables) (n := 63) (k := 9) (x := "script") rfl (by decide) (by kernel_rfl) ⟨rfl, by decide, by decide⟩ ?F
    intro w mg fa h Y G0 hmg0
    obtain ⟨K, KX, c⟩ := Y
    have hmg : mg ("law" : PySem.Str) = some (.ref fa) := by
      have e : (HandSHeadRun.topDef G.R.prog 42).name = ("law" : PySem.Str) := by kernel_rfl
      rw [← e]
      exact hmg0
    obtain ⟨fd, hb, hF⟩ := G.facts (P := PySem.Challenge.rw_thrownslips_k35_throw_tables.prog) (w := w) KX G0 hmg c
    exact ⟨K, fd, G.spLaw K, KX, hb, fun H a ns hl _ hS => ⟨a, ns, rfl, hS, by omega, fun _ => rfl⟩, hF⟩
