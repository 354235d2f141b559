import PyProof.Rows.All
import Wide.All
import OpenK.AllK
import Wide.FinOn
import HandS.ForMost
import HandS.ForExc
import HandS.ExcOwn
import HandS.Walk
import HandS.Comp
import HandS.WordsExc
import HandS.TupAny
import HandS.IsInst
import HandS.Text
import HandS.WordsDict
import HandS.Deep
import KE.KExcSuper
import HandS.ExcInit
import HandS.ExcField
import HandS.TryMany
import HandS.Ends
import HandS.EndOwn
import PySem.Challenge.RW_formatory_k62_scripts_mended
set_option Elab.async false
set_option linter.all false
set_option maxRecDepth 100000
set_option maxHeartbeats 4000000
/-! P1: pure values PV, how they lie in the abstract heap (with their mutable footprint), environments, frames. -/
namespace PVL
open PySem PySem.Spec L2

inductive PV where
  | non | bl (b : Bool) | int (i : Int) | str (x : Str)
  | tup (xs : List PV)
  | frz (xs : List PV)
  | lst (xs : List PV)
  | dct (kvs : List (PV × PV))
  | obj (C : Addr) (fs : List (Str × PV))
  | ty (n : String)
  deriving Inhabited

def kPV : Key → PV
  | .inl i => .int i
  | .inr x => .str x

mutual
def PV.imm : PV → Bool
  | .non => true
  | .bl _ => true
  | .int _ => true
  | .str _ => true
  | .tup xs => immL xs
  | .frz _ => true
  | .lst _ => false
  | .dct _ => false
  | .obj _ _ => false
  | .ty _ => true
def immL : List PV → Bool
  | [] => true
  | x :: xs => x.imm && immL xs
end

/-- a list that is only read: frozen (the script), or written in the module -/
def SqF (K : PySem.W.Frag) (H : Hp) (a : Addr) (xs : List V) : Prop :=
  (∃ o, H a = some (.frz o (.lst xs))) ∨
    ∃ (o : Obj) (its : Array Value) (n : Nat), K.lookup a = some o ∧ o.cls = .type "list" ∧ o.dict = none ∧ o.data = .seq its n ∧ its.size ≤ sizeLine ∧ Vals xs its.toList
theorem SqF.toL {K : PySem.W.Frag} {H : Hp} {a : Addr} {xs : List V} (h : SqF K H a xs) : SqL K H a xs := by
  rcases h with ⟨o, h⟩ | h
  · exact .inl (.inr ⟨o, h⟩)
  · exact .inr h

mutual
def RV (K : PySem.W.Frag) (H : Hp) : PV → V → List Addr → Prop
  | .non, v, F => v = .non ∧ F = []
  | .bl b, v, F => v = .bl b ∧ F = []
  | .int i, v, F => v = .int i ∧ F = []
  | .str x, v, F => v = .str x ∧ F = []
  | .tup xs, v, F => ∃ a vs, v = .ref a ∧ SqT K H a vs ∧ RVL K H xs vs F
  | .frz xs, v, F => ∃ a vs, v = .ref a ∧ SqF K H a vs ∧ RVL K H xs vs [] ∧ F = []
  | .lst xs, v, F => ∃ a vs F', v = .ref a ∧ H a = some (.lst vs) ∧ RVL K H xs vs F' ∧ F = a :: F'
  | .dct kvs, v, F => ∃ a ws F', v = .ref a ∧ ((∃ vs, H a = some (.dK vs) ∧ ws = vs.map fun p => (kPV p.1, p.2)) ∨ (∃ vs, H a = some (.dT vs) ∧ ws = vs.map fun p => (PV.tup (p.1.map kPV), p.2))) ∧ RVD K H kvs ws F' ∧ F = a :: F'
  | .obj C fs, v, F => ∃ a dx vs F', v = .ref a ∧ H a = some (.ins C dx vs) ∧ H dx = some (.own a) ∧ RVF K H fs vs F' ∧ F = a :: dx :: F'
  | .ty n, v, F => v = .ty n ∧ F = []
def RVL (K : PySem.W.Frag) (H : Hp) : List PV → List V → List Addr → Prop
  | [], vs, F => vs = [] ∧ F = []
  | x :: xs, vs, F => ∃ v vr F1 F2, vs = v :: vr ∧ RV K H x v F1 ∧ RVL K H xs vr F2 ∧ F = F1 ++ F2
def RVD (K : PySem.W.Frag) (H : Hp) : List (PV × PV) → List (PV × V) → List Addr → Prop
  | [], vs, F => vs = [] ∧ F = []
  | (k, x) :: xs, vs, F => ∃ v vr F1 F2, vs = (k, v) :: vr ∧ RV K H x v F1 ∧ RVD K H xs vr F2 ∧ F = F1 ++ F2
def RVF (K : PySem.W.Frag) (H : Hp) : List (Str × PV) → List (Str × V) → List Addr → Prop
  | [], vs, F => vs = [] ∧ F = []
  | (k, x) :: xs, vs, F => ∃ v vr F1 F2, vs = (k, v) :: vr ∧ RV K H x v F1 ∧ RVF K H xs vr F2 ∧ F = F1 ++ F2
end

/-- what is mutable: it may stand in a footprint -/
def mutO : HO → Bool
  | .lst _ => true
  | .dK _ => true
  | .dT _ => true
  | .ins _ _ _ => true
  | .own _ => true
  | _ => false
def Mt (H : Hp) (F : List Addr) : Prop := ∀ b ∈ F, ∃ o, H b = some o ∧ mutO o = true
/-- all that stood stands, but what stands in F -/
def Kp (F : List Addr) (H H' : Hp) : Prop := ∀ b o, b ∉ F → H b = some o → H' b = some o
/-- from the footprint F of H to the footprint F' of H' -/
structure Fm (F : List Addr) (H : Hp) (F' : List Addr) (H' : Hp) : Prop where
  kp : Kp F H H'
  fr : ∀ b ∈ F', b ∈ F ∨ H b = none
abbrev Sm (H H' : Hp) : Prop := ∀ b o, H b = some o → H' b = some o
/-- fresh -/
def Fr (H : Hp) (F : List Addr) : Prop := ∀ b ∈ F, H b = none

section
variable {K : PySem.W.Frag} {H H' H'' : Hp} {F F' F'' : List Addr}
theorem Kp.refl : Kp F H H := fun _ _ _ e => e
theorem Sm.kp (s : Sm H H') : Kp F H H' := fun b o _ e => s b o e
theorem Kp.sm (k : Kp [] H H') : Sm H H' := fun b o e => k b o (by simp) e
theorem Kp.mono (k : Kp F H H') (h : ∀ b ∈ F, b ∈ F') : Kp F' H H' := fun b o n e => k b o (fun z => n (h b z)) e
theorem Fm.trans (a : Fm F H F' H') (b : Fm F' H' F'' H'') : Fm F H F'' H'' where
  kp := fun x o n e => b.kp x o (fun z => by
    rcases a.fr x z with y | y
    · exact n y
    · rw [e] at y; cases y) (a.kp x o n e)
  fr := fun x z => by
    rcases b.fr x z with y | y
    · exact a.fr x y
    · by_cases hx : x ∈ F
      · exact .inl hx
      · right
        cases q : H x with
        | none => rfl
        | some o => rw [a.kp x o hx q] at y; cases y
theorem Fm.refl : Fm F H F H := ⟨Kp.refl, fun _ z => .inl z⟩
theorem Fm.of_sm (s : Sm H H') (h : ∀ b ∈ F', b ∈ F ∨ H b = none) : Fm F H F' H' := ⟨Sm.kp s, h⟩
theorem Fm.sub (a : Fm F H F' H') (h : ∀ b ∈ F'', b ∈ F') : Fm F H F'' H' := ⟨a.kp, fun b z => a.fr b (h b z)⟩
theorem Fm.widen {G : List Addr} (a : Fm F H F' H') (h : ∀ b ∈ F, b ∈ G) : Fm G H F' H' := ⟨a.kp.mono h, fun b z => (a.fr b z).imp (h b) id⟩
theorem sm_upd {p : Addr} {o : HO} (h : H p = none) : Sm H (upd H p o) := fun b x e => by
  rw [upd_ne (ne_of_none e h)]; exact e
theorem Sm.trans (a : Sm H H') (b : Sm H' H'') : Sm H H'' := fun x o e => b x o (a x o e)

theorem SqT.kp {a : Addr} {xs : List V} (h : SqT K H a xs) (k : ∀ b o, H b = some o → mutO o = false → H' b = some o) : SqT K H' a xs := by
  rcases h with h | h
  · rcases h with h | ⟨o, h⟩
    · exact .inl (.inl (k _ _ h rfl))
    · exact .inl (.inr ⟨o, k _ _ h rfl⟩)
  · exact .inr h
theorem SqF.kp {a : Addr} {xs : List V} (h : SqF K H a xs) (k : ∀ b o, H b = some o → mutO o = false → H' b = some o) : SqF K H' a xs := by
  rcases h with ⟨o, h⟩ | h
  · exact .inl ⟨o, k _ _ h rfl⟩
  · exact .inr h
end

section
variable {K : PySem.W.Frag} {H H' : Hp}
mutual
theorem RV.imm : ∀ {x : PV} {v : V} {F : List Addr}, x.imm = true → RV K H x v F → F = []
  | .non, _, _, _, h => by simp only [RV] at h; exact h.2
  | .bl _, _, _, _, h => by simp only [RV] at h; exact h.2
  | .int _, _, _, _, h => by simp only [RV] at h; exact h.2
  | .str _, _, _, _, h => by simp only [RV] at h; exact h.2
  | .tup xs, _, _, i, h => by
    simp only [RV] at h
    obtain ⟨_, _, _, _, h⟩ := h
    exact RVL.imm (by simpa only [PV.imm] using i) h
  | .frz _, _, _, _, h => by simp only [RV] at h; obtain ⟨_, _, _, _, _, h⟩ := h; exact h
  | .lst _, _, _, i, _ => by simp [PV.imm] at i
  | .dct _, _, _, i, _ => by simp [PV.imm] at i
  | .obj _ _, _, _, i, _ => by simp [PV.imm] at i
  | .ty _, _, _, _, h => by simp only [RV] at h; exact h.2
theorem RVL.imm : ∀ {xs : List PV} {vs : List V} {F : List Addr}, immL xs = true → RVL K H xs vs F → F = []
  | [], _, _, _, h => by simp only [RVL] at h; exact h.2
  | x :: xs, _, _, i, h => by
    simp only [RVL] at h
    obtain ⟨_, _, F1, F2, _, h1, h2, e⟩ := h
    simp only [immL, Bool.and_eq_true] at i
    rw [e, RV.imm i.1 h1, RVL.imm i.2 h2]; rfl
end

mutual
theorem RV.mt : ∀ {x : PV} {v : V} {F : List Addr}, RV K H x v F → Mt H F
  | .non, _, _, h => by simp only [RV] at h; rw [h.2]; intro b z; simp at z
  | .bl _, _, _, h => by simp only [RV] at h; rw [h.2]; intro b z; simp at z
  | .int _, _, _, h => by simp only [RV] at h; rw [h.2]; intro b z; simp at z
  | .str _, _, _, h => by simp only [RV] at h; rw [h.2]; intro b z; simp at z
  | .tup xs, _, _, h => by simp only [RV] at h; obtain ⟨_, _, _, _, h⟩ := h; exact RVL.mt h
  | .frz _, _, _, h => by simp only [RV] at h; obtain ⟨_, _, _, _, _, h⟩ := h; rw [h]; intro b z; simp at z
  | .lst xs, _, _, h => by
    simp only [RV] at h
    obtain ⟨a, vs, F', _, e, h, eF⟩ := h
    subst eF
    intro b z
    rcases List.mem_cons.mp z with z | z
    · subst z; exact ⟨_, e, rfl⟩
    · exact RVL.mt h b z
  | .dct kvs, _, _, h => by
    simp only [RV] at h
    obtain ⟨a, ws, F', _, e, h, eF⟩ := h
    subst eF
    intro b z
    rcases List.mem_cons.mp z with z | z
    · subst z
      rcases e with ⟨_, e, _⟩ | ⟨_, e, _⟩ <;> exact ⟨_, e, rfl⟩
    · exact RVD.mt h b z
  | .obj C fs, _, _, h => by
    simp only [RV] at h
    obtain ⟨a, dx, vs, F', _, e, e2, h, eF⟩ := h
    subst eF
    intro b z
    rcases List.mem_cons.mp z with z | z
    · subst z; exact ⟨_, e, rfl⟩
    rcases List.mem_cons.mp z with z | z
    · subst z; exact ⟨_, e2, rfl⟩
    · exact RVF.mt h b z
  | .ty _, _, _, h => by simp only [RV] at h; rw [h.2]; intro b z; simp at z
theorem RVL.mt : ∀ {xs : List PV} {vs : List V} {F : List Addr}, RVL K H xs vs F → Mt H F
  | [], _, _, h => by simp only [RVL] at h; rw [h.2]; intro b z; simp at z
  | x :: xs, _, _, h => by
    simp only [RVL] at h
    obtain ⟨_, _, F1, F2, _, h1, h2, e⟩ := h
    subst e
    intro b z
    rcases List.mem_append.mp z with z | z
    · exact RV.mt h1 b z
    · exact RVL.mt h2 b z
theorem RVD.mt : ∀ {xs : List (PV × PV)} {vs : List (PV × V)} {F : List Addr}, RVD K H xs vs F → Mt H F
  | [], _, _, h => by simp only [RVD] at h; rw [h.2]; intro b z; simp at z
  | (k, x) :: xs, _, _, h => by
    simp only [RVD] at h
    obtain ⟨_, _, F1, F2, _, h1, h2, e⟩ := h
    subst e
    intro b z
    rcases List.mem_append.mp z with z | z
    · exact RV.mt h1 b z
    · exact RVD.mt h2 b z
theorem RVF.mt : ∀ {xs : List (Str × PV)} {vs : List (Str × V)} {F : List Addr}, RVF K H xs vs F → Mt H F
  | [], _, _, h => by simp only [RVF] at h; rw [h.2]; intro b z; simp at z
  | (k, x) :: xs, _, _, h => by
    simp only [RVF] at h
    obtain ⟨_, _, F1, F2, _, h1, h2, e⟩ := h
    subst e
    intro b z
    rcases List.mem_append.mp z with z | z
    · exact RV.mt h1 b z
    · exact RVF.mt h2 b z
end

mutual
theorem RV.keep : ∀ {x : PV} {v : V} {F : List Addr}, RV K H x v F → (∀ b o, H b = some o → (b ∈ F ∨ mutO o = false) → H' b = some o) → RV K H' x v F
  | .non, _, _, h, _ => by simp only [RV] at h ⊢; exact h
  | .bl _, _, _, h, _ => by simp only [RV] at h ⊢; exact h
  | .int _, _, _, h, _ => by simp only [RV] at h ⊢; exact h
  | .str _, _, _, h, _ => by simp only [RV] at h ⊢; exact h
  | .tup xs, _, _, h, k => by
    simp only [RV] at h ⊢
    obtain ⟨a, vs, e, q, h⟩ := h
    exact ⟨a, vs, e, SqT.kp q fun b o e m => k b o e (.inr m), RVL.keep h k⟩
  | .frz xs, _, _, h, k => by
    simp only [RV] at h ⊢
    obtain ⟨a, vs, e, q, h, eF⟩ := h
    exact ⟨a, vs, e, SqF.kp q fun b o e m => k b o e (.inr m), RVL.keep h fun b o e m => k b o e (.inr (by
      rcases m with m | m
      · simp at m
      · exact m)), eF⟩
  | .lst xs, _, _, h, k => by
    simp only [RV] at h ⊢
    obtain ⟨a, vs, F', e, q, h, eF⟩ := h
    subst eF
    exact ⟨a, vs, F', e, k _ _ q (.inl List.mem_cons_self), RVL.keep h fun b o e m => k b o e (m.imp (fun z => List.mem_cons_of_mem _ z) id), rfl⟩
  | .dct kvs, _, _, h, k => by
    simp only [RV] at h ⊢
    obtain ⟨a, ws, F', e, q, h, eF⟩ := h
    subst eF
    refine ⟨a, ws, F', e, ?_, RVD.keep h fun b o e m => k b o e (m.imp (fun z => List.mem_cons_of_mem _ z) id), rfl⟩
    rcases q with ⟨vs, q, e2⟩ | ⟨vs, q, e2⟩
    · exact .inl ⟨vs, k _ _ q (.inl List.mem_cons_self), e2⟩
    · exact .inr ⟨vs, k _ _ q (.inl List.mem_cons_self), e2⟩
  | .obj C fs, _, _, h, k => by
    simp only [RV] at h ⊢
    obtain ⟨a, dx, vs, F', e, q, q2, h, eF⟩ := h
    subst eF
    exact ⟨a, dx, vs, F', e, k _ _ q (.inl List.mem_cons_self), k _ _ q2 (.inl (List.mem_cons_of_mem _ List.mem_cons_self)), RVF.keep h fun b o e m => k b o e (m.imp (fun z => List.mem_cons_of_mem _ (List.mem_cons_of_mem _ z)) id), rfl⟩
  | .ty _, _, _, h, _ => by simp only [RV] at h ⊢; exact h
theorem RVL.keep : ∀ {xs : List PV} {vs : List V} {F : List Addr}, RVL K H xs vs F → (∀ b o, H b = some o → (b ∈ F ∨ mutO o = false) → H' b = some o) → RVL K H' xs vs F
  | [], _, _, h, _ => by simp only [RVL] at h ⊢; exact h
  | x :: xs, _, _, h, k => by
    simp only [RVL] at h ⊢
    obtain ⟨v, vr, F1, F2, e, h1, h2, eF⟩ := h
    subst eF
    exact ⟨v, vr, F1, F2, e, RV.keep h1 fun b o e m => k b o e (m.imp (fun z => List.mem_append_left _ z) id), RVL.keep h2 fun b o e m => k b o e (m.imp (fun z => List.mem_append_right _ z) id), rfl⟩
theorem RVD.keep : ∀ {xs : List (PV × PV)} {vs : List (PV × V)} {F : List Addr}, RVD K H xs vs F → (∀ b o, H b = some o → (b ∈ F ∨ mutO o = false) → H' b = some o) → RVD K H' xs vs F
  | [], _, _, h, _ => by simp only [RVD] at h ⊢; exact h
  | (_, x) :: xs, _, _, h, k => by
    simp only [RVD] at h ⊢
    obtain ⟨v, vr, F1, F2, e, h1, h2, eF⟩ := h
    subst eF
    exact ⟨v, vr, F1, F2, e, RV.keep h1 fun b o e m => k b o e (m.imp (fun z => List.mem_append_left _ z) id), RVD.keep h2 fun b o e m => k b o e (m.imp (fun z => List.mem_append_right _ z) id), rfl⟩
theorem RVF.keep : ∀ {xs : List (Str × PV)} {vs : List (Str × V)} {F : List Addr}, RVF K H xs vs F → (∀ b o, H b = some o → (b ∈ F ∨ mutO o = false) → H' b = some o) → RVF K H' xs vs F
  | [], _, _, h, _ => by simp only [RVF] at h ⊢; exact h
  | (_, x) :: xs, _, _, h, k => by
    simp only [RVF] at h ⊢
    obtain ⟨v, vr, F1, F2, e, h1, h2, eF⟩ := h
    subst eF
    exact ⟨v, vr, F1, F2, e, RV.keep h1 fun b o e m => k b o e (m.imp (fun z => List.mem_append_left _ z) id), RVF.keep h2 fun b o e m => k b o e (m.imp (fun z => List.mem_append_right _ z) id), rfl⟩
end
theorem RV.sm {x : PV} {v : V} {F : List Addr} (h : RV K H x v F) (s : Sm H H') : RV K H' x v F := h.keep fun b o e _ => s b o e
theorem RVL.sm {x : List PV} {v : List V} {F : List Addr} (h : RVL K H x v F) (s : Sm H H') : RVL K H' x v F := h.keep fun b o e _ => s b o e
/-- untouched by what happens in G -/
theorem keep_of {F G : List Addr} (k : Kp G H H') (m : Mt H G) (d : ∀ b ∈ F, b ∉ G) : ∀ b o, H b = some o → (b ∈ F ∨ mutO o = false) → H' b = some o := fun b o e q => k b o (fun z => by
  rcases q with q | q
  · exact d b q z
  · obtain ⟨o', e', m'⟩ := m b z
    rw [e] at e'; cases e'
    rw [q] at m'; cases m') e

theorem RVL.append : ∀ {xs ys : List PV} {vs ws : List V} {F G : List Addr}, RVL K H xs vs F → RVL K H ys ws G → RVL K H (xs ++ ys) (vs ++ ws) (F ++ G)
  | [], ys, vs, ws, F, G, h, g => by simp only [RVL] at h; rw [h.1, h.2]; exact g
  | x :: xs, ys, vs, ws, F, G, h, g => by
    simp only [RVL] at h
    obtain ⟨v, vr, F1, F2, e, h1, h2, eF⟩ := h
    subst eF; subst e
    rw [List.cons_append]
    simp only [RVL]
    exact ⟨v, vr ++ ws, F1, F2 ++ G, rfl, h1, RVL.append h2 g, by rw [List.append_assoc]⟩
theorem RVL.length : ∀ {xs : List PV} {vs : List V} {F : List Addr}, RVL K H xs vs F → vs.length = xs.length
  | [], vs, _, h => by simp only [RVL] at h; rw [h.1]; rfl
  | x :: xs, vs, _, h => by
    simp only [RVL] at h
    obtain ⟨v, vr, F1, F2, e, h1, h2, eF⟩ := h
    subst e
    simp [RVL.length h2]
theorem RVL.one {x : PV} {v : V} {F : List Addr} (h : RV K H x v F) : RVL K H [x] [v] F := by
  simp only [RVL]
  exact ⟨v, [], F, [], rfl, h, ⟨rfl, rfl⟩, by simp⟩
theorem RVL.cons {x : PV} {v : V} {xs : List PV} {vs : List V} {F G : List Addr} (h : RV K H x v F) (g : RVL K H xs vs G) : RVL K H (x :: xs) (v :: vs) (F ++ G) := by
  simp only [RVL]
  exact ⟨v, vs, F, G, rfl, h, g, rfl⟩
theorem RVL.get : ∀ {xs : List PV} {vs : List V} {F : List Addr} {i : Nat} {x : PV}, RVL K H xs vs F → xs[i]? = some x → ∃ v F1, vs[i]? = some v ∧ RV K H x v F1 ∧ ∀ b ∈ F1, b ∈ F
  | [], _, _, i, x, h, e => by simp at e
  | y :: xs, vs, F, 0, x, h, e => by
    simp only [RVL] at h
    obtain ⟨v, vr, F1, F2, e2, h1, h2, eF⟩ := h
    subst e2; subst eF
    simp at e; subst e
    exact ⟨v, F1, rfl, h1, fun b z => List.mem_append_left _ z⟩
  | y :: xs, vs, F, i + 1, x, h, e => by
    simp only [RVL] at h
    obtain ⟨v, vr, F1, F2, e2, h1, h2, eF⟩ := h
    subst e2; subst eF
    obtain ⟨v', F', a, b, c⟩ := RVL.get h2 (by simpa using e)
    exact ⟨v', F', by simpa using a, b, fun q z => List.mem_append_right _ (c q z)⟩
end

/-! ### environments -/
abbrev PEnv := List (Option PV)
def RE (K : PySem.W.Frag) (H : Hp) : PEnv → St → List Addr → Prop
  | [], σ, F => σ = [] ∧ F = []
  | none :: e, σ, F => ∃ y r, σ = y :: r ∧ RE K H e r F
  | some x :: e, σ, F => ∃ v r F1 F2, σ = some v :: r ∧ RV K H x v F1 ∧ RE K H e r F2 ∧ F = F1 ++ F2

section
variable {K : PySem.W.Frag} {H H' : Hp}
theorem RE.len : ∀ {env : PEnv} {σ : St} {F : List Addr}, RE K H env σ F → σ.length = env.length
  | [], _, _, h => by simp only [RE] at h; rw [h.1]; rfl
  | none :: e, _, _, h => by simp only [RE] at h; obtain ⟨y, r, rfl, h⟩ := h; simp [RE.len h]
  | some x :: e, _, _, h => by simp only [RE] at h; obtain ⟨v, r, F1, F2, rfl, _, h, _⟩ := h; simp [RE.len h]
theorem RE.mt : ∀ {env : PEnv} {σ : St} {F : List Addr}, RE K H env σ F → Mt H F
  | [], _, _, h => by simp only [RE] at h; rw [h.2]; intro b z; simp at z
  | none :: e, _, _, h => by simp only [RE] at h; obtain ⟨y, r, _, h⟩ := h; exact RE.mt h
  | some x :: e, _, _, h => by
    simp only [RE] at h
    obtain ⟨v, r, F1, F2, _, h1, h2, eF⟩ := h
    subst eF
    intro b z
    rcases List.mem_append.mp z with z | z
    · exact h1.mt b z
    · exact RE.mt h2 b z
theorem RE.keep : ∀ {env : PEnv} {σ : St} {F : List Addr}, RE K H env σ F → (∀ b o, H b = some o → (b ∈ F ∨ mutO o = false) → H' b = some o) → RE K H' env σ F
  | [], _, _, h, _ => by simp only [RE] at h ⊢; exact h
  | none :: e, _, _, h, k => by simp only [RE] at h ⊢; obtain ⟨y, r, e1, h⟩ := h; exact ⟨y, r, e1, RE.keep h k⟩
  | some x :: e, _, _, h, k => by
    simp only [RE] at h ⊢
    obtain ⟨v, r, F1, F2, e1, h1, h2, eF⟩ := h
    subst eF
    exact ⟨v, r, F1, F2, e1, h1.keep fun b o e m => k b o e (m.imp (fun z => List.mem_append_left _ z) id), RE.keep h2 fun b o e m => k b o e (m.imp (fun z => List.mem_append_right _ z) id), rfl⟩
theorem RE.sm {env : PEnv} {σ : St} {F : List Addr} (h : RE K H env σ F) (s : Sm H H') : RE K H' env σ F := h.keep fun b o e _ => s b o e
/-- a slot's value, read -/
theorem RE.get : ∀ {env : PEnv} {σ : St} {F : List Addr} {i : Nat} {x : PV}, RE K H env σ F → env[i]? = some (some x) → ∃ v F1, σ[i]? = some (some v) ∧ RV K H x v F1
  | [], _, _, i, x, h, e => by simp at e
  | none :: r, σ, F, 0, x, h, e => by simp at e
  | none :: r, σ, F, i + 1, x, h, e => by
    simp only [RE] at h
    obtain ⟨y, s, rfl, h⟩ := h
    obtain ⟨v, F1, a, b⟩ := RE.get h (by simpa using e)
    exact ⟨v, F1, by simpa using a, b⟩
  | some y :: r, σ, F, 0, x, h, e => by
    simp only [RE] at h
    obtain ⟨v, s, F1, F2, rfl, h1, _, _⟩ := h
    simp at e; subst e
    exact ⟨v, F1, rfl, h1⟩
  | some y :: r, σ, F, i + 1, x, h, e => by
    simp only [RE] at h
    obtain ⟨v, s, F1, F2, rfl, _, h2, _⟩ := h
    obtain ⟨v, F1, a, b⟩ := RE.get h2 (by simpa using e)
    exact ⟨v, F1, by simpa using a, b⟩
/-- a slot's value, taken out -/
theorem RE.take : ∀ {env : PEnv} {σ : St} {F : List Addr} {i : Nat} {x : PV}, RE K H env σ F → env[i]? = some (some x) → ∃ v F1 F2, σ[i]? = some (some v) ∧ RV K H x v F1 ∧ RE K H (env.set i none) σ F2 ∧ F.Perm (F1 ++ F2)
  | [], _, _, i, x, h, e => by simp at e
  | none :: r, σ, F, 0, x, h, e => by simp at e
  | none :: r, σ, F, i + 1, x, h, e => by
    simp only [RE] at h
    obtain ⟨y, s, rfl, h⟩ := h
    obtain ⟨v, F1, F2, a, b, c, d⟩ := RE.take h (by simpa using e)
    exact ⟨v, F1, F2, by simpa using a, b, by simp only [List.set_cons_succ, RE]; exact ⟨y, s, rfl, c⟩, d⟩
  | some y :: r, σ, F, 0, x, h, e => by
    simp only [RE] at h
    obtain ⟨v, s, F1, F2, rfl, h1, h2, eF⟩ := h
    simp at e; subst e
    exact ⟨v, F1, F2, rfl, h1, by simp only [List.set_cons_zero, RE]; exact ⟨_, s, rfl, h2⟩, by rw [eF]⟩
  | some y :: r, σ, F, i + 1, x, h, e => by
    simp only [RE] at h
    obtain ⟨v0, s, G1, G2, rfl, g1, h2, eF⟩ := h
    obtain ⟨v, F1, F2, a, b, c, d⟩ := RE.take h2 (by simpa using e)
    refine ⟨v, F1, G1 ++ F2, by simpa using a, b, ?_, ?_⟩
    · simp only [List.set_cons_succ, RE]; exact ⟨v0, s, G1, F2, rfl, g1, c, rfl⟩
    · rw [eF]
      refine (List.Perm.append_left G1 d).trans ?_
      rw [← List.append_assoc, ← List.append_assoc]
      exact List.Perm.append_right F2 List.perm_append_comm
/-- .. put (back) into an empty slot: the slot of σ holds v -/
theorem RE.put : ∀ {env : PEnv} {σ : St} {F G : List Addr} {i : Nat} {x : PV} {v : V}, RE K H (env.set i none) σ F → i < env.length → σ[i]? = some (some v) → RV K H x v G → ∃ F', RE K H (env.set i (some x)) σ F' ∧ F'.Perm (G ++ F)
  | [], _, _, _, i, x, v, h, l, _, _ => by simp at l
  | y :: r, σ, F, G, 0, x, v, h, l, e, g => by
    simp only [List.set_cons_zero, RE] at h
    obtain ⟨z, s, rfl, h⟩ := h
    simp at e; subst e
    exact ⟨G ++ F, by simp only [List.set_cons_zero, RE]; exact ⟨v, s, G, F, rfl, g, h, rfl⟩, .refl _⟩
  | none :: r, σ, F, G, i + 1, x, v, h, l, e, g => by
    simp only [List.set_cons_succ, RE] at h
    obtain ⟨z, s, rfl, h⟩ := h
    obtain ⟨F', a, b⟩ := RE.put h (by simpa using l) (by simpa using e) g
    exact ⟨F', by simp only [List.set_cons_succ, RE]; exact ⟨z, s, rfl, a⟩, b⟩
  | some y :: r, σ, F, G, i + 1, x, v, h, l, e, g => by
    simp only [List.set_cons_succ, RE] at h
    obtain ⟨z, s, F1, F2, rfl, h1, h2, eF⟩ := h
    obtain ⟨F', a, b⟩ := RE.put h2 (by simpa using l) (by simpa using e) g
    refine ⟨F1 ++ F', by simp only [List.set_cons_succ, RE]; exact ⟨z, s, F1, F', rfl, h1, a, rfl⟩, ?_⟩
    rw [eF]
    refine (List.Perm.append_left F1 b).trans ?_
    rw [← List.append_assoc, ← List.append_assoc]
    exact List.Perm.append_right F2 List.perm_append_comm
/-- a slot is forgotten, whatever it held -/
theorem RE.forget : ∀ {env : PEnv} {σ : St} {F : List Addr} {i : Nat}, RE K H env σ F → ∃ F', RE K H (env.set i none) σ F' ∧ F'.Sublist F
  | [], _, F, i, h => ⟨F, by simpa using h, .refl _⟩
  | none :: r, σ, F, 0, h => ⟨F, by simpa using h, .refl _⟩
  | some y :: r, σ, F, 0, h => by
    simp only [RE] at h
    obtain ⟨v, s, F1, F2, rfl, h1, h2, eF⟩ := h
    exact ⟨F2, by simp only [List.set_cons_zero, RE]; exact ⟨_, s, rfl, h2⟩, by rw [eF]; exact List.sublist_append_right _ _⟩
  | none :: r, σ, F, i + 1, h => by
    simp only [RE] at h
    obtain ⟨y, s, rfl, h⟩ := h
    obtain ⟨F', a, b⟩ := RE.forget (i := i) h
    exact ⟨F', by simp only [List.set_cons_succ, RE]; exact ⟨y, s, rfl, a⟩, b⟩
  | some y :: r, σ, F, i + 1, h => by
    simp only [RE] at h
    obtain ⟨v, s, F1, F2, rfl, h1, h2, eF⟩ := h
    obtain ⟨F', a, b⟩ := RE.forget (i := i) h2
    exact ⟨F1 ++ F', by simp only [List.set_cons_succ, RE]; exact ⟨v, s, F1, F', rfl, h1, a, rfl⟩, by rw [eF]; exact List.Sublist.append (List.Sublist.refl F1) b⟩
/-- .. an empty slot of env: σ's value there is free -/
theorem RE.anySlot : ∀ {env : PEnv} {σ : St} {F : List Addr} {i : Nat} {y : Option V}, RE K H (env.set i none) σ F → RE K H (env.set i none) (σ.set i y) F
  | [], σ, F, i, y, h => by simp only [List.set_nil, RE] at h ⊢; simp [h.1, h.2]
  | x :: r, σ, F, 0, y, h => by
    simp only [List.set_cons_zero, RE] at h ⊢
    obtain ⟨z, s, rfl, h⟩ := h
    exact ⟨y, s, rfl, h⟩
  | none :: r, σ, F, i + 1, y, h => by
    simp only [List.set_cons_succ, RE] at h ⊢
    obtain ⟨z, s, rfl, h⟩ := h
    exact ⟨z, s.set i y, rfl, RE.anySlot h⟩
  | some x :: r, σ, F, i + 1, y, h => by
    simp only [List.set_cons_succ, RE] at h ⊢
    obtain ⟨z, s, F1, F2, rfl, h1, h2, eF⟩ := h
    exact ⟨z, s.set i y, F1, F2, rfl, h1, RE.anySlot h2, eF⟩
/-- a value is stored in a slot -/
theorem RE.store {env : PEnv} {σ : St} {F G : List Addr} {i : Nat} {x : PV} {v : V} (h : RE K H env σ F) (l : i < env.length) (g : RV K H x v G) : ∃ F', RE K H (env.set i (some x)) (σ.set i (some v)) F' ∧ ∃ F1, F1.Sublist F ∧ F'.Perm (G ++ F1) := by
  obtain ⟨F1, a, b⟩ := RE.forget (i := i) h
  have a2 := RE.anySlot (y := some v) a
  obtain ⟨F', c, d⟩ := RE.put a2 l (by rw [List.getElem?_set_self (by rw [h.len]; exact l)]) g
  exact ⟨F', c, F1, b, d⟩
end
theorem nodup_of_perm {l m : List Addr} (h : l.Perm m) (n : m.Nodup) : l.Nodup := h.nodup_iff.mpr n
end PVL

/-! P2: outcomes, judgements for expressions, arguments, tests; composition. -/
namespace PVL
open PySem PySem.Spec L2

/-- an exception, purely: the name of its class, its fields -/
structure PX where
  cls : Str
  fs : List (Str × PV)
/-- an outcome beside an environment -/
inductive EO (α : Type) where
  | ok (a : α) (env : PEnv)
  | exc (x : PX) (env : PEnv)
  | bad
abbrev EM := PEnv → EO PV
abbrev BM := PEnv → EO Bool
abbrev RM := PEnv → Option PV
inductive Arg where
  | own (x : PV)
  | ref (i : Nat)
abbrev GM := PEnv → EO Arg
abbrev AM := PEnv → EO (List Arg)
def EO.bind {α β : Type} (x : EO α) (f : α → PEnv → EO β) : EO β := match x with
  | .ok a e => f a e
  | .exc x e => .exc x e
  | .bad => .bad
@[simp] theorem EO.bind_ok {α β : Type} (a : α) (e : PEnv) (f : α → PEnv → EO β) : (EO.ok a e).bind f = f a e := rfl
@[simp] theorem EO.bind_exc {α β : Type} (x : PX) (e : PEnv) (f : α → PEnv → EO β) : (EO.exc x e : EO α).bind f = .exc x e := rfl
@[simp] theorem EO.bind_bad {α β : Type} (f : α → PEnv → EO β) : (EO.bad : EO α).bind f = .bad := rfl

/-- how an exception lies: its class by the module's name, its fields in its own dict -/
def RX (K : PySem.W.Frag) (mg : Str → Option Value) (x : PX) (cls : Value) (d : Option Addr) (H : Hp) : Prop :=
  mg x.cls = some cls ∧ (x.fs = [] ∨ ∃ dd vs, d = some dd ∧ H dd = some (.xd vs) ∧ RVF K H x.fs vs [])

section
variable (K : PySem.W.Frag) (mg : Str → Option Value) (W : WX)
def PostE {α : Type} (σ : L2.St) (H : Hp) (F : List Addr) (R : α → PEnv → Prop) : EO α → Prop
  | .ok a env' => R a env'
  | .exc x env' => ∀ cls d H' F', RE K H' env' σ F' → F'.Nodup → Fm F H F' H' → RX K mg x cls d H' → W cls d σ H'
  | .bad => False
/-- an expression by an effectful pure function: what comes is owned -/
def ImE (t : TE) (m : EM) : Prop := ∀ σ H Q env F, RE K H env σ F → F.Nodup →
  PostE K mg W σ H F (fun pv env' => ∀ v H' Fv F', RE K H' env' σ F' → RV K H' pv v Fv → (Fv ++ F').Nodup → Fm F H (Fv ++ F') H' → Q v H') (m env) → t σ H Q
/-- an argument's value -/
def RG (H : Hp) (σ : L2.St) : Arg → V → List Addr → Prop
  | .own x, v, F => RV K H x v F
  | .ref i, v, F => σ[i]? = some (some v) ∧ F = []
def RGs (H : Hp) (σ : L2.St) : List Arg → List V → List Addr → Prop
  | [], vs, F => vs = [] ∧ F = []
  | a :: r, vs, F => ∃ v vr F1 F2, vs = v :: vr ∧ RG K H σ a v F1 ∧ RGs H σ r vr F2 ∧ F = F1 ++ F2
def ImG (t : TE) (m : GM) : Prop := ∀ σ H Q env F, RE K H env σ F → F.Nodup →
  PostE K mg W σ H F (fun a env' => ∀ v H' Fv F', RE K H' env' σ F' → RG K H' σ a v Fv → (Fv ++ F').Nodup → Fm F H (Fv ++ F') H' → Q v H') (m env) → t σ H Q
def ImA (t : TA) (m : AM) : Prop := ∀ σ H Q env F, RE K H env σ F → F.Nodup →
  PostE K mg W σ H F (fun as env' => ∀ vs H' Fv F', RE K H' env' σ F' → RGs K H' σ as vs Fv → (Fv ++ F').Nodup → Fm F H (Fv ++ F') H' → Q vs H') (m env) → t σ H Q
def ImT (t : TT) (m : BM) : Prop := ∀ σ H Q env F, RE K H env σ F → F.Nodup →
  PostE K mg W σ H F (fun b env' => ∀ H' F', RE K H' env' σ F' → F'.Nodup → Fm F H F' H' → Q b H') (m env) → t σ H Q
/-- an expression that only reads: what comes may be a part of what is held -/
def ImR (t : TE) (m : RM) : Prop := ∀ σ H Q env F, RE K H env σ F →
  (match m env with | some pv => ∀ v H' Fv, Sm H H' → RV K H' pv v Fv → Q v H' | none => False) → t σ H Q
end

section
variable {K : PySem.W.Frag} {mg : Str → Option Value} {W : WX}
theorem RG.mt {H : Hp} {σ : L2.St} : ∀ {a : Arg} {v : V} {F : List Addr}, RG K H σ a v F → Mt H F
  | .own _, _, _, h => RV.mt h
  | .ref _, _, _, h => by rw [h.2]; intro b z; simp at z
theorem RG.keep {H H' : Hp} {σ : L2.St} : ∀ {a : Arg} {v : V} {F : List Addr}, RG K H σ a v F → (∀ b o, H b = some o → (b ∈ F ∨ mutO o = false) → H' b = some o) → RG K H' σ a v F
  | .own _, _, _, h, k => RV.keep h k
  | .ref _, _, _, h, _ => h
theorem RGs.mt {H : Hp} {σ : L2.St} : ∀ {as : List Arg} {vs : List V} {F : List Addr}, RGs K H σ as vs F → Mt H F
  | [], _, _, h => by simp only [RGs] at h; rw [h.2]; intro b z; simp at z
  | a :: r, _, _, h => by
    simp only [RGs] at h
    obtain ⟨v, vr, F1, F2, _, h1, h2, e⟩ := h
    subst e
    intro b z
    rcases List.mem_append.mp z with z | z
    · exact h1.mt b z
    · exact RGs.mt h2 b z
theorem RGs.keep {H H' : Hp} {σ : L2.St} : ∀ {as : List Arg} {vs : List V} {F : List Addr}, RGs K H σ as vs F → (∀ b o, H b = some o → (b ∈ F ∨ mutO o = false) → H' b = some o) → RGs K H' σ as vs F
  | [], _, _, h, _ => by simp only [RGs] at h ⊢; exact h
  | a :: r, _, _, h, k => by
    simp only [RGs] at h ⊢
    obtain ⟨v, vr, F1, F2, e1, h1, h2, e⟩ := h
    subst e
    exact ⟨v, vr, F1, F2, e1, h1.keep fun b o e m => k b o e (m.imp (fun z => List.mem_append_left _ z) id), RGs.keep h2 fun b o e m => k b o e (m.imp (fun z => List.mem_append_right _ z) id), rfl⟩

/-- a later stand: from (F, H) to (F1, H1) -/
theorem PostE.later {α : Type} {σ : L2.St} {H H1 : Hp} {F F1 : List Addr} {R R' : α → PEnv → Prop} (f : Fm F H F1 H1) {o : EO α} (h : PostE K mg W σ H F R o) (r : ∀ a e, R a e → R' a e) : PostE K mg W σ H1 F1 R' o := by
  cases o with
  | ok a e => exact r a e h
  | exc x e => exact fun cls d H' F' h1 h2 h3 h4 => h cls d H' F' h1 h2 (f.trans h3) h4
  | bad => exact h
theorem PostE.bind {α β : Type} {σ : L2.St} {H : Hp} {F : List Addr} {R : β → PEnv → Prop} {o : EO α} {f : α → PEnv → EO β} (h : PostE K mg W σ H F R (o.bind f)) : PostE K mg W σ H F (fun a e => PostE K mg W σ H F R (f a e)) o := by
  cases o with
  | ok a e => exact h
  | exc x e => exact h
  | bad => exact h
theorem PostE.imp {α : Type} {σ : L2.St} {H : Hp} {F : List Addr} {R R' : α → PEnv → Prop} {o : EO α} (h : PostE K mg W σ H F R o) (r : ∀ a e, R a e → R' a e) : PostE K mg W σ H F R' o := h.later Fm.refl r

theorem fm_left {F H H' : _} {Fv F' : List Addr} (f : Fm F H (Fv ++ F') H') : Fm F H F' H' := f.sub fun _ z => List.mem_append_right _ z
theorem nd_right {Fv F' : List Addr} (n : (Fv ++ F').Nodup) : F'.Nodup := (List.nodup_append.mp n).2.1
theorem nd_dis {Fv F' : List Addr} (n : (Fv ++ F').Nodup) : ∀ b ∈ Fv, b ∉ F' := fun b h1 h2 => (List.nodup_append.mp n).2.2 b h1 b h2 rfl
/-- what is fresh behind stands apart from what stood apart -/
theorem nd_later {H1 H2 : Hp} {Fv F1 G : List Addr} (n : (Fv ++ F1).Nodup) (mt : Mt H1 Fv) (f : Fm F1 H1 G H2) (g : G.Nodup) : (Fv ++ G).Nodup := by
  rw [List.nodup_append] at n ⊢
  refine ⟨n.1, g, fun a h1 b h2 e => ?_⟩
  subst e
  rcases f.fr a h2 with z | z
  · exact n.2.2 a h1 a z rfl
  · obtain ⟨o, e, _⟩ := mt a h1
    rw [e] at z; cases z
theorem keep_ap {H1 H2 : Hp} {Fv F1 G : List Addr} (n : (Fv ++ F1).Nodup) (mt : Mt H1 F1) (f : Fm F1 H1 G H2) : ∀ b o, H1 b = some o → (b ∈ Fv ∨ mutO o = false) → H2 b = some o := keep_of f.kp mt (nd_dis n)
/-- the frame of an owned value ahead, an owned value behind -/
theorem fm_both {H H1 H2 : Hp} {F Fv F1 G : List Addr} (f : Fm F H (Fv ++ F1) H1) (g : Fm F1 H1 G H2) (mt : Mt H1 Fv) : Fm F H (Fv ++ G) H2 where
  kp := ((fm_left f).trans g).kp
  fr := fun b z => by
    rcases List.mem_append.mp z with z | z
    · exact f.fr b (List.mem_append_left _ z)
    · exact ((fm_left f).trans g).fr b z

/-! ### arguments -/
def gRef (i : Nat) : GM := fun env => match env[i]? with
  | some (some _) => .ok (.ref i) env
  | _ => .bad
theorem im_gRef (i : Nat) : ImG K mg W (tVar i) (gRef i) := by
  intro σ H Q env F hr hn hp
  unfold gRef at hp
  split at hp
  · rename_i x e
    obtain ⟨v, F1, e1, _⟩ := hr.get e
    exact ⟨v, e1, hp v H [] F hr ⟨e1, rfl⟩ hn Fm.refl⟩
  · exact hp.elim
def gOwn (m : EM) : GM := fun env => (m env).bind fun x e => .ok (.own x) e
theorem im_gOwn {t : TE} {m : EM} (h : ImE K mg W t m) : ImG K mg W t (gOwn m) := by
  intro σ H Q env F hr hn hp
  exact h σ H Q env F hr hn (hp.bind.imp fun pv env' q => q)
def aNil : AM := fun env => .ok [] env
theorem im_aNil : ImA K mg W tNil aNil := by
  intro σ H Q env F hr hn hp
  exact hp [] H [] F hr ⟨rfl, rfl⟩ hn Fm.refl
def aCons (g : GM) (a : AM) : AM := fun env => (g env).bind fun x e => (a e).bind fun r e2 => .ok (x :: r) e2
theorem im_aCons {tg : TE} {ta : TA} {g : GM} {a : AM} (hg : ImG K mg W tg g) (ha : ImA K mg W ta a) : ImA K mg W (tCons tg ta) (aCons g a) := by
  intro σ H Q env F hr hn hp
  refine hg σ H _ env F hr hn (hp.bind.imp fun x e1 q1 v H1 Fv F1 hr1 hx hn1 hf1 => ?_)
  refine ha σ H1 _ e1 F1 hr1 (nd_right hn1) ((q1.bind.later (fm_left hf1)) fun r e2 q2 vs H2 Gv F2 hr2 hs hn2 hf2 => ?_)
  have hx2 := hx.keep (keep_ap hn1 hr1.mt hf2)
  refine q2 (v :: vs) H2 (Fv ++ Gv) F2 hr2 ⟨v, vs, Fv, Gv, rfl, hx2, hs, rfl⟩ ?_ ?_
  · rw [List.append_assoc]; exact nd_later hn1 hx.mt hf2 hn2
  · rw [List.append_assoc]; exact fm_both hf1 hf2 hx.mt

/-- owned arguments alone -/
def ownL : List Arg → Option (List PV)
  | [] => some []
  | .own x :: r => (ownL r).map (x :: ·)
  | .ref _ :: _ => none
theorem ownL_ok {H : Hp} {σ : L2.St} : ∀ {as : List Arg} {vs : List V} {F : List Addr} {xs : List PV}, RGs K H σ as vs F → ownL as = some xs → RVL K H xs vs F
  | [], _, _, xs, h, e => by
    simp only [RGs] at h
    simp only [ownL, Option.some.injEq] at e
    subst e
    simp only [RVL]; exact h
  | .own x :: r, _, _, xs, h, e => by
    simp only [RGs, RG] at h
    obtain ⟨v, vr, F1, F2, e1, h1, h2, e2⟩ := h
    simp only [ownL, Option.map_eq_some_iff] at e
    obtain ⟨ys, e3, e4⟩ := e
    subst e4
    simp only [RVL]
    exact ⟨v, vr, F1, F2, e1, h1, ownL_ok h2 e3, e2⟩
  | .ref _ :: _, _, _, xs, h, e => by simp [ownL] at e
/-- an argument as it is read -/
def seeG (env : PEnv) : Arg → Option PV
  | .own x => some x
  | .ref i => (env[i]?).join
theorem seeG_ok {H : Hp} {σ : L2.St} {env : PEnv} {G : List Addr} (hr : RE K H env σ G) : ∀ {a : Arg} {v : V} {F : List Addr} {x : PV}, RG K H σ a v F → seeG env a = some x → ∃ F', RV K H x v F'
  | .own x, v, F, y, h, e => by
    simp only [seeG, Option.some.injEq] at e
    subst e
    exact ⟨F, h⟩
  | .ref i, v, F, y, h, e => by
    simp only [seeG, Option.join_eq_some_iff] at e
    obtain ⟨v', F1, e1, h1⟩ := hr.get e
    rw [h.1] at e1
    cases e1
    exact ⟨F1, h1⟩
def seeL (env : PEnv) : List Arg → Option (List PV)
  | [] => some []
  | a :: r => (seeG env a).bind fun x => (seeL env r).map (x :: ·)
/-- read, borrowed -/
def RB (K : PySem.W.Frag) (H : Hp) : List PV → List V → Prop
  | [], vs => vs = []
  | x :: r, vs => ∃ v vr F, vs = v :: vr ∧ RV K H x v F ∧ RB K H r vr
theorem seeL_ok {H : Hp} {σ : L2.St} {env : PEnv} {G : List Addr} (hr : RE K H env σ G) : ∀ {as : List Arg} {vs : List V} {F : List Addr} {xs : List PV}, RGs K H σ as vs F → seeL env as = some xs → RB K H xs vs
  | [], _, _, xs, h, e => by
    simp only [RGs] at h
    simp only [seeL, Option.some.injEq] at e
    subst e
    exact h.1
  | a :: r, _, _, xs, h, e => by
    simp only [RGs] at h
    obtain ⟨v, vr, F1, F2, e1, h1, h2, e2⟩ := h
    simp only [seeL, Option.bind_eq_some_iff, Option.map_eq_some_iff] at e
    obtain ⟨x, ex, ys, ey, e4⟩ := e
    subst e4
    obtain ⟨F', hx⟩ := seeG_ok hr h1 ex
    exact ⟨v, vr, F', e1, hx, seeL_ok hr h2 ey⟩

/-! ### values by rules: what comes is new, or has no mutable part -/
/-- the promise of a fresh value -/
def New (K : PySem.W.Frag) (H : Hp) (Q : VK) (z : PV) : Prop := ∀ v H' Fz, Sm H H' → RV K H' z v Fz → Fz.Nodup → Fr H Fz → Q v H'
def NewO (K : PySem.W.Frag) (H : Hp) (Q : VK) : Option PV → Prop
  | some z => New K H Q z
  | none => False
def SimR2 (K : PySem.W.Frag) (r : R2) (f : PV → PV → Option PV) : Prop := ∀ x y H Q px py Fx Fy, RV K H px x Fx → RV K H py y Fy → NewO K H Q (f px py) → r x y H Q
def SimU (K : PySem.W.Frag) (r : V → Hp → VK → Prop) (f : PV → Option PV) : Prop := ∀ x H Q px Fx, RV K H px x Fx → NewO K H Q (f px) → r x H Q
def SimL (K : PySem.W.Frag) (r : List V → Hp → VK → Prop) (f : List PV → Option PV) : Prop := ∀ xs H Q ps, RB K H ps xs → NewO K H Q (f ps) → r xs H Q
/-- .. a part of what is read -/
def OldO (K : PySem.W.Frag) (H : Hp) (Q : VK) : Option PV → Prop
  | some z => ∀ v H' Fz, Sm H H' → RV K H' z v Fz → Q v H'
  | none => False
def SimB2 (K : PySem.W.Frag) (r : R2) (f : PV → PV → Option PV) : Prop := ∀ x y H Q px py Fx Fy, RV K H px x Fx → RV K H py y Fy → OldO K H Q (f px py) → r x y H Q
theorem OldO.new {H : Hp} {Q : VK} {o : Option PV} (h : OldO K H Q o) : NewO K H Q o := by
  cases o with
  | none => exact h
  | some z => exact fun v H' Fz s r _ _ => h v H' Fz s r
theorem SimR2.b {r : R2} {f : PV → PV → Option PV} (h : SimR2 K r f) : SimB2 K r f := fun x y H Q px py Fx Fy h1 h2 q => h x y H Q px py Fx Fy h1 h2 q.new
/-- .. but only if it has no mutable part -/
def immO (o : Option PV) : Option PV := match o with
  | some z => if z.imm = true then some z else none
  | none => none
theorem immO_old {H : Hp} {Q : VK} {o : Option PV} (h : NewO K H Q (immO o)) : OldO K H Q o := by
  cases o with
  | none => exact h
  | some z =>
    unfold immO at h
    by_cases hz : z.imm = true
    · simp only [hz, if_true] at h
      intro v H' Fz s r
      have e := RV.imm hz r
      subst e
      exact h v H' [] s r List.nodup_nil (fun b z => by simp at z)
    · simp only [hz] at h
      exact h.elim
theorem SimB2.i {r : R2} {f : PV → PV → Option PV} (h : SimB2 K r f) : SimR2 K r (fun x y => immO (f x y)) := fun x y H Q px py Fx Fy h1 h2 q => h x y H Q px py Fx Fy h1 h2 (immO_old q)

def ofO (o : Option PV) (e : PEnv) : EO PV := match o with
  | some z => .ok z e
  | none => .bad
@[simp] theorem ofO_some (z : PV) (e : PEnv) : ofO (some z) e = .ok z e := rfl
@[simp] theorem ofO_none (e : PEnv) : ofO none e = .bad := rfl
/-- the end of a rule by values -/
theorem fin_new {σ : L2.St} {H H1 : Hp} {F F1 : List Addr} {env : PEnv} {Q : VK} {o : Option PV} (hr : RE K H1 env σ F1) (hn : F1.Nodup) (f : Fm F H F1 H1)
    (hp : PostE K mg W σ H F (fun pv env' => ∀ v H' Fv F', RE K H' env' σ F' → RV K H' pv v Fv → (Fv ++ F').Nodup → Fm F H (Fv ++ F') H' → Q v H') (ofO o env)) : NewO K H1 Q o := by
  cases o with
  | none => exact hp
  | some z =>
    intro v H' Fz s r nz fz
    refine hp v H' Fz F1 (hr.sm s) r ?_ ?_
    · rw [List.nodup_append]
      refine ⟨nz, hn, fun a h1 b h2 e => ?_⟩
      subst e
      obtain ⟨ob, e, _⟩ := hr.mt a h2
      rw [fz a h1] at e; cases e
    · refine f.trans (Fm.of_sm s fun b z => ?_)
      rcases List.mem_append.mp z with z | z
      · exact .inr (fz b z)
      · exact .inl z
/-- two operands -/
def eOp (f : PV → PV → Option PV) (a b : GM) : EM := fun env => (a env).bind fun x e1 => (b e1).bind fun y e2 =>
  ofO ((seeG e2 x).bind fun p => (seeG e2 y).bind fun q => f p q) e2
theorem im_op {r : R2} {f : PV → PV → Option PV} {ta tb : TE} {a b : GM} (hs : SimR2 K r f) (ha : ImG K mg W ta a) (hb : ImG K mg W tb b) : ImE K mg W (tOp r ta tb) (eOp f a b) := by
  intro σ H Q env F hr hn hp
  refine ha σ H _ env F hr hn (hp.bind.imp fun x e1 q1 v H1 Fv F1 hr1 hx hn1 hf1 => ?_)
  refine hb σ H1 _ e1 F1 hr1 (nd_right hn1) ((q1.bind.later (fm_left hf1)) fun y e2 q2 u H2 Gv F2 hr2 hy hn2 hf2 => ?_)
  have hx2 := hx.keep (keep_ap hn1 hr1.mt hf2)
  cases ex : seeG e2 x with
  | none => rw [ex] at q2; exact q2.elim
  | some p =>
    cases ey : seeG e2 y with
    | none => rw [ex, ey] at q2; exact q2.elim
    | some q =>
      rw [ex, ey] at q2
      obtain ⟨Fx, rx⟩ := seeG_ok hr2 hx2 ex
      obtain ⟨Fy, ry⟩ := seeG_ok hr2 hy ey
      exact hs v u H2 Q p q Fx Fy rx ry (fin_new hr2 (nd_right hn2) (fm_left hf2) (q2.later (fm_left hf1) fun _ _ z v' H' Fv' F' a b c d => z v' H' Fv' F' a b c ((fm_left hf1).trans d)))
def eUn (f : PV → Option PV) (a : GM) : EM := fun env => (a env).bind fun x e1 => ofO ((seeG e1 x).bind f) e1
theorem im_un {r : V → Hp → VK → Prop} {f : PV → Option PV} {ta : TE} {a : GM} (hs : SimU K r f) (ha : ImG K mg W ta a) : ImE K mg W (tUn r ta) (eUn f a) := by
  intro σ H Q env F hr hn hp
  refine ha σ H _ env F hr hn (hp.bind.imp fun x e1 q1 v H1 Fv F1 hr1 hx hn1 hf1 => ?_)
  cases ex : seeG e1 x with
  | none => rw [ex] at q1; exact q1.elim
  | some p =>
    rw [ex] at q1
    obtain ⟨Fx, rx⟩ := seeG_ok hr1 hx ex
    exact hs v H1 Q p Fx rx (fin_new hr1 (nd_right hn1) (fm_left hf1) q1)
/-- a call by values (of a builtin, a type) -/
def eCl (f : List PV → Option PV) (a : AM) : EM := fun env => (a env).bind fun as e1 => ofO ((seeL e1 as).bind f) e1
theorem im_cl {r : List V → Hp → VK → Prop} {f : List PV → Option PV} {ta : TA} {a : AM} (hs : SimL K r f) (ha : ImA K mg W ta a) : ImE K mg W (fun σ H Q => ta σ H fun vs H1 => r vs H1 Q) (eCl f a) := by
  intro σ H Q env F hr hn hp
  refine ha σ H _ env F hr hn (hp.bind.imp fun as e1 q1 vs H1 Fv F1 hr1 hx hn1 hf1 => ?_)
  cases ex : seeL e1 as with
  | none => rw [ex] at q1; exact q1.elim
  | some ps =>
    rw [ex] at q1
    exact hs vs H1 Q ps (seeL_ok hr1 hx ex) (fin_new hr1 (nd_right hn1) (fm_left hf1) q1)

/-! ### reading alone -/
def rVar (i : Nat) : RM := fun env => (env[i]?).join
theorem im_rVar (i : Nat) : ImR K (tVar i) (rVar i) := by
  intro σ H Q env F hr hp
  unfold rVar at hp
  split at hp
  · rename_i pv e
    rw [Option.join_eq_some_iff] at e
    obtain ⟨v, F1, e1, h1⟩ := hr.get e
    exact ⟨v, e1, hp v H F1 (fun _ _ z => z) h1⟩
  · exact hp.elim
def rC (x : PV) : RM := fun _ => some x
def constV : PV → Option V
  | .non => some .non
  | .bl b => some (.bl b)
  | .int i => some (.int i)
  | .str x => some (.str x)
  | _ => none
theorem constV_ok {H : Hp} {x : PV} {v : V} (h : constV x = some v) : RV K H x v [] := by
  cases x <;> simp [constV] at h <;> subst h <;> simp [RV]
theorem im_rC {x : PV} {v : V} (h : constV x = some v := by rfl) : ImR K (tC v) (rC x) := by
  intro σ H Q env F hr hp
  exact hp v H [] (fun _ _ z => z) (constV_ok h)
def rOp (f : PV → PV → Option PV) (a b : RM) : RM := fun env => (a env).bind fun x => (b env).bind fun y => f x y
theorem im_rOp {r : R2} {f : PV → PV → Option PV} {ta tb : TE} {a b : RM} (hs : SimB2 K r f) (ha : ImR K ta a) (hb : ImR K tb b) : ImR K (tOp r ta tb) (rOp f a b) := by
  intro σ H Q env F hr hp
  unfold rOp at hp
  refine ha σ H _ env F hr ?_
  cases ea : a env with
  | none => rw [ea] at hp; exact hp
  | some x =>
    rw [ea] at hp
    intro v H1 Fv s1 rx
    refine hb σ H1 _ env F (hr.sm s1) ?_
    cases eb : b env with
    | none => rw [eb] at hp; exact hp
    | some y =>
      rw [eb] at hp
      intro u H2 Fu s2 ry
      refine hs v u H2 Q x y Fv Fu (rx.sm s2) ry ?_
      cases ef : f x y with
      | none => simp only [Option.bind_some, ef] at hp
      | some z =>
        simp only [Option.bind_some, ef] at hp
        exact fun w' H3 Fw s3 rw' => hp w' H3 Fw ((s1.trans s2).trans s3) rw'
def rUn (f : PV → Option PV) (a : RM) : RM := fun env => (a env).bind f
theorem im_rUn {r : V → Hp → VK → Prop} {f : PV → Option PV} {ta : TE} {a : RM} (hs : SimU K r f) (ha : ImR K ta a) : ImR K (tUn r ta) (rUn f a) := by
  intro σ H Q env F hr hp
  unfold rUn at hp
  refine ha σ H _ env F hr ?_
  cases ea : a env with
  | none => rw [ea] at hp; exact hp
  | some x =>
    rw [ea] at hp
    intro v H1 Fv s1 rx
    refine hs v H1 Q x Fv rx ?_
    cases ef : f x with
    | none => simp only [Option.bind_some, ef] at hp
    | some z =>
      simp only [Option.bind_some, ef] at hp
      exact fun w' H3 Fw s3 rw' _ _ => hp w' H3 Fw (s1.trans s3) rw'
/-- .. as a value: it must have no mutable part -/
def eR (m : RM) : EM := fun env => ofO (immO (m env)) env
theorem im_eR {t : TE} {m : RM} (h : ImR K t m) : ImE K mg W t (eR m) := by
  intro σ H Q env F hr hn hp
  unfold eR at hp
  refine h σ H Q env F hr ?_
  have z := immO_old (fin_new (K := K) hr hn Fm.refl hp)
  cases e : m env with
  | none => rw [e] at z; exact z
  | some pv => rw [e] at z; exact z
/-- a constant -/
def eC (x : PV) : EM := fun env => .ok x env
theorem im_eC {x : PV} {v : V} (h : constV x = some v := by rfl) : ImE K mg W (tC v) (eC x) := by
  intro σ H Q env F hr hn hp
  exact hp v H [] F hr (constV_ok h) hn Fm.refl
/-- a name: copied where it has no mutable part, else taken out -/
def eVar (i : Nat) : EM := fun env => match env[i]? with
  | some (some x) => if x.imm = true then .ok x env else .ok x (env.set i none)
  | _ => .bad
theorem im_eVar (i : Nat) : ImE K mg W (tVar i) (eVar i) := by
  intro σ H Q env F hr hn hp
  unfold eVar at hp
  split at hp
  · rename_i x e
    by_cases hx : x.imm = true
    · rw [if_pos hx] at hp
      obtain ⟨v, F1, e1, h1⟩ := hr.get e
      have e2 := RV.imm hx h1
      subst e2
      exact ⟨v, e1, hp v H [] F hr h1 hn Fm.refl⟩
    · rw [if_neg hx] at hp
      obtain ⟨v, F1, F2, e1, h1, h2, p⟩ := hr.take e
      exact ⟨v, e1, hp v H F1 F2 h2 h1 (nodup_of_perm p.symm hn) ⟨Kp.refl, fun b z => .inl (p.symm.subset z)⟩⟩
  · exact hp.elim

/-! ### tests -/
/-- a value that is a bool, as a test -/
def bE (m : EM) : BM := fun env => (m env).bind fun x e => match x with
  | .bl b => .ok b e
  | _ => .bad
theorem im_bE {t : TE} {m : EM} (h : ImE K mg W t m) : ImT K mg W (fun σ H Q => t σ H fun x H' => ∃ k, x = .bl k ∧ Q k H') (bE m) := by
  intro σ H Q env F hr hn hp
  refine h σ H _ env F hr hn (hp.bind.imp fun x e1 q1 v H1 Fv F1 hr1 hx hn1 hf1 => ?_)
  cases x with
  | bl b =>
    simp only [RV] at hx
    exact ⟨b, hx.1, q1 H1 F1 hr1 (nd_right hn1) (fm_left hf1)⟩
  | _ => exact q1.elim
def bAnd (a b : BM) : BM := fun env => (a env).bind fun x e => if x = true then b e else .ok false e
theorem im_bAnd {ta tb : TT} {a b : BM} (ha : ImT K mg W ta a) (hb : ImT K mg W tb b) : ImT K mg W (tAnd ta tb) (bAnd a b) := by
  intro σ H Q env F hr hn hp
  refine ha σ H _ env F hr hn (hp.bind.imp fun x e1 q1 H1 F1 hr1 hn1 hf1 => ?_)
  cases x with
  | true =>
    rw [if_pos rfl] at q1 ⊢
    exact hb σ H1 _ e1 F1 hr1 hn1 (q1.later hf1 fun y e2 q2 H2 F2 hr2 hn2 hf2 => q2 H2 F2 hr2 hn2 (hf1.trans hf2))
  | false =>
    rw [if_neg Bool.false_ne_true] at q1 ⊢
    exact q1 H1 F1 hr1 hn1 hf1
def bOr (a b : BM) : BM := fun env => (a env).bind fun x e => if x = true then .ok true e else b e
theorem im_bOr {ta tb : TT} {a b : BM} (ha : ImT K mg W ta a) (hb : ImT K mg W tb b) : ImT K mg W (tOr ta tb) (bOr a b) := by
  intro σ H Q env F hr hn hp
  refine ha σ H _ env F hr hn (hp.bind.imp fun x e1 q1 H1 F1 hr1 hn1 hf1 => ?_)
  cases x with
  | true =>
    rw [if_pos rfl] at q1 ⊢
    exact q1 H1 F1 hr1 hn1 hf1
  | false =>
    rw [if_neg Bool.false_ne_true] at q1 ⊢
    exact hb σ H1 _ e1 F1 hr1 hn1 (q1.later hf1 fun y e2 q2 H2 F2 hr2 hn2 hf2 => q2 H2 F2 hr2 hn2 (hf1.trans hf2))
def bNot (a : BM) : BM := fun env => (a env).bind fun x e => .ok (!x) e
theorem im_bNot {ta : TT} {a : BM} (ha : ImT K mg W ta a) : ImT K mg W (tNot ta) (bNot a) := by
  intro σ H Q env F hr hn hp
  exact ha σ H _ env F hr hn (hp.bind.imp fun x e1 q1 H1 F1 hr1 hn1 hf1 => q1 H1 F1 hr1 hn1 hf1)
/-- .. as values -/
def eAnd (a b : EM) : EM := fun env => (a env).bind fun x e => match x with
  | .bl true => b e
  | .bl false => .ok (.bl false) e
  | _ => .bad
theorem im_eAnd {ta tb : TE} {a b : EM} (ha : ImE K mg W ta a) (hb : ImE K mg W tb b) : ImE K mg W (tAndV ta tb) (eAnd a b) := by
  intro σ H Q env F hr hn hp
  refine ha σ H _ env F hr hn (hp.bind.imp fun x e1 q1 v H1 Fv F1 hr1 hx hn1 hf1 => ?_)
  cases x with
  | bl c =>
    simp only [RV] at hx
    refine ⟨c, hx.1, ?_⟩
    cases c with
    | true =>
      rw [if_pos rfl]
      exact hb σ H1 _ e1 F1 hr1 (nd_right hn1) (q1.later (fm_left hf1) fun y e2 q2 v2 H2 Fv2 F2 hr2 hv2 hn2 hf2 => q2 v2 H2 Fv2 F2 hr2 hv2 hn2 ((fm_left hf1).trans hf2))
    | false =>
      rw [if_neg Bool.false_ne_true]
      exact q1 (.bl false) H1 [] F1 hr1 (by simp [RV]) (nd_right hn1) (fm_left hf1)
  | _ => exact q1.elim
def eOr (a b : EM) : EM := fun env => (a env).bind fun x e => match x with
  | .bl true => .ok (.bl true) e
  | .bl false => b e
  | _ => .bad
theorem im_eOr {ta tb : TE} {a b : EM} (ha : ImE K mg W ta a) (hb : ImE K mg W tb b) : ImE K mg W (tOrV ta tb) (eOr a b) := by
  intro σ H Q env F hr hn hp
  refine ha σ H _ env F hr hn (hp.bind.imp fun x e1 q1 v H1 Fv F1 hr1 hx hn1 hf1 => ?_)
  cases x with
  | bl c =>
    simp only [RV] at hx
    refine ⟨c, hx.1, ?_⟩
    cases c with
    | false =>
      rw [if_neg Bool.false_ne_true]
      exact hb σ H1 _ e1 F1 hr1 (nd_right hn1) (q1.later (fm_left hf1) fun y e2 q2 v2 H2 Fv2 F2 hr2 hv2 hn2 hf2 => q2 v2 H2 Fv2 F2 hr2 hv2 hn2 ((fm_left hf1).trans hf2))
    | true =>
      rw [if_pos rfl]
      exact q1 (.bl true) H1 [] F1 hr1 (by simp [RV]) (nd_right hn1) (fm_left hf1)
  | _ => exact q1.elim
def eNot (a : EM) : EM := fun env => (a env).bind fun x e => match x with
  | .bl c => .ok (.bl (!c)) e
  | _ => .bad
theorem im_eNot {ta : TE} {a : EM} (ha : ImE K mg W ta a) : ImE K mg W (tNotV ta) (eNot a) := by
  intro σ H Q env F hr hn hp
  refine ha σ H _ env F hr hn (hp.bind.imp fun x e1 q1 v H1 Fv F1 hr1 hx hn1 hf1 => ?_)
  cases x with
  | bl c =>
    simp only [RV] at hx
    exact ⟨c, hx.1, q1 (.bl (!c)) H1 [] F1 hr1 (by simp [RV]) (nd_right hn1) (fm_left hf1)⟩
  | _ => exact q1.elim
def eIf (c : BM) (a b : EM) : EM := fun env => (c env).bind fun x e => if x = true then a e else b e
theorem im_eIf {tc : TT} {ta tb : TE} {c : BM} {a b : EM} (hc : ImT K mg W tc c) (ha : ImE K mg W ta a) (hb : ImE K mg W tb b) : ImE K mg W (tIf tc ta tb) (eIf c a b) := by
  intro σ H Q env F hr hn hp
  refine hc σ H _ env F hr hn (hp.bind.imp fun x e1 q1 H1 F1 hr1 hn1 hf1 => ?_)
  cases x with
  | true =>
    rw [if_pos rfl] at q1 ⊢
    exact ha σ H1 _ e1 F1 hr1 hn1 (q1.later hf1 fun y e2 q2 v2 H2 Fv2 F2 hr2 hv2 hn2 hf2 => q2 v2 H2 Fv2 F2 hr2 hv2 hn2 (hf1.trans hf2))
  | false =>
    rw [if_neg Bool.false_ne_true] at q1 ⊢
    exact hb σ H1 _ e1 F1 hr1 hn1 (q1.later hf1 fun y e2 q2 v2 H2 Fv2 F2 hr2 hv2 hn2 hf2 => q2 v2 H2 Fv2 F2 hr2 hv2 hn2 (hf1.trans hf2))

/-! ### displays -/
def eTup (a : AM) : EM := fun env => (a env).bind fun as e => match ownL as with
  | some xs => if xs.length ≤ sizeLine then .ok (.tup xs) e else .bad
  | none => .bad
theorem im_eTup {ta : TA} {a : AM} (ha : ImA K mg W ta a) : ImE K mg W (tTup ta) (eTup a) := by
  intro σ H Q env F hr hn hp
  refine ha σ H _ env F hr hn (hp.bind.imp fun as e1 q1 vs H1 Fv F1 hr1 hx hn1 hf1 => ?_)
  cases ex : ownL as with
  | none => rw [ex] at q1; exact q1.elim
  | some xs =>
    rw [ex] at q1
    have hl := ownL_ok hx ex
    by_cases hz : xs.length ≤ sizeLine
    · simp only [if_pos hz] at q1
      refine ⟨by rw [hl.length]; exact hz, fun p np => ?_⟩
      have s := sm_upd (o := .tup vs) np
      refine q1 (.ref p) _ Fv F1 (hr1.sm s) ?_ hn1 (hf1.trans (Fm.of_sm s fun b z => .inl z))
      simp only [RV]
      exact ⟨p, vs, rfl, .inl (.inl upd_same), hl.sm s⟩
    · simp only [if_neg hz] at q1
      exact q1.elim
def eLst (a : AM) : EM := fun env => (a env).bind fun as e => match ownL as with
  | some xs => if xs.length ≤ sizeLine then .ok (.lst xs) e else .bad
  | none => .bad
theorem im_eLst {ta : TA} {a : AM} (ha : ImA K mg W ta a) : ImE K mg W (tLst ta) (eLst a) := by
  intro σ H Q env F hr hn hp
  refine ha σ H _ env F hr hn (hp.bind.imp fun as e1 q1 vs H1 Fv F1 hr1 hx hn1 hf1 => ?_)
  cases ex : ownL as with
  | none => rw [ex] at q1; exact q1.elim
  | some xs =>
    rw [ex] at q1
    have hl := ownL_ok hx ex
    by_cases hz : xs.length ≤ sizeLine
    · simp only [if_pos hz] at q1
      refine ⟨by rw [hl.length]; exact hz, fun p np => ?_⟩
      have s := sm_upd (o := .lst vs) np
      have hp' : p ∉ Fv ++ F1 := fun z => by
        rcases List.mem_append.mp z with z | z
        · obtain ⟨o, e, _⟩ := hx.mt p z; rw [np] at e; cases e
        · obtain ⟨o, e, _⟩ := hr1.mt p z; rw [np] at e; cases e
      refine q1 (.ref p) _ (p :: Fv) F1 (hr1.sm s) ?_ ?_ (hf1.trans (Fm.of_sm s fun b z => ?_))
      · simp only [RV]
        exact ⟨p, vs, Fv, rfl, upd_same, hl.sm s, rfl⟩
      · rw [List.cons_append]; exact List.nodup_cons.mpr ⟨hp', hn1⟩
      · rw [List.cons_append] at z
        rcases List.mem_cons.mp z with z | z
        · exact .inr (by rw [z]; exact np)
        · exact .inl z
    · simp only [if_neg hz] at q1
      exact q1.elim
end
end PVL

/-! P3: statements, targets, loops, comprehensions. -/
namespace PVL
open PySem PySem.Spec L2

inductive SO where
  | next (env : PEnv)
  | ret (x : PV) (env : PEnv)
  | brk (env : PEnv)
  | cont (env : PEnv)
  | exc (x : PX) (env : PEnv)
  | bad
abbrev SM := PEnv → SO
structure Ag (S : List Nat) (σ σ' : L2.St) : Prop where
  len : σ'.length = σ.length
  at_ : ∀ j, j ∉ S → σ'[j]? = σ[j]?
theorem Ag.refl {S : List Nat} {σ : L2.St} : Ag S σ σ := ⟨rfl, fun _ _ => rfl⟩
theorem Ag.trans {S : List Nat} {a b c : L2.St} (x : Ag S a b) (y : Ag S b c) : Ag S a c := ⟨y.len.trans x.len, fun j h => (y.at_ j h).trans (x.at_ j h)⟩
theorem Ag.mono {S T : List Nat} {a b : L2.St} (x : Ag S a b) (h : ∀ j ∈ S, j ∈ T) : Ag T a b := ⟨x.len, fun j n => x.at_ j fun z => n (h j z)⟩
theorem Ag.set {S : List Nat} {σ : L2.St} {i : Nat} {y : Option V} (h : i ∈ S) : Ag S σ (σ.set i y) := ⟨by simp, fun j n => by
  rw [List.getElem?_set_ne]
  intro e; subst e; exact n h⟩

def EO.toS {α : Type} (x : EO α) (f : α → PEnv → SO) : SO := match x with
  | .ok a e => f a e
  | .exc x e => .exc x e
  | .bad => .bad
@[simp] theorem EO.toS_ok {α : Type} (a : α) (e : PEnv) (f : α → PEnv → SO) : (EO.ok a e).toS f = f a e := rfl
@[simp] theorem EO.toS_exc {α : Type} (x : PX) (e : PEnv) (f : α → PEnv → SO) : (EO.exc x e : EO α).toS f = .exc x e := rfl
@[simp] theorem EO.toS_bad {α : Type} (f : α → PEnv → SO) : (EO.bad : EO α).toS f = .bad := rfl

section
variable (K : PySem.W.Frag) (mg : Str → Option Value) (W : WX) (S : List Nat)
def PostS (D : Ends) (σ : L2.St) (H : Hp) (F : List Addr) : SO → Prop
  | .next e => ∀ σ' H' F', RE K H' e σ' F' → F'.Nodup → Fm F H F' H' → Ag S σ σ' → D.nx σ' H'
  | .ret x e => ∀ v σ' H' Fv F', RE K H' e σ' F' → RV K H' x v Fv → (Fv ++ F').Nodup → Fm F H (Fv ++ F') H' → Ag S σ σ' → D.rt v H'
  | .brk e => ∀ σ' H' F', RE K H' e σ' F' → F'.Nodup → Fm F H F' H' → Ag S σ σ' → D.bk σ' H'
  | .cont e => ∀ σ' H' F', RE K H' e σ' F' → F'.Nodup → Fm F H F' H' → Ag S σ σ' → D.ct σ' H'
  | .exc x e => ∀ cls d σ' H' F', RE K H' e σ' F' → F'.Nodup → Fm F H F' H' → Ag S σ σ' → RX K mg x cls d H' → W cls d σ' H'
  | .bad => False
def ImS (t : TS) (m : SM) : Prop := ∀ D σ H env F, RE K H env σ F → F.Nodup → PostS K mg W S D σ H F (m env) → t D σ H
end

section
variable {K : PySem.W.Frag} {mg : Str → Option Value} {W : WX} {S S1 S2 T : List Nat}
theorem PostS.later {D : Ends} {σ σ1 : L2.St} {H H1 : Hp} {F F1 : List Addr} (f : Fm F H F1 H1) (a : Ag S σ σ1) {o : SO} (h : PostS K mg W S D σ H F o) : PostS K mg W S D σ1 H1 F1 o := by
  cases o with
  | next e => exact fun σ' H' F' x1 x2 x3 x4 => h σ' H' F' x1 x2 (f.trans x3) (a.trans x4)
  | ret x e => exact fun v σ' H' Fv F' x1 x2 x3 x4 x5 => h v σ' H' Fv F' x1 x2 x3 (f.trans x4) (a.trans x5)
  | brk e => exact fun σ' H' F' x1 x2 x3 x4 => h σ' H' F' x1 x2 (f.trans x3) (a.trans x4)
  | cont e => exact fun σ' H' F' x1 x2 x3 x4 => h σ' H' F' x1 x2 (f.trans x3) (a.trans x4)
  | exc x e => exact fun cls d σ' H' F' x1 x2 x3 x4 x5 => h cls d σ' H' F' x1 x2 (f.trans x3) (a.trans x4) x5
  | bad => exact h
theorem PostS.mono {D : Ends} {σ : L2.St} {H : Hp} {F : List Addr} (hs : ∀ j ∈ S, j ∈ T) {o : SO} (h : PostS K mg W T D σ H F o) : PostS K mg W S D σ H F o := by
  cases o with
  | next e => exact fun σ' H' F' x1 x2 x3 x4 => h σ' H' F' x1 x2 x3 (x4.mono hs)
  | ret x e => exact fun v σ' H' Fv F' x1 x2 x3 x4 x5 => h v σ' H' Fv F' x1 x2 x3 x4 (x5.mono hs)
  | brk e => exact fun σ' H' F' x1 x2 x3 x4 => h σ' H' F' x1 x2 x3 (x4.mono hs)
  | cont e => exact fun σ' H' F' x1 x2 x3 x4 => h σ' H' F' x1 x2 x3 (x4.mono hs)
  | exc x e => exact fun cls d σ' H' F' x1 x2 x3 x4 x5 => h cls d σ' H' F' x1 x2 x3 (x4.mono hs) x5
  | bad => exact h
theorem ImS.mono {t : TS} {m : SM} (h : ImS K mg W S t m) (hs : ∀ j ∈ S, j ∈ T) : ImS K mg W T t m := fun D σ H env F hr hn hp => h D σ H env F hr hn (hp.mono hs)
/-- an expression within a statement -/
theorem PostS.ofE {α : Type} {D : Ends} {σ : L2.St} {H : Hp} {F : List Addr} {o : EO α} {f : α → PEnv → SO} (h : PostS K mg W S D σ H F (o.toS f)) : PostE K mg W σ H F (fun a e => PostS K mg W S D σ H F (f a e)) o := by
  cases o with
  | ok a e => exact h
  | exc x e => exact fun cls d H' F' x1 x2 x3 x4 => h cls d σ H' F' x1 x2 x3 Ag.refl x4
  | bad => exact h

theorem PostS.ofE2 {α : Type} {D : Ends} {σ σ1 : L2.St} {H H1 : Hp} {F F1 : List Addr} {o : EO α} {f : α → PEnv → SO} (h : PostS K mg W S D σ H F (o.toS f)) (hf : Fm F H F1 H1) (ag : Ag S σ σ1) : PostE K mg W σ1 H1 F1 (fun a e => PostS K mg W S D σ H F (f a e)) o := by
  cases o with
  | ok a e => exact h
  | exc x e => exact fun cls d H' F' x1 x2 x3 x4 => h cls d σ1 H' F' x1 x2 (hf.trans x3) ag x4
  | bad => exact h

/-! ### blocks -/
def sNil : SM := fun env => .next env
theorem im_sNil : ImS K mg W S tNext sNil := fun D σ H env F hr hn hp => hp σ H F hr hn Fm.refl Ag.refl
def sSeq (a b : SM) : SM := fun env => match a env with
  | .next e => b e
  | o => o
theorem im_sSeq {t u : TS} {a b : SM} (ha : ImS K mg W S1 t a) (hb : ImS K mg W S2 u b) : ImS K mg W (S1 ++ S2) (tSeq t u) (sSeq a b) := by
  have ha := ha.mono (T := S1 ++ S2) fun j z => List.mem_append_left _ z
  have hb := hb.mono (T := S1 ++ S2) fun j z => List.mem_append_right _ z
  intro D σ H env F hr hn hp
  refine ha { D with nx := u D } σ H env F hr hn ?_
  unfold sSeq at hp
  cases e : a env with
  | next e1 =>
    rw [e] at hp
    exact fun σ' H' F' x1 x2 x3 x4 => hb D σ' H' e1 F' x1 x2 (hp.later x3 x4)
  | ret x e1 => rw [e] at hp; exact hp
  | brk e1 => rw [e] at hp; exact hp
  | cont e1 => rw [e] at hp; exact hp
  | exc x e1 => rw [e] at hp; exact hp
  | bad => rw [e] at hp; exact hp
def sBrk : SM := fun env => .brk env
theorem im_sBrk : ImS K mg W S tBreak sBrk := fun D σ H env F hr hn hp => hp σ H F hr hn Fm.refl Ag.refl
def sCont : SM := fun env => .cont env
theorem im_sCont : ImS K mg W S tCont sCont := fun D σ H env F hr hn hp => hp σ H F hr hn Fm.refl Ag.refl
def sBad : SM := fun _ => .bad
theorem im_sBad : ImS K mg W S tNever sBad := fun D σ H env F hr hn hp => hp
def sExpr (m : EM) : SM := fun env => (m env).toS fun _ e => .next e
theorem im_sExpr {t : TE} {m : EM} (h : ImE K mg W t m) : ImS K mg W S (tDrop t) (sExpr m) := by
  intro D σ H env F hr hn hp
  exact h σ H _ env F hr hn (hp.ofE.imp fun x e1 q1 v H1 Fv F1 hr1 hx hn1 hf1 => q1 σ H1 F1 hr1 (nd_right hn1) (fm_left hf1) Ag.refl)
def sRet (m : EM) : SM := fun env => (m env).toS fun x e => .ret x e
theorem im_sRet {t : TE} {m : EM} (h : ImE K mg W t m) : ImS K mg W S (tRet t) (sRet m) := by
  intro D σ H env F hr hn hp
  exact h σ H _ env F hr hn (hp.ofE.imp fun x e1 q1 v H1 Fv F1 hr1 hx hn1 hf1 => q1 v σ H1 Fv F1 hr1 hx hn1 hf1 Ag.refl)
def sRetN : SM := fun env => .ret .non env
theorem im_sRetN : ImS K mg W S tRetN sRetN := by
  intro D σ H env F hr hn hp
  exact hp .non σ H [] F hr (by simp [RV]) hn Fm.refl Ag.refl
def sIf (c : BM) (a b : SM) : SM := fun env => (c env).toS fun x e => if x = true then a e else b e
theorem im_sIf {tc : TT} {t u : TS} {c : BM} {a b : SM} (hc : ImT K mg W tc c) (ha : ImS K mg W S1 t a) (hb : ImS K mg W S2 u b) : ImS K mg W (S1 ++ S2) (tIfS tc t u) (sIf c a b) := by
  have ha := ha.mono (T := S1 ++ S2) fun j z => List.mem_append_left _ z
  have hb := hb.mono (T := S1 ++ S2) fun j z => List.mem_append_right _ z
  intro D σ H env F hr hn hp
  refine hc σ H _ env F hr hn (hp.ofE.imp fun x e1 q1 H1 F1 hr1 hn1 hf1 => ?_)
  cases x with
  | true =>
    rw [if_pos rfl] at q1 ⊢
    exact ha D σ H1 e1 F1 hr1 hn1 (q1.later hf1 Ag.refl)
  | false =>
    rw [if_neg Bool.false_ne_true] at q1 ⊢
    exact hb D σ H1 e1 F1 hr1 hn1 (q1.later hf1 Ag.refl)

/-! ### targets -/
abbrev TM := PV → PEnv → Option PEnv
def ImTg (K : PySem.W.Frag) (S : List Nat) (g : TG) (m : TM) : Prop := ∀ x v σ H env F Fx Q, RE K H env σ F → RV K H x v Fx → (Fx ++ F).Nodup →
  (match m x env with | some e => ∀ σ' F', RE K H e σ' F' → F'.Nodup → (∀ b ∈ F', b ∈ Fx ++ F) → Ag S σ σ' → Q σ' H | none => False) → g v σ H Q
def ImTgs (K : PySem.W.Frag) (S : List Nat) (g : TGs) (m : List PV → PEnv → Option PEnv) : Prop := ∀ xs vs σ H env F Fx Q, RE K H env σ F → RVL K H xs vs Fx → (Fx ++ F).Nodup →
  (match m xs env with | some e => ∀ σ' F', RE K H e σ' F' → F'.Nodup → (∀ b ∈ F', b ∈ Fx ++ F) → Ag S σ σ' → Q σ' H | none => False) → g vs σ H Q
def tgN (i : Nat) : TM := fun x env => if i < env.length then some (env.set i (some x)) else none
theorem im_tgN (i : Nat) : ImTg K [i] (gName i) (tgN i) := by
  intro x v σ H env F Fx Q hr hx hn hp
  unfold tgN at hp
  by_cases hl : i < env.length
  · simp only [hl, if_true] at hp
    obtain ⟨F', a, F1, b, c⟩ := hr.store hl hx
    refine hp _ F' a (nodup_of_perm c ?_) (fun z hz => ?_) (Ag.set (by simp))
    · exact hn.sublist (List.Sublist.append (List.Sublist.refl Fx) b)
    · rcases List.mem_append.mp (c.subset hz) with y | y
      · exact List.mem_append_left _ y
      · exact List.mem_append_right _ (b.subset y)
  · simp only [hl, if_false] at hp
def tgsNil : List PV → PEnv → Option PEnv := fun xs env => match xs with
  | [] => some env
  | _ => none
theorem im_tgsNil : ImTgs K S gNil tgsNil := by
  intro xs vs σ H env F Fx Q hr hx hn hp
  unfold tgsNil at hp
  cases xs with
  | nil =>
    simp only [RVL] at hx
    exact ⟨hx.1, hp σ F hr (nd_right hn) (fun b z => List.mem_append_right _ z) Ag.refl⟩
  | cons a b => exact hp.elim
def tgsCons (t : TM) (u : List PV → PEnv → Option PEnv) : List PV → PEnv → Option PEnv := fun xs env => match xs with
  | x :: r => (t x env).bind fun e => u r e
  | [] => none
theorem im_tgsCons {g : TG} {gs : TGs} {t : TM} {u : List PV → PEnv → Option PEnv} (ht : ImTg K S1 g t) (hu : ImTgs K S2 gs u) : ImTgs K (S1 ++ S2) (gCons g gs) (tgsCons t u) := by
  intro xs vs σ H env F Fx Q hr hx hn hp
  unfold tgsCons at hp
  cases xs with
  | nil => exact hp.elim
  | cons x r =>
    simp only [RVL] at hx
    obtain ⟨v, vr, F1, F2, e1, h1, h2, eF⟩ := hx
    subst e1; subst eF
    have n1 : (F1 ++ F).Nodup := by
      rw [List.append_assoc, List.nodup_append] at hn
      have n2 := (List.nodup_append.mp hn.2.1)
      rw [List.nodup_append]
      exact ⟨hn.1, n2.2.1, fun a ha b hb => hn.2.2 a ha b (List.mem_append_right _ hb)⟩
    refine ⟨v, vr, rfl, ht x v σ H env F F1 _ hr h1 n1 ?_⟩
    cases e : t x env with
    | none => simp only [e, Option.bind_none] at hp
    | some env1 =>
      simp only [e, Option.bind_some] at hp
      intro σ1 G1 r1 ng sub ag
      have nG : (F2 ++ G1).Nodup := by
        rw [List.append_assoc, List.nodup_append] at hn
        have n2 := (List.nodup_append.mp hn.2.1)
        rw [List.nodup_append]
        refine ⟨n2.1, ng, fun a ha b hb => ?_⟩
        rcases List.mem_append.mp (sub b hb) with z | z
        · exact fun q => hn.2.2 b z a (List.mem_append_left _ ha) q.symm
        · exact n2.2.2 a ha b z
      refine hu r vr σ1 H env1 G1 F2 Q r1 h2 nG ?_
      cases e2 : u r env1 with
      | none => simp only [e2] at hp
      | some env2 =>
        simp only [e2] at hp
        intro σ2 G2 r2 ng2 sub2 ag2
        refine hp σ2 G2 r2 ng2 (fun b hb => ?_) ((ag.mono fun j z => List.mem_append_left _ z).trans (ag2.mono fun j z => List.mem_append_right _ z))
        rcases List.mem_append.mp (sub2 b hb) with z | z
        · exact List.mem_append_left _ (List.mem_append_right _ z)
        · rcases List.mem_append.mp (sub b z) with y | y
          · exact List.mem_append_left _ (List.mem_append_left _ y)
          · exact List.mem_append_right _ y
def tgT (n : Nat) (u : List PV → PEnv → Option PEnv) : TM := fun x env => match x with
  | .tup xs => if xs.length = n then u xs env else none
  | _ => none
theorem im_tgT {n : Nat} {gs : TGs} {u : List PV → PEnv → Option PEnv} (hu : ImTgs K S gs u) : ImTg K S (gTup K n gs) (tgT n u) := by
  intro x v σ H env F Fx Q hr hx hn hp
  unfold tgT at hp
  cases x with
  | tup xs =>
    simp only [RV] at hx
    obtain ⟨a, vs, e, q, hl⟩ := hx
    by_cases hz : xs.length = n
    · simp only [hz, if_true] at hp
      exact ⟨a, vs, e, q, by rw [hl.length, hz], hu xs vs σ H env F Fx Q hr hl hn hp⟩
    · simp only [hz, if_false] at hp
  | _ => exact hp.elim
def sAsg (m : EM) (t : TM) : SM := fun env => (m env).toS fun x e => match t x e with
  | some e2 => .next e2
  | none => .bad
theorem im_sAsg {te : TE} {m : EM} {g : TG} {t : TM} (he : ImE K mg W te m) (ht : ImTg K S g t) : ImS K mg W S (tAsg te g) (sAsg m t) := by
  intro D σ H env F hr hn hp
  refine he σ H _ env F hr hn (hp.ofE.imp fun x e1 q1 v H1 Fv F1 hr1 hx hn1 hf1 => ?_)
  refine ht x v σ H1 e1 F1 Fv D.nx hr1 hx hn1 ?_
  cases e : t x e1 with
  | none => simp only [e] at q1; exact q1.elim
  | some e2 =>
    simp only [e] at q1
    intro σ' F' r' n' sub ag
    exact q1 σ' H1 F' r' n' (hf1.sub sub) ag
/-- a, b = x, y -/
def sPar (i j : Nat) (a : AM) : SM := fun env => (a env).toS fun as e => match ownL as with
  | some [x, y] => if i < e.length ∧ j < e.length then .next ((e.set i (some x)).set j (some y)) else .bad
  | _ => .bad
theorem im_sPar {i j : Nat} {ta : TA} {a : AM} (hij : i ≠ j) (ha : ImA K mg W ta a) : ImS K mg W [i, j] (tPar i j ta) (sPar i j a) := by
  intro D σ H env F hr hn hp
  refine ha σ H _ env F hr hn (hp.ofE.imp fun as e1 q1 vs H1 Fv F1 hr1 hx hn1 hf1 => ?_)
  cases ex : ownL as with
  | none => rw [ex] at q1; exact q1.elim
  | some xs =>
    rw [ex] at q1
    match xs, ex, q1 with
    | [], _, q1 => exact q1.elim
    | [_], _, q1 => exact q1.elim
    | _ :: _ :: _ :: _, _, q1 => exact q1.elim
    | [x, y], ex, q1 =>
      have hl := ownL_ok hx ex
      simp only [RVL] at hl
      obtain ⟨v, _, G1, _, rfl, h1, ⟨w, _, G2, _, rfl, h2, ⟨rfl, rfl⟩, rfl⟩, rfl⟩ := hl
      by_cases hz : i < e1.length ∧ j < e1.length
      · simp only [hz, and_self, if_true] at q1
        refine ⟨v, w, rfl, ?_⟩
        obtain ⟨Fa, ra, A1, sA, pA⟩ := hr1.store hz.1 h1
        obtain ⟨Fb, rb, B1, sB, pB⟩ := ra.store (i := j) (x := y) (v := w) (by simpa using hz.2) h2
        have nn : (G1 ++ (G2 ++ F1)).Nodup := by simpa [List.append_assoc] using hn1
        have n3 : (G2 ++ (G1 ++ A1)).Nodup := by
          refine nodup_of_perm (l := G2 ++ (G1 ++ A1)) (m := G1 ++ (G2 ++ A1)) ?_ (nn.sublist ?_)
          · rw [← List.append_assoc, ← List.append_assoc]; exact List.Perm.append_right _ List.perm_append_comm
          · exact List.Sublist.append (List.Sublist.refl _) (List.Sublist.append (List.Sublist.refl _) sA)
        have n4 : (G2 ++ Fa).Nodup := nodup_of_perm (List.Perm.append_left _ pA) n3
        have nB : Fb.Nodup := nodup_of_perm pB (n4.sublist (List.Sublist.append (List.Sublist.refl _) sB))
        refine q1 _ H1 Fb rb nB (hf1.sub fun b hb => ?_) ((Ag.set (by simp)).trans (Ag.set (by simp)))
        rcases List.mem_append.mp (pB.subset hb) with z | z
        · exact List.mem_append_left _ (List.mem_append_right _ (List.mem_append_left _ z))
        · rcases List.mem_append.mp (pA.subset (sB.subset z)) with y' | y'
          · exact List.mem_append_left _ (List.mem_append_left _ y')
          · exact List.mem_append_right _ (sA.subset y')
      · simp only [hz, if_false] at q1
        exact q1.elim

/-! ### what a loop walks -/
/-- the items that an iterator will give while what stands at Fi stands -/
def WalkP (K : PySem.W.Frag) (J : It) (items : List PV) (Fi : List Addr) (H : Hp) : Prop :=
  ∃ (G : Hp → Prop) (Y : Nat → Hp → V → Hp → Prop), Walk J items.length G Y ∧ G H ∧ (∀ H1 H2, G H1 → (∀ b o, H1 b = some o → (b ∈ Fi ∨ mutO o = false) → H2 b = some o) → G H2) ∧ Mt H Fi ∧
    ∀ i H1 x H2, G H1 → Y i H1 x H2 → Sm H1 H2 ∧ ∀ p, items[i]? = some p → RV K H2 p x []
def ImI (K : PySem.W.Frag) (mg : Str → Option Value) (W : WX) (wi : TI) (m : PEnv → EO (List PV)) : Prop := ∀ σ H R env F, RE K H env σ F → F.Nodup →
  PostE K mg W σ H F (fun items env' => ∀ J H' Fi F', RE K H' env' σ F' → (Fi ++ F').Nodup → Fm F H (Fi ++ F') H' → WalkP K J items Fi H' → R J H') (m env) → wi σ H R
/-- a loop's turns -/
def forL (t : TM) (body : SM) : List PV → SM
  | [], env => .next env
  | x :: r, env => match t x env with
    | none => .bad
    | some e => match body e with
      | .next e => forL t body r e
      | .cont e => forL t body r e
      | .brk e => .next e
      | o => o
/-- what is done to the environment at a loop's every end -/
def SO.mapE (f : PEnv → PEnv) : SO → SO
  | .next e => .next (f e)
  | .ret x e => .ret x (f e)
  | .brk e => .brk (f e)
  | .cont e => .cont (f e)
  | .exc x e => .exc x (f e)
  | .bad => .bad
theorem drop_cons {α : Type} {l : List α} {i : Nat} (h : i < l.length) : l.drop i = l[i] :: l.drop (i + 1) := List.drop_eq_getElem_cons h
/-- the environment is put right again, with what was held back -/
def Fix (K : PySem.W.Frag) (S : List Nat) (σ0 : L2.St) (Fi : List Addr) (G : Hp → Prop) (fix : PEnv → PEnv) : Prop :=
  ∀ e σ H F, RE K H e σ F → (Fi ++ F).Nodup → G H → Ag S σ0 σ → ∃ F', RE K H (fix e) σ F' ∧ F'.Nodup ∧ ∀ b ∈ F', b ∈ Fi ++ F
theorem im_forG {g : TG} {tb : TS} {t : TM} {body : SM} {fix : PEnv → PEnv} (ht : ImTg K S1 g t) (hb : ImS K mg W S2 tb body)
    {D : Ends} {σ0 : L2.St} {H0 : Hp} {F0 : List Addr} {J : It} {items : List PV} {e1 : PEnv} {H1 : Hp} {F1 Fi : List Addr} {G : Hp → Prop} {Y : Nat → Hp → V → Hp → Prop}
    (w : Walk J items.length G Y) (hr1 : RE K H1 e1 σ0 F1) (hn1 : (Fi ++ F1).Nodup) (hf1 : Fm F0 H0 (Fi ++ F1) H1) (g1 : G H1) (gk : ∀ H1 H2, G H1 → (∀ b o, H1 b = some o → (b ∈ Fi ∨ mutO o = false) → H2 b = some o) → G H2) (mi : Mt H1 Fi)
    (yy : ∀ i H1 x H2, G H1 → Y i H1 x H2 → Sm H1 H2 ∧ ∀ p, items[i]? = some p → RV K H2 p x [])
    (hfix : Fix K (S1 ++ S2) σ0 Fi G fix) (q1 : PostS K mg W (S1 ++ S2) D σ0 H0 F0 ((forL t body items e1).mapE fix)) :
    ∃ W : Nat → Nat → L2.St → Hp → Prop, (∃ m, W 0 m σ0 H1) ∧ ∀ i m σ H, W i m σ H →
      (J.stop i H ∧ D.nx σ H) ∨ (J.go i H ∧ ∃ N : L2.St → Hp → Prop, (∀ σ' H', N σ' H' → ∃ m', m' < m ∧ W (i + 1) m' σ' H') ∧ ∀ x H', J.yld i H x H' → g x σ H' fun σ2 H2 => tb { D with nx := N, ct := N, bk := D.nx } σ2 H2) := by
  have hb := hb.mono (T := S1 ++ S2) fun j z => List.mem_append_right _ z
  refine for_it w (fun i σ H => ∃ env F, RE K H env σ F ∧ (Fi ++ F).Nodup ∧ Fm F0 H0 (Fi ++ F) H ∧ G H ∧ Mt H Fi ∧ Ag (S1 ++ S2) σ0 σ ∧ PostS K mg W (S1 ++ S2) D σ0 H0 F0 ((forL t body (items.drop i) env).mapE fix))
    ⟨e1, F1, hr1, hn1, hf1, g1, mi, Ag.refl, by simpa using q1⟩ (fun i σ H _ ⟨_, _, _, _, _, z, _⟩ => z) ?_ ?_
  · rintro i x σ H H' hlt ⟨env, F, hr, hn, hf, gH, mt, ag, post⟩ y
    obtain ⟨s1, rx⟩ := yy i H x H' gH y
    have hx : items[i]? = some items[i] := by simp [hlt]
    have rx := rx _ hx
    have hr' := hr.sm s1
    have f' : Fm F0 H0 (Fi ++ F) H' := hf.trans (Fm.of_sm s1 fun b z => .inl z)
    rw [drop_cons hlt] at post
    simp only [forL] at post
    refine ht items[i] x σ H' env F [] _ hr' rx (by simpa using nd_right hn) ?_
    cases e : t items[i] env with
    | none => simp only [e, SO.mapE] at post; exact post.elim
    | some e2 =>
      simp only [e] at post
      intro σ2 F2 r2 n2 sub ag2
      have sub : ∀ b ∈ F2, b ∈ F := fun b z => by simpa using sub b z
      have ag3 : Ag (S1 ++ S2) σ0 σ2 := ag.trans (ag2.mono fun j z => List.mem_append_left _ z)
      have nF2 : (Fi ++ F2).Nodup := by
        rw [List.nodup_append] at hn ⊢
        exact ⟨hn.1, n2, fun a ha b hb => hn.2.2 a ha b (sub b hb)⟩
      have gH' : G H' := gk H H' gH fun b o e _ => s1 b o e
      have mt' : Mt H' Fi := fun b z => by obtain ⟨o, e, m⟩ := mt b z; exact ⟨o, s1 b o e, m⟩
      have f2 : Fm F0 H0 (Fi ++ F2) H' := f'.sub fun b z => by
        rcases List.mem_append.mp z with z | z
        · exact List.mem_append_left _ z
        · exact List.mem_append_right _ (sub b z)
      -- behind the body
      have fr3 : ∀ {H3 : Hp} {F3 : List Addr}, Fm F2 H' F3 H3 → Fm F0 H0 (Fi ++ F3) H3 := fun f3 => fm_both f2 f3 mt'
      have fx : ∀ {e3 : PEnv} {σ3 : L2.St} {H3 : Hp} {F3 : List Addr}, RE K H3 e3 σ3 F3 → F3.Nodup → Fm F2 H' F3 H3 → Ag (S1 ++ S2) σ2 σ3 → ∃ F', RE K H3 (fix e3) σ3 F' ∧ F'.Nodup ∧ Fm F0 H0 F' H3 := by
        intro e3 σ3 H3 F3 r3 n3 f3 a3
        have k3 := keep_ap nF2 r2.mt f3
        obtain ⟨F', x1, x2, x3⟩ := hfix e3 σ3 H3 F3 r3 (nd_later nF2 mt' f3 n3) (gk H' H3 gH' k3) (ag3.trans a3)
        exact ⟨F', x1, x2, (fr3 f3).sub x3⟩
      have on : ∀ {e3 : PEnv} {σ3 : L2.St} {H3 : Hp} {F3 : List Addr}, RE K H3 e3 σ3 F3 → F3.Nodup → Fm F2 H' F3 H3 → Ag (S1 ++ S2) σ2 σ3 → PostS K mg W (S1 ++ S2) D σ0 H0 F0 ((forL t body (items.drop (i + 1)) e3).mapE fix) →
          ∃ env F, RE K H3 env σ3 F ∧ (Fi ++ F).Nodup ∧ Fm F0 H0 (Fi ++ F) H3 ∧ G H3 ∧ Mt H3 Fi ∧ Ag (S1 ++ S2) σ0 σ3 ∧ PostS K mg W (S1 ++ S2) D σ0 H0 F0 ((forL t body (items.drop (i + 1)) env).mapE fix) := by
        intro e3 σ3 H3 F3 r3 n3 f3 a3 p3
        have k3 := keep_ap nF2 r2.mt f3
        refine ⟨e3, F3, r3, nd_later nF2 mt' f3 n3, fr3 f3, gk H' H3 gH' k3, fun b z => ?_, ag3.trans a3, p3⟩
        obtain ⟨o, e, m⟩ := mt' b z; exact ⟨o, k3 b o e (.inl z), m⟩
      refine hb _ σ2 H' e2 F2 r2 n2 ?_
      cases eb : body e2 with
      | next e3 =>
        simp only [eb] at post
        exact fun σ3 H3 F3 x1 x2 x3 x4 => on x1 x2 x3 x4 post
      | cont e3 =>
        simp only [eb] at post
        exact fun σ3 H3 F3 x1 x2 x3 x4 => on x1 x2 x3 x4 post
      | brk e3 =>
        simp only [eb, SO.mapE] at post
        intro σ3 H3 F3 x1 x2 x3 x4
        obtain ⟨F', y1, y2, y3⟩ := fx x1 x2 x3 x4
        exact post σ3 H3 F' y1 y2 y3 (ag3.trans x4)
      | ret v e3 =>
        simp only [eb, SO.mapE] at post
        intro v σ3 H3 Fv F3 x1 x2 x3 x4 x5
        have k3 := keep_ap nF2 r2.mt x4
        have n5 := nd_later nF2 mt' x4 x3
        have n6 : (Fi ++ F3).Nodup := n5.sublist (List.Sublist.append (List.Sublist.refl _) (List.sublist_append_right _ _))
        obtain ⟨F', y1, y2, y3⟩ := hfix e3 σ3 H3 F3 x1 n6 (gk H' H3 gH' k3) (ag3.trans x5)
        refine post v σ3 H3 Fv F' y1 x2 ?_ ((fr3 x4).sub fun b z => ?_) (ag3.trans x5)
        · rw [List.nodup_append]
          refine ⟨(List.nodup_append.mp x3).1, y2, fun a ha b hb e => ?_⟩
          subst e
          rcases List.mem_append.mp (y3 a hb) with z | z
          · exact (List.nodup_append.mp n5).2.2 a z a (List.mem_append_left _ ha) rfl
          · exact nd_dis x3 a ha z
        · rcases List.mem_append.mp z with z | z
          · exact List.mem_append_right _ (List.mem_append_left _ z)
          · rcases List.mem_append.mp (y3 b z) with q | q
            · exact List.mem_append_left _ q
            · exact List.mem_append_right _ (List.mem_append_right _ q)
      | exc v e3 =>
        simp only [eb, SO.mapE] at post
        intro cls d σ3 H3 F3 x1 x2 x3 x4 x5
        obtain ⟨F', y1, y2, y3⟩ := fx x1 x2 x3 x4
        exact post cls d σ3 H3 F' y1 y2 y3 (ag3.trans x4) x5
      | bad => simp only [eb, SO.mapE] at post; exact post.elim
  · rintro σ H ⟨env, F, hr, hn, hf, gH, mt, ag, post⟩
    rw [List.drop_length] at post
    obtain ⟨F', y1, y2, y3⟩ := hfix env σ H F hr hn gH ag
    exact post σ H F' y1 y2 (hf.sub y3) ag
theorem mapE_id : ∀ o : SO, o.mapE id = o := fun o => by cases o <;> rfl
def sFor (it : PEnv → EO (List PV)) (t : TM) (body : SM) : SM := fun env => (it env).toS fun items e => forL t body items e
theorem im_sFor {wi : TI} {g : TG} {tb : TS} {it : PEnv → EO (List PV)} {t : TM} {body : SM} (hi : ImI K mg W wi it) (ht : ImTg K S1 g t) (hb : ImS K mg W S2 tb body) : ImS K mg W (S1 ++ S2) (tFor wi g tb) (sFor it t body) := by
  intro D σ0 H0 env0 F0 hr0 hn0 hp
  refine hi σ0 H0 _ env0 F0 hr0 hn0 (hp.ofE.imp fun items e1 q1 J H1 Fi F1 hr1 hn1 hf1 wk => ?_)
  obtain ⟨G, Y, w, g1, gk, mi, yy⟩ := wk
  exact im_forG (fix := id) ht hb w hr1 hn1 hf1 g1 gk mi yy (fun e σ H F r n _ _ => ⟨F, r, nd_right n, fun b z => List.mem_append_right _ z⟩) (by rw [mapE_id]; exact q1)
/-- a loop over a list that a name holds: it is held back meanwhile -/
def sForV (i : Nat) (t : TM) (body : SM) : SM := fun env => match env[i]? with
  | some (some (.lst xs)) => if immL xs = true then (forL t body xs (env.set i none)).mapE (fun e => e.set i (some (.lst xs))) else .bad
  | _ => .bad
theorem im_sForV {i : Nat} {g : TG} {tb : TS} {t : TM} {body : SM} (ht : ImTg K S1 g t) (hb : ImS K mg W S2 tb body) (hi : i ∉ S1 ++ S2) : ImS K mg W (S1 ++ S2) (tFor (iList K (tVar i)) g tb) (sForV i t body) := by
  intro D σ0 H0 env0 F0 hr0 hn0 hp
  unfold sForV at hp
  split at hp
  · rename_i xs e
    by_cases him : immL xs = true
    · rw [if_pos him] at hp
      obtain ⟨v, Fi, F2, e1, h1, h2, p⟩ := hr0.take e
      simp only [RV] at h1
      obtain ⟨a, vs, F', rfl, ha, hl, rfl⟩ := h1
      have eF' := RVL.imm him hl
      subst eF'
      have n0 : ([a] ++ F2).Nodup := nodup_of_perm p.symm hn0
      refine ⟨_, e1, a, rfl, ⟨vs, SqL.of ha⟩, ?_⟩
      refine im_forG (Fi := [a]) (F1 := F2) (G := fun H => H a = some (.lst vs) ∧ RVL K H xs vs []) (Y := fun i H x H' => H' = H ∧ vs[i]? = some x) ht hb ?_ h2 n0 ⟨Kp.refl, fun b z => .inl (p.symm.subset z)⟩ ⟨ha, hl⟩ ?_ ?_ ?_ ?_ hp
      · rw [← hl.length]; exact (walk_list (K := K) (a := a) (xs := vs)).mono (fun H z => SqL.of z.1) fun _ _ _ _ _ _ y => y
      · exact fun H1 H2 z k => ⟨k a _ z.1 (.inl (by simp)), z.2.keep fun b o e m => k b o e (.inr (by simpa using m))⟩
      · intro b z; simp at z; subst z; exact ⟨_, ha, rfl⟩
      · rintro j H3 x H4 z ⟨rfl, y⟩
        exact ⟨fun _ _ e => e, fun q eq => by
          obtain ⟨v, F1, a, b, c⟩ := z.2.get eq
          rw [y] at a; cases a
          have : F1 = [] := List.eq_nil_iff_forall_not_mem.mpr fun b z => by simpa using c b z
          rw [this] at b; exact b⟩
      · intro e2 σ H F hr hn hG ag
        obtain ⟨F1, r1, s1⟩ := hr.forget (i := i)
        have hσ : σ[i]? = some (some (V.ref a)) := by rw [ag.at_ i hi]; exact e1
        have hlen : i < e2.length := by
          rw [← hr.len]
          exact (List.getElem?_eq_some_iff.mp hσ).1
        have rv : RV K H (.lst xs) (.ref a) [a] := by simp only [RV]; exact ⟨a, vs, [], rfl, hG.1, hG.2, rfl⟩
        obtain ⟨F', r', p'⟩ := r1.put hlen hσ rv
        refine ⟨F', r', nodup_of_perm p' (hn.sublist (List.Sublist.append (List.Sublist.refl _) s1)), fun b hb => ?_⟩
        rcases List.mem_append.mp (p'.subset hb) with z | z
        · exact List.mem_append_left _ z
        · exact List.mem_append_right _ (s1.subset z)
    · rw [if_neg him] at hp; exact hp.elim
  · exact hp.elim
/-! sources -/
theorem RVL.at_imm {H : Hp} {xs : List PV} {vs : List V} {F : List Addr} (hi : immL xs = true) (h : RVL K H xs vs F) {i : Nat} {p : PV} {x : V} (e1 : xs[i]? = some p) (e2 : vs[i]? = some x) : RV K H p x [] := by
  obtain ⟨v, F1, a, b, c⟩ := h.get e1
  rw [e2] at a; cases a
  have e := RVL.imm hi h
  subst e
  have : F1 = [] := List.eq_nil_iff_forall_not_mem.mpr fun b z => by simpa using c b z
  rw [this] at b; exact b
/-- a value that is walked: its items must have no mutable part -/
def itemsOf : PV → Option (List PV)
  | .lst xs => if immL xs = true then some xs else none
  | .frz xs => if immL xs = true then some xs else none
  | _ => none
def itemsOfT : PV → Option (List PV)
  | .tup xs => if immL xs = true then some xs else none
  | _ => none
/-- for .. in e, e a list -/
def itL (m : EM) : PEnv → EO (List PV) := fun env => (m env).bind fun x e => match itemsOf x with
  | some xs => .ok xs e
  | none => .bad
theorem im_itL {te : TE} {m : EM} (h : ImE K mg W te m) : ImI K mg W (iList K te) (itL m) := by
  intro σ H R env F hr hn hp
  refine h σ H _ env F hr hn (hp.bind.imp fun x e1 q1 v H1 Fv F1 hr1 hx hn1 hf1 => ?_)
  cases e : itemsOf x with
  | none => simp only [e] at q1; exact q1.elim
  | some xs =>
    simp only [e] at q1
    cases x with
    | lst ys =>
      simp only [itemsOf] at e
      split at e
      · rename_i hi
        cases e
        simp only [RV] at hx
        obtain ⟨a, vs, F', e2, h2, hl, eF⟩ := hx
        have eF' := RVL.imm hi hl
        subst eF'; subst eF
        refine ⟨a, e2, ⟨vs, SqL.of h2⟩, q1 _ H1 [a] F1 hr1 hn1 hf1 ⟨fun H => H a = some (.lst vs) ∧ RVL K H xs vs [], _, by rw [← hl.length]; exact (walk_list (K := K) (a := a) (xs := vs)).mono (fun H z => SqL.of z.1) fun _ _ _ _ _ _ y => y, ⟨h2, hl⟩, ?_, ?_, ?_⟩⟩
        · exact fun H1 H2 z k => ⟨k a _ z.1 (.inl (by simp)), z.2.keep fun b o e m => k b o e (.inr (by simpa using m))⟩
        · intro b z; simp at z; subst z; exact ⟨_, h2, rfl⟩
        · rintro i H3 x H4 z ⟨rfl, y⟩
          exact ⟨fun _ _ e => e, fun p ep => z.2.at_imm hi ep y⟩
      · cases e
    | frz ys =>
      simp only [itemsOf] at e
      split at e
      · rename_i hi
        cases e
        simp only [RV] at hx
        obtain ⟨a, vs, e2, h2, hl, eF⟩ := hx
        subst eF
        refine ⟨a, e2, ⟨vs, h2.toL⟩, q1 _ H1 [] F1 hr1 hn1 hf1 ⟨fun H => SqF K H a vs ∧ RVL K H xs vs [], _, by rw [← hl.length]; exact (walk_list (K := K) (a := a) (xs := vs)).mono (fun H z => z.1.toL) fun _ _ _ _ _ _ y => y, ⟨h2, hl⟩, ?_, ?_, ?_⟩⟩
        · exact fun H1 H2 z k => ⟨z.1.kp fun b o e m => k b o e (.inr m), z.2.keep fun b o e m => k b o e (.inr (by simpa using m))⟩
        · intro b z; simp at z
        · rintro i H3 x H4 z ⟨rfl, y⟩
          exact ⟨fun _ _ e => e, fun p ep => z.2.at_imm hi ep y⟩
      · cases e
    | _ => simp [itemsOf] at e
/-- .. a tuple -/
def itT (m : EM) : PEnv → EO (List PV) := fun env => (m env).bind fun x e => match itemsOfT x with
  | some xs => .ok xs e
  | none => .bad
theorem im_itT {te : TE} {m : EM} (h : ImE K mg W te m) : ImI K mg W (iTup K te) (itT m) := by
  intro σ H R env F hr hn hp
  refine h σ H _ env F hr hn (hp.bind.imp fun x e1 q1 v H1 Fv F1 hr1 hx hn1 hf1 => ?_)
  cases e : itemsOfT x with
  | none => simp only [e] at q1; exact q1.elim
  | some xs =>
    simp only [e] at q1
    cases x with
    | tup ys =>
      simp only [itemsOfT] at e
      split at e
      · rename_i hi
        cases e
        simp only [RV] at hx
        obtain ⟨a, vs, e2, h2, hl⟩ := hx
        have eF' := RVL.imm hi hl
        subst eF'
        refine ⟨a, e2, ⟨vs, h2⟩, q1 _ H1 [] F1 hr1 hn1 hf1 ⟨fun H => SqT K H a vs ∧ RVL K H xs vs [], _, by rw [← hl.length]; exact (walk_tup (K := K) (a := a) (xs := vs)).mono (fun H z => z.1) fun _ _ _ _ _ _ y => y, ⟨h2, hl⟩, ?_, ?_, ?_⟩⟩
        · exact fun H1 H2 z k => ⟨SqT.kp z.1 fun b o e m => k b o e (.inr m), z.2.keep fun b o e m => k b o e (.inr (by simpa using m))⟩
        · intro b z; simp at z
        · rintro i H3 x H4 z ⟨rfl, y⟩
          exact ⟨fun _ _ e => e, fun p ep => z.2.at_imm hi ep y⟩
      · cases e
    | _ => simp [itemsOfT] at e
/-- range -/
def rngL (lo : Int) (n : Nat) : List PV := (List.range n).map fun k => .int (lo + (k : Nat))
theorem ints_len (lo : Int) (n : Nat) : (rngL lo n).length = n := by simp [rngL]
theorem ints_get {lo : Int} {n i : Nat} {p : PV} (h : (rngL lo n)[i]? = some p) : p = .int (lo + (i : Nat)) := by
  simp only [rngL, List.getElem?_map, Option.map_eq_some_iff] at h
  obtain ⟨k, hk, e⟩ := h
  have e2 : k = i := by
    have := List.getElem?_eq_some_iff.mp hk
    obtain ⟨_, e⟩ := this
    simpa using e.symm
  rw [← e, e2]
theorem walk_rngL {H : Hp} (lo : Int) (n : Nat) : WalkP K (Itr lo n) (rngL lo n) [] H := by
  refine ⟨fun _ => True, _, by rw [ints_len]; exact walk_range, trivial, fun _ _ _ _ => trivial, by intro b z; simp at z, ?_⟩
  rintro i H1 x H2 _ ⟨rfl, rfl⟩
  exact ⟨fun _ _ e => e, fun p ep => by rw [ints_get ep]; simp [RV]⟩
/-- a bound that range takes (told so that the kernel is stuck on a symbolic one) -/
def rngOk (j : Int) : Prop := j.natAbs < 2 ^ 62
instance (j : Int) : Decidable (rngOk j) := Nat.decLt _ _
theorem rngOk_of {j : Int} (h1 : -1000000000 ≤ j) (h2 : j ≤ 1000000000) : rngOk j := by
  unfold rngOk
  omega
def itR1 (a : AM) : PEnv → EO (List PV) := fun env => (a env).bind fun as e => match seeL e as with
  | some [.int j] => if rngOk j then .ok (rngL 0 j.toNat) e else .bad
  | _ => .bad
theorem im_itR1 {ta : TA} {a : AM} (h : ImA K mg W ta a) : ImI K mg W (iRng1 ta) (itR1 a) := by
  intro σ H R env F hr hn hp
  refine h σ H _ env F hr hn (hp.bind.imp fun as e1 q1 vs H1 Fv F1 hr1 hx hn1 hf1 => ?_)
  cases es : seeL e1 as with
  | none => rw [es] at q1; exact q1.elim
  | some ps =>
    rw [es] at q1
    have hb := seeL_ok hr1 hx es
    split at q1
    · rename_i j ep
      cases ep
      simp only [RB, RV] at hb
      obtain ⟨v, _, _, rfl, ⟨rfl, _⟩, rfl⟩ := hb
      by_cases hj : rngOk j
      · simp only [hj, if_true] at q1
        have hj' : j.natAbs < 2 ^ 62 := hj
        exact ⟨j, rfl, by omega, by omega, q1 _ H1 [] F1 hr1 (nd_right hn1) (fm_left hf1) (walk_rngL 0 _)⟩
      · simp only [hj, if_false] at q1; exact q1.elim
    · exact q1.elim
def itR2 (a : AM) : PEnv → EO (List PV) := fun env => (a env).bind fun as e => match seeL e as with
  | some [.int i, .int j] => if rngOk i ∧ rngOk j then .ok (rngL i (j - i).toNat) e else .bad
  | _ => .bad
theorem im_itR2 {ta : TA} {a : AM} (h : ImA K mg W ta a) : ImI K mg W (iRng2 ta) (itR2 a) := by
  intro σ H R env F hr hn hp
  refine h σ H _ env F hr hn (hp.bind.imp fun as e1 q1 vs H1 Fv F1 hr1 hx hn1 hf1 => ?_)
  cases es : seeL e1 as with
  | none => rw [es] at q1; exact q1.elim
  | some ps =>
    rw [es] at q1
    have hb := seeL_ok hr1 hx es
    split at q1
    · rename_i i j ep
      cases ep
      simp only [RB, RV] at hb
      obtain ⟨v, _, _, rfl, ⟨rfl, _⟩, w, _, _, rfl, ⟨rfl, _⟩, rfl⟩ := hb
      by_cases hj : rngOk i ∧ rngOk j
      · simp only [hj, and_self, if_true] at q1
        have hi' : i.natAbs < 2 ^ 62 := hj.1
        have hj' : j.natAbs < 2 ^ 62 := hj.2
        exact ⟨i, j, rfl, ⟨by omega, by omega, by omega, by omega⟩, q1 _ H1 [] F1 hr1 (nd_right hn1) (fm_left hf1) (walk_rngL i _)⟩
      · simp only [hj, if_false] at q1; exact q1.elim
    · exact q1.elim

/-! ### while -/
def whileL (c : BM) (body : SM) : Nat → SM
  | 0, _ => .bad
  | n + 1, env => (c env).toS fun b e => if b = true then (match body e with
    | .next e => whileL c body n e
    | .cont e => whileL c body n e
    | .brk e => .next e
    | o => o) else .next e
theorem im_whileL {tc : TT} {tb : TS} {c : BM} {body : SM} (n : Nat) (hc : ImT K mg W tc c) (hb : ImS K mg W S tb body) : ImS K mg W S (tWhile tc tb) (whileL c body n) := by
  intro D σ0 H0 env0 F0 hr0 hn0 hp
  refine ⟨fun m σ H => ∃ env F, RE K H env σ F ∧ F.Nodup ∧ Fm F0 H0 F H ∧ Ag S σ0 σ ∧ PostS K mg W S D σ0 H0 F0 (whileL c body m env), ⟨n, env0, F0, hr0, hn0, Fm.refl, Ag.refl, hp⟩, ?_⟩
  rintro m σ H ⟨env, F, hr, hn, hf, ag, post⟩
  cases m with
  | zero => exact post.elim
  | succ m =>
    simp only [whileL] at post
    refine hc σ H _ env F hr hn ((post.ofE2 hf ag).imp fun b e1 q1 H1 F1 hr1 hn1 hf1 => ?_)
    cases b with
    | false =>
      rw [if_neg Bool.false_ne_true] at q1 ⊢
      exact q1 σ H1 F1 hr1 hn1 (hf.trans hf1) ag
    | true =>
      rw [if_pos rfl] at q1 ⊢
      refine ⟨fun σ' H' => ∃ env F, RE K H' env σ' F ∧ F.Nodup ∧ Fm F0 H0 F H' ∧ Ag S σ0 σ' ∧ PostS K mg W S D σ0 H0 F0 (whileL c body m env), fun σ' H' z => ⟨m, Nat.lt_succ_self m, z⟩, ?_⟩
      refine hb _ σ H1 e1 F1 hr1 hn1 ?_
      have hf2 := hf.trans hf1
      cases eb : body e1 with
      | next e3 =>
        simp only [eb] at q1
        exact fun σ3 H3 F3 x1 x2 x3 x4 => ⟨e3, F3, x1, x2, hf2.trans x3, ag.trans x4, q1⟩
      | cont e3 =>
        simp only [eb] at q1
        exact fun σ3 H3 F3 x1 x2 x3 x4 => ⟨e3, F3, x1, x2, hf2.trans x3, ag.trans x4, q1⟩
      | brk e3 =>
        simp only [eb] at q1
        exact fun σ3 H3 F3 x1 x2 x3 x4 => q1 σ3 H3 F3 x1 x2 (hf2.trans x3) (ag.trans x4)
      | ret v e3 =>
        simp only [eb] at q1
        exact fun v σ3 H3 Fv F3 x1 x2 x3 x4 x5 => q1 v σ3 H3 Fv F3 x1 x2 x3 (hf2.trans x4) (ag.trans x5)
      | exc v e3 =>
        simp only [eb] at q1
        exact fun cls d σ3 H3 F3 x1 x2 x3 x4 x5 => q1 cls d σ3 H3 F3 x1 x2 (hf2.trans x3) (ag.trans x4) x5
      | bad => simp only [eb] at q1; exact q1.elim
end
end PVL

/-! P4: comprehensions, methods that change a name's value, stores, calls, defs. -/
namespace PVL
open PySem PySem.Spec L2

section
variable {K : PySem.W.Frag} {mg : Str → Option Value} {W : WX} {S S1 S2 T : List Nat}
/-- only what env tells matters of σ -/
theorem RE.agree {H : Hp} : ∀ {env : PEnv} {σ σ' : L2.St} {F : List Addr}, RE K H env σ F → σ'.length = σ.length → (∀ (j : Nat) (x : PV), env[j]? = some (some x) → σ'[j]? = σ[j]?) → RE K H env σ' F
  | [], σ, σ', F, h, l, _ => by
    simp only [RE] at h ⊢
    rw [h.1] at l
    exact ⟨List.length_eq_zero_iff.mp l, h.2⟩
  | none :: e, σ, σ', F, h, l, k => by
    simp only [RE] at h ⊢
    obtain ⟨y, r, rfl, h⟩ := h
    cases σ' with
    | nil => simp at l
    | cons z r' => exact ⟨z, r', rfl, RE.agree h (by simpa using l) fun j x e => by simpa using k (j + 1) x (by simpa using e)⟩
  | some x :: e, σ, σ', F, h, l, k => by
    simp only [RE] at h ⊢
    obtain ⟨v, r, F1, F2, rfl, h1, h2, eF⟩ := h
    cases σ' with
    | nil => simp at l
    | cons z r' =>
      have z0 := k 0 x rfl
      simp at z0
      subst z0
      exact ⟨v, r', F1, F2, rfl, h1, RE.agree h2 (by simpa using l) fun j x e => by simpa using k (j + 1) x (by simpa using e), eF⟩
def envWipe (env : PEnv) : List Nat → PEnv
  | [] => env
  | v :: vs => (envWipe env vs).set v none
theorem envWipe_none {env : PEnv} {j : Nat} {x : PV} : ∀ {vs : List Nat}, j ∈ vs → (envWipe env vs)[j]? = some (some x) → False
  | [], h, _ => by simp at h
  | v :: vs, h, e => by
    simp only [envWipe] at e
    by_cases hj : j = v
    · subst hj
      rw [List.getElem?_set] at e
      simp at e
    · rw [List.getElem?_set_ne (Ne.symm hj)] at e
      exact envWipe_none (by simpa [hj] using h) e
theorem RE.wipe {H : Hp} {env : PEnv} {σ : L2.St} {F : List Addr} (h : RE K H env σ F) : ∀ vs : List Nat, ∃ F', RE K H (envWipe env vs) (L2.wipe σ vs) F' ∧ F'.Sublist F
  | [] => ⟨F, h, List.Sublist.refl _⟩
  | v :: vs => by
    obtain ⟨F1, a, b⟩ := RE.wipe h vs
    obtain ⟨F2, c, d⟩ := a.forget (i := v)
    exact ⟨F2, RE.anySlot c, d.trans b⟩
theorem wipe_in {σ : L2.St} {j : Nat} : ∀ {vs : List Nat}, j ∈ vs → j < σ.length → (L2.wipe σ vs)[j]? = some none
  | [], h, _ => by simp at h
  | v :: vs, h, l => by
    simp only [L2.wipe]
    by_cases hj : j = v
    · subst hj
      rw [List.getElem?_set_self (by rw [wipe_length]; exact l)]
    · rw [List.getElem?_set_ne (Ne.symm hj)]
      exact wipe_in (by simpa [hj] using h) l
theorem wipe_ag {σ σ2 : L2.St} {vs : List Nat} (a : Ag vs (L2.wipe σ vs) σ2) : L2.wipe σ2 vs = L2.wipe σ vs := by
  have ln : σ2.length = σ.length := by rw [a.len, wipe_length]
  apply List.ext_getElem?
  intro j
  by_cases hj : j ∈ vs
  · by_cases hl : j < σ.length
    · rw [wipe_in hj (by rw [ln]; exact hl), wipe_in hj hl]
    · rw [List.getElem?_eq_none (by rw [wipe_length]; omega), List.getElem?_eq_none (by rw [wipe_length]; omega)]
  · rw [wipe_out hj, a.at_ j hj]
theorem keep_upd {H : Hp} {p : Addr} {o o' : HO} {F : List Addr} (h : H p = some o) (m : mutO o = true) (n : p ∉ F) : ∀ b u, H b = some u → (b ∈ F ∨ mutO u = false) → upd H p o' b = some u := fun b u e q => by
  rw [upd_ne]
  · exact e
  · intro z; subst z
    rcases q with q | q
    · exact n q
    · rw [h] at e; cases e; rw [m] at q; cases q
def W0 : WX := fun _ _ _ _ => False

/-! ### comprehensions -/
def lcL (vs : List Nat) (t : TM) (c : BM) (m : EM) : List PV → List PV → PEnv → EO PV
  | [], acc, env => .ok (.lst acc) env
  | x :: r, acc, env => match t x env with
    | none => .bad
    | some e => match c e with
      | .ok b e2 => if b = true then (match m e2 with
          | .ok y e3 => if acc.length < sizeLine then lcL vs t c m r (acc ++ [y]) (envWipe e3 vs) else .bad
          | _ => .bad) else lcL vs t c m r acc (envWipe e2 vs)
      | _ => .bad
def eLC (it : PEnv → EO (List PV)) (vs : List Nat) (t : TM) (c : BM) (m : EM) : EM := fun env => (it env).bind fun items e => lcL vs t c m items [] (envWipe e vs)
theorem im_eLC {wi : TI} {g : TG} {tt : TT} {te : TE} {it : PEnv → EO (List PV)} {vs : List Nat} {t : TM} {c : BM} {m : EM} (hi : ImI K mg W wi it) (ht : ImTg K S1 g t) (hS : ∀ j ∈ S1, j ∈ vs) (hc : ImT K mg W0 tt c) (hm : ImE K mg W0 te m) :
    ImE K mg W (tLc wi g tt te vs) (eLC it vs t c m) := by
  intro σ H0 Q env0 F0 hr hn hp
  refine hi σ H0 _ env0 F0 hr hn (hp.bind.imp fun items e1 q1 J H1 Fi F1 hr1 hn1 hf1 wk => ?_)
  obtain ⟨G, Y, w, g1, gk, mi, yy⟩ := wk
  intro D hD
  obtain ⟨F2, hr2, sb2⟩ := hr1.wipe vs
  have s0 : Sm H1 (upd H1 D (.lst [])) := sm_upd hD
  have nD : ∀ {G : List Addr}, Mt H1 G → D ∉ G := fun mt z => by obtain ⟨o, e, _⟩ := mt D z; rw [hD] at e; cases e
  have hn2 : (Fi ++ F2).Nodup := hn1.sublist (List.Sublist.append (List.Sublist.refl _) sb2)
  refine lc_it w (fun i Hi => ∃ env F Fa acc accV, RE K Hi env (L2.wipe σ vs) F ∧ ((Fi ++ (D :: Fa)) ++ F).Nodup ∧ Fm (Fi ++ F1) H1 ((Fi ++ (D :: Fa)) ++ F) Hi ∧ G Hi ∧ Mt Hi (Fi ++ (D :: Fa)) ∧ Hi D = some (.lst accV) ∧ RVL K Hi acc accV Fa ∧ (∀ (j : Nat) (x : PV), env[j]? = some (some x) → j ∉ vs) ∧
    PostE K mg W σ H0 F0 (fun pv env' => ∀ v H' Fv F', RE K H' env' σ F' → RV K H' pv v Fv → (Fv ++ F').Nodup → Fm F0 H0 (Fv ++ F') H' → Q v H') (lcL vs t c m (items.drop i) acc env)) ?_ ?_ ?_ ?_
  · refine ⟨envWipe e1 vs, F2, [], [], [], hr2.sm s0, ?_, ?_, gk _ _ g1 fun b o e _ => s0 b o e, ?_, upd_same, by simp [RVL], fun j x e z => envWipe_none z e, by simpa using q1⟩
    · rw [List.append_assoc, List.singleton_append, List.perm_middle.nodup_iff]
      refine List.nodup_cons.mpr ⟨fun z => ?_, hn2⟩
      rcases List.mem_append.mp z with z | z
      · exact nD mi z
      · exact nD hr1.mt (sb2.subset z)
    · refine Fm.of_sm s0 fun b z => ?_
      simp only [List.append_assoc, List.singleton_append, List.mem_append, List.mem_cons] at z ⊢
      rcases z with z | z | z
      · exact .inl (.inl z)
      · exact .inr (by rw [z]; exact hD)
      · exact .inl (.inr (sb2.subset z))
    · intro b z
      rcases List.mem_append.mp z with z | z
      · obtain ⟨o, e, m⟩ := mi b z; exact ⟨o, s0 b o e, m⟩
      · simp at z; subst z; exact ⟨_, upd_same, rfl⟩
  · exact fun i H _ ⟨_, _, _, _, _, _, _, _, z, _⟩ => z
  · rintro i x Hi H' hlt ⟨env, F, Fa, acc, accV, hr, hn, hf, gH, mt, eD, hl, nv, post⟩ y
    obtain ⟨s1, rx⟩ := yy i Hi x H' gH y
    have hx : items[i]? = some items[i] := by simp [hlt]
    have rx := rx _ hx
    rw [drop_cons hlt] at post
    simp only [lcL] at post
    refine ht items[i] x (L2.wipe σ vs) H' env F [] _ (hr.sm s1) rx (by simpa using nd_right hn) ?_
    cases e : t items[i] env with
    | none => simp only [e] at post; exact post.elim
    | some e2 =>
      simp only [e] at post
      intro σ2 G2 r2 n2 sub ag
      have sub : ∀ b ∈ G2, b ∈ F := fun b z => by simpa using sub b z
      have ew := wipe_ag (ag.mono hS)
      refine ⟨ew, ?_⟩
      have nG : ((Fi ++ (D :: Fa)) ++ G2).Nodup := by
        rw [List.nodup_append] at hn ⊢
        exact ⟨hn.1, n2, fun a ha b hb => hn.2.2 a ha b (sub b hb)⟩
      have mt' : Mt H' (Fi ++ (D :: Fa)) := fun b z => by obtain ⟨o, e, m⟩ := mt b z; exact ⟨o, s1 b o e, m⟩
      have f2 : Fm (Fi ++ F1) H1 ((Fi ++ (D :: Fa)) ++ G2) H' := (hf.trans (Fm.of_sm s1 fun b z => .inl z)).sub fun b z => by
        rcases List.mem_append.mp z with z | z
        · exact List.mem_append_left _ z
        · exact List.mem_append_right _ (sub b z)
      have gH' : G H' := gk Hi H' gH fun b o e _ => s1 b o e
      have inFi : ∀ {b : Addr}, b ∈ Fi → b ∈ Fi ++ (D :: Fa) := fun z => List.mem_append_left _ z
      refine hc σ2 H' _ e2 G2 r2 n2 ?_
      cases ec : c e2 with
      | bad => simp only [ec] at post; exact post.elim
      | exc _ _ => simp only [ec] at post; exact post.elim
      | ok b e3 =>
        simp only [ec] at post
        intro H3 F3 r3 n3 f3
        have k3 := keep_ap nG r2.mt f3
        have nG3 := nd_later nG mt' f3 n3
        have f23 := fm_both f2 f3 mt'
        have eD3 : H3 D = some (.lst accV) := k3 D _ (s1 D _ eD) (.inl (by simp))
        have mt3 : Mt H3 (Fi ++ (D :: Fa)) := fun b z => by obtain ⟨o, e, m⟩ := mt' b z; exact ⟨o, k3 b o e (.inl z), m⟩
        have hl3 : RVL K H3 acc accV Fa := (hl.sm s1).keep fun b o e m => k3 b o e (m.imp (fun z => by simp [z]) id)
        have gH3 : G H3 := gk H' H3 gH' fun b o e m => k3 b o e (m.imp inFi id)
        cases b with
        | false =>
          simp only [Bool.false_eq_true, if_false] at post ⊢
          obtain ⟨F4, r4, sb4⟩ := r3.wipe vs
          rw [ew] at r4
          exact ⟨envWipe e3 vs, F4, Fa, acc, accV, r4, nG3.sublist (List.Sublist.append (List.Sublist.refl _) sb4), f23.sub (fun b z => by
            rcases List.mem_append.mp z with z | z
            · exact List.mem_append_left _ z
            · exact List.mem_append_right _ (sb4.subset z)), gH3, mt3, eD3, hl3, fun j x e z => envWipe_none z e, post⟩
        | true =>
          simp only [if_true] at post ⊢
          refine hm σ2 H3 _ e3 F3 r3 n3 ?_
          cases em : m e3 with
          | bad => simp only [em] at post; exact post.elim
          | exc _ _ => simp only [em] at post; exact post.elim
          | ok yv e4 =>
            simp only [em] at post
            intro v H4 Fy F4 r4 hy n4 f4
            have k4 := keep_ap nG3 r3.mt f4
            have nG4 := nd_later nG3 mt3 f4 n4
            have f24 := fm_both f23 f4 mt3
            have eD4 : H4 D = some (.lst accV) := k4 D _ eD3 (.inl (by simp))
            have hl4 : RVL K H4 acc accV Fa := hl3.keep fun b o e m => k4 b o e (m.imp (fun z => by simp [z]) id)
            have gH4 : G H4 := gk H3 H4 gH3 fun b o e m => k4 b o e (m.imp inFi id)
            have nn := nG4
            simp only [List.append_assoc, List.cons_append, List.perm_middle.nodup_iff, List.nodup_cons, List.mem_append, not_or] at nn
            obtain ⟨⟨nFi, nFa, nFy, nF4⟩, _⟩ := nn
            by_cases hz : acc.length < sizeLine
            · simp only [hz, if_true] at post
              refine ⟨accV, eD4, by rw [hl.length]; exact hz, ?_⟩
              obtain ⟨F5, r5, sb5⟩ := (r4.keep (keep_upd (o' := .lst (accV ++ [v])) eD4 rfl nF4)).wipe vs
              rw [ew] at r5
              refine ⟨envWipe e4 vs, F5, Fa ++ Fy, acc ++ [yv], accV ++ [v], r5, ?_, ?_, gk _ _ gH4 (keep_upd eD4 rfl nFi), ?_, upd_same, ?_, fun j x e z => envWipe_none z e, post⟩
              · have q : ((Fi ++ (D :: Fa)) ++ (Fy ++ F5)).Nodup := nG4.sublist (List.Sublist.append (List.Sublist.refl _) (List.Sublist.append (List.Sublist.refl _) sb5))
                simpa [List.append_assoc] using q
              · refine f24.trans ⟨fun b o nb e => ?_, fun b z => .inl ?_⟩
                · rw [upd_ne]
                  · exact e
                  · intro q; subst q; exact nb (by simp)
                · simp only [List.append_assoc, List.cons_append, List.mem_append, List.mem_cons] at z ⊢
                  rcases z with z | z | z | z | z
                  · exact .inl z
                  · exact .inr (.inl z)
                  · exact .inr (.inr (.inl z))
                  · exact .inr (.inr (.inr (.inl z)))
                  · exact .inr (.inr (.inr (.inr (sb5.subset z))))
              · intro b z
                by_cases hb : b = D
                · subst hb; exact ⟨_, upd_same, rfl⟩
                · rw [upd_ne hb]
                  simp only [List.mem_append, List.mem_cons] at z
                  rcases z with z | z | z | z
                  · obtain ⟨o, e, m⟩ := mt3 b (inFi z); exact ⟨o, k4 b o e (.inl (inFi z)), m⟩
                  · exact absurd z hb
                  · exact hl4.mt b z
                  · exact hy.mt b z
              · exact (hl4.append (RVL.one hy)).keep (keep_upd eD4 rfl (by
                  rw [List.mem_append, not_or]; exact ⟨nFa, nFy⟩))
            · simp only [hz, if_false] at post; exact post.elim
  · rintro H ⟨env, F, Fa, acc, accV, hr, hn, hf, gH, mt, eD, hl, nv, post⟩
    rw [List.drop_length] at post
    simp only [lcL, PostE] at post
    have n2 : ((D :: Fa) ++ F).Nodup := by
      rw [List.append_assoc] at hn
      exact (List.nodup_append.mp hn).2.1
    refine post (.ref D) H (D :: Fa) F (hr.agree (by rw [wipe_length]) fun j x e => (wipe_out (nv j x e)).symm) ?_ n2 ((hf1.trans hf).sub fun b z => ?_)
    · simp only [RV]; exact ⟨D, accV, Fa, rfl, eD, hl, rfl⟩
    · rw [List.append_assoc]; exact List.mem_append_right _ z
end
end PVL

/-! P4b: loops and comprehensions over a list that a name holds. -/
namespace PVL
open PySem PySem.Spec L2
section
variable {K : PySem.W.Frag} {mg : Str → Option Value} {W : WX} {S S1 S2 T : List Nat}
def EO.mapE {α : Type} (f : PEnv → PEnv) : EO α → EO α
  | .ok a e => .ok a (f e)
  | .exc x e => .exc x (f e)
  | .bad => .bad
@[simp] theorem EO.mapE_ok {α : Type} (f : PEnv → PEnv) (a : α) (e : PEnv) : (EO.ok a e).mapE f = .ok a (f e) := rfl
@[simp] theorem EO.mapE_exc {α : Type} (f : PEnv → PEnv) (x : PX) (e : PEnv) : (EO.exc x e : EO α).mapE f = .exc x (f e) := rfl
@[simp] theorem EO.mapE_bad {α : Type} (f : PEnv → PEnv) : (EO.bad : EO α).mapE f = .bad := rfl
theorem im_lcG {g : TG} {tt : TT} {te : TE} {vs : List Nat} {t : TM} {c : BM} {m : EM} {fix : PEnv → PEnv} (ht : ImTg K S1 g t) (hS : ∀ j ∈ S1, j ∈ vs) (hc : ImT K mg W0 tt c) (hm : ImE K mg W0 te m)
    {Q : VK} {σ : L2.St} {H0 : Hp} {F0 : List Addr} {J : It} {items : List PV} {e1 : PEnv} {H1 : Hp} {F1 Fi : List Addr} {G : Hp → Prop} {Y : Nat → Hp → V → Hp → Prop}
    (w : Walk J items.length G Y) (hr1 : RE K H1 e1 σ F1) (hn1 : (Fi ++ F1).Nodup) (hf1 : Fm F0 H0 (Fi ++ F1) H1) (g1 : G H1) (gk : ∀ H1 H2, G H1 → (∀ b o, H1 b = some o → (b ∈ Fi ∨ mutO o = false) → H2 b = some o) → G H2) (mi : Mt H1 Fi)
    (yy : ∀ i H1 x H2, G H1 → Y i H1 x H2 → Sm H1 H2 ∧ ∀ p, items[i]? = some p → RV K H2 p x [])
    (hfix : ∀ e H F, RE K H e σ F → (Fi ++ F).Nodup → G H → ∃ F', RE K H (fix e) σ F' ∧ F'.Nodup ∧ ∀ b ∈ F', b ∈ Fi ++ F)
    (q1 : PostE K mg W σ H0 F0 (fun pv env' => ∀ v H' Fv F', RE K H' env' σ F' → RV K H' pv v Fv → (Fv ++ F').Nodup → Fm F0 H0 (Fv ++ F') H' → Q v H') ((lcL vs t c m items [] (envWipe e1 vs)).mapE fix)) :
    ∀ D, H1 D = none → ∃ W : Nat → Nat → Hp → Prop, (∃ m, W 0 m (upd H1 D (.lst []))) ∧ ∀ i m H, W i m H →
  (J.stop i H ∧ Q (.ref D) H) ∨ (J.go i H ∧ ∃ Nx : Hp → Prop, (∀ H', Nx H' → ∃ m', m' < m ∧ W (i + 1) m' H') ∧ ∀ x H', J.yld i H x H' → g x (L2.wipe σ vs) H' fun σ2 H2 => L2.wipe σ2 vs = L2.wipe σ vs ∧ tt σ2 H2 fun b H3 =>
    if b = true then te σ2 H3 fun y H4 => ∃ acc, H4 D = some (.lst acc) ∧ acc.length < sizeLine ∧ Nx (upd H4 D (.lst (acc ++ [y]))) else Nx H3) := by
  intro D hD
  obtain ⟨F2, hr2, sb2⟩ := hr1.wipe vs
  have s0 : Sm H1 (upd H1 D (.lst [])) := sm_upd hD
  have nD : ∀ {G : List Addr}, Mt H1 G → D ∉ G := fun mt z => by obtain ⟨o, e, _⟩ := mt D z; rw [hD] at e; cases e
  have hn2 : (Fi ++ F2).Nodup := hn1.sublist (List.Sublist.append (List.Sublist.refl _) sb2)
  refine lc_it w (fun i Hi => ∃ env F Fa acc accV, RE K Hi env (L2.wipe σ vs) F ∧ ((Fi ++ (D :: Fa)) ++ F).Nodup ∧ Fm (Fi ++ F1) H1 ((Fi ++ (D :: Fa)) ++ F) Hi ∧ G Hi ∧ Mt Hi (Fi ++ (D :: Fa)) ∧ Hi D = some (.lst accV) ∧ RVL K Hi acc accV Fa ∧ (∀ (j : Nat) (x : PV), env[j]? = some (some x) → j ∉ vs) ∧
    PostE K mg W σ H0 F0 (fun pv env' => ∀ v H' Fv F', RE K H' env' σ F' → RV K H' pv v Fv → (Fv ++ F').Nodup → Fm F0 H0 (Fv ++ F') H' → Q v H') ((lcL vs t c m (items.drop i) acc env).mapE fix)) ?_ ?_ ?_ ?_
  · refine ⟨envWipe e1 vs, F2, [], [], [], hr2.sm s0, ?_, ?_, gk _ _ g1 fun b o e _ => s0 b o e, ?_, upd_same, by simp [RVL], fun j x e z => envWipe_none z e, by simpa using q1⟩
    · rw [List.append_assoc, List.singleton_append, List.perm_middle.nodup_iff]
      refine List.nodup_cons.mpr ⟨fun z => ?_, hn2⟩
      rcases List.mem_append.mp z with z | z
      · exact nD mi z
      · exact nD hr1.mt (sb2.subset z)
    · refine Fm.of_sm s0 fun b z => ?_
      simp only [List.append_assoc, List.singleton_append, List.mem_append, List.mem_cons] at z ⊢
      rcases z with z | z | z
      · exact .inl (.inl z)
      · exact .inr (by rw [z]; exact hD)
      · exact .inl (.inr (sb2.subset z))
    · intro b z
      rcases List.mem_append.mp z with z | z
      · obtain ⟨o, e, m⟩ := mi b z; exact ⟨o, s0 b o e, m⟩
      · simp at z; subst z; exact ⟨_, upd_same, rfl⟩
  · exact fun i H _ ⟨_, _, _, _, _, _, _, _, z, _⟩ => z
  · rintro i x Hi H' hlt ⟨env, F, Fa, acc, accV, hr, hn, hf, gH, mt, eD, hl, nv, post⟩ y
    obtain ⟨s1, rx⟩ := yy i Hi x H' gH y
    have hx : items[i]? = some items[i] := by simp [hlt]
    have rx := rx _ hx
    rw [drop_cons hlt] at post
    simp only [lcL] at post
    refine ht items[i] x (L2.wipe σ vs) H' env F [] _ (hr.sm s1) rx (by simpa using nd_right hn) ?_
    cases e : t items[i] env with
    | none => simp only [e, EO.mapE_bad] at post; exact post.elim
    | some e2 =>
      simp only [e] at post
      intro σ2 G2 r2 n2 sub ag
      have sub : ∀ b ∈ G2, b ∈ F := fun b z => by simpa using sub b z
      have ew := wipe_ag (ag.mono hS)
      refine ⟨ew, ?_⟩
      have nG : ((Fi ++ (D :: Fa)) ++ G2).Nodup := by
        rw [List.nodup_append] at hn ⊢
        exact ⟨hn.1, n2, fun a ha b hb => hn.2.2 a ha b (sub b hb)⟩
      have mt' : Mt H' (Fi ++ (D :: Fa)) := fun b z => by obtain ⟨o, e, m⟩ := mt b z; exact ⟨o, s1 b o e, m⟩
      have f2 : Fm (Fi ++ F1) H1 ((Fi ++ (D :: Fa)) ++ G2) H' := (hf.trans (Fm.of_sm s1 fun b z => .inl z)).sub fun b z => by
        rcases List.mem_append.mp z with z | z
        · exact List.mem_append_left _ z
        · exact List.mem_append_right _ (sub b z)
      have gH' : G H' := gk Hi H' gH fun b o e _ => s1 b o e
      have inFi : ∀ {b : Addr}, b ∈ Fi → b ∈ Fi ++ (D :: Fa) := fun z => List.mem_append_left _ z
      refine hc σ2 H' _ e2 G2 r2 n2 ?_
      cases ec : c e2 with
      | bad => simp only [ec, EO.mapE_bad] at post; exact post.elim
      | exc _ _ => simp only [ec, EO.mapE_bad] at post; exact post.elim
      | ok b e3 =>
        simp only [ec] at post
        intro H3 F3 r3 n3 f3
        have k3 := keep_ap nG r2.mt f3
        have nG3 := nd_later nG mt' f3 n3
        have f23 := fm_both f2 f3 mt'
        have eD3 : H3 D = some (.lst accV) := k3 D _ (s1 D _ eD) (.inl (by simp))
        have mt3 : Mt H3 (Fi ++ (D :: Fa)) := fun b z => by obtain ⟨o, e, m⟩ := mt' b z; exact ⟨o, k3 b o e (.inl z), m⟩
        have hl3 : RVL K H3 acc accV Fa := (hl.sm s1).keep fun b o e m => k3 b o e (m.imp (fun z => by simp [z]) id)
        have gH3 : G H3 := gk H' H3 gH' fun b o e m => k3 b o e (m.imp inFi id)
        cases b with
        | false =>
          simp only [Bool.false_eq_true, if_false] at post ⊢
          obtain ⟨F4, r4, sb4⟩ := r3.wipe vs
          rw [ew] at r4
          exact ⟨envWipe e3 vs, F4, Fa, acc, accV, r4, nG3.sublist (List.Sublist.append (List.Sublist.refl _) sb4), f23.sub (fun b z => by
            rcases List.mem_append.mp z with z | z
            · exact List.mem_append_left _ z
            · exact List.mem_append_right _ (sb4.subset z)), gH3, mt3, eD3, hl3, fun j x e z => envWipe_none z e, post⟩
        | true =>
          simp only [if_true] at post ⊢
          refine hm σ2 H3 _ e3 F3 r3 n3 ?_
          cases em : m e3 with
          | bad => simp only [em, EO.mapE_bad] at post; exact post.elim
          | exc _ _ => simp only [em, EO.mapE_bad] at post; exact post.elim
          | ok yv e4 =>
            simp only [em] at post
            intro v H4 Fy F4 r4 hy n4 f4
            have k4 := keep_ap nG3 r3.mt f4
            have nG4 := nd_later nG3 mt3 f4 n4
            have f24 := fm_both f23 f4 mt3
            have eD4 : H4 D = some (.lst accV) := k4 D _ eD3 (.inl (by simp))
            have hl4 : RVL K H4 acc accV Fa := hl3.keep fun b o e m => k4 b o e (m.imp (fun z => by simp [z]) id)
            have gH4 : G H4 := gk H3 H4 gH3 fun b o e m => k4 b o e (m.imp inFi id)
            have nn := nG4
            simp only [List.append_assoc, List.cons_append, List.perm_middle.nodup_iff, List.nodup_cons, List.mem_append, not_or] at nn
            obtain ⟨⟨nFi, nFa, nFy, nF4⟩, _⟩ := nn
            by_cases hz : acc.length < sizeLine
            · simp only [hz, if_true] at post
              refine ⟨accV, eD4, by rw [hl.length]; exact hz, ?_⟩
              obtain ⟨F5, r5, sb5⟩ := (r4.keep (keep_upd (o' := .lst (accV ++ [v])) eD4 rfl nF4)).wipe vs
              rw [ew] at r5
              refine ⟨envWipe e4 vs, F5, Fa ++ Fy, acc ++ [yv], accV ++ [v], r5, ?_, ?_, gk _ _ gH4 (keep_upd eD4 rfl nFi), ?_, upd_same, ?_, fun j x e z => envWipe_none z e, post⟩
              · have q : ((Fi ++ (D :: Fa)) ++ (Fy ++ F5)).Nodup := nG4.sublist (List.Sublist.append (List.Sublist.refl _) (List.Sublist.append (List.Sublist.refl _) sb5))
                simpa [List.append_assoc] using q
              · refine f24.trans ⟨fun b o nb e => ?_, fun b z => .inl ?_⟩
                · rw [upd_ne]
                  · exact e
                  · intro q; subst q; exact nb (by simp)
                · simp only [List.append_assoc, List.cons_append, List.mem_append, List.mem_cons] at z ⊢
                  rcases z with z | z | z | z | z
                  · exact .inl z
                  · exact .inr (.inl z)
                  · exact .inr (.inr (.inl z))
                  · exact .inr (.inr (.inr (.inl z)))
                  · exact .inr (.inr (.inr (.inr (sb5.subset z))))
              · intro b z
                by_cases hb : b = D
                · subst hb; exact ⟨_, upd_same, rfl⟩
                · rw [upd_ne hb]
                  simp only [List.mem_append, List.mem_cons] at z
                  rcases z with z | z | z | z
                  · obtain ⟨o, e, m⟩ := mt3 b (inFi z); exact ⟨o, k4 b o e (.inl (inFi z)), m⟩
                  · exact absurd z hb
                  · exact hl4.mt b z
                  · exact hy.mt b z
              · exact (hl4.append (RVL.one hy)).keep (keep_upd eD4 rfl (by
                  rw [List.mem_append, not_or]; exact ⟨nFa, nFy⟩))
            · simp only [hz, if_false, EO.mapE_bad] at post; exact post.elim
  · rintro H ⟨env, F, Fa, acc, accV, hr, hn, hf, gH, mt, eD, hl, nv, post⟩
    rw [List.drop_length] at post
    simp only [lcL, EO.mapE_ok, PostE] at post
    have n2 : (Fi ++ F).Nodup := hn.sublist (List.Sublist.append (List.sublist_append_left _ _) (List.Sublist.refl _))
    have hr' := hr.agree (by rw [wipe_length]) fun j x e => (wipe_out (nv j x e)).symm
    obtain ⟨F', y1, y2, y3⟩ := hfix env H F hr' n2 gH
    refine post (.ref D) H (D :: Fa) F' y1 ?_ ?_ ((hf1.trans hf).sub fun b z => ?_)
    · simp only [RV]; exact ⟨D, accV, Fa, rfl, eD, hl, rfl⟩
    · rw [List.nodup_append]
      have n3 : ((D :: Fa) ++ F).Nodup := by
        rw [List.append_assoc] at hn
        exact (List.nodup_append.mp hn).2.1
      refine ⟨(List.nodup_append.mp n3).1, y2, fun a ha b hb e => ?_⟩
      subst e
      rcases List.mem_append.mp (y3 a hb) with z | z
      · exact (List.nodup_append.mp (List.nodup_append.mp hn).1).2.2 a z a ha rfl
      · exact nd_dis n3 a ha z
    · rcases List.mem_append.mp z with z | z
      · exact List.mem_append_left _ (List.mem_append_right _ z)
      · rcases List.mem_append.mp (y3 b z) with q | q
        · exact List.mem_append_left _ (List.mem_append_left _ q)
        · exact List.mem_append_right _ q
/-- a comprehension over a list that a name holds: it is held back meanwhile -/
def eLCV (i : Nat) (vs : List Nat) (t : TM) (c : BM) (m : EM) : EM := fun env => match env[i]? with
  | some (some (.lst xs)) => if immL xs = true then (lcL vs t c m xs [] (envWipe (env.set i none) vs)).mapE (fun e => e.set i (some (.lst xs))) else .bad
  | _ => .bad
theorem im_eLCV {i : Nat} {g : TG} {tt : TT} {te : TE} {vs : List Nat} {t : TM} {c : BM} {m : EM} (ht : ImTg K S1 g t) (hS : ∀ j ∈ S1, j ∈ vs) (hc : ImT K mg W0 tt c) (hm : ImE K mg W0 te m) :
    ImE K mg W (tLc (iList K (tVar i)) g tt te vs) (eLCV i vs t c m) := by
  intro σ H0 Q env0 F0 hr0 hn0 hp
  unfold eLCV at hp
  split at hp
  · rename_i xs e
    by_cases him : immL xs = true
    · rw [if_pos him] at hp
      obtain ⟨v, Fi, F2, e1, h1, h2, p⟩ := hr0.take e
      simp only [RV] at h1
      obtain ⟨a, vv, F', rfl, ha, hl, rfl⟩ := h1
      have eF' := RVL.imm him hl
      subst eF'
      have n0 : ([a] ++ F2).Nodup := nodup_of_perm p.symm hn0
      refine ⟨_, e1, a, rfl, ⟨vv, SqL.of ha⟩, ?_⟩
      refine im_lcG (Fi := [a]) (F1 := F2) (G := fun H => H a = some (.lst vv) ∧ RVL K H xs vv []) (Y := fun i H x H' => H' = H ∧ vv[i]? = some x) ht hS hc hm ?_ h2 n0 ⟨Kp.refl, fun b z => .inl (p.symm.subset z)⟩ ⟨ha, hl⟩ ?_ ?_ ?_ ?_ hp
      · rw [← hl.length]; exact (walk_list (K := K) (a := a) (xs := vv)).mono (fun H z => SqL.of z.1) fun _ _ _ _ _ _ y => y
      · exact fun H1 H2 z k => ⟨k a _ z.1 (.inl (by simp)), z.2.keep fun b o e m => k b o e (.inr (by simpa using m))⟩
      · intro b z; simp at z; subst z; exact ⟨_, ha, rfl⟩
      · rintro j H3 x H4 z ⟨rfl, y⟩
        exact ⟨fun _ _ e => e, fun q eq => by
          obtain ⟨v, F1, a, b, c⟩ := z.2.get eq
          rw [y] at a; cases a
          have : F1 = [] := List.eq_nil_iff_forall_not_mem.mpr fun b z => by simpa using c b z
          rw [this] at b; exact b⟩
      · intro e2 H F hr hn hG
        obtain ⟨F1, r1, s1⟩ := hr.forget (i := i)
        have hlen : i < e2.length := by
          rw [← hr.len]
          exact (List.getElem?_eq_some_iff.mp e1).1
        have rv : RV K H (.lst xs) (.ref a) [a] := by simp only [RV]; exact ⟨a, vv, [], rfl, hG.1, hG.2, rfl⟩
        obtain ⟨F', r', p'⟩ := r1.put hlen e1 rv
        refine ⟨F', r', nodup_of_perm p' (hn.sublist (List.Sublist.append (List.Sublist.refl _) s1)), fun b hb => ?_⟩
        rcases List.mem_append.mp (p'.subset hb) with z | z
        · exact List.mem_append_left _ z
        · exact List.mem_append_right _ (s1.subset z)
    · rw [if_neg him] at hp; exact hp.elim
  · exact hp.elim
/-- .. a list or a tuple that a name holds -/
def eLCVS (i : Nat) (vs : List Nat) (t : TM) (c : BM) (m : EM) : EM := fun env => match env[i]? with
  | some (some (.tup xs)) => eLC (itT (eVar i)) vs t c m env
  | _ => eLCV i vs t c m env
theorem tLc_or {w1 w2 : TI} {g : TG} {tt : TT} {te : TE} {vs : List Nat} {σ : L2.St} {H : Hp} {Q : VK} (h : tLc w1 g tt te vs σ H Q ∨ tLc w2 g tt te vs σ H Q) : tLc (fun σ H R => w1 σ H R ∨ w2 σ H R) g tt te vs σ H Q := by
  rcases h with h | h
  · exact .inl h
  · exact .inr h
theorem im_eLCVS {i : Nat} {g : TG} {tt : TT} {te : TE} {vs : List Nat} {t : TM} {c : BM} {m : EM} (ht : ImTg K S1 g t) (hS : ∀ j ∈ S1, j ∈ vs) (hc : ImT K mg W0 tt c) (hm : ImE K mg W0 te m) :
    ImE K mg W (tLc (fun σ H R => iList K (tVar i) σ H R ∨ iTup K (tVar i) σ H R) g tt te vs) (eLCVS i vs t c m) := by
  intro σ H0 Q env0 F0 hr0 hn0 hp
  unfold eLCVS at hp
  split at hp
  · exact .inr (im_eLC (im_itT (im_eVar i)) ht hS hc hm σ H0 Q env0 F0 hr0 hn0 hp)
  · exact .inl (im_eLCV ht hS hc hm σ H0 Q env0 F0 hr0 hn0 hp)
def sForVS (i : Nat) (t : TM) (body : SM) : SM := fun env => match env[i]? with
  | some (some (.tup xs)) => sFor (itT (eVar i)) t body env
  | _ => sForV i t body env
theorem im_sForVS {i : Nat} {g : TG} {tb : TS} {t : TM} {body : SM} (ht : ImTg K S1 g t) (hb : ImS K mg W S2 tb body) (hi : i ∉ S1 ++ S2) : ImS K mg W (S1 ++ S2) (tFor (fun σ H R => iList K (tVar i) σ H R ∨ iTup K (tVar i) σ H R) g tb) (sForVS i t body) := by
  intro D σ0 H0 env0 F0 hr0 hn0 hp
  unfold sForVS at hp
  split at hp
  · exact .inr (im_sFor (im_itT (im_eVar i)) ht hb D σ0 H0 env0 F0 hr0 hn0 hp)
  · exact .inl (im_sForV ht hb hi D σ0 H0 env0 F0 hr0 hn0 hp)
end
end PVL

/-! P5: methods that change a name's value, stores by place, calls, defs. -/
namespace PVL
open PySem PySem.Spec L2

section
variable {K : PySem.W.Frag} {mg : Str → Option Value} {W : WX} {S S1 S2 T : List Nat}

/-! ### a method of a built-in type upon a name -/
def tyP (T : String) : PV → Bool
  | .str _ => T == "str"
  | .lst _ => T == "list"
  | .dct _ => T == "dict"
  | _ => false
theorem tyP_ok {H : Hp} {T : String} {p : PV} {v : V} {F : List Addr} (h : RV K H p v F) (e : tyP T p = true) : tyV K T v H := by
  cases p with
  | str x => simp only [RV] at h; obtain ⟨rfl, _⟩ := h; show T = "str"; simpa [tyP] using e
  | lst xs =>
    simp only [RV] at h; obtain ⟨a, vs, F', rfl, h, _⟩ := h
    exact .inl ⟨by simpa [tyP] using e, vs, SqL.of h⟩
  | dct kvs =>
    simp only [RV] at h; obtain ⟨a, ws, F', rfl, h, _⟩ := h
    refine .inr (.inr (.inl ⟨by simpa [tyP] using e, ?_⟩))
    rcases h with ⟨vs, h, _⟩ | ⟨vs, h, _⟩
    · exact .inl ⟨vs, h⟩
    · exact .inr ⟨vs, h⟩
  | _ => simp [tyP] at e
/-- a change in place: the receiver and the owned arguments before, the receiver and the result behind -/
def ChgO (K : PySem.W.Frag) (H : Hp) (F : List Addr) (x : V) (Q : VK) : Option (PV × PV) → Prop
  | some (res, p') => ∀ v H' Fv Fx', RV K H' p' x Fx' → RV K H' res v Fv → (Fv ++ Fx').Nodup → Fm F H (Fv ++ Fx') H' → Q v H'
  | none => False
def SimM (K : PySem.W.Frag) (r : V → List V → Hp → VK → Prop) (f : PV → List PV → Option (PV × PV)) : Prop :=
  ∀ x vs H Q p xs Fx Fa, RV K H p x Fx → RVL K H xs vs Fa → (Fa ++ Fx).Nodup → ChgO K H (Fa ++ Fx) x Q (f p xs) → r x vs H Q
def SimMB (K : PySem.W.Frag) (r : V → List V → Hp → VK → Prop) (f : PV → List PV → Option (PV × PV)) : Prop :=
  ∀ x vs H Q p xs Fx, RV K H p x Fx → Fx.Nodup → RB K H xs vs → ChgO K H Fx x Q (f p xs) → r x vs H Q
/-- the end of a change at a name -/
theorem fin_chg {σ : L2.St} {H H1 : Hp} {F Fa F1 Fx F2 : List Addr} {e : PEnv} {i : Nat} {x : V} {Q : VK} {o : Option (PV × PV)}
    (hf : Fm F H (Fa ++ F1) H1) (n : (Fa ++ F1).Nodup) (p : F1.Perm (Fx ++ F2)) (mt : Mt H1 (Fa ++ Fx)) (r2 : RE K H1 (e.set i none) σ F2) (hσ : σ[i]? = some (some x)) (hl : i < e.length)
    (hp : PostE K mg W σ H F (fun pv env' => ∀ v H' Fv F', RE K H' env' σ F' → RV K H' pv v Fv → (Fv ++ F').Nodup → Fm F H (Fv ++ F') H' → Q v H') (match o with | some (res, p') => .ok res (e.set i (some p')) | none => .bad)) : ChgO K H1 (Fa ++ Fx) x Q o := by
  cases o with
  | none => exact hp
  | some rp =>
    obtain ⟨res, p'⟩ := rp
    simp only [PostE] at hp
    intro v H' Fv Fx' rx rv nn f
    have nP : (Fa ++ (Fx ++ F2)).Nodup := nodup_of_perm (List.Perm.append_left _ p.symm) n
    have n3 : ((Fa ++ Fx) ++ F2).Nodup := by rw [List.append_assoc]; exact nP
    have n4 : (F2 ++ (Fa ++ Fx)).Nodup := nodup_of_perm List.perm_append_comm n3
    have r3 := r2.keep (keep_ap n4 mt f)
    obtain ⟨F', r4, p4⟩ := r3.put hl hσ rx
    have n5 := nd_later n4 r2.mt f nn
    have n6 : (Fv ++ F').Nodup := by
      refine nodup_of_perm (List.Perm.append_left Fv p4) ?_
      rw [← List.append_assoc]
      exact nodup_of_perm List.perm_append_comm n5
    refine hp v H' Fv F' r4 rv n6 (hf.trans ⟨f.kp.mono fun b z => ?_, fun b z => ?_⟩)
    · rcases List.mem_append.mp z with z | z
      · exact List.mem_append_left _ z
      · exact List.mem_append_right _ (p.symm.subset (List.mem_append_left _ z))
    · have go : b ∈ Fv ++ Fx' → b ∈ Fa ++ F1 ∨ H1 b = none := fun z => (f.fr b z).imp (fun z => by
        rcases List.mem_append.mp z with z | z
        · exact List.mem_append_left _ z
        · exact List.mem_append_right _ (p.symm.subset (List.mem_append_left _ z))) id
      rcases List.mem_append.mp z with z | z
      · exact go (List.mem_append_left _ z)
      · rcases List.mem_append.mp (p4.subset z) with z | z
        · exact go (List.mem_append_right _ z)
        · exact .inl (List.mem_append_right _ (p.symm.subset (List.mem_append_right _ z)))
theorem slot_lt {e : PEnv} {i : Nat} {x : Option PV} (h : e[i]? = some x) : i < e.length := (List.getElem?_eq_some_iff.mp h).1
/-- name.m(args), the arguments owned -/
def eMeth (T : String) (i : Nat) (f : PV → List PV → Option (PV × PV)) (a : AM) : EM := fun env => match env[i]? with
  | some (some p0) => if tyP T p0 = true then (a env).bind fun as e => (match e[i]? with
      | some (some p) => (match ownL as with
        | some xs => (match f p xs with | some (res, p') => .ok res (e.set i (some p')) | none => .bad)
        | none => .bad)
      | _ => .bad) else .bad
  | _ => .bad
theorem im_eMeth {T : String} {i : Nat} {r : V → List V → Hp → VK → Prop} {f : PV → List PV → Option (PV × PV)} {ta : TA} {a : AM} (hs : SimM K r f) (ha : ImA K mg W ta a) : ImE K mg W (tBM K T r (tVar i) ta) (eMeth T i f a) := by
  intro σ H Q env F hr hn hp
  unfold eMeth at hp
  split at hp
  · rename_i p0 e0
    by_cases ht : tyP T p0 = true
    · rw [if_pos ht] at hp
      obtain ⟨x, F1, e1, h1⟩ := hr.get e0
      refine ⟨x, e1, tyP_ok h1 ht, ha σ H _ env F hr hn (hp.bind.imp fun as e q vs H1 Fa F1 hr1 hx hn1 hf1 => ?_)⟩
      split at q
      · rename_i p ep
        split at q
        · rename_i xs ex
          have hl := ownL_ok hx ex
          obtain ⟨x', Fx, F2, ex', hx', r2, pm⟩ := hr1.take ep
          rw [e1] at ex'; cases ex'
          refine hs x vs H1 Q p xs Fx Fa hx' hl ?_ (fin_chg hf1 hn1 pm ?_ r2 e1 (slot_lt ep) q)
          · have := nodup_of_perm (List.Perm.append_left Fa pm.symm) hn1
            rw [← List.append_assoc] at this
            exact (List.nodup_append.mp this).1
          · intro b z
            rcases List.mem_append.mp z with z | z
            · exact hx.mt b z
            · exact hx'.mt b z
        · exact q.elim
      · exact q.elim
    · rw [if_neg ht] at hp; exact hp.elim
  · exact hp.elim
def eMeth0 (T : String) (i : Nat) (f : PV → List PV → Option (PV × PV)) : EM := fun env => match env[i]? with
  | some (some p) => if tyP T p = true then (match f p [] with | some (res, p') => .ok res (env.set i (some p')) | none => .bad) else .bad
  | _ => .bad
theorem im_eMeth0 {T : String} {i : Nat} {r : V → List V → Hp → VK → Prop} {f : PV → List PV → Option (PV × PV)} (hs : SimM K r f) : ImE K mg W (tBM0 K T r (tVar i)) (eMeth0 T i f) := by
  intro σ H Q env F hr hn hp
  unfold eMeth0 at hp
  split at hp
  · rename_i p ep
    by_cases ht : tyP T p = true
    · rw [if_pos ht] at hp
      obtain ⟨x, Fx, F2, e1, hx, r2, pm⟩ := hr.take ep
      refine ⟨x, e1, tyP_ok hx ht, hs x [] H Q p [] Fx [] hx (by simp [RVL]) ?_ (fin_chg (F := F) (Fa := []) (F1 := F) Fm.refl (by simpa using hn) pm ?_ r2 e1 (slot_lt ep) hp)⟩
      · have := nodup_of_perm pm.symm hn
        simpa using (List.nodup_append.mp this).1
      · simpa using hx.mt
    · rw [if_neg ht] at hp; exact hp.elim
  · exact hp.elim
/-- name.m(args), the arguments read -/
def eMethB (T : String) (i : Nat) (f : PV → List PV → Option (PV × PV)) (a : AM) : EM := fun env => match env[i]? with
  | some (some p0) => if tyP T p0 = true then (a env).bind fun as e => (match e[i]? with
      | some (some p) => (match seeL e as with
        | some xs => (match f p xs with | some (res, p') => .ok res (e.set i (some p')) | none => .bad)
        | none => .bad)
      | _ => .bad) else .bad
  | _ => .bad
theorem im_eMethB {T : String} {i : Nat} {r : V → List V → Hp → VK → Prop} {f : PV → List PV → Option (PV × PV)} {ta : TA} {a : AM} (hs : SimMB K r f) (ha : ImA K mg W ta a) : ImE K mg W (tBM K T r (tVar i) ta) (eMethB T i f a) := by
  intro σ H Q env F hr hn hp
  unfold eMethB at hp
  split at hp
  · rename_i p0 e0
    by_cases ht : tyP T p0 = true
    · rw [if_pos ht] at hp
      obtain ⟨x, F1, e1, h1⟩ := hr.get e0
      refine ⟨x, e1, tyP_ok h1 ht, ha σ H _ env F hr hn (hp.bind.imp fun as e q vs H1 Fa F1 hr1 hx hn1 hf1 => ?_)⟩
      split at q
      · rename_i p ep
        split at q
        · rename_i xs ex
          have hl := seeL_ok hr1 hx ex
          obtain ⟨x', Fx, F2, ex', hx', r2, pm⟩ := hr1.take ep
          rw [e1] at ex'; cases ex'
          have nx : Fx.Nodup := (List.nodup_append.mp (nodup_of_perm pm.symm (nd_right hn1))).1
          exact hs x vs H1 Q p xs Fx hx' nx hl (fin_chg (Fa := []) (F1 := F1) (by simpa using fm_left hf1) (by simpa using nd_right hn1) pm (by simpa using hx'.mt) r2 e1 (slot_lt ep) q)
        · exact q.elim
      · exact q.elim
    · rw [if_neg ht] at hp; exact hp.elim
  · exact hp.elim

/-! ### stores by place -/
def SetO (K : PySem.W.Frag) (H : Hp) (F : List Addr) (x : V) (Q : Hp → Prop) : Option PV → Prop
  | some p' => ∀ H' Fx', RV K H' p' x Fx' → Fx'.Nodup → Fm F H Fx' H' → Q H'
  | none => False
def SimSet (K : PySem.W.Frag) (r : TSet) (f : PV → PV → PV → Option PV) : Prop :=
  ∀ o k v H Q p pk pv Fo Fk Fv, RV K H p o Fo → RV K H pk k Fk → RV K H pv v Fv → (Fv ++ Fo).Nodup → SetO K H (Fv ++ Fo) o Q (f p pk pv) → r o k v H Q
theorem fin_set {D : Ends} {σ : L2.St} {H H1 : Hp} {F Fa F1 Fx F2 : List Addr} {e : PEnv} {i : Nat} {x : V} {o : Option PV}
    (hf : Fm F H (Fa ++ F1) H1) (n : (Fa ++ F1).Nodup) (p : F1.Perm (Fx ++ F2)) (mt : Mt H1 (Fa ++ Fx)) (r2 : RE K H1 (e.set i none) σ F2) (hσ : σ[i]? = some (some x)) (hl : i < e.length)
    (hp : PostS K mg W S D σ H F (match o with | some p' => .next (e.set i (some p')) | none => .bad)) : SetO K H1 (Fa ++ Fx) x (fun H' => D.nx σ H') o := by
  cases o with
  | none => exact hp
  | some p' =>
    simp only [PostS] at hp
    intro H' Fx' rx nn f
    have nP : (Fa ++ (Fx ++ F2)).Nodup := nodup_of_perm (List.Perm.append_left _ p.symm) n
    have n3 : ((Fa ++ Fx) ++ F2).Nodup := by rw [List.append_assoc]; exact nP
    have n4 : (F2 ++ (Fa ++ Fx)).Nodup := nodup_of_perm List.perm_append_comm n3
    have r3 := r2.keep (keep_ap n4 mt f)
    obtain ⟨F', r4, p4⟩ := r3.put hl hσ rx
    have n5 := nd_later n4 r2.mt f nn
    have n6 : F'.Nodup := nodup_of_perm p4 (nodup_of_perm List.perm_append_comm n5)
    refine hp σ H' F' r4 n6 (hf.trans ⟨f.kp.mono fun b z => ?_, fun b z => ?_⟩) Ag.refl
    · rcases List.mem_append.mp z with z | z
      · exact List.mem_append_left _ z
      · exact List.mem_append_right _ (p.symm.subset (List.mem_append_left _ z))
    · have go : b ∈ Fx' → b ∈ Fa ++ F1 ∨ H1 b = none := fun z => (f.fr b z).imp (fun z => by
        rcases List.mem_append.mp z with z | z
        · exact List.mem_append_left _ z
        · exact List.mem_append_right _ (p.symm.subset (List.mem_append_left _ z))) id
      rcases List.mem_append.mp (p4.subset z) with z | z
      · exact go z
      · exact .inl (List.mem_append_right _ (p.symm.subset (List.mem_append_right _ z)))
/-- name[k] = e -/
def sSetIx (i : Nat) (k : RM) (f : PV → PV → PV → Option PV) (m : EM) : SM := fun env => (m env).toS fun v e => match e[i]? with
  | some (some p) => (match k e with
    | some pk => (match f p pk v with | some p' => .next (e.set i (some p')) | none => .bad)
    | none => .bad)
  | _ => .bad
theorem im_sSetIx {i : Nat} {te tk : TE} {m : EM} {k : RM} {r : TSet} {f : PV → PV → PV → Option PV} (hs : SimSet K r f) (hm : ImE K mg W te m) (hk : ImR K tk k) : ImS K mg W S (tAsg te (gSub (tVar i) tk r)) (sSetIx i k f m) := by
  intro D σ H env F hr hn hp
  refine hm σ H _ env F hr hn (hp.ofE.imp fun pv e q v H1 Fv F1 hr1 hx hn1 hf1 => ?_)
  split at q
  · rename_i p ep
    obtain ⟨x, Fx, F2, ex, hx', r2, pm⟩ := hr1.take ep
    refine ⟨x, ex, hk σ H1 _ e F1 hr1 ?_⟩
    cases ek : k e with
    | none => simp only [ek] at q; exact q.elim
    | some pk =>
      simp only [ek] at q
      intro kv H2 Fk s2 rk
      have mt : Mt H1 (Fv ++ Fx) := fun b z => by
        rcases List.mem_append.mp z with z | z
        · exact hx.mt b z
        · exact hx'.mt b z
      refine hs x kv v H2 _ p pk pv Fx Fk Fv (hx'.sm s2) rk (hx.sm s2) ?_ (fin_set (hf1.trans (Fm.of_sm s2 fun b z => .inl z)) hn1 pm (fun b z => by obtain ⟨o, e, m⟩ := mt b z; exact ⟨o, s2 b o e, m⟩) (r2.sm s2) ex (slot_lt ep) q)
      have := nodup_of_perm (List.Perm.append_left Fv pm.symm) hn1
      rw [← List.append_assoc] at this
      exact (List.nodup_append.mp this).1
  · exact q.elim
/-- name op= e -/
def SimI (K : PySem.W.Frag) (r : TIp) (f : PV → PV → Option PV) : Prop := ∀ x y H Q px py Fx Fy, RV K H px x Fx → RV K H py y Fy → NewO K H Q (f px py) → r x y H Q
def sAug (i : Nat) (f : PV → PV → Option PV) (m : EM) : SM := fun env => match env[i]? with
  | some (some p) => if p.imm = true then (m env).toS fun v e => (match f p v with | some z => if i < e.length then .next (e.set i (some z)) else .bad | none => .bad) else .bad
  | _ => .bad
theorem im_sAug {i : Nat} {te : TE} {m : EM} {r : TIp} {f : PV → PV → Option PV} (hs : SimI K r f) (hm : ImE K mg W te m) : ImS K mg W [i] (tAug i te r) (sAug i f m) := by
  intro D σ H env F hr hn hp
  unfold sAug at hp
  split at hp
  · rename_i p ep
    by_cases hi : p.imm = true
    · rw [if_pos hi] at hp
      obtain ⟨x, Fx, ex, hx⟩ := hr.get ep
      have eF := RV.imm hi hx
      subst eF
      refine ⟨x, ex, hm σ H _ env F hr hn (hp.ofE.imp fun pv e q v H1 Fv F1 hr1 hv hn1 hf1 => ?_)⟩
      have hx1 : RV K H1 p x [] := hx.keep (keep_of (fm_left hf1).kp hr.mt (by simp))
      refine hs x v H1 _ p pv [] Fv hx1 hv ?_
      cases ef : f p pv with
      | none => simp only [ef] at q; exact q.elim
      | some z =>
        simp only [ef] at q
        by_cases hl : i < e.length
        · rw [if_pos hl] at q
          intro w H2 Fz s2 rw' nz fz
          obtain ⟨F', r', G, sG, pG⟩ := (hr1.sm s2).store hl rw'
          have nn : (Fz ++ G).Nodup := by
            rw [List.nodup_append]
            refine ⟨nz, (nd_right hn1).sublist sG, fun a ha b hb e => ?_⟩
            subst e
            obtain ⟨o, e, _⟩ := hr1.mt a (sG.subset hb)
            rw [fz a ha] at e; cases e
          refine q _ H2 F' r' (nodup_of_perm pG nn) ((fm_left hf1).trans (Fm.of_sm s2 fun b z => ?_)) (Ag.set (by simp))
          rcases List.mem_append.mp (pG.subset z) with z | z
          · exact .inr (fz b z)
          · exact .inl (sG.subset z)
        · rw [if_neg hl] at q; exact q.elim
    · rw [if_neg hi] at hp; exact hp.elim
  · exact hp.elim
/-- name[k] op= e -/
def sAugIx (i : Nat) (k : RM) (g : PV → PV → Option PV) (m : EM) (f : PV → PV → Option PV) (st : PV → PV → PV → Option PV) : SM := fun env => match env[i]? with
  | some (some p) => (match k env with
    | some pk => if pk.imm = true then (match immO (g p pk) with
      | some x => (m env).toS fun v e => (match f x v with
        | some z => if z.imm = true then (match e[i]? with
          | some (some p1) => (match st p1 pk z with | some p' => .next (e.set i (some p')) | none => .bad)
          | _ => .bad) else .bad
        | none => .bad)
      | none => .bad) else .bad
    | none => .bad)
  | _ => .bad
theorem im_sAugIx {i : Nat} {te tk : TE} {m : EM} {k : RM} {rg : V → V → Hp → VK → Prop} {g : PV → PV → Option PV} {ri : TIp} {f : PV → PV → Option PV} {rs : TSet} {st : PV → PV → PV → Option PV}
    (hg : SimB2 K rg g) (hi : SimI K ri f) (hs : SimSet K rs st) (hk : ImR K tk k) (hm : ImE K mg W te m) : ImS K mg W S (tAugS (tVar i) tk te rg ri rs) (sAugIx i k g m f st) := by
  intro D σ H env F hr hn hp
  unfold sAugIx at hp
  split at hp
  · rename_i p ep
    obtain ⟨o, Fo, eo, ho⟩ := hr.get ep
    refine ⟨o, eo, hk σ H _ env F hr ?_⟩
    cases ek : k env with
    | none => simp only [ek] at hp; exact hp.elim
    | some pk =>
      simp only [ek] at hp
      by_cases hik : pk.imm = true
      · simp only [hik, if_true] at hp
        intro kv H1 Fk s1 rk
        have eF := RV.imm hik rk
        subst eF
        refine hg o kv H1 _ p pk Fo [] (ho.sm s1) rk ?_
        cases eg : g p pk with
        | none => simp only [eg, immO] at hp; exact hp.elim
        | some x =>
          simp only [eg, immO] at hp
          by_cases hix : x.imm = true
          · simp only [hix, if_true] at hp
            intro xv H2 Fx s2 rx
            have eF := RV.imm hix rx
            subst eF
            have f12 : Fm F H F H2 := Fm.of_sm (s1.trans s2) fun b z => .inl z
            have hr2 := hr.sm (s1.trans s2)
            refine hm σ H2 _ env F hr2 hn ((hp.ofE2 f12 Ag.refl).imp fun pv e q v H3 Fv F3 hr3 hv hn3 hf3 => ?_)
            have kk := keep_of (F := []) (fm_left hf3).kp hr2.mt (by simp)
            have rx3 : RV K H3 x xv [] := rx.keep kk
            have rk3 : RV K H3 pk kv [] := (rk.sm s2).keep kk
            refine hi xv v H3 _ x pv [] Fv rx3 hv ?_
            cases ef : f x pv with
            | none => simp only [ef] at q; exact q.elim
            | some z =>
              simp only [ef] at q
              by_cases hz : z.imm = true
              · simp only [hz, if_true] at q
                split at q
                · rename_i p1 ep1
                  intro zv H4 Fz s4 rz nz fz
                  have eF := RV.imm hz rz
                  subst eF
                  obtain ⟨o', Fx, F2, eo', ho', r2, pm⟩ := hr3.take ep1
                  rw [eo] at eo'; cases eo'
                  have nn := nd_right hn3
                  refine hs o kv zv H4 _ p1 pk z Fx [] [] (ho'.sm s4) (rk3.sm s4) rz ?_ (fin_set (Fa := []) (F1 := F3) (by simpa using (f12.trans (fm_left hf3)).trans (Fm.of_sm s4 fun b z => .inl z)) (by simpa using nn) pm (by
                    intro b z
                    obtain ⟨o, e, m⟩ := ho'.mt b (by simpa using z)
                    exact ⟨o, s4 b o e, m⟩) (r2.sm s4) eo (slot_lt ep1) q)
                  simpa using (List.nodup_append.mp (nodup_of_perm pm.symm nn)).1
                · exact q.elim
              · simp only [hz] at q; exact q.elim
          · simp only [hix] at hp; exact hp.elim
      · simp only [hik] at hp; exact hp.elim
  · exact hp.elim

/-! ### calls -/
inductive FO where
  | ok (x : PV) (ps : List (Option PV))
  | exc (x : PX) (ps : List (Option PV))
  | bad
abbrev FM := List PV → FO
def PostF (K : PySem.W.Frag) (mg : Str → Option Value) (vs : List V) (H : Hp) (F : List Addr) (Q : VK) (E : XK) : FO → Prop
  | .ok x ps => ∀ v H' Fv Fp, RV K H' x v Fv → RE K H' ps (vs.map some) Fp → (Fv ++ Fp).Nodup → Fm F H (Fv ++ Fp) H' → Q v H'
  | .exc x ps => ∀ cls d H' Fp, RE K H' ps (vs.map some) Fp → Fp.Nodup → Fm F H Fp H' → RX K mg x cls d H' → E cls d H'
  | .bad => False
/-- the promise of a def that does as a pure function says -/
def spF (K : PySem.W.Frag) (mg : Str → Option Value) (n : Nat) (f : FM) : Sp := fun vs H Q E => ∃ ps F, ps.length = n ∧ RVL K H ps vs F ∧ F.Nodup ∧ PostF K mg vs H F Q E (f ps)
def takeA : List Arg → PEnv → Option (List PV × PEnv)
  | [], e => some ([], e)
  | .own x :: r, e => (takeA r e).map fun z => (x :: z.1, z.2)
  | .ref i :: r, e => match e[i]? with
    | some (some p) => if p.imm = true then (takeA r e).map fun z => (p :: z.1, z.2) else (takeA r (e.set i none)).map fun z => (p :: z.1, z.2)
    | _ => none
def putA : List Arg → List (Option PV) → PEnv → PEnv
  | .own _ :: r, _ :: ps, e => putA r ps e
  | .ref i :: r, some p :: ps, e => putA r ps (e.set i (some p))
  | .ref _ :: r, none :: ps, e => putA r ps e
  | _, _, e => e
theorem takeA_ok {H : Hp} {σ : L2.St} : ∀ {as : List Arg} {e : PEnv} {vs : List V} {Fv F : List Addr} {ps : List PV} {e1 : PEnv}, RGs K H σ as vs Fv → RE K H e σ F → takeA as e = some (ps, e1) →
    e1.length = e.length ∧ ∃ Fa Fr, RVL K H ps vs Fa ∧ RE K H e1 σ Fr ∧ (Fv ++ F).Perm (Fa ++ Fr)
  | [], e, vs, Fv, F, ps, e1, h, hr, ht => by
    simp only [takeA, Option.some.injEq, Prod.mk.injEq] at ht
    obtain ⟨rfl, rfl⟩ := ht
    simp only [RGs] at h
    obtain ⟨rfl, rfl⟩ := h
    exact ⟨rfl, [], F, by simp [RVL], hr, by simp⟩
  | .own x :: r, e, vs, Fv, F, ps, e1, h, hr, ht => by
    simp only [takeA, Option.map_eq_some_iff] at ht
    obtain ⟨⟨ps', e'⟩, ht, eq⟩ := ht
    cases eq
    simp only [RGs, RG] at h
    obtain ⟨v, vr, F1, F2, rfl, h1, h2, rfl⟩ := h
    obtain ⟨hl, Fa, Fr, a, b, c⟩ := takeA_ok h2 hr ht
    refine ⟨hl, F1 ++ Fa, Fr, RVL.cons h1 a, b, ?_⟩
    rw [List.append_assoc, List.append_assoc]
    exact List.Perm.append_left _ c
  | .ref i :: r, e, vs, Fv, F, ps, e1, h, hr, ht => by
    simp only [RGs, RG] at h
    obtain ⟨v, vr, F1, F2, rfl, ⟨hσ, rfl⟩, h2, rfl⟩ := h
    simp only [takeA] at ht
    split at ht
    · rename_i p ep
      by_cases hi : p.imm = true
      · rw [if_pos hi] at ht
        simp only [Option.map_eq_some_iff] at ht
        obtain ⟨⟨ps', e'⟩, ht, eq⟩ := ht
        cases eq
        obtain ⟨v', G, ev, hv⟩ := hr.get ep
        rw [hσ] at ev; cases ev
        have eG := RV.imm hi hv
        subst eG
        obtain ⟨hl, Fa, Fr, a, b, c⟩ := takeA_ok h2 hr ht
        exact ⟨hl, [] ++ Fa, Fr, RVL.cons hv a, b, by simpa using c⟩
      · rw [if_neg hi] at ht
        simp only [Option.map_eq_some_iff] at ht
        obtain ⟨⟨ps', e'⟩, ht, eq⟩ := ht
        cases eq
        obtain ⟨v', G1, G2, ev, hv, hr2, pm⟩ := hr.take ep
        rw [hσ] at ev; cases ev
        obtain ⟨hl, Fa, Fr, a, b, c⟩ := takeA_ok h2 hr2 ht
        refine ⟨by simpa using hl, G1 ++ Fa, Fr, RVL.cons hv a, b, ?_⟩
        rw [List.append_assoc]
        refine (List.Perm.append_left _ pm).trans ?_
        rw [← List.append_assoc]
        refine (List.Perm.append_right G2 List.perm_append_comm).trans ?_
        rw [List.append_assoc]
        exact List.Perm.append_left _ c
    · cases ht
theorem putA_ok {H : Hp} {σ : L2.St} : ∀ {as : List Arg} {vs : List V} {Fg : List Addr} {ps : List (Option PV)} {e : PEnv} {Fp F : List Addr} {H0 : Hp}, RGs K H0 σ as vs Fg → RE K H ps (vs.map some) Fp → RE K H e σ F → (Fp ++ F).Nodup →
    ∃ F', RE K H (putA as ps e) σ F' ∧ F'.Nodup ∧ ∀ b ∈ F', b ∈ Fp ++ F
  | [], vs, Fg, ps, e, Fp, F, H0, hg, hp, hr, n => by
    cases ps <;> exact ⟨F, by simpa [putA] using hr, nd_right n, fun b z => List.mem_append_right _ z⟩
  | .own x :: r, vs, Fg, ps, e, Fp, F, H0, hg, hp, hr, n => by
    simp only [RGs, RG] at hg
    obtain ⟨v, vr, F1, F2, rfl, _, hg, _⟩ := hg
    cases ps with
    | nil => exact ⟨F, by simpa [putA] using hr, nd_right n, fun b z => List.mem_append_right _ z⟩
    | cons p ps =>
      simp only [putA]
      cases p with
      | none =>
        simp only [List.map_cons, RE] at hp
        obtain ⟨y, s, eq, hp⟩ := hp
        cases eq
        exact putA_ok hg hp hr n
      | some p =>
        simp only [List.map_cons, RE] at hp
        obtain ⟨y, s, G1, G2, eq, _, hp, rfl⟩ := hp
        cases eq
        rw [List.append_assoc] at n
        obtain ⟨F', a, b, c⟩ := putA_ok hg hp hr (List.nodup_append.mp n).2.1
        exact ⟨F', a, b, fun b z => by rw [List.append_assoc]; exact List.mem_append_right _ (c b z)⟩
  | .ref i :: r, vs, Fg, ps, e, Fp, F, H0, hg, hp, hr, n => by
    simp only [RGs, RG] at hg
    obtain ⟨v, vr, F1, F2, rfl, ⟨hσ, _⟩, hg, _⟩ := hg
    cases ps with
    | nil => exact ⟨F, by simpa [putA] using hr, nd_right n, fun b z => List.mem_append_right _ z⟩
    | cons p ps =>
      cases p with
      | none =>
        simp only [putA]
        simp only [List.map_cons, RE] at hp
        obtain ⟨y, s, eq, hp⟩ := hp
        cases eq
        exact putA_ok hg hp hr n
      | some p =>
        simp only [putA]
        simp only [List.map_cons, RE] at hp
        obtain ⟨y, s, G1, G2, eq, hv, hp, rfl⟩ := hp
        cases eq
        obtain ⟨F0, r0, s0⟩ := hr.forget (i := i)
        have hl : i < e.length := by rw [← hr.len]; exact (List.getElem?_eq_some_iff.mp hσ).1
        obtain ⟨F3, r3, p3⟩ := r0.put hl hσ hv
        have n2 : (G2 ++ (G1 ++ F)).Nodup := by
          refine nodup_of_perm ?_ n
          rw [← List.append_assoc]
          exact List.Perm.append_right _ List.perm_append_comm
        have n3 : (G2 ++ F3).Nodup := nodup_of_perm (List.Perm.append_left _ p3) (n2.sublist (List.Sublist.append (List.Sublist.refl _) (List.Sublist.append (List.Sublist.refl _) s0)))
        obtain ⟨F', a, b, c⟩ := putA_ok hg hp r3 n3
        refine ⟨F', a, b, fun b z => ?_⟩
        rcases List.mem_append.mp (c b z) with z | z
        · exact List.mem_append_left _ (List.mem_append_right _ z)
        · rcases List.mem_append.mp (p3.subset z) with z | z
          · exact List.mem_append_left _ (List.mem_append_left _ z)
          · exact List.mem_append_right _ (s0.subset z)
def eCall (f : FM) (a : AM) : EM := fun env => (a env).bind fun as e => match takeA as e with
  | some (ps, e1) => (match f ps with
    | .ok x qs => .ok x (putA as qs e1)
    | .exc x qs => .exc x (putA as qs e1)
    | .bad => .bad)
  | none => .bad
theorem im_eCall {n : Nat} {f : FM} {ta : TA} {a : AM} (ha : ImA K mg W ta a) (hn' : ∀ env as e, a env = .ok as e → as.length = n) : ImE K mg W (tCallS (spF K mg n f) (WE W) ta) (eCall f a) := by
  intro σ H Q env F hr hn hp
  have hlen := hn' env
  unfold eCall at hp
  cases ea : a env with
  | bad => rw [ea] at hp; exact hp.elim
  | exc x e => exact ha σ H _ env F hr hn (by rw [ea] at hp ⊢; exact hp)
  | ok as e =>
    refine ha σ H _ env F hr hn ?_
    rw [ea] at hp ⊢
    simp only [EO.bind_ok] at hp
    have hl : as.length = n := hlen as e ea
    intro vs H1 Fv F1 hr1 hx hn1 hf1
    cases et : takeA as e with
    | none => rw [et] at hp; exact hp.elim
    | some z =>
      obtain ⟨ps, e1⟩ := z
      rw [et] at hp
      simp only at hp
      obtain ⟨hl1, Fa, Fr, hv, hr2, pm⟩ := takeA_ok hx hr1 et
      have nA : (Fa ++ Fr).Nodup := nodup_of_perm pm.symm hn1
      have nB : (Fr ++ Fa).Nodup := nodup_of_perm List.perm_append_comm nA
      have hf2 : Fm F H (Fa ++ Fr) H1 := hf1.sub fun b z => pm.symm.subset z
      have lps : ps.length = n := by
        rw [← hv.length, ← hl]
        clear hp et hr2 hv pm nA nB hf2 hl ea hl1
        induction as generalizing vs Fv with
        | nil => simp only [RGs] at hx; rw [hx.1]; rfl
        | cons x r ih =>
          simp only [RGs] at hx
          obtain ⟨v, vr, G1, G2, rfl, _, hx, rfl⟩ := hx
          have := ih vr G2 hx (by rw [List.append_assoc] at hn1; exact (List.nodup_append.mp hn1).2.1) (hf1.sub fun b z => by rw [List.append_assoc]; exact List.mem_append_right _ z)
          simp [this]
      refine ⟨ps, Fa, lps, hv, (List.nodup_append.mp nA).1, ?_⟩
      cases ef : f ps with
      | bad => rw [ef] at hp; exact hp.elim
      | ok x qs =>
        rw [ef] at hp
        intro v H2 Fw Fp rx rp np fm
        have hr3 := hr2.keep (keep_ap nB hv.mt fm)
        have n5 := nd_later nB hr2.mt fm np
        have n6 : ((Fw ++ Fp) ++ Fr).Nodup := nodup_of_perm List.perm_append_comm n5
        rw [List.append_assoc] at n6
        obtain ⟨F', a, b, c⟩ := putA_ok hx rp hr3 (List.nodup_append.mp n6).2.1
        refine hp v H2 Fw F' a rx ?_ (hf2.trans ⟨fm.kp.mono fun b z => List.mem_append_left _ z, fun b z => ?_⟩)
        · rw [List.nodup_append]
          refine ⟨(List.nodup_append.mp n6).1, b, fun q hq w hw e => ?_⟩
          subst e
          exact (List.nodup_append.mp n6).2.2 q hq q (c q hw) rfl
        · have go : b ∈ Fw ++ Fp → b ∈ Fa ++ Fr ∨ H1 b = none := fun z => (fm.fr b z).imp (fun z => List.mem_append_left _ z) id
          rcases List.mem_append.mp z with z | z
          · exact go (List.mem_append_left _ z)
          · rcases List.mem_append.mp (c b z) with z | z
            · exact go (List.mem_append_right _ z)
            · exact .inl (List.mem_append_right _ z)
      | exc x qs =>
        rw [ef] at hp
        intro cls d H2 Fp rp np fm rx
        have hr3 := hr2.keep (keep_ap nB hv.mt fm)
        have n5 := nd_later nB hr2.mt fm np
        have n6 : (Fp ++ Fr).Nodup := nodup_of_perm List.perm_append_comm n5
        obtain ⟨F', a, b, c⟩ := putA_ok hx rp hr3 n6
        refine hp cls d H2 F' a b (hf2.trans ⟨fm.kp.mono fun b z => List.mem_append_left _ z, fun b z => ?_⟩) rx
        rcases List.mem_append.mp (c b z) with z | z
        · exact (fm.fr b z).imp (fun z => List.mem_append_left _ z) id
        · exact .inl (List.mem_append_right _ z)
end
end PVL

/-! P6: defs as pure functions; the joint judgements (rule and pure function at once). -/
namespace PVL
open PySem PySem.Spec L2

/-! ### defs -/
def finals : List PV → PEnv → List (Option PV)
  | [], _ => []
  | p :: r, x :: e => (if p.imm = true then some p else x) :: finals r e
  | _ :: r, [] => none :: finals r []
/-- a def: so many parameters, so many names, the parameters that are stored, the body -/
def fnM (n m : Nat) (asg : List Nat) (body : SM) : FM := fun ps => if asg.all (fun j => match ps[j]? with | some p => p.imm | none => true) = true then
    (match body (ps.map some ++ List.replicate (m - n) none) with
    | .next e => .ok .non (finals ps e)
    | .ret x e => .ok x (finals ps e)
    | .exc x e => .exc x (finals ps e)
    | _ => .bad) else .bad
section
variable {K : PySem.W.Frag} {mg : Str → Option Value}
theorem start_ok {H : Hp} {N : Nat} : ∀ {ps : List PV} {vs : List V} {F : List Addr}, RVL K H ps vs F → RE K H (ps.map some ++ List.replicate N none) (vs.map some ++ List.replicate N none) F
  | [], vs, F, h => by
    simp only [RVL] at h
    obtain ⟨rfl, rfl⟩ := h
    simp only [List.map_nil, List.nil_append]
    induction N with
    | zero => simp [RE]
    | succ n ih => simp only [List.replicate_succ, RE]; exact ⟨_, _, rfl, ih⟩
  | p :: ps, vs, F, h => by
    simp only [RVL] at h
    obtain ⟨v, vr, F1, F2, rfl, h1, h2, rfl⟩ := h
    simp only [List.map_cons, List.cons_append, RE]
    exact ⟨v, _, F1, F2, rfl, h1, start_ok h2, rfl⟩
theorem finals_ok {H H' : Hp} {X : L2.St} (k : ∀ b o, H b = some o → mutO o = false → H' b = some o) : ∀ {ps : List PV} {vs : List V} {F0 : List Addr} {e : PEnv} {σ : L2.St} {F : List Addr}, RVL K H ps vs F0 → RE K H' e σ F →
    (∀ (j : Nat) (p : PV), ps[j]? = some p → p.imm = false → σ[j]? = (vs.map some)[j]?) → ∃ F', RE K H' (finals ps e) (vs.map some) F' ∧ F'.Sublist F
  | [], vs, F0, e, σ, F, h, hr, _ => by
    simp only [RVL] at h
    obtain ⟨rfl, rfl⟩ := h
    exact ⟨[], by simp [finals, RE], List.nil_sublist _⟩
  | p :: ps, vs, F0, [], σ, F, h, hr, q => by
    simp only [RVL] at h
    obtain ⟨v, vr, F1, F2, rfl, h1, h2, rfl⟩ := h
    simp only [RE] at hr
    obtain ⟨rfl, rfl⟩ := hr
    obtain ⟨F', a, b⟩ := finals_ok (X := X) k (e := []) (σ := []) (F := []) h2 (by simp [RE]) fun j p' e1 e2 => by simpa using q (j + 1) p' (by simpa using e1) e2
    exact ⟨F', by simp only [finals, List.map_cons, RE]; exact ⟨_, _, rfl, a⟩, b⟩
  | p :: ps, vs, F0, x :: e, σ, F, h, hr, q => by
    simp only [RVL] at h
    obtain ⟨v, vr, F1, F2, rfl, h1, h2, rfl⟩ := h
    have q' : ∀ {y : Option V} {s : L2.St}, σ = y :: s → ∀ (j : Nat) (p' : PV), ps[j]? = some p' → p'.imm = false → s[j]? = (vr.map some)[j]? := fun eq j p' e1 e2 => by
      subst eq
      simpa using q (j + 1) p' (by simpa using e1) e2
    by_cases hi : p.imm = true
    · have eF := RV.imm hi h1
      subst eF
      have h1' : RV K H' p v [] := h1.keep fun b o e m => k b o e (by simpa using m)
      simp only [finals, if_pos hi, List.map_cons, RE]
      cases x with
      | none =>
        simp only [RE] at hr
        obtain ⟨y, s, rfl, hr⟩ := hr
        obtain ⟨F', a, b⟩ := finals_ok (X := X) k h2 hr (q' rfl)
        exact ⟨F', ⟨v, _, [], F', rfl, h1', a, rfl⟩, b⟩
      | some x =>
        simp only [RE] at hr
        obtain ⟨y, s, G1, G2, rfl, _, hr, rfl⟩ := hr
        obtain ⟨F', a, b⟩ := finals_ok (X := X) k h2 hr (q' rfl)
        exact ⟨F', ⟨v, _, [], F', rfl, h1', a, rfl⟩, b.trans (List.sublist_append_right _ _)⟩
    · simp only [finals, if_neg hi, List.map_cons]
      cases x with
      | none =>
        simp only [RE] at hr ⊢
        obtain ⟨y, s, rfl, hr⟩ := hr
        obtain ⟨F', a, b⟩ := finals_ok (X := X) k h2 hr (q' rfl)
        exact ⟨F', ⟨_, _, rfl, a⟩, b⟩
      | some x =>
        simp only [RE] at hr ⊢
        obtain ⟨y, s, G1, G2, rfl, hx, hr, rfl⟩ := hr
        have e0 := q 0 p rfl (by simpa using hi)
        simp at e0
        subst e0
        obtain ⟨F', a, b⟩ := finals_ok (X := X) k h2 hr (q' rfl)
        exact ⟨G1 ++ F', ⟨y, _, G1, F', rfl, hx, a, rfl⟩, List.Sublist.append (List.Sublist.refl _) b⟩
theorem im_fn {n m : Nat} {asg S : List Nat} {t : TS} {body : SM} {E : XK} {N : List Str} (hN : N.length = m) (hS : ∀ j ∈ S, j < n → j ∈ asg) (hb : ImS K mg (fun cls d _ H => E cls d H) S t body) {vs : List V} {H : Hp} {Q : VK}
    (h : spF K mg n (fnM n m asg body) vs H Q E) : t { nx := fun _ H' => Q .non H', rt := Q } (L2.start N vs) H := by
  obtain ⟨ps, F, hl, hv, hn, hp⟩ := h
  unfold fnM at hp
  by_cases ha : asg.all (fun j => match ps[j]? with | some p => p.imm | none => true) = true
  · simp only [ha, if_true] at hp
    have lv : vs.length = n := by rw [hv.length, hl]
    have e0 : L2.start N vs = vs.map some ++ List.replicate (m - n) none := by unfold L2.start; rw [hN, lv]
    rw [e0]
    have fin : ∀ {e : PEnv} {σ' : L2.St} {H' : Hp} {F' : List Addr}, RE K H' e σ' F' → Fm F H F' H' → Ag S (vs.map some ++ List.replicate (m - n) none) σ' → ∃ Fp, RE K H' (finals ps e) (vs.map some) Fp ∧ Fp.Sublist F' := by
      intro e σ' H' F' hr f ag
      refine finals_ok (X := []) (fun b o e m => f.kp b o (fun z => ?_) e) hv hr fun j p e1 e2 => ?_
      · obtain ⟨o', e', m'⟩ := hv.mt b z
        rw [e] at e'; cases e'; rw [m] at m'; cases m'
      · have hj : j < n := by rw [← hl]; exact (List.getElem?_eq_some_iff.mp e1).1
        rw [ag.at_ j fun z => ?_]
        · rw [List.getElem?_append_left (by rw [List.length_map, lv]; exact hj)]
        · have := List.all_eq_true.mp ha j (hS j z hj)
          rw [e1] at this
          simp only at this
          rw [this] at e2; cases e2
    refine hb _ _ H _ F (start_ok hv) hn ?_
    cases eb : body (ps.map some ++ List.replicate (m - n) none) with
    | next e =>
      simp only [eb] at hp
      intro σ' H' F' x1 x2 x3 x4
      obtain ⟨Fp, a, b⟩ := fin x1 x3 x4
      exact hp .non H' [] Fp (by simp [RV]) a (by simpa using x2.sublist b) (x3.sub fun z y => b.subset (by simpa using y))
    | ret x e =>
      simp only [eb] at hp
      intro v σ' H' Fv F' x1 x2 x3 x4 x5
      obtain ⟨Fp, a, b⟩ := fin x1 (fm_left x4) x5
      exact hp v H' Fv Fp x2 a (x3.sublist (List.Sublist.append (List.Sublist.refl _) b)) (x4.sub fun z y => (List.Sublist.append (List.Sublist.refl Fv) b).subset y)
    | brk e => simp only [eb] at hp; exact hp.elim
    | cont e => simp only [eb] at hp; exact hp.elim
    | exc x e =>
      simp only [eb] at hp
      intro cls d σ' H' F' x1 x2 x3 x4 x5
      obtain ⟨Fp, a, b⟩ := fin x1 x3 x4
      exact hp cls d H' Fp a (x2.sublist b) (x3.sub fun z y => b.subset y) x5
    | bad => simp only [eb] at hp; exact hp.elim
  · simp only [ha] at hp; exact hp.elim
theorem spF_len {n : Nat} {f : FM} {ps : List Str} (h : ps.length = n) : ∀ vs H Q E, spF K mg n f vs H Q E → vs.length = ps.length := fun vs H Q E ⟨qs, F, hl, hv, _⟩ => by rw [hv.length, hl, h]
end

/-! ### rule and pure function at once -/
structure JE (X : Cx) (W : WX) (e : Expr) (t : TE) (m : EM) : Prop where
  pe : PE X e t
  im : ImE X.K X.mg W t m
structure JG (X : Cx) (W : WX) (e : Expr) (t : TE) (m : GM) : Prop where
  pe : PE X e t
  im : ImG X.K X.mg W t m
structure JR (X : Cx) (e : Expr) (t : TE) (m : RM) : Prop where
  pe : PE X e t
  im : ImR X.K t m
structure JA (X : Cx) (W : WX) (es : List Expr) (t : TA) (m : AM) : Prop where
  pa : PA X es t
  im : ImA X.K X.mg W t m
  len : ∀ env as e, m env = .ok as e → as.length = es.length
structure JT (X : Cx) (W : WX) (e : Expr) (t : TT) (m : BM) : Prop where
  pt : PT X e t
  im : ImT X.K X.mg W t m
structure JW (X : Cx) (W : WX) (e : Expr) (t : TT) (m : BM) : Prop where
  pw : PW X e t
  im : ImT X.K X.mg W t m
structure JS (X : Cx) (W : WX) (S : List Nat) (st : Stmt) (t : TS) (m : SM) : Prop where
  ps : PS X st t
  im : ImS X.K X.mg W S t m
structure JSs (X : Cx) (W : WX) (S : List Nat) (st : List Stmt) (t : TS) (m : SM) : Prop where
  ps : PSs X st t
  im : ImS X.K X.mg W S t m
structure JP (X : Cx) (S : List Nat) (e : Expr) (t : TG) (m : TM) : Prop where
  pg : PG X e t
  im : ImTg X.K S t m
structure JPs (X : Cx) (S : List Nat) (es : List Expr) (t : TGs) (m : List PV → PEnv → Option PEnv) : Prop where
  pg : PGs X es t
  im : ImTgs X.K S t m
structure JI (X : Cx) (W : WX) (tg e : Expr) (t : TI) (m : PEnv → EO (List PV)) : Prop where
  pi : PI X tg e t
  im : ImI X.K X.mg W t m

section
variable {X : Cx} {W : WX} {S S1 S2 : List Nat} {e a b c : Expr} {es : List Expr} {te ta tb : TE} {tA : TA} {m ma mb : EM} {ga gb : GM} {ra rb : RM} {am : AM} {pos : Pos}
/-! expressions -/
theorem j_int {i j} : JE X W (.Constant (.int i) j pos) (tC (.int i)) (eC (.int i)) := ⟨pe_int, im_eC⟩
theorem j_str {x j} : JE X W (.Constant (.str x) j pos) (tC (.str x)) (eC (.str x)) := ⟨pe_str, im_eC⟩
theorem j_bl {x j} : JE X W (.Constant (.bool x) j pos) (tC (.bl x)) (eC (.bl x)) := ⟨pe_bl, im_eC⟩
theorem j_non {j} : JE X W (.Constant .none j pos) (tC .non) (eC .non) := ⟨pe_non, im_eC⟩
theorem jr_int {i j} : JR X (.Constant (.int i) j pos) (tC (.int i)) (rC (.int i)) := ⟨pe_int, im_rC⟩
theorem jr_str {x j} : JR X (.Constant (.str x) j pos) (tC (.str x)) (rC (.str x)) := ⟨pe_str, im_rC⟩
theorem jr_bl {x j} : JR X (.Constant (.bool x) j pos) (tC (.bl x)) (rC (.bl x)) := ⟨pe_bl, im_rC⟩
theorem jr_non {j} : JR X (.Constant .none j pos) (tC .non) (rC .non) := ⟨pe_non, im_rC⟩
theorem j_var (i : Nat) {x : Str} (hN : X.N[i]? = some x := by rfl) (hv : Vis X.env.scope x := by first | exact Or.inl rfl | exact Or.inr (Or.inl rfl) | exact Or.inr (Or.inr rfl)) (hd : (x == ("__debug__" : Str)) = false := by decide)
    (hcd : (x == ("__classdict__" : Str)) = false := by decide) : JE X W (.Name x pos) (tVar i) (eVar i) := ⟨pe_var hN hv hd hcd, im_eVar i⟩
theorem jr_var (i : Nat) {x : Str} (hN : X.N[i]? = some x := by rfl) (hv : Vis X.env.scope x := by first | exact Or.inl rfl | exact Or.inr (Or.inl rfl) | exact Or.inr (Or.inr rfl)) (hd : (x == ("__debug__" : Str)) = false := by decide)
    (hcd : (x == ("__classdict__" : Str)) = false := by decide) : JR X (.Name x pos) (tVar i) (rVar i) := ⟨pe_var hN hv hd hcd, im_rVar i⟩
theorem jg_var (i : Nat) {x : Str} (hN : X.N[i]? = some x := by rfl) (hv : Vis X.env.scope x := by first | exact Or.inl rfl | exact Or.inr (Or.inl rfl) | exact Or.inr (Or.inr rfl)) (hd : (x == ("__debug__" : Str)) = false := by decide)
    (hcd : (x == ("__classdict__" : Str)) = false := by decide) : JG X W (.Name x pos) (tVar i) (gRef i) := ⟨pe_var hN hv hd hcd, im_gRef i⟩
theorem jg (h : JE X W e te m) : JG X W e te (gOwn m) := ⟨h.pe, im_gOwn h.im⟩
theorem j_r (h : JR X e te ra) : JE X W e te (eR ra) := ⟨h.pe, im_eR h.im⟩
theorem ja_nil : JA X W [] tNil aNil := ⟨pa_nil, im_aNil, fun env as e h => by simp only [aNil, EO.ok.injEq] at h; rw [← h.1]; rfl⟩
theorem ja_cons (h : JG X W e te ga) (r : JA X W es tA am) (hs : starEach (e :: es) X.env = (false, eval e X.env) :: starEach es X.env := by rfl) : JA X W (e :: es) (tCons te tA) (aCons ga am) := by
  refine ⟨pa_cons h.pe r.pa hs, im_aCons h.im r.im, fun env as e1 h1 => ?_⟩
  unfold aCons at h1
  cases eg : ga env with
  | bad => rw [eg] at h1; cases h1
  | exc x e2 => rw [eg] at h1; cases h1
  | ok x e2 =>
    rw [eg] at h1
    simp only [EO.bind_ok] at h1
    cases ea : am e2 with
    | bad => rw [ea] at h1; cases h1
    | exc x e3 => rw [ea] at h1; cases h1
    | ok r3 e3 =>
      rw [ea] at h1
      simp only [EO.bind_ok, EO.ok.injEq] at h1
      rw [← h1.1, List.length_cons, List.length_cons, r.len e2 r3 e3 ea]
theorem j_tup {x1} (h : JA X W es tA am) : JE X W (.Tuple es x1 pos) (tTup tA) (eTup am) := ⟨pe_tup h.pa, im_eTup h.im⟩
theorem j_lst (h : JA X W es tA am) : JE X W (.List es pos) (tLst tA) (eLst am) := ⟨pe_lst h.pa, im_eLst h.im⟩
theorem j_op {op : Operator} {r : R2} {f : PV → PV → Option PV} (hs : SimR2 X.K r f) (ho : OpR X (binaryOp op) r) (ha : JG X W a ta ga) (hb : JG X W b tb gb) : JE X W (.BinOp a op b pos) (tOp r ta tb) (eOp f ga gb) := ⟨pe_op ho ha.pe hb.pe, im_op hs ha.im hb.im⟩
theorem jr_op {op : Operator} {r : R2} {f : PV → PV → Option PV} (hs : SimR2 X.K r f) (ho : OpR X (binaryOp op) r) (ha : JR X a ta ra) (hb : JR X b tb rb) : JR X (.BinOp a op b pos) (tOp r ta tb) (rOp f ra rb) := ⟨pe_op ho ha.pe hb.pe, im_rOp hs.b ha.im hb.im⟩
theorem j_un {op : UnaryOp} {r : V → Hp → VK → Prop} {f : PV → Option PV} (hs : SimU X.K r f) (ho : UnR X (unaryOp op) r) (ha : JG X W a ta ga) : JE X W (.UnaryOp op a pos) (tUn r ta) (eUn f ga) := ⟨pe_un ho ha.pe, im_un hs ha.im⟩
theorem jr_un {op : UnaryOp} {r : V → Hp → VK → Prop} {f : PV → Option PV} (hs : SimU X.K r f) (ho : UnR X (unaryOp op) r) (ha : JR X a ta ra) : JR X (.UnaryOp op a pos) (tUn r ta) (rUn f ra) := ⟨pe_un ho ha.pe, im_rUn hs ha.im⟩
theorem j_cmp {op : CmpOp} {r : R2} {f : PV → PV → Option PV} (hs : SimR2 X.K r f) (ho : OpR X (compareOp op) r) (hm : behindInMarks op b = false) (ha : JG X W a ta ga) (hb : JG X W b tb gb) : JE X W (.Compare a [op] [b] pos) (tOp r ta tb) (eOp f ga gb) := ⟨pe_cmpR ho ha.pe hb.pe hm, im_op hs ha.im hb.im⟩
theorem jt_cmp {op : CmpOp} {r : R2} {f : PV → PV → Option PV} (hs : SimR2 X.K r f) (ho : OpR X (compareOp op) r) (hm : behindInMarks op b = false) (ha : JG X W a ta ga) (hb : JG X W b tb gb) : JT X W (.Compare a [op] [b] pos) (tTest (tOp r ta tb)) (bE (eOp f ga gb)) := ⟨pt_cmpR ho ha.pe hb.pe hm, im_bE (im_op hs ha.im hb.im)⟩
/-- x[i] -/
theorem j_ix {r : R2} {f : PV → PV → Option PV} (hs : SimB2 X.K r f) (hr : IxR X r) (ha : JG X W a ta ga) (hb : JG X W b tb gb) (hp : PlainIx b := by intro _ _; rfl) : JE X W (.Subscript a b pos) (tOp r ta tb) (eOp (fun x y => immO (f x y)) ga gb) := ⟨pe_ix hr ha.pe hb.pe hp, im_op hs.i ha.im hb.im⟩
theorem jr_ix {r : R2} {f : PV → PV → Option PV} (hs : SimB2 X.K r f) (hr : IxR X r) (ha : JR X a ta ra) (hb : JR X b tb rb) (hp : PlainIx b := by intro _ _; rfl) : JR X (.Subscript a b pos) (tOp r ta tb) (rOp f ra rb) := ⟨pe_ix hr ha.pe hb.pe hp, im_rOp hs ha.im hb.im⟩
/-- builtins by name -/
theorem j_callB {x : Str} {p : Pos} {id : String} {r : List V → Hp → VK → Prop} {f : List PV → Option PV} (hs : SimL X.K r f) (hc : CallR X (.builtin id) r) (hv : bootBuiltins x = some (.builtin id)) (hm : X.mg x = none) (ha : JA X W (e :: es) tA am) (hg : Gl X x := by rfl) (hn : x ≠ "__name__" := by decide) (hdb : (x == ("__debug__" : Str)) = false := by decide)
    (he : starEach (e :: es) X.env = (false, eval e X.env) :: starEach es X.env := by rfl) (hpl : (backTo pos (starEach es X.env)).any (·.1) = false := by rfl) : JE X W (.Call (.Name x p) (e :: es) [] pos) (tCB r tA) (eCl f am) := ⟨pe_callB hc hg hm hv ha.pa hn hdb he hpl, im_cl hs ha.im⟩
theorem j_callTy {x : Str} {p : Pos} {T : String} {r : List V → Hp → VK → Prop} {f : List PV → Option PV} (hs : SimL X.K r f) (hc : CallR X (.type T) r) (hv : bootBuiltins x = some (.type T)) (hm : X.mg x = none) (ha : JA X W (e :: es) tA am) (hg : Gl X x := by rfl) (hn : x ≠ "__name__" := by decide) (hdb : (x == ("__debug__" : Str)) = false := by decide)
    (he : starEach (e :: es) X.env = (false, eval e X.env) :: starEach es X.env := by rfl) (hpl : (backTo pos (starEach es X.env)).any (·.1) = false := by rfl) : JE X W (.Call (.Name x p) (e :: es) [] pos) (tCB r tA) (eCl f am) := ⟨pe_callTy hc hg hm hv ha.pa hn hdb he hpl, im_cl hs ha.im⟩
/-- a def of the text -/
theorem j_call {k n : Nat} {f : Addr} {fd : FuncData} {ps : List Str} {fm : FM} {x : Str} {p : Pos} (F : FnOk X.prog X.w X.K X.mg X.base (L2.CX X.prog X.w) k f fd ps (spF X.K X.mg n fm)) (hr : Room k X.A) (hm : X.mg x = some (.ref f)) (hk : PySem.W.keepIn X.K (.ref f) = true) (hb : Binds X.K fd ps []) (tk : Takes X W)
    (ha : JA X W (e :: es) tA am) (hl : (e :: es).length = n := by rfl) (hg : Gl X x := by rfl) (hdb : (x == ("__debug__" : Str)) = false := by decide) (he : starEach (e :: es) X.env = (false, eval e X.env) :: starEach es X.env := by rfl) (hpl : (backTo pos (starEach es X.env)).any (·.1) = false := by rfl) :
    JE X W (.Call (.Name x p) (e :: es) [] pos) (tCallS (spF X.K X.mg n fm) (WE W) tA) (eCall fm am) :=
  ⟨pe_callS F hr hg hm hk hb (fun σ => passAt tk σ) ha.pa hdb he hpl, im_eCall ha.im fun env as e h => by rw [ha.len env as e h, hl]⟩
/-- a method of a built-in type upon a name -/
theorem j_meth {T id : String} {name x : Str} {i : Nat} {r : V → List V → Hp → VK → Prop} {f : PV → List PV → Option (PV × PV)} {apos p : Pos} (pa : PlainAttrs T) (slot : Slot T name id) (hty : typeOf (.builtin id) = pure (.type "method_descriptor")) (hs : SimM X.K r f) (hm : MtR X id r) (ho : JR X (.Name x p) (tVar i) (rVar i)) (ha : JA X W (e :: es) tA am)
    (hbase : attributeBase (.Name x p) name X.env (eval (.Name x p) X.env) = eval (.Name x p) X.env := by rfl)
    (hfew : ((backTo pos (starEach (e :: es) X.env)).all (fun x => !x.1) && (backToKw pos (keywordEach [] X.env)).all (fun x => x.1.isSome)
      && decide ((e :: es).length + ([] : List Keyword).length + (if ([] : List Keyword).isEmpty then 0 else 1) < 30)) = true := by rfl)
    (hline : (apos.endLine == pos.line) = true := by rfl) (hs' : starEach (e :: es) X.env = (false, eval e X.env) :: starEach es X.env := by rfl) (hplain : (backTo pos (starEach es X.env)).any (·.1) = false := by rfl) :
    JE X W (.Call (.Attribute (.Name x p) name apos) (e :: es) [] pos) (tBM X.K T r (tVar i) tA) (eMeth T i f am) := ⟨pe_bm pa slot hty hm ho.pe ha.pa hbase hfew hline hs' hplain, im_eMeth hs ha.im⟩
theorem j_methB {T id : String} {name x : Str} {i : Nat} {r : V → List V → Hp → VK → Prop} {f : PV → List PV → Option (PV × PV)} {apos p : Pos} (pa : PlainAttrs T) (slot : Slot T name id) (hty : typeOf (.builtin id) = pure (.type "method_descriptor")) (hs : SimMB X.K r f) (hm : MtR X id r) (ho : JR X (.Name x p) (tVar i) (rVar i)) (ha : JA X W (e :: es) tA am)
    (hbase : attributeBase (.Name x p) name X.env (eval (.Name x p) X.env) = eval (.Name x p) X.env := by rfl)
    (hfew : ((backTo pos (starEach (e :: es) X.env)).all (fun x => !x.1) && (backToKw pos (keywordEach [] X.env)).all (fun x => x.1.isSome)
      && decide ((e :: es).length + ([] : List Keyword).length + (if ([] : List Keyword).isEmpty then 0 else 1) < 30)) = true := by rfl)
    (hline : (apos.endLine == pos.line) = true := by rfl) (hs' : starEach (e :: es) X.env = (false, eval e X.env) :: starEach es X.env := by rfl) (hplain : (backTo pos (starEach es X.env)).any (·.1) = false := by rfl) :
    JE X W (.Call (.Attribute (.Name x p) name apos) (e :: es) [] pos) (tBM X.K T r (tVar i) tA) (eMethB T i f am) := ⟨pe_bm pa slot hty hm ho.pe ha.pa hbase hfew hline hs' hplain, im_eMethB hs ha.im⟩
theorem j_meth0 {T id : String} {name x : Str} {i : Nat} {r : V → List V → Hp → VK → Prop} {f : PV → List PV → Option (PV × PV)} {apos p : Pos} (pa : PlainAttrs T) (slot : Slot T name id) (hty : typeOf (.builtin id) = pure (.type "method_descriptor")) (hs : SimM X.K r f) (hm : MtR X id r) (ho : JR X (.Name x p) (tVar i) (rVar i))
    (hbase : attributeBase (.Name x p) name X.env (eval (.Name x p) X.env) = eval (.Name x p) X.env := by rfl) (hline : (apos.endLine == pos.line) = true := by rfl) :
    JE X W (.Call (.Attribute (.Name x p) name apos) [] [] pos) (tBM0 X.K T r (tVar i)) (eMeth0 T i f) := ⟨pe_bm0 pa slot hty hm ho.pe hbase hline, im_eMeth0 hs⟩
/-! and, or, not, if -/
variable {tT tU : TT} {ba bb : BM} {rest : List Expr}
theorem jt_val (h : JE X W e te m) (he : ∀ whole, isTrue e X.env whole = (do let v ← whole; standAt e.pos; holding [v] (truthy v)) := by intro _; rfl) : JT X W e (tB te) (bE m) := ⟨pt_val h.pe he, im_bE h.im⟩
theorem jw_and1 (h : JT X W a tT ba) : JW X W (.BoolOp .And [a] pos) tT ba := ⟨pw_and1 h.pt, h.im⟩
theorem jw_or1 (h : JT X W a tT ba) : JW X W (.BoolOp .Or [a] pos) tT ba := ⟨pw_or1 h.pt, h.im⟩
theorem jw_and (h : JT X W a tT ba) (r : JW X W (.BoolOp .And (b :: rest) pos) tU bb) : JW X W (.BoolOp .And (a :: b :: rest) pos) (tAnd tT tU) (bAnd ba bb) := ⟨pw_and h.pt r.pw, im_bAnd h.im r.im⟩
theorem jw_or (h : JT X W a tT ba) (r : JW X W (.BoolOp .Or (b :: rest) pos) tU bb) : JW X W (.BoolOp .Or (a :: b :: rest) pos) (tOr tT tU) (bOr ba bb) := ⟨pw_or h.pt r.pw, im_bOr h.im r.im⟩
theorem JW.t (h : JW X W e tT ba) : JT X W e tT ba := ⟨h.pw.pt, h.im⟩
theorem jt_not (h : JT X W a tT ba) : JT X W (.UnaryOp .Not a pos) (tNot tT) (bNot ba) := ⟨pt_not h.pt, im_bNot h.im⟩
theorem j_one {op} (h : JE X W a ta ma) : JE X W (.BoolOp op [a] pos) ta ma := ⟨pe_one h.pe, h.im⟩
theorem j_and (h : JE X W a ta ma) (r : JE X W (.BoolOp .And (b :: rest) pos) tb mb) : JE X W (.BoolOp .And (a :: b :: rest) pos) (tAndV ta tb) (eAnd ma mb) := ⟨pe_and h.pe r.pe, im_eAnd h.im r.im⟩
theorem j_or (h : JE X W a ta ma) (r : JE X W (.BoolOp .Or (b :: rest) pos) tb mb) : JE X W (.BoolOp .Or (a :: b :: rest) pos) (tOrV ta tb) (eOr ma mb) := ⟨pe_or h.pe r.pe, im_eOr h.im r.im⟩
theorem j_not (h : JE X W a ta ma) : JE X W (.UnaryOp .Not a pos) (tNotV ta) (eNot ma) := ⟨pe_not h.pe, im_eNot h.im⟩
theorem j_if (hc : JT X W c tT ba) (ha : JE X W a ta ma) (hb : JE X W b tb mb) : JE X W (.IfExp c a b pos) (tIf tT ta tb) (eIf ba ma mb) := ⟨pe_ifExp hc.pt ha.pe hb.pe, im_eIf hc.im ha.im hb.im⟩
/-! targets -/
theorem jp_n (i : Nat) {x : Str} (hN : X.N.Nodup) (hi : X.N[i]? = some x := by rfl) (hx : Loc X.env.scope x := by first | exact Or.inl rfl | exact Or.inr rfl) (hf : X.fn x = true ∨ X.env.scope.names.lookup x = some .local := by first | exact .inl rfl | exact .inr rfl | assumption) : JP X [i] (.Name x pos) (gName i) (tgN i) := ⟨pg_name hN hi hx hf, im_tgN i⟩
theorem jps_nil : JPs X S [] gNil tgsNil := ⟨pgs_nil, im_tgsNil⟩
theorem jps_cons {tg : TG} {tgs : TGs} {mt : TM} {mts : List PV → PEnv → Option PEnv} (h : JP X S1 e tg mt) (r : JPs X S2 es tgs mts) (hs : (assignEach (e :: es) X.env).map (·.2) = assign e X.env :: (assignEach es X.env).map (·.2) := by rfl) : JPs X (S1 ++ S2) (e :: es) (gCons tg tgs) (tgsCons mt mts) := ⟨pgs_cons h.pg r.pg hs, im_tgsCons h.im r.im⟩
theorem jp_t {k n : Nat} {tgs : TGs} {mts : List PV → PEnv → Option PEnv} (hc : X.calm = true) (r : JPs X S es tgs mts) (hn : (assignEach es X.env).length = n := by rfl) (hst : (assignEach es X.env).findIdx? (·.1) = none := by rfl) : JP X S (.Tuple es k pos) (gTup X.K n tgs) (tgT n mts) := ⟨pg_tup hc r.pg hn hst, im_tgT r.im⟩
/-! what is walked -/
variable {tg : Expr} {tI : TI} {it : PEnv → EO (List PV)}
theorem ji_l (h : JE X W e te m) : JI X W tg e (iList X.K te) (itL m) := ⟨pi_list h.pe, im_itL h.im⟩
theorem ji_t (h : JE X W e te m) : JI X W tg e (iTup X.K te) (itT m) := ⟨pi_tup h.pe, im_itT h.im⟩
theorem ji_r1 {p : Pos} (hm : X.mg "range" = none) (ha : JA X W [a] tA am) (hg : Gl X "range" := by rfl) (hs : starEach [a] X.env = [(false, eval a X.env)] := by rfl) : JI X W tg (.Call (.Name "range" p) [a] [] pos) (iRng1 tA) (itR1 am) := ⟨pi_range1 hg hm ha.pa hs, im_itR1 ha.im⟩
theorem ji_r2 {p : Pos} (hm : X.mg "range" = none) (ha : JA X W [a, b] tA am) (hg : Gl X "range" := by rfl) (hs : starEach [a, b] X.env = [(false, eval a X.env), (false, eval b X.env)] := by rfl) (hs2 : starEach [b] X.env = [(false, eval b X.env)] := by rfl) : JI X W tg (.Call (.Name "range" p) [a, b] [] pos) (iRng2 tA) (itR2 am) := ⟨pi_range2 hg hm ha.pa hs hs2, im_itR2 ha.im⟩
/-- a list or a tuple -/
theorem pi_or {w1 w2 : TI} (h1 : PI X tg e w1) (h2 : PI X tg e w2) : PI X tg e (fun σ H R => w1 σ H R ∨ w2 σ H R) := ⟨fun pins s σ H R I h => by
  rcases h with h | h
  · exact h1.run pins s σ H R I h
  · exact h2.run pins s σ H R I h⟩
def itS (m : EM) : PEnv → EO (List PV) := fun env => match m env with
  | .ok (.tup xs) e => itT (fun _ => .ok (.tup xs) e) env
  | o => itL (fun _ => o) env
theorem ji_s (h : JE X W e te m) : JI X W tg e (fun σ H R => iList X.K te σ H R ∨ iTup X.K te σ H R) (itS m) := by
  refine ⟨pi_or (pi_list h.pe) (pi_tup h.pe), fun σ H R env F hr hn hp => ?_⟩
  have e1 : ∀ o, m env = o → itL m env = itL (fun _ => o) env ∧ itT m env = itT (fun _ => o) env := fun o e => by unfold itL itT; rw [e]; exact ⟨rfl, rfl⟩
  unfold itS at hp
  split at hp
  · rename_i xs e q
    rw [← (e1 _ q).2] at hp
    exact .inr (im_itT h.im σ H R env F hr hn hp)
  · rename_i q
    rw [← (e1 _ rfl).1] at hp
    exact .inl (im_itL h.im σ H R env F hr hn hp)
/-! comprehensions -/
theorem j_lc {elt iter : Expr} {scope : Scope} {own : List (Str × Nat)} {tt : TT} {te : TE} {g : TG} {mt : TM} {mc : BM} {me : EM} {ifs : List Expr} (hc : X.calm = true) (hN : X.N.Nodup) (hi : JI X W tg iter tI it) (ok : blkC X.N X.env.scope scope own = true)
    (hg : ∀ (s : Shared) (H : Hp) (C : Addr) (cl : List (Str × Addr)) (fp : List Addr), JP (X.blk s H scope (compEnvC scope cl C X.env) fp) S tg g mt) (hS : ∀ j ∈ S, j ∈ own.map (·.2))
    (ht : ∀ (s : Shared) (H : Hp) (C : Addr) (cl : List (Str × Addr)) (fp : List Addr), PTs (X.blk s H scope (compEnvC scope cl C X.env) fp) ifs tt ∧ ImT X.K X.mg W0 tt mc)
    (he : ∀ (s : Shared) (H : Hp) (C : Addr) (cl : List (Str × Addr)) (fp : List Addr), JE (X.blk s H scope (compEnvC scope cl C X.env) fp) W0 elt te me) (hs : ∀ x, foldedSetIterable iter X.env x = pure x := by intro _; rfl) :
    JE X W (.ListComp elt [⟨tg, iter, ifs, 0⟩] scope pos) (tLc tI g tt te (own.map (·.2))) (eLC it (own.map (·.2)) mt mc me) :=
  ⟨pe_lc hc hN hi.pi (blkOk_by ok) (fun s H C cl fp => (hg s H C cl fp).pg) (fun s H C cl fp => (ht s H C cl fp).1) (fun s H C cl fp => (he s H C cl fp).pe) hs,
    im_eLC hi.im (hg X.s_0 X.H_0 0 [] []).im hS (ht X.s_0 X.H_0 0 [] []).2 (he X.s_0 X.H_0 0 [] []).im⟩
end
end PVL

/-! P7: joint rules for statements. -/
namespace PVL
open PySem PySem.Spec L2
section
variable {X : Cx} {W : WX} {S S1 S2 : List Nat} {e a b c : Expr} {te : TE} {tA : TA} {m : EM} {am : AM} {k : RM} {pos : Pos} {st : Stmt} {sts body orelse : List Stmt} {t u : TS} {sa sb : SM} {tt : TT} {bc : BM}
theorem jss_nil : JSs X W S [] tNext sNil := ⟨pss_nil, im_sNil⟩
theorem jss_one (h : JS X W S st t sa) : JSs X W S [st] t sa := ⟨pss_one h.ps, h.im⟩
theorem jss_cons (h : JS X W S1 st t sa) (r : JSs X W S2 sts u sb) : JSs X W (S1 ++ S2) (st :: sts) (tSeq t u) (sSeq sa sb) := ⟨pss_cons h.ps r.ps, im_sSeq h.im r.im⟩
theorem js_pass : JS X W S (.Pass pos) tNext sNil := ⟨ps_pass, im_sNil⟩
theorem js_brk : JS X W S (.Break pos) tBreak sBrk := ⟨ps_break, im_sBrk⟩
theorem js_cont : JS X W S (.Continue pos) tCont sCont := ⟨ps_continue, im_sCont⟩
theorem js_doc {x j pos'} : JS X W S (.Expr (.Constant (.str x) j pos) pos') tNext sNil := ⟨ps_doc, im_sNil⟩
theorem js_expr (h : JE X W e te m) (hs : swapsWith e none pos.line X.env = pure false := by rfl) : JS X W S (.Expr e pos) (tDrop te) (sExpr m) := ⟨ps_expr h.pe hs, im_sExpr h.im⟩
theorem js_ret (h : JE X W e te m) : JS X W S (.Return (some e) pos) (tRet te) (sRet m) := ⟨ps_ret h.pe, im_sRet h.im⟩
theorem js_retN : JS X W S (.Return none pos) tRetN sRetN := ⟨ps_retN, im_sRetN⟩
theorem js_if (hc : JT X W c tt bc) (ha : JSs X W S1 body t sa) (hb : JSs X W S2 orelse u sb) : JS X W (S1 ++ S2) (.If c body orelse pos) (tIfS tt t u) (sIf bc sa sb) := ⟨ps_if hc.pt ha.ps hb.ps, im_sIf hc.im ha.im hb.im⟩
theorem js_set (i : Nat) {x : Str} {pos' : Pos} (hN : X.N.Nodup) (h : JE X W e te m) (hi : X.N[i]? = some x := by rfl) (hx : Loc X.env.scope x := by first | exact Or.inl rfl | exact Or.inr rfl) (hs : swapsWith e (some (.Name x pos')) pos.line X.env = pure false := by rfl) (hf : X.fn x = true ∨ X.env.scope.names.lookup x = some .local := by first | exact .inl rfl | exact .inr rfl | assumption) :
    JS X W [i] (.Assign [.Name x pos'] e pos) (tAsg te (gName i)) (sAsg m (tgN i)) := ⟨ps_set hN hi hx h.pe hs hf, im_sAsg h.im (im_tgN i)⟩
theorem js_asg {tg : Expr} {g : TG} {mt : TM} (h : JE X W e te m) (hg : JP X S tg g mt) (hs : swapsWithSole [tg] e pos.line X.env = pure false := by rfl) (hw : swappedStores [tg] e X.env = pure none := by rfl) (h1 : (assignEach [tg] X.env).map (·.2) = [assign tg X.env] := by rfl) : JS X W S (.Assign [tg] e pos) (tAsg te g) (sAsg m mt) := ⟨ps_asg h.pe hg.pg hs hw h1, im_sAsg h.im hg.im⟩
theorem js_par {i j : Nat} {x y : Str} {px py pt : Pos} {kt k2 pt2} (hc : X.calm = true) (hN : X.N.Nodup) (hi : X.N[i]? = some x) (hj : X.N[j]? = some y) (hij : i ≠ j) (hx : X.env.scope.names.lookup x = some .local) (hy : X.env.scope.names.lookup y = some .local) (ha : JA X W [a, b] tA am)
    (hw : swappedStores [.Tuple [.Name x px, .Name y py] kt pt] (.Tuple [a, b] k2 pt2) X.env = pure (some [x, y])) (hs : swapsWithSole [.Tuple [.Name x px, .Name y py] kt pt] (.Tuple [a, b] k2 pt2) pos.line X.env = pure false := by rfl) :
    JS X W [i, j] (.Assign [.Tuple [.Name x px, .Name y py] kt pt] (.Tuple [a, b] k2 pt2) pos) (tPar i j tA) (sPar i j am) := ⟨ps_par hc hN hi hj hij hx hy ha.pa hw hs, im_sPar hij ha.im⟩
theorem js_setLc (i : Nat) {y : Str} {py : Pos} {elt tg iter : Expr} {scope : Scope} {own : List (Str × Nat)} {pos spos : Pos} {tI : TI} {it : PEnv → EO (List PV)} {tt : TT} {te : TE} {g : TG} {mt : TM} {mc : BM} {me : EM} {ifs : List Expr} (hc : X.calm = true) (hN : X.N.Nodup) (hi : JI X W tg iter tI it) (ok : blkC X.N X.env.scope scope own = true)
    (hg : ∀ (s : Shared) (H : Hp) (C : Addr) (cl : List (Str × Addr)) (fp : List Addr), JP (X.blk s H scope (compEnvC scope cl C X.env) fp) S tg g mt) (hS : ∀ j ∈ S, j ∈ own.map (·.2))
    (ht : ∀ (s : Shared) (H : Hp) (C : Addr) (cl : List (Str × Addr)) (fp : List Addr), PTs (X.blk s H scope (compEnvC scope cl C X.env) fp) ifs tt ∧ ImT X.K X.mg W0 tt mc)
    (he : ∀ (s : Shared) (H : Hp) (C : Addr) (cl : List (Str × Addr)) (fp : List Addr), JE (X.blk s H scope (compEnvC scope cl C X.env) fp) W0 elt te me) (hy : X.N[i]? = some y := by rfl) (hyl : X.env.scope.names.lookup y = some .local := by rfl)
    (hsw : swapsWith (.ListComp elt [⟨tg, iter, ifs, 0⟩] scope pos) (some (.Name y py)) spos.line X.env = pure true := by exact sw_true rfl rfl rfl (by decide +kernel)) (hs : ∀ x, foldedSetIterable iter X.env x = pure x := by intro _; rfl) :
    JS X W [i] (.Assign [.Name y py] (.ListComp elt [⟨tg, iter, ifs, 0⟩] scope pos) spos) (tAsg (tLc tI g tt te (own.map (·.2))) (gName i)) (sAsg (eLC it (own.map (·.2)) mt mc me) (tgN i)) :=
  ⟨ps_setLc hc hN hy hyl hsw hi.pi (blkOk_by ok) (fun s H C cl fp => (hg s H C cl fp).pg) (fun s H C cl fp => (ht s H C cl fp).1) (fun s H C cl fp => (he s H C cl fp).pe) hs,
    im_sAsg (im_eLC hi.im (hg X.s_0 X.H_0 0 [] []).im hS (ht X.s_0 X.H_0 0 [] []).2 (he X.s_0 X.H_0 0 [] []).im) (im_tgN i)⟩
def bYes : BM := fun env => .ok true env
theorem jtt_nil {K : PySem.W.Frag} {mg : Str → Option Value} : PTs X [] tYes ∧ ImT K mg W0 tYes bYes := ⟨pts_nil, fun σ H Q env F hr hn hp => hp H F hr hn Fm.refl⟩
theorem jtt_one {K : PySem.W.Frag} {mg : Str → Option Value} (h : JT X W0 c tt bc) (e1 : X.K = K := by rfl) (e2 : X.mg = mg := by rfl) : PTs X [c] tt ∧ ImT K mg W0 tt bc := ⟨pts_one h.pt, by subst e1; subst e2; exact h.im⟩
theorem js_setIx {i : Nat} {x : Str} {idx : Expr} {tk : TE} {r : TSet} {f : PV → PV → PV → Option PV} {p p2 : Pos} (hs : SimSet X.K r f) (hset : PSet X r) (h : JE X W e te m) (ho : JR X (.Name x p) (tVar i) (rVar i)) (hk : JR X idx tk k)
    (ha : ∀ v, assign (.Subscript (.Name x p) idx p2) X.env v = (do
      let ov ← holding [v] (eval (.Name x p) X.env)
      let iv ← holding [v, ov] (eval idx X.env)
      standAt p2
      holding [v, ov, iv] (setItem ov iv v)
      release [v, ov, iv] []) := by intro _; rfl)
    (hs' : swapsWithSole [.Subscript (.Name x p) idx p2] e pos.line X.env = pure false := by rfl) (hw : swappedStores [.Subscript (.Name x p) idx p2] e X.env = pure none := by rfl) (h1 : (assignEach [.Subscript (.Name x p) idx p2] X.env).map (·.2) = [assign (.Subscript (.Name x p) idx p2) X.env] := by rfl) :
    JS X W S (.Assign [.Subscript (.Name x p) idx p2] e pos) (tAsg te (gSub (tVar i) tk r)) (sSetIx i k f m) := ⟨ps_asg h.pe (pg_sub ho.pe hk.pe hset ha) hs' hw h1, im_sSetIx hs h.im hk.im⟩
theorem js_aug (i : Nat) {x : Str} {op : Operator} {r : TIp} {f : PV → PV → Option PV} {pos' : Pos} (hs : SimI X.K r f) (hip : PIp X op r) (hN : X.N.Nodup) (h : JE X W e te m) (hi : X.N[i]? = some x := by rfl) (hx : Loc X.env.scope x := by first | exact Or.inl rfl | exact Or.inr rfl) (hf : X.fn x = true ∨ X.env.scope.names.lookup x = some .local := by first | exact .inl rfl | exact .inr rfl | assumption) :
    JS X W [i] (.AugAssign (.Name x pos') op e pos) (tAug i te r) (sAug i f m) := ⟨ps_aug hN hi hx h.pe hip hf, im_sAug hs h.im⟩
theorem js_augIx {i : Nat} {x : Str} {idx : Expr} {tk : TE} {op : Operator} {rg : V → V → Hp → VK → Prop} {g : PV → PV → Option PV} {ri : TIp} {f : PV → PV → Option PV} {rs : TSet} {fs : PV → PV → PV → Option PV} {p p2 : Pos}
    (hg : SimB2 X.K rg g) (hgo : PGet X rg) (hi : SimI X.K ri f) (hip : PIp X op ri) (hs : SimSet X.K rs fs) (hset : PSet X rs) (ho : JR X (.Name x p) (tVar i) (rVar i)) (hk : JR X idx tk k) (h : JE X W e te m)
    (ha : ∀ ov iv new, augStore idx ov iv new = (do holding [new, ov, iv] (setItem ov iv new); release [new, ov, iv] []; pure .next) := by intros; rfl) :
    JS X W S (.AugAssign (.Subscript (.Name x p) idx p2) op e pos) (tAugS (tVar i) tk te rg ri rs) (sAugIx i k g m f fs) := ⟨ps_augS ho.pe hk.pe hgo h.pe hip hset ha, im_sAugIx hg hi hs hk.im h.im⟩
variable {tg iter : Expr} {g : TG} {mt : TM} {tI : TI} {it : PEnv → EO (List PV)}
theorem js_for (hp : PassesOwn (model X.prog X.w) X.A X.env X.xe) (hc : X.calm = true) (hi : JI X W tg iter tI it) (hg : JP X S1 tg g mt) (hb : JSs X W S2 body t sa) (hs : ∀ x, foldedSetIterable iter X.env x = pure x := by intro _; rfl) :
    JS X W (S1 ++ S2) (.For tg iter body [] pos) (tFor tI g t) (sFor it mt sa) := ⟨ps_for hp hc hi.pi hg.pg hb.ps hs, im_sFor hi.im hg.im hb.im⟩
theorem js_forV {i : Nat} (hp : PassesOwn (model X.prog X.w) X.A X.env X.xe) (hc : X.calm = true) (hv : JR X iter (tVar i) (rVar i)) (hg : JP X S1 tg g mt) (hb : JSs X W S2 body t sa) (hi : i ∉ S1 ++ S2 := by decide) (hs : ∀ x, foldedSetIterable iter X.env x = pure x := by intro _; rfl) :
    JS X W (S1 ++ S2) (.For tg iter body [] pos) (tFor (iList X.K (tVar i)) g t) (sForV i mt sa) := ⟨ps_for hp hc (pi_list hv.pe) hg.pg hb.ps hs, im_sForV hg.im hb.im hi⟩
theorem js_while (n : Nat) (hp : PassesOwn (model X.prog X.w) X.A X.env X.xe) (hc : JT X W c tt bc) (hb : JSs X W S body t sa) : JS X W S (.While c body [] pos) (tWhile tt t) (whileL bc sa n) := ⟨ps_while hp hc.pt hb.ps, im_whileL n hc.im hb.im⟩
end
end PVL

/-! P8: operations. -/
namespace PVL
open PySem PySem.Spec L2

section
variable {K : PySem.W.Frag} {X : Cx}
/-! ### small tools -/
theorem rv_int {H : Hp} {i : Int} {v : V} {F : List Addr} (h : RV K H (.int i) v F) : v = .int i := by simp only [RV] at h; exact h.1
theorem rv_str {H : Hp} {i : Str} {v : V} {F : List Addr} (h : RV K H (.str i) v F) : v = .str i := by simp only [RV] at h; exact h.1
theorem rv_bl {H : Hp} {i : Bool} {v : V} {F : List Addr} (h : RV K H (.bl i) v F) : v = .bl i := by simp only [RV] at h; exact h.1
theorem rv_non {H : Hp} {v : V} {F : List Addr} (h : RV K H .non v F) : v = .non := by simp only [RV] at h; exact h.1
theorem New.int {H : Hp} {Q : VK} {i : Int} (h : New K H Q (.int i)) : Q (.int i) H := h _ H [] (fun _ _ e => e) (by simp [RV]) List.nodup_nil (fun b z => by simp at z)
theorem New.str {H : Hp} {Q : VK} {i : Str} (h : New K H Q (.str i)) : Q (.str i) H := h _ H [] (fun _ _ e => e) (by simp [RV]) List.nodup_nil (fun b z => by simp at z)
theorem New.bl {H : Hp} {Q : VK} {i : Bool} (h : New K H Q (.bl i)) : Q (.bl i) H := h _ H [] (fun _ _ e => e) (by simp [RV]) List.nodup_nil (fun b z => by simp at z)
theorem New.tup {H : Hp} {Q : VK} {xs : List PV} {vs : List V} (h : New K H Q (.tup xs)) (r : RVL K H xs vs []) : ∀ p, H p = none → Q (.ref p) (upd H p (.tup vs)) := fun p np =>
  h _ _ [] (sm_upd np) (by simp only [RV]; exact ⟨p, vs, rfl, .inl (.inl upd_same), r.sm (sm_upd np)⟩) List.nodup_nil (fun b z => by simp at z)
theorem New.old {H : Hp} {Q : VK} {x : PV} {v : V} (h : New K H Q x) (r : RV K H x v []) : Q v H := h _ H [] (fun _ _ e => e) r List.nodup_nil (fun b z => by simp at z)
theorem New.lst {H : Hp} {Q : VK} {xs : List PV} {vs : List V} (h : New K H Q (.lst xs)) (r : RVL K H xs vs []) : ∀ p, H p = none → Q (.ref p) (upd H p (.lst vs)) := fun p np =>
  h _ _ [p] (sm_upd np) (by simp only [RV]; exact ⟨p, vs, [], rfl, upd_same, r.sm (sm_upd np), rfl⟩) (by simp) (fun b z => by simp at z; rw [z]; exact np)
theorem RVL.nil_of {H : Hp} {xs : List PV} {vs : List V} {F : List Addr} (hi : immL xs = true) (h : RVL K H xs vs F) : RVL K H xs vs [] := by
  have e := RVL.imm hi h
  subst e; exact h
theorem immL_append {xs ys : List PV} : immL (xs ++ ys) = (immL xs && immL ys) := by
  induction xs with
  | nil => simp [immL]
  | cons x r ih => simp [immL, ih, Bool.and_assoc]

/-! ### binary -/
def pAdd : PV → PV → Option PV
  | .int a, .int b => some (.int (a + b))
  | .str a, .str b => if a.length + b.length ≤ sizeLine then some (.str (a ++ b)) else none
  | .tup a, .tup b => if a.length + b.length ≤ sizeLine ∧ immL a = true ∧ immL b = true then some (.tup (a ++ b)) else none
  | .lst a, .lst b => if a.length + b.length ≤ sizeLine ∧ immL a = true ∧ immL b = true then some (.lst (a ++ b)) else none
  | _, _ => none
abbrev rAddI : R2 := rI0 fun i j => .int (i + j)
abbrev rAddS : R2 := fun x y H Q => ∃ i j, x = .str i ∧ y = .str j ∧ i.length + j.length ≤ sizeLine ∧ Q (.str (i ++ j)) H
abbrev rAddP (K : PySem.W.Frag) : R2 := fun x y H Q => rAddI x y H Q ∨ (fun x y H Q => rAddS x y H Q ∨ (fun x y H Q => rCatA K x y H Q ∨ rCat x y H Q) x y H Q) x y H Q
theorem op_addP : OpR X (binaryOp .Add) (rAddP X.K) := op_add.or (op_add_str.or (op_catA.or op_cat))
theorem sim_add : SimR2 K (rAddP K) pAdd := by
  intro x y H Q px py Fx Fy hx hy q
  unfold pAdd at q
  split at q
  · rename_i a b
    exact .inl ⟨a, b, rv_int hx, rv_int hy, New.int q⟩
  · rename_i a b
    split at q
    · rename_i hz
      exact .inr (.inl ⟨a, b, rv_str hx, rv_str hy, hz, New.str q⟩)
    · exact q.elim
  · rename_i xs ys
    split at q
    · rename_i hz
      obtain ⟨h1, h2, h3⟩ := hz
      simp only [RV] at hx hy
      obtain ⟨a, vs, rfl, ha, hl⟩ := hx
      obtain ⟨b, ws, rfl, hb, hm⟩ := hy
      have l1 := hl.nil_of h2
      have l2 := hm.nil_of h3
      refine .inr (.inr (.inl ⟨a, b, vs, ws, rfl, rfl, ha, hb, by rw [hl.length, hm.length]; exact h1, fun e => ?_, fun _ e => ?_, fun _ _ p np => New.tup q (l1.append l2) p np⟩))
      · subst e
        have : xs = [] := List.length_eq_zero_iff.mp (by rw [← hl.length]; rfl)
        subst this
        exact New.old q (by simp only [RV, List.nil_append]; exact ⟨b, ws, rfl, hb, l2⟩)
      · subst e
        have : ys = [] := List.length_eq_zero_iff.mp (by rw [← hm.length]; rfl)
        subst this
        exact New.old q (by simp only [RV, List.append_nil]; exact ⟨a, vs, rfl, ha, l1⟩)
    · exact q.elim
  · rename_i xs ys
    split at q
    · rename_i hz
      obtain ⟨h1, h2, h3⟩ := hz
      simp only [RV] at hx hy
      obtain ⟨a, vs, _, rfl, ha, hl, _⟩ := hx
      obtain ⟨b, ws, _, rfl, hb, hm, _⟩ := hy
      exact .inr (.inr (.inr ⟨a, b, vs, ws, rfl, rfl, ha, hb, by rw [hl.length, hm.length]; exact h1, New.lst q ((hl.nil_of h2).append (hm.nil_of h3))⟩))
    · exact q.elim
  · exact q.elim
abbrev rAddIP : TIp := fun x y H Q => rAddI x y H Q ∨ rAddS x y H Q
theorem ip_addP : PIp X .Add rAddIP := OpR.or (f := inplaceOp .Add) iop_add iop_add_str
def pAddI : PV → PV → Option PV
  | .int a, .int b => some (.int (a + b))
  | .str a, .str b => if a.length + b.length ≤ sizeLine then some (.str (a ++ b)) else none
  | _, _ => none
theorem sim_addI : SimI K rAddIP pAddI := by
  intro x y H Q px py Fx Fy hx hy q
  unfold pAddI at q
  split at q
  · rename_i a b
    exact .inl ⟨a, b, rv_int hx, rv_int hy, New.int q⟩
  · rename_i a b
    split at q
    · rename_i hz
      exact .inr ⟨a, b, rv_str hx, rv_str hy, hz, New.str q⟩
    · exact q.elim
  · exact q.elim
/-- ints under a condition -/
def pI (c : Int → Int → Prop) [∀ i j, Decidable (c i j)] (g : Int → Int → Int) : PV → PV → Option PV
  | .int a, .int b => if c a b then some (.int (g a b)) else none
  | _, _ => none
theorem sim_I {c : Int → Int → Prop} [∀ i j, Decidable (c i j)] {g : Int → Int → Int} : SimR2 K (rI c fun i j => .int (g i j)) (pI c g) := by
  intro x y H Q px py Fx Fy hx hy q
  unfold pI at q
  split at q
  · rename_i a b
    split at q
    · rename_i hz
      exact ⟨a, b, rv_int hx, rv_int hy, hz, New.int q⟩
    · exact q.elim
  · exact q.elim
def pI0 (g : Int → Int → Int) : PV → PV → Option PV
  | .int a, .int b => some (.int (g a b))
  | _, _ => none
theorem sim_I0 {g : Int → Int → Int} : SimR2 K (rI0 fun i j => .int (g i j)) (pI0 g) := by
  intro x y H Q px py Fx Fy hx hy q
  unfold pI0 at q
  split at q
  · rename_i a b
    exact ⟨a, b, rv_int hx, rv_int hy, New.int q⟩
  · exact q.elim
def pB0 (g : Int → Int → Bool) : PV → PV → Option PV
  | .int a, .int b => some (.bl (g a b))
  | _, _ => none
theorem sim_B0 {g : Int → Int → Bool} : SimR2 K (rI0 fun i j => .bl (g i j)) (pB0 g) := by
  intro x y H Q px py Fx Fy hx hy q
  unfold pB0 at q
  split at q
  · rename_i a b
    exact ⟨a, b, rv_int hx, rv_int hy, New.bl q⟩
  · exact q.elim
instance : ∀ i j, Decidable (CMul i j) := fun i j => decidable_of_iff (i.natAbs < 2 ^ 64 ∨ j.natAbs < 2 ^ 64) (by unfold CMul; omega)
instance : ∀ i j, Decidable (CDiv i j) := fun i j => decidable_of_iff (0 < j ∧ j.natAbs < 1073741824) (by unfold CDiv; omega)
instance : ∀ i j, Decidable (CPow i j) := fun i j => decidable_of_iff (0 ≤ j ∧ j.natAbs ≤ 1000000 ∧ i.natAbs < 2 ^ 64) (by unfold CPow; omega)
abbrev pSub := pI0 fun i j => i - j
abbrev pMul := pI CMul fun i j => i * j
abbrev pDiv := pI CDiv fun i j => i / j
abbrev pMod := pI (fun _ j => 0 < j) fun i j => i % j
def pPow : PV → PV → Option PV := pI CPow fun i j => i ^ j.toNat
def pShl : PV → PV → Option PV := pI CPow fun i j => i * 2 ^ j.toNat
abbrev pLt := pB0 fun i j => decide (i < j)
abbrev pLe := pB0 fun i j => decide (i ≤ j)
abbrev pGt := pB0 fun i j => decide (j < i)
abbrev pGe := pB0 fun i j => decide (j ≤ i)
def pNeg : PV → Option PV
  | .int a => some (.int (-a))
  | _ => none
theorem sim_neg : SimU K (rU fun i => .int (-i)) pNeg := by
  intro x H Q px Fx hx q
  unfold pNeg at q
  split at q
  · rename_i a
    exact ⟨a, rv_int hx, New.int q⟩
  · exact q.elim

/-! ### == -/
mutual
def pD : PV → Option PyData
  | .non => some .none
  | .bl b => some (.bool b)
  | .int i => some (.int i)
  | .str x => some (.str x)
  | .tup xs => (pDL xs).map .tuple
  | .lst xs => (pDL xs).map .list
  | .frz xs => (pDL xs).map .list
  | _ => none
def pDL : List PV → Option (List PyData)
  | [] => some []
  | x :: xs => (pD x).bind fun d => (pDL xs).map (d :: ·)
end
mutual
theorem pD_ok {H : Hp} : ∀ {x : PV} {v : V} {F : List Addr} {d : PyData}, RV K H x v F → pD x = some d → Dp K H v d
  | .non, v, F, d, h, e => by simp only [RV] at h; simp only [pD, Option.some.injEq] at e; subst e; rw [h.1]; exact .non
  | .bl b, v, F, d, h, e => by simp only [RV] at h; simp only [pD, Option.some.injEq] at e; subst e; rw [h.1]; exact .bl b
  | .int b, v, F, d, h, e => by simp only [RV] at h; simp only [pD, Option.some.injEq] at e; subst e; rw [h.1]; exact .int b
  | .str b, v, F, d, h, e => by simp only [RV] at h; simp only [pD, Option.some.injEq] at e; subst e; rw [h.1]; exact .str b
  | .tup xs, v, F, d, h, e => by
    simp only [RV] at h
    simp only [pD, Option.map_eq_some_iff] at e
    obtain ⟨ds, e, rfl⟩ := e
    obtain ⟨a, vs, rfl, ha, hl⟩ := h
    exact .tup ha (pDL_ok hl e)
  | .lst xs, v, F, d, h, e => by
    simp only [RV] at h
    simp only [pD, Option.map_eq_some_iff] at e
    obtain ⟨ds, e, rfl⟩ := e
    obtain ⟨a, vs, _, rfl, ha, hl, _⟩ := h
    exact .lst (SqL.of ha) (pDL_ok hl e)
  | .frz xs, v, F, d, h, e => by
    simp only [RV] at h
    simp only [pD, Option.map_eq_some_iff] at e
    obtain ⟨ds, e, rfl⟩ := e
    obtain ⟨a, vs, rfl, ha, hl, _⟩ := h
    exact .lst ha.toL (pDL_ok hl e)
  | .dct _, _, _, _, _, e => by simp [pD] at e
  | .obj _ _, _, _, _, _, e => by simp [pD] at e
  | .ty _, _, _, _, _, e => by simp [pD] at e
theorem pDL_ok {H : Hp} : ∀ {xs : List PV} {vs : List V} {F : List Addr} {ds : List PyData}, RVL K H xs vs F → pDL xs = some ds → DpAll K H vs ds
  | [], vs, F, ds, h, e => by simp only [RVL] at h; simp only [pDL, Option.some.injEq] at e; subst e; rw [h.1]; exact .nil
  | x :: xs, vs, F, ds, h, e => by
    simp only [RVL] at h
    simp only [pDL, Option.bind_eq_some_iff, Option.map_eq_some_iff] at e
    obtain ⟨d, e1, r, e2, rfl⟩ := e
    obtain ⟨v, vr, _, _, rfl, h1, h2, _⟩ := h
    exact .cons (pD_ok h1 e1) (pDL_ok h2 e2)
end
def scEq : PV → PV → Option Bool
  | .int a, .int b => some (decide (a = b))
  | .str a, .str b => some (decide (a = b))
  | .bl a, .bl b => some (decide (a = b))
  | .non, .non => some true
  | .non, .int _ => some false
  | .non, .str _ => some false
  | .non, .bl _ => some false
  | .int _, .non => some false
  | .str _, .non => some false
  | .bl _, .non => some false
  | .int _, .str _ => some false
  | .str _, .int _ => some false
  | .bl _, .str _ => some false
  | .str _, .bl _ => some false
  | _, _ => none
def eqB (x y : PV) : Option Bool := match scEq x y with
  | some b => some b
  | none => match pD x, pD y with
    | some d, some e => if (SeqAt.shaped d && SeqAt.shaped e) = true then some (PyData.eqv d e) else none
    | _, _ => none
def pEq (x y : PV) : Option PV := (eqB x y).map .bl
def pNe (x y : PV) : Option PV := (eqB x y).map fun b => .bl (!b)
theorem scEq_ok {H : Hp} : ∀ {x y : PV} {v w : V} {F G : List Addr} {b : Bool}, RV K H x v F → RV K H y w G → scEq x y = some b → L2.scal v w = true ∧ decide (v = w) = b := by
  intro x y v w F G b hx hy e
  unfold scEq at e
  split at e <;> first
    | cases e; done
    | (simp only [RV] at hx hy
       rw [hx.1, hy.1]
       simp only [Option.some.injEq] at e
       subst e
       refine ⟨rfl, ?_⟩
       first
         | rfl
         | (simp))
abbrev rEqP (K : PySem.W.Frag) : R2 := fun x y H Q => rEq x y H Q ∨ rEqD K x y H Q
abbrev rNeP (K : PySem.W.Frag) : R2 := fun x y H Q => rNe x y H Q ∨ rNeD K x y H Q
theorem op_eqP (hu : X.A.units + 64 < cLine) : OpR X (compareOp .Eq) (rEqP X.K) := op_eq.or (op_eqD hu)
theorem op_neP (hu : X.A.units + 64 < cLine) : OpR X (compareOp .NotEq) (rNeP X.K) := op_ne.or (op_neD hu)
theorem sim_eq : SimR2 K (rEqP K) pEq := by
  intro x y H Q px py Fx Fy hx hy q
  unfold pEq eqB at q
  split at q
  · rename_i b e
    obtain ⟨h1, h2⟩ := scEq_ok hx hy e
    exact .inl ⟨h1, by rw [h2]; exact New.bl q⟩
  · split at q
    · rename_i d e ed ee
      split at q
      · rename_i hs
        rw [Bool.and_eq_true] at hs
        exact .inr ⟨d, e, pD_ok hx ed, pD_ok hy ee, hs.1, hs.2, New.bl q⟩
      · exact q.elim
    · exact q.elim
theorem sim_ne : SimR2 K (rNeP K) pNe := by
  intro x y H Q px py Fx Fy hx hy q
  unfold pNe eqB at q
  split at q
  · rename_i b e
    obtain ⟨h1, h2⟩ := scEq_ok hx hy e
    exact .inl ⟨h1, by rw [h2]; exact New.bl q⟩
  · split at q
    · rename_i d e ed ee
      split at q
      · rename_i hs
        rw [Bool.and_eq_true] at hs
        exact .inr ⟨d, e, pD_ok hx ed, pD_ok hy ee, hs.1, hs.2, New.bl q⟩
      · exact q.elim
    · exact q.elim
/-- is None -/
def isN : PV → Bool
  | .non => true
  | _ => false
theorem isN_ok {H : Hp} {x : PV} {v : V} {F : List Addr} (h : RV K H x v F) : decide (v = .non) = isN x := by
  cases x <;> simp only [RV] at h <;> first
    | (rw [h.1]; rfl)
    | (obtain ⟨a, vs, rfl, _⟩ := h; rfl)
    | (obtain ⟨a, vs, _, rfl, _⟩ := h; rfl)
    | (obtain ⟨a, vs, _, _, rfl, _⟩ := h; rfl)
def pIsN : PV → PV → Option PV := fun x y => if isN y = true then some (.bl (isN x)) else none
def pNotN : PV → PV → Option PV := fun x y => if isN y = true then some (.bl (!isN x)) else none
theorem sim_isN : SimR2 K (fun x y H Q => y = .non ∧ Q (.bl (decide (x = .non))) H) pIsN := by
  intro x y H Q px py Fx Fy hx hy q
  unfold pIsN at q
  split at q
  · rename_i hn
    refine ⟨?_, by rw [isN_ok hx]; exact New.bl q⟩
    cases py <;> simp [isN] at hn
    exact rv_non hy
  · exact q.elim
theorem sim_notN : SimR2 K (fun x y H Q => y = .non ∧ Q (.bl (!decide (x = .non))) H) pNotN := by
  intro x y H Q px py Fx Fy hx hy q
  unfold pNotN at q
  split at q
  · rename_i hn
    refine ⟨?_, by rw [isN_ok hx]; exact New.bl q⟩
    cases py <;> simp [isN] at hn
    exact rv_non hy
  · exact q.elim

/-! ### in: a flat thing in a list or tuple of flat things -/
def flatP : PV → Bool
  | .non => true
  | .bl _ => true
  | .int _ => true
  | .str _ => true
  | _ => false
end
end PVL

/-! P9: in, items, slices, builtins by name, methods of lists, stores. -/
namespace PVL
open PySem PySem.Spec L2

section
variable {K : PySem.W.Frag} {X : Cx}
/-! ### in -/
theorem flatP_ok {H : Hp} {x : PV} {v : V} {F : List Addr} (h : RV K H x v F) (e : flatP x = true) : flatV v = true := by
  cases x <;> simp [flatP] at e <;> (simp only [RV] at h; rw [h.1]; rfl)
theorem flatL_ok {H : Hp} : ∀ {xs : List PV} {vs : List V} {F : List Addr}, RVL K H xs vs F → xs.all flatP = true → vs.all flatV = true
  | [], vs, F, h, _ => by simp only [RVL] at h; rw [h.1]; rfl
  | x :: xs, vs, F, h, e => by
    simp only [RVL] at h
    obtain ⟨v, vr, _, _, rfl, h1, h2, _⟩ := h
    simp only [List.all_cons, Bool.and_eq_true] at e ⊢
    exact ⟨flatP_ok h1 e.1, flatL_ok h2 e.2⟩
def eqFl : PV → PV → Bool
  | .non, .non => true
  | .bl a, .bl b => a == b
  | .bl a, .int b => (if a then 1 else 0) == b
  | .int a, .bl b => a == (if b then 1 else 0)
  | .int a, .int b => a == b
  | .str a, .str b => a == b
  | _, _ => false
theorem eqFl_ok {H : Hp} {x y : PV} {v w : V} {F G : List Addr} (hx : RV K H x v F) (hy : RV K H y w G) (ex : flatP x = true) (ey : flatP y = true) : eqV v w = eqFl x y := by
  cases x <;> simp [flatP] at ex <;> cases y <;> simp [flatP] at ey <;> (simp only [RV] at hx hy; rw [hx.1, hy.1]; rfl)
theorem inFl_ok {H : Hp} {x : PV} {v : V} {F : List Addr} (hx : RV K H x v F) (ex : flatP x = true) : ∀ {xs : List PV} {vs : List V} {G : List Addr}, RVL K H xs vs G → xs.all flatP = true → inV v vs = xs.any fun y => eqFl y x
  | [], vs, G, h, _ => by simp only [RVL] at h; rw [h.1]; rfl
  | y :: xs, vs, G, h, e => by
    simp only [RVL] at h
    obtain ⟨w, vr, _, _, rfl, h1, h2, _⟩ := h
    simp only [List.all_cons, Bool.and_eq_true] at e
    have ih := inFl_ok hx ex h2 e.2
    unfold inV at ih ⊢
    rw [List.any_cons, List.any_cons, ih, eqFl_ok h1 hx e.1 ex]
def inB (x y : PV) : Option Bool := match y with
  | .str b => (match x with
    | .str a => some (!(Builtin.Str.occurrences b a 0 b.length 1).isEmpty)
    | _ => none)
  | .tup ys => if (flatP x && ys.all flatP) = true then some (ys.any fun y => eqFl y x) else none
  | .lst ys => if (flatP x && ys.all flatP) = true then some (ys.any fun y => eqFl y x) else
      match pD x, pDL ys with
      | some d, some ds => if (SeqAt.shaped d && SeqAt.shaped (.list ds)) = true then some (ds.any fun z => PyData.eqv z d) else none
      | _, _ => none
  | .frz ys => if (flatP x && ys.all flatP) = true then some (ys.any fun y => eqFl y x) else none
  | _ => none
def pIn (x y : PV) : Option PV := (inB x y).map .bl
def pNotIn (x y : PV) : Option PV := (inB x y).map fun b => .bl (!b)
abbrev rInS : R2 := fun x y H Q => ∃ i j, x = .str i ∧ y = .str j ∧ Q (.bl (!(Builtin.Str.occurrences j i 0 j.length 1).isEmpty)) H
abbrev rNotInS : R2 := fun x y H Q => ∃ i j, x = .str i ∧ y = .str j ∧ Q (.bl (!(!(Builtin.Str.occurrences j i 0 j.length 1).isEmpty))) H
abbrev rInP (K : PySem.W.Frag) : R2 := fun x y H Q => rIn K false x y H Q ∨ (fun x y H Q => rInD K x y H Q ∨ rInS x y H Q) x y H Q
abbrev rNotInP (K : PySem.W.Frag) : R2 := fun x y H Q => rIn K true x y H Q ∨ (fun x y H Q => rNotInD K x y H Q ∨ rNotInS x y H Q) x y H Q
theorem op_inP (hu : X.A.units + 65 < cLine) : OpR X (compareOp .In) (rInP X.K) := op_in_seq.or ((op_inD hu).or op_in_str)
theorem op_notInP (hu : X.A.units + 65 < cLine) : OpR X (compareOp .NotIn) (rNotInP X.K) := op_notIn_seq.or ((op_notInD hu).or op_notin_str)
theorem sim_in_core {x y : V} {H : Hp} {px py : PV} {Fx Fy : List Addr} {b : Bool} (hx : RV K H px x Fx) (hy : RV K H py y Fy) (e : inB px py = some b) :
    (∃ p xs, y = .ref p ∧ (SqL K H p xs ∨ SqT K H p xs) ∧ flatV x = true ∧ xs.all flatV = true ∧ inV x xs = b) ∨
    (∃ d ds, Dp K H x d ∧ Dp K H y (.list ds) ∧ SeqAt.shaped d = true ∧ SeqAt.shaped (.list ds) = true ∧ (ds.any fun z => PyData.eqv z d) = b) ∨
    (∃ i j, x = .str i ∧ y = .str j ∧ (!(Builtin.Str.occurrences j i 0 j.length 1).isEmpty) = b) := by
  cases py with
  | str j =>
    simp only [inB] at e
    cases px <;> simp at e
    rename_i i
    exact .inr (.inr ⟨i, j, rv_str hx, rv_str hy, by simpa using e⟩)
  | tup ys =>
    simp only [inB] at e
    split at e
    · rename_i h
      rw [Bool.and_eq_true] at h
      simp only [Option.some.injEq] at e
      simp only [RV] at hy
      obtain ⟨a, vs, rfl, ha, hl⟩ := hy
      exact .inl ⟨a, vs, rfl, .inr ha, flatP_ok hx h.1, flatL_ok hl h.2, by rw [inFl_ok hx h.1 hl h.2]; exact e⟩
    · cases e
  | frz ys =>
    simp only [inB] at e
    split at e
    · rename_i h
      rw [Bool.and_eq_true] at h
      simp only [Option.some.injEq] at e
      simp only [RV] at hy
      obtain ⟨a, vs, rfl, ha, hl, _⟩ := hy
      exact .inl ⟨a, vs, rfl, .inl ha.toL, flatP_ok hx h.1, flatL_ok hl h.2, by rw [inFl_ok hx h.1 hl h.2]; exact e⟩
    · cases e
  | lst ys =>
    simp only [inB] at e
    split at e
    · rename_i h
      rw [Bool.and_eq_true] at h
      simp only [Option.some.injEq] at e
      simp only [RV] at hy
      obtain ⟨a, vs, _, rfl, ha, hl, _⟩ := hy
      exact .inl ⟨a, vs, rfl, .inl (SqL.of ha), flatP_ok hx h.1, flatL_ok hl h.2, by rw [inFl_ok hx h.1 hl h.2]; exact e⟩
    · split at e
      · rename_i d ds ed eds
        split at e
        · rename_i h
          rw [Bool.and_eq_true] at h
          simp only [Option.some.injEq] at e
          exact .inr (.inl ⟨d, ds, pD_ok hx ed, pD_ok hy (by simp [pD, eds]), h.1, h.2, e⟩)
        · cases e
      · cases e
  | _ => simp [inB] at e
theorem sim_in : SimR2 K (rInP K) pIn := by
  intro x y H Q px py Fx Fy hx hy q
  unfold pIn at q
  cases e : inB px py with
  | none => rw [e] at q; exact q.elim
  | some b =>
    rw [e] at q
    have q' := New.bl q
    rcases sim_in_core hx hy e with ⟨p, xs, h1, h2, h3, h4, h5⟩ | ⟨d, ds, h1, h2, h3, h4, h5⟩ | ⟨i, j, h1, h2, h3⟩
    · exact .inl ⟨p, xs, h1, h2, h3, h4, by simp only [h5]; exact q'⟩
    · exact .inr (.inl ⟨d, ds, h1, h2, h3, h4, by rw [h5]; exact q'⟩)
    · exact .inr (.inr ⟨i, j, h1, h2, by rw [h3]; exact q'⟩)
theorem sim_notIn : SimR2 K (rNotInP K) pNotIn := by
  intro x y H Q px py Fx Fy hx hy q
  unfold pNotIn at q
  cases e : inB px py with
  | none => rw [e] at q; exact q.elim
  | some b =>
    rw [e] at q
    have q' := New.bl q
    rcases sim_in_core hx hy e with ⟨p, xs, h1, h2, h3, h4, h5⟩ | ⟨d, ds, h1, h2, h3, h4, h5⟩ | ⟨i, j, h1, h2, h3⟩
    · exact .inl ⟨p, xs, h1, h2, h3, h4, by simp only [h5]; exact q'⟩
    · exact .inr (.inl ⟨d, ds, h1, h2, h3, h4, by rw [h5]; exact q'⟩)
    · exact .inr (.inr ⟨i, j, h1, h2, by rw [h3]; exact q'⟩)

/-! ### items -/
theorem at_ok {H : Hp} {xs : List PV} {vs : List V} {F : List Addr} {i : Int} {p : PV} (h : RVL K H xs vs F) (e : atI xs i = some p) : ∃ v F1, atI vs i = some v ∧ RV K H p v F1 ∧ ∀ b ∈ F1, b ∈ F := by
  unfold atI at e ⊢
  rw [h.length]
  cases ej : ixN xs.length i with
  | none => rw [ej] at e; cases e
  | some j =>
    rw [ej] at e
    exact h.get e
def pIx : PV → PV → Option PV
  | .lst xs, .int i => atI xs i
  | .frz xs, .int i => atI xs i
  | .tup xs, .int i => atI xs i
  | .str z, .int i => if z.length ≤ sizeLine then (atI z.cps.toList i).map fun c => .str ⟨#[c]⟩ else none
  | _, _ => none
theorem sim_ix : SimB2 K (rIx K) pIx := by
  intro x y H Q px py Fx Fy hx hy q
  unfold pIx at q
  split at q
  · rename_i xs i
    simp only [RV] at hx
    obtain ⟨a, vs, _, rfl, ha, hl, _⟩ := hx
    cases e : atI xs i with
    | none => rw [e] at q; exact q.elim
    | some p =>
      rw [e] at q
      obtain ⟨v, F1, ev, hv, _⟩ := at_ok hl e
      exact .inl ⟨a, vs, i, v, rfl, rv_int hy, SqL.of ha, ev, q v H F1 (fun _ _ e => e) hv⟩
  · rename_i xs i
    simp only [RV] at hx
    obtain ⟨a, vs, rfl, ha, hl, _⟩ := hx
    cases e : atI xs i with
    | none => rw [e] at q; exact q.elim
    | some p =>
      rw [e] at q
      obtain ⟨v, F1, ev, hv, _⟩ := at_ok hl e
      exact .inl ⟨a, vs, i, v, rfl, rv_int hy, ha.toL, ev, q v H F1 (fun _ _ e => e) hv⟩
  · rename_i xs i
    simp only [RV] at hx
    obtain ⟨a, vs, rfl, ha, hl⟩ := hx
    cases e : atI xs i with
    | none => rw [e] at q; exact q.elim
    | some p =>
      rw [e] at q
      obtain ⟨v, F1, ev, hv, _⟩ := at_ok hl e
      exact .inr (.inl ⟨a, vs, i, v, rfl, rv_int hy, ha, ev, q v H F1 (fun _ _ e => e) hv⟩)
  · rename_i z i
    split at q
    · rename_i hz
      cases e : atI z.cps.toList i with
      | none => rw [e] at q; exact q.elim
      | some c =>
        rw [e] at q
        exact .inr (.inr ⟨z, i, c, rv_str hx, rv_int hy, hz, e, q _ H [] (fun _ _ e => e) (by simp [RV])⟩)
    · exact q.elim
  · exact q.elim
/-- the item of a list, for o[i] op= e -/
theorem get_listL : PGet X (rIxL X.K) := by
  intro pins s σ H x y v u Q I rx ry h
  obtain ⟨p, xs, i, z, rfl, rfl, hq, he, q⟩ := h
  cases rx
  obtain ⟨t, rfl⟩ := ry
  obtain ⟨its, r, pl, hz⟩ := I.list hq
  obtain ⟨j, h1, h2, h3, h4, h5⟩ := atI_get he
  obtain ⟨w, ew, rw'⟩ := r.get h2
  have hl := r.length
  have hn := line63
  have fin : EP X pins σ Q w s := ⟨z, H, I, rw', q⟩
  by_cases h0 : 0 ≤ i
  · have hj : i.toNat = j := by
      rw [PySem.seqIndex_of h0 h5] at h1
      exact Option.some.inj h1
    exact wpAny_getItem_list pl.isList h0 (by omega) (by rw [hj]; simpa using ew) fin
  · have hj : (i + (its.toArray.size : Int)).toNat = j := by
      rw [PySem.seqIndex_neg (by omega) h4] at h1
      rw [List.size_toArray, ← hl]
      exact Option.some.inj h1
    exact wpAny_getItem_list_neg pl.isList (by omega) (by rw [List.size_toArray] <;> omega) (by omega) (by rw [hj]; simpa using ew) fin
def pIxL : PV → PV → Option PV
  | .lst xs, .int i => atI xs i
  | _, _ => none
theorem sim_ixL : SimB2 K (rIxL K) pIxL := by
  intro x y H Q px py Fx Fy hx hy q
  unfold pIxL at q
  split at q
  · rename_i xs i
    simp only [RV] at hx
    obtain ⟨a, vs, _, rfl, ha, hl, _⟩ := hx
    cases e : atI xs i with
    | none => rw [e] at q; exact q.elim
    | some p =>
      rw [e] at q
      obtain ⟨v, F1, ev, hv, _⟩ := at_ok hl e
      exact ⟨a, vs, i, v, rfl, rv_int hy, SqL.of ha, ev, q v H F1 (fun _ _ e => e) hv⟩
  · exact q.elim
/-! ### stores -/
theorem RVL.set {H : Hp} : ∀ {xs : List PV} {vs : List V} {F G : List Addr} {j : Nat} {p : PV} {v : V}, RVL K H xs vs F → RV K H p v G → (G ++ F).Nodup → ∃ F', RVL K H (xs.set j p) (vs.set j v) F' ∧ F'.Nodup ∧ ∀ b ∈ F', b ∈ G ++ F
  | [], vs, F, G, j, p, v, h, g, n => by
    simp only [RVL] at h
    obtain ⟨rfl, rfl⟩ := h
    exact ⟨[], by simp [RVL], List.nodup_nil, fun b z => by simp at z⟩
  | x :: xs, vs, F, G, 0, p, v, h, g, n => by
    simp only [RVL] at h
    obtain ⟨w, vr, F1, F2, rfl, h1, h2, rfl⟩ := h
    refine ⟨G ++ F2, by simp only [List.set_cons_zero, RVL]; exact ⟨v, vr, G, F2, rfl, g, h2, rfl⟩, ?_, fun b z => ?_⟩
    · exact n.sublist (List.Sublist.append (List.Sublist.refl _) (List.sublist_append_right _ _))
    · rcases List.mem_append.mp z with z | z
      · exact List.mem_append_left _ z
      · exact List.mem_append_right _ (List.mem_append_right _ z)
  | x :: xs, vs, F, G, j + 1, p, v, h, g, n => by
    simp only [RVL] at h
    obtain ⟨w, vr, F1, F2, rfl, h1, h2, rfl⟩ := h
    have n2 : (F1 ++ (G ++ F2)).Nodup := by
      refine nodup_of_perm ?_ n
      rw [← List.append_assoc, ← List.append_assoc]
      exact List.Perm.append_right _ List.perm_append_comm
    obtain ⟨F', a, b, c⟩ := RVL.set (j := j) h2 g (List.nodup_append.mp n2).2.1
    refine ⟨F1 ++ F', by simp only [List.set_cons_succ, RVL]; exact ⟨w, _, F1, F', rfl, h1, a, rfl⟩, ?_, fun d z => ?_⟩
    · rw [List.nodup_append]
      exact ⟨(List.nodup_append.mp n2).1, b, fun q hq r hr e => (List.nodup_append.mp n2).2.2 q hq r (c r hr) e⟩
    · rcases List.mem_append.mp z with z | z
      · exact List.mem_append_right _ (List.mem_append_left _ z)
      · rcases List.mem_append.mp (c d z) with z | z
        · exact List.mem_append_left _ z
        · exact List.mem_append_right _ (List.mem_append_right _ z)
def pSetL : PV → PV → PV → Option PV
  | .lst xs, .int k, v => (ixN xs.length k).map fun j => .lst (xs.set j v)
  | _, _, _ => none
theorem sim_setL : SimSet K rSetL pSetL := by
  intro o k v H Q p pk pv Fo Fk Fv ho hk hv n q
  unfold pSetL at q
  split at q
  · rename_i xs i
    simp only [RV] at ho
    obtain ⟨a, vs, F', rfl, ha, hl, rfl⟩ := ho
    cases e : ixN xs.length i with
    | none => rw [e] at q; exact q.elim
    | some j =>
      rw [e] at q
      refine ⟨a, vs, i, j, rfl, rv_int hk, ha, by rw [hl.length]; exact e, ?_⟩
      have n1 := n
      rw [List.perm_middle.nodup_iff, List.nodup_cons] at n1
      obtain ⟨na, n2⟩ := n1
      obtain ⟨G, b, c, d⟩ := RVL.set (j := j) hl hv n2
      have naG : a ∉ G := fun z => na (d a z)
      refine q _ (a :: G) ?_ (List.nodup_cons.mpr ⟨naG, c⟩) ⟨fun b o nb e => ?_, fun b z => .inl ?_⟩
      · simp only [RV]
        exact ⟨a, vs.set j v, G, rfl, upd_same, b.keep (keep_upd ha rfl naG), rfl⟩
      · rw [upd_ne]
        · exact e
        · intro z; subst z; exact nb (by simp)
      · rcases List.mem_cons.mp z with z | z
        · subst z; simp
        · rcases List.mem_append.mp (d b z) with z | z
          · exact List.mem_append_left _ z
          · exact List.mem_append_right _ (List.mem_cons_of_mem _ z)
  · exact q.elim

/-! ### slices -/
/-- a part of a slice -/
def ImO (K : PySem.W.Frag) (mg : Str → Option Value) (W : WX) (t : TO) (m : PEnv → EO (Option Int)) : Prop := ∀ σ H Q env F, RE K H env σ F → F.Nodup →
  PostE K mg W σ H F (fun o env' => ∀ H' F', RE K H' env' σ F' → F'.Nodup → Fm F H F' H' → Q o H') (m env) → t σ H Q
def oNone : PEnv → EO (Option Int) := fun env => .ok none env
def oSome (m : EM) : PEnv → EO (Option Int) := fun env => (m env).bind fun x e => match x with
  | .int i => .ok (some i) e
  | _ => .bad
variable {mg : Str → Option Value} {W : WX}
theorem im_oNone : ImO K mg W tNoPart oNone := fun σ H Q env F hr hn hp => hp H F hr hn Fm.refl
theorem im_oSome {t : TE} {m : EM} (h : ImE K mg W t m) : ImO K mg W (tPart t) (oSome m) := by
  intro σ H Q env F hr hn hp
  refine h σ H _ env F hr hn (hp.bind.imp fun x e q v H1 Fv F1 hr1 hx hn1 hf1 => ?_)
  cases x with
  | int i => exact ⟨i, rv_int hx, q H1 F1 hr1 (nd_right hn1) (fm_left hf1)⟩
  | _ => exact q.elim
def SimSl (K : PySem.W.Frag) (r : V → Option Int → Option Int → Hp → VK → Prop) (f : PV → Option Int → Option Int → Option PV) : Prop := ∀ x lo hi H Q px Fx, RV K H px x Fx → NewO K H Q (f px lo hi) → r x lo hi H Q
def eSl (f : PV → Option Int → Option Int → Option PV) (a : GM) (lo hi : PEnv → EO (Option Int)) : EM := fun env => (a env).bind fun x e1 => (lo e1).bind fun l e2 => (hi e2).bind fun h e3 => ofO ((seeG e3 x).bind fun p => f p l h) e3
theorem im_eSl {r : V → Option Int → Option Int → Hp → VK → Prop} {f : PV → Option Int → Option Int → Option PV} {ta : TE} {a : GM} {tl th : TO} {lo hi : PEnv → EO (Option Int)} (hs : SimSl K r f) (ha : ImG K mg W ta a) (hl : ImO K mg W tl lo) (hh : ImO K mg W th hi) : ImE K mg W (tSl r ta tl th) (eSl f a lo hi) := by
  intro σ H Q env F hr hn hp
  refine ha σ H _ env F hr hn (hp.bind.imp fun x e1 q1 v H1 Fv F1 hr1 hx hn1 hf1 => ?_)
  refine hl σ H1 _ e1 F1 hr1 (nd_right hn1) ((q1.bind.later (fm_left hf1)) fun l e2 q2 H2 F2 hr2 hn2 hf2 => ?_)
  have hx2 := hx.keep (keep_ap hn1 hr1.mt hf2)
  refine hh σ H2 _ e2 F2 hr2 hn2 ((q2.bind.later ((fm_left hf1).trans hf2)) fun h e3 q3 H3 F3 hr3 hn3 hf3 => ?_)
  have n2 := nd_later hn1 hx.mt hf2 hn2
  have hx3 := hx2.keep (keep_ap n2 hr2.mt hf3)
  cases ex : seeG e3 x with
  | none => rw [ex] at q3; exact q3.elim
  | some p =>
    rw [ex] at q3
    obtain ⟨Fx, rx⟩ := seeG_ok hr3 hx3 ex
    exact hs v l h H3 Q p Fx rx (fin_new hr3 hn3 (((fm_left hf1).trans hf2).trans hf3) q3)
def pcut {α : Type} (xs : List α) (lo hi : Option Int) : List α := (xs.drop (HT.sIx xs.length 0 lo)).take (HT.sIx xs.length xs.length hi - HT.sIx xs.length 0 lo)
theorem RVL.drop {H : Hp} : ∀ {xs : List PV} {vs : List V} (n : Nat), RVL K H xs vs [] → RVL K H (xs.drop n) (vs.drop n) []
  | xs, vs, 0, h => by simpa using h
  | [], vs, n + 1, h => by simp only [RVL] at h; rw [h.1]; simp [RVL]
  | x :: xs, vs, n + 1, h => by
    simp only [RVL] at h
    obtain ⟨v, vr, F1, F2, rfl, h1, h2, e⟩ := h
    have e' := List.append_eq_nil_iff.mp e.symm
    rw [e'.2] at h2
    simpa using RVL.drop n h2
theorem RVL.take {H : Hp} : ∀ {xs : List PV} {vs : List V} (n : Nat), RVL K H xs vs [] → RVL K H (xs.take n) (vs.take n) []
  | xs, vs, 0, h => by simp [RVL]
  | [], vs, n + 1, h => by simp only [RVL] at h; rw [h.1]; simp [RVL]
  | x :: xs, vs, n + 1, h => by
    simp only [RVL] at h
    obtain ⟨v, vr, F1, F2, rfl, h1, h2, e⟩ := h
    have e' := List.append_eq_nil_iff.mp e.symm
    rw [e'.2] at h2
    rw [e'.1] at h1
    simp only [List.take_succ_cons, RVL]
    exact ⟨v, _, [], [], rfl, h1, RVL.take n h2, rfl⟩
theorem RVL.cut {H : Hp} {xs : List PV} {vs : List V} (lo hi : Option Int) (h : RVL K H xs vs []) : RVL K H (pcut xs lo hi) (cutV vs lo hi) [] := by
  unfold pcut cutV
  rw [h.length]
  exact (h.drop _).take _
def pSl : PV → Option Int → Option Int → Option PV := fun x lo hi => match x with
  | .lst xs => if immL xs = true then some (.lst (pcut xs lo hi)) else none
  | .frz xs => if immL xs = true then some (.lst (pcut xs lo hi)) else none
  | .tup xs => if immL xs = true then some (.tup (pcut xs lo hi)) else none
  | .str z => if z.length ≤ sizeLine then some (.str (cutS z lo hi)) else none
  | _ => none
abbrev rSlP (K : PySem.W.Frag) : V → Option Int → Option Int → Hp → VK → Prop := fun x lo hi H Q => rSlL K x lo hi H Q ∨ (fun x lo hi H Q => rSlA K x lo hi H Q ∨ rSlS x lo hi H Q) x lo hi H Q
theorem sl_P : SlR X (rSlP X.K) := sl_list.or (sl_tupA.or sl_str)
theorem sim_sl : SimSl K (rSlP K) pSl := by
  intro x lo hi H Q px Fx hx q
  unfold pSl at q
  split at q
  · rename_i xs
    split at q
    · rename_i hi'
      simp only [RV] at hx
      obtain ⟨a, vs, _, rfl, ha, hl, _⟩ := hx
      exact .inl ⟨a, vs, rfl, SqL.of ha, New.lst q ((hl.nil_of hi').cut lo hi)⟩
    · exact q.elim
  · rename_i xs
    split at q
    · rename_i hi'
      simp only [RV] at hx
      obtain ⟨a, vs, rfl, ha, hl, _⟩ := hx
      exact .inl ⟨a, vs, rfl, ha.toL, New.lst q ((hl.nil_of hi').cut lo hi)⟩
    · exact q.elim
  · rename_i xs
    split at q
    · rename_i hi'
      simp only [RV] at hx
      obtain ⟨a, vs, rfl, ha, hl⟩ := hx
      refine .inr (.inl ⟨a, vs, rfl, ha, fun e => ?_, fun _ => New.tup q ((hl.nil_of hi').cut lo hi)⟩)
      have ec : pcut xs lo hi = xs := by
        unfold pcut
        rw [hl.length] at e
        rw [e.1, e.2]
        simp
      rw [ec] at q
      exact New.old q (by simp only [RV]; exact ⟨a, vs, rfl, ha, hl.nil_of hi'⟩)
    · exact q.elim
  · rename_i z
    split at q
    · rename_i hz
      exact .inr (.inr ⟨z, rv_str hx, hz, New.str q⟩)
    · exact q.elim
  · exact q.elim

/-! ### builtins -/
theorem rb1 {H : Hp} {p : PV} {xs : List V} (h : RB K H [p] xs) : ∃ v F, xs = [v] ∧ RV K H p v F := by
  simp only [RB] at h
  obtain ⟨v, _, F, rfl, h, rfl⟩ := h
  exact ⟨v, F, rfl, h⟩
theorem rb2 {H : Hp} {p r : PV} {xs : List V} (h : RB K H [p, r] xs) : ∃ v w F G, xs = [v, w] ∧ RV K H p v F ∧ RV K H r w G := by
  simp only [RB] at h
  obtain ⟨v, _, F, rfl, h, w, _, G, rfl, h2, rfl⟩ := h
  exact ⟨v, w, F, G, rfl, h, h2⟩
def lenP : PV → Option Nat
  | .str x => if x.length ≤ sizeLine then some x.length else none
  | .lst xs => some xs.length
  | .frz xs => some xs.length
  | .tup xs => some xs.length
  | _ => none
def pLen : List PV → Option PV
  | [x] => (lenP x).map fun n => .int n
  | _ => none
theorem sim_len : SimL K (fun xs H Q => ∃ x n, xs = [x] ∧ LenV K x H n ∧ Q (.int n) H) pLen := by
  intro xs H Q ps h q
  unfold pLen at q
  split at q
  · rename_i x
    obtain ⟨v, F, rfl, hv⟩ := rb1 h
    cases e : lenP x with
    | none => rw [e] at q; exact q.elim
    | some n =>
      rw [e] at q
      refine ⟨v, n, rfl, ?_, New.int q⟩
      cases x <;> simp only [lenP] at e
      case str y =>
        split at e
        · rename_i hz
          simp only [Option.some.injEq] at e
          rw [rv_str hv]
          exact ⟨hz, e.symm⟩
        · cases e
      case lst ys =>
        simp only [Option.some.injEq] at e
        simp only [RV] at hv
        obtain ⟨a, vs, _, rfl, ha, hl, _⟩ := hv
        exact .inl ⟨vs, SqL.of ha, by rw [hl.length, e]⟩
      case frz ys =>
        simp only [Option.some.injEq] at e
        simp only [RV] at hv
        obtain ⟨a, vs, rfl, ha, hl, _⟩ := hv
        exact .inl ⟨vs, ha.toL, by rw [hl.length, e]⟩
      case tup ys =>
        simp only [Option.some.injEq] at e
        simp only [RV] at hv
        obtain ⟨a, vs, rfl, ha, hl⟩ := hv
        exact .inr ⟨vs, ha, by rw [hl.length, e]⟩
      all_goals cases e
  · exact q.elim
def pTuple : List PV → Option PV
  | [.lst xs] => if immL xs = true then some (.tup xs) else none
  | [.frz xs] => if immL xs = true then some (.tup xs) else none
  | [.tup xs] => if immL xs = true then some (.tup xs) else none
  | _ => none
theorem sim_tuple : SimL K (fun xs H Q => ∃ p ys, xs = [.ref p] ∧ ((SqL K H p ys ∧ ∀ l, H l = none → Q (.ref l) (upd H l (.tup ys))) ∨ (SqT K H p ys ∧ Q (.ref p) H))) pTuple := by
  intro xs H Q ps h q
  unfold pTuple at q
  split at q
  · rename_i ys
    split at q
    · rename_i hi
      obtain ⟨v, F, rfl, hv⟩ := rb1 h
      simp only [RV] at hv
      obtain ⟨a, vs, _, rfl, ha, hl, _⟩ := hv
      exact ⟨a, vs, rfl, .inl ⟨SqL.of ha, New.tup q (hl.nil_of hi)⟩⟩
    · exact q.elim
  · rename_i ys
    split at q
    · rename_i hi
      obtain ⟨v, F, rfl, hv⟩ := rb1 h
      simp only [RV] at hv
      obtain ⟨a, vs, rfl, ha, hl, _⟩ := hv
      exact ⟨a, vs, rfl, .inl ⟨ha.toL, New.tup q (hl.nil_of hi)⟩⟩
    · exact q.elim
  · rename_i ys
    split at q
    · rename_i hi
      obtain ⟨v, F, rfl, hv⟩ := rb1 h
      have hv' := hv
      simp only [RV] at hv
      obtain ⟨a, vs, rfl, ha, hl⟩ := hv
      exact ⟨a, vs, rfl, .inr ⟨ha, New.old q (by simp only [RV]; exact ⟨a, vs, rfl, ha, hl.nil_of hi⟩)⟩⟩
    · exact q.elim
  · exact q.elim
def pList : List PV → Option PV
  | [.lst xs] => if immL xs = true then some (.lst xs) else none
  | [.frz xs] => if immL xs = true then some (.lst xs) else none
  | [.tup xs] => if immL xs = true then some (.lst xs) else none
  | _ => none
theorem sim_list : SimL K (fun xs H Q => ∃ p ys, xs = [.ref p] ∧ (SqL K H p ys ∨ SqT K H p ys) ∧ ∀ l, H l = none → Q (.ref l) (upd H l (.lst ys))) pList := by
  intro xs H Q ps h q
  unfold pList at q
  split at q
  · rename_i ys
    split at q
    · rename_i hi
      obtain ⟨v, F, rfl, hv⟩ := rb1 h
      simp only [RV] at hv
      obtain ⟨a, vs, _, rfl, ha, hl, _⟩ := hv
      exact ⟨a, vs, rfl, .inl (SqL.of ha), New.lst q (hl.nil_of hi)⟩
    · exact q.elim
  · rename_i ys
    split at q
    · rename_i hi
      obtain ⟨v, F, rfl, hv⟩ := rb1 h
      simp only [RV] at hv
      obtain ⟨a, vs, rfl, ha, hl, _⟩ := hv
      exact ⟨a, vs, rfl, .inl ha.toL, New.lst q (hl.nil_of hi)⟩
    · exact q.elim
  · rename_i ys
    split at q
    · rename_i hi
      obtain ⟨v, F, rfl, hv⟩ := rb1 h
      simp only [RV] at hv
      obtain ⟨a, vs, rfl, ha, hl⟩ := hv
      exact ⟨a, vs, rfl, .inr ha, New.lst q (hl.nil_of hi)⟩
    · exact q.elim
  · exact q.elim
def pAbs : List PV → Option PV
  | [.int i] => some (.int (if i < 0 then -i else i))
  | _ => none
theorem sim_abs : SimL K (fun xs H Q => ∃ i, xs = [.int i] ∧ Q (.int (if i < 0 then -i else i)) H) pAbs := by
  intro xs H Q ps h q
  unfold pAbs at q
  split at q
  · rename_i i
    obtain ⟨v, F, rfl, hv⟩ := rb1 h
    exact ⟨i, by rw [rv_int hv], New.int q⟩
  · exact q.elim
def pInt : List PV → Option PV
  | [.int i] => some (.int i)
  | [.bl b] => some (.int (if b then 1 else 0))
  | _ => none
theorem sim_int : SimL K (fun xs H Q => (∃ i, xs = [.int i] ∧ Q (.int i) H) ∨ ∃ k, xs = [.bl k] ∧ Q (.int (if k then 1 else 0)) H) pInt := by
  intro xs H Q ps h q
  unfold pInt at q
  split at q
  · rename_i i
    obtain ⟨v, F, rfl, hv⟩ := rb1 h
    exact .inl ⟨i, by rw [rv_int hv], New.int q⟩
  · rename_i b
    obtain ⟨v, F, rfl, hv⟩ := rb1 h
    exact .inr ⟨b, by rw [rv_bl hv], New.int q⟩
  · exact q.elim
/-- isinstance upon built-in types -/
def tyName : PV → Option String
  | .non => some "NoneType"
  | .bl _ => some "bool"
  | .int _ => some "int"
  | .str _ => some "str"
  | .tup _ => some "tuple"
  | .lst _ => some "list"
  | .frz _ => some "list"
  | .dct _ => some "dict"
  | _ => none
theorem tyName_ok {H : Hp} {x : PV} {v : V} {F : List Addr} {n : String} (h : RV K H x v F) (e : tyName x = some n) : TyX K H v (.type n) := by
  cases x <;> simp only [tyName, Option.some.injEq, reduceCtorEq] at e <;> subst e
  case non => rw [rv_non h]; exact .base .non
  case bl => rw [rv_bl h]; exact .base (.bl _)
  case int => rw [rv_int h]; exact .base (.int _)
  case str => rw [rv_str h]; exact .base (.str _)
  case tup xs =>
    simp only [RV] at h
    obtain ⟨a, vs, rfl, ha, _⟩ := h
    rcases ha with ha | ⟨o, its, n, hk, hc, _⟩
    · rcases ha with ha | ⟨o, ha⟩
      · exact .base (.tup ha)
      · exact .fTuple ha
    · exact .kTuple hk hc
  case lst xs =>
    simp only [RV] at h
    obtain ⟨a, vs, _, rfl, ha, _⟩ := h
    exact .base (.lst ha)
  case frz xs =>
    simp only [RV] at h
    obtain ⟨a, vs, rfl, ha, _⟩ := h
    rcases ha with ⟨o, ha⟩ | ⟨o, its, n, hk, hc, _⟩
    · exact .base (.frz ha)
    · exact .kList hk hc
  case dct kvs =>
    simp only [RV] at h
    obtain ⟨a, ws, _, rfl, ha, _⟩ := h
    rcases ha with ⟨vs, ha, _⟩ | ⟨vs, ha, _⟩
    · exact .base (.dK ha)
    · exact .base (.dT ha)
def isT (a b : String) : Bool := a == b || (a == "bool" && b == "int")
def tyKnown (s : String) : Bool := s == "NoneType" || s == "bool" || s == "int" || s == "str" || s == "tuple" || s == "list" || s == "dict"
theorem kitB_known {a b : String} (ha : tyKnown a = true) (hb : tyKnown b = true) : kitB a b = some (isT a b) := by
  simp only [tyKnown, Bool.or_eq_true, beq_iff_eq] at ha hb
  rcases ha with (((((rfl | rfl) | rfl) | rfl) | rfl) | rfl) | rfl <;> rcases hb with (((((rfl | rfl) | rfl) | rfl) | rfl) | rfl) | rfl <;> decide +kernel
def pIsi : List PV → Option PV
  | [x, .ty n] => (tyName x).bind fun a => if (tyKnown a && tyKnown n) = true then some (.bl (isT a n)) else none
  | _ => none
theorem sim_isi : SimL K (rIsi K) pIsi := by
  intro xs H Q ps h q
  unfold pIsi at q
  split at q
  · rename_i x n
    obtain ⟨v, w, F, G, rfl, hv, hw⟩ := rb2 h
    cases e : tyName x with
    | none => rw [e] at q; exact q.elim
    | some a =>
      rw [e] at q
      simp only [Option.bind_some] at q
      split at q
      · rename_i hk
        rw [Bool.and_eq_true] at hk
        simp only [RV] at hw
        exact ⟨v, w, .type a, .type n, isT a n, rfl, by rw [hw.1]; exact .ty n, tyName_ok hv e, kit_ty (kitB_known hk.1 hk.2), New.bl q⟩
      · exact q.elim
  · exact q.elim
theorem im_eTy {n : String} : ImE K mg W (tC (.ty n)) (eC (.ty n)) := fun σ H Q env F hr hn hp => hp (.ty n) H [] F hr (by simp [RV]) hn Fm.refl

/-! ### methods of lists -/
theorem rvl1 {H : Hp} {p : PV} {xs : List V} {F : List Addr} (h : RVL K H [p] xs F) : ∃ v, xs = [v] ∧ RV K H p v F := by
  simp only [RVL] at h
  obtain ⟨v, _, F1, F2, rfl, h, ⟨rfl, rfl⟩, rfl⟩ := h
  exact ⟨v, rfl, by simpa using h⟩
def pAppend : PV → List PV → Option (PV × PV)
  | .lst xs, [y] => if xs.length < sizeLine then some (.non, .lst (xs ++ [y])) else none
  | _, _ => none
theorem sim_append : SimM K rAppend pAppend := by
  intro x vs H Q p xs Fx Fa hx ha n q
  unfold pAppend at q
  split at q
  · rename_i xs y
    split at q
    · rename_i hz
      simp only [RV] at hx
      obtain ⟨a, ws, F', rfl, hH, hl, rfl⟩ := hx
      obtain ⟨v, rfl, hv⟩ := rvl1 ha
      refine ⟨a, ws, v, rfl, rfl, hH, by rw [hl.length]; exact hz, ?_⟩
      have n1 := n
      rw [List.perm_middle.nodup_iff, List.nodup_cons] at n1
      obtain ⟨na, n2⟩ := n1
      rw [List.mem_append, not_or] at na
      refine q .non _ [] (a :: (F' ++ Fa)) ?_ (by simp [RV]) ?_ ⟨fun b o nb e => ?_, fun b z => .inl ?_⟩
      · simp only [RV]
        exact ⟨a, ws ++ [v], F' ++ Fa, rfl, upd_same, ((hl.append (RVL.one hv)).keep (keep_upd hH rfl (by rw [List.mem_append, not_or]; exact ⟨na.2, na.1⟩))), rfl⟩
      · rw [List.nil_append, List.nodup_cons, List.mem_append, not_or]
        exact ⟨⟨na.2, na.1⟩, nodup_of_perm List.perm_append_comm n2⟩
      · rw [upd_ne]
        · exact e
        · intro z; subst z; exact nb (by simp)
      · simp only [List.nil_append, List.mem_cons, List.mem_append] at z ⊢
        rcases z with z | z | z
        · exact .inr (.inl z)
        · exact .inr (.inr z)
        · exact .inl z
    · exact q.elim
  · exact q.elim
def pExtend : PV → List PV → Option (PV × PV)
  | .lst xs, [.lst ys] => if xs.length + ys.length ≤ sizeLine ∧ immL ys = true then some (.non, .lst (xs ++ ys)) else none
  | _, _ => none
theorem sim_extend : SimMB K rExtend pExtend := by
  intro x vs H Q p xs Fx hx n ha q
  unfold pExtend at q
  split at q
  · rename_i xs ys
    split at q
    · rename_i hz
      simp only [RV] at hx
      obtain ⟨a, ws, F', rfl, hH, hl, rfl⟩ := hx
      obtain ⟨v, F, rfl, hv⟩ := rb1 ha
      simp only [RV] at hv
      obtain ⟨b, us, _, rfl, hB, hm, _⟩ := hv
      refine ⟨a, b, ws, us, rfl, rfl, hH, hB, by rw [hl.length, hm.length]; exact hz.1, ?_⟩
      obtain ⟨na, n2⟩ := List.nodup_cons.mp n
      refine q .non _ [] (a :: F') ?_ (by simp [RV]) (by simpa using n) ⟨fun b o nb e => ?_, fun b z => .inl (by simpa using z)⟩
      · simp only [RV]
        exact ⟨a, ws ++ us, F', rfl, upd_same, by simpa using (hl.append (hm.nil_of hz.2)).keep (keep_upd hH rfl (by simpa using na)), rfl⟩
      · rw [upd_ne]
        · exact e
        · intro z; subst z; exact nb (by simp)
    · exact q.elim
  · exact q.elim
end
end PVL

/-! E1: own exception classes below ValueError whose __init__ says super().__init__(text) and then stores its parameters. -/
namespace PySem
namespace SXE
open PySem.W PySem.Calls PyProof.Rows
def sxSup (p0 p1 p2 p3 p4 p5 : Pos) (j : Nat) (msg : Str) : Stmt := .Expr (.Call (.Attribute (.Call (.Name "super" p0) [] [] p1) "__init__" p2) [.Constant (.str msg) j p3] [] p4) p5
def sxFld (q1 q2 q3 q4 : Pos) (f : Str) : Stmt := .Assign [.Attribute (.Name "self" q1) f q2] (.Name f q3) q4
/-- the call super().__init__(text) is read as a method call (its name stands on the call's own line) -/
def sxPlain (p0 p1 p2 p3 p4 : Pos) (j : Nat) (msg : Str) : Prop := ∀ env : Env, eval (.Call (.Attribute (.Call (.Name "super" p0) [] [] p1) "__init__" p2) [.Constant (.str msg) j p3] [] p4) env = (do
      let ov ← attributeBase (.Call (.Name "super" p0) [] [] p1) "__init__" env (eval (.Call (.Name "super" p0) [] [] p1) env)
      standAt p2.atName
      let (f, first) ← holding [ov] (getMethod ov "__init__" (do return (← importBound (.Call (.Name "super" p0) [] [] p1) env).getD true))
      callWith p4 f first (backTo p4 (starEach [.Constant (.str msg) j p3] env)) [])
/-- what the written part says of the class x at C, its __init__ at fI (its names fs, self ahead), its cell, its code -/
structure SxTxt (prog : Program) (K : Frag) (mg : Str → Option Value) (x : Str) (C fI : Addr) (ps : List Str) : Prop where
  gC : mg x = some (.ref C)
  cls : ∃ nm q N bs bm sn sub ab col dd k0 k1 k2 k3 k5, K.lookup C = some (excClassObj nm q C N bs bm true sn sub ab col dd k0 k1 k2 k3 k5 "ValueError.__new__") ∧ PySem.HandSPX.refsVE bm = true
  sa : findIn K (.ref C) "__setattr__" = some (some (.builtin "object.__setattr__"))
  ga : findIn K (.ref C) "__getattribute__" = some (some (.builtin "BaseException.__getattribute__"))
  gg : findIn K (.ref C) "__getattr__" = some none
  noF : ∀ f ∈ ps, findIn K (.ref C) f = some none
  iC : findIn K (.ref C) "__init__" = some (some (.ref fI))
  tC : typeIn K (.ref fI) = some (.type "function")
  kC : keepIn K (.ref C) = true
  exC : subIn K (.ref C) (.type "BaseException") = some true
  veC : subIn K (.ref C) (.type "ValueError") = some true
  tyC : typeIn K (.ref C) = some (.type "type")
  hdC : hasDictIn K C = true
  slf : mroIn K C (.ref C) = some true
  opq : nsIn K cStatics "thirdparty.any" = some none
  sup : ks_superIn K C C "__init__" = some (some (.builtin "ValueError.__init__"))
  gsup : mg "super" = none
  tops : (prog.main.scope.names.lookup ("super" : Str)).isSome = false
  fn : ∃ (oc : Value) (od : Option Addr) (doc pm : Value) (an : Option Addr) (cda : Addr) (ct : Value) (osl : Array (Option Value)) (cc : Addr) (qual : Str) (params : Arguments) (body : List Stmt) (scope : Scope),
    K.lookup fI = some ⟨oc, od, .func (ksFn "__init__" qual params body scope .none .none doc pm an (.ref cda) ct cc), osl⟩ ∧ codeIn K (.ref cda) qual = true ∧
    (∃ ccl cdd vs ccs file tf, K.lookup cda = some ⟨ccl, cdd, .fields vs, ccs⟩ ∧ vs[2]? = some (.str file tf) ∧ ((prog.main.file : Str) == file) = true) ∧
    (∃ cl cld csl, K.lookup cc = some ⟨cl, cld, .cell (some (.ref C)), csl⟩) ∧
    (params.posonlyargs ++ params.args).head?.map (·.arg) = some "self" ∧
    (∃ p0 p1 p2 p3 p4 p5 j msg, ∃ qs : List (Pos × Pos × Pos × Pos), body = sxSup p0 p1 p2 p3 p4 p5 j msg :: (ps.zip qs).map (fun z => sxFld z.2.1 z.2.2.1 z.2.2.2.1 z.2.2.2.2 z.1) ∧ qs.length = ps.length ∧ sxPlain p0 p1 p2 p3 p4 j msg) ∧
    scope.names.lookup ("super" : Str) = some .globalImplicit ∧ scope.names.lookup ("__class__" : Str) = some .free ∧ scope.names.lookup ("self" : Str) = some .local ∧ (∀ f ∈ ps, scope.names.lookup f = some .local) ∧
    (∀ y ∈ scope.names, y.2 ≠ .cell) ∧ scope.isCoroutine = false ∧ scope.isGenerator = false ∧ scope.kind = .function ∧
    (∀ (s : Shared) (us : List Value), us.length = ps.length + 1 → BindsTo s (ksFn "__init__" qual params body scope .none .none doc pm an (.ref cda) ct cc) ⟨us, []⟩ ((("self" : Str) :: ps).zip us))

section
variable {prog : Program} {w : World} {A : Around} {E : Value → Shared → Prop} {s : Shared} {K : Frag} {mg mb : Str → Option Value} {x : Str} {C fI : Addr} {ps : List Str}
/-- ValueError.__init__ bound to the exception, called -/
theorem sx_call_bw {h : Heap} {g : Array GenState} {d : Drawn} {t : Nat} {os : OsState} {nm q : Str} {N : Addr} {bs bm : List Value} {hdct : Bool} {sn : List Str} {sub : List Value} {ab : Bool} {col : Option Bool} {dd : Option Addr} {k0 k1 k2 k3 k5 : Option Value}
    {u e t0 : Addr} {rest : List Value} {Q : Value → Shared → Prop}
    (hC : h.get? C = some (excClassObj nm q C N bs bm hdct sn sub ab col dd k0 k1 k2 k3 k5 "ValueError.__new__")) (he : h.get? e = some (HandSPX.excO C t0)) (hu : h.get? u = some (kxs_mw "ValueError.__init__" e)) (hrest : rest.length ≤ sizeLine)
    (hq : ∀ h' t1, (∀ b o, b ≠ e → h.get? b = some o → h'.get? b = some o) → h'.get? e = some (HandSPX.excO C t1) → Q .none ⟨h', g, d, t, os⟩) :
    wpAny (model prog w) A (call (.ref u) rest) Q E ⟨h, g, d, t, os⟩ := by
  refine wpAny_call (codeAny_of_tree ?_)
  show wpAny _ A.in1 (callAny (.ref u) ⟨rest, []⟩) _ _ _
  simp only [callAny]
  refine wpAny_bind (wpAny_load hu ?_)
  simp only [kxs_mw, show (Value.type "method-wrapper" == Value.type "method" || Value.type "method-wrapper" == Value.type "builtin_function_or_method" || Value.type "method-wrapper" == Value.type "method-wrapper") = true by decide, if_true]
  refine W.KFB.if_so (by decide) ?_
  refine wpAny_bind (check_bound_init F.excBase_ValueError.toExcCallFacts hC he rfl ?_)
  refine wpAny_bind (wpAny_pure (wpAny_pure ?_))
  refine ⟨Code.quiet_builtin _ (by decide +kernel), codeAny_builtin F.excBase_ValueError.initEntry ?_⟩
  rw [Around.under_plainId F.excBase_ValueError.init.plain _]
  wp_walk
  refine hq _ h.objs.size (fun b o hb ho => ?_) ?_
  · rw [Heap.get?_update_other _ _ (Ne.symm hb)]
    exact Heap.get?_push_of_some _ ho
  · rw [Heap.get?_update_self _ (Heap.get?_push_of_some _ he) rfl]
    rfl
theorem sx_sup_stmt {body : List Stmt} {p0 p1 p2 p3 p4 p5 : Pos} {j : Nat} {msg : Str} {qual : Str} {scope : Scope} {L e t0 cda cc : Addr} {m : Str → Option Value} {oc ccl cl : Value} {od cdd cld : Option Addr} {osl ccs csl : Array (Option Value)} {fd : FuncData} {vs : Array Value} {file : Str} {tf : Tok}
    {hh : Heap} {g : Array GenState} {d : Drawn} {t : Nat} {os : OsState} {Q : Flow → Shared → Prop} (hpl : sxPlain p0 p1 p2 p3 p4 j msg) (T : SxTxt prog K mg x C fI ps) (X : K.In hh) (hg : hh.Ns mainGlobals mg) (hb : hh.Ns builtinsNs mb) (hbb : mb "super" = bootBuiltins "super")
    (hm : hh.Ns L m) (hs : m "self" = some (.ref e)) (he : hh.get? e = some (HandSPX.excO C t0)) (hne : e ≠ C) (hLe : L ≠ e)
    (hf : K.lookup fI = some ⟨oc, od, .func fd, osl⟩) (hpar : (fd.params.posonlyargs ++ fd.params.args).head?.map (·.arg) = some "self")
    (hcode : K.lookup cda = some ⟨ccl, cdd, .fields vs, ccs⟩) (hvs : vs[2]? = some (.str file tf)) (hfile : ((prog.main.file : Str) == file) = true)
    (hcell : K.lookup cc = some ⟨cl, cld, .cell (some (.ref C)), csl⟩)
    (hks : scope.names.lookup ("super" : Str) = some .globalImplicit) (hkc : scope.names.lookup ("__class__" : Str) = some .free) (hka : scope.names.lookup ("self" : Str) = some .local) (hk : scope.kind = .function)
    (hq : ∀ h' tk' t1, (∀ b o, b ≠ e → hh.get? b = some o → h'.get? b = some o) → h'.get? e = some (HandSPX.excO C t1) → Q .next ⟨h', g, d, tk', os⟩) :
    _root_.PySem.wpAt (model prog w) A (.func body (ksEnv qual scope L fI (.ref cda) cc)) (exec (sxSup p0 p1 p2 p3 p4 p5 j msg) (ksEnv qual scope L fI (.ref cda) cc)) Q E ⟨hh, g, d, t, os⟩ := by
  obtain ⟨nm, q, N, bs, bm, sn, sub, ab, col, dd, k0, k1, k2, k3, k5, hC, hbm⟩ := T.cls
  have hcl : clsIn K C = some { name := nm, bases := bs, mro := .ref C :: bm, ns := N, qualname := q, hasDict := true, slotNames := sn, subclasses := sub, abstract := ab, collection := col, hasDel := false } := by unfold clsIn; rw [hC] <;> rfl
  obtain ⟨ar, har, hara⟩ : ∃ ar, (fd.params.posonlyargs ++ fd.params.args).head? = some ar ∧ ar.arg = "self" := by
    cases z : (fd.params.posonlyargs ++ fd.params.args).head? with
    | none => rw [z] at hpar; cases hpar
    | some ar => rw [z] at hpar; exact ⟨ar, rfl, Option.some.inj hpar⟩
  have hint : interactive (ksEnv qual scope L fI (.ref cda) cc) = false := by simp [interactive, hk]
  unfold sxSup
  refine ks_wpAt_Expr_any (ks_wpAt_MethodCall ?_ (hpl _)) hint rfl
  refine ks_wpAt_super_base (env := ksEnv qual scope L fI (.ref cda) cc) hks hkc (by decide) rfl (X _ _ hf) rfl har rfl (X _ _ hcode) rfl hvs hfile T.tops ?_
  refine ks_loadName_global hk hks (loadGlobal_builtin (env := ksEnv qual scope L fI (.ref cda) cc) hg T.gsup hb (hbb.trans (by decide +kernel)) ⟨rfl, ?_⟩)
  refine wpAny_loadName_free hk hkc rfl ⟨_, X _ _ hcell, rfl⟩ ?_
  rw [hara]
  refine wpAny_loadName_local hk hka hm hs ?_
  refine ks_wpAny_isType_cls (X _ _ hC) rfl ⟨rfl, ?_⟩
  refine ks_wpAny_call_super (X _ _ hC) rfl he rfl (fun c z => by cases z) (looks_mroIn X T.slf) (fun h1 e1 k1 => ?_)
  have X1 : K.In h1 := X.keeps k1
  have he1 := k1 _ _ he
  have I1 : InstAt h1 e (HandSPX.excO C t0) C none := ⟨he1, rfl, rfl, trivial⟩
  have hI : Looks (model prog w) h1 (isInstance (.ref e) (.type "ValueError")) true := I1.type.andThen (looks_subIn X1 T.veC)
  have hm' := T.sup
  unfold ks_superIn at hm'
  rw [hcl] at hm'
  refine kxs_getMethod kxs_ValueError e1 (looks_opaque X1 T.opq) (l₀ := .ref C :: bm) ?_ rfl X1 hm' hI hne (by decide) ?_
  · exact fun A Q E s k q => wpAny_bind ((looks_clsIn X1 hcl) A _ E s k (wpAny_pure q))
  · have hu : (h1.push (kxs_mw "ValueError.__init__" e)).get? h1.objs.size = some (kxs_mw "ValueError.__init__" e) := Heap.get?_push_at rfl rfl
    refine kxs_callWith (i := "ValueError.__init__") (x := e) rfl ?_
    refine Calls.evalArgs_plain ?_
    show wpAny _ _ (spliced ((false, eval (.Constant (.str msg) j p3) (ksEnv qual scope L fI (.ref cda) cc)) :: [])) _ _ _
    refine Calls.spliced_cons (Calls.Constant_str (Calls.spliced_nil ⟨hu, ?_⟩))
    have k2 : ∀ b o, hh.get? b = some o → (h1.push (kxs_mw "ValueError.__init__" e)).get? b = some o := fun b o z => Heap.get?_push_of_some _ (k1 b o z)
    refine sx_call_bw ((X.keeps k2) _ _ hC) (k2 _ _ he) hu (by show 1 ≤ sizeLine; decide) fun h' t1 kk hx => ?_
    exact hq h' _ t1 (fun b o hb z => kk b o hb (k2 b o z)) hx
end
end SXE
end PySem

/-! E2: the own exception is made. -/
namespace PySem
namespace SXE
open PySem.W PySem.Calls PyProof.Rows
abbrev exF (C t1 : Addr) (d : Option Addr) : Obj := { cls := .ref C, dict := d, data := .fields #[.ref t1, .none, .none, .none, .bool false, .none] }
/-- the exception at e, what it has been given so far -/
def ExS (C e n0 : Nat) (acc : List (Str × Value)) (h : Heap) : Prop :=
  ∃ t1, (acc = [] ∧ h.get? e = some (exF C t1 none)) ∨ ∃ dx, acc ≠ [] ∧ n0 ≤ dx ∧ dx ≠ e ∧ h.get? e = some (exF C t1 (some dx)) ∧ ∃ mA, h.Ns1 dx mA ∧ ∀ f, mA f = acc.lookup f
theorem lput {β : Type} (f g : Str) (y : β) (fs : List (Str × β)) : ((f, y) :: fs).lookup g = if g = f then some y else fs.lookup g := by
  by_cases h : g = f
  · subst h
    simp [List.lookup]
  · have e : (g == f) = false := by simpa using h
    rw [if_neg h]
    simp [List.lookup, e]
theorem look_in : ∀ (l : List (Str × Value)) (y : Str) (v : Value), (l.map (·.1)).Nodup → (y, v) ∈ l → l.lookup y = some v := by
  intro l y v nd hmem
  induction l with
  | nil => cases hmem
  | cons p r ih =>
    obtain ⟨a, b⟩ := p
    rw [List.map_cons, List.nodup_cons] at nd
    rw [lput]
    rcases List.mem_cons.mp hmem with e | e
    · cases e
      rw [if_pos rfl]
    · rw [if_neg, ih nd.2 e]
      rintro rfl
      exact nd.1 (List.mem_map.mpr ⟨_, e, rfl⟩)
theorem look_rev (l : List (Str × Value)) (y : Str) (v : Value) (nd : (l.map (·.1)).Nodup) (mem : (y, v) ∈ l) : l.reverse.lookup y = some v := by
  refine look_in _ _ _ ?_ (List.mem_reverse.mpr mem)
  rw [List.map_reverse]
  exact (List.reverse_perm _).nodup_iff.mpr nd
theorem within_acc : ∀ (acc : List (Str × Value)) (mA : Str → Option Value), (∀ f, mA f = acc.lookup f) → Within mA (acc.map (·.1)) := by
  intro acc mA h y hy
  rw [h y] at hy
  clear h
  induction acc with
  | nil => exact absurd rfl hy
  | cons p r ih =>
    obtain ⟨a, b⟩ := p
    rw [lput] at hy
    by_cases e : y = a
    · exact e ▸ List.mem_cons_self ..
    · rw [if_neg e] at hy
      exact List.mem_cons_of_mem _ (ih hy)
section
variable {prog : Program} {w : World} {A : Around} {E : Value → Shared → Prop} {K : Frag} {mg mb : Str → Option Value} {x : Str} {C fI : Addr} {ps : List Str}
theorem sx_store {hh hp : Heap} {g : Array GenState} {d : Drawn} {t : Nat} {os : OsState} {e L : Addr} {f : Str} {v : Value} {acc : List (Str × Value)} {m : Str → Option Value} {Q : Unit → Shared → Prop}
    (T : SxTxt prog K mg x C fI ps) (X : K.In hp) (he : hp.objs.size ≤ e) (hLe : L ≠ e) (hm : hh.Ns L m) (hL : e < L) (kp : ∀ b o, hp.get? b = some o → hh.get? b = some o) (hf : f ∈ ps) (hz : acc.length ≤ 900)
    (S : ExS C e (L + 1) acc hh)
    (hq : ∀ h' tk', h'.Ns L m → (∀ b o, hp.get? b = some o → h'.get? b = some o) → ExS C e (L + 1) ((f, v) :: acc) h' → Q () ⟨h', g, d, tk', os⟩) :
    wpAny (model prog w) A (setAttr (.ref e) f v) Q E ⟨hh, g, d, t, os⟩ := by
  obtain ⟨nm, q, N, bs, bm, sn, sub, ab, col, dd, k0, k1, k2, k3, k5, hC, hbm⟩ := T.cls
  have hcl : clsIn K C = some { name := nm, bases := bs, mro := .ref C :: bm, ns := N, qualname := q, hasDict := true, slotNames := sn, subclasses := sub, abstract := ab, collection := col, hasDel := false } := by unfold clsIn; rw [hC] <;> rfl
  have XX : K.In hh := X.keeps kp
  have hrf : PySem.HandSPX.refsVE (.ref C :: bm) = true := hbm
  have nb : ∀ {b o}, hp.get? b = some o → b ≠ e := fun z => Nat.ne_of_lt (Nat.lt_of_lt_of_le (Heap.lt_size z) he)
  have hLs : L < hh.objs.size := hm.lt
  obtain ⟨t1, S⟩ := S
  rcases S with ⟨ea, hx⟩ | ⟨dx, hac, hdx, hde, hx, mA, hns, hmA⟩
  · refine set_plain XX (ox := exF C t1 none) (od := none) ⟨hx, rfl, rfl, trivial⟩ T.sa ?_
    refine PySem.HandSPX.exc_osa XX hx hcl hrf rfl (T.noF f hf) (fun h' tk' dx k dn dne hx' hn => ?_)
    refine hq h' tk' ?_ (fun b o z => k b o (nb z) (kp b o z)) ⟨t1,   .inr ⟨dx, List.cons_ne_nil _ _, Nat.lt_of_lt_of_le hLs dn, dne, hx', _, hn, fun y => ?_⟩⟩
    · obtain ⟨oL, es, ep, a1, a2⟩ := hm
      exact ⟨oL, es, ep, k _ _ hLe a1, a2⟩
    · rw [lput, ea]
      rfl
  · have hLd : L ≠ dx := Nat.ne_of_lt hdx
    have hw := within_acc acc mA hmA
    obtain ⟨oD, _, _, hoD, _, _⟩ := hns.count hw
    refine set_plain XX (ox := exF C t1 (some dx)) (od := some oD) ⟨hx, rfl, rfl, hoD⟩ T.sa ?_
    refine PySem.OEX.osa_old XX hx hns hw (by rw [List.length_map]; omega) hcl hrf rfl (T.noF f hf) (fun h' tk' k hn => ?_)
    refine hq h' tk' ?_ (fun b o z => k b o (Nat.ne_of_lt (Nat.lt_of_lt_of_le (Heap.lt_size z) (Nat.le_trans he (Nat.le_of_lt (Nat.lt_of_lt_of_le hL (Nat.le_of_lt hdx)))))) (kp b o z)) ⟨t1, .inr ⟨dx, List.cons_ne_nil _ _, hdx, hde, k _ _ (Ne.symm hde) hx, _, hn, fun y => ?_⟩⟩
    · obtain ⟨oL, es, ep, a1, a2⟩ := hm
      exact ⟨oL, es, ep, k _ _ hLd a1, a2⟩
    · rw [lput]
      by_cases z : y = f
      · simp [z]
      · simp [z, hmA]
theorem sx_flds {hp : Heap} {g : Array GenState} {d : Drawn} {os : OsState} {e L cc : Addr} {m : Str → Option Value} {qual : Str} {scope : Scope} {cdv : Value} {Q : Flow → Shared → Prop}
    (T : SxTxt prog K mg x C fI ps) (X : K.In hp) (he : hp.objs.size ≤ e) (hL : e < L) (hs : m "self" = some (.ref e))
    (hka : scope.names.lookup ("self" : Str) = some .local) (hkf : ∀ f ∈ ps, scope.names.lookup f = some .local) (hk : scope.kind = .function) (hdb : ∀ f ∈ ps, (f == ("__debug__" : Str)) = false) (val : Str → Value) (hv : ∀ f ∈ ps, m f = some (val f))
    : ∀ (l : List (Str × (Pos × Pos × Pos × Pos))) (acc : List (Str × Value)) (hh : Heap) (t : Nat), (∀ z ∈ l, z.1 ∈ ps) → acc.length + l.length ≤ 900 → hh.Ns L m → (∀ b o, hp.get? b = some o → hh.get? b = some o) → ExS C e (L + 1) acc hh →
      (∀ h' tk', (∀ b o, hp.get? b = some o → h'.get? b = some o) → ExS C e (L + 1) ((l.map fun z => (z.1, val z.1)).reverse ++ acc) h' → Q .next ⟨h', g, d, tk', os⟩) →
      wpAny (model prog w) A (execs (l.map (fun z => sxFld z.2.1 z.2.2.1 z.2.2.2.1 z.2.2.2.2 z.1)) (ksEnv qual scope L fI cdv cc)) Q E ⟨hh, g, d, t, os⟩ := by
  intro l
  induction l with
  | nil =>
    intro acc hh t _ _ hm kp S hq
    exact wpAny_execs_nil (hq hh t kp S)
  | cons z l ih =>
    intro acc hh t hl hz hm kp S hq
    obtain ⟨f, q1, q2, q3, q4⟩ := z
    have hf : f ∈ ps := hl _ (List.mem_cons_self ..)
    rw [List.map_cons]
    refine wpAny_execs_cons ?_
    show wpAny _ _ (exec (sxFld q1 q2 q3 q4 f) _) _ _ _
    unfold sxFld
    refine plainObj_wpAny_Assign_Attribute ?_
    refine wpAny_Name (wpAny_loadName_local hk (hkf f hf) hm (hv f hf) ?_) (hdb f hf)
    refine wpAny_Name (wpAny_loadName_local hk hka hm hs ?_) (by decide)
    refine sx_store T X he (Nat.ne_of_gt hL) hm hL kp hf (by rw [List.length_cons] at hz; omega) S (fun h' tk' hm' kp' S' => ?_)
    refine ih _ h' tk' (fun y hy => hl y (List.mem_cons_of_mem _ hy)) (by rw [List.length_cons] at hz ⊢; omega) hm' kp' S' (fun h2 tk2 k2 S2 => hq h2 tk2 k2 ?_)
    have e1 : (List.map (fun z => (z.1, val z.1)) ((f, q1, q2, q3, q4) :: l)).reverse ++ acc = (List.map (fun z => (z.1, val z.1)) l).reverse ++ (f, val f) :: acc := by simp
    rw [e1]
    exact S2
/-- the __init__ runs -/
theorem sx_init {hp : Heap} {g : Array GenState} {d : Drawn} {t : Nat} {os : OsState} {us : List Value} (T : SxTxt prog K mg x C fI ps) (X : K.In hp) (hlim : hp.NoLimit) (hg : hp.Ns mainGlobals mg) (hb : hp.Ns builtinsNs mb) (hbb : mb "super" = bootBuiltins "super")
    (hroom : A.depth < recursionLimit) (hlen : us.length = ps.length) (hnd : ps.Nodup) (hns : ("self" : Str) ∉ ps) (hdb : ("__debug__" : Str) ∉ ps) (hz : ps.length ≤ 900) :
    codeAny (model prog w) A (.call (.ref fI) ⟨.ref (hp.objs.size + 1) :: us, []⟩) (fun r s' => r = .ok (.ret .none) ∧ s'.os = os ∧ s'.gens = g ∧ (∀ b o, hp.get? b = some o → s'.heap.get? b = some o) ∧ ExS C (hp.objs.size + 1) (hp.objs.size + 3) (ps.zip us).reverse s'.heap)
      ⟨(hp.push (kdv_tup us)).push (PySem.HandSPX.excO C hp.objs.size), g, d, t, os⟩ := by
  obtain ⟨oc, od, doc, pm, an, cda, ct, osl, cc, qual, params, body, scope, ho, hcd, ⟨ccl, cdd, vs, ccs, file, tf, hcode, hvs, hfile⟩, ⟨cl, cld, csl, hcell⟩, hpar, ⟨p0, p1, p2, p3, p4, p5, j, msg, qs, hbody, hqs, hpl⟩, hks, hkc, hka, hkf, hnc, hco, hgen, hk, hbind⟩ := T.fn
  have kk : ∀ b o, hp.get? b = some o → ((hp.push (kdv_tup us)).push (PySem.HandSPX.excO C hp.objs.size)).get? b = some o := fun b o e => Heap.get?_push_of_some _ (Heap.get?_push_of_some _ e)
  have hget : ((hp.push (kdv_tup us)).push (PySem.HandSPX.excO C hp.objs.size)).get? (hp.objs.size + 1) = some (PySem.HandSPX.excO C hp.objs.size) := by heap_get
  have hsz : ((hp.push (kdv_tup us)).push (PySem.HandSPX.excO C hp.objs.size)).objs.size = hp.objs.size + 2 := by simp [Heap.push]
  generalize ((hp.push (kdv_tup us)).push (PySem.HandSPX.excO C hp.objs.size)) = h1 at kk hget hsz ⊢
  have X1 : K.In h1 := X.keeps kk
  refine ks_codeAny_call_defAt (fd := ksFn "__init__" qual params body scope .none .none doc pm an (.ref cda) ct cc) (body := body) (binds := (("self" : Str) :: ps).zip (.ref (hp.objs.size + 1) :: us)) hroom (X1 _ _ ho) rfl (hlim.keeps kk) (codeRec_of X1 hcd) rfl
    (hbind _ _ (by simp [hlen])) hnc ?_ (fun h0 hL hk0 => ?_) hco hgen hk
  · intro y hy
    have hy1 : y.1 ∈ ("self" : Str) :: ps := (List.of_mem_zip hy).1
    rcases List.mem_cons.mp hy1 with e | e
    · rw [e]
      exact hka
    · exact hkf _ e
  · show _root_.PySem.wpAt _ _ _ (execs body (ksEnv qual scope h1.objs.size fI (.ref cda) cc)) _ _ _
    have hL' : h0.Ns h1.objs.size (fun y => ((("self" : Str) :: ps).zip (Value.ref (hp.objs.size + 1) :: us)).reverse.lookup y) := hL
    have hk0' : ∀ b o, hp.get? b = some o → h0.get? b = some o := fun b o z => hk0 b o (kk b o z)
    have look := @look_rev
    have lt1 : hp.objs.size + 1 < h1.objs.size := hsz ▸ Nat.lt_succ_self _
    have nb1 : ∀ {b : Addr} {o : Obj}, hp.get? b = some o → b ≠ hp.objs.size + 1 := fun z => Nat.ne_of_lt (Nat.lt_succ_of_lt (Heap.lt_size z))
    have zlen : (("self" : Str) :: ps).length = (Value.ref (hp.objs.size + 1) :: us).length := by simp [hlen]
    have nd0 : (((("self" : Str) :: ps).zip (Value.ref (hp.objs.size + 1) :: us)).map (·.1)).Nodup := by
      have e1 : ((("self" : Str) :: ps).zip (Value.ref (hp.objs.size + 1) :: us)).map (·.1) = ("self" : Str) :: ps := List.map_fst_zip (by omega)
      rw [e1]
      exact List.nodup_cons.mpr ⟨hns, hnd⟩
    have hs : ((("self" : Str) :: ps).zip (Value.ref (hp.objs.size + 1) :: us)).reverse.lookup ("self" : Str) = some (.ref (hp.objs.size + 1)) := look _ _ _ nd0 (by rw [List.zip_cons_cons]; exact List.mem_cons_self ..)
    have hv : ∀ f ∈ ps, ((("self" : Str) :: ps).zip (Value.ref (hp.objs.size + 1) :: us)).reverse.lookup f = some ((((("self" : Str) :: ps).zip (Value.ref (hp.objs.size + 1) :: us)).reverse.lookup f).getD .none) := by
      intro f hf
      obtain ⟨i, hi, rfl⟩ := List.mem_iff_getElem.mp hf
      have e1 := look _ ps[i] us[i] nd0 (by rw [List.zip_cons_cons]; exact List.mem_cons_of_mem _ (List.mem_iff_getElem.mpr ⟨i, by simp [hlen, hi], by simp⟩))
      rw [e1]
      rfl
    rw [hbody]
    refine ks_wpAt_execs_cons ?_
    refine sx_sup_stmt (qual := qual) hpl T (X.keeps hk0') (by obtain ⟨o, es, ep, a1, a2⟩ := hg; exact ⟨o, es, ep, hk0' _ _ a1, a2⟩) (by obtain ⟨o, es, ep, a1, a2⟩ := hb; exact ⟨o, es, ep, hk0' _ _ a1, a2⟩) hbb hL' hs (hk0 _ _ hget) ?_ (Nat.ne_of_gt lt1) ho hpar hcode hvs hfile hcell hks hkc hka hk (fun h2 tk2 t1 k2 hx2 => ?_)
    · rintro e
      obtain ⟨nm, q, N, bs, bm, sn, sub, ab, col, dd, k0, k1, k2, k3, k5, hC, hbm⟩ := T.cls
      exact nb1 (X _ _ hC) e.symm
    · refine wpAt_of_wpAny ?_
      have kp2 : ∀ b o, hp.get? b = some o → h2.get? b = some o := fun b o z => k2 b o (nb1 z) (hk0' b o z)
      refine sx_flds T X (e := hp.objs.size + 1) (L := h1.objs.size) (Nat.le_succ _) lt1 hs hka hkf hk (fun f hf => by
        have : f ≠ ("__debug__" : Str) := fun z => hdb (z ▸ hf)
        simpa using this) _ hv (ps.zip qs) [] h2 tk2 (fun z hz => (List.of_mem_zip hz).1) (by simp [hqs]; omega) ?_ kp2 ⟨t1, .inl ⟨rfl, hx2⟩⟩ (fun h3 tk3 k3 S3 => ?_)
      · obtain ⟨o, es, ep, a1, a2⟩ := hL'
        exact ⟨o, es, ep, k2 _ _ (Nat.ne_of_gt lt1) a1, a2⟩
      · refine ⟨rfl, rfl, rfl, k3, ?_⟩
        have e1 : (List.map (fun z => (z.1, (((("self" : Str) :: ps).zip (Value.ref (hp.objs.size + 1) :: us)).reverse.lookup z.1).getD .none)) (ps.zip qs)) = ps.zip us := by
          refine List.ext_getElem (by simp [hqs, hlen]) fun i h1 h2 => ?_
          have hi : i < ps.length := by simp [hqs] at h1; omega
          have hi2 : i < us.length := by omega
          have e1 := look _ ps[i] us[i] nd0 (by rw [List.zip_cons_cons]; exact List.mem_cons_of_mem _ (List.mem_iff_getElem.mpr ⟨i, by simp [hlen, hi], by simp⟩))
          simp only [List.getElem_map, List.getElem_zip]
          rw [e1]
          rfl
        rw [List.append_nil, e1, hsz] at S3
        exact S3
end

end SXE
end PySem
namespace PVL
open PySem PySem.Spec L2 PySem.SXE PyProof.Rows
theorem relO_zip : ∀ {vs : List V} {us : List Value} (ps : List Str) (av : List (Str × V)) (au : List (Str × Value)), Vals vs us → (∀ f, RelO (av.lookup f) (au.lookup f)) → ∀ f, RelO (((ps.zip vs).reverse ++ av).lookup f) (((ps.zip us).reverse ++ au).lookup f) := by
  intro vs us ps av au h
  induction h generalizing ps av au with
  | nil => intro r f; simpa using r f
  | @cons v u vr ur hv hr ih =>
    intro r f
    cases ps with
    | nil => simpa using r f
    | cons p ps =>
      rw [List.zip_cons_cons, List.zip_cons_cons, List.reverse_cons, List.reverse_cons, List.append_assoc, List.append_assoc]
      refine ih ps _ _ (fun g => ?_) f
      show RelO (((p, v) :: av).lookup g) (((p, u) :: au).lookup g)
      rw [lput, lput]
      by_cases e : g = p
      · rw [if_pos e, if_pos e]; exact hv
      · rw [if_neg e, if_neg e]; exact r g
/-- the reading of C(e, ..): the fields are stored in a fresh dict -/
def tMkS (C : Addr) (ps : List Str) (ta : TA)   : L2.St → Hp → XK → Prop := fun σ H Q => ta σ H fun vs H1 => vs.length = ps.length ∧
  match ps with
  | [] => Q (.ref C) none H1
  | _ :: _ => ∀ d, H1 d = none → Q (.ref C) (some d) (upd H1 d (.xd (ps.zip vs).reverse))
/-- what a name list must keep -/
def psOk (ps : List Str) : Bool := decide ps.Nodup && (!ps.contains "self" && (!ps.contains "__debug__" && decide (ps.length ≤ 900)))
section
variable {X : Cx} {x : Str} {C fI : Addr} {ps : List Str}
theorem mk_call {pins : List (Addr × Obj)} {σ : L2.St} {H1 : Hp} {s1 : Shared} {us : List Value} {vs : List V} {Q : XK} {k : Nat} (T : SxTxt X.prog X.K X.mg x C fI ps) (hp : psOk ps = true) (hr : Room (k + 1) X.A) (hsu : X.mg "super" = none) (I1 : Inv X pins σ H1 s1) (r1 : Vals vs us) (hl : vs.length = ps.length)
    (q : match ps with | [] => Q (.ref C) none H1 | _ :: _ => ∀ d, H1 d = none → Q (.ref C) (some d) (upd H1 d (.xd (ps.zip vs).reverse))) :
    wpAny (model X.prog X.w) X.A (call (.ref C) us) (MkP X pins σ Q) X.xe s1 := by
  unfold psOk at hp
  simp only [Bool.and_eq_true, decide_eq_true_eq, Bool.not_eq_true', List.contains_iff_mem, ← Bool.not_eq_true] at hp
  obtain ⟨hnd, hself, hdbg, h900⟩ := hp
  obtain ⟨nm, q0, N, bs, bm, sn, sub, ab, col, dd, k0, k1, k2, k3, k5, hC, hbm⟩ := T.cls
  have ok := I1.ok.mod
  have bk : ∀ b o, X.base.get? b = some o → s1.heap.get? b = some o := I1.bk
  obtain ⟨mb, hmb, hmbb⟩ := ok.blt
  have hlim : s1.heap.NoLimit := I1.nolimit
  have hgl : s1.heap.Ns mainGlobals X.mg := by obtain ⟨o, es, ep, a1, a2⟩ := ok.glob; exact ⟨o, es, ep, bk _ _ a1, a2⟩
  have hbl : s1.heap.Ns builtinsNs mb := by obtain ⟨o, es, ep, a1, a2⟩ := hmb; exact ⟨o, es, ep, bk _ _ a1, a2⟩
  have hX := I1.kIn
  have hlu : us.length = ps.length := by rw [← r1.length]; exact hl
  obtain ⟨h0, g, dr, tk, os⟩ := s1
  have hus : us.length ≤ sizeLine := by rw [hlu, sizeLine_eq]; omega
  have r' : Room k (X.A.under (.builtin "type.__call__" ⟨.ref C :: us, []⟩)) := hr.make C us []
  refine wpAny_call (PySem.HandSPX.call_own F.excBase_ValueError (fun Y => PySem.HandSPX.refsVE_contains Y bm hbm) (hX _ _ hC) (PySem.W.looks_findIn hX T.iC) (fun self => PySem.W.bind_fn hX self T.tC) hus
    (codeAny_mono (sx_init T hX hlim hgl hbl (hmbb _ (by decide)) r'.depth hlu hnd hself hdbg h900) fun r s' hq' => ?_))
  obtain ⟨er, eo, eg, kp, t1, S⟩ := hq'
  subst er
  obtain ⟨h2, g2, d2, t2, os2⟩ := s'
  dsimp only at eo eg kp S
  subst eo eg
  have hn1 : H1 (h0.objs.size + 1) = none := I1.hok.fresh (Nat.le_succ _)
  have nha : ∀ {b : Addr} {o : Obj}, h0.get? b = some o → b ≠ h0.objs.size + 1 := fun {b o} z => Nat.ne_of_lt (Nat.lt_of_lt_of_le (Heap.lt_size z) (Nat.le_succ _))
  have hnew : h0.get? (h0.objs.size + 1) = none := by
    cases z : h0.get? (h0.objs.size + 1) with
    | none => rfl
    | some o => exact absurd rfl (nha z)
  refine ⟨rfl, ?_⟩
  have rais : Raises X (.ref C) := raises_own T.exC T.tyC
  rcases S with ⟨ea, hx⟩ | ⟨dx, hac, hdx, hde, hx, mA, hns, hmA⟩
  · have hps : ps = [] := by
      cases ps with
      | nil => rfl
      | cons p r =>
        cases us with
        | nil => simp at hlu
        | cons u ur => simp at ea
    subst hps
    exact ⟨_, _, _, _, H1, .ref C, none, rfl, I1, kp, hnew, hx, ⟨rfl, rfl⟩, rfl, rfl, hn1, rfl, I1.bare, rais, q⟩
  · have hps : ∃ p r, ps = p :: r := by
      cases ps with
      | cons p r => exact ⟨p, r, rfl⟩
      | nil =>
        exact absurd rfl hac
    obtain ⟨p, r, hps⟩ := hps
    have hd1 : H1 dx = none := I1.hok.fresh (show h0.objs.size ≤ dx by exact Nat.le_trans (Nat.le_add_right _ 3) hdx)
    have ndx : ∀ {b : Addr} {o : Obj}, h0.get? b = some o → b ≠ dx := fun {b o} z => Nat.ne_of_lt (Nat.lt_of_lt_of_le (Heap.lt_size z) (Nat.le_trans (Nat.le_add_right _ 3) hdx))
    have un : Un (frs X.stack) [] (upd H1 (h0.objs.size + 1) (exo (h0.objs.size + 1) C none)) (upd (upd H1 dx (exd dx (ps.zip vs).reverse)) (h0.objs.size + 1) (exo (h0.objs.size + 1) C (some dx))) h0 h2 := {
      keep := fun b o z _ _ _ => kp b o z
      slot := fun b o z _ _ _ => ⟨o.slots, kp b o z⟩
      free := fun b o z n _ => by rw [upd_ne (nha z), upd_ne (ndx z)]; rw [upd_ne (nha z)] at n; exact n
      there := fun b o z _ => ⟨o, kp b o z⟩
      tups := fun b xs z => by
        by_cases e : b = h0.objs.size + 1
        · rw [e, upd_same] at z; exact absurd (Option.some.inj z) exo_tup
        · rw [upd_ne e] at z; rw [upd_ne e, upd_ne (ne_of_none z hd1)]; exact z
      frzs := fun b o v z => by
        by_cases e : b = h0.objs.size + 1
        · rw [e, upd_same] at z; exact absurd (Option.some.inj z) exo_frz
        · rw [upd_ne e] at z; rw [upd_ne e, upd_ne (ne_of_none z hd1)]; exact z
      tbls := fun b ps' z => ⟨#[], by
        by_cases e : b = h0.objs.size + 1
        · rw [e, upd_same] at z; exact absurd (Option.some.inj z) exo_tbl
        · rw [upd_ne e] at z; rw [upd_ne e, upd_ne (ne_of_none z hd1), z]; simp⟩ }
    have hok2 : HOk X.prog X.w (upd (upd H1 dx (exd dx (ps.zip vs).reverse)) (h0.objs.size + 1) (exo (h0.objs.size + 1) C (some dx))) h2 := fun b o z => by
      by_cases e : b = h0.objs.size + 1
      · rw [e, upd_same] at z
        obtain rfl := Option.some.inj z
        rw [e]
        exact exo_ok hx
      · rw [upd_ne e] at z
        by_cases e2 : b = dx
        · rw [e2, upd_same] at z
          obtain rfl := Option.some.inj z
          rw [e2]
          refine exd_ok hns fun f => ?_
          rw [hmA]
          have := relO_zip (vs := vs) (us := us) ps [] [] r1 (fun _ => True.intro) f
          rwa [List.append_nil, List.append_nil] at this
        · rw [upd_ne e2] at z
          have nod : ∀ {c : Addr} {u : HO}, H1 c = some u → c ≠ h0.objs.size + 1 ∧ c ≠ dx := fun {c u} hc => ⟨ne_of_none hc hn1, ne_of_none hc hd1⟩
          exact (I1.hok b o z).stay (fun c v _ y => kp c v y) (fun c hc => by rw [upd_ne (nod hc).1, upd_ne (nod hc).2]; exact hc) (fun c xs hc => by rw [upd_ne (nod hc).1, upd_ne (nod hc).2]; exact hc)
    have eH : upd (del (upd (upd H1 dx (exd dx (ps.zip vs).reverse)) (h0.objs.size + 1) (exo (h0.objs.size + 1) C (some dx))) (h0.objs.size + 1)) dx (.xd (ps.zip vs).reverse) = upd H1 dx (.xd (ps.zip vs).reverse) := by
      funext b
      by_cases e : b = dx
      · rw [e, upd_same, upd_same]
      · rw [upd_ne e, upd_ne e]
        by_cases e2 : b = h0.objs.size + 1
        · rw [e2, del_same, hn1]
        · rw [del_ne e2, upd_ne e2, upd_ne e]
    refine mk_end (Q := Q) rais I1 (Nat.le_succ _) (fun _ _ z => z) un hok2 rfl I1.bare upd_same (by rw [upd_ne hde, upd_same]) hd1 ?_
    rw [eH]
    subst hps
    exact q dx hd1
end
end PVL

/-! E3: raise of an own exception; try with several clauses, each with or without a name. -/
namespace PVL
open PySem PySem.Spec L2 PySem.SXE PyProof.Rows
/-! ### rule -/
abbrev Cl := Value × Option Nat × (Addr → Value → Option Addr → TS)
def dEnd (D : Ends) : Option Nat → Ends
  | none => D
  | some i => { nx := fun σ' H' => D.nx (σ'.set i none) H', rt := D.rt, bk := fun σ' H' => D.bk (σ'.set i none) H', ct := fun σ' H' => D.ct (σ'.set i none) H' }
def sEnd (σ : L2.St) (a : Addr) : Option Nat → L2.St
  | none => σ
  | some i => σ.set i (some (.ref a))
def wGen (K : PySem.W.Frag) (Wout : WX) (D : Ends) : List Cl → WX
  | [] => Wout
  | (c, i, ts) :: r => fun cls d σ H => ∃ b, PySem.W.exmOne K cls c = some b ∧ (b = true → ∀ a, H a = none → ts a cls d (dEnd D i) (sEnd σ a i) H) ∧ (b = false → wGen K Wout D r cls d σ H)
inductive HdG (X : Cx) : List ExceptHandler → List Cl → Prop
  | nil : HdG X [] []
  | cons {x : Str} {c : Value} {ts : Addr → Value → Option Addr → TS} {b₀ : Stmt} {suite : List Stmt} {np pos' : Pos} {hds : List ExceptHandler} {l : List Cl} (hc : Names X x c)
      (hsu : ∀ (a : Addr) (oe : Obj) (cls : Value) (d : Option Addr) (pn : List (Addr × Obj)), Zc cls d oe → (∃ vs, oe.data = .fields vs) → PSs (X.suite a ((a, oe) :: pn)) (b₀ :: suite) (ts a cls d)) (r : HdG X hds l) :
      HdG X (.ExceptHandler (some (.Name x np)) none (b₀ :: suite) pos' :: hds) ((c, none, ts) :: l)
  | as {x n : Str} {i : Nat} {c : Value} {ts : Addr → Value → Option Addr → TS} {b₀ : Stmt} {suite : List Stmt} {np pos' : Pos} {hds : List ExceptHandler} {l : List Cl} (hc : Names X x c) (hN : X.N.Nodup) (hi : X.N[i]? = some n) (hln : X.env.kindOf n = some .local)
      (hsu : ∀ (a : Addr) (oe : Obj) (cls : Value) (d : Option Addr) (pn : List (Addr × Obj)), Zc cls d oe → (∃ vs, oe.data = .fields vs) → PSs (X.suite a ((a, oe) :: pn)) (b₀ :: suite) (ts a cls d)) (r : HdG X hds l) :
      HdG X (.ExceptHandler (some (.Name x np)) (some n) (b₀ :: suite) pos' :: hds) ((c, some i, ts) :: l)
section
variable {X : Cx} {body : List Stmt} {h₀ : ExceptHandler} {hds : List ExceptHandler} {l : List Cl} {pos : Pos} {tb : WX → TS} {Wout : WX}
theorem ps_try_gen (hs : X.stack = X.env :: X.outer) (hf : X.env.frame = some X.env.locals) (tk : Takes X Wout)
    (hb : ∀ (W : WX) (pn : List (Addr × Obj)) (xe : Value → Shared → Prop), Takes (X.tr pn xe) W → PassesOwn (model X.prog X.w) X.A X.env xe → PSs (X.tr pn xe) body (tb W))
    (hh : HdG X (h₀ :: hds) l) : PS X (.Try body (h₀ :: hds) [] [] pos) (fun D σ H => tb (wGen X.K Wout D l) D σ H) := by
  refine ⟨fun pins s σ H D I h => ?_⟩
  have ok := I.ok
  have hfr : X.A.frames = some (X.env :: X.outer) := by rw [ok.frames, hs]
  refine wpAny_Try_except ?_
  refine wpAny_mono ((hb (wGen X.K Wout D l) (X.pn ++ pins) (fun e s₁ => wpAny (model X.prog X.w) X.A (noteFrame e X.env) (fun _ s₂ => wpAny (model X.prog X.w) X.A (setFlight e none) (fun _ s₃ =>
    wpAny (model X.prog X.w) X.A (handleBy e X.env (h₀ :: hds)) (SP X pins D) X.xe s₃) X.xe s₂) X.xe s₁) (fun u s' xx => ?_) PassesOwn.looking).run [] s σ H D (I.toTry _) h) (fun f s1 hsp => ?_) (fun e s1 he => he)
  · -- the catch
    obtain ⟨a, B, sI, pins', σ', H', cls, d, rfl, J', nb, up, sky, na, os, ag, w⟩ := xx
    have J : Inv X pins σ' H' sI := J'.ofTry ok
    have sky' : Sky B (X.env :: X.outer) a (Zc cls d) X.env.locals s'.heap := by rw [← hs]; exact sky
    show wpAny (model X.prog X.w) X.A (noteFrame (.ref a) X.env) _ _ _
    refine Sky.land Zc.steady hfr hf sky' fun h3 fl3 up3 => ?_
    have J3 : Inv X pins σ' H' { s' with heap := h3 } := J.landed nb fl3.1 (up.trans up3) os ag
    obtain ⟨oe3, vs3, he3, hz3, hd3⟩ := fl3.there
    have notFr : ∀ {h : Heap} {o : Obj} {vs : Array Value}, h.FunFrames B (X.env :: X.outer) → h.get? a = some o → o.data = .fields vs → a ∉ frs (X.env :: X.outer) := fun {h o vs} ff e dd hm => by
      obtain ⟨_, o', e', hnf⟩ := ff.mem hm
      rw [e] at e'; cases e'
      exact hnf _ dd
    have nfr := notFr fl3.2.2.1 he3 hd3
    have nL : a ≠ X.env.locals := fun z => nfr (List.mem_filterMap.mpr ⟨X.env, List.mem_cons_self, by rw [hf, z]⟩)
    have nF : a ∉ X.fs := fun hm => by
      obtain ⟨e, he, q⟩ := List.mem_filterMap.mp hm
      exact nfr (List.mem_filterMap.mpr ⟨e, List.mem_cons_of_mem _ he, q⟩)
    have S3 := J3.suite he3 hd3 na nL nF
    have go : ∀ {hds' : List ExceptHandler} {l' : List Cl}, HdG X hds' l' → wGen X.K Wout D l' cls d σ' H' →
        wpAny (model X.prog X.w) X.A (handleBy (.ref a) X.env hds') (SP X pins D) X.xe { s' with heap := h3 } := by
      intro hds' l' hk
      have test : ∀ {x : Str} {c : Value} {np : Pos} {Q : Value → Shared → Prop} {E : Value → Shared → Prop}, Names X x c → Q c { s' with heap := h3 } → wpAny (model X.prog X.w) (X.A.mark (some (.ref a))) (eval (.Name x np) X.env) Q E { s' with heap := h3 } := fun {x c np Q E} hc q => by
        obtain ⟨hg, hdbg, hm | ⟨hm, hv, hnn⟩⟩ := hc
        · exact ld_glob (X := X.suite a ((a, oe3) :: (X.pn ++ pins))) S3 hg hm q hdbg
        · exact ld_blt (X := X.suite a ((a, oe3) :: (X.pn ++ pins))) S3 hg hm hv q hnn hdbg
      have LT : PySem.W.Looks (model X.prog X.w) h3 (typeOf (.ref a)) cls := fun A Q E s k q => wpAny_typeOf_ref (k _ _ he3) (by rw [hz3.1]; exact q)
      induction hk with
      | nil =>
        intro w
        refine wpAny_handleBy_nil ?_
        obtain ⟨k1, k2, k3, oe, vs, T, oT, ts', he, hz, hd, h1, hr⟩ := id fl3
        unfold PySem.passOn
        refine wpAny_bind (wpAny_field he hd h1 ?_)
        rw [if_neg (show ¬ ((Value.ref T == Value.none) = true) from by simp)]
        have fin : wpAny (model X.prog X.w) X.A (setFlight (.ref a) X.env.frame) (fun _ s4 => wpAny (model X.prog X.w) X.A (throw (.ref a) : Sem Flow) (SP X pins D) X.xe s4) X.xe { s' with heap := h3 } := by
          rw [hf]
          refine HandSPX.setFlight_upZ fl3 fun h4 hh4 up4 => wpAny_throw (tk _ _ ?_)
          exact ⟨a, B, sI, pins, σ', H', cls, d, rfl, J, nb, (up.trans up3).trans up4, .inr (.inr (by rw [hs]; exact hh4)), na, os, ag, w⟩
        first
          | exact wpAny_bind (wpAny_pure (wpAny_bind fin))
          | exact wpAny_bind fin
      | @cons x c ts b₀ suite np pos' hds2 l2 hc hsu r ih =>
        intro w
        obtain ⟨b, hb1, hyes, hno⟩ := w
        refine wpAny_handleBy_cons (codeAny_handlers_test ?_) (by intro q; cases q)
        have LM := PySem.W.exm_one (M := model X.prog X.w) (J3.kIn) LT hb1
        refine test hc (LM.here ?_)
        cases b with
        | true =>
          refine codeAny_handlers_suite ?_
          refine HandSPX.lands_againZ fl3 fun h4 fl4 up4 => ?_
          have J4 : Inv X pins σ' H' { s' with heap := h4 } := J.landed nb fl4.1 ((up.trans up3).trans up4) os ag
          obtain ⟨oe4, vs4, he4, hz4, hd4⟩ := fl4.there
          have S4 := J4.suite he4 hd4 na nL nF
          refine wpAny_mono ((hsu a oe4 cls d (X.pn ++ pins) hz4 ⟨_, hd4⟩).run [] _ _ H' _ S4 (hyes rfl a na)) (fun f s6 hsp => ?_) (fun _ _ z => False.elim z)
          cases f with
          | next =>
            obtain ⟨σ6, H6, S6, q6⟩ := hsp
            exact ⟨_, _, S6.unsuite ok, q6⟩
          | brk =>
            obtain ⟨σ6, H6, S6, q6⟩ := hsp
            exact ⟨_, _, S6.unsuite ok, q6⟩
          | cont =>
            obtain ⟨σ6, H6, S6, q6⟩ := hsp
            exact ⟨_, _, S6.unsuite ok, q6⟩
          | ret u =>
            obtain ⟨v6, σ6, H6, S6, r6, q6⟩ := hsp
            exact ⟨_, _, _, S6.unsuite ok, r6, q6⟩
        | false =>
          show wpAny _ X.A (handleBy (.ref a) X.env hds2) _ _ _
          exact ih (hno rfl)
      | @as x n i c ts b₀ suite np pos' hds2 l2 hc hN hi hln hsu r ih =>
        intro w
        obtain ⟨b, hb1, hyes, hno⟩ := w
        refine wpAny_handleBy_cons (codeAny_handlers_test ?_) (by intro q; cases q)
        have LM := PySem.W.exm_one (M := model X.prog X.w) (J3.kIn) LT hb1
        refine test hc (LM.here ?_)
        cases b with
        | true =>
          refine codeAny_handlers_suite_as ?_
          refine HandSPX.lands_againZ fl3 fun h4 fl4 up4 => ?_
          have J4 : Inv X pins σ' H' { s' with heap := h4 } := J.landed nb fl4.1 ((up.trans up3).trans up4) os ag
          obtain ⟨oe4, vs4, he4, hz4, hd4⟩ := fl4.there
          have S4 := J4.suite he4 hd4 na nL nF
          refine store_ok (X := X.suite a ((a, oe4) :: (X.pn ++ pins))) (v := .ref a) S4 hN hi (.inl hln) rfl (fun s5 S5 => ?_) (.inr hln)
          refine wpAny_mono ((hsu a oe4 cls d (X.pn ++ pins) hz4 ⟨_, hd4⟩).run [] s5 _ H' _ S5 (hyes rfl a na)) (fun f s6 hsp => ?_) (fun _ _ z => False.elim z)
          have end_ : ∀ {σ6 : L2.St} {H6 : Hp} {Q : Shared → Prop}, Inv (X.suite a ((a, oe4) :: (X.pn ++ pins))) [] σ6 H6 s6 → (∀ s7, Inv X pins (σ6.set i none) H6 s7 → Q s7) →
              wpAny (model X.prog X.w) X.A (do bindName X.env n .none; unbindBehindTheSuite X.env n pos') (fun _ s7 => Q s7) X.xe s6 := fun {σ6 H6 Q} S6 hq => gone_ok (S6.unsuite ok) hN hi hln hq
          cases f with
          | next =>
            obtain ⟨σ6, H6, S6, q6⟩ := hsp
            exact end_ S6 fun s7 J7 => ⟨_, _, J7, q6⟩
          | brk =>
            obtain ⟨σ6, H6, S6, q6⟩ := hsp
            exact end_ S6 fun s7 J7 => ⟨_, _, J7, q6⟩
          | cont =>
            obtain ⟨σ6, H6, S6, q6⟩ := hsp
            exact end_ S6 fun s7 J7 => ⟨_, _, J7, q6⟩
          | ret u =>
            obtain ⟨v6, σ6, H6, S6, r6, q6⟩ := hsp
            exact end_ S6 fun s7 J7 => ⟨_, _, _, J7, r6, q6⟩
        | false =>
          show wpAny _ X.A (handleBy (.ref a) X.env hds2) _ _ _
          exact ih (hno rfl)
    exact go hh w
  · cases f with
    | next =>
      obtain ⟨σ', H', J', q⟩ := hsp
      exact wpAny_execs_nil ⟨σ', H', J'.ofTry ok, q⟩
    | brk =>
      obtain ⟨σ', H', J', q⟩ := hsp
      exact ⟨σ', H', J'.ofTry ok, q⟩
    | cont =>
      obtain ⟨σ', H', J', q⟩ := hsp
      exact ⟨σ', H', J'.ofTry ok, q⟩
    | ret u =>
      obtain ⟨v, σ', H', J', r, q⟩ := hsp
      exact ⟨v, σ', H', J'.ofTry ok, r, q⟩
end

/-! ### pure -/
/-- a clause: which classes it takes (by the module's names), its name's slot, its suite -/
abbrev PCl := List (Str × Bool) × Option Nat × SM
def slotN (i : Option Nat) (e : PEnv) : PEnv := match i with
  | none => e
  | some i => e.set i none
def SO.map (f : PEnv → PEnv) : SO → SO
  | .next e => .next (f e)
  | .ret x e => .ret x (f e)
  | .brk e => .brk (f e)
  | .cont e => .cont (f e)
  | .exc x e => .exc x (f e)
  | .bad => .bad
def noX : SO → SO
  | .exc _ _ => .bad
  | o => o
def pick (x : PX) (e : PEnv) : List PCl → SO
  | [] => .exc x e
  | (tab, i, m) :: r => match tab.lookup x.cls with
    | some true => (noX (m (slotN i e))).map (slotN i)
    | some false => pick x e r
    | none => .bad
def sTry (b : SM) (l : List PCl) : SM := fun env => match b env with
  | .exc x e => pick x e l
  | o => o
/-- the table tells what the clause takes -/
def TabOk (K : PySem.W.Frag) (mg : Str → Option Value) (c : Value) (tab : List (Str × Bool)) : Prop := ∀ n b cls, tab.lookup n = some b → mg n = some cls → PySem.W.exmOne K cls c = some b
inductive ClOk (K : PySem.W.Frag) (mg : Str → Option Value) (S : List Nat) : List Cl → List PCl → Prop
  | nil : ClOk K mg S [] []
  | cons {c : Value} {tab : List (Str × Bool)} {i : Option Nat} {ts : Addr → Value → Option Addr → TS} {m : SM} {l : List Cl} {p : List PCl} (ht : TabOk K mg c tab) (hi : ∀ j, i = some j → j ∈ S)
      (hm : ∀ a cls d, ImS K mg (fun _ _ _ _ => False) S (ts a cls d) m) (r : ClOk K mg S l p) : ClOk K mg S ((c, i, ts) :: l) ((tab, i, m) :: p)
section
variable {K : PySem.W.Frag} {mg : Str → Option Value} {W : WX} {S S1 S2 T : List Nat}
theorem re_slotN {H : Hp} {e : PEnv} {σ : L2.St} {F : List Addr} {i : Nat} (h : RE K H e σ F) (y : Option V) : ∃ F', RE K H (e.set i none) (σ.set i y) F' ∧ F'.Sublist F := by
  obtain ⟨F1, a, b⟩ := h.forget (i := i)
  exact ⟨F1, RE.anySlot a, b⟩
theorem post_dEnd {D : Ends} {σ : L2.St} {H : Hp} {F : List Addr} {i : Option Nat} (hi : ∀ j, i = some j → j ∈ S) {o : SO} (h : PostS K mg W S D σ H F ((noX o).map (slotN i))) : PostS K mg (fun _ _ _ _ => False) S (dEnd D i) σ H F o := by
  cases i with
  | none =>
    cases o with
    | next e => exact h
    | ret x e => exact h
    | brk e => exact h
    | cont e => exact h
    | exc x e => exact h.elim
    | bad => exact h
  | some i =>
    have hi := hi i rfl
    cases o with
    | next e =>
      intro σ' H' F' x1 x2 x3 x4
      obtain ⟨F1, a, b⟩ := re_slotN (i := i) x1 none
      exact h _ H' F1 a (x2.sublist b) (x3.sub fun z y => b.subset y) (x4.trans (Ag.set hi))
    | brk e =>
      intro σ' H' F' x1 x2 x3 x4
      obtain ⟨F1, a, b⟩ := re_slotN (i := i) x1 none
      exact h _ H' F1 a (x2.sublist b) (x3.sub fun z y => b.subset y) (x4.trans (Ag.set hi))
    | cont e =>
      intro σ' H' F' x1 x2 x3 x4
      obtain ⟨F1, a, b⟩ := re_slotN (i := i) x1 none
      exact h _ H' F1 a (x2.sublist b) (x3.sub fun z y => b.subset y) (x4.trans (Ag.set hi))
    | ret x e =>
      intro v σ' H' Fv F' x1 x2 x3 x4 x5
      obtain ⟨F1, a, b⟩ := re_slotN (i := i) x1 none
      have sub := List.Sublist.append (List.Sublist.refl Fv) b
      exact h v _ H' Fv F1 a x2 (x3.sublist sub) (x4.sub fun z y => sub.subset y) (x5.trans (Ag.set hi))
    | exc x e => exact h.elim
    | bad => exact h
theorem pick_ok {D : Ends} {σ0 : L2.St} {H0 : Hp} {F0 : List Addr} {x : PX} {e : PEnv} {l : List Cl} {p : List PCl} (hc : ClOk K mg S l p) :
    PostS K mg W S D σ0 H0 F0 (pick x e p) → ∀ cls d σ' H' F', RE K H' e σ' F' → F'.Nodup → Fm F0 H0 F' H' → Ag S σ0 σ' → RX K mg x cls d H' → wGen K W D l cls d σ' H' := by
  induction hc with
  | nil => exact fun h => h
  | @cons c tab i ts m l p ht hi hm r ih =>
    intro h cls d σ' H' F' x1 x2 x3 x4 x5
    simp only [pick] at h
    cases ht' : tab.lookup x.cls with
    | none => rw [ht'] at h; exact h.elim
    | some b =>
      refine ⟨b, ht _ _ _ ht' x5.1, fun hb a na => ?_, fun hb => ?_⟩
      · subst hb
        rw [ht'] at h
        have h2 := post_dEnd hi h
        cases i with
        | none => exact hm a cls d _ σ' H' e F' x1 x2 (h2.later x3 x4)
        | some i =>
          obtain ⟨F1, a1, b1⟩ := re_slotN (i := i) x1 (some (.ref a))
          exact hm a cls d _ _ H' _ F1 a1 (x2.sublist b1) (h2.later (x3.sub fun z y => b1.subset y) (x4.trans (Ag.set (hi i rfl))))
      · subst hb
        rw [ht'] at h
        exact ih h cls d σ' H' F' x1 x2 x3 x4 x5
theorem im_sTry {tb : WX → TS} {b : SM} {l : List Cl} {p : List PCl} (hb : ∀ W', ImS K mg W' S (tb W') b) (hc : ClOk K mg S l p) : ImS K mg W S (fun D σ H => tb (wGen K W D l) D σ H) (sTry b p) := by
  intro D σ H env F hr hn hp
  refine hb _ D σ H env F hr hn ?_
  unfold sTry at hp
  cases e : b env with
  | next e1 => rw [e] at hp; exact hp
  | ret x e1 => rw [e] at hp; exact hp
  | brk e1 => rw [e] at hp; exact hp
  | cont e1 => rw [e] at hp; exact hp
  | exc x e1 =>
    rw [e] at hp
    exact pick_ok hc hp
  | bad => rw [e] at hp; exact hp
/-- raise x(..) -/
def sRaise (x : Str) (ps : List Str) (a : AM) : SM := fun env => (a env).toS fun as e => match seeL e as with
  | some xs => if xs.length = ps.length ∧ immL xs = true then .exc ⟨x, (ps.zip xs).reverse⟩ e else .bad
  | none => .bad
theorem rvf_zip {H : Hp} : ∀ {xs : List PV} {vs : List V} (ps : List Str) (fx : List (Str × PV)) (fv : List (Str × V)), RB K H xs vs → immL xs = true → RVF K H fx fv [] → RVF K H ((ps.zip xs).reverse ++ fx) ((ps.zip vs).reverse ++ fv) []
  | [], vs, ps, fx, fv, h, _, g => by
    simp only [RB] at h
    subst h
    simpa using g
  | x :: xs, vs, [], fx, fv, h, _, g => by simpa using g
  | x :: xs, vs, p :: ps, fx, fv, h, hi, g => by
    simp only [RB] at h
    obtain ⟨v, vr, F, rfl, h1, h2⟩ := h
    simp only [immL, Bool.and_eq_true] at hi
    have := RV.imm hi.1 h1
    subst this
    rw [List.zip_cons_cons, List.zip_cons_cons, List.reverse_cons, List.reverse_cons, List.append_assoc, List.append_assoc]
    exact rvf_zip ps _ _ h2 hi.2 (by simp only [List.cons_append, List.nil_append, RVF]; exact ⟨v, fv, [], [], rfl, h1, g, rfl⟩)
theorem RB.length {H : Hp} : ∀ {xs : List PV} {vs : List V}, RB K H xs vs → vs.length = xs.length
  | [], vs, h => by simp only [RB] at h; rw [h]; rfl
  | x :: xs, vs, h => by
    simp only [RB] at h
    obtain ⟨v, vr, F, rfl, h1, h2⟩ := h
    simp [RB.length h2]
theorem im_sRaise {x : Str} {C : Addr} {ps : List Str} {ta : TA} {a : AM} (hm : mg x = some (.ref C)) (ha : ImA K mg W ta a) : ImS K mg W [] (fun _ σ H => tMkS C ps ta σ H fun cls d H' => W cls d σ H') (sRaise x ps a) := by
  intro D σ H env F hr hn hp
  refine ha σ H _ env F hr hn (hp.ofE.imp fun as e1 q1 vs H1 Fv F1 hr1 hx hn1 hf1 => ?_)
  cases ex : seeL e1 as with
  | none => rw [ex] at q1; exact q1.elim
  | some xs =>
    rw [ex] at q1
    simp only at q1
    by_cases hi : xs.length = ps.length ∧ immL xs = true
    · rw [if_pos hi] at q1
      have hb := seeL_ok hr1 hx ex
      have hl : vs.length = ps.length := by rw [RB.length hb]; exact hi.1
      refine ⟨hl, ?_⟩
      cases ps with
      | nil =>
        refine q1 (.ref C) none σ H1 F1 hr1 (nd_right hn1) (fm_left hf1) Ag.refl ⟨hm, .inl ?_⟩
        simp
      | cons p r =>
        intro d hd
        have s : Sm H1 (upd H1 d (.xd ((p :: r).zip vs).reverse)) := sm_upd hd
        refine q1 (.ref C) (some d) σ _ F1 (hr1.sm s) (nd_right hn1) ((fm_left hf1).trans (Fm.of_sm s fun _ z => .inl z)) Ag.refl ⟨hm, .inr ⟨d, _, rfl, upd_same, ?_⟩⟩
        have := (rvf_zip (K := K) (H := H1) (p :: r) [] [] hb hi.2 (by simp [RVF]))
        rw [List.append_nil, List.append_nil] at this
        exact this.keep fun b o e _ => s b o e
    · rw [if_neg hi] at q1
      exact q1.elim
end

/-! ### joint -/
structure JHd (X : Cx) (S : List Nat) (hds : List ExceptHandler) (l : List Cl) (p : List PCl) : Prop where
  hd : HdG X hds l
  im : ClOk X.K X.mg S l p
section
variable {X : Cx} {W : WX} {S S1 S2 : List Nat}
theorem jh_nil : JHd X S [] [] [] := ⟨.nil, .nil⟩
theorem jh_cons {x : Str} {c : Value} {tab : List (Str × Bool)} {ts : Addr → Value → Option Addr → TS} {m : SM} {b₀ : Stmt} {suite : List Stmt} {np pos' : Pos} {hds : List ExceptHandler} {l : List Cl} {p : List PCl} (hc : Names X x c) (ht : TabOk X.K X.mg c tab)
    (hsu : ∀ (a : Addr) (oe : Obj) (cls : Value) (d : Option Addr) (pn : List (Addr × Obj)), JSs (X.suite a ((a, oe) :: pn)) (fun _ _ _ _ => False) S1 (b₀ :: suite) (ts a cls d) m) (hS : ∀ j ∈ S1, j ∈ S) (r : JHd X S hds l p) :
    JHd X S (.ExceptHandler (some (.Name x np)) none (b₀ :: suite) pos' :: hds) ((c, none, ts) :: l) ((tab, none, m) :: p) :=
  ⟨.cons hc (fun a oe cls d pn _ _ => (hsu a oe cls d pn).ps) r.hd, .cons ht (fun j z => by cases z) (fun a cls d => ((hsu a default cls d []).im).mono hS) r.im⟩
theorem jh_as {x n : Str} (i : Nat) {c : Value} {tab : List (Str × Bool)} {ts : Addr → Value → Option Addr → TS} {m : SM} {b₀ : Stmt} {suite : List Stmt} {np pos' : Pos} {hds : List ExceptHandler} {l : List Cl} {p : List PCl} (hc : Names X x c) (ht : TabOk X.K X.mg c tab)
    (hsu : ∀ (a : Addr) (oe : Obj) (cls : Value) (d : Option Addr) (pn : List (Addr × Obj)), JSs (X.suite a ((a, oe) :: pn)) (fun _ _ _ _ => False) S1 (b₀ :: suite) (ts a cls d) m) (hS : ∀ j ∈ S1, j ∈ S) (hiS : i ∈ S) (r : JHd X S hds l p)
    (hN : X.N.Nodup) (hi : X.N[i]? = some n := by rfl) (hln : X.env.kindOf n = some .local := by rfl) :
    JHd X S (.ExceptHandler (some (.Name x np)) (some n) (b₀ :: suite) pos' :: hds) ((c, some i, ts) :: l) ((tab, some i, m) :: p) :=
  ⟨.as hc hN hi hln (fun a oe cls d pn _ _ => (hsu a oe cls d pn).ps) r.hd, .cons ht (fun j z => by cases z; exact hiS) (fun a cls d => ((hsu a default cls d []).im).mono hS) r.im⟩
theorem takes_any {W' : WX} (hs : X.stack = X.env :: X.outer) (hf : X.env.frame = some X.env.locals) (pn : List (Addr × Obj)) :
    Takes (X.tr pn (fun e s₁ => wpAny (model X.prog X.w) X.A (noteFrame e X.env) (fun _ s₂ => wpAny (model X.prog X.w) X.A (setFlight e none) (fun _ _ => True) (fun _ _ => True) s₂) (fun _ _ => True) s₁)) W' := by
  intro u s' xx
  obtain ⟨a, B, sI, pins', σ', H', cls, d, rfl, J', nb, up, sky, na, os, ag, w⟩ := xx
  have ok : X.Ok := J'.ok.ofTry
  have hfr : X.A.frames = some (X.env :: X.outer) := by rw [ok.frames, hs]
  have sky' : Sky B (X.env :: X.outer) a (Zc cls d) X.env.locals s'.heap := by rw [← hs]; exact sky
  show wpAny (model X.prog X.w) X.A (noteFrame (.ref a) X.env) (fun _ s₂ => wpAny (model X.prog X.w) X.A (setFlight (.ref a) none) (fun _ _ => True) (fun _ _ => True) s₂) (fun _ _ => True) s'
  refine Sky.land Zc.steady hfr hf sky' fun h3 fl3 up3 => ?_
  exact True.intro
theorem js_try {body : List Stmt} {h₀ : ExceptHandler} {hds : List ExceptHandler} {l : List Cl} {p : List PCl} {pos : Pos} {tb : WX → TS} {bm : SM} (hs : X.stack = X.env :: X.outer) (hf : X.env.frame = some X.env.locals) (tk : Takes X W)
    (hb : ∀ (W' : WX) (pn : List (Addr × Obj)) (xe : Value → Shared → Prop), Takes (X.tr pn xe) W' → PassesOwn (model X.prog X.w) X.A X.env xe → JSs (X.tr pn xe) W' S1 body (tb W') bm) (hS : ∀ j ∈ S1, j ∈ S) (hh : JHd X S (h₀ :: hds) l p) :
    JS X W S (.Try body (h₀ :: hds) [] [] pos) (fun D σ H => tb (wGen X.K W D l) D σ H) (sTry bm p) :=
  ⟨ps_try_gen hs hf tk (fun W' pn xe t po => (hb W' pn xe t po).ps) hh.hd, im_sTry (fun W' => ((hb W' [] _ (takes_any hs hf []) PassesOwn.looking).im).mono hS) hh.im⟩
theorem js_raise {x : Str} {C fI : Addr} {ps : List Str} {k : Nat} {p pos pos' : Pos} {e : Expr} {es : List Expr} {ta : TA} {a : AM} (hc : X.calm = true) (tk : Takes X W) (T : SxTxt X.prog X.K X.mg x C fI ps) (hp : psOk ps = true) (hr : Room (k + 1) X.A) (hg : Gl X x) (ha : JA X W (e :: es) ta a)
    (hdb : (x == ("__debug__" : Str)) = false := by decide) (he : starEach (e :: es) X.env = (false, eval e X.env) :: starEach es X.env := by rfl) (hpl : (backTo pos (starEach es X.env)).any (·.1) = false := by rfl) :
    JS X W [] (.Raise (some (.Call (.Name x p) (e :: es) [] pos)) none pos') (fun _ σ H => tMkS C ps ta σ H fun cls d H' => W cls d σ H') (sRaise x ps a) := by
  refine ⟨ps_raise hc tk (t := tMkS C ps ta) ?_, im_sRaise T.gC ha.im⟩
  intro pins s σ H Q I h
  refine wpAny_Call_Name_kw (ld_glob I hg T.gC ?_ hdb)
  refine PySem.W.callWith_K (h₀ := X.base) I.ok.mod.kin T.kC (thn (ha.pa.run pos pins s σ H _ I h) fun us s1 ⟨vs, H1, I1, r1, hz, q1⟩ => ⟨I1.kIn, ?_⟩) he hpl
  exact mk_call T hp hr T.gsup I1 r1 hz q1
theorem js_raise0 {x : Str} {C fI : Addr} {k : Nat} {p pos pos' : Pos} (hc : X.calm = true) (tk : Takes X W) (T : SxTxt X.prog X.K X.mg x C fI []) (hr : Room (k + 1) X.A) (hg : Gl X x)
    (hdb : (x == ("__debug__" : Str)) = false := by decide) :
    JS X W [] (.Raise (some (.Call (.Name x p) [] [] pos)) none pos') (fun _ σ H => tMkS C [] tNil σ H fun cls d H' => W cls d σ H') (sRaise x [] aNil) := by
  refine ⟨ps_raise hc tk (t := tMkS C [] tNil) ?_, im_sRaise T.gC im_aNil⟩
  intro pins s σ H Q I h
  refine wpAny_Call_Name_kw (ld_glob I hg T.gC ?_ hdb)
  refine PySem.W.callWith_K0 I.kIn T.kC ?_
  exact mk_call T rfl hr T.gsup I .nil h.1 h.2
end
end PVL

/-! P7b: more joint rules; a def of the text as it is called. -/
namespace PVL
open PySem PySem.Spec L2
section
variable {X : Cx} {W : WX} {S S1 S2 : List Nat} {e a b c : Expr} {es : List Expr} {te ta tb : TE} {tA : TA} {m ma mb : EM} {ga gb : GM} {ra rb : RM} {am : AM} {pos p2 : Pos} {tg iter : Expr} {g : TG} {mt : TM} {tI : TI} {it : PEnv → EO (List PV)} {body : List Stmt} {t : TS} {sa : SM}
/-- a built-in type as a value -/
theorem j_ty {x : Str} {n : String} (hv : bootBuiltins x = some (.type n)) (hm : X.mg x = none) (hg : Gl X x := by rfl) (hn : x ≠ "__name__" := by decide) (hd : (x == ("__debug__" : Str)) = false := by decide) : JE X W (.Name x pos) (tC (.ty n)) (eC (.ty n)) := ⟨pe_bltn hg hm hv rfl hn hd, im_eTy⟩
structure JO (X : Cx) (W : WX) (e : Option Expr) (t : TO) (m : PEnv → EO (Option Int)) : Prop where
  po : PO X e t
  im : ImO X.K X.mg W t m
theorem jo_none : JO X W none tNoPart oNone := ⟨po_none, im_oNone⟩
theorem jo_some (h : JE X W e te m) : JO X W (some e) (tPart te) (oSome m) := ⟨po_some h.pe, im_oSome h.im⟩
theorem j_sl {lo hi : Option Expr} {tl th : TO} {ml mh : PEnv → EO (Option Int)} (h : JG X W e te ga) (hl : JO X W lo tl ml) (hh : JO X W hi th mh) : JE X W (.Subscript e (.Slice lo hi none p2) pos) (tSl (rSlP X.K) te tl th) (eSl pSl ga ml mh) := ⟨pe_slice sl_P h.pe hl.po hh.po, im_eSl sim_sl h.im hl.im hh.im⟩
theorem js_forVS {i : Nat} (hp : PassesOwn (model X.prog X.w) X.A X.env X.xe) (hc : X.calm = true) (hv : JR X iter (tVar i) (rVar i)) (hg : JP X S1 tg g mt) (hb : JSs X W S2 body t sa) (hi : i ∉ S1 ++ S2 := by decide) (hs : ∀ x, foldedSetIterable iter X.env x = pure x := by intro _; rfl) :
    JS X W (S1 ++ S2) (.For tg iter body [] pos) (tFor (fun σ H R => iList X.K (tVar i) σ H R ∨ iTup X.K (tVar i) σ H R) g t) (sForVS i mt sa) := ⟨ps_for hp hc (pi_or (pi_list hv.pe) (pi_tup hv.pe)) hg.pg hb.ps hs, im_sForVS hg.im hb.im hi⟩
theorem j_lcVS (i : Nat) {elt : Expr} {scope : Scope} {own : List (Str × Nat)} {tt : TT} {te : TE} {mc : BM} {me : EM} {ifs : List Expr} (hc : X.calm = true) (hN : X.N.Nodup) (hv : JR X iter (tVar i) (rVar i)) (ok : blkC X.N X.env.scope scope own = true)
    (hg : ∀ (s : Shared) (H : Hp) (C : Addr) (cl : List (Str × Addr)) (fp : List Addr), JP (X.blk s H scope (compEnvC scope cl C X.env) fp) S tg g mt) (hS : ∀ j ∈ S, j ∈ own.map (·.2))
    (ht : ∀ (s : Shared) (H : Hp) (C : Addr) (cl : List (Str × Addr)) (fp : List Addr), PTs (X.blk s H scope (compEnvC scope cl C X.env) fp) ifs tt ∧ ImT X.K X.mg W0 tt mc)
    (he : ∀ (s : Shared) (H : Hp) (C : Addr) (cl : List (Str × Addr)) (fp : List Addr), JE (X.blk s H scope (compEnvC scope cl C X.env) fp) W0 elt te me) (hs : ∀ x, foldedSetIterable iter X.env x = pure x := by intro _; rfl) :
    JE X W (.ListComp elt [⟨tg, iter, ifs, 0⟩] scope pos) (tLc (fun σ H R => iList X.K (tVar i) σ H R ∨ iTup X.K (tVar i) σ H R) g tt te (own.map (·.2))) (eLCVS i (own.map (·.2)) mt mc me) :=
  ⟨pe_lc hc hN (pi_or (pi_list hv.pe) (pi_tup hv.pe)) (blkOk_by ok) (fun s H C cl fp => (hg s H C cl fp).pg) (fun s H C cl fp => (ht s H C cl fp).1) (fun s H C cl fp => (he s H C cl fp).pe) hs,
    im_eLCVS (hg X.s_0 X.H_0 0 [] []).im hS (ht X.s_0 X.H_0 0 [] []).2 (he X.s_0 X.H_0 0 [] []).im⟩
theorem js_setLcVS (i k : Nat) {y : Str} {py : Pos} {elt : Expr} {scope : Scope} {own : List (Str × Nat)} {pos spos : Pos} {tt : TT} {te : TE} {mc : BM} {me : EM} {ifs : List Expr} (hc : X.calm = true) (hN : X.N.Nodup) (hv : JR X iter (tVar k) (rVar k)) (ok : blkC X.N X.env.scope scope own = true)
    (hg : ∀ (s : Shared) (H : Hp) (C : Addr) (cl : List (Str × Addr)) (fp : List Addr), JP (X.blk s H scope (compEnvC scope cl C X.env) fp) S tg g mt) (hS : ∀ j ∈ S, j ∈ own.map (·.2))
    (ht : ∀ (s : Shared) (H : Hp) (C : Addr) (cl : List (Str × Addr)) (fp : List Addr), PTs (X.blk s H scope (compEnvC scope cl C X.env) fp) ifs tt ∧ ImT X.K X.mg W0 tt mc)
    (he : ∀ (s : Shared) (H : Hp) (C : Addr) (cl : List (Str × Addr)) (fp : List Addr), JE (X.blk s H scope (compEnvC scope cl C X.env) fp) W0 elt te me) (hy : X.N[i]? = some y := by rfl) (hyl : X.env.scope.names.lookup y = some .local := by rfl)
    (hsw : swapsWith (.ListComp elt [⟨tg, iter, ifs, 0⟩] scope pos) (some (.Name y py)) spos.line X.env = pure true := by exact sw_true rfl rfl rfl (by decide +kernel)) (hs : ∀ x, foldedSetIterable iter X.env x = pure x := by intro _; rfl) :
    JS X W [i] (.Assign [.Name y py] (.ListComp elt [⟨tg, iter, ifs, 0⟩] scope pos) spos) (tAsg (tLc (fun σ H R => iList X.K (tVar k) σ H R ∨ iTup X.K (tVar k) σ H R) g tt te (own.map (·.2))) (gName i)) (sAsg (eLCVS k (own.map (·.2)) mt mc me) (tgN i)) :=
  ⟨ps_setLc hc hN hy hyl hsw (pi_or (pi_list hv.pe) (pi_tup hv.pe)) (blkOk_by ok) (fun s H C cl fp => (hg s H C cl fp).pg) (fun s H C cl fp => (ht s H C cl fp).1) (fun s H C cl fp => (he s H C cl fp).pe) hs,
    im_sAsg (im_eLCVS (hg X.s_0 X.H_0 0 [] []).im hS (ht X.s_0 X.H_0 0 [] []).2 (he X.s_0 X.H_0 0 [] []).im) (im_tgN i)⟩
end
/-- a def as it is called: by its name, within so much room, as the pure function -/
def Cal (P : Program) (w : World) (K : PySem.W.Frag) (mg : Str → Option Value) (base : Heap) (x : Str) (k n : Nat) (fm : FM) : Prop :=
  ∃ (f : Addr) (fd : FuncData) (ps : List Str), FnOk P w K mg base (L2.CX P w) k f fd ps (spF K mg n fm) ∧ mg x = some (.ref f) ∧ PySem.W.keepIn K (.ref f) = true ∧ Binds K fd ps []
section
variable {X : Cx} {W : WX} {e : Expr} {es : List Expr} {tA : TA} {am : AM} {pos : Pos}
theorem j_fn {x : Str} {k n : Nat} {fm : FM} {p : Pos} (c : Cal X.prog X.w X.K X.mg X.base x k n fm) (hr : Room k X.A) (tk : Takes X W) (ha : JA X W (e :: es) tA am) (hl : (e :: es).length = n := by rfl) (hg : Gl X x := by rfl) (hdb : (x == ("__debug__" : Str)) = false := by decide)
    (he : starEach (e :: es) X.env = (false, eval e X.env) :: starEach es X.env := by rfl) (hpl : (backTo pos (starEach es X.env)).any (·.1) = false := by rfl) :
    JE X W (.Call (.Name x p) (e :: es) [] pos) (tCallS (spF X.K X.mg n fm) (WE W) tA) (eCall fm am) := by
  obtain ⟨f, fd, ps, F, hm, hk, hb⟩ := c
  exact j_call F hr hm hk hb tk ha hl hg hdb he hpl
end
theorem hu64 {k : Nat} {A : Around} (h : Room k A) : A.units + 64 < cLine := h.units
theorem hu65 {k : Nat} {A : Around} (h : Room k A) : A.units + 65 < cLine := by have := h.un; omega
/-- the def that has no fuel -/
def fBad : FM := fun _ => .bad
section
variable {P : Program} {w : World} {K : PySem.W.Frag} {mg : Str → Option Value} {base : Heap}
theorem cal_of {x qual : Str} {st : Stmt} {f : Addr} {fd : FuncData} {N ps : List Str} {k n m : Nat} {asg S : List Nat} {body : SM} (F : L2.Fun K x qual st f fd) (hm : mg x = some (.ref f)) (hb : Binds K fd ps []) (sc : FnScope N ps (defScope st)) (hn : ps.length = n) (hN : N.length = m)
    (hJ : ∀ (cdv : Value) (A : Around) (outer : List Env) (s : Shared) (H : Hp) (E : XK), Room k (A.deeper (PyProof.Rows.envOfC qual (defScope st) s.heap.objs.size f cdv)) →
      ∃ t, JSs (cxOf (L2.CX P w) P w K mg base N qual (defScope st) f cdv A outer s H E) (fun cls d _ H => E cls d H) S (defBody st) t body) (hS : ∀ j ∈ S, j < n → j ∈ asg) :
    Cal P w K mg base x (k + 1) n (fnM n m asg body) :=
  ⟨f, fd, ps, F.okX sc (spF_len hn) (fun cdv A outer s H vs Q E hr h => by
    obtain ⟨t, J⟩ := hJ cdv A outer s H E hr
    exact ⟨t, J.ps, im_fn (K := K) (mg := mg) hN hS J.im h⟩), hm, F.kp, hb⟩
theorem cal_mono {x : Str} {j k n : Nat} {fm : FM} (c : Cal P w K mg base x j n fm) (h : j ≤ k) : Cal P w K mg base x k n fm := by
  obtain ⟨f, fd, ps, F, r⟩ := c
  exact ⟨f, fd, ps, F.mono h, r⟩
theorem cal_bad {x qual : Str} {st : Stmt} {f : Addr} {fd : FuncData} {N ps : List Str} {k n : Nat} (F : L2.Fun K x qual st f fd) (hm : mg x = some (.ref f)) (hb : Binds K fd ps []) (sc : FnScope N ps (defScope st)) (hn : ps.length = n) :
    Cal P w K mg base x (k + 1) n fBad :=
  ⟨f, fd, ps, F.okX sc (spF_len hn) (fun cdv A outer s H vs Q E hr h => by
    obtain ⟨_, _, _, _, _, z⟩ := h
    exact z.elim), hm, F.kp, hb⟩
end
end PVL

/-! P7c: the end: tables of caught classes, the law's def, the whole. -/
namespace PVL
open PySem PySem.Spec L2
section
variable {K : PySem.W.Frag} {mg : Str → Option Value}
theorem tab_nil {c : Value} : TabOk K mg c [] := fun n b cls h => by cases h
theorem tab_cons {c : Value} {n : Str} {b : Bool} {C : Addr} {r : List (Str × Bool)} (hm : mg n = some (.ref C)) (he : PySem.W.exmOne K (.ref C) c = some b) (h : TabOk K mg c r) : TabOk K mg c ((n, b) :: r) := fun m d cls h1 h2 => by
  rw [SXE.lput] at h1
  by_cases e : m = n
  · rw [if_pos e] at h1
    cases h1
    rw [e, hm] at h2
    cases h2
    exact he
  · rw [if_neg e] at h1
    exact h m d cls h1 h2
theorem exm_of {S : Addr} {cls : Value} {b : Bool} (h1 : PySem.W.subIn K (.ref S) (.type "BaseException") = some true) (h2 : PySem.W.isClsIn K S = true) (h3 : PySem.W.typeIn K (.ref S) = some (.type "type")) (h4 : PySem.W.subIn K cls (.ref S) = some b) :
    PySem.W.exmOne K cls (.ref S) = some b := by
  have e1 : (PySem.W.subIn K (.ref S) (.type "BaseException") == some true) = true := by rw [h1] <;> rfl
  have e2 : ((PySem.W.clsIn K S).isSome && PySem.W.typeIn K (.ref S) == some (.type "type")) = true := by
    have h2' : (PySem.W.clsIn K S).isSome = true := h2
    rw [h2', h3] <;> rfl
  show (if (PySem.W.subIn K (.ref S) (.type "BaseException") == some true) = true then (if ((PySem.W.clsIn K S).isSome && PySem.W.typeIn K (.ref S) == some (.type "type")) = true then PySem.W.subIn K cls (.ref S) else none) else none) = some b
  rw [if_pos e1, if_pos e2]
  exact h4
variable {P : Program} {w : World} {base : Heap}
theorem fnok_of {x qual : Str} {st : Stmt} {f : Addr} {fd : FuncData} {N ps : List Str} {k n m : Nat} {asg S : List Nat} {body : SM} (F : L2.Fun K x qual st f fd) (sc : FnScope N ps (defScope st)) (hn : ps.length = n) (hN : N.length = m)
    (hJ : ∀ (cdv : Value) (A : Around) (outer : List Env) (s : Shared) (H : Hp) (E : XK), Room k (A.deeper (PyProof.Rows.envOfC qual (defScope st) s.heap.objs.size f cdv)) →
      ∃ t, JSs (cxOf (L2.CX P w) P w K mg base N qual (defScope st) f cdv A outer s H E) (fun cls d _ H => E cls d H) S (defBody st) t body) (hS : ∀ j ∈ S, j < n → j ∈ asg) :
    FnOk P w K mg base (L2.CX P w) (k + 1) f fd ps (spF K mg n (fnM n m asg body)) :=
  F.okX sc (spF_len hn) (fun cdv A outer s H vs Q E hr h => by
    obtain ⟨t, J⟩ := hJ cdv A outer s H E hr
    exact ⟨t, J.ps, im_fn (K := K) (mg := mg) hN hS J.im h⟩)
end
/-- the law's promise -/
def spLaw (K : PySem.W.Frag) : Sp := fun vs H Q _ => ∃ (a : Addr) (ns : List Int), vs = [.ref a] ∧ ns.length ≤ 63 ∧ SqF K H a (ns.map V.int) ∧ ∀ H', Q (.bl true) H'
theorem rvl_ints {K : PySem.W.Frag} {H : Hp} : ∀ ns : List Int, RVL K H (ns.map PV.int) (ns.map V.int) []
  | [] => by simp [RVL]
  | n :: r => by
    simp only [List.map_cons, RVL]
    exact ⟨_, _, [], [], rfl, by simp [RV], rvl_ints r, rfl⟩
theorem sp_law {K : PySem.W.Frag} {mg : Str → Option Value} {m : FM} (hm : ∀ ns : List Int, ns.length ≤ 63 → ∃ e, m [.frz (ns.map PV.int)] = .ok (.bl true) e) : ∀ vs H Q E, spLaw K vs H Q E → spF K mg 1 m vs H Q E := by
  rintro vs H Q E ⟨a, ns, rfl, hl, hS, hq⟩
  obtain ⟨e, he⟩ := hm ns hl
  refine ⟨[.frz (ns.map PV.int)], [], rfl, ?_, List.nodup_nil, ?_⟩
  · simp only [RVL]
    exact ⟨_, _, [], [], rfl, by simp only [RV]; exact ⟨a, _, rfl, hS, by simpa using rvl_ints ns⟩, ⟨rfl, rfl⟩, rfl⟩
  · rw [he]
    intro v H' Fv Fp h1 _ _ _
    simp only [RV] at h1
    rw [h1.1]
    exact hq H'
theorem cx_none {P : Program} {w : World} {H : Hp} {s : Shared} {e : Value} {s' : Shared} (h : L2.CX P w [] H s (fun _ _ _ => False) e s') : False := by
  obtain ⟨_, _, _, _, _, _, _, _, _, _, _, _, z⟩ := h
  exact z
theorem law_walk {l : PySem.W.OpenLaw} {k : Nat} {m : FM} {q : Program} {loose : List Str} {XP : (Str → Option Value) → Heap → Prop} {YP : World → Heap → Prop} {d : DefRec} {K : Params → PySem.W.Frag} (hn : l.most = some 63) (hdf : d.params.defaults = []) (hr : Room k callerA)
    (hY : ∀ (w : World) (h : Heap), YP w h → (K w.params).In h)
    (F : ∀ (w : World) (mg : Str → Option Value) (fa : Addr) (h : Heap), (K w.params).In h → h.Ns mainGlobals mg → mg d.name = some (.ref fa) →
      ∃ fd : FuncData, (∀ (s : Shared) (u : Value), BindsTo s fd ⟨[u], []⟩ [("script", u)]) ∧
        ∀ base : Heap, (K w.params).In base → base.Ns mainGlobals mg → FnOk l.prog w (K w.params) mg base (L2.CX l.prog w) k fa fd ["script"] (spF (K w.params) mg 1 m))
    (hm : ∀ ns : List Int, ns.length ≤ 63 → ∃ e, m [.frz (ns.map PV.int)] = .ok (.bl true) e) :
    PySem.W.WalkO q loose XP YP l.row.toRowW d [] (fun f vs => PySem.call f vs) := by
  refine L2.walk_of (n := 63) (k := k) (x := "script") (CX := fun w => L2.CX l.prog w) (sp := fun w => spLaw (K w.params)) hn (by decide) hdf hr hY (fun w mg fa h KX G hmg => ?_) (fun w H a ns hl hO hS => ?_) fun _ _ _ _ _ z => cx_none z
  · obtain ⟨fd, hb, hF⟩ := F w mg fa h KX G hmg
    exact ⟨fd, hb, fun base b1 b2 => (hF base b1 b2).imp (sp_law hm)⟩
  · refine ⟨a, ns, rfl, hl, ?_, fun _ => rfl⟩
    rcases hS with h | h
    · rcases h with h | ⟨o, h⟩
      · rcases hO a with z | ⟨o, xs, z⟩
        · rw [z] at h; cases h
        · rw [z] at h; cases h
      · exact .inl ⟨o, h⟩
    · exact .inr h
end PVL

/-! P7d: the joint rules whose reading names the written part, the part given. -/
namespace PVL
open PySem PySem.Spec L2
section
variable {X : Cx} {W : WX} {S S1 S2 : List Nat} {e a b c : Expr} {es : List Expr} {te ta tb : TE} {tA : TA} {m ma mb : EM} {ga gb : GM} {ra rb : RM} {am : AM} {pos p2 : Pos} {tg iter : Expr} {g : TG} {mt : TM} {tI : TI} {it : PEnv → EO (List PV)} {body : List Stmt} {t : TS} {sa : SM}
variable (K : PySem.W.Frag)
theorem k_fn (mg : Str → Option Value) {x : Str} {k n : Nat} {fm : FM} {p : Pos} (c : Cal X.prog X.w K mg X.base x k n fm) (hr : Room k X.A) (tk : Takes X W) (ha : JA X W (e :: es) tA am) (hK : X.K = K := by rfl) (hmg : X.mg = mg := by rfl) (hl : (e :: es).length = n := by rfl) (hg : Gl X x := by rfl) (hdb : (x == ("__debug__" : Str)) = false := by decide)
    (he : starEach (e :: es) X.env = (false, eval e X.env) :: starEach es X.env := by rfl) (hpl : (backTo pos (starEach es X.env)).any (·.1) = false := by rfl) :
    JE X W (.Call (.Name x p) (e :: es) [] pos) (tCallS (spF K mg n fm) (WE W) tA) (eCall fm am) := by
  subst hK
  subst hmg
  exact j_fn c hr tk ha hl hg hdb he hpl
theorem k_sl {lo hi : Option Expr} {tl th : TO} {ml mh : PEnv → EO (Option Int)} (h : JG X W e te ga) (hl : JO X W lo tl ml) (hh : JO X W hi th mh) (hK : X.K = K := by rfl) : JE X W (.Subscript e (.Slice lo hi none p2) pos) (tSl (rSlP K) te tl th) (eSl pSl ga ml mh) := by
  subst hK
  exact j_sl h hl hh
theorem k_s (h : JE X W e te m) (hK : X.K = K := by rfl) : JI X W tg e (fun σ H R => iList K te σ H R ∨ iTup K te σ H R) (itS m) := by
  subst hK
  exact ji_s h
theorem k_t {k n : Nat} {tgs : TGs} {mts : List PV → PEnv → Option PEnv} (hc : X.calm = true) (r : JPs X S es tgs mts) (hK : X.K = K := by rfl) (hn : (assignEach es X.env).length = n := by rfl) (hst : (assignEach es X.env).findIdx? (·.1) = none := by rfl) : JP X S (.Tuple es k pos) (gTup K n tgs) (tgT n mts) := by
  subst hK
  exact jp_t hc r hn hst
theorem k_meth {T id : String} {name x : Str} {i : Nat} {r : V → List V → Hp → VK → Prop} {f : PV → List PV → Option (PV × PV)} {apos p : Pos} (pa : PlainAttrs T) (slot : Slot T name id) (hty : typeOf (.builtin id) = pure (.type "method_descriptor")) (hs : SimM K r f) (hm : MtR X id r) (ho : JR X (.Name x p) (tVar i) (rVar i)) (ha : JA X W (e :: es) tA am)
    (hK : X.K = K := by rfl) (hbase : attributeBase (.Name x p) name X.env (eval (.Name x p) X.env) = eval (.Name x p) X.env := by rfl)
    (hfew : ((backTo pos (starEach (e :: es) X.env)).all (fun x => !x.1) && (backToKw pos (keywordEach [] X.env)).all (fun x => x.1.isSome)
      && decide ((e :: es).length + ([] : List Keyword).length + (if ([] : List Keyword).isEmpty then 0 else 1) < 30)) = true := by rfl)
    (hline : (apos.endLine == pos.line) = true := by rfl) (hs' : starEach (e :: es) X.env = (false, eval e X.env) :: starEach es X.env := by rfl) (hplain : (backTo pos (starEach es X.env)).any (·.1) = false := by rfl) :
    JE X W (.Call (.Attribute (.Name x p) name apos) (e :: es) [] pos) (tBM K T r (tVar i) tA) (eMeth T i f am) := by
  subst hK
  exact j_meth pa slot hty hs hm ho ha hbase hfew hline hs' hplain
theorem k_methB {T id : String} {name x : Str} {i : Nat} {r : V → List V → Hp → VK → Prop} {f : PV → List PV → Option (PV × PV)} {apos p : Pos} (pa : PlainAttrs T) (slot : Slot T name id) (hty : typeOf (.builtin id) = pure (.type "method_descriptor")) (hs : SimMB K r f) (hm : MtR X id r) (ho : JR X (.Name x p) (tVar i) (rVar i)) (ha : JA X W (e :: es) tA am)
    (hK : X.K = K := by rfl) (hbase : attributeBase (.Name x p) name X.env (eval (.Name x p) X.env) = eval (.Name x p) X.env := by rfl)
    (hfew : ((backTo pos (starEach (e :: es) X.env)).all (fun x => !x.1) && (backToKw pos (keywordEach [] X.env)).all (fun x => x.1.isSome)
      && decide ((e :: es).length + ([] : List Keyword).length + (if ([] : List Keyword).isEmpty then 0 else 1) < 30)) = true := by rfl)
    (hline : (apos.endLine == pos.line) = true := by rfl) (hs' : starEach (e :: es) X.env = (false, eval e X.env) :: starEach es X.env := by rfl) (hplain : (backTo pos (starEach es X.env)).any (·.1) = false := by rfl) :
    JE X W (.Call (.Attribute (.Name x p) name apos) (e :: es) [] pos) (tBM K T r (tVar i) tA) (eMethB T i f am) := by
  subst hK
  exact j_methB pa slot hty hs hm ho ha hbase hfew hline hs' hplain
theorem k_forVS {i : Nat} (hp : PassesOwn (model X.prog X.w) X.A X.env X.xe) (hc : X.calm = true) (hv : JR X iter (tVar i) (rVar i)) (hg : JP X S1 tg g mt) (hb : JSs X W S2 body t sa) (hK : X.K = K := by rfl) (hi : i ∉ S1 ++ S2 := by decide) (hs : ∀ x, foldedSetIterable iter X.env x = pure x := by intro _; rfl) :
    JS X W (S1 ++ S2) (.For tg iter body [] pos) (tFor (fun σ H R => iList K (tVar i) σ H R ∨ iTup K (tVar i) σ H R) g t) (sForVS i mt sa) := by
  subst hK
  exact js_forVS hp hc hv hg hb hi hs
theorem k_lcVS (mg : Str → Option Value) (i : Nat) {elt : Expr} {scope : Scope} {own : List (Str × Nat)} {tt : TT} {te : TE} {mc : BM} {me : EM} {ifs : List Expr} (hc : X.calm = true) (hN : X.N.Nodup) (hv : JR X iter (tVar i) (rVar i)) (ok : blkC X.N X.env.scope scope own = true)
    (hg : ∀ (s : Shared) (H : Hp) (C : Addr) (cl : List (Str × Addr)) (fp : List Addr), JP (X.blk s H scope (compEnvC scope cl C X.env) fp) S tg g mt) (hS : ∀ j ∈ S, j ∈ own.map (·.2))
    (ht : ∀ (s : Shared) (H : Hp) (C : Addr) (cl : List (Str × Addr)) (fp : List Addr), PTs (X.blk s H scope (compEnvC scope cl C X.env) fp) ifs tt ∧ ImT K mg W0 tt mc)
    (he : ∀ (s : Shared) (H : Hp) (C : Addr) (cl : List (Str × Addr)) (fp : List Addr), JE (X.blk s H scope (compEnvC scope cl C X.env) fp) W0 elt te me) (hK : X.K = K := by rfl) (hmg : X.mg = mg := by rfl) (hs : ∀ x, foldedSetIterable iter X.env x = pure x := by intro _; rfl) :
    JE X W (.ListComp elt [⟨tg, iter, ifs, 0⟩] scope pos) (tLc (fun σ H R => iList K (tVar i) σ H R ∨ iTup K (tVar i) σ H R) g tt te (own.map (·.2))) (eLCVS i (own.map (·.2)) mt mc me) := by
  subst hK
  subst hmg
  exact j_lcVS i hc hN hv ok hg hS ht he hs
theorem k_setLcVS (mg : Str → Option Value) (i k : Nat) {y : Str} {py : Pos} {elt : Expr} {scope : Scope} {own : List (Str × Nat)} {pos spos : Pos} {tt : TT} {te : TE} {mc : BM} {me : EM} {ifs : List Expr} (hc : X.calm = true) (hN : X.N.Nodup) (hv : JR X iter (tVar k) (rVar k)) (ok : blkC X.N X.env.scope scope own = true)
    (hg : ∀ (s : Shared) (H : Hp) (C : Addr) (cl : List (Str × Addr)) (fp : List Addr), JP (X.blk s H scope (compEnvC scope cl C X.env) fp) S tg g mt) (hS : ∀ j ∈ S, j ∈ own.map (·.2))
    (ht : ∀ (s : Shared) (H : Hp) (C : Addr) (cl : List (Str × Addr)) (fp : List Addr), PTs (X.blk s H scope (compEnvC scope cl C X.env) fp) ifs tt ∧ ImT K mg W0 tt mc)
    (he : ∀ (s : Shared) (H : Hp) (C : Addr) (cl : List (Str × Addr)) (fp : List Addr), JE (X.blk s H scope (compEnvC scope cl C X.env) fp) W0 elt te me) (hK : X.K = K := by rfl) (hmg : X.mg = mg := by rfl) (hy : X.N[i]? = some y := by rfl) (hyl : X.env.scope.names.lookup y = some .local := by rfl)
    (hsw : swapsWith (.ListComp elt [⟨tg, iter, ifs, 0⟩] scope pos) (some (.Name y py)) spos.line X.env = pure true := by exact sw_true rfl rfl rfl (by decide +kernel)) (hs : ∀ x, foldedSetIterable iter X.env x = pure x := by intro _; rfl) :
    JS X W [i] (.Assign [.Name y py] (.ListComp elt [⟨tg, iter, ifs, 0⟩] scope pos) spos) (tAsg (tLc (fun σ H R => iList K (tVar k) σ H R ∨ iTup K (tVar k) σ H R) g tt te (own.map (·.2))) (gName i)) (sAsg (eLCVS k (own.map (·.2)) mt mc me) (tgN i)) := by
  subst hK
  subst hmg
  exact js_setLcVS i k hc hN hv ok hg hS ht he hy hyl hsw hs
theorem k_try (mg : Str → Option Value) {body : List Stmt} {h₀ : ExceptHandler} {hds : List ExceptHandler} {l : List Cl} {p : List PCl} {pos : Pos} {tb : WX → TS} {bm : SM} (hs : X.stack = X.env :: X.outer) (hf : X.env.frame = some X.env.locals) (tk : Takes X W)
    (hb : ∀ (W' : WX) (pn : List (Addr × Obj)) (xe : Value → Shared → Prop), Takes (X.tr pn xe) W' → PassesOwn (model X.prog X.w) X.A X.env xe → JSs (X.tr pn xe) W' S1 body (tb W') bm) (hS : ∀ j ∈ S1, j ∈ S) (hh : JHd X S (h₀ :: hds) l p) (hK : X.K = K := by rfl) :
    JS X W S (.Try body (h₀ :: hds) [] [] pos) (fun D σ H => tb (wGen K W D l) D σ H) (sTry bm p) := by
  subst hK
  exact js_try hs hf tk hb hS hh
end
end PVL

/-! P7e: operations and built-in calls upon what is only read. -/
namespace PVL
open PySem PySem.Spec L2
def raNil : PEnv → Option (List PV) := fun _ => some []
def raCons (r : RM) (a : PEnv → Option (List PV)) : PEnv → Option (List PV) := fun env => (r env).bind fun x => (a env).bind fun xs => some (x :: xs)
def rCl (f : List PV → Option PV) (a : PEnv → Option (List PV)) : RM := fun env => (a env).bind f
/-- an operation upon read operands: what comes is new -/
def eN (r : RM) : EM := fun env => ofO (r env) env
def ImRA (K : PySem.W.Frag) (t : TA) (m : PEnv → Option (List PV)) : Prop := ∀ σ H Q env F, RE K H env σ F →
  (match m env with | some ps => ∀ vs H', Sm H H' → RB K H' ps vs → Q vs H' | none => False) → t σ H Q
theorem RB.sm {K : PySem.W.Frag} {H H' : Hp} (s : Sm H H') : ∀ {ps : List PV} {vs : List V}, RB K H ps vs → RB K H' ps vs
  | [], _, h => h
  | p :: ps, _, h => by
    simp only [RB] at h ⊢
    obtain ⟨v, vr, F, e, h1, h2⟩ := h
    exact ⟨v, vr, F, e, h1.sm s, RB.sm s h2⟩
section
variable {K : PySem.W.Frag} {mg : Str → Option Value} {W : WX}
theorem im_raNil : ImRA K tNil raNil := fun σ H Q env F hr hp => hp [] H (fun _ _ z => z) rfl
theorem im_raCons {ta : TE} {tA : TA} {r : RM} {a : PEnv → Option (List PV)} (h : ImR K ta r) (g : ImRA K tA a) : ImRA K (tCons ta tA) (raCons r a) := by
  intro σ H Q env F hr hp
  unfold raCons at hp
  refine h σ H _ env F hr ?_
  cases er : r env with
  | none => rw [er] at hp; exact hp
  | some x =>
    rw [er] at hp
    intro v H1 Fv s1 rx
    refine g σ H1 _ env F (hr.sm s1) ?_
    cases ea : a env with
    | none => rw [ea] at hp; exact hp
    | some xs =>
      rw [ea] at hp
      intro vs H2 s2 rb
      exact hp (v :: vs) H2 (s1.trans s2) ⟨v, vs, Fv, rfl, rx.sm s2, rb⟩
theorem im_rCl {r : List V → Hp → VK → Prop} {f : List PV → Option PV} {ta : TA} {a : PEnv → Option (List PV)} (hs : SimL K r f) (ha : ImRA K ta a) : ImR K (fun σ H Q => ta σ H fun vs H1 => r vs H1 Q) (rCl f a) := by
  intro σ H Q env F hr hp
  unfold rCl at hp
  refine ha σ H _ env F hr ?_
  cases ea : a env with
  | none => rw [ea] at hp; exact hp
  | some ps =>
    rw [ea] at hp
    intro vs H1 s1 rb
    refine hs vs H1 Q ps rb ?_
    cases ef : f ps with
    | none => rw [Option.bind_some, ef] at hp; exact hp.elim
    | some z =>
      rw [Option.bind_some, ef] at hp
      exact fun v H2 Fz s r _ _ => hp v H2 Fz (s1.trans s) r
theorem im_eN_cl {r : List V → Hp → VK → Prop} {f : List PV → Option PV} {ta : TA} {a : PEnv → Option (List PV)} (hs : SimL K r f) (ha : ImRA K ta a) : ImE K mg W (fun σ H Q => ta σ H fun vs H1 => r vs H1 Q) (eN (rCl f a)) := by
  intro σ H Q env F hr hn hp
  unfold eN rCl at hp
  refine ha σ H _ env F hr ?_
  cases ea : a env with
  | none => rw [ea] at hp; exact hp.elim
  | some ps =>
    rw [ea] at hp
    intro vs H1 s1 rb
    exact hs vs H1 Q ps rb (fin_new (hr.sm s1) hn (Fm.of_sm s1 fun _ z => .inl z) hp)
theorem im_eN_op {r : R2} {f : PV → PV → Option PV} {ta tb : TE} {ra rb : RM} (hs : SimR2 K r f) (ha : ImR K ta ra) (hb : ImR K tb rb) : ImE K mg W (tOp r ta tb) (eN (rOp f ra rb)) := by
  intro σ H Q env F hr hn hp
  unfold eN rOp at hp
  refine ha σ H _ env F hr ?_
  cases ea : ra env with
  | none => rw [ea] at hp; exact hp.elim
  | some x =>
    rw [ea] at hp
    intro v H1 Fv s1 rx
    refine hb σ H1 _ env F (hr.sm s1) ?_
    cases eb : rb env with
    | none => rw [eb] at hp; exact hp.elim
    | some y =>
      rw [eb] at hp
      intro u H2 Fu s2 ry
      exact hs v u H2 Q x y Fv Fu (rx.sm s2) ry (fin_new (hr.sm (s1.trans s2)) hn (Fm.of_sm (s1.trans s2) fun _ z => .inl z) hp)
theorem im_eN_un {r : V → Hp → VK → Prop} {f : PV → Option PV} {ta : TE} {ra : RM} (hs : SimU K r f) (ha : ImR K ta ra) : ImE K mg W (tUn r ta) (eN (rUn f ra)) := by
  intro σ H Q env F hr hn hp
  unfold eN rUn at hp
  refine ha σ H _ env F hr ?_
  cases ea : ra env with
  | none => rw [ea] at hp; exact hp.elim
  | some x =>
    rw [ea] at hp
    intro v H1 Fv s1 rx
    exact hs v H1 Q x Fv rx (fin_new (hr.sm s1) hn (Fm.of_sm s1 fun _ z => .inl z) hp)
end
structure JRA (X : Cx) (es : List Expr) (t : TA) (m : PEnv → Option (List PV)) : Prop where
  pa : PA X es t
  im : ImRA X.K t m
section
variable {X : Cx} {W : WX} {e a b : Expr} {es : List Expr} {te ta tb : TE} {tA : TA} {ra rb : RM} {am : PEnv → Option (List PV)} {pos : Pos}
theorem jra_nil : JRA X [] tNil raNil := ⟨pa_nil, im_raNil⟩
theorem jra_cons (h : JR X e te ra) (r : JRA X es tA am) (hs : starEach (e :: es) X.env = (false, eval e X.env) :: starEach es X.env := by rfl) : JRA X (e :: es) (tCons te tA) (raCons ra am) := ⟨pa_cons h.pe r.pa hs, im_raCons h.im r.im⟩
theorem jr_ty {x : Str} {n : String} (hv : bootBuiltins x = some (.type n)) (hm : X.mg x = none) (hg : Gl X x := by rfl) (hn : x ≠ "__name__" := by decide) (hd : (x == ("__debug__" : Str)) = false := by decide) : JR X (.Name x pos) (tC (.ty n)) (rC (.ty n)) :=
  ⟨pe_bltn hg hm hv rfl hn hd, fun σ H Q env F hr hp => hp (.ty n) H [] (fun _ _ z => z) (by simp [RV])⟩
theorem jr_cmp {op : CmpOp} {r : R2} {f : PV → PV → Option PV} (hs : SimR2 X.K r f) (ho : OpR X (compareOp op) r) (hm : behindInMarks op b = false) (ha : JR X a ta ra) (hb : JR X b tb rb) : JR X (.Compare a [op] [b] pos) (tOp r ta tb) (rOp f ra rb) := ⟨pe_cmpR ho ha.pe hb.pe hm, im_rOp hs.b ha.im hb.im⟩
theorem jr_callB {x : Str} {p : Pos} {id : String} {r : List V → Hp → VK → Prop} {f : List PV → Option PV} (hs : SimL X.K r f) (hc : CallR X (.builtin id) r) (hv : bootBuiltins x = some (.builtin id)) (hm : X.mg x = none) (ha : JRA X (e :: es) tA am) (hg : Gl X x := by rfl) (hn : x ≠ "__name__" := by decide) (hdb : (x == ("__debug__" : Str)) = false := by decide)
    (he : starEach (e :: es) X.env = (false, eval e X.env) :: starEach es X.env := by rfl) (hpl : (backTo pos (starEach es X.env)).any (·.1) = false := by rfl) : JR X (.Call (.Name x p) (e :: es) [] pos) (tCB r tA) (rCl f am) := ⟨pe_callB hc hg hm hv ha.pa hn hdb he hpl, im_rCl hs ha.im⟩
theorem jr_callTy {x : Str} {p : Pos} {T : String} {r : List V → Hp → VK → Prop} {f : List PV → Option PV} (hs : SimL X.K r f) (hc : CallR X (.type T) r) (hv : bootBuiltins x = some (.type T)) (hm : X.mg x = none) (ha : JRA X (e :: es) tA am) (hg : Gl X x := by rfl) (hn : x ≠ "__name__" := by decide) (hdb : (x == ("__debug__" : Str)) = false := by decide)
    (he : starEach (e :: es) X.env = (false, eval e X.env) :: starEach es X.env := by rfl) (hpl : (backTo pos (starEach es X.env)).any (·.1) = false := by rfl) : JR X (.Call (.Name x p) (e :: es) [] pos) (tCB r tA) (rCl f am) := ⟨pe_callTy hc hg hm hv ha.pa hn hdb he hpl, im_rCl hs ha.im⟩
theorem jn_op {op : Operator} {r : R2} {f : PV → PV → Option PV} (hs : SimR2 X.K r f) (ho : OpR X (binaryOp op) r) (ha : JR X a ta ra) (hb : JR X b tb rb) : JE X W (.BinOp a op b pos) (tOp r ta tb) (eN (rOp f ra rb)) := ⟨pe_op ho ha.pe hb.pe, im_eN_op hs ha.im hb.im⟩
theorem jn_un {op : UnaryOp} {r : V → Hp → VK → Prop} {f : PV → Option PV} (hs : SimU X.K r f) (ho : UnR X (unaryOp op) r) (ha : JR X a ta ra) : JE X W (.UnaryOp op a pos) (tUn r ta) (eN (rUn f ra)) := ⟨pe_un ho ha.pe, im_eN_un hs ha.im⟩
theorem jn_cmp {op : CmpOp} {r : R2} {f : PV → PV → Option PV} (hs : SimR2 X.K r f) (ho : OpR X (compareOp op) r) (hm : behindInMarks op b = false) (ha : JR X a ta ra) (hb : JR X b tb rb) : JE X W (.Compare a [op] [b] pos) (tOp r ta tb) (eN (rOp f ra rb)) := ⟨pe_cmpR ho ha.pe hb.pe hm, im_eN_op hs ha.im hb.im⟩
theorem jnt_cmp {op : CmpOp} {r : R2} {f : PV → PV → Option PV} (hs : SimR2 X.K r f) (ho : OpR X (compareOp op) r) (hm : behindInMarks op b = false) (ha : JR X a ta ra) (hb : JR X b tb rb) : JT X W (.Compare a [op] [b] pos) (tTest (tOp r ta tb)) (bE (eN (rOp f ra rb))) := ⟨pt_cmpR ho ha.pe hb.pe hm, im_bE (im_eN_op hs ha.im hb.im)⟩
theorem jn_callB {x : Str} {p : Pos} {id : String} {r : List V → Hp → VK → Prop} {f : List PV → Option PV} (hs : SimL X.K r f) (hc : CallR X (.builtin id) r) (hv : bootBuiltins x = some (.builtin id)) (hm : X.mg x = none) (ha : JRA X (e :: es) tA am) (hg : Gl X x := by rfl) (hn : x ≠ "__name__" := by decide) (hdb : (x == ("__debug__" : Str)) = false := by decide)
    (he : starEach (e :: es) X.env = (false, eval e X.env) :: starEach es X.env := by rfl) (hpl : (backTo pos (starEach es X.env)).any (·.1) = false := by rfl) : JE X W (.Call (.Name x p) (e :: es) [] pos) (tCB r tA) (eN (rCl f am)) := ⟨pe_callB hc hg hm hv ha.pa hn hdb he hpl, im_eN_cl hs ha.im⟩
theorem jn_callTy {x : Str} {p : Pos} {T : String} {r : List V → Hp → VK → Prop} {f : List PV → Option PV} (hs : SimL X.K r f) (hc : CallR X (.type T) r) (hv : bootBuiltins x = some (.type T)) (hm : X.mg x = none) (ha : JRA X (e :: es) tA am) (hg : Gl X x := by rfl) (hn : x ≠ "__name__" := by decide) (hdb : (x == ("__debug__" : Str)) = false := by decide)
    (he : starEach (e :: es) X.env = (false, eval e X.env) :: starEach es X.env := by rfl) (hpl : (backTo pos (starEach es X.env)).any (·.1) = false := by rfl) : JE X W (.Call (.Name x p) (e :: es) [] pos) (tCB r tA) (eN (rCl f am)) := ⟨pe_callTy hc hg hm hv ha.pa hn hdb he hpl, im_eN_cl hs ha.im⟩
end
@[simp] theorem raNil_ap (env : PEnv) : raNil env = some [] := rfl
@[simp] theorem raCons_ap (r : RM) (a : PEnv → Option (List PV)) (env : PEnv) : raCons r a env = (r env).bind fun x => (a env).bind fun xs => some (x :: xs) := rfl
@[simp] theorem rCl_ap (f : List PV → Option PV) (a : PEnv → Option (List PV)) (env : PEnv) : rCl f a env = (a env).bind f := rfl
@[simp] theorem eN_ap (r : RM) (env : PEnv) : eN r env = ofO (r env) env := rfl
end PVL

/-! M0: how the pure functions are evaluated: equations for simp. -/
namespace PVL
open PySem PySem.Spec L2
@[simp] theorem cmulR (i : Int) {j : Int} (h1 : -1000000000000 < j) (h2 : j < 1000000000000) : CMul i j := .inr ⟨by omega, by omega⟩
@[simp] theorem cmulL {i : Int} (j : Int) (h1 : -1000000000000 < i) (h2 : i < 1000000000000) : CMul i j := .inl ⟨by omega, by omega⟩
@[simp] theorem cdiv_ (i : Int) {j : Int} (h1 : 0 < j) (h2 : j < 1073741824) : CDiv i j := ⟨h1, h2⟩
@[simp] theorem gRef_ap (i : Nat) (env : PEnv) : gRef i env = (match env[i]? with
  | some (some _) => .ok (.ref i) env
  | _ => .bad) := rfl
@[simp] theorem gOwn_ap (m : EM) (env : PEnv) : gOwn m env = ((m env).bind fun x e => .ok (.own x) e) := rfl
@[simp] theorem aNil_ap  (env : PEnv) : aNil  env = (.ok [] env) := rfl
@[simp] theorem aCons_ap (g : GM) (a : AM) (env : PEnv) : aCons g a env = ((g env).bind fun x e => (a e).bind fun r e2 => .ok (x :: r) e2) := rfl
@[simp] theorem eOp_ap (f : PV → PV → Option PV) (a b : GM) (env : PEnv) : eOp f a b env = ((a env).bind fun x e1 => (b e1).bind fun y e2 =>
  ofO ((seeG e2 x).bind fun p => (seeG e2 y).bind fun q => f p q) e2) := rfl
@[simp] theorem eUn_ap (f : PV → Option PV) (a : GM) (env : PEnv) : eUn f a env = ((a env).bind fun x e1 => ofO ((seeG e1 x).bind f) e1) := rfl
@[simp] theorem eCl_ap (f : List PV → Option PV) (a : AM) (env : PEnv) : eCl f a env = ((a env).bind fun as e1 => ofO ((seeL e1 as).bind f) e1) := rfl
@[simp] theorem rVar_ap (i : Nat) (env : PEnv) : rVar i env = ((env[i]?).join) := rfl
@[simp] theorem rC_ap (x : PV) (env : PEnv) : rC x env = (some x) := rfl
@[simp] theorem rOp_ap (f : PV → PV → Option PV) (a b : RM) (env : PEnv) : rOp f a b env = ((a env).bind fun x => (b env).bind fun y => f x y) := rfl
@[simp] theorem rUn_ap (f : PV → Option PV) (a : RM) (env : PEnv) : rUn f a env = ((a env).bind f) := rfl
@[simp] theorem eR_ap (m : RM) (env : PEnv) : eR m env = (ofO (immO (m env)) env) := rfl
@[simp] theorem eC_ap (x : PV) (env : PEnv) : eC x env = (.ok x env) := rfl
@[simp] theorem eVar_ap (i : Nat) (env : PEnv) : eVar i env = (match env[i]? with
  | some (some x) => if x.imm = true then .ok x env else .ok x (env.set i none)
  | _ => .bad) := rfl
@[simp] theorem bE_ap (m : EM) (env : PEnv) : bE m env = ((m env).bind fun x e => match x with
  | .bl b => .ok b e
  | _ => .bad) := rfl
@[simp] theorem bAnd_ap (a b : BM) (env : PEnv) : bAnd a b env = ((a env).bind fun x e => if x = true then b e else .ok false e) := rfl
@[simp] theorem bOr_ap (a b : BM) (env : PEnv) : bOr a b env = ((a env).bind fun x e => if x = true then .ok true e else b e) := rfl
@[simp] theorem bNot_ap (a : BM) (env : PEnv) : bNot a env = ((a env).bind fun x e => .ok (!x) e) := rfl
@[simp] theorem eAnd_ap (a b : EM) (env : PEnv) : eAnd a b env = ((a env).bind fun x e => match x with
  | .bl true => b e
  | .bl false => .ok (.bl false) e
  | _ => .bad) := rfl
@[simp] theorem eOr_ap (a b : EM) (env : PEnv) : eOr a b env = ((a env).bind fun x e => match x with
  | .bl true => .ok (.bl true) e
  | .bl false => b e
  | _ => .bad) := rfl
@[simp] theorem eNot_ap (a : EM) (env : PEnv) : eNot a env = ((a env).bind fun x e => match x with
  | .bl c => .ok (.bl (!c)) e
  | _ => .bad) := rfl
@[simp] theorem eIf_ap (c : BM) (a b : EM) (env : PEnv) : eIf c a b env = ((c env).bind fun x e => if x = true then a e else b e) := rfl
@[simp] theorem eTup_ap (a : AM) (env : PEnv) : eTup a env = ((a env).bind fun as e => match ownL as with
  | some xs => if xs.length ≤ sizeLine then .ok (.tup xs) e else .bad
  | none => .bad) := rfl
@[simp] theorem eLst_ap (a : AM) (env : PEnv) : eLst a env = ((a env).bind fun as e => match ownL as with
  | some xs => if xs.length ≤ sizeLine then .ok (.lst xs) e else .bad
  | none => .bad) := rfl
@[simp] theorem sNil_ap  (env : PEnv) : sNil  env = (.next env) := rfl
@[simp] theorem sBrk_ap  (env : PEnv) : sBrk  env = (.brk env) := rfl
@[simp] theorem sCont_ap  (env : PEnv) : sCont  env = (.cont env) := rfl
@[simp] theorem sBad_ap (env : PEnv) : sBad env = .bad := rfl
@[simp] theorem sExpr_ap (m : EM) (env : PEnv) : sExpr m env = ((m env).toS fun _ e => .next e) := rfl
@[simp] theorem sRet_ap (m : EM) (env : PEnv) : sRet m env = ((m env).toS fun x e => .ret x e) := rfl
@[simp] theorem sRetN_ap  (env : PEnv) : sRetN  env = (.ret .non env) := rfl
@[simp] theorem sIf_ap (c : BM) (a b : SM) (env : PEnv) : sIf c a b env = ((c env).toS fun x e => if x = true then a e else b e) := rfl
@[simp] theorem tgN_ap (i : Nat) (x : PV) (env : PEnv) : tgN i x env = (if i < env.length then some (env.set i (some x)) else none) := rfl
@[simp] theorem tgsNil_ap  (xs : List PV) (env : PEnv) : tgsNil  xs env = (match xs with
  | [] => some env
  | _ => none) := rfl
@[simp] theorem tgsCons_ap (t : TM) (u : List PV → PEnv → Option PEnv) (xs : List PV) (env : PEnv) : tgsCons t u xs env = (match xs with
  | x :: r => (t x env).bind fun e => u r e
  | [] => none) := rfl
@[simp] theorem tgT_ap (n : Nat) (u : List PV → PEnv → Option PEnv) (x : PV) (env : PEnv) : tgT n u x env = (match x with
  | .tup xs => if xs.length = n then u xs env else none
  | _ => none) := rfl
@[simp] theorem sAsg_ap (m : EM) (t : TM) (env : PEnv) : sAsg m t env = ((m env).toS fun x e => match t x e with
  | some e2 => .next e2
  | none => .bad) := rfl
@[simp] theorem sPar_ap (i j : Nat) (a : AM) (env : PEnv) : sPar i j a env = ((a env).toS fun as e => match ownL as with
  | some [x, y] => if i < e.length ∧ j < e.length then .next ((e.set i (some x)).set j (some y)) else .bad
  | _ => .bad) := rfl
@[simp] theorem sFor_ap (it : PEnv → EO (List PV)) (t : TM) (body : SM) (env : PEnv) : sFor it t body env = ((it env).toS fun items e => forL t body items e) := rfl
@[simp] theorem sForV_ap (i : Nat) (t : TM) (body : SM) (env : PEnv) : sForV i t body env = (match env[i]? with
  | some (some (.lst xs)) => if immL xs = true then (forL t body xs (env.set i none)).mapE (fun e => e.set i (some (.lst xs))) else .bad
  | _ => .bad) := rfl
@[simp] theorem itL_ap (m : EM) (env : PEnv) : itL m env = ((m env).bind fun x e => match itemsOf x with
  | some xs => .ok xs e
  | none => .bad) := rfl
@[simp] theorem itT_ap (m : EM) (env : PEnv) : itT m env = ((m env).bind fun x e => match itemsOfT x with
  | some xs => .ok xs e
  | none => .bad) := rfl
@[simp] theorem itR1_ap (a : AM) (env : PEnv) : itR1 a env = ((a env).bind fun as e => match seeL e as with
  | some [.int j] => if rngOk j then .ok (rngL 0 j.toNat) e else .bad
  | _ => .bad) := rfl
@[simp] theorem itR2_ap (a : AM) (env : PEnv) : itR2 a env = ((a env).bind fun as e => match seeL e as with
  | some [.int i, .int j] => if rngOk i ∧ rngOk j then .ok (rngL i (j - i).toNat) e else .bad
  | _ => .bad) := rfl
@[simp] theorem eLC_ap (it : PEnv → EO (List PV)) (vs : List Nat) (t : TM) (c : BM) (m : EM) (env : PEnv) : eLC it vs t c m env = ((it env).bind fun items e => lcL vs t c m items [] (envWipe e vs)) := rfl
@[simp] theorem eLCV_ap (i : Nat) (vs : List Nat) (t : TM) (c : BM) (m : EM) (env : PEnv) : eLCV i vs t c m env = (match env[i]? with
  | some (some (.lst xs)) => if immL xs = true then (lcL vs t c m xs [] (envWipe (env.set i none) vs)).mapE (fun e => e.set i (some (.lst xs))) else .bad
  | _ => .bad) := rfl
@[simp] theorem eLCVS_ap (i : Nat) (vs : List Nat) (t : TM) (c : BM) (m : EM) (env : PEnv) : eLCVS i vs t c m env = (match env[i]? with
  | some (some (.tup xs)) => eLC (itT (eVar i)) vs t c m env
  | _ => eLCV i vs t c m env) := rfl
@[simp] theorem sForVS_ap (i : Nat) (t : TM) (body : SM) (env : PEnv) : sForVS i t body env = (match env[i]? with
  | some (some (.tup xs)) => sFor (itT (eVar i)) t body env
  | _ => sForV i t body env) := rfl
@[simp] theorem eMeth_ap (T : String) (i : Nat) (f : PV → List PV → Option (PV × PV)) (a : AM) (env : PEnv) : eMeth T i f a env = (match env[i]? with
  | some (some p0) => if tyP T p0 = true then (a env).bind fun as e => (match e[i]? with
      | some (some p) => (match ownL as with
        | some xs => (match f p xs with | some (res, p') => .ok res (e.set i (some p')) | none => .bad)
        | none => .bad)
      | _ => .bad) else .bad
  | _ => .bad) := rfl
@[simp] theorem eMeth0_ap (T : String) (i : Nat) (f : PV → List PV → Option (PV × PV)) (env : PEnv) : eMeth0 T i f env = (match env[i]? with
  | some (some p) => if tyP T p = true then (match f p [] with | some (res, p') => .ok res (env.set i (some p')) | none => .bad) else .bad
  | _ => .bad) := rfl
@[simp] theorem eMethB_ap (T : String) (i : Nat) (f : PV → List PV → Option (PV × PV)) (a : AM) (env : PEnv) : eMethB T i f a env = (match env[i]? with
  | some (some p0) => if tyP T p0 = true then (a env).bind fun as e => (match e[i]? with
      | some (some p) => (match seeL e as with
        | some xs => (match f p xs with | some (res, p') => .ok res (e.set i (some p')) | none => .bad)
        | none => .bad)
      | _ => .bad) else .bad
  | _ => .bad) := rfl
@[simp] theorem sSetIx_ap (i : Nat) (k : RM) (f : PV → PV → PV → Option PV) (m : EM) (env : PEnv) : sSetIx i k f m env = ((m env).toS fun v e => match e[i]? with
  | some (some p) => (match k e with
    | some pk => (match f p pk v with | some p' => .next (e.set i (some p')) | none => .bad)
    | none => .bad)
  | _ => .bad) := rfl
@[simp] theorem sAug_ap (i : Nat) (f : PV → PV → Option PV) (m : EM) (env : PEnv) : sAug i f m env = (match env[i]? with
  | some (some p) => if p.imm = true then (m env).toS fun v e => (match f p v with | some z => if i < e.length then .next (e.set i (some z)) else .bad | none => .bad) else .bad
  | _ => .bad) := rfl
@[simp] theorem sAugIx_ap (i : Nat) (k : RM) (g : PV → PV → Option PV) (m : EM) (f : PV → PV → Option PV) (st : PV → PV → PV → Option PV) (env : PEnv) : sAugIx i k g m f st env = (match env[i]? with
  | some (some p) => (match k env with
    | some pk => if pk.imm = true then (match immO (g p pk) with
      | some x => (m env).toS fun v e => (match f x v with
        | some z => if z.imm = true then (match e[i]? with
          | some (some p1) => (match st p1 pk z with | some p' => .next (e.set i (some p')) | none => .bad)
          | _ => .bad) else .bad
        | none => .bad)
      | none => .bad) else .bad
    | none => .bad)
  | _ => .bad) := rfl
@[simp] theorem eCall_ap (f : FM) (a : AM) (env : PEnv) : eCall f a env = ((a env).bind fun as e => match takeA as e with
  | some (ps, e1) => (match f ps with
    | .ok x qs => .ok x (putA as qs e1)
    | .exc x qs => .exc x (putA as qs e1)
    | .bad => .bad)
  | none => .bad) := rfl
@[simp] theorem sRaise_ap (x : Str) (ps : List Str) (a : AM) (env : PEnv) : sRaise x ps a env = ((a env).toS fun as e => match seeL e as with
  | some xs => if xs.length = ps.length ∧ immL xs = true then .exc ⟨x, (ps.zip xs).reverse⟩ e else .bad
  | none => .bad) := rfl
/-! sequences -/
def SO.andThen (x : SO) (b : SM) : SO := match x with
  | .next e => b e
  | o => o
@[simp] theorem andThen_next (e : PEnv) (b : SM) : (SO.next e).andThen b = b e := rfl
@[simp] theorem andThen_ret (x : PV) (e : PEnv) (b : SM) : (SO.ret x e).andThen b = .ret x e := rfl
@[simp] theorem andThen_brk (e : PEnv) (b : SM) : (SO.brk e).andThen b = .brk e := rfl
@[simp] theorem andThen_cont (e : PEnv) (b : SM) : (SO.cont e).andThen b = .cont e := rfl
@[simp] theorem andThen_exc (x : PX) (e : PEnv) (b : SM) : (SO.exc x e).andThen b = .exc x e := rfl
@[simp] theorem andThen_bad (b : SM) : SO.bad.andThen b = .bad := rfl
@[simp] theorem sSeq_ap (a b : SM) (env : PEnv) : sSeq a b env = (a env).andThen b := by
  unfold sSeq SO.andThen
  rfl
@[simp] theorem mapE_next (f : PEnv → PEnv) (e : PEnv) : (SO.next e).mapE f = .next (f e) := rfl
@[simp] theorem mapE_ret (f : PEnv → PEnv) (x : PV) (e : PEnv) : (SO.ret x e).mapE f = .ret x (f e) := rfl
@[simp] theorem mapE_exc (f : PEnv → PEnv) (x : PX) (e : PEnv) : (SO.exc x e).mapE f = .exc x (f e) := rfl
@[simp] theorem mapE_bad (f : PEnv → PEnv) : SO.bad.mapE f = .bad := rfl
@[simp] theorem bYes_ap (env : PEnv) : bYes env = .ok true env := rfl
@[simp] theorem oNone_ap (env : PEnv) : oNone env = .ok none env := rfl
@[simp] theorem oSome_ap (m : EM) (env : PEnv) : oSome m env = (m env).bind fun x e => match x with
  | .int i => .ok (some i) e
  | _ => .bad := rfl
@[simp] theorem eSl_ap (f : PV → Option Int → Option Int → Option PV) (a : GM) (lo hi : PEnv → EO (Option Int)) (env : PEnv) : eSl f a lo hi env = (a env).bind fun x e1 => (lo e1).bind fun l e2 => (hi e2).bind fun h e3 => ofO ((seeG e3 x).bind fun p => f p l h) e3 := rfl
@[simp] theorem itS_ap (m : EM) (env : PEnv) : itS m env = match m env with
  | .ok (.tup xs) e => itT (fun _ => .ok (.tup xs) e) env
  | o => itL (fun _ => o) env := rfl
@[simp] theorem sTry_ap (b : SM) (l : List PCl) (env : PEnv) : sTry b l env = match b env with
  | .exc x e => pick x e l
  | o => o := rfl
@[simp] theorem wipe_nil (env : PEnv) : envWipe env [] = env := rfl
@[simp] theorem wipe_cons (env : PEnv) (v : Nat) (vs : List Nat) : envWipe env (v :: vs) = (envWipe env vs).set v none := rfl
@[simp] theorem forL_nil (t : TM) (b : SM) (env : PEnv) : forL t b [] env = .next env := rfl
@[simp] theorem lcL_nil (vs : List Nat) (t : TM) (c : BM) (m : EM) (acc : List PV) (env : PEnv) : lcL vs t c m [] acc env = .ok (.lst acc) env := rfl
/-! values -/
@[simp] theorem imm_non : PV.non.imm = true := rfl
@[simp] theorem imm_bl (b : Bool) : (PV.bl b).imm = true := rfl
@[simp] theorem imm_int (b : Int) : (PV.int b).imm = true := rfl
@[simp] theorem imm_str (b : Str) : (PV.str b).imm = true := rfl
@[simp] theorem imm_tup (b : List PV) : (PV.tup b).imm = immL b := by simp [PV.imm]
@[simp] theorem imm_lst (b : List PV) : (PV.lst b).imm = false := rfl
@[simp] theorem imm_frz (b : List PV) : (PV.frz b).imm = true := rfl
@[simp] theorem imm_ty (b : String) : (PV.ty b).imm = true := rfl
@[simp] theorem imm_dct (b : List (PV × PV)) : (PV.dct b).imm = false := rfl
@[simp] theorem immL_nil : immL [] = true := rfl
@[simp] theorem immL_cons (x : PV) (r : List PV) : immL (x :: r) = (x.imm && immL r) := by simp [immL]
@[simp] theorem immL_app (x r : List PV) : immL (x ++ r) = (immL x && immL r) := immL_append
theorem immL_all : ∀ {xs : List PV}, (∀ x ∈ xs, x.imm = true) → immL xs = true
  | [], _ => rfl
  | x :: r, h => by simp [h x (List.mem_cons_self ..), immL_all fun y hy => h y (List.mem_cons_of_mem _ hy)]
theorem immL_mem : ∀ {xs : List PV}, immL xs = true → ∀ x ∈ xs, x.imm = true
  | x :: r, h, y, hy => by
    simp only [immL_cons, Bool.and_eq_true] at h
    rcases List.mem_cons.mp hy with e | e
    · rw [e]; exact h.1
    · exact immL_mem h.2 y e
@[simp] theorem immL_ints (l : List Int) : immL (l.map PV.int) = true := immL_all fun x hx => by
  obtain ⟨i, _, rfl⟩ := List.mem_map.mp hx
  rfl
theorem immL_map {α : Type} (f : α → PV) (l : List α) (h : ∀ a ∈ l, (f a).imm = true) : immL (l.map f) = true := immL_all fun x hx => by
  obtain ⟨i, hi, rfl⟩ := List.mem_map.mp hx
  exact h i hi
@[simp] theorem seeG_own (e : PEnv) (x : PV) : seeG e (.own x) = some x := rfl
@[simp] theorem seeG_ref (e : PEnv) (i : Nat) : seeG e (.ref i) = (e[i]?).join := rfl
@[simp] theorem seeL_nil (e : PEnv) : seeL e [] = some [] := rfl
@[simp] theorem seeL_cons (e : PEnv) (a : Arg) (r : List Arg) : seeL e (a :: r) = (seeG e a).bind fun x => (seeL e r).map (x :: ·) := rfl
@[simp] theorem ownL_nil : ownL [] = some [] := rfl
@[simp] theorem ownL_own (x : PV) (r : List Arg) : ownL (.own x :: r) = (ownL r).map (x :: ·) := rfl
@[simp] theorem ownL_ref (x : Nat) (r : List Arg) : ownL (.ref x :: r) = none := rfl
@[simp] theorem immO_some (z : PV) : immO (some z) = if z.imm = true then some z else none := rfl
@[simp] theorem takeA_nil (e : PEnv) : takeA [] e = some ([], e) := rfl
@[simp] theorem takeA_own (x : PV) (r : List Arg) (e : PEnv) : takeA (.own x :: r) e = (takeA r e).map fun z => (x :: z.1, z.2) := rfl
@[simp] theorem takeA_ref (i : Nat) (r : List Arg) (e : PEnv) : takeA (.ref i :: r) e = match e[i]? with
    | some (some p) => if p.imm = true then (takeA r e).map fun z => (p :: z.1, z.2) else (takeA r (e.set i none)).map fun z => (p :: z.1, z.2)
    | _ => none := rfl
@[simp] theorem putA_nil (ps : List (Option PV)) (e : PEnv) : putA [] ps e = e := by cases ps <;> rfl
@[simp] theorem putA_own (x : PV) (p : Option PV) (r : List Arg) (ps : List (Option PV)) (e : PEnv) : putA (.own x :: r) (p :: ps) e = putA r ps e := rfl
@[simp] theorem putA_some (x : PV) (i : Nat) (r : List Arg) (ps : List (Option PV)) (e : PEnv) : putA (.ref i :: r) (some x :: ps) e = putA r ps (e.set i (some x)) := rfl
@[simp] theorem putA_none (i : Nat) (r : List Arg) (ps : List (Option PV)) (e : PEnv) : putA (.ref i :: r) (none :: ps) e = putA r ps e := rfl
@[simp] theorem finals_nil (e : PEnv) : finals [] e = [] := rfl
@[simp] theorem finals_cons (p : PV) (r : List PV) (x : Option PV) (e : PEnv) : finals (p :: r) (x :: e) = (if p.imm = true then some p else x) :: finals r e := rfl
def endF (ps : List PV) : SO → FO
  | .next e => .ok .non (finals ps e)
  | .ret x e => .ok x (finals ps e)
  | .exc x e => .exc x (finals ps e)
  | _ => .bad
@[simp] theorem endF_next (ps : List PV) (e : PEnv) : endF ps (.next e) = .ok .non (finals ps e) := rfl
@[simp] theorem endF_ret (ps : List PV) (x : PV) (e : PEnv) : endF ps (.ret x e) = .ok x (finals ps e) := rfl
@[simp] theorem endF_exc (ps : List PV) (x : PX) (e : PEnv) : endF ps (.exc x e) = .exc x (finals ps e) := rfl
/-- a def whose stored parameters have no mutable part -/
theorem fnM_at {n m : Nat} {asg : List Nat} {body : SM} {ps : List PV} (h : asg.all (fun j => match ps[j]? with | some p => p.imm | none => true) = true) : fnM n m asg body ps = endF ps (body (ps.map some ++ List.replicate (m - n) none)) := by
  unfold fnM
  split
  · cases body (ps.map some ++ List.replicate (m - n) none) <;> rfl
  · rename_i hh
    exact absurd h hh
/-! operations -/
@[simp] theorem pAdd_i (a b : Int) : pAdd (.int a) (.int b) = some (.int (a + b)) := rfl
@[simp] theorem pAdd_s (a b : Str) : pAdd (.str a) (.str b) = if a.length + b.length ≤ sizeLine then some (.str (a ++ b)) else none := rfl
@[simp] theorem pAdd_t (a b : List PV) : pAdd (.tup a) (.tup b) = if a.length + b.length ≤ sizeLine ∧ immL a = true ∧ immL b = true then some (.tup (a ++ b)) else none := rfl
@[simp] theorem pAdd_l (a b : List PV) : pAdd (.lst a) (.lst b) = if a.length + b.length ≤ sizeLine ∧ immL a = true ∧ immL b = true then some (.lst (a ++ b)) else none := rfl
@[simp] theorem pAddI_i (a b : Int) : pAddI (.int a) (.int b) = some (.int (a + b)) := rfl
@[simp] theorem pI_i (c : Int → Int → Prop) [∀ i j, Decidable (c i j)] (g : Int → Int → Int) (a b : Int) : pI c g (.int a) (.int b) = if c a b then some (.int (g a b)) else none := rfl
@[simp] theorem pI0_i (g : Int → Int → Int) (a b : Int) : pI0 g (.int a) (.int b) = some (.int (g a b)) := rfl
@[simp] theorem pB0_i (g : Int → Int → Bool) (a b : Int) : pB0 g (.int a) (.int b) = some (.bl (g a b)) := rfl
theorem pPow_i (a b : Int) : pPow (.int a) (.int b) = if CPow a b then some (.int (a ^ b.toNat)) else none := rfl
theorem pShl_i (a b : Int) : pShl (.int a) (.int b) = if CPow a b then some (.int (a * 2 ^ b.toNat)) else none := rfl
@[simp] theorem pPow_ten : pPow (.int 10) (.int 18) = some (.int 1000000000000000000) := by
  rw [pPow_i, if_pos (show CPow 10 18 from ⟨by decide, by decide, by decide⟩)]
  rfl
@[simp] theorem pNeg_i (a : Int) : pNeg (.int a) = some (.int (-a)) := rfl
@[simp] theorem pLen_l (x : List PV) : pLen [.lst x] = some (.int x.length) := rfl
@[simp] theorem pLen_f (x : List PV) : pLen [.frz x] = some (.int x.length) := rfl
@[simp] theorem pLen_t (x : List PV) : pLen [.tup x] = some (.int x.length) := rfl
@[simp] theorem pAbs_i (i : Int) : pAbs [.int i] = some (.int (if i < 0 then -i else i)) := rfl
@[simp] theorem pInt_i (i : Int) : pInt [.int i] = some (.int i) := rfl
@[simp] theorem pInt_b (b : Bool) : pInt [.bl b] = some (.int (if b then 1 else 0)) := rfl
@[simp] theorem pTuple_l (x : List PV) : pTuple [.lst x] = if immL x = true then some (.tup x) else none := rfl
@[simp] theorem pTuple_t (x : List PV) : pTuple [.tup x] = if immL x = true then some (.tup x) else none := rfl
@[simp] theorem pList_l (x : List PV) : pList [.lst x] = if immL x = true then some (.lst x) else none := rfl
@[simp] theorem pList_t (x : List PV) : pList [.tup x] = if immL x = true then some (.lst x) else none := rfl
@[simp] theorem isi_int_int (i : Int) : pIsi [.int i, .ty "int"] = some (.bl true) := by simp [pIsi, tyName, tyKnown, isT]
@[simp] theorem isi_int_bool (i : Int) : pIsi [.int i, .ty "bool"] = some (.bl false) := by simp [pIsi, tyName, tyKnown, isT]
@[simp] theorem isi_int_str (i : Int) : pIsi [.int i, .ty "str"] = some (.bl false) := by simp [pIsi, tyName, tyKnown, isT]
@[simp] theorem isi_int_tup (i : Int) : pIsi [.int i, .ty "tuple"] = some (.bl false) := by simp [pIsi, tyName, tyKnown, isT]
@[simp] theorem isi_int_lst (i : Int) : pIsi [.int i, .ty "list"] = some (.bl false) := by simp [pIsi, tyName, tyKnown, isT]
@[simp] theorem isi_bl_int (i : Bool) : pIsi [.bl i, .ty "int"] = some (.bl true) := by simp [pIsi, tyName, tyKnown, isT]
@[simp] theorem isi_bl_bool (i : Bool) : pIsi [.bl i, .ty "bool"] = some (.bl true) := by simp [pIsi, tyName, tyKnown, isT]
@[simp] theorem isi_bl_str (i : Bool) : pIsi [.bl i, .ty "str"] = some (.bl false) := by simp [pIsi, tyName, tyKnown, isT]
@[simp] theorem isi_bl_tup (i : Bool) : pIsi [.bl i, .ty "tuple"] = some (.bl false) := by simp [pIsi, tyName, tyKnown, isT]
@[simp] theorem isi_str_int (i : Str) : pIsi [.str i, .ty "int"] = some (.bl false) := by simp [pIsi, tyName, tyKnown, isT]
@[simp] theorem isi_str_bool (i : Str) : pIsi [.str i, .ty "bool"] = some (.bl false) := by simp [pIsi, tyName, tyKnown, isT]
@[simp] theorem isi_str_str (i : Str) : pIsi [.str i, .ty "str"] = some (.bl true) := by simp [pIsi, tyName, tyKnown, isT]
@[simp] theorem isi_str_tup (i : Str) : pIsi [.str i, .ty "tuple"] = some (.bl false) := by simp [pIsi, tyName, tyKnown, isT]
@[simp] theorem isi_tup_tup (i : List PV) : pIsi [.tup i, .ty "tuple"] = some (.bl true) := by simp [pIsi, tyName, tyKnown, isT]
@[simp] theorem isi_tup_int (i : List PV) : pIsi [.tup i, .ty "int"] = some (.bl false) := by simp [pIsi, tyName, tyKnown, isT]
@[simp] theorem isi_tup_bool (i : List PV) : pIsi [.tup i, .ty "bool"] = some (.bl false) := by simp [pIsi, tyName, tyKnown, isT]
@[simp] theorem isi_tup_str (i : List PV) : pIsi [.tup i, .ty "str"] = some (.bl false) := by simp [pIsi, tyName, tyKnown, isT]
@[simp] theorem isi_lst_tup (i : List PV) : pIsi [.lst i, .ty "tuple"] = some (.bl false) := by simp [pIsi, tyName, tyKnown, isT]
@[simp] theorem isi_lst_lst (i : List PV) : pIsi [.lst i, .ty "list"] = some (.bl true) := by simp [pIsi, tyName, tyKnown, isT]
@[simp] theorem isi_non_str : pIsi [.non, .ty "str"] = some (.bl false) := by simp [pIsi, tyName, tyKnown, isT]
@[simp] theorem isi_non_tup : pIsi [.non, .ty "tuple"] = some (.bl false) := by simp [pIsi, tyName, tyKnown, isT]
@[simp] theorem isi_non_bool : pIsi [.non, .ty "bool"] = some (.bl false) := by simp [pIsi, tyName, tyKnown, isT]
@[simp] theorem isi_non_int : pIsi [.non, .ty "int"] = some (.bl false) := by simp [pIsi, tyName, tyKnown, isT]
@[simp] theorem isN_non : pIsN .non .non = some (.bl true) := rfl
@[simp] theorem isN_int (i : Int) : pIsN (.int i) .non = some (.bl false) := rfl
@[simp] theorem isN_bl (i : Bool) : pIsN (.bl i) .non = some (.bl false) := rfl
@[simp] theorem isN_str (i : Str) : pIsN (.str i) .non = some (.bl false) := rfl
@[simp] theorem isN_tup (i : List PV) : pIsN (.tup i) .non = some (.bl false) := rfl
@[simp] theorem isN_lst (i : List PV) : pIsN (.lst i) .non = some (.bl false) := rfl
@[simp] theorem eq_ii (a b : Int) : pEq (.int a) (.int b) = some (.bl (decide (a = b))) := rfl
@[simp] theorem eq_ss (a b : Str) : pEq (.str a) (.str b) = some (.bl (decide (a = b))) := rfl
@[simp] theorem eq_bb (a b : Bool) : pEq (.bl a) (.bl b) = some (.bl (decide (a = b))) := rfl
@[simp] theorem ne_ii (a b : Int) : pNe (.int a) (.int b) = some (.bl (!decide (a = b))) := rfl
@[simp] theorem ne_ss (a b : Str) : pNe (.str a) (.str b) = some (.bl (!decide (a = b))) := rfl
@[simp] theorem pIx_l (x : List PV) (i : Int) : pIx (.lst x) (.int i) = atI x i := rfl
@[simp] theorem pIx_t (x : List PV) (i : Int) : pIx (.tup x) (.int i) = atI x i := rfl
@[simp] theorem pIx_f (x : List PV) (i : Int) : pIx (.frz x) (.int i) = atI x i := rfl
@[simp] theorem pIxL_l (x : List PV) (i : Int) : pIxL (.lst x) (.int i) = atI x i := rfl
@[simp] theorem pSetL_l (x : List PV) (k : Int) (v : PV) : pSetL (.lst x) (.int k) v = (ixN x.length k).map fun j => .lst (x.set j v) := rfl
@[simp] theorem pAppend_l (x : List PV) (v : PV) : pAppend (.lst x) [v] = if x.length < sizeLine then some (.non, .lst (x ++ [v])) else none := rfl
@[simp] theorem pSl_l (x : List PV) (lo hi : Option Int) : pSl (.lst x) lo hi = if immL x = true then some (.lst (pcut x lo hi)) else none := rfl
@[simp] theorem pSl_f (x : List PV) (lo hi : Option Int) : pSl (.frz x) lo hi = if immL x = true then some (.lst (pcut x lo hi)) else none := rfl
@[simp] theorem pSl_t (x : List PV) (lo hi : Option Int) : pSl (.tup x) lo hi = if immL x = true then some (.tup (pcut x lo hi)) else none := rfl
@[simp] theorem itemsOf_l (x : List PV) : itemsOf (.lst x) = if immL x = true then some x else none := rfl
@[simp] theorem itemsOf_f (x : List PV) : itemsOf (.frz x) = if immL x = true then some x else none := rfl
@[simp] theorem itemsOfT_t (x : List PV) : itemsOfT (.tup x) = if immL x = true then some x else none := rfl
@[simp] theorem tyP_l (x : List PV) : tyP "list" (.lst x) = true := rfl
@[simp] theorem at_0 {α : Type} (x : α) (r : List α) : atI (x :: r) 0 = some x := by
  unfold atI ixN
  simp only [List.length_cons]
  rw [if_pos (by omega), if_pos (by omega)]
  rfl
theorem at_nat {α : Type} (xs : List α) (i : Int) (h : 0 ≤ i) : atI xs i = xs[i.toNat]? := by
  unfold atI ixN
  rw [if_pos h]
  by_cases h1 : i < xs.length
  · rw [if_pos h1]; rfl
  · rw [if_neg h1]
    rw [List.getElem?_eq_none (by omega)]; rfl
@[simp] theorem at_1 {α : Type} (x y : α) (r : List α) : atI (x :: y :: r) 1 = some y := by rw [at_nat _ _ (by decide)]; rfl
@[simp] theorem at_2 {α : Type} (x y z : α) (r : List α) : atI (x :: y :: z :: r) 2 = some z := by rw [at_nat _ _ (by decide)]; rfl
@[simp] theorem at_3 {α : Type} (x y z u : α) (r : List α) : atI (x :: y :: z :: u :: r) 3 = some u := by rw [at_nat _ _ (by decide)]; rfl
@[simp] theorem ix_nat (n : Nat) (i : Int) (h : 0 ≤ i) (h2 : i < n) : ixN n i = some i.toNat := by
  unfold ixN
  rw [if_pos h, if_pos h2]
theorem at_neg {α : Type} (xs : List α) (i : Int) (h : i < 0) (h2 : 0 ≤ i + xs.length) : atI xs i = xs[(i + xs.length).toNat]? := by
  unfold atI ixN
  rw [if_neg (by omega)]
  split
  · rfl
  · omega
@[simp] theorem le_size {n : Nat} (h : n ≤ 1000000) : n ≤ sizeLine := by rw [sizeLine_eq]; omega
@[simp] theorem lt_size {n : Nat} (h : n < 1000000) : n < sizeLine := by rw [sizeLine_eq]; omega
/-! loops -/
theorem forL_cons (t : TM) (b : SM) (x : PV) (r : List PV) (env : PEnv) : forL t b (x :: r) env = match t x env with
    | none => .bad
    | some e => match b e with
      | .next e => forL t b r e
      | .cont e => forL t b r e
      | .brk e => .next e
      | o => o := rfl
/-- behind a turn -/
def loopK (o : SO) (k : SM) : SO := match o with
  | .next e => k e
  | .cont e => k e
  | .brk e => .next e
  | o => o
@[simp] theorem loopK_next (e : PEnv) (k : SM) : loopK (.next e) k = k e := rfl
@[simp] theorem loopK_cont (e : PEnv) (k : SM) : loopK (.cont e) k = k e := rfl
@[simp] theorem loopK_brk (e : PEnv) (k : SM) : loopK (.brk e) k = .next e := rfl
@[simp] theorem loopK_ret (x : PV) (e : PEnv) (k : SM) : loopK (.ret x e) k = .ret x e := rfl
@[simp] theorem loopK_exc (x : PX) (e : PEnv) (k : SM) : loopK (.exc x e) k = .exc x e := rfl
@[simp] theorem loopK_bad (k : SM) : loopK .bad k = .bad := rfl
theorem forL_at {t : TM} {b : SM} {x : PV} {r : List PV} {env e : PEnv} (h : t x env = some e) : forL t b (x :: r) env = loopK (b e) (forL t b r) := by
  rw [forL_cons, h]
  simp only
  cases b e <;> rfl
/-- a loop that goes to its end -/
theorem forL_all {t : TM} {b : SM} (I : List PV → PEnv → Prop) (step : ∀ x r env, I (x :: r) env → ∃ e e', t x env = some e ∧ (b e = .next e' ∨ b e = .cont e') ∧ I r e') : ∀ (l : List PV) (env : PEnv), I l env → ∃ e', forL t b l env = .next e' ∧ I [] e'
  | [], env, h => ⟨env, rfl, h⟩
  | x :: r, env, h => by
    obtain ⟨e, e', h1, h2, h3⟩ := step x r env h
    obtain ⟨e2, h4, h5⟩ := forL_all I step r e' h3
    refine ⟨e2, ?_, h5⟩
    rw [forL_cons, h1]
    rcases h2 with h2 | h2 <;> simp only [h2] <;> exact h4
theorem lcL_cons (vs : List Nat) (t : TM) (c : BM) (m : EM) (x : PV) (r acc : List PV) (env : PEnv) : lcL vs t c m (x :: r) acc env = match t x env with
    | none => .bad
    | some e => match c e with
      | .ok b e2 => if b = true then (match m e2 with
          | .ok y e3 => if acc.length < sizeLine then lcL vs t c m r (acc ++ [y]) (envWipe e3 vs) else .bad
          | _ => .bad) else lcL vs t c m r acc (envWipe e2 vs)
      | _ => .bad := rfl
/-- a comprehension that takes all -/
theorem lcL_all {vs : List Nat} {t : TM} {m : EM} (I : List PV → List PV → PEnv → Prop) (step : ∀ x r acc env, I (x :: r) acc env → ∃ e y e', t x env = some e ∧ m e = .ok y e' ∧ acc.length < sizeLine ∧ I r (acc ++ [y]) (envWipe e' vs)) :
    ∀ (l acc : List PV) (env : PEnv), I l acc env → ∃ acc' e', lcL vs t bYes m l acc env = .ok (.lst acc') e' ∧ I [] acc' e'
  | [], acc, env, h => ⟨acc, env, rfl, h⟩
  | x :: r, acc, env, h => by
    obtain ⟨e, y, e', h1, h2, h3, h4⟩ := step x r acc env h
    obtain ⟨a2, e2, h5, h6⟩ := lcL_all I step r _ _ h4
    refine ⟨a2, e2, ?_, h6⟩
    rw [lcL_cons, h1]
    simp only [bYes_ap, if_true, h2, h3]
    exact h5
/-- .. by a test -/
theorem lcL_some {vs : List Nat} {t : TM} {c : BM} {m : EM} (I : List PV → List PV → PEnv → Prop)
    (step : ∀ x r acc env, I (x :: r) acc env → ∃ e b e2, t x env = some e ∧ c e = .ok b e2 ∧ ((b = false ∧ I r acc (envWipe e2 vs)) ∨ (b = true ∧ ∃ y e', m e2 = .ok y e' ∧ acc.length < sizeLine ∧ I r (acc ++ [y]) (envWipe e' vs)))) :
    ∀ (l acc : List PV) (env : PEnv), I l acc env → ∃ acc' e', lcL vs t c m l acc env = .ok (.lst acc') e' ∧ I [] acc' e'
  | [], acc, env, h => ⟨acc, env, rfl, h⟩
  | x :: r, acc, env, h => by
    obtain ⟨e, b, e2, h1, h2, h3⟩ := step x r acc env h
    rcases h3 with ⟨rfl, h4⟩ | ⟨rfl, y, e', h4, h5, h6⟩
    · obtain ⟨a2, e3, h7, h8⟩ := lcL_some I step r _ _ h4
      exact ⟨a2, e3, by rw [lcL_cons, h1]; simp only [h2]; exact h7, h8⟩
    · obtain ⟨a2, e3, h7, h8⟩ := lcL_some I step r _ _ h6
      exact ⟨a2, e3, by rw [lcL_cons, h1]; simp only [h2, h4, h5, if_true]; exact h7, h8⟩
end PVL

/-! M1: the laws' common drawing of numbers. -/
namespace PVL
open PySem PySem.Spec L2
def bDrawR : SM := sSeq (sAugIx 0 (rC (.int 1)) pIxL (eC (.int 1)) pAddI pSetL) (sSeq (sIf (bE (eN (rOp pGe (rVar 2) (rOp pMul (rC (.int 2)) (rOp pPow (rC (.int 10)) (rC (.int 18))))))) (sSeq (sAsg (eN (rOp pMod (rCl pInt (raCons (rOp pDiv (rVar 2) (rC (.int 2))) (raNil))) (rOp pShl (rC (.int 1)) (rC (.int 6000))))) (tgN 3)) (sSeq (sSetIx 0 (rC (.int 2)) pSetL (eN (rOp pDiv (rVar 3) (rVar 1)))) (sRet (eN (rOp pMod (rCl pInt (raCons (rVar 3) (raNil))) (rVar 1)))))) (sNil)) (sSeq (sSetIx 0 (rC (.int 3)) pSetL (eN (rOp pMod (rCl pInt (raCons (rOp pAdd (rOp pAdd (rOp pAdd (rOp pMul (rOp pIx (rVar 0) (rC (.int 3))) (rC (.int 48271))) (rOp pMul (rOp pMod (rCl pInt (raCons (rVar 2) (raNil))) (rC (.int 2147483629))) (rC (.int 16807)))) (rOp pMul (rOp pIx (rVar 0) (rC (.int 1))) (rC (.int 69621)))) (rC (.int 11))) (raNil))) (rC (.int 2147483647))))) (sRet (eN (rOp pMod (rCl pInt (raCons (rOp pDiv (rOp pIx (rVar 0) (rC (.int 3))) (rC (.int 16))) (raNil))) (rVar 1))))))
def bDraw : SM := sSeq (sIf (bE (eN (rOp pGt (rOp pIx (rVar 0) (rC (.int 2))) (rC (.int 0))))) (sSeq (sAsg (eR (rOp pIx (rVar 0) (rC (.int 2)))) (tgN 3)) (sSeq (sSetIx 0 (rC (.int 2)) pSetL (eN (rOp pDiv (rVar 3) (rVar 1)))) (sRet (eN (rOp pMod (rCl pInt (raCons (rVar 3) (raNil))) (rVar 1)))))) (sNil)) (sSeq (sAsg (eC (.int 0)) (tgN 2)) (sSeq (sIf (bE (eN (rOp pLt (rOp pIx (rVar 0) (rC (.int 1))) (rCl pLen (raCons (rOp pIx (rVar 0) (rC (.int 0))) (raNil)))))) (sSeq (sAsg (eR (rOp pIx (rOp pIx (rVar 0) (rC (.int 0))) (rOp pIx (rVar 0) (rC (.int 1))))) (tgN 4)) (sAsg (eN (rOp pAdd (rOp pMul (rC (.int 2)) (rCl pAbs (raCons (rVar 4) (raNil)))) (rCl pInt (raCons (rOp pLt (rVar 4) (rC (.int 0))) (raNil))))) (tgN 2))) (sNil)) bDrawR))
def mDraw : FM := fnM 2 5 [] bDraw
structure Dr where
  cells : List Int
  at_ : Nat
  held : Int
  seed : Int
def Dr.pv (d : Dr) : PV := .lst [.lst (d.cells.map .int), .int d.at_, .int d.held, .int d.seed]
@[simp] theorem Dr.pv_imm (d : Dr) : d.pv.imm = false := rfl
def big : Int := 1 * 2 ^ (6000 : Int).toNat
theorem big_pos : 0 < big := by
  unfold big
  rw [Int.one_mul]
  exact Int.pow_pos (by decide)
theorem shl_big : pShl (.int 1) (.int 6000) = some (.int big) := by
  rw [pShl_i, if_pos (show CPow 1 6000 from ⟨by decide, by decide, by decide⟩)]
  rfl
theorem dr0 (c : List PV) (a f s n size : Int) (y : Option PV) : (sAugIx 0 (rC (.int 1)) pIxL (eC (.int 1)) pAddI pSetL : SM) [some (.lst [.lst c, .int a, .int f, .int s]), some (.int n), some (.int size), none, y] = .next [some (.lst [.lst c, .int (a + 1), .int f, .int s]), some (.int n), some (.int size), none, y] := by
  simp
theorem dr1 (c : List PV) (a f s n size : Int) (y : Option PV) (h : ¬ 2000000000000000000 ≤ size) : (sIf (bE (eN (rOp pGe (rVar 2) (rOp pMul (rC (.int 2)) (rOp pPow (rC (.int 10)) (rC (.int 18))))))) (sSeq (sAsg (eN (rOp pMod (rCl pInt (raCons (rOp pDiv (rVar 2) (rC (.int 2))) (raNil))) (rOp pShl (rC (.int 1)) (rC (.int 6000))))) (tgN 3)) (sSeq (sSetIx 0 (rC (.int 2)) pSetL (eN (rOp pDiv (rVar 3) (rVar 1)))) (sRet (eN (rOp pMod (rCl pInt (raCons (rVar 3) (raNil))) (rVar 1)))))) (sNil) : SM) [some (.lst [.lst c, .int a, .int f, .int s]), some (.int n), some (.int size), none, y] = .next [some (.lst [.lst c, .int a, .int f, .int s]), some (.int n), some (.int size), none, y] := by
  simp [CMul, h]
theorem dr1b (c : List PV) (a f s n size B : Int) (y : Option PV) (h1 : 0 < n) (h2 : n < 1073741824) (hb : 0 < B) (hshl : pShl (.int 1) (.int 6000) = some (.int B)) (h : 2000000000000000000 ≤ size) : (sIf (bE (eN (rOp pGe (rVar 2) (rOp pMul (rC (.int 2)) (rOp pPow (rC (.int 10)) (rC (.int 18))))))) (sSeq (sAsg (eN (rOp pMod (rCl pInt (raCons (rOp pDiv (rVar 2) (rC (.int 2))) (raNil))) (rOp pShl (rC (.int 1)) (rC (.int 6000))))) (tgN 3)) (sSeq (sSetIx 0 (rC (.int 2)) pSetL (eN (rOp pDiv (rVar 3) (rVar 1)))) (sRet (eN (rOp pMod (rCl pInt (raCons (rVar 3) (raNil))) (rVar 1)))))) (sNil) : SM) [some (.lst [.lst c, .int a, .int f, .int s]), some (.int n), some (.int size), none, y] = .ret (.int (size / 2 % B % n)) [some (.lst [.lst c, .int a, .int (size / 2 % B / n), .int s]), some (.int n), some (.int size), some (.int (size / 2 % B)), y] := by
  simp [CMul, CDiv, h, h1, h2, hb, hshl]
theorem dr2 (c : List PV) (a f s n size : Int) (y : Option PV) : (sSetIx 0 (rC (.int 3)) pSetL (eN (rOp pMod (rCl pInt (raCons (rOp pAdd (rOp pAdd (rOp pAdd (rOp pMul (rOp pIx (rVar 0) (rC (.int 3))) (rC (.int 48271))) (rOp pMul (rOp pMod (rCl pInt (raCons (rVar 2) (raNil))) (rC (.int 2147483629))) (rC (.int 16807)))) (rOp pMul (rOp pIx (rVar 0) (rC (.int 1))) (rC (.int 69621)))) (rC (.int 11))) (raNil))) (rC (.int 2147483647)))) : SM) [some (.lst [.lst c, .int a, .int f, .int s]), some (.int n), some (.int size), none, y] = .next [some (.lst [.lst c, .int a, .int f, .int ((s * 48271 + size % 2147483629 * 16807 + a * 69621 + 11) % 2147483647)]), some (.int n), some (.int size), none, y] := by
  simp [CMul]
theorem dr3 (c : List PV) (a f s n size : Int) (y : Option PV) (h1 : 0 < n) : (sRet (eN (rOp pMod (rCl pInt (raCons (rOp pDiv (rOp pIx (rVar 0) (rC (.int 3))) (rC (.int 16))) (raNil))) (rVar 1))) : SM) [some (.lst [.lst c, .int a, .int f, .int s]), some (.int n), some (.int size), none, y] = .ret (.int (s / 16 % n)) [some (.lst [.lst c, .int a, .int f, .int s]), some (.int n), some (.int size), none, y] := by
  simp [CDiv, h1]
theorem draw_big (d : Dr) (n size B : Int) (y : Option PV) (h1 : 0 < n) (h2 : n < 1073741824) (hb : 0 < B) (hshl : pShl (.int 1) (.int 6000) = some (.int B)) (h : 2000000000000000000 ≤ size) :
    endF [d.pv, .int n] (bDrawR [some d.pv, some (.int n), some (.int size), none, y]) = .ok (.int (size / 2 % B % n)) [some (Dr.mk d.cells (d.at_ + 1) (size / 2 % B / n) d.seed).pv, some (.int n)] := by
  unfold bDrawR Dr.pv
  rw [sSeq_ap, dr0, andThen_next, sSeq_ap, dr1b _ _ _ _ _ _ B _ h1 h2 hb hshl h, andThen_ret]
  rfl
theorem draw_small (d : Dr) (n size : Int) (y : Option PV) (h1 : 0 < n) (h2 : n < 1073741824) (h : ¬ 2000000000000000000 ≤ size) : ∃ z : Int,
    endF [d.pv, .int n] (bDrawR [some d.pv, some (.int n), some (.int size), none, y]) = .ok (.int (z / 16 % n)) [some (Dr.mk d.cells (d.at_ + 1) d.held z).pv, some (.int n)] := by
  refine ⟨(d.seed * 48271 + size % 2147483629 * 16807 + ((d.at_ : Int) + 1) * 69621 + 11) % 2147483647, ?_⟩
  unfold bDrawR Dr.pv
  rw [sSeq_ap, dr0, andThen_next, sSeq_ap, dr1 _ _ _ _ _ _ _ h, andThen_next, sSeq_ap, dr2, andThen_next]
  generalize (d.seed * 48271 + size % 2147483629 * 16807 + ((d.at_ : Int) + 1) * 69621 + 11) % 2147483647 = z
  rw [dr3 _ _ _ _ _ _ _ h1]
  rfl
theorem draw_rest (d : Dr) (n size : Int) (y : Option PV) (h1 : 0 < n) (h2 : n < 1073741824) : ∃ (r : Int) (d' : Dr), endF [d.pv, .int n] (bDrawR [some d.pv, some (.int n), some (.int size), none, y]) = .ok (.int r) [some d'.pv, some (.int n)] ∧ 0 ≤ r ∧ r < n := by
  have rng : ∀ x : Int, 0 ≤ x % n ∧ x % n < n := fun x => ⟨Int.emod_nonneg _ (by omega), Int.emod_lt_of_pos _ h1⟩
  by_cases h : 2000000000000000000 ≤ size
  · exact ⟨_, _, draw_big d n size big y h1 h2 big_pos shl_big h, rng _⟩
  · obtain ⟨z, e⟩ := draw_small d n size y h1 h2 h
    exact ⟨_, _, e, rng _⟩
theorem draw_ok (d : Dr) (n : Int) (h1 : 0 < n) (h2 : n < 1073741824) : ∃ (r : Int) (d' : Dr), mDraw [d.pv, .int n] = .ok (.int r) [some d'.pv, some (.int n)] ∧ 0 ≤ r ∧ r < n := by
  have rng : ∀ x : Int, 0 ≤ x % n ∧ x % n < n := fun x => ⟨Int.emod_nonneg _ (by omega), Int.emod_lt_of_pos _ h1⟩
  by_cases h : 0 < d.held
  · refine ⟨d.held % n, ⟨d.cells, d.at_, d.held / n, d.seed⟩, ?_, rng _⟩
    unfold mDraw
    rw [fnM_at rfl]
    simp [bDraw, Dr.pv, h, CDiv, h1, h2]
  · unfold mDraw
    rw [fnM_at rfl]
    by_cases hc : d.at_ < d.cells.length
    · have hat : atI (d.cells.map PV.int) d.at_ = some (.int d.cells[d.at_]) := by
        rw [at_nat _ _ (by omega)]
        simp [hc]
      obtain ⟨r, d', e, hr⟩ := draw_rest d n (2 * (if d.cells[d.at_] < 0 then -d.cells[d.at_] else d.cells[d.at_]) + (if d.cells[d.at_] < 0 then 1 else 0)) (some (.int d.cells[d.at_])) h1 h2
      refine ⟨r, d', ?_, hr⟩
      rw [← e]
      simp [bDraw, Dr.pv, h, hc, hat, CMul]
    · obtain ⟨r, d', e, hr⟩ := draw_rest d n 0 none h1 h2
      refine ⟨r, d', ?_, hr⟩
      rw [← e]
      simp [bDraw, Dr.pv, h, hc]
end PVL

/-! M2: more of what the laws have in common. -/
namespace PVL
open PySem PySem.Spec L2
def bBegin : SM := sRet (eLst (aCons (gOwn (eLC (itS (eSl pSl (gRef 0) (oNone) (oSome (eC (.int 63))))) [1] (tgN 1) (bYes) (eN (rCl pInt (raCons (rVar 1) (raNil)))))) (aCons (gOwn (eC (.int 0))) (aCons (gOwn (eC (.int 0))) (aCons (gOwn (eC (.int 7))) (aNil))))))
def mBegin : FM := fnM 1 2 [] bBegin
def bPick : SM := sRet (eOp (fun x y => immO (pIx x y)) (gRef 1) (gOwn (eCall mDraw (aCons (gRef 0) (aCons (gOwn (eN (rCl pLen (raCons (rVar 1) (raNil))))) (aNil))))))
def mPick : FM := fnM 2 2 [] bPick
def bRare : SM := sRet (eOp pEq (gOwn (eCall mDraw (aCons (gRef 0) (aCons (gRef 1) (aNil))))) (gOwn (eN (rOp pDiv (rVar 1) (rC (.int 2))))))
def mRare : FM := fnM 2 2 [] bRare
def bIsInt : SM := sRet (eAnd (eN (rCl pIsi (raCons (rVar 0) (raCons (rC (.ty "int")) (raNil))))) (eNot (eN (rCl pIsi (raCons (rVar 0) (raCons (rC (.ty "bool")) (raNil)))))))
def mIsInt : FM := fnM 1 1 [] bIsInt
def bSame (n : Nat) (self : FM) : SM := sSeq (sIf (bE (eN (rCl pIsi (raCons (rVar 0) (raCons (rC (.ty "tuple")) (raNil)))))) (sSeq (sIf (bOr (bNot (bE (eN (rCl pIsi (raCons (rVar 1) (raCons (rC (.ty "tuple")) (raNil))))))) (bE (eN (rOp pNe (rCl pLen (raCons (rVar 0) (raNil))) (rCl pLen (raCons (rVar 1) (raNil))))))) (sRet (eC (.bl false))) (sNil)) (sRet (eOp pEq (gOwn (eCl pLen (aCons (gOwn (eLC (itR1 (aCons (gOwn (eN (rCl pLen (raCons (rVar 0) (raNil))))) (aNil))) [2] (tgN 2) (bNot (bE (eCall self (aCons (gOwn (eR (rOp pIx (rVar 0) (rVar 2)))) (aCons (gOwn (eR (rOp pIx (rVar 1) (rVar 2)))) (aNil)))))) (eVar 2))) (aNil)))) (gOwn (eC (.int 0)))))) (sNil)) (sSeq (sIf (bOr (bE (eN (rCl pIsi (raCons (rVar 0) (raCons (rC (.ty "bool")) (raNil)))))) (bOr (bE (eN (rOp pIsN (rVar 0) (rC .non)))) (bE (eN (rCl pIsi (raCons (rVar 0) (raCons (rC (.ty "str")) (raNil)))))))) (sRet (eAnd (eN (rOp pEq (rCl pIsi (raCons (rVar 0) (raCons (rC (.ty "bool")) (raNil)))) (rCl pIsi (raCons (rVar 1) (raCons (rC (.ty "bool")) (raNil)))))) (eN (rOp pEq (rVar 0) (rVar 1))))) (sNil)) (sRet (eAnd (eCall mIsInt (aCons (gRef 0) (aNil))) (eAnd (eCall mIsInt (aCons (gRef 1) (aNil))) (eN (rOp pEq (rVar 0) (rVar 1)))))))
def mSame : Nat → FM
  | 0 => fBad
  | n + 1 => fnM 2 3 [] (bSame n (mSame n))

theorem pcut_map {α β : Type} (f : α → β) (l : List α) (lo hi : Option Int) : pcut (l.map f) lo hi = (pcut l lo hi).map f := by
  unfold pcut
  rw [List.length_map, ← List.map_drop, ← List.map_take]
theorem begin_ok (ns : List Int) : ∃ d : Dr, mBegin [.frz (ns.map .int)] = .ok d.pv [some (.frz (ns.map .int))] := by
  have hi : immL (pcut (ns.map PV.int) none (some 63)) = true := by
    rw [pcut_map]
    exact immL_ints _
  have hl : (pcut (ns.map PV.int) none (some 63)).length ≤ 63 := by
    unfold pcut
    simp only [List.length_take, List.length_drop]
    have : HT.sIx (ns.map PV.int).length (ns.map PV.int).length (some 63) ≤ 63 := by
      show (if (63 : Int) < 0 then ((63 : Int) + ((ns.map PV.int).length : Int)).toNat else min (63 : Int).toNat (ns.map PV.int).length) ≤ 63
      rw [if_neg (by decide)]
      exact Nat.min_le_left _ _
    omega
  have hm : ∃ l : List Int, pcut (ns.map PV.int) none (some 63) = l.map PV.int := ⟨_, pcut_map _ _ _ _⟩
  obtain ⟨l, e⟩ := hm
  rw [e] at hi hl
  rw [List.length_map] at hl
  have loop : ∀ (r acc : List Int), acc.length + r.length ≤ 63 → lcL [1] (tgN 1) bYes (eN (rCl pInt (raCons (rVar 1) raNil))) (r.map PV.int) (acc.map PV.int) [some (.frz (ns.map .int)), none] = .ok (.lst ((acc ++ r).map PV.int)) [some (.frz (ns.map .int)), none] := by
    intro r
    induction r with
    | nil => intro acc _; simp
    | cons x r ih =>
      intro acc h
      have hs : acc.length < sizeLine := by
        rw [sizeLine_eq]
        simp only [List.length_cons] at h
        omega
      have := ih (acc ++ [x]) (by simp only [List.length_append, List.length_cons, List.length_nil] at h ⊢; omega)
      rw [List.map_cons, lcL_cons]
      simp [hs]
      simpa using this
  have := loop l [] (by simpa using hl)
  refine ⟨⟨l, 0, 0, 7⟩, ?_⟩
  unfold mBegin
  rw [fnM_at rfl]
  simp [bBegin, e]
  simp at this
  rw [this]
  have h4 : 4 ≤ sizeLine := by rw [sizeLine_eq]; omega
  simp [h4, Dr.pv]

theorem at_lt {α : Type} (xs : List α) (r : Int) (h0 : 0 ≤ r) (h1 : r < xs.length) : ∃ h : r.toNat < xs.length, atI xs r = some xs[r.toNat] := by
  have h : r.toNat < xs.length := by omega
  refine ⟨h, ?_⟩
  rw [at_nat _ _ h0]
  simp [h]
theorem pick_l (d : Dr) (xs : List PV) (h : 0 < xs.length) (h2 : xs.length < 1073741824) (hi : immL xs = true) : ∃ (i : Nat) (hl : i < xs.length) (d' : Dr), mPick [d.pv, .lst xs] = .ok xs[i] [some d'.pv, some (.lst xs)] := by
  obtain ⟨r, d', e, r0, r1⟩ := draw_ok d xs.length (by omega) (by omega)
  obtain ⟨hl, ea⟩ := at_lt xs r r0 r1
  refine ⟨r.toNat, hl, d', ?_⟩
  unfold mPick
  rw [fnM_at rfl]
  simp [bPick, e, ea, immL_mem hi _ (List.getElem_mem hl)]
theorem pick_t (d : Dr) (xs : List PV) (h : 0 < xs.length) (h2 : xs.length < 1073741824) (hi : immL xs = true) : ∃ (i : Nat) (hl : i < xs.length) (d' : Dr), mPick [d.pv, .tup xs] = .ok xs[i] [some d'.pv, some (.tup xs)] := by
  obtain ⟨r, d', e, r0, r1⟩ := draw_ok d xs.length (by omega) (by omega)
  obtain ⟨hl, ea⟩ := at_lt xs r r0 r1
  refine ⟨r.toNat, hl, d', ?_⟩
  unfold mPick
  rw [fnM_at rfl]
  simp [bPick, e, ea, immL_mem hi _ (List.getElem_mem hl), hi]
theorem rare_ok (d : Dr) (n : Int) (h1 : 0 < n) (h2 : n < 1073741824) : ∃ (b : Bool) (d' : Dr), mRare [d.pv, .int n] = .ok (.bl b) [some d'.pv, some (.int n)] := by
  obtain ⟨r, d', e, r0, r1⟩ := draw_ok d n h1 h2
  refine ⟨decide (r = n / 2), d', ?_⟩
  unfold mRare
  rw [fnM_at rfl]
  simp [bRare, e, CDiv]
@[simp] theorem is_int_int (i : Int) : mIsInt [.int i] = .ok (.bl true) [some (.int i)] := by
  unfold mIsInt
  rw [fnM_at rfl]
  simp [bIsInt]
/-- plain data: ints, texts, truths, None, tuples of such, less than n deep -/
def plain : Nat → PV → Bool
  | 0, _ => false
  | _ + 1, .int _ => true
  | _ + 1, .str _ => true
  | _ + 1, .bl _ => true
  | _ + 1, .non => true
  | n + 1, .tup xs => decide (xs.length ≤ 16777216) && xs.all (plain n)
  | _ + 1, _ => false
theorem plain_imm : ∀ {n : Nat} {x : PV}, plain n x = true → x.imm = true
  | n + 1, .int _, _ => rfl
  | n + 1, .str _, _ => rfl
  | n + 1, .bl _, _ => rfl
  | n + 1, .non, _ => rfl
  | n + 1, .tup xs, h => by
    simp only [plain, Bool.and_eq_true, List.all_eq_true] at h
    rw [imm_tup]
    exact immL_all fun x hx => plain_imm (h.2 x hx)
theorem lcL_none {vs : List Nat} {t : TM} {c : BM} {m : EM} {env : PEnv} : ∀ l : List PV, (∀ x ∈ l, ∃ e e2, t x env = some e ∧ c e = .ok false e2 ∧ envWipe e2 vs = env) → lcL vs t c m l [] env = .ok (.lst []) env
  | [], _ => rfl
  | x :: r, h => by
    obtain ⟨e, e2, h1, h2, h3⟩ := h x (List.mem_cons_self ..)
    rw [lcL_cons, h1]
    simp only [h2, Bool.false_eq_true, if_false, h3]
    exact lcL_none r fun y hy => h y (List.mem_cons_of_mem _ hy)
theorem mem_rng {n : Nat} {x : PV} (h : x ∈ rngL 0 n) : ∃ k : Nat, k < n ∧ x = .int k := by
  unfold rngL at h
  obtain ⟨k, hk, rfl⟩ := List.mem_map.mp h
  exact ⟨k, List.mem_range.mp hk, by simp⟩
theorem same_step (n : Nat) (xs : List PV) (hi : immL xs = true) (k : Nat) (hk : k < xs.length) (hs : mSame n [xs[k], xs[k]] = .ok (.bl true) [some xs[k], some xs[k]]) : bNot (bE (eCall (mSame n) (aCons (gOwn (eR (rOp pIx (rVar 0) (rVar 2)))) (aCons (gOwn (eR (rOp pIx (rVar 1) (rVar 2)))) (aNil))))) [some (.tup xs), some (.tup xs), some (.int k)] = .ok false [some (.tup xs), some (.tup xs), some (.int k)] := by
  have ea : atI xs (k : Int) = some xs[k] := by
    rw [at_nat _ _ (by omega)]
    simp [hk]
  have im := immL_mem hi _ (List.getElem_mem hk)
  simp [ea, im, hs, hi]
theorem same_key (n : Nat) (xs : List PV) (hi : immL xs = true) (hs : ∀ x ∈ xs, mSame n [x, x] = .ok (.bl true) [some x, some x]) : lcL [2] (tgN 2) (bNot (bE (eCall (mSame n) (aCons (gOwn (eR (rOp pIx (rVar 0) (rVar 2)))) (aCons (gOwn (eR (rOp pIx (rVar 1) (rVar 2)))) (aNil)))))) (eVar 2) (rngL 0 xs.length) [] [some (.tup xs), some (.tup xs), none] = .ok (.lst []) [some (.tup xs), some (.tup xs), none] := by
  refine lcL_none _ fun x hx => ?_
  obtain ⟨k, hk, rfl⟩ := mem_rng hx
  exact ⟨[some (.tup xs), some (.tup xs), some (.int k)], [some (.tup xs), some (.tup xs), some (.int k)], by simp, same_step n xs hi k hk (hs _ (List.getElem_mem hk)), by simp⟩
theorem same_tup (n : Nat) (xs : List PV) (hl : xs.length ≤ 16777216) (hi : immL xs = true) (hs : ∀ x ∈ xs, mSame n [x, x] = .ok (.bl true) [some x, some x]) : mSame (n + 1) [.tup xs, .tup xs] = .ok (.bl true) [some (.tup xs), some (.tup xs)] := by
  show fnM 2 3 [] (bSame n (mSame n)) _ = _
  rw [fnM_at rfl]
  have hr : rngOk (xs.length : Int) := rngOk_of (by omega) (by omega)
  have key := same_key n xs hi hs
  simp [bSame, hi, hr, key]
theorem same_ok : ∀ (n : Nat) (x : PV), plain n x = true → mSame n [x, x] = .ok (.bl true) [some x, some x] := by
  intro n
  induction n with
  | zero => intro x h; cases x <;> simp [plain] at h
  | succ n ih =>
    intro x h
    cases x with
    | int i =>
      show fnM 2 3 [] (bSame n (mSame n)) _ = _
      rw [fnM_at rfl]
      simp [bSame]
    | str i =>
      show fnM 2 3 [] (bSame n (mSame n)) _ = _
      rw [fnM_at rfl]
      simp [bSame]
    | bl i =>
      show fnM 2 3 [] (bSame n (mSame n)) _ = _
      rw [fnM_at rfl]
      simp [bSame]
    | non =>
      show fnM 2 3 [] (bSame n (mSame n)) _ = _
      rw [fnM_at rfl]
      simp [bSame, pEq, eqB, scEq]
    | tup xs =>
      have hi := plain_imm h
      rw [imm_tup] at hi
      simp only [plain, Bool.and_eq_true, List.all_eq_true, decide_eq_true_eq] at h
      exact same_tup n xs h.1 hi fun x hx => ih x (h.2 x hx)
    | _ => simp [plain] at h
end PVL

namespace K62
open PySem PySem.Spec L2 PVL
/-! ### the text by places -/
def top (i : Nat) : Stmt := PySem.Challenge.pw_formatory_k62_scripts_mended.main.body.getD i (.Pass ⟨0, 0, 0, 0⟩)
abbrev s__law_begin : Stmt := top 6
abbrev s__law_draw : Stmt := top 7
abbrev s__law_pick : Stmt := top 8
abbrev s__law_wrong_scripts : Stmt := top 15
abbrev s__law_is_int : Stmt := top 10
abbrev s__law_same : Stmt := top 11
abbrev s_mended : Stmt := top 4
abbrev s__law_made : Stmt := top 13
abbrev s__law_rare : Stmt := top 9
abbrev s__law_script : Stmt := top 12
abbrev s__law_no_run : Stmt := top 14
abbrev s_law : Stmt := top 16
abbrev s_NoRun : Stmt := inClass (top 2) 0
/-! ### the pure functions -/
def t_FormatError : List (Str × Bool) := [("NoRun", true)]
def t_NoRun : List (Str × Bool) := [("NoRun", true)]
def b_m__law_begin : SM := sRet (eLst (aCons (gOwn (eLC (itS (eSl pSl (gRef 0) (oNone) (oSome (eC (.int 63))))) [1] (tgN 1) (bYes) (eN (rCl pInt (raCons (rVar 1) (raNil)))))) (aCons (gOwn (eC (.int 0))) (aCons (gOwn (eC (.int 0))) (aCons (gOwn (eC (.int 7))) (aNil))))))
def m__law_begin : FM := fnM 1 2 [] b_m__law_begin
def b_m__law_draw : SM := sSeq (sIf (bE (eN (rOp pGt (rOp pIx (rVar 0) (rC (.int 2))) (rC (.int 0))))) (sSeq (sAsg (eR (rOp pIx (rVar 0) (rC (.int 2)))) (tgN 3)) (sSeq (sSetIx 0 (rC (.int 2)) pSetL (eN (rOp pDiv (rVar 3) (rVar 1)))) (sRet (eN (rOp pMod (rCl pInt (raCons (rVar 3) (raNil))) (rVar 1)))))) (sNil)) (sSeq (sAsg (eC (.int 0)) (tgN 2)) (sSeq (sIf (bE (eN (rOp pLt (rOp pIx (rVar 0) (rC (.int 1))) (rCl pLen (raCons (rOp pIx (rVar 0) (rC (.int 0))) (raNil)))))) (sSeq (sAsg (eR (rOp pIx (rOp pIx (rVar 0) (rC (.int 0))) (rOp pIx (rVar 0) (rC (.int 1))))) (tgN 4)) (sAsg (eN (rOp pAdd (rOp pMul (rC (.int 2)) (rCl pAbs (raCons (rVar 4) (raNil)))) (rCl pInt (raCons (rOp pLt (rVar 4) (rC (.int 0))) (raNil))))) (tgN 2))) (sNil)) (sSeq (sAugIx 0 (rC (.int 1)) pIxL (eC (.int 1)) pAddI pSetL) (sSeq (sIf (bE (eN (rOp pGe (rVar 2) (rOp pMul (rC (.int 2)) (rOp pPow (rC (.int 10)) (rC (.int 18))))))) (sSeq (sAsg (eN (rOp pMod (rCl pInt (raCons (rOp pDiv (rVar 2) (rC (.int 2))) (raNil))) (rOp pShl (rC (.int 1)) (rC (.int 6000))))) (tgN 3)) (sSeq (sSetIx 0 (rC (.int 2)) pSetL (eN (rOp pDiv (rVar 3) (rVar 1)))) (sRet (eN (rOp pMod (rCl pInt (raCons (rVar 3) (raNil))) (rVar 1)))))) (sNil)) (sSeq (sSetIx 0 (rC (.int 3)) pSetL (eN (rOp pMod (rCl pInt (raCons (rOp pAdd (rOp pAdd (rOp pAdd (rOp pMul (rOp pIx (rVar 0) (rC (.int 3))) (rC (.int 48271))) (rOp pMul (rOp pMod (rCl pInt (raCons (rVar 2) (raNil))) (rC (.int 2147483629))) (rC (.int 16807)))) (rOp pMul (rOp pIx (rVar 0) (rC (.int 1))) (rC (.int 69621)))) (rC (.int 11))) (raNil))) (rC (.int 2147483647))))) (sRet (eN (rOp pMod (rCl pInt (raCons (rOp pDiv (rOp pIx (rVar 0) (rC (.int 3))) (rC (.int 16))) (raNil))) (rVar 1)))))))))
def m__law_draw : FM := fnM 2 5 [] b_m__law_draw
def b_m__law_pick : SM := sRet (eOp (fun x y => immO (pIx x y)) (gRef 1) (gOwn (eCall m__law_draw (aCons (gRef 0) (aCons (gOwn (eN (rCl pLen (raCons (rVar 1) (raNil))))) (aNil))))))
def m__law_pick : FM := fnM 2 2 [] b_m__law_pick
def b_m__law_wrong_scripts : SM := sSeq (sAsg (eLst (aCons (gOwn (eOp pAdd (gRef 3) (gOwn (eTup (aCons (gOwn (eTup (aCons (gOwn (eC (.str "cut"))) (aCons (gOwn (eC (.int 0))) (aNil))))) (aNil)))))) (aCons (gOwn (eOp pAdd (gRef 3) (gOwn (eTup (aCons (gOwn (eTup (aCons (gOwn (eC (.str "keep"))) (aCons (gOwn (eN (rOp pSub (rVar 1) (rC (.int 1))))) (aNil))))) (aNil)))))) (aNil)))) (tgN 4)) (sSeq (sAsg (eLC (itR1 (aCons (gOwn (eN (rCl pLen (raCons (rVar 3) (raNil))))) (aNil))) [9] (tgN 9) (bE (eN (rOp pNe (rOp pIx (rOp pIx (rVar 3) (rVar 9)) (rC (.int 0))) (rC (.str "put"))))) (eVar 9)) (tgN 5)) (sSeq (sIf (bE (eN (rOp pGt (rCl pLen (raCons (rVar 5) (raNil))) (rC (.int 0))))) (sSeq (sExpr (eMeth "list" 4 pAppend (aCons (gOwn (eOp pAdd (gOwn (eSl pSl (gRef 3) (oNone) (oSome (eR (rOp pIx (rVar 5) (rUn pNeg (rC (.int 1)))))))) (gOwn (eSl pSl (gRef 3) (oSome (eN (rOp pAdd (rOp pIx (rVar 5) (rUn pNeg (rC (.int 1)))) (rC (.int 1))))) (oNone))))) (aNil)))) (sSeq (sAsg (eCall m__law_pick (aCons (gRef 0) (aCons (gRef 5) (aNil)))) (tgN 6)) (sSeq (sAsg (eR (rOp pIx (rVar 3) (rVar 6))) (tgN 7)) (sSeq (sAsg (eN (rOp pMod (rCl pInt (raCons (rOp pAdd (rOp pIx (rVar 7) (rC (.int 1))) (rC (.int 1))) (raNil))) (rVar 1))) (tgN 8)) (sSeq (sExpr (eMeth "list" 4 pAppend (aCons (gOwn (eOp pAdd (gOwn (eOp pAdd (gOwn (eSl pSl (gRef 3) (oNone) (oSome (eVar 6)))) (gOwn (eTup (aCons (gOwn (eOp pAdd (gOwn (eTup (aCons (gOwn (eR (rOp pIx (rVar 7) (rC (.int 0))))) (aCons (gOwn (eVar 8)) (aNil))))) (gOwn (eSl pSl (gRef 7) (oSome (eC (.int 2))) (oNone))))) (aNil)))))) (gOwn (eSl pSl (gRef 3) (oSome (eN (rOp pAdd (rVar 6) (rC (.int 1))))) (oNone))))) (aNil)))) (sExpr (eMeth "list" 4 pAppend (aCons (gOwn (eOp pAdd (gOwn (eOp pAdd (gOwn (eSl pSl (gRef 3) (oNone) (oSome (eVar 6)))) (gOwn (eTup (aCons (gOwn (eTup (aCons (gOwn (eC (.str "turn"))) (aCons (gOwn (eR (rOp pIx (rVar 7) (rC (.int 1))))) (aCons (gOwn (eR (rOp pIx (rVar 7) (rC (.int 1))))) (aNil)))))) (aNil)))))) (gOwn (eSl pSl (gRef 3) (oSome (eN (rOp pAdd (rVar 6) (rC (.int 1))))) (oNone))))) (aNil))))))))) (sNil)) (sRet (eVar 4))))
def m__law_wrong_scripts : FM := fnM 4 10 [] b_m__law_wrong_scripts
def b_m__law_is_int : SM := sRet (eAnd (eN (rCl pIsi (raCons (rVar 0) (raCons (rC (.ty "int")) (raNil))))) (eNot (eN (rCl pIsi (raCons (rVar 0) (raCons (rC (.ty "bool")) (raNil)))))))
def m__law_is_int : FM := fnM 1 1 [] b_m__law_is_int
def b_m__law_same (n : Nat) (self : FM) : SM := sSeq (sIf (bE (eN (rCl pIsi (raCons (rVar 0) (raCons (rC (.ty "tuple")) (raNil)))))) (sSeq (sIf (bOr (bNot (bE (eN (rCl pIsi (raCons (rVar 1) (raCons (rC (.ty "tuple")) (raNil))))))) (bE (eN (rOp pNe (rCl pLen (raCons (rVar 0) (raNil))) (rCl pLen (raCons (rVar 1) (raNil))))))) (sRet (eC (.bl false))) (sNil)) (sRet (eOp pEq (gOwn (eCl pLen (aCons (gOwn (eLC (itR1 (aCons (gOwn (eN (rCl pLen (raCons (rVar 0) (raNil))))) (aNil))) [2] (tgN 2) (bNot (bE (eCall self (aCons (gOwn (eR (rOp pIx (rVar 0) (rVar 2)))) (aCons (gOwn (eR (rOp pIx (rVar 1) (rVar 2)))) (aNil)))))) (eVar 2))) (aNil)))) (gOwn (eC (.int 0)))))) (sNil)) (sSeq (sIf (bOr (bE (eN (rCl pIsi (raCons (rVar 0) (raCons (rC (.ty "bool")) (raNil)))))) (bOr (bE (eN (rOp pIsN (rVar 0) (rC .non)))) (bE (eN (rCl pIsi (raCons (rVar 0) (raCons (rC (.ty "str")) (raNil)))))))) (sRet (eAnd (eN (rOp pEq (rCl pIsi (raCons (rVar 0) (raCons (rC (.ty "bool")) (raNil)))) (rCl pIsi (raCons (rVar 1) (raCons (rC (.ty "bool")) (raNil)))))) (eN (rOp pEq (rVar 0) (rVar 1))))) (sNil)) (sRet (eAnd (eCall m__law_is_int (aCons (gRef 0) (aNil))) (eAnd (eCall m__law_is_int (aCons (gRef 1) (aNil))) (eN (rOp pEq (rVar 0) (rVar 1)))))))
def m__law_same : Nat → FM
  | 0 => fBad
  | n + 1 => fnM 2 3 [] (b_m__law_same n (m__law_same n))
def b_m_mended : SM := sSeq (sAsg (eLst (aNil)) (tgN 2)) (sSeq (sAsg (eC (.int 0)) (tgN 3)) (sSeq (sForVS 1 (tgN 4) (sSeq (sIf (bE (eN (rOp pNe (rOp pIx (rVar 4) (rC (.int 0))) (rC (.str "put"))))) (sSeq (sIf (bOr (bE (eN (rOp pGe (rVar 3) (rCl pLen (raCons (rVar 0) (raNil)))))) (bE (eN (rOp pNe (rOp pIx (rVar 0) (rVar 3)) (rOp pIx (rVar 4) (rC (.int 1))))))) (sRaise "NoRun" [] aNil) (sNil)) (sAug 3 pAddI (eC (.int 1)))) (sNil)) (sSeq (sIf (bAnd (bE (eN (rOp pEq (rOp pIx (rVar 4) (rC (.int 0))) (rC (.str "turn"))))) (bE (eN (rOp pEq (rOp pIx (rVar 4) (rC (.int 1))) (rOp pIx (rVar 4) (rC (.int 2))))))) (sRaise "NoRun" [] aNil) (sNil)) (sIf (bE (eN (rOp pNe (rOp pIx (rVar 4) (rC (.int 0))) (rC (.str "cut"))))) (sExpr (eMeth "list" 2 pAppend (aCons (gOwn (eR (rOp pIx (rVar 4) (rUn pNeg (rC (.int 1)))))) (aNil)))) (sNil))))) (sSeq (sIf (bE (eN (rOp pNe (rVar 3) (rCl pLen (raCons (rVar 0) (raNil)))))) (sRaise "NoRun" [] aNil) (sNil)) (sRet (eN (rCl pTuple (raCons (rVar 2) (raNil))))))))
def m_mended : FM := fnM 2 5 [] b_m_mended
def b_m__law_made : SM := sSeq (sAsg (eLst (aNil)) (tgN 1)) (sSeq (sForVS 0 (tgN 2) (sSeq (sIf (bE (eOp pIn (gOwn (eR (rOp pIx (rVar 2) (rC (.int 0))))) (gOwn (eTup (aCons (gOwn (eC (.str "keep"))) (aCons (gOwn (eC (.str "put"))) (aNil))))))) (sExpr (eMeth "list" 1 pAppend (aCons (gOwn (eR (rOp pIx (rVar 2) (rC (.int 1))))) (aNil)))) (sNil)) (sIf (bE (eN (rOp pEq (rOp pIx (rVar 2) (rC (.int 0))) (rC (.str "turn"))))) (sExpr (eMeth "list" 1 pAppend (aCons (gOwn (eR (rOp pIx (rVar 2) (rC (.int 2))))) (aNil)))) (sNil)))) (sRet (eN (rCl pTuple (raCons (rVar 1) (raNil))))))
def m__law_made : FM := fnM 1 3 [] b_m__law_made
def b_m__law_rare : SM := sRet (eOp pEq (gOwn (eCall m__law_draw (aCons (gRef 0) (aCons (gRef 1) (aNil))))) (gOwn (eN (rOp pDiv (rVar 1) (rC (.int 2))))))
def m__law_rare : FM := fnM 2 2 [] b_m__law_rare
def b_m__law_script : SM := sSeq (sAsg (eLst (aNil)) (tgN 3)) (sSeq (sForVS 2 (tgN 4) (sSeq (sIf (bE (eCall m__law_rare (aCons (gRef 0) (aCons (gOwn (eC (.int 4))) (aNil))))) (sExpr (eMeth "list" 3 pAppend (aCons (gOwn (eTup (aCons (gOwn (eC (.str "put"))) (aCons (gOwn (eCall m__law_draw (aCons (gRef 0) (aCons (gRef 1) (aNil))))) (aNil))))) (aNil)))) (sNil)) (sSeq (sAsg (eCall m__law_draw (aCons (gRef 0) (aCons (gOwn (eC (.int 3))) (aNil)))) (tgN 6)) (sIf (bE (eN (rOp pEq (rVar 6) (rC (.int 0))))) (sExpr (eMeth "list" 3 pAppend (aCons (gOwn (eTup (aCons (gOwn (eC (.str "keep"))) (aCons (gOwn (eVar 4)) (aNil))))) (aNil)))) (sIf (bE (eN (rOp pEq (rVar 6) (rC (.int 1))))) (sExpr (eMeth "list" 3 pAppend (aCons (gOwn (eTup (aCons (gOwn (eC (.str "turn"))) (aCons (gOwn (eVar 4)) (aCons (gOwn (eOp pMod (gOwn (eCl pInt (aCons (gOwn (eOp pAdd (gOwn (eN (rOp pAdd (rVar 4) (rC (.int 1))))) (gOwn (eCall m__law_draw (aCons (gRef 0) (aCons (gOwn (eN (rOp pSub (rVar 1) (rC (.int 1))))) (aNil))))))) (aNil)))) (gRef 1))) (aNil)))))) (aNil)))) (sExpr (eMeth "list" 3 pAppend (aCons (gOwn (eTup (aCons (gOwn (eC (.str "cut"))) (aCons (gOwn (eVar 4)) (aNil))))) (aNil))))))))) (sSeq (sFor (itR1 (aCons (gOwn (eCall m__law_draw (aCons (gRef 0) (aCons (gOwn (eC (.int 3))) (aNil))))) (aNil))) (tgN 5) (sExpr (eMeth "list" 3 pAppend (aCons (gOwn (eTup (aCons (gOwn (eC (.str "put"))) (aCons (gOwn (eCall m__law_draw (aCons (gRef 0) (aCons (gRef 1) (aNil))))) (aNil))))) (aNil))))) (sRet (eN (rCl pTuple (raCons (rVar 3) (raNil)))))))
def m__law_script : FM := fnM 3 7 [] b_m__law_script
def b_m__law_no_run : SM := sTry (sSeq (sExpr (eCall m_mended (aCons (gRef 0) (aCons (gRef 1) (aNil))))) (sRet (eC (.bl false)))) ((t_NoRun, some 2, sRet (eN (rCl pIsi (raCons (rVar 0) (raCons (rC (.ty "tuple")) (raNil)))))) :: (t_FormatError, some 2, sRet (eC (.bl false))) :: [])
def m__law_no_run : FM := fnM 2 3 [] b_m__law_no_run
def b_m_law : SM := sSeq (sAsg (eCall m__law_begin (aCons (gRef 0) (aNil))) (tgN 1)) (sSeq (sAsg (eOp pAdd (gOwn (eC (.int 2))) (gOwn (eCall m__law_draw (aCons (gRef 1) (aCons (gOwn (eC (.int 7))) (aNil)))))) (tgN 2)) (sSeq (sAsg (eLst (aNil)) (tgN 3)) (sSeq (sFor (itR1 (aCons (gOwn (eC (.int 2))) (aNil))) (tgN 4) (sSeq (sAsg (eCl pTuple (aCons (gOwn (eLC (itR1 (aCons (gOwn (eCall m__law_draw (aCons (gRef 1) (aCons (gOwn (eC (.int 10))) (aNil))))) (aNil))) [10] (tgN 10) (bYes) (eCall m__law_draw (aCons (gRef 1) (aCons (gRef 2) (aNil)))))) (aNil))) (tgN 6)) (sExpr (eMeth "list" 3 pAppend (aCons (gOwn (eTup (aCons (gOwn (eVar 6)) (aCons (gOwn (eCall m__law_script (aCons (gRef 1) (aCons (gRef 2) (aCons (gRef 6) (aNil)))))) (aNil))))) (aNil)))))) (sSeq (sForVS 3 (tgT 2 (tgsCons (tgN 6) (tgsCons (tgN 7) (tgsNil)))) (sSeq (sIf (bNot (bE (eCall (m__law_same 8) (aCons (gOwn (eCall m_mended (aCons (gRef 6) (aCons (gRef 7) (aNil))))) (aCons (gOwn (eCall m__law_made (aCons (gRef 7) (aNil)))) (aNil)))))) (sRet (eC (.bl false))) (sNil)) (sFor (itS (eCall m__law_wrong_scripts (aCons (gRef 1) (aCons (gRef 2) (aCons (gRef 6) (aCons (gRef 7) (aNil))))))) (tgN 8) (sIf (bNot (bE (eCall m__law_no_run (aCons (gRef 6) (aCons (gRef 8) (aNil)))))) (sRet (eC (.bl false))) (sNil))))) (sSeq (sAsg (eCl pTuple (aCons (gOwn (eLC (itS (eR (rOp pIx (rOp pIx (rVar 3) (rC (.int 0))) (rC (.int 0))))) [9] (tgN 9) (bYes) (eTup (aCons (gOwn (eC (.str "keep"))) (aCons (gOwn (eVar 9)) (aNil)))))) (aNil))) (tgN 5)) (sRet (eAnd (eOp pEq (gOwn (eCall m_mended (aCons (gOwn (eR (rOp pIx (rOp pIx (rVar 3) (rC (.int 0))) (rC (.int 0))))) (aCons (gRef 5) (aNil))))) (gOwn (eR (rOp pIx (rOp pIx (rVar 3) (rC (.int 0))) (rC (.int 0)))))) (eOp pEq (gOwn (eCall m_mended (aCons (gOwn (eR (rOp pIx (rOp pIx (rVar 3) (rC (.int 0))) (rC (.int 0))))) (aCons (gOwn (eR (rOp pIx (rOp pIx (rVar 3) (rC (.int 0))) (rC (.int 1))))) (aNil))))) (gOwn (eCall m__law_made (aCons (gOwn (eR (rOp pIx (rOp pIx (rVar 3) (rC (.int 0))) (rC (.int 1))))) (aNil))))))))))))
def m_law : FM := fnM 1 11 [] b_m_law
/-! ### each def does as its pure function says -/
section
variable {P : Program} {w : World} {K : PySem.W.Frag} {mg : Str → Option Value} {base : Heap}
theorem b_abs : bootBuiltins "abs" = some (.builtin "abs") := by decide +kernel
theorem b_bool : bootBuiltins "bool" = some (.type "bool") := by decide +kernel
theorem b_int : bootBuiltins "int" = some (.type "int") := by decide +kernel
theorem b_isinstance : bootBuiltins "isinstance" = some (.builtin "isinstance") := by decide +kernel
theorem b_len : bootBuiltins "len" = some (.builtin "len") := by decide +kernel
theorem b_str : bootBuiltins "str" = some (.type "str") := by decide +kernel
theorem b_tuple : bootBuiltins "tuple" = some (.type "tuple") := by decide +kernel
theorem sc__law_begin : FnScope ["script", "cell"] ["script"] (defScope s__law_begin) := ⟨rfl, rfl, rfl, by decide +kernel, rfl, by decide +kernel, by decide +kernel⟩
theorem ok__law_begin {f : Addr} {fd : FuncData} (F : L2.Fun K "_law_begin" "_law_begin" s__law_begin f fd) (hm : mg "_law_begin" = some (.ref f)) (hb : Binds K fd ["script"] []) (z_int : mg "int" = none) : Cal P w K mg base "_law_begin" 2 1 m__law_begin :=
  cal_of (k := 1) F hm hb sc__law_begin rfl rfl (fun cdv A outer s H E hr => ⟨_, jss_one (js_ret (S := []) (j_lst (ja_cons (jg (j_lc (own := [("cell", 1)]) rfl sc__law_begin.nd (k_s K (k_sl K (jg_var 0) (jo_none) (jo_some (j_int)))) (by show blkC ["script", "cell"] (defScope s__law_begin) _ [("cell", 1)] = true; decide +kernel) (fun s H C cl fp => jp_n 1 sc__law_begin.nd) (by decide) (fun s H C cl fp => jtt_nil) (fun s H C cl fp => jn_callTy (sim_int (K := K)) call_int1 b_int z_int (jra_cons (jr_var 1) (jra_nil))))) (ja_cons (jg (j_int)) (ja_cons (jg (j_int)) (ja_cons (jg (j_int)) (ja_nil)))))))⟩) (by decide)
theorem sc__law_draw : FnScope ["d", "many", "size", "found", "cell"] ["d", "many"] (defScope s__law_draw) := ⟨rfl, rfl, rfl, by decide +kernel, rfl, by decide +kernel, by decide +kernel⟩
theorem ok__law_draw {f : Addr} {fd : FuncData} (F : L2.Fun K "_law_draw" "_law_draw" s__law_draw f fd) (hm : mg "_law_draw" = some (.ref f)) (hb : Binds K fd ["d", "many"] []) (z_abs : mg "abs" = none) (z_int : mg "int" = none) (z_len : mg "len" = none) : Cal P w K mg base "_law_draw" 2 2 m__law_draw :=
  cal_of (k := 1) F hm hb sc__law_draw rfl rfl (fun cdv A outer s H E hr => ⟨_, jss_cons (js_if (jnt_cmp (sim_B0 (K := K)) op_gt (by rfl) (jr_ix (sim_ix (K := K)) ix_seq (jr_var 0) (jr_int)) (jr_int)) (jss_cons (js_set 3 sc__law_draw.nd (j_r (jr_ix (sim_ix (K := K)) ix_seq (jr_var 0) (jr_int)))) (jss_cons (js_setIx (S := []) (i := 0) (sim_setL (K := K)) set_list (jn_op (sim_I (K := K)) op_fdiv (jr_var 3) (jr_var 1)) (jr_var 0) (jr_int)) (jss_one (js_ret (S := []) (jn_op (sim_I (K := K)) op_mod (jr_callTy (sim_int (K := K)) call_int1 b_int z_int (jra_cons (jr_var 3) (jra_nil))) (jr_var 1)))))) (jss_nil (S := []))) (jss_cons (js_set 2 sc__law_draw.nd (j_int)) (jss_cons (js_if (jnt_cmp (sim_B0 (K := K)) op_lt (by rfl) (jr_ix (sim_ix (K := K)) ix_seq (jr_var 0) (jr_int)) (jr_callB (sim_len (K := K)) call_len b_len z_len (jra_cons (jr_ix (sim_ix (K := K)) ix_seq (jr_var 0) (jr_int)) (jra_nil)))) (jss_cons (js_set 4 sc__law_draw.nd (j_r (jr_ix (sim_ix (K := K)) ix_seq (jr_ix (sim_ix (K := K)) ix_seq (jr_var 0) (jr_int)) (jr_ix (sim_ix (K := K)) ix_seq (jr_var 0) (jr_int))))) (jss_one (js_set 2 sc__law_draw.nd (jn_op (sim_add (K := K)) op_addP (jr_op (sim_I (K := K)) op_mul (jr_int) (jr_callB (sim_abs (K := K)) call_abs b_abs z_abs (jra_cons (jr_var 4) (jra_nil)))) (jr_callTy (sim_int (K := K)) call_int1 b_int z_int (jra_cons (jr_cmp (sim_B0 (K := K)) op_lt (by rfl) (jr_var 4) (jr_int)) (jra_nil))))))) (jss_nil (S := []))) (jss_cons (js_augIx (S := []) (i := 0) (sim_ixL (K := K)) get_listL (sim_addI (K := K)) ip_addP (sim_setL (K := K)) set_list (jr_var 0) (jr_int) (j_int)) (jss_cons (js_if (jnt_cmp (sim_B0 (K := K)) op_ge (by rfl) (jr_var 2) (jr_op (sim_I (K := K)) op_mul (jr_int) (jr_op (sim_I (K := K)) op_pow (jr_int) (jr_int)))) (jss_cons (js_set 3 sc__law_draw.nd (jn_op (sim_I (K := K)) op_mod (jr_callTy (sim_int (K := K)) call_int1 b_int z_int (jra_cons (jr_op (sim_I (K := K)) op_fdiv (jr_var 2) (jr_int)) (jra_nil))) (jr_op (sim_I (K := K)) op_shl (jr_int) (jr_int)))) (jss_cons (js_setIx (S := []) (i := 0) (sim_setL (K := K)) set_list (jn_op (sim_I (K := K)) op_fdiv (jr_var 3) (jr_var 1)) (jr_var 0) (jr_int)) (jss_one (js_ret (S := []) (jn_op (sim_I (K := K)) op_mod (jr_callTy (sim_int (K := K)) call_int1 b_int z_int (jra_cons (jr_var 3) (jra_nil))) (jr_var 1)))))) (jss_nil (S := []))) (jss_cons (js_setIx (S := []) (i := 0) (sim_setL (K := K)) set_list (jn_op (sim_I (K := K)) op_mod (jr_callTy (sim_int (K := K)) call_int1 b_int z_int (jra_cons (jr_op (sim_add (K := K)) op_addP (jr_op (sim_add (K := K)) op_addP (jr_op (sim_add (K := K)) op_addP (jr_op (sim_I (K := K)) op_mul (jr_ix (sim_ix (K := K)) ix_seq (jr_var 0) (jr_int)) (jr_int)) (jr_op (sim_I (K := K)) op_mul (jr_op (sim_I (K := K)) op_mod (jr_callTy (sim_int (K := K)) call_int1 b_int z_int (jra_cons (jr_var 2) (jra_nil))) (jr_int)) (jr_int))) (jr_op (sim_I (K := K)) op_mul (jr_ix (sim_ix (K := K)) ix_seq (jr_var 0) (jr_int)) (jr_int))) (jr_int)) (jra_nil))) (jr_int)) (jr_var 0) (jr_int)) (jss_one (js_ret (S := []) (jn_op (sim_I (K := K)) op_mod (jr_callTy (sim_int (K := K)) call_int1 b_int z_int (jra_cons (jr_op (sim_I (K := K)) op_fdiv (jr_ix (sim_ix (K := K)) ix_seq (jr_var 0) (jr_int)) (jr_int)) (jra_nil))) (jr_var 1)))))))))⟩) (by decide)
theorem sc__law_pick : FnScope ["d", "row"] ["d", "row"] (defScope s__law_pick) := ⟨rfl, rfl, rfl, by decide +kernel, rfl, by decide +kernel, by decide +kernel⟩
theorem ok__law_pick {f : Addr} {fd : FuncData} (F : L2.Fun K "_law_pick" "_law_pick" s__law_pick f fd) (hm : mg "_law_pick" = some (.ref f)) (hb : Binds K fd ["d", "row"] []) (c__law_draw : Cal P w K mg base "_law_draw" 2 2 m__law_draw) (z_len : mg "len" = none) : Cal P w K mg base "_law_pick" 3 2 m__law_pick :=
  cal_of (k := 2) F hm hb sc__law_pick rfl rfl (fun cdv A outer s H E hr => ⟨_, jss_one (js_ret (S := []) (j_ix (sim_ix (K := K)) ix_seq (jg_var 1) (jg (k_fn K mg c__law_draw (hr.mono (by decide)) (takes_of rfl rfl rfl rfl) (ja_cons (jg_var 0) (ja_cons (jg (jn_callB (sim_len (K := K)) call_len b_len z_len (jra_cons (jr_var 1) (jra_nil)))) (ja_nil)))))))⟩) (by decide)
theorem sc__law_wrong_scripts : FnScope ["d", "base", "file", "script", "found", "readers", "at", "deed", "other", "k"] ["d", "base", "file", "script"] (defScope s__law_wrong_scripts) := ⟨rfl, rfl, rfl, by decide +kernel, rfl, by decide +kernel, by decide +kernel⟩
theorem ok__law_wrong_scripts {f : Addr} {fd : FuncData} (F : L2.Fun K "_law_wrong_scripts" "_law_wrong_scripts" s__law_wrong_scripts f fd) (hm : mg "_law_wrong_scripts" = some (.ref f)) (hb : Binds K fd ["d", "base", "file", "script"] []) (c__law_pick : Cal P w K mg base "_law_pick" 3 2 m__law_pick) (z_int : mg "int" = none) (z_len : mg "len" = none) (z_range : mg "range" = none) : Cal P w K mg base "_law_wrong_scripts" 4 4 m__law_wrong_scripts :=
  cal_of (k := 3) F hm hb sc__law_wrong_scripts rfl rfl (fun cdv A outer s H E hr => ⟨_, jss_cons (js_set 4 sc__law_wrong_scripts.nd (j_lst (ja_cons (jg (j_op (sim_add (K := K)) op_addP (jg_var 3) (jg (j_tup (ja_cons (jg (j_tup (ja_cons (jg (j_str)) (ja_cons (jg (j_int)) (ja_nil))))) (ja_nil)))))) (ja_cons (jg (j_op (sim_add (K := K)) op_addP (jg_var 3) (jg (j_tup (ja_cons (jg (j_tup (ja_cons (jg (j_str)) (ja_cons (jg (jn_op (sim_I0 (K := K)) op_sub (jr_var 1) (jr_int))) (ja_nil))))) (ja_nil)))))) (ja_nil))))) (jss_cons (js_setLc 5 (own := [("k", 9)]) rfl sc__law_wrong_scripts.nd (ji_r1 z_range (ja_cons (jg (jn_callB (sim_len (K := K)) call_len b_len z_len (jra_cons (jr_var 3) (jra_nil)))) (ja_nil))) (by show blkC ["d", "base", "file", "script", "found", "readers", "at", "deed", "other", "k"] (defScope s__law_wrong_scripts) _ [("k", 9)] = true; decide +kernel) (fun s H C cl fp => jp_n 9 sc__law_wrong_scripts.nd) (by decide) (fun s H C cl fp => jtt_one (jnt_cmp (sim_ne (K := K)) (op_neP (hu64 hr)) (by rfl) (jr_ix (sim_ix (K := K)) ix_seq (jr_ix (sim_ix (K := K)) ix_seq (jr_var 3) (jr_var 9)) (jr_int)) (jr_str))) (fun s H C cl fp => j_var 9)) (jss_cons (js_if (jnt_cmp (sim_B0 (K := K)) op_gt (by rfl) (jr_callB (sim_len (K := K)) call_len b_len z_len (jra_cons (jr_var 5) (jra_nil))) (jr_int)) (jss_cons (js_expr (S := []) (k_meth K PySem.F.plainAttrs_list PySem.F.slot_list_append PySem.F.type_list_append (sim_append (K := K)) mt_append (jr_var 4) (ja_cons (jg (j_op (sim_add (K := K)) op_addP (jg (k_sl K (jg_var 3) (jo_none) (jo_some (j_r (jr_ix (sim_ix (K := K)) ix_seq (jr_var 5) (jr_un (sim_neg (K := K)) un_neg (jr_int))))))) (jg (k_sl K (jg_var 3) (jo_some (jn_op (sim_add (K := K)) op_addP (jr_ix (sim_ix (K := K)) ix_seq (jr_var 5) (jr_un (sim_neg (K := K)) un_neg (jr_int))) (jr_int))) (jo_none))))) (ja_nil)))) (jss_cons (js_set 6 sc__law_wrong_scripts.nd (k_fn K mg c__law_pick (hr.mono (by decide)) (takes_of rfl rfl rfl rfl) (ja_cons (jg_var 0) (ja_cons (jg_var 5) (ja_nil))))) (jss_cons (js_set 7 sc__law_wrong_scripts.nd (j_r (jr_ix (sim_ix (K := K)) ix_seq (jr_var 3) (jr_var 6)))) (jss_cons (js_set 8 sc__law_wrong_scripts.nd (jn_op (sim_I (K := K)) op_mod (jr_callTy (sim_int (K := K)) call_int1 b_int z_int (jra_cons (jr_op (sim_add (K := K)) op_addP (jr_ix (sim_ix (K := K)) ix_seq (jr_var 7) (jr_int)) (jr_int)) (jra_nil))) (jr_var 1))) (jss_cons (js_expr (S := []) (k_meth K PySem.F.plainAttrs_list PySem.F.slot_list_append PySem.F.type_list_append (sim_append (K := K)) mt_append (jr_var 4) (ja_cons (jg (j_op (sim_add (K := K)) op_addP (jg (j_op (sim_add (K := K)) op_addP (jg (k_sl K (jg_var 3) (jo_none) (jo_some (j_var 6)))) (jg (j_tup (ja_cons (jg (j_op (sim_add (K := K)) op_addP (jg (j_tup (ja_cons (jg (j_r (jr_ix (sim_ix (K := K)) ix_seq (jr_var 7) (jr_int)))) (ja_cons (jg (j_var 8)) (ja_nil))))) (jg (k_sl K (jg_var 7) (jo_some (j_int)) (jo_none))))) (ja_nil)))))) (jg (k_sl K (jg_var 3) (jo_some (jn_op (sim_add (K := K)) op_addP (jr_var 6) (jr_int))) (jo_none))))) (ja_nil)))) (jss_one (js_expr (S := []) (k_meth K PySem.F.plainAttrs_list PySem.F.slot_list_append PySem.F.type_list_append (sim_append (K := K)) mt_append (jr_var 4) (ja_cons (jg (j_op (sim_add (K := K)) op_addP (jg (j_op (sim_add (K := K)) op_addP (jg (k_sl K (jg_var 3) (jo_none) (jo_some (j_var 6)))) (jg (j_tup (ja_cons (jg (j_tup (ja_cons (jg (j_str)) (ja_cons (jg (j_r (jr_ix (sim_ix (K := K)) ix_seq (jr_var 7) (jr_int)))) (ja_cons (jg (j_r (jr_ix (sim_ix (K := K)) ix_seq (jr_var 7) (jr_int)))) (ja_nil)))))) (ja_nil)))))) (jg (k_sl K (jg_var 3) (jo_some (jn_op (sim_add (K := K)) op_addP (jr_var 6) (jr_int))) (jo_none))))) (ja_nil)))))))))) (jss_nil (S := []))) (jss_one (js_ret (S := []) (j_var 4)))))⟩) (by decide)
theorem sc__law_is_int : FnScope ["thing"] ["thing"] (defScope s__law_is_int) := ⟨rfl, rfl, rfl, by decide +kernel, rfl, by decide +kernel, by decide +kernel⟩
theorem ok__law_is_int {f : Addr} {fd : FuncData} (F : L2.Fun K "_law_is_int" "_law_is_int" s__law_is_int f fd) (hm : mg "_law_is_int" = some (.ref f)) (hb : Binds K fd ["thing"] []) (z_bool : mg "bool" = none) (z_int : mg "int" = none) (z_isinstance : mg "isinstance" = none) : Cal P w K mg base "_law_is_int" 2 1 m__law_is_int :=
  cal_of (k := 1) F hm hb sc__law_is_int rfl rfl (fun cdv A outer s H E hr => ⟨_, jss_one (js_ret (S := []) (j_and (jn_callB (sim_isi (K := K)) call_isi b_isinstance z_isinstance (jra_cons (jr_var 0) (jra_cons (jr_ty b_int z_int) (jra_nil)))) (j_one (j_not (jn_callB (sim_isi (K := K)) call_isi b_isinstance z_isinstance (jra_cons (jr_var 0) (jra_cons (jr_ty b_bool z_bool) (jra_nil))))))))⟩) (by decide)
theorem sc__law_same : FnScope ["one", "other", "k"] ["one", "other"] (defScope s__law_same) := ⟨rfl, rfl, rfl, by decide +kernel, rfl, by decide +kernel, by decide +kernel⟩
theorem ok__law_same {f : Addr} {fd : FuncData} (F : L2.Fun K "_law_same" "_law_same" s__law_same f fd) (hm : mg "_law_same" = some (.ref f)) (hb : Binds K fd ["one", "other"] []) (c__law_is_int : Cal P w K mg base "_law_is_int" 2 1 m__law_is_int) (z_bool : mg "bool" = none) (z_isinstance : mg "isinstance" = none) (z_len : mg "len" = none) (z_range : mg "range" = none) (z_str : mg "str" = none) (z_tuple : mg "tuple" = none) : ∀ n, Cal P w K mg base "_law_same" (2 + 1 + n) 2 (m__law_same n)
  | 0 => cal_bad F hm hb sc__law_same rfl
  | n + 1 => by
    have c__law_same := ok__law_same F hm hb c__law_is_int z_bool z_isinstance z_len z_range z_str z_tuple n
    exact cal_of (k := 2 + 1 + n) F hm hb sc__law_same rfl rfl (fun cdv A outer s H E hr => ⟨_, jss_cons (js_if (jt_val (jn_callB (sim_isi (K := K)) call_isi b_isinstance z_isinstance (jra_cons (jr_var 0) (jra_cons (jr_ty b_tuple z_tuple) (jra_nil))))) (jss_cons (js_if (JW.t (jw_or (jt_not (jt_val (jn_callB (sim_isi (K := K)) call_isi b_isinstance z_isinstance (jra_cons (jr_var 1) (jra_cons (jr_ty b_tuple z_tuple) (jra_nil)))))) (jw_or1 (jnt_cmp (sim_ne (K := K)) (op_neP (hu64 hr)) (by rfl) (jr_callB (sim_len (K := K)) call_len b_len z_len (jra_cons (jr_var 0) (jra_nil))) (jr_callB (sim_len (K := K)) call_len b_len z_len (jra_cons (jr_var 1) (jra_nil))))))) (jss_one (js_ret (S := []) (j_bl))) (jss_nil (S := []))) (jss_one (js_ret (S := []) (j_cmp (sim_eq (K := K)) (op_eqP (hu64 hr)) (by rfl) (jg (j_callB (sim_len (K := K)) call_len b_len z_len (ja_cons (jg (j_lc (own := [("k", 2)]) rfl sc__law_same.nd (ji_r1 z_range (ja_cons (jg (jn_callB (sim_len (K := K)) call_len b_len z_len (jra_cons (jr_var 0) (jra_nil)))) (ja_nil))) (by show blkC ["one", "other", "k"] (defScope s__law_same) _ [("k", 2)] = true; decide +kernel) (fun s H C cl fp => jp_n 2 sc__law_same.nd) (by decide) (fun s H C cl fp => jtt_one (jt_not (jt_val (k_fn K mg c__law_same (hr.mono (Nat.le_refl _)) takes0 (ja_cons (jg (j_r (jr_ix (sim_ix (K := K)) ix_seq (jr_var 0) (jr_var 2)))) (ja_cons (jg (j_r (jr_ix (sim_ix (K := K)) ix_seq (jr_var 1) (jr_var 2)))) (ja_nil))))))) (fun s H C cl fp => j_var 2))) (ja_nil)))) (jg (j_int)))))) (jss_nil (S := []))) (jss_cons (js_if (JW.t (jw_or (jt_val (jn_callB (sim_isi (K := K)) call_isi b_isinstance z_isinstance (jra_cons (jr_var 0) (jra_cons (jr_ty b_bool z_bool) (jra_nil))))) (jw_or (jnt_cmp (sim_isN (K := K)) op_isN (by rfl) (jr_var 0) (jr_non)) (jw_or1 (jt_val (jn_callB (sim_isi (K := K)) call_isi b_isinstance z_isinstance (jra_cons (jr_var 0) (jra_cons (jr_ty b_str z_str) (jra_nil))))))))) (jss_one (js_ret (S := []) (j_and (jn_cmp (sim_eq (K := K)) (op_eqP (hu64 hr)) (by rfl) (jr_callB (sim_isi (K := K)) call_isi b_isinstance z_isinstance (jra_cons (jr_var 0) (jra_cons (jr_ty b_bool z_bool) (jra_nil)))) (jr_callB (sim_isi (K := K)) call_isi b_isinstance z_isinstance (jra_cons (jr_var 1) (jra_cons (jr_ty b_bool z_bool) (jra_nil))))) (j_one (jn_cmp (sim_eq (K := K)) (op_eqP (hu64 hr)) (by rfl) (jr_var 0) (jr_var 1)))))) (jss_nil (S := []))) (jss_one (js_ret (S := []) (j_and (k_fn K mg c__law_is_int (hr.mono (by omega)) (takes_of rfl rfl rfl rfl) (ja_cons (jg_var 0) (ja_nil))) (j_and (k_fn K mg c__law_is_int (hr.mono (by omega)) (takes_of rfl rfl rfl rfl) (ja_cons (jg_var 1) (ja_nil))) (j_one (jn_cmp (sim_eq (K := K)) (op_eqP (hu64 hr)) (by rfl) (jr_var 0) (jr_var 1))))))))⟩) (by decide)
theorem sc_mended : FnScope ["file", "script", "made", "at", "deed"] ["file", "script"] (defScope s_mended) := ⟨rfl, rfl, rfl, by decide +kernel, rfl, by decide +kernel, by decide +kernel⟩
theorem ok_mended {f : Addr} {fd : FuncData} (F : L2.Fun K "mended" "mended" s_mended f fd) (hm : mg "mended" = some (.ref f)) (hb : Binds K fd ["file", "script"] []) (z_len : mg "len" = none) (z_tuple : mg "tuple" = none) {C_NoRun f_NoRun : Addr} (x_NoRun : PySem.SXE.SxTxt P K mg "NoRun" C_NoRun f_NoRun []) : Cal P w K mg base "mended" 2 2 m_mended :=
  cal_of (k := 1) F hm hb sc_mended rfl rfl (fun cdv A outer s H E hr => ⟨_, jss_cons (js_set 2 sc_mended.nd (j_lst (ja_nil))) (jss_cons (js_set 3 sc_mended.nd (j_int)) (jss_cons (k_forVS K (i := 1) (passes_of rfl) rfl (jr_var 1) (jp_n 4 sc_mended.nd) (jss_cons (js_if (jnt_cmp (sim_ne (K := K)) (op_neP (hu64 hr)) (by rfl) (jr_ix (sim_ix (K := K)) ix_seq (jr_var 4) (jr_int)) (jr_str)) (jss_cons (js_if (JW.t (jw_or (jnt_cmp (sim_B0 (K := K)) op_ge (by rfl) (jr_var 3) (jr_callB (sim_len (K := K)) call_len b_len z_len (jra_cons (jr_var 0) (jra_nil)))) (jw_or1 (jnt_cmp (sim_ne (K := K)) (op_neP (hu64 hr)) (by rfl) (jr_ix (sim_ix (K := K)) ix_seq (jr_var 0) (jr_var 3)) (jr_ix (sim_ix (K := K)) ix_seq (jr_var 4) (jr_int)))))) (jss_one (js_raise0 (k := 0) rfl (takes_of rfl rfl rfl rfl) x_NoRun (hr.mono (by decide)) rfl)) (jss_nil (S := []))) (jss_one (js_aug 3 (sim_addI (K := K)) ip_addP sc_mended.nd (j_int)))) (jss_nil (S := []))) (jss_cons (js_if (JW.t (jw_and (jnt_cmp (sim_eq (K := K)) (op_eqP (hu64 hr)) (by rfl) (jr_ix (sim_ix (K := K)) ix_seq (jr_var 4) (jr_int)) (jr_str)) (jw_and1 (jnt_cmp (sim_eq (K := K)) (op_eqP (hu64 hr)) (by rfl) (jr_ix (sim_ix (K := K)) ix_seq (jr_var 4) (jr_int)) (jr_ix (sim_ix (K := K)) ix_seq (jr_var 4) (jr_int)))))) (jss_one (js_raise0 (k := 0) rfl (takes_of rfl rfl rfl rfl) x_NoRun (hr.mono (by decide)) rfl)) (jss_nil (S := []))) (jss_one (js_if (jnt_cmp (sim_ne (K := K)) (op_neP (hu64 hr)) (by rfl) (jr_ix (sim_ix (K := K)) ix_seq (jr_var 4) (jr_int)) (jr_str)) (jss_one (js_expr (S := []) (k_meth K PySem.F.plainAttrs_list PySem.F.slot_list_append PySem.F.type_list_append (sim_append (K := K)) mt_append (jr_var 2) (ja_cons (jg (j_r (jr_ix (sim_ix (K := K)) ix_seq (jr_var 4) (jr_un (sim_neg (K := K)) un_neg (jr_int))))) (ja_nil))))) (jss_nil (S := []))))))) (jss_cons (js_if (jnt_cmp (sim_ne (K := K)) (op_neP (hu64 hr)) (by rfl) (jr_var 3) (jr_callB (sim_len (K := K)) call_len b_len z_len (jra_cons (jr_var 0) (jra_nil)))) (jss_one (js_raise0 (k := 0) rfl (takes_of rfl rfl rfl rfl) x_NoRun (hr.mono (by decide)) rfl)) (jss_nil (S := []))) (jss_one (js_ret (S := []) (jn_callTy (sim_tuple (K := K)) call_tuple_of b_tuple z_tuple (jra_cons (jr_var 2) (jra_nil))))))))⟩) (by decide)
theorem sc__law_made : FnScope ["script", "found", "deed"] ["script"] (defScope s__law_made) := ⟨rfl, rfl, rfl, by decide +kernel, rfl, by decide +kernel, by decide +kernel⟩
theorem ok__law_made {f : Addr} {fd : FuncData} (F : L2.Fun K "_law_made" "_law_made" s__law_made f fd) (hm : mg "_law_made" = some (.ref f)) (hb : Binds K fd ["script"] []) (z_tuple : mg "tuple" = none) : Cal P w K mg base "_law_made" 2 1 m__law_made :=
  cal_of (k := 1) F hm hb sc__law_made rfl rfl (fun cdv A outer s H E hr => ⟨_, jss_cons (js_set 1 sc__law_made.nd (j_lst (ja_nil))) (jss_cons (k_forVS K (i := 0) (passes_of rfl) rfl (jr_var 0) (jp_n 2 sc__law_made.nd) (jss_cons (js_if (jt_cmp (sim_in (K := K)) (op_inP (hu65 hr)) (by rfl) (jg (j_r (jr_ix (sim_ix (K := K)) ix_seq (jr_var 2) (jr_int)))) (jg (j_tup (ja_cons (jg (j_str)) (ja_cons (jg (j_str)) (ja_nil)))))) (jss_one (js_expr (S := []) (k_meth K PySem.F.plainAttrs_list PySem.F.slot_list_append PySem.F.type_list_append (sim_append (K := K)) mt_append (jr_var 1) (ja_cons (jg (j_r (jr_ix (sim_ix (K := K)) ix_seq (jr_var 2) (jr_int)))) (ja_nil))))) (jss_nil (S := []))) (jss_one (js_if (jnt_cmp (sim_eq (K := K)) (op_eqP (hu64 hr)) (by rfl) (jr_ix (sim_ix (K := K)) ix_seq (jr_var 2) (jr_int)) (jr_str)) (jss_one (js_expr (S := []) (k_meth K PySem.F.plainAttrs_list PySem.F.slot_list_append PySem.F.type_list_append (sim_append (K := K)) mt_append (jr_var 1) (ja_cons (jg (j_r (jr_ix (sim_ix (K := K)) ix_seq (jr_var 2) (jr_int)))) (ja_nil))))) (jss_nil (S := [])))))) (jss_one (js_ret (S := []) (jn_callTy (sim_tuple (K := K)) call_tuple_of b_tuple z_tuple (jra_cons (jr_var 1) (jra_nil))))))⟩) (by decide)
theorem sc__law_rare : FnScope ["d", "many"] ["d", "many"] (defScope s__law_rare) := ⟨rfl, rfl, rfl, by decide +kernel, rfl, by decide +kernel, by decide +kernel⟩
theorem ok__law_rare {f : Addr} {fd : FuncData} (F : L2.Fun K "_law_rare" "_law_rare" s__law_rare f fd) (hm : mg "_law_rare" = some (.ref f)) (hb : Binds K fd ["d", "many"] []) (c__law_draw : Cal P w K mg base "_law_draw" 2 2 m__law_draw) : Cal P w K mg base "_law_rare" 3 2 m__law_rare :=
  cal_of (k := 2) F hm hb sc__law_rare rfl rfl (fun cdv A outer s H E hr => ⟨_, jss_one (js_ret (S := []) (j_cmp (sim_eq (K := K)) (op_eqP (hu64 hr)) (by rfl) (jg (k_fn K mg c__law_draw (hr.mono (by decide)) (takes_of rfl rfl rfl rfl) (ja_cons (jg_var 0) (ja_cons (jg_var 1) (ja_nil))))) (jg (jn_op (sim_I (K := K)) op_fdiv (jr_var 1) (jr_int)))))⟩) (by decide)
theorem sc__law_script : FnScope ["d", "base", "file", "script", "cell", "k", "way"] ["d", "base", "file"] (defScope s__law_script) := ⟨rfl, rfl, rfl, by decide +kernel, rfl, by decide +kernel, by decide +kernel⟩
theorem ok__law_script {f : Addr} {fd : FuncData} (F : L2.Fun K "_law_script" "_law_script" s__law_script f fd) (hm : mg "_law_script" = some (.ref f)) (hb : Binds K fd ["d", "base", "file"] []) (c__law_rare : Cal P w K mg base "_law_rare" 3 2 m__law_rare) (c__law_draw : Cal P w K mg base "_law_draw" 2 2 m__law_draw) (z_int : mg "int" = none) (z_range : mg "range" = none) (z_tuple : mg "tuple" = none) : Cal P w K mg base "_law_script" 4 3 m__law_script :=
  cal_of (k := 3) F hm hb sc__law_script rfl rfl (fun cdv A outer s H E hr => ⟨_, jss_cons (js_set 3 sc__law_script.nd (j_lst (ja_nil))) (jss_cons (k_forVS K (i := 2) (passes_of rfl) rfl (jr_var 2) (jp_n 4 sc__law_script.nd) (jss_cons (js_if (jt_val (k_fn K mg c__law_rare (hr.mono (by decide)) (takes_of rfl rfl rfl rfl) (ja_cons (jg_var 0) (ja_cons (jg (j_int)) (ja_nil))))) (jss_one (js_expr (S := []) (k_meth K PySem.F.plainAttrs_list PySem.F.slot_list_append PySem.F.type_list_append (sim_append (K := K)) mt_append (jr_var 3) (ja_cons (jg (j_tup (ja_cons (jg (j_str)) (ja_cons (jg (k_fn K mg c__law_draw (hr.mono (by decide)) (takes_of rfl rfl rfl rfl) (ja_cons (jg_var 0) (ja_cons (jg_var 1) (ja_nil))))) (ja_nil))))) (ja_nil))))) (jss_nil (S := []))) (jss_cons (js_set 6 sc__law_script.nd (k_fn K mg c__law_draw (hr.mono (by decide)) (takes_of rfl rfl rfl rfl) (ja_cons (jg_var 0) (ja_cons (jg (j_int)) (ja_nil))))) (jss_one (js_if (jnt_cmp (sim_eq (K := K)) (op_eqP (hu64 hr)) (by rfl) (jr_var 6) (jr_int)) (jss_one (js_expr (S := []) (k_meth K PySem.F.plainAttrs_list PySem.F.slot_list_append PySem.F.type_list_append (sim_append (K := K)) mt_append (jr_var 3) (ja_cons (jg (j_tup (ja_cons (jg (j_str)) (ja_cons (jg (j_var 4)) (ja_nil))))) (ja_nil))))) (jss_one (js_if (jnt_cmp (sim_eq (K := K)) (op_eqP (hu64 hr)) (by rfl) (jr_var 6) (jr_int)) (jss_one (js_expr (S := []) (k_meth K PySem.F.plainAttrs_list PySem.F.slot_list_append PySem.F.type_list_append (sim_append (K := K)) mt_append (jr_var 3) (ja_cons (jg (j_tup (ja_cons (jg (j_str)) (ja_cons (jg (j_var 4)) (ja_cons (jg (j_op (sim_I (K := K)) op_mod (jg (j_callTy (sim_int (K := K)) call_int1 b_int z_int (ja_cons (jg (j_op (sim_add (K := K)) op_addP (jg (jn_op (sim_add (K := K)) op_addP (jr_var 4) (jr_int))) (jg (k_fn K mg c__law_draw (hr.mono (by decide)) (takes_of rfl rfl rfl rfl) (ja_cons (jg_var 0) (ja_cons (jg (jn_op (sim_I0 (K := K)) op_sub (jr_var 1) (jr_int))) (ja_nil))))))) (ja_nil)))) (jg_var 1))) (ja_nil)))))) (ja_nil))))) (jss_one (js_expr (S := []) (k_meth K PySem.F.plainAttrs_list PySem.F.slot_list_append PySem.F.type_list_append (sim_append (K := K)) mt_append (jr_var 3) (ja_cons (jg (j_tup (ja_cons (jg (j_str)) (ja_cons (jg (j_var 4)) (ja_nil))))) (ja_nil)))))))))))) (jss_cons (js_for (passes_of rfl) rfl (ji_r1 z_range (ja_cons (jg (k_fn K mg c__law_draw (hr.mono (by decide)) (takes_of rfl rfl rfl rfl) (ja_cons (jg_var 0) (ja_cons (jg (j_int)) (ja_nil))))) (ja_nil))) (jp_n 5 sc__law_script.nd) (jss_one (js_expr (S := []) (k_meth K PySem.F.plainAttrs_list PySem.F.slot_list_append PySem.F.type_list_append (sim_append (K := K)) mt_append (jr_var 3) (ja_cons (jg (j_tup (ja_cons (jg (j_str)) (ja_cons (jg (k_fn K mg c__law_draw (hr.mono (by decide)) (takes_of rfl rfl rfl rfl) (ja_cons (jg_var 0) (ja_cons (jg_var 1) (ja_nil))))) (ja_nil))))) (ja_nil)))))) (jss_one (js_ret (S := []) (jn_callTy (sim_tuple (K := K)) call_tuple_of b_tuple z_tuple (jra_cons (jr_var 3) (jra_nil)))))))⟩) (by decide)
theorem sc__law_no_run : FnScope ["file", "script", "e"] ["file", "script"] (defScope s__law_no_run) := ⟨rfl, rfl, rfl, by decide +kernel, rfl, by decide +kernel, by decide +kernel⟩
theorem ok__law_no_run {f : Addr} {fd : FuncData} (F : L2.Fun K "_law_no_run" "_law_no_run" s__law_no_run f fd) (hm : mg "_law_no_run" = some (.ref f)) (hb : Binds K fd ["file", "script"] []) (c_mended : Cal P w K mg base "mended" 2 2 m_mended) (z_isinstance : mg "isinstance" = none) (z_tuple : mg "tuple" = none) {D_FormatError : Addr} (g_FormatError : mg "FormatError" = some (.ref D_FormatError)) (tb_FormatError : TabOk K mg (.ref D_FormatError) t_FormatError) {D_NoRun : Addr} (g_NoRun : mg "NoRun" = some (.ref D_NoRun)) (tb_NoRun : TabOk K mg (.ref D_NoRun) t_NoRun) : Cal P w K mg base "_law_no_run" 3 2 m__law_no_run :=
  cal_of (k := 2) F hm hb sc__law_no_run rfl rfl (fun cdv A outer s H E hr => ⟨_, jss_one (k_try K mg (S := [2]) rfl rfl (takes_of rfl rfl rfl rfl) (fun W' pn xe tk' po' => jss_cons (js_expr (S := []) (k_fn K mg c_mended (hr.mono (by decide)) tk' (ja_cons (jg_var 0) (ja_cons (jg_var 1) (ja_nil))))) (jss_one (js_ret (S := []) (j_bl)))) (by decide) (jh_as 2 ⟨rfl, by decide, Or.inl g_NoRun⟩ tb_NoRun (fun a oe cls d pn => jss_one (js_ret (S := []) (jn_callB (sim_isi (K := K)) call_isi b_isinstance z_isinstance (jra_cons (jr_var 0) (jra_cons (jr_ty b_tuple z_tuple) (jra_nil)))))) (by decide) (by decide) (jh_as 2 ⟨rfl, by decide, Or.inl g_FormatError⟩ tb_FormatError (fun a oe cls d pn => jss_one (js_ret (S := []) (j_bl))) (by decide) (by decide) (jh_nil) sc__law_no_run.nd) sc__law_no_run.nd))⟩) (by decide)
theorem sc_law : FnScope ["script", "d", "base", "rows", "k", "kept", "file", "deeds", "wrong", "cell", "j"] ["script"] (defScope s_law) := ⟨rfl, rfl, rfl, by decide +kernel, rfl, by decide +kernel, by decide +kernel⟩
theorem ok_law {f : Addr} {fd : FuncData} (F : L2.Fun K "law" "law" s_law f fd) (c__law_begin : Cal P w K mg base "_law_begin" 2 1 m__law_begin) (c__law_draw : Cal P w K mg base "_law_draw" 2 2 m__law_draw) (c__law_script : Cal P w K mg base "_law_script" 4 3 m__law_script) (c__law_made : Cal P w K mg base "_law_made" 2 1 m__law_made) (c_mended : Cal P w K mg base "mended" 2 2 m_mended) (c__law_same : Cal P w K mg base "_law_same" 11 2 (m__law_same 8)) (c__law_wrong_scripts : Cal P w K mg base "_law_wrong_scripts" 4 4 m__law_wrong_scripts) (c__law_no_run : Cal P w K mg base "_law_no_run" 3 2 m__law_no_run) (z_range : mg "range" = none) (z_tuple : mg "tuple" = none) : FnOk P w K mg base (L2.CX P w) 12 f fd ["script"] (spF K mg 1 m_law) :=
  fnok_of (k := 11) F sc_law rfl rfl (fun cdv A outer s H E hr => ⟨_, jss_cons (js_set 1 sc_law.nd (k_fn K mg c__law_begin (hr.mono (by decide)) (takes_of rfl rfl rfl rfl) (ja_cons (jg_var 0) (ja_nil)))) (jss_cons (js_set 2 sc_law.nd (j_op (sim_add (K := K)) op_addP (jg (j_int)) (jg (k_fn K mg c__law_draw (hr.mono (by decide)) (takes_of rfl rfl rfl rfl) (ja_cons (jg_var 1) (ja_cons (jg (j_int)) (ja_nil))))))) (jss_cons (js_set 3 sc_law.nd (j_lst (ja_nil))) (jss_cons (js_for (passes_of rfl) rfl (ji_r1 z_range (ja_cons (jg (j_int)) (ja_nil))) (jp_n 4 sc_law.nd) (jss_cons (js_set 6 sc_law.nd (j_callTy (sim_tuple (K := K)) call_tuple_of b_tuple z_tuple (ja_cons (jg (j_lc (own := [("j", 10)]) rfl sc_law.nd (ji_r1 z_range (ja_cons (jg (k_fn K mg c__law_draw (hr.mono (by decide)) (takes_of rfl rfl rfl rfl) (ja_cons (jg_var 1) (ja_cons (jg (j_int)) (ja_nil))))) (ja_nil))) (by show blkC ["script", "d", "base", "rows", "k", "kept", "file", "deeds", "wrong", "cell", "j"] (defScope s_law) _ [("j", 10)] = true; decide +kernel) (fun s H C cl fp => jp_n 10 sc_law.nd) (by decide) (fun s H C cl fp => jtt_nil) (fun s H C cl fp => k_fn K mg c__law_draw (hr.mono (by decide)) takes0 (ja_cons (jg_var 1) (ja_cons (jg_var 2) (ja_nil)))))) (ja_nil)))) (jss_one (js_expr (S := []) (k_meth K PySem.F.plainAttrs_list PySem.F.slot_list_append PySem.F.type_list_append (sim_append (K := K)) mt_append (jr_var 3) (ja_cons (jg (j_tup (ja_cons (jg (j_var 6)) (ja_cons (jg (k_fn K mg c__law_script (hr.mono (by decide)) (takes_of rfl rfl rfl rfl) (ja_cons (jg_var 1) (ja_cons (jg_var 2) (ja_cons (jg_var 6) (ja_nil)))))) (ja_nil))))) (ja_nil))))))) (jss_cons (k_forVS K (i := 3) (passes_of rfl) rfl (jr_var 3) (k_t K rfl (jps_cons (jp_n 6 sc_law.nd) (jps_cons (jp_n 7 sc_law.nd) (jps_nil (S := []))))) (jss_cons (js_if (jt_not (jt_val (k_fn K mg c__law_same (hr.mono (by decide)) (takes_of rfl rfl rfl rfl) (ja_cons (jg (k_fn K mg c_mended (hr.mono (by decide)) (takes_of rfl rfl rfl rfl) (ja_cons (jg_var 6) (ja_cons (jg_var 7) (ja_nil))))) (ja_cons (jg (k_fn K mg c__law_made (hr.mono (by decide)) (takes_of rfl rfl rfl rfl) (ja_cons (jg_var 7) (ja_nil)))) (ja_nil)))))) (jss_one (js_ret (S := []) (j_bl))) (jss_nil (S := []))) (jss_one (js_for (passes_of rfl) rfl (k_s K (k_fn K mg c__law_wrong_scripts (hr.mono (by decide)) (takes_of rfl rfl rfl rfl) (ja_cons (jg_var 1) (ja_cons (jg_var 2) (ja_cons (jg_var 6) (ja_cons (jg_var 7) (ja_nil))))))) (jp_n 8 sc_law.nd) (jss_one (js_if (jt_not (jt_val (k_fn K mg c__law_no_run (hr.mono (by decide)) (takes_of rfl rfl rfl rfl) (ja_cons (jg_var 6) (ja_cons (jg_var 8) (ja_nil)))))) (jss_one (js_ret (S := []) (j_bl))) (jss_nil (S := [])))))))) (jss_cons (js_set 5 sc_law.nd (j_callTy (sim_tuple (K := K)) call_tuple_of b_tuple z_tuple (ja_cons (jg (j_lc (own := [("cell", 9)]) rfl sc_law.nd (k_s K (j_r (jr_ix (sim_ix (K := K)) ix_seq (jr_ix (sim_ix (K := K)) ix_seq (jr_var 3) (jr_int)) (jr_int)))) (by show blkC ["script", "d", "base", "rows", "k", "kept", "file", "deeds", "wrong", "cell", "j"] (defScope s_law) _ [("cell", 9)] = true; decide +kernel) (fun s H C cl fp => jp_n 9 sc_law.nd) (by decide) (fun s H C cl fp => jtt_nil) (fun s H C cl fp => j_tup (ja_cons (jg (j_str)) (ja_cons (jg (j_var 9)) (ja_nil)))))) (ja_nil)))) (jss_one (js_ret (S := []) (j_and (j_cmp (sim_eq (K := K)) (op_eqP (hu64 hr)) (by rfl) (jg (k_fn K mg c_mended (hr.mono (by decide)) (takes_of rfl rfl rfl rfl) (ja_cons (jg (j_r (jr_ix (sim_ix (K := K)) ix_seq (jr_ix (sim_ix (K := K)) ix_seq (jr_var 3) (jr_int)) (jr_int)))) (ja_cons (jg_var 5) (ja_nil))))) (jg (j_r (jr_ix (sim_ix (K := K)) ix_seq (jr_ix (sim_ix (K := K)) ix_seq (jr_var 3) (jr_int)) (jr_int))))) (j_one (j_cmp (sim_eq (K := K)) (op_eqP (hu64 hr)) (by rfl) (jg (k_fn K mg c_mended (hr.mono (by decide)) (takes_of rfl rfl rfl rfl) (ja_cons (jg (j_r (jr_ix (sim_ix (K := K)) ix_seq (jr_ix (sim_ix (K := K)) ix_seq (jr_var 3) (jr_int)) (jr_int)))) (ja_cons (jg (j_r (jr_ix (sim_ix (K := K)) ix_seq (jr_ix (sim_ix (K := K)) ix_seq (jr_var 3) (jr_int)) (jr_int)))) (ja_nil))))) (jg (k_fn K mg c__law_made (hr.mono (by decide)) (takes_of rfl rfl rfl rfl) (ja_cons (jg (j_r (jr_ix (sim_ix (K := K)) ix_seq (jr_ix (sim_ix (K := K)) ix_seq (jr_var 3) (jr_int)) (jr_int)))) (ja_nil))))))))))))))⟩) (by decide)
end
end K62

/-! the plain law of k62 -/
namespace K62
open PySem PySem.Spec L2 PVL
theorem e_draw : m__law_draw = mDraw := rfl
theorem e_isint : m__law_is_int = mIsInt := rfl
theorem e_begin : m__law_begin = mBegin := rfl
theorem e_pick : m__law_pick = mPick := rfl
theorem e_rare : m__law_rare = mRare := rfl
theorem e_same : ∀ n, m__law_same n = mSame n
  | 0 => rfl
  | n + 1 => by
    show fnM 2 3 [] (b_m__law_same n (m__law_same n)) = _
    rw [e_same n]
    rfl
inductive Deed where
  | put (v : Int) | keep (c : Int) | turn (c v : Int) | cut (c : Int)
def Deed.pv : Deed → PV
  | .put v => .tup [.str "put", .int v]
  | .keep c => .tup [.str "keep", .int c]
  | .turn c v => .tup [.str "turn", .int c, .int v]
  | .cut c => .tup [.str "cut", .int c]
/-- the run of a script: what is made, what is left -/
def run : List Deed → List Int → Option (List Int × List Int)
  | [], f => some ([], f)
  | .put v :: s, f => (run s f).map fun z => (v :: z.1, z.2)
  | .keep c :: s, x :: f => if x = c then (run s f).map fun z => (c :: z.1, z.2) else none
  | .turn c v :: s, x :: f => if x = c ∧ c ≠ v then (run s f).map fun z => (v :: z.1, z.2) else none
  | .cut c :: s, x :: f => if x = c then run s f else none
  | _ :: _, [] => none
@[simp] theorem kp : ¬ (("keep" : Str) = "put") := by decide
@[simp] theorem tp : ¬ (("turn" : Str) = "put") := by decide
@[simp] theorem cp : ¬ (("cut" : Str) = "put") := by decide
@[simp] theorem pt : ¬ (("put" : Str) = "turn") := by decide
@[simp] theorem kt : ¬ (("keep" : Str) = "turn") := by decide
@[simp] theorem ct : ¬ (("cut" : Str) = "turn") := by decide
@[simp] theorem pc : ¬ (("put" : Str) = "cut") := by decide
@[simp] theorem kc : ¬ (("keep" : Str) = "cut") := by decide
@[simp] theorem tc : ¬ (("turn" : Str) = "cut") := by decide
def bodyM : SM := (sSeq (sIf (bE (eN (rOp pNe (rOp pIx (rVar 4) (rC (.int 0))) (rC (.str "put"))))) (sSeq (sIf (bOr (bE (eN (rOp pGe (rVar 3) (rCl pLen (raCons (rVar 0) (raNil)))))) (bE (eN (rOp pNe (rOp pIx (rVar 0) (rVar 3)) (rOp pIx (rVar 4) (rC (.int 1))))))) (sRaise "NoRun" [] aNil) (sNil)) (sAug 3 pAddI (eC (.int 1)))) (sNil)) (sSeq (sIf (bAnd (bE (eN (rOp pEq (rOp pIx (rVar 4) (rC (.int 0))) (rC (.str "turn"))))) (bE (eN (rOp pEq (rOp pIx (rVar 4) (rC (.int 1))) (rOp pIx (rVar 4) (rC (.int 2))))))) (sRaise "NoRun" [] aNil) (sNil)) (sIf (bE (eN (rOp pNe (rOp pIx (rVar 4) (rC (.int 0))) (rC (.str "cut"))))) (sExpr (eMeth "list" 2 pAppend (aCons (gOwn (eR (rOp pIx (rVar 4) (rUn pNeg (rC (.int 1)))))) (aNil)))) (sNil))))
theorem at_last2 (x y : PV) : atI [x, y] (-1) = some y := by rw [at_neg _ _ (by decide) (by simp)]; rfl
theorem at_last3 (x y z : PV) : atI [x, y, z] (-1) = some z := by rw [at_neg _ _ (by decide) (by simp)]; rfl
theorem at_here (pre : List Int) (x : Int) (r : List Int) : atI ((pre ++ x :: r).map PV.int) (pre.length : Int) = some (.int x) := by
  rw [at_nat _ _ (by omega)]
  simp
/-- one deed that reads, upon the file pre ++ x :: r -/
theorem stepM (S : PV) (pre r : List Int) (x : Int) (acc : List PV) (ha : acc.length < 16777216) (d : Deed) (y : Option PV) (L : Int) (hL : (pre.length : Int) < L) (hlen : ((pre ++ x :: r).length : Int) = L) (n : Int) (hn : (pre.length : Int) = n) :
    bodyM [some (.tup ((pre ++ x :: r).map .int)), some S, some (.lst acc), some (.int n), some d.pv] = match d with
      | .put v => .next [some (.tup ((pre ++ x :: r).map .int)), some S, some (.lst (acc ++ [.int v])), some (.int n), some d.pv]
      | .keep c => if x = c then .next [some (.tup ((pre ++ x :: r).map .int)), some S, some (.lst (acc ++ [.int c])), some (.int (n + 1)), some d.pv] else .exc ⟨"NoRun", []⟩ [some (.tup ((pre ++ x :: r).map .int)), some S, some (.lst acc), some (.int n), some d.pv]
      | .turn c v => if x = c then (if c = v then .exc ⟨"NoRun", []⟩ [some (.tup ((pre ++ x :: r).map .int)), some S, some (.lst acc), some (.int (n + 1)), some d.pv] else .next [some (.tup ((pre ++ x :: r).map .int)), some S, some (.lst (acc ++ [.int v])), some (.int (n + 1)), some d.pv]) else .exc ⟨"NoRun", []⟩ [some (.tup ((pre ++ x :: r).map .int)), some S, some (.lst acc), some (.int n), some d.pv]
      | .cut c => if x = c then .next [some (.tup ((pre ++ x :: r).map .int)), some S, some (.lst acc), some (.int (n + 1)), some d.pv] else .exc ⟨"NoRun", []⟩ [some (.tup ((pre ++ x :: r).map .int)), some S, some (.lst acc), some (.int n), some d.pv] := by
  have hz : acc.length < sizeLine := by rw [sizeLine_eq]; exact ha
  have hat := at_here pre x r
  rw [hn] at hat hL
  have hlp : pLen [.tup ((pre ++ x :: r).map .int)] = some (.int L) := by rw [pLen_t, List.length_map, hlen]
  have hnl : ¬ L ≤ n := by omega
  generalize (pre ++ x :: r).map PV.int = F at *
  cases d with
  | put v => simp [bodyM, Deed.pv, at_last2, at_last3, hz]
  | keep c =>
    by_cases e : x = c
    · simp [bodyM, Deed.pv, at_last2, at_last3, hz, hlp, hat, hnl, e, -pLen_t]
    · simp [bodyM, Deed.pv, at_last2, at_last3, hz, hlp, hat, hnl, e, -pLen_t]
  | turn c v =>
    by_cases e : x = c
    · by_cases e2 : c = v
      · simp [bodyM, Deed.pv, at_last2, at_last3, hz, hlp, hat, hnl, e, e2, -pLen_t]
      · simp [bodyM, Deed.pv, at_last2, at_last3, hz, hlp, hat, hnl, e, e2, -pLen_t]
    · simp [bodyM, Deed.pv, at_last2, at_last3, hz, hlp, hat, hnl, e, -pLen_t]
  | cut c =>
    by_cases e : x = c
    · simp [bodyM, Deed.pv, at_last2, at_last3, hz, hlp, hat, hnl, e, -pLen_t]
    · simp [bodyM, Deed.pv, at_last2, at_last3, hz, hlp, hat, hnl, e, -pLen_t]
/-- one deed upon a file that is read to its end -/
theorem stepE (S : PV) (file : List Int) (acc : List PV) (ha : acc.length < 16777216) (d : Deed) (n : Int) (hlen : (file.length : Int) = n) :
    bodyM [some (.tup (file.map .int)), some S, some (.lst acc), some (.int n), some d.pv] = match d with
      | .put v => .next [some (.tup (file.map .int)), some S, some (.lst (acc ++ [.int v])), some (.int n), some d.pv]
      | _ => .exc ⟨"NoRun", []⟩ [some (.tup (file.map .int)), some S, some (.lst acc), some (.int n), some d.pv] := by
  have hz : acc.length < sizeLine := by rw [sizeLine_eq]; exact ha
  have hlp : pLen [.tup (file.map .int)] = some (.int n) := by rw [pLen_t, List.length_map, hlen]
  generalize file.map PV.int = F at *
  cases d <;> simp [bodyM, Deed.pv, at_last2, at_last3, hz, hlp, -pLen_t]
theorem tg4 (a b c d : Option PV) (y : Option PV) (x : PV) : tgN 4 x [a, b, c, d, y] = some [a, b, c, d, some x] := rfl
theorem loopM (S : PV) : ∀ (s : List Deed) (pre rest acc : List Int) (y : Option PV), acc.length + s.length < 16777216 →
    (∀ out lft, run s rest = some (out, lft) → ∃ y', forL (tgN 4) bodyM (s.map Deed.pv) [some (.tup ((pre ++ rest).map .int)), some S, some (.lst (acc.map .int)), some (.int pre.length), y] = .next [some (.tup ((pre ++ rest).map .int)), some S, some (.lst ((acc ++ out).map .int)), some (.int (((pre ++ rest).length : Int) - lft.length)), y']) ∧
    (run s rest = none → ∃ e, forL (tgN 4) bodyM (s.map Deed.pv) [some (.tup ((pre ++ rest).map .int)), some S, some (.lst (acc.map .int)), some (.int pre.length), y] = .exc ⟨"NoRun", []⟩ (some (.tup ((pre ++ rest).map .int)) :: some S :: e)) := by
  intro s
  induction s with
  | nil =>
    intro pre rest acc y _
    refine ⟨fun out lft h => ?_, fun h => ?_⟩
    · simp only [run, Option.some.injEq, Prod.mk.injEq] at h
      obtain ⟨rfl, rfl⟩ := h
      refine ⟨y, ?_⟩
      have e : ((pre ++ rest).length : Int) - rest.length = pre.length := by simp
      rw [e]
      simp
    · simp [run] at h
  | cons d s ih =>
    intro pre rest acc y hb
    have ha : (acc.map PV.int).length < 16777216 := by
      rw [List.length_map]
      simp only [List.length_cons] at hb
      omega
    rw [List.map_cons, forL_at (tg4 _ _ _ _ _ _)]
    have goPut : ∀ v, d = .put v → bodyM [some (.tup ((pre ++ rest).map .int)), some S, some (.lst (acc.map .int)), some (.int pre.length), some d.pv] = .next [some (.tup ((pre ++ rest).map .int)), some S, some (.lst ((acc ++ [v]).map .int)), some (.int pre.length), some d.pv] := by
      intro v e
      subst e
      cases rest with
      | nil =>
        rw [List.append_nil, stepE S pre _ ha _ _ rfl]
        simp
      | cons x r =>
        rw [stepM S pre r x _ ha _ none _ (by simp; omega) rfl _ rfl]
        simp
    have hb2 : ∀ v, (acc ++ [v]).length + s.length < 16777216 := fun v => by
      simp only [List.length_cons, List.length_append, List.length_nil] at hb ⊢
      omega
    have hb3 : acc.length + s.length < 16777216 := by
      simp only [List.length_cons] at hb
      omega
    cases d with
    | put v =>
      rw [goPut v rfl, loopK_next]
      obtain ⟨i1, i2⟩ := ih pre rest (acc ++ [v]) (some (Deed.put v).pv) (hb2 v)
      refine ⟨fun out lft h => ?_, fun h => ?_⟩
      · simp only [run, Option.map_eq_some_iff, Prod.mk.injEq, Prod.exists] at h
        obtain ⟨o2, l2, h1, rfl, rfl⟩ := h
        obtain ⟨y', h2⟩ := i1 _ _ h1
        exact ⟨y', by simpa using h2⟩
      · simp only [run, Option.map_eq_none_iff] at h
        exact i2 h
    | keep c =>
      cases rest with
      | nil =>
        rw [List.append_nil, stepE S pre _ ha _ _ rfl]
        simp only [loopK_exc]
        refine ⟨fun out lft h => ?_, fun h => ⟨_, rfl⟩⟩
        simp [run] at h
      | cons x r =>
        rw [stepM S pre r x _ ha _ none _ (by simp; omega) rfl _ rfl]
        by_cases e : x = c
        · subst e
          obtain ⟨i1, i2⟩ := ih (pre ++ [x]) r (acc ++ [x]) (some (Deed.keep x).pv) (hb2 x)
          simp only [List.append_assoc, List.singleton_append, List.length_append, List.length_cons, List.length_nil, List.map_append, List.map_cons, List.map_nil] at i1 i2
          simp only [if_true, loopK_next]
          refine ⟨fun out lft h => ?_, fun h => ?_⟩
          · simp only [run, if_true, Option.map_eq_some_iff, Prod.mk.injEq, Prod.exists] at h
            obtain ⟨o2, l2, h1, rfl, rfl⟩ := h
            obtain ⟨y', h2⟩ := i1 _ _ h1
            exact ⟨y', by simpa using h2⟩
          · simp only [run, if_true, Option.map_eq_none_iff] at h
            obtain ⟨e, h2⟩ := i2 h
            exact ⟨e, by simpa using h2⟩
        · simp only [if_neg e, loopK_exc]
          refine ⟨fun out lft h => ?_, fun h => ⟨_, rfl⟩⟩
          simp [run, e] at h
    | cut c =>
      cases rest with
      | nil =>
        rw [List.append_nil, stepE S pre _ ha _ _ rfl]
        simp only [loopK_exc]
        refine ⟨fun out lft h => ?_, fun h => ⟨_, rfl⟩⟩
        simp [run] at h
      | cons x r =>
        rw [stepM S pre r x _ ha _ none _ (by simp; omega) rfl _ rfl]
        by_cases e : x = c
        · subst e
          obtain ⟨i1, i2⟩ := ih (pre ++ [x]) r acc (some (Deed.cut x).pv) hb3
          simp only [List.append_assoc, List.singleton_append, List.length_append, List.length_cons, List.length_nil] at i1 i2
          simp only [if_true, loopK_next]
          refine ⟨fun out lft h => ?_, fun h => ?_⟩
          · simp only [run, if_true] at h
            obtain ⟨y', h2⟩ := i1 _ _ h
            exact ⟨y', by simpa using h2⟩
          · simp only [run, if_true] at h
            obtain ⟨e, h2⟩ := i2 h
            exact ⟨e, by simpa using h2⟩
        · simp only [if_neg e, loopK_exc]
          refine ⟨fun out lft h => ?_, fun h => ⟨_, rfl⟩⟩
          simp [run, e] at h
    | turn c v =>
      cases rest with
      | nil =>
        rw [List.append_nil, stepE S pre _ ha _ _ rfl]
        simp only [loopK_exc]
        refine ⟨fun out lft h => ?_, fun h => ⟨_, rfl⟩⟩
        simp [run] at h
      | cons x r =>
        rw [stepM S pre r x _ ha _ none _ (by simp; omega) rfl _ rfl]
        by_cases e : x = c
        · subst e
          by_cases e2 : x = v
          · simp only [if_pos e2, if_true, loopK_exc]
            refine ⟨fun out lft h => ?_, fun h => ⟨_, rfl⟩⟩
            simp [run, e2] at h
          · obtain ⟨i1, i2⟩ := ih (pre ++ [x]) r (acc ++ [v]) (some (Deed.turn x v).pv) (hb2 v)
            simp only [List.append_assoc, List.singleton_append, List.length_append, List.length_cons, List.length_nil, List.map_append, List.map_cons, List.map_nil] at i1 i2
            simp only [if_neg e2, if_true, loopK_next]
            refine ⟨fun out lft h => ?_, fun h => ?_⟩
            · simp only [run, ne_eq, e2, not_false_eq_true, and_self, if_true, Option.map_eq_some_iff, Prod.mk.injEq, Prod.exists] at h
              obtain ⟨o2, l2, h1, rfl, rfl⟩ := h
              obtain ⟨y', h2⟩ := i1 _ _ h1
              exact ⟨y', by simpa using h2⟩
            · simp only [run, ne_eq, e2, not_false_eq_true, and_self, if_true, Option.map_eq_none_iff] at h
              obtain ⟨e, h2⟩ := i2 h
              exact ⟨e, by simpa using h2⟩
        · simp only [if_neg e, loopK_exc]
          refine ⟨fun out lft h => ?_, fun h => ⟨_, rfl⟩⟩
          simp [run, e] at h
theorem imm_deeds (s : List Deed) : immL (s.map Deed.pv) = true := immL_map _ _ fun d _ => by cases d <;> rfl
abbrev filePV (f : List Int) : PV := .tup (f.map .int)
abbrev deedsPV (s : List Deed) : PV := .tup (s.map Deed.pv)
/-- what mended does -/
def good (s : List Deed) (f : List Int) : Option (List Int) := match run s f with
  | some (out, []) => some out
  | _ => none
theorem mended_ok (s : List Deed) (f out : List Int) (hs : s.length < 16777216) (h : good s f = some out) : m_mended [filePV f, deedsPV s] = .ok (filePV out) [some (filePV f), some (deedsPV s)] := by
  have hr : run s f = some (out, []) := by
    unfold good at h
    split at h
    · rename_i o e
      cases h
      exact e
    · cases h
  obtain ⟨y', e⟩ := (loopM (deedsPV s) s [] f [] none (by simpa using hs)).1 out [] hr
  unfold m_mended
  rw [fnM_at rfl]
  have e' : forL (tgN 4) bodyM (s.map Deed.pv) [some (.tup (f.map .int)), some (.tup (s.map Deed.pv)), some (.lst []), some (.int 0), none] = .next [some (.tup (f.map .int)), some (.tup (s.map Deed.pv)), some (.lst (out.map .int)), some (.int f.length), y'] := by simpa using e
  have hz : 0 ≤ sizeLine := Nat.zero_le _
  have hb : b_m_mended = sSeq (sAsg (eLst (aNil)) (tgN 2)) (sSeq (sAsg (eC (.int 0)) (tgN 3)) (sSeq (sForVS 1 (tgN 4) bodyM) (sSeq (sIf (bE (eN (rOp pNe (rVar 3) (rCl pLen (raCons (rVar 0) (raNil)))))) (sRaise "NoRun" [] aNil) (sNil)) (sRet (eN (rCl pTuple (raCons (rVar 2) (raNil)))))))) := rfl
  rw [hb]
  simp [imm_deeds, e']
theorem mended_no (s : List Deed) (f : List Int) (hs : s.length < 16777216) (h : good s f = none) : m_mended [filePV f, deedsPV s] = .exc ⟨"NoRun", []⟩ [some (filePV f), some (deedsPV s)] := by
  have hb : b_m_mended = sSeq (sAsg (eLst (aNil)) (tgN 2)) (sSeq (sAsg (eC (.int 0)) (tgN 3)) (sSeq (sForVS 1 (tgN 4) bodyM) (sSeq (sIf (bE (eN (rOp pNe (rVar 3) (rCl pLen (raCons (rVar 0) (raNil)))))) (sRaise "NoRun" [] aNil) (sNil)) (sRet (eN (rCl pTuple (raCons (rVar 2) (raNil)))))))) := rfl
  unfold m_mended
  rw [fnM_at rfl, hb]
  cases hr : run s f with
  | none =>
    obtain ⟨e, e'⟩ := (loopM (deedsPV s) s [] f [] none (by simpa using hs)).2 hr
    have e2 : forL (tgN 4) bodyM (s.map Deed.pv) [some (.tup (f.map .int)), some (.tup (s.map Deed.pv)), some (.lst []), some (.int 0), none] = .exc ⟨"NoRun", []⟩ (some (.tup (f.map .int)) :: some (.tup (s.map Deed.pv)) :: e) := by simpa using e'
    simp [imm_deeds, e2]
  | some z =>
    obtain ⟨out, lft⟩ := z
    cases lft with
    | nil => simp [good, hr] at h
    | cons x r =>
      obtain ⟨y', e⟩ := (loopM (deedsPV s) s [] f [] none (by simpa using hs)).1 out (x :: r) hr
      have e2 : forL (tgN 4) bodyM (s.map Deed.pv) [some (.tup (f.map .int)), some (.tup (s.map Deed.pv)), some (.lst []), some (.int 0), none] = .next [some (.tup (f.map .int)), some (.tup (s.map Deed.pv)), some (.lst (out.map .int)), some (.int (f.length - (r.length + 1))), y'] := by simpa using e
      have hne : ¬ (f.length : Int) - ((r.length : Int) + 1) = f.length := by omega
      simp [imm_deeds, e2, hne]
theorem no_run_ok (s : List Deed) (f : List Int) (hs : s.length < 16777216) (h : good s f = none) : m__law_no_run [filePV f, deedsPV s] = .ok (.bl true) [some (filePV f), some (deedsPV s)] := by
  unfold m__law_no_run
  rw [fnM_at rfl]
  have e := mended_no s f hs h
  have ht : t_NoRun.lookup ("NoRun" : Str) = some true := rfl
  simp [b_m__law_no_run, imm_deeds, e, pick, ht, slotN, noX, SO.map]
/-! the deeds that are drawn -/
def made : List Deed → List Int
  | [] => []
  | .put v :: s => v :: made s
  | .keep c :: s => c :: made s
  | .turn _ v :: s => v :: made s
  | .cut _ :: s => made s
def Deed.inR (base : Int) : Deed → Prop
  | .put v => 0 ≤ v ∧ v < base
  | .keep c => 0 ≤ c ∧ c < base
  | .turn c v => 0 ≤ c ∧ c < base ∧ 0 ≤ v ∧ v < base
  | .cut c => 0 ≤ c ∧ c < base
theorem run_app : ∀ (a b : List Deed) (f1 f2 o1 l1 : List Int), run a f1 = some (o1, l1) → run (a ++ b) (f1 ++ f2) = (run b (l1 ++ f2)).map fun z => (o1 ++ z.1, z.2) := by
  intro a
  induction a with
  | nil =>
    intro b f1 f2 o1 l1 h
    simp only [run, Option.some.injEq, Prod.mk.injEq] at h
    obtain ⟨rfl, rfl⟩ := h
    cases hb : run b (f1 ++ f2) <;> simp [hb]
  | cons d a ih =>
    intro b f1 f2 o1 l1 h
    cases d with
    | put v =>
      simp only [run, Option.map_eq_some_iff, Prod.mk.injEq, Prod.exists] at h
      obtain ⟨o2, l2, h1, rfl, rfl⟩ := h
      simp only [List.cons_append, run, ih b f1 f2 _ _ h1, Option.map_map]
      rfl
    | keep c =>
      cases f1 with
      | nil => simp [run] at h
      | cons x f =>
        by_cases e : x = c
        · subst e
          simp only [run, if_true, Option.map_eq_some_iff, Prod.mk.injEq, Prod.exists] at h
          obtain ⟨o2, l2, h1, rfl, rfl⟩ := h
          simp only [List.cons_append, run, if_true, ih b f f2 _ _ h1, Option.map_map]
          rfl
        · simp [run, e] at h
    | cut c =>
      cases f1 with
      | nil => simp [run] at h
      | cons x f =>
        by_cases e : x = c
        · subst e
          simp only [run, if_true] at h
          simp only [List.cons_append, run, if_true, ih b f f2 _ _ h]
        · simp [run, e] at h
    | turn c v =>
      cases f1 with
      | nil => simp [run] at h
      | cons x f =>
        by_cases e : x = c ∧ c ≠ v
        · simp only [run, if_pos e, Option.map_eq_some_iff, Prod.mk.injEq, Prod.exists] at h
          obtain ⟨o2, l2, h1, rfl, rfl⟩ := h
          simp only [List.cons_append, run, if_pos e, ih b f f2 _ _ h1, Option.map_map]
          rfl
        · simp only [run, if_neg e] at h
          cases h
theorem made_app : ∀ a b : List Deed, made (a ++ b) = made a ++ made b := by
  intro a b
  induction a with
  | nil => rfl
  | cons d a ih => cases d <;> simp [made, ih]
def bodyS : SM := sSeq (sIf (bE (eCall m__law_rare (aCons (gRef 0) (aCons (gOwn (eC (.int 4))) (aNil))))) (sExpr (eMeth "list" 3 pAppend (aCons (gOwn (eTup (aCons (gOwn (eC (.str "put"))) (aCons (gOwn (eCall m__law_draw (aCons (gRef 0) (aCons (gRef 1) (aNil))))) (aNil))))) (aNil)))) (sNil)) (sSeq (sAsg (eCall m__law_draw (aCons (gRef 0) (aCons (gOwn (eC (.int 3))) (aNil)))) (tgN 6)) (sIf (bE (eN (rOp pEq (rVar 6) (rC (.int 0))))) (sExpr (eMeth "list" 3 pAppend (aCons (gOwn (eTup (aCons (gOwn (eC (.str "keep"))) (aCons (gOwn (eVar 4)) (aNil))))) (aNil)))) (sIf (bE (eN (rOp pEq (rVar 6) (rC (.int 1))))) (sExpr (eMeth "list" 3 pAppend (aCons (gOwn (eTup (aCons (gOwn (eC (.str "turn"))) (aCons (gOwn (eVar 4)) (aCons (gOwn (eOp pMod (gOwn (eCl pInt (aCons (gOwn (eOp pAdd (gOwn (eN (rOp pAdd (rVar 4) (rC (.int 1))))) (gOwn (eCall m__law_draw (aCons (gRef 0) (aCons (gOwn (eN (rOp pSub (rVar 1) (rC (.int 1))))) (aNil))))))) (aNil)))) (gRef 1))) (aNil)))))) (aNil)))) (sExpr (eMeth "list" 3 pAppend (aCons (gOwn (eTup (aCons (gOwn (eC (.str "cut"))) (aCons (gOwn (eVar 4)) (aNil))))) (aNil)))))))
def bodyT : SM := sExpr (eMeth "list" 3 pAppend (aCons (gOwn (eTup (aCons (gOwn (eC (.str "put"))) (aCons (gOwn (eCall m__law_draw (aCons (gRef 0) (aCons (gRef 1) (aNil))))) (aNil))))) (aNil)))
def bodyD : SM := sSeq (sIf (bE (eOp pIn (gOwn (eR (rOp pIx (rVar 2) (rC (.int 0))))) (gOwn (eTup (aCons (gOwn (eC (.str "keep"))) (aCons (gOwn (eC (.str "put"))) (aNil))))))) (sExpr (eMeth "list" 1 pAppend (aCons (gOwn (eR (rOp pIx (rVar 2) (rC (.int 1))))) (aNil)))) (sNil)) (sIf (bE (eN (rOp pEq (rOp pIx (rVar 2) (rC (.int 0))) (rC (.str "turn"))))) (sExpr (eMeth "list" 1 pAppend (aCons (gOwn (eR (rOp pIx (rVar 2) (rC (.int 2))))) (aNil)))) (sNil))
theorem script_is : b_m__law_script = (sSeq (sAsg (eLst (aNil)) (tgN 3)) (sSeq (sForVS 2 (tgN 4) bodyS) (sSeq (sFor (itR1 (aCons (gOwn (eCall m__law_draw (aCons (gRef 0) (aCons (gOwn (eC (.int 3))) (aNil))))) (aNil))) (tgN 5) bodyT) (sRet (eN (rCl pTuple (raCons (rVar 3) (raNil)))))))) := rfl
theorem made_is : b_m__law_made = (sSeq (sAsg (eLst (aNil)) (tgN 1)) (sSeq (sForVS 0 (tgN 2) bodyD) (sRet (eN (rCl pTuple (raCons (rVar 1) (raNil))))))) := rfl
theorem stepD (S : PV) (acc : List PV) (ha : acc.length < 1000000) (d : Deed) : bodyD [some S, some (.lst acc), some d.pv] = .next [some S, some (.lst (acc ++ (made [d]).map .int)), some d.pv] := by
  cases d <;> simp [bodyD, Deed.pv, made, ha, pIn, inB, flatP, eqFl]
theorem loopD (S : PV) : ∀ (s : List Deed) (acc : List Int) (y : Option PV), acc.length + s.length < 1000000 → ∃ y', forL (tgN 2) bodyD (s.map Deed.pv) [some S, some (.lst (acc.map .int)), y] = .next [some S, some (.lst ((acc ++ made s).map .int)), y'] := by
  intro s
  induction s with
  | nil => intro acc y _; exact ⟨y, by simp [made]⟩
  | cons d s ih =>
    intro acc y h
    simp only [List.length_cons] at h
    have e1 : (made [d]).length ≤ 1 := by cases d <;> simp [made]
    obtain ⟨y', e⟩ := ih (acc ++ made [d]) (some d.pv) (by rw [List.length_append]; omega)
    refine ⟨y', ?_⟩
    rw [List.map_cons, forL_at (e := [some S, some (.lst (acc.map .int)), some d.pv]) rfl, stepD S _ (by rw [List.length_map]; omega) d, loopK_next, ← List.map_append, e]
    have : made (d :: s) = made [d] ++ made s := made_app [d] s
    rw [this, List.append_assoc]
theorem made_ok (s : List Deed) (hs : s.length < 1000000) : m__law_made [deedsPV s] = .ok (filePV (made s)) [some (deedsPV s)] := by
  obtain ⟨y', e⟩ := loopD (deedsPV s) s [] none (by simpa using hs)
  unfold m__law_made
  rw [fnM_at rfl, made_is]
  have e' : forL (tgN 2) bodyD (s.map Deed.pv) [some (.tup (s.map Deed.pv)), some (.lst []), none] = .next [some (.tup (s.map Deed.pv)), some (.lst ((made s).map .int)), y'] := by simpa using e
  simp [imm_deeds, e']
def bodyS1 : SM := sIf (bE (eCall m__law_rare (aCons (gRef 0) (aCons (gOwn (eC (.int 4))) (aNil))))) (sExpr (eMeth "list" 3 pAppend (aCons (gOwn (eTup (aCons (gOwn (eC (.str "put"))) (aCons (gOwn (eCall m__law_draw (aCons (gRef 0) (aCons (gRef 1) (aNil))))) (aNil))))) (aNil)))) (sNil)
def bodyS2 : SM := sSeq (sAsg (eCall m__law_draw (aCons (gRef 0) (aCons (gOwn (eC (.int 3))) (aNil)))) (tgN 6)) (sIf (bE (eN (rOp pEq (rVar 6) (rC (.int 0))))) (sExpr (eMeth "list" 3 pAppend (aCons (gOwn (eTup (aCons (gOwn (eC (.str "keep"))) (aCons (gOwn (eVar 4)) (aNil))))) (aNil)))) (sIf (bE (eN (rOp pEq (rVar 6) (rC (.int 1))))) (sExpr (eMeth "list" 3 pAppend (aCons (gOwn (eTup (aCons (gOwn (eC (.str "turn"))) (aCons (gOwn (eVar 4)) (aCons (gOwn (eOp pMod (gOwn (eCl pInt (aCons (gOwn (eOp pAdd (gOwn (eN (rOp pAdd (rVar 4) (rC (.int 1))))) (gOwn (eCall m__law_draw (aCons (gRef 0) (aCons (gOwn (eN (rOp pSub (rVar 1) (rC (.int 1))))) (aNil))))))) (aNil)))) (gRef 1))) (aNil)))))) (aNil)))) (sExpr (eMeth "list" 3 pAppend (aCons (gOwn (eTup (aCons (gOwn (eC (.str "cut"))) (aCons (gOwn (eVar 4)) (aNil))))) (aNil))))))
theorem bodyS_is : bodyS = sSeq bodyS1 bodyS2 := rfl
theorem stepS1 (d : Dr) (base c : Int) (S : PV) (acc : List PV) (ha : acc.length < 900000) (y5 y6 : Option PV) (hb : 2 ≤ base) (hb2 : base < 100) :
    ∃ (s1 : List Deed) (d' : Dr), bodyS1 [some d.pv, some (.int base), some S, some (.lst acc), some (.int c), y5, y6] = .next [some d'.pv, some (.int base), some S, some (.lst (acc ++ s1.map Deed.pv)), some (.int c), y5, y6] ∧
      run s1 [] = some (made s1, []) ∧ (∀ x ∈ s1, x.inR base) ∧ s1.length ≤ 1 := by
  obtain ⟨b, d1, e1⟩ := rare_ok d 4 (by decide) (by decide)
  rw [← e_rare] at e1
  cases b with
  | false => exact ⟨[], d1, by simp [bodyS1, e1], rfl, by simp, by simp⟩
  | true =>
    obtain ⟨r, d2, e2, r0, r1⟩ := draw_ok d1 base (by omega) (by omega)
    rw [← e_draw] at e2
    have hz : acc.length < 1000000 := by omega
    exact ⟨[.put r], d2, by simp [bodyS1, e1, e2, hz, Deed.pv], rfl, by simp [Deed.inR, r0, r1], by simp⟩
theorem stepS2 (d : Dr) (base c : Int) (S : PV) (acc : List PV) (ha : acc.length < 900000) (y5 y6 : Option PV) (hb : 2 ≤ base) (hb2 : base < 100) (hc : 0 ≤ c ∧ c < base) :
    ∃ (s1 : List Deed) (d' : Dr) (y6' : Option PV), bodyS2 [some d.pv, some (.int base), some S, some (.lst acc), some (.int c), y5, y6] = .next [some d'.pv, some (.int base), some S, some (.lst (acc ++ s1.map Deed.pv)), some (.int c), y5, y6'] ∧
      run s1 [c] = some (made s1, []) ∧ (∀ x ∈ s1, x.inR base) ∧ s1.length ≤ 1 := by
  obtain ⟨w, d1, e1, w0, w1⟩ := draw_ok d 3 (by decide) (by decide)
  rw [← e_draw] at e1
  have hz : acc.length < 1000000 := by omega
  by_cases hw0 : w = 0
  · subst hw0
    exact ⟨[.keep c], d1, some (.int 0), by simp [bodyS2, e1, hz, Deed.pv], by simp [run, made], by simp [Deed.inR, hc], by simp⟩
  · by_cases hw1 : w = 1
    · subst hw1
      obtain ⟨r, d2, e2, r0, r1⟩ := draw_ok d1 (base - 1) (by omega) (by omega)
      rw [← e_draw] at e2
      have hne : ¬ c = (c + 1 + r) % base := by
        intro h
        have h1 : (c + 1 + r) % base = (c + 1 + r) - base * ((c + 1 + r) / base) := by
          have := Int.emod_add_mul_ediv (c + 1 + r) base
          omega
        have q0 : 0 ≤ (c + 1 + r) / base := Int.ediv_nonneg (by omega) (by omega)
        have q1 : (c + 1 + r) / base < 2 := Int.ediv_lt_of_lt_mul (by omega) (by omega)
        have q : (c + 1 + r) / base = 0 ∨ (c + 1 + r) / base = 1 := by omega
        rcases q with q | q <;> rw [q] at h1 <;> omega
      have hr : 0 ≤ (c + 1 + r) % base ∧ (c + 1 + r) % base < base := ⟨Int.emod_nonneg _ (by omega), Int.emod_lt_of_pos _ (by omega)⟩
      have hp : 0 < base := by omega
      exact ⟨[.turn c ((c + 1 + r) % base)], d2, some (.int 1), by simp [bodyS2, e1, e2, hz, Deed.pv, hp], by simp [run, made, hne], by simp [Deed.inR, hc, hr], by simp⟩
    · exact ⟨[.cut c], d1, some (.int w), by simp [bodyS2, e1, hz, Deed.pv, hw0, hw1], by simp [run, made], by simp [Deed.inR, hc], by simp⟩
theorem stepS (d : Dr) (base c : Int) (S : PV) (acc : List PV) (ha : acc.length < 800000) (y5 y6 : Option PV) (hb : 2 ≤ base) (hb2 : base < 100) (hc : 0 ≤ c ∧ c < base) :
    ∃ (s1 : List Deed) (d' : Dr) (y6' : Option PV), bodyS [some d.pv, some (.int base), some S, some (.lst acc), some (.int c), y5, y6] = .next [some d'.pv, some (.int base), some S, some (.lst (acc ++ s1.map Deed.pv)), some (.int c), y5, y6'] ∧
      run s1 [c] = some (made s1, []) ∧ (∀ x ∈ s1, x.inR base) ∧ s1.length ≤ 2 := by
  obtain ⟨a, d1, e1, r1, i1, l1⟩ := stepS1 d base c S acc (by omega) y5 y6 hb hb2
  obtain ⟨b, d2, y', e2, r2, i2, l2⟩ := stepS2 d1 base c S (acc ++ a.map Deed.pv) (by rw [List.length_append, List.length_map]; omega) y5 y6 hb hb2 hc
  refine ⟨a ++ b, d2, y', ?_, ?_, ?_, ?_⟩
  · rw [bodyS_is, sSeq_ap, e1, andThen_next, e2, List.map_append, List.append_assoc]
  · have := run_app a b [] [c] _ _ r1
    rw [List.nil_append, r2] at this
    rw [this, made_app]
    rfl
  · intro x hx
    rcases List.mem_append.mp hx with h | h
    · exact i1 x h
    · exact i2 x h
  · rw [List.length_append]; omega
theorem loopS (base : Int) (S : PV) (y5 : Option PV) (hb : 2 ≤ base) (hb2 : base < 100) : ∀ (f : List Int) (d : Dr) (acc : List PV) (y4 y6 : Option PV), (∀ c ∈ f, 0 ≤ c ∧ c < base) → acc.length + 2 * f.length < 700000 →
    ∃ (s : List Deed) (d' : Dr) (y4' y6' : Option PV), forL (tgN 4) bodyS (f.map .int) [some d.pv, some (.int base), some S, some (.lst acc), y4, y5, y6] = .next [some d'.pv, some (.int base), some S, some (.lst (acc ++ s.map Deed.pv)), y4', y5, y6'] ∧
      run s f = some (made s, []) ∧ (∀ x ∈ s, x.inR base) ∧ s.length ≤ 2 * f.length := by
  intro f
  induction f with
  | nil => intro d acc y4 y6 _ _; exact ⟨[], d, y4, y6, by simp, rfl, by simp, by simp⟩
  | cons c f ih =>
    intro d acc y4 y6 hf hl
    simp only [List.length_cons] at hl
    obtain ⟨a, d1, z6, e1, r1, i1, l1⟩ := stepS d base c S acc (by omega) y5 y6 hb hb2 (hf c (List.mem_cons_self ..))
    obtain ⟨b, d2, z4, z6', e2, r2, i2, l2⟩ := ih d1 (acc ++ a.map Deed.pv) (some (.int c)) z6 (fun x hx => hf x (List.mem_cons_of_mem _ hx)) (by rw [List.length_append, List.length_map]; omega)
    refine ⟨a ++ b, d2, z4, z6', ?_, ?_, ?_, ?_⟩
    · rw [List.map_cons, forL_at (e := [some d.pv, some (.int base), some S, some (.lst acc), some (.int c), y5, y6]) rfl, e1, loopK_next, e2, List.map_append, List.append_assoc]
    · have := run_app a b [c] f _ _ r1
      rw [List.nil_append, List.singleton_append, r2] at this
      rw [this, made_app]
      rfl
    · intro x hx
      rcases List.mem_append.mp hx with h | h
      · exact i1 x h
      · exact i2 x h
    · rw [List.length_append]; simp only [List.length_cons]; omega
theorem loopT (base : Int) (S y4 y6 : Option PV) (hb : 2 ≤ base) (hb2 : base < 100) : ∀ (l : List PV) (d : Dr) (acc : List PV) (y5 : Option PV), acc.length + l.length < 900000 →
    ∃ (s : List Deed) (d' : Dr) (y5' : Option PV), forL (tgN 5) bodyT l [some d.pv, some (.int base), S, some (.lst acc), y4, y5, y6] = .next [some d'.pv, some (.int base), S, some (.lst (acc ++ s.map Deed.pv)), y4, y5', y6] ∧
      run s [] = some (made s, []) ∧ (∀ x ∈ s, x.inR base) ∧ s.length ≤ l.length := by
  intro l
  induction l with
  | nil => intro d acc y5 _; exact ⟨[], d, y5, by simp, rfl, by simp, by simp⟩
  | cons x l ih =>
    intro d acc y5 hl
    simp only [List.length_cons] at hl
    obtain ⟨r, d1, e1, r0, r1⟩ := draw_ok d base (by omega) (by omega)
    rw [← e_draw] at e1
    have hz : acc.length < 1000000 := by omega
    have step : bodyT [some d.pv, some (.int base), S, some (.lst acc), y4, some x, y6] = .next [some d1.pv, some (.int base), S, some (.lst (acc ++ [(Deed.put r).pv])), y4, some x, y6] := by
      simp [bodyT, e1, hz, Deed.pv]
    obtain ⟨b, d2, z5, e2, r2, i2, l2⟩ := ih d1 (acc ++ [(Deed.put r).pv]) (some x) (by rw [List.length_append]; simp only [List.length_cons, List.length_nil]; omega)
    refine ⟨.put r :: b, d2, z5, ?_, ?_, ?_, ?_⟩
    · rw [forL_at (e := [some d.pv, some (.int base), S, some (.lst acc), y4, some x, y6]) rfl, step, loopK_next, e2, List.append_assoc]
      rfl
    · simp [run, r2, made]
    · intro z hz
      rcases List.mem_cons.mp hz with h | h
      · rw [h]; exact ⟨r0, r1⟩
      · exact i2 z h
    · simp only [List.length_cons]; omega
theorem script_ok (d : Dr) (base : Int) (f : List Int) (hb : 2 ≤ base) (hb2 : base < 100) (hf : ∀ c ∈ f, 0 ≤ c ∧ c < base) (hl : f.length ≤ 1000) :
    ∃ (s : List Deed) (d' : Dr), m__law_script [d.pv, .int base, filePV f] = .ok (deedsPV s) [some d'.pv, some (.int base), some (filePV f)] ∧ run s f = some (made s, []) ∧ (∀ x ∈ s, x.inR base) ∧ s.length ≤ 2 * f.length + 3 := by
  obtain ⟨a, d1, z4, z6, e1, r1, i1, l1⟩ := loopS base (filePV f) none hb hb2 f d [] none none hf (by simp; omega)
  obtain ⟨w, d2, e2, w0, w1⟩ := draw_ok d1 3 (by decide) (by decide)
  rw [← e_draw] at e2
  have hw : rngOk w := rngOk_of (by omega) (by omega)
  have hlen : (rngL 0 w.toNat).length ≤ 3 := by rw [ints_len]; omega
  obtain ⟨b, d3, z5, e3, r3, i3, l3⟩ := loopT base (some (filePV f)) z4 z6 hb hb2 (rngL 0 w.toNat) d2 (a.map Deed.pv) none (by rw [List.length_map]; omega)
  refine ⟨a ++ b, d3, ?_, ?_, ?_, ?_⟩
  · unfold m__law_script
    rw [fnM_at rfl, script_is]
    have e1' : forL (tgN 4) bodyS (f.map .int) [some d.pv, some (.int base), some (.tup (f.map .int)), some (.lst []), none, none, none] = .next [some d1.pv, some (.int base), some (.tup (f.map .int)), some (.lst (a.map Deed.pv)), z4, none, z6] := by simpa using e1
    have e3' : forL (tgN 5) bodyT (rngL 0 w.toNat) [some d2.pv, some (.int base), some (.tup (f.map .int)), some (.lst (a.map Deed.pv)), z4, none, z6] = .next [some d3.pv, some (.int base), some (.tup (f.map .int)), some (.lst (a.map Deed.pv ++ b.map Deed.pv)), z4, z5, z6] := e3
    simp [e1', e2, hw, e3', imm_deeds]
  · have := run_app a b f [] _ _ r1
    rw [List.append_nil, List.append_nil, r3] at this
    rw [this, made_app]
    rfl
  · intro x hx
    rcases List.mem_append.mp hx with h | h
    · exact i1 x h
    · exact i3 x h
  · rw [List.length_append]; omega
/-! the wrong scripts -/
def Deed.reads : Deed → Bool
  | .put _ => false
  | _ => true
def Deed.cell : Deed → Int
  | .put _ => 0
  | .keep c => c
  | .turn c _ => c
  | .cut c => c
def Deed.withCell (o : Int) : Deed → Deed
  | .put v => .put v
  | .keep _ => .keep o
  | .turn _ v => .turn o v
  | .cut _ => .cut o
def nreads : List Deed → Nat
  | [] => 0
  | d :: s => (if d.reads = true then 1 else 0) + nreads s
theorem nreads_app (a b : List Deed) : nreads (a ++ b) = nreads a + nreads b := by
  induction a with
  | nil => simp [nreads]
  | cons d a ih => simp [nreads, ih]; omega
theorem run_reads : ∀ (s : List Deed) (f o l : List Int), run s f = some (o, l) → nreads s + l.length = f.length := by
  intro s
  induction s with
  | nil =>
    intro f o l h
    simp only [run, Option.some.injEq, Prod.mk.injEq] at h
    obtain ⟨rfl, rfl⟩ := h
    simp [nreads]
  | cons d s ih =>
    intro f o l h
    cases d with
    | put v =>
      simp only [run, Option.map_eq_some_iff, Prod.mk.injEq, Prod.exists] at h
      obtain ⟨o2, l2, h1, rfl, rfl⟩ := h
      have := ih _ _ _ h1
      simp [nreads, Deed.reads, this]
    | keep c =>
      cases f with
      | nil => simp [run] at h
      | cons x f =>
        by_cases e : x = c
        · simp only [run, if_pos e, Option.map_eq_some_iff, Prod.mk.injEq, Prod.exists] at h
          obtain ⟨o2, l2, h1, rfl, rfl⟩ := h
          have := ih _ _ _ h1
          simp only [nreads, Deed.reads, if_true, List.length_cons]
          omega
        · simp only [run, if_neg e] at h
          cases h
    | cut c =>
      cases f with
      | nil => simp [run] at h
      | cons x f =>
        by_cases e : x = c
        · simp only [run, if_pos e] at h
          have := ih _ _ _ h
          simp only [nreads, Deed.reads, if_true, List.length_cons]
          omega
        · simp only [run, if_neg e] at h
          cases h
    | turn c v =>
      cases f with
      | nil => simp [run] at h
      | cons x f =>
        by_cases e : x = c ∧ c ≠ v
        · simp only [run, if_pos e, Option.map_eq_some_iff, Prod.mk.injEq, Prod.exists] at h
          obtain ⟨o2, l2, h1, rfl, rfl⟩ := h
          have := ih _ _ _ h1
          simp only [nreads, Deed.reads, if_true, List.length_cons]
          omega
        · simp only [run, if_neg e] at h
          cases h
theorem run_none_app : ∀ (a b : List Deed) (f : List Int), run a f = none → run (a ++ b) f = none := by
  intro a
  induction a with
  | nil => intro b f h; simp [run] at h
  | cons d a ih =>
    intro b f h
    cases d with
    | put v =>
      simp only [run, Option.map_eq_none_iff] at h
      simp only [List.cons_append, run, ih b f h, Option.map_none]
    | keep c =>
      cases f with
      | nil => rfl
      | cons x f =>
        by_cases e : x = c
        · simp only [run, if_pos e, Option.map_eq_none_iff] at h
          simp only [List.cons_append, run, if_pos e, ih b f h, Option.map_none]
        · simp only [List.cons_append, run, if_neg e]
    | cut c =>
      cases f with
      | nil => rfl
      | cons x f =>
        by_cases e : x = c
        · simp only [run, if_pos e] at h
          simp only [List.cons_append, run, if_pos e, ih b f h]
        · simp only [List.cons_append, run, if_neg e]
    | turn c v =>
      cases f with
      | nil => rfl
      | cons x f =>
        by_cases e : x = c ∧ c ≠ v
        · simp only [run, if_pos e, Option.map_eq_none_iff] at h
          simp only [List.cons_append, run, if_pos e, ih b f h, Option.map_none]
        · simp only [List.cons_append, run, if_neg e]
theorem good_none {s : List Deed} {f : List Int} (h : run s f = none) : good s f = none := by simp [good, h]
/-- what is left where a reader stands begins with its cell -/
theorem run_head {x : Deed} {s : List Deed} {f o l : List Int} (hx : x.reads = true) (h : run (x :: s) f = some (o, l)) : ∃ f', f = x.cell :: f' := by
  cases x with
  | put v => cases hx
  | keep c =>
    cases f with
    | nil => simp [run] at h
    | cons y f =>
      by_cases e : y = c
      · exact ⟨f, by rw [e]; rfl⟩
      · simp [run, e] at h
  | cut c =>
    cases f with
    | nil => simp [run] at h
    | cons y f =>
      by_cases e : y = c
      · exact ⟨f, by rw [e]; rfl⟩
      · simp [run, e] at h
  | turn c v =>
    cases f with
    | nil => simp [run] at h
    | cons y f =>
      by_cases e : y = c
      · exact ⟨f, by rw [e]; rfl⟩
      · have : ¬ (y = c ∧ c ≠ v) := fun z => e z.1
        simp only [run, if_neg this] at h
        cases h
theorem run_other {y : Deed} {s : List Deed} {c : Int} {f : List Int} (hy : y.reads = true) (h : y.cell ≠ c) : run (y :: s) (c :: f) = none := by
  cases y with
  | put v => cases hy
  | keep z => exact if_neg fun e => h e.symm
  | cut z => exact if_neg fun e => h e.symm
  | turn z v => exact if_neg fun e => h e.1.symm
section
variable {pre post : List Deed} {x : Deed} {f o : List Int}
theorem wrong_end (h : run pre f = some (o, [])) (y : Deed) (hy : y.reads = true) : good (pre ++ [y]) f = none := by
  refine good_none ?_
  have := run_app pre [y] f [] _ _ h
  rw [List.append_nil, List.append_nil] at this
  rw [this]
  cases y with
  | put v => cases hy
  | _ => rfl
theorem wrong_less (h : run (pre ++ x :: post) f = some (o, [])) (hx : x.reads = true) : good (pre ++ post) f = none := by
  cases hr : run (pre ++ post) f with
  | none => exact good_none hr
  | some z =>
    obtain ⟨o2, l⟩ := z
    have h1 := run_reads _ _ _ _ h
    have h2 := run_reads _ _ _ _ hr
    rw [nreads_app] at h1 h2
    simp only [nreads, hx, if_true, List.length_nil] at h1
    cases l with
    | nil => simp only [List.length_nil] at h2; omega
    | cons a l => simp [good, hr]
theorem wrong_at (h : run (pre ++ x :: post) f = some (o, [])) (hx : x.reads = true) (y : Deed) (hy : ∀ f', run (y :: post) (x.cell :: f') = none) : good (pre ++ y :: post) f = none := by
  refine good_none ?_
  cases hp : run pre f with
  | none => rw [run_none_app _ _ _ hp] at h; cases h
  | some z =>
    obtain ⟨o1, l1⟩ := z
    have e1 := run_app pre (x :: post) f [] _ _ hp
    have e2 := run_app pre (y :: post) f [] _ _ hp
    rw [List.append_nil, List.append_nil] at e1 e2
    rw [h] at e1
    cases hq : run (x :: post) l1 with
    | none => rw [hq] at e1; cases e1
    | some q =>
      obtain ⟨q1, q2⟩ := q
      obtain ⟨f', rfl⟩ := run_head hx hq
      rw [e2, hy]
      rfl
end
theorem cut_take {α : Type} (xs : List α) (k : Nat) (h : k ≤ xs.length) : pcut xs none (some (k : Int)) = xs.take k := by
  unfold pcut
  rw [HT.sIx_none, HT.sIx_nat]
  simp [Nat.min_eq_left h]
theorem cut_drop {α : Type} (xs : List α) (k : Nat) (h : k ≤ xs.length) : pcut xs (some (k : Int)) none = xs.drop k := by
  unfold pcut
  rw [HT.sIx_none, HT.sIx_nat, Nat.min_eq_left h]
  rw [List.take_of_length_le]
  simp
theorem rng0 (n : Nat) : rngL 0 n = (List.range n).map fun k => PV.int (k : Nat) := by simp [rngL]
def condW : BM := bE (eN (rOp pNe (rOp pIx (rOp pIx (rVar 3) (rVar 9)) (rC (.int 0))) (rC (.str "put"))))
def bodyW3 : SM := sIf (bE (eN (rOp pGt (rCl pLen (raCons (rVar 5) (raNil))) (rC (.int 0))))) (sSeq (sExpr (eMeth "list" 4 pAppend (aCons (gOwn (eOp pAdd (gOwn (eSl pSl (gRef 3) (oNone) (oSome (eR (rOp pIx (rVar 5) (rUn pNeg (rC (.int 1)))))))) (gOwn (eSl pSl (gRef 3) (oSome (eN (rOp pAdd (rOp pIx (rVar 5) (rUn pNeg (rC (.int 1)))) (rC (.int 1))))) (oNone))))) (aNil)))) (sSeq (sAsg (eCall m__law_pick (aCons (gRef 0) (aCons (gRef 5) (aNil)))) (tgN 6)) (sSeq (sAsg (eR (rOp pIx (rVar 3) (rVar 6))) (tgN 7)) (sSeq (sAsg (eN (rOp pMod (rCl pInt (raCons (rOp pAdd (rOp pIx (rVar 7) (rC (.int 1))) (rC (.int 1))) (raNil))) (rVar 1))) (tgN 8)) (sSeq (sExpr (eMeth "list" 4 pAppend (aCons (gOwn (eOp pAdd (gOwn (eOp pAdd (gOwn (eSl pSl (gRef 3) (oNone) (oSome (eVar 6)))) (gOwn (eTup (aCons (gOwn (eOp pAdd (gOwn (eTup (aCons (gOwn (eR (rOp pIx (rVar 7) (rC (.int 0))))) (aCons (gOwn (eVar 8)) (aNil))))) (gOwn (eSl pSl (gRef 7) (oSome (eC (.int 2))) (oNone))))) (aNil)))))) (gOwn (eSl pSl (gRef 3) (oSome (eN (rOp pAdd (rVar 6) (rC (.int 1))))) (oNone))))) (aNil)))) (sExpr (eMeth "list" 4 pAppend (aCons (gOwn (eOp pAdd (gOwn (eOp pAdd (gOwn (eSl pSl (gRef 3) (oNone) (oSome (eVar 6)))) (gOwn (eTup (aCons (gOwn (eTup (aCons (gOwn (eC (.str "turn"))) (aCons (gOwn (eR (rOp pIx (rVar 7) (rC (.int 1))))) (aCons (gOwn (eR (rOp pIx (rVar 7) (rC (.int 1))))) (aNil)))))) (aNil)))))) (gOwn (eSl pSl (gRef 3) (oSome (eN (rOp pAdd (rVar 6) (rC (.int 1))))) (oNone))))) (aNil))))))))) (sNil)
theorem wrong_is : b_m__law_wrong_scripts = (sSeq (sAsg (eLst (aCons (gOwn (eOp pAdd (gRef 3) (gOwn (eTup (aCons (gOwn (eTup (aCons (gOwn (eC (.str "cut"))) (aCons (gOwn (eC (.int 0))) (aNil))))) (aNil)))))) (aCons (gOwn (eOp pAdd (gRef 3) (gOwn (eTup (aCons (gOwn (eTup (aCons (gOwn (eC (.str "keep"))) (aCons (gOwn (eN (rOp pSub (rVar 1) (rC (.int 1))))) (aNil))))) (aNil)))))) (aNil)))) (tgN 4)) (sSeq (sAsg (eLC (itR1 (aCons (gOwn (eN (rCl pLen (raCons (rVar 3) (raNil))))) (aNil))) [9] (tgN 9) condW (eVar 9)) (tgN 5)) (sSeq bodyW3 (sRet (eVar 4))))) := rfl
theorem name_at (x : Deed) (hx : x.reads = true) : ∃ (nm : Str) (tl : List PV), x.pv = .tup (.str nm :: .int x.cell :: tl) ∧ immL tl = true ∧ tl.length ≤ 1 ∧ (∀ o, (x.withCell o).pv = .tup (.str nm :: .int o :: tl)) ∧ ¬ (nm = "put") := by
  cases x with
  | put v => cases hx
  | keep c => exact ⟨"keep", [], rfl, rfl, by simp, fun o => rfl, by decide⟩
  | turn c v => exact ⟨"turn", [.int v], rfl, rfl, by simp, fun o => rfl, by decide⟩
  | cut c => exact ⟨"cut", [], rfl, rfl, by simp, fun o => rfl, by decide⟩
theorem cut2 (a b : PV) (tl : List PV) : pcut (a :: b :: tl) (some 2) none = tl := by
  have := cut_drop (a :: b :: tl) 2 (by simp)
  simpa using this
theorem wrong_rest (d d' : Dr) (base : Int) (hb : 0 < base) (F : PV) (P R A B A2 B2 tl : List PV) (nm : Str) (c kl kp : Int) (W1 W2 : PV) (hR : 0 < R.length)
    (hlast : atI R (-1) = some (.int kl)) (hpick : m__law_pick [d.pv, .lst R] = .ok (.int kp) [some d'.pv, some (.lst R)]) (hat : atI P kp = some (.tup (.str nm :: .int c :: tl)))
    (c1 : pcut P none (some kl) = A) (c2 : pcut P (some (kl + 1)) none = B) (c3 : pcut P none (some kp) = A2) (c4 : pcut P (some (kp + 1)) none = B2)
    (i0 : immL P = true) (i1 : immL A = true) (i2 : immL B = true) (i3 : immL A2 = true) (i4 : immL B2 = true) (i5 : immL tl = true) (l1 : A.length + B.length ≤ sizeLine) (l2 : A2.length + 1 ≤ sizeLine) (l3 : A2.length + (B2.length + 1) ≤ sizeLine) (l4 : tl.length + 1 + 1 ≤ sizeLine) :
    bodyW3 [some d.pv, some (.int base), some F, some (.tup P), some (.lst [W1, W2]), some (.lst R), none, none, none, none] =
      .next [some d'.pv, some (.int base), some F, some (.tup P), some (.lst [W1, W2, .tup (A ++ B), .tup (A2 ++ .tup (.str nm :: .int ((c + 1) % base) :: tl) :: B2), .tup (A2 ++ .tup [.str "turn", .int c, .int c] :: B2)]), some (.lst R), some (.int kp), some (.tup (.str nm :: .int c :: tl)), some (.int ((c + 1) % base)), none] := by
  have l5 : A2.length + 1 + B2.length ≤ sizeLine := by omega
  have l6 : 2 + tl.length ≤ sizeLine := by omega
  have hR2 : ¬ R.length = 0 := by omega
  have hR3 : (0 : Int) < (R.length : Int) := by omega
  simp [bodyW3, hlast, hpick, hat, c1, c2, c3, c4, i0, i1, i2, i3, i4, i5, l1, l2, l3, l4, l5, l6, hb, cut2, hR, hR3]
theorem readers (s : List Deed) (F : PV) (d : Dr) (base : Int) (y4 : Option PV) (hl : s.length < 1000) : ∀ (l acc : List Nat), (∀ k ∈ l, k < s.length) → acc.length + l.length < 900000 →
    ∃ ks : List Nat, lcL [9] (tgN 9) condW (eVar 9) (l.map fun k => PV.int (k : Nat)) (acc.map fun k => PV.int (k : Nat)) [some d.pv, some (.int base), some F, some (deedsPV s), y4, none, none, none, none, none] = .ok (.lst ((acc ++ ks).map fun k => PV.int (k : Nat))) [some d.pv, some (.int base), some F, some (deedsPV s), y4, none, none, none, none, none] ∧
      (∀ k ∈ ks, ∃ h : k < s.length, s[k].reads = true) ∧ ks.length ≤ l.length := by
  intro l
  induction l with
  | nil => intro acc _ _; exact ⟨[], by simp, by simp, by simp⟩
  | cons k l ih =>
    intro acc hk hz
    simp only [List.length_cons] at hz
    have hkl : k < s.length := hk k (List.mem_cons_self ..)
    have ea : atI (s.map Deed.pv) (k : Int) = some s[k].pv := by
      rw [at_nat _ _ (by omega)]
      simp [hkl]
    have hz2 : acc.length < 1000000 := by omega
    rw [List.map_cons, lcL_cons]
    by_cases hr : s[k].reads = true
    · obtain ⟨nm, tl, e1, _, _, _, hne⟩ := name_at s[k] hr
      obtain ⟨ks, e2, h2, l2⟩ := ih (acc ++ [k]) (fun x hx => hk x (List.mem_cons_of_mem _ hx)) (by rw [List.length_append]; simp only [List.length_cons, List.length_nil]; omega)
      refine ⟨k :: ks, ?_, ?_, by simp only [List.length_cons]; omega⟩
      · have e3 : condW [some d.pv, some (.int base), some F, some (deedsPV s), y4, none, none, none, none, some (.int k)] = .ok true [some d.pv, some (.int base), some F, some (deedsPV s), y4, none, none, none, none, some (.int k)] := by
          simp [condW, ea, e1, hne]
        simp [e3, hz2]
        simpa using e2
      · intro x hx
        rcases List.mem_cons.mp hx with h | h
        · subst h; exact ⟨hkl, hr⟩
        · exact h2 x h
    · obtain ⟨ks, e2, h2, l2⟩ := ih acc (fun x hx => hk x (List.mem_cons_of_mem _ hx)) (by omega)
      refine ⟨ks, ?_, h2, by simp only [List.length_cons]; omega⟩
      have e1 : ∃ v, s[k].pv = .tup [.str "put", .int v] := by
        cases hd : s[k] with
        | put v => exact ⟨v, rfl⟩
        | _ => rw [hd] at hr; exact absurd rfl hr
      obtain ⟨v, e1⟩ := e1
      have e3 : condW [some d.pv, some (.int base), some F, some (deedsPV s), y4, none, none, none, none, some (.int k)] = .ok false [some d.pv, some (.int base), some F, some (deedsPV s), y4, none, none, none, none, some (.int k)] := by
        simp [condW, ea, e1]
      simp [e3]
      simpa using e2
theorem split_at (s : List Deed) (k : Nat) (h : k < s.length) : s = s.take k ++ s[k] :: s.drop (k + 1) := by
  rw [← List.drop_eq_getElem_cons h, List.take_append_drop]
theorem wrong_ok (d : Dr) (base : Int) (f o : List Int) (s : List Deed) (h : run s f = some (o, [])) (hi : ∀ x ∈ s, x.inR base) (hb : 2 ≤ base) (hl : s.length < 1000) :
    ∃ (found : List (List Deed)) (d' : Dr), m__law_wrong_scripts [d.pv, .int base, filePV f, deedsPV s] = .ok (.lst (found.map deedsPV)) [some d'.pv, some (.int base), some (filePV f), some (deedsPV s)] ∧ ∀ w ∈ found, good w f = none ∧ w.length < 16777216 := by
  have w1 : good (s ++ [.cut 0]) f = none := wrong_end h _ rfl
  have w2 : good (s ++ [.keep (base - 1)]) f = none := wrong_end h _ rfl
  have hP := imm_deeds s
  obtain ⟨ks, e1, hks, lks⟩ := readers s (filePV f) d base (some (.lst [.tup (s.map Deed.pv ++ [.tup [.str "cut", .int 0]]), .tup (s.map Deed.pv ++ [.tup [.str "keep", .int (base - 1)]])])) hl (List.range s.length) [] (fun k hk => List.mem_range.mp hk) (by simp; omega)
  have e1' : lcL [9] (tgN 9) condW (eVar 9) (rngL 0 s.length) [] [some d.pv, some (.int base), some (filePV f), some (deedsPV s), some (.lst [.tup (s.map Deed.pv ++ [.tup [.str "cut", .int 0]]), .tup (s.map Deed.pv ++ [.tup [.str "keep", .int (base - 1)]])]), none, none, none, none, none] = .ok (.lst (ks.map fun k => PV.int (k : Nat))) [some d.pv, some (.int base), some (filePV f), some (deedsPV s), some (.lst [.tup (s.map Deed.pv ++ [.tup [.str "cut", .int 0]]), .tup (s.map Deed.pv ++ [.tup [.str "keep", .int (base - 1)]])]), none, none, none, none, none] := by
    rw [rng0]
    simpa [Deed.pv] using e1
  have hrg : rngOk (s.length : Int) := rngOk_of (by omega) (by omega)
  have hs1 : s.length + 1 ≤ sizeLine := by rw [sizeLine_eq]; omega
  have lw : ∀ k, s.length + k ≤ 2000 → s.length + k < 16777216 := by omega
  unfold m__law_wrong_scripts
  rw [fnM_at rfl, wrong_is]
  cases hk : ks with
  | nil =>
    refine ⟨[s ++ [.cut 0], s ++ [.keep (base - 1)]], d, ?_, ?_⟩
    · rw [hk] at e1'
      have e4 : bodyW3 [some d.pv, some (.int base), some (filePV f), some (deedsPV s), some (.lst [.tup (s.map Deed.pv ++ [.tup [.str "cut", .int 0]]), .tup (s.map Deed.pv ++ [.tup [.str "keep", .int (base - 1)]])]), some (.lst []), none, none, none, none] = .next [some d.pv, some (.int base), some (filePV f), some (deedsPV s), some (.lst [.tup (s.map Deed.pv ++ [.tup [.str "cut", .int 0]]), .tup (s.map Deed.pv ++ [.tup [.str "keep", .int (base - 1)]])]), some (.lst []), none, none, none, none] := by
        simp [bodyW3]
      simp [hP, hs1, hrg, e1', e4, Deed.pv]
    · intro w hw
      simp only [List.mem_cons, List.not_mem_nil, or_false] at hw
      rcases hw with rfl | rfl
      · exact ⟨w1, by rw [List.length_append]; exact lw 1 (by omega)⟩
      · exact ⟨w2, by rw [List.length_append]; exact lw 1 (by omega)⟩
  | cons k0 kr =>
    have hne : ks ≠ [] := by rw [hk]; exact List.cons_ne_nil _ _
    have hkl : 0 < ks.length := List.length_pos_iff.mpr hne
    have hlast : atI (ks.map fun k => PV.int (k : Nat)) (-1) = some (.int ((ks.getLast hne : Nat) : Int)) := by
      rw [at_neg _ _ (by decide) (by rw [List.length_map]; omega)]
      rw [List.length_map]
      have : (-1 + (ks.length : Int)).toNat = ks.length - 1 := by omega
      rw [this, List.getElem?_map, ← List.getLast?_eq_getElem?, List.getLast?_eq_some_getLast hne]
      rfl
    obtain ⟨i, hil, d', epick⟩ := pick_l d (ks.map fun k => PV.int (k : Nat)) (by rw [List.length_map]; exact hkl) (by rw [List.length_map]; simp at lks; omega) (immL_map _ _ fun _ _ => rfl)
    rw [List.length_map] at hil
    rw [List.getElem_map, ← e_pick] at epick
    obtain ⟨hpl, hpr⟩ := hks ks[i] (List.getElem_mem hil)
    obtain ⟨hll, hlr⟩ := hks (ks.getLast hne) (List.getLast_mem hne)
    generalize hkp : ks[i] = kp at *
    generalize hkl2 : ks.getLast hne = kl at *
    obtain ⟨nm, tl, ex, i5, l5, exo, _⟩ := name_at s[kp] hpr
    have hat : atI (s.map Deed.pv) (kp : Int) = some (.tup (.str nm :: .int s[kp].cell :: tl)) := by
      rw [at_nat _ _ (by omega), ← ex]
      simp [hpl]
    have hc := hi s[kp] (List.getElem_mem hpl)
    have hcr : 0 ≤ s[kp].cell ∧ s[kp].cell < base := by
      cases hd : s[kp] with
      | put v => rw [hd] at hpr; cases hpr
      | keep c => rw [hd] at hc; exact hc
      | cut c => rw [hd] at hc; exact hc
      | turn c v => rw [hd] at hc; exact ⟨hc.1, hc.2.1⟩
    have hoth : (s[kp].cell + 1) % base ≠ s[kp].cell := by
      by_cases hq : s[kp].cell + 1 < base
      · rw [Int.emod_eq_of_lt (by omega) hq]; omega
      · have : s[kp].cell + 1 = base := by omega
        rw [this, Int.emod_self]; omega
    have q1 : pcut (s.map Deed.pv) none (some (kl : Int)) = (s.take kl).map Deed.pv := by rw [cut_take _ _ (by rw [List.length_map]; omega), List.map_take]
    have q2 : pcut (s.map Deed.pv) (some ((kl : Int) + 1)) none = (s.drop (kl + 1)).map Deed.pv := by
      have := cut_drop (s.map Deed.pv) (kl + 1) (by rw [List.length_map]; omega)
      rw [← List.map_drop] at this
      simpa using this
    have q3 : pcut (s.map Deed.pv) none (some (kp : Int)) = (s.take kp).map Deed.pv := by rw [cut_take _ _ (by rw [List.length_map]; omega), List.map_take]
    have q4 : pcut (s.map Deed.pv) (some ((kp : Int) + 1)) none = (s.drop (kp + 1)).map Deed.pv := by
      have := cut_drop (s.map Deed.pv) (kp + 1) (by rw [List.length_map]; omega)
      rw [← List.map_drop] at this
      simpa using this
    have e4 := wrong_rest d d' base (by omega) (filePV f) (s.map Deed.pv) (ks.map fun k => PV.int (k : Nat)) _ _ _ _ tl nm s[kp].cell kl kp (.tup (s.map Deed.pv ++ [.tup [.str "cut", .int 0]])) (.tup (s.map Deed.pv ++ [.tup [.str "keep", .int (base - 1)]]))
      (by rw [List.length_map]; exact hkl) hlast epick hat q1 q2 q3 q4 hP (imm_deeds _) (imm_deeds _) (imm_deeds _) (imm_deeds _) i5
      (by rw [sizeLine_eq, List.length_map, List.length_map, List.length_take, List.length_drop]; omega) (by rw [sizeLine_eq, List.length_map, List.length_take]; omega) (by rw [sizeLine_eq, List.length_map, List.length_map, List.length_take, List.length_drop]; omega) (by rw [sizeLine_eq]; omega)
    have sp := split_at s kp hpl
    have sl := split_at s kl hll
    have h2 := h
    have h3 := h
    rw [sp] at h2
    rw [sl] at h3
    have w3 : good (s.take kl ++ s.drop (kl + 1)) f = none := wrong_less h3 hlr
    have w4 : good (s.take kp ++ s[kp].withCell ((s[kp].cell + 1) % base) :: s.drop (kp + 1)) f = none := by
      refine wrong_at h2 hpr _ fun f' => run_other ?_ ?_
      · cases hd : s[kp] with
        | put v => rw [hd] at hpr; cases hpr
        | _ => rfl
      · cases hd : s[kp] with
        | put v => rw [hd] at hpr; cases hpr
        | _ => rw [hd] at hoth; exact hoth
    have w5 : good (s.take kp ++ Deed.turn s[kp].cell s[kp].cell :: s.drop (kp + 1)) f = none := by
      refine wrong_at h2 hpr _ fun f' => ?_
      exact if_neg fun z => z.2 rfl
    refine ⟨[s ++ [.cut 0], s ++ [.keep (base - 1)], s.take kl ++ s.drop (kl + 1), s.take kp ++ s[kp].withCell ((s[kp].cell + 1) % base) :: s.drop (kp + 1), s.take kp ++ Deed.turn s[kp].cell s[kp].cell :: s.drop (kp + 1)], d', ?_, ?_⟩
    · have e5 := exo ((s[kp].cell + 1) % base)
      simp [hP, hs1, hrg, e1', e4, Deed.pv]
      exact e5.symm
    · intro w hw
      simp only [List.mem_cons, List.not_mem_nil, or_false] at hw
      rcases hw with rfl | rfl | rfl | rfl | rfl
      · exact ⟨w1, by rw [List.length_append]; exact lw 1 (by omega)⟩
      · exact ⟨w2, by rw [List.length_append]; exact lw 1 (by omega)⟩
      · exact ⟨w3, by rw [List.length_append, List.length_take, List.length_drop]; omega⟩
      · exact ⟨w4, by rw [List.length_append, List.length_cons, List.length_take, List.length_drop]; omega⟩
      · exact ⟨w5, by rw [List.length_append, List.length_cons, List.length_take, List.length_drop]; omega⟩
/-! the law -/
theorem pDL_ints : ∀ f : List Int, pDL (f.map .int) = some (f.map .int)
  | [] => rfl
  | x :: f => by simp [pDL, pD, pDL_ints f]
theorem lay_ints : ∀ f : List Int, PyData.canLayAll0 (f.map .int) = true
  | [] => rfl
  | x :: f => by simp [PyData.canLayAll0, PyData.canLay0, lay_ints f]
theorem depth_ints : ∀ f : List Int, PyData.depthAll (f.map .int) = 0
  | [] => rfl
  | x :: f => by simp [PyData.depthAll, PyData.depth, depth_ints f]
theorem eq_ints (f : List Int) : pEq (filePV f) (filePV f) = some (.bl true) := by
  have h1 : pD (filePV f) = some (.tuple (f.map .int)) := by simp [pD, pDL_ints]
  have h2 : SeqAt.shaped (.tuple (f.map .int)) = true := by
    simp [SeqAt.shaped, PyData.canLay0, PyData.depth, lay_ints, depth_ints]
  have h3 : PyData.eqv (.tuple (f.map .int)) (.tuple (f.map .int)) = true := by
    rw [PyData.eqv]
    exact SeqAt.eqvAll_refl _ (lay_ints f)
  have h4 : scEq (filePV f) (filePV f) = none := rfl
  simp [pEq, eqB, h4, h1, h2, h3]
def bodyR1 : SM := sSeq (sAsg (eCl pTuple (aCons (gOwn (eLC (itR1 (aCons (gOwn (eCall m__law_draw (aCons (gRef 1) (aCons (gOwn (eC (.int 10))) (aNil))))) (aNil))) [10] (tgN 10) (bYes) (eCall m__law_draw (aCons (gRef 1) (aCons (gRef 2) (aNil)))))) (aNil))) (tgN 6)) (sExpr (eMeth "list" 3 pAppend (aCons (gOwn (eTup (aCons (gOwn (eVar 6)) (aCons (gOwn (eCall m__law_script (aCons (gRef 1) (aCons (gRef 2) (aCons (gRef 6) (aNil)))))) (aNil))))) (aNil))))
def bodyR3 : SM := sIf (bNot (bE (eCall m__law_no_run (aCons (gRef 6) (aCons (gRef 8) (aNil)))))) (sRet (eC (.bl false))) (sNil)
def bodyR2 : SM := sSeq (sIf (bNot (bE (eCall (m__law_same 8) (aCons (gOwn (eCall m_mended (aCons (gRef 6) (aCons (gRef 7) (aNil))))) (aCons (gOwn (eCall m__law_made (aCons (gRef 7) (aNil)))) (aNil)))))) (sRet (eC (.bl false))) (sNil)) (sFor (itS (eCall m__law_wrong_scripts (aCons (gRef 1) (aCons (gRef 2) (aCons (gRef 6) (aCons (gRef 7) (aNil))))))) (tgN 8) bodyR3)
theorem law_is : b_m_law = (sSeq (sAsg (eCall m__law_begin (aCons (gRef 0) (aNil))) (tgN 1)) (sSeq (sAsg (eOp pAdd (gOwn (eC (.int 2))) (gOwn (eCall m__law_draw (aCons (gRef 1) (aCons (gOwn (eC (.int 7))) (aNil)))))) (tgN 2)) (sSeq (sAsg (eLst (aNil)) (tgN 3)) (sSeq (sFor (itR1 (aCons (gOwn (eC (.int 2))) (aNil))) (tgN 4) bodyR1) (sSeq (sForVS 3 (tgT 2 (tgsCons (tgN 6) (tgsCons (tgN 7) (tgsNil)))) bodyR2) (sSeq (sAsg (eCl pTuple (aCons (gOwn (eLC (itS (eR (rOp pIx (rOp pIx (rVar 3) (rC (.int 0))) (rC (.int 0))))) [9] (tgN 9) (bYes) (eTup (aCons (gOwn (eC (.str "keep"))) (aCons (gOwn (eVar 9)) (aNil)))))) (aNil))) (tgN 5)) (sRet (eAnd (eOp pEq (gOwn (eCall m_mended (aCons (gOwn (eR (rOp pIx (rOp pIx (rVar 3) (rC (.int 0))) (rC (.int 0))))) (aCons (gRef 5) (aNil))))) (gOwn (eR (rOp pIx (rOp pIx (rVar 3) (rC (.int 0))) (rC (.int 0)))))) (eOp pEq (gOwn (eCall m_mended (aCons (gOwn (eR (rOp pIx (rOp pIx (rVar 3) (rC (.int 0))) (rC (.int 0))))) (aCons (gOwn (eR (rOp pIx (rOp pIx (rVar 3) (rC (.int 0))) (rC (.int 1))))) (aNil))))) (gOwn (eCall m__law_made (aCons (gOwn (eR (rOp pIx (rOp pIx (rVar 3) (rC (.int 0))) (rC (.int 1))))) (aNil))))))))))))) := rfl
theorem draws (base : Int) (hb : 2 ≤ base) (hb2 : base < 100) (y0 : Option PV) (y3 y4 y5 y6 y7 y8 y9 : Option PV) : ∀ (l : List PV) (acc : List Int) (d : Dr), acc.length + l.length < 1000 → (∀ c ∈ acc, 0 ≤ c ∧ c < base) →
    ∃ (f : List Int) (d' : Dr), lcL [10] (tgN 10) bYes (eCall m__law_draw (aCons (gRef 1) (aCons (gRef 2) (aNil)))) l (acc.map .int) [y0, some d.pv, some (.int base), y3, y4, y5, y6, y7, y8, y9, none] = .ok (.lst (f.map .int)) [y0, some d'.pv, some (.int base), y3, y4, y5, y6, y7, y8, y9, none] ∧
      (∀ c ∈ f, 0 ≤ c ∧ c < base) ∧ f.length = acc.length + l.length := by
  intro l
  induction l with
  | nil => intro acc d _ h; exact ⟨acc, d, by simp, h, by simp⟩
  | cons x l ih =>
    intro acc d hz h
    simp only [List.length_cons] at hz
    obtain ⟨r, d1, e1, r0, r1⟩ := draw_ok d base (by omega) (by omega)
    rw [← e_draw] at e1
    have hz2 : acc.length < 1000000 := by omega
    obtain ⟨f, d2, e2, h2, l2⟩ := ih (acc ++ [r]) d1 (by rw [List.length_append]; simp only [List.length_cons, List.length_nil]; omega) (by
      intro c hc
      rcases List.mem_append.mp hc with z | z
      · exact h c z
      · rw [List.mem_singleton.mp z]; exact ⟨r0, r1⟩)
    refine ⟨f, d2, ?_, h2, ?_⟩
    · rw [lcL_cons]
      simp [e1, hz2]
      simpa using e2
    · rw [l2, List.length_append]; simp only [List.length_cons, List.length_nil]; omega
/-- a row that is right -/
def RowOk (base : Int) (r : List Int × List Deed) : Prop := run r.2 r.1 = some (made r.2, []) ∧ (∀ x ∈ r.2, x.inR base) ∧ (∀ c ∈ r.1, 0 ≤ c ∧ c < base) ∧ r.1.length < 20 ∧ r.2.length < 100
def rowPV (r : List Int × List Deed) : PV := .tup [filePV r.1, deedsPV r.2]
theorem imm_row (r : List Int × List Deed) : (rowPV r).imm = true := by simp [rowPV, imm_deeds]
theorem rowStep (base : Int) (hb : 2 ≤ base) (hb2 : base < 100) (d : Dr) (y0 y5 y6 y7 y8 y9 : Option PV) (x : PV) (rows : List PV) (hr : rows.length < 10) :
    ∃ (r : List Int × List Deed) (d' : Dr), RowOk base r ∧ bodyR1 [y0, some d.pv, some (.int base), some (.lst rows), some x, y5, y6, y7, y8, y9, none] = .next [y0, some d'.pv, some (.int base), some (.lst (rows ++ [rowPV r])), some x, y5, some (filePV r.1), y7, y8, y9, none] := by
  obtain ⟨w, d1, e1, w0, w1⟩ := draw_ok d 10 (by decide) (by decide)
  rw [← e_draw] at e1
  have hrg : rngOk w := rngOk_of (by omega) (by omega)
  have hwl : (rngL 0 w.toNat).length < 10 := by rw [ints_len]; omega
  obtain ⟨f, d2, e2, hf, lf⟩ := draws base hb hb2 y0 (some (.lst rows)) (some x) y5 y6 y7 y8 y9 (rngL 0 w.toNat) [] d1 (by simp; omega) (by simp)
  obtain ⟨s, d3, e3, hs, hi, ls⟩ := script_ok d2 base f hb hb2 hf (by rw [lf]; simp; omega)
  have lf2 : f.length < 10 := by rw [lf]; simpa using hwl
  refine ⟨(f, s), d3, ⟨hs, hi, hf, (by show f.length < 20; omega), (by show s.length < 100; omega)⟩, ?_⟩
  have e2' : lcL [10] (tgN 10) bYes (eCall m__law_draw (aCons (gRef 1) (aCons (gRef 2) (aNil)))) (rngL 0 w.toNat) [] [y0, some d1.pv, some (.int base), some (.lst rows), some x, y5, y6, y7, y8, y9, none] = .ok (.lst (f.map .int)) [y0, some d2.pv, some (.int base), some (.lst rows), some x, y5, y6, y7, y8, y9, none] := e2
  have hr2 : rows.length < 1000000 := by omega
  simp [bodyR1, e1, hrg, e2', e3, hr2, rowPV, imm_deeds]
theorem innerR (d : Dr) (f : List Int) (y0 y2 y3 y4 y5 : Option PV) (S : PV) (y9 y10 : Option PV) : ∀ (l : List (List Deed)) (y8 : Option PV), (∀ w ∈ l, good w f = none ∧ w.length < 16777216) →
    ∃ y8', forL (tgN 8) bodyR3 (l.map deedsPV) [y0, some d.pv, y2, y3, y4, y5, some (filePV f), some S, y8, y9, y10] = .next [y0, some d.pv, y2, y3, y4, y5, some (filePV f), some S, y8', y9, y10] := by
  intro l
  induction l with
  | nil => intro y8 _; exact ⟨y8, rfl⟩
  | cons w l ih =>
    intro y8 h
    obtain ⟨g1, g2⟩ := h w (List.mem_cons_self ..)
    have e := no_run_ok w f g2 g1
    obtain ⟨y8', e2⟩ := ih (some (deedsPV w)) fun z hz => h z (List.mem_cons_of_mem _ hz)
    refine ⟨y8', ?_⟩
    rw [List.map_cons, forL_at (e := [y0, some d.pv, y2, y3, y4, y5, some (filePV f), some S, some (deedsPV w), y9, y10]) rfl]
    have e3 : bodyR3 [y0, some d.pv, y2, y3, y4, y5, some (filePV f), some S, some (deedsPV w), y9, y10] = .next [y0, some d.pv, y2, y3, y4, y5, some (filePV f), some S, some (deedsPV w), y9, y10] := by
      simp [bodyR3, e, imm_deeds]
    rw [e3, loopK_next]
    exact e2
theorem same_ints (f : List Int) (h : f.length < 1000000) : m__law_same 8 [filePV f, filePV f] = .ok (.bl true) [some (filePV f), some (filePV f)] := by
  rw [e_same]
  refine same_ok 8 _ ?_
  simp only [PVL.plain, List.length_map, Bool.and_eq_true, decide_eq_true_eq, List.all_eq_true]
  refine ⟨by omega, fun x hx => ?_⟩
  obtain ⟨i, _, rfl⟩ := List.mem_map.mp hx
  rfl
theorem made_len : ∀ s : List Deed, (made s).length ≤ s.length
  | [] => Nat.le_refl _
  | .put v :: s => by have := made_len s; simp only [made, List.length_cons]; omega
  | .keep v :: s => by have := made_len s; simp only [made, List.length_cons]; omega
  | .turn v w :: s => by have := made_len s; simp only [made, List.length_cons]; omega
  | .cut v :: s => by have := made_len s; simp only [made, List.length_cons]; omega
theorem row_good {base : Int} {r : List Int × List Deed} (h : RowOk base r) : good r.2 r.1 = some (made r.2) := by
  simp [good, h.1]
theorem checkStep (base : Int) (hb : 2 ≤ base) (d : Dr) (r : List Int × List Deed) (h : RowOk base r) (y0 y3 y4 y5 y8 y9 y10 : Option PV) :
    ∃ (d' : Dr) (y8' : Option PV), bodyR2 [y0, some d.pv, some (.int base), y3, y4, y5, some (filePV r.1), some (deedsPV r.2), y8, y9, y10] = .next [y0, some d'.pv, some (.int base), y3, y4, y5, some (filePV r.1), some (deedsPV r.2), y8', y9, y10] := by
  obtain ⟨h1, h2, h3, h4, h5⟩ := id h
  have m1 := mended_ok r.2 r.1 _ (by omega) (row_good h)
  have m2 := made_ok r.2 (by omega)
  have m3 := same_ints (made r.2) (by have := made_len r.2; omega)
  obtain ⟨found, d', m4, m5⟩ := wrong_ok d base r.1 _ r.2 h1 h2 hb (by omega)
  obtain ⟨y8', m6⟩ := innerR d' r.1 y0 (some (.int base)) y3 y4 y5 (deedsPV r.2) y9 y10 found y8 m5
  have hi : immL (found.map deedsPV) = true := immL_map _ _ fun w _ => by simp [imm_deeds]
  refine ⟨d', y8', ?_⟩
  simp [bodyR2, m1, m2, m3, m4, hi, imm_deeds]
  simpa using m6
theorem kept_run (f : List Int) : run (f.map .keep) f = some (f, []) := by
  induction f with
  | nil => rfl
  | cons c f ih => simp [run, ih]
theorem keptL (d : Option PV) (y0 y2 y3 y4 y5 y6 y7 y8 y10 : Option PV) : ∀ (f : List Int) (acc : List PV), acc.length + f.length < 1000 →
    lcL [9] (tgN 9) bYes (eTup (aCons (gOwn (eC (.str "keep"))) (aCons (gOwn (eVar 9)) (aNil)))) (f.map .int) acc [y0, d, y2, y3, y4, y5, y6, y7, y8, none, y10] = .ok (.lst (acc ++ (f.map Deed.keep).map Deed.pv)) [y0, d, y2, y3, y4, y5, y6, y7, y8, none, y10] := by
  intro f
  induction f with
  | nil => intro acc _; simp
  | cons c f ih =>
    intro acc h
    simp only [List.length_cons] at h
    have hz : acc.length < 1000000 := by omega
    have := ih (acc ++ [.tup [.str "keep", .int c]]) (by rw [List.length_append]; simp only [List.length_cons, List.length_nil]; omega)
    rw [List.map_cons, lcL_cons]
    simp [hz]
    simpa [Deed.pv] using this
theorem law_true : ∀ ns : List Int, ns.length ≤ 63 → ∃ e, m_law [.frz (ns.map PV.int)] = .ok (.bl true) e := by
  intro ns _
  obtain ⟨d0, eb⟩ := begin_ok ns
  rw [← e_begin] at eb
  obtain ⟨r, d1, e1, r0, r1⟩ := draw_ok d0 7 (by decide) (by decide)
  rw [← e_draw] at e1
  have hb : 2 ≤ 2 + r := by omega
  have hb2 : 2 + r < 100 := by omega
  generalize hB : 2 + r = base at hb hb2
  obtain ⟨ra, d2, ha, e2⟩ := rowStep base hb hb2 d1 (some (.frz (ns.map .int))) none none none none none (.int 0) [] (by simp)
  obtain ⟨rb, d3, hbk, e3⟩ := rowStep base hb hb2 d2 (some (.frz (ns.map .int))) none (some (filePV ra.1)) none none none (.int 1) [rowPV ra] (by simp)
  obtain ⟨d4, z8, e4⟩ := checkStep base hb d3 ra ha (some (.frz (ns.map .int))) none (some (.int 1)) none none none none
  obtain ⟨d5, z9, e5⟩ := checkStep base hb d4 rb hbk (some (.frz (ns.map .int))) none (some (.int 1)) none z8 none none
  have k1 := keptL (some d5.pv) (some (.frz (ns.map .int))) (some (.int base)) (some (.lst [rowPV ra, rowPV rb])) (some (.int 1)) none (some (filePV rb.1)) (some (deedsPV rb.2)) z9 none ra.1 [] (by have := ha.2.2.2.1; simp; omega)
  have k2 := mended_ok (ra.1.map Deed.keep) ra.1 ra.1 (by have := ha.2.2.2.1; rw [List.length_map]; omega) (by simp [good, kept_run])
  have k3 := mended_ok ra.2 ra.1 _ (by have := ha.2.2.2.2; omega) (row_good ha)
  have k4 := made_ok ra.2 (by have := ha.2.2.2.2; omega)
  have q1 := eq_ints ra.1
  have q2 := eq_ints (made ra.2)
  have loop1 : forL (tgN 4) bodyR1 (rngL 0 2) [some (.frz (ns.map .int)), some d1.pv, some (.int base), some (.lst []), none, none, none, none, none, none, none] = .next [some (.frz (ns.map .int)), some d3.pv, some (.int base), some (.lst [rowPV ra, rowPV rb]), some (.int 1), none, some (filePV rb.1), none, none, none, none] := by
    have hr : rngL 0 2 = [.int 0, .int 1] := rfl
    rw [hr, forL_at (e := [some (.frz (ns.map .int)), some d1.pv, some (.int base), some (.lst []), some (.int 0), none, none, none, none, none, none]) rfl, e2, loopK_next, forL_at (e := [some (.frz (ns.map .int)), some d2.pv, some (.int base), some (.lst ([] ++ [rowPV ra])), some (.int 1), none, some (filePV ra.1), none, none, none, none]) rfl]
    have e3' : bodyR1 [some (.frz (ns.map .int)), some d2.pv, some (.int base), some (.lst ([] ++ [rowPV ra])), some (.int 1), none, some (filePV ra.1), none, none, none, none] = _ := e3
    rw [e3', loopK_next]
    rfl
  have loop2 : forL (tgT 2 (tgsCons (tgN 6) (tgsCons (tgN 7) (tgsNil)))) bodyR2 [rowPV ra, rowPV rb] [some (.frz (ns.map .int)), some d3.pv, some (.int base), none, some (.int 1), none, some (filePV rb.1), none, none, none, none] = .next [some (.frz (ns.map .int)), some d5.pv, some (.int base), none, some (.int 1), none, some (filePV rb.1), some (deedsPV rb.2), z9, none, none] := by
    rw [forL_at (e := [some (.frz (ns.map .int)), some d3.pv, some (.int base), none, some (.int 1), none, some (filePV ra.1), some (deedsPV ra.2), none, none, none]) rfl, e4, loopK_next,
      forL_at (e := [some (.frz (ns.map .int)), some d4.pv, some (.int base), none, some (.int 1), none, some (filePV rb.1), some (deedsPV rb.2), z8, none, none]) rfl, e5, loopK_next]
    rfl
  have hr2 : rngOk 2 := rngOk_of (by decide) (by decide)
  refine ⟨[some (.frz (ns.map .int))], ?_⟩
  unfold m_law
  rw [fnM_at rfl, law_is]
  simp only [sSeq_ap]
  have s1 : (sAsg (eCall m__law_begin (aCons (gRef 0) (aNil))) (tgN 1)) (List.map some [.frz (ns.map .int)] ++ List.replicate (11 - 1) none) = .next [some (.frz (ns.map .int)), some d0.pv, none, none, none, none, none, none, none, none, none] := by
    simp [eb]
  rw [s1, andThen_next]
  simp [e1, hB, hr2, loop1, imm_row, loop2]
  have k1' : lcL [9] (tgN 9) bYes (eTup (aCons (gOwn (eC (.str "keep"))) (aCons (gOwn (eVar 9)) (aNil)))) (ra.1.map .int) [] [some (.frz (ns.map .int)), some d5.pv, some (.int base), some (.lst [rowPV ra, rowPV rb]), some (.int 1), none, some (.tup (rb.1.map .int)), some (.tup (rb.2.map Deed.pv)), z9, none, none] = .ok (.lst (ra.1.map (Deed.pv ∘ Deed.keep))) [some (.frz (ns.map .int)), some d5.pv, some (.int base), some (.lst [rowPV ra, rowPV rb]), some (.int 1), none, some (.tup (rb.1.map .int)), some (.tup (rb.2.map Deed.pv)), z9, none, none] := by simpa using k1
  have k2' : m_mended [.tup (ra.1.map .int), .tup (ra.1.map (Deed.pv ∘ Deed.keep))] = .ok (.tup (ra.1.map .int)) [some (.tup (ra.1.map .int)), some (.tup (ra.1.map (Deed.pv ∘ Deed.keep)))] := by
    rw [← List.map_map]
    exact k2
  have hix : pIx (rowPV ra) (.int 0) = some (.tup (ra.1.map .int)) := by simp [rowPV]
  have hix1 : pIx (rowPV ra) (.int 1) = some (.tup (ra.2.map Deed.pv)) := by simp [rowPV]
  have hi : immL (ra.1.map (Deed.pv ∘ Deed.keep)) = true := immL_map _ _ fun _ _ => rfl
  simp [hix, hix1, k1', k2', hi, k3, k4, q1, q2, imm_deeds]
end K62

namespace K62
open PySem PySem.Spec L2 PVL

/-! ### what the top has written -/
theorem all_ok {w : World} {K : PySem.W.Frag} {h : Heap} {mg : Str → Option Value} {fa : Addr} (X : K.In h) (G : h.Ns mainGlobals mg) (hfa : mg "law" = some (.ref fa))
    {E_FormatError : Addr}
    {E_NoRun : Addr}
    {I_NoRun N_NoRun cc_NoRun cd_NoRun : Addr} {nm_NoRun qn_NoRun : Str} {bs_NoRun bm_NoRun sub_NoRun : List Value} {sn_NoRun : List Str} {ab_NoRun : Bool} {col_NoRun : Option Bool} {dd_NoRun : Option Addr} {oc_NoRun doc_NoRun pm_NoRun ct_NoRun ccl_NoRun cl_NoRun : Value} {j0_NoRun j1_NoRun j2_NoRun j3_NoRun j5_NoRun : Option Value} {od_NoRun an_NoRun cdd_NoRun cld_NoRun : Option Addr} {osl_NoRun ccs_NoRun csl_NoRun : Array (Option Value)} {vs_NoRun : Array Value} {fl_NoRun : Str} {tf_NoRun : Tok}
    {h__law_begin : Addr} {oc_f_law_begin kV_f_law_begin dc_f_law_begin pm_f_law_begin cd_f_law_begin ct_f_law_begin : Value} {od_f_law_begin an_f_law_begin : Option Addr} {sl_f_law_begin : Array (Option Value)}
    {h__law_draw : Addr} {oc_f_law_draw kV_f_law_draw dc_f_law_draw pm_f_law_draw cd_f_law_draw ct_f_law_draw : Value} {od_f_law_draw an_f_law_draw : Option Addr} {sl_f_law_draw : Array (Option Value)}
    {h__law_pick : Addr} {oc_f_law_pick kV_f_law_pick dc_f_law_pick pm_f_law_pick cd_f_law_pick ct_f_law_pick : Value} {od_f_law_pick an_f_law_pick : Option Addr} {sl_f_law_pick : Array (Option Value)}
    {h__law_wrong_scripts : Addr} {oc_f_law_wrong_scripts kV_f_law_wrong_scripts dc_f_law_wrong_scripts pm_f_law_wrong_scripts cd_f_law_wrong_scripts ct_f_law_wrong_scripts : Value} {od_f_law_wrong_scripts an_f_law_wrong_scripts : Option Addr} {sl_f_law_wrong_scripts : Array (Option Value)}
    {h__law_is_int : Addr} {oc_f_law_is_int kV_f_law_is_int dc_f_law_is_int pm_f_law_is_int cd_f_law_is_int ct_f_law_is_int : Value} {od_f_law_is_int an_f_law_is_int : Option Addr} {sl_f_law_is_int : Array (Option Value)}
    {h__law_same : Addr} {oc_f_law_same kV_f_law_same dc_f_law_same pm_f_law_same cd_f_law_same ct_f_law_same : Value} {od_f_law_same an_f_law_same : Option Addr} {sl_f_law_same : Array (Option Value)}
    {h_mended : Addr} {oc_fmended kV_fmended dc_fmended pm_fmended cd_fmended ct_fmended : Value} {od_fmended an_fmended : Option Addr} {sl_fmended : Array (Option Value)}
    {h__law_made : Addr} {oc_f_law_made kV_f_law_made dc_f_law_made pm_f_law_made cd_f_law_made ct_f_law_made : Value} {od_f_law_made an_f_law_made : Option Addr} {sl_f_law_made : Array (Option Value)}
    {h__law_rare : Addr} {oc_f_law_rare kV_f_law_rare dc_f_law_rare pm_f_law_rare cd_f_law_rare ct_f_law_rare : Value} {od_f_law_rare an_f_law_rare : Option Addr} {sl_f_law_rare : Array (Option Value)}
    {h__law_script : Addr} {oc_f_law_script kV_f_law_script dc_f_law_script pm_f_law_script cd_f_law_script ct_f_law_script : Value} {od_f_law_script an_f_law_script : Option Addr} {sl_f_law_script : Array (Option Value)}
    {h__law_no_run : Addr} {oc_f_law_no_run kV_f_law_no_run dc_f_law_no_run pm_f_law_no_run cd_f_law_no_run ct_f_law_no_run : Value} {od_f_law_no_run an_f_law_no_run : Option Addr} {sl_f_law_no_run : Array (Option Value)}
    {h_law : Addr} {oc_flaw kV_flaw dc_flaw pm_flaw cd_flaw ct_flaw : Value} {od_flaw an_flaw : Option Addr} {sl_flaw : Array (Option Value)}
    (a_FormatError : PySem.W.nsIn K mainGlobals "FormatError" = some (some (.ref E_FormatError)))
    (a_NoRun : PySem.W.nsIn K mainGlobals "NoRun" = some (some (.ref E_NoRun)))
    (x1_NoRun : K.lookup E_NoRun = some (excClassObj nm_NoRun qn_NoRun E_NoRun N_NoRun bs_NoRun bm_NoRun true sn_NoRun sub_NoRun ab_NoRun col_NoRun dd_NoRun j0_NoRun j1_NoRun j2_NoRun j3_NoRun j5_NoRun "ValueError.__new__"))
    (x2_NoRun : PySem.HandSPX.refsVE bm_NoRun = true)
    (x3_NoRun : PySem.W.findIn K (.ref E_NoRun) "__setattr__" = some (some (.builtin "object.__setattr__")))
    (x4_NoRun : PySem.W.findIn K (.ref E_NoRun) "__getattribute__" = some (some (.builtin "BaseException.__getattribute__")))
    (x5_NoRun : PySem.W.findIn K (.ref E_NoRun) "__getattr__" = some none)
    (x7_NoRun : PySem.W.findIn K (.ref E_NoRun) "__init__" = some (some (.ref I_NoRun)))
    (x8_NoRun : PySem.W.typeIn K (.ref I_NoRun) = some (.type "function"))
    (x9_NoRun : PySem.W.keepIn K (.ref E_NoRun) = true)
    (y1_NoRun : PySem.W.subIn K (.ref E_NoRun) (.type "BaseException") = some true)
    (y2_NoRun : PySem.W.subIn K (.ref E_NoRun) (.type "ValueError") = some true)
    (y3_NoRun : PySem.W.typeIn K (.ref E_NoRun) = some (.type "type"))
    (y4_NoRun : PySem.W.hasDictIn K E_NoRun = true)
    (y5_NoRun : PySem.W.mroIn K E_NoRun (.ref E_NoRun) = some true)
    (y7_NoRun : PySem.W.ks_superIn K E_NoRun E_NoRun "__init__" = some (some (.builtin "ValueError.__init__")))
    (l1_NoRun : K.lookup I_NoRun = some ⟨oc_NoRun, od_NoRun, .func (PySem.W.ksFn "__init__" "NoRun.__init__" (defArgs s_NoRun) (defBody s_NoRun) (defScope s_NoRun) .none .none doc_NoRun pm_NoRun an_NoRun (.ref cd_NoRun) ct_NoRun cc_NoRun), osl_NoRun⟩)
    (l2_NoRun : PySem.W.codeIn K (.ref cd_NoRun) "NoRun.__init__" = true)
    (l3_NoRun : K.lookup cd_NoRun = some ⟨ccl_NoRun, cdd_NoRun, .fields vs_NoRun, ccs_NoRun⟩)
    (l4_NoRun : vs_NoRun[2]? = some (.str fl_NoRun tf_NoRun))
    (l5_NoRun : ((PySem.Challenge.pw_formatory_k62_scripts_mended.main.file : Str) == fl_NoRun) = true)
    (l6_NoRun : K.lookup cc_NoRun = some ⟨cl_NoRun, cld_NoRun, .cell (some (.ref E_NoRun)), csl_NoRun⟩)
    (o1 : PySem.W.nsIn K cStatics "thirdparty.any" = some none)
    (o2 : PySem.W.nsIn K mainGlobals "super" = some none)
    (w1_FormatError : PySem.W.subIn K (.ref E_FormatError) (.type "BaseException") = some true)
    (w2_FormatError : PySem.W.isClsIn K E_FormatError = true)
    (w3_FormatError : PySem.W.typeIn K (.ref E_FormatError) = some (.type "type"))
    (w4_FormatError_NoRun : PySem.W.subIn K (.ref E_NoRun) (.ref E_FormatError) = some true)
    (w1_NoRun : PySem.W.subIn K (.ref E_NoRun) (.type "BaseException") = some true)
    (w2_NoRun : PySem.W.isClsIn K E_NoRun = true)
    (w3_NoRun : PySem.W.typeIn K (.ref E_NoRun) = some (.type "type"))
    (w4_NoRun_NoRun : PySem.W.subIn K (.ref E_NoRun) (.ref E_NoRun) = some true)
    (a_f_law_begin : PySem.W.nsIn K mainGlobals "_law_begin" = some (some (.ref h__law_begin)))
    (l_f_law_begin : K.lookup h__law_begin = some ⟨oc_f_law_begin, od_f_law_begin, .func (PySem.W.fnOf "_law_begin" "_law_begin" (defArgs s__law_begin) (defBody s__law_begin) (defScope s__law_begin) .none kV_f_law_begin dc_f_law_begin pm_f_law_begin an_f_law_begin cd_f_law_begin ct_f_law_begin), sl_f_law_begin⟩)
    (c_f_law_begin : PySem.W.codeIn K cd_f_law_begin "_law_begin" = true)
    (k_f_law_begin : PySem.W.keepIn K (.ref h__law_begin) = true)
    (a_f_law_draw : PySem.W.nsIn K mainGlobals "_law_draw" = some (some (.ref h__law_draw)))
    (l_f_law_draw : K.lookup h__law_draw = some ⟨oc_f_law_draw, od_f_law_draw, .func (PySem.W.fnOf "_law_draw" "_law_draw" (defArgs s__law_draw) (defBody s__law_draw) (defScope s__law_draw) .none kV_f_law_draw dc_f_law_draw pm_f_law_draw an_f_law_draw cd_f_law_draw ct_f_law_draw), sl_f_law_draw⟩)
    (c_f_law_draw : PySem.W.codeIn K cd_f_law_draw "_law_draw" = true)
    (k_f_law_draw : PySem.W.keepIn K (.ref h__law_draw) = true)
    (a_f_law_pick : PySem.W.nsIn K mainGlobals "_law_pick" = some (some (.ref h__law_pick)))
    (l_f_law_pick : K.lookup h__law_pick = some ⟨oc_f_law_pick, od_f_law_pick, .func (PySem.W.fnOf "_law_pick" "_law_pick" (defArgs s__law_pick) (defBody s__law_pick) (defScope s__law_pick) .none kV_f_law_pick dc_f_law_pick pm_f_law_pick an_f_law_pick cd_f_law_pick ct_f_law_pick), sl_f_law_pick⟩)
    (c_f_law_pick : PySem.W.codeIn K cd_f_law_pick "_law_pick" = true)
    (k_f_law_pick : PySem.W.keepIn K (.ref h__law_pick) = true)
    (a_f_law_wrong_scripts : PySem.W.nsIn K mainGlobals "_law_wrong_scripts" = some (some (.ref h__law_wrong_scripts)))
    (l_f_law_wrong_scripts : K.lookup h__law_wrong_scripts = some ⟨oc_f_law_wrong_scripts, od_f_law_wrong_scripts, .func (PySem.W.fnOf "_law_wrong_scripts" "_law_wrong_scripts" (defArgs s__law_wrong_scripts) (defBody s__law_wrong_scripts) (defScope s__law_wrong_scripts) .none kV_f_law_wrong_scripts dc_f_law_wrong_scripts pm_f_law_wrong_scripts an_f_law_wrong_scripts cd_f_law_wrong_scripts ct_f_law_wrong_scripts), sl_f_law_wrong_scripts⟩)
    (c_f_law_wrong_scripts : PySem.W.codeIn K cd_f_law_wrong_scripts "_law_wrong_scripts" = true)
    (k_f_law_wrong_scripts : PySem.W.keepIn K (.ref h__law_wrong_scripts) = true)
    (a_f_law_is_int : PySem.W.nsIn K mainGlobals "_law_is_int" = some (some (.ref h__law_is_int)))
    (l_f_law_is_int : K.lookup h__law_is_int = some ⟨oc_f_law_is_int, od_f_law_is_int, .func (PySem.W.fnOf "_law_is_int" "_law_is_int" (defArgs s__law_is_int) (defBody s__law_is_int) (defScope s__law_is_int) .none kV_f_law_is_int dc_f_law_is_int pm_f_law_is_int an_f_law_is_int cd_f_law_is_int ct_f_law_is_int), sl_f_law_is_int⟩)
    (c_f_law_is_int : PySem.W.codeIn K cd_f_law_is_int "_law_is_int" = true)
    (k_f_law_is_int : PySem.W.keepIn K (.ref h__law_is_int) = true)
    (a_f_law_same : PySem.W.nsIn K mainGlobals "_law_same" = some (some (.ref h__law_same)))
    (l_f_law_same : K.lookup h__law_same = some ⟨oc_f_law_same, od_f_law_same, .func (PySem.W.fnOf "_law_same" "_law_same" (defArgs s__law_same) (defBody s__law_same) (defScope s__law_same) .none kV_f_law_same dc_f_law_same pm_f_law_same an_f_law_same cd_f_law_same ct_f_law_same), sl_f_law_same⟩)
    (c_f_law_same : PySem.W.codeIn K cd_f_law_same "_law_same" = true)
    (k_f_law_same : PySem.W.keepIn K (.ref h__law_same) = true)
    (a_fmended : PySem.W.nsIn K mainGlobals "mended" = some (some (.ref h_mended)))
    (l_fmended : K.lookup h_mended = some ⟨oc_fmended, od_fmended, .func (PySem.W.fnOf "mended" "mended" (defArgs s_mended) (defBody s_mended) (defScope s_mended) .none kV_fmended dc_fmended pm_fmended an_fmended cd_fmended ct_fmended), sl_fmended⟩)
    (c_fmended : PySem.W.codeIn K cd_fmended "mended" = true)
    (k_fmended : PySem.W.keepIn K (.ref h_mended) = true)
    (a_f_law_made : PySem.W.nsIn K mainGlobals "_law_made" = some (some (.ref h__law_made)))
    (l_f_law_made : K.lookup h__law_made = some ⟨oc_f_law_made, od_f_law_made, .func (PySem.W.fnOf "_law_made" "_law_made" (defArgs s__law_made) (defBody s__law_made) (defScope s__law_made) .none kV_f_law_made dc_f_law_made pm_f_law_made an_f_law_made cd_f_law_made ct_f_law_made), sl_f_law_made⟩)
    (c_f_law_made : PySem.W.codeIn K cd_f_law_made "_law_made" = true)
    (k_f_law_made : PySem.W.keepIn K (.ref h__law_made) = true)
    (a_f_law_rare : PySem.W.nsIn K mainGlobals "_law_rare" = some (some (.ref h__law_rare)))
    (l_f_law_rare : K.lookup h__law_rare = some ⟨oc_f_law_rare, od_f_law_rare, .func (PySem.W.fnOf "_law_rare" "_law_rare" (defArgs s__law_rare) (defBody s__law_rare) (defScope s__law_rare) .none kV_f_law_rare dc_f_law_rare pm_f_law_rare an_f_law_rare cd_f_law_rare ct_f_law_rare), sl_f_law_rare⟩)
    (c_f_law_rare : PySem.W.codeIn K cd_f_law_rare "_law_rare" = true)
    (k_f_law_rare : PySem.W.keepIn K (.ref h__law_rare) = true)
    (a_f_law_script : PySem.W.nsIn K mainGlobals "_law_script" = some (some (.ref h__law_script)))
    (l_f_law_script : K.lookup h__law_script = some ⟨oc_f_law_script, od_f_law_script, .func (PySem.W.fnOf "_law_script" "_law_script" (defArgs s__law_script) (defBody s__law_script) (defScope s__law_script) .none kV_f_law_script dc_f_law_script pm_f_law_script an_f_law_script cd_f_law_script ct_f_law_script), sl_f_law_script⟩)
    (c_f_law_script : PySem.W.codeIn K cd_f_law_script "_law_script" = true)
    (k_f_law_script : PySem.W.keepIn K (.ref h__law_script) = true)
    (a_f_law_no_run : PySem.W.nsIn K mainGlobals "_law_no_run" = some (some (.ref h__law_no_run)))
    (l_f_law_no_run : K.lookup h__law_no_run = some ⟨oc_f_law_no_run, od_f_law_no_run, .func (PySem.W.fnOf "_law_no_run" "_law_no_run" (defArgs s__law_no_run) (defBody s__law_no_run) (defScope s__law_no_run) .none kV_f_law_no_run dc_f_law_no_run pm_f_law_no_run an_f_law_no_run cd_f_law_no_run ct_f_law_no_run), sl_f_law_no_run⟩)
    (c_f_law_no_run : PySem.W.codeIn K cd_f_law_no_run "_law_no_run" = true)
    (k_f_law_no_run : PySem.W.keepIn K (.ref h__law_no_run) = true)
    (a_flaw : PySem.W.nsIn K mainGlobals "law" = some (some (.ref h_law)))
    (l_flaw : K.lookup h_law = some ⟨oc_flaw, od_flaw, .func (PySem.W.fnOf "law" "law" (defArgs s_law) (defBody s_law) (defScope s_law) .none kV_flaw dc_flaw pm_flaw an_flaw cd_flaw ct_flaw), sl_flaw⟩)
    (c_flaw : PySem.W.codeIn K cd_flaw "law" = true)
    (k_flaw : PySem.W.keepIn K (.ref h_law) = true)
    (z_abs : PySem.W.nsIn K mainGlobals "abs" = some none)
    (z_bool : PySem.W.nsIn K mainGlobals "bool" = some none)
    (z_int : PySem.W.nsIn K mainGlobals "int" = some none)
    (z_isinstance : PySem.W.nsIn K mainGlobals "isinstance" = some none)
    (z_len : PySem.W.nsIn K mainGlobals "len" = some none)
    (z_range : PySem.W.nsIn K mainGlobals "range" = some none)
    (z_str : PySem.W.nsIn K mainGlobals "str" = some none)
    (z_tuple : PySem.W.nsIn K mainGlobals "tuple" = some none) :
    ∃ fd : FuncData, (∀ (s : Shared) (v : Value), BindsTo s fd ⟨[v], []⟩ [("script", v)]) ∧ ∀ base : Heap, K.In base → base.Ns mainGlobals mg → FnOk PySem.Challenge.pw_formatory_k62_scripts_mended w K mg base (L2.CX PySem.Challenge.pw_formatory_k62_scripts_mended w) 12 fa fd ["script"] (spF K mg 1 m_law) := by
  have e := hfa.symm.trans (PySem.W.mg_of X G a_flaw)
  cases e
  have zz_abs := PySem.W.mg_none_of X G z_abs
  have zz_bool := PySem.W.mg_none_of X G z_bool
  have zz_int := PySem.W.mg_none_of X G z_int
  have zz_isinstance := PySem.W.mg_none_of X G z_isinstance
  have zz_len := PySem.W.mg_none_of X G z_len
  have zz_range := PySem.W.mg_none_of X G z_range
  have zz_str := PySem.W.mg_none_of X G z_str
  have zz_tuple := PySem.W.mg_none_of X G z_tuple
  have x_NoRun : PySem.SXE.SxTxt PySem.Challenge.pw_formatory_k62_scripts_mended K mg "NoRun" E_NoRun I_NoRun [] := { gC := PySem.W.mg_of X G a_NoRun, cls := ⟨_, _, _, _, _, _, _, _, _, _, _, _, _, _, _, x1_NoRun, x2_NoRun⟩, sa := x3_NoRun, ga := x4_NoRun, gg := x5_NoRun, noF := (fun f hf => by cases hf), iC := x7_NoRun, tC := x8_NoRun, kC := x9_NoRun, exC := y1_NoRun, veC := y2_NoRun, tyC := y3_NoRun, hdC := y4_NoRun, slf := y5_NoRun, opq := o1, sup := y7_NoRun, gsup := PySem.W.mg_none_of X G o2, tops := (by decide +kernel), fn := ⟨_, _, _, _, _, _, _, _, _, _, _, _, _, l1_NoRun, l2_NoRun, ⟨_, _, _, _, _, _, l3_NoRun, l4_NoRun, l5_NoRun⟩, ⟨_, _, _, l6_NoRun⟩, rfl, ⟨_, _, _, _, _, _, _, _, [], rfl, rfl, fun _ => rfl⟩, (by decide +kernel), (by decide +kernel), (by decide +kernel), (by decide +kernel), (by decide +kernel), rfl, rfl, rfl, fun s us hl => match us, hl with | [_], _ => .of_eq rfl⟩ }
  have tb_FormatError : TabOk K mg (.ref E_FormatError) t_FormatError := tab_cons (PySem.W.mg_of X G a_NoRun) (exm_of w1_FormatError w2_FormatError w3_FormatError w4_FormatError_NoRun) (tab_nil)
  have tb_NoRun : TabOk K mg (.ref E_NoRun) t_NoRun := tab_cons (PySem.W.mg_of X G a_NoRun) (exm_of w1_NoRun w2_NoRun w3_NoRun w4_NoRun_NoRun) (tab_nil)
  have F__law_begin := fun_mk (st := s__law_begin) l_f_law_begin c_f_law_begin k_f_law_begin
  have bb__law_begin := L2.Fun.binds F__law_begin (ps := ["script"]) fun _ _ _ _ _ _ us hl => match us, hl with | [_], _ => rfl
  have F__law_draw := fun_mk (st := s__law_draw) l_f_law_draw c_f_law_draw k_f_law_draw
  have bb__law_draw := L2.Fun.binds F__law_draw (ps := ["d", "many"]) fun _ _ _ _ _ _ us hl => match us, hl with | [_, _], _ => rfl
  have F__law_pick := fun_mk (st := s__law_pick) l_f_law_pick c_f_law_pick k_f_law_pick
  have bb__law_pick := L2.Fun.binds F__law_pick (ps := ["d", "row"]) fun _ _ _ _ _ _ us hl => match us, hl with | [_, _], _ => rfl
  have F__law_wrong_scripts := fun_mk (st := s__law_wrong_scripts) l_f_law_wrong_scripts c_f_law_wrong_scripts k_f_law_wrong_scripts
  have bb__law_wrong_scripts := L2.Fun.binds F__law_wrong_scripts (ps := ["d", "base", "file", "script"]) fun _ _ _ _ _ _ us hl => match us, hl with | [_, _, _, _], _ => rfl
  have F__law_is_int := fun_mk (st := s__law_is_int) l_f_law_is_int c_f_law_is_int k_f_law_is_int
  have bb__law_is_int := L2.Fun.binds F__law_is_int (ps := ["thing"]) fun _ _ _ _ _ _ us hl => match us, hl with | [_], _ => rfl
  have F__law_same := fun_mk (st := s__law_same) l_f_law_same c_f_law_same k_f_law_same
  have bb__law_same := L2.Fun.binds F__law_same (ps := ["one", "other"]) fun _ _ _ _ _ _ us hl => match us, hl with | [_, _], _ => rfl
  have F_mended := fun_mk (st := s_mended) l_fmended c_fmended k_fmended
  have bb_mended := L2.Fun.binds F_mended (ps := ["file", "script"]) fun _ _ _ _ _ _ us hl => match us, hl with | [_, _], _ => rfl
  have F__law_made := fun_mk (st := s__law_made) l_f_law_made c_f_law_made k_f_law_made
  have bb__law_made := L2.Fun.binds F__law_made (ps := ["script"]) fun _ _ _ _ _ _ us hl => match us, hl with | [_], _ => rfl
  have F__law_rare := fun_mk (st := s__law_rare) l_f_law_rare c_f_law_rare k_f_law_rare
  have bb__law_rare := L2.Fun.binds F__law_rare (ps := ["d", "many"]) fun _ _ _ _ _ _ us hl => match us, hl with | [_, _], _ => rfl
  have F__law_script := fun_mk (st := s__law_script) l_f_law_script c_f_law_script k_f_law_script
  have bb__law_script := L2.Fun.binds F__law_script (ps := ["d", "base", "file"]) fun _ _ _ _ _ _ us hl => match us, hl with | [_, _, _], _ => rfl
  have F__law_no_run := fun_mk (st := s__law_no_run) l_f_law_no_run c_f_law_no_run k_f_law_no_run
  have bb__law_no_run := L2.Fun.binds F__law_no_run (ps := ["file", "script"]) fun _ _ _ _ _ _ us hl => match us, hl with | [_, _], _ => rfl
  have F_law := fun_mk (st := s_law) l_flaw c_flaw k_flaw
  have bb_law := L2.Fun.binds F_law (ps := ["script"]) fun _ _ _ _ _ _ us hl => match us, hl with | [_], _ => rfl
  have c__law_begin : ∀ base : Heap, Cal PySem.Challenge.pw_formatory_k62_scripts_mended w K mg base "_law_begin" 2 1 m__law_begin := fun base => ok__law_begin F__law_begin (PySem.W.mg_of X G a_f_law_begin) bb__law_begin zz_int
  have c__law_draw : ∀ base : Heap, Cal PySem.Challenge.pw_formatory_k62_scripts_mended w K mg base "_law_draw" 2 2 m__law_draw := fun base => ok__law_draw F__law_draw (PySem.W.mg_of X G a_f_law_draw) bb__law_draw zz_abs zz_int zz_len
  have c__law_pick : ∀ base : Heap, Cal PySem.Challenge.pw_formatory_k62_scripts_mended w K mg base "_law_pick" 3 2 m__law_pick := fun base => ok__law_pick F__law_pick (PySem.W.mg_of X G a_f_law_pick) bb__law_pick (c__law_draw base) zz_len
  have c__law_wrong_scripts : ∀ base : Heap, Cal PySem.Challenge.pw_formatory_k62_scripts_mended w K mg base "_law_wrong_scripts" 4 4 m__law_wrong_scripts := fun base => ok__law_wrong_scripts F__law_wrong_scripts (PySem.W.mg_of X G a_f_law_wrong_scripts) bb__law_wrong_scripts (c__law_pick base) zz_int zz_len zz_range
  have c__law_is_int : ∀ base : Heap, Cal PySem.Challenge.pw_formatory_k62_scripts_mended w K mg base "_law_is_int" 2 1 m__law_is_int := fun base => ok__law_is_int F__law_is_int (PySem.W.mg_of X G a_f_law_is_int) bb__law_is_int zz_bool zz_int zz_isinstance
  have c__law_same : ∀ base : Heap, Cal PySem.Challenge.pw_formatory_k62_scripts_mended w K mg base "_law_same" 11 2 (m__law_same 8) := fun base => ok__law_same F__law_same (PySem.W.mg_of X G a_f_law_same) bb__law_same (c__law_is_int base) zz_bool zz_isinstance zz_len zz_range zz_str zz_tuple 8
  have c_mended : ∀ base : Heap, Cal PySem.Challenge.pw_formatory_k62_scripts_mended w K mg base "mended" 2 2 m_mended := fun base => ok_mended F_mended (PySem.W.mg_of X G a_fmended) bb_mended zz_len zz_tuple x_NoRun
  have c__law_made : ∀ base : Heap, Cal PySem.Challenge.pw_formatory_k62_scripts_mended w K mg base "_law_made" 2 1 m__law_made := fun base => ok__law_made F__law_made (PySem.W.mg_of X G a_f_law_made) bb__law_made zz_tuple
  have c__law_rare : ∀ base : Heap, Cal PySem.Challenge.pw_formatory_k62_scripts_mended w K mg base "_law_rare" 3 2 m__law_rare := fun base => ok__law_rare F__law_rare (PySem.W.mg_of X G a_f_law_rare) bb__law_rare (c__law_draw base)
  have c__law_script : ∀ base : Heap, Cal PySem.Challenge.pw_formatory_k62_scripts_mended w K mg base "_law_script" 4 3 m__law_script := fun base => ok__law_script F__law_script (PySem.W.mg_of X G a_f_law_script) bb__law_script (c__law_rare base) (c__law_draw base) zz_int zz_range zz_tuple
  have c__law_no_run : ∀ base : Heap, Cal PySem.Challenge.pw_formatory_k62_scripts_mended w K mg base "_law_no_run" 3 2 m__law_no_run := fun base => ok__law_no_run F__law_no_run (PySem.W.mg_of X G a_f_law_no_run) bb__law_no_run (c_mended base) zz_isinstance zz_tuple (PySem.W.mg_of X G a_FormatError) tb_FormatError (PySem.W.mg_of X G a_NoRun) tb_NoRun
  refine ⟨_, fun s v => .of_eq ?_, fun base _ _ => ok_law F_law (c__law_begin base) (c__law_draw base) (c__law_script base) (c__law_made base) (c_mended base) (c__law_same base) (c__law_wrong_scripts base) (c__law_no_run base) zz_range zz_tuple⟩
  rfl
theorem walk {q : Program} {loose : List Str} {XP : (Str → Option Value) → Heap → Prop} {YP : World → Heap → Prop} {d : DefRec} {K : Params → PySem.W.Frag} (hdf : d.params.defaults = [])
    (hY : ∀ (w : World) (h : Heap), YP w h → (K w.params).In h)
    (F : ∀ (w : World) (mg : Str → Option Value) (fa : Addr) (h : Heap), (K w.params).In h → h.Ns mainGlobals mg → mg d.name = some (.ref fa) →
      ∃ fd : FuncData, (∀ (s : Shared) (u : Value), BindsTo s fd ⟨[u], []⟩ [("script", u)]) ∧ ∀ base : Heap, (K w.params).In base → base.Ns mainGlobals mg → FnOk PySem.Challenge.pw_formatory_k62_scripts_mended w (K w.params) mg base (L2.CX PySem.Challenge.pw_formatory_k62_scripts_mended w) 12 fa fd ["script"] (spF (K w.params) mg 1 m_law)) :
    PySem.W.WalkO q loose XP YP PySem.Challenge.rw_formatory_k62_scripts_mended.row.toRowW d [] (fun f vs => PySem.call f vs) :=
  law_walk (l := PySem.Challenge.rw_formatory_k62_scripts_mended) rfl hdf ⟨rfl, by decide, by decide⟩ hY F law_true

end K62

open PySem PySem.W PyProof.Rows in
set_option maxRecDepth 100000 in
set_option maxHeartbeats 0 in
theorem PySem.Challenge.cw_formatory_k62_scripts_mended_holds : PySem.Challenge.rw_formatory_k62_scripts_mended.Holds := by
  w_on; o_law; k_head; (case hw => w_witness2)
  k_fill
  refine K62.walk rfl (fun w h Y => PySem.W.kIn_of Y) ?F
  case F =>
    intro w mg fa h KX G hmg
    refine' K62.all_ok KX G hmg ?a_FormatError ?a_NoRun ?x1_NoRun ?x2_NoRun ?x3_NoRun ?x4_NoRun ?x5_NoRun ?x7_NoRun ?x8_NoRun ?x9_NoRun ?y1_NoRun ?y2_NoRun ?y3_NoRun ?y4_NoRun ?y5_NoRun ?y7_NoRun ?l1_NoRun ?l2_NoRun ?l3_NoRun ?l4_NoRun ?l5_NoRun ?l6_NoRun ?o1 ?o2 ?w1_FormatError ?w2_FormatError ?w3_FormatError ?w4_FormatError_NoRun ?w1_NoRun ?w2_NoRun ?w3_NoRun ?w4_NoRun_NoRun ?a_f_law_begin ?l_f_law_begin ?c_f_law_begin ?k_f_law_begin ?a_f_law_draw ?l_f_law_draw ?c_f_law_draw ?k_f_law_draw ?a_f_law_pick ?l_f_law_pick ?c_f_law_pick ?k_f_law_pick ?a_f_law_wrong_scripts ?l_f_law_wrong_scripts ?c_f_law_wrong_scripts ?k_f_law_wrong_scripts ?a_f_law_is_int ?l_f_law_is_int ?c_f_law_is_int ?k_f_law_is_int ?a_f_law_same ?l_f_law_same ?c_f_law_same ?k_f_law_same ?a_fmended ?l_fmended ?c_fmended ?k_fmended ?a_f_law_made ?l_f_law_made ?c_f_law_made ?k_f_law_made ?a_f_law_rare ?l_f_law_rare ?c_f_law_rare ?k_f_law_rare ?a_f_law_script ?l_f_law_script ?c_f_law_script ?k_f_law_script ?a_f_law_no_run ?l_f_law_no_run ?c_f_law_no_run ?k_f_law_no_run ?a_flaw ?l_flaw ?c_flaw ?k_flaw ?z_abs ?z_bool ?z_int ?z_isinstance ?z_len ?z_range ?z_str ?z_tuple
    (case a_FormatError => k_is)
    (case a_NoRun => k_is)
    (case x1_NoRun => k_is)
    (case x2_NoRun => decide +kernel)
    (case x3_NoRun => k_is)
    (case x4_NoRun => k_is)
    (case x5_NoRun => k_is)
    (case x7_NoRun => k_is)
    (case x8_NoRun => k_is)
    (case x9_NoRun => k_is)
    (case y1_NoRun => k_is)
    (case y2_NoRun => k_is)
    (case y3_NoRun => k_is)
    (case y4_NoRun => k_is)
    (case y5_NoRun => k_is)
    (case y7_NoRun => ks_is)
    (case l1_NoRun => k_is)
    (case l2_NoRun => k_is)
    (case l3_NoRun => k_is)
    (case l4_NoRun => first | rfl | decide +kernel)
    (case l5_NoRun => first | rfl | decide +kernel)
    (case l6_NoRun => k_is)
    (case o1 => k_is)
    (case o2 => k_is)
    (case w1_FormatError => k_is)
    (case w2_FormatError => k_is)
    (case w3_FormatError => k_is)
    (case w4_FormatError_NoRun => first | rfl | k_is)
    (case w1_NoRun => k_is)
    (case w2_NoRun => k_is)
    (case w3_NoRun => k_is)
    (case w4_NoRun_NoRun => first | rfl | k_is)
    (case a_f_law_begin => k_is)
    (case l_f_law_begin => k_is)
    (case c_f_law_begin => k_is)
    (case k_f_law_begin => k_is)
    (case a_f_law_draw => k_is)
    (case l_f_law_draw => k_is)
    (case c_f_law_draw => k_is)
    (case k_f_law_draw => k_is)
    (case a_f_law_pick => k_is)
    (case l_f_law_pick => k_is)
    (case c_f_law_pick => k_is)
    (case k_f_law_pick => k_is)
    (case a_f_law_wrong_scripts => k_is)
    (case l_f_law_wrong_scripts => k_is)
    (case c_f_law_wrong_scripts => k_is)
    (case k_f_law_wrong_scripts => k_is)
    (case a_f_law_is_int => k_is)
    (case l_f_law_is_int => k_is)
    (case c_f_law_is_int => k_is)
    (case k_f_law_is_int => k_is)
    (case a_f_law_same => k_is)
    (case l_f_law_same => k_is)
    (case c_f_law_same => k_is)
    (case k_f_law_same => k_is)
    (case a_fmended => k_is)
    (case l_fmended => k_is)
    (case c_fmended => k_is)
    (case k_fmended => k_is)
    (case a_f_law_made => k_is)
    (case l_f_law_made => k_is)
    (case c_f_law_made => k_is)
    (case k_f_law_made => k_is)
    (case a_f_law_rare => k_is)
    (case l_f_law_rare => k_is)
    (case c_f_law_rare => k_is)
    (case k_f_law_rare => k_is)
    (case a_f_law_script => k_is)
    (case l_f_law_script => k_is)
    (case c_f_law_script => k_is)
    (case k_f_law_script => k_is)
    (case a_f_law_no_run => k_is)
    (case l_f_law_no_run => k_is)
    (case c_f_law_no_run => k_is)
    (case k_f_law_no_run => k_is)
    (case a_flaw => k_is)
    (case l_flaw => k_is)
    (case c_flaw => k_is)
    (case k_flaw => k_is)
    (case z_abs => k_is)
    (case z_bool => k_is)
    (case z_int => k_is)
    (case z_isinstance => k_is)
    (case z_len => k_is)
    (case z_range => k_is)
    (case z_str => k_is)
    (case z_tuple => k_is)

