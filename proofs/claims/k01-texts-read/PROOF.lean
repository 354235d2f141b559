import PyProof.Rows.All
import Wide.All
import OpenK.AllK
import Wide.FinOn
import HandS.ForMost
import HandS.ForExc
import HandS.ExcOwn
import HandS.Walk
import HandS.Comp
import HandS.WordsExc
import HandS.TupAny
import HandS.IsInst
import HandS.Text
import HandS.WordsDict
import HandS.Deep
import KE.KExcSuper
import HandS.ExcInit
import HandS.ExcField
import HandS.TryMany
import HandS.Ends
import HandS.EndOwn
import HandS.MapJoin
import HandS.RaiseMore
import PySem.Challenge.RW_formatory_k01_texts_read
set_option Elab.async false
set_option linter.all false
set_option maxRecDepth 100000
set_option maxHeartbeats 4000000
/-! P1: pure values PV, how they lie in the abstract heap (with their mutable footprint), environments, frames. -/
namespace PVL
open PySem PySem.Spec L2

inductive PV where
  | non | bl (b : Bool) | int (i : Int) | str (x : Str)
  | tup (xs : List PV)
  | frz (xs : List PV)
  | lst (xs : List PV)
  | dct (kvs : List (PV × PV))
  | obj (c : Str) (fs : List (Str × PV))
  | ty (n : String)
  deriving Inhabited

def kPV : Key → PV
  | .inl i => .int i
  | .inr x => .str x

mutual
def PV.imm : PV → Bool
  | .non => true
  | .bl _ => true
  | .int _ => true
  | .str _ => true
  | .tup xs => immL xs
  | .frz _ => true
  | .lst _ => false
  | .dct _ => false
  | .obj _ _ => false
  | .ty _ => true
def immL : List PV → Bool
  | [] => true
  | x :: xs => x.imm && immL xs
end

/-- a list that is only read: frozen (the script), or written in the module -/
def SqF (K : PySem.W.Frag) (H : Hp) (a : Addr) (xs : List V) : Prop :=
  (∃ o, H a = some (.frz o (.lst xs))) ∨
    ∃ (o : Obj) (its : Array Value) (n : Nat), K.lookup a = some o ∧ o.cls = .type "list" ∧ o.dict = none ∧ o.data = .seq its n ∧ its.size ≤ sizeLine ∧ Vals xs its.toList
theorem SqF.toL {K : PySem.W.Frag} {H : Hp} {a : Addr} {xs : List V} (h : SqF K H a xs) : SqL K H a xs := by
  rcases h with ⟨o, h⟩ | h
  · exact .inl (.inr ⟨o, h⟩)
  · exact .inr h

/-- a class by the module's name -/
def ClsAt (K : PySem.W.Frag) (c : Str) (C : Addr) : Prop := PySem.W.nsIn K mainGlobals c = some (some (.ref C))
mutual
def RV (K : PySem.W.Frag) (H : Hp) : PV → V → List Addr → Prop
  | .non, v, F => v = .non ∧ F = []
  | .bl b, v, F => v = .bl b ∧ F = []
  | .int i, v, F => v = .int i ∧ F = []
  | .str x, v, F => v = .str x ∧ F = []
  | .tup xs, v, F => ∃ a vs, v = .ref a ∧ SqT K H a vs ∧ RVL K H xs vs F
  | .frz xs, v, F => ∃ a vs, v = .ref a ∧ SqF K H a vs ∧ RVL K H xs vs [] ∧ F = []
  | .lst xs, v, F => ∃ a vs F', v = .ref a ∧ H a = some (.lst vs) ∧ RVL K H xs vs F' ∧ F = a :: F'
  | .dct kvs, v, F => ∃ a ws F', v = .ref a ∧ ((∃ vs, H a = some (.dK vs) ∧ ws = vs.map fun p => (kPV p.1, p.2)) ∨ (∃ vs, H a = some (.dT vs) ∧ ws = vs.map fun p => (PV.tup (p.1.map kPV), p.2))) ∧ RVD K H kvs ws F' ∧ F = a :: F'
  | .obj c fs, v, F => ∃ a dx vs F', v = .ref a ∧ (∃ C, ClsAt K c C ∧ H a = some (.ins C dx vs)) ∧ H dx = some (.own a) ∧ RVF K H fs vs F' ∧ F = a :: dx :: F'
  | .ty n, v, F => v = .ty n ∧ F = []
def RVL (K : PySem.W.Frag) (H : Hp) : List PV → List V → List Addr → Prop
  | [], vs, F => vs = [] ∧ F = []
  | x :: xs, vs, F => ∃ v vr F1 F2, vs = v :: vr ∧ RV K H x v F1 ∧ RVL K H xs vr F2 ∧ F = F1 ++ F2
def RVD (K : PySem.W.Frag) (H : Hp) : List (PV × PV) → List (PV × V) → List Addr → Prop
  | [], vs, F => vs = [] ∧ F = []
  | (k, x) :: xs, vs, F => ∃ v vr F1 F2, vs = (k, v) :: vr ∧ RV K H x v F1 ∧ RVD K H xs vr F2 ∧ F = F1 ++ F2
def RVF (K : PySem.W.Frag) (H : Hp) : List (Str × PV) → List (Str × V) → List Addr → Prop
  | [], vs, F => vs = [] ∧ F = []
  | (k, x) :: xs, vs, F => ∃ v vr F1 F2, vs = (k, v) :: vr ∧ RV K H x v F1 ∧ RVF K H xs vr F2 ∧ F = F1 ++ F2
end

/-- what is mutable: it may stand in a footprint -/
def mutO : HO → Bool
  | .lst _ => true
  | .dK _ => true
  | .dT _ => true
  | .ins _ _ _ => true
  | .own _ => true
  | _ => false
def Mt (H : Hp) (F : List Addr) : Prop := ∀ b ∈ F, ∃ o, H b = some o ∧ mutO o = true
/-- all that stood stands, but what stands in F -/
def Kp (F : List Addr) (H H' : Hp) : Prop := ∀ b o, b ∉ F → H b = some o → H' b = some o
/-- from the footprint F of H to the footprint F' of H' -/
structure Fm (F : List Addr) (H : Hp) (F' : List Addr) (H' : Hp) : Prop where
  kp : Kp F H H'
  fr : ∀ b ∈ F', b ∈ F ∨ H b = none
abbrev Sm (H H' : Hp) : Prop := ∀ b o, H b = some o → H' b = some o
/-- fresh -/
def Fr (H : Hp) (F : List Addr) : Prop := ∀ b ∈ F, H b = none

section
variable {K : PySem.W.Frag} {H H' H'' : Hp} {F F' F'' : List Addr}
theorem Kp.refl : Kp F H H := fun _ _ _ e => e
theorem Sm.kp (s : Sm H H') : Kp F H H' := fun b o _ e => s b o e
theorem Kp.sm (k : Kp [] H H') : Sm H H' := fun b o e => k b o (by simp) e
theorem Kp.mono (k : Kp F H H') (h : ∀ b ∈ F, b ∈ F') : Kp F' H H' := fun b o n e => k b o (fun z => n (h b z)) e
theorem Fm.trans (a : Fm F H F' H') (b : Fm F' H' F'' H'') : Fm F H F'' H'' where
  kp := fun x o n e => b.kp x o (fun z => by
    rcases a.fr x z with y | y
    · exact n y
    · rw [e] at y; cases y) (a.kp x o n e)
  fr := fun x z => by
    rcases b.fr x z with y | y
    · exact a.fr x y
    · by_cases hx : x ∈ F
      · exact .inl hx
      · right
        cases q : H x with
        | none => rfl
        | some o => rw [a.kp x o hx q] at y; cases y
theorem Fm.refl : Fm F H F H := ⟨Kp.refl, fun _ z => .inl z⟩
theorem Fm.of_sm (s : Sm H H') (h : ∀ b ∈ F', b ∈ F ∨ H b = none) : Fm F H F' H' := ⟨Sm.kp s, h⟩
theorem Fm.sub (a : Fm F H F' H') (h : ∀ b ∈ F'', b ∈ F') : Fm F H F'' H' := ⟨a.kp, fun b z => a.fr b (h b z)⟩
theorem Fm.widen {G : List Addr} (a : Fm F H F' H') (h : ∀ b ∈ F, b ∈ G) : Fm G H F' H' := ⟨a.kp.mono h, fun b z => (a.fr b z).imp (h b) id⟩
theorem sm_upd {p : Addr} {o : HO} (h : H p = none) : Sm H (upd H p o) := fun b x e => by
  rw [upd_ne (ne_of_none e h)]; exact e
theorem Sm.trans (a : Sm H H') (b : Sm H' H'') : Sm H H'' := fun x o e => b x o (a x o e)

theorem SqT.kp {a : Addr} {xs : List V} (h : SqT K H a xs) (k : ∀ b o, H b = some o → mutO o = false → H' b = some o) : SqT K H' a xs := by
  rcases h with h | h
  · rcases h with h | ⟨o, h⟩
    · exact .inl (.inl (k _ _ h rfl))
    · exact .inl (.inr ⟨o, k _ _ h rfl⟩)
  · exact .inr h
theorem SqF.kp {a : Addr} {xs : List V} (h : SqF K H a xs) (k : ∀ b o, H b = some o → mutO o = false → H' b = some o) : SqF K H' a xs := by
  rcases h with ⟨o, h⟩ | h
  · exact .inl ⟨o, k _ _ h rfl⟩
  · exact .inr h
end

section
variable {K : PySem.W.Frag} {H H' : Hp}
mutual
theorem RV.imm : ∀ {x : PV} {v : V} {F : List Addr}, x.imm = true → RV K H x v F → F = []
  | .non, _, _, _, h => by simp only [RV] at h; exact h.2
  | .bl _, _, _, _, h => by simp only [RV] at h; exact h.2
  | .int _, _, _, _, h => by simp only [RV] at h; exact h.2
  | .str _, _, _, _, h => by simp only [RV] at h; exact h.2
  | .tup xs, _, _, i, h => by
    simp only [RV] at h
    obtain ⟨_, _, _, _, h⟩ := h
    exact RVL.imm (by simpa only [PV.imm] using i) h
  | .frz _, _, _, _, h => by simp only [RV] at h; obtain ⟨_, _, _, _, _, h⟩ := h; exact h
  | .lst _, _, _, i, _ => by simp [PV.imm] at i
  | .dct _, _, _, i, _ => by simp [PV.imm] at i
  | .obj _ _, _, _, i, _ => by simp [PV.imm] at i
  | .ty _, _, _, _, h => by simp only [RV] at h; exact h.2
theorem RVL.imm : ∀ {xs : List PV} {vs : List V} {F : List Addr}, immL xs = true → RVL K H xs vs F → F = []
  | [], _, _, _, h => by simp only [RVL] at h; exact h.2
  | x :: xs, _, _, i, h => by
    simp only [RVL] at h
    obtain ⟨_, _, F1, F2, _, h1, h2, e⟩ := h
    simp only [immL, Bool.and_eq_true] at i
    rw [e, RV.imm i.1 h1, RVL.imm i.2 h2]; rfl
end

mutual
theorem RV.mt : ∀ {x : PV} {v : V} {F : List Addr}, RV K H x v F → Mt H F
  | .non, _, _, h => by simp only [RV] at h; rw [h.2]; intro b z; simp at z
  | .bl _, _, _, h => by simp only [RV] at h; rw [h.2]; intro b z; simp at z
  | .int _, _, _, h => by simp only [RV] at h; rw [h.2]; intro b z; simp at z
  | .str _, _, _, h => by simp only [RV] at h; rw [h.2]; intro b z; simp at z
  | .tup xs, _, _, h => by simp only [RV] at h; obtain ⟨_, _, _, _, h⟩ := h; exact RVL.mt h
  | .frz _, _, _, h => by simp only [RV] at h; obtain ⟨_, _, _, _, _, h⟩ := h; rw [h]; intro b z; simp at z
  | .lst xs, _, _, h => by
    simp only [RV] at h
    obtain ⟨a, vs, F', _, e, h, eF⟩ := h
    subst eF
    intro b z
    rcases List.mem_cons.mp z with z | z
    · subst z; exact ⟨_, e, rfl⟩
    · exact RVL.mt h b z
  | .dct kvs, _, _, h => by
    simp only [RV] at h
    obtain ⟨a, ws, F', _, e, h, eF⟩ := h
    subst eF
    intro b z
    rcases List.mem_cons.mp z with z | z
    · subst z
      rcases e with ⟨_, e, _⟩ | ⟨_, e, _⟩ <;> exact ⟨_, e, rfl⟩
    · exact RVD.mt h b z
  | .obj c fs, _, _, h => by
    simp only [RV] at h
    obtain ⟨a, dx, vs, F', _, ⟨_, _, e⟩, e2, h, eF⟩ := h
    subst eF
    intro b z
    rcases List.mem_cons.mp z with z | z
    · subst z; exact ⟨_, e, rfl⟩
    rcases List.mem_cons.mp z with z | z
    · subst z; exact ⟨_, e2, rfl⟩
    · exact RVF.mt h b z
  | .ty _, _, _, h => by simp only [RV] at h; rw [h.2]; intro b z; simp at z
theorem RVL.mt : ∀ {xs : List PV} {vs : List V} {F : List Addr}, RVL K H xs vs F → Mt H F
  | [], _, _, h => by simp only [RVL] at h; rw [h.2]; intro b z; simp at z
  | x :: xs, _, _, h => by
    simp only [RVL] at h
    obtain ⟨_, _, F1, F2, _, h1, h2, e⟩ := h
    subst e
    intro b z
    rcases List.mem_append.mp z with z | z
    · exact RV.mt h1 b z
    · exact RVL.mt h2 b z
theorem RVD.mt : ∀ {xs : List (PV × PV)} {vs : List (PV × V)} {F : List Addr}, RVD K H xs vs F → Mt H F
  | [], _, _, h => by simp only [RVD] at h; rw [h.2]; intro b z; simp at z
  | (k, x) :: xs, _, _, h => by
    simp only [RVD] at h
    obtain ⟨_, _, F1, F2, _, h1, h2, e⟩ := h
    subst e
    intro b z
    rcases List.mem_append.mp z with z | z
    · exact RV.mt h1 b z
    · exact RVD.mt h2 b z
theorem RVF.mt : ∀ {xs : List (Str × PV)} {vs : List (Str × V)} {F : List Addr}, RVF K H xs vs F → Mt H F
  | [], _, _, h => by simp only [RVF] at h; rw [h.2]; intro b z; simp at z
  | (k, x) :: xs, _, _, h => by
    simp only [RVF] at h
    obtain ⟨_, _, F1, F2, _, h1, h2, e⟩ := h
    subst e
    intro b z
    rcases List.mem_append.mp z with z | z
    · exact RV.mt h1 b z
    · exact RVF.mt h2 b z
end

mutual
theorem RV.keep : ∀ {x : PV} {v : V} {F : List Addr}, RV K H x v F → (∀ b o, H b = some o → (b ∈ F ∨ mutO o = false) → H' b = some o) → RV K H' x v F
  | .non, _, _, h, _ => by simp only [RV] at h ⊢; exact h
  | .bl _, _, _, h, _ => by simp only [RV] at h ⊢; exact h
  | .int _, _, _, h, _ => by simp only [RV] at h ⊢; exact h
  | .str _, _, _, h, _ => by simp only [RV] at h ⊢; exact h
  | .tup xs, _, _, h, k => by
    simp only [RV] at h ⊢
    obtain ⟨a, vs, e, q, h⟩ := h
    exact ⟨a, vs, e, SqT.kp q fun b o e m => k b o e (.inr m), RVL.keep h k⟩
  | .frz xs, _, _, h, k => by
    simp only [RV] at h ⊢
    obtain ⟨a, vs, e, q, h, eF⟩ := h
    exact ⟨a, vs, e, SqF.kp q fun b o e m => k b o e (.inr m), RVL.keep h fun b o e m => k b o e (.inr (by
      rcases m with m | m
      · simp at m
      · exact m)), eF⟩
  | .lst xs, _, _, h, k => by
    simp only [RV] at h ⊢
    obtain ⟨a, vs, F', e, q, h, eF⟩ := h
    subst eF
    exact ⟨a, vs, F', e, k _ _ q (.inl List.mem_cons_self), RVL.keep h fun b o e m => k b o e (m.imp (fun z => List.mem_cons_of_mem _ z) id), rfl⟩
  | .dct kvs, _, _, h, k => by
    simp only [RV] at h ⊢
    obtain ⟨a, ws, F', e, q, h, eF⟩ := h
    subst eF
    refine ⟨a, ws, F', e, ?_, RVD.keep h fun b o e m => k b o e (m.imp (fun z => List.mem_cons_of_mem _ z) id), rfl⟩
    rcases q with ⟨vs, q, e2⟩ | ⟨vs, q, e2⟩
    · exact .inl ⟨vs, k _ _ q (.inl List.mem_cons_self), e2⟩
    · exact .inr ⟨vs, k _ _ q (.inl List.mem_cons_self), e2⟩
  | .obj c fs, _, _, h, k => by
    simp only [RV] at h ⊢
    obtain ⟨a, dx, vs, F', e, ⟨C', cC, q⟩, q2, h, eF⟩ := h
    subst eF
    exact ⟨a, dx, vs, F', e, ⟨C', cC, k _ _ q (.inl List.mem_cons_self)⟩, k _ _ q2 (.inl (List.mem_cons_of_mem _ List.mem_cons_self)), RVF.keep h fun b o e m => k b o e (m.imp (fun z => List.mem_cons_of_mem _ (List.mem_cons_of_mem _ z)) id), rfl⟩
  | .ty _, _, _, h, _ => by simp only [RV] at h ⊢; exact h
theorem RVL.keep : ∀ {xs : List PV} {vs : List V} {F : List Addr}, RVL K H xs vs F → (∀ b o, H b = some o → (b ∈ F ∨ mutO o = false) → H' b = some o) → RVL K H' xs vs F
  | [], _, _, h, _ => by simp only [RVL] at h ⊢; exact h
  | x :: xs, _, _, h, k => by
    simp only [RVL] at h ⊢
    obtain ⟨v, vr, F1, F2, e, h1, h2, eF⟩ := h
    subst eF
    exact ⟨v, vr, F1, F2, e, RV.keep h1 fun b o e m => k b o e (m.imp (fun z => List.mem_append_left _ z) id), RVL.keep h2 fun b o e m => k b o e (m.imp (fun z => List.mem_append_right _ z) id), rfl⟩
theorem RVD.keep : ∀ {xs : List (PV × PV)} {vs : List (PV × V)} {F : List Addr}, RVD K H xs vs F → (∀ b o, H b = some o → (b ∈ F ∨ mutO o = false) → H' b = some o) → RVD K H' xs vs F
  | [], _, _, h, _ => by simp only [RVD] at h ⊢; exact h
  | (_, x) :: xs, _, _, h, k => by
    simp only [RVD] at h ⊢
    obtain ⟨v, vr, F1, F2, e, h1, h2, eF⟩ := h
    subst eF
    exact ⟨v, vr, F1, F2, e, RV.keep h1 fun b o e m => k b o e (m.imp (fun z => List.mem_append_left _ z) id), RVD.keep h2 fun b o e m => k b o e (m.imp (fun z => List.mem_append_right _ z) id), rfl⟩
theorem RVF.keep : ∀ {xs : List (Str × PV)} {vs : List (Str × V)} {F : List Addr}, RVF K H xs vs F → (∀ b o, H b = some o → (b ∈ F ∨ mutO o = false) → H' b = some o) → RVF K H' xs vs F
  | [], _, _, h, _ => by simp only [RVF] at h ⊢; exact h
  | (_, x) :: xs, _, _, h, k => by
    simp only [RVF] at h ⊢
    obtain ⟨v, vr, F1, F2, e, h1, h2, eF⟩ := h
    subst eF
    exact ⟨v, vr, F1, F2, e, RV.keep h1 fun b o e m => k b o e (m.imp (fun z => List.mem_append_left _ z) id), RVF.keep h2 fun b o e m => k b o e (m.imp (fun z => List.mem_append_right _ z) id), rfl⟩
end
theorem RV.sm {x : PV} {v : V} {F : List Addr} (h : RV K H x v F) (s : Sm H H') : RV K H' x v F := h.keep fun b o e _ => s b o e
theorem RVL.sm {x : List PV} {v : List V} {F : List Addr} (h : RVL K H x v F) (s : Sm H H') : RVL K H' x v F := h.keep fun b o e _ => s b o e
/-- untouched by what happens in G -/
theorem keep_of {F G : List Addr} (k : Kp G H H') (m : Mt H G) (d : ∀ b ∈ F, b ∉ G) : ∀ b o, H b = some o → (b ∈ F ∨ mutO o = false) → H' b = some o := fun b o e q => k b o (fun z => by
  rcases q with q | q
  · exact d b q z
  · obtain ⟨o', e', m'⟩ := m b z
    rw [e] at e'; cases e'
    rw [q] at m'; cases m') e

theorem RVL.append : ∀ {xs ys : List PV} {vs ws : List V} {F G : List Addr}, RVL K H xs vs F → RVL K H ys ws G → RVL K H (xs ++ ys) (vs ++ ws) (F ++ G)
  | [], ys, vs, ws, F, G, h, g => by simp only [RVL] at h; rw [h.1, h.2]; exact g
  | x :: xs, ys, vs, ws, F, G, h, g => by
    simp only [RVL] at h
    obtain ⟨v, vr, F1, F2, e, h1, h2, eF⟩ := h
    subst eF; subst e
    rw [List.cons_append]
    simp only [RVL]
    exact ⟨v, vr ++ ws, F1, F2 ++ G, rfl, h1, RVL.append h2 g, by rw [List.append_assoc]⟩
theorem RVL.length : ∀ {xs : List PV} {vs : List V} {F : List Addr}, RVL K H xs vs F → vs.length = xs.length
  | [], vs, _, h => by simp only [RVL] at h; rw [h.1]; rfl
  | x :: xs, vs, _, h => by
    simp only [RVL] at h
    obtain ⟨v, vr, F1, F2, e, h1, h2, eF⟩ := h
    subst e
    simp [RVL.length h2]
theorem RVL.one {x : PV} {v : V} {F : List Addr} (h : RV K H x v F) : RVL K H [x] [v] F := by
  simp only [RVL]
  exact ⟨v, [], F, [], rfl, h, ⟨rfl, rfl⟩, by simp⟩
theorem RVL.cons {x : PV} {v : V} {xs : List PV} {vs : List V} {F G : List Addr} (h : RV K H x v F) (g : RVL K H xs vs G) : RVL K H (x :: xs) (v :: vs) (F ++ G) := by
  simp only [RVL]
  exact ⟨v, vs, F, G, rfl, h, g, rfl⟩
theorem RVL.get : ∀ {xs : List PV} {vs : List V} {F : List Addr} {i : Nat} {x : PV}, RVL K H xs vs F → xs[i]? = some x → ∃ v F1, vs[i]? = some v ∧ RV K H x v F1 ∧ ∀ b ∈ F1, b ∈ F
  | [], _, _, i, x, h, e => by simp at e
  | y :: xs, vs, F, 0, x, h, e => by
    simp only [RVL] at h
    obtain ⟨v, vr, F1, F2, e2, h1, h2, eF⟩ := h
    subst e2; subst eF
    simp at e; subst e
    exact ⟨v, F1, rfl, h1, fun b z => List.mem_append_left _ z⟩
  | y :: xs, vs, F, i + 1, x, h, e => by
    simp only [RVL] at h
    obtain ⟨v, vr, F1, F2, e2, h1, h2, eF⟩ := h
    subst e2; subst eF
    obtain ⟨v', F', a, b, c⟩ := RVL.get h2 (by simpa using e)
    exact ⟨v', F', by simpa using a, b, fun q z => List.mem_append_right _ (c q z)⟩
end

/-! ### environments -/
abbrev PEnv := List (Option PV)
def RE (K : PySem.W.Frag) (H : Hp) : PEnv → St → List Addr → Prop
  | [], σ, F => σ = [] ∧ F = []
  | none :: e, σ, F => ∃ y r, σ = y :: r ∧ RE K H e r F
  | some x :: e, σ, F => ∃ v r F1 F2, σ = some v :: r ∧ RV K H x v F1 ∧ RE K H e r F2 ∧ F = F1 ++ F2

section
variable {K : PySem.W.Frag} {H H' : Hp}
theorem RE.len : ∀ {env : PEnv} {σ : St} {F : List Addr}, RE K H env σ F → σ.length = env.length
  | [], _, _, h => by simp only [RE] at h; rw [h.1]; rfl
  | none :: e, _, _, h => by simp only [RE] at h; obtain ⟨y, r, rfl, h⟩ := h; simp [RE.len h]
  | some x :: e, _, _, h => by simp only [RE] at h; obtain ⟨v, r, F1, F2, rfl, _, h, _⟩ := h; simp [RE.len h]
theorem RE.mt : ∀ {env : PEnv} {σ : St} {F : List Addr}, RE K H env σ F → Mt H F
  | [], _, _, h => by simp only [RE] at h; rw [h.2]; intro b z; simp at z
  | none :: e, _, _, h => by simp only [RE] at h; obtain ⟨y, r, _, h⟩ := h; exact RE.mt h
  | some x :: e, _, _, h => by
    simp only [RE] at h
    obtain ⟨v, r, F1, F2, _, h1, h2, eF⟩ := h
    subst eF
    intro b z
    rcases List.mem_append.mp z with z | z
    · exact h1.mt b z
    · exact RE.mt h2 b z
theorem RE.keep : ∀ {env : PEnv} {σ : St} {F : List Addr}, RE K H env σ F → (∀ b o, H b = some o → (b ∈ F ∨ mutO o = false) → H' b = some o) → RE K H' env σ F
  | [], _, _, h, _ => by simp only [RE] at h ⊢; exact h
  | none :: e, _, _, h, k => by simp only [RE] at h ⊢; obtain ⟨y, r, e1, h⟩ := h; exact ⟨y, r, e1, RE.keep h k⟩
  | some x :: e, _, _, h, k => by
    simp only [RE] at h ⊢
    obtain ⟨v, r, F1, F2, e1, h1, h2, eF⟩ := h
    subst eF
    exact ⟨v, r, F1, F2, e1, h1.keep fun b o e m => k b o e (m.imp (fun z => List.mem_append_left _ z) id), RE.keep h2 fun b o e m => k b o e (m.imp (fun z => List.mem_append_right _ z) id), rfl⟩
theorem RE.sm {env : PEnv} {σ : St} {F : List Addr} (h : RE K H env σ F) (s : Sm H H') : RE K H' env σ F := h.keep fun b o e _ => s b o e
/-- a slot's value, read -/
theorem RE.get : ∀ {env : PEnv} {σ : St} {F : List Addr} {i : Nat} {x : PV}, RE K H env σ F → env[i]? = some (some x) → ∃ v F1, σ[i]? = some (some v) ∧ RV K H x v F1
  | [], _, _, i, x, h, e => by simp at e
  | none :: r, σ, F, 0, x, h, e => by simp at e
  | none :: r, σ, F, i + 1, x, h, e => by
    simp only [RE] at h
    obtain ⟨y, s, rfl, h⟩ := h
    obtain ⟨v, F1, a, b⟩ := RE.get h (by simpa using e)
    exact ⟨v, F1, by simpa using a, b⟩
  | some y :: r, σ, F, 0, x, h, e => by
    simp only [RE] at h
    obtain ⟨v, s, F1, F2, rfl, h1, _, _⟩ := h
    simp at e; subst e
    exact ⟨v, F1, rfl, h1⟩
  | some y :: r, σ, F, i + 1, x, h, e => by
    simp only [RE] at h
    obtain ⟨v, s, F1, F2, rfl, _, h2, _⟩ := h
    obtain ⟨v, F1, a, b⟩ := RE.get h2 (by simpa using e)
    exact ⟨v, F1, by simpa using a, b⟩
/-- a slot's value, taken out -/
theorem RE.take : ∀ {env : PEnv} {σ : St} {F : List Addr} {i : Nat} {x : PV}, RE K H env σ F → env[i]? = some (some x) → ∃ v F1 F2, σ[i]? = some (some v) ∧ RV K H x v F1 ∧ RE K H (env.set i none) σ F2 ∧ F.Perm (F1 ++ F2)
  | [], _, _, i, x, h, e => by simp at e
  | none :: r, σ, F, 0, x, h, e => by simp at e
  | none :: r, σ, F, i + 1, x, h, e => by
    simp only [RE] at h
    obtain ⟨y, s, rfl, h⟩ := h
    obtain ⟨v, F1, F2, a, b, c, d⟩ := RE.take h (by simpa using e)
    exact ⟨v, F1, F2, by simpa using a, b, by simp only [List.set_cons_succ, RE]; exact ⟨y, s, rfl, c⟩, d⟩
  | some y :: r, σ, F, 0, x, h, e => by
    simp only [RE] at h
    obtain ⟨v, s, F1, F2, rfl, h1, h2, eF⟩ := h
    simp at e; subst e
    exact ⟨v, F1, F2, rfl, h1, by simp only [List.set_cons_zero, RE]; exact ⟨_, s, rfl, h2⟩, by rw [eF]⟩
  | some y :: r, σ, F, i + 1, x, h, e => by
    simp only [RE] at h
    obtain ⟨v0, s, G1, G2, rfl, g1, h2, eF⟩ := h
    obtain ⟨v, F1, F2, a, b, c, d⟩ := RE.take h2 (by simpa using e)
    refine ⟨v, F1, G1 ++ F2, by simpa using a, b, ?_, ?_⟩
    · simp only [List.set_cons_succ, RE]; exact ⟨v0, s, G1, F2, rfl, g1, c, rfl⟩
    · rw [eF]
      refine (List.Perm.append_left G1 d).trans ?_
      rw [← List.append_assoc, ← List.append_assoc]
      exact List.Perm.append_right F2 List.perm_append_comm
/-- .. put (back) into an empty slot: the slot of σ holds v -/
theorem RE.put : ∀ {env : PEnv} {σ : St} {F G : List Addr} {i : Nat} {x : PV} {v : V}, RE K H (env.set i none) σ F → i < env.length → σ[i]? = some (some v) → RV K H x v G → ∃ F', RE K H (env.set i (some x)) σ F' ∧ F'.Perm (G ++ F)
  | [], _, _, _, i, x, v, h, l, _, _ => by simp at l
  | y :: r, σ, F, G, 0, x, v, h, l, e, g => by
    simp only [List.set_cons_zero, RE] at h
    obtain ⟨z, s, rfl, h⟩ := h
    simp at e; subst e
    exact ⟨G ++ F, by simp only [List.set_cons_zero, RE]; exact ⟨v, s, G, F, rfl, g, h, rfl⟩, .refl _⟩
  | none :: r, σ, F, G, i + 1, x, v, h, l, e, g => by
    simp only [List.set_cons_succ, RE] at h
    obtain ⟨z, s, rfl, h⟩ := h
    obtain ⟨F', a, b⟩ := RE.put h (by simpa using l) (by simpa using e) g
    exact ⟨F', by simp only [List.set_cons_succ, RE]; exact ⟨z, s, rfl, a⟩, b⟩
  | some y :: r, σ, F, G, i + 1, x, v, h, l, e, g => by
    simp only [List.set_cons_succ, RE] at h
    obtain ⟨z, s, F1, F2, rfl, h1, h2, eF⟩ := h
    obtain ⟨F', a, b⟩ := RE.put h2 (by simpa using l) (by simpa using e) g
    refine ⟨F1 ++ F', by simp only [List.set_cons_succ, RE]; exact ⟨z, s, F1, F', rfl, h1, a, rfl⟩, ?_⟩
    rw [eF]
    refine (List.Perm.append_left F1 b).trans ?_
    rw [← List.append_assoc, ← List.append_assoc]
    exact List.Perm.append_right F2 List.perm_append_comm
/-- a slot is forgotten, whatever it held -/
theorem RE.forget : ∀ {env : PEnv} {σ : St} {F : List Addr} {i : Nat}, RE K H env σ F → ∃ F', RE K H (env.set i none) σ F' ∧ F'.Sublist F
  | [], _, F, i, h => ⟨F, by simpa using h, .refl _⟩
  | none :: r, σ, F, 0, h => ⟨F, by simpa using h, .refl _⟩
  | some y :: r, σ, F, 0, h => by
    simp only [RE] at h
    obtain ⟨v, s, F1, F2, rfl, h1, h2, eF⟩ := h
    exact ⟨F2, by simp only [List.set_cons_zero, RE]; exact ⟨_, s, rfl, h2⟩, by rw [eF]; exact List.sublist_append_right _ _⟩
  | none :: r, σ, F, i + 1, h => by
    simp only [RE] at h
    obtain ⟨y, s, rfl, h⟩ := h
    obtain ⟨F', a, b⟩ := RE.forget (i := i) h
    exact ⟨F', by simp only [List.set_cons_succ, RE]; exact ⟨y, s, rfl, a⟩, b⟩
  | some y :: r, σ, F, i + 1, h => by
    simp only [RE] at h
    obtain ⟨v, s, F1, F2, rfl, h1, h2, eF⟩ := h
    obtain ⟨F', a, b⟩ := RE.forget (i := i) h2
    exact ⟨F1 ++ F', by simp only [List.set_cons_succ, RE]; exact ⟨v, s, F1, F', rfl, h1, a, rfl⟩, by rw [eF]; exact List.Sublist.append (List.Sublist.refl F1) b⟩
/-- .. an empty slot of env: σ's value there is free -/
theorem RE.anySlot : ∀ {env : PEnv} {σ : St} {F : List Addr} {i : Nat} {y : Option V}, RE K H (env.set i none) σ F → RE K H (env.set i none) (σ.set i y) F
  | [], σ, F, i, y, h => by simp only [List.set_nil, RE] at h ⊢; simp [h.1, h.2]
  | x :: r, σ, F, 0, y, h => by
    simp only [List.set_cons_zero, RE] at h ⊢
    obtain ⟨z, s, rfl, h⟩ := h
    exact ⟨y, s, rfl, h⟩
  | none :: r, σ, F, i + 1, y, h => by
    simp only [List.set_cons_succ, RE] at h ⊢
    obtain ⟨z, s, rfl, h⟩ := h
    exact ⟨z, s.set i y, rfl, RE.anySlot h⟩
  | some x :: r, σ, F, i + 1, y, h => by
    simp only [List.set_cons_succ, RE] at h ⊢
    obtain ⟨z, s, F1, F2, rfl, h1, h2, eF⟩ := h
    exact ⟨z, s.set i y, F1, F2, rfl, h1, RE.anySlot h2, eF⟩
/-- a value is stored in a slot -/
theorem RE.store {env : PEnv} {σ : St} {F G : List Addr} {i : Nat} {x : PV} {v : V} (h : RE K H env σ F) (l : i < env.length) (g : RV K H x v G) : ∃ F', RE K H (env.set i (some x)) (σ.set i (some v)) F' ∧ ∃ F1, F1.Sublist F ∧ F'.Perm (G ++ F1) := by
  obtain ⟨F1, a, b⟩ := RE.forget (i := i) h
  have a2 := RE.anySlot (y := some v) a
  obtain ⟨F', c, d⟩ := RE.put a2 l (by rw [List.getElem?_set_self (by rw [h.len]; exact l)]) g
  exact ⟨F', c, F1, b, d⟩
end
theorem nodup_of_perm {l m : List Addr} (h : l.Perm m) (n : m.Nodup) : l.Nodup := h.nodup_iff.mpr n
end PVL

/-! P2: outcomes, judgements for expressions, arguments, tests; composition. -/
namespace PVL
open PySem PySem.Spec L2

/-- an exception, purely: the name of its class, its fields -/
structure PX where
  cls : Str
  fs : List (Str × PV)
/-- an outcome beside an environment -/
inductive EO (α : Type) where
  | ok (a : α) (env : PEnv)
  | exc (x : PX) (env : PEnv)
  | bad
abbrev EM := PEnv → EO PV
abbrev BM := PEnv → EO Bool
abbrev RM := PEnv → Option PV
inductive Arg where
  | own (x : PV)
  | ref (i : Nat)
abbrev GM := PEnv → EO Arg
abbrev AM := PEnv → EO (List Arg)
def EO.bind {α β : Type} (x : EO α) (f : α → PEnv → EO β) : EO β := match x with
  | .ok a e => f a e
  | .exc x e => .exc x e
  | .bad => .bad
@[simp] theorem EO.bind_ok {α β : Type} (a : α) (e : PEnv) (f : α → PEnv → EO β) : (EO.ok a e).bind f = f a e := rfl
@[simp] theorem EO.bind_exc {α β : Type} (x : PX) (e : PEnv) (f : α → PEnv → EO β) : (EO.exc x e : EO α).bind f = .exc x e := rfl
@[simp] theorem EO.bind_bad {α β : Type} (f : α → PEnv → EO β) : (EO.bad : EO α).bind f = .bad := rfl

/-- how an exception lies: its class by the module's name, its fields in its own dict -/
def RX (K : PySem.W.Frag) (mg : Str → Option Value) (x : PX) (cls : Value) (d : Option Addr) (H : Hp) : Prop :=
  mg x.cls = some cls ∧ (x.fs = [] ∨ ∃ dd vs, d = some dd ∧ H dd = some (.xd vs) ∧ RVF K H x.fs vs [])

section
variable (K : PySem.W.Frag) (mg : Str → Option Value) (W : WX)
def PostE {α : Type} (σ : L2.St) (H : Hp) (F : List Addr) (R : α → PEnv → Prop) : EO α → Prop
  | .ok a env' => R a env'
  | .exc x env' => ∀ cls d H' F', RE K H' env' σ F' → F'.Nodup → Fm F H F' H' → RX K mg x cls d H' → W cls d σ H'
  | .bad => False
/-- an expression by an effectful pure function: what comes is owned -/
def ImE (t : TE) (m : EM) : Prop := ∀ σ H Q env F, RE K H env σ F → F.Nodup →
  PostE K mg W σ H F (fun pv env' => ∀ v H' Fv F', RE K H' env' σ F' → RV K H' pv v Fv → (Fv ++ F').Nodup → Fm F H (Fv ++ F') H' → Q v H') (m env) → t σ H Q
/-- an argument's value -/
def RG (H : Hp) (σ : L2.St) : Arg → V → List Addr → Prop
  | .own x, v, F => RV K H x v F
  | .ref i, v, F => σ[i]? = some (some v) ∧ F = []
def RGs (H : Hp) (σ : L2.St) : List Arg → List V → List Addr → Prop
  | [], vs, F => vs = [] ∧ F = []
  | a :: r, vs, F => ∃ v vr F1 F2, vs = v :: vr ∧ RG K H σ a v F1 ∧ RGs H σ r vr F2 ∧ F = F1 ++ F2
def ImG (t : TE) (m : GM) : Prop := ∀ σ H Q env F, RE K H env σ F → F.Nodup →
  PostE K mg W σ H F (fun a env' => ∀ v H' Fv F', RE K H' env' σ F' → RG K H' σ a v Fv → (Fv ++ F').Nodup → Fm F H (Fv ++ F') H' → Q v H') (m env) → t σ H Q
def ImA (t : TA) (m : AM) : Prop := ∀ σ H Q env F, RE K H env σ F → F.Nodup →
  PostE K mg W σ H F (fun as env' => ∀ vs H' Fv F', RE K H' env' σ F' → RGs K H' σ as vs Fv → (Fv ++ F').Nodup → Fm F H (Fv ++ F') H' → Q vs H') (m env) → t σ H Q
def ImT (t : TT) (m : BM) : Prop := ∀ σ H Q env F, RE K H env σ F → F.Nodup →
  PostE K mg W σ H F (fun b env' => ∀ H' F', RE K H' env' σ F' → F'.Nodup → Fm F H F' H' → Q b H') (m env) → t σ H Q
/-- an expression that only reads: what comes may be a part of what is held -/
def ImR (t : TE) (m : RM) : Prop := ∀ σ H Q env F, RE K H env σ F →
  (match m env with | some pv => ∀ v H' Fv, Sm H H' → RV K H' pv v Fv → Q v H' | none => False) → t σ H Q
end

section
variable {K : PySem.W.Frag} {mg : Str → Option Value} {W : WX}
theorem RG.mt {H : Hp} {σ : L2.St} : ∀ {a : Arg} {v : V} {F : List Addr}, RG K H σ a v F → Mt H F
  | .own _, _, _, h => RV.mt h
  | .ref _, _, _, h => by rw [h.2]; intro b z; simp at z
theorem RG.keep {H H' : Hp} {σ : L2.St} : ∀ {a : Arg} {v : V} {F : List Addr}, RG K H σ a v F → (∀ b o, H b = some o → (b ∈ F ∨ mutO o = false) → H' b = some o) → RG K H' σ a v F
  | .own _, _, _, h, k => RV.keep h k
  | .ref _, _, _, h, _ => h
theorem RGs.mt {H : Hp} {σ : L2.St} : ∀ {as : List Arg} {vs : List V} {F : List Addr}, RGs K H σ as vs F → Mt H F
  | [], _, _, h => by simp only [RGs] at h; rw [h.2]; intro b z; simp at z
  | a :: r, _, _, h => by
    simp only [RGs] at h
    obtain ⟨v, vr, F1, F2, _, h1, h2, e⟩ := h
    subst e
    intro b z
    rcases List.mem_append.mp z with z | z
    · exact h1.mt b z
    · exact RGs.mt h2 b z
theorem RGs.keep {H H' : Hp} {σ : L2.St} : ∀ {as : List Arg} {vs : List V} {F : List Addr}, RGs K H σ as vs F → (∀ b o, H b = some o → (b ∈ F ∨ mutO o = false) → H' b = some o) → RGs K H' σ as vs F
  | [], _, _, h, _ => by simp only [RGs] at h ⊢; exact h
  | a :: r, _, _, h, k => by
    simp only [RGs] at h ⊢
    obtain ⟨v, vr, F1, F2, e1, h1, h2, e⟩ := h
    subst e
    exact ⟨v, vr, F1, F2, e1, h1.keep fun b o e m => k b o e (m.imp (fun z => List.mem_append_left _ z) id), RGs.keep h2 fun b o e m => k b o e (m.imp (fun z => List.mem_append_right _ z) id), rfl⟩

/-- a later stand: from (F, H) to (F1, H1) -/
theorem PostE.later {α : Type} {σ : L2.St} {H H1 : Hp} {F F1 : List Addr} {R R' : α → PEnv → Prop} (f : Fm F H F1 H1) {o : EO α} (h : PostE K mg W σ H F R o) (r : ∀ a e, R a e → R' a e) : PostE K mg W σ H1 F1 R' o := by
  cases o with
  | ok a e => exact r a e h
  | exc x e => exact fun cls d H' F' h1 h2 h3 h4 => h cls d H' F' h1 h2 (f.trans h3) h4
  | bad => exact h
theorem PostE.bind {α β : Type} {σ : L2.St} {H : Hp} {F : List Addr} {R : β → PEnv → Prop} {o : EO α} {f : α → PEnv → EO β} (h : PostE K mg W σ H F R (o.bind f)) : PostE K mg W σ H F (fun a e => PostE K mg W σ H F R (f a e)) o := by
  cases o with
  | ok a e => exact h
  | exc x e => exact h
  | bad => exact h
theorem PostE.imp {α : Type} {σ : L2.St} {H : Hp} {F : List Addr} {R R' : α → PEnv → Prop} {o : EO α} (h : PostE K mg W σ H F R o) (r : ∀ a e, R a e → R' a e) : PostE K mg W σ H F R' o := h.later Fm.refl r

theorem fm_left {F H H' : _} {Fv F' : List Addr} (f : Fm F H (Fv ++ F') H') : Fm F H F' H' := f.sub fun _ z => List.mem_append_right _ z
theorem nd_right {Fv F' : List Addr} (n : (Fv ++ F').Nodup) : F'.Nodup := (List.nodup_append.mp n).2.1
theorem nd_dis {Fv F' : List Addr} (n : (Fv ++ F').Nodup) : ∀ b ∈ Fv, b ∉ F' := fun b h1 h2 => (List.nodup_append.mp n).2.2 b h1 b h2 rfl
/-- what is fresh behind stands apart from what stood apart -/
theorem nd_later {H1 H2 : Hp} {Fv F1 G : List Addr} (n : (Fv ++ F1).Nodup) (mt : Mt H1 Fv) (f : Fm F1 H1 G H2) (g : G.Nodup) : (Fv ++ G).Nodup := by
  rw [List.nodup_append] at n ⊢
  refine ⟨n.1, g, fun a h1 b h2 e => ?_⟩
  subst e
  rcases f.fr a h2 with z | z
  · exact n.2.2 a h1 a z rfl
  · obtain ⟨o, e, _⟩ := mt a h1
    rw [e] at z; cases z
theorem keep_ap {H1 H2 : Hp} {Fv F1 G : List Addr} (n : (Fv ++ F1).Nodup) (mt : Mt H1 F1) (f : Fm F1 H1 G H2) : ∀ b o, H1 b = some o → (b ∈ Fv ∨ mutO o = false) → H2 b = some o := keep_of f.kp mt (nd_dis n)
/-- the frame of an owned value ahead, an owned value behind -/
theorem fm_both {H H1 H2 : Hp} {F Fv F1 G : List Addr} (f : Fm F H (Fv ++ F1) H1) (g : Fm F1 H1 G H2) (mt : Mt H1 Fv) : Fm F H (Fv ++ G) H2 where
  kp := ((fm_left f).trans g).kp
  fr := fun b z => by
    rcases List.mem_append.mp z with z | z
    · exact f.fr b (List.mem_append_left _ z)
    · exact ((fm_left f).trans g).fr b z

/-! ### arguments -/
def gRef (i : Nat) : GM := fun env => match env[i]? with
  | some (some _) => .ok (.ref i) env
  | _ => .bad
theorem im_gRef (i : Nat) : ImG K mg W (tVar i) (gRef i) := by
  intro σ H Q env F hr hn hp
  unfold gRef at hp
  split at hp
  · rename_i x e
    obtain ⟨v, F1, e1, _⟩ := hr.get e
    exact ⟨v, e1, hp v H [] F hr ⟨e1, rfl⟩ hn Fm.refl⟩
  · exact hp.elim
def gOwn (m : EM) : GM := fun env => (m env).bind fun x e => .ok (.own x) e
theorem im_gOwn {t : TE} {m : EM} (h : ImE K mg W t m) : ImG K mg W t (gOwn m) := by
  intro σ H Q env F hr hn hp
  exact h σ H Q env F hr hn (hp.bind.imp fun pv env' q => q)
def aNil : AM := fun env => .ok [] env
theorem im_aNil : ImA K mg W tNil aNil := by
  intro σ H Q env F hr hn hp
  exact hp [] H [] F hr ⟨rfl, rfl⟩ hn Fm.refl
def aCons (g : GM) (a : AM) : AM := fun env => (g env).bind fun x e => (a e).bind fun r e2 => .ok (x :: r) e2
theorem im_aCons {tg : TE} {ta : TA} {g : GM} {a : AM} (hg : ImG K mg W tg g) (ha : ImA K mg W ta a) : ImA K mg W (tCons tg ta) (aCons g a) := by
  intro σ H Q env F hr hn hp
  refine hg σ H _ env F hr hn (hp.bind.imp fun x e1 q1 v H1 Fv F1 hr1 hx hn1 hf1 => ?_)
  refine ha σ H1 _ e1 F1 hr1 (nd_right hn1) ((q1.bind.later (fm_left hf1)) fun r e2 q2 vs H2 Gv F2 hr2 hs hn2 hf2 => ?_)
  have hx2 := hx.keep (keep_ap hn1 hr1.mt hf2)
  refine q2 (v :: vs) H2 (Fv ++ Gv) F2 hr2 ⟨v, vs, Fv, Gv, rfl, hx2, hs, rfl⟩ ?_ ?_
  · rw [List.append_assoc]; exact nd_later hn1 hx.mt hf2 hn2
  · rw [List.append_assoc]; exact fm_both hf1 hf2 hx.mt

/-- owned arguments alone -/
def ownL : List Arg → Option (List PV)
  | [] => some []
  | .own x :: r => (ownL r).map (x :: ·)
  | .ref _ :: _ => none
theorem ownL_ok {H : Hp} {σ : L2.St} : ∀ {as : List Arg} {vs : List V} {F : List Addr} {xs : List PV}, RGs K H σ as vs F → ownL as = some xs → RVL K H xs vs F
  | [], _, _, xs, h, e => by
    simp only [RGs] at h
    simp only [ownL, Option.some.injEq] at e
    subst e
    simp only [RVL]; exact h
  | .own x :: r, _, _, xs, h, e => by
    simp only [RGs, RG] at h
    obtain ⟨v, vr, F1, F2, e1, h1, h2, e2⟩ := h
    simp only [ownL, Option.map_eq_some_iff] at e
    obtain ⟨ys, e3, e4⟩ := e
    subst e4
    simp only [RVL]
    exact ⟨v, vr, F1, F2, e1, h1, ownL_ok h2 e3, e2⟩
  | .ref _ :: _, _, _, xs, h, e => by simp [ownL] at e
/-- an argument as it is read -/
def seeG (env : PEnv) : Arg → Option PV
  | .own x => some x
  | .ref i => (env[i]?).join
theorem seeG_ok {H : Hp} {σ : L2.St} {env : PEnv} {G : List Addr} (hr : RE K H env σ G) : ∀ {a : Arg} {v : V} {F : List Addr} {x : PV}, RG K H σ a v F → seeG env a = some x → ∃ F', RV K H x v F'
  | .own x, v, F, y, h, e => by
    simp only [seeG, Option.some.injEq] at e
    subst e
    exact ⟨F, h⟩
  | .ref i, v, F, y, h, e => by
    simp only [seeG, Option.join_eq_some_iff] at e
    obtain ⟨v', F1, e1, h1⟩ := hr.get e
    rw [h.1] at e1
    cases e1
    exact ⟨F1, h1⟩
def seeL (env : PEnv) : List Arg → Option (List PV)
  | [] => some []
  | a :: r => (seeG env a).bind fun x => (seeL env r).map (x :: ·)
/-- read, borrowed -/
def RB (K : PySem.W.Frag) (H : Hp) : List PV → List V → Prop
  | [], vs => vs = []
  | x :: r, vs => ∃ v vr F, vs = v :: vr ∧ RV K H x v F ∧ RB K H r vr
theorem seeL_ok {H : Hp} {σ : L2.St} {env : PEnv} {G : List Addr} (hr : RE K H env σ G) : ∀ {as : List Arg} {vs : List V} {F : List Addr} {xs : List PV}, RGs K H σ as vs F → seeL env as = some xs → RB K H xs vs
  | [], _, _, xs, h, e => by
    simp only [RGs] at h
    simp only [seeL, Option.some.injEq] at e
    subst e
    exact h.1
  | a :: r, _, _, xs, h, e => by
    simp only [RGs] at h
    obtain ⟨v, vr, F1, F2, e1, h1, h2, e2⟩ := h
    simp only [seeL, Option.bind_eq_some_iff, Option.map_eq_some_iff] at e
    obtain ⟨x, ex, ys, ey, e4⟩ := e
    subst e4
    obtain ⟨F', hx⟩ := seeG_ok hr h1 ex
    exact ⟨v, vr, F', e1, hx, seeL_ok hr h2 ey⟩

/-! ### values by rules: what comes is new, or has no mutable part -/
/-- the promise of a fresh value -/
def New (K : PySem.W.Frag) (H : Hp) (Q : VK) (z : PV) : Prop := ∀ v H' Fz, Sm H H' → RV K H' z v Fz → Fz.Nodup → Fr H Fz → Q v H'
def NewO (K : PySem.W.Frag) (H : Hp) (Q : VK) : Option PV → Prop
  | some z => New K H Q z
  | none => False
def SimR2 (K : PySem.W.Frag) (r : R2) (f : PV → PV → Option PV) : Prop := ∀ x y H Q px py Fx Fy, RV K H px x Fx → RV K H py y Fy → NewO K H Q (f px py) → r x y H Q
def SimU (K : PySem.W.Frag) (r : V → Hp → VK → Prop) (f : PV → Option PV) : Prop := ∀ x H Q px Fx, RV K H px x Fx → NewO K H Q (f px) → r x H Q
def SimL (K : PySem.W.Frag) (r : List V → Hp → VK → Prop) (f : List PV → Option PV) : Prop := ∀ xs H Q ps, RB K H ps xs → NewO K H Q (f ps) → r xs H Q
/-- .. a part of what is read -/
def OldO (K : PySem.W.Frag) (H : Hp) (Q : VK) : Option PV → Prop
  | some z => ∀ v H' Fz, Sm H H' → RV K H' z v Fz → Q v H'
  | none => False
def SimB2 (K : PySem.W.Frag) (r : R2) (f : PV → PV → Option PV) : Prop := ∀ x y H Q px py Fx Fy, RV K H px x Fx → RV K H py y Fy → OldO K H Q (f px py) → r x y H Q
theorem OldO.new {H : Hp} {Q : VK} {o : Option PV} (h : OldO K H Q o) : NewO K H Q o := by
  cases o with
  | none => exact h
  | some z => exact fun v H' Fz s r _ _ => h v H' Fz s r
theorem SimR2.b {r : R2} {f : PV → PV → Option PV} (h : SimR2 K r f) : SimB2 K r f := fun x y H Q px py Fx Fy h1 h2 q => h x y H Q px py Fx Fy h1 h2 q.new
/-- .. but only if it has no mutable part -/
def immO (o : Option PV) : Option PV := match o with
  | some z => if z.imm = true then some z else none
  | none => none
theorem immO_old {H : Hp} {Q : VK} {o : Option PV} (h : NewO K H Q (immO o)) : OldO K H Q o := by
  cases o with
  | none => exact h
  | some z =>
    unfold immO at h
    by_cases hz : z.imm = true
    · simp only [hz, if_true] at h
      intro v H' Fz s r
      have e := RV.imm hz r
      subst e
      exact h v H' [] s r List.nodup_nil (fun b z => by simp at z)
    · simp only [hz] at h
      exact h.elim
theorem SimB2.i {r : R2} {f : PV → PV → Option PV} (h : SimB2 K r f) : SimR2 K r (fun x y => immO (f x y)) := fun x y H Q px py Fx Fy h1 h2 q => h x y H Q px py Fx Fy h1 h2 (immO_old q)

def ofO (o : Option PV) (e : PEnv) : EO PV := match o with
  | some z => .ok z e
  | none => .bad
@[simp] theorem ofO_some (z : PV) (e : PEnv) : ofO (some z) e = .ok z e := rfl
@[simp] theorem ofO_none (e : PEnv) : ofO none e = .bad := rfl
/-- the end of a rule by values -/
theorem fin_new {σ : L2.St} {H H1 : Hp} {F F1 : List Addr} {env : PEnv} {Q : VK} {o : Option PV} (hr : RE K H1 env σ F1) (hn : F1.Nodup) (f : Fm F H F1 H1)
    (hp : PostE K mg W σ H F (fun pv env' => ∀ v H' Fv F', RE K H' env' σ F' → RV K H' pv v Fv → (Fv ++ F').Nodup → Fm F H (Fv ++ F') H' → Q v H') (ofO o env)) : NewO K H1 Q o := by
  cases o with
  | none => exact hp
  | some z =>
    intro v H' Fz s r nz fz
    refine hp v H' Fz F1 (hr.sm s) r ?_ ?_
    · rw [List.nodup_append]
      refine ⟨nz, hn, fun a h1 b h2 e => ?_⟩
      subst e
      obtain ⟨ob, e, _⟩ := hr.mt a h2
      rw [fz a h1] at e; cases e
    · refine f.trans (Fm.of_sm s fun b z => ?_)
      rcases List.mem_append.mp z with z | z
      · exact .inr (fz b z)
      · exact .inl z
/-- two operands -/
def eOp (f : PV → PV → Option PV) (a b : GM) : EM := fun env => (a env).bind fun x e1 => (b e1).bind fun y e2 =>
  ofO ((seeG e2 x).bind fun p => (seeG e2 y).bind fun q => f p q) e2
theorem im_op {r : R2} {f : PV → PV → Option PV} {ta tb : TE} {a b : GM} (hs : SimR2 K r f) (ha : ImG K mg W ta a) (hb : ImG K mg W tb b) : ImE K mg W (tOp r ta tb) (eOp f a b) := by
  intro σ H Q env F hr hn hp
  refine ha σ H _ env F hr hn (hp.bind.imp fun x e1 q1 v H1 Fv F1 hr1 hx hn1 hf1 => ?_)
  refine hb σ H1 _ e1 F1 hr1 (nd_right hn1) ((q1.bind.later (fm_left hf1)) fun y e2 q2 u H2 Gv F2 hr2 hy hn2 hf2 => ?_)
  have hx2 := hx.keep (keep_ap hn1 hr1.mt hf2)
  cases ex : seeG e2 x with
  | none => rw [ex] at q2; exact q2.elim
  | some p =>
    cases ey : seeG e2 y with
    | none => rw [ex, ey] at q2; exact q2.elim
    | some q =>
      rw [ex, ey] at q2
      obtain ⟨Fx, rx⟩ := seeG_ok hr2 hx2 ex
      obtain ⟨Fy, ry⟩ := seeG_ok hr2 hy ey
      exact hs v u H2 Q p q Fx Fy rx ry (fin_new hr2 (nd_right hn2) (fm_left hf2) (q2.later (fm_left hf1) fun _ _ z v' H' Fv' F' a b c d => z v' H' Fv' F' a b c ((fm_left hf1).trans d)))
def eUn (f : PV → Option PV) (a : GM) : EM := fun env => (a env).bind fun x e1 => ofO ((seeG e1 x).bind f) e1
theorem im_un {r : V → Hp → VK → Prop} {f : PV → Option PV} {ta : TE} {a : GM} (hs : SimU K r f) (ha : ImG K mg W ta a) : ImE K mg W (tUn r ta) (eUn f a) := by
  intro σ H Q env F hr hn hp
  refine ha σ H _ env F hr hn (hp.bind.imp fun x e1 q1 v H1 Fv F1 hr1 hx hn1 hf1 => ?_)
  cases ex : seeG e1 x with
  | none => rw [ex] at q1; exact q1.elim
  | some p =>
    rw [ex] at q1
    obtain ⟨Fx, rx⟩ := seeG_ok hr1 hx ex
    exact hs v H1 Q p Fx rx (fin_new hr1 (nd_right hn1) (fm_left hf1) q1)
/-- a call by values (of a builtin, a type) -/
def eCl (f : List PV → Option PV) (a : AM) : EM := fun env => (a env).bind fun as e1 => ofO ((seeL e1 as).bind f) e1
theorem im_cl {r : List V → Hp → VK → Prop} {f : List PV → Option PV} {ta : TA} {a : AM} (hs : SimL K r f) (ha : ImA K mg W ta a) : ImE K mg W (fun σ H Q => ta σ H fun vs H1 => r vs H1 Q) (eCl f a) := by
  intro σ H Q env F hr hn hp
  refine ha σ H _ env F hr hn (hp.bind.imp fun as e1 q1 vs H1 Fv F1 hr1 hx hn1 hf1 => ?_)
  cases ex : seeL e1 as with
  | none => rw [ex] at q1; exact q1.elim
  | some ps =>
    rw [ex] at q1
    exact hs vs H1 Q ps (seeL_ok hr1 hx ex) (fin_new hr1 (nd_right hn1) (fm_left hf1) q1)

/-! ### reading alone -/
def rVar (i : Nat) : RM := fun env => (env[i]?).join
theorem im_rVar (i : Nat) : ImR K (tVar i) (rVar i) := by
  intro σ H Q env F hr hp
  unfold rVar at hp
  split at hp
  · rename_i pv e
    rw [Option.join_eq_some_iff] at e
    obtain ⟨v, F1, e1, h1⟩ := hr.get e
    exact ⟨v, e1, hp v H F1 (fun _ _ z => z) h1⟩
  · exact hp.elim
def rC (x : PV) : RM := fun _ => some x
def constV : PV → Option V
  | .non => some .non
  | .bl b => some (.bl b)
  | .int i => some (.int i)
  | .str x => some (.str x)
  | _ => none
theorem constV_ok {H : Hp} {x : PV} {v : V} (h : constV x = some v) : RV K H x v [] := by
  cases x <;> simp [constV] at h <;> subst h <;> simp [RV]
theorem im_rC {x : PV} {v : V} (h : constV x = some v := by rfl) : ImR K (tC v) (rC x) := by
  intro σ H Q env F hr hp
  exact hp v H [] (fun _ _ z => z) (constV_ok h)
def rOp (f : PV → PV → Option PV) (a b : RM) : RM := fun env => (a env).bind fun x => (b env).bind fun y => f x y
theorem im_rOp {r : R2} {f : PV → PV → Option PV} {ta tb : TE} {a b : RM} (hs : SimB2 K r f) (ha : ImR K ta a) (hb : ImR K tb b) : ImR K (tOp r ta tb) (rOp f a b) := by
  intro σ H Q env F hr hp
  unfold rOp at hp
  refine ha σ H _ env F hr ?_
  cases ea : a env with
  | none => rw [ea] at hp; exact hp
  | some x =>
    rw [ea] at hp
    intro v H1 Fv s1 rx
    refine hb σ H1 _ env F (hr.sm s1) ?_
    cases eb : b env with
    | none => rw [eb] at hp; exact hp
    | some y =>
      rw [eb] at hp
      intro u H2 Fu s2 ry
      refine hs v u H2 Q x y Fv Fu (rx.sm s2) ry ?_
      cases ef : f x y with
      | none => simp only [Option.bind_some, ef] at hp
      | some z =>
        simp only [Option.bind_some, ef] at hp
        exact fun w' H3 Fw s3 rw' => hp w' H3 Fw ((s1.trans s2).trans s3) rw'
def rUn (f : PV → Option PV) (a : RM) : RM := fun env => (a env).bind f
theorem im_rUn {r : V → Hp → VK → Prop} {f : PV → Option PV} {ta : TE} {a : RM} (hs : SimU K r f) (ha : ImR K ta a) : ImR K (tUn r ta) (rUn f a) := by
  intro σ H Q env F hr hp
  unfold rUn at hp
  refine ha σ H _ env F hr ?_
  cases ea : a env with
  | none => rw [ea] at hp; exact hp
  | some x =>
    rw [ea] at hp
    intro v H1 Fv s1 rx
    refine hs v H1 Q x Fv rx ?_
    cases ef : f x with
    | none => simp only [Option.bind_some, ef] at hp
    | some z =>
      simp only [Option.bind_some, ef] at hp
      exact fun w' H3 Fw s3 rw' _ _ => hp w' H3 Fw (s1.trans s3) rw'
/-- .. as a value: it must have no mutable part -/
def eR (m : RM) : EM := fun env => ofO (immO (m env)) env
theorem im_eR {t : TE} {m : RM} (h : ImR K t m) : ImE K mg W t (eR m) := by
  intro σ H Q env F hr hn hp
  unfold eR at hp
  refine h σ H Q env F hr ?_
  have z := immO_old (fin_new (K := K) hr hn Fm.refl hp)
  cases e : m env with
  | none => rw [e] at z; exact z
  | some pv => rw [e] at z; exact z
/-- a constant -/
def eC (x : PV) : EM := fun env => .ok x env
theorem im_eC {x : PV} {v : V} (h : constV x = some v := by rfl) : ImE K mg W (tC v) (eC x) := by
  intro σ H Q env F hr hn hp
  exact hp v H [] F hr (constV_ok h) hn Fm.refl
/-- a name: copied where it has no mutable part, else taken out -/
def eVar (i : Nat) : EM := fun env => match env[i]? with
  | some (some x) => if x.imm = true then .ok x env else .ok x (env.set i none)
  | _ => .bad
theorem im_eVar (i : Nat) : ImE K mg W (tVar i) (eVar i) := by
  intro σ H Q env F hr hn hp
  unfold eVar at hp
  split at hp
  · rename_i x e
    by_cases hx : x.imm = true
    · rw [if_pos hx] at hp
      obtain ⟨v, F1, e1, h1⟩ := hr.get e
      have e2 := RV.imm hx h1
      subst e2
      exact ⟨v, e1, hp v H [] F hr h1 hn Fm.refl⟩
    · rw [if_neg hx] at hp
      obtain ⟨v, F1, F2, e1, h1, h2, p⟩ := hr.take e
      exact ⟨v, e1, hp v H F1 F2 h2 h1 (nodup_of_perm p.symm hn) ⟨Kp.refl, fun b z => .inl (p.symm.subset z)⟩⟩
  · exact hp.elim

/-! ### tests -/
/-- a value that is a bool, as a test -/
def bE (m : EM) : BM := fun env => (m env).bind fun x e => match x with
  | .bl b => .ok b e
  | _ => .bad
theorem im_bE {t : TE} {m : EM} (h : ImE K mg W t m) : ImT K mg W (fun σ H Q => t σ H fun x H' => ∃ k, x = .bl k ∧ Q k H') (bE m) := by
  intro σ H Q env F hr hn hp
  refine h σ H _ env F hr hn (hp.bind.imp fun x e1 q1 v H1 Fv F1 hr1 hx hn1 hf1 => ?_)
  cases x with
  | bl b =>
    simp only [RV] at hx
    exact ⟨b, hx.1, q1 H1 F1 hr1 (nd_right hn1) (fm_left hf1)⟩
  | _ => exact q1.elim
def bAnd (a b : BM) : BM := fun env => (a env).bind fun x e => if x = true then b e else .ok false e
theorem im_bAnd {ta tb : TT} {a b : BM} (ha : ImT K mg W ta a) (hb : ImT K mg W tb b) : ImT K mg W (tAnd ta tb) (bAnd a b) := by
  intro σ H Q env F hr hn hp
  refine ha σ H _ env F hr hn (hp.bind.imp fun x e1 q1 H1 F1 hr1 hn1 hf1 => ?_)
  cases x with
  | true =>
    rw [if_pos rfl] at q1 ⊢
    exact hb σ H1 _ e1 F1 hr1 hn1 (q1.later hf1 fun y e2 q2 H2 F2 hr2 hn2 hf2 => q2 H2 F2 hr2 hn2 (hf1.trans hf2))
  | false =>
    rw [if_neg Bool.false_ne_true] at q1 ⊢
    exact q1 H1 F1 hr1 hn1 hf1
def bOr (a b : BM) : BM := fun env => (a env).bind fun x e => if x = true then .ok true e else b e
theorem im_bOr {ta tb : TT} {a b : BM} (ha : ImT K mg W ta a) (hb : ImT K mg W tb b) : ImT K mg W (tOr ta tb) (bOr a b) := by
  intro σ H Q env F hr hn hp
  refine ha σ H _ env F hr hn (hp.bind.imp fun x e1 q1 H1 F1 hr1 hn1 hf1 => ?_)
  cases x with
  | true =>
    rw [if_pos rfl] at q1 ⊢
    exact q1 H1 F1 hr1 hn1 hf1
  | false =>
    rw [if_neg Bool.false_ne_true] at q1 ⊢
    exact hb σ H1 _ e1 F1 hr1 hn1 (q1.later hf1 fun y e2 q2 H2 F2 hr2 hn2 hf2 => q2 H2 F2 hr2 hn2 (hf1.trans hf2))
def bNot (a : BM) : BM := fun env => (a env).bind fun x e => .ok (!x) e
theorem im_bNot {ta : TT} {a : BM} (ha : ImT K mg W ta a) : ImT K mg W (tNot ta) (bNot a) := by
  intro σ H Q env F hr hn hp
  exact ha σ H _ env F hr hn (hp.bind.imp fun x e1 q1 H1 F1 hr1 hn1 hf1 => q1 H1 F1 hr1 hn1 hf1)
/-- .. as values -/
def eAnd (a b : EM) : EM := fun env => (a env).bind fun x e => match x with
  | .bl true => b e
  | .bl false => .ok (.bl false) e
  | _ => .bad
theorem im_eAnd {ta tb : TE} {a b : EM} (ha : ImE K mg W ta a) (hb : ImE K mg W tb b) : ImE K mg W (tAndV ta tb) (eAnd a b) := by
  intro σ H Q env F hr hn hp
  refine ha σ H _ env F hr hn (hp.bind.imp fun x e1 q1 v H1 Fv F1 hr1 hx hn1 hf1 => ?_)
  cases x with
  | bl c =>
    simp only [RV] at hx
    refine ⟨c, hx.1, ?_⟩
    cases c with
    | true =>
      rw [if_pos rfl]
      exact hb σ H1 _ e1 F1 hr1 (nd_right hn1) (q1.later (fm_left hf1) fun y e2 q2 v2 H2 Fv2 F2 hr2 hv2 hn2 hf2 => q2 v2 H2 Fv2 F2 hr2 hv2 hn2 ((fm_left hf1).trans hf2))
    | false =>
      rw [if_neg Bool.false_ne_true]
      exact q1 (.bl false) H1 [] F1 hr1 (by simp [RV]) (nd_right hn1) (fm_left hf1)
  | _ => exact q1.elim
def eOr (a b : EM) : EM := fun env => (a env).bind fun x e => match x with
  | .bl true => .ok (.bl true) e
  | .bl false => b e
  | _ => .bad
theorem im_eOr {ta tb : TE} {a b : EM} (ha : ImE K mg W ta a) (hb : ImE K mg W tb b) : ImE K mg W (tOrV ta tb) (eOr a b) := by
  intro σ H Q env F hr hn hp
  refine ha σ H _ env F hr hn (hp.bind.imp fun x e1 q1 v H1 Fv F1 hr1 hx hn1 hf1 => ?_)
  cases x with
  | bl c =>
    simp only [RV] at hx
    refine ⟨c, hx.1, ?_⟩
    cases c with
    | false =>
      rw [if_neg Bool.false_ne_true]
      exact hb σ H1 _ e1 F1 hr1 (nd_right hn1) (q1.later (fm_left hf1) fun y e2 q2 v2 H2 Fv2 F2 hr2 hv2 hn2 hf2 => q2 v2 H2 Fv2 F2 hr2 hv2 hn2 ((fm_left hf1).trans hf2))
    | true =>
      rw [if_pos rfl]
      exact q1 (.bl true) H1 [] F1 hr1 (by simp [RV]) (nd_right hn1) (fm_left hf1)
  | _ => exact q1.elim
def eNot (a : EM) : EM := fun env => (a env).bind fun x e => match x with
  | .bl c => .ok (.bl (!c)) e
  | _ => .bad
theorem im_eNot {ta : TE} {a : EM} (ha : ImE K mg W ta a) : ImE K mg W (tNotV ta) (eNot a) := by
  intro σ H Q env F hr hn hp
  refine ha σ H _ env F hr hn (hp.bind.imp fun x e1 q1 v H1 Fv F1 hr1 hx hn1 hf1 => ?_)
  cases x with
  | bl c =>
    simp only [RV] at hx
    exact ⟨c, hx.1, q1 (.bl (!c)) H1 [] F1 hr1 (by simp [RV]) (nd_right hn1) (fm_left hf1)⟩
  | _ => exact q1.elim
def eIf (c : BM) (a b : EM) : EM := fun env => (c env).bind fun x e => if x = true then a e else b e
theorem im_eIf {tc : TT} {ta tb : TE} {c : BM} {a b : EM} (hc : ImT K mg W tc c) (ha : ImE K mg W ta a) (hb : ImE K mg W tb b) : ImE K mg W (tIf tc ta tb) (eIf c a b) := by
  intro σ H Q env F hr hn hp
  refine hc σ H _ env F hr hn (hp.bind.imp fun x e1 q1 H1 F1 hr1 hn1 hf1 => ?_)
  cases x with
  | true =>
    rw [if_pos rfl] at q1 ⊢
    exact ha σ H1 _ e1 F1 hr1 hn1 (q1.later hf1 fun y e2 q2 v2 H2 Fv2 F2 hr2 hv2 hn2 hf2 => q2 v2 H2 Fv2 F2 hr2 hv2 hn2 (hf1.trans hf2))
  | false =>
    rw [if_neg Bool.false_ne_true] at q1 ⊢
    exact hb σ H1 _ e1 F1 hr1 hn1 (q1.later hf1 fun y e2 q2 v2 H2 Fv2 F2 hr2 hv2 hn2 hf2 => q2 v2 H2 Fv2 F2 hr2 hv2 hn2 (hf1.trans hf2))

/-! ### displays -/
def eTup (a : AM) : EM := fun env => (a env).bind fun as e => match ownL as with
  | some xs => if xs.length ≤ sizeLine then .ok (.tup xs) e else .bad
  | none => .bad
theorem im_eTup {ta : TA} {a : AM} (ha : ImA K mg W ta a) : ImE K mg W (tTup ta) (eTup a) := by
  intro σ H Q env F hr hn hp
  refine ha σ H _ env F hr hn (hp.bind.imp fun as e1 q1 vs H1 Fv F1 hr1 hx hn1 hf1 => ?_)
  cases ex : ownL as with
  | none => rw [ex] at q1; exact q1.elim
  | some xs =>
    rw [ex] at q1
    have hl := ownL_ok hx ex
    by_cases hz : xs.length ≤ sizeLine
    · simp only [if_pos hz] at q1
      refine ⟨by rw [hl.length]; exact hz, fun p np => ?_⟩
      have s := sm_upd (o := .tup vs) np
      refine q1 (.ref p) _ Fv F1 (hr1.sm s) ?_ hn1 (hf1.trans (Fm.of_sm s fun b z => .inl z))
      simp only [RV]
      exact ⟨p, vs, rfl, .inl (.inl upd_same), hl.sm s⟩
    · simp only [if_neg hz] at q1
      exact q1.elim
def eLst (a : AM) : EM := fun env => (a env).bind fun as e => match ownL as with
  | some xs => if xs.length ≤ sizeLine then .ok (.lst xs) e else .bad
  | none => .bad
theorem im_eLst {ta : TA} {a : AM} (ha : ImA K mg W ta a) : ImE K mg W (tLst ta) (eLst a) := by
  intro σ H Q env F hr hn hp
  refine ha σ H _ env F hr hn (hp.bind.imp fun as e1 q1 vs H1 Fv F1 hr1 hx hn1 hf1 => ?_)
  cases ex : ownL as with
  | none => rw [ex] at q1; exact q1.elim
  | some xs =>
    rw [ex] at q1
    have hl := ownL_ok hx ex
    by_cases hz : xs.length ≤ sizeLine
    · simp only [if_pos hz] at q1
      refine ⟨by rw [hl.length]; exact hz, fun p np => ?_⟩
      have s := sm_upd (o := .lst vs) np
      have hp' : p ∉ Fv ++ F1 := fun z => by
        rcases List.mem_append.mp z with z | z
        · obtain ⟨o, e, _⟩ := hx.mt p z; rw [np] at e; cases e
        · obtain ⟨o, e, _⟩ := hr1.mt p z; rw [np] at e; cases e
      refine q1 (.ref p) _ (p :: Fv) F1 (hr1.sm s) ?_ ?_ (hf1.trans (Fm.of_sm s fun b z => ?_))
      · simp only [RV]
        exact ⟨p, vs, Fv, rfl, upd_same, hl.sm s, rfl⟩
      · rw [List.cons_append]; exact List.nodup_cons.mpr ⟨hp', hn1⟩
      · rw [List.cons_append] at z
        rcases List.mem_cons.mp z with z | z
        · exact .inr (by rw [z]; exact np)
        · exact .inl z
    · simp only [if_neg hz] at q1
      exact q1.elim
end
end PVL

/-! P3: statements, targets, loops, comprehensions. -/
namespace PVL
open PySem PySem.Spec L2

inductive SO where
  | next (env : PEnv)
  | ret (x : PV) (env : PEnv)
  | brk (env : PEnv)
  | cont (env : PEnv)
  | exc (x : PX) (env : PEnv)
  | bad
abbrev SM := PEnv → SO
structure Ag (S : List Nat) (σ σ' : L2.St) : Prop where
  len : σ'.length = σ.length
  at_ : ∀ j, j ∉ S → σ'[j]? = σ[j]?
theorem Ag.refl {S : List Nat} {σ : L2.St} : Ag S σ σ := ⟨rfl, fun _ _ => rfl⟩
theorem Ag.trans {S : List Nat} {a b c : L2.St} (x : Ag S a b) (y : Ag S b c) : Ag S a c := ⟨y.len.trans x.len, fun j h => (y.at_ j h).trans (x.at_ j h)⟩
theorem Ag.mono {S T : List Nat} {a b : L2.St} (x : Ag S a b) (h : ∀ j ∈ S, j ∈ T) : Ag T a b := ⟨x.len, fun j n => x.at_ j fun z => n (h j z)⟩
theorem Ag.set {S : List Nat} {σ : L2.St} {i : Nat} {y : Option V} (h : i ∈ S) : Ag S σ (σ.set i y) := ⟨by simp, fun j n => by
  rw [List.getElem?_set_ne]
  intro e; subst e; exact n h⟩

def EO.toS {α : Type} (x : EO α) (f : α → PEnv → SO) : SO := match x with
  | .ok a e => f a e
  | .exc x e => .exc x e
  | .bad => .bad
@[simp] theorem EO.toS_ok {α : Type} (a : α) (e : PEnv) (f : α → PEnv → SO) : (EO.ok a e).toS f = f a e := rfl
@[simp] theorem EO.toS_exc {α : Type} (x : PX) (e : PEnv) (f : α → PEnv → SO) : (EO.exc x e : EO α).toS f = .exc x e := rfl
@[simp] theorem EO.toS_bad {α : Type} (f : α → PEnv → SO) : (EO.bad : EO α).toS f = .bad := rfl

section
variable (K : PySem.W.Frag) (mg : Str → Option Value) (W : WX) (S : List Nat)
def PostS (D : Ends) (σ : L2.St) (H : Hp) (F : List Addr) : SO → Prop
  | .next e => ∀ σ' H' F', RE K H' e σ' F' → F'.Nodup → Fm F H F' H' → Ag S σ σ' → D.nx σ' H'
  | .ret x e => ∀ v σ' H' Fv F', RE K H' e σ' F' → RV K H' x v Fv → (Fv ++ F').Nodup → Fm F H (Fv ++ F') H' → Ag S σ σ' → D.rt v H'
  | .brk e => ∀ σ' H' F', RE K H' e σ' F' → F'.Nodup → Fm F H F' H' → Ag S σ σ' → D.bk σ' H'
  | .cont e => ∀ σ' H' F', RE K H' e σ' F' → F'.Nodup → Fm F H F' H' → Ag S σ σ' → D.ct σ' H'
  | .exc x e => ∀ cls d σ' H' F', RE K H' e σ' F' → F'.Nodup → Fm F H F' H' → Ag S σ σ' → RX K mg x cls d H' → W cls d σ' H'
  | .bad => False
def ImS (t : TS) (m : SM) : Prop := ∀ D σ H env F, RE K H env σ F → F.Nodup → PostS K mg W S D σ H F (m env) → t D σ H
end

section
variable {K : PySem.W.Frag} {mg : Str → Option Value} {W : WX} {S S1 S2 T : List Nat}
theorem PostS.later {D : Ends} {σ σ1 : L2.St} {H H1 : Hp} {F F1 : List Addr} (f : Fm F H F1 H1) (a : Ag S σ σ1) {o : SO} (h : PostS K mg W S D σ H F o) : PostS K mg W S D σ1 H1 F1 o := by
  cases o with
  | next e => exact fun σ' H' F' x1 x2 x3 x4 => h σ' H' F' x1 x2 (f.trans x3) (a.trans x4)
  | ret x e => exact fun v σ' H' Fv F' x1 x2 x3 x4 x5 => h v σ' H' Fv F' x1 x2 x3 (f.trans x4) (a.trans x5)
  | brk e => exact fun σ' H' F' x1 x2 x3 x4 => h σ' H' F' x1 x2 (f.trans x3) (a.trans x4)
  | cont e => exact fun σ' H' F' x1 x2 x3 x4 => h σ' H' F' x1 x2 (f.trans x3) (a.trans x4)
  | exc x e => exact fun cls d σ' H' F' x1 x2 x3 x4 x5 => h cls d σ' H' F' x1 x2 (f.trans x3) (a.trans x4) x5
  | bad => exact h
theorem PostS.mono {D : Ends} {σ : L2.St} {H : Hp} {F : List Addr} (hs : ∀ j ∈ S, j ∈ T) {o : SO} (h : PostS K mg W T D σ H F o) : PostS K mg W S D σ H F o := by
  cases o with
  | next e => exact fun σ' H' F' x1 x2 x3 x4 => h σ' H' F' x1 x2 x3 (x4.mono hs)
  | ret x e => exact fun v σ' H' Fv F' x1 x2 x3 x4 x5 => h v σ' H' Fv F' x1 x2 x3 x4 (x5.mono hs)
  | brk e => exact fun σ' H' F' x1 x2 x3 x4 => h σ' H' F' x1 x2 x3 (x4.mono hs)
  | cont e => exact fun σ' H' F' x1 x2 x3 x4 => h σ' H' F' x1 x2 x3 (x4.mono hs)
  | exc x e => exact fun cls d σ' H' F' x1 x2 x3 x4 x5 => h cls d σ' H' F' x1 x2 x3 (x4.mono hs) x5
  | bad => exact h
theorem ImS.mono {t : TS} {m : SM} (h : ImS K mg W S t m) (hs : ∀ j ∈ S, j ∈ T) : ImS K mg W T t m := fun D σ H env F hr hn hp => h D σ H env F hr hn (hp.mono hs)
/-- an expression within a statement -/
theorem PostS.ofE {α : Type} {D : Ends} {σ : L2.St} {H : Hp} {F : List Addr} {o : EO α} {f : α → PEnv → SO} (h : PostS K mg W S D σ H F (o.toS f)) : PostE K mg W σ H F (fun a e => PostS K mg W S D σ H F (f a e)) o := by
  cases o with
  | ok a e => exact h
  | exc x e => exact fun cls d H' F' x1 x2 x3 x4 => h cls d σ H' F' x1 x2 x3 Ag.refl x4
  | bad => exact h

theorem PostS.ofE2 {α : Type} {D : Ends} {σ σ1 : L2.St} {H H1 : Hp} {F F1 : List Addr} {o : EO α} {f : α → PEnv → SO} (h : PostS K mg W S D σ H F (o.toS f)) (hf : Fm F H F1 H1) (ag : Ag S σ σ1) : PostE K mg W σ1 H1 F1 (fun a e => PostS K mg W S D σ H F (f a e)) o := by
  cases o with
  | ok a e => exact h
  | exc x e => exact fun cls d H' F' x1 x2 x3 x4 => h cls d σ1 H' F' x1 x2 (hf.trans x3) ag x4
  | bad => exact h

/-! ### blocks -/
def sNil : SM := fun env => .next env
theorem im_sNil : ImS K mg W S tNext sNil := fun D σ H env F hr hn hp => hp σ H F hr hn Fm.refl Ag.refl
def sSeq (a b : SM) : SM := fun env => match a env with
  | .next e => b e
  | o => o
theorem im_sSeq {t u : TS} {a b : SM} (ha : ImS K mg W S1 t a) (hb : ImS K mg W S2 u b) : ImS K mg W (S1 ++ S2) (tSeq t u) (sSeq a b) := by
  have ha := ha.mono (T := S1 ++ S2) fun j z => List.mem_append_left _ z
  have hb := hb.mono (T := S1 ++ S2) fun j z => List.mem_append_right _ z
  intro D σ H env F hr hn hp
  refine ha { D with nx := u D } σ H env F hr hn ?_
  unfold sSeq at hp
  cases e : a env with
  | next e1 =>
    rw [e] at hp
    exact fun σ' H' F' x1 x2 x3 x4 => hb D σ' H' e1 F' x1 x2 (hp.later x3 x4)
  | ret x e1 => rw [e] at hp; exact hp
  | brk e1 => rw [e] at hp; exact hp
  | cont e1 => rw [e] at hp; exact hp
  | exc x e1 => rw [e] at hp; exact hp
  | bad => rw [e] at hp; exact hp
def sBrk : SM := fun env => .brk env
theorem im_sBrk : ImS K mg W S tBreak sBrk := fun D σ H env F hr hn hp => hp σ H F hr hn Fm.refl Ag.refl
def sCont : SM := fun env => .cont env
theorem im_sCont : ImS K mg W S tCont sCont := fun D σ H env F hr hn hp => hp σ H F hr hn Fm.refl Ag.refl
def sBad : SM := fun _ => .bad
theorem im_sBad : ImS K mg W S tNever sBad := fun D σ H env F hr hn hp => hp
def sExpr (m : EM) : SM := fun env => (m env).toS fun _ e => .next e
theorem im_sExpr {t : TE} {m : EM} (h : ImE K mg W t m) : ImS K mg W S (tDrop t) (sExpr m) := by
  intro D σ H env F hr hn hp
  exact h σ H _ env F hr hn (hp.ofE.imp fun x e1 q1 v H1 Fv F1 hr1 hx hn1 hf1 => q1 σ H1 F1 hr1 (nd_right hn1) (fm_left hf1) Ag.refl)
def sRet (m : EM) : SM := fun env => (m env).toS fun x e => .ret x e
theorem im_sRet {t : TE} {m : EM} (h : ImE K mg W t m) : ImS K mg W S (tRet t) (sRet m) := by
  intro D σ H env F hr hn hp
  exact h σ H _ env F hr hn (hp.ofE.imp fun x e1 q1 v H1 Fv F1 hr1 hx hn1 hf1 => q1 v σ H1 Fv F1 hr1 hx hn1 hf1 Ag.refl)
def sRetN : SM := fun env => .ret .non env
theorem im_sRetN : ImS K mg W S tRetN sRetN := by
  intro D σ H env F hr hn hp
  exact hp .non σ H [] F hr (by simp [RV]) hn Fm.refl Ag.refl
def sIf (c : BM) (a b : SM) : SM := fun env => (c env).toS fun x e => if x = true then a e else b e
theorem im_sIf {tc : TT} {t u : TS} {c : BM} {a b : SM} (hc : ImT K mg W tc c) (ha : ImS K mg W S1 t a) (hb : ImS K mg W S2 u b) : ImS K mg W (S1 ++ S2) (tIfS tc t u) (sIf c a b) := by
  have ha := ha.mono (T := S1 ++ S2) fun j z => List.mem_append_left _ z
  have hb := hb.mono (T := S1 ++ S2) fun j z => List.mem_append_right _ z
  intro D σ H env F hr hn hp
  refine hc σ H _ env F hr hn (hp.ofE.imp fun x e1 q1 H1 F1 hr1 hn1 hf1 => ?_)
  cases x with
  | true =>
    rw [if_pos rfl] at q1 ⊢
    exact ha D σ H1 e1 F1 hr1 hn1 (q1.later hf1 Ag.refl)
  | false =>
    rw [if_neg Bool.false_ne_true] at q1 ⊢
    exact hb D σ H1 e1 F1 hr1 hn1 (q1.later hf1 Ag.refl)

/-! ### targets -/
abbrev TM := PV → PEnv → Option PEnv
def ImTg (K : PySem.W.Frag) (S : List Nat) (g : TG) (m : TM) : Prop := ∀ x v σ H env F Fx Q, RE K H env σ F → RV K H x v Fx → (Fx ++ F).Nodup →
  (match m x env with | some e => ∀ σ' F', RE K H e σ' F' → F'.Nodup → (∀ b ∈ F', b ∈ Fx ++ F) → Ag S σ σ' → Q σ' H | none => False) → g v σ H Q
def ImTgs (K : PySem.W.Frag) (S : List Nat) (g : TGs) (m : List PV → PEnv → Option PEnv) : Prop := ∀ xs vs σ H env F Fx Q, RE K H env σ F → RVL K H xs vs Fx → (Fx ++ F).Nodup →
  (match m xs env with | some e => ∀ σ' F', RE K H e σ' F' → F'.Nodup → (∀ b ∈ F', b ∈ Fx ++ F) → Ag S σ σ' → Q σ' H | none => False) → g vs σ H Q
def tgN (i : Nat) : TM := fun x env => if i < env.length then some (env.set i (some x)) else none
theorem im_tgN (i : Nat) : ImTg K [i] (gName i) (tgN i) := by
  intro x v σ H env F Fx Q hr hx hn hp
  unfold tgN at hp
  by_cases hl : i < env.length
  · simp only [hl, if_true] at hp
    obtain ⟨F', a, F1, b, c⟩ := hr.store hl hx
    refine hp _ F' a (nodup_of_perm c ?_) (fun z hz => ?_) (Ag.set (by simp))
    · exact hn.sublist (List.Sublist.append (List.Sublist.refl Fx) b)
    · rcases List.mem_append.mp (c.subset hz) with y | y
      · exact List.mem_append_left _ y
      · exact List.mem_append_right _ (b.subset y)
  · simp only [hl, if_false] at hp
def tgsNil : List PV → PEnv → Option PEnv := fun xs env => match xs with
  | [] => some env
  | _ => none
theorem im_tgsNil : ImTgs K S gNil tgsNil := by
  intro xs vs σ H env F Fx Q hr hx hn hp
  unfold tgsNil at hp
  cases xs with
  | nil =>
    simp only [RVL] at hx
    exact ⟨hx.1, hp σ F hr (nd_right hn) (fun b z => List.mem_append_right _ z) Ag.refl⟩
  | cons a b => exact hp.elim
def tgsCons (t : TM) (u : List PV → PEnv → Option PEnv) : List PV → PEnv → Option PEnv := fun xs env => match xs with
  | x :: r => (t x env).bind fun e => u r e
  | [] => none
theorem im_tgsCons {g : TG} {gs : TGs} {t : TM} {u : List PV → PEnv → Option PEnv} (ht : ImTg K S1 g t) (hu : ImTgs K S2 gs u) : ImTgs K (S1 ++ S2) (gCons g gs) (tgsCons t u) := by
  intro xs vs σ H env F Fx Q hr hx hn hp
  unfold tgsCons at hp
  cases xs with
  | nil => exact hp.elim
  | cons x r =>
    simp only [RVL] at hx
    obtain ⟨v, vr, F1, F2, e1, h1, h2, eF⟩ := hx
    subst e1; subst eF
    have n1 : (F1 ++ F).Nodup := by
      rw [List.append_assoc, List.nodup_append] at hn
      have n2 := (List.nodup_append.mp hn.2.1)
      rw [List.nodup_append]
      exact ⟨hn.1, n2.2.1, fun a ha b hb => hn.2.2 a ha b (List.mem_append_right _ hb)⟩
    refine ⟨v, vr, rfl, ht x v σ H env F F1 _ hr h1 n1 ?_⟩
    cases e : t x env with
    | none => simp only [e, Option.bind_none] at hp
    | some env1 =>
      simp only [e, Option.bind_some] at hp
      intro σ1 G1 r1 ng sub ag
      have nG : (F2 ++ G1).Nodup := by
        rw [List.append_assoc, List.nodup_append] at hn
        have n2 := (List.nodup_append.mp hn.2.1)
        rw [List.nodup_append]
        refine ⟨n2.1, ng, fun a ha b hb => ?_⟩
        rcases List.mem_append.mp (sub b hb) with z | z
        · exact fun q => hn.2.2 b z a (List.mem_append_left _ ha) q.symm
        · exact n2.2.2 a ha b z
      refine hu r vr σ1 H env1 G1 F2 Q r1 h2 nG ?_
      cases e2 : u r env1 with
      | none => simp only [e2] at hp
      | some env2 =>
        simp only [e2] at hp
        intro σ2 G2 r2 ng2 sub2 ag2
        refine hp σ2 G2 r2 ng2 (fun b hb => ?_) ((ag.mono fun j z => List.mem_append_left _ z).trans (ag2.mono fun j z => List.mem_append_right _ z))
        rcases List.mem_append.mp (sub2 b hb) with z | z
        · exact List.mem_append_left _ (List.mem_append_right _ z)
        · rcases List.mem_append.mp (sub b z) with y | y
          · exact List.mem_append_left _ (List.mem_append_left _ y)
          · exact List.mem_append_right _ y
def tgT (n : Nat) (u : List PV → PEnv → Option PEnv) : TM := fun x env => match x with
  | .tup xs => if xs.length = n then u xs env else none
  | _ => none
theorem im_tgT {n : Nat} {gs : TGs} {u : List PV → PEnv → Option PEnv} (hu : ImTgs K S gs u) : ImTg K S (gTup K n gs) (tgT n u) := by
  intro x v σ H env F Fx Q hr hx hn hp
  unfold tgT at hp
  cases x with
  | tup xs =>
    simp only [RV] at hx
    obtain ⟨a, vs, e, q, hl⟩ := hx
    by_cases hz : xs.length = n
    · simp only [hz, if_true] at hp
      exact ⟨a, vs, e, q, by rw [hl.length, hz], hu xs vs σ H env F Fx Q hr hl hn hp⟩
    · simp only [hz, if_false] at hp
  | _ => exact hp.elim
def sAsg (m : EM) (t : TM) : SM := fun env => (m env).toS fun x e => match t x e with
  | some e2 => .next e2
  | none => .bad
theorem im_sAsg {te : TE} {m : EM} {g : TG} {t : TM} (he : ImE K mg W te m) (ht : ImTg K S g t) : ImS K mg W S (tAsg te g) (sAsg m t) := by
  intro D σ H env F hr hn hp
  refine he σ H _ env F hr hn (hp.ofE.imp fun x e1 q1 v H1 Fv F1 hr1 hx hn1 hf1 => ?_)
  refine ht x v σ H1 e1 F1 Fv D.nx hr1 hx hn1 ?_
  cases e : t x e1 with
  | none => simp only [e] at q1; exact q1.elim
  | some e2 =>
    simp only [e] at q1
    intro σ' F' r' n' sub ag
    exact q1 σ' H1 F' r' n' (hf1.sub sub) ag
/-- a, b = x, y -/
def sPar (i j : Nat) (a : AM) : SM := fun env => (a env).toS fun as e => match ownL as with
  | some [x, y] => if i < e.length ∧ j < e.length then .next ((e.set i (some x)).set j (some y)) else .bad
  | _ => .bad
theorem im_sPar {i j : Nat} {ta : TA} {a : AM} (hij : i ≠ j) (ha : ImA K mg W ta a) : ImS K mg W [i, j] (tPar i j ta) (sPar i j a) := by
  intro D σ H env F hr hn hp
  refine ha σ H _ env F hr hn (hp.ofE.imp fun as e1 q1 vs H1 Fv F1 hr1 hx hn1 hf1 => ?_)
  cases ex : ownL as with
  | none => rw [ex] at q1; exact q1.elim
  | some xs =>
    rw [ex] at q1
    match xs, ex, q1 with
    | [], _, q1 => exact q1.elim
    | [_], _, q1 => exact q1.elim
    | _ :: _ :: _ :: _, _, q1 => exact q1.elim
    | [x, y], ex, q1 =>
      have hl := ownL_ok hx ex
      simp only [RVL] at hl
      obtain ⟨v, _, G1, _, rfl, h1, ⟨w, _, G2, _, rfl, h2, ⟨rfl, rfl⟩, rfl⟩, rfl⟩ := hl
      by_cases hz : i < e1.length ∧ j < e1.length
      · simp only [hz, and_self, if_true] at q1
        refine ⟨v, w, rfl, ?_⟩
        obtain ⟨Fa, ra, A1, sA, pA⟩ := hr1.store hz.1 h1
        obtain ⟨Fb, rb, B1, sB, pB⟩ := ra.store (i := j) (x := y) (v := w) (by simpa using hz.2) h2
        have nn : (G1 ++ (G2 ++ F1)).Nodup := by simpa [List.append_assoc] using hn1
        have n3 : (G2 ++ (G1 ++ A1)).Nodup := by
          refine nodup_of_perm (l := G2 ++ (G1 ++ A1)) (m := G1 ++ (G2 ++ A1)) ?_ (nn.sublist ?_)
          · rw [← List.append_assoc, ← List.append_assoc]; exact List.Perm.append_right _ List.perm_append_comm
          · exact List.Sublist.append (List.Sublist.refl _) (List.Sublist.append (List.Sublist.refl _) sA)
        have n4 : (G2 ++ Fa).Nodup := nodup_of_perm (List.Perm.append_left _ pA) n3
        have nB : Fb.Nodup := nodup_of_perm pB (n4.sublist (List.Sublist.append (List.Sublist.refl _) sB))
        refine q1 _ H1 Fb rb nB (hf1.sub fun b hb => ?_) ((Ag.set (by simp)).trans (Ag.set (by simp)))
        rcases List.mem_append.mp (pB.subset hb) with z | z
        · exact List.mem_append_left _ (List.mem_append_right _ (List.mem_append_left _ z))
        · rcases List.mem_append.mp (pA.subset (sB.subset z)) with y' | y'
          · exact List.mem_append_left _ (List.mem_append_left _ y')
          · exact List.mem_append_right _ (sA.subset y')
      · simp only [hz, if_false] at q1
        exact q1.elim

/-! ### what a loop walks -/
/-- the items that an iterator will give while what stands at Fi stands -/
def WalkP (K : PySem.W.Frag) (J : It) (items : List PV) (Fi : List Addr) (H : Hp) : Prop :=
  ∃ (G : Hp → Prop) (Y : Nat → Hp → V → Hp → Prop), Walk J items.length G Y ∧ G H ∧ (∀ H1 H2, G H1 → (∀ b o, H1 b = some o → (b ∈ Fi ∨ mutO o = false) → H2 b = some o) → G H2) ∧ Mt H Fi ∧
    ∀ i H1 x H2, G H1 → Y i H1 x H2 → Sm H1 H2 ∧ ∀ p, items[i]? = some p → RV K H2 p x []
def ImI (K : PySem.W.Frag) (mg : Str → Option Value) (W : WX) (wi : TI) (m : PEnv → EO (List PV)) : Prop := ∀ σ H R env F, RE K H env σ F → F.Nodup →
  PostE K mg W σ H F (fun items env' => ∀ J H' Fi F', RE K H' env' σ F' → (Fi ++ F').Nodup → Fm F H (Fi ++ F') H' → WalkP K J items Fi H' → R J H') (m env) → wi σ H R
/-- a loop's turns -/
def forL (t : TM) (body : SM) : List PV → SM
  | [], env => .next env
  | x :: r, env => match t x env with
    | none => .bad
    | some e => match body e with
      | .next e => forL t body r e
      | .cont e => forL t body r e
      | .brk e => .next e
      | o => o
/-- what is done to the environment at a loop's every end -/
def SO.mapE (f : PEnv → PEnv) : SO → SO
  | .next e => .next (f e)
  | .ret x e => .ret x (f e)
  | .brk e => .brk (f e)
  | .cont e => .cont (f e)
  | .exc x e => .exc x (f e)
  | .bad => .bad
theorem drop_cons {α : Type} {l : List α} {i : Nat} (h : i < l.length) : l.drop i = l[i] :: l.drop (i + 1) := List.drop_eq_getElem_cons h
/-- the environment is put right again, with what was held back -/
def Fix (K : PySem.W.Frag) (S : List Nat) (σ0 : L2.St) (Fi : List Addr) (G : Hp → Prop) (fix : PEnv → PEnv) : Prop :=
  ∀ e σ H F, RE K H e σ F → (Fi ++ F).Nodup → G H → Ag S σ0 σ → ∃ F', RE K H (fix e) σ F' ∧ F'.Nodup ∧ ∀ b ∈ F', b ∈ Fi ++ F
theorem im_forG {g : TG} {tb : TS} {t : TM} {body : SM} {fix : PEnv → PEnv} (ht : ImTg K S1 g t) (hb : ImS K mg W S2 tb body)
    {D : Ends} {σ0 : L2.St} {H0 : Hp} {F0 : List Addr} {J : It} {items : List PV} {e1 : PEnv} {H1 : Hp} {F1 Fi : List Addr} {G : Hp → Prop} {Y : Nat → Hp → V → Hp → Prop}
    (w : Walk J items.length G Y) (hr1 : RE K H1 e1 σ0 F1) (hn1 : (Fi ++ F1).Nodup) (hf1 : Fm F0 H0 (Fi ++ F1) H1) (g1 : G H1) (gk : ∀ H1 H2, G H1 → (∀ b o, H1 b = some o → (b ∈ Fi ∨ mutO o = false) → H2 b = some o) → G H2) (mi : Mt H1 Fi)
    (yy : ∀ i H1 x H2, G H1 → Y i H1 x H2 → Sm H1 H2 ∧ ∀ p, items[i]? = some p → RV K H2 p x [])
    (hfix : Fix K (S1 ++ S2) σ0 Fi G fix) (q1 : PostS K mg W (S1 ++ S2) D σ0 H0 F0 ((forL t body items e1).mapE fix)) :
    ∃ W : Nat → Nat → L2.St → Hp → Prop, (∃ m, W 0 m σ0 H1) ∧ ∀ i m σ H, W i m σ H →
      (J.stop i H ∧ D.nx σ H) ∨ (J.go i H ∧ ∃ N : L2.St → Hp → Prop, (∀ σ' H', N σ' H' → ∃ m', m' < m ∧ W (i + 1) m' σ' H') ∧ ∀ x H', J.yld i H x H' → g x σ H' fun σ2 H2 => tb { D with nx := N, ct := N, bk := D.nx } σ2 H2) := by
  have hb := hb.mono (T := S1 ++ S2) fun j z => List.mem_append_right _ z
  refine for_it w (fun i σ H => ∃ env F, RE K H env σ F ∧ (Fi ++ F).Nodup ∧ Fm F0 H0 (Fi ++ F) H ∧ G H ∧ Mt H Fi ∧ Ag (S1 ++ S2) σ0 σ ∧ PostS K mg W (S1 ++ S2) D σ0 H0 F0 ((forL t body (items.drop i) env).mapE fix))
    ⟨e1, F1, hr1, hn1, hf1, g1, mi, Ag.refl, by simpa using q1⟩ (fun i σ H _ ⟨_, _, _, _, _, z, _⟩ => z) ?_ ?_
  · rintro i x σ H H' hlt ⟨env, F, hr, hn, hf, gH, mt, ag, post⟩ y
    obtain ⟨s1, rx⟩ := yy i H x H' gH y
    have hx : items[i]? = some items[i] := by simp [hlt]
    have rx := rx _ hx
    have hr' := hr.sm s1
    have f' : Fm F0 H0 (Fi ++ F) H' := hf.trans (Fm.of_sm s1 fun b z => .inl z)
    rw [drop_cons hlt] at post
    simp only [forL] at post
    refine ht items[i] x σ H' env F [] _ hr' rx (by simpa using nd_right hn) ?_
    cases e : t items[i] env with
    | none => simp only [e, SO.mapE] at post; exact post.elim
    | some e2 =>
      simp only [e] at post
      intro σ2 F2 r2 n2 sub ag2
      have sub : ∀ b ∈ F2, b ∈ F := fun b z => by simpa using sub b z
      have ag3 : Ag (S1 ++ S2) σ0 σ2 := ag.trans (ag2.mono fun j z => List.mem_append_left _ z)
      have nF2 : (Fi ++ F2).Nodup := by
        rw [List.nodup_append] at hn ⊢
        exact ⟨hn.1, n2, fun a ha b hb => hn.2.2 a ha b (sub b hb)⟩
      have gH' : G H' := gk H H' gH fun b o e _ => s1 b o e
      have mt' : Mt H' Fi := fun b z => by obtain ⟨o, e, m⟩ := mt b z; exact ⟨o, s1 b o e, m⟩
      have f2 : Fm F0 H0 (Fi ++ F2) H' := f'.sub fun b z => by
        rcases List.mem_append.mp z with z | z
        · exact List.mem_append_left _ z
        · exact List.mem_append_right _ (sub b z)
      -- behind the body
      have fr3 : ∀ {H3 : Hp} {F3 : List Addr}, Fm F2 H' F3 H3 → Fm F0 H0 (Fi ++ F3) H3 := fun f3 => fm_both f2 f3 mt'
      have fx : ∀ {e3 : PEnv} {σ3 : L2.St} {H3 : Hp} {F3 : List Addr}, RE K H3 e3 σ3 F3 → F3.Nodup → Fm F2 H' F3 H3 → Ag (S1 ++ S2) σ2 σ3 → ∃ F', RE K H3 (fix e3) σ3 F' ∧ F'.Nodup ∧ Fm F0 H0 F' H3 := by
        intro e3 σ3 H3 F3 r3 n3 f3 a3
        have k3 := keep_ap nF2 r2.mt f3
        obtain ⟨F', x1, x2, x3⟩ := hfix e3 σ3 H3 F3 r3 (nd_later nF2 mt' f3 n3) (gk H' H3 gH' k3) (ag3.trans a3)
        exact ⟨F', x1, x2, (fr3 f3).sub x3⟩
      have on : ∀ {e3 : PEnv} {σ3 : L2.St} {H3 : Hp} {F3 : List Addr}, RE K H3 e3 σ3 F3 → F3.Nodup → Fm F2 H' F3 H3 → Ag (S1 ++ S2) σ2 σ3 → PostS K mg W (S1 ++ S2) D σ0 H0 F0 ((forL t body (items.drop (i + 1)) e3).mapE fix) →
          ∃ env F, RE K H3 env σ3 F ∧ (Fi ++ F).Nodup ∧ Fm F0 H0 (Fi ++ F) H3 ∧ G H3 ∧ Mt H3 Fi ∧ Ag (S1 ++ S2) σ0 σ3 ∧ PostS K mg W (S1 ++ S2) D σ0 H0 F0 ((forL t body (items.drop (i + 1)) env).mapE fix) := by
        intro e3 σ3 H3 F3 r3 n3 f3 a3 p3
        have k3 := keep_ap nF2 r2.mt f3
        refine ⟨e3, F3, r3, nd_later nF2 mt' f3 n3, fr3 f3, gk H' H3 gH' k3, fun b z => ?_, ag3.trans a3, p3⟩
        obtain ⟨o, e, m⟩ := mt' b z; exact ⟨o, k3 b o e (.inl z), m⟩
      refine hb _ σ2 H' e2 F2 r2 n2 ?_
      cases eb : body e2 with
      | next e3 =>
        simp only [eb] at post
        exact fun σ3 H3 F3 x1 x2 x3 x4 => on x1 x2 x3 x4 post
      | cont e3 =>
        simp only [eb] at post
        exact fun σ3 H3 F3 x1 x2 x3 x4 => on x1 x2 x3 x4 post
      | brk e3 =>
        simp only [eb, SO.mapE] at post
        intro σ3 H3 F3 x1 x2 x3 x4
        obtain ⟨F', y1, y2, y3⟩ := fx x1 x2 x3 x4
        exact post σ3 H3 F' y1 y2 y3 (ag3.trans x4)
      | ret v e3 =>
        simp only [eb, SO.mapE] at post
        intro v σ3 H3 Fv F3 x1 x2 x3 x4 x5
        have k3 := keep_ap nF2 r2.mt x4
        have n5 := nd_later nF2 mt' x4 x3
        have n6 : (Fi ++ F3).Nodup := n5.sublist (List.Sublist.append (List.Sublist.refl _) (List.sublist_append_right _ _))
        obtain ⟨F', y1, y2, y3⟩ := hfix e3 σ3 H3 F3 x1 n6 (gk H' H3 gH' k3) (ag3.trans x5)
        refine post v σ3 H3 Fv F' y1 x2 ?_ ((fr3 x4).sub fun b z => ?_) (ag3.trans x5)
        · rw [List.nodup_append]
          refine ⟨(List.nodup_append.mp x3).1, y2, fun a ha b hb e => ?_⟩
          subst e
          rcases List.mem_append.mp (y3 a hb) with z | z
          · exact (List.nodup_append.mp n5).2.2 a z a (List.mem_append_left _ ha) rfl
          · exact nd_dis x3 a ha z
        · rcases List.mem_append.mp z with z | z
          · exact List.mem_append_right _ (List.mem_append_left _ z)
          · rcases List.mem_append.mp (y3 b z) with q | q
            · exact List.mem_append_left _ q
            · exact List.mem_append_right _ (List.mem_append_right _ q)
      | exc v e3 =>
        simp only [eb, SO.mapE] at post
        intro cls d σ3 H3 F3 x1 x2 x3 x4 x5
        obtain ⟨F', y1, y2, y3⟩ := fx x1 x2 x3 x4
        exact post cls d σ3 H3 F' y1 y2 y3 (ag3.trans x4) x5
      | bad => simp only [eb, SO.mapE] at post; exact post.elim
  · rintro σ H ⟨env, F, hr, hn, hf, gH, mt, ag, post⟩
    rw [List.drop_length] at post
    obtain ⟨F', y1, y2, y3⟩ := hfix env σ H F hr hn gH ag
    exact post σ H F' y1 y2 (hf.sub y3) ag
theorem mapE_id : ∀ o : SO, o.mapE id = o := fun o => by cases o <;> rfl
def sFor (it : PEnv → EO (List PV)) (t : TM) (body : SM) : SM := fun env => (it env).toS fun items e => forL t body items e
theorem im_sFor {wi : TI} {g : TG} {tb : TS} {it : PEnv → EO (List PV)} {t : TM} {body : SM} (hi : ImI K mg W wi it) (ht : ImTg K S1 g t) (hb : ImS K mg W S2 tb body) : ImS K mg W (S1 ++ S2) (tFor wi g tb) (sFor it t body) := by
  intro D σ0 H0 env0 F0 hr0 hn0 hp
  refine hi σ0 H0 _ env0 F0 hr0 hn0 (hp.ofE.imp fun items e1 q1 J H1 Fi F1 hr1 hn1 hf1 wk => ?_)
  obtain ⟨G, Y, w, g1, gk, mi, yy⟩ := wk
  exact im_forG (fix := id) ht hb w hr1 hn1 hf1 g1 gk mi yy (fun e σ H F r n _ _ => ⟨F, r, nd_right n, fun b z => List.mem_append_right _ z⟩) (by rw [mapE_id]; exact q1)
/-- a loop over a list that a name holds: it is held back meanwhile -/
def sForV (i : Nat) (t : TM) (body : SM) : SM := fun env => match env[i]? with
  | some (some (.lst xs)) => if immL xs = true then (forL t body xs (env.set i none)).mapE (fun e => e.set i (some (.lst xs))) else .bad
  | _ => .bad
theorem im_sForV {i : Nat} {g : TG} {tb : TS} {t : TM} {body : SM} (ht : ImTg K S1 g t) (hb : ImS K mg W S2 tb body) (hi : i ∉ S1 ++ S2) : ImS K mg W (S1 ++ S2) (tFor (iList K (tVar i)) g tb) (sForV i t body) := by
  intro D σ0 H0 env0 F0 hr0 hn0 hp
  unfold sForV at hp
  split at hp
  · rename_i xs e
    by_cases him : immL xs = true
    · rw [if_pos him] at hp
      obtain ⟨v, Fi, F2, e1, h1, h2, p⟩ := hr0.take e
      simp only [RV] at h1
      obtain ⟨a, vs, F', rfl, ha, hl, rfl⟩ := h1
      have eF' := RVL.imm him hl
      subst eF'
      have n0 : ([a] ++ F2).Nodup := nodup_of_perm p.symm hn0
      refine ⟨_, e1, a, rfl, ⟨vs, SqL.of ha⟩, ?_⟩
      refine im_forG (Fi := [a]) (F1 := F2) (G := fun H => H a = some (.lst vs) ∧ RVL K H xs vs []) (Y := fun i H x H' => H' = H ∧ vs[i]? = some x) ht hb ?_ h2 n0 ⟨Kp.refl, fun b z => .inl (p.symm.subset z)⟩ ⟨ha, hl⟩ ?_ ?_ ?_ ?_ hp
      · rw [← hl.length]; exact (walk_list (K := K) (a := a) (xs := vs)).mono (fun H z => SqL.of z.1) fun _ _ _ _ _ _ y => y
      · exact fun H1 H2 z k => ⟨k a _ z.1 (.inl (by simp)), z.2.keep fun b o e m => k b o e (.inr (by simpa using m))⟩
      · intro b z; simp at z; subst z; exact ⟨_, ha, rfl⟩
      · rintro j H3 x H4 z ⟨rfl, y⟩
        exact ⟨fun _ _ e => e, fun q eq => by
          obtain ⟨v, F1, a, b, c⟩ := z.2.get eq
          rw [y] at a; cases a
          have : F1 = [] := List.eq_nil_iff_forall_not_mem.mpr fun b z => by simpa using c b z
          rw [this] at b; exact b⟩
      · intro e2 σ H F hr hn hG ag
        obtain ⟨F1, r1, s1⟩ := hr.forget (i := i)
        have hσ : σ[i]? = some (some (V.ref a)) := by rw [ag.at_ i hi]; exact e1
        have hlen : i < e2.length := by
          rw [← hr.len]
          exact (List.getElem?_eq_some_iff.mp hσ).1
        have rv : RV K H (.lst xs) (.ref a) [a] := by simp only [RV]; exact ⟨a, vs, [], rfl, hG.1, hG.2, rfl⟩
        obtain ⟨F', r', p'⟩ := r1.put hlen hσ rv
        refine ⟨F', r', nodup_of_perm p' (hn.sublist (List.Sublist.append (List.Sublist.refl _) s1)), fun b hb => ?_⟩
        rcases List.mem_append.mp (p'.subset hb) with z | z
        · exact List.mem_append_left _ z
        · exact List.mem_append_right _ (s1.subset z)
    · rw [if_neg him] at hp; exact hp.elim
  · exact hp.elim
/-! sources -/
theorem RVL.at_imm {H : Hp} {xs : List PV} {vs : List V} {F : List Addr} (hi : immL xs = true) (h : RVL K H xs vs F) {i : Nat} {p : PV} {x : V} (e1 : xs[i]? = some p) (e2 : vs[i]? = some x) : RV K H p x [] := by
  obtain ⟨v, F1, a, b, c⟩ := h.get e1
  rw [e2] at a; cases a
  have e := RVL.imm hi h
  subst e
  have : F1 = [] := List.eq_nil_iff_forall_not_mem.mpr fun b z => by simpa using c b z
  rw [this] at b; exact b
/-- a value that is walked: its items must have no mutable part -/
def itemsOf : PV → Option (List PV)
  | .lst xs => if immL xs = true then some xs else none
  | .frz xs => if immL xs = true then some xs else none
  | _ => none
def itemsOfT : PV → Option (List PV)
  | .tup xs => if immL xs = true then some xs else none
  | _ => none
/-- for .. in e, e a list -/
def itL (m : EM) : PEnv → EO (List PV) := fun env => (m env).bind fun x e => match itemsOf x with
  | some xs => .ok xs e
  | none => .bad
theorem im_itL {te : TE} {m : EM} (h : ImE K mg W te m) : ImI K mg W (iList K te) (itL m) := by
  intro σ H R env F hr hn hp
  refine h σ H _ env F hr hn (hp.bind.imp fun x e1 q1 v H1 Fv F1 hr1 hx hn1 hf1 => ?_)
  cases e : itemsOf x with
  | none => simp only [e] at q1; exact q1.elim
  | some xs =>
    simp only [e] at q1
    cases x with
    | lst ys =>
      simp only [itemsOf] at e
      split at e
      · rename_i hi
        cases e
        simp only [RV] at hx
        obtain ⟨a, vs, F', e2, h2, hl, eF⟩ := hx
        have eF' := RVL.imm hi hl
        subst eF'; subst eF
        refine ⟨a, e2, ⟨vs, SqL.of h2⟩, q1 _ H1 [a] F1 hr1 hn1 hf1 ⟨fun H => H a = some (.lst vs) ∧ RVL K H xs vs [], _, by rw [← hl.length]; exact (walk_list (K := K) (a := a) (xs := vs)).mono (fun H z => SqL.of z.1) fun _ _ _ _ _ _ y => y, ⟨h2, hl⟩, ?_, ?_, ?_⟩⟩
        · exact fun H1 H2 z k => ⟨k a _ z.1 (.inl (by simp)), z.2.keep fun b o e m => k b o e (.inr (by simpa using m))⟩
        · intro b z; simp at z; subst z; exact ⟨_, h2, rfl⟩
        · rintro i H3 x H4 z ⟨rfl, y⟩
          exact ⟨fun _ _ e => e, fun p ep => z.2.at_imm hi ep y⟩
      · cases e
    | frz ys =>
      simp only [itemsOf] at e
      split at e
      · rename_i hi
        cases e
        simp only [RV] at hx
        obtain ⟨a, vs, e2, h2, hl, eF⟩ := hx
        subst eF
        refine ⟨a, e2, ⟨vs, h2.toL⟩, q1 _ H1 [] F1 hr1 hn1 hf1 ⟨fun H => SqF K H a vs ∧ RVL K H xs vs [], _, by rw [← hl.length]; exact (walk_list (K := K) (a := a) (xs := vs)).mono (fun H z => z.1.toL) fun _ _ _ _ _ _ y => y, ⟨h2, hl⟩, ?_, ?_, ?_⟩⟩
        · exact fun H1 H2 z k => ⟨z.1.kp fun b o e m => k b o e (.inr m), z.2.keep fun b o e m => k b o e (.inr (by simpa using m))⟩
        · intro b z; simp at z
        · rintro i H3 x H4 z ⟨rfl, y⟩
          exact ⟨fun _ _ e => e, fun p ep => z.2.at_imm hi ep y⟩
      · cases e
    | _ => simp [itemsOf] at e
/-- .. a tuple -/
def itT (m : EM) : PEnv → EO (List PV) := fun env => (m env).bind fun x e => match itemsOfT x with
  | some xs => .ok xs e
  | none => .bad
theorem im_itT {te : TE} {m : EM} (h : ImE K mg W te m) : ImI K mg W (iTup K te) (itT m) := by
  intro σ H R env F hr hn hp
  refine h σ H _ env F hr hn (hp.bind.imp fun x e1 q1 v H1 Fv F1 hr1 hx hn1 hf1 => ?_)
  cases e : itemsOfT x with
  | none => simp only [e] at q1; exact q1.elim
  | some xs =>
    simp only [e] at q1
    cases x with
    | tup ys =>
      simp only [itemsOfT] at e
      split at e
      · rename_i hi
        cases e
        simp only [RV] at hx
        obtain ⟨a, vs, e2, h2, hl⟩ := hx
        have eF' := RVL.imm hi hl
        subst eF'
        refine ⟨a, e2, ⟨vs, h2⟩, q1 _ H1 [] F1 hr1 hn1 hf1 ⟨fun H => SqT K H a vs ∧ RVL K H xs vs [], _, by rw [← hl.length]; exact (walk_tup (K := K) (a := a) (xs := vs)).mono (fun H z => z.1) fun _ _ _ _ _ _ y => y, ⟨h2, hl⟩, ?_, ?_, ?_⟩⟩
        · exact fun H1 H2 z k => ⟨SqT.kp z.1 fun b o e m => k b o e (.inr m), z.2.keep fun b o e m => k b o e (.inr (by simpa using m))⟩
        · intro b z; simp at z
        · rintro i H3 x H4 z ⟨rfl, y⟩
          exact ⟨fun _ _ e => e, fun p ep => z.2.at_imm hi ep y⟩
      · cases e
    | _ => simp [itemsOfT] at e
/-- range -/
def rngL (lo : Int) (n : Nat) : List PV := (List.range n).map fun k => .int (lo + (k : Nat))
theorem ints_len (lo : Int) (n : Nat) : (rngL lo n).length = n := by simp [rngL]
theorem ints_get {lo : Int} {n i : Nat} {p : PV} (h : (rngL lo n)[i]? = some p) : p = .int (lo + (i : Nat)) := by
  simp only [rngL, List.getElem?_map, Option.map_eq_some_iff] at h
  obtain ⟨k, hk, e⟩ := h
  have e2 : k = i := by
    have := List.getElem?_eq_some_iff.mp hk
    obtain ⟨_, e⟩ := this
    simpa using e.symm
  rw [← e, e2]
theorem walk_rngL {H : Hp} (lo : Int) (n : Nat) : WalkP K (Itr lo n) (rngL lo n) [] H := by
  refine ⟨fun _ => True, _, by rw [ints_len]; exact walk_range, trivial, fun _ _ _ _ => trivial, by intro b z; simp at z, ?_⟩
  rintro i H1 x H2 _ ⟨rfl, rfl⟩
  exact ⟨fun _ _ e => e, fun p ep => by rw [ints_get ep]; simp [RV]⟩
/-- a bound that range takes (told so that the kernel is stuck on a symbolic one) -/
def rngOk (j : Int) : Prop := j.natAbs < 2 ^ 62
instance (j : Int) : Decidable (rngOk j) := Nat.decLt _ _
theorem rngOk_of {j : Int} (h1 : -1000000000 ≤ j) (h2 : j ≤ 1000000000) : rngOk j := by
  unfold rngOk
  omega
def itR1 (a : AM) : PEnv → EO (List PV) := fun env => (a env).bind fun as e => match seeL e as with
  | some [.int j] => if rngOk j then .ok (rngL 0 j.toNat) e else .bad
  | _ => .bad
theorem im_itR1 {ta : TA} {a : AM} (h : ImA K mg W ta a) : ImI K mg W (iRng1 ta) (itR1 a) := by
  intro σ H R env F hr hn hp
  refine h σ H _ env F hr hn (hp.bind.imp fun as e1 q1 vs H1 Fv F1 hr1 hx hn1 hf1 => ?_)
  cases es : seeL e1 as with
  | none => rw [es] at q1; exact q1.elim
  | some ps =>
    rw [es] at q1
    have hb := seeL_ok hr1 hx es
    split at q1
    · rename_i j ep
      cases ep
      simp only [RB, RV] at hb
      obtain ⟨v, _, _, rfl, ⟨rfl, _⟩, rfl⟩ := hb
      by_cases hj : rngOk j
      · simp only [hj, if_true] at q1
        have hj' : j.natAbs < 2 ^ 62 := hj
        exact ⟨j, rfl, by omega, by omega, q1 _ H1 [] F1 hr1 (nd_right hn1) (fm_left hf1) (walk_rngL 0 _)⟩
      · simp only [hj, if_false] at q1; exact q1.elim
    · exact q1.elim
def itR2 (a : AM) : PEnv → EO (List PV) := fun env => (a env).bind fun as e => match seeL e as with
  | some [.int i, .int j] => if rngOk i ∧ rngOk j then .ok (rngL i (j - i).toNat) e else .bad
  | _ => .bad
theorem im_itR2 {ta : TA} {a : AM} (h : ImA K mg W ta a) : ImI K mg W (iRng2 ta) (itR2 a) := by
  intro σ H R env F hr hn hp
  refine h σ H _ env F hr hn (hp.bind.imp fun as e1 q1 vs H1 Fv F1 hr1 hx hn1 hf1 => ?_)
  cases es : seeL e1 as with
  | none => rw [es] at q1; exact q1.elim
  | some ps =>
    rw [es] at q1
    have hb := seeL_ok hr1 hx es
    split at q1
    · rename_i i j ep
      cases ep
      simp only [RB, RV] at hb
      obtain ⟨v, _, _, rfl, ⟨rfl, _⟩, w, _, _, rfl, ⟨rfl, _⟩, rfl⟩ := hb
      by_cases hj : rngOk i ∧ rngOk j
      · simp only [hj, and_self, if_true] at q1
        have hi' : i.natAbs < 2 ^ 62 := hj.1
        have hj' : j.natAbs < 2 ^ 62 := hj.2
        exact ⟨i, j, rfl, ⟨by omega, by omega, by omega, by omega⟩, q1 _ H1 [] F1 hr1 (nd_right hn1) (fm_left hf1) (walk_rngL i _)⟩
      · simp only [hj, if_false] at q1; exact q1.elim
    · exact q1.elim

/-! ### while -/
def whileL (c : BM) (body : SM) : Nat → SM
  | 0, _ => .bad
  | n + 1, env => (c env).toS fun b e => if b = true then (match body e with
    | .next e => whileL c body n e
    | .cont e => whileL c body n e
    | .brk e => .next e
    | o => o) else .next e
theorem im_whileL {tc : TT} {tb : TS} {c : BM} {body : SM} (n : Nat) (hc : ImT K mg W tc c) (hb : ImS K mg W S tb body) : ImS K mg W S (tWhile tc tb) (whileL c body n) := by
  intro D σ0 H0 env0 F0 hr0 hn0 hp
  refine ⟨fun m σ H => ∃ env F, RE K H env σ F ∧ F.Nodup ∧ Fm F0 H0 F H ∧ Ag S σ0 σ ∧ PostS K mg W S D σ0 H0 F0 (whileL c body m env), ⟨n, env0, F0, hr0, hn0, Fm.refl, Ag.refl, hp⟩, ?_⟩
  rintro m σ H ⟨env, F, hr, hn, hf, ag, post⟩
  cases m with
  | zero => exact post.elim
  | succ m =>
    simp only [whileL] at post
    refine hc σ H _ env F hr hn ((post.ofE2 hf ag).imp fun b e1 q1 H1 F1 hr1 hn1 hf1 => ?_)
    cases b with
    | false =>
      rw [if_neg Bool.false_ne_true] at q1 ⊢
      exact q1 σ H1 F1 hr1 hn1 (hf.trans hf1) ag
    | true =>
      rw [if_pos rfl] at q1 ⊢
      refine ⟨fun σ' H' => ∃ env F, RE K H' env σ' F ∧ F.Nodup ∧ Fm F0 H0 F H' ∧ Ag S σ0 σ' ∧ PostS K mg W S D σ0 H0 F0 (whileL c body m env), fun σ' H' z => ⟨m, Nat.lt_succ_self m, z⟩, ?_⟩
      refine hb _ σ H1 e1 F1 hr1 hn1 ?_
      have hf2 := hf.trans hf1
      cases eb : body e1 with
      | next e3 =>
        simp only [eb] at q1
        exact fun σ3 H3 F3 x1 x2 x3 x4 => ⟨e3, F3, x1, x2, hf2.trans x3, ag.trans x4, q1⟩
      | cont e3 =>
        simp only [eb] at q1
        exact fun σ3 H3 F3 x1 x2 x3 x4 => ⟨e3, F3, x1, x2, hf2.trans x3, ag.trans x4, q1⟩
      | brk e3 =>
        simp only [eb] at q1
        exact fun σ3 H3 F3 x1 x2 x3 x4 => q1 σ3 H3 F3 x1 x2 (hf2.trans x3) (ag.trans x4)
      | ret v e3 =>
        simp only [eb] at q1
        exact fun v σ3 H3 Fv F3 x1 x2 x3 x4 x5 => q1 v σ3 H3 Fv F3 x1 x2 x3 (hf2.trans x4) (ag.trans x5)
      | exc v e3 =>
        simp only [eb] at q1
        exact fun cls d σ3 H3 F3 x1 x2 x3 x4 x5 => q1 cls d σ3 H3 F3 x1 x2 (hf2.trans x3) (ag.trans x4) x5
      | bad => simp only [eb] at q1; exact q1.elim
end
end PVL

/-! P4: comprehensions, methods that change a name's value, stores, calls, defs. -/
namespace PVL
open PySem PySem.Spec L2

section
variable {K : PySem.W.Frag} {mg : Str → Option Value} {W : WX} {S S1 S2 T : List Nat}
/-- only what env tells matters of σ -/
theorem RE.agree {H : Hp} : ∀ {env : PEnv} {σ σ' : L2.St} {F : List Addr}, RE K H env σ F → σ'.length = σ.length → (∀ (j : Nat) (x : PV), env[j]? = some (some x) → σ'[j]? = σ[j]?) → RE K H env σ' F
  | [], σ, σ', F, h, l, _ => by
    simp only [RE] at h ⊢
    rw [h.1] at l
    exact ⟨List.length_eq_zero_iff.mp l, h.2⟩
  | none :: e, σ, σ', F, h, l, k => by
    simp only [RE] at h ⊢
    obtain ⟨y, r, rfl, h⟩ := h
    cases σ' with
    | nil => simp at l
    | cons z r' => exact ⟨z, r', rfl, RE.agree h (by simpa using l) fun j x e => by simpa using k (j + 1) x (by simpa using e)⟩
  | some x :: e, σ, σ', F, h, l, k => by
    simp only [RE] at h ⊢
    obtain ⟨v, r, F1, F2, rfl, h1, h2, eF⟩ := h
    cases σ' with
    | nil => simp at l
    | cons z r' =>
      have z0 := k 0 x rfl
      simp at z0
      subst z0
      exact ⟨v, r', F1, F2, rfl, h1, RE.agree h2 (by simpa using l) fun j x e => by simpa using k (j + 1) x (by simpa using e), eF⟩
def envWipe (env : PEnv) : List Nat → PEnv
  | [] => env
  | v :: vs => (envWipe env vs).set v none
theorem envWipe_none {env : PEnv} {j : Nat} {x : PV} : ∀ {vs : List Nat}, j ∈ vs → (envWipe env vs)[j]? = some (some x) → False
  | [], h, _ => by simp at h
  | v :: vs, h, e => by
    simp only [envWipe] at e
    by_cases hj : j = v
    · subst hj
      rw [List.getElem?_set] at e
      simp at e
    · rw [List.getElem?_set_ne (Ne.symm hj)] at e
      exact envWipe_none (by simpa [hj] using h) e
theorem RE.wipe {H : Hp} {env : PEnv} {σ : L2.St} {F : List Addr} (h : RE K H env σ F) : ∀ vs : List Nat, ∃ F', RE K H (envWipe env vs) (L2.wipe σ vs) F' ∧ F'.Sublist F
  | [] => ⟨F, h, List.Sublist.refl _⟩
  | v :: vs => by
    obtain ⟨F1, a, b⟩ := RE.wipe h vs
    obtain ⟨F2, c, d⟩ := a.forget (i := v)
    exact ⟨F2, RE.anySlot c, d.trans b⟩
theorem wipe_in {σ : L2.St} {j : Nat} : ∀ {vs : List Nat}, j ∈ vs → j < σ.length → (L2.wipe σ vs)[j]? = some none
  | [], h, _ => by simp at h
  | v :: vs, h, l => by
    simp only [L2.wipe]
    by_cases hj : j = v
    · subst hj
      rw [List.getElem?_set_self (by rw [wipe_length]; exact l)]
    · rw [List.getElem?_set_ne (Ne.symm hj)]
      exact wipe_in (by simpa [hj] using h) l
theorem wipe_ag {σ σ2 : L2.St} {vs : List Nat} (a : Ag vs (L2.wipe σ vs) σ2) : L2.wipe σ2 vs = L2.wipe σ vs := by
  have ln : σ2.length = σ.length := by rw [a.len, wipe_length]
  apply List.ext_getElem?
  intro j
  by_cases hj : j ∈ vs
  · by_cases hl : j < σ.length
    · rw [wipe_in hj (by rw [ln]; exact hl), wipe_in hj hl]
    · rw [List.getElem?_eq_none (by rw [wipe_length]; omega), List.getElem?_eq_none (by rw [wipe_length]; omega)]
  · rw [wipe_out hj, a.at_ j hj]
theorem keep_upd {H : Hp} {p : Addr} {o o' : HO} {F : List Addr} (h : H p = some o) (m : mutO o = true) (n : p ∉ F) : ∀ b u, H b = some u → (b ∈ F ∨ mutO u = false) → upd H p o' b = some u := fun b u e q => by
  rw [upd_ne]
  · exact e
  · intro z; subst z
    rcases q with q | q
    · exact n q
    · rw [h] at e; cases e; rw [m] at q; cases q
def W0 : WX := fun _ _ _ _ => False

/-! ### comprehensions -/
def lcL (vs : List Nat) (t : TM) (c : BM) (m : EM) : List PV → List PV → PEnv → EO PV
  | [], acc, env => .ok (.lst acc) env
  | x :: r, acc, env => match t x env with
    | none => .bad
    | some e => match c e with
      | .ok b e2 => if b = true then (match m e2 with
          | .ok y e3 => if acc.length < sizeLine then lcL vs t c m r (acc ++ [y]) (envWipe e3 vs) else .bad
          | _ => .bad) else lcL vs t c m r acc (envWipe e2 vs)
      | _ => .bad
def eLC (it : PEnv → EO (List PV)) (vs : List Nat) (t : TM) (c : BM) (m : EM) : EM := fun env => (it env).bind fun items e => lcL vs t c m items [] (envWipe e vs)
theorem im_eLC {wi : TI} {g : TG} {tt : TT} {te : TE} {it : PEnv → EO (List PV)} {vs : List Nat} {t : TM} {c : BM} {m : EM} (hi : ImI K mg W wi it) (ht : ImTg K S1 g t) (hS : ∀ j ∈ S1, j ∈ vs) (hc : ImT K mg W0 tt c) (hm : ImE K mg W0 te m) :
    ImE K mg W (tLc wi g tt te vs) (eLC it vs t c m) := by
  intro σ H0 Q env0 F0 hr hn hp
  refine hi σ H0 _ env0 F0 hr hn (hp.bind.imp fun items e1 q1 J H1 Fi F1 hr1 hn1 hf1 wk => ?_)
  obtain ⟨G, Y, w, g1, gk, mi, yy⟩ := wk
  intro D hD
  obtain ⟨F2, hr2, sb2⟩ := hr1.wipe vs
  have s0 : Sm H1 (upd H1 D (.lst [])) := sm_upd hD
  have nD : ∀ {G : List Addr}, Mt H1 G → D ∉ G := fun mt z => by obtain ⟨o, e, _⟩ := mt D z; rw [hD] at e; cases e
  have hn2 : (Fi ++ F2).Nodup := hn1.sublist (List.Sublist.append (List.Sublist.refl _) sb2)
  refine lc_it w (fun i Hi => ∃ env F Fa acc accV, RE K Hi env (L2.wipe σ vs) F ∧ ((Fi ++ (D :: Fa)) ++ F).Nodup ∧ Fm (Fi ++ F1) H1 ((Fi ++ (D :: Fa)) ++ F) Hi ∧ G Hi ∧ Mt Hi (Fi ++ (D :: Fa)) ∧ Hi D = some (.lst accV) ∧ RVL K Hi acc accV Fa ∧ (∀ (j : Nat) (x : PV), env[j]? = some (some x) → j ∉ vs) ∧
    PostE K mg W σ H0 F0 (fun pv env' => ∀ v H' Fv F', RE K H' env' σ F' → RV K H' pv v Fv → (Fv ++ F').Nodup → Fm F0 H0 (Fv ++ F') H' → Q v H') (lcL vs t c m (items.drop i) acc env)) ?_ ?_ ?_ ?_
  · refine ⟨envWipe e1 vs, F2, [], [], [], hr2.sm s0, ?_, ?_, gk _ _ g1 fun b o e _ => s0 b o e, ?_, upd_same, by simp [RVL], fun j x e z => envWipe_none z e, by simpa using q1⟩
    · rw [List.append_assoc, List.singleton_append, List.perm_middle.nodup_iff]
      refine List.nodup_cons.mpr ⟨fun z => ?_, hn2⟩
      rcases List.mem_append.mp z with z | z
      · exact nD mi z
      · exact nD hr1.mt (sb2.subset z)
    · refine Fm.of_sm s0 fun b z => ?_
      simp only [List.append_assoc, List.singleton_append, List.mem_append, List.mem_cons] at z ⊢
      rcases z with z | z | z
      · exact .inl (.inl z)
      · exact .inr (by rw [z]; exact hD)
      · exact .inl (.inr (sb2.subset z))
    · intro b z
      rcases List.mem_append.mp z with z | z
      · obtain ⟨o, e, m⟩ := mi b z; exact ⟨o, s0 b o e, m⟩
      · simp at z; subst z; exact ⟨_, upd_same, rfl⟩
  · exact fun i H _ ⟨_, _, _, _, _, _, _, _, z, _⟩ => z
  · rintro i x Hi H' hlt ⟨env, F, Fa, acc, accV, hr, hn, hf, gH, mt, eD, hl, nv, post⟩ y
    obtain ⟨s1, rx⟩ := yy i Hi x H' gH y
    have hx : items[i]? = some items[i] := by simp [hlt]
    have rx := rx _ hx
    rw [drop_cons hlt] at post
    simp only [lcL] at post
    refine ht items[i] x (L2.wipe σ vs) H' env F [] _ (hr.sm s1) rx (by simpa using nd_right hn) ?_
    cases e : t items[i] env with
    | none => simp only [e] at post; exact post.elim
    | some e2 =>
      simp only [e] at post
      intro σ2 G2 r2 n2 sub ag
      have sub : ∀ b ∈ G2, b ∈ F := fun b z => by simpa using sub b z
      have ew := wipe_ag (ag.mono hS)
      refine ⟨ew, ?_⟩
      have nG : ((Fi ++ (D :: Fa)) ++ G2).Nodup := by
        rw [List.nodup_append] at hn ⊢
        exact ⟨hn.1, n2, fun a ha b hb => hn.2.2 a ha b (sub b hb)⟩
      have mt' : Mt H' (Fi ++ (D :: Fa)) := fun b z => by obtain ⟨o, e, m⟩ := mt b z; exact ⟨o, s1 b o e, m⟩
      have f2 : Fm (Fi ++ F1) H1 ((Fi ++ (D :: Fa)) ++ G2) H' := (hf.trans (Fm.of_sm s1 fun b z => .inl z)).sub fun b z => by
        rcases List.mem_append.mp z with z | z
        · exact List.mem_append_left _ z
        · exact List.mem_append_right _ (sub b z)
      have gH' : G H' := gk Hi H' gH fun b o e _ => s1 b o e
      have inFi : ∀ {b : Addr}, b ∈ Fi → b ∈ Fi ++ (D :: Fa) := fun z => List.mem_append_left _ z
      refine hc σ2 H' _ e2 G2 r2 n2 ?_
      cases ec : c e2 with
      | bad => simp only [ec] at post; exact post.elim
      | exc _ _ => simp only [ec] at post; exact post.elim
      | ok b e3 =>
        simp only [ec] at post
        intro H3 F3 r3 n3 f3
        have k3 := keep_ap nG r2.mt f3
        have nG3 := nd_later nG mt' f3 n3
        have f23 := fm_both f2 f3 mt'
        have eD3 : H3 D = some (.lst accV) := k3 D _ (s1 D _ eD) (.inl (by simp))
        have mt3 : Mt H3 (Fi ++ (D :: Fa)) := fun b z => by obtain ⟨o, e, m⟩ := mt' b z; exact ⟨o, k3 b o e (.inl z), m⟩
        have hl3 : RVL K H3 acc accV Fa := (hl.sm s1).keep fun b o e m => k3 b o e (m.imp (fun z => by simp [z]) id)
        have gH3 : G H3 := gk H' H3 gH' fun b o e m => k3 b o e (m.imp inFi id)
        cases b with
        | false =>
          simp only [Bool.false_eq_true, if_false] at post ⊢
          obtain ⟨F4, r4, sb4⟩ := r3.wipe vs
          rw [ew] at r4
          exact ⟨envWipe e3 vs, F4, Fa, acc, accV, r4, nG3.sublist (List.Sublist.append (List.Sublist.refl _) sb4), f23.sub (fun b z => by
            rcases List.mem_append.mp z with z | z
            · exact List.mem_append_left _ z
            · exact List.mem_append_right _ (sb4.subset z)), gH3, mt3, eD3, hl3, fun j x e z => envWipe_none z e, post⟩
        | true =>
          simp only [if_true] at post ⊢
          refine hm σ2 H3 _ e3 F3 r3 n3 ?_
          cases em : m e3 with
          | bad => simp only [em] at post; exact post.elim
          | exc _ _ => simp only [em] at post; exact post.elim
          | ok yv e4 =>
            simp only [em] at post
            intro v H4 Fy F4 r4 hy n4 f4
            have k4 := keep_ap nG3 r3.mt f4
            have nG4 := nd_later nG3 mt3 f4 n4
            have f24 := fm_both f23 f4 mt3
            have eD4 : H4 D = some (.lst accV) := k4 D _ eD3 (.inl (by simp))
            have hl4 : RVL K H4 acc accV Fa := hl3.keep fun b o e m => k4 b o e (m.imp (fun z => by simp [z]) id)
            have gH4 : G H4 := gk H3 H4 gH3 fun b o e m => k4 b o e (m.imp inFi id)
            have nn := nG4
            simp only [List.append_assoc, List.cons_append, List.perm_middle.nodup_iff, List.nodup_cons, List.mem_append, not_or] at nn
            obtain ⟨⟨nFi, nFa, nFy, nF4⟩, _⟩ := nn
            by_cases hz : acc.length < sizeLine
            · simp only [hz, if_true] at post
              refine ⟨accV, eD4, by rw [hl.length]; exact hz, ?_⟩
              obtain ⟨F5, r5, sb5⟩ := (r4.keep (keep_upd (o' := .lst (accV ++ [v])) eD4 rfl nF4)).wipe vs
              rw [ew] at r5
              refine ⟨envWipe e4 vs, F5, Fa ++ Fy, acc ++ [yv], accV ++ [v], r5, ?_, ?_, gk _ _ gH4 (keep_upd eD4 rfl nFi), ?_, upd_same, ?_, fun j x e z => envWipe_none z e, post⟩
              · have q : ((Fi ++ (D :: Fa)) ++ (Fy ++ F5)).Nodup := nG4.sublist (List.Sublist.append (List.Sublist.refl _) (List.Sublist.append (List.Sublist.refl _) sb5))
                simpa [List.append_assoc] using q
              · refine f24.trans ⟨fun b o nb e => ?_, fun b z => .inl ?_⟩
                · rw [upd_ne]
                  · exact e
                  · intro q; subst q; exact nb (by simp)
                · simp only [List.append_assoc, List.cons_append, List.mem_append, List.mem_cons] at z ⊢
                  rcases z with z | z | z | z | z
                  · exact .inl z
                  · exact .inr (.inl z)
                  · exact .inr (.inr (.inl z))
                  · exact .inr (.inr (.inr (.inl z)))
                  · exact .inr (.inr (.inr (.inr (sb5.subset z))))
              · intro b z
                by_cases hb : b = D
                · subst hb; exact ⟨_, upd_same, rfl⟩
                · rw [upd_ne hb]
                  simp only [List.mem_append, List.mem_cons] at z
                  rcases z with z | z | z | z
                  · obtain ⟨o, e, m⟩ := mt3 b (inFi z); exact ⟨o, k4 b o e (.inl (inFi z)), m⟩
                  · exact absurd z hb
                  · exact hl4.mt b z
                  · exact hy.mt b z
              · exact (hl4.append (RVL.one hy)).keep (keep_upd eD4 rfl (by
                  rw [List.mem_append, not_or]; exact ⟨nFa, nFy⟩))
            · simp only [hz, if_false] at post; exact post.elim
  · rintro H ⟨env, F, Fa, acc, accV, hr, hn, hf, gH, mt, eD, hl, nv, post⟩
    rw [List.drop_length] at post
    simp only [lcL, PostE] at post
    have n2 : ((D :: Fa) ++ F).Nodup := by
      rw [List.append_assoc] at hn
      exact (List.nodup_append.mp hn).2.1
    refine post (.ref D) H (D :: Fa) F (hr.agree (by rw [wipe_length]) fun j x e => (wipe_out (nv j x e)).symm) ?_ n2 ((hf1.trans hf).sub fun b z => ?_)
    · simp only [RV]; exact ⟨D, accV, Fa, rfl, eD, hl, rfl⟩
    · rw [List.append_assoc]; exact List.mem_append_right _ z
end
end PVL

/-! P4b: loops and comprehensions over a list that a name holds. -/
namespace PVL
open PySem PySem.Spec L2
section
variable {K : PySem.W.Frag} {mg : Str → Option Value} {W : WX} {S S1 S2 T : List Nat}
def EO.mapE {α : Type} (f : PEnv → PEnv) : EO α → EO α
  | .ok a e => .ok a (f e)
  | .exc x e => .exc x (f e)
  | .bad => .bad
@[simp] theorem EO.mapE_ok {α : Type} (f : PEnv → PEnv) (a : α) (e : PEnv) : (EO.ok a e).mapE f = .ok a (f e) := rfl
@[simp] theorem EO.mapE_exc {α : Type} (f : PEnv → PEnv) (x : PX) (e : PEnv) : (EO.exc x e : EO α).mapE f = .exc x (f e) := rfl
@[simp] theorem EO.mapE_bad {α : Type} (f : PEnv → PEnv) : (EO.bad : EO α).mapE f = .bad := rfl
theorem im_lcG {g : TG} {tt : TT} {te : TE} {vs : List Nat} {t : TM} {c : BM} {m : EM} {fix : PEnv → PEnv} (ht : ImTg K S1 g t) (hS : ∀ j ∈ S1, j ∈ vs) (hc : ImT K mg W0 tt c) (hm : ImE K mg W0 te m)
    {Q : VK} {σ : L2.St} {H0 : Hp} {F0 : List Addr} {J : It} {items : List PV} {e1 : PEnv} {H1 : Hp} {F1 Fi : List Addr} {G : Hp → Prop} {Y : Nat → Hp → V → Hp → Prop}
    (w : Walk J items.length G Y) (hr1 : RE K H1 e1 σ F1) (hn1 : (Fi ++ F1).Nodup) (hf1 : Fm F0 H0 (Fi ++ F1) H1) (g1 : G H1) (gk : ∀ H1 H2, G H1 → (∀ b o, H1 b = some o → (b ∈ Fi ∨ mutO o = false) → H2 b = some o) → G H2) (mi : Mt H1 Fi)
    (yy : ∀ i H1 x H2, G H1 → Y i H1 x H2 → Sm H1 H2 ∧ ∀ p, items[i]? = some p → RV K H2 p x [])
    (hfix : ∀ e H F, RE K H e σ F → (Fi ++ F).Nodup → G H → ∃ F', RE K H (fix e) σ F' ∧ F'.Nodup ∧ ∀ b ∈ F', b ∈ Fi ++ F)
    (q1 : PostE K mg W σ H0 F0 (fun pv env' => ∀ v H' Fv F', RE K H' env' σ F' → RV K H' pv v Fv → (Fv ++ F').Nodup → Fm F0 H0 (Fv ++ F') H' → Q v H') ((lcL vs t c m items [] (envWipe e1 vs)).mapE fix)) :
    ∀ D, H1 D = none → ∃ W : Nat → Nat → Hp → Prop, (∃ m, W 0 m (upd H1 D (.lst []))) ∧ ∀ i m H, W i m H →
  (J.stop i H ∧ Q (.ref D) H) ∨ (J.go i H ∧ ∃ Nx : Hp → Prop, (∀ H', Nx H' → ∃ m', m' < m ∧ W (i + 1) m' H') ∧ ∀ x H', J.yld i H x H' → g x (L2.wipe σ vs) H' fun σ2 H2 => L2.wipe σ2 vs = L2.wipe σ vs ∧ tt σ2 H2 fun b H3 =>
    if b = true then te σ2 H3 fun y H4 => ∃ acc, H4 D = some (.lst acc) ∧ acc.length < sizeLine ∧ Nx (upd H4 D (.lst (acc ++ [y]))) else Nx H3) := by
  intro D hD
  obtain ⟨F2, hr2, sb2⟩ := hr1.wipe vs
  have s0 : Sm H1 (upd H1 D (.lst [])) := sm_upd hD
  have nD : ∀ {G : List Addr}, Mt H1 G → D ∉ G := fun mt z => by obtain ⟨o, e, _⟩ := mt D z; rw [hD] at e; cases e
  have hn2 : (Fi ++ F2).Nodup := hn1.sublist (List.Sublist.append (List.Sublist.refl _) sb2)
  refine lc_it w (fun i Hi => ∃ env F Fa acc accV, RE K Hi env (L2.wipe σ vs) F ∧ ((Fi ++ (D :: Fa)) ++ F).Nodup ∧ Fm (Fi ++ F1) H1 ((Fi ++ (D :: Fa)) ++ F) Hi ∧ G Hi ∧ Mt Hi (Fi ++ (D :: Fa)) ∧ Hi D = some (.lst accV) ∧ RVL K Hi acc accV Fa ∧ (∀ (j : Nat) (x : PV), env[j]? = some (some x) → j ∉ vs) ∧
    PostE K mg W σ H0 F0 (fun pv env' => ∀ v H' Fv F', RE K H' env' σ F' → RV K H' pv v Fv → (Fv ++ F').Nodup → Fm F0 H0 (Fv ++ F') H' → Q v H') ((lcL vs t c m (items.drop i) acc env).mapE fix)) ?_ ?_ ?_ ?_
  · refine ⟨envWipe e1 vs, F2, [], [], [], hr2.sm s0, ?_, ?_, gk _ _ g1 fun b o e _ => s0 b o e, ?_, upd_same, by simp [RVL], fun j x e z => envWipe_none z e, by simpa using q1⟩
    · rw [List.append_assoc, List.singleton_append, List.perm_middle.nodup_iff]
      refine List.nodup_cons.mpr ⟨fun z => ?_, hn2⟩
      rcases List.mem_append.mp z with z | z
      · exact nD mi z
      · exact nD hr1.mt (sb2.subset z)
    · refine Fm.of_sm s0 fun b z => ?_
      simp only [List.append_assoc, List.singleton_append, List.mem_append, List.mem_cons] at z ⊢
      rcases z with z | z | z
      · exact .inl (.inl z)
      · exact .inr (by rw [z]; exact hD)
      · exact .inl (.inr (sb2.subset z))
    · intro b z
      rcases List.mem_append.mp z with z | z
      · obtain ⟨o, e, m⟩ := mi b z; exact ⟨o, s0 b o e, m⟩
      · simp at z; subst z; exact ⟨_, upd_same, rfl⟩
  · exact fun i H _ ⟨_, _, _, _, _, _, _, _, z, _⟩ => z
  · rintro i x Hi H' hlt ⟨env, F, Fa, acc, accV, hr, hn, hf, gH, mt, eD, hl, nv, post⟩ y
    obtain ⟨s1, rx⟩ := yy i Hi x H' gH y
    have hx : items[i]? = some items[i] := by simp [hlt]
    have rx := rx _ hx
    rw [drop_cons hlt] at post
    simp only [lcL] at post
    refine ht items[i] x (L2.wipe σ vs) H' env F [] _ (hr.sm s1) rx (by simpa using nd_right hn) ?_
    cases e : t items[i] env with
    | none => simp only [e, EO.mapE_bad] at post; exact post.elim
    | some e2 =>
      simp only [e] at post
      intro σ2 G2 r2 n2 sub ag
      have sub : ∀ b ∈ G2, b ∈ F := fun b z => by simpa using sub b z
      have ew := wipe_ag (ag.mono hS)
      refine ⟨ew, ?_⟩
      have nG : ((Fi ++ (D :: Fa)) ++ G2).Nodup := by
        rw [List.nodup_append] at hn ⊢
        exact ⟨hn.1, n2, fun a ha b hb => hn.2.2 a ha b (sub b hb)⟩
      have mt' : Mt H' (Fi ++ (D :: Fa)) := fun b z => by obtain ⟨o, e, m⟩ := mt b z; exact ⟨o, s1 b o e, m⟩
      have f2 : Fm (Fi ++ F1) H1 ((Fi ++ (D :: Fa)) ++ G2) H' := (hf.trans (Fm.of_sm s1 fun b z => .inl z)).sub fun b z => by
        rcases List.mem_append.mp z with z | z
        · exact List.mem_append_left _ z
        · exact List.mem_append_right _ (sub b z)
      have gH' : G H' := gk Hi H' gH fun b o e _ => s1 b o e
      have inFi : ∀ {b : Addr}, b ∈ Fi → b ∈ Fi ++ (D :: Fa) := fun z => List.mem_append_left _ z
      refine hc σ2 H' _ e2 G2 r2 n2 ?_
      cases ec : c e2 with
      | bad => simp only [ec, EO.mapE_bad] at post; exact post.elim
      | exc _ _ => simp only [ec, EO.mapE_bad] at post; exact post.elim
      | ok b e3 =>
        simp only [ec] at post
        intro H3 F3 r3 n3 f3
        have k3 := keep_ap nG r2.mt f3
        have nG3 := nd_later nG mt' f3 n3
        have f23 := fm_both f2 f3 mt'
        have eD3 : H3 D = some (.lst accV) := k3 D _ (s1 D _ eD) (.inl (by simp))
        have mt3 : Mt H3 (Fi ++ (D :: Fa)) := fun b z => by obtain ⟨o, e, m⟩ := mt' b z; exact ⟨o, k3 b o e (.inl z), m⟩
        have hl3 : RVL K H3 acc accV Fa := (hl.sm s1).keep fun b o e m => k3 b o e (m.imp (fun z => by simp [z]) id)
        have gH3 : G H3 := gk H' H3 gH' fun b o e m => k3 b o e (m.imp inFi id)
        cases b with
        | false =>
          simp only [Bool.false_eq_true, if_false] at post ⊢
          obtain ⟨F4, r4, sb4⟩ := r3.wipe vs
          rw [ew] at r4
          exact ⟨envWipe e3 vs, F4, Fa, acc, accV, r4, nG3.sublist (List.Sublist.append (List.Sublist.refl _) sb4), f23.sub (fun b z => by
            rcases List.mem_append.mp z with z | z
            · exact List.mem_append_left _ z
            · exact List.mem_append_right _ (sb4.subset z)), gH3, mt3, eD3, hl3, fun j x e z => envWipe_none z e, post⟩
        | true =>
          simp only [if_true] at post ⊢
          refine hm σ2 H3 _ e3 F3 r3 n3 ?_
          cases em : m e3 with
          | bad => simp only [em, EO.mapE_bad] at post; exact post.elim
          | exc _ _ => simp only [em, EO.mapE_bad] at post; exact post.elim
          | ok yv e4 =>
            simp only [em] at post
            intro v H4 Fy F4 r4 hy n4 f4
            have k4 := keep_ap nG3 r3.mt f4
            have nG4 := nd_later nG3 mt3 f4 n4
            have f24 := fm_both f23 f4 mt3
            have eD4 : H4 D = some (.lst accV) := k4 D _ eD3 (.inl (by simp))
            have hl4 : RVL K H4 acc accV Fa := hl3.keep fun b o e m => k4 b o e (m.imp (fun z => by simp [z]) id)
            have gH4 : G H4 := gk H3 H4 gH3 fun b o e m => k4 b o e (m.imp inFi id)
            have nn := nG4
            simp only [List.append_assoc, List.cons_append, List.perm_middle.nodup_iff, List.nodup_cons, List.mem_append, not_or] at nn
            obtain ⟨⟨nFi, nFa, nFy, nF4⟩, _⟩ := nn
            by_cases hz : acc.length < sizeLine
            · simp only [hz, if_true] at post
              refine ⟨accV, eD4, by rw [hl.length]; exact hz, ?_⟩
              obtain ⟨F5, r5, sb5⟩ := (r4.keep (keep_upd (o' := .lst (accV ++ [v])) eD4 rfl nF4)).wipe vs
              rw [ew] at r5
              refine ⟨envWipe e4 vs, F5, Fa ++ Fy, acc ++ [yv], accV ++ [v], r5, ?_, ?_, gk _ _ gH4 (keep_upd eD4 rfl nFi), ?_, upd_same, ?_, fun j x e z => envWipe_none z e, post⟩
              · have q : ((Fi ++ (D :: Fa)) ++ (Fy ++ F5)).Nodup := nG4.sublist (List.Sublist.append (List.Sublist.refl _) (List.Sublist.append (List.Sublist.refl _) sb5))
                simpa [List.append_assoc] using q
              · refine f24.trans ⟨fun b o nb e => ?_, fun b z => .inl ?_⟩
                · rw [upd_ne]
                  · exact e
                  · intro q; subst q; exact nb (by simp)
                · simp only [List.append_assoc, List.cons_append, List.mem_append, List.mem_cons] at z ⊢
                  rcases z with z | z | z | z | z
                  · exact .inl z
                  · exact .inr (.inl z)
                  · exact .inr (.inr (.inl z))
                  · exact .inr (.inr (.inr (.inl z)))
                  · exact .inr (.inr (.inr (.inr (sb5.subset z))))
              · intro b z
                by_cases hb : b = D
                · subst hb; exact ⟨_, upd_same, rfl⟩
                · rw [upd_ne hb]
                  simp only [List.mem_append, List.mem_cons] at z
                  rcases z with z | z | z | z
                  · obtain ⟨o, e, m⟩ := mt3 b (inFi z); exact ⟨o, k4 b o e (.inl (inFi z)), m⟩
                  · exact absurd z hb
                  · exact hl4.mt b z
                  · exact hy.mt b z
              · exact (hl4.append (RVL.one hy)).keep (keep_upd eD4 rfl (by
                  rw [List.mem_append, not_or]; exact ⟨nFa, nFy⟩))
            · simp only [hz, if_false, EO.mapE_bad] at post; exact post.elim
  · rintro H ⟨env, F, Fa, acc, accV, hr, hn, hf, gH, mt, eD, hl, nv, post⟩
    rw [List.drop_length] at post
    simp only [lcL, EO.mapE_ok, PostE] at post
    have n2 : (Fi ++ F).Nodup := hn.sublist (List.Sublist.append (List.sublist_append_left _ _) (List.Sublist.refl _))
    have hr' := hr.agree (by rw [wipe_length]) fun j x e => (wipe_out (nv j x e)).symm
    obtain ⟨F', y1, y2, y3⟩ := hfix env H F hr' n2 gH
    refine post (.ref D) H (D :: Fa) F' y1 ?_ ?_ ((hf1.trans hf).sub fun b z => ?_)
    · simp only [RV]; exact ⟨D, accV, Fa, rfl, eD, hl, rfl⟩
    · rw [List.nodup_append]
      have n3 : ((D :: Fa) ++ F).Nodup := by
        rw [List.append_assoc] at hn
        exact (List.nodup_append.mp hn).2.1
      refine ⟨(List.nodup_append.mp n3).1, y2, fun a ha b hb e => ?_⟩
      subst e
      rcases List.mem_append.mp (y3 a hb) with z | z
      · exact (List.nodup_append.mp (List.nodup_append.mp hn).1).2.2 a z a ha rfl
      · exact nd_dis n3 a ha z
    · rcases List.mem_append.mp z with z | z
      · exact List.mem_append_left _ (List.mem_append_right _ z)
      · rcases List.mem_append.mp (y3 b z) with q | q
        · exact List.mem_append_left _ (List.mem_append_left _ q)
        · exact List.mem_append_right _ q
/-- a comprehension over a list that a name holds: it is held back meanwhile -/
def eLCV (i : Nat) (vs : List Nat) (t : TM) (c : BM) (m : EM) : EM := fun env => match env[i]? with
  | some (some (.lst xs)) => if immL xs = true then (lcL vs t c m xs [] (envWipe (env.set i none) vs)).mapE (fun e => e.set i (some (.lst xs))) else .bad
  | _ => .bad
theorem im_eLCV {i : Nat} {g : TG} {tt : TT} {te : TE} {vs : List Nat} {t : TM} {c : BM} {m : EM} (ht : ImTg K S1 g t) (hS : ∀ j ∈ S1, j ∈ vs) (hc : ImT K mg W0 tt c) (hm : ImE K mg W0 te m) :
    ImE K mg W (tLc (iList K (tVar i)) g tt te vs) (eLCV i vs t c m) := by
  intro σ H0 Q env0 F0 hr0 hn0 hp
  unfold eLCV at hp
  split at hp
  · rename_i xs e
    by_cases him : immL xs = true
    · rw [if_pos him] at hp
      obtain ⟨v, Fi, F2, e1, h1, h2, p⟩ := hr0.take e
      simp only [RV] at h1
      obtain ⟨a, vv, F', rfl, ha, hl, rfl⟩ := h1
      have eF' := RVL.imm him hl
      subst eF'
      have n0 : ([a] ++ F2).Nodup := nodup_of_perm p.symm hn0
      refine ⟨_, e1, a, rfl, ⟨vv, SqL.of ha⟩, ?_⟩
      refine im_lcG (Fi := [a]) (F1 := F2) (G := fun H => H a = some (.lst vv) ∧ RVL K H xs vv []) (Y := fun i H x H' => H' = H ∧ vv[i]? = some x) ht hS hc hm ?_ h2 n0 ⟨Kp.refl, fun b z => .inl (p.symm.subset z)⟩ ⟨ha, hl⟩ ?_ ?_ ?_ ?_ hp
      · rw [← hl.length]; exact (walk_list (K := K) (a := a) (xs := vv)).mono (fun H z => SqL.of z.1) fun _ _ _ _ _ _ y => y
      · exact fun H1 H2 z k => ⟨k a _ z.1 (.inl (by simp)), z.2.keep fun b o e m => k b o e (.inr (by simpa using m))⟩
      · intro b z; simp at z; subst z; exact ⟨_, ha, rfl⟩
      · rintro j H3 x H4 z ⟨rfl, y⟩
        exact ⟨fun _ _ e => e, fun q eq => by
          obtain ⟨v, F1, a, b, c⟩ := z.2.get eq
          rw [y] at a; cases a
          have : F1 = [] := List.eq_nil_iff_forall_not_mem.mpr fun b z => by simpa using c b z
          rw [this] at b; exact b⟩
      · intro e2 H F hr hn hG
        obtain ⟨F1, r1, s1⟩ := hr.forget (i := i)
        have hlen : i < e2.length := by
          rw [← hr.len]
          exact (List.getElem?_eq_some_iff.mp e1).1
        have rv : RV K H (.lst xs) (.ref a) [a] := by simp only [RV]; exact ⟨a, vv, [], rfl, hG.1, hG.2, rfl⟩
        obtain ⟨F', r', p'⟩ := r1.put hlen e1 rv
        refine ⟨F', r', nodup_of_perm p' (hn.sublist (List.Sublist.append (List.Sublist.refl _) s1)), fun b hb => ?_⟩
        rcases List.mem_append.mp (p'.subset hb) with z | z
        · exact List.mem_append_left _ z
        · exact List.mem_append_right _ (s1.subset z)
    · rw [if_neg him] at hp; exact hp.elim
  · exact hp.elim
/-- .. a list or a tuple that a name holds -/
def eLCVS (i : Nat) (vs : List Nat) (t : TM) (c : BM) (m : EM) : EM := fun env => match env[i]? with
  | some (some (.tup xs)) => eLC (itT (eVar i)) vs t c m env
  | _ => eLCV i vs t c m env
theorem tLc_or {w1 w2 : TI} {g : TG} {tt : TT} {te : TE} {vs : List Nat} {σ : L2.St} {H : Hp} {Q : VK} (h : tLc w1 g tt te vs σ H Q ∨ tLc w2 g tt te vs σ H Q) : tLc (fun σ H R => w1 σ H R ∨ w2 σ H R) g tt te vs σ H Q := by
  rcases h with h | h
  · exact .inl h
  · exact .inr h
theorem im_eLCVS {i : Nat} {g : TG} {tt : TT} {te : TE} {vs : List Nat} {t : TM} {c : BM} {m : EM} (ht : ImTg K S1 g t) (hS : ∀ j ∈ S1, j ∈ vs) (hc : ImT K mg W0 tt c) (hm : ImE K mg W0 te m) :
    ImE K mg W (tLc (fun σ H R => iList K (tVar i) σ H R ∨ iTup K (tVar i) σ H R) g tt te vs) (eLCVS i vs t c m) := by
  intro σ H0 Q env0 F0 hr0 hn0 hp
  unfold eLCVS at hp
  split at hp
  · exact .inr (im_eLC (im_itT (im_eVar i)) ht hS hc hm σ H0 Q env0 F0 hr0 hn0 hp)
  · exact .inl (im_eLCV ht hS hc hm σ H0 Q env0 F0 hr0 hn0 hp)
def sForVS (i : Nat) (t : TM) (body : SM) : SM := fun env => match env[i]? with
  | some (some (.tup xs)) => sFor (itT (eVar i)) t body env
  | _ => sForV i t body env
theorem im_sForVS {i : Nat} {g : TG} {tb : TS} {t : TM} {body : SM} (ht : ImTg K S1 g t) (hb : ImS K mg W S2 tb body) (hi : i ∉ S1 ++ S2) : ImS K mg W (S1 ++ S2) (tFor (fun σ H R => iList K (tVar i) σ H R ∨ iTup K (tVar i) σ H R) g tb) (sForVS i t body) := by
  intro D σ0 H0 env0 F0 hr0 hn0 hp
  unfold sForVS at hp
  split at hp
  · exact .inr (im_sFor (im_itT (im_eVar i)) ht hb D σ0 H0 env0 F0 hr0 hn0 hp)
  · exact .inl (im_sForV ht hb hi D σ0 H0 env0 F0 hr0 hn0 hp)
end
end PVL

/-! P5: methods that change a name's value, stores by place, calls, defs. -/
namespace PVL
open PySem PySem.Spec L2

section
variable {K : PySem.W.Frag} {mg : Str → Option Value} {W : WX} {S S1 S2 T : List Nat}

/-! ### a method of a built-in type upon a name -/
def tyP (T : String) : PV → Bool
  | .str _ => T == "str"
  | .lst _ => T == "list"
  | .dct _ => T == "dict"
  | _ => false
theorem tyP_ok {H : Hp} {T : String} {p : PV} {v : V} {F : List Addr} (h : RV K H p v F) (e : tyP T p = true) : tyV K T v H := by
  cases p with
  | str x => simp only [RV] at h; obtain ⟨rfl, _⟩ := h; show T = "str"; simpa [tyP] using e
  | lst xs =>
    simp only [RV] at h; obtain ⟨a, vs, F', rfl, h, _⟩ := h
    exact .inl ⟨by simpa [tyP] using e, vs, SqL.of h⟩
  | dct kvs =>
    simp only [RV] at h; obtain ⟨a, ws, F', rfl, h, _⟩ := h
    refine .inr (.inr (.inl ⟨by simpa [tyP] using e, ?_⟩))
    rcases h with ⟨vs, h, _⟩ | ⟨vs, h, _⟩
    · exact .inl ⟨vs, h⟩
    · exact .inr ⟨vs, h⟩
  | _ => simp [tyP] at e
/-- a change in place: the receiver and the owned arguments before, the receiver and the result behind -/
def ChgO (K : PySem.W.Frag) (H : Hp) (F : List Addr) (x : V) (Q : VK) : Option (PV × PV) → Prop
  | some (res, p') => ∀ v H' Fv Fx', RV K H' p' x Fx' → RV K H' res v Fv → (Fv ++ Fx').Nodup → Fm F H (Fv ++ Fx') H' → Q v H'
  | none => False
def SimM (K : PySem.W.Frag) (r : V → List V → Hp → VK → Prop) (f : PV → List PV → Option (PV × PV)) : Prop :=
  ∀ x vs H Q p xs Fx Fa, RV K H p x Fx → RVL K H xs vs Fa → (Fa ++ Fx).Nodup → ChgO K H (Fa ++ Fx) x Q (f p xs) → r x vs H Q
def SimMB (K : PySem.W.Frag) (r : V → List V → Hp → VK → Prop) (f : PV → List PV → Option (PV × PV)) : Prop :=
  ∀ x vs H Q p xs Fx, RV K H p x Fx → Fx.Nodup → RB K H xs vs → ChgO K H Fx x Q (f p xs) → r x vs H Q
/-- the end of a change at a name -/
theorem fin_chg {σ : L2.St} {H H1 : Hp} {F Fa F1 Fx F2 : List Addr} {e : PEnv} {i : Nat} {x : V} {Q : VK} {o : Option (PV × PV)}
    (hf : Fm F H (Fa ++ F1) H1) (n : (Fa ++ F1).Nodup) (p : F1.Perm (Fx ++ F2)) (mt : Mt H1 (Fa ++ Fx)) (r2 : RE K H1 (e.set i none) σ F2) (hσ : σ[i]? = some (some x)) (hl : i < e.length)
    (hp : PostE K mg W σ H F (fun pv env' => ∀ v H' Fv F', RE K H' env' σ F' → RV K H' pv v Fv → (Fv ++ F').Nodup → Fm F H (Fv ++ F') H' → Q v H') (match o with | some (res, p') => .ok res (e.set i (some p')) | none => .bad)) : ChgO K H1 (Fa ++ Fx) x Q o := by
  cases o with
  | none => exact hp
  | some rp =>
    obtain ⟨res, p'⟩ := rp
    simp only [PostE] at hp
    intro v H' Fv Fx' rx rv nn f
    have nP : (Fa ++ (Fx ++ F2)).Nodup := nodup_of_perm (List.Perm.append_left _ p.symm) n
    have n3 : ((Fa ++ Fx) ++ F2).Nodup := by rw [List.append_assoc]; exact nP
    have n4 : (F2 ++ (Fa ++ Fx)).Nodup := nodup_of_perm List.perm_append_comm n3
    have r3 := r2.keep (keep_ap n4 mt f)
    obtain ⟨F', r4, p4⟩ := r3.put hl hσ rx
    have n5 := nd_later n4 r2.mt f nn
    have n6 : (Fv ++ F').Nodup := by
      refine nodup_of_perm (List.Perm.append_left Fv p4) ?_
      rw [← List.append_assoc]
      exact nodup_of_perm List.perm_append_comm n5
    refine hp v H' Fv F' r4 rv n6 (hf.trans ⟨f.kp.mono fun b z => ?_, fun b z => ?_⟩)
    · rcases List.mem_append.mp z with z | z
      · exact List.mem_append_left _ z
      · exact List.mem_append_right _ (p.symm.subset (List.mem_append_left _ z))
    · have go : b ∈ Fv ++ Fx' → b ∈ Fa ++ F1 ∨ H1 b = none := fun z => (f.fr b z).imp (fun z => by
        rcases List.mem_append.mp z with z | z
        · exact List.mem_append_left _ z
        · exact List.mem_append_right _ (p.symm.subset (List.mem_append_left _ z))) id
      rcases List.mem_append.mp z with z | z
      · exact go (List.mem_append_left _ z)
      · rcases List.mem_append.mp (p4.subset z) with z | z
        · exact go (List.mem_append_right _ z)
        · exact .inl (List.mem_append_right _ (p.symm.subset (List.mem_append_right _ z)))
theorem slot_lt {e : PEnv} {i : Nat} {x : Option PV} (h : e[i]? = some x) : i < e.length := (List.getElem?_eq_some_iff.mp h).1
/-- name.m(args), the arguments owned -/
def eMeth (T : String) (i : Nat) (f : PV → List PV → Option (PV × PV)) (a : AM) : EM := fun env => match env[i]? with
  | some (some p0) => if tyP T p0 = true then (a env).bind fun as e => (match e[i]? with
      | some (some p) => (match ownL as with
        | some xs => (match f p xs with | some (res, p') => .ok res (e.set i (some p')) | none => .bad)
        | none => .bad)
      | _ => .bad) else .bad
  | _ => .bad
theorem im_eMeth {T : String} {i : Nat} {r : V → List V → Hp → VK → Prop} {f : PV → List PV → Option (PV × PV)} {ta : TA} {a : AM} (hs : SimM K r f) (ha : ImA K mg W ta a) : ImE K mg W (tBM K T r (tVar i) ta) (eMeth T i f a) := by
  intro σ H Q env F hr hn hp
  unfold eMeth at hp
  split at hp
  · rename_i p0 e0
    by_cases ht : tyP T p0 = true
    · rw [if_pos ht] at hp
      obtain ⟨x, F1, e1, h1⟩ := hr.get e0
      refine ⟨x, e1, tyP_ok h1 ht, ha σ H _ env F hr hn (hp.bind.imp fun as e q vs H1 Fa F1 hr1 hx hn1 hf1 => ?_)⟩
      split at q
      · rename_i p ep
        split at q
        · rename_i xs ex
          have hl := ownL_ok hx ex
          obtain ⟨x', Fx, F2, ex', hx', r2, pm⟩ := hr1.take ep
          rw [e1] at ex'; cases ex'
          refine hs x vs H1 Q p xs Fx Fa hx' hl ?_ (fin_chg hf1 hn1 pm ?_ r2 e1 (slot_lt ep) q)
          · have := nodup_of_perm (List.Perm.append_left Fa pm.symm) hn1
            rw [← List.append_assoc] at this
            exact (List.nodup_append.mp this).1
          · intro b z
            rcases List.mem_append.mp z with z | z
            · exact hx.mt b z
            · exact hx'.mt b z
        · exact q.elim
      · exact q.elim
    · rw [if_neg ht] at hp; exact hp.elim
  · exact hp.elim
def eMeth0 (T : String) (i : Nat) (f : PV → List PV → Option (PV × PV)) : EM := fun env => match env[i]? with
  | some (some p) => if tyP T p = true then (match f p [] with | some (res, p') => .ok res (env.set i (some p')) | none => .bad) else .bad
  | _ => .bad
theorem im_eMeth0 {T : String} {i : Nat} {r : V → List V → Hp → VK → Prop} {f : PV → List PV → Option (PV × PV)} (hs : SimM K r f) : ImE K mg W (tBM0 K T r (tVar i)) (eMeth0 T i f) := by
  intro σ H Q env F hr hn hp
  unfold eMeth0 at hp
  split at hp
  · rename_i p ep
    by_cases ht : tyP T p = true
    · rw [if_pos ht] at hp
      obtain ⟨x, Fx, F2, e1, hx, r2, pm⟩ := hr.take ep
      refine ⟨x, e1, tyP_ok hx ht, hs x [] H Q p [] Fx [] hx (by simp [RVL]) ?_ (fin_chg (F := F) (Fa := []) (F1 := F) Fm.refl (by simpa using hn) pm ?_ r2 e1 (slot_lt ep) hp)⟩
      · have := nodup_of_perm pm.symm hn
        simpa using (List.nodup_append.mp this).1
      · simpa using hx.mt
    · rw [if_neg ht] at hp; exact hp.elim
  · exact hp.elim
/-- name.m(args), the arguments read -/
def eMethB (T : String) (i : Nat) (f : PV → List PV → Option (PV × PV)) (a : AM) : EM := fun env => match env[i]? with
  | some (some p0) => if tyP T p0 = true then (a env).bind fun as e => (match e[i]? with
      | some (some p) => (match seeL e as with
        | some xs => (match f p xs with | some (res, p') => .ok res (e.set i (some p')) | none => .bad)
        | none => .bad)
      | _ => .bad) else .bad
  | _ => .bad
theorem im_eMethB {T : String} {i : Nat} {r : V → List V → Hp → VK → Prop} {f : PV → List PV → Option (PV × PV)} {ta : TA} {a : AM} (hs : SimMB K r f) (ha : ImA K mg W ta a) : ImE K mg W (tBM K T r (tVar i) ta) (eMethB T i f a) := by
  intro σ H Q env F hr hn hp
  unfold eMethB at hp
  split at hp
  · rename_i p0 e0
    by_cases ht : tyP T p0 = true
    · rw [if_pos ht] at hp
      obtain ⟨x, F1, e1, h1⟩ := hr.get e0
      refine ⟨x, e1, tyP_ok h1 ht, ha σ H _ env F hr hn (hp.bind.imp fun as e q vs H1 Fa F1 hr1 hx hn1 hf1 => ?_)⟩
      split at q
      · rename_i p ep
        split at q
        · rename_i xs ex
          have hl := seeL_ok hr1 hx ex
          obtain ⟨x', Fx, F2, ex', hx', r2, pm⟩ := hr1.take ep
          rw [e1] at ex'; cases ex'
          have nx : Fx.Nodup := (List.nodup_append.mp (nodup_of_perm pm.symm (nd_right hn1))).1
          exact hs x vs H1 Q p xs Fx hx' nx hl (fin_chg (Fa := []) (F1 := F1) (by simpa using fm_left hf1) (by simpa using nd_right hn1) pm (by simpa using hx'.mt) r2 e1 (slot_lt ep) q)
        · exact q.elim
      · exact q.elim
    · rw [if_neg ht] at hp; exact hp.elim
  · exact hp.elim

/-! ### stores by place -/
def SetO (K : PySem.W.Frag) (H : Hp) (F : List Addr) (x : V) (Q : Hp → Prop) : Option PV → Prop
  | some p' => ∀ H' Fx', RV K H' p' x Fx' → Fx'.Nodup → Fm F H Fx' H' → Q H'
  | none => False
def SimSet (K : PySem.W.Frag) (r : TSet) (f : PV → PV → PV → Option PV) : Prop :=
  ∀ o k v H Q p pk pv Fo Fk Fv, RV K H p o Fo → RV K H pk k Fk → RV K H pv v Fv → (Fv ++ Fo).Nodup → SetO K H (Fv ++ Fo) o Q (f p pk pv) → r o k v H Q
theorem fin_set {D : Ends} {σ : L2.St} {H H1 : Hp} {F Fa F1 Fx F2 : List Addr} {e : PEnv} {i : Nat} {x : V} {o : Option PV}
    (hf : Fm F H (Fa ++ F1) H1) (n : (Fa ++ F1).Nodup) (p : F1.Perm (Fx ++ F2)) (mt : Mt H1 (Fa ++ Fx)) (r2 : RE K H1 (e.set i none) σ F2) (hσ : σ[i]? = some (some x)) (hl : i < e.length)
    (hp : PostS K mg W S D σ H F (match o with | some p' => .next (e.set i (some p')) | none => .bad)) : SetO K H1 (Fa ++ Fx) x (fun H' => D.nx σ H') o := by
  cases o with
  | none => exact hp
  | some p' =>
    simp only [PostS] at hp
    intro H' Fx' rx nn f
    have nP : (Fa ++ (Fx ++ F2)).Nodup := nodup_of_perm (List.Perm.append_left _ p.symm) n
    have n3 : ((Fa ++ Fx) ++ F2).Nodup := by rw [List.append_assoc]; exact nP
    have n4 : (F2 ++ (Fa ++ Fx)).Nodup := nodup_of_perm List.perm_append_comm n3
    have r3 := r2.keep (keep_ap n4 mt f)
    obtain ⟨F', r4, p4⟩ := r3.put hl hσ rx
    have n5 := nd_later n4 r2.mt f nn
    have n6 : F'.Nodup := nodup_of_perm p4 (nodup_of_perm List.perm_append_comm n5)
    refine hp σ H' F' r4 n6 (hf.trans ⟨f.kp.mono fun b z => ?_, fun b z => ?_⟩) Ag.refl
    · rcases List.mem_append.mp z with z | z
      · exact List.mem_append_left _ z
      · exact List.mem_append_right _ (p.symm.subset (List.mem_append_left _ z))
    · have go : b ∈ Fx' → b ∈ Fa ++ F1 ∨ H1 b = none := fun z => (f.fr b z).imp (fun z => by
        rcases List.mem_append.mp z with z | z
        · exact List.mem_append_left _ z
        · exact List.mem_append_right _ (p.symm.subset (List.mem_append_left _ z))) id
      rcases List.mem_append.mp (p4.subset z) with z | z
      · exact go z
      · exact .inl (List.mem_append_right _ (p.symm.subset (List.mem_append_right _ z)))
/-- name[k] = e -/
def sSetIx (i : Nat) (k : RM) (f : PV → PV → PV → Option PV) (m : EM) : SM := fun env => (m env).toS fun v e => match e[i]? with
  | some (some p) => (match k e with
    | some pk => (match f p pk v with | some p' => .next (e.set i (some p')) | none => .bad)
    | none => .bad)
  | _ => .bad
theorem im_sSetIx {i : Nat} {te tk : TE} {m : EM} {k : RM} {r : TSet} {f : PV → PV → PV → Option PV} (hs : SimSet K r f) (hm : ImE K mg W te m) (hk : ImR K tk k) : ImS K mg W S (tAsg te (gSub (tVar i) tk r)) (sSetIx i k f m) := by
  intro D σ H env F hr hn hp
  refine hm σ H _ env F hr hn (hp.ofE.imp fun pv e q v H1 Fv F1 hr1 hx hn1 hf1 => ?_)
  split at q
  · rename_i p ep
    obtain ⟨x, Fx, F2, ex, hx', r2, pm⟩ := hr1.take ep
    refine ⟨x, ex, hk σ H1 _ e F1 hr1 ?_⟩
    cases ek : k e with
    | none => simp only [ek] at q; exact q.elim
    | some pk =>
      simp only [ek] at q
      intro kv H2 Fk s2 rk
      have mt : Mt H1 (Fv ++ Fx) := fun b z => by
        rcases List.mem_append.mp z with z | z
        · exact hx.mt b z
        · exact hx'.mt b z
      refine hs x kv v H2 _ p pk pv Fx Fk Fv (hx'.sm s2) rk (hx.sm s2) ?_ (fin_set (hf1.trans (Fm.of_sm s2 fun b z => .inl z)) hn1 pm (fun b z => by obtain ⟨o, e, m⟩ := mt b z; exact ⟨o, s2 b o e, m⟩) (r2.sm s2) ex (slot_lt ep) q)
      have := nodup_of_perm (List.Perm.append_left Fv pm.symm) hn1
      rw [← List.append_assoc] at this
      exact (List.nodup_append.mp this).1
  · exact q.elim
/-- name op= e -/
def SimI (K : PySem.W.Frag) (r : TIp) (f : PV → PV → Option PV) : Prop := ∀ x y H Q px py Fx Fy, RV K H px x Fx → RV K H py y Fy → NewO K H Q (f px py) → r x y H Q
def sAug (i : Nat) (f : PV → PV → Option PV) (m : EM) : SM := fun env => match env[i]? with
  | some (some p) => if p.imm = true then (m env).toS fun v e => (match f p v with | some z => if i < e.length then .next (e.set i (some z)) else .bad | none => .bad) else .bad
  | _ => .bad
theorem im_sAug {i : Nat} {te : TE} {m : EM} {r : TIp} {f : PV → PV → Option PV} (hs : SimI K r f) (hm : ImE K mg W te m) : ImS K mg W [i] (tAug i te r) (sAug i f m) := by
  intro D σ H env F hr hn hp
  unfold sAug at hp
  split at hp
  · rename_i p ep
    by_cases hi : p.imm = true
    · rw [if_pos hi] at hp
      obtain ⟨x, Fx, ex, hx⟩ := hr.get ep
      have eF := RV.imm hi hx
      subst eF
      refine ⟨x, ex, hm σ H _ env F hr hn (hp.ofE.imp fun pv e q v H1 Fv F1 hr1 hv hn1 hf1 => ?_)⟩
      have hx1 : RV K H1 p x [] := hx.keep (keep_of (fm_left hf1).kp hr.mt (by simp))
      refine hs x v H1 _ p pv [] Fv hx1 hv ?_
      cases ef : f p pv with
      | none => simp only [ef] at q; exact q.elim
      | some z =>
        simp only [ef] at q
        by_cases hl : i < e.length
        · rw [if_pos hl] at q
          intro w H2 Fz s2 rw' nz fz
          obtain ⟨F', r', G, sG, pG⟩ := (hr1.sm s2).store hl rw'
          have nn : (Fz ++ G).Nodup := by
            rw [List.nodup_append]
            refine ⟨nz, (nd_right hn1).sublist sG, fun a ha b hb e => ?_⟩
            subst e
            obtain ⟨o, e, _⟩ := hr1.mt a (sG.subset hb)
            rw [fz a ha] at e; cases e
          refine q _ H2 F' r' (nodup_of_perm pG nn) ((fm_left hf1).trans (Fm.of_sm s2 fun b z => ?_)) (Ag.set (by simp))
          rcases List.mem_append.mp (pG.subset z) with z | z
          · exact .inr (fz b z)
          · exact .inl (sG.subset z)
        · rw [if_neg hl] at q; exact q.elim
    · rw [if_neg hi] at hp; exact hp.elim
  · exact hp.elim
/-- name[k] op= e -/
def sAugIx (i : Nat) (k : RM) (g : PV → PV → Option PV) (m : EM) (f : PV → PV → Option PV) (st : PV → PV → PV → Option PV) : SM := fun env => match env[i]? with
  | some (some p) => (match k env with
    | some pk => if pk.imm = true then (match immO (g p pk) with
      | some x => (m env).toS fun v e => (match f x v with
        | some z => if z.imm = true then (match e[i]? with
          | some (some p1) => (match st p1 pk z with | some p' => .next (e.set i (some p')) | none => .bad)
          | _ => .bad) else .bad
        | none => .bad)
      | none => .bad) else .bad
    | none => .bad)
  | _ => .bad
theorem im_sAugIx {i : Nat} {te tk : TE} {m : EM} {k : RM} {rg : V → V → Hp → VK → Prop} {g : PV → PV → Option PV} {ri : TIp} {f : PV → PV → Option PV} {rs : TSet} {st : PV → PV → PV → Option PV}
    (hg : SimB2 K rg g) (hi : SimI K ri f) (hs : SimSet K rs st) (hk : ImR K tk k) (hm : ImE K mg W te m) : ImS K mg W S (tAugS (tVar i) tk te rg ri rs) (sAugIx i k g m f st) := by
  intro D σ H env F hr hn hp
  unfold sAugIx at hp
  split at hp
  · rename_i p ep
    obtain ⟨o, Fo, eo, ho⟩ := hr.get ep
    refine ⟨o, eo, hk σ H _ env F hr ?_⟩
    cases ek : k env with
    | none => simp only [ek] at hp; exact hp.elim
    | some pk =>
      simp only [ek] at hp
      by_cases hik : pk.imm = true
      · simp only [hik, if_true] at hp
        intro kv H1 Fk s1 rk
        have eF := RV.imm hik rk
        subst eF
        refine hg o kv H1 _ p pk Fo [] (ho.sm s1) rk ?_
        cases eg : g p pk with
        | none => simp only [eg, immO] at hp; exact hp.elim
        | some x =>
          simp only [eg, immO] at hp
          by_cases hix : x.imm = true
          · simp only [hix, if_true] at hp
            intro xv H2 Fx s2 rx
            have eF := RV.imm hix rx
            subst eF
            have f12 : Fm F H F H2 := Fm.of_sm (s1.trans s2) fun b z => .inl z
            have hr2 := hr.sm (s1.trans s2)
            refine hm σ H2 _ env F hr2 hn ((hp.ofE2 f12 Ag.refl).imp fun pv e q v H3 Fv F3 hr3 hv hn3 hf3 => ?_)
            have kk := keep_of (F := []) (fm_left hf3).kp hr2.mt (by simp)
            have rx3 : RV K H3 x xv [] := rx.keep kk
            have rk3 : RV K H3 pk kv [] := (rk.sm s2).keep kk
            refine hi xv v H3 _ x pv [] Fv rx3 hv ?_
            cases ef : f x pv with
            | none => simp only [ef] at q; exact q.elim
            | some z =>
              simp only [ef] at q
              by_cases hz : z.imm = true
              · simp only [hz, if_true] at q
                split at q
                · rename_i p1 ep1
                  intro zv H4 Fz s4 rz nz fz
                  have eF := RV.imm hz rz
                  subst eF
                  obtain ⟨o', Fx, F2, eo', ho', r2, pm⟩ := hr3.take ep1
                  rw [eo] at eo'; cases eo'
                  have nn := nd_right hn3
                  refine hs o kv zv H4 _ p1 pk z Fx [] [] (ho'.sm s4) (rk3.sm s4) rz ?_ (fin_set (Fa := []) (F1 := F3) (by simpa using (f12.trans (fm_left hf3)).trans (Fm.of_sm s4 fun b z => .inl z)) (by simpa using nn) pm (by
                    intro b z
                    obtain ⟨o, e, m⟩ := ho'.mt b (by simpa using z)
                    exact ⟨o, s4 b o e, m⟩) (r2.sm s4) eo (slot_lt ep1) q)
                  simpa using (List.nodup_append.mp (nodup_of_perm pm.symm nn)).1
                · exact q.elim
              · simp only [hz] at q; exact q.elim
          · simp only [hix] at hp; exact hp.elim
      · simp only [hik] at hp; exact hp.elim
  · exact hp.elim

/-! ### calls -/
inductive FO where
  | ok (x : PV) (ps : List (Option PV))
  | exc (x : PX) (ps : List (Option PV))
  | bad
abbrev FM := List PV → FO
def PostF (K : PySem.W.Frag) (mg : Str → Option Value) (vs : List V) (H : Hp) (F : List Addr) (Q : VK) (E : XK) : FO → Prop
  | .ok x ps => ∀ v H' Fv Fp, RV K H' x v Fv → RE K H' ps (vs.map some) Fp → (Fv ++ Fp).Nodup → Fm F H (Fv ++ Fp) H' → Q v H'
  | .exc x ps => ∀ cls d H' Fp, RE K H' ps (vs.map some) Fp → Fp.Nodup → Fm F H Fp H' → RX K mg x cls d H' → E cls d H'
  | .bad => False
/-- the promise of a def that does as a pure function says -/
def spF (K : PySem.W.Frag) (mg : Str → Option Value) (n : Nat) (f : FM) : Sp := fun vs H Q E => ∃ ps F, ps.length = n ∧ RVL K H ps vs F ∧ F.Nodup ∧ PostF K mg vs H F Q E (f ps)
def takeA : List Arg → PEnv → Option (List PV × PEnv)
  | [], e => some ([], e)
  | .own x :: r, e => (takeA r e).map fun z => (x :: z.1, z.2)
  | .ref i :: r, e => match e[i]? with
    | some (some p) => if p.imm = true then (takeA r e).map fun z => (p :: z.1, z.2) else (takeA r (e.set i none)).map fun z => (p :: z.1, z.2)
    | _ => none
def putA : List Arg → List (Option PV) → PEnv → PEnv
  | .own _ :: r, _ :: ps, e => putA r ps e
  | .ref i :: r, some p :: ps, e => putA r ps (e.set i (some p))
  | .ref _ :: r, none :: ps, e => putA r ps e
  | _, _, e => e
theorem takeA_ok {H : Hp} {σ : L2.St} : ∀ {as : List Arg} {e : PEnv} {vs : List V} {Fv F : List Addr} {ps : List PV} {e1 : PEnv}, RGs K H σ as vs Fv → RE K H e σ F → takeA as e = some (ps, e1) →
    e1.length = e.length ∧ ∃ Fa Fr, RVL K H ps vs Fa ∧ RE K H e1 σ Fr ∧ (Fv ++ F).Perm (Fa ++ Fr)
  | [], e, vs, Fv, F, ps, e1, h, hr, ht => by
    simp only [takeA, Option.some.injEq, Prod.mk.injEq] at ht
    obtain ⟨rfl, rfl⟩ := ht
    simp only [RGs] at h
    obtain ⟨rfl, rfl⟩ := h
    exact ⟨rfl, [], F, by simp [RVL], hr, by simp⟩
  | .own x :: r, e, vs, Fv, F, ps, e1, h, hr, ht => by
    simp only [takeA, Option.map_eq_some_iff] at ht
    obtain ⟨⟨ps', e'⟩, ht, eq⟩ := ht
    cases eq
    simp only [RGs, RG] at h
    obtain ⟨v, vr, F1, F2, rfl, h1, h2, rfl⟩ := h
    obtain ⟨hl, Fa, Fr, a, b, c⟩ := takeA_ok h2 hr ht
    refine ⟨hl, F1 ++ Fa, Fr, RVL.cons h1 a, b, ?_⟩
    rw [List.append_assoc, List.append_assoc]
    exact List.Perm.append_left _ c
  | .ref i :: r, e, vs, Fv, F, ps, e1, h, hr, ht => by
    simp only [RGs, RG] at h
    obtain ⟨v, vr, F1, F2, rfl, ⟨hσ, rfl⟩, h2, rfl⟩ := h
    simp only [takeA] at ht
    split at ht
    · rename_i p ep
      by_cases hi : p.imm = true
      · rw [if_pos hi] at ht
        simp only [Option.map_eq_some_iff] at ht
        obtain ⟨⟨ps', e'⟩, ht, eq⟩ := ht
        cases eq
        obtain ⟨v', G, ev, hv⟩ := hr.get ep
        rw [hσ] at ev; cases ev
        have eG := RV.imm hi hv
        subst eG
        obtain ⟨hl, Fa, Fr, a, b, c⟩ := takeA_ok h2 hr ht
        exact ⟨hl, [] ++ Fa, Fr, RVL.cons hv a, b, by simpa using c⟩
      · rw [if_neg hi] at ht
        simp only [Option.map_eq_some_iff] at ht
        obtain ⟨⟨ps', e'⟩, ht, eq⟩ := ht
        cases eq
        obtain ⟨v', G1, G2, ev, hv, hr2, pm⟩ := hr.take ep
        rw [hσ] at ev; cases ev
        obtain ⟨hl, Fa, Fr, a, b, c⟩ := takeA_ok h2 hr2 ht
        refine ⟨by simpa using hl, G1 ++ Fa, Fr, RVL.cons hv a, b, ?_⟩
        rw [List.append_assoc]
        refine (List.Perm.append_left _ pm).trans ?_
        rw [← List.append_assoc]
        refine (List.Perm.append_right G2 List.perm_append_comm).trans ?_
        rw [List.append_assoc]
        exact List.Perm.append_left _ c
    · cases ht
theorem putA_ok {H : Hp} {σ : L2.St} : ∀ {as : List Arg} {vs : List V} {Fg : List Addr} {ps : List (Option PV)} {e : PEnv} {Fp F : List Addr} {H0 : Hp}, RGs K H0 σ as vs Fg → RE K H ps (vs.map some) Fp → RE K H e σ F → (Fp ++ F).Nodup →
    ∃ F', RE K H (putA as ps e) σ F' ∧ F'.Nodup ∧ ∀ b ∈ F', b ∈ Fp ++ F
  | [], vs, Fg, ps, e, Fp, F, H0, hg, hp, hr, n => by
    cases ps <;> exact ⟨F, by simpa [putA] using hr, nd_right n, fun b z => List.mem_append_right _ z⟩
  | .own x :: r, vs, Fg, ps, e, Fp, F, H0, hg, hp, hr, n => by
    simp only [RGs, RG] at hg
    obtain ⟨v, vr, F1, F2, rfl, _, hg, _⟩ := hg
    cases ps with
    | nil => exact ⟨F, by simpa [putA] using hr, nd_right n, fun b z => List.mem_append_right _ z⟩
    | cons p ps =>
      simp only [putA]
      cases p with
      | none =>
        simp only [List.map_cons, RE] at hp
        obtain ⟨y, s, eq, hp⟩ := hp
        cases eq
        exact putA_ok hg hp hr n
      | some p =>
        simp only [List.map_cons, RE] at hp
        obtain ⟨y, s, G1, G2, eq, _, hp, rfl⟩ := hp
        cases eq
        rw [List.append_assoc] at n
        obtain ⟨F', a, b, c⟩ := putA_ok hg hp hr (List.nodup_append.mp n).2.1
        exact ⟨F', a, b, fun b z => by rw [List.append_assoc]; exact List.mem_append_right _ (c b z)⟩
  | .ref i :: r, vs, Fg, ps, e, Fp, F, H0, hg, hp, hr, n => by
    simp only [RGs, RG] at hg
    obtain ⟨v, vr, F1, F2, rfl, ⟨hσ, _⟩, hg, _⟩ := hg
    cases ps with
    | nil => exact ⟨F, by simpa [putA] using hr, nd_right n, fun b z => List.mem_append_right _ z⟩
    | cons p ps =>
      cases p with
      | none =>
        simp only [putA]
        simp only [List.map_cons, RE] at hp
        obtain ⟨y, s, eq, hp⟩ := hp
        cases eq
        exact putA_ok hg hp hr n
      | some p =>
        simp only [putA]
        simp only [List.map_cons, RE] at hp
        obtain ⟨y, s, G1, G2, eq, hv, hp, rfl⟩ := hp
        cases eq
        obtain ⟨F0, r0, s0⟩ := hr.forget (i := i)
        have hl : i < e.length := by rw [← hr.len]; exact (List.getElem?_eq_some_iff.mp hσ).1
        obtain ⟨F3, r3, p3⟩ := r0.put hl hσ hv
        have n2 : (G2 ++ (G1 ++ F)).Nodup := by
          refine nodup_of_perm ?_ n
          rw [← List.append_assoc]
          exact List.Perm.append_right _ List.perm_append_comm
        have n3 : (G2 ++ F3).Nodup := nodup_of_perm (List.Perm.append_left _ p3) (n2.sublist (List.Sublist.append (List.Sublist.refl _) (List.Sublist.append (List.Sublist.refl _) s0)))
        obtain ⟨F', a, b, c⟩ := putA_ok hg hp r3 n3
        refine ⟨F', a, b, fun b z => ?_⟩
        rcases List.mem_append.mp (c b z) with z | z
        · exact List.mem_append_left _ (List.mem_append_right _ z)
        · rcases List.mem_append.mp (p3.subset z) with z | z
          · exact List.mem_append_left _ (List.mem_append_left _ z)
          · exact List.mem_append_right _ (s0.subset z)
def eCall (f : FM) (a : AM) : EM := fun env => (a env).bind fun as e => match takeA as e with
  | some (ps, e1) => (match f ps with
    | .ok x qs => .ok x (putA as qs e1)
    | .exc x qs => .exc x (putA as qs e1)
    | .bad => .bad)
  | none => .bad
theorem im_eCall {n : Nat} {f : FM} {ta : TA} {a : AM} (ha : ImA K mg W ta a) (hn' : ∀ env as e, a env = .ok as e → as.length = n) : ImE K mg W (tCallS (spF K mg n f) (WE W) ta) (eCall f a) := by
  intro σ H Q env F hr hn hp
  have hlen := hn' env
  unfold eCall at hp
  cases ea : a env with
  | bad => rw [ea] at hp; exact hp.elim
  | exc x e => exact ha σ H _ env F hr hn (by rw [ea] at hp ⊢; exact hp)
  | ok as e =>
    refine ha σ H _ env F hr hn ?_
    rw [ea] at hp ⊢
    simp only [EO.bind_ok] at hp
    have hl : as.length = n := hlen as e ea
    intro vs H1 Fv F1 hr1 hx hn1 hf1
    cases et : takeA as e with
    | none => rw [et] at hp; exact hp.elim
    | some z =>
      obtain ⟨ps, e1⟩ := z
      rw [et] at hp
      simp only at hp
      obtain ⟨hl1, Fa, Fr, hv, hr2, pm⟩ := takeA_ok hx hr1 et
      have nA : (Fa ++ Fr).Nodup := nodup_of_perm pm.symm hn1
      have nB : (Fr ++ Fa).Nodup := nodup_of_perm List.perm_append_comm nA
      have hf2 : Fm F H (Fa ++ Fr) H1 := hf1.sub fun b z => pm.symm.subset z
      have lps : ps.length = n := by
        rw [← hv.length, ← hl]
        clear hp et hr2 hv pm nA nB hf2 hl ea hl1
        induction as generalizing vs Fv with
        | nil => simp only [RGs] at hx; rw [hx.1]; rfl
        | cons x r ih =>
          simp only [RGs] at hx
          obtain ⟨v, vr, G1, G2, rfl, _, hx, rfl⟩ := hx
          have := ih vr G2 hx (by rw [List.append_assoc] at hn1; exact (List.nodup_append.mp hn1).2.1) (hf1.sub fun b z => by rw [List.append_assoc]; exact List.mem_append_right _ z)
          simp [this]
      refine ⟨ps, Fa, lps, hv, (List.nodup_append.mp nA).1, ?_⟩
      cases ef : f ps with
      | bad => rw [ef] at hp; exact hp.elim
      | ok x qs =>
        rw [ef] at hp
        intro v H2 Fw Fp rx rp np fm
        have hr3 := hr2.keep (keep_ap nB hv.mt fm)
        have n5 := nd_later nB hr2.mt fm np
        have n6 : ((Fw ++ Fp) ++ Fr).Nodup := nodup_of_perm List.perm_append_comm n5
        rw [List.append_assoc] at n6
        obtain ⟨F', a, b, c⟩ := putA_ok hx rp hr3 (List.nodup_append.mp n6).2.1
        refine hp v H2 Fw F' a rx ?_ (hf2.trans ⟨fm.kp.mono fun b z => List.mem_append_left _ z, fun b z => ?_⟩)
        · rw [List.nodup_append]
          refine ⟨(List.nodup_append.mp n6).1, b, fun q hq w hw e => ?_⟩
          subst e
          exact (List.nodup_append.mp n6).2.2 q hq q (c q hw) rfl
        · have go : b ∈ Fw ++ Fp → b ∈ Fa ++ Fr ∨ H1 b = none := fun z => (fm.fr b z).imp (fun z => List.mem_append_left _ z) id
          rcases List.mem_append.mp z with z | z
          · exact go (List.mem_append_left _ z)
          · rcases List.mem_append.mp (c b z) with z | z
            · exact go (List.mem_append_right _ z)
            · exact .inl (List.mem_append_right _ z)
      | exc x qs =>
        rw [ef] at hp
        intro cls d H2 Fp rp np fm rx
        have hr3 := hr2.keep (keep_ap nB hv.mt fm)
        have n5 := nd_later nB hr2.mt fm np
        have n6 : (Fp ++ Fr).Nodup := nodup_of_perm List.perm_append_comm n5
        obtain ⟨F', a, b, c⟩ := putA_ok hx rp hr3 n6
        refine hp cls d H2 F' a b (hf2.trans ⟨fm.kp.mono fun b z => List.mem_append_left _ z, fun b z => ?_⟩) rx
        rcases List.mem_append.mp (c b z) with z | z
        · exact (fm.fr b z).imp (fun z => List.mem_append_left _ z) id
        · exact .inl (List.mem_append_right _ z)
end
end PVL

/-! P6: defs as pure functions; the joint judgements (rule and pure function at once). -/
namespace PVL
open PySem PySem.Spec L2

/-! ### defs -/
def finals : List PV → PEnv → List (Option PV)
  | [], _ => []
  | p :: r, x :: e => (if p.imm = true then some p else x) :: finals r e
  | _ :: r, [] => none :: finals r []
/-- a def: so many parameters, so many names, the parameters that are stored, the body -/
def fnM (n m : Nat) (asg : List Nat) (body : SM) : FM := fun ps => if asg.all (fun j => match ps[j]? with | some p => p.imm | none => true) = true then
    (match body (ps.map some ++ List.replicate (m - n) none) with
    | .next e => .ok .non (finals ps e)
    | .ret x e => .ok x (finals ps e)
    | .exc x e => .exc x (finals ps e)
    | _ => .bad) else .bad
section
variable {K : PySem.W.Frag} {mg : Str → Option Value}
theorem start_ok {H : Hp} {N : Nat} : ∀ {ps : List PV} {vs : List V} {F : List Addr}, RVL K H ps vs F → RE K H (ps.map some ++ List.replicate N none) (vs.map some ++ List.replicate N none) F
  | [], vs, F, h => by
    simp only [RVL] at h
    obtain ⟨rfl, rfl⟩ := h
    simp only [List.map_nil, List.nil_append]
    induction N with
    | zero => simp [RE]
    | succ n ih => simp only [List.replicate_succ, RE]; exact ⟨_, _, rfl, ih⟩
  | p :: ps, vs, F, h => by
    simp only [RVL] at h
    obtain ⟨v, vr, F1, F2, rfl, h1, h2, rfl⟩ := h
    simp only [List.map_cons, List.cons_append, RE]
    exact ⟨v, _, F1, F2, rfl, h1, start_ok h2, rfl⟩
theorem finals_ok {H H' : Hp} {X : L2.St} (k : ∀ b o, H b = some o → mutO o = false → H' b = some o) : ∀ {ps : List PV} {vs : List V} {F0 : List Addr} {e : PEnv} {σ : L2.St} {F : List Addr}, RVL K H ps vs F0 → RE K H' e σ F →
    (∀ (j : Nat) (p : PV), ps[j]? = some p → p.imm = false → σ[j]? = (vs.map some)[j]?) → ∃ F', RE K H' (finals ps e) (vs.map some) F' ∧ F'.Sublist F
  | [], vs, F0, e, σ, F, h, hr, _ => by
    simp only [RVL] at h
    obtain ⟨rfl, rfl⟩ := h
    exact ⟨[], by simp [finals, RE], List.nil_sublist _⟩
  | p :: ps, vs, F0, [], σ, F, h, hr, q => by
    simp only [RVL] at h
    obtain ⟨v, vr, F1, F2, rfl, h1, h2, rfl⟩ := h
    simp only [RE] at hr
    obtain ⟨rfl, rfl⟩ := hr
    obtain ⟨F', a, b⟩ := finals_ok (X := X) k (e := []) (σ := []) (F := []) h2 (by simp [RE]) fun j p' e1 e2 => by simpa using q (j + 1) p' (by simpa using e1) e2
    exact ⟨F', by simp only [finals, List.map_cons, RE]; exact ⟨_, _, rfl, a⟩, b⟩
  | p :: ps, vs, F0, x :: e, σ, F, h, hr, q => by
    simp only [RVL] at h
    obtain ⟨v, vr, F1, F2, rfl, h1, h2, rfl⟩ := h
    have q' : ∀ {y : Option V} {s : L2.St}, σ = y :: s → ∀ (j : Nat) (p' : PV), ps[j]? = some p' → p'.imm = false → s[j]? = (vr.map some)[j]? := fun eq j p' e1 e2 => by
      subst eq
      simpa using q (j + 1) p' (by simpa using e1) e2
    by_cases hi : p.imm = true
    · have eF := RV.imm hi h1
      subst eF
      have h1' : RV K H' p v [] := h1.keep fun b o e m => k b o e (by simpa using m)
      simp only [finals, if_pos hi, List.map_cons, RE]
      cases x with
      | none =>
        simp only [RE] at hr
        obtain ⟨y, s, rfl, hr⟩ := hr
        obtain ⟨F', a, b⟩ := finals_ok (X := X) k h2 hr (q' rfl)
        exact ⟨F', ⟨v, _, [], F', rfl, h1', a, rfl⟩, b⟩
      | some x =>
        simp only [RE] at hr
        obtain ⟨y, s, G1, G2, rfl, _, hr, rfl⟩ := hr
        obtain ⟨F', a, b⟩ := finals_ok (X := X) k h2 hr (q' rfl)
        exact ⟨F', ⟨v, _, [], F', rfl, h1', a, rfl⟩, b.trans (List.sublist_append_right _ _)⟩
    · simp only [finals, if_neg hi, List.map_cons]
      cases x with
      | none =>
        simp only [RE] at hr ⊢
        obtain ⟨y, s, rfl, hr⟩ := hr
        obtain ⟨F', a, b⟩ := finals_ok (X := X) k h2 hr (q' rfl)
        exact ⟨F', ⟨_, _, rfl, a⟩, b⟩
      | some x =>
        simp only [RE] at hr ⊢
        obtain ⟨y, s, G1, G2, rfl, hx, hr, rfl⟩ := hr
        have e0 := q 0 p rfl (by simpa using hi)
        simp at e0
        subst e0
        obtain ⟨F', a, b⟩ := finals_ok (X := X) k h2 hr (q' rfl)
        exact ⟨G1 ++ F', ⟨y, _, G1, F', rfl, hx, a, rfl⟩, List.Sublist.append (List.Sublist.refl _) b⟩
theorem im_fn {n m : Nat} {asg S : List Nat} {t : TS} {body : SM} {E : XK} {N : List Str} (hN : N.length = m) (hS : ∀ j ∈ S, j < n → j ∈ asg) (hb : ImS K mg (fun cls d _ H => E cls d H) S t body) {vs : List V} {H : Hp} {Q : VK}
    (h : spF K mg n (fnM n m asg body) vs H Q E) : t { nx := fun _ H' => Q .non H', rt := Q } (L2.start N vs) H := by
  obtain ⟨ps, F, hl, hv, hn, hp⟩ := h
  unfold fnM at hp
  by_cases ha : asg.all (fun j => match ps[j]? with | some p => p.imm | none => true) = true
  · simp only [ha, if_true] at hp
    have lv : vs.length = n := by rw [hv.length, hl]
    have e0 : L2.start N vs = vs.map some ++ List.replicate (m - n) none := by unfold L2.start; rw [hN, lv]
    rw [e0]
    have fin : ∀ {e : PEnv} {σ' : L2.St} {H' : Hp} {F' : List Addr}, RE K H' e σ' F' → Fm F H F' H' → Ag S (vs.map some ++ List.replicate (m - n) none) σ' → ∃ Fp, RE K H' (finals ps e) (vs.map some) Fp ∧ Fp.Sublist F' := by
      intro e σ' H' F' hr f ag
      refine finals_ok (X := []) (fun b o e m => f.kp b o (fun z => ?_) e) hv hr fun j p e1 e2 => ?_
      · obtain ⟨o', e', m'⟩ := hv.mt b z
        rw [e] at e'; cases e'; rw [m] at m'; cases m'
      · have hj : j < n := by rw [← hl]; exact (List.getElem?_eq_some_iff.mp e1).1
        rw [ag.at_ j fun z => ?_]
        · rw [List.getElem?_append_left (by rw [List.length_map, lv]; exact hj)]
        · have := List.all_eq_true.mp ha j (hS j z hj)
          rw [e1] at this
          simp only at this
          rw [this] at e2; cases e2
    refine hb _ _ H _ F (start_ok hv) hn ?_
    cases eb : body (ps.map some ++ List.replicate (m - n) none) with
    | next e =>
      simp only [eb] at hp
      intro σ' H' F' x1 x2 x3 x4
      obtain ⟨Fp, a, b⟩ := fin x1 x3 x4
      exact hp .non H' [] Fp (by simp [RV]) a (by simpa using x2.sublist b) (x3.sub fun z y => b.subset (by simpa using y))
    | ret x e =>
      simp only [eb] at hp
      intro v σ' H' Fv F' x1 x2 x3 x4 x5
      obtain ⟨Fp, a, b⟩ := fin x1 (fm_left x4) x5
      exact hp v H' Fv Fp x2 a (x3.sublist (List.Sublist.append (List.Sublist.refl _) b)) (x4.sub fun z y => (List.Sublist.append (List.Sublist.refl Fv) b).subset y)
    | brk e => simp only [eb] at hp; exact hp.elim
    | cont e => simp only [eb] at hp; exact hp.elim
    | exc x e =>
      simp only [eb] at hp
      intro cls d σ' H' F' x1 x2 x3 x4 x5
      obtain ⟨Fp, a, b⟩ := fin x1 x3 x4
      exact hp cls d H' Fp a (x2.sublist b) (x3.sub fun z y => b.subset y) x5
    | bad => simp only [eb] at hp; exact hp.elim
  · simp only [ha] at hp; exact hp.elim
theorem spF_len {n : Nat} {f : FM} {ps : List Str} (h : ps.length = n) : ∀ vs H Q E, spF K mg n f vs H Q E → vs.length = ps.length := fun vs H Q E ⟨qs, F, hl, hv, _⟩ => by rw [hv.length, hl, h]
end

/-! ### rule and pure function at once -/
structure JE (X : Cx) (W : WX) (e : Expr) (t : TE) (m : EM) : Prop where
  pe : PE X e t
  im : ImE X.K X.mg W t m
structure JG (X : Cx) (W : WX) (e : Expr) (t : TE) (m : GM) : Prop where
  pe : PE X e t
  im : ImG X.K X.mg W t m
structure JR (X : Cx) (e : Expr) (t : TE) (m : RM) : Prop where
  pe : PE X e t
  im : ImR X.K t m
structure JA (X : Cx) (W : WX) (es : List Expr) (t : TA) (m : AM) : Prop where
  pa : PA X es t
  im : ImA X.K X.mg W t m
  len : ∀ env as e, m env = .ok as e → as.length = es.length
structure JT (X : Cx) (W : WX) (e : Expr) (t : TT) (m : BM) : Prop where
  pt : PT X e t
  im : ImT X.K X.mg W t m
structure JW (X : Cx) (W : WX) (e : Expr) (t : TT) (m : BM) : Prop where
  pw : PW X e t
  im : ImT X.K X.mg W t m
structure JS (X : Cx) (W : WX) (S : List Nat) (st : Stmt) (t : TS) (m : SM) : Prop where
  ps : PS X st t
  im : ImS X.K X.mg W S t m
structure JSs (X : Cx) (W : WX) (S : List Nat) (st : List Stmt) (t : TS) (m : SM) : Prop where
  ps : PSs X st t
  im : ImS X.K X.mg W S t m
structure JP (X : Cx) (S : List Nat) (e : Expr) (t : TG) (m : TM) : Prop where
  pg : PG X e t
  im : ImTg X.K S t m
structure JPs (X : Cx) (S : List Nat) (es : List Expr) (t : TGs) (m : List PV → PEnv → Option PEnv) : Prop where
  pg : PGs X es t
  im : ImTgs X.K S t m
structure JI (X : Cx) (W : WX) (tg e : Expr) (t : TI) (m : PEnv → EO (List PV)) : Prop where
  pi : PI X tg e t
  im : ImI X.K X.mg W t m

section
variable {X : Cx} {W : WX} {S S1 S2 : List Nat} {e a b c : Expr} {es : List Expr} {te ta tb : TE} {tA : TA} {m ma mb : EM} {ga gb : GM} {ra rb : RM} {am : AM} {pos : Pos}
/-! expressions -/
theorem j_int {i j} : JE X W (.Constant (.int i) j pos) (tC (.int i)) (eC (.int i)) := ⟨pe_int, im_eC⟩
theorem j_str {x j} : JE X W (.Constant (.str x) j pos) (tC (.str x)) (eC (.str x)) := ⟨pe_str, im_eC⟩
theorem j_bl {x j} : JE X W (.Constant (.bool x) j pos) (tC (.bl x)) (eC (.bl x)) := ⟨pe_bl, im_eC⟩
theorem j_non {j} : JE X W (.Constant .none j pos) (tC .non) (eC .non) := ⟨pe_non, im_eC⟩
theorem jr_int {i j} : JR X (.Constant (.int i) j pos) (tC (.int i)) (rC (.int i)) := ⟨pe_int, im_rC⟩
theorem jr_str {x j} : JR X (.Constant (.str x) j pos) (tC (.str x)) (rC (.str x)) := ⟨pe_str, im_rC⟩
theorem jr_bl {x j} : JR X (.Constant (.bool x) j pos) (tC (.bl x)) (rC (.bl x)) := ⟨pe_bl, im_rC⟩
theorem jr_non {j} : JR X (.Constant .none j pos) (tC .non) (rC .non) := ⟨pe_non, im_rC⟩
theorem j_var (i : Nat) {x : Str} (hN : X.N[i]? = some x := by rfl) (hv : Vis X.env.scope x := by first | exact Or.inl rfl | exact Or.inr (Or.inl rfl) | exact Or.inr (Or.inr rfl)) (hd : (x == ("__debug__" : Str)) = false := by decide)
    (hcd : (x == ("__classdict__" : Str)) = false := by decide) : JE X W (.Name x pos) (tVar i) (eVar i) := ⟨pe_var hN hv hd hcd, im_eVar i⟩
theorem jr_var (i : Nat) {x : Str} (hN : X.N[i]? = some x := by rfl) (hv : Vis X.env.scope x := by first | exact Or.inl rfl | exact Or.inr (Or.inl rfl) | exact Or.inr (Or.inr rfl)) (hd : (x == ("__debug__" : Str)) = false := by decide)
    (hcd : (x == ("__classdict__" : Str)) = false := by decide) : JR X (.Name x pos) (tVar i) (rVar i) := ⟨pe_var hN hv hd hcd, im_rVar i⟩
theorem jg_var (i : Nat) {x : Str} (hN : X.N[i]? = some x := by rfl) (hv : Vis X.env.scope x := by first | exact Or.inl rfl | exact Or.inr (Or.inl rfl) | exact Or.inr (Or.inr rfl)) (hd : (x == ("__debug__" : Str)) = false := by decide)
    (hcd : (x == ("__classdict__" : Str)) = false := by decide) : JG X W (.Name x pos) (tVar i) (gRef i) := ⟨pe_var hN hv hd hcd, im_gRef i⟩
theorem jg (h : JE X W e te m) : JG X W e te (gOwn m) := ⟨h.pe, im_gOwn h.im⟩
theorem j_r (h : JR X e te ra) : JE X W e te (eR ra) := ⟨h.pe, im_eR h.im⟩
theorem ja_nil : JA X W [] tNil aNil := ⟨pa_nil, im_aNil, fun env as e h => by simp only [aNil, EO.ok.injEq] at h; rw [← h.1]; rfl⟩
theorem ja_cons (h : JG X W e te ga) (r : JA X W es tA am) (hs : starEach (e :: es) X.env = (false, eval e X.env) :: starEach es X.env := by rfl) : JA X W (e :: es) (tCons te tA) (aCons ga am) := by
  refine ⟨pa_cons h.pe r.pa hs, im_aCons h.im r.im, fun env as e1 h1 => ?_⟩
  unfold aCons at h1
  cases eg : ga env with
  | bad => rw [eg] at h1; cases h1
  | exc x e2 => rw [eg] at h1; cases h1
  | ok x e2 =>
    rw [eg] at h1
    simp only [EO.bind_ok] at h1
    cases ea : am e2 with
    | bad => rw [ea] at h1; cases h1
    | exc x e3 => rw [ea] at h1; cases h1
    | ok r3 e3 =>
      rw [ea] at h1
      simp only [EO.bind_ok, EO.ok.injEq] at h1
      rw [← h1.1, List.length_cons, List.length_cons, r.len e2 r3 e3 ea]
theorem j_tup {x1} (h : JA X W es tA am) : JE X W (.Tuple es x1 pos) (tTup tA) (eTup am) := ⟨pe_tup h.pa, im_eTup h.im⟩
theorem j_lst (h : JA X W es tA am) : JE X W (.List es pos) (tLst tA) (eLst am) := ⟨pe_lst h.pa, im_eLst h.im⟩
theorem j_op {op : Operator} {r : R2} {f : PV → PV → Option PV} (hs : SimR2 X.K r f) (ho : OpR X (binaryOp op) r) (ha : JG X W a ta ga) (hb : JG X W b tb gb) : JE X W (.BinOp a op b pos) (tOp r ta tb) (eOp f ga gb) := ⟨pe_op ho ha.pe hb.pe, im_op hs ha.im hb.im⟩
theorem jr_op {op : Operator} {r : R2} {f : PV → PV → Option PV} (hs : SimR2 X.K r f) (ho : OpR X (binaryOp op) r) (ha : JR X a ta ra) (hb : JR X b tb rb) : JR X (.BinOp a op b pos) (tOp r ta tb) (rOp f ra rb) := ⟨pe_op ho ha.pe hb.pe, im_rOp hs.b ha.im hb.im⟩
theorem j_un {op : UnaryOp} {r : V → Hp → VK → Prop} {f : PV → Option PV} (hs : SimU X.K r f) (ho : UnR X (unaryOp op) r) (ha : JG X W a ta ga) : JE X W (.UnaryOp op a pos) (tUn r ta) (eUn f ga) := ⟨pe_un ho ha.pe, im_un hs ha.im⟩
theorem jr_un {op : UnaryOp} {r : V → Hp → VK → Prop} {f : PV → Option PV} (hs : SimU X.K r f) (ho : UnR X (unaryOp op) r) (ha : JR X a ta ra) : JR X (.UnaryOp op a pos) (tUn r ta) (rUn f ra) := ⟨pe_un ho ha.pe, im_rUn hs ha.im⟩
theorem j_cmp {op : CmpOp} {r : R2} {f : PV → PV → Option PV} (hs : SimR2 X.K r f) (ho : OpR X (compareOp op) r) (hm : behindInMarks op b = false) (ha : JG X W a ta ga) (hb : JG X W b tb gb) : JE X W (.Compare a [op] [b] pos) (tOp r ta tb) (eOp f ga gb) := ⟨pe_cmpR ho ha.pe hb.pe hm, im_op hs ha.im hb.im⟩
theorem jt_cmp {op : CmpOp} {r : R2} {f : PV → PV → Option PV} (hs : SimR2 X.K r f) (ho : OpR X (compareOp op) r) (hm : behindInMarks op b = false) (ha : JG X W a ta ga) (hb : JG X W b tb gb) : JT X W (.Compare a [op] [b] pos) (tTest (tOp r ta tb)) (bE (eOp f ga gb)) := ⟨pt_cmpR ho ha.pe hb.pe hm, im_bE (im_op hs ha.im hb.im)⟩
/-- x[i] -/
theorem j_ix {r : R2} {f : PV → PV → Option PV} (hs : SimB2 X.K r f) (hr : IxR X r) (ha : JG X W a ta ga) (hb : JG X W b tb gb) (hp : PlainIx b := by intro _ _; rfl) : JE X W (.Subscript a b pos) (tOp r ta tb) (eOp (fun x y => immO (f x y)) ga gb) := ⟨pe_ix hr ha.pe hb.pe hp, im_op hs.i ha.im hb.im⟩
theorem jr_ix {r : R2} {f : PV → PV → Option PV} (hs : SimB2 X.K r f) (hr : IxR X r) (ha : JR X a ta ra) (hb : JR X b tb rb) (hp : PlainIx b := by intro _ _; rfl) : JR X (.Subscript a b pos) (tOp r ta tb) (rOp f ra rb) := ⟨pe_ix hr ha.pe hb.pe hp, im_rOp hs ha.im hb.im⟩
/-- builtins by name -/
theorem j_callB {x : Str} {p : Pos} {id : String} {r : List V → Hp → VK → Prop} {f : List PV → Option PV} (hs : SimL X.K r f) (hc : CallR X (.builtin id) r) (hv : bootBuiltins x = some (.builtin id)) (hm : X.mg x = none) (ha : JA X W (e :: es) tA am) (hg : Gl X x := by rfl) (hn : x ≠ "__name__" := by decide) (hdb : (x == ("__debug__" : Str)) = false := by decide)
    (he : starEach (e :: es) X.env = (false, eval e X.env) :: starEach es X.env := by rfl) (hpl : (backTo pos (starEach es X.env)).any (·.1) = false := by rfl) : JE X W (.Call (.Name x p) (e :: es) [] pos) (tCB r tA) (eCl f am) := ⟨pe_callB hc hg hm hv ha.pa hn hdb he hpl, im_cl hs ha.im⟩
theorem j_callTy {x : Str} {p : Pos} {T : String} {r : List V → Hp → VK → Prop} {f : List PV → Option PV} (hs : SimL X.K r f) (hc : CallR X (.type T) r) (hv : bootBuiltins x = some (.type T)) (hm : X.mg x = none) (ha : JA X W (e :: es) tA am) (hg : Gl X x := by rfl) (hn : x ≠ "__name__" := by decide) (hdb : (x == ("__debug__" : Str)) = false := by decide)
    (he : starEach (e :: es) X.env = (false, eval e X.env) :: starEach es X.env := by rfl) (hpl : (backTo pos (starEach es X.env)).any (·.1) = false := by rfl) : JE X W (.Call (.Name x p) (e :: es) [] pos) (tCB r tA) (eCl f am) := ⟨pe_callTy hc hg hm hv ha.pa hn hdb he hpl, im_cl hs ha.im⟩
/-- a def of the text -/
theorem j_call {k n : Nat} {f : Addr} {fd : FuncData} {ps : List Str} {fm : FM} {x : Str} {p : Pos} (F : FnOk X.prog X.w X.K X.mg X.base (L2.CX X.prog X.w) k f fd ps (spF X.K X.mg n fm)) (hr : Room k X.A) (hm : X.mg x = some (.ref f)) (hk : PySem.W.keepIn X.K (.ref f) = true) (hb : Binds X.K fd ps []) (tk : Takes X W)
    (ha : JA X W (e :: es) tA am) (hl : (e :: es).length = n := by rfl) (hg : Gl X x := by rfl) (hdb : (x == ("__debug__" : Str)) = false := by decide) (he : starEach (e :: es) X.env = (false, eval e X.env) :: starEach es X.env := by rfl) (hpl : (backTo pos (starEach es X.env)).any (·.1) = false := by rfl) :
    JE X W (.Call (.Name x p) (e :: es) [] pos) (tCallS (spF X.K X.mg n fm) (WE W) tA) (eCall fm am) :=
  ⟨pe_callS F hr hg hm hk hb (fun σ => passAt tk σ) ha.pa hdb he hpl, im_eCall ha.im fun env as e h => by rw [ha.len env as e h, hl]⟩
/-- a method of a built-in type upon a name -/
theorem j_meth {T id : String} {name x : Str} {i : Nat} {r : V → List V → Hp → VK → Prop} {f : PV → List PV → Option (PV × PV)} {apos p : Pos} (pa : PlainAttrs T) (slot : Slot T name id) (hty : typeOf (.builtin id) = pure (.type "method_descriptor")) (hs : SimM X.K r f) (hm : MtR X id r) (ho : JR X (.Name x p) (tVar i) (rVar i)) (ha : JA X W (e :: es) tA am)
    (hbase : attributeBase (.Name x p) name X.env (eval (.Name x p) X.env) = eval (.Name x p) X.env := by rfl)
    (hfew : ((backTo pos (starEach (e :: es) X.env)).all (fun x => !x.1) && (backToKw pos (keywordEach [] X.env)).all (fun x => x.1.isSome)
      && decide ((e :: es).length + ([] : List Keyword).length + (if ([] : List Keyword).isEmpty then 0 else 1) < 30)) = true := by rfl)
    (hline : (apos.endLine == pos.line) = true := by rfl) (hs' : starEach (e :: es) X.env = (false, eval e X.env) :: starEach es X.env := by rfl) (hplain : (backTo pos (starEach es X.env)).any (·.1) = false := by rfl) :
    JE X W (.Call (.Attribute (.Name x p) name apos) (e :: es) [] pos) (tBM X.K T r (tVar i) tA) (eMeth T i f am) := ⟨pe_bm pa slot hty hm ho.pe ha.pa hbase hfew hline hs' hplain, im_eMeth hs ha.im⟩
theorem j_methB {T id : String} {name x : Str} {i : Nat} {r : V → List V → Hp → VK → Prop} {f : PV → List PV → Option (PV × PV)} {apos p : Pos} (pa : PlainAttrs T) (slot : Slot T name id) (hty : typeOf (.builtin id) = pure (.type "method_descriptor")) (hs : SimMB X.K r f) (hm : MtR X id r) (ho : JR X (.Name x p) (tVar i) (rVar i)) (ha : JA X W (e :: es) tA am)
    (hbase : attributeBase (.Name x p) name X.env (eval (.Name x p) X.env) = eval (.Name x p) X.env := by rfl)
    (hfew : ((backTo pos (starEach (e :: es) X.env)).all (fun x => !x.1) && (backToKw pos (keywordEach [] X.env)).all (fun x => x.1.isSome)
      && decide ((e :: es).length + ([] : List Keyword).length + (if ([] : List Keyword).isEmpty then 0 else 1) < 30)) = true := by rfl)
    (hline : (apos.endLine == pos.line) = true := by rfl) (hs' : starEach (e :: es) X.env = (false, eval e X.env) :: starEach es X.env := by rfl) (hplain : (backTo pos (starEach es X.env)).any (·.1) = false := by rfl) :
    JE X W (.Call (.Attribute (.Name x p) name apos) (e :: es) [] pos) (tBM X.K T r (tVar i) tA) (eMethB T i f am) := ⟨pe_bm pa slot hty hm ho.pe ha.pa hbase hfew hline hs' hplain, im_eMethB hs ha.im⟩
theorem j_meth0 {T id : String} {name x : Str} {i : Nat} {r : V → List V → Hp → VK → Prop} {f : PV → List PV → Option (PV × PV)} {apos p : Pos} (pa : PlainAttrs T) (slot : Slot T name id) (hty : typeOf (.builtin id) = pure (.type "method_descriptor")) (hs : SimM X.K r f) (hm : MtR X id r) (ho : JR X (.Name x p) (tVar i) (rVar i))
    (hbase : attributeBase (.Name x p) name X.env (eval (.Name x p) X.env) = eval (.Name x p) X.env := by rfl) (hline : (apos.endLine == pos.line) = true := by rfl) :
    JE X W (.Call (.Attribute (.Name x p) name apos) [] [] pos) (tBM0 X.K T r (tVar i)) (eMeth0 T i f) := ⟨pe_bm0 pa slot hty hm ho.pe hbase hline, im_eMeth0 hs⟩
/-! and, or, not, if -/
variable {tT tU : TT} {ba bb : BM} {rest : List Expr}
theorem jt_val (h : JE X W e te m) (he : ∀ whole, isTrue e X.env whole = (do let v ← whole; standAt e.pos; holding [v] (truthy v)) := by intro _; rfl) : JT X W e (tB te) (bE m) := ⟨pt_val h.pe he, im_bE h.im⟩
theorem jw_and1 (h : JT X W a tT ba) : JW X W (.BoolOp .And [a] pos) tT ba := ⟨pw_and1 h.pt, h.im⟩
theorem jw_or1 (h : JT X W a tT ba) : JW X W (.BoolOp .Or [a] pos) tT ba := ⟨pw_or1 h.pt, h.im⟩
theorem jw_and (h : JT X W a tT ba) (r : JW X W (.BoolOp .And (b :: rest) pos) tU bb) : JW X W (.BoolOp .And (a :: b :: rest) pos) (tAnd tT tU) (bAnd ba bb) := ⟨pw_and h.pt r.pw, im_bAnd h.im r.im⟩
theorem jw_or (h : JT X W a tT ba) (r : JW X W (.BoolOp .Or (b :: rest) pos) tU bb) : JW X W (.BoolOp .Or (a :: b :: rest) pos) (tOr tT tU) (bOr ba bb) := ⟨pw_or h.pt r.pw, im_bOr h.im r.im⟩
theorem JW.t (h : JW X W e tT ba) : JT X W e tT ba := ⟨h.pw.pt, h.im⟩
theorem jt_not (h : JT X W a tT ba) : JT X W (.UnaryOp .Not a pos) (tNot tT) (bNot ba) := ⟨pt_not h.pt, im_bNot h.im⟩
theorem j_one {op} (h : JE X W a ta ma) : JE X W (.BoolOp op [a] pos) ta ma := ⟨pe_one h.pe, h.im⟩
theorem j_and (h : JE X W a ta ma) (r : JE X W (.BoolOp .And (b :: rest) pos) tb mb) : JE X W (.BoolOp .And (a :: b :: rest) pos) (tAndV ta tb) (eAnd ma mb) := ⟨pe_and h.pe r.pe, im_eAnd h.im r.im⟩
theorem j_or (h : JE X W a ta ma) (r : JE X W (.BoolOp .Or (b :: rest) pos) tb mb) : JE X W (.BoolOp .Or (a :: b :: rest) pos) (tOrV ta tb) (eOr ma mb) := ⟨pe_or h.pe r.pe, im_eOr h.im r.im⟩
theorem j_not (h : JE X W a ta ma) : JE X W (.UnaryOp .Not a pos) (tNotV ta) (eNot ma) := ⟨pe_not h.pe, im_eNot h.im⟩
theorem j_if (hc : JT X W c tT ba) (ha : JE X W a ta ma) (hb : JE X W b tb mb) : JE X W (.IfExp c a b pos) (tIf tT ta tb) (eIf ba ma mb) := ⟨pe_ifExp hc.pt ha.pe hb.pe, im_eIf hc.im ha.im hb.im⟩
/-! targets -/
theorem jp_n (i : Nat) {x : Str} (hN : X.N.Nodup) (hi : X.N[i]? = some x := by rfl) (hx : Loc X.env.scope x := by first | exact Or.inl rfl | exact Or.inr rfl) (hf : X.fn x = true ∨ X.env.scope.names.lookup x = some .local := by first | exact .inl rfl | exact .inr rfl | assumption) : JP X [i] (.Name x pos) (gName i) (tgN i) := ⟨pg_name hN hi hx hf, im_tgN i⟩
theorem jps_nil : JPs X S [] gNil tgsNil := ⟨pgs_nil, im_tgsNil⟩
theorem jps_cons {tg : TG} {tgs : TGs} {mt : TM} {mts : List PV → PEnv → Option PEnv} (h : JP X S1 e tg mt) (r : JPs X S2 es tgs mts) (hs : (assignEach (e :: es) X.env).map (·.2) = assign e X.env :: (assignEach es X.env).map (·.2) := by rfl) : JPs X (S1 ++ S2) (e :: es) (gCons tg tgs) (tgsCons mt mts) := ⟨pgs_cons h.pg r.pg hs, im_tgsCons h.im r.im⟩
theorem jp_t {k n : Nat} {tgs : TGs} {mts : List PV → PEnv → Option PEnv} (hc : X.calm = true) (r : JPs X S es tgs mts) (hn : (assignEach es X.env).length = n := by rfl) (hst : (assignEach es X.env).findIdx? (·.1) = none := by rfl) : JP X S (.Tuple es k pos) (gTup X.K n tgs) (tgT n mts) := ⟨pg_tup hc r.pg hn hst, im_tgT r.im⟩
/-! what is walked -/
variable {tg : Expr} {tI : TI} {it : PEnv → EO (List PV)}
theorem ji_l (h : JE X W e te m) : JI X W tg e (iList X.K te) (itL m) := ⟨pi_list h.pe, im_itL h.im⟩
theorem ji_t (h : JE X W e te m) : JI X W tg e (iTup X.K te) (itT m) := ⟨pi_tup h.pe, im_itT h.im⟩
theorem ji_r1 {p : Pos} (hm : X.mg "range" = none) (ha : JA X W [a] tA am) (hg : Gl X "range" := by rfl) (hs : starEach [a] X.env = [(false, eval a X.env)] := by rfl) : JI X W tg (.Call (.Name "range" p) [a] [] pos) (iRng1 tA) (itR1 am) := ⟨pi_range1 hg hm ha.pa hs, im_itR1 ha.im⟩
theorem ji_r2 {p : Pos} (hm : X.mg "range" = none) (ha : JA X W [a, b] tA am) (hg : Gl X "range" := by rfl) (hs : starEach [a, b] X.env = [(false, eval a X.env), (false, eval b X.env)] := by rfl) (hs2 : starEach [b] X.env = [(false, eval b X.env)] := by rfl) : JI X W tg (.Call (.Name "range" p) [a, b] [] pos) (iRng2 tA) (itR2 am) := ⟨pi_range2 hg hm ha.pa hs hs2, im_itR2 ha.im⟩
/-- a list or a tuple -/
theorem pi_or {w1 w2 : TI} (h1 : PI X tg e w1) (h2 : PI X tg e w2) : PI X tg e (fun σ H R => w1 σ H R ∨ w2 σ H R) := ⟨fun pins s σ H R I h => by
  rcases h with h | h
  · exact h1.run pins s σ H R I h
  · exact h2.run pins s σ H R I h⟩
def itS (m : EM) : PEnv → EO (List PV) := fun env => match m env with
  | .ok (.tup xs) e => itT (fun _ => .ok (.tup xs) e) env
  | o => itL (fun _ => o) env
theorem ji_s (h : JE X W e te m) : JI X W tg e (fun σ H R => iList X.K te σ H R ∨ iTup X.K te σ H R) (itS m) := by
  refine ⟨pi_or (pi_list h.pe) (pi_tup h.pe), fun σ H R env F hr hn hp => ?_⟩
  have e1 : ∀ o, m env = o → itL m env = itL (fun _ => o) env ∧ itT m env = itT (fun _ => o) env := fun o e => by unfold itL itT; rw [e]; exact ⟨rfl, rfl⟩
  unfold itS at hp
  split at hp
  · rename_i xs e q
    rw [← (e1 _ q).2] at hp
    exact .inr (im_itT h.im σ H R env F hr hn hp)
  · rename_i q
    rw [← (e1 _ rfl).1] at hp
    exact .inl (im_itL h.im σ H R env F hr hn hp)
/-! comprehensions -/
theorem j_lc {elt iter : Expr} {scope : Scope} {own : List (Str × Nat)} {tt : TT} {te : TE} {g : TG} {mt : TM} {mc : BM} {me : EM} {ifs : List Expr} (hc : X.calm = true) (hN : X.N.Nodup) (hi : JI X W tg iter tI it) (ok : blkC X.N X.env.scope scope own = true)
    (hg : ∀ (s : Shared) (H : Hp) (C : Addr) (cl : List (Str × Addr)) (fp : List Addr), JP (X.blk s H scope (compEnvC scope cl C X.env) fp) S tg g mt) (hS : ∀ j ∈ S, j ∈ own.map (·.2))
    (ht : ∀ (s : Shared) (H : Hp) (C : Addr) (cl : List (Str × Addr)) (fp : List Addr), PTs (X.blk s H scope (compEnvC scope cl C X.env) fp) ifs tt ∧ ImT X.K X.mg W0 tt mc)
    (he : ∀ (s : Shared) (H : Hp) (C : Addr) (cl : List (Str × Addr)) (fp : List Addr), JE (X.blk s H scope (compEnvC scope cl C X.env) fp) W0 elt te me) (hs : ∀ x, foldedSetIterable iter X.env x = pure x := by intro _; rfl) :
    JE X W (.ListComp elt [⟨tg, iter, ifs, 0⟩] scope pos) (tLc tI g tt te (own.map (·.2))) (eLC it (own.map (·.2)) mt mc me) :=
  ⟨pe_lc hc hN hi.pi (blkOk_by ok) (fun s H C cl fp => (hg s H C cl fp).pg) (fun s H C cl fp => (ht s H C cl fp).1) (fun s H C cl fp => (he s H C cl fp).pe) hs,
    im_eLC hi.im (hg X.s_0 X.H_0 0 [] []).im hS (ht X.s_0 X.H_0 0 [] []).2 (he X.s_0 X.H_0 0 [] []).im⟩
end
end PVL

/-! P7: joint rules for statements. -/
namespace PVL
open PySem PySem.Spec L2
section
variable {X : Cx} {W : WX} {S S1 S2 : List Nat} {e a b c : Expr} {te : TE} {tA : TA} {m : EM} {am : AM} {k : RM} {pos : Pos} {st : Stmt} {sts body orelse : List Stmt} {t u : TS} {sa sb : SM} {tt : TT} {bc : BM}
theorem jss_nil : JSs X W S [] tNext sNil := ⟨pss_nil, im_sNil⟩
theorem jss_one (h : JS X W S st t sa) : JSs X W S [st] t sa := ⟨pss_one h.ps, h.im⟩
theorem jss_cons (h : JS X W S1 st t sa) (r : JSs X W S2 sts u sb) : JSs X W (S1 ++ S2) (st :: sts) (tSeq t u) (sSeq sa sb) := ⟨pss_cons h.ps r.ps, im_sSeq h.im r.im⟩
theorem js_pass : JS X W S (.Pass pos) tNext sNil := ⟨ps_pass, im_sNil⟩
theorem js_brk : JS X W S (.Break pos) tBreak sBrk := ⟨ps_break, im_sBrk⟩
theorem js_cont : JS X W S (.Continue pos) tCont sCont := ⟨ps_continue, im_sCont⟩
theorem js_doc {x j pos'} : JS X W S (.Expr (.Constant (.str x) j pos) pos') tNext sNil := ⟨ps_doc, im_sNil⟩
theorem js_expr (h : JE X W e te m) (hs : swapsWith e none pos.line X.env = pure false := by rfl) : JS X W S (.Expr e pos) (tDrop te) (sExpr m) := ⟨ps_expr h.pe hs, im_sExpr h.im⟩
theorem js_ret (h : JE X W e te m) : JS X W S (.Return (some e) pos) (tRet te) (sRet m) := ⟨ps_ret h.pe, im_sRet h.im⟩
theorem js_retN : JS X W S (.Return none pos) tRetN sRetN := ⟨ps_retN, im_sRetN⟩
theorem js_if (hc : JT X W c tt bc) (ha : JSs X W S1 body t sa) (hb : JSs X W S2 orelse u sb) : JS X W (S1 ++ S2) (.If c body orelse pos) (tIfS tt t u) (sIf bc sa sb) := ⟨ps_if hc.pt ha.ps hb.ps, im_sIf hc.im ha.im hb.im⟩
theorem js_set (i : Nat) {x : Str} {pos' : Pos} (hN : X.N.Nodup) (h : JE X W e te m) (hi : X.N[i]? = some x := by rfl) (hx : Loc X.env.scope x := by first | exact Or.inl rfl | exact Or.inr rfl) (hs : swapsWith e (some (.Name x pos')) pos.line X.env = pure false := by rfl) (hf : X.fn x = true ∨ X.env.scope.names.lookup x = some .local := by first | exact .inl rfl | exact .inr rfl | assumption) :
    JS X W [i] (.Assign [.Name x pos'] e pos) (tAsg te (gName i)) (sAsg m (tgN i)) := ⟨ps_set hN hi hx h.pe hs hf, im_sAsg h.im (im_tgN i)⟩
theorem js_asg {tg : Expr} {g : TG} {mt : TM} (h : JE X W e te m) (hg : JP X S tg g mt) (hs : swapsWithSole [tg] e pos.line X.env = pure false := by rfl) (hw : swappedStores [tg] e X.env = pure none := by rfl) (h1 : (assignEach [tg] X.env).map (·.2) = [assign tg X.env] := by rfl) : JS X W S (.Assign [tg] e pos) (tAsg te g) (sAsg m mt) := ⟨ps_asg h.pe hg.pg hs hw h1, im_sAsg h.im hg.im⟩
theorem js_par {i j : Nat} {x y : Str} {px py pt : Pos} {kt k2 pt2} (hc : X.calm = true) (hN : X.N.Nodup) (hi : X.N[i]? = some x) (hj : X.N[j]? = some y) (hij : i ≠ j) (hx : X.env.scope.names.lookup x = some .local) (hy : X.env.scope.names.lookup y = some .local) (ha : JA X W [a, b] tA am)
    (hw : swappedStores [.Tuple [.Name x px, .Name y py] kt pt] (.Tuple [a, b] k2 pt2) X.env = pure (some [x, y])) (hs : swapsWithSole [.Tuple [.Name x px, .Name y py] kt pt] (.Tuple [a, b] k2 pt2) pos.line X.env = pure false := by rfl) :
    JS X W [i, j] (.Assign [.Tuple [.Name x px, .Name y py] kt pt] (.Tuple [a, b] k2 pt2) pos) (tPar i j tA) (sPar i j am) := ⟨ps_par hc hN hi hj hij hx hy ha.pa hw hs, im_sPar hij ha.im⟩
theorem js_setLc (i : Nat) {y : Str} {py : Pos} {elt tg iter : Expr} {scope : Scope} {own : List (Str × Nat)} {pos spos : Pos} {tI : TI} {it : PEnv → EO (List PV)} {tt : TT} {te : TE} {g : TG} {mt : TM} {mc : BM} {me : EM} {ifs : List Expr} (hc : X.calm = true) (hN : X.N.Nodup) (hi : JI X W tg iter tI it) (ok : blkC X.N X.env.scope scope own = true)
    (hg : ∀ (s : Shared) (H : Hp) (C : Addr) (cl : List (Str × Addr)) (fp : List Addr), JP (X.blk s H scope (compEnvC scope cl C X.env) fp) S tg g mt) (hS : ∀ j ∈ S, j ∈ own.map (·.2))
    (ht : ∀ (s : Shared) (H : Hp) (C : Addr) (cl : List (Str × Addr)) (fp : List Addr), PTs (X.blk s H scope (compEnvC scope cl C X.env) fp) ifs tt ∧ ImT X.K X.mg W0 tt mc)
    (he : ∀ (s : Shared) (H : Hp) (C : Addr) (cl : List (Str × Addr)) (fp : List Addr), JE (X.blk s H scope (compEnvC scope cl C X.env) fp) W0 elt te me) (hy : X.N[i]? = some y := by rfl) (hyl : X.env.scope.names.lookup y = some .local := by rfl)
    (hsw : swapsWith (.ListComp elt [⟨tg, iter, ifs, 0⟩] scope pos) (some (.Name y py)) spos.line X.env = pure true := by exact sw_true rfl rfl rfl (by decide +kernel)) (hs : ∀ x, foldedSetIterable iter X.env x = pure x := by intro _; rfl) :
    JS X W [i] (.Assign [.Name y py] (.ListComp elt [⟨tg, iter, ifs, 0⟩] scope pos) spos) (tAsg (tLc tI g tt te (own.map (·.2))) (gName i)) (sAsg (eLC it (own.map (·.2)) mt mc me) (tgN i)) :=
  ⟨ps_setLc hc hN hy hyl hsw hi.pi (blkOk_by ok) (fun s H C cl fp => (hg s H C cl fp).pg) (fun s H C cl fp => (ht s H C cl fp).1) (fun s H C cl fp => (he s H C cl fp).pe) hs,
    im_sAsg (im_eLC hi.im (hg X.s_0 X.H_0 0 [] []).im hS (ht X.s_0 X.H_0 0 [] []).2 (he X.s_0 X.H_0 0 [] []).im) (im_tgN i)⟩
def bYes : BM := fun env => .ok true env
theorem jtt_nil {K : PySem.W.Frag} {mg : Str → Option Value} : PTs X [] tYes ∧ ImT K mg W0 tYes bYes := ⟨pts_nil, fun σ H Q env F hr hn hp => hp H F hr hn Fm.refl⟩
theorem jtt_one {K : PySem.W.Frag} {mg : Str → Option Value} (h : JT X W0 c tt bc) (e1 : X.K = K := by rfl) (e2 : X.mg = mg := by rfl) : PTs X [c] tt ∧ ImT K mg W0 tt bc := ⟨pts_one h.pt, by subst e1; subst e2; exact h.im⟩
theorem js_setIx {i : Nat} {x : Str} {idx : Expr} {tk : TE} {r : TSet} {f : PV → PV → PV → Option PV} {p p2 : Pos} (hs : SimSet X.K r f) (hset : PSet X r) (h : JE X W e te m) (ho : JR X (.Name x p) (tVar i) (rVar i)) (hk : JR X idx tk k)
    (ha : ∀ v, assign (.Subscript (.Name x p) idx p2) X.env v = (do
      let ov ← holding [v] (eval (.Name x p) X.env)
      let iv ← holding [v, ov] (eval idx X.env)
      standAt p2
      holding [v, ov, iv] (setItem ov iv v)
      release [v, ov, iv] []) := by intro _; rfl)
    (hs' : swapsWithSole [.Subscript (.Name x p) idx p2] e pos.line X.env = pure false := by rfl) (hw : swappedStores [.Subscript (.Name x p) idx p2] e X.env = pure none := by rfl) (h1 : (assignEach [.Subscript (.Name x p) idx p2] X.env).map (·.2) = [assign (.Subscript (.Name x p) idx p2) X.env] := by rfl) :
    JS X W S (.Assign [.Subscript (.Name x p) idx p2] e pos) (tAsg te (gSub (tVar i) tk r)) (sSetIx i k f m) := ⟨ps_asg h.pe (pg_sub ho.pe hk.pe hset ha) hs' hw h1, im_sSetIx hs h.im hk.im⟩
theorem js_aug (i : Nat) {x : Str} {op : Operator} {r : TIp} {f : PV → PV → Option PV} {pos' : Pos} (hs : SimI X.K r f) (hip : PIp X op r) (hN : X.N.Nodup) (h : JE X W e te m) (hi : X.N[i]? = some x := by rfl) (hx : Loc X.env.scope x := by first | exact Or.inl rfl | exact Or.inr rfl) (hf : X.fn x = true ∨ X.env.scope.names.lookup x = some .local := by first | exact .inl rfl | exact .inr rfl | assumption) :
    JS X W [i] (.AugAssign (.Name x pos') op e pos) (tAug i te r) (sAug i f m) := ⟨ps_aug hN hi hx h.pe hip hf, im_sAug hs h.im⟩
theorem js_augIx {i : Nat} {x : Str} {idx : Expr} {tk : TE} {op : Operator} {rg : V → V → Hp → VK → Prop} {g : PV → PV → Option PV} {ri : TIp} {f : PV → PV → Option PV} {rs : TSet} {fs : PV → PV → PV → Option PV} {p p2 : Pos}
    (hg : SimB2 X.K rg g) (hgo : PGet X rg) (hi : SimI X.K ri f) (hip : PIp X op ri) (hs : SimSet X.K rs fs) (hset : PSet X rs) (ho : JR X (.Name x p) (tVar i) (rVar i)) (hk : JR X idx tk k) (h : JE X W e te m)
    (ha : ∀ ov iv new, augStore idx ov iv new = (do holding [new, ov, iv] (setItem ov iv new); release [new, ov, iv] []; pure .next) := by intros; rfl) :
    JS X W S (.AugAssign (.Subscript (.Name x p) idx p2) op e pos) (tAugS (tVar i) tk te rg ri rs) (sAugIx i k g m f fs) := ⟨ps_augS ho.pe hk.pe hgo h.pe hip hset ha, im_sAugIx hg hi hs hk.im h.im⟩
variable {tg iter : Expr} {g : TG} {mt : TM} {tI : TI} {it : PEnv → EO (List PV)}
theorem js_for (hp : PassesOwn (model X.prog X.w) X.A X.env X.xe) (hc : X.calm = true) (hi : JI X W tg iter tI it) (hg : JP X S1 tg g mt) (hb : JSs X W S2 body t sa) (hs : ∀ x, foldedSetIterable iter X.env x = pure x := by intro _; rfl) :
    JS X W (S1 ++ S2) (.For tg iter body [] pos) (tFor tI g t) (sFor it mt sa) := ⟨ps_for hp hc hi.pi hg.pg hb.ps hs, im_sFor hi.im hg.im hb.im⟩
theorem js_forV {i : Nat} (hp : PassesOwn (model X.prog X.w) X.A X.env X.xe) (hc : X.calm = true) (hv : JR X iter (tVar i) (rVar i)) (hg : JP X S1 tg g mt) (hb : JSs X W S2 body t sa) (hi : i ∉ S1 ++ S2 := by decide) (hs : ∀ x, foldedSetIterable iter X.env x = pure x := by intro _; rfl) :
    JS X W (S1 ++ S2) (.For tg iter body [] pos) (tFor (iList X.K (tVar i)) g t) (sForV i mt sa) := ⟨ps_for hp hc (pi_list hv.pe) hg.pg hb.ps hs, im_sForV hg.im hb.im hi⟩
theorem js_while (n : Nat) (hp : PassesOwn (model X.prog X.w) X.A X.env X.xe) (hc : JT X W c tt bc) (hb : JSs X W S body t sa) : JS X W S (.While c body [] pos) (tWhile tt t) (whileL bc sa n) := ⟨ps_while hp hc.pt hb.ps, im_whileL n hc.im hb.im⟩
end
end PVL

/-! P8: operations. -/
namespace PVL
open PySem PySem.Spec L2

section
variable {K : PySem.W.Frag} {X : Cx}
/-! ### small tools -/
theorem rv_int {H : Hp} {i : Int} {v : V} {F : List Addr} (h : RV K H (.int i) v F) : v = .int i := by simp only [RV] at h; exact h.1
theorem rv_str {H : Hp} {i : Str} {v : V} {F : List Addr} (h : RV K H (.str i) v F) : v = .str i := by simp only [RV] at h; exact h.1
theorem rv_bl {H : Hp} {i : Bool} {v : V} {F : List Addr} (h : RV K H (.bl i) v F) : v = .bl i := by simp only [RV] at h; exact h.1
theorem rv_non {H : Hp} {v : V} {F : List Addr} (h : RV K H .non v F) : v = .non := by simp only [RV] at h; exact h.1
theorem New.int {H : Hp} {Q : VK} {i : Int} (h : New K H Q (.int i)) : Q (.int i) H := h _ H [] (fun _ _ e => e) (by simp [RV]) List.nodup_nil (fun b z => by simp at z)
theorem New.str {H : Hp} {Q : VK} {i : Str} (h : New K H Q (.str i)) : Q (.str i) H := h _ H [] (fun _ _ e => e) (by simp [RV]) List.nodup_nil (fun b z => by simp at z)
theorem New.bl {H : Hp} {Q : VK} {i : Bool} (h : New K H Q (.bl i)) : Q (.bl i) H := h _ H [] (fun _ _ e => e) (by simp [RV]) List.nodup_nil (fun b z => by simp at z)
theorem New.tup {H : Hp} {Q : VK} {xs : List PV} {vs : List V} (h : New K H Q (.tup xs)) (r : RVL K H xs vs []) : ∀ p, H p = none → Q (.ref p) (upd H p (.tup vs)) := fun p np =>
  h _ _ [] (sm_upd np) (by simp only [RV]; exact ⟨p, vs, rfl, .inl (.inl upd_same), r.sm (sm_upd np)⟩) List.nodup_nil (fun b z => by simp at z)
theorem New.old {H : Hp} {Q : VK} {x : PV} {v : V} (h : New K H Q x) (r : RV K H x v []) : Q v H := h _ H [] (fun _ _ e => e) r List.nodup_nil (fun b z => by simp at z)
theorem New.lst {H : Hp} {Q : VK} {xs : List PV} {vs : List V} (h : New K H Q (.lst xs)) (r : RVL K H xs vs []) : ∀ p, H p = none → Q (.ref p) (upd H p (.lst vs)) := fun p np =>
  h _ _ [p] (sm_upd np) (by simp only [RV]; exact ⟨p, vs, [], rfl, upd_same, r.sm (sm_upd np), rfl⟩) (by simp) (fun b z => by simp at z; rw [z]; exact np)
theorem RVL.nil_of {H : Hp} {xs : List PV} {vs : List V} {F : List Addr} (hi : immL xs = true) (h : RVL K H xs vs F) : RVL K H xs vs [] := by
  have e := RVL.imm hi h
  subst e; exact h
theorem immL_append {xs ys : List PV} : immL (xs ++ ys) = (immL xs && immL ys) := by
  induction xs with
  | nil => simp [immL]
  | cons x r ih => simp [immL, ih, Bool.and_assoc]

/-! ### binary -/
def pAdd : PV → PV → Option PV
  | .int a, .int b => some (.int (a + b))
  | .str a, .str b => if a.length + b.length ≤ sizeLine then some (.str (a ++ b)) else none
  | .tup a, .tup b => if a.length + b.length ≤ sizeLine ∧ immL a = true ∧ immL b = true then some (.tup (a ++ b)) else none
  | .lst a, .lst b => if a.length + b.length ≤ sizeLine ∧ immL a = true ∧ immL b = true then some (.lst (a ++ b)) else none
  | _, _ => none
abbrev rAddI : R2 := rI0 fun i j => .int (i + j)
abbrev rAddS : R2 := fun x y H Q => ∃ i j, x = .str i ∧ y = .str j ∧ i.length + j.length ≤ sizeLine ∧ Q (.str (i ++ j)) H
abbrev rAddP (K : PySem.W.Frag) : R2 := fun x y H Q => rAddI x y H Q ∨ (fun x y H Q => rAddS x y H Q ∨ (fun x y H Q => rCatA K x y H Q ∨ rCat x y H Q) x y H Q) x y H Q
theorem op_addP : OpR X (binaryOp .Add) (rAddP X.K) := op_add.or (op_add_str.or (op_catA.or op_cat))
theorem sim_add : SimR2 K (rAddP K) pAdd := by
  intro x y H Q px py Fx Fy hx hy q
  unfold pAdd at q
  split at q
  · rename_i a b
    exact .inl ⟨a, b, rv_int hx, rv_int hy, New.int q⟩
  · rename_i a b
    split at q
    · rename_i hz
      exact .inr (.inl ⟨a, b, rv_str hx, rv_str hy, hz, New.str q⟩)
    · exact q.elim
  · rename_i xs ys
    split at q
    · rename_i hz
      obtain ⟨h1, h2, h3⟩ := hz
      simp only [RV] at hx hy
      obtain ⟨a, vs, rfl, ha, hl⟩ := hx
      obtain ⟨b, ws, rfl, hb, hm⟩ := hy
      have l1 := hl.nil_of h2
      have l2 := hm.nil_of h3
      refine .inr (.inr (.inl ⟨a, b, vs, ws, rfl, rfl, ha, hb, by rw [hl.length, hm.length]; exact h1, fun e => ?_, fun _ e => ?_, fun _ _ p np => New.tup q (l1.append l2) p np⟩))
      · subst e
        have : xs = [] := List.length_eq_zero_iff.mp (by rw [← hl.length]; rfl)
        subst this
        exact New.old q (by simp only [RV, List.nil_append]; exact ⟨b, ws, rfl, hb, l2⟩)
      · subst e
        have : ys = [] := List.length_eq_zero_iff.mp (by rw [← hm.length]; rfl)
        subst this
        exact New.old q (by simp only [RV, List.append_nil]; exact ⟨a, vs, rfl, ha, l1⟩)
    · exact q.elim
  · rename_i xs ys
    split at q
    · rename_i hz
      obtain ⟨h1, h2, h3⟩ := hz
      simp only [RV] at hx hy
      obtain ⟨a, vs, _, rfl, ha, hl, _⟩ := hx
      obtain ⟨b, ws, _, rfl, hb, hm, _⟩ := hy
      exact .inr (.inr (.inr ⟨a, b, vs, ws, rfl, rfl, ha, hb, by rw [hl.length, hm.length]; exact h1, New.lst q ((hl.nil_of h2).append (hm.nil_of h3))⟩))
    · exact q.elim
  · exact q.elim
abbrev rAddIP : TIp := fun x y H Q => rAddI x y H Q ∨ rAddS x y H Q
theorem ip_addP : PIp X .Add rAddIP := OpR.or (f := inplaceOp .Add) iop_add iop_add_str
def pAddI : PV → PV → Option PV
  | .int a, .int b => some (.int (a + b))
  | .str a, .str b => if a.length + b.length ≤ sizeLine then some (.str (a ++ b)) else none
  | _, _ => none
theorem sim_addI : SimI K rAddIP pAddI := by
  intro x y H Q px py Fx Fy hx hy q
  unfold pAddI at q
  split at q
  · rename_i a b
    exact .inl ⟨a, b, rv_int hx, rv_int hy, New.int q⟩
  · rename_i a b
    split at q
    · rename_i hz
      exact .inr ⟨a, b, rv_str hx, rv_str hy, hz, New.str q⟩
    · exact q.elim
  · exact q.elim
/-- ints under a condition -/
def pI (c : Int → Int → Prop) [∀ i j, Decidable (c i j)] (g : Int → Int → Int) : PV → PV → Option PV
  | .int a, .int b => if c a b then some (.int (g a b)) else none
  | _, _ => none
theorem sim_I {c : Int → Int → Prop} [∀ i j, Decidable (c i j)] {g : Int → Int → Int} : SimR2 K (rI c fun i j => .int (g i j)) (pI c g) := by
  intro x y H Q px py Fx Fy hx hy q
  unfold pI at q
  split at q
  · rename_i a b
    split at q
    · rename_i hz
      exact ⟨a, b, rv_int hx, rv_int hy, hz, New.int q⟩
    · exact q.elim
  · exact q.elim
def pI0 (g : Int → Int → Int) : PV → PV → Option PV
  | .int a, .int b => some (.int (g a b))
  | _, _ => none
theorem sim_I0 {g : Int → Int → Int} : SimR2 K (rI0 fun i j => .int (g i j)) (pI0 g) := by
  intro x y H Q px py Fx Fy hx hy q
  unfold pI0 at q
  split at q
  · rename_i a b
    exact ⟨a, b, rv_int hx, rv_int hy, New.int q⟩
  · exact q.elim
def pB0 (g : Int → Int → Bool) : PV → PV → Option PV
  | .int a, .int b => some (.bl (g a b))
  | _, _ => none
theorem sim_B0 {g : Int → Int → Bool} : SimR2 K (rI0 fun i j => .bl (g i j)) (pB0 g) := by
  intro x y H Q px py Fx Fy hx hy q
  unfold pB0 at q
  split at q
  · rename_i a b
    exact ⟨a, b, rv_int hx, rv_int hy, New.bl q⟩
  · exact q.elim
instance : ∀ i j, Decidable (CMul i j) := fun i j => decidable_of_iff (i.natAbs < 2 ^ 64 ∨ j.natAbs < 2 ^ 64) (by unfold CMul; omega)
instance : ∀ i j, Decidable (CDiv i j) := fun i j => decidable_of_iff (0 < j ∧ j.natAbs < 1073741824) (by unfold CDiv; omega)
instance : ∀ i j, Decidable (CPow i j) := fun i j => decidable_of_iff (0 ≤ j ∧ j.natAbs ≤ 1000000 ∧ i.natAbs < 2 ^ 64) (by unfold CPow; omega)
abbrev pSub := pI0 fun i j => i - j
abbrev pMul := pI CMul fun i j => i * j
abbrev pDiv := pI CDiv fun i j => i / j
abbrev pMod := pI (fun _ j => 0 < j) fun i j => i % j
def pPow : PV → PV → Option PV := pI CPow fun i j => i ^ j.toNat
def pShl : PV → PV → Option PV := pI CPow fun i j => i * 2 ^ j.toNat
abbrev pLt := pB0 fun i j => decide (i < j)
abbrev pLe := pB0 fun i j => decide (i ≤ j)
abbrev pGt := pB0 fun i j => decide (j < i)
abbrev pGe := pB0 fun i j => decide (j ≤ i)
def pNeg : PV → Option PV
  | .int a => some (.int (-a))
  | _ => none
theorem sim_neg : SimU K (rU fun i => .int (-i)) pNeg := by
  intro x H Q px Fx hx q
  unfold pNeg at q
  split at q
  · rename_i a
    exact ⟨a, rv_int hx, New.int q⟩
  · exact q.elim

/-! ### == -/
mutual
def pD : PV → Option PyData
  | .non => some .none
  | .bl b => some (.bool b)
  | .int i => some (.int i)
  | .str x => some (.str x)
  | .tup xs => (pDL xs).map .tuple
  | .lst xs => (pDL xs).map .list
  | .frz xs => (pDL xs).map .list
  | _ => none
def pDL : List PV → Option (List PyData)
  | [] => some []
  | x :: xs => (pD x).bind fun d => (pDL xs).map (d :: ·)
end
mutual
theorem pD_ok {H : Hp} : ∀ {x : PV} {v : V} {F : List Addr} {d : PyData}, RV K H x v F → pD x = some d → Dp K H v d
  | .non, v, F, d, h, e => by simp only [RV] at h; simp only [pD, Option.some.injEq] at e; subst e; rw [h.1]; exact .non
  | .bl b, v, F, d, h, e => by simp only [RV] at h; simp only [pD, Option.some.injEq] at e; subst e; rw [h.1]; exact .bl b
  | .int b, v, F, d, h, e => by simp only [RV] at h; simp only [pD, Option.some.injEq] at e; subst e; rw [h.1]; exact .int b
  | .str b, v, F, d, h, e => by simp only [RV] at h; simp only [pD, Option.some.injEq] at e; subst e; rw [h.1]; exact .str b
  | .tup xs, v, F, d, h, e => by
    simp only [RV] at h
    simp only [pD, Option.map_eq_some_iff] at e
    obtain ⟨ds, e, rfl⟩ := e
    obtain ⟨a, vs, rfl, ha, hl⟩ := h
    exact .tup ha (pDL_ok hl e)
  | .lst xs, v, F, d, h, e => by
    simp only [RV] at h
    simp only [pD, Option.map_eq_some_iff] at e
    obtain ⟨ds, e, rfl⟩ := e
    obtain ⟨a, vs, _, rfl, ha, hl, _⟩ := h
    exact .lst (SqL.of ha) (pDL_ok hl e)
  | .frz xs, v, F, d, h, e => by
    simp only [RV] at h
    simp only [pD, Option.map_eq_some_iff] at e
    obtain ⟨ds, e, rfl⟩ := e
    obtain ⟨a, vs, rfl, ha, hl, _⟩ := h
    exact .lst ha.toL (pDL_ok hl e)
  | .dct _, _, _, _, _, e => by simp [pD] at e
  | .obj _ _, _, _, _, _, e => by simp [pD] at e
  | .ty _, _, _, _, _, e => by simp [pD] at e
theorem pDL_ok {H : Hp} : ∀ {xs : List PV} {vs : List V} {F : List Addr} {ds : List PyData}, RVL K H xs vs F → pDL xs = some ds → DpAll K H vs ds
  | [], vs, F, ds, h, e => by simp only [RVL] at h; simp only [pDL, Option.some.injEq] at e; subst e; rw [h.1]; exact .nil
  | x :: xs, vs, F, ds, h, e => by
    simp only [RVL] at h
    simp only [pDL, Option.bind_eq_some_iff, Option.map_eq_some_iff] at e
    obtain ⟨d, e1, r, e2, rfl⟩ := e
    obtain ⟨v, vr, _, _, rfl, h1, h2, _⟩ := h
    exact .cons (pD_ok h1 e1) (pDL_ok h2 e2)
end
def scEq : PV → PV → Option Bool
  | .int a, .int b => some (decide (a = b))
  | .str a, .str b => some (decide (a = b))
  | .bl a, .bl b => some (decide (a = b))
  | .non, .non => some true
  | .non, .int _ => some false
  | .non, .str _ => some false
  | .non, .bl _ => some false
  | .int _, .non => some false
  | .str _, .non => some false
  | .bl _, .non => some false
  | .int _, .str _ => some false
  | .str _, .int _ => some false
  | .bl _, .str _ => some false
  | .str _, .bl _ => some false
  | _, _ => none
def eqB (x y : PV) : Option Bool := match scEq x y with
  | some b => some b
  | none => match pD x, pD y with
    | some d, some e => if (SeqAt.shaped d && SeqAt.shaped e) = true then some (PyData.eqv d e) else none
    | _, _ => none
def pEq (x y : PV) : Option PV := (eqB x y).map .bl
def pNe (x y : PV) : Option PV := (eqB x y).map fun b => .bl (!b)
theorem scEq_ok {H : Hp} : ∀ {x y : PV} {v w : V} {F G : List Addr} {b : Bool}, RV K H x v F → RV K H y w G → scEq x y = some b → L2.scal v w = true ∧ decide (v = w) = b := by
  intro x y v w F G b hx hy e
  unfold scEq at e
  split at e <;> first
    | cases e; done
    | (simp only [RV] at hx hy
       rw [hx.1, hy.1]
       simp only [Option.some.injEq] at e
       subst e
       refine ⟨rfl, ?_⟩
       first
         | rfl
         | (simp))
abbrev rEqP (K : PySem.W.Frag) : R2 := fun x y H Q => rEq x y H Q ∨ rEqD K x y H Q
abbrev rNeP (K : PySem.W.Frag) : R2 := fun x y H Q => rNe x y H Q ∨ rNeD K x y H Q
theorem op_eqP (hu : X.A.units + 64 < cLine) : OpR X (compareOp .Eq) (rEqP X.K) := op_eq.or (op_eqD hu)
theorem op_neP (hu : X.A.units + 64 < cLine) : OpR X (compareOp .NotEq) (rNeP X.K) := op_ne.or (op_neD hu)
theorem sim_eq : SimR2 K (rEqP K) pEq := by
  intro x y H Q px py Fx Fy hx hy q
  unfold pEq eqB at q
  split at q
  · rename_i b e
    obtain ⟨h1, h2⟩ := scEq_ok hx hy e
    exact .inl ⟨h1, by rw [h2]; exact New.bl q⟩
  · split at q
    · rename_i d e ed ee
      split at q
      · rename_i hs
        rw [Bool.and_eq_true] at hs
        exact .inr ⟨d, e, pD_ok hx ed, pD_ok hy ee, hs.1, hs.2, New.bl q⟩
      · exact q.elim
    · exact q.elim
theorem sim_ne : SimR2 K (rNeP K) pNe := by
  intro x y H Q px py Fx Fy hx hy q
  unfold pNe eqB at q
  split at q
  · rename_i b e
    obtain ⟨h1, h2⟩ := scEq_ok hx hy e
    exact .inl ⟨h1, by rw [h2]; exact New.bl q⟩
  · split at q
    · rename_i d e ed ee
      split at q
      · rename_i hs
        rw [Bool.and_eq_true] at hs
        exact .inr ⟨d, e, pD_ok hx ed, pD_ok hy ee, hs.1, hs.2, New.bl q⟩
      · exact q.elim
    · exact q.elim
/-- is None -/
def isN : PV → Bool
  | .non => true
  | _ => false
theorem isN_ok {H : Hp} {x : PV} {v : V} {F : List Addr} (h : RV K H x v F) : decide (v = .non) = isN x := by
  cases x <;> simp only [RV] at h <;> first
    | (rw [h.1]; rfl)
    | (obtain ⟨a, vs, rfl, _⟩ := h; rfl)
    | (obtain ⟨a, vs, _, rfl, _⟩ := h; rfl)
    | (obtain ⟨a, vs, _, _, rfl, _⟩ := h; rfl)
def pIsN : PV → PV → Option PV := fun x y => if isN y = true then some (.bl (isN x)) else none
def pNotN : PV → PV → Option PV := fun x y => if isN y = true then some (.bl (!isN x)) else none
theorem sim_isN : SimR2 K (fun x y H Q => y = .non ∧ Q (.bl (decide (x = .non))) H) pIsN := by
  intro x y H Q px py Fx Fy hx hy q
  unfold pIsN at q
  split at q
  · rename_i hn
    refine ⟨?_, by rw [isN_ok hx]; exact New.bl q⟩
    cases py <;> simp [isN] at hn
    exact rv_non hy
  · exact q.elim
theorem sim_notN : SimR2 K (fun x y H Q => y = .non ∧ Q (.bl (!decide (x = .non))) H) pNotN := by
  intro x y H Q px py Fx Fy hx hy q
  unfold pNotN at q
  split at q
  · rename_i hn
    refine ⟨?_, by rw [isN_ok hx]; exact New.bl q⟩
    cases py <;> simp [isN] at hn
    exact rv_non hy
  · exact q.elim

/-! ### in: a flat thing in a list or tuple of flat things -/
def flatP : PV → Bool
  | .non => true
  | .bl _ => true
  | .int _ => true
  | .str _ => true
  | _ => false
end
end PVL

/-! P9: in, items, slices, builtins by name, methods of lists, stores. -/
namespace PVL
open PySem PySem.Spec L2

section
variable {K : PySem.W.Frag} {X : Cx}
/-! ### in -/
theorem flatP_ok {H : Hp} {x : PV} {v : V} {F : List Addr} (h : RV K H x v F) (e : flatP x = true) : flatV v = true := by
  cases x <;> simp [flatP] at e <;> (simp only [RV] at h; rw [h.1]; rfl)
theorem flatL_ok {H : Hp} : ∀ {xs : List PV} {vs : List V} {F : List Addr}, RVL K H xs vs F → xs.all flatP = true → vs.all flatV = true
  | [], vs, F, h, _ => by simp only [RVL] at h; rw [h.1]; rfl
  | x :: xs, vs, F, h, e => by
    simp only [RVL] at h
    obtain ⟨v, vr, _, _, rfl, h1, h2, _⟩ := h
    simp only [List.all_cons, Bool.and_eq_true] at e ⊢
    exact ⟨flatP_ok h1 e.1, flatL_ok h2 e.2⟩
def eqFl : PV → PV → Bool
  | .non, .non => true
  | .bl a, .bl b => a == b
  | .bl a, .int b => (if a then 1 else 0) == b
  | .int a, .bl b => a == (if b then 1 else 0)
  | .int a, .int b => a == b
  | .str a, .str b => a == b
  | _, _ => false
theorem eqFl_ok {H : Hp} {x y : PV} {v w : V} {F G : List Addr} (hx : RV K H x v F) (hy : RV K H y w G) (ex : flatP x = true) (ey : flatP y = true) : eqV v w = eqFl x y := by
  cases x <;> simp [flatP] at ex <;> cases y <;> simp [flatP] at ey <;> (simp only [RV] at hx hy; rw [hx.1, hy.1]; rfl)
theorem inFl_ok {H : Hp} {x : PV} {v : V} {F : List Addr} (hx : RV K H x v F) (ex : flatP x = true) : ∀ {xs : List PV} {vs : List V} {G : List Addr}, RVL K H xs vs G → xs.all flatP = true → inV v vs = xs.any fun y => eqFl y x
  | [], vs, G, h, _ => by simp only [RVL] at h; rw [h.1]; rfl
  | y :: xs, vs, G, h, e => by
    simp only [RVL] at h
    obtain ⟨w, vr, _, _, rfl, h1, h2, _⟩ := h
    simp only [List.all_cons, Bool.and_eq_true] at e
    have ih := inFl_ok hx ex h2 e.2
    unfold inV at ih ⊢
    rw [List.any_cons, List.any_cons, ih, eqFl_ok h1 hx e.1 ex]
def inB (x y : PV) : Option Bool := match y with
  | .str b => (match x with
    | .str a => some (!(Builtin.Str.occurrences b a 0 b.length 1).isEmpty)
    | _ => none)
  | .tup ys => if (flatP x && ys.all flatP) = true then some (ys.any fun y => eqFl y x) else none
  | .lst ys => if (flatP x && ys.all flatP) = true then some (ys.any fun y => eqFl y x) else
      match pD x, pDL ys with
      | some d, some ds => if (SeqAt.shaped d && SeqAt.shaped (.list ds)) = true then some (ds.any fun z => PyData.eqv z d) else none
      | _, _ => none
  | .frz ys => if (flatP x && ys.all flatP) = true then some (ys.any fun y => eqFl y x) else none
  | _ => none
def pIn (x y : PV) : Option PV := (inB x y).map .bl
def pNotIn (x y : PV) : Option PV := (inB x y).map fun b => .bl (!b)
abbrev rInS : R2 := fun x y H Q => ∃ i j, x = .str i ∧ y = .str j ∧ Q (.bl (!(Builtin.Str.occurrences j i 0 j.length 1).isEmpty)) H
abbrev rNotInS : R2 := fun x y H Q => ∃ i j, x = .str i ∧ y = .str j ∧ Q (.bl (!(!(Builtin.Str.occurrences j i 0 j.length 1).isEmpty))) H
abbrev rInP (K : PySem.W.Frag) : R2 := fun x y H Q => rIn K false x y H Q ∨ (fun x y H Q => rInD K x y H Q ∨ rInS x y H Q) x y H Q
abbrev rNotInP (K : PySem.W.Frag) : R2 := fun x y H Q => rIn K true x y H Q ∨ (fun x y H Q => rNotInD K x y H Q ∨ rNotInS x y H Q) x y H Q
theorem op_inP (hu : X.A.units + 65 < cLine) : OpR X (compareOp .In) (rInP X.K) := op_in_seq.or ((op_inD hu).or op_in_str)
theorem op_notInP (hu : X.A.units + 65 < cLine) : OpR X (compareOp .NotIn) (rNotInP X.K) := op_notIn_seq.or ((op_notInD hu).or op_notin_str)
theorem sim_in_core {x y : V} {H : Hp} {px py : PV} {Fx Fy : List Addr} {b : Bool} (hx : RV K H px x Fx) (hy : RV K H py y Fy) (e : inB px py = some b) :
    (∃ p xs, y = .ref p ∧ (SqL K H p xs ∨ SqT K H p xs) ∧ flatV x = true ∧ xs.all flatV = true ∧ inV x xs = b) ∨
    (∃ d ds, Dp K H x d ∧ Dp K H y (.list ds) ∧ SeqAt.shaped d = true ∧ SeqAt.shaped (.list ds) = true ∧ (ds.any fun z => PyData.eqv z d) = b) ∨
    (∃ i j, x = .str i ∧ y = .str j ∧ (!(Builtin.Str.occurrences j i 0 j.length 1).isEmpty) = b) := by
  cases py with
  | str j =>
    simp only [inB] at e
    cases px <;> simp at e
    rename_i i
    exact .inr (.inr ⟨i, j, rv_str hx, rv_str hy, by simpa using e⟩)
  | tup ys =>
    simp only [inB] at e
    split at e
    · rename_i h
      rw [Bool.and_eq_true] at h
      simp only [Option.some.injEq] at e
      simp only [RV] at hy
      obtain ⟨a, vs, rfl, ha, hl⟩ := hy
      exact .inl ⟨a, vs, rfl, .inr ha, flatP_ok hx h.1, flatL_ok hl h.2, by rw [inFl_ok hx h.1 hl h.2]; exact e⟩
    · cases e
  | frz ys =>
    simp only [inB] at e
    split at e
    · rename_i h
      rw [Bool.and_eq_true] at h
      simp only [Option.some.injEq] at e
      simp only [RV] at hy
      obtain ⟨a, vs, rfl, ha, hl, _⟩ := hy
      exact .inl ⟨a, vs, rfl, .inl ha.toL, flatP_ok hx h.1, flatL_ok hl h.2, by rw [inFl_ok hx h.1 hl h.2]; exact e⟩
    · cases e
  | lst ys =>
    simp only [inB] at e
    split at e
    · rename_i h
      rw [Bool.and_eq_true] at h
      simp only [Option.some.injEq] at e
      simp only [RV] at hy
      obtain ⟨a, vs, _, rfl, ha, hl, _⟩ := hy
      exact .inl ⟨a, vs, rfl, .inl (SqL.of ha), flatP_ok hx h.1, flatL_ok hl h.2, by rw [inFl_ok hx h.1 hl h.2]; exact e⟩
    · split at e
      · rename_i d ds ed eds
        split at e
        · rename_i h
          rw [Bool.and_eq_true] at h
          simp only [Option.some.injEq] at e
          exact .inr (.inl ⟨d, ds, pD_ok hx ed, pD_ok hy (by simp [pD, eds]), h.1, h.2, e⟩)
        · cases e
      · cases e
  | _ => simp [inB] at e
theorem sim_in : SimR2 K (rInP K) pIn := by
  intro x y H Q px py Fx Fy hx hy q
  unfold pIn at q
  cases e : inB px py with
  | none => rw [e] at q; exact q.elim
  | some b =>
    rw [e] at q
    have q' := New.bl q
    rcases sim_in_core hx hy e with ⟨p, xs, h1, h2, h3, h4, h5⟩ | ⟨d, ds, h1, h2, h3, h4, h5⟩ | ⟨i, j, h1, h2, h3⟩
    · exact .inl ⟨p, xs, h1, h2, h3, h4, by simp only [h5]; exact q'⟩
    · exact .inr (.inl ⟨d, ds, h1, h2, h3, h4, by rw [h5]; exact q'⟩)
    · exact .inr (.inr ⟨i, j, h1, h2, by rw [h3]; exact q'⟩)
theorem sim_notIn : SimR2 K (rNotInP K) pNotIn := by
  intro x y H Q px py Fx Fy hx hy q
  unfold pNotIn at q
  cases e : inB px py with
  | none => rw [e] at q; exact q.elim
  | some b =>
    rw [e] at q
    have q' := New.bl q
    rcases sim_in_core hx hy e with ⟨p, xs, h1, h2, h3, h4, h5⟩ | ⟨d, ds, h1, h2, h3, h4, h5⟩ | ⟨i, j, h1, h2, h3⟩
    · exact .inl ⟨p, xs, h1, h2, h3, h4, by simp only [h5]; exact q'⟩
    · exact .inr (.inl ⟨d, ds, h1, h2, h3, h4, by rw [h5]; exact q'⟩)
    · exact .inr (.inr ⟨i, j, h1, h2, by rw [h3]; exact q'⟩)

/-! ### items -/
theorem at_ok {H : Hp} {xs : List PV} {vs : List V} {F : List Addr} {i : Int} {p : PV} (h : RVL K H xs vs F) (e : atI xs i = some p) : ∃ v F1, atI vs i = some v ∧ RV K H p v F1 ∧ ∀ b ∈ F1, b ∈ F := by
  unfold atI at e ⊢
  rw [h.length]
  cases ej : ixN xs.length i with
  | none => rw [ej] at e; cases e
  | some j =>
    rw [ej] at e
    exact h.get e
def pIx : PV → PV → Option PV
  | .lst xs, .int i => atI xs i
  | .frz xs, .int i => atI xs i
  | .tup xs, .int i => atI xs i
  | .str z, .int i => if z.length ≤ sizeLine then (atI z.cps.toList i).map fun c => .str ⟨#[c]⟩ else none
  | _, _ => none
theorem sim_ix : SimB2 K (rIx K) pIx := by
  intro x y H Q px py Fx Fy hx hy q
  unfold pIx at q
  split at q
  · rename_i xs i
    simp only [RV] at hx
    obtain ⟨a, vs, _, rfl, ha, hl, _⟩ := hx
    cases e : atI xs i with
    | none => rw [e] at q; exact q.elim
    | some p =>
      rw [e] at q
      obtain ⟨v, F1, ev, hv, _⟩ := at_ok hl e
      exact .inl ⟨a, vs, i, v, rfl, rv_int hy, SqL.of ha, ev, q v H F1 (fun _ _ e => e) hv⟩
  · rename_i xs i
    simp only [RV] at hx
    obtain ⟨a, vs, rfl, ha, hl, _⟩ := hx
    cases e : atI xs i with
    | none => rw [e] at q; exact q.elim
    | some p =>
      rw [e] at q
      obtain ⟨v, F1, ev, hv, _⟩ := at_ok hl e
      exact .inl ⟨a, vs, i, v, rfl, rv_int hy, ha.toL, ev, q v H F1 (fun _ _ e => e) hv⟩
  · rename_i xs i
    simp only [RV] at hx
    obtain ⟨a, vs, rfl, ha, hl⟩ := hx
    cases e : atI xs i with
    | none => rw [e] at q; exact q.elim
    | some p =>
      rw [e] at q
      obtain ⟨v, F1, ev, hv, _⟩ := at_ok hl e
      exact .inr (.inl ⟨a, vs, i, v, rfl, rv_int hy, ha, ev, q v H F1 (fun _ _ e => e) hv⟩)
  · rename_i z i
    split at q
    · rename_i hz
      cases e : atI z.cps.toList i with
      | none => rw [e] at q; exact q.elim
      | some c =>
        rw [e] at q
        exact .inr (.inr ⟨z, i, c, rv_str hx, rv_int hy, hz, e, q _ H [] (fun _ _ e => e) (by simp [RV])⟩)
    · exact q.elim
  · exact q.elim
/-- the item of a list, for o[i] op= e -/
theorem get_listL : PGet X (rIxL X.K) := by
  intro pins s σ H x y v u Q I rx ry h
  obtain ⟨p, xs, i, z, rfl, rfl, hq, he, q⟩ := h
  cases rx
  obtain ⟨t, rfl⟩ := ry
  obtain ⟨its, r, pl, hz⟩ := I.list hq
  obtain ⟨j, h1, h2, h3, h4, h5⟩ := atI_get he
  obtain ⟨w, ew, rw'⟩ := r.get h2
  have hl := r.length
  have hn := line63
  have fin : EP X pins σ Q w s := ⟨z, H, I, rw', q⟩
  by_cases h0 : 0 ≤ i
  · have hj : i.toNat = j := by
      rw [PySem.seqIndex_of h0 h5] at h1
      exact Option.some.inj h1
    exact wpAny_getItem_list pl.isList h0 (by omega) (by rw [hj]; simpa using ew) fin
  · have hj : (i + (its.toArray.size : Int)).toNat = j := by
      rw [PySem.seqIndex_neg (by omega) h4] at h1
      rw [List.size_toArray, ← hl]
      exact Option.some.inj h1
    exact wpAny_getItem_list_neg pl.isList (by omega) (by rw [List.size_toArray] <;> omega) (by omega) (by rw [hj]; simpa using ew) fin
def pIxL : PV → PV → Option PV
  | .lst xs, .int i => atI xs i
  | _, _ => none
theorem sim_ixL : SimB2 K (rIxL K) pIxL := by
  intro x y H Q px py Fx Fy hx hy q
  unfold pIxL at q
  split at q
  · rename_i xs i
    simp only [RV] at hx
    obtain ⟨a, vs, _, rfl, ha, hl, _⟩ := hx
    cases e : atI xs i with
    | none => rw [e] at q; exact q.elim
    | some p =>
      rw [e] at q
      obtain ⟨v, F1, ev, hv, _⟩ := at_ok hl e
      exact ⟨a, vs, i, v, rfl, rv_int hy, SqL.of ha, ev, q v H F1 (fun _ _ e => e) hv⟩
  · exact q.elim
/-! ### stores -/
theorem RVL.set {H : Hp} : ∀ {xs : List PV} {vs : List V} {F G : List Addr} {j : Nat} {p : PV} {v : V}, RVL K H xs vs F → RV K H p v G → (G ++ F).Nodup → ∃ F', RVL K H (xs.set j p) (vs.set j v) F' ∧ F'.Nodup ∧ ∀ b ∈ F', b ∈ G ++ F
  | [], vs, F, G, j, p, v, h, g, n => by
    simp only [RVL] at h
    obtain ⟨rfl, rfl⟩ := h
    exact ⟨[], by simp [RVL], List.nodup_nil, fun b z => by simp at z⟩
  | x :: xs, vs, F, G, 0, p, v, h, g, n => by
    simp only [RVL] at h
    obtain ⟨w, vr, F1, F2, rfl, h1, h2, rfl⟩ := h
    refine ⟨G ++ F2, by simp only [List.set_cons_zero, RVL]; exact ⟨v, vr, G, F2, rfl, g, h2, rfl⟩, ?_, fun b z => ?_⟩
    · exact n.sublist (List.Sublist.append (List.Sublist.refl _) (List.sublist_append_right _ _))
    · rcases List.mem_append.mp z with z | z
      · exact List.mem_append_left _ z
      · exact List.mem_append_right _ (List.mem_append_right _ z)
  | x :: xs, vs, F, G, j + 1, p, v, h, g, n => by
    simp only [RVL] at h
    obtain ⟨w, vr, F1, F2, rfl, h1, h2, rfl⟩ := h
    have n2 : (F1 ++ (G ++ F2)).Nodup := by
      refine nodup_of_perm ?_ n
      rw [← List.append_assoc, ← List.append_assoc]
      exact List.Perm.append_right _ List.perm_append_comm
    obtain ⟨F', a, b, c⟩ := RVL.set (j := j) h2 g (List.nodup_append.mp n2).2.1
    refine ⟨F1 ++ F', by simp only [List.set_cons_succ, RVL]; exact ⟨w, _, F1, F', rfl, h1, a, rfl⟩, ?_, fun d z => ?_⟩
    · rw [List.nodup_append]
      exact ⟨(List.nodup_append.mp n2).1, b, fun q hq r hr e => (List.nodup_append.mp n2).2.2 q hq r (c r hr) e⟩
    · rcases List.mem_append.mp z with z | z
      · exact List.mem_append_right _ (List.mem_append_left _ z)
      · rcases List.mem_append.mp (c d z) with z | z
        · exact List.mem_append_left _ z
        · exact List.mem_append_right _ (List.mem_append_right _ z)
def pSetL : PV → PV → PV → Option PV
  | .lst xs, .int k, v => (ixN xs.length k).map fun j => .lst (xs.set j v)
  | _, _, _ => none
theorem sim_setL : SimSet K rSetL pSetL := by
  intro o k v H Q p pk pv Fo Fk Fv ho hk hv n q
  unfold pSetL at q
  split at q
  · rename_i xs i
    simp only [RV] at ho
    obtain ⟨a, vs, F', rfl, ha, hl, rfl⟩ := ho
    cases e : ixN xs.length i with
    | none => rw [e] at q; exact q.elim
    | some j =>
      rw [e] at q
      refine ⟨a, vs, i, j, rfl, rv_int hk, ha, by rw [hl.length]; exact e, ?_⟩
      have n1 := n
      rw [List.perm_middle.nodup_iff, List.nodup_cons] at n1
      obtain ⟨na, n2⟩ := n1
      obtain ⟨G, b, c, d⟩ := RVL.set (j := j) hl hv n2
      have naG : a ∉ G := fun z => na (d a z)
      refine q _ (a :: G) ?_ (List.nodup_cons.mpr ⟨naG, c⟩) ⟨fun b o nb e => ?_, fun b z => .inl ?_⟩
      · simp only [RV]
        exact ⟨a, vs.set j v, G, rfl, upd_same, b.keep (keep_upd ha rfl naG), rfl⟩
      · rw [upd_ne]
        · exact e
        · intro z; subst z; exact nb (by simp)
      · rcases List.mem_cons.mp z with z | z
        · subst z; simp
        · rcases List.mem_append.mp (d b z) with z | z
          · exact List.mem_append_left _ z
          · exact List.mem_append_right _ (List.mem_cons_of_mem _ z)
  · exact q.elim

/-! ### slices -/
/-- a part of a slice -/
def ImO (K : PySem.W.Frag) (mg : Str → Option Value) (W : WX) (t : TO) (m : PEnv → EO (Option Int)) : Prop := ∀ σ H Q env F, RE K H env σ F → F.Nodup →
  PostE K mg W σ H F (fun o env' => ∀ H' F', RE K H' env' σ F' → F'.Nodup → Fm F H F' H' → Q o H') (m env) → t σ H Q
def oNone : PEnv → EO (Option Int) := fun env => .ok none env
def oSome (m : EM) : PEnv → EO (Option Int) := fun env => (m env).bind fun x e => match x with
  | .int i => .ok (some i) e
  | _ => .bad
variable {mg : Str → Option Value} {W : WX}
theorem im_oNone : ImO K mg W tNoPart oNone := fun σ H Q env F hr hn hp => hp H F hr hn Fm.refl
theorem im_oSome {t : TE} {m : EM} (h : ImE K mg W t m) : ImO K mg W (tPart t) (oSome m) := by
  intro σ H Q env F hr hn hp
  refine h σ H _ env F hr hn (hp.bind.imp fun x e q v H1 Fv F1 hr1 hx hn1 hf1 => ?_)
  cases x with
  | int i => exact ⟨i, rv_int hx, q H1 F1 hr1 (nd_right hn1) (fm_left hf1)⟩
  | _ => exact q.elim
def SimSl (K : PySem.W.Frag) (r : V → Option Int → Option Int → Hp → VK → Prop) (f : PV → Option Int → Option Int → Option PV) : Prop := ∀ x lo hi H Q px Fx, RV K H px x Fx → NewO K H Q (f px lo hi) → r x lo hi H Q
def eSl (f : PV → Option Int → Option Int → Option PV) (a : GM) (lo hi : PEnv → EO (Option Int)) : EM := fun env => (a env).bind fun x e1 => (lo e1).bind fun l e2 => (hi e2).bind fun h e3 => ofO ((seeG e3 x).bind fun p => f p l h) e3
theorem im_eSl {r : V → Option Int → Option Int → Hp → VK → Prop} {f : PV → Option Int → Option Int → Option PV} {ta : TE} {a : GM} {tl th : TO} {lo hi : PEnv → EO (Option Int)} (hs : SimSl K r f) (ha : ImG K mg W ta a) (hl : ImO K mg W tl lo) (hh : ImO K mg W th hi) : ImE K mg W (tSl r ta tl th) (eSl f a lo hi) := by
  intro σ H Q env F hr hn hp
  refine ha σ H _ env F hr hn (hp.bind.imp fun x e1 q1 v H1 Fv F1 hr1 hx hn1 hf1 => ?_)
  refine hl σ H1 _ e1 F1 hr1 (nd_right hn1) ((q1.bind.later (fm_left hf1)) fun l e2 q2 H2 F2 hr2 hn2 hf2 => ?_)
  have hx2 := hx.keep (keep_ap hn1 hr1.mt hf2)
  refine hh σ H2 _ e2 F2 hr2 hn2 ((q2.bind.later ((fm_left hf1).trans hf2)) fun h e3 q3 H3 F3 hr3 hn3 hf3 => ?_)
  have n2 := nd_later hn1 hx.mt hf2 hn2
  have hx3 := hx2.keep (keep_ap n2 hr2.mt hf3)
  cases ex : seeG e3 x with
  | none => rw [ex] at q3; exact q3.elim
  | some p =>
    rw [ex] at q3
    obtain ⟨Fx, rx⟩ := seeG_ok hr3 hx3 ex
    exact hs v l h H3 Q p Fx rx (fin_new hr3 hn3 (((fm_left hf1).trans hf2).trans hf3) q3)
def pcut {α : Type} (xs : List α) (lo hi : Option Int) : List α := (xs.drop (HT.sIx xs.length 0 lo)).take (HT.sIx xs.length xs.length hi - HT.sIx xs.length 0 lo)
theorem RVL.drop {H : Hp} : ∀ {xs : List PV} {vs : List V} (n : Nat), RVL K H xs vs [] → RVL K H (xs.drop n) (vs.drop n) []
  | xs, vs, 0, h => by simpa using h
  | [], vs, n + 1, h => by simp only [RVL] at h; rw [h.1]; simp [RVL]
  | x :: xs, vs, n + 1, h => by
    simp only [RVL] at h
    obtain ⟨v, vr, F1, F2, rfl, h1, h2, e⟩ := h
    have e' := List.append_eq_nil_iff.mp e.symm
    rw [e'.2] at h2
    simpa using RVL.drop n h2
theorem RVL.take {H : Hp} : ∀ {xs : List PV} {vs : List V} (n : Nat), RVL K H xs vs [] → RVL K H (xs.take n) (vs.take n) []
  | xs, vs, 0, h => by simp [RVL]
  | [], vs, n + 1, h => by simp only [RVL] at h; rw [h.1]; simp [RVL]
  | x :: xs, vs, n + 1, h => by
    simp only [RVL] at h
    obtain ⟨v, vr, F1, F2, rfl, h1, h2, e⟩ := h
    have e' := List.append_eq_nil_iff.mp e.symm
    rw [e'.2] at h2
    rw [e'.1] at h1
    simp only [List.take_succ_cons, RVL]
    exact ⟨v, _, [], [], rfl, h1, RVL.take n h2, rfl⟩
theorem RVL.cut {H : Hp} {xs : List PV} {vs : List V} (lo hi : Option Int) (h : RVL K H xs vs []) : RVL K H (pcut xs lo hi) (cutV vs lo hi) [] := by
  unfold pcut cutV
  rw [h.length]
  exact (h.drop _).take _
def pSl : PV → Option Int → Option Int → Option PV := fun x lo hi => match x with
  | .lst xs => if immL xs = true then some (.lst (pcut xs lo hi)) else none
  | .frz xs => if immL xs = true then some (.lst (pcut xs lo hi)) else none
  | .tup xs => if immL xs = true then some (.tup (pcut xs lo hi)) else none
  | .str z => if z.length ≤ sizeLine then some (.str (cutS z lo hi)) else none
  | _ => none
abbrev rSlP (K : PySem.W.Frag) : V → Option Int → Option Int → Hp → VK → Prop := fun x lo hi H Q => rSlL K x lo hi H Q ∨ (fun x lo hi H Q => rSlA K x lo hi H Q ∨ rSlS x lo hi H Q) x lo hi H Q
theorem sl_P : SlR X (rSlP X.K) := sl_list.or (sl_tupA.or sl_str)
theorem sim_sl : SimSl K (rSlP K) pSl := by
  intro x lo hi H Q px Fx hx q
  unfold pSl at q
  split at q
  · rename_i xs
    split at q
    · rename_i hi'
      simp only [RV] at hx
      obtain ⟨a, vs, _, rfl, ha, hl, _⟩ := hx
      exact .inl ⟨a, vs, rfl, SqL.of ha, New.lst q ((hl.nil_of hi').cut lo hi)⟩
    · exact q.elim
  · rename_i xs
    split at q
    · rename_i hi'
      simp only [RV] at hx
      obtain ⟨a, vs, rfl, ha, hl, _⟩ := hx
      exact .inl ⟨a, vs, rfl, ha.toL, New.lst q ((hl.nil_of hi').cut lo hi)⟩
    · exact q.elim
  · rename_i xs
    split at q
    · rename_i hi'
      simp only [RV] at hx
      obtain ⟨a, vs, rfl, ha, hl⟩ := hx
      refine .inr (.inl ⟨a, vs, rfl, ha, fun e => ?_, fun _ => New.tup q ((hl.nil_of hi').cut lo hi)⟩)
      have ec : pcut xs lo hi = xs := by
        unfold pcut
        rw [hl.length] at e
        rw [e.1, e.2]
        simp
      rw [ec] at q
      exact New.old q (by simp only [RV]; exact ⟨a, vs, rfl, ha, hl.nil_of hi'⟩)
    · exact q.elim
  · rename_i z
    split at q
    · rename_i hz
      exact .inr (.inr ⟨z, rv_str hx, hz, New.str q⟩)
    · exact q.elim
  · exact q.elim

/-! ### builtins -/
theorem rb1 {H : Hp} {p : PV} {xs : List V} (h : RB K H [p] xs) : ∃ v F, xs = [v] ∧ RV K H p v F := by
  simp only [RB] at h
  obtain ⟨v, _, F, rfl, h, rfl⟩ := h
  exact ⟨v, F, rfl, h⟩
theorem rb2 {H : Hp} {p r : PV} {xs : List V} (h : RB K H [p, r] xs) : ∃ v w F G, xs = [v, w] ∧ RV K H p v F ∧ RV K H r w G := by
  simp only [RB] at h
  obtain ⟨v, _, F, rfl, h, w, _, G, rfl, h2, rfl⟩ := h
  exact ⟨v, w, F, G, rfl, h, h2⟩
def lenP : PV → Option Nat
  | .str x => if x.length ≤ sizeLine then some x.length else none
  | .lst xs => some xs.length
  | .frz xs => some xs.length
  | .tup xs => some xs.length
  | _ => none
def pLen : List PV → Option PV
  | [x] => (lenP x).map fun n => .int n
  | _ => none
theorem sim_len : SimL K (fun xs H Q => ∃ x n, xs = [x] ∧ LenV K x H n ∧ Q (.int n) H) pLen := by
  intro xs H Q ps h q
  unfold pLen at q
  split at q
  · rename_i x
    obtain ⟨v, F, rfl, hv⟩ := rb1 h
    cases e : lenP x with
    | none => rw [e] at q; exact q.elim
    | some n =>
      rw [e] at q
      refine ⟨v, n, rfl, ?_, New.int q⟩
      cases x <;> simp only [lenP] at e
      case str y =>
        split at e
        · rename_i hz
          simp only [Option.some.injEq] at e
          rw [rv_str hv]
          exact ⟨hz, e.symm⟩
        · cases e
      case lst ys =>
        simp only [Option.some.injEq] at e
        simp only [RV] at hv
        obtain ⟨a, vs, _, rfl, ha, hl, _⟩ := hv
        exact .inl ⟨vs, SqL.of ha, by rw [hl.length, e]⟩
      case frz ys =>
        simp only [Option.some.injEq] at e
        simp only [RV] at hv
        obtain ⟨a, vs, rfl, ha, hl, _⟩ := hv
        exact .inl ⟨vs, ha.toL, by rw [hl.length, e]⟩
      case tup ys =>
        simp only [Option.some.injEq] at e
        simp only [RV] at hv
        obtain ⟨a, vs, rfl, ha, hl⟩ := hv
        exact .inr ⟨vs, ha, by rw [hl.length, e]⟩
      all_goals cases e
  · exact q.elim
def pTuple : List PV → Option PV
  | [.lst xs] => if immL xs = true then some (.tup xs) else none
  | [.frz xs] => if immL xs = true then some (.tup xs) else none
  | [.tup xs] => if immL xs = true then some (.tup xs) else none
  | _ => none
theorem sim_tuple : SimL K (fun xs H Q => ∃ p ys, xs = [.ref p] ∧ ((SqL K H p ys ∧ ∀ l, H l = none → Q (.ref l) (upd H l (.tup ys))) ∨ (SqT K H p ys ∧ Q (.ref p) H))) pTuple := by
  intro xs H Q ps h q
  unfold pTuple at q
  split at q
  · rename_i ys
    split at q
    · rename_i hi
      obtain ⟨v, F, rfl, hv⟩ := rb1 h
      simp only [RV] at hv
      obtain ⟨a, vs, _, rfl, ha, hl, _⟩ := hv
      exact ⟨a, vs, rfl, .inl ⟨SqL.of ha, New.tup q (hl.nil_of hi)⟩⟩
    · exact q.elim
  · rename_i ys
    split at q
    · rename_i hi
      obtain ⟨v, F, rfl, hv⟩ := rb1 h
      simp only [RV] at hv
      obtain ⟨a, vs, rfl, ha, hl, _⟩ := hv
      exact ⟨a, vs, rfl, .inl ⟨ha.toL, New.tup q (hl.nil_of hi)⟩⟩
    · exact q.elim
  · rename_i ys
    split at q
    · rename_i hi
      obtain ⟨v, F, rfl, hv⟩ := rb1 h
      have hv' := hv
      simp only [RV] at hv
      obtain ⟨a, vs, rfl, ha, hl⟩ := hv
      exact ⟨a, vs, rfl, .inr ⟨ha, New.old q (by simp only [RV]; exact ⟨a, vs, rfl, ha, hl.nil_of hi⟩)⟩⟩
    · exact q.elim
  · exact q.elim
def pList : List PV → Option PV
  | [.lst xs] => if immL xs = true then some (.lst xs) else none
  | [.frz xs] => if immL xs = true then some (.lst xs) else none
  | [.tup xs] => if immL xs = true then some (.lst xs) else none
  | _ => none
theorem sim_list : SimL K (fun xs H Q => ∃ p ys, xs = [.ref p] ∧ (SqL K H p ys ∨ SqT K H p ys) ∧ ∀ l, H l = none → Q (.ref l) (upd H l (.lst ys))) pList := by
  intro xs H Q ps h q
  unfold pList at q
  split at q
  · rename_i ys
    split at q
    · rename_i hi
      obtain ⟨v, F, rfl, hv⟩ := rb1 h
      simp only [RV] at hv
      obtain ⟨a, vs, _, rfl, ha, hl, _⟩ := hv
      exact ⟨a, vs, rfl, .inl (SqL.of ha), New.lst q (hl.nil_of hi)⟩
    · exact q.elim
  · rename_i ys
    split at q
    · rename_i hi
      obtain ⟨v, F, rfl, hv⟩ := rb1 h
      simp only [RV] at hv
      obtain ⟨a, vs, rfl, ha, hl, _⟩ := hv
      exact ⟨a, vs, rfl, .inl ha.toL, New.lst q (hl.nil_of hi)⟩
    · exact q.elim
  · rename_i ys
    split at q
    · rename_i hi
      obtain ⟨v, F, rfl, hv⟩ := rb1 h
      simp only [RV] at hv
      obtain ⟨a, vs, rfl, ha, hl⟩ := hv
      exact ⟨a, vs, rfl, .inr ha, New.lst q (hl.nil_of hi)⟩
    · exact q.elim
  · exact q.elim
def pAbs : List PV → Option PV
  | [.int i] => some (.int (if i < 0 then -i else i))
  | _ => none
theorem sim_abs : SimL K (fun xs H Q => ∃ i, xs = [.int i] ∧ Q (.int (if i < 0 then -i else i)) H) pAbs := by
  intro xs H Q ps h q
  unfold pAbs at q
  split at q
  · rename_i i
    obtain ⟨v, F, rfl, hv⟩ := rb1 h
    exact ⟨i, by rw [rv_int hv], New.int q⟩
  · exact q.elim
def pInt : List PV → Option PV
  | [.int i] => some (.int i)
  | [.bl b] => some (.int (if b then 1 else 0))
  | [.str a] => if a.length ≤ 640 then (PySem.intText? a).map .int else none
  | _ => none
abbrev rIntP : List V → Hp → VK → Prop := fun xs H Q => (fun xs H Q => (∃ i, xs = [.int i] ∧ Q (.int i) H) ∨ ∃ k, xs = [.bl k] ∧ Q (.int (if k then 1 else 0)) H) xs H Q ∨ (fun xs H Q => ∃ a n, xs = [.str a] ∧ PySem.intText? a = some n ∧ a.length ≤ 640 ∧ Q (.int n) H) xs H Q
theorem callR_or {f : Value} {r1 r2 : List V → Hp → VK → Prop} (h1 : CallR X f r1) (h2 : CallR X f r2) : CallR X f (fun xs H Q => r1 xs H Q ∨ r2 xs H Q) := by
  intro pins s σ H xs us Q I r h
  rcases h with h | h
  · exact h1 pins s σ H xs us Q I r h
  · exact h2 pins s σ H xs us Q I r h
theorem call_intP : CallR X (.type "int") rIntP := callR_or call_int1 call_int_str
theorem sim_int : SimL K rIntP pInt := by
  intro xs H Q ps h q
  unfold pInt at q
  split at q
  · rename_i i
    obtain ⟨v, F, rfl, hv⟩ := rb1 h
    exact .inl (.inl ⟨i, by rw [rv_int hv], New.int q⟩)
  · rename_i b
    obtain ⟨v, F, rfl, hv⟩ := rb1 h
    exact .inl (.inr ⟨b, by rw [rv_bl hv], New.int q⟩)
  · rename_i a
    obtain ⟨v, F, rfl, hv⟩ := rb1 h
    by_cases hz : a.length ≤ 640
    · rw [if_pos hz] at q
      cases e : PySem.intText? a with
      | none => rw [e] at q; exact q.elim
      | some n =>
        rw [e] at q
        simp only [RV] at hv
        exact .inr ⟨a, n, by rw [hv.1], e, hz, New.int q⟩
    · rw [if_neg hz] at q; exact q.elim
  · exact q.elim
def pOrd : List PV → Option PV
  | [.str a] => if a.length = 1 then some (.int (a.cps.getD 0 0 : Nat)) else none
  | _ => none
theorem sim_ord : SimL K (fun xs H Q => ∃ x, xs = [.str x] ∧ x.length = 1 ∧ Q (.int (x.cps.getD 0 0 : Nat)) H) pOrd := by
  intro xs H Q ps h q
  unfold pOrd at q
  split at q
  · rename_i a
    obtain ⟨v, F, rfl, hv⟩ := rb1 h
    by_cases hz : a.length = 1
    · rw [if_pos hz] at q
      simp only [RV] at hv
      exact ⟨a, by rw [hv.1], hz, New.int q⟩
    · rw [if_neg hz] at q; exact q.elim
  · exact q.elim
/-- isinstance upon built-in types -/
def tyName : PV → Option String
  | .non => some "NoneType"
  | .bl _ => some "bool"
  | .int _ => some "int"
  | .str _ => some "str"
  | .tup _ => some "tuple"
  | .lst _ => some "list"
  | .frz _ => some "list"
  | .dct _ => some "dict"
  | _ => none
theorem tyName_ok {H : Hp} {x : PV} {v : V} {F : List Addr} {n : String} (h : RV K H x v F) (e : tyName x = some n) : TyX K H v (.type n) := by
  cases x <;> simp only [tyName, Option.some.injEq, reduceCtorEq] at e <;> subst e
  case non => rw [rv_non h]; exact .base .non
  case bl => rw [rv_bl h]; exact .base (.bl _)
  case int => rw [rv_int h]; exact .base (.int _)
  case str => rw [rv_str h]; exact .base (.str _)
  case tup xs =>
    simp only [RV] at h
    obtain ⟨a, vs, rfl, ha, _⟩ := h
    rcases ha with ha | ⟨o, its, n, hk, hc, _⟩
    · rcases ha with ha | ⟨o, ha⟩
      · exact .base (.tup ha)
      · exact .fTuple ha
    · exact .kTuple hk hc
  case lst xs =>
    simp only [RV] at h
    obtain ⟨a, vs, _, rfl, ha, _⟩ := h
    exact .base (.lst ha)
  case frz xs =>
    simp only [RV] at h
    obtain ⟨a, vs, rfl, ha, _⟩ := h
    rcases ha with ⟨o, ha⟩ | ⟨o, its, n, hk, hc, _⟩
    · exact .base (.frz ha)
    · exact .kList hk hc
  case dct kvs =>
    simp only [RV] at h
    obtain ⟨a, ws, _, rfl, ha, _⟩ := h
    rcases ha with ⟨vs, ha, _⟩ | ⟨vs, ha, _⟩
    · exact .base (.dK ha)
    · exact .base (.dT ha)
def isT (a b : String) : Bool := a == b || (a == "bool" && b == "int")
def tyKnown (s : String) : Bool := s == "NoneType" || s == "bool" || s == "int" || s == "str" || s == "tuple" || s == "list" || s == "dict"
theorem kitB_known {a b : String} (ha : tyKnown a = true) (hb : tyKnown b = true) : kitB a b = some (isT a b) := by
  simp only [tyKnown, Bool.or_eq_true, beq_iff_eq] at ha hb
  rcases ha with (((((rfl | rfl) | rfl) | rfl) | rfl) | rfl) | rfl <;> rcases hb with (((((rfl | rfl) | rfl) | rfl) | rfl) | rfl) | rfl <;> decide +kernel
def pIsi : List PV → Option PV
  | [x, .ty n] => (tyName x).bind fun a => if (tyKnown a && tyKnown n) = true then some (.bl (isT a n)) else none
  | _ => none
theorem sim_isi : SimL K (rIsi K) pIsi := by
  intro xs H Q ps h q
  unfold pIsi at q
  split at q
  · rename_i x n
    obtain ⟨v, w, F, G, rfl, hv, hw⟩ := rb2 h
    cases e : tyName x with
    | none => rw [e] at q; exact q.elim
    | some a =>
      rw [e] at q
      simp only [Option.bind_some] at q
      split at q
      · rename_i hk
        rw [Bool.and_eq_true] at hk
        simp only [RV] at hw
        exact ⟨v, w, .type a, .type n, isT a n, rfl, by rw [hw.1]; exact .ty n, tyName_ok hv e, kit_ty (kitB_known hk.1 hk.2), New.bl q⟩
      · exact q.elim
  · exact q.elim
theorem im_eTy {n : String} : ImE K mg W (tC (.ty n)) (eC (.ty n)) := fun σ H Q env F hr hn hp => hp (.ty n) H [] F hr (by simp [RV]) hn Fm.refl

/-! ### methods of lists -/
theorem rvl1 {H : Hp} {p : PV} {xs : List V} {F : List Addr} (h : RVL K H [p] xs F) : ∃ v, xs = [v] ∧ RV K H p v F := by
  simp only [RVL] at h
  obtain ⟨v, _, F1, F2, rfl, h, ⟨rfl, rfl⟩, rfl⟩ := h
  exact ⟨v, rfl, by simpa using h⟩
def pAppend : PV → List PV → Option (PV × PV)
  | .lst xs, [y] => if xs.length < sizeLine then some (.non, .lst (xs ++ [y])) else none
  | _, _ => none
theorem sim_append : SimM K rAppend pAppend := by
  intro x vs H Q p xs Fx Fa hx ha n q
  unfold pAppend at q
  split at q
  · rename_i xs y
    split at q
    · rename_i hz
      simp only [RV] at hx
      obtain ⟨a, ws, F', rfl, hH, hl, rfl⟩ := hx
      obtain ⟨v, rfl, hv⟩ := rvl1 ha
      refine ⟨a, ws, v, rfl, rfl, hH, by rw [hl.length]; exact hz, ?_⟩
      have n1 := n
      rw [List.perm_middle.nodup_iff, List.nodup_cons] at n1
      obtain ⟨na, n2⟩ := n1
      rw [List.mem_append, not_or] at na
      refine q .non _ [] (a :: (F' ++ Fa)) ?_ (by simp [RV]) ?_ ⟨fun b o nb e => ?_, fun b z => .inl ?_⟩
      · simp only [RV]
        exact ⟨a, ws ++ [v], F' ++ Fa, rfl, upd_same, ((hl.append (RVL.one hv)).keep (keep_upd hH rfl (by rw [List.mem_append, not_or]; exact ⟨na.2, na.1⟩))), rfl⟩
      · rw [List.nil_append, List.nodup_cons, List.mem_append, not_or]
        exact ⟨⟨na.2, na.1⟩, nodup_of_perm List.perm_append_comm n2⟩
      · rw [upd_ne]
        · exact e
        · intro z; subst z; exact nb (by simp)
      · simp only [List.nil_append, List.mem_cons, List.mem_append] at z ⊢
        rcases z with z | z | z
        · exact .inr (.inl z)
        · exact .inr (.inr z)
        · exact .inl z
    · exact q.elim
  · exact q.elim
def pExtend : PV → List PV → Option (PV × PV)
  | .lst xs, [.lst ys] => if xs.length + ys.length ≤ sizeLine ∧ immL ys = true then some (.non, .lst (xs ++ ys)) else none
  | _, _ => none
theorem sim_extend : SimMB K rExtend pExtend := by
  intro x vs H Q p xs Fx hx n ha q
  unfold pExtend at q
  split at q
  · rename_i xs ys
    split at q
    · rename_i hz
      simp only [RV] at hx
      obtain ⟨a, ws, F', rfl, hH, hl, rfl⟩ := hx
      obtain ⟨v, F, rfl, hv⟩ := rb1 ha
      simp only [RV] at hv
      obtain ⟨b, us, _, rfl, hB, hm, _⟩ := hv
      refine ⟨a, b, ws, us, rfl, rfl, hH, hB, by rw [hl.length, hm.length]; exact hz.1, ?_⟩
      obtain ⟨na, n2⟩ := List.nodup_cons.mp n
      refine q .non _ [] (a :: F') ?_ (by simp [RV]) (by simpa using n) ⟨fun b o nb e => ?_, fun b z => .inl (by simpa using z)⟩
      · simp only [RV]
        exact ⟨a, ws ++ us, F', rfl, upd_same, by simpa using (hl.append (hm.nil_of hz.2)).keep (keep_upd hH rfl (by simpa using na)), rfl⟩
      · rw [upd_ne]
        · exact e
        · intro z; subst z; exact nb (by simp)
    · exact q.elim
  · exact q.elim
end
end PVL

/-! E1: own exception classes below ValueError whose __init__ says super().__init__(text) and then stores its parameters. -/
namespace PySem
namespace SXE
open PySem.W PySem.Calls PyProof.Rows
def sxSup (p0 p1 p2 p3 p4 p5 : Pos) (j : Nat) (msg : Str) : Stmt := .Expr (.Call (.Attribute (.Call (.Name "super" p0) [] [] p1) "__init__" p2) [.Constant (.str msg) j p3] [] p4) p5
def sxFld (q1 q2 q3 q4 : Pos) (f : Str) : Stmt := .Assign [.Attribute (.Name "self" q1) f q2] (.Name f q3) q4
/-- the call super().__init__(text) is read as a method call (its name stands on the call's own line) -/
def sxPlain (p0 p1 p2 p3 p4 : Pos) (j : Nat) (msg : Str) : Prop := ∀ env : Env, eval (.Call (.Attribute (.Call (.Name "super" p0) [] [] p1) "__init__" p2) [.Constant (.str msg) j p3] [] p4) env = (do
      let ov ← attributeBase (.Call (.Name "super" p0) [] [] p1) "__init__" env (eval (.Call (.Name "super" p0) [] [] p1) env)
      standAt p2.atName
      let (f, first) ← holding [ov] (getMethod ov "__init__" (do return (← importBound (.Call (.Name "super" p0) [] [] p1) env).getD true))
      callWith p4 f first (backTo p4 (starEach [.Constant (.str msg) j p3] env)) [])
/-- what the written part says of the class x at C, its __init__ at fI (its names fs, self ahead), its cell, its code -/
structure SxTxt (prog : Program) (K : Frag) (mg : Str → Option Value) (x : Str) (C fI : Addr) (ps : List Str) : Prop where
  gC : mg x = some (.ref C)
  cls : ∃ nm q N bs bm sn sub ab col dd k0 k1 k2 k3 k5, K.lookup C = some (excClassObj nm q C N bs bm true sn sub ab col dd k0 k1 k2 k3 k5 "ValueError.__new__") ∧ PySem.HandSPX.refsVE bm = true
  sa : findIn K (.ref C) "__setattr__" = some (some (.builtin "object.__setattr__"))
  ga : findIn K (.ref C) "__getattribute__" = some (some (.builtin "BaseException.__getattribute__"))
  gg : findIn K (.ref C) "__getattr__" = some none
  noF : ∀ f ∈ ps, findIn K (.ref C) f = some none
  iC : findIn K (.ref C) "__init__" = some (some (.ref fI))
  tC : typeIn K (.ref fI) = some (.type "function")
  kC : keepIn K (.ref C) = true
  exC : subIn K (.ref C) (.type "BaseException") = some true
  veC : subIn K (.ref C) (.type "ValueError") = some true
  tyC : typeIn K (.ref C) = some (.type "type")
  hdC : hasDictIn K C = true
  slf : mroIn K C (.ref C) = some true
  opq : nsIn K cStatics "thirdparty.any" = some none
  sup : ks_superIn K C C "__init__" = some (some (.builtin "ValueError.__init__"))
  gsup : mg "super" = none
  tops : (prog.main.scope.names.lookup ("super" : Str)).isSome = false
  fn : ∃ (oc : Value) (od : Option Addr) (doc pm : Value) (an : Option Addr) (cda : Addr) (ct : Value) (osl : Array (Option Value)) (cc : Addr) (qual : Str) (params : Arguments) (body : List Stmt) (scope : Scope),
    K.lookup fI = some ⟨oc, od, .func (ksFn "__init__" qual params body scope .none .none doc pm an (.ref cda) ct cc), osl⟩ ∧ codeIn K (.ref cda) qual = true ∧
    (∃ ccl cdd vs ccs file tf, K.lookup cda = some ⟨ccl, cdd, .fields vs, ccs⟩ ∧ vs[2]? = some (.str file tf) ∧ ((prog.main.file : Str) == file) = true) ∧
    (∃ cl cld csl, K.lookup cc = some ⟨cl, cld, .cell (some (.ref C)), csl⟩) ∧
    (params.posonlyargs ++ params.args).head?.map (·.arg) = some "self" ∧
    (∃ p0 p1 p2 p3 p4 p5 j msg, ∃ qs : List (Pos × Pos × Pos × Pos), body = sxSup p0 p1 p2 p3 p4 p5 j msg :: (ps.zip qs).map (fun z => sxFld z.2.1 z.2.2.1 z.2.2.2.1 z.2.2.2.2 z.1) ∧ qs.length = ps.length ∧ sxPlain p0 p1 p2 p3 p4 j msg) ∧
    scope.names.lookup ("super" : Str) = some .globalImplicit ∧ scope.names.lookup ("__class__" : Str) = some .free ∧ scope.names.lookup ("self" : Str) = some .local ∧ (∀ f ∈ ps, scope.names.lookup f = some .local) ∧
    (∀ y ∈ scope.names, y.2 ≠ .cell) ∧ scope.isCoroutine = false ∧ scope.isGenerator = false ∧ scope.kind = .function ∧
    (∀ (s : Shared) (us : List Value), us.length = ps.length + 1 → BindsTo s (ksFn "__init__" qual params body scope .none .none doc pm an (.ref cda) ct cc) ⟨us, []⟩ ((("self" : Str) :: ps).zip us))

section
variable {prog : Program} {w : World} {A : Around} {E : Value → Shared → Prop} {s : Shared} {K : Frag} {mg mb : Str → Option Value} {x : Str} {C fI : Addr} {ps : List Str}
/-- ValueError.__init__ bound to the exception, called -/
theorem sx_call_bw {h : Heap} {g : Array GenState} {d : Drawn} {t : Nat} {os : OsState} {nm q : Str} {N : Addr} {bs bm : List Value} {hdct : Bool} {sn : List Str} {sub : List Value} {ab : Bool} {col : Option Bool} {dd : Option Addr} {k0 k1 k2 k3 k5 : Option Value}
    {u e t0 : Addr} {rest : List Value} {Q : Value → Shared → Prop}
    (hC : h.get? C = some (excClassObj nm q C N bs bm hdct sn sub ab col dd k0 k1 k2 k3 k5 "ValueError.__new__")) (he : h.get? e = some (HandSPX.excO C t0)) (hu : h.get? u = some (kxs_mw "ValueError.__init__" e)) (hrest : rest.length ≤ sizeLine)
    (hq : ∀ h' t1, (∀ b o, b ≠ e → h.get? b = some o → h'.get? b = some o) → h'.get? e = some (HandSPX.excO C t1) → Q .none ⟨h', g, d, t, os⟩) :
    wpAny (model prog w) A (call (.ref u) rest) Q E ⟨h, g, d, t, os⟩ := by
  refine wpAny_call (codeAny_of_tree ?_)
  show wpAny _ A.in1 (callAny (.ref u) ⟨rest, []⟩) _ _ _
  simp only [callAny]
  refine wpAny_bind (wpAny_load hu ?_)
  simp only [kxs_mw, show (Value.type "method-wrapper" == Value.type "method" || Value.type "method-wrapper" == Value.type "builtin_function_or_method" || Value.type "method-wrapper" == Value.type "method-wrapper") = true by decide, if_true]
  refine W.KFB.if_so (by decide) ?_
  refine wpAny_bind (check_bound_init F.excBase_ValueError.toExcCallFacts hC he rfl ?_)
  refine wpAny_bind (wpAny_pure (wpAny_pure ?_))
  refine ⟨Code.quiet_builtin _ (by decide +kernel), codeAny_builtin F.excBase_ValueError.initEntry ?_⟩
  rw [Around.under_plainId F.excBase_ValueError.init.plain _]
  wp_walk
  refine hq _ h.objs.size (fun b o hb ho => ?_) ?_
  · rw [Heap.get?_update_other _ _ (Ne.symm hb)]
    exact Heap.get?_push_of_some _ ho
  · rw [Heap.get?_update_self _ (Heap.get?_push_of_some _ he) rfl]
    rfl
theorem sx_sup_stmt {body : List Stmt} {p0 p1 p2 p3 p4 p5 : Pos} {j : Nat} {msg : Str} {qual : Str} {scope : Scope} {L e t0 cda cc : Addr} {m : Str → Option Value} {oc ccl cl : Value} {od cdd cld : Option Addr} {osl ccs csl : Array (Option Value)} {fd : FuncData} {vs : Array Value} {file : Str} {tf : Tok}
    {hh : Heap} {g : Array GenState} {d : Drawn} {t : Nat} {os : OsState} {Q : Flow → Shared → Prop} (hpl : sxPlain p0 p1 p2 p3 p4 j msg) (T : SxTxt prog K mg x C fI ps) (X : K.In hh) (hg : hh.Ns mainGlobals mg) (hb : hh.Ns builtinsNs mb) (hbb : mb "super" = bootBuiltins "super")
    (hm : hh.Ns L m) (hs : m "self" = some (.ref e)) (he : hh.get? e = some (HandSPX.excO C t0)) (hne : e ≠ C) (hLe : L ≠ e)
    (hf : K.lookup fI = some ⟨oc, od, .func fd, osl⟩) (hpar : (fd.params.posonlyargs ++ fd.params.args).head?.map (·.arg) = some "self")
    (hcode : K.lookup cda = some ⟨ccl, cdd, .fields vs, ccs⟩) (hvs : vs[2]? = some (.str file tf)) (hfile : ((prog.main.file : Str) == file) = true)
    (hcell : K.lookup cc = some ⟨cl, cld, .cell (some (.ref C)), csl⟩)
    (hks : scope.names.lookup ("super" : Str) = some .globalImplicit) (hkc : scope.names.lookup ("__class__" : Str) = some .free) (hka : scope.names.lookup ("self" : Str) = some .local) (hk : scope.kind = .function)
    (hq : ∀ h' tk' t1, (∀ b o, b ≠ e → hh.get? b = some o → h'.get? b = some o) → h'.get? e = some (HandSPX.excO C t1) → Q .next ⟨h', g, d, tk', os⟩) :
    _root_.PySem.wpAt (model prog w) A (.func body (ksEnv qual scope L fI (.ref cda) cc)) (exec (sxSup p0 p1 p2 p3 p4 p5 j msg) (ksEnv qual scope L fI (.ref cda) cc)) Q E ⟨hh, g, d, t, os⟩ := by
  obtain ⟨nm, q, N, bs, bm, sn, sub, ab, col, dd, k0, k1, k2, k3, k5, hC, hbm⟩ := T.cls
  have hcl : clsIn K C = some { name := nm, bases := bs, mro := .ref C :: bm, ns := N, qualname := q, hasDict := true, slotNames := sn, subclasses := sub, abstract := ab, collection := col, hasDel := false } := by unfold clsIn; rw [hC] <;> rfl
  obtain ⟨ar, har, hara⟩ : ∃ ar, (fd.params.posonlyargs ++ fd.params.args).head? = some ar ∧ ar.arg = "self" := by
    cases z : (fd.params.posonlyargs ++ fd.params.args).head? with
    | none => rw [z] at hpar; cases hpar
    | some ar => rw [z] at hpar; exact ⟨ar, rfl, Option.some.inj hpar⟩
  have hint : interactive (ksEnv qual scope L fI (.ref cda) cc) = false := by simp [interactive, hk]
  unfold sxSup
  refine ks_wpAt_Expr_any (ks_wpAt_MethodCall ?_ (hpl _)) hint rfl
  refine ks_wpAt_super_base (env := ksEnv qual scope L fI (.ref cda) cc) hks hkc (by decide) rfl (X _ _ hf) rfl har rfl (X _ _ hcode) rfl hvs hfile T.tops ?_
  refine ks_loadName_global hk hks (loadGlobal_builtin (env := ksEnv qual scope L fI (.ref cda) cc) hg T.gsup hb (hbb.trans (by decide +kernel)) ⟨rfl, ?_⟩)
  refine wpAny_loadName_free hk hkc rfl ⟨_, X _ _ hcell, rfl⟩ ?_
  rw [hara]
  refine wpAny_loadName_local hk hka hm hs ?_
  refine ks_wpAny_isType_cls (X _ _ hC) rfl ⟨rfl, ?_⟩
  refine ks_wpAny_call_super (X _ _ hC) rfl he rfl (fun c z => by cases z) (looks_mroIn X T.slf) (fun h1 e1 k1 => ?_)
  have X1 : K.In h1 := X.keeps k1
  have he1 := k1 _ _ he
  have I1 : InstAt h1 e (HandSPX.excO C t0) C none := ⟨he1, rfl, rfl, trivial⟩
  have hI : Looks (model prog w) h1 (isInstance (.ref e) (.type "ValueError")) true := I1.type.andThen (looks_subIn X1 T.veC)
  have hm' := T.sup
  unfold ks_superIn at hm'
  rw [hcl] at hm'
  refine kxs_getMethod kxs_ValueError e1 (looks_opaque X1 T.opq) (l₀ := .ref C :: bm) ?_ rfl X1 hm' hI hne (by decide) ?_
  · exact fun A Q E s k q => wpAny_bind ((looks_clsIn X1 hcl) A _ E s k (wpAny_pure q))
  · have hu : (h1.push (kxs_mw "ValueError.__init__" e)).get? h1.objs.size = some (kxs_mw "ValueError.__init__" e) := Heap.get?_push_at rfl rfl
    refine kxs_callWith (i := "ValueError.__init__") (x := e) rfl ?_
    refine Calls.evalArgs_plain ?_
    show wpAny _ _ (spliced ((false, eval (.Constant (.str msg) j p3) (ksEnv qual scope L fI (.ref cda) cc)) :: [])) _ _ _
    refine Calls.spliced_cons (Calls.Constant_str (Calls.spliced_nil ⟨hu, ?_⟩))
    have k2 : ∀ b o, hh.get? b = some o → (h1.push (kxs_mw "ValueError.__init__" e)).get? b = some o := fun b o z => Heap.get?_push_of_some _ (k1 b o z)
    refine sx_call_bw ((X.keeps k2) _ _ hC) (k2 _ _ he) hu (by show 1 ≤ sizeLine; decide) fun h' t1 kk hx => ?_
    exact hq h' _ t1 (fun b o hb z => kk b o hb (k2 b o z)) hx
end
end SXE
end PySem

/-! E2: the own exception is made. -/
namespace PySem
namespace SXE
open PySem.W PySem.Calls PyProof.Rows
abbrev exF (C t1 : Addr) (d : Option Addr) : Obj := { cls := .ref C, dict := d, data := .fields #[.ref t1, .none, .none, .none, .bool false, .none] }
/-- the exception at e, what it has been given so far -/
def ExS (C e n0 : Nat) (acc : List (Str × Value)) (h : Heap) : Prop :=
  ∃ t1, (acc = [] ∧ h.get? e = some (exF C t1 none)) ∨ ∃ dx, acc ≠ [] ∧ n0 ≤ dx ∧ dx ≠ e ∧ h.get? e = some (exF C t1 (some dx)) ∧ ∃ mA, h.Ns1 dx mA ∧ ∀ f, mA f = acc.lookup f
theorem lput {β : Type} (f g : Str) (y : β) (fs : List (Str × β)) : ((f, y) :: fs).lookup g = if g = f then some y else fs.lookup g := by
  by_cases h : g = f
  · subst h
    simp [List.lookup]
  · have e : (g == f) = false := by simpa using h
    rw [if_neg h]
    simp [List.lookup, e]
theorem look_in : ∀ (l : List (Str × Value)) (y : Str) (v : Value), (l.map (·.1)).Nodup → (y, v) ∈ l → l.lookup y = some v := by
  intro l y v nd hmem
  induction l with
  | nil => cases hmem
  | cons p r ih =>
    obtain ⟨a, b⟩ := p
    rw [List.map_cons, List.nodup_cons] at nd
    rw [lput]
    rcases List.mem_cons.mp hmem with e | e
    · cases e
      rw [if_pos rfl]
    · rw [if_neg, ih nd.2 e]
      rintro rfl
      exact nd.1 (List.mem_map.mpr ⟨_, e, rfl⟩)
theorem look_rev (l : List (Str × Value)) (y : Str) (v : Value) (nd : (l.map (·.1)).Nodup) (mem : (y, v) ∈ l) : l.reverse.lookup y = some v := by
  refine look_in _ _ _ ?_ (List.mem_reverse.mpr mem)
  rw [List.map_reverse]
  exact (List.reverse_perm _).nodup_iff.mpr nd
theorem within_acc : ∀ (acc : List (Str × Value)) (mA : Str → Option Value), (∀ f, mA f = acc.lookup f) → Within mA (acc.map (·.1)) := by
  intro acc mA h y hy
  rw [h y] at hy
  clear h
  induction acc with
  | nil => exact absurd rfl hy
  | cons p r ih =>
    obtain ⟨a, b⟩ := p
    rw [lput] at hy
    by_cases e : y = a
    · exact e ▸ List.mem_cons_self ..
    · rw [if_neg e] at hy
      exact List.mem_cons_of_mem _ (ih hy)
section
variable {prog : Program} {w : World} {A : Around} {E : Value → Shared → Prop} {K : Frag} {mg mb : Str → Option Value} {x : Str} {C fI : Addr} {ps : List Str}
theorem sx_store {hh hp : Heap} {g : Array GenState} {d : Drawn} {t : Nat} {os : OsState} {e L : Addr} {f : Str} {v : Value} {acc : List (Str × Value)} {m : Str → Option Value} {Q : Unit → Shared → Prop}
    (T : SxTxt prog K mg x C fI ps) (X : K.In hp) (he : hp.objs.size ≤ e) (hLe : L ≠ e) (hm : hh.Ns L m) (hL : e < L) (kp : ∀ b o, hp.get? b = some o → hh.get? b = some o) (hf : f ∈ ps) (hz : acc.length ≤ 900)
    (S : ExS C e (L + 1) acc hh)
    (hq : ∀ h' tk', h'.Ns L m → (∀ b o, hp.get? b = some o → h'.get? b = some o) → ExS C e (L + 1) ((f, v) :: acc) h' → Q () ⟨h', g, d, tk', os⟩) :
    wpAny (model prog w) A (setAttr (.ref e) f v) Q E ⟨hh, g, d, t, os⟩ := by
  obtain ⟨nm, q, N, bs, bm, sn, sub, ab, col, dd, k0, k1, k2, k3, k5, hC, hbm⟩ := T.cls
  have hcl : clsIn K C = some { name := nm, bases := bs, mro := .ref C :: bm, ns := N, qualname := q, hasDict := true, slotNames := sn, subclasses := sub, abstract := ab, collection := col, hasDel := false } := by unfold clsIn; rw [hC] <;> rfl
  have XX : K.In hh := X.keeps kp
  have hrf : PySem.HandSPX.refsVE (.ref C :: bm) = true := hbm
  have nb : ∀ {b o}, hp.get? b = some o → b ≠ e := fun z => Nat.ne_of_lt (Nat.lt_of_lt_of_le (Heap.lt_size z) he)
  have hLs : L < hh.objs.size := hm.lt
  obtain ⟨t1, S⟩ := S
  rcases S with ⟨ea, hx⟩ | ⟨dx, hac, hdx, hde, hx, mA, hns, hmA⟩
  · refine set_plain XX (ox := exF C t1 none) (od := none) ⟨hx, rfl, rfl, trivial⟩ T.sa ?_
    refine PySem.HandSPX.exc_osa XX hx hcl hrf rfl (T.noF f hf) (fun h' tk' dx k dn dne hx' hn => ?_)
    refine hq h' tk' ?_ (fun b o z => k b o (nb z) (kp b o z)) ⟨t1,   .inr ⟨dx, List.cons_ne_nil _ _, Nat.lt_of_lt_of_le hLs dn, dne, hx', _, hn, fun y => ?_⟩⟩
    · obtain ⟨oL, es, ep, a1, a2⟩ := hm
      exact ⟨oL, es, ep, k _ _ hLe a1, a2⟩
    · rw [lput, ea]
      rfl
  · have hLd : L ≠ dx := Nat.ne_of_lt hdx
    have hw := within_acc acc mA hmA
    obtain ⟨oD, _, _, hoD, _, _⟩ := hns.count hw
    refine set_plain XX (ox := exF C t1 (some dx)) (od := some oD) ⟨hx, rfl, rfl, hoD⟩ T.sa ?_
    refine PySem.OEX.osa_old XX hx hns hw (by rw [List.length_map]; omega) hcl hrf rfl (T.noF f hf) (fun h' tk' k hn => ?_)
    refine hq h' tk' ?_ (fun b o z => k b o (Nat.ne_of_lt (Nat.lt_of_lt_of_le (Heap.lt_size z) (Nat.le_trans he (Nat.le_of_lt (Nat.lt_of_lt_of_le hL (Nat.le_of_lt hdx)))))) (kp b o z)) ⟨t1, .inr ⟨dx, List.cons_ne_nil _ _, hdx, hde, k _ _ (Ne.symm hde) hx, _, hn, fun y => ?_⟩⟩
    · obtain ⟨oL, es, ep, a1, a2⟩ := hm
      exact ⟨oL, es, ep, k _ _ hLd a1, a2⟩
    · rw [lput]
      by_cases z : y = f
      · simp [z]
      · simp [z, hmA]
theorem sx_flds {hp : Heap} {g : Array GenState} {d : Drawn} {os : OsState} {e L cc : Addr} {m : Str → Option Value} {qual : Str} {scope : Scope} {cdv : Value} {Q : Flow → Shared → Prop}
    (T : SxTxt prog K mg x C fI ps) (X : K.In hp) (he : hp.objs.size ≤ e) (hL : e < L) (hs : m "self" = some (.ref e))
    (hka : scope.names.lookup ("self" : Str) = some .local) (hkf : ∀ f ∈ ps, scope.names.lookup f = some .local) (hk : scope.kind = .function) (hdb : ∀ f ∈ ps, (f == ("__debug__" : Str)) = false) (val : Str → Value) (hv : ∀ f ∈ ps, m f = some (val f))
    : ∀ (l : List (Str × (Pos × Pos × Pos × Pos))) (acc : List (Str × Value)) (hh : Heap) (t : Nat), (∀ z ∈ l, z.1 ∈ ps) → acc.length + l.length ≤ 900 → hh.Ns L m → (∀ b o, hp.get? b = some o → hh.get? b = some o) → ExS C e (L + 1) acc hh →
      (∀ h' tk', (∀ b o, hp.get? b = some o → h'.get? b = some o) → ExS C e (L + 1) ((l.map fun z => (z.1, val z.1)).reverse ++ acc) h' → Q .next ⟨h', g, d, tk', os⟩) →
      wpAny (model prog w) A (execs (l.map (fun z => sxFld z.2.1 z.2.2.1 z.2.2.2.1 z.2.2.2.2 z.1)) (ksEnv qual scope L fI cdv cc)) Q E ⟨hh, g, d, t, os⟩ := by
  intro l
  induction l with
  | nil =>
    intro acc hh t _ _ hm kp S hq
    exact wpAny_execs_nil (hq hh t kp S)
  | cons z l ih =>
    intro acc hh t hl hz hm kp S hq
    obtain ⟨f, q1, q2, q3, q4⟩ := z
    have hf : f ∈ ps := hl _ (List.mem_cons_self ..)
    rw [List.map_cons]
    refine wpAny_execs_cons ?_
    show wpAny _ _ (exec (sxFld q1 q2 q3 q4 f) _) _ _ _
    unfold sxFld
    refine plainObj_wpAny_Assign_Attribute ?_
    refine wpAny_Name (wpAny_loadName_local hk (hkf f hf) hm (hv f hf) ?_) (hdb f hf)
    refine wpAny_Name (wpAny_loadName_local hk hka hm hs ?_) (by decide)
    refine sx_store T X he (Nat.ne_of_gt hL) hm hL kp hf (by rw [List.length_cons] at hz; omega) S (fun h' tk' hm' kp' S' => ?_)
    refine ih _ h' tk' (fun y hy => hl y (List.mem_cons_of_mem _ hy)) (by rw [List.length_cons] at hz ⊢; omega) hm' kp' S' (fun h2 tk2 k2 S2 => hq h2 tk2 k2 ?_)
    have e1 : (List.map (fun z => (z.1, val z.1)) ((f, q1, q2, q3, q4) :: l)).reverse ++ acc = (List.map (fun z => (z.1, val z.1)) l).reverse ++ (f, val f) :: acc := by simp
    rw [e1]
    exact S2
/-- the __init__ runs -/
theorem sx_init {hp : Heap} {g : Array GenState} {d : Drawn} {t : Nat} {os : OsState} {us : List Value} (T : SxTxt prog K mg x C fI ps) (X : K.In hp) (hlim : hp.NoLimit) (hg : hp.Ns mainGlobals mg) (hb : hp.Ns builtinsNs mb) (hbb : mb "super" = bootBuiltins "super")
    (hroom : A.depth < recursionLimit) (hlen : us.length = ps.length) (hnd : ps.Nodup) (hns : ("self" : Str) ∉ ps) (hdb : ("__debug__" : Str) ∉ ps) (hz : ps.length ≤ 900) :
    codeAny (model prog w) A (.call (.ref fI) ⟨.ref (hp.objs.size + 1) :: us, []⟩) (fun r s' => r = .ok (.ret .none) ∧ s'.os = os ∧ s'.gens = g ∧ (∀ b o, hp.get? b = some o → s'.heap.get? b = some o) ∧ ExS C (hp.objs.size + 1) (hp.objs.size + 3) (ps.zip us).reverse s'.heap)
      ⟨(hp.push (kdv_tup us)).push (PySem.HandSPX.excO C hp.objs.size), g, d, t, os⟩ := by
  obtain ⟨oc, od, doc, pm, an, cda, ct, osl, cc, qual, params, body, scope, ho, hcd, ⟨ccl, cdd, vs, ccs, file, tf, hcode, hvs, hfile⟩, ⟨cl, cld, csl, hcell⟩, hpar, ⟨p0, p1, p2, p3, p4, p5, j, msg, qs, hbody, hqs, hpl⟩, hks, hkc, hka, hkf, hnc, hco, hgen, hk, hbind⟩ := T.fn
  have kk : ∀ b o, hp.get? b = some o → ((hp.push (kdv_tup us)).push (PySem.HandSPX.excO C hp.objs.size)).get? b = some o := fun b o e => Heap.get?_push_of_some _ (Heap.get?_push_of_some _ e)
  have hget : ((hp.push (kdv_tup us)).push (PySem.HandSPX.excO C hp.objs.size)).get? (hp.objs.size + 1) = some (PySem.HandSPX.excO C hp.objs.size) := by heap_get
  have hsz : ((hp.push (kdv_tup us)).push (PySem.HandSPX.excO C hp.objs.size)).objs.size = hp.objs.size + 2 := by simp [Heap.push]
  generalize ((hp.push (kdv_tup us)).push (PySem.HandSPX.excO C hp.objs.size)) = h1 at kk hget hsz ⊢
  have X1 : K.In h1 := X.keeps kk
  refine ks_codeAny_call_defAt (fd := ksFn "__init__" qual params body scope .none .none doc pm an (.ref cda) ct cc) (body := body) (binds := (("self" : Str) :: ps).zip (.ref (hp.objs.size + 1) :: us)) hroom (X1 _ _ ho) rfl (hlim.keeps kk) (codeRec_of X1 hcd) rfl
    (hbind _ _ (by simp [hlen])) hnc ?_ (fun h0 hL hk0 => ?_) hco hgen hk
  · intro y hy
    have hy1 : y.1 ∈ ("self" : Str) :: ps := (List.of_mem_zip hy).1
    rcases List.mem_cons.mp hy1 with e | e
    · rw [e]
      exact hka
    · exact hkf _ e
  · show _root_.PySem.wpAt _ _ _ (execs body (ksEnv qual scope h1.objs.size fI (.ref cda) cc)) _ _ _
    have hL' : h0.Ns h1.objs.size (fun y => ((("self" : Str) :: ps).zip (Value.ref (hp.objs.size + 1) :: us)).reverse.lookup y) := hL
    have hk0' : ∀ b o, hp.get? b = some o → h0.get? b = some o := fun b o z => hk0 b o (kk b o z)
    have look := @look_rev
    have lt1 : hp.objs.size + 1 < h1.objs.size := hsz ▸ Nat.lt_succ_self _
    have nb1 : ∀ {b : Addr} {o : Obj}, hp.get? b = some o → b ≠ hp.objs.size + 1 := fun z => Nat.ne_of_lt (Nat.lt_succ_of_lt (Heap.lt_size z))
    have zlen : (("self" : Str) :: ps).length = (Value.ref (hp.objs.size + 1) :: us).length := by simp [hlen]
    have nd0 : (((("self" : Str) :: ps).zip (Value.ref (hp.objs.size + 1) :: us)).map (·.1)).Nodup := by
      have e1 : ((("self" : Str) :: ps).zip (Value.ref (hp.objs.size + 1) :: us)).map (·.1) = ("self" : Str) :: ps := List.map_fst_zip (by omega)
      rw [e1]
      exact List.nodup_cons.mpr ⟨hns, hnd⟩
    have hs : ((("self" : Str) :: ps).zip (Value.ref (hp.objs.size + 1) :: us)).reverse.lookup ("self" : Str) = some (.ref (hp.objs.size + 1)) := look _ _ _ nd0 (by rw [List.zip_cons_cons]; exact List.mem_cons_self ..)
    have hv : ∀ f ∈ ps, ((("self" : Str) :: ps).zip (Value.ref (hp.objs.size + 1) :: us)).reverse.lookup f = some ((((("self" : Str) :: ps).zip (Value.ref (hp.objs.size + 1) :: us)).reverse.lookup f).getD .none) := by
      intro f hf
      obtain ⟨i, hi, rfl⟩ := List.mem_iff_getElem.mp hf
      have e1 := look _ ps[i] us[i] nd0 (by rw [List.zip_cons_cons]; exact List.mem_cons_of_mem _ (List.mem_iff_getElem.mpr ⟨i, by simp [hlen, hi], by simp⟩))
      rw [e1]
      rfl
    rw [hbody]
    refine ks_wpAt_execs_cons ?_
    refine sx_sup_stmt (qual := qual) hpl T (X.keeps hk0') (by obtain ⟨o, es, ep, a1, a2⟩ := hg; exact ⟨o, es, ep, hk0' _ _ a1, a2⟩) (by obtain ⟨o, es, ep, a1, a2⟩ := hb; exact ⟨o, es, ep, hk0' _ _ a1, a2⟩) hbb hL' hs (hk0 _ _ hget) ?_ (Nat.ne_of_gt lt1) ho hpar hcode hvs hfile hcell hks hkc hka hk (fun h2 tk2 t1 k2 hx2 => ?_)
    · rintro e
      obtain ⟨nm, q, N, bs, bm, sn, sub, ab, col, dd, k0, k1, k2, k3, k5, hC, hbm⟩ := T.cls
      exact nb1 (X _ _ hC) e.symm
    · refine wpAt_of_wpAny ?_
      have kp2 : ∀ b o, hp.get? b = some o → h2.get? b = some o := fun b o z => k2 b o (nb1 z) (hk0' b o z)
      refine sx_flds T X (e := hp.objs.size + 1) (L := h1.objs.size) (Nat.le_succ _) lt1 hs hka hkf hk (fun f hf => by
        have : f ≠ ("__debug__" : Str) := fun z => hdb (z ▸ hf)
        simpa using this) _ hv (ps.zip qs) [] h2 tk2 (fun z hz => (List.of_mem_zip hz).1) (by simp [hqs]; omega) ?_ kp2 ⟨t1, .inl ⟨rfl, hx2⟩⟩ (fun h3 tk3 k3 S3 => ?_)
      · obtain ⟨o, es, ep, a1, a2⟩ := hL'
        exact ⟨o, es, ep, k2 _ _ (Nat.ne_of_gt lt1) a1, a2⟩
      · refine ⟨rfl, rfl, rfl, k3, ?_⟩
        have e1 : (List.map (fun z => (z.1, (((("self" : Str) :: ps).zip (Value.ref (hp.objs.size + 1) :: us)).reverse.lookup z.1).getD .none)) (ps.zip qs)) = ps.zip us := by
          refine List.ext_getElem (by simp [hqs, hlen]) fun i h1 h2 => ?_
          have hi : i < ps.length := by simp [hqs] at h1; omega
          have hi2 : i < us.length := by omega
          have e1 := look _ ps[i] us[i] nd0 (by rw [List.zip_cons_cons]; exact List.mem_cons_of_mem _ (List.mem_iff_getElem.mpr ⟨i, by simp [hlen, hi], by simp⟩))
          simp only [List.getElem_map, List.getElem_zip]
          rw [e1]
          rfl
        rw [List.append_nil, e1, hsz] at S3
        exact S3
end

end SXE
end PySem
namespace PVL
open PySem PySem.Spec L2 PySem.SXE PyProof.Rows
theorem relO_zip : ∀ {vs : List V} {us : List Value} (ps : List Str) (av : List (Str × V)) (au : List (Str × Value)), Vals vs us → (∀ f, RelO (av.lookup f) (au.lookup f)) → ∀ f, RelO (((ps.zip vs).reverse ++ av).lookup f) (((ps.zip us).reverse ++ au).lookup f) := by
  intro vs us ps av au h
  induction h generalizing ps av au with
  | nil => intro r f; simpa using r f
  | @cons v u vr ur hv hr ih =>
    intro r f
    cases ps with
    | nil => simpa using r f
    | cons p ps =>
      rw [List.zip_cons_cons, List.zip_cons_cons, List.reverse_cons, List.reverse_cons, List.append_assoc, List.append_assoc]
      refine ih ps _ _ (fun g => ?_) f
      show RelO (((p, v) :: av).lookup g) (((p, u) :: au).lookup g)
      rw [lput, lput]
      by_cases e : g = p
      · rw [if_pos e, if_pos e]; exact hv
      · rw [if_neg e, if_neg e]; exact r g
/-- the reading of C(e, ..): the fields are stored in a fresh dict -/
def tMkS (C : Addr) (ps : List Str) (ta : TA)   : L2.St → Hp → XK → Prop := fun σ H Q => ta σ H fun vs H1 => vs.length = ps.length ∧
  match ps with
  | [] => Q (.ref C) none H1
  | _ :: _ => ∀ d, H1 d = none → Q (.ref C) (some d) (upd H1 d (.xd (ps.zip vs).reverse))
/-- what a name list must keep -/
def psOk (ps : List Str) : Bool := decide ps.Nodup && (!ps.contains "self" && (!ps.contains "__debug__" && decide (ps.length ≤ 900)))
section
variable {X : Cx} {x : Str} {C fI : Addr} {ps : List Str}
theorem mk_call {pins : List (Addr × Obj)} {σ : L2.St} {H1 : Hp} {s1 : Shared} {us : List Value} {vs : List V} {Q : XK} {k : Nat} (T : SxTxt X.prog X.K X.mg x C fI ps) (hp : psOk ps = true) (hr : Room (k + 1) X.A) (hsu : X.mg "super" = none) (I1 : Inv X pins σ H1 s1) (r1 : Vals vs us) (hl : vs.length = ps.length)
    (q : match ps with | [] => Q (.ref C) none H1 | _ :: _ => ∀ d, H1 d = none → Q (.ref C) (some d) (upd H1 d (.xd (ps.zip vs).reverse))) :
    wpAny (model X.prog X.w) X.A (call (.ref C) us) (MkP X pins σ Q) X.xe s1 := by
  unfold psOk at hp
  simp only [Bool.and_eq_true, decide_eq_true_eq, Bool.not_eq_true', List.contains_iff_mem, ← Bool.not_eq_true] at hp
  obtain ⟨hnd, hself, hdbg, h900⟩ := hp
  obtain ⟨nm, q0, N, bs, bm, sn, sub, ab, col, dd, k0, k1, k2, k3, k5, hC, hbm⟩ := T.cls
  have ok := I1.ok.mod
  have bk : ∀ b o, X.base.get? b = some o → s1.heap.get? b = some o := I1.bk
  obtain ⟨mb, hmb, hmbb⟩ := ok.blt
  have hlim : s1.heap.NoLimit := I1.nolimit
  have hgl : s1.heap.Ns mainGlobals X.mg := by obtain ⟨o, es, ep, a1, a2⟩ := ok.glob; exact ⟨o, es, ep, bk _ _ a1, a2⟩
  have hbl : s1.heap.Ns builtinsNs mb := by obtain ⟨o, es, ep, a1, a2⟩ := hmb; exact ⟨o, es, ep, bk _ _ a1, a2⟩
  have hX := I1.kIn
  have hlu : us.length = ps.length := by rw [← r1.length]; exact hl
  obtain ⟨h0, g, dr, tk, os⟩ := s1
  have hus : us.length ≤ sizeLine := by rw [hlu, sizeLine_eq]; omega
  have r' : Room k (X.A.under (.builtin "type.__call__" ⟨.ref C :: us, []⟩)) := hr.make C us []
  refine wpAny_call (PySem.HandSPX.call_own F.excBase_ValueError (fun Y => PySem.HandSPX.refsVE_contains Y bm hbm) (hX _ _ hC) (PySem.W.looks_findIn hX T.iC) (fun self => PySem.W.bind_fn hX self T.tC) hus
    (codeAny_mono (sx_init T hX hlim hgl hbl (hmbb _ (by decide)) r'.depth hlu hnd hself hdbg h900) fun r s' hq' => ?_))
  obtain ⟨er, eo, eg, kp, t1, S⟩ := hq'
  subst er
  obtain ⟨h2, g2, d2, t2, os2⟩ := s'
  dsimp only at eo eg kp S
  subst eo eg
  have hn1 : H1 (h0.objs.size + 1) = none := I1.hok.fresh (Nat.le_succ _)
  have nha : ∀ {b : Addr} {o : Obj}, h0.get? b = some o → b ≠ h0.objs.size + 1 := fun {b o} z => Nat.ne_of_lt (Nat.lt_of_lt_of_le (Heap.lt_size z) (Nat.le_succ _))
  have hnew : h0.get? (h0.objs.size + 1) = none := by
    cases z : h0.get? (h0.objs.size + 1) with
    | none => rfl
    | some o => exact absurd rfl (nha z)
  refine ⟨rfl, ?_⟩
  have rais : Raises X (.ref C) := raises_own T.exC T.tyC
  rcases S with ⟨ea, hx⟩ | ⟨dx, hac, hdx, hde, hx, mA, hns, hmA⟩
  · have hps : ps = [] := by
      cases ps with
      | nil => rfl
      | cons p r =>
        cases us with
        | nil => simp at hlu
        | cons u ur => simp at ea
    subst hps
    exact ⟨_, _, _, _, H1, .ref C, none, rfl, I1, kp, hnew, hx, ⟨rfl, rfl⟩, rfl, rfl, hn1, rfl, I1.bare, rais, q⟩
  · have hps : ∃ p r, ps = p :: r := by
      cases ps with
      | cons p r => exact ⟨p, r, rfl⟩
      | nil =>
        exact absurd rfl hac
    obtain ⟨p, r, hps⟩ := hps
    have hd1 : H1 dx = none := I1.hok.fresh (show h0.objs.size ≤ dx by exact Nat.le_trans (Nat.le_add_right _ 3) hdx)
    have ndx : ∀ {b : Addr} {o : Obj}, h0.get? b = some o → b ≠ dx := fun {b o} z => Nat.ne_of_lt (Nat.lt_of_lt_of_le (Heap.lt_size z) (Nat.le_trans (Nat.le_add_right _ 3) hdx))
    have un : Un (frs X.stack) [] (upd H1 (h0.objs.size + 1) (exo (h0.objs.size + 1) C none)) (upd (upd H1 dx (exd dx (ps.zip vs).reverse)) (h0.objs.size + 1) (exo (h0.objs.size + 1) C (some dx))) h0 h2 := {
      keep := fun b o z _ _ _ => kp b o z
      slot := fun b o z _ _ _ => ⟨o.slots, kp b o z⟩
      free := fun b o z n _ => by rw [upd_ne (nha z), upd_ne (ndx z)]; rw [upd_ne (nha z)] at n; exact n
      there := fun b o z _ => ⟨o, kp b o z⟩
      tups := fun b xs z => by
        by_cases e : b = h0.objs.size + 1
        · rw [e, upd_same] at z; exact absurd (Option.some.inj z) exo_tup
        · rw [upd_ne e] at z; rw [upd_ne e, upd_ne (ne_of_none z hd1)]; exact z
      frzs := fun b o v z => by
        by_cases e : b = h0.objs.size + 1
        · rw [e, upd_same] at z; exact absurd (Option.some.inj z) exo_frz
        · rw [upd_ne e] at z; rw [upd_ne e, upd_ne (ne_of_none z hd1)]; exact z
      tbls := fun b ps' z => ⟨#[], by
        by_cases e : b = h0.objs.size + 1
        · rw [e, upd_same] at z; exact absurd (Option.some.inj z) exo_tbl
        · rw [upd_ne e] at z; rw [upd_ne e, upd_ne (ne_of_none z hd1), z]; simp⟩ }
    have hok2 : HOk X.prog X.w (upd (upd H1 dx (exd dx (ps.zip vs).reverse)) (h0.objs.size + 1) (exo (h0.objs.size + 1) C (some dx))) h2 := fun b o z => by
      by_cases e : b = h0.objs.size + 1
      · rw [e, upd_same] at z
        obtain rfl := Option.some.inj z
        rw [e]
        exact exo_ok hx
      · rw [upd_ne e] at z
        by_cases e2 : b = dx
        · rw [e2, upd_same] at z
          obtain rfl := Option.some.inj z
          rw [e2]
          refine exd_ok hns fun f => ?_
          rw [hmA]
          have := relO_zip (vs := vs) (us := us) ps [] [] r1 (fun _ => True.intro) f
          rwa [List.append_nil, List.append_nil] at this
        · rw [upd_ne e2] at z
          have nod : ∀ {c : Addr} {u : HO}, H1 c = some u → c ≠ h0.objs.size + 1 ∧ c ≠ dx := fun {c u} hc => ⟨ne_of_none hc hn1, ne_of_none hc hd1⟩
          exact (I1.hok b o z).stay (fun c v _ y => kp c v y) (fun c hc => by rw [upd_ne (nod hc).1, upd_ne (nod hc).2]; exact hc) (fun c xs hc => by rw [upd_ne (nod hc).1, upd_ne (nod hc).2]; exact hc)
    have eH : upd (del (upd (upd H1 dx (exd dx (ps.zip vs).reverse)) (h0.objs.size + 1) (exo (h0.objs.size + 1) C (some dx))) (h0.objs.size + 1)) dx (.xd (ps.zip vs).reverse) = upd H1 dx (.xd (ps.zip vs).reverse) := by
      funext b
      by_cases e : b = dx
      · rw [e, upd_same, upd_same]
      · rw [upd_ne e, upd_ne e]
        by_cases e2 : b = h0.objs.size + 1
        · rw [e2, del_same, hn1]
        · rw [del_ne e2, upd_ne e2, upd_ne e]
    refine mk_end (Q := Q) rais I1 (Nat.le_succ _) (fun _ _ z => z) un hok2 rfl I1.bare upd_same (by rw [upd_ne hde, upd_same]) hd1 ?_
    rw [eH]
    subst hps
    exact q dx hd1
end
end PVL

/-! E3: raise of an own exception; try with several clauses, each with or without a name. -/
namespace PVL
open PySem PySem.Spec L2 PySem.SXE PyProof.Rows
/-! ### rule -/
abbrev Cl := Value × Option Nat × (Addr → Value → Option Addr → TS)
def dEnd (D : Ends) : Option Nat → Ends
  | none => D
  | some i => { nx := fun σ' H' => D.nx (σ'.set i none) H', rt := D.rt, bk := fun σ' H' => D.bk (σ'.set i none) H', ct := fun σ' H' => D.ct (σ'.set i none) H' }
def sEnd (σ : L2.St) (a : Addr) : Option Nat → L2.St
  | none => σ
  | some i => σ.set i (some (.ref a))
def wGen (K : PySem.W.Frag) (Wout : WX) (D : Ends) : List Cl → WX
  | [] => Wout
  | (c, i, ts) :: r => fun cls d σ H => ∃ b, PySem.W.exmOne K cls c = some b ∧ (b = true → ∀ a, H a = none → ts a cls d (dEnd D i) (sEnd σ a i) H) ∧ (b = false → wGen K Wout D r cls d σ H)
inductive HdG (X : Cx) : List ExceptHandler → List Cl → Prop
  | nil : HdG X [] []
  | cons {x : Str} {c : Value} {ts : Addr → Value → Option Addr → TS} {b₀ : Stmt} {suite : List Stmt} {np pos' : Pos} {hds : List ExceptHandler} {l : List Cl} (hc : Names X x c)
      (hsu : ∀ (a : Addr) (oe : Obj) (cls : Value) (d : Option Addr) (pn : List (Addr × Obj)), Zc cls d oe → (∃ vs, oe.data = .fields vs) → PSs (X.suite a ((a, oe) :: pn)) (b₀ :: suite) (ts a cls d)) (r : HdG X hds l) :
      HdG X (.ExceptHandler (some (.Name x np)) none (b₀ :: suite) pos' :: hds) ((c, none, ts) :: l)
  | as {x n : Str} {i : Nat} {c : Value} {ts : Addr → Value → Option Addr → TS} {b₀ : Stmt} {suite : List Stmt} {np pos' : Pos} {hds : List ExceptHandler} {l : List Cl} (hc : Names X x c) (hN : X.N.Nodup) (hi : X.N[i]? = some n) (hln : X.env.kindOf n = some .local)
      (hsu : ∀ (a : Addr) (oe : Obj) (cls : Value) (d : Option Addr) (pn : List (Addr × Obj)), Zc cls d oe → (∃ vs, oe.data = .fields vs) → PSs (X.suite a ((a, oe) :: pn)) (b₀ :: suite) (ts a cls d)) (r : HdG X hds l) :
      HdG X (.ExceptHandler (some (.Name x np)) (some n) (b₀ :: suite) pos' :: hds) ((c, some i, ts) :: l)
section
variable {X : Cx} {body : List Stmt} {h₀ : ExceptHandler} {hds : List ExceptHandler} {l : List Cl} {pos : Pos} {tb : WX → TS} {Wout : WX}
theorem ps_try_gen (hs : X.stack = X.env :: X.outer) (hf : X.env.frame = some X.env.locals) (tk : Takes X Wout)
    (hb : ∀ (W : WX) (pn : List (Addr × Obj)) (xe : Value → Shared → Prop), Takes (X.tr pn xe) W → PassesOwn (model X.prog X.w) X.A X.env xe → PSs (X.tr pn xe) body (tb W))
    (hh : HdG X (h₀ :: hds) l) : PS X (.Try body (h₀ :: hds) [] [] pos) (fun D σ H => tb (wGen X.K Wout D l) D σ H) := by
  refine ⟨fun pins s σ H D I h => ?_⟩
  have ok := I.ok
  have hfr : X.A.frames = some (X.env :: X.outer) := by rw [ok.frames, hs]
  refine wpAny_Try_except ?_
  refine wpAny_mono ((hb (wGen X.K Wout D l) (X.pn ++ pins) (fun e s₁ => wpAny (model X.prog X.w) X.A (noteFrame e X.env) (fun _ s₂ => wpAny (model X.prog X.w) X.A (setFlight e none) (fun _ s₃ =>
    wpAny (model X.prog X.w) X.A (handleBy e X.env (h₀ :: hds)) (SP X pins D) X.xe s₃) X.xe s₂) X.xe s₁) (fun u s' xx => ?_) PassesOwn.looking).run [] s σ H D (I.toTry _) h) (fun f s1 hsp => ?_) (fun e s1 he => he)
  · -- the catch
    obtain ⟨a, B, sI, pins', σ', H', cls, d, rfl, J', nb, up, sky, na, os, ag, w⟩ := xx
    have J : Inv X pins σ' H' sI := J'.ofTry ok
    have sky' : Sky B (X.env :: X.outer) a (Zc cls d) X.env.locals s'.heap := by rw [← hs]; exact sky
    show wpAny (model X.prog X.w) X.A (noteFrame (.ref a) X.env) _ _ _
    refine Sky.land Zc.steady hfr hf sky' fun h3 fl3 up3 => ?_
    have J3 : Inv X pins σ' H' { s' with heap := h3 } := J.landed nb fl3.1 (up.trans up3) os ag
    obtain ⟨oe3, vs3, he3, hz3, hd3⟩ := fl3.there
    have notFr : ∀ {h : Heap} {o : Obj} {vs : Array Value}, h.FunFrames B (X.env :: X.outer) → h.get? a = some o → o.data = .fields vs → a ∉ frs (X.env :: X.outer) := fun {h o vs} ff e dd hm => by
      obtain ⟨_, o', e', hnf⟩ := ff.mem hm
      rw [e] at e'; cases e'
      exact hnf _ dd
    have nfr := notFr fl3.2.2.1 he3 hd3
    have nL : a ≠ X.env.locals := fun z => nfr (List.mem_filterMap.mpr ⟨X.env, List.mem_cons_self, by rw [hf, z]⟩)
    have nF : a ∉ X.fs := fun hm => by
      obtain ⟨e, he, q⟩ := List.mem_filterMap.mp hm
      exact nfr (List.mem_filterMap.mpr ⟨e, List.mem_cons_of_mem _ he, q⟩)
    have S3 := J3.suite he3 hd3 na nL nF
    have go : ∀ {hds' : List ExceptHandler} {l' : List Cl}, HdG X hds' l' → wGen X.K Wout D l' cls d σ' H' →
        wpAny (model X.prog X.w) X.A (handleBy (.ref a) X.env hds') (SP X pins D) X.xe { s' with heap := h3 } := by
      intro hds' l' hk
      have test : ∀ {x : Str} {c : Value} {np : Pos} {Q : Value → Shared → Prop} {E : Value → Shared → Prop}, Names X x c → Q c { s' with heap := h3 } → wpAny (model X.prog X.w) (X.A.mark (some (.ref a))) (eval (.Name x np) X.env) Q E { s' with heap := h3 } := fun {x c np Q E} hc q => by
        obtain ⟨hg, hdbg, hm | ⟨hm, hv, hnn⟩⟩ := hc
        · exact ld_glob (X := X.suite a ((a, oe3) :: (X.pn ++ pins))) S3 hg hm q hdbg
        · exact ld_blt (X := X.suite a ((a, oe3) :: (X.pn ++ pins))) S3 hg hm hv q hnn hdbg
      have LT : PySem.W.Looks (model X.prog X.w) h3 (typeOf (.ref a)) cls := fun A Q E s k q => wpAny_typeOf_ref (k _ _ he3) (by rw [hz3.1]; exact q)
      induction hk with
      | nil =>
        intro w
        refine wpAny_handleBy_nil ?_
        obtain ⟨k1, k2, k3, oe, vs, T, oT, ts', he, hz, hd, h1, hr⟩ := id fl3
        unfold PySem.passOn
        refine wpAny_bind (wpAny_field he hd h1 ?_)
        rw [if_neg (show ¬ ((Value.ref T == Value.none) = true) from by simp)]
        have fin : wpAny (model X.prog X.w) X.A (setFlight (.ref a) X.env.frame) (fun _ s4 => wpAny (model X.prog X.w) X.A (throw (.ref a) : Sem Flow) (SP X pins D) X.xe s4) X.xe { s' with heap := h3 } := by
          rw [hf]
          refine HandSPX.setFlight_upZ fl3 fun h4 hh4 up4 => wpAny_throw (tk _ _ ?_)
          exact ⟨a, B, sI, pins, σ', H', cls, d, rfl, J, nb, (up.trans up3).trans up4, .inr (.inr (by rw [hs]; exact hh4)), na, os, ag, w⟩
        first
          | exact wpAny_bind (wpAny_pure (wpAny_bind fin))
          | exact wpAny_bind fin
      | @cons x c ts b₀ suite np pos' hds2 l2 hc hsu r ih =>
        intro w
        obtain ⟨b, hb1, hyes, hno⟩ := w
        refine wpAny_handleBy_cons (codeAny_handlers_test ?_) (by intro q; cases q)
        have LM := PySem.W.exm_one (M := model X.prog X.w) (J3.kIn) LT hb1
        refine test hc (LM.here ?_)
        cases b with
        | true =>
          refine codeAny_handlers_suite ?_
          refine HandSPX.lands_againZ fl3 fun h4 fl4 up4 => ?_
          have J4 : Inv X pins σ' H' { s' with heap := h4 } := J.landed nb fl4.1 ((up.trans up3).trans up4) os ag
          obtain ⟨oe4, vs4, he4, hz4, hd4⟩ := fl4.there
          have S4 := J4.suite he4 hd4 na nL nF
          refine wpAny_mono ((hsu a oe4 cls d (X.pn ++ pins) hz4 ⟨_, hd4⟩).run [] _ _ H' _ S4 (hyes rfl a na)) (fun f s6 hsp => ?_) (fun _ _ z => False.elim z)
          cases f with
          | next =>
            obtain ⟨σ6, H6, S6, q6⟩ := hsp
            exact ⟨_, _, S6.unsuite ok, q6⟩
          | brk =>
            obtain ⟨σ6, H6, S6, q6⟩ := hsp
            exact ⟨_, _, S6.unsuite ok, q6⟩
          | cont =>
            obtain ⟨σ6, H6, S6, q6⟩ := hsp
            exact ⟨_, _, S6.unsuite ok, q6⟩
          | ret u =>
            obtain ⟨v6, σ6, H6, S6, r6, q6⟩ := hsp
            exact ⟨_, _, _, S6.unsuite ok, r6, q6⟩
        | false =>
          show wpAny _ X.A (handleBy (.ref a) X.env hds2) _ _ _
          exact ih (hno rfl)
      | @as x n i c ts b₀ suite np pos' hds2 l2 hc hN hi hln hsu r ih =>
        intro w
        obtain ⟨b, hb1, hyes, hno⟩ := w
        refine wpAny_handleBy_cons (codeAny_handlers_test ?_) (by intro q; cases q)
        have LM := PySem.W.exm_one (M := model X.prog X.w) (J3.kIn) LT hb1
        refine test hc (LM.here ?_)
        cases b with
        | true =>
          refine codeAny_handlers_suite_as ?_
          refine HandSPX.lands_againZ fl3 fun h4 fl4 up4 => ?_
          have J4 : Inv X pins σ' H' { s' with heap := h4 } := J.landed nb fl4.1 ((up.trans up3).trans up4) os ag
          obtain ⟨oe4, vs4, he4, hz4, hd4⟩ := fl4.there
          have S4 := J4.suite he4 hd4 na nL nF
          refine store_ok (X := X.suite a ((a, oe4) :: (X.pn ++ pins))) (v := .ref a) S4 hN hi (.inl hln) rfl (fun s5 S5 => ?_) (.inr hln)
          refine wpAny_mono ((hsu a oe4 cls d (X.pn ++ pins) hz4 ⟨_, hd4⟩).run [] s5 _ H' _ S5 (hyes rfl a na)) (fun f s6 hsp => ?_) (fun _ _ z => False.elim z)
          have end_ : ∀ {σ6 : L2.St} {H6 : Hp} {Q : Shared → Prop}, Inv (X.suite a ((a, oe4) :: (X.pn ++ pins))) [] σ6 H6 s6 → (∀ s7, Inv X pins (σ6.set i none) H6 s7 → Q s7) →
              wpAny (model X.prog X.w) X.A (do bindName X.env n .none; unbindBehindTheSuite X.env n pos') (fun _ s7 => Q s7) X.xe s6 := fun {σ6 H6 Q} S6 hq => gone_ok (S6.unsuite ok) hN hi hln hq
          cases f with
          | next =>
            obtain ⟨σ6, H6, S6, q6⟩ := hsp
            exact end_ S6 fun s7 J7 => ⟨_, _, J7, q6⟩
          | brk =>
            obtain ⟨σ6, H6, S6, q6⟩ := hsp
            exact end_ S6 fun s7 J7 => ⟨_, _, J7, q6⟩
          | cont =>
            obtain ⟨σ6, H6, S6, q6⟩ := hsp
            exact end_ S6 fun s7 J7 => ⟨_, _, J7, q6⟩
          | ret u =>
            obtain ⟨v6, σ6, H6, S6, r6, q6⟩ := hsp
            exact end_ S6 fun s7 J7 => ⟨_, _, _, J7, r6, q6⟩
        | false =>
          show wpAny _ X.A (handleBy (.ref a) X.env hds2) _ _ _
          exact ih (hno rfl)
    exact go hh w
  · cases f with
    | next =>
      obtain ⟨σ', H', J', q⟩ := hsp
      exact wpAny_execs_nil ⟨σ', H', J'.ofTry ok, q⟩
    | brk =>
      obtain ⟨σ', H', J', q⟩ := hsp
      exact ⟨σ', H', J'.ofTry ok, q⟩
    | cont =>
      obtain ⟨σ', H', J', q⟩ := hsp
      exact ⟨σ', H', J'.ofTry ok, q⟩
    | ret u =>
      obtain ⟨v, σ', H', J', r, q⟩ := hsp
      exact ⟨v, σ', H', J'.ofTry ok, r, q⟩
end

/-! ### pure -/
/-- a clause: which classes it takes (by the module's names), its name's slot, its suite -/
abbrev PCl := List (Str × Bool) × Option Nat × (PX → SM)
def slotN (i : Option Nat) (e : PEnv) : PEnv := match i with
  | none => e
  | some i => e.set i none
def SO.map (f : PEnv → PEnv) : SO → SO
  | .next e => .next (f e)
  | .ret x e => .ret x (f e)
  | .brk e => .brk (f e)
  | .cont e => .cont (f e)
  | .exc x e => .exc x (f e)
  | .bad => .bad
def noX : SO → SO
  | .exc _ _ => .bad
  | o => o
def slotIn (i : Option Nat) (e : PEnv) : Bool := match i with
  | none => true
  | some j => decide (j < e.length)
def pick (x : PX) (e : PEnv) : List PCl → SO
  | [] => .exc x e
  | (tab, i, m) :: r => match tab.lookup x.cls with
    | some true => if slotIn i e = true then (noX (m x (slotN i e))).map (slotN i) else .bad
    | some false => pick x e r
    | none => .bad
def sTry (b : SM) (l : List PCl) : SM := fun env => match b env with
  | .exc x e => pick x e l
  | o => o
/-- the table tells what the clause takes -/
def TabOk (K : PySem.W.Frag) (mg : Str → Option Value) (c : Value) (tab : List (Str × Bool)) : Prop := ∀ n b cls, tab.lookup n = some b → mg n = some cls → PySem.W.exmOne K cls c = some b
/-- a suite, the exception x known -/
def SuI (K : PySem.W.Frag) (mg : Str → Option Value) (S : List Nat) (i : Option Nat) (t : TS) (m : SM) (x : PX) (a : Addr) (cls : Value) (d : Option Addr) : Prop := ∀ D σ H env F, RE K H env σ F → F.Nodup → (∀ j, i = some j → σ[j]? = some (some (.ref a))) → RX K mg x cls d H → PostS K mg (fun _ _ _ _ => False) S D σ H F (m env) → t D σ H
inductive ClOk (K : PySem.W.Frag) (mg : Str → Option Value) (S : List Nat) : List Cl → List PCl → Prop
  | nil : ClOk K mg S [] []
  | cons {c : Value} {tab : List (Str × Bool)} {i : Option Nat} {ts : Addr → Value → Option Addr → TS} {m : PX → SM} {l : List Cl} {p : List PCl} (ht : TabOk K mg c tab) (hi : ∀ j, i = some j → j ∈ S)
      (hm : ∀ x a cls d, SuI K mg S i (ts a cls d) (m x) x a cls d) (r : ClOk K mg S l p) : ClOk K mg S ((c, i, ts) :: l) ((tab, i, m) :: p)
section
variable {K : PySem.W.Frag} {mg : Str → Option Value} {W : WX} {S S1 S2 T : List Nat}
theorem re_slotN {H : Hp} {e : PEnv} {σ : L2.St} {F : List Addr} {i : Nat} (h : RE K H e σ F) (y : Option V) : ∃ F', RE K H (e.set i none) (σ.set i y) F' ∧ F'.Sublist F := by
  obtain ⟨F1, a, b⟩ := h.forget (i := i)
  exact ⟨F1, RE.anySlot a, b⟩
theorem post_dEnd {D : Ends} {σ : L2.St} {H : Hp} {F : List Addr} {i : Option Nat} (hi : ∀ j, i = some j → j ∈ S) {o : SO} (h : PostS K mg W S D σ H F ((noX o).map (slotN i))) : PostS K mg (fun _ _ _ _ => False) S (dEnd D i) σ H F o := by
  cases i with
  | none =>
    cases o with
    | next e => exact h
    | ret x e => exact h
    | brk e => exact h
    | cont e => exact h
    | exc x e => exact h.elim
    | bad => exact h
  | some i =>
    have hi := hi i rfl
    cases o with
    | next e =>
      intro σ' H' F' x1 x2 x3 x4
      obtain ⟨F1, a, b⟩ := re_slotN (i := i) x1 none
      exact h _ H' F1 a (x2.sublist b) (x3.sub fun z y => b.subset y) (x4.trans (Ag.set hi))
    | brk e =>
      intro σ' H' F' x1 x2 x3 x4
      obtain ⟨F1, a, b⟩ := re_slotN (i := i) x1 none
      exact h _ H' F1 a (x2.sublist b) (x3.sub fun z y => b.subset y) (x4.trans (Ag.set hi))
    | cont e =>
      intro σ' H' F' x1 x2 x3 x4
      obtain ⟨F1, a, b⟩ := re_slotN (i := i) x1 none
      exact h _ H' F1 a (x2.sublist b) (x3.sub fun z y => b.subset y) (x4.trans (Ag.set hi))
    | ret x e =>
      intro v σ' H' Fv F' x1 x2 x3 x4 x5
      obtain ⟨F1, a, b⟩ := re_slotN (i := i) x1 none
      have sub := List.Sublist.append (List.Sublist.refl Fv) b
      exact h v _ H' Fv F1 a x2 (x3.sublist sub) (x4.sub fun z y => sub.subset y) (x5.trans (Ag.set hi))
    | exc x e => exact h.elim
    | bad => exact h
theorem pick_ok {D : Ends} {σ0 : L2.St} {H0 : Hp} {F0 : List Addr} {x : PX} {e : PEnv} {l : List Cl} {p : List PCl} (hc : ClOk K mg S l p) :
    PostS K mg W S D σ0 H0 F0 (pick x e p) → ∀ cls d σ' H' F', RE K H' e σ' F' → F'.Nodup → Fm F0 H0 F' H' → Ag S σ0 σ' → RX K mg x cls d H' → wGen K W D l cls d σ' H' := by
  induction hc with
  | nil => exact fun h => h
  | @cons c tab i ts m l p ht hi hm r ih =>
    intro h cls d σ' H' F' x1 x2 x3 x4 x5
    simp only [pick] at h
    cases ht' : tab.lookup x.cls with
    | none => rw [ht'] at h; exact h.elim
    | some b =>
      refine ⟨b, ht _ _ _ ht' x5.1, fun hb a na => ?_, fun hb => ?_⟩
      · subst hb
        rw [ht'] at h
        simp only at h
        by_cases hz : slotIn i e = true
        · rw [if_pos hz] at h
          have h2 := post_dEnd hi h
          cases i with
          | none => exact hm x a cls d _ σ' H' e F' x1 x2 (fun j z => by cases z) x5 (h2.later x3 x4)
          | some i =>
            obtain ⟨F1, a1, b1⟩ := re_slotN (i := i) x1 (some (.ref a))
            have hl : i < σ'.length := by rw [x1.len]; simpa [slotIn] using hz
            exact hm x a cls d _ _ H' _ F1 a1 (x2.sublist b1) (fun j z => by cases z; exact List.getElem?_set_self hl) x5 (h2.later (x3.sub fun z y => b1.subset y) (x4.trans (Ag.set (hi i rfl))))
        · rw [if_neg hz] at h; exact h.elim
      · subst hb
        rw [ht'] at h
        exact ih h cls d σ' H' F' x1 x2 x3 x4 x5
theorem im_sTry {tb : WX → TS} {b : SM} {l : List Cl} {p : List PCl} (hb : ∀ W', ImS K mg W' S (tb W') b) (hc : ClOk K mg S l p) : ImS K mg W S (fun D σ H => tb (wGen K W D l) D σ H) (sTry b p) := by
  intro D σ H env F hr hn hp
  refine hb _ D σ H env F hr hn ?_
  unfold sTry at hp
  cases e : b env with
  | next e1 => rw [e] at hp; exact hp
  | ret x e1 => rw [e] at hp; exact hp
  | brk e1 => rw [e] at hp; exact hp
  | cont e1 => rw [e] at hp; exact hp
  | exc x e1 =>
    rw [e] at hp
    exact pick_ok hc hp
  | bad => rw [e] at hp; exact hp
/-- raise x(..) -/
def sRaise (x : Str) (ps : List Str) (a : AM) : SM := fun env => (a env).toS fun as e => match seeL e as with
  | some xs => if xs.length = ps.length ∧ immL xs = true then .exc ⟨x, (ps.zip xs).reverse⟩ e else .bad
  | none => .bad
theorem rvf_zip {H : Hp} : ∀ {xs : List PV} {vs : List V} (ps : List Str) (fx : List (Str × PV)) (fv : List (Str × V)), RB K H xs vs → immL xs = true → RVF K H fx fv [] → RVF K H ((ps.zip xs).reverse ++ fx) ((ps.zip vs).reverse ++ fv) []
  | [], vs, ps, fx, fv, h, _, g => by
    simp only [RB] at h
    subst h
    simpa using g
  | x :: xs, vs, [], fx, fv, h, _, g => by simpa using g
  | x :: xs, vs, p :: ps, fx, fv, h, hi, g => by
    simp only [RB] at h
    obtain ⟨v, vr, F, rfl, h1, h2⟩ := h
    simp only [immL, Bool.and_eq_true] at hi
    have := RV.imm hi.1 h1
    subst this
    rw [List.zip_cons_cons, List.zip_cons_cons, List.reverse_cons, List.reverse_cons, List.append_assoc, List.append_assoc]
    exact rvf_zip ps _ _ h2 hi.2 (by simp only [List.cons_append, List.nil_append, RVF]; exact ⟨v, fv, [], [], rfl, h1, g, rfl⟩)
theorem RB.length {H : Hp} : ∀ {xs : List PV} {vs : List V}, RB K H xs vs → vs.length = xs.length
  | [], vs, h => by simp only [RB] at h; rw [h]; rfl
  | x :: xs, vs, h => by
    simp only [RB] at h
    obtain ⟨v, vr, F, rfl, h1, h2⟩ := h
    simp [RB.length h2]
theorem im_sRaise {x : Str} {C : Addr} {ps : List Str} {ta : TA} {a : AM} (hm : mg x = some (.ref C)) (ha : ImA K mg W ta a) : ImS K mg W [] (fun _ σ H => tMkS C ps ta σ H fun cls d H' => W cls d σ H') (sRaise x ps a) := by
  intro D σ H env F hr hn hp
  refine ha σ H _ env F hr hn (hp.ofE.imp fun as e1 q1 vs H1 Fv F1 hr1 hx hn1 hf1 => ?_)
  cases ex : seeL e1 as with
  | none => rw [ex] at q1; exact q1.elim
  | some xs =>
    rw [ex] at q1
    simp only at q1
    by_cases hi : xs.length = ps.length ∧ immL xs = true
    · rw [if_pos hi] at q1
      have hb := seeL_ok hr1 hx ex
      have hl : vs.length = ps.length := by rw [RB.length hb]; exact hi.1
      refine ⟨hl, ?_⟩
      cases ps with
      | nil =>
        refine q1 (.ref C) none σ H1 F1 hr1 (nd_right hn1) (fm_left hf1) Ag.refl ⟨hm, .inl ?_⟩
        simp
      | cons p r =>
        intro d hd
        have s : Sm H1 (upd H1 d (.xd ((p :: r).zip vs).reverse)) := sm_upd hd
        refine q1 (.ref C) (some d) σ _ F1 (hr1.sm s) (nd_right hn1) ((fm_left hf1).trans (Fm.of_sm s fun _ z => .inl z)) Ag.refl ⟨hm, .inr ⟨d, _, rfl, upd_same, ?_⟩⟩
        have := (rvf_zip (K := K) (H := H1) (p :: r) [] [] hb hi.2 (by simp [RVF]))
        rw [List.append_nil, List.append_nil] at this
        exact this.keep fun b o e _ => s b o e
    · rw [if_neg hi] at q1
      exact q1.elim
end

/-! ### joint -/
structure JHd (X : Cx) (S : List Nat) (hds : List ExceptHandler) (l : List Cl) (p : List PCl) : Prop where
  hd : HdG X hds l
  im : ClOk X.K X.mg S l p
section
variable {X : Cx} {W : WX} {S S1 S2 : List Nat}
theorem jh_nil : JHd X S [] [] [] := ⟨.nil, .nil⟩
theorem jh_cons {x : Str} {c : Value} {tab : List (Str × Bool)} {ts : Addr → Value → Option Addr → TS} {m : SM} {b₀ : Stmt} {suite : List Stmt} {np pos' : Pos} {hds : List ExceptHandler} {l : List Cl} {p : List PCl} (hc : Names X x c) (ht : TabOk X.K X.mg c tab)
    (hsu : ∀ (a : Addr) (oe : Obj) (cls : Value) (d : Option Addr) (pn : List (Addr × Obj)), JSs (X.suite a ((a, oe) :: pn)) (fun _ _ _ _ => False) S1 (b₀ :: suite) (ts a cls d) m) (hS : ∀ j ∈ S1, j ∈ S) (r : JHd X S hds l p) :
    JHd X S (.ExceptHandler (some (.Name x np)) none (b₀ :: suite) pos' :: hds) ((c, none, ts) :: l) ((tab, none, fun _ => m) :: p) :=
  ⟨.cons hc (fun a oe cls d pn _ _ => (hsu a oe cls d pn).ps) r.hd, .cons ht (fun j z => by cases z) (fun x a cls d D σ H env F h1 h2 _ _ h5 => ((hsu a default cls d []).im).mono hS D σ H env F h1 h2 h5) r.im⟩
theorem jh_as {x n : Str} (i : Nat) {c : Value} {tab : List (Str × Bool)} {ts : Addr → Value → Option Addr → TS} {m : SM} {b₀ : Stmt} {suite : List Stmt} {np pos' : Pos} {hds : List ExceptHandler} {l : List Cl} {p : List PCl} (hc : Names X x c) (ht : TabOk X.K X.mg c tab)
    (hsu : ∀ (a : Addr) (oe : Obj) (cls : Value) (d : Option Addr) (pn : List (Addr × Obj)), JSs (X.suite a ((a, oe) :: pn)) (fun _ _ _ _ => False) S1 (b₀ :: suite) (ts a cls d) m) (hS : ∀ j ∈ S1, j ∈ S) (hiS : i ∈ S) (r : JHd X S hds l p)
    (hN : X.N.Nodup) (hi : X.N[i]? = some n := by rfl) (hln : X.env.kindOf n = some .local := by rfl) :
    JHd X S (.ExceptHandler (some (.Name x np)) (some n) (b₀ :: suite) pos' :: hds) ((c, some i, ts) :: l) ((tab, some i, fun _ => m) :: p) :=
  ⟨.as hc hN hi hln (fun a oe cls d pn _ _ => (hsu a oe cls d pn).ps) r.hd, .cons ht (fun j z => by cases z; exact hiS) (fun x a cls d D σ H env F h1 h2 _ _ h5 => ((hsu a default cls d []).im).mono hS D σ H env F h1 h2 h5) r.im⟩
theorem takes_any {W' : WX} (hs : X.stack = X.env :: X.outer) (hf : X.env.frame = some X.env.locals) (pn : List (Addr × Obj)) :
    Takes (X.tr pn (fun e s₁ => wpAny (model X.prog X.w) X.A (noteFrame e X.env) (fun _ s₂ => wpAny (model X.prog X.w) X.A (setFlight e none) (fun _ _ => True) (fun _ _ => True) s₂) (fun _ _ => True) s₁)) W' := by
  intro u s' xx
  obtain ⟨a, B, sI, pins', σ', H', cls, d, rfl, J', nb, up, sky, na, os, ag, w⟩ := xx
  have ok : X.Ok := J'.ok.ofTry
  have hfr : X.A.frames = some (X.env :: X.outer) := by rw [ok.frames, hs]
  have sky' : Sky B (X.env :: X.outer) a (Zc cls d) X.env.locals s'.heap := by rw [← hs]; exact sky
  show wpAny (model X.prog X.w) X.A (noteFrame (.ref a) X.env) (fun _ s₂ => wpAny (model X.prog X.w) X.A (setFlight (.ref a) none) (fun _ _ => True) (fun _ _ => True) s₂) (fun _ _ => True) s'
  refine Sky.land Zc.steady hfr hf sky' fun h3 fl3 up3 => ?_
  exact True.intro
theorem js_try {body : List Stmt} {h₀ : ExceptHandler} {hds : List ExceptHandler} {l : List Cl} {p : List PCl} {pos : Pos} {tb : WX → TS} {bm : SM} (hs : X.stack = X.env :: X.outer) (hf : X.env.frame = some X.env.locals) (tk : Takes X W)
    (hb : ∀ (W' : WX) (pn : List (Addr × Obj)) (xe : Value → Shared → Prop), Takes (X.tr pn xe) W' → PassesOwn (model X.prog X.w) X.A X.env xe → JSs (X.tr pn xe) W' S1 body (tb W') bm) (hS : ∀ j ∈ S1, j ∈ S) (hh : JHd X S (h₀ :: hds) l p) :
    JS X W S (.Try body (h₀ :: hds) [] [] pos) (fun D σ H => tb (wGen X.K W D l) D σ H) (sTry bm p) :=
  ⟨ps_try_gen hs hf tk (fun W' pn xe t po => (hb W' pn xe t po).ps) hh.hd, im_sTry (fun W' => ((hb W' [] _ (takes_any hs hf []) PassesOwn.looking).im).mono hS) hh.im⟩
theorem js_raise {x : Str} {C fI : Addr} {ps : List Str} {k : Nat} {p pos pos' : Pos} {e : Expr} {es : List Expr} {ta : TA} {a : AM} (hc : X.calm = true) (tk : Takes X W) (T : SxTxt X.prog X.K X.mg x C fI ps) (hp : psOk ps = true) (hr : Room (k + 1) X.A) (hg : Gl X x) (ha : JA X W (e :: es) ta a)
    (hdb : (x == ("__debug__" : Str)) = false := by decide) (he : starEach (e :: es) X.env = (false, eval e X.env) :: starEach es X.env := by rfl) (hpl : (backTo pos (starEach es X.env)).any (·.1) = false := by rfl) :
    JS X W [] (.Raise (some (.Call (.Name x p) (e :: es) [] pos)) none pos') (fun _ σ H => tMkS C ps ta σ H fun cls d H' => W cls d σ H') (sRaise x ps a) := by
  refine ⟨ps_raise hc tk (t := tMkS C ps ta) ?_, im_sRaise T.gC ha.im⟩
  intro pins s σ H Q I h
  refine wpAny_Call_Name_kw (ld_glob I hg T.gC ?_ hdb)
  refine PySem.W.callWith_K (h₀ := X.base) I.ok.mod.kin T.kC (thn (ha.pa.run pos pins s σ H _ I h) fun us s1 ⟨vs, H1, I1, r1, hz, q1⟩ => ⟨I1.kIn, ?_⟩) he hpl
  exact mk_call T hp hr T.gsup I1 r1 hz q1
theorem js_raise0 {x : Str} {C fI : Addr} {k : Nat} {p pos pos' : Pos} (hc : X.calm = true) (tk : Takes X W) (T : SxTxt X.prog X.K X.mg x C fI []) (hr : Room (k + 1) X.A) (hg : Gl X x)
    (hdb : (x == ("__debug__" : Str)) = false := by decide) :
    JS X W [] (.Raise (some (.Call (.Name x p) [] [] pos)) none pos') (fun _ σ H => tMkS C [] tNil σ H fun cls d H' => W cls d σ H') (sRaise x [] aNil) := by
  refine ⟨ps_raise hc tk (t := tMkS C [] tNil) ?_, im_sRaise T.gC im_aNil⟩
  intro pins s σ H Q I h
  refine wpAny_Call_Name_kw (ld_glob I hg T.gC ?_ hdb)
  refine PySem.W.callWith_K0 I.kIn T.kC ?_
  exact mk_call T rfl hr T.gsup I .nil h.1 h.2
end
end PVL

/-! P7b: more joint rules; a def of the text as it is called. -/
namespace PVL
open PySem PySem.Spec L2
section
variable {X : Cx} {W : WX} {S S1 S2 : List Nat} {e a b c : Expr} {es : List Expr} {te ta tb : TE} {tA : TA} {m ma mb : EM} {ga gb : GM} {ra rb : RM} {am : AM} {pos p2 : Pos} {tg iter : Expr} {g : TG} {mt : TM} {tI : TI} {it : PEnv → EO (List PV)} {body : List Stmt} {t : TS} {sa : SM}
/-- a built-in type as a value -/
theorem j_ty {x : Str} {n : String} (hv : bootBuiltins x = some (.type n)) (hm : X.mg x = none) (hg : Gl X x := by rfl) (hn : x ≠ "__name__" := by decide) (hd : (x == ("__debug__" : Str)) = false := by decide) : JE X W (.Name x pos) (tC (.ty n)) (eC (.ty n)) := ⟨pe_bltn hg hm hv rfl hn hd, im_eTy⟩
structure JO (X : Cx) (W : WX) (e : Option Expr) (t : TO) (m : PEnv → EO (Option Int)) : Prop where
  po : PO X e t
  im : ImO X.K X.mg W t m
theorem jo_none : JO X W none tNoPart oNone := ⟨po_none, im_oNone⟩
theorem jo_some (h : JE X W e te m) : JO X W (some e) (tPart te) (oSome m) := ⟨po_some h.pe, im_oSome h.im⟩
theorem j_sl {lo hi : Option Expr} {tl th : TO} {ml mh : PEnv → EO (Option Int)} (h : JG X W e te ga) (hl : JO X W lo tl ml) (hh : JO X W hi th mh) : JE X W (.Subscript e (.Slice lo hi none p2) pos) (tSl (rSlP X.K) te tl th) (eSl pSl ga ml mh) := ⟨pe_slice sl_P h.pe hl.po hh.po, im_eSl sim_sl h.im hl.im hh.im⟩
theorem js_forVS {i : Nat} (hp : PassesOwn (model X.prog X.w) X.A X.env X.xe) (hc : X.calm = true) (hv : JR X iter (tVar i) (rVar i)) (hg : JP X S1 tg g mt) (hb : JSs X W S2 body t sa) (hi : i ∉ S1 ++ S2 := by decide) (hs : ∀ x, foldedSetIterable iter X.env x = pure x := by intro _; rfl) :
    JS X W (S1 ++ S2) (.For tg iter body [] pos) (tFor (fun σ H R => iList X.K (tVar i) σ H R ∨ iTup X.K (tVar i) σ H R) g t) (sForVS i mt sa) := ⟨ps_for hp hc (pi_or (pi_list hv.pe) (pi_tup hv.pe)) hg.pg hb.ps hs, im_sForVS hg.im hb.im hi⟩
theorem j_lcVS (i : Nat) {elt : Expr} {scope : Scope} {own : List (Str × Nat)} {tt : TT} {te : TE} {mc : BM} {me : EM} {ifs : List Expr} (hc : X.calm = true) (hN : X.N.Nodup) (hv : JR X iter (tVar i) (rVar i)) (ok : blkC X.N X.env.scope scope own = true)
    (hg : ∀ (s : Shared) (H : Hp) (C : Addr) (cl : List (Str × Addr)) (fp : List Addr), JP (X.blk s H scope (compEnvC scope cl C X.env) fp) S tg g mt) (hS : ∀ j ∈ S, j ∈ own.map (·.2))
    (ht : ∀ (s : Shared) (H : Hp) (C : Addr) (cl : List (Str × Addr)) (fp : List Addr), PTs (X.blk s H scope (compEnvC scope cl C X.env) fp) ifs tt ∧ ImT X.K X.mg W0 tt mc)
    (he : ∀ (s : Shared) (H : Hp) (C : Addr) (cl : List (Str × Addr)) (fp : List Addr), JE (X.blk s H scope (compEnvC scope cl C X.env) fp) W0 elt te me) (hs : ∀ x, foldedSetIterable iter X.env x = pure x := by intro _; rfl) :
    JE X W (.ListComp elt [⟨tg, iter, ifs, 0⟩] scope pos) (tLc (fun σ H R => iList X.K (tVar i) σ H R ∨ iTup X.K (tVar i) σ H R) g tt te (own.map (·.2))) (eLCVS i (own.map (·.2)) mt mc me) :=
  ⟨pe_lc hc hN (pi_or (pi_list hv.pe) (pi_tup hv.pe)) (blkOk_by ok) (fun s H C cl fp => (hg s H C cl fp).pg) (fun s H C cl fp => (ht s H C cl fp).1) (fun s H C cl fp => (he s H C cl fp).pe) hs,
    im_eLCVS (hg X.s_0 X.H_0 0 [] []).im hS (ht X.s_0 X.H_0 0 [] []).2 (he X.s_0 X.H_0 0 [] []).im⟩
theorem js_setLcVS (i k : Nat) {y : Str} {py : Pos} {elt : Expr} {scope : Scope} {own : List (Str × Nat)} {pos spos : Pos} {tt : TT} {te : TE} {mc : BM} {me : EM} {ifs : List Expr} (hc : X.calm = true) (hN : X.N.Nodup) (hv : JR X iter (tVar k) (rVar k)) (ok : blkC X.N X.env.scope scope own = true)
    (hg : ∀ (s : Shared) (H : Hp) (C : Addr) (cl : List (Str × Addr)) (fp : List Addr), JP (X.blk s H scope (compEnvC scope cl C X.env) fp) S tg g mt) (hS : ∀ j ∈ S, j ∈ own.map (·.2))
    (ht : ∀ (s : Shared) (H : Hp) (C : Addr) (cl : List (Str × Addr)) (fp : List Addr), PTs (X.blk s H scope (compEnvC scope cl C X.env) fp) ifs tt ∧ ImT X.K X.mg W0 tt mc)
    (he : ∀ (s : Shared) (H : Hp) (C : Addr) (cl : List (Str × Addr)) (fp : List Addr), JE (X.blk s H scope (compEnvC scope cl C X.env) fp) W0 elt te me) (hy : X.N[i]? = some y := by rfl) (hyl : X.env.scope.names.lookup y = some .local := by rfl)
    (hsw : swapsWith (.ListComp elt [⟨tg, iter, ifs, 0⟩] scope pos) (some (.Name y py)) spos.line X.env = pure true := by exact sw_true rfl rfl rfl (by decide +kernel)) (hs : ∀ x, foldedSetIterable iter X.env x = pure x := by intro _; rfl) :
    JS X W [i] (.Assign [.Name y py] (.ListComp elt [⟨tg, iter, ifs, 0⟩] scope pos) spos) (tAsg (tLc (fun σ H R => iList X.K (tVar k) σ H R ∨ iTup X.K (tVar k) σ H R) g tt te (own.map (·.2))) (gName i)) (sAsg (eLCVS k (own.map (·.2)) mt mc me) (tgN i)) :=
  ⟨ps_setLc hc hN hy hyl hsw (pi_or (pi_list hv.pe) (pi_tup hv.pe)) (blkOk_by ok) (fun s H C cl fp => (hg s H C cl fp).pg) (fun s H C cl fp => (ht s H C cl fp).1) (fun s H C cl fp => (he s H C cl fp).pe) hs,
    im_sAsg (im_eLCVS (hg X.s_0 X.H_0 0 [] []).im hS (ht X.s_0 X.H_0 0 [] []).2 (he X.s_0 X.H_0 0 [] []).im) (im_tgN i)⟩
end
/-- a def as it is called: by its name, within so much room, as the pure function -/
def Cal (P : Program) (w : World) (K : PySem.W.Frag) (mg : Str → Option Value) (base : Heap) (x : Str) (k n : Nat) (fm : FM) : Prop :=
  ∃ (f : Addr) (fd : FuncData) (ps : List Str), FnOk P w K mg base (L2.CX P w) k f fd ps (spF K mg n fm) ∧ mg x = some (.ref f) ∧ PySem.W.keepIn K (.ref f) = true ∧ Binds K fd ps []
section
variable {X : Cx} {W : WX} {e : Expr} {es : List Expr} {tA : TA} {am : AM} {pos : Pos}
theorem j_fn {x : Str} {k n : Nat} {fm : FM} {p : Pos} (c : Cal X.prog X.w X.K X.mg X.base x k n fm) (hr : Room k X.A) (tk : Takes X W) (ha : JA X W (e :: es) tA am) (hl : (e :: es).length = n := by rfl) (hg : Gl X x := by rfl) (hdb : (x == ("__debug__" : Str)) = false := by decide)
    (he : starEach (e :: es) X.env = (false, eval e X.env) :: starEach es X.env := by rfl) (hpl : (backTo pos (starEach es X.env)).any (·.1) = false := by rfl) :
    JE X W (.Call (.Name x p) (e :: es) [] pos) (tCallS (spF X.K X.mg n fm) (WE W) tA) (eCall fm am) := by
  obtain ⟨f, fd, ps, F, hm, hk, hb⟩ := c
  exact j_call F hr hm hk hb tk ha hl hg hdb he hpl
end
theorem hu64 {k : Nat} {A : Around} (h : Room k A) : A.units + 64 < cLine := h.units
theorem hu65 {k : Nat} {A : Around} (h : Room k A) : A.units + 65 < cLine := by have := h.un; omega
/-- the def that has no fuel -/
def fBad : FM := fun _ => .bad
section
variable {P : Program} {w : World} {K : PySem.W.Frag} {mg : Str → Option Value} {base : Heap}
theorem cal_of {x qual : Str} {st : Stmt} {f : Addr} {fd : FuncData} {N ps : List Str} {k n m : Nat} {asg S : List Nat} {body : SM} (F : L2.Fun K x qual st f fd) (hm : mg x = some (.ref f)) (hb : Binds K fd ps []) (sc : FnScope N ps (defScope st)) (hn : ps.length = n) (hN : N.length = m)
    (hJ : ∀ (cdv : Value) (A : Around) (outer : List Env) (s : Shared) (H : Hp) (E : XK), Room k (A.deeper (PyProof.Rows.envOfC qual (defScope st) s.heap.objs.size f cdv)) →
      ∃ t, JSs (cxOf (L2.CX P w) P w K mg base N qual (defScope st) f cdv A outer s H E) (fun cls d _ H => E cls d H) S (defBody st) t body) (hS : ∀ j ∈ S, j < n → j ∈ asg) :
    Cal P w K mg base x (k + 1) n (fnM n m asg body) :=
  ⟨f, fd, ps, F.okX sc (spF_len hn) (fun cdv A outer s H vs Q E hr h => by
    obtain ⟨t, J⟩ := hJ cdv A outer s H E hr
    exact ⟨t, J.ps, im_fn (K := K) (mg := mg) hN hS J.im h⟩), hm, F.kp, hb⟩
theorem cal_mono {x : Str} {j k n : Nat} {fm : FM} (c : Cal P w K mg base x j n fm) (h : j ≤ k) : Cal P w K mg base x k n fm := by
  obtain ⟨f, fd, ps, F, r⟩ := c
  exact ⟨f, fd, ps, F.mono h, r⟩
theorem cal_bad {x qual : Str} {st : Stmt} {f : Addr} {fd : FuncData} {N ps : List Str} {k n : Nat} (F : L2.Fun K x qual st f fd) (hm : mg x = some (.ref f)) (hb : Binds K fd ps []) (sc : FnScope N ps (defScope st)) (hn : ps.length = n) :
    Cal P w K mg base x (k + 1) n fBad :=
  ⟨f, fd, ps, F.okX sc (spF_len hn) (fun cdv A outer s H vs Q E hr h => by
    obtain ⟨_, _, _, _, _, z⟩ := h
    exact z.elim), hm, F.kp, hb⟩
end
end PVL

/-! P7c: the end: tables of caught classes, the law's def, the whole. -/
namespace PVL
open PySem PySem.Spec L2
section
variable {K : PySem.W.Frag} {mg : Str → Option Value}
theorem tab_nil {c : Value} : TabOk K mg c [] := fun n b cls h => by cases h
theorem tab_cons {c : Value} {n : Str} {b : Bool} {C : Addr} {r : List (Str × Bool)} (hm : mg n = some (.ref C)) (he : PySem.W.exmOne K (.ref C) c = some b) (h : TabOk K mg c r) : TabOk K mg c ((n, b) :: r) := fun m d cls h1 h2 => by
  rw [SXE.lput] at h1
  by_cases e : m = n
  · rw [if_pos e] at h1
    cases h1
    rw [e, hm] at h2
    cases h2
    exact he
  · rw [if_neg e] at h1
    exact h m d cls h1 h2
theorem exm_of {S : Addr} {cls : Value} {b : Bool} (h1 : PySem.W.subIn K (.ref S) (.type "BaseException") = some true) (h2 : PySem.W.isClsIn K S = true) (h3 : PySem.W.typeIn K (.ref S) = some (.type "type")) (h4 : PySem.W.subIn K cls (.ref S) = some b) :
    PySem.W.exmOne K cls (.ref S) = some b := by
  have e1 : (PySem.W.subIn K (.ref S) (.type "BaseException") == some true) = true := by rw [h1] <;> rfl
  have e2 : ((PySem.W.clsIn K S).isSome && PySem.W.typeIn K (.ref S) == some (.type "type")) = true := by
    have h2' : (PySem.W.clsIn K S).isSome = true := h2
    rw [h2', h3] <;> rfl
  show (if (PySem.W.subIn K (.ref S) (.type "BaseException") == some true) = true then (if ((PySem.W.clsIn K S).isSome && PySem.W.typeIn K (.ref S) == some (.type "type")) = true then PySem.W.subIn K cls (.ref S) else none) else none) = some b
  rw [if_pos e1, if_pos e2]
  exact h4
variable {P : Program} {w : World} {base : Heap}
theorem fnok_of {x qual : Str} {st : Stmt} {f : Addr} {fd : FuncData} {N ps : List Str} {k n m : Nat} {asg S : List Nat} {body : SM} (F : L2.Fun K x qual st f fd) (sc : FnScope N ps (defScope st)) (hn : ps.length = n) (hN : N.length = m)
    (hJ : ∀ (cdv : Value) (A : Around) (outer : List Env) (s : Shared) (H : Hp) (E : XK), Room k (A.deeper (PyProof.Rows.envOfC qual (defScope st) s.heap.objs.size f cdv)) →
      ∃ t, JSs (cxOf (L2.CX P w) P w K mg base N qual (defScope st) f cdv A outer s H E) (fun cls d _ H => E cls d H) S (defBody st) t body) (hS : ∀ j ∈ S, j < n → j ∈ asg) :
    FnOk P w K mg base (L2.CX P w) (k + 1) f fd ps (spF K mg n (fnM n m asg body)) :=
  F.okX sc (spF_len hn) (fun cdv A outer s H vs Q E hr h => by
    obtain ⟨t, J⟩ := hJ cdv A outer s H E hr
    exact ⟨t, J.ps, im_fn (K := K) (mg := mg) hN hS J.im h⟩)
end
/-- the law's promise -/
def spLaw (K : PySem.W.Frag) : Sp := fun vs H Q _ => ∃ (a : Addr) (ns : List Int), vs = [.ref a] ∧ ns.length ≤ 63 ∧ SqF K H a (ns.map V.int) ∧ ∀ H', Q (.bl true) H'
theorem rvl_ints {K : PySem.W.Frag} {H : Hp} : ∀ ns : List Int, RVL K H (ns.map PV.int) (ns.map V.int) []
  | [] => by simp [RVL]
  | n :: r => by
    simp only [List.map_cons, RVL]
    exact ⟨_, _, [], [], rfl, by simp [RV], rvl_ints r, rfl⟩
theorem sp_law {K : PySem.W.Frag} {mg : Str → Option Value} {m : FM} (hm : ∀ ns : List Int, ns.length ≤ 63 → ∃ e, m [.frz (ns.map PV.int)] = .ok (.bl true) e) : ∀ vs H Q E, spLaw K vs H Q E → spF K mg 1 m vs H Q E := by
  rintro vs H Q E ⟨a, ns, rfl, hl, hS, hq⟩
  obtain ⟨e, he⟩ := hm ns hl
  refine ⟨[.frz (ns.map PV.int)], [], rfl, ?_, List.nodup_nil, ?_⟩
  · simp only [RVL]
    exact ⟨_, _, [], [], rfl, by simp only [RV]; exact ⟨a, _, rfl, hS, by simpa using rvl_ints ns⟩, ⟨rfl, rfl⟩, rfl⟩
  · rw [he]
    intro v H' Fv Fp h1 _ _ _
    simp only [RV] at h1
    rw [h1.1]
    exact hq H'
theorem cx_none {P : Program} {w : World} {H : Hp} {s : Shared} {e : Value} {s' : Shared} (h : L2.CX P w [] H s (fun _ _ _ => False) e s') : False := by
  obtain ⟨_, _, _, _, _, _, _, _, _, _, _, _, z⟩ := h
  exact z
theorem law_walk {l : PySem.W.OpenLaw} {k : Nat} {m : FM} {q : Program} {loose : List Str} {XP : (Str → Option Value) → Heap → Prop} {YP : World → Heap → Prop} {d : DefRec} {K : Params → PySem.W.Frag} (hn : l.most = some 63) (hdf : d.params.defaults = []) (hr : Room k callerA)
    (hY : ∀ (w : World) (h : Heap), YP w h → (K w.params).In h)
    (F : ∀ (w : World) (mg : Str → Option Value) (fa : Addr) (h : Heap), (K w.params).In h → h.Ns mainGlobals mg → mg d.name = some (.ref fa) →
      ∃ fd : FuncData, (∀ (s : Shared) (u : Value), BindsTo s fd ⟨[u], []⟩ [("script", u)]) ∧
        ∀ base : Heap, (K w.params).In base → base.Ns mainGlobals mg → FnOk l.prog w (K w.params) mg base (L2.CX l.prog w) k fa fd ["script"] (spF (K w.params) mg 1 m))
    (hm : ∀ ns : List Int, ns.length ≤ 63 → ∃ e, m [.frz (ns.map PV.int)] = .ok (.bl true) e) :
    PySem.W.WalkO q loose XP YP l.row.toRowW d [] (fun f vs => PySem.call f vs) := by
  refine L2.walk_of (n := 63) (k := k) (x := "script") (CX := fun w => L2.CX l.prog w) (sp := fun w => spLaw (K w.params)) hn (by decide) hdf hr hY (fun w mg fa h KX G hmg => ?_) (fun w H a ns hl hO hS => ?_) fun _ _ _ _ _ z => cx_none z
  · obtain ⟨fd, hb, hF⟩ := F w mg fa h KX G hmg
    exact ⟨fd, hb, fun base b1 b2 => (hF base b1 b2).imp (sp_law hm)⟩
  · refine ⟨a, ns, rfl, hl, ?_, fun _ => rfl⟩
    rcases hS with h | h
    · rcases h with h | ⟨o, h⟩
      · rcases hO a with z | ⟨o, xs, z⟩
        · rw [z] at h; cases h
        · rw [z] at h; cases h
      · exact .inl ⟨o, h⟩
    · exact .inr h
end PVL

/-! P7d: the joint rules whose reading names the written part, the part given. -/
namespace PVL
open PySem PySem.Spec L2
section
variable {X : Cx} {W : WX} {S S1 S2 : List Nat} {e a b c : Expr} {es : List Expr} {te ta tb : TE} {tA : TA} {m ma mb : EM} {ga gb : GM} {ra rb : RM} {am : AM} {pos p2 : Pos} {tg iter : Expr} {g : TG} {mt : TM} {tI : TI} {it : PEnv → EO (List PV)} {body : List Stmt} {t : TS} {sa : SM}
variable (K : PySem.W.Frag)
theorem k_fn (mg : Str → Option Value) {x : Str} {k n : Nat} {fm : FM} {p : Pos} (c : Cal X.prog X.w K mg X.base x k n fm) (hr : Room k X.A) (tk : Takes X W) (ha : JA X W (e :: es) tA am) (hK : X.K = K := by rfl) (hmg : X.mg = mg := by rfl) (hl : (e :: es).length = n := by rfl) (hg : Gl X x := by rfl) (hdb : (x == ("__debug__" : Str)) = false := by decide)
    (he : starEach (e :: es) X.env = (false, eval e X.env) :: starEach es X.env := by rfl) (hpl : (backTo pos (starEach es X.env)).any (·.1) = false := by rfl) :
    JE X W (.Call (.Name x p) (e :: es) [] pos) (tCallS (spF K mg n fm) (WE W) tA) (eCall fm am) := by
  subst hK
  subst hmg
  exact j_fn c hr tk ha hl hg hdb he hpl
theorem k_sl {lo hi : Option Expr} {tl th : TO} {ml mh : PEnv → EO (Option Int)} (h : JG X W e te ga) (hl : JO X W lo tl ml) (hh : JO X W hi th mh) (hK : X.K = K := by rfl) : JE X W (.Subscript e (.Slice lo hi none p2) pos) (tSl (rSlP K) te tl th) (eSl pSl ga ml mh) := by
  subst hK
  exact j_sl h hl hh
theorem k_s (h : JE X W e te m) (hK : X.K = K := by rfl) : JI X W tg e (fun σ H R => iList K te σ H R ∨ iTup K te σ H R) (itS m) := by
  subst hK
  exact ji_s h
theorem k_t {k n : Nat} {tgs : TGs} {mts : List PV → PEnv → Option PEnv} (hc : X.calm = true) (r : JPs X S es tgs mts) (hK : X.K = K := by rfl) (hn : (assignEach es X.env).length = n := by rfl) (hst : (assignEach es X.env).findIdx? (·.1) = none := by rfl) : JP X S (.Tuple es k pos) (gTup K n tgs) (tgT n mts) := by
  subst hK
  exact jp_t hc r hn hst
theorem k_meth {T id : String} {name x : Str} {i : Nat} {r : V → List V → Hp → VK → Prop} {f : PV → List PV → Option (PV × PV)} {apos p : Pos} (pa : PlainAttrs T) (slot : Slot T name id) (hty : typeOf (.builtin id) = pure (.type "method_descriptor")) (hs : SimM K r f) (hm : MtR X id r) (ho : JR X (.Name x p) (tVar i) (rVar i)) (ha : JA X W (e :: es) tA am)
    (hK : X.K = K := by rfl) (hbase : attributeBase (.Name x p) name X.env (eval (.Name x p) X.env) = eval (.Name x p) X.env := by rfl)
    (hfew : ((backTo pos (starEach (e :: es) X.env)).all (fun x => !x.1) && (backToKw pos (keywordEach [] X.env)).all (fun x => x.1.isSome)
      && decide ((e :: es).length + ([] : List Keyword).length + (if ([] : List Keyword).isEmpty then 0 else 1) < 30)) = true := by rfl)
    (hline : (apos.endLine == pos.line) = true := by rfl) (hs' : starEach (e :: es) X.env = (false, eval e X.env) :: starEach es X.env := by rfl) (hplain : (backTo pos (starEach es X.env)).any (·.1) = false := by rfl) :
    JE X W (.Call (.Attribute (.Name x p) name apos) (e :: es) [] pos) (tBM K T r (tVar i) tA) (eMeth T i f am) := by
  subst hK
  exact j_meth pa slot hty hs hm ho ha hbase hfew hline hs' hplain
theorem k_methB {T id : String} {name x : Str} {i : Nat} {r : V → List V → Hp → VK → Prop} {f : PV → List PV → Option (PV × PV)} {apos p : Pos} (pa : PlainAttrs T) (slot : Slot T name id) (hty : typeOf (.builtin id) = pure (.type "method_descriptor")) (hs : SimMB K r f) (hm : MtR X id r) (ho : JR X (.Name x p) (tVar i) (rVar i)) (ha : JA X W (e :: es) tA am)
    (hK : X.K = K := by rfl) (hbase : attributeBase (.Name x p) name X.env (eval (.Name x p) X.env) = eval (.Name x p) X.env := by rfl)
    (hfew : ((backTo pos (starEach (e :: es) X.env)).all (fun x => !x.1) && (backToKw pos (keywordEach [] X.env)).all (fun x => x.1.isSome)
      && decide ((e :: es).length + ([] : List Keyword).length + (if ([] : List Keyword).isEmpty then 0 else 1) < 30)) = true := by rfl)
    (hline : (apos.endLine == pos.line) = true := by rfl) (hs' : starEach (e :: es) X.env = (false, eval e X.env) :: starEach es X.env := by rfl) (hplain : (backTo pos (starEach es X.env)).any (·.1) = false := by rfl) :
    JE X W (.Call (.Attribute (.Name x p) name apos) (e :: es) [] pos) (tBM K T r (tVar i) tA) (eMethB T i f am) := by
  subst hK
  exact j_methB pa slot hty hs hm ho ha hbase hfew hline hs' hplain
theorem k_forVS {i : Nat} (hp : PassesOwn (model X.prog X.w) X.A X.env X.xe) (hc : X.calm = true) (hv : JR X iter (tVar i) (rVar i)) (hg : JP X S1 tg g mt) (hb : JSs X W S2 body t sa) (hK : X.K = K := by rfl) (hi : i ∉ S1 ++ S2 := by decide) (hs : ∀ x, foldedSetIterable iter X.env x = pure x := by intro _; rfl) :
    JS X W (S1 ++ S2) (.For tg iter body [] pos) (tFor (fun σ H R => iList K (tVar i) σ H R ∨ iTup K (tVar i) σ H R) g t) (sForVS i mt sa) := by
  subst hK
  exact js_forVS hp hc hv hg hb hi hs
theorem k_lcVS (mg : Str → Option Value) (i : Nat) {elt : Expr} {scope : Scope} {own : List (Str × Nat)} {tt : TT} {te : TE} {mc : BM} {me : EM} {ifs : List Expr} (hc : X.calm = true) (hN : X.N.Nodup) (hv : JR X iter (tVar i) (rVar i)) (ok : blkC X.N X.env.scope scope own = true)
    (hg : ∀ (s : Shared) (H : Hp) (C : Addr) (cl : List (Str × Addr)) (fp : List Addr), JP (X.blk s H scope (compEnvC scope cl C X.env) fp) S tg g mt) (hS : ∀ j ∈ S, j ∈ own.map (·.2))
    (ht : ∀ (s : Shared) (H : Hp) (C : Addr) (cl : List (Str × Addr)) (fp : List Addr), PTs (X.blk s H scope (compEnvC scope cl C X.env) fp) ifs tt ∧ ImT K mg W0 tt mc)
    (he : ∀ (s : Shared) (H : Hp) (C : Addr) (cl : List (Str × Addr)) (fp : List Addr), JE (X.blk s H scope (compEnvC scope cl C X.env) fp) W0 elt te me) (hK : X.K = K := by rfl) (hmg : X.mg = mg := by rfl) (hs : ∀ x, foldedSetIterable iter X.env x = pure x := by intro _; rfl) :
    JE X W (.ListComp elt [⟨tg, iter, ifs, 0⟩] scope pos) (tLc (fun σ H R => iList K (tVar i) σ H R ∨ iTup K (tVar i) σ H R) g tt te (own.map (·.2))) (eLCVS i (own.map (·.2)) mt mc me) := by
  subst hK
  subst hmg
  exact j_lcVS i hc hN hv ok hg hS ht he hs
theorem k_setLcVS (mg : Str → Option Value) (i k : Nat) {y : Str} {py : Pos} {elt : Expr} {scope : Scope} {own : List (Str × Nat)} {pos spos : Pos} {tt : TT} {te : TE} {mc : BM} {me : EM} {ifs : List Expr} (hc : X.calm = true) (hN : X.N.Nodup) (hv : JR X iter (tVar k) (rVar k)) (ok : blkC X.N X.env.scope scope own = true)
    (hg : ∀ (s : Shared) (H : Hp) (C : Addr) (cl : List (Str × Addr)) (fp : List Addr), JP (X.blk s H scope (compEnvC scope cl C X.env) fp) S tg g mt) (hS : ∀ j ∈ S, j ∈ own.map (·.2))
    (ht : ∀ (s : Shared) (H : Hp) (C : Addr) (cl : List (Str × Addr)) (fp : List Addr), PTs (X.blk s H scope (compEnvC scope cl C X.env) fp) ifs tt ∧ ImT K mg W0 tt mc)
    (he : ∀ (s : Shared) (H : Hp) (C : Addr) (cl : List (Str × Addr)) (fp : List Addr), JE (X.blk s H scope (compEnvC scope cl C X.env) fp) W0 elt te me) (hK : X.K = K := by rfl) (hmg : X.mg = mg := by rfl) (hy : X.N[i]? = some y := by rfl) (hyl : X.env.scope.names.lookup y = some .local := by rfl)
    (hsw : swapsWith (.ListComp elt [⟨tg, iter, ifs, 0⟩] scope pos) (some (.Name y py)) spos.line X.env = pure true := by exact sw_true rfl rfl rfl (by decide +kernel)) (hs : ∀ x, foldedSetIterable iter X.env x = pure x := by intro _; rfl) :
    JS X W [i] (.Assign [.Name y py] (.ListComp elt [⟨tg, iter, ifs, 0⟩] scope pos) spos) (tAsg (tLc (fun σ H R => iList K (tVar k) σ H R ∨ iTup K (tVar k) σ H R) g tt te (own.map (·.2))) (gName i)) (sAsg (eLCVS k (own.map (·.2)) mt mc me) (tgN i)) := by
  subst hK
  subst hmg
  exact js_setLcVS i k hc hN hv ok hg hS ht he hy hyl hsw hs
theorem k_try (mg : Str → Option Value) {body : List Stmt} {h₀ : ExceptHandler} {hds : List ExceptHandler} {l : List Cl} {p : List PCl} {pos : Pos} {tb : WX → TS} {bm : SM} (hs : X.stack = X.env :: X.outer) (hf : X.env.frame = some X.env.locals) (tk : Takes X W)
    (hb : ∀ (W' : WX) (pn : List (Addr × Obj)) (xe : Value → Shared → Prop), Takes (X.tr pn xe) W' → PassesOwn (model X.prog X.w) X.A X.env xe → JSs (X.tr pn xe) W' S1 body (tb W') bm) (hS : ∀ j ∈ S1, j ∈ S) (hh : JHd X S (h₀ :: hds) l p) (hK : X.K = K := by rfl) :
    JS X W S (.Try body (h₀ :: hds) [] [] pos) (fun D σ H => tb (wGen K W D l) D σ H) (sTry bm p) := by
  subst hK
  exact js_try hs hf tk hb hS hh
end
end PVL

/-! P7e: operations and built-in calls upon what is only read. -/
namespace PVL
open PySem PySem.Spec L2
def raNil : PEnv → Option (List PV) := fun _ => some []
def raCons (r : RM) (a : PEnv → Option (List PV)) : PEnv → Option (List PV) := fun env => (r env).bind fun x => (a env).bind fun xs => some (x :: xs)
def rCl (f : List PV → Option PV) (a : PEnv → Option (List PV)) : RM := fun env => (a env).bind f
/-- an operation upon read operands: what comes is new -/
def eN (r : RM) : EM := fun env => ofO (r env) env
def ImRA (K : PySem.W.Frag) (t : TA) (m : PEnv → Option (List PV)) : Prop := ∀ σ H Q env F, RE K H env σ F →
  (match m env with | some ps => ∀ vs H', Sm H H' → RB K H' ps vs → Q vs H' | none => False) → t σ H Q
theorem RB.sm {K : PySem.W.Frag} {H H' : Hp} (s : Sm H H') : ∀ {ps : List PV} {vs : List V}, RB K H ps vs → RB K H' ps vs
  | [], _, h => h
  | p :: ps, _, h => by
    simp only [RB] at h ⊢
    obtain ⟨v, vr, F, e, h1, h2⟩ := h
    exact ⟨v, vr, F, e, h1.sm s, RB.sm s h2⟩
section
variable {K : PySem.W.Frag} {mg : Str → Option Value} {W : WX}
theorem im_raNil : ImRA K tNil raNil := fun σ H Q env F hr hp => hp [] H (fun _ _ z => z) rfl
theorem im_raCons {ta : TE} {tA : TA} {r : RM} {a : PEnv → Option (List PV)} (h : ImR K ta r) (g : ImRA K tA a) : ImRA K (tCons ta tA) (raCons r a) := by
  intro σ H Q env F hr hp
  unfold raCons at hp
  refine h σ H _ env F hr ?_
  cases er : r env with
  | none => rw [er] at hp; exact hp
  | some x =>
    rw [er] at hp
    intro v H1 Fv s1 rx
    refine g σ H1 _ env F (hr.sm s1) ?_
    cases ea : a env with
    | none => rw [ea] at hp; exact hp
    | some xs =>
      rw [ea] at hp
      intro vs H2 s2 rb
      exact hp (v :: vs) H2 (s1.trans s2) ⟨v, vs, Fv, rfl, rx.sm s2, rb⟩
theorem im_rCl {r : List V → Hp → VK → Prop} {f : List PV → Option PV} {ta : TA} {a : PEnv → Option (List PV)} (hs : SimL K r f) (ha : ImRA K ta a) : ImR K (fun σ H Q => ta σ H fun vs H1 => r vs H1 Q) (rCl f a) := by
  intro σ H Q env F hr hp
  unfold rCl at hp
  refine ha σ H _ env F hr ?_
  cases ea : a env with
  | none => rw [ea] at hp; exact hp
  | some ps =>
    rw [ea] at hp
    intro vs H1 s1 rb
    refine hs vs H1 Q ps rb ?_
    cases ef : f ps with
    | none => rw [Option.bind_some, ef] at hp; exact hp.elim
    | some z =>
      rw [Option.bind_some, ef] at hp
      exact fun v H2 Fz s r _ _ => hp v H2 Fz (s1.trans s) r
theorem im_eN_cl {r : List V → Hp → VK → Prop} {f : List PV → Option PV} {ta : TA} {a : PEnv → Option (List PV)} (hs : SimL K r f) (ha : ImRA K ta a) : ImE K mg W (fun σ H Q => ta σ H fun vs H1 => r vs H1 Q) (eN (rCl f a)) := by
  intro σ H Q env F hr hn hp
  unfold eN rCl at hp
  refine ha σ H _ env F hr ?_
  cases ea : a env with
  | none => rw [ea] at hp; exact hp.elim
  | some ps =>
    rw [ea] at hp
    intro vs H1 s1 rb
    exact hs vs H1 Q ps rb (fin_new (hr.sm s1) hn (Fm.of_sm s1 fun _ z => .inl z) hp)
theorem im_eN_op {r : R2} {f : PV → PV → Option PV} {ta tb : TE} {ra rb : RM} (hs : SimR2 K r f) (ha : ImR K ta ra) (hb : ImR K tb rb) : ImE K mg W (tOp r ta tb) (eN (rOp f ra rb)) := by
  intro σ H Q env F hr hn hp
  unfold eN rOp at hp
  refine ha σ H _ env F hr ?_
  cases ea : ra env with
  | none => rw [ea] at hp; exact hp.elim
  | some x =>
    rw [ea] at hp
    intro v H1 Fv s1 rx
    refine hb σ H1 _ env F (hr.sm s1) ?_
    cases eb : rb env with
    | none => rw [eb] at hp; exact hp.elim
    | some y =>
      rw [eb] at hp
      intro u H2 Fu s2 ry
      exact hs v u H2 Q x y Fv Fu (rx.sm s2) ry (fin_new (hr.sm (s1.trans s2)) hn (Fm.of_sm (s1.trans s2) fun _ z => .inl z) hp)
theorem im_eN_un {r : V → Hp → VK → Prop} {f : PV → Option PV} {ta : TE} {ra : RM} (hs : SimU K r f) (ha : ImR K ta ra) : ImE K mg W (tUn r ta) (eN (rUn f ra)) := by
  intro σ H Q env F hr hn hp
  unfold eN rUn at hp
  refine ha σ H _ env F hr ?_
  cases ea : ra env with
  | none => rw [ea] at hp; exact hp.elim
  | some x =>
    rw [ea] at hp
    intro v H1 Fv s1 rx
    exact hs v H1 Q x Fv rx (fin_new (hr.sm s1) hn (Fm.of_sm s1 fun _ z => .inl z) hp)
end
structure JRA (X : Cx) (es : List Expr) (t : TA) (m : PEnv → Option (List PV)) : Prop where
  pa : PA X es t
  im : ImRA X.K t m
section
variable {X : Cx} {W : WX} {e a b : Expr} {es : List Expr} {te ta tb : TE} {tA : TA} {ra rb : RM} {am : PEnv → Option (List PV)} {pos : Pos}
theorem jra_nil : JRA X [] tNil raNil := ⟨pa_nil, im_raNil⟩
theorem jra_cons (h : JR X e te ra) (r : JRA X es tA am) (hs : starEach (e :: es) X.env = (false, eval e X.env) :: starEach es X.env := by rfl) : JRA X (e :: es) (tCons te tA) (raCons ra am) := ⟨pa_cons h.pe r.pa hs, im_raCons h.im r.im⟩
theorem jr_ty {x : Str} {n : String} (hv : bootBuiltins x = some (.type n)) (hm : X.mg x = none) (hg : Gl X x := by rfl) (hn : x ≠ "__name__" := by decide) (hd : (x == ("__debug__" : Str)) = false := by decide) : JR X (.Name x pos) (tC (.ty n)) (rC (.ty n)) :=
  ⟨pe_bltn hg hm hv rfl hn hd, fun σ H Q env F hr hp => hp (.ty n) H [] (fun _ _ z => z) (by simp [RV])⟩
theorem jr_cmp {op : CmpOp} {r : R2} {f : PV → PV → Option PV} (hs : SimR2 X.K r f) (ho : OpR X (compareOp op) r) (hm : behindInMarks op b = false) (ha : JR X a ta ra) (hb : JR X b tb rb) : JR X (.Compare a [op] [b] pos) (tOp r ta tb) (rOp f ra rb) := ⟨pe_cmpR ho ha.pe hb.pe hm, im_rOp hs.b ha.im hb.im⟩
theorem jr_callB {x : Str} {p : Pos} {id : String} {r : List V → Hp → VK → Prop} {f : List PV → Option PV} (hs : SimL X.K r f) (hc : CallR X (.builtin id) r) (hv : bootBuiltins x = some (.builtin id)) (hm : X.mg x = none) (ha : JRA X (e :: es) tA am) (hg : Gl X x := by rfl) (hn : x ≠ "__name__" := by decide) (hdb : (x == ("__debug__" : Str)) = false := by decide)
    (he : starEach (e :: es) X.env = (false, eval e X.env) :: starEach es X.env := by rfl) (hpl : (backTo pos (starEach es X.env)).any (·.1) = false := by rfl) : JR X (.Call (.Name x p) (e :: es) [] pos) (tCB r tA) (rCl f am) := ⟨pe_callB hc hg hm hv ha.pa hn hdb he hpl, im_rCl hs ha.im⟩
theorem jr_callTy {x : Str} {p : Pos} {T : String} {r : List V → Hp → VK → Prop} {f : List PV → Option PV} (hs : SimL X.K r f) (hc : CallR X (.type T) r) (hv : bootBuiltins x = some (.type T)) (hm : X.mg x = none) (ha : JRA X (e :: es) tA am) (hg : Gl X x := by rfl) (hn : x ≠ "__name__" := by decide) (hdb : (x == ("__debug__" : Str)) = false := by decide)
    (he : starEach (e :: es) X.env = (false, eval e X.env) :: starEach es X.env := by rfl) (hpl : (backTo pos (starEach es X.env)).any (·.1) = false := by rfl) : JR X (.Call (.Name x p) (e :: es) [] pos) (tCB r tA) (rCl f am) := ⟨pe_callTy hc hg hm hv ha.pa hn hdb he hpl, im_rCl hs ha.im⟩
theorem jn_op {op : Operator} {r : R2} {f : PV → PV → Option PV} (hs : SimR2 X.K r f) (ho : OpR X (binaryOp op) r) (ha : JR X a ta ra) (hb : JR X b tb rb) : JE X W (.BinOp a op b pos) (tOp r ta tb) (eN (rOp f ra rb)) := ⟨pe_op ho ha.pe hb.pe, im_eN_op hs ha.im hb.im⟩
theorem jn_un {op : UnaryOp} {r : V → Hp → VK → Prop} {f : PV → Option PV} (hs : SimU X.K r f) (ho : UnR X (unaryOp op) r) (ha : JR X a ta ra) : JE X W (.UnaryOp op a pos) (tUn r ta) (eN (rUn f ra)) := ⟨pe_un ho ha.pe, im_eN_un hs ha.im⟩
theorem jn_cmp {op : CmpOp} {r : R2} {f : PV → PV → Option PV} (hs : SimR2 X.K r f) (ho : OpR X (compareOp op) r) (hm : behindInMarks op b = false) (ha : JR X a ta ra) (hb : JR X b tb rb) : JE X W (.Compare a [op] [b] pos) (tOp r ta tb) (eN (rOp f ra rb)) := ⟨pe_cmpR ho ha.pe hb.pe hm, im_eN_op hs ha.im hb.im⟩
theorem jnt_cmp {op : CmpOp} {r : R2} {f : PV → PV → Option PV} (hs : SimR2 X.K r f) (ho : OpR X (compareOp op) r) (hm : behindInMarks op b = false) (ha : JR X a ta ra) (hb : JR X b tb rb) : JT X W (.Compare a [op] [b] pos) (tTest (tOp r ta tb)) (bE (eN (rOp f ra rb))) := ⟨pt_cmpR ho ha.pe hb.pe hm, im_bE (im_eN_op hs ha.im hb.im)⟩
theorem jn_callB {x : Str} {p : Pos} {id : String} {r : List V → Hp → VK → Prop} {f : List PV → Option PV} (hs : SimL X.K r f) (hc : CallR X (.builtin id) r) (hv : bootBuiltins x = some (.builtin id)) (hm : X.mg x = none) (ha : JRA X (e :: es) tA am) (hg : Gl X x := by rfl) (hn : x ≠ "__name__" := by decide) (hdb : (x == ("__debug__" : Str)) = false := by decide)
    (he : starEach (e :: es) X.env = (false, eval e X.env) :: starEach es X.env := by rfl) (hpl : (backTo pos (starEach es X.env)).any (·.1) = false := by rfl) : JE X W (.Call (.Name x p) (e :: es) [] pos) (tCB r tA) (eN (rCl f am)) := ⟨pe_callB hc hg hm hv ha.pa hn hdb he hpl, im_eN_cl hs ha.im⟩
theorem jn_callTy {x : Str} {p : Pos} {T : String} {r : List V → Hp → VK → Prop} {f : List PV → Option PV} (hs : SimL X.K r f) (hc : CallR X (.type T) r) (hv : bootBuiltins x = some (.type T)) (hm : X.mg x = none) (ha : JRA X (e :: es) tA am) (hg : Gl X x := by rfl) (hn : x ≠ "__name__" := by decide) (hdb : (x == ("__debug__" : Str)) = false := by decide)
    (he : starEach (e :: es) X.env = (false, eval e X.env) :: starEach es X.env := by rfl) (hpl : (backTo pos (starEach es X.env)).any (·.1) = false := by rfl) : JE X W (.Call (.Name x p) (e :: es) [] pos) (tCB r tA) (eN (rCl f am)) := ⟨pe_callTy hc hg hm hv ha.pa hn hdb he hpl, im_eN_cl hs ha.im⟩
end
@[simp] theorem raNil_ap (env : PEnv) : raNil env = some [] := rfl
@[simp] theorem raCons_ap (r : RM) (a : PEnv → Option (List PV)) (env : PEnv) : raCons r a env = (r env).bind fun x => (a env).bind fun xs => some (x :: xs) := rfl
@[simp] theorem rCl_ap (f : List PV → Option PV) (a : PEnv → Option (List PV)) (env : PEnv) : rCl f a env = (a env).bind f := rfl
@[simp] theorem eN_ap (r : RM) (env : PEnv) : eN r env = ofO (r env) env := rfl
end PVL

/-! M0: how the pure functions are evaluated: equations for simp. -/
namespace PVL
open PySem PySem.Spec L2
@[simp] theorem cmulR (i : Int) {j : Int} (h1 : -1000000000000 < j) (h2 : j < 1000000000000) : CMul i j := .inr ⟨by omega, by omega⟩
@[simp] theorem cmulL {i : Int} (j : Int) (h1 : -1000000000000 < i) (h2 : i < 1000000000000) : CMul i j := .inl ⟨by omega, by omega⟩
@[simp] theorem cdiv_ (i : Int) {j : Int} (h1 : 0 < j) (h2 : j < 1073741824) : CDiv i j := ⟨h1, h2⟩
@[simp] theorem gRef_ap (i : Nat) (env : PEnv) : gRef i env = (match env[i]? with
  | some (some _) => .ok (.ref i) env
  | _ => .bad) := rfl
@[simp] theorem gOwn_ap (m : EM) (env : PEnv) : gOwn m env = ((m env).bind fun x e => .ok (.own x) e) := rfl
@[simp] theorem aNil_ap  (env : PEnv) : aNil  env = (.ok [] env) := rfl
@[simp] theorem aCons_ap (g : GM) (a : AM) (env : PEnv) : aCons g a env = ((g env).bind fun x e => (a e).bind fun r e2 => .ok (x :: r) e2) := rfl
@[simp] theorem eOp_ap (f : PV → PV → Option PV) (a b : GM) (env : PEnv) : eOp f a b env = ((a env).bind fun x e1 => (b e1).bind fun y e2 =>
  ofO ((seeG e2 x).bind fun p => (seeG e2 y).bind fun q => f p q) e2) := rfl
@[simp] theorem eUn_ap (f : PV → Option PV) (a : GM) (env : PEnv) : eUn f a env = ((a env).bind fun x e1 => ofO ((seeG e1 x).bind f) e1) := rfl
@[simp] theorem eCl_ap (f : List PV → Option PV) (a : AM) (env : PEnv) : eCl f a env = ((a env).bind fun as e1 => ofO ((seeL e1 as).bind f) e1) := rfl
@[simp] theorem rVar_ap (i : Nat) (env : PEnv) : rVar i env = ((env[i]?).join) := rfl
@[simp] theorem rC_ap (x : PV) (env : PEnv) : rC x env = (some x) := rfl
@[simp] theorem rOp_ap (f : PV → PV → Option PV) (a b : RM) (env : PEnv) : rOp f a b env = ((a env).bind fun x => (b env).bind fun y => f x y) := rfl
@[simp] theorem rUn_ap (f : PV → Option PV) (a : RM) (env : PEnv) : rUn f a env = ((a env).bind f) := rfl
@[simp] theorem eR_ap (m : RM) (env : PEnv) : eR m env = (ofO (immO (m env)) env) := rfl
@[simp] theorem eC_ap (x : PV) (env : PEnv) : eC x env = (.ok x env) := rfl
@[simp] theorem eVar_ap (i : Nat) (env : PEnv) : eVar i env = (match env[i]? with
  | some (some x) => if x.imm = true then .ok x env else .ok x (env.set i none)
  | _ => .bad) := rfl
@[simp] theorem bE_ap (m : EM) (env : PEnv) : bE m env = ((m env).bind fun x e => match x with
  | .bl b => .ok b e
  | _ => .bad) := rfl
@[simp] theorem bAnd_ap (a b : BM) (env : PEnv) : bAnd a b env = ((a env).bind fun x e => if x = true then b e else .ok false e) := rfl
@[simp] theorem bOr_ap (a b : BM) (env : PEnv) : bOr a b env = ((a env).bind fun x e => if x = true then .ok true e else b e) := rfl
@[simp] theorem bNot_ap (a : BM) (env : PEnv) : bNot a env = ((a env).bind fun x e => .ok (!x) e) := rfl
@[simp] theorem eAnd_ap (a b : EM) (env : PEnv) : eAnd a b env = ((a env).bind fun x e => match x with
  | .bl true => b e
  | .bl false => .ok (.bl false) e
  | _ => .bad) := rfl
@[simp] theorem eOr_ap (a b : EM) (env : PEnv) : eOr a b env = ((a env).bind fun x e => match x with
  | .bl true => .ok (.bl true) e
  | .bl false => b e
  | _ => .bad) := rfl
@[simp] theorem eNot_ap (a : EM) (env : PEnv) : eNot a env = ((a env).bind fun x e => match x with
  | .bl c => .ok (.bl (!c)) e
  | _ => .bad) := rfl
@[simp] theorem eIf_ap (c : BM) (a b : EM) (env : PEnv) : eIf c a b env = ((c env).bind fun x e => if x = true then a e else b e) := rfl
@[simp] theorem eTup_ap (a : AM) (env : PEnv) : eTup a env = ((a env).bind fun as e => match ownL as with
  | some xs => if xs.length ≤ sizeLine then .ok (.tup xs) e else .bad
  | none => .bad) := rfl
@[simp] theorem eLst_ap (a : AM) (env : PEnv) : eLst a env = ((a env).bind fun as e => match ownL as with
  | some xs => if xs.length ≤ sizeLine then .ok (.lst xs) e else .bad
  | none => .bad) := rfl
@[simp] theorem sNil_ap  (env : PEnv) : sNil  env = (.next env) := rfl
@[simp] theorem sBrk_ap  (env : PEnv) : sBrk  env = (.brk env) := rfl
@[simp] theorem sCont_ap  (env : PEnv) : sCont  env = (.cont env) := rfl
@[simp] theorem sBad_ap (env : PEnv) : sBad env = .bad := rfl
@[simp] theorem sExpr_ap (m : EM) (env : PEnv) : sExpr m env = ((m env).toS fun _ e => .next e) := rfl
@[simp] theorem sRet_ap (m : EM) (env : PEnv) : sRet m env = ((m env).toS fun x e => .ret x e) := rfl
@[simp] theorem sRetN_ap  (env : PEnv) : sRetN  env = (.ret .non env) := rfl
@[simp] theorem sIf_ap (c : BM) (a b : SM) (env : PEnv) : sIf c a b env = ((c env).toS fun x e => if x = true then a e else b e) := rfl
@[simp] theorem tgN_ap (i : Nat) (x : PV) (env : PEnv) : tgN i x env = (if i < env.length then some (env.set i (some x)) else none) := rfl
@[simp] theorem tgsNil_ap  (xs : List PV) (env : PEnv) : tgsNil  xs env = (match xs with
  | [] => some env
  | _ => none) := rfl
@[simp] theorem tgsCons_ap (t : TM) (u : List PV → PEnv → Option PEnv) (xs : List PV) (env : PEnv) : tgsCons t u xs env = (match xs with
  | x :: r => (t x env).bind fun e => u r e
  | [] => none) := rfl
@[simp] theorem tgT_ap (n : Nat) (u : List PV → PEnv → Option PEnv) (x : PV) (env : PEnv) : tgT n u x env = (match x with
  | .tup xs => if xs.length = n then u xs env else none
  | _ => none) := rfl
@[simp] theorem sAsg_ap (m : EM) (t : TM) (env : PEnv) : sAsg m t env = ((m env).toS fun x e => match t x e with
  | some e2 => .next e2
  | none => .bad) := rfl
@[simp] theorem sPar_ap (i j : Nat) (a : AM) (env : PEnv) : sPar i j a env = ((a env).toS fun as e => match ownL as with
  | some [x, y] => if i < e.length ∧ j < e.length then .next ((e.set i (some x)).set j (some y)) else .bad
  | _ => .bad) := rfl
@[simp] theorem sFor_ap (it : PEnv → EO (List PV)) (t : TM) (body : SM) (env : PEnv) : sFor it t body env = ((it env).toS fun items e => forL t body items e) := rfl
@[simp] theorem sForV_ap (i : Nat) (t : TM) (body : SM) (env : PEnv) : sForV i t body env = (match env[i]? with
  | some (some (.lst xs)) => if immL xs = true then (forL t body xs (env.set i none)).mapE (fun e => e.set i (some (.lst xs))) else .bad
  | _ => .bad) := rfl
@[simp] theorem itL_ap (m : EM) (env : PEnv) : itL m env = ((m env).bind fun x e => match itemsOf x with
  | some xs => .ok xs e
  | none => .bad) := rfl
@[simp] theorem itT_ap (m : EM) (env : PEnv) : itT m env = ((m env).bind fun x e => match itemsOfT x with
  | some xs => .ok xs e
  | none => .bad) := rfl
@[simp] theorem itR1_ap (a : AM) (env : PEnv) : itR1 a env = ((a env).bind fun as e => match seeL e as with
  | some [.int j] => if rngOk j then .ok (rngL 0 j.toNat) e else .bad
  | _ => .bad) := rfl
@[simp] theorem itR2_ap (a : AM) (env : PEnv) : itR2 a env = ((a env).bind fun as e => match seeL e as with
  | some [.int i, .int j] => if rngOk i ∧ rngOk j then .ok (rngL i (j - i).toNat) e else .bad
  | _ => .bad) := rfl
@[simp] theorem eLC_ap (it : PEnv → EO (List PV)) (vs : List Nat) (t : TM) (c : BM) (m : EM) (env : PEnv) : eLC it vs t c m env = ((it env).bind fun items e => lcL vs t c m items [] (envWipe e vs)) := rfl
@[simp] theorem eLCV_ap (i : Nat) (vs : List Nat) (t : TM) (c : BM) (m : EM) (env : PEnv) : eLCV i vs t c m env = (match env[i]? with
  | some (some (.lst xs)) => if immL xs = true then (lcL vs t c m xs [] (envWipe (env.set i none) vs)).mapE (fun e => e.set i (some (.lst xs))) else .bad
  | _ => .bad) := rfl
@[simp] theorem eLCVS_ap (i : Nat) (vs : List Nat) (t : TM) (c : BM) (m : EM) (env : PEnv) : eLCVS i vs t c m env = (match env[i]? with
  | some (some (.tup xs)) => eLC (itT (eVar i)) vs t c m env
  | _ => eLCV i vs t c m env) := rfl
@[simp] theorem sForVS_ap (i : Nat) (t : TM) (body : SM) (env : PEnv) : sForVS i t body env = (match env[i]? with
  | some (some (.tup xs)) => sFor (itT (eVar i)) t body env
  | _ => sForV i t body env) := rfl
@[simp] theorem eMeth_ap (T : String) (i : Nat) (f : PV → List PV → Option (PV × PV)) (a : AM) (env : PEnv) : eMeth T i f a env = (match env[i]? with
  | some (some p0) => if tyP T p0 = true then (a env).bind fun as e => (match e[i]? with
      | some (some p) => (match ownL as with
        | some xs => (match f p xs with | some (res, p') => .ok res (e.set i (some p')) | none => .bad)
        | none => .bad)
      | _ => .bad) else .bad
  | _ => .bad) := rfl
@[simp] theorem eMeth0_ap (T : String) (i : Nat) (f : PV → List PV → Option (PV × PV)) (env : PEnv) : eMeth0 T i f env = (match env[i]? with
  | some (some p) => if tyP T p = true then (match f p [] with | some (res, p') => .ok res (env.set i (some p')) | none => .bad) else .bad
  | _ => .bad) := rfl
@[simp] theorem eMethB_ap (T : String) (i : Nat) (f : PV → List PV → Option (PV × PV)) (a : AM) (env : PEnv) : eMethB T i f a env = (match env[i]? with
  | some (some p0) => if tyP T p0 = true then (a env).bind fun as e => (match e[i]? with
      | some (some p) => (match seeL e as with
        | some xs => (match f p xs with | some (res, p') => .ok res (e.set i (some p')) | none => .bad)
        | none => .bad)
      | _ => .bad) else .bad
  | _ => .bad) := rfl
@[simp] theorem sSetIx_ap (i : Nat) (k : RM) (f : PV → PV → PV → Option PV) (m : EM) (env : PEnv) : sSetIx i k f m env = ((m env).toS fun v e => match e[i]? with
  | some (some p) => (match k e with
    | some pk => (match f p pk v with | some p' => .next (e.set i (some p')) | none => .bad)
    | none => .bad)
  | _ => .bad) := rfl
@[simp] theorem sAug_ap (i : Nat) (f : PV → PV → Option PV) (m : EM) (env : PEnv) : sAug i f m env = (match env[i]? with
  | some (some p) => if p.imm = true then (m env).toS fun v e => (match f p v with | some z => if i < e.length then .next (e.set i (some z)) else .bad | none => .bad) else .bad
  | _ => .bad) := rfl
@[simp] theorem sAugIx_ap (i : Nat) (k : RM) (g : PV → PV → Option PV) (m : EM) (f : PV → PV → Option PV) (st : PV → PV → PV → Option PV) (env : PEnv) : sAugIx i k g m f st env = (match env[i]? with
  | some (some p) => (match k env with
    | some pk => if pk.imm = true then (match immO (g p pk) with
      | some x => (m env).toS fun v e => (match f x v with
        | some z => if z.imm = true then (match e[i]? with
          | some (some p1) => (match st p1 pk z with | some p' => .next (e.set i (some p')) | none => .bad)
          | _ => .bad) else .bad
        | none => .bad)
      | none => .bad) else .bad
    | none => .bad)
  | _ => .bad) := rfl
@[simp] theorem eCall_ap (f : FM) (a : AM) (env : PEnv) : eCall f a env = ((a env).bind fun as e => match takeA as e with
  | some (ps, e1) => (match f ps with
    | .ok x qs => .ok x (putA as qs e1)
    | .exc x qs => .exc x (putA as qs e1)
    | .bad => .bad)
  | none => .bad) := rfl
@[simp] theorem sRaise_ap (x : Str) (ps : List Str) (a : AM) (env : PEnv) : sRaise x ps a env = ((a env).toS fun as e => match seeL e as with
  | some xs => if xs.length = ps.length ∧ immL xs = true then .exc ⟨x, (ps.zip xs).reverse⟩ e else .bad
  | none => .bad) := rfl
/-! sequences -/
def SO.andThen (x : SO) (b : SM) : SO := match x with
  | .next e => b e
  | o => o
@[simp] theorem andThen_next (e : PEnv) (b : SM) : (SO.next e).andThen b = b e := rfl
@[simp] theorem andThen_ret (x : PV) (e : PEnv) (b : SM) : (SO.ret x e).andThen b = .ret x e := rfl
@[simp] theorem andThen_brk (e : PEnv) (b : SM) : (SO.brk e).andThen b = .brk e := rfl
@[simp] theorem andThen_cont (e : PEnv) (b : SM) : (SO.cont e).andThen b = .cont e := rfl
@[simp] theorem andThen_exc (x : PX) (e : PEnv) (b : SM) : (SO.exc x e).andThen b = .exc x e := rfl
@[simp] theorem andThen_bad (b : SM) : SO.bad.andThen b = .bad := rfl
@[simp] theorem sSeq_ap (a b : SM) (env : PEnv) : sSeq a b env = (a env).andThen b := by
  unfold sSeq SO.andThen
  rfl
@[simp] theorem mapE_next (f : PEnv → PEnv) (e : PEnv) : (SO.next e).mapE f = .next (f e) := rfl
@[simp] theorem mapE_ret (f : PEnv → PEnv) (x : PV) (e : PEnv) : (SO.ret x e).mapE f = .ret x (f e) := rfl
@[simp] theorem mapE_exc (f : PEnv → PEnv) (x : PX) (e : PEnv) : (SO.exc x e).mapE f = .exc x (f e) := rfl
@[simp] theorem mapE_bad (f : PEnv → PEnv) : SO.bad.mapE f = .bad := rfl
@[simp] theorem bYes_ap (env : PEnv) : bYes env = .ok true env := rfl
@[simp] theorem oNone_ap (env : PEnv) : oNone env = .ok none env := rfl
@[simp] theorem oSome_ap (m : EM) (env : PEnv) : oSome m env = (m env).bind fun x e => match x with
  | .int i => .ok (some i) e
  | _ => .bad := rfl
@[simp] theorem eSl_ap (f : PV → Option Int → Option Int → Option PV) (a : GM) (lo hi : PEnv → EO (Option Int)) (env : PEnv) : eSl f a lo hi env = (a env).bind fun x e1 => (lo e1).bind fun l e2 => (hi e2).bind fun h e3 => ofO ((seeG e3 x).bind fun p => f p l h) e3 := rfl
@[simp] theorem itS_ap (m : EM) (env : PEnv) : itS m env = match m env with
  | .ok (.tup xs) e => itT (fun _ => .ok (.tup xs) e) env
  | o => itL (fun _ => o) env := rfl
@[simp] theorem sTry_ap (b : SM) (l : List PCl) (env : PEnv) : sTry b l env = match b env with
  | .exc x e => pick x e l
  | o => o := rfl
@[simp] theorem wipe_nil (env : PEnv) : envWipe env [] = env := rfl
@[simp] theorem wipe_cons (env : PEnv) (v : Nat) (vs : List Nat) : envWipe env (v :: vs) = (envWipe env vs).set v none := rfl
@[simp] theorem forL_nil (t : TM) (b : SM) (env : PEnv) : forL t b [] env = .next env := rfl
@[simp] theorem lcL_nil (vs : List Nat) (t : TM) (c : BM) (m : EM) (acc : List PV) (env : PEnv) : lcL vs t c m [] acc env = .ok (.lst acc) env := rfl
/-! values -/
@[simp] theorem imm_non : PV.non.imm = true := rfl
@[simp] theorem imm_bl (b : Bool) : (PV.bl b).imm = true := rfl
@[simp] theorem imm_int (b : Int) : (PV.int b).imm = true := rfl
@[simp] theorem imm_str (b : Str) : (PV.str b).imm = true := rfl
@[simp] theorem imm_tup (b : List PV) : (PV.tup b).imm = immL b := by simp [PV.imm]
@[simp] theorem imm_lst (b : List PV) : (PV.lst b).imm = false := rfl
@[simp] theorem imm_frz (b : List PV) : (PV.frz b).imm = true := rfl
@[simp] theorem imm_ty (b : String) : (PV.ty b).imm = true := rfl
@[simp] theorem imm_dct (b : List (PV × PV)) : (PV.dct b).imm = false := rfl
@[simp] theorem immL_nil : immL [] = true := rfl
@[simp] theorem immL_cons (x : PV) (r : List PV) : immL (x :: r) = (x.imm && immL r) := by simp [immL]
@[simp] theorem immL_app (x r : List PV) : immL (x ++ r) = (immL x && immL r) := immL_append
theorem immL_all : ∀ {xs : List PV}, (∀ x ∈ xs, x.imm = true) → immL xs = true
  | [], _ => rfl
  | x :: r, h => by simp [h x (List.mem_cons_self ..), immL_all fun y hy => h y (List.mem_cons_of_mem _ hy)]
theorem immL_mem : ∀ {xs : List PV}, immL xs = true → ∀ x ∈ xs, x.imm = true
  | x :: r, h, y, hy => by
    simp only [immL_cons, Bool.and_eq_true] at h
    rcases List.mem_cons.mp hy with e | e
    · rw [e]; exact h.1
    · exact immL_mem h.2 y e
@[simp] theorem immL_ints (l : List Int) : immL (l.map PV.int) = true := immL_all fun x hx => by
  obtain ⟨i, _, rfl⟩ := List.mem_map.mp hx
  rfl
theorem immL_map {α : Type} (f : α → PV) (l : List α) (h : ∀ a ∈ l, (f a).imm = true) : immL (l.map f) = true := immL_all fun x hx => by
  obtain ⟨i, hi, rfl⟩ := List.mem_map.mp hx
  exact h i hi
@[simp] theorem seeG_own (e : PEnv) (x : PV) : seeG e (.own x) = some x := rfl
@[simp] theorem seeG_ref (e : PEnv) (i : Nat) : seeG e (.ref i) = (e[i]?).join := rfl
@[simp] theorem seeL_nil (e : PEnv) : seeL e [] = some [] := rfl
@[simp] theorem seeL_cons (e : PEnv) (a : Arg) (r : List Arg) : seeL e (a :: r) = (seeG e a).bind fun x => (seeL e r).map (x :: ·) := rfl
@[simp] theorem ownL_nil : ownL [] = some [] := rfl
@[simp] theorem ownL_own (x : PV) (r : List Arg) : ownL (.own x :: r) = (ownL r).map (x :: ·) := rfl
@[simp] theorem ownL_ref (x : Nat) (r : List Arg) : ownL (.ref x :: r) = none := rfl
@[simp] theorem immO_some (z : PV) : immO (some z) = if z.imm = true then some z else none := rfl
@[simp] theorem takeA_nil (e : PEnv) : takeA [] e = some ([], e) := rfl
@[simp] theorem takeA_own (x : PV) (r : List Arg) (e : PEnv) : takeA (.own x :: r) e = (takeA r e).map fun z => (x :: z.1, z.2) := rfl
@[simp] theorem takeA_ref (i : Nat) (r : List Arg) (e : PEnv) : takeA (.ref i :: r) e = match e[i]? with
    | some (some p) => if p.imm = true then (takeA r e).map fun z => (p :: z.1, z.2) else (takeA r (e.set i none)).map fun z => (p :: z.1, z.2)
    | _ => none := rfl
@[simp] theorem putA_nil (ps : List (Option PV)) (e : PEnv) : putA [] ps e = e := by cases ps <;> rfl
@[simp] theorem putA_own (x : PV) (p : Option PV) (r : List Arg) (ps : List (Option PV)) (e : PEnv) : putA (.own x :: r) (p :: ps) e = putA r ps e := rfl
@[simp] theorem putA_some (x : PV) (i : Nat) (r : List Arg) (ps : List (Option PV)) (e : PEnv) : putA (.ref i :: r) (some x :: ps) e = putA r ps (e.set i (some x)) := rfl
@[simp] theorem putA_none (i : Nat) (r : List Arg) (ps : List (Option PV)) (e : PEnv) : putA (.ref i :: r) (none :: ps) e = putA r ps e := rfl
@[simp] theorem finals_nil (e : PEnv) : finals [] e = [] := rfl
@[simp] theorem finals_cons (p : PV) (r : List PV) (x : Option PV) (e : PEnv) : finals (p :: r) (x :: e) = (if p.imm = true then some p else x) :: finals r e := rfl
def endF (ps : List PV) : SO → FO
  | .next e => .ok .non (finals ps e)
  | .ret x e => .ok x (finals ps e)
  | .exc x e => .exc x (finals ps e)
  | _ => .bad
@[simp] theorem endF_next (ps : List PV) (e : PEnv) : endF ps (.next e) = .ok .non (finals ps e) := rfl
@[simp] theorem endF_ret (ps : List PV) (x : PV) (e : PEnv) : endF ps (.ret x e) = .ok x (finals ps e) := rfl
@[simp] theorem endF_exc (ps : List PV) (x : PX) (e : PEnv) : endF ps (.exc x e) = .exc x (finals ps e) := rfl
/-- a def whose stored parameters have no mutable part -/
theorem fnM_at {n m : Nat} {asg : List Nat} {body : SM} {ps : List PV} (h : asg.all (fun j => match ps[j]? with | some p => p.imm | none => true) = true) : fnM n m asg body ps = endF ps (body (ps.map some ++ List.replicate (m - n) none)) := by
  unfold fnM
  split
  · cases body (ps.map some ++ List.replicate (m - n) none) <;> rfl
  · rename_i hh
    exact absurd h hh
/-! operations -/
@[simp] theorem pAdd_i (a b : Int) : pAdd (.int a) (.int b) = some (.int (a + b)) := rfl
@[simp] theorem pAdd_s (a b : Str) : pAdd (.str a) (.str b) = if a.length + b.length ≤ sizeLine then some (.str (a ++ b)) else none := rfl
@[simp] theorem pAdd_t (a b : List PV) : pAdd (.tup a) (.tup b) = if a.length + b.length ≤ sizeLine ∧ immL a = true ∧ immL b = true then some (.tup (a ++ b)) else none := rfl
@[simp] theorem pAdd_l (a b : List PV) : pAdd (.lst a) (.lst b) = if a.length + b.length ≤ sizeLine ∧ immL a = true ∧ immL b = true then some (.lst (a ++ b)) else none := rfl
@[simp] theorem pAddI_i (a b : Int) : pAddI (.int a) (.int b) = some (.int (a + b)) := rfl
@[simp] theorem pI_i (c : Int → Int → Prop) [∀ i j, Decidable (c i j)] (g : Int → Int → Int) (a b : Int) : pI c g (.int a) (.int b) = if c a b then some (.int (g a b)) else none := rfl
@[simp] theorem pI0_i (g : Int → Int → Int) (a b : Int) : pI0 g (.int a) (.int b) = some (.int (g a b)) := rfl
@[simp] theorem pB0_i (g : Int → Int → Bool) (a b : Int) : pB0 g (.int a) (.int b) = some (.bl (g a b)) := rfl
theorem pPow_i (a b : Int) : pPow (.int a) (.int b) = if CPow a b then some (.int (a ^ b.toNat)) else none := rfl
theorem pShl_i (a b : Int) : pShl (.int a) (.int b) = if CPow a b then some (.int (a * 2 ^ b.toNat)) else none := rfl
@[simp] theorem pPow_ten : pPow (.int 10) (.int 18) = some (.int 1000000000000000000) := by
  rw [pPow_i, if_pos (show CPow 10 18 from ⟨by decide, by decide, by decide⟩)]
  rfl
@[simp] theorem pNeg_i (a : Int) : pNeg (.int a) = some (.int (-a)) := rfl
@[simp] theorem pLen_l (x : List PV) : pLen [.lst x] = some (.int x.length) := rfl
@[simp] theorem pLen_f (x : List PV) : pLen [.frz x] = some (.int x.length) := rfl
@[simp] theorem pLen_t (x : List PV) : pLen [.tup x] = some (.int x.length) := rfl
@[simp] theorem pAbs_i (i : Int) : pAbs [.int i] = some (.int (if i < 0 then -i else i)) := rfl
@[simp] theorem pInt_i (i : Int) : pInt [.int i] = some (.int i) := rfl
@[simp] theorem pInt_b (b : Bool) : pInt [.bl b] = some (.int (if b then 1 else 0)) := rfl
@[simp] theorem pTuple_l (x : List PV) : pTuple [.lst x] = if immL x = true then some (.tup x) else none := rfl
@[simp] theorem pTuple_t (x : List PV) : pTuple [.tup x] = if immL x = true then some (.tup x) else none := rfl
@[simp] theorem pList_l (x : List PV) : pList [.lst x] = if immL x = true then some (.lst x) else none := rfl
@[simp] theorem pList_t (x : List PV) : pList [.tup x] = if immL x = true then some (.lst x) else none := rfl
@[simp] theorem isi_int_int (i : Int) : pIsi [.int i, .ty "int"] = some (.bl true) := by simp [pIsi, tyName, tyKnown, isT]
@[simp] theorem isi_int_bool (i : Int) : pIsi [.int i, .ty "bool"] = some (.bl false) := by simp [pIsi, tyName, tyKnown, isT]
@[simp] theorem isi_int_str (i : Int) : pIsi [.int i, .ty "str"] = some (.bl false) := by simp [pIsi, tyName, tyKnown, isT]
@[simp] theorem isi_int_tup (i : Int) : pIsi [.int i, .ty "tuple"] = some (.bl false) := by simp [pIsi, tyName, tyKnown, isT]
@[simp] theorem isi_int_lst (i : Int) : pIsi [.int i, .ty "list"] = some (.bl false) := by simp [pIsi, tyName, tyKnown, isT]
@[simp] theorem isi_bl_int (i : Bool) : pIsi [.bl i, .ty "int"] = some (.bl true) := by simp [pIsi, tyName, tyKnown, isT]
@[simp] theorem isi_bl_bool (i : Bool) : pIsi [.bl i, .ty "bool"] = some (.bl true) := by simp [pIsi, tyName, tyKnown, isT]
@[simp] theorem isi_bl_str (i : Bool) : pIsi [.bl i, .ty "str"] = some (.bl false) := by simp [pIsi, tyName, tyKnown, isT]
@[simp] theorem isi_bl_tup (i : Bool) : pIsi [.bl i, .ty "tuple"] = some (.bl false) := by simp [pIsi, tyName, tyKnown, isT]
@[simp] theorem isi_str_int (i : Str) : pIsi [.str i, .ty "int"] = some (.bl false) := by simp [pIsi, tyName, tyKnown, isT]
@[simp] theorem isi_str_bool (i : Str) : pIsi [.str i, .ty "bool"] = some (.bl false) := by simp [pIsi, tyName, tyKnown, isT]
@[simp] theorem isi_str_str (i : Str) : pIsi [.str i, .ty "str"] = some (.bl true) := by simp [pIsi, tyName, tyKnown, isT]
@[simp] theorem isi_str_tup (i : Str) : pIsi [.str i, .ty "tuple"] = some (.bl false) := by simp [pIsi, tyName, tyKnown, isT]
@[simp] theorem isi_tup_tup (i : List PV) : pIsi [.tup i, .ty "tuple"] = some (.bl true) := by simp [pIsi, tyName, tyKnown, isT]
@[simp] theorem isi_tup_int (i : List PV) : pIsi [.tup i, .ty "int"] = some (.bl false) := by simp [pIsi, tyName, tyKnown, isT]
@[simp] theorem isi_tup_bool (i : List PV) : pIsi [.tup i, .ty "bool"] = some (.bl false) := by simp [pIsi, tyName, tyKnown, isT]
@[simp] theorem isi_tup_str (i : List PV) : pIsi [.tup i, .ty "str"] = some (.bl false) := by simp [pIsi, tyName, tyKnown, isT]
@[simp] theorem isi_lst_tup (i : List PV) : pIsi [.lst i, .ty "tuple"] = some (.bl false) := by simp [pIsi, tyName, tyKnown, isT]
@[simp] theorem isi_lst_lst (i : List PV) : pIsi [.lst i, .ty "list"] = some (.bl true) := by simp [pIsi, tyName, tyKnown, isT]
@[simp] theorem isi_non_str : pIsi [.non, .ty "str"] = some (.bl false) := by simp [pIsi, tyName, tyKnown, isT]
@[simp] theorem isi_non_tup : pIsi [.non, .ty "tuple"] = some (.bl false) := by simp [pIsi, tyName, tyKnown, isT]
@[simp] theorem isi_non_bool : pIsi [.non, .ty "bool"] = some (.bl false) := by simp [pIsi, tyName, tyKnown, isT]
@[simp] theorem isi_non_int : pIsi [.non, .ty "int"] = some (.bl false) := by simp [pIsi, tyName, tyKnown, isT]
@[simp] theorem isN_non : pIsN .non .non = some (.bl true) := rfl
@[simp] theorem isN_int (i : Int) : pIsN (.int i) .non = some (.bl false) := rfl
@[simp] theorem isN_bl (i : Bool) : pIsN (.bl i) .non = some (.bl false) := rfl
@[simp] theorem isN_str (i : Str) : pIsN (.str i) .non = some (.bl false) := rfl
@[simp] theorem isN_tup (i : List PV) : pIsN (.tup i) .non = some (.bl false) := rfl
@[simp] theorem isN_lst (i : List PV) : pIsN (.lst i) .non = some (.bl false) := rfl
@[simp] theorem eq_ii (a b : Int) : pEq (.int a) (.int b) = some (.bl (decide (a = b))) := rfl
@[simp] theorem eq_ss (a b : Str) : pEq (.str a) (.str b) = some (.bl (decide (a = b))) := rfl
@[simp] theorem eq_bb (a b : Bool) : pEq (.bl a) (.bl b) = some (.bl (decide (a = b))) := rfl
@[simp] theorem ne_ii (a b : Int) : pNe (.int a) (.int b) = some (.bl (!decide (a = b))) := rfl
@[simp] theorem ne_ss (a b : Str) : pNe (.str a) (.str b) = some (.bl (!decide (a = b))) := rfl
@[simp] theorem pIx_l (x : List PV) (i : Int) : pIx (.lst x) (.int i) = atI x i := rfl
@[simp] theorem pIx_t (x : List PV) (i : Int) : pIx (.tup x) (.int i) = atI x i := rfl
@[simp] theorem pIx_f (x : List PV) (i : Int) : pIx (.frz x) (.int i) = atI x i := rfl
@[simp] theorem pIxL_l (x : List PV) (i : Int) : pIxL (.lst x) (.int i) = atI x i := rfl
@[simp] theorem pSetL_l (x : List PV) (k : Int) (v : PV) : pSetL (.lst x) (.int k) v = (ixN x.length k).map fun j => .lst (x.set j v) := rfl
@[simp] theorem pAppend_l (x : List PV) (v : PV) : pAppend (.lst x) [v] = if x.length < sizeLine then some (.non, .lst (x ++ [v])) else none := rfl
@[simp] theorem pSl_l (x : List PV) (lo hi : Option Int) : pSl (.lst x) lo hi = if immL x = true then some (.lst (pcut x lo hi)) else none := rfl
@[simp] theorem pSl_f (x : List PV) (lo hi : Option Int) : pSl (.frz x) lo hi = if immL x = true then some (.lst (pcut x lo hi)) else none := rfl
@[simp] theorem pSl_t (x : List PV) (lo hi : Option Int) : pSl (.tup x) lo hi = if immL x = true then some (.tup (pcut x lo hi)) else none := rfl
@[simp] theorem itemsOf_l (x : List PV) : itemsOf (.lst x) = if immL x = true then some x else none := rfl
@[simp] theorem itemsOf_f (x : List PV) : itemsOf (.frz x) = if immL x = true then some x else none := rfl
@[simp] theorem itemsOfT_t (x : List PV) : itemsOfT (.tup x) = if immL x = true then some x else none := rfl
@[simp] theorem tyP_l (x : List PV) : tyP "list" (.lst x) = true := rfl
@[simp] theorem at_0 {α : Type} (x : α) (r : List α) : atI (x :: r) 0 = some x := by
  unfold atI ixN
  simp only [List.length_cons]
  rw [if_pos (by omega), if_pos (by omega)]
  rfl
theorem at_nat {α : Type} (xs : List α) (i : Int) (h : 0 ≤ i) : atI xs i = xs[i.toNat]? := by
  unfold atI ixN
  rw [if_pos h]
  by_cases h1 : i < xs.length
  · rw [if_pos h1]; rfl
  · rw [if_neg h1]
    rw [List.getElem?_eq_none (by omega)]; rfl
@[simp] theorem at_1 {α : Type} (x y : α) (r : List α) : atI (x :: y :: r) 1 = some y := by rw [at_nat _ _ (by decide)]; rfl
@[simp] theorem at_2 {α : Type} (x y z : α) (r : List α) : atI (x :: y :: z :: r) 2 = some z := by rw [at_nat _ _ (by decide)]; rfl
@[simp] theorem at_3 {α : Type} (x y z u : α) (r : List α) : atI (x :: y :: z :: u :: r) 3 = some u := by rw [at_nat _ _ (by decide)]; rfl
@[simp] theorem ix_nat (n : Nat) (i : Int) (h : 0 ≤ i) (h2 : i < n) : ixN n i = some i.toNat := by
  unfold ixN
  rw [if_pos h, if_pos h2]
theorem at_neg {α : Type} (xs : List α) (i : Int) (h : i < 0) (h2 : 0 ≤ i + xs.length) : atI xs i = xs[(i + xs.length).toNat]? := by
  unfold atI ixN
  rw [if_neg (by omega)]
  split
  · rfl
  · omega
@[simp] theorem le_size {n : Nat} (h : n ≤ 1000000) : n ≤ sizeLine := by rw [sizeLine_eq]; omega
@[simp] theorem lt_size {n : Nat} (h : n < 1000000) : n < sizeLine := by rw [sizeLine_eq]; omega
/-! loops -/
theorem forL_cons (t : TM) (b : SM) (x : PV) (r : List PV) (env : PEnv) : forL t b (x :: r) env = match t x env with
    | none => .bad
    | some e => match b e with
      | .next e => forL t b r e
      | .cont e => forL t b r e
      | .brk e => .next e
      | o => o := rfl
/-- behind a turn -/
def loopK (o : SO) (k : SM) : SO := match o with
  | .next e => k e
  | .cont e => k e
  | .brk e => .next e
  | o => o
@[simp] theorem loopK_next (e : PEnv) (k : SM) : loopK (.next e) k = k e := rfl
@[simp] theorem loopK_cont (e : PEnv) (k : SM) : loopK (.cont e) k = k e := rfl
@[simp] theorem loopK_brk (e : PEnv) (k : SM) : loopK (.brk e) k = .next e := rfl
@[simp] theorem loopK_ret (x : PV) (e : PEnv) (k : SM) : loopK (.ret x e) k = .ret x e := rfl
@[simp] theorem loopK_exc (x : PX) (e : PEnv) (k : SM) : loopK (.exc x e) k = .exc x e := rfl
@[simp] theorem loopK_bad (k : SM) : loopK .bad k = .bad := rfl
theorem forL_at {t : TM} {b : SM} {x : PV} {r : List PV} {env e : PEnv} (h : t x env = some e) : forL t b (x :: r) env = loopK (b e) (forL t b r) := by
  rw [forL_cons, h]
  simp only
  cases b e <;> rfl
/-- a loop that goes to its end -/
theorem forL_all {t : TM} {b : SM} (I : List PV → PEnv → Prop) (step : ∀ x r env, I (x :: r) env → ∃ e e', t x env = some e ∧ (b e = .next e' ∨ b e = .cont e') ∧ I r e') : ∀ (l : List PV) (env : PEnv), I l env → ∃ e', forL t b l env = .next e' ∧ I [] e'
  | [], env, h => ⟨env, rfl, h⟩
  | x :: r, env, h => by
    obtain ⟨e, e', h1, h2, h3⟩ := step x r env h
    obtain ⟨e2, h4, h5⟩ := forL_all I step r e' h3
    refine ⟨e2, ?_, h5⟩
    rw [forL_cons, h1]
    rcases h2 with h2 | h2 <;> simp only [h2] <;> exact h4
theorem lcL_cons (vs : List Nat) (t : TM) (c : BM) (m : EM) (x : PV) (r acc : List PV) (env : PEnv) : lcL vs t c m (x :: r) acc env = match t x env with
    | none => .bad
    | some e => match c e with
      | .ok b e2 => if b = true then (match m e2 with
          | .ok y e3 => if acc.length < sizeLine then lcL vs t c m r (acc ++ [y]) (envWipe e3 vs) else .bad
          | _ => .bad) else lcL vs t c m r acc (envWipe e2 vs)
      | _ => .bad := rfl
/-- a comprehension that takes all -/
theorem lcL_all {vs : List Nat} {t : TM} {m : EM} (I : List PV → List PV → PEnv → Prop) (step : ∀ x r acc env, I (x :: r) acc env → ∃ e y e', t x env = some e ∧ m e = .ok y e' ∧ acc.length < sizeLine ∧ I r (acc ++ [y]) (envWipe e' vs)) :
    ∀ (l acc : List PV) (env : PEnv), I l acc env → ∃ acc' e', lcL vs t bYes m l acc env = .ok (.lst acc') e' ∧ I [] acc' e'
  | [], acc, env, h => ⟨acc, env, rfl, h⟩
  | x :: r, acc, env, h => by
    obtain ⟨e, y, e', h1, h2, h3, h4⟩ := step x r acc env h
    obtain ⟨a2, e2, h5, h6⟩ := lcL_all I step r _ _ h4
    refine ⟨a2, e2, ?_, h6⟩
    rw [lcL_cons, h1]
    simp only [bYes_ap, if_true, h2, h3]
    exact h5
/-- .. by a test -/
theorem lcL_some {vs : List Nat} {t : TM} {c : BM} {m : EM} (I : List PV → List PV → PEnv → Prop)
    (step : ∀ x r acc env, I (x :: r) acc env → ∃ e b e2, t x env = some e ∧ c e = .ok b e2 ∧ ((b = false ∧ I r acc (envWipe e2 vs)) ∨ (b = true ∧ ∃ y e', m e2 = .ok y e' ∧ acc.length < sizeLine ∧ I r (acc ++ [y]) (envWipe e' vs)))) :
    ∀ (l acc : List PV) (env : PEnv), I l acc env → ∃ acc' e', lcL vs t c m l acc env = .ok (.lst acc') e' ∧ I [] acc' e'
  | [], acc, env, h => ⟨acc, env, rfl, h⟩
  | x :: r, acc, env, h => by
    obtain ⟨e, b, e2, h1, h2, h3⟩ := step x r acc env h
    rcases h3 with ⟨rfl, h4⟩ | ⟨rfl, y, e', h4, h5, h6⟩
    · obtain ⟨a2, e3, h7, h8⟩ := lcL_some I step r _ _ h4
      exact ⟨a2, e3, by rw [lcL_cons, h1]; simp only [h2]; exact h7, h8⟩
    · obtain ⟨a2, e3, h7, h8⟩ := lcL_some I step r _ _ h6
      exact ⟨a2, e3, by rw [lcL_cons, h1]; simp only [h2, h4, h5, if_true]; exact h7, h8⟩
end PVL

/-! M1: the laws' common drawing of numbers. -/
namespace PVL
open PySem PySem.Spec L2
def bDrawR : SM := sSeq (sAugIx 0 (rC (.int 1)) pIxL (eC (.int 1)) pAddI pSetL) (sSeq (sIf (bE (eN (rOp pGe (rVar 2) (rOp pMul (rC (.int 2)) (rOp pPow (rC (.int 10)) (rC (.int 18))))))) (sSeq (sAsg (eN (rOp pMod (rCl pInt (raCons (rOp pDiv (rVar 2) (rC (.int 2))) (raNil))) (rOp pShl (rC (.int 1)) (rC (.int 6000))))) (tgN 3)) (sSeq (sSetIx 0 (rC (.int 2)) pSetL (eN (rOp pDiv (rVar 3) (rVar 1)))) (sRet (eN (rOp pMod (rCl pInt (raCons (rVar 3) (raNil))) (rVar 1)))))) (sNil)) (sSeq (sSetIx 0 (rC (.int 3)) pSetL (eN (rOp pMod (rCl pInt (raCons (rOp pAdd (rOp pAdd (rOp pAdd (rOp pMul (rOp pIx (rVar 0) (rC (.int 3))) (rC (.int 48271))) (rOp pMul (rOp pMod (rCl pInt (raCons (rVar 2) (raNil))) (rC (.int 2147483629))) (rC (.int 16807)))) (rOp pMul (rOp pIx (rVar 0) (rC (.int 1))) (rC (.int 69621)))) (rC (.int 11))) (raNil))) (rC (.int 2147483647))))) (sRet (eN (rOp pMod (rCl pInt (raCons (rOp pDiv (rOp pIx (rVar 0) (rC (.int 3))) (rC (.int 16))) (raNil))) (rVar 1))))))
def bDraw : SM := sSeq (sIf (bE (eN (rOp pGt (rOp pIx (rVar 0) (rC (.int 2))) (rC (.int 0))))) (sSeq (sAsg (eR (rOp pIx (rVar 0) (rC (.int 2)))) (tgN 3)) (sSeq (sSetIx 0 (rC (.int 2)) pSetL (eN (rOp pDiv (rVar 3) (rVar 1)))) (sRet (eN (rOp pMod (rCl pInt (raCons (rVar 3) (raNil))) (rVar 1)))))) (sNil)) (sSeq (sAsg (eC (.int 0)) (tgN 2)) (sSeq (sIf (bE (eN (rOp pLt (rOp pIx (rVar 0) (rC (.int 1))) (rCl pLen (raCons (rOp pIx (rVar 0) (rC (.int 0))) (raNil)))))) (sSeq (sAsg (eR (rOp pIx (rOp pIx (rVar 0) (rC (.int 0))) (rOp pIx (rVar 0) (rC (.int 1))))) (tgN 4)) (sAsg (eN (rOp pAdd (rOp pMul (rC (.int 2)) (rCl pAbs (raCons (rVar 4) (raNil)))) (rCl pInt (raCons (rOp pLt (rVar 4) (rC (.int 0))) (raNil))))) (tgN 2))) (sNil)) bDrawR))
def mDraw : FM := fnM 2 5 [] bDraw
structure Dr where
  cells : List Int
  at_ : Nat
  held : Int
  seed : Int
def Dr.pv (d : Dr) : PV := .lst [.lst (d.cells.map .int), .int d.at_, .int d.held, .int d.seed]
@[simp] theorem Dr.pv_imm (d : Dr) : d.pv.imm = false := rfl
def big : Int := 1 * 2 ^ (6000 : Int).toNat
theorem big_pos : 0 < big := by
  unfold big
  rw [Int.one_mul]
  exact Int.pow_pos (by decide)
theorem shl_big : pShl (.int 1) (.int 6000) = some (.int big) := by
  rw [pShl_i, if_pos (show CPow 1 6000 from ⟨by decide, by decide, by decide⟩)]
  rfl
theorem dr0 (c : List PV) (a f s n size : Int) (y : Option PV) : (sAugIx 0 (rC (.int 1)) pIxL (eC (.int 1)) pAddI pSetL : SM) [some (.lst [.lst c, .int a, .int f, .int s]), some (.int n), some (.int size), none, y] = .next [some (.lst [.lst c, .int (a + 1), .int f, .int s]), some (.int n), some (.int size), none, y] := by
  simp
theorem dr1 (c : List PV) (a f s n size : Int) (y : Option PV) (h : ¬ 2000000000000000000 ≤ size) : (sIf (bE (eN (rOp pGe (rVar 2) (rOp pMul (rC (.int 2)) (rOp pPow (rC (.int 10)) (rC (.int 18))))))) (sSeq (sAsg (eN (rOp pMod (rCl pInt (raCons (rOp pDiv (rVar 2) (rC (.int 2))) (raNil))) (rOp pShl (rC (.int 1)) (rC (.int 6000))))) (tgN 3)) (sSeq (sSetIx 0 (rC (.int 2)) pSetL (eN (rOp pDiv (rVar 3) (rVar 1)))) (sRet (eN (rOp pMod (rCl pInt (raCons (rVar 3) (raNil))) (rVar 1)))))) (sNil) : SM) [some (.lst [.lst c, .int a, .int f, .int s]), some (.int n), some (.int size), none, y] = .next [some (.lst [.lst c, .int a, .int f, .int s]), some (.int n), some (.int size), none, y] := by
  simp [CMul, h]
theorem dr1b (c : List PV) (a f s n size B : Int) (y : Option PV) (h1 : 0 < n) (h2 : n < 1073741824) (hb : 0 < B) (hshl : pShl (.int 1) (.int 6000) = some (.int B)) (h : 2000000000000000000 ≤ size) : (sIf (bE (eN (rOp pGe (rVar 2) (rOp pMul (rC (.int 2)) (rOp pPow (rC (.int 10)) (rC (.int 18))))))) (sSeq (sAsg (eN (rOp pMod (rCl pInt (raCons (rOp pDiv (rVar 2) (rC (.int 2))) (raNil))) (rOp pShl (rC (.int 1)) (rC (.int 6000))))) (tgN 3)) (sSeq (sSetIx 0 (rC (.int 2)) pSetL (eN (rOp pDiv (rVar 3) (rVar 1)))) (sRet (eN (rOp pMod (rCl pInt (raCons (rVar 3) (raNil))) (rVar 1)))))) (sNil) : SM) [some (.lst [.lst c, .int a, .int f, .int s]), some (.int n), some (.int size), none, y] = .ret (.int (size / 2 % B % n)) [some (.lst [.lst c, .int a, .int (size / 2 % B / n), .int s]), some (.int n), some (.int size), some (.int (size / 2 % B)), y] := by
  simp [CMul, CDiv, h, h1, h2, hb, hshl]
theorem dr2 (c : List PV) (a f s n size : Int) (y : Option PV) : (sSetIx 0 (rC (.int 3)) pSetL (eN (rOp pMod (rCl pInt (raCons (rOp pAdd (rOp pAdd (rOp pAdd (rOp pMul (rOp pIx (rVar 0) (rC (.int 3))) (rC (.int 48271))) (rOp pMul (rOp pMod (rCl pInt (raCons (rVar 2) (raNil))) (rC (.int 2147483629))) (rC (.int 16807)))) (rOp pMul (rOp pIx (rVar 0) (rC (.int 1))) (rC (.int 69621)))) (rC (.int 11))) (raNil))) (rC (.int 2147483647)))) : SM) [some (.lst [.lst c, .int a, .int f, .int s]), some (.int n), some (.int size), none, y] = .next [some (.lst [.lst c, .int a, .int f, .int ((s * 48271 + size % 2147483629 * 16807 + a * 69621 + 11) % 2147483647)]), some (.int n), some (.int size), none, y] := by
  simp [CMul]
theorem dr3 (c : List PV) (a f s n size : Int) (y : Option PV) (h1 : 0 < n) : (sRet (eN (rOp pMod (rCl pInt (raCons (rOp pDiv (rOp pIx (rVar 0) (rC (.int 3))) (rC (.int 16))) (raNil))) (rVar 1))) : SM) [some (.lst [.lst c, .int a, .int f, .int s]), some (.int n), some (.int size), none, y] = .ret (.int (s / 16 % n)) [some (.lst [.lst c, .int a, .int f, .int s]), some (.int n), some (.int size), none, y] := by
  simp [CDiv, h1]
theorem draw_big (d : Dr) (n size B : Int) (y : Option PV) (h1 : 0 < n) (h2 : n < 1073741824) (hb : 0 < B) (hshl : pShl (.int 1) (.int 6000) = some (.int B)) (h : 2000000000000000000 ≤ size) :
    endF [d.pv, .int n] (bDrawR [some d.pv, some (.int n), some (.int size), none, y]) = .ok (.int (size / 2 % B % n)) [some (Dr.mk d.cells (d.at_ + 1) (size / 2 % B / n) d.seed).pv, some (.int n)] := by
  unfold bDrawR Dr.pv
  rw [sSeq_ap, dr0, andThen_next, sSeq_ap, dr1b _ _ _ _ _ _ B _ h1 h2 hb hshl h, andThen_ret]
  rfl
theorem draw_small (d : Dr) (n size : Int) (y : Option PV) (h1 : 0 < n) (h2 : n < 1073741824) (h : ¬ 2000000000000000000 ≤ size) : ∃ z : Int,
    endF [d.pv, .int n] (bDrawR [some d.pv, some (.int n), some (.int size), none, y]) = .ok (.int (z / 16 % n)) [some (Dr.mk d.cells (d.at_ + 1) d.held z).pv, some (.int n)] := by
  refine ⟨(d.seed * 48271 + size % 2147483629 * 16807 + ((d.at_ : Int) + 1) * 69621 + 11) % 2147483647, ?_⟩
  unfold bDrawR Dr.pv
  rw [sSeq_ap, dr0, andThen_next, sSeq_ap, dr1 _ _ _ _ _ _ _ h, andThen_next, sSeq_ap, dr2, andThen_next]
  generalize (d.seed * 48271 + size % 2147483629 * 16807 + ((d.at_ : Int) + 1) * 69621 + 11) % 2147483647 = z
  rw [dr3 _ _ _ _ _ _ _ h1]
  rfl
theorem draw_rest (d : Dr) (n size : Int) (y : Option PV) (h1 : 0 < n) (h2 : n < 1073741824) : ∃ (r : Int) (d' : Dr), endF [d.pv, .int n] (bDrawR [some d.pv, some (.int n), some (.int size), none, y]) = .ok (.int r) [some d'.pv, some (.int n)] ∧ 0 ≤ r ∧ r < n := by
  have rng : ∀ x : Int, 0 ≤ x % n ∧ x % n < n := fun x => ⟨Int.emod_nonneg _ (by omega), Int.emod_lt_of_pos _ h1⟩
  by_cases h : 2000000000000000000 ≤ size
  · exact ⟨_, _, draw_big d n size big y h1 h2 big_pos shl_big h, rng _⟩
  · obtain ⟨z, e⟩ := draw_small d n size y h1 h2 h
    exact ⟨_, _, e, rng _⟩
theorem draw_ok (d : Dr) (n : Int) (h1 : 0 < n) (h2 : n < 1073741824) : ∃ (r : Int) (d' : Dr), mDraw [d.pv, .int n] = .ok (.int r) [some d'.pv, some (.int n)] ∧ 0 ≤ r ∧ r < n := by
  have rng : ∀ x : Int, 0 ≤ x % n ∧ x % n < n := fun x => ⟨Int.emod_nonneg _ (by omega), Int.emod_lt_of_pos _ h1⟩
  by_cases h : 0 < d.held
  · refine ⟨d.held % n, ⟨d.cells, d.at_, d.held / n, d.seed⟩, ?_, rng _⟩
    unfold mDraw
    rw [fnM_at rfl]
    simp [bDraw, Dr.pv, h, CDiv, h1, h2]
  · unfold mDraw
    rw [fnM_at rfl]
    by_cases hc : d.at_ < d.cells.length
    · have hat : atI (d.cells.map PV.int) d.at_ = some (.int d.cells[d.at_]) := by
        rw [at_nat _ _ (by omega)]
        simp [hc]
      obtain ⟨r, d', e, hr⟩ := draw_rest d n (2 * (if d.cells[d.at_] < 0 then -d.cells[d.at_] else d.cells[d.at_]) + (if d.cells[d.at_] < 0 then 1 else 0)) (some (.int d.cells[d.at_])) h1 h2
      refine ⟨r, d', ?_, hr⟩
      rw [← e]
      simp [bDraw, Dr.pv, h, hc, hat, CMul]
    · obtain ⟨r, d', e, hr⟩ := draw_rest d n 0 none h1 h2
      refine ⟨r, d', ?_, hr⟩
      rw [← e]
      simp [bDraw, Dr.pv, h, hc]
end PVL

/-! M2: more of what the laws have in common. -/
namespace PVL
open PySem PySem.Spec L2
def bBegin : SM := sRet (eLst (aCons (gOwn (eLC (itS (eSl pSl (gRef 0) (oNone) (oSome (eC (.int 63))))) [1] (tgN 1) (bYes) (eN (rCl pInt (raCons (rVar 1) (raNil)))))) (aCons (gOwn (eC (.int 0))) (aCons (gOwn (eC (.int 0))) (aCons (gOwn (eC (.int 7))) (aNil))))))
def mBegin : FM := fnM 1 2 [] bBegin
def bPick : SM := sRet (eOp (fun x y => immO (pIx x y)) (gRef 1) (gOwn (eCall mDraw (aCons (gRef 0) (aCons (gOwn (eN (rCl pLen (raCons (rVar 1) (raNil))))) (aNil))))))
def mPick : FM := fnM 2 2 [] bPick
def bRare : SM := sRet (eOp pEq (gOwn (eCall mDraw (aCons (gRef 0) (aCons (gRef 1) (aNil))))) (gOwn (eN (rOp pDiv (rVar 1) (rC (.int 2))))))
def mRare : FM := fnM 2 2 [] bRare
def bIsInt : SM := sRet (eAnd (eN (rCl pIsi (raCons (rVar 0) (raCons (rC (.ty "int")) (raNil))))) (eNot (eN (rCl pIsi (raCons (rVar 0) (raCons (rC (.ty "bool")) (raNil)))))))
def mIsInt : FM := fnM 1 1 [] bIsInt
def bSame (n : Nat) (self : FM) : SM := sSeq (sIf (bE (eN (rCl pIsi (raCons (rVar 0) (raCons (rC (.ty "tuple")) (raNil)))))) (sSeq (sIf (bOr (bNot (bE (eN (rCl pIsi (raCons (rVar 1) (raCons (rC (.ty "tuple")) (raNil))))))) (bE (eN (rOp pNe (rCl pLen (raCons (rVar 0) (raNil))) (rCl pLen (raCons (rVar 1) (raNil))))))) (sRet (eC (.bl false))) (sNil)) (sRet (eOp pEq (gOwn (eCl pLen (aCons (gOwn (eLC (itR1 (aCons (gOwn (eN (rCl pLen (raCons (rVar 0) (raNil))))) (aNil))) [2] (tgN 2) (bNot (bE (eCall self (aCons (gOwn (eR (rOp pIx (rVar 0) (rVar 2)))) (aCons (gOwn (eR (rOp pIx (rVar 1) (rVar 2)))) (aNil)))))) (eVar 2))) (aNil)))) (gOwn (eC (.int 0)))))) (sNil)) (sSeq (sIf (bOr (bE (eN (rCl pIsi (raCons (rVar 0) (raCons (rC (.ty "bool")) (raNil)))))) (bOr (bE (eN (rOp pIsN (rVar 0) (rC .non)))) (bE (eN (rCl pIsi (raCons (rVar 0) (raCons (rC (.ty "str")) (raNil)))))))) (sRet (eAnd (eN (rOp pEq (rCl pIsi (raCons (rVar 0) (raCons (rC (.ty "bool")) (raNil)))) (rCl pIsi (raCons (rVar 1) (raCons (rC (.ty "bool")) (raNil)))))) (eN (rOp pEq (rVar 0) (rVar 1))))) (sNil)) (sRet (eAnd (eCall mIsInt (aCons (gRef 0) (aNil))) (eAnd (eCall mIsInt (aCons (gRef 1) (aNil))) (eN (rOp pEq (rVar 0) (rVar 1)))))))
def mSame : Nat → FM
  | 0 => fBad
  | n + 1 => fnM 2 3 [] (bSame n (mSame n))

theorem pcut_map {α β : Type} (f : α → β) (l : List α) (lo hi : Option Int) : pcut (l.map f) lo hi = (pcut l lo hi).map f := by
  unfold pcut
  rw [List.length_map, ← List.map_drop, ← List.map_take]
theorem begin_ok (ns : List Int) : ∃ d : Dr, mBegin [.frz (ns.map .int)] = .ok d.pv [some (.frz (ns.map .int))] := by
  have hi : immL (pcut (ns.map PV.int) none (some 63)) = true := by
    rw [pcut_map]
    exact immL_ints _
  have hl : (pcut (ns.map PV.int) none (some 63)).length ≤ 63 := by
    unfold pcut
    simp only [List.length_take, List.length_drop]
    have : HT.sIx (ns.map PV.int).length (ns.map PV.int).length (some 63) ≤ 63 := by
      show (if (63 : Int) < 0 then ((63 : Int) + ((ns.map PV.int).length : Int)).toNat else min (63 : Int).toNat (ns.map PV.int).length) ≤ 63
      rw [if_neg (by decide)]
      exact Nat.min_le_left _ _
    omega
  have hm : ∃ l : List Int, pcut (ns.map PV.int) none (some 63) = l.map PV.int := ⟨_, pcut_map _ _ _ _⟩
  obtain ⟨l, e⟩ := hm
  rw [e] at hi hl
  rw [List.length_map] at hl
  have loop : ∀ (r acc : List Int), acc.length + r.length ≤ 63 → lcL [1] (tgN 1) bYes (eN (rCl pInt (raCons (rVar 1) raNil))) (r.map PV.int) (acc.map PV.int) [some (.frz (ns.map .int)), none] = .ok (.lst ((acc ++ r).map PV.int)) [some (.frz (ns.map .int)), none] := by
    intro r
    induction r with
    | nil => intro acc _; simp
    | cons x r ih =>
      intro acc h
      have hs : acc.length < sizeLine := by
        rw [sizeLine_eq]
        simp only [List.length_cons] at h
        omega
      have := ih (acc ++ [x]) (by simp only [List.length_append, List.length_cons, List.length_nil] at h ⊢; omega)
      rw [List.map_cons, lcL_cons]
      simp [hs]
      simpa using this
  have := loop l [] (by simpa using hl)
  refine ⟨⟨l, 0, 0, 7⟩, ?_⟩
  unfold mBegin
  rw [fnM_at rfl]
  simp [bBegin, e]
  simp at this
  rw [this]
  have h4 : 4 ≤ sizeLine := by rw [sizeLine_eq]; omega
  simp [h4, Dr.pv]

theorem at_lt {α : Type} (xs : List α) (r : Int) (h0 : 0 ≤ r) (h1 : r < xs.length) : ∃ h : r.toNat < xs.length, atI xs r = some xs[r.toNat] := by
  have h : r.toNat < xs.length := by omega
  refine ⟨h, ?_⟩
  rw [at_nat _ _ h0]
  simp [h]
theorem pick_l (d : Dr) (xs : List PV) (h : 0 < xs.length) (h2 : xs.length < 1073741824) (hi : immL xs = true) : ∃ (i : Nat) (hl : i < xs.length) (d' : Dr), mPick [d.pv, .lst xs] = .ok xs[i] [some d'.pv, some (.lst xs)] := by
  obtain ⟨r, d', e, r0, r1⟩ := draw_ok d xs.length (by omega) (by omega)
  obtain ⟨hl, ea⟩ := at_lt xs r r0 r1
  refine ⟨r.toNat, hl, d', ?_⟩
  unfold mPick
  rw [fnM_at rfl]
  simp [bPick, e, ea, immL_mem hi _ (List.getElem_mem hl)]
theorem pick_t (d : Dr) (xs : List PV) (h : 0 < xs.length) (h2 : xs.length < 1073741824) (hi : immL xs = true) : ∃ (i : Nat) (hl : i < xs.length) (d' : Dr), mPick [d.pv, .tup xs] = .ok xs[i] [some d'.pv, some (.tup xs)] := by
  obtain ⟨r, d', e, r0, r1⟩ := draw_ok d xs.length (by omega) (by omega)
  obtain ⟨hl, ea⟩ := at_lt xs r r0 r1
  refine ⟨r.toNat, hl, d', ?_⟩
  unfold mPick
  rw [fnM_at rfl]
  simp [bPick, e, ea, immL_mem hi _ (List.getElem_mem hl), hi]
theorem rare_ok (d : Dr) (n : Int) (h1 : 0 < n) (h2 : n < 1073741824) : ∃ (b : Bool) (d' : Dr), mRare [d.pv, .int n] = .ok (.bl b) [some d'.pv, some (.int n)] := by
  obtain ⟨r, d', e, r0, r1⟩ := draw_ok d n h1 h2
  refine ⟨decide (r = n / 2), d', ?_⟩
  unfold mRare
  rw [fnM_at rfl]
  simp [bRare, e, CDiv]
@[simp] theorem is_int_int (i : Int) : mIsInt [.int i] = .ok (.bl true) [some (.int i)] := by
  unfold mIsInt
  rw [fnM_at rfl]
  simp [bIsInt]
/-- plain data: ints, texts, truths, None, tuples of such, less than n deep -/
def plain : Nat → PV → Bool
  | 0, _ => false
  | _ + 1, .int _ => true
  | _ + 1, .str _ => true
  | _ + 1, .bl _ => true
  | _ + 1, .non => true
  | n + 1, .tup xs => decide (xs.length ≤ 16777216) && xs.all (plain n)
  | _ + 1, _ => false
theorem plain_imm : ∀ {n : Nat} {x : PV}, plain n x = true → x.imm = true
  | n + 1, .int _, _ => rfl
  | n + 1, .str _, _ => rfl
  | n + 1, .bl _, _ => rfl
  | n + 1, .non, _ => rfl
  | n + 1, .tup xs, h => by
    simp only [plain, Bool.and_eq_true, List.all_eq_true] at h
    rw [imm_tup]
    exact immL_all fun x hx => plain_imm (h.2 x hx)
theorem lcL_none {vs : List Nat} {t : TM} {c : BM} {m : EM} {env : PEnv} : ∀ l : List PV, (∀ x ∈ l, ∃ e e2, t x env = some e ∧ c e = .ok false e2 ∧ envWipe e2 vs = env) → lcL vs t c m l [] env = .ok (.lst []) env
  | [], _ => rfl
  | x :: r, h => by
    obtain ⟨e, e2, h1, h2, h3⟩ := h x (List.mem_cons_self ..)
    rw [lcL_cons, h1]
    simp only [h2, Bool.false_eq_true, if_false, h3]
    exact lcL_none r fun y hy => h y (List.mem_cons_of_mem _ hy)
theorem mem_rng {n : Nat} {x : PV} (h : x ∈ rngL 0 n) : ∃ k : Nat, k < n ∧ x = .int k := by
  unfold rngL at h
  obtain ⟨k, hk, rfl⟩ := List.mem_map.mp h
  exact ⟨k, List.mem_range.mp hk, by simp⟩
theorem same_step (n : Nat) (xs : List PV) (hi : immL xs = true) (k : Nat) (hk : k < xs.length) (hs : mSame n [xs[k], xs[k]] = .ok (.bl true) [some xs[k], some xs[k]]) : bNot (bE (eCall (mSame n) (aCons (gOwn (eR (rOp pIx (rVar 0) (rVar 2)))) (aCons (gOwn (eR (rOp pIx (rVar 1) (rVar 2)))) (aNil))))) [some (.tup xs), some (.tup xs), some (.int k)] = .ok false [some (.tup xs), some (.tup xs), some (.int k)] := by
  have ea : atI xs (k : Int) = some xs[k] := by
    rw [at_nat _ _ (by omega)]
    simp [hk]
  have im := immL_mem hi _ (List.getElem_mem hk)
  simp [ea, im, hs, hi]
theorem same_key (n : Nat) (xs : List PV) (hi : immL xs = true) (hs : ∀ x ∈ xs, mSame n [x, x] = .ok (.bl true) [some x, some x]) : lcL [2] (tgN 2) (bNot (bE (eCall (mSame n) (aCons (gOwn (eR (rOp pIx (rVar 0) (rVar 2)))) (aCons (gOwn (eR (rOp pIx (rVar 1) (rVar 2)))) (aNil)))))) (eVar 2) (rngL 0 xs.length) [] [some (.tup xs), some (.tup xs), none] = .ok (.lst []) [some (.tup xs), some (.tup xs), none] := by
  refine lcL_none _ fun x hx => ?_
  obtain ⟨k, hk, rfl⟩ := mem_rng hx
  exact ⟨[some (.tup xs), some (.tup xs), some (.int k)], [some (.tup xs), some (.tup xs), some (.int k)], by simp, same_step n xs hi k hk (hs _ (List.getElem_mem hk)), by simp⟩
theorem same_tup (n : Nat) (xs : List PV) (hl : xs.length ≤ 16777216) (hi : immL xs = true) (hs : ∀ x ∈ xs, mSame n [x, x] = .ok (.bl true) [some x, some x]) : mSame (n + 1) [.tup xs, .tup xs] = .ok (.bl true) [some (.tup xs), some (.tup xs)] := by
  show fnM 2 3 [] (bSame n (mSame n)) _ = _
  rw [fnM_at rfl]
  have hr : rngOk (xs.length : Int) := rngOk_of (by omega) (by omega)
  have key := same_key n xs hi hs
  simp [bSame, hi, hr, key]
theorem same_ok : ∀ (n : Nat) (x : PV), plain n x = true → mSame n [x, x] = .ok (.bl true) [some x, some x] := by
  intro n
  induction n with
  | zero => intro x h; cases x <;> simp [plain] at h
  | succ n ih =>
    intro x h
    cases x with
    | int i =>
      show fnM 2 3 [] (bSame n (mSame n)) _ = _
      rw [fnM_at rfl]
      simp [bSame]
    | str i =>
      show fnM 2 3 [] (bSame n (mSame n)) _ = _
      rw [fnM_at rfl]
      simp [bSame]
    | bl i =>
      show fnM 2 3 [] (bSame n (mSame n)) _ = _
      rw [fnM_at rfl]
      simp [bSame]
    | non =>
      show fnM 2 3 [] (bSame n (mSame n)) _ = _
      rw [fnM_at rfl]
      simp [bSame, pEq, eqB, scEq]
    | tup xs =>
      have hi := plain_imm h
      rw [imm_tup] at hi
      simp only [plain, Bool.and_eq_true, List.all_eq_true, decide_eq_true_eq] at h
      exact same_tup n xs h.1 hi fun x hx => ih x (h.2 x hx)
    | _ => simp [plain] at h
end PVL

/-! P10: chained comparisons, methods of texts, str(), pop, calls without arguments. -/
namespace PVL
open PySem PySem.Spec L2
/-! ### a op b op c, upon read operands -/
def rChain (f g : PV → PV → Option PV) (a b c : RM) : RM := fun env => (a env).bind fun x => (b env).bind fun y => match f x y with
  | some (.bl true) => (c env).bind fun z => g y z
  | some (.bl false) => some (.bl false)
  | _ => none
section
variable {K : PySem.W.Frag} {mg : Str → Option Value} {W : WX}
theorem im_rChain {r r' : R2} {f g : PV → PV → Option PV} {ta tb tc : TE} {a b c : RM} (hs : SimR2 K r f) (hs' : SimR2 K r' g) (ha : ImR K ta a) (hb : ImR K tb b) (hc : ImR K tc c) : ImR K (tChain r r' ta tb tc) (rChain f g a b c) := by
  intro σ H Q env F hr hp
  unfold rChain at hp
  refine ha σ H _ env F hr ?_
  cases ea : a env with
  | none => rw [ea] at hp; exact hp
  | some x =>
    rw [ea] at hp
    intro v H1 Fv s1 rx
    refine hb σ H1 _ env F (hr.sm s1) ?_
    cases eb : b env with
    | none => rw [eb] at hp; exact hp
    | some y =>
      rw [eb] at hp
      intro u H2 Fu s2 ry
      refine hs v u H2 _ x y Fv Fu (rx.sm s2) ry ?_
      simp only [Option.bind_some] at hp
      cases ef : f x y with
      | none => rw [ef] at hp; exact hp.elim
      | some z =>
        rw [ef] at hp
        intro z' H3 F3 s3 rz _ _
        cases z with
        | bl k =>
          simp only [RV] at rz
          refine ⟨k, rz.1, ?_⟩
          cases k with
          | false =>
            rw [if_neg Bool.false_ne_true]
            exact hp (.bl false) H3 [] ((s1.trans s2).trans s3) (by simp [RV])
          | true =>
            rw [if_pos rfl]
            refine hc σ H3 _ env F (hr.sm ((s1.trans s2).trans s3)) ?_
            cases ec : c env with
            | none => simp only [ec] at hp; exact hp
            | some q =>
              simp only [ec, Option.bind_some] at hp
              intro w H4 Fw s4 rw'
              refine hs' u w H4 Q y q Fu Fw ((ry.sm s3).sm s4) rw' ?_
              cases eg : g y q with
              | none => rw [eg] at hp; exact hp.elim
              | some zz =>
                rw [eg] at hp
                exact fun v5 H5 F5 s5 r5 _ _ => hp v5 H5 F5 ((((s1.trans s2).trans s3).trans s4).trans s5) r5
        | _ => exact hp.elim
/-- what is only read, as a value without a mutable part -/
theorem im_eRi {t : TE} {m : RM} (h : ImR K t m) : ImE K mg W t (eR m) := im_eR h
/-! ### methods of texts -/
def eSM0 (f : Str → Option PV) (m : EM) : EM := fun env => (m env).bind fun x e => match x with
  | .str z => ofO (f z) e
  | _ => .bad
def eSM1 (f : Str → PV → Option PV) (m : EM) (g : GM) : EM := fun env => (m env).bind fun x e1 => match x with
  | .str z => (g e1).bind fun y e2 => ofO ((seeG e2 y).bind fun p => f z p) e2
  | _ => .bad
def SimS0 (K : PySem.W.Frag) (r : V → List V → Hp → VK → Prop) (f : Str → Option PV) : Prop := ∀ z H Q, NewO K H Q (f z) → r (.str z) [] H Q
def SimS1 (K : PySem.W.Frag) (r : V → List V → Hp → VK → Prop) (f : Str → PV → Option PV) : Prop := ∀ z y H Q py Fy, RV K H py y Fy → NewO K H Q (f z py) → r (.str z) [y] H Q
theorem im_eSM0 {r : V → List V → Hp → VK → Prop} {f : Str → Option PV} {to : TE} {m : EM} (hs : SimS0 K r f) (ho : ImE K mg W to m) : ImE K mg W (tM0 r to) (eSM0 f m) := by
  intro σ H Q env F hr hn hp
  refine ho σ H _ env F hr hn (hp.bind.imp fun x e1 q1 v H1 Fv F1 hr1 hx hn1 hf1 => ?_)
  cases x with
  | str z =>
    simp only [RV] at hx
    obtain ⟨rfl, rfl⟩ := hx
    exact ⟨⟨z, rfl⟩, hs z H1 Q (fin_new hr1 (nd_right hn1) (fm_left hf1) q1)⟩
  | _ => exact q1.elim
theorem im_eSM1 {r : V → List V → Hp → VK → Prop} {f : Str → PV → Option PV} {to te : TE} {m : EM} {g : GM} (hs : SimS1 K r f) (ho : ImE K mg W to m) (hg : ImG K mg W te g) : ImE K mg W (tM1 r to te) (eSM1 f m g) := by
  intro σ H Q env F hr hn hp
  refine ho σ H _ env F hr hn (hp.bind.imp fun x e1 q1 v H1 Fv F1 hr1 hx hn1 hf1 => ?_)
  cases x with
  | str z =>
    simp only [RV] at hx
    obtain ⟨rfl, rfl⟩ := hx
    refine ⟨⟨z, rfl⟩, hg σ H1 _ e1 F1 hr1 (nd_right hn1) ((q1.bind.later (fm_left hf1)) fun y e2 q2 u H2 Gv F2 hr2 hy hn2 hf2 => ?_)⟩
    cases ey : seeG e2 y with
    | none => rw [ey] at q2; exact q2.elim
    | some p =>
      rw [ey] at q2
      obtain ⟨Fy, ry⟩ := seeG_ok hr2 hy ey
      exact hs z u H2 Q p Fy ry (fin_new hr2 (nd_right hn2) (fm_left hf2) (q2.later (fm_left hf1) fun _ _ z v' H' Fv' F' a b c d => z v' H' Fv' F' a b c ((fm_left hf1).trans d)))
  | _ => exact q1.elim
theorem rvl_strs {H : Hp} : ∀ ys : List Str, RVL K H (ys.map PV.str) (ys.map V.str) []
  | [] => by simp [RVL]
  | y :: r => by
    simp only [List.map_cons, RVL]
    exact ⟨_, _, [], [], rfl, by simp [RV], rvl_strs r, rfl⟩
/-- z.split(sep) -/
def pSplit (z : Str) : PV → Option PV
  | .str b => if (b.length == 0) = false ∧ z.length + 2 ≤ sizeLine then some (.lst ((Txt.split z b).map .str)) else none
  | _ => none
theorem sim_split : SimS1 K rSplitAny pSplit := by
  intro z y H Q py Fy hy q
  unfold pSplit at q
  split at q
  · rename_i b
    split at q
    · rename_i hz
      exact .inl ⟨z, b, rfl, by rw [rv_str hy], hz.1, hz.2, New.lst q (rvl_strs _)⟩
    · exact q.elim
  · exact q.elim
/-- texts alone -/
def strsOf : List PV → Option (List Str)
  | [] => some []
  | .str x :: r => (strsOf r).map (x :: ·)
  | _ :: _ => none
theorem strsOf_ok : ∀ {xs : List PV} {ys : List Str}, strsOf xs = some ys → xs = ys.map .str
  | [], ys, h => by simp only [strsOf, Option.some.injEq] at h; rw [← h]; rfl
  | .str x :: r, ys, h => by
    simp only [strsOf, Option.map_eq_some_iff] at h
    obtain ⟨zs, h1, rfl⟩ := h
    rw [strsOf_ok h1]; rfl
theorem rvl_strs_eq {H : Hp} : ∀ {ys : List Str} {vs : List V} {F : List Addr}, RVL K H (ys.map PV.str) vs F → vs = ys.map V.str
  | [], vs, F, h => by simp only [List.map_nil, RVL] at h; exact h.1
  | y :: r, vs, F, h => by
    simp only [List.map_cons, RVL] at h
    obtain ⟨v, vr, F1, F2, rfl, h1, h2, _⟩ := h
    rw [rv_str h1, rvl_strs_eq h2]; rfl
def seqItems : PV → Option (List PV)
  | .lst xs => some xs
  | .tup xs => some xs
  | .frz xs => some xs
  | _ => none
/-- z.join(texts) -/
def pJoin (z : Str) (p : PV) : Option PV := (seqItems p).bind fun xs => (strsOf xs).bind fun ys => if (ys.map (·.length)).sum + ys.length * z.length ≤ 16777216 then some (.str (Txt.join z ys)) else none
abbrev rJoinP (K : PySem.W.Frag) : V → List V → Hp → VK → Prop := fun x xs H Q => ∃ a p, ∃ ys : List Str, x = .str a ∧ xs = [.ref p] ∧ (SqL K H p (ys.map V.str) ∨ SqT K H p (ys.map V.str)) ∧ (ys.map (·.length)).sum + ys.length * a.length ≤ 16777216 ∧ Q (.str (Txt.join a ys)) H
theorem sim_join : SimS1 K (rJoinP K) pJoin := by
  intro z y H Q py Fy hy q
  unfold pJoin at q
  cases es : seqItems py with
  | none => rw [es] at q; exact q.elim
  | some xs =>
    rw [es, Option.bind_some] at q
    cases et : strsOf xs with
    | none => rw [et] at q; exact q.elim
    | some ys =>
      rw [et, Option.bind_some] at q
      by_cases hz : (ys.map (·.length)).sum + ys.length * z.length ≤ 16777216
      · rw [if_pos hz] at q
        have ex := strsOf_ok et
        subst ex
        cases py with
        | lst l =>
          simp only [seqItems, Option.some.injEq] at es
          subst es
          simp only [RV] at hy
          obtain ⟨a, vs, F', rfl, ha, hl, _⟩ := hy
          rw [rvl_strs_eq hl] at ha
          exact ⟨z, a, ys, rfl, rfl, .inl (SqL.of ha), hz, q.str⟩
        | tup l =>
          simp only [seqItems, Option.some.injEq] at es
          subst es
          simp only [RV] at hy
          obtain ⟨a, vs, rfl, ha, hl⟩ := hy
          rw [rvl_strs_eq hl] at ha
          exact ⟨z, a, ys, rfl, rfl, .inr ha, hz, q.str⟩
        | frz l =>
          simp only [seqItems, Option.some.injEq] at es
          subst es
          simp only [RV] at hy
          obtain ⟨a, vs, rfl, ha, hl, _⟩ := hy
          rw [rvl_strs_eq hl] at ha
          exact ⟨z, a, ys, rfl, rfl, .inl ha.toL, hz, q.str⟩
        | _ => simp [seqItems] at es
      · rw [if_neg hz] at q; exact q.elim
/-! ### str(x) -/
def pStr : List PV → Option PV
  | [.int i] => if i.natAbs.log2 < 1920 then some (.str (toString i)) else none
  | [.str a] => some (.str a)
  | _ => none
abbrev rStrP : List V → Hp → VK → Prop := fun xs H Q => (∃ i, xs = [.int i] ∧ i.natAbs.log2 < 1920 ∧ Q (.str (toString i)) H) ∨ ∃ a, xs = [.str a] ∧ Q (.str a) H
theorem call_strP {X : Cx} : CallR X (.type "str") rStrP := call_str_int.or SkE.call_str_str
theorem sim_str : SimL K rStrP pStr := by
  intro xs H Q ps hb q
  unfold pStr at q
  split at q
  · rename_i i
    split at q
    · rename_i hz
      obtain ⟨v, F, rfl, hv⟩ := rb1 hb
      exact .inl ⟨i, by rw [rv_int hv], hz, q.str⟩
    · exact q.elim
  · rename_i a
    obtain ⟨v, F, rfl, hv⟩ := rb1 hb
    exact .inr ⟨a, by rw [rv_str hv], q.str⟩
  · exact q.elim
/-! ### pop -/
theorem RVL.eraseN {H : Hp} {xs : List PV} {vs : List V} (k : Nat) (h : RVL K H xs vs []) : RVL K H (xs.eraseIdx k) (vs.eraseIdx k) [] := by
  rw [List.eraseIdx_eq_take_drop_succ, List.eraseIdx_eq_take_drop_succ]
  exact (h.take k).append (h.drop (k + 1))
def pPopAt : PV → List PV → Option (PV × PV)
  | .lst xs, [.int i] => if i.natAbs < 2 ^ 63 ∧ immL xs = true then (match seqIndex? i xs.length with
      | some k => (xs[k]?).map fun y => (y, .lst (xs.eraseIdx k))
      | none => none) else none
  | _, _ => none
theorem sim_popAt : SimM K rPopAt pPopAt := by
  intro x vs H Q p xs Fx Fa hx ha n q
  unfold pPopAt at q
  split at q
  · rename_i xs i
    split at q
    · rename_i hz
      split at q
      · rename_i k hk
        cases ey : xs[k]? with
        | none => rw [ey] at q; exact q.elim
        | some y =>
          rw [ey] at q
          simp only [RV] at hx
          obtain ⟨a, ws, F', rfl, hH, hl, rfl⟩ := hx
          have e' := RVL.imm hz.2 hl
          subst e'
          obtain ⟨v, rfl, hv⟩ := rvl1 ha
          obtain ⟨w, F1, ew, rw', hF⟩ := hl.get ey
          have eF : F1 = [] := List.eq_nil_iff_forall_not_mem.mpr fun b z => by simpa using hF b z
          subst eF
          have hi := hz.1
          have ev := rv_int hv
          have eFa : Fa = [] := RVL.imm (xs := [.int i]) (by simp [immL, PV.imm]) ha
          subst eFa
          refine ⟨a, ws, i, k, w, rfl, by rw [ev], hH, by omega, by omega, by rw [hl.length]; exact hk, ew, ?_⟩
          refine q w _ [] [a] ?_ ?_ (by simp) ⟨fun b o nb e => ?_, fun b z => .inl (by simpa using z)⟩
          · simp only [RV]
            exact ⟨a, _, [], rfl, upd_same, (hl.eraseN k).keep (keep_upd hH rfl (by simp)), rfl⟩
          · exact rw'.keep (keep_upd hH rfl (by simp))
          · rw [upd_ne]
            · exact e
            · intro z; subst z; exact nb (by simp)
      · exact q.elim
    · exact q.elim
  · exact q.elim
def pPop : PV → List PV → Option (PV × PV)
  | .lst xs, [] => if immL xs = true then (xs[xs.length - 1]?).map fun y => (y, .lst xs.dropLast) else none
  | _, _ => none
theorem sim_pop : SimM K rPop pPop := by
  intro x vs H Q p xs Fx Fa hx ha n q
  unfold pPop at q
  split at q
  · rename_i xs
    split at q
    · rename_i hz
      cases ey : xs[xs.length - 1]? with
      | none => rw [ey] at q; exact q.elim
      | some y =>
        rw [ey] at q
        simp only [RV] at hx
        obtain ⟨a, ws, F', rfl, hH, hl, rfl⟩ := hx
        have e' := RVL.imm hz hl
        subst e'
        simp only [RVL] at ha
        obtain ⟨rfl, rfl⟩ := ha
        obtain ⟨w, F1, ew, rw', hF⟩ := hl.get ey
        have eF : F1 = [] := List.eq_nil_iff_forall_not_mem.mpr fun b z => by simpa using hF b z
        subst eF
        have hlen := hl.length
        refine ⟨a, ws, w, rfl, rfl, hH, by rw [hlen]; exact ew, ?_⟩
        refine q w _ [] [a] ?_ ?_ (by simp) ⟨fun b o nb e => ?_, fun b z => .inl (by simpa using z)⟩
        · simp only [RV]
          refine ⟨a, _, [], rfl, upd_same, ?_, rfl⟩
          have := (hl.take (xs.length - 1)).keep (H' := upd H a (.lst ws.dropLast)) (keep_upd hH rfl (by simp))
          rw [List.dropLast_eq_take, List.dropLast_eq_take, hlen]
          rw [List.dropLast_eq_take, hlen] at this
          exact this
        · exact rw'.keep (keep_upd hH rfl (by simp))
        · rw [upd_ne]
          · exact e
          · intro z; subst z; exact nb (by simp)
    · exact q.elim
  · exact q.elim
end
/-! ### joint -/
section
variable {X : Cx} {W : WX} {e o a b c : Expr} {te to ta tb tc : TE} {m : EM} {g : GM} {ra rb rc : RM} {pos apos : Pos}
theorem jr_chain {op op' : CmpOp} {r r' : R2} {f f' : PV → PV → Option PV} (hs : SimR2 X.K r f) (ho : OpR X (compareOp op) r) (hs' : SimR2 X.K r' f') (ho' : OpR X (compareOp op') r') (ha : JR X a ta ra) (hb : JR X b tb rb) (hc : JR X c tc rc)
    (hm : lastMarks [op, op'] [b, c] = false := by with_unfolding_all rfl) : JR X (.Compare a [op, op'] [b, c] pos) (tChain r r' ta tb tc) (rChain f f' ra rb rc) := ⟨pe_chain ho ho' ha.pe hb.pe hc.pe hm, im_rChain hs hs' ha.im hb.im hc.im⟩
theorem jn_chain {op op' : CmpOp} {r r' : R2} {f f' : PV → PV → Option PV} (hs : SimR2 X.K r f) (ho : OpR X (compareOp op) r) (hs' : SimR2 X.K r' f') (ho' : OpR X (compareOp op') r') (ha : JR X a ta ra) (hb : JR X b tb rb) (hc : JR X c tc rc)
    (hm : lastMarks [op, op'] [b, c] = false := by with_unfolding_all rfl) : JE X W (.Compare a [op, op'] [b, c] pos) (tChain r r' ta tb tc) (eR (rChain f f' ra rb rc)) := ⟨pe_chain ho ho' ha.pe hb.pe hc.pe hm, im_eR (im_rChain hs hs' ha.im hb.im hc.im)⟩
theorem jnt_chain {op op' : CmpOp} {r r' : R2} {f f' : PV → PV → Option PV} (hs : SimR2 X.K r f) (ho : OpR X (compareOp op) r) (hs' : SimR2 X.K r' f') (ho' : OpR X (compareOp op') r') (ha : JR X a ta ra) (hb : JR X b tb rb) (hc : JR X c tc rc)
    (hm : lastMarks [op, op'] [b, c] = false := by with_unfolding_all rfl) : JT X W (.Compare a [op, op'] [b, c] pos) (tTest (tChain r r' ta tb tc)) (bE (eR (rChain f f' ra rb rc))) := ⟨pt_chain ho ho' ha.pe hb.pe hc.pe hm, im_bE (im_eR (im_rChain hs hs' ha.im hb.im hc.im))⟩
theorem j_split (ho : JE X W o to m) (he : JG X W e te g) (hs : starEach [e] X.env = [(false, eval e X.env)] := by rfl) (hbase : attributeBase o "split" X.env (eval o X.env) = eval o X.env := by rfl) (hline : (apos.endLine == pos.line) = true := by rfl) :
    JE X W (.Call (.Attribute o "split" apos) [e] [] pos) (tM1 rSplitAny to te) (eSM1 pSplit m g) := ⟨pe_splitAny ho.pe he.pe hs hbase hline, im_eSM1 sim_split ho.im he.im⟩
theorem k_join (K : PySem.W.Frag) (ho : JE X W o to m) (he : JG X W e te g) (hK : X.K = K := by rfl) (hs : starEach [e] X.env = [(false, eval e X.env)] := by rfl) (hbase : attributeBase o "join" X.env (eval o X.env) = eval o X.env := by rfl) (hline : (apos.endLine == pos.line) = true := by rfl) :
    JE X W (.Call (.Attribute o "join" apos) [e] [] pos) (tM1 (rJoinP K) to te) (eSM1 pJoin m g) := by
  subst hK
  exact ⟨pe_join ho.pe he.pe hs hbase hline, im_eSM1 sim_join ho.im he.im⟩
theorem k_meth0 (K : PySem.W.Frag) {T id : String} {name x : Str} {i : Nat} {r : V → List V → Hp → VK → Prop} {f : PV → List PV → Option (PV × PV)} {p : Pos} (pa : PlainAttrs T) (slot : Slot T name id) (hty : typeOf (.builtin id) = pure (.type "method_descriptor")) (hs : SimM K r f) (hm : MtR X id r) (ho : JR X (.Name x p) (tVar i) (rVar i))
    (hK : X.K = K := by rfl) (hbase : attributeBase (.Name x p) name X.env (eval (.Name x p) X.env) = eval (.Name x p) X.env := by rfl) (hline : (apos.endLine == pos.line) = true := by rfl) :
    JE X W (.Call (.Attribute (.Name x p) name apos) [] [] pos) (tBM0 K T r (tVar i)) (eMeth0 T i f) := by
  subst hK
  exact j_meth0 pa slot hty hs hm ho hbase hline
/-- a def without arguments -/
theorem k_fn0 (K : PySem.W.Frag) (mg : Str → Option Value) {x : Str} {k : Nat} {fm : FM} {p : Pos} (cl : Cal X.prog X.w K mg X.base x k 0 fm) (hr : Room k X.A) (tk : Takes X W) (hK : X.K = K := by rfl) (hmg : X.mg = mg := by rfl) (hg : Gl X x := by rfl) (hdb : (x == ("__debug__" : Str)) = false := by decide) :
    JE X W (.Call (.Name x p) [] [] pos) (tCallS (spF K mg 0 fm) (WE W) tNil) (eCall fm aNil) := by
  subst hK
  subst hmg
  obtain ⟨f, fd, ps, F, hm, hk, hb⟩ := cl
  refine ⟨⟨fun pins s σ H Q I h => ?_⟩, im_eCall im_aNil fun env as e h => by simp only [aNil, EO.ok.injEq] at h; rw [← h.1]; rfl⟩
  refine wpAny_Call_Name_kw (ld_glob I hg hm ?_ hdb)
  exact PySem.W.callWith_K0 I.kIn hk (run_fnS F hr hb (passAt tk σ) I .nil h)
end
end PVL

/-! C1: pure functions that many laws have alike (printed by gen.py). -/
namespace PVL
open PySem PySem.Spec L2
/-! ### the pure functions -/
def b_m__law_begin : SM := sRet (eLst (aCons (gOwn (eLC (itS (eSl pSl (gRef 0) (oNone) (oSome (eC (.int 63))))) [1] (tgN 1) (bYes) (eN (rCl pInt (raCons (rVar 1) (raNil)))))) (aCons (gOwn (eC (.int 0))) (aCons (gOwn (eC (.int 0))) (aCons (gOwn (eC (.int 7))) (aNil))))))
def m__law_begin : FM := fnM 1 2 [] b_m__law_begin
def b_m__law_draw : SM := sSeq (sIf (bE (eN (rOp pGt (rOp pIx (rVar 0) (rC (.int 2))) (rC (.int 0))))) (sSeq (sAsg (eR (rOp pIx (rVar 0) (rC (.int 2)))) (tgN 3)) (sSeq (sSetIx 0 (rC (.int 2)) pSetL (eN (rOp pDiv (rVar 3) (rVar 1)))) (sRet (eN (rOp pMod (rCl pInt (raCons (rVar 3) (raNil))) (rVar 1)))))) (sNil)) (sSeq (sAsg (eC (.int 0)) (tgN 2)) (sSeq (sIf (bE (eN (rOp pLt (rOp pIx (rVar 0) (rC (.int 1))) (rCl pLen (raCons (rOp pIx (rVar 0) (rC (.int 0))) (raNil)))))) (sSeq (sAsg (eR (rOp pIx (rOp pIx (rVar 0) (rC (.int 0))) (rOp pIx (rVar 0) (rC (.int 1))))) (tgN 4)) (sAsg (eN (rOp pAdd (rOp pMul (rC (.int 2)) (rCl pAbs (raCons (rVar 4) (raNil)))) (rCl pInt (raCons (rOp pLt (rVar 4) (rC (.int 0))) (raNil))))) (tgN 2))) (sNil)) (sSeq (sAugIx 0 (rC (.int 1)) pIxL (eC (.int 1)) pAddI pSetL) (sSeq (sIf (bE (eN (rOp pGe (rVar 2) (rOp pMul (rC (.int 2)) (rOp pPow (rC (.int 10)) (rC (.int 18))))))) (sSeq (sAsg (eN (rOp pMod (rCl pInt (raCons (rOp pDiv (rVar 2) (rC (.int 2))) (raNil))) (rOp pShl (rC (.int 1)) (rC (.int 6000))))) (tgN 3)) (sSeq (sSetIx 0 (rC (.int 2)) pSetL (eN (rOp pDiv (rVar 3) (rVar 1)))) (sRet (eN (rOp pMod (rCl pInt (raCons (rVar 3) (raNil))) (rVar 1)))))) (sNil)) (sSeq (sSetIx 0 (rC (.int 3)) pSetL (eN (rOp pMod (rCl pInt (raCons (rOp pAdd (rOp pAdd (rOp pAdd (rOp pMul (rOp pIx (rVar 0) (rC (.int 3))) (rC (.int 48271))) (rOp pMul (rOp pMod (rCl pInt (raCons (rVar 2) (raNil))) (rC (.int 2147483629))) (rC (.int 16807)))) (rOp pMul (rOp pIx (rVar 0) (rC (.int 1))) (rC (.int 69621)))) (rC (.int 11))) (raNil))) (rC (.int 2147483647))))) (sRet (eN (rOp pMod (rCl pInt (raCons (rOp pDiv (rOp pIx (rVar 0) (rC (.int 3))) (rC (.int 16))) (raNil))) (rVar 1)))))))))
def m__law_draw : FM := fnM 2 5 [] b_m__law_draw
def b_m__law_pick : SM := sRet (eOp (fun x y => immO (pIx x y)) (gRef 1) (gOwn (eCall m__law_draw (aCons (gRef 0) (aCons (gOwn (eN (rCl pLen (raCons (rVar 1) (raNil))))) (aNil))))))
def m__law_pick : FM := fnM 2 2 [] b_m__law_pick
def b_m__law_is_int : SM := sRet (eAnd (eN (rCl pIsi (raCons (rVar 0) (raCons (rC (.ty "int")) (raNil))))) (eNot (eN (rCl pIsi (raCons (rVar 0) (raCons (rC (.ty "bool")) (raNil)))))))
def m__law_is_int : FM := fnM 1 1 [] b_m__law_is_int
def b_m__law_same (n : Nat) (self : FM) : SM := sSeq (sIf (bE (eN (rCl pIsi (raCons (rVar 0) (raCons (rC (.ty "tuple")) (raNil)))))) (sSeq (sIf (bOr (bNot (bE (eN (rCl pIsi (raCons (rVar 1) (raCons (rC (.ty "tuple")) (raNil))))))) (bE (eN (rOp pNe (rCl pLen (raCons (rVar 0) (raNil))) (rCl pLen (raCons (rVar 1) (raNil))))))) (sRet (eC (.bl false))) (sNil)) (sRet (eOp pEq (gOwn (eCl pLen (aCons (gOwn (eLC (itR1 (aCons (gOwn (eN (rCl pLen (raCons (rVar 0) (raNil))))) (aNil))) [2] (tgN 2) (bNot (bE (eCall self (aCons (gOwn (eR (rOp pIx (rVar 0) (rVar 2)))) (aCons (gOwn (eR (rOp pIx (rVar 1) (rVar 2)))) (aNil)))))) (eVar 2))) (aNil)))) (gOwn (eC (.int 0)))))) (sNil)) (sSeq (sIf (bOr (bE (eN (rCl pIsi (raCons (rVar 0) (raCons (rC (.ty "bool")) (raNil)))))) (bOr (bE (eN (rOp pIsN (rVar 0) (rC .non)))) (bE (eN (rCl pIsi (raCons (rVar 0) (raCons (rC (.ty "str")) (raNil)))))))) (sRet (eAnd (eN (rOp pEq (rCl pIsi (raCons (rVar 0) (raCons (rC (.ty "bool")) (raNil)))) (rCl pIsi (raCons (rVar 1) (raCons (rC (.ty "bool")) (raNil)))))) (eN (rOp pEq (rVar 0) (rVar 1))))) (sNil)) (sRet (eAnd (eCall m__law_is_int (aCons (gRef 0) (aNil))) (eAnd (eCall m__law_is_int (aCons (gRef 1) (aNil))) (eN (rOp pEq (rVar 0) (rVar 1)))))))
def m__law_same : Nat → FM
  | 0 => fBad
  | n + 1 => fnM 2 3 [] (b_m__law_same n (m__law_same n))
def b_m__law_rare : SM := sRet (eOp pEq (gOwn (eCall m__law_draw (aCons (gRef 0) (aCons (gRef 1) (aNil))))) (gOwn (eN (rOp pDiv (rVar 1) (rC (.int 2))))))
def m__law_rare : FM := fnM 2 2 [] b_m__law_rare
/-! ### the pure functions -/
def b_m__law_kinds : SM := sSeq (sAsg (eC (.str "mark num size count gap ")) (tgN 1)) (sSeq (sIf (bE (eN (rOp pGt (rVar 0) (rC (.int 0))))) (sAsg (eN (rOp pAdd (rVar 1) (rC (.str "part maybe many grow since nest ")))) (tgN 1)) (sNil)) (sSeq (sIf (bE (eN (rOp pGt (rVar 0) (rC (.int 1))))) (sAsg (eN (rOp pAdd (rVar 1) (rC (.str "pick ")))) (tgN 1)) (sNil)) (sRet (eSM1 pSplit (eN (rOp pAdd (rVar 1) (rC (.str "sum roll pad free rest inner")))) (gOwn (eC (.str " ")))))))
def m__law_kinds : FM := fnM 1 2 [] b_m__law_kinds
def b_m__law_figure : SM := sSeq (sAsg (eCall m__law_draw (aCons (gRef 0) (aCons (gOwn (eC (.int 4))) (aNil)))) (tgN 1)) (sSeq (sIf (bE (eN (rOp pEq (rVar 1) (rC (.int 0))))) (sRet (eCall m__law_draw (aCons (gRef 0) (aCons (gOwn (eC (.int 10000))) (aNil))))) (sNil)) (sSeq (sIf (bE (eN (rOp pEq (rVar 1) (rC (.int 1))))) (sRet (eCall m__law_pick (aCons (gRef 0) (aCons (gOwn (eLst (aCons (gOwn (eC (.int 1))) (aCons (gOwn (eC (.int 9))) (aCons (gOwn (eC (.int 10))) (aCons (gOwn (eC (.int 99))) (aCons (gOwn (eC (.int 0))) (aCons (gOwn (eC (.int 100))) (aCons (gOwn (eC (.int 999))) (aCons (gOwn (eC (.int 1000))) (aCons (gOwn (eC (.int 9999))) (aNil)))))))))))) (aNil))))) (sNil)) (sRet (eCall m__law_draw (aCons (gRef 0) (aCons (gOwn (eC (.int 10))) (aNil)))))))
def m__law_figure : FM := fnM 1 2 [] b_m__law_figure
def b_m__law_words : SM := sSeq (sAsg (eC (.str "format base version mark num in size count gap sum roll over by of to pad free rest part maybe many ")) (tgN 0)) (sRet (eSM1 pSplit (eN (rOp pAdd (rVar 0) (rC (.str "pick case grow since nest inner")))) (gOwn (eC (.str " ")))))
def m__law_words : FM := fnM 0 1 [] b_m__law_words
def b_m__law_plain_words : SM := sSeq (sAsg (eC (.str "never end any cell keep tell fork jump round check within put bump up down add less turn seen none plain ")) (tgN 0)) (sSeq (sAsg (eN (rOp pAdd (rVar 0) (rC (.str "sheet watcher least one two body files kind inside turns new value cells file name tree item block ")))) (tgN 0)) (sSeq (sAsg (eN (rOp pAdd (rVar 0) (rC (.str "text length then else if while for do let set get at from is not and or as with all each repeat ")))) (tgN 0)) (sRet (eSM1 pSplit (eN (rOp pAdd (rVar 0) (rC (.str "times bytes word char list map header data flags crc big n s c p0 k0 c0")))) (gOwn (eC (.str " ")))))))
def m__law_plain_words : FM := fnM 0 1 [] b_m__law_plain_words
def b_m__law_name : SM := sSeq (sAsg (eC (.str "abcdefghijklmnopqrstuvwxyz")) (tgN 1)) (sSeq (sAsg (eN (rOp pAdd (rVar 1) (rC (.str "0123456789")))) (tgN 2)) (sSeq (sAsg (eCall m__law_draw (aCons (gRef 0) (aCons (gOwn (eC (.int 7))) (aNil)))) (tgN 3)) (sSeq (sAsg (eOp (fun x y => immO (pIx x y)) (gRef 1) (gOwn (eCall m__law_draw (aCons (gRef 0) (aCons (gOwn (eC (.int 26))) (aNil)))))) (tgN 4)) (sSeq (sIf (bE (eN (rOp pEq (rVar 3) (rC (.int 2))))) (sAsg (eOp pAdd (gOwn (eCall m__law_pick (aCons (gRef 0) (aCons (gOwn (eCall m__law_words aNil)) (aNil))))) (gOwn (eOp (fun x y => immO (pIx x y)) (gRef 2) (gOwn (eCall m__law_draw (aCons (gRef 0) (aCons (gOwn (eC (.int 36))) (aNil)))))))) (tgN 4)) (sIf (bE (eN (rOp pEq (rVar 3) (rC (.int 3))))) (sAsg (eSl pSl (gOwn (eCall m__law_pick (aCons (gRef 0) (aCons (gOwn (eCall m__law_words aNil)) (aNil))))) (oNone) (oSome (eN (rUn pNeg (rC (.int 1)))))) (tgN 4)) (sIf (bE (eN (rOp pEq (rVar 3) (rC (.int 4))))) (sAsg (eCall m__law_pick (aCons (gRef 0) (aCons (gOwn (eCall m__law_plain_words aNil)) (aNil)))) (tgN 4)) (sIf (bE (eN (rOp pGt (rVar 3) (rC (.int 4))))) (sFor (itR1 (aCons (gOwn (eCall m__law_draw (aCons (gRef 0) (aCons (gOwn (eC (.int 8))) (aNil))))) (aNil))) (tgN 5) (sAsg (eOp pAdd (gRef 4) (gOwn (eOp (fun x y => immO (pIx x y)) (gRef 2) (gOwn (eCall m__law_draw (aCons (gRef 0) (aCons (gOwn (eC (.int 36))) (aNil)))))))) (tgN 4))) (sNil))))) (sSeq (sIf (bE (eOp pIn (gRef 4) (gOwn (eCall m__law_words aNil)))) (sAsg (eN (rOp pAdd (rVar 4) (rC (.str "0")))) (tgN 4)) (sNil)) (sRet (eVar 4)))))))
def m__law_name : FM := fnM 1 6 [] b_m__law_name
def b_m__law_pop : SM := sRet (eMeth "list" 1 pPopAt (aCons (gOwn (eCall m__law_draw (aCons (gRef 0) (aCons (gOwn (eN (rCl pLen (raCons (rVar 1) (raNil))))) (aNil))))) (aNil)))
def m__law_pop : FM := fnM 2 2 [] b_m__law_pop
def b_m__law_short : SM := sSeq (sIf (bE (eN (rOp pEq (rVar 1) (rC (.str "mark"))))) (sRet (eTup (aCons (gOwn (eVar 1)) (aCons (gOwn (eCl pTuple (aCons (gOwn (eLC (itR1 (aCons (gOwn (eCall m__law_pick (aCons (gRef 0) (aCons (gOwn (eLst (aCons (gOwn (eC (.int 1))) (aCons (gOwn (eC (.int 1))) (aCons (gOwn (eC (.int 2))) (aCons (gOwn (eC (.int 3))) (aCons (gOwn (eC (.int 12))) (aCons (gOwn (eC (.int 2))) (aNil))))))))) (aNil))))) (aNil))) [4] (tgN 4) (bYes) (eCall m__law_figure (aCons (gRef 0) (aNil))))) (aNil)))) (aNil))))) (sNil)) (sSeq (sAsg (eCall m__law_name (aCons (gRef 0) (aNil))) (tgN 2)) (sSeq (sIf (bE (eN (rOp pEq (rVar 1) (rC (.str "rest"))))) (sRet (eTup (aCons (gOwn (eVar 1)) (aCons (gOwn (eVar 2)) (aNil))))) (sNil)) (sSeq (sIf (bE (eN (rOp pEq (rVar 1) (rC (.str "inner"))))) (sRet (eTup (aCons (gOwn (eVar 1)) (aCons (gOwn (eVar 2)) (aCons (gOwn (eCall m__law_name (aCons (gRef 0) (aNil)))) (aNil)))))) (sNil)) (sSeq (sAsg (eCall m__law_figure (aCons (gRef 0) (aNil))) (tgN 3)) (sSeq (sIf (bE (eOp pIn (gRef 1) (gOwn (eTup (aCons (gOwn (eC (.str "size"))) (aCons (gOwn (eC (.str "count"))) (aCons (gOwn (eC (.str "gap"))) (aNil)))))))) (sRet (eTup (aCons (gOwn (eVar 1)) (aCons (gOwn (eVar 2)) (aCons (gOwn (eVar 3)) (aCons (gOwn (eCall m__law_name (aCons (gRef 0) (aNil)))) (aNil))))))) (sNil)) (sSeq (sIf (bE (eN (rOp pEq (rVar 1) (rC (.str "sum"))))) (sRet (eTup (aCons (gOwn (eVar 1)) (aCons (gOwn (eVar 2)) (aCons (gOwn (eVar 3)) (aCons (gOwn (eCall m__law_name (aCons (gRef 0) (aNil)))) (aCons (gOwn (eCall m__law_name (aCons (gRef 0) (aNil)))) (aNil)))))))) (sNil)) (sSeq (sIf (bE (eN (rOp pEq (rVar 1) (rC (.str "roll"))))) (sRet (eTup (aCons (gOwn (eVar 1)) (aCons (gOwn (eVar 2)) (aCons (gOwn (eVar 3)) (aCons (gOwn (eCall m__law_figure (aCons (gRef 0) (aNil)))) (aCons (gOwn (eCall m__law_name (aCons (gRef 0) (aNil)))) (aCons (gOwn (eCall m__law_name (aCons (gRef 0) (aNil)))) (aNil))))))))) (sNil)) (sSeq (sIf (bAnd (bE (eN (rOp pEq (rVar 1) (rC (.str "num"))))) (bE (eOp pEq (gOwn (eCall m__law_draw (aCons (gRef 0) (aCons (gOwn (eC (.int 2))) (aNil))))) (gOwn (eC (.int 0)))))) (sRet (eTup (aCons (gOwn (eVar 1)) (aCons (gOwn (eVar 2)) (aCons (gOwn (eVar 3)) (aCons (gOwn (eC .non)) (aNil))))))) (sNil)) (sSeq (sIf (bE (eN (rOp pEq (rVar 1) (rC (.str "num"))))) (sRet (eTup (aCons (gOwn (eVar 1)) (aCons (gOwn (eVar 2)) (aCons (gOwn (eVar 3)) (aCons (gOwn (eTup (aCons (gOwn (eCall m__law_figure (aCons (gRef 0) (aNil)))) (aCons (gOwn (eCall m__law_figure (aCons (gRef 0) (aNil)))) (aNil))))) (aNil))))))) (sNil)) (sRet (eTup (aCons (gOwn (eVar 1)) (aCons (gOwn (eVar 2)) (aCons (gOwn (eVar 3)) (aNil)))))))))))))))
def m__law_short : FM := fnM 2 5 [] b_m__law_short
def b_m__law_item (r__law_item r__law_holder r__law_inside : FM) : SM := sSeq (sAugIx 3 (rC (.int 0)) pIxL (eC (.int 16)) pSub pSetL) (sSeq (sIf (bE (eOp pIn (gRef 1) (gOwn (eTup (aCons (gOwn (eC (.str "part"))) (aCons (gOwn (eC (.str "maybe"))) (aCons (gOwn (eC (.str "many"))) (aCons (gOwn (eC (.str "grow"))) (aCons (gOwn (eC (.str "since"))) (aCons (gOwn (eC (.str "nest"))) (aCons (gOwn (eC (.str "pick"))) (aNil)))))))))))) (sRet (eCall r__law_holder (aCons (gRef 0) (aCons (gRef 1) (aCons (gRef 2) (aCons (gRef 3) (aNil))))))) (sNil)) (sRet (eCall m__law_short (aCons (gRef 0) (aCons (gRef 1) (aNil))))))
def b_m__law_holder (r__law_item r__law_holder r__law_inside : FM) : SM := sSeq (sIf (bE (eN (rOp pEq (rVar 1) (rC (.str "since"))))) (sRet (eTup (aCons (gOwn (eVar 1)) (aCons (gOwn (eCall m__law_figure (aCons (gRef 0) (aNil)))) (aCons (gOwn (eCall r__law_inside (aCons (gRef 0) (aCons (gOwn (eN (rOp pSub (rVar 2) (rC (.int 1))))) (aCons (gRef 3) (aNil)))))) (aNil)))))) (sNil)) (sSeq (sAsg (eCall m__law_name (aCons (gRef 0) (aNil))) (tgN 4)) (sSeq (sIf (bE (eN (rOp pEq (rVar 1) (rC (.str "pick"))))) (sSeq (sAsg (eLst (aNil)) (tgN 5)) (sSeq (sFor (itR1 (aCons (gOwn (eOp pAdd (gOwn (eC (.int 1))) (gOwn (eCall m__law_draw (aCons (gRef 0) (aCons (gOwn (eC (.int 3))) (aNil))))))) (aNil))) (tgN 6) (sSeq (sAsg (eCall m__law_name (aCons (gRef 0) (aNil))) (tgN 8)) (sExpr (eMeth "list" 5 pAppend (aCons (gOwn (eTup (aCons (gOwn (eVar 8)) (aCons (gOwn (eCall r__law_inside (aCons (gRef 0) (aCons (gOwn (eN (rOp pSub (rVar 2) (rC (.int 2))))) (aCons (gRef 3) (aNil)))))) (aNil))))) (aNil)))))) (sRet (eTup (aCons (gOwn (eVar 1)) (aCons (gOwn (eVar 4)) (aCons (gOwn (eN (rCl pTuple (raCons (rVar 5) (raNil))))) (aNil)))))))) (sNil)) (sSeq (sIf (bE (eOp pIn (gRef 1) (gOwn (eTup (aCons (gOwn (eC (.str "grow"))) (aCons (gOwn (eC (.str "nest"))) (aNil))))))) (sSeq (sAsg (eCall m__law_figure (aCons (gRef 0) (aNil))) (tgN 7)) (sRet (eTup (aCons (gOwn (eVar 1)) (aCons (gOwn (eVar 4)) (aCons (gOwn (eVar 7)) (aCons (gOwn (eCall r__law_inside (aCons (gRef 0) (aCons (gOwn (eN (rOp pSub (rVar 2) (rC (.int 1))))) (aCons (gRef 3) (aNil)))))) (aNil)))))))) (sNil)) (sRet (eTup (aCons (gOwn (eVar 1)) (aCons (gOwn (eVar 4)) (aCons (gOwn (eCall r__law_inside (aCons (gRef 0) (aCons (gOwn (eN (rOp pSub (rVar 2) (rC (.int 1))))) (aCons (gRef 3) (aNil)))))) (aNil)))))))))
def b_m__law_inside (r__law_item r__law_holder r__law_inside : FM) : SM := sSeq (sAsg (eLst (aNil)) (tgN 3)) (sSeq (sFor (itR1 (aCons (gOwn (eCall m__law_draw (aCons (gRef 0) (aCons (gOwn (eC (.int 4))) (aNil))))) (aNil))) (tgN 4) (sIf (bE (eN (rOp pGe (rOp pIx (rVar 2) (rC (.int 0))) (rC (.int 16))))) (sExpr (eMeth "list" 3 pAppend (aCons (gOwn (eCall r__law_item (aCons (gRef 0) (aCons (gOwn (eCall m__law_pick (aCons (gRef 0) (aCons (gOwn (eCall m__law_kinds (aCons (gRef 1) (aNil)))) (aNil))))) (aCons (gRef 1) (aCons (gRef 2) (aNil))))))) (aNil)))) (sNil))) (sRet (eN (rCl pTuple (raCons (rVar 3) (raNil))))))
mutual
def m__law_item : Nat → FM
  | 0 => fBad
  | n + 1 => fnM 4 4 [] (b_m__law_item (m__law_item n) (m__law_holder n) (m__law_inside n))
def m__law_holder : Nat → FM
  | 0 => fBad
  | n + 1 => fnM 4 9 [] (b_m__law_holder (m__law_item n) (m__law_holder n) (m__law_inside n))
def m__law_inside : Nat → FM
  | 0 => fBad
  | n + 1 => fnM 3 5 [] (b_m__law_inside (m__law_item n) (m__law_holder n) (m__law_inside n))
end
def b_m__law_any_tree : SM := sSeq (sAsg (eLst (aCons (gOwn (eVar 1)) (aNil))) (tgN 2)) (sSeq (sAsg (eCall m__law_pick (aCons (gRef 0) (aCons (gOwn (eLst (aCons (gOwn (eC (.int 2))) (aCons (gOwn (eC (.int 4))) (aCons (gOwn (eC (.int 11))) (aCons (gOwn (eC (.int 3))) (aNil))))))) (aNil)))) (tgN 3)) (sSeq (sAsg (eCall m__law_kinds (aCons (gOwn (eC (.int 2))) (aNil))) (tgN 4)) (sSeq (sIf (bE (eOp pEq (gOwn (eCall m__law_draw (aCons (gRef 0) (aCons (gOwn (eC (.int 2))) (aNil))))) (gOwn (eC (.int 0))))) (sAsg (eLC (itR1 (aCons (gOwn (eN (rCl pLen (raCons (rVar 4) (raNil))))) (aNil))) [8] (tgN 8) (bYes) (eCall m__law_pop (aCons (gRef 0) (aCons (gRef 4) (aNil))))) (tgN 4)) (sAsg (eLC (itR1 (aCons (gOwn (eCall m__law_draw (aCons (gRef 0) (aCons (gOwn (eC (.int 8))) (aNil))))) (aNil))) [8] (tgN 8) (bYes) (eCall m__law_pick (aCons (gRef 0) (aCons (gRef 4) (aNil))))) (tgN 4))) (sSeq (sAsg (eLst (aNil)) (tgN 5)) (sSeq (sForVS 4 (tgN 6) (sIf (bE (eN (rOp pGe (rOp pIx (rVar 2) (rC (.int 0))) (rC (.int 16))))) (sExpr (eMeth "list" 5 pAppend (aCons (gOwn (eCall (m__law_item 40) (aCons (gRef 0) (aCons (gRef 6) (aCons (gRef 3) (aCons (gRef 2) (aNil))))))) (aNil)))) (sNil))) (sSeq (sAsg (eC (.int 1)) (tgN 7)) (sSeq (sIf (bE (eOp pEq (gOwn (eCall m__law_draw (aCons (gRef 0) (aCons (gOwn (eC (.int 2))) (aNil))))) (gOwn (eC (.int 0))))) (sAsg (eCall m__law_figure (aCons (gRef 0) (aNil))) (tgN 7)) (sNil)) (sRet (eTup (aCons (gOwn (eC (.str "format"))) (aCons (gOwn (eCall m__law_name (aCons (gRef 0) (aNil)))) (aCons (gOwn (eCall m__law_figure (aCons (gRef 0) (aNil)))) (aCons (gOwn (eVar 7)) (aCons (gOwn (eN (rCl pTuple (raCons (rVar 5) (raNil))))) (aNil)))))))))))))))
def m__law_any_tree : FM := fnM 2 9 [] b_m__law_any_tree
def b_m__law_tokens (n : Nat) (self : FM) : SM := sSeq (sAsg (eLst (aCons (gOwn (eC (.str "{"))) (aNil))) (tgN 1)) (sSeq (sForVS 0 (tgN 2) (sSeq (sAsg (eR (rOp pIx (rVar 2) (rC (.int 0)))) (tgN 3)) (sSeq (sExpr (eMeth "list" 1 pAppend (aCons (gOwn (eVar 3)) (aNil)))) (sSeq (sIf (bE (eN (rOp pEq (rVar 3) (rC (.str "mark"))))) (sExpr (eMethB "list" 1 pExtend (aCons (gOwn (eLC (itS (eR (rOp pIx (rVar 2) (rC (.int 1))))) [5] (tgN 5) (bYes) (eN (rCl pStr (raCons (rVar 5) (raNil)))))) (aNil)))) (sIf (bE (eN (rOp pEq (rVar 3) (rC (.str "pick"))))) (sSeq (sExpr (eMethB "list" 1 pExtend (aCons (gOwn (eLst (aCons (gOwn (eR (rOp pIx (rVar 2) (rC (.int 1))))) (aCons (gOwn (eC (.str "{"))) (aNil))))) (aNil)))) (sSeq (sFor (itS (eR (rOp pIx (rVar 2) (rC (.int 2))))) (tgN 4) (sSeq (sExpr (eMethB "list" 1 pExtend (aCons (gOwn (eLst (aCons (gOwn (eC (.str "case"))) (aCons (gOwn (eR (rOp pIx (rVar 4) (rC (.int 0))))) (aNil))))) (aNil)))) (sExpr (eMethB "list" 1 pExtend (aCons (gOwn (eCall self (aCons (gOwn (eR (rOp pIx (rVar 4) (rC (.int 1))))) (aNil)))) (aNil)))))) (sExpr (eMeth "list" 1 pAppend (aCons (gOwn (eC (.str "}"))) (aNil)))))) (sIf (bE (eOp pIn (gRef 3) (gOwn (eTup (aCons (gOwn (eC (.str "part"))) (aCons (gOwn (eC (.str "maybe"))) (aCons (gOwn (eC (.str "many"))) (aCons (gOwn (eC (.str "grow"))) (aCons (gOwn (eC (.str "nest"))) (aCons (gOwn (eC (.str "since"))) (aNil))))))))))) (sSeq (sExpr (eMethB "list" 1 pExtend (aCons (gOwn (eLC (itS (eSl pSl (gRef 2) (oSome (eC (.int 1))) (oSome (eN (rUn pNeg (rC (.int 1))))))) [6] (tgN 6) (bYes) (eN (rCl pStr (raCons (rVar 6) (raNil)))))) (aNil)))) (sExpr (eMethB "list" 1 pExtend (aCons (gOwn (eCall self (aCons (gOwn (eR (rOp pIx (rVar 2) (rUn pNeg (rC (.int 1)))))) (aNil)))) (aNil))))) (sSeq (sExpr (eMethB "list" 1 pExtend (aCons (gOwn (eLC (itS (eSl pSl (gRef 2) (oSome (eC (.int 1))) (oSome (eC (.int 3))))) [6] (tgN 6) (bYes) (eN (rCl pStr (raCons (rVar 6) (raNil)))))) (aNil)))) (sIf (bAnd (bE (eN (rOp pEq (rVar 3) (rC (.str "num"))))) (bE (eN (rOp pNotN (rOp pIx (rVar 2) (rC (.int 3))) (rC .non))))) (sExpr (eMethB "list" 1 pExtend (aCons (gOwn (eLst (aCons (gOwn (eC (.str "in"))) (aCons (gOwn (eN (rCl pStr (raCons (rOp pIx (rOp pIx (rVar 2) (rC (.int 3))) (rC (.int 0))) (raNil))))) (aCons (gOwn (eC (.str ".."))) (aCons (gOwn (eN (rCl pStr (raCons (rOp pIx (rOp pIx (rVar 2) (rC (.int 3))) (rC (.int 1))) (raNil))))) (aNil))))))) (aNil)))) (sIf (bE (eOp pIn (gRef 3) (gOwn (eTup (aCons (gOwn (eC (.str "size"))) (aCons (gOwn (eC (.str "count"))) (aNil))))))) (sExpr (eMethB "list" 1 pExtend (aCons (gOwn (eLst (aCons (gOwn (eC (.str "of"))) (aCons (gOwn (eR (rOp pIx (rVar 2) (rC (.int 3))))) (aNil))))) (aNil)))) (sIf (bE (eN (rOp pEq (rVar 3) (rC (.str "gap"))))) (sExpr (eMethB "list" 1 pExtend (aCons (gOwn (eLst (aCons (gOwn (eC (.str "to"))) (aCons (gOwn (eR (rOp pIx (rVar 2) (rC (.int 3))))) (aNil))))) (aNil)))) (sIf (bE (eN (rOp pEq (rVar 3) (rC (.str "inner"))))) (sAsg (eOp pAdd (gOwn (eSl pSl (gRef 1) (oNone) (oSome (eN (rUn pNeg (rC (.int 1))))))) (gOwn (eLst (aCons (gOwn (eC (.str "of"))) (aCons (gOwn (eR (rOp pIx (rVar 2) (rC (.int 2))))) (aNil)))))) (tgN 1)) (sIf (bE (eN (rOp pEq (rVar 3) (rC (.str "sum"))))) (sExpr (eMethB "list" 1 pExtend (aCons (gOwn (eLst (aCons (gOwn (eC (.str "over"))) (aCons (gOwn (eR (rOp pIx (rVar 2) (rC (.int 3))))) (aCons (gOwn (eC (.str ".."))) (aCons (gOwn (eR (rOp pIx (rVar 2) (rC (.int 4))))) (aNil))))))) (aNil)))) (sIf (bE (eN (rOp pEq (rVar 3) (rC (.str "roll"))))) (sExpr (eMethB "list" 1 pExtend (aCons (gOwn (eLst (aCons (gOwn (eC (.str "by"))) (aCons (gOwn (eN (rCl pStr (raCons (rOp pIx (rVar 2) (rC (.int 3))) (raNil))))) (aCons (gOwn (eC (.str "over"))) (aCons (gOwn (eR (rOp pIx (rVar 2) (rC (.int 4))))) (aCons (gOwn (eC (.str ".."))) (aCons (gOwn (eR (rOp pIx (rVar 2) (rC (.int 5))))) (aNil))))))))) (aNil)))) (sNil))))))))))) (sIf (bE (eOp pNotIn (gRef 3) (gOwn (eTup (aCons (gOwn (eC (.str "pick"))) (aCons (gOwn (eC (.str "part"))) (aCons (gOwn (eC (.str "maybe"))) (aCons (gOwn (eC (.str "many"))) (aCons (gOwn (eC (.str "grow"))) (aCons (gOwn (eC (.str "nest"))) (aCons (gOwn (eC (.str "since"))) (aNil)))))))))))) (sExpr (eMeth "list" 1 pAppend (aCons (gOwn (eC (.str ";"))) (aNil)))) (sNil)))))) (sSeq (sExpr (eMeth "list" 1 pAppend (aCons (gOwn (eC (.str "}"))) (aNil)))) (sRet (eVar 1))))
def m__law_tokens : Nat → FM
  | 0 => fBad
  | n + 1 => fnM 1 7 [] (b_m__law_tokens n (m__law_tokens n))
def b_m__law_all_tokens : SM := sSeq (sAsg (eLst (aCons (gOwn (eC (.str "format"))) (aCons (gOwn (eR (rOp pIx (rVar 0) (rC (.int 1))))) (aCons (gOwn (eC (.str "base"))) (aCons (gOwn (eN (rCl pStr (raCons (rOp pIx (rVar 0) (rC (.int 2))) (raNil))))) (aNil)))))) (tgN 1)) (sSeq (sIf (bE (eN (rOp pNe (rOp pIx (rVar 0) (rC (.int 3))) (rC (.int 1))))) (sExpr (eMethB "list" 1 pExtend (aCons (gOwn (eLst (aCons (gOwn (eC (.str "version"))) (aCons (gOwn (eN (rCl pStr (raCons (rOp pIx (rVar 0) (rC (.int 3))) (raNil))))) (aNil))))) (aNil)))) (sNil)) (sRet (eOp pAdd (gRef 1) (gOwn (eCall (m__law_tokens 20) (aCons (gOwn (eR (rOp pIx (rVar 0) (rC (.int 4))))) (aNil)))))))
def m__law_all_tokens : FM := fnM 1 2 [] b_m__law_all_tokens
def b_m__law_filled : SM := sSeq (sAsg (eOp pSub (gOwn (eC (.int 1998))) (gOwn (eCl pLen (aCons (gOwn (eCall m__law_all_tokens (aCons (gRef 1) (aNil)))) (aNil))))) (tgN 2)) (sSeq (sAsg (eCall m__law_draw (aCons (gRef 0) (aCons (gOwn (eC (.int 3))) (aNil)))) (tgN 3)) (sSeq (sAsg (eCall m__law_figure (aCons (gRef 0) (aNil))) (tgN 4)) (sSeq (sIf (bE (eN (rOp pEq (rVar 3) (rC (.int 0))))) (sAsg (eCl pTuple (aCons (gOwn (eLC (itR1 (aCons (gOwn (eN (rOp pDiv (rVar 2) (rC (.int 3))))) (aNil))) [6] (tgN 6) (bYes) (eTup (aCons (gOwn (eC (.str "rest"))) (aCons (gOwn (eN (rOp pAdd (rC (.str "r")) (rCl pStr (raCons (rVar 6) (raNil)))))) (aNil)))))) (aNil))) (tgN 5)) (sIf (bE (eN (rOp pEq (rVar 3) (rC (.int 1))))) (sAsg (eTup (aCons (gOwn (eTup (aCons (gOwn (eC (.str "pick"))) (aCons (gOwn (eCall m__law_name (aCons (gRef 0) (aNil)))) (aCons (gOwn (eCl pTuple (aCons (gOwn (eLC (itR1 (aCons (gOwn (eN (rOp pDiv (rOp pSub (rVar 2) (rC (.int 4))) (rC (.int 4))))) (aNil))) [6] (tgN 6) (bYes) (eTup (aCons (gOwn (eN (rOp pAdd (rC (.str "c")) (rCl pStr (raCons (rVar 6) (raNil)))))) (aCons (gOwn (eTup (aNil))) (aNil)))))) (aNil)))) (aNil)))))) (aNil))) (tgN 5)) (sAsg (eTup (aCons (gOwn (eTup (aCons (gOwn (eC (.str "mark"))) (aCons (gOwn (eCl pTuple (aCons (gOwn (eLC (itR1 (aCons (gOwn (eN (rOp pSub (rVar 2) (rC (.int 2))))) (aNil))) [6] (tgN 6) (bYes) (eN (rOp pMod (rCl pInt (raCons (rOp pAdd (rVar 4) (rOp pMul (rC (.int 37)) (rVar 6))) (raNil))) (rC (.int 10000)))))) (aNil)))) (aNil))))) (aNil))) (tgN 5)))) (sRet (eOp pAdd (gOwn (eSl pSl (gRef 1) (oNone) (oSome (eC (.int 4))))) (gOwn (eTup (aCons (gOwn (eN (rOp pAdd (rOp pIx (rVar 1) (rC (.int 4))) (rVar 5)))) (aNil)))))))))
def m__law_filled : FM := fnM 2 7 [] b_m__law_filled
def b_m_add_short : SM := sSeq (sAsg (eR (rOp pIx (rVar 1) (rC (.int 0)))) (tgN 2)) (sSeq (sExpr (eMeth "list" 0 pAppend (aCons (gOwn (eVar 2)) (aNil)))) (sSeq (sIf (bE (eN (rOp pEq (rVar 2) (rC (.str "mark"))))) (sSeq (sFor (itS (eR (rOp pIx (rVar 1) (rC (.int 1))))) (tgN 3) (sExpr (eMeth "list" 0 pAppend (aCons (gOwn (eN (rCl pStr (raCons (rVar 3) (raNil))))) (aNil))))) (sRetN)) (sNil)) (sSeq (sExpr (eMeth "list" 0 pAppend (aCons (gOwn (eR (rOp pIx (rVar 1) (rC (.int 1))))) (aNil)))) (sSeq (sIf (bE (eN (rOp pEq (rVar 2) (rC (.str "inner"))))) (sExpr (eMethB "list" 0 pExtend (aCons (gOwn (eLst (aCons (gOwn (eC (.str "of"))) (aCons (gOwn (eR (rOp pIx (rVar 1) (rC (.int 2))))) (aNil))))) (aNil)))) (sIf (bE (eN (rOp pNe (rVar 2) (rC (.str "rest"))))) (sExpr (eMeth "list" 0 pAppend (aCons (gOwn (eN (rCl pStr (raCons (rOp pIx (rVar 1) (rC (.int 2))) (raNil))))) (aNil)))) (sNil))) (sIf (bAnd (bE (eN (rOp pEq (rVar 2) (rC (.str "num"))))) (bE (eN (rOp pNotN (rOp pIx (rVar 1) (rC (.int 3))) (rC .non))))) (sExpr (eMethB "list" 0 pExtend (aCons (gOwn (eLst (aCons (gOwn (eC (.str "in"))) (aCons (gOwn (eN (rCl pStr (raCons (rOp pIx (rOp pIx (rVar 1) (rC (.int 3))) (rC (.int 0))) (raNil))))) (aCons (gOwn (eC (.str ".."))) (aCons (gOwn (eN (rCl pStr (raCons (rOp pIx (rOp pIx (rVar 1) (rC (.int 3))) (rC (.int 1))) (raNil))))) (aNil))))))) (aNil)))) (sIf (bE (eOp pIn (gRef 2) (gOwn (eTup (aCons (gOwn (eC (.str "size"))) (aCons (gOwn (eC (.str "count"))) (aNil))))))) (sExpr (eMethB "list" 0 pExtend (aCons (gOwn (eLst (aCons (gOwn (eC (.str "of"))) (aCons (gOwn (eR (rOp pIx (rVar 1) (rC (.int 3))))) (aNil))))) (aNil)))) (sIf (bE (eN (rOp pEq (rVar 2) (rC (.str "gap"))))) (sExpr (eMethB "list" 0 pExtend (aCons (gOwn (eLst (aCons (gOwn (eC (.str "to"))) (aCons (gOwn (eR (rOp pIx (rVar 1) (rC (.int 3))))) (aNil))))) (aNil)))) (sIf (bE (eN (rOp pEq (rVar 2) (rC (.str "sum"))))) (sExpr (eMethB "list" 0 pExtend (aCons (gOwn (eLst (aCons (gOwn (eC (.str "over"))) (aCons (gOwn (eR (rOp pIx (rVar 1) (rC (.int 3))))) (aCons (gOwn (eC (.str ".."))) (aCons (gOwn (eR (rOp pIx (rVar 1) (rC (.int 4))))) (aNil))))))) (aNil)))) (sIf (bE (eN (rOp pEq (rVar 2) (rC (.str "roll"))))) (sExpr (eMethB "list" 0 pExtend (aCons (gOwn (eLst (aCons (gOwn (eC (.str "by"))) (aCons (gOwn (eN (rCl pStr (raCons (rOp pIx (rVar 1) (rC (.int 3))) (raNil))))) (aCons (gOwn (eC (.str "over"))) (aCons (gOwn (eR (rOp pIx (rVar 1) (rC (.int 4))))) (aCons (gOwn (eC (.str ".."))) (aCons (gOwn (eR (rOp pIx (rVar 1) (rC (.int 5))))) (aNil))))))))) (aNil)))) (sNil))))))))))
def m_add_short : FM := fnM 2 4 [] b_m_add_short
def b_m_add_block (r_add_block r_add_item r_add_holder : FM) : SM := sSeq (sExpr (eMeth "list" 0 pAppend (aCons (gOwn (eC (.str "{"))) (aNil)))) (sSeq (sForVS 1 (tgN 2) (sExpr (eCall r_add_item (aCons (gRef 0) (aCons (gRef 2) (aNil)))))) (sExpr (eMeth "list" 0 pAppend (aCons (gOwn (eC (.str "}"))) (aNil)))))
def b_m_add_item (r_add_block r_add_item r_add_holder : FM) : SM := sIf (bE (eOp pIn (gOwn (eR (rOp pIx (rVar 1) (rC (.int 0))))) (gOwn (eTup (aCons (gOwn (eC (.str "part"))) (aCons (gOwn (eC (.str "maybe"))) (aCons (gOwn (eC (.str "many"))) (aCons (gOwn (eC (.str "pick"))) (aCons (gOwn (eC (.str "grow"))) (aCons (gOwn (eC (.str "since"))) (aCons (gOwn (eC (.str "nest"))) (aNil)))))))))))) (sExpr (eCall r_add_holder (aCons (gRef 0) (aCons (gRef 1) (aNil))))) (sSeq (sExpr (eCall m_add_short (aCons (gRef 0) (aCons (gRef 1) (aNil))))) (sExpr (eMeth "list" 0 pAppend (aCons (gOwn (eC (.str ";"))) (aNil)))))
def b_m_add_holder (r_add_block r_add_item r_add_holder : FM) : SM := sSeq (sAsg (eR (rOp pIx (rVar 1) (rC (.int 0)))) (tgN 2)) (sSeq (sExpr (eMeth "list" 0 pAppend (aCons (gOwn (eVar 2)) (aNil)))) (sSeq (sIf (bE (eN (rOp pEq (rVar 2) (rC (.str "pick"))))) (sSeq (sExpr (eMethB "list" 0 pExtend (aCons (gOwn (eLst (aCons (gOwn (eR (rOp pIx (rVar 1) (rC (.int 1))))) (aCons (gOwn (eC (.str "{"))) (aNil))))) (aNil)))) (sSeq (sFor (itS (eR (rOp pIx (rVar 1) (rC (.int 2))))) (tgT 2 (tgsCons (tgN 4) (tgsCons (tgN 5) (tgsNil)))) (sSeq (sExpr (eMethB "list" 0 pExtend (aCons (gOwn (eLst (aCons (gOwn (eC (.str "case"))) (aCons (gOwn (eVar 4)) (aNil))))) (aNil)))) (sExpr (eCall r_add_block (aCons (gRef 0) (aCons (gRef 5) (aNil))))))) (sSeq (sExpr (eMeth "list" 0 pAppend (aCons (gOwn (eC (.str "}"))) (aNil)))) (sRetN)))) (sNil)) (sSeq (sFor (itS (eSl pSl (gRef 1) (oSome (eC (.int 1))) (oSome (eN (rUn pNeg (rC (.int 1))))))) (tgN 3) (sExpr (eMeth "list" 0 pAppend (aCons (gOwn (eN (rCl pStr (raCons (rVar 3) (raNil))))) (aNil))))) (sExpr (eCall r_add_block (aCons (gRef 0) (aCons (gOwn (eR (rOp pIx (rVar 1) (rUn pNeg (rC (.int 1)))))) (aNil))))))))
mutual
def m_add_block : Nat → FM
  | 0 => fBad
  | n + 1 => fnM 2 3 [] (b_m_add_block (m_add_block n) (m_add_item n) (m_add_holder n))
def m_add_item : Nat → FM
  | 0 => fBad
  | n + 1 => fnM 2 2 [] (b_m_add_item (m_add_block n) (m_add_item n) (m_add_holder n))
def m_add_holder : Nat → FM
  | 0 => fBad
  | n + 1 => fnM 2 6 [] (b_m_add_holder (m_add_block n) (m_add_item n) (m_add_holder n))
end
def b_m_write_format : SM := sSeq (sAsg (eLst (aCons (gOwn (eC (.str "format"))) (aCons (gOwn (eR (rOp pIx (rVar 0) (rC (.int 1))))) (aCons (gOwn (eC (.str "base"))) (aCons (gOwn (eN (rCl pStr (raCons (rOp pIx (rVar 0) (rC (.int 2))) (raNil))))) (aNil)))))) (tgN 1)) (sSeq (sIf (bE (eN (rOp pNe (rOp pIx (rVar 0) (rC (.int 3))) (rC (.int 1))))) (sExpr (eMethB "list" 1 pExtend (aCons (gOwn (eLst (aCons (gOwn (eC (.str "version"))) (aCons (gOwn (eN (rCl pStr (raCons (rOp pIx (rVar 0) (rC (.int 3))) (raNil))))) (aNil))))) (aNil)))) (sNil)) (sSeq (sExpr (eCall (m_add_block 50) (aCons (gRef 1) (aCons (gOwn (eR (rOp pIx (rVar 0) (rC (.int 4))))) (aNil))))) (sSeq (sAsg (eLst (aNil)) (tgN 2)) (sSeq (sForVS 1 (tgN 3) (sSeq (sExpr (eMeth "list" 2 pAppend (aCons (gOwn (eVar 3)) (aNil)))) (sIf (bE (eOp pIn (gRef 3) (gOwn (eTup (aCons (gOwn (eC (.str "{"))) (aCons (gOwn (eC (.str "}"))) (aCons (gOwn (eC (.str ";"))) (aNil)))))))) (sExpr (eMeth "list" 2 pAppend (aCons (gOwn (eC (.str "\n"))) (aNil)))) (sExpr (eMeth "list" 2 pAppend (aCons (gOwn (eC (.str " "))) (aNil))))))) (sRet (eSM1 pJoin (eC (.str "")) (gRef 2)))))))
def m_write_format : FM := fnM 1 4 [] b_m_write_format
def b_m__law_text : SM := sSeq (sAsg (eLst (aNil)) (tgN 1)) (sSeq (sFor (itS (eCall m__law_all_tokens (aCons (gRef 0) (aNil)))) (tgN 2) (sExpr (eMeth "list" 1 pAppend (aCons (gOwn (eOp pAdd (gRef 2) (gOwn (eOp (fun x y => immO (pIx x y)) (gOwn (eTup (aCons (gOwn (eC (.str " "))) (aCons (gOwn (eC (.str "\n"))) (aNil))))) (gOwn (eCl pInt (aCons (gOwn (eOp pIn (gRef 2) (gOwn (eTup (aCons (gOwn (eC (.str "{"))) (aCons (gOwn (eC (.str "}"))) (aCons (gOwn (eC (.str ";"))) (aNil)))))))) (aNil)))))))) (aNil))))) (sRet (eSM1 pJoin (eC (.str "")) (gRef 1))))
def m__law_text : FM := fnM 1 3 [] b_m__law_text
end PVL

/-! P11: objects of own classes: fields, methods, making. -/
namespace PVL
open PySem PySem.Spec L2
section
variable {K : PySem.W.Frag} {mg : Str → Option Value} {W : WX} {S : List Nat}
theorem ClsAt.uniq {c : Str} {C C' : Addr} (h : ClsAt K c C) (h' : ClsAt K c C') : C = C' := by
  unfold ClsAt at h h'
  rw [h] at h'
  cases h'
  rfl
theorem RVF.lookup {H : Hp} : ∀ {fs : List (Str × PV)} {vs : List (Str × V)} {F : List Addr} {f : Str} {x : PV}, RVF K H fs vs F → fs.lookup f = some x → ∃ v F1, vs.lookup f = some v ∧ RV K H x v F1
  | [], _, _, _, _, _, e => by simp at e
  | (k, y) :: r, vs, F, f, x, h, e => by
    simp only [RVF] at h
    obtain ⟨v, vr, F1, F2, rfl, h1, h2, _⟩ := h
    rw [List.lookup_cons] at e ⊢
    cases q : f == k with
    | true =>
      rw [q] at e
      simp only [Option.some.injEq] at e
      subst e
      exact ⟨v, F1, rfl, h1⟩
    | false =>
      rw [q] at e
      exact RVF.lookup h2 e
theorem RVF.no {H : Hp} : ∀ {fs : List (Str × PV)} {vs : List (Str × V)} {F : List Addr} {f : Str}, RVF K H fs vs F → fs.lookup f = none → vs.lookup f = none
  | [], vs, F, f, h, _ => by simp only [RVF] at h; rw [h.1]; rfl
  | (k, y) :: r, vs, F, f, h, e => by
    simp only [RVF] at h
    obtain ⟨v, vr, F1, F2, rfl, h1, h2, _⟩ := h
    rw [List.lookup_cons] at e ⊢
    cases q : f == k with
    | true => rw [q] at e; cases e
    | false => rw [q] at e; exact RVF.no h2 e
theorem RVF.len {H : Hp} : ∀ {fs : List (Str × PV)} {vs : List (Str × V)} {F : List Addr}, RVF K H fs vs F → vs.length = fs.length
  | [], vs, F, h => by simp only [RVF] at h; rw [h.1]; rfl
  | (k, y) :: r, vs, F, h => by
    simp only [RVF] at h
    obtain ⟨v, vr, F1, F2, rfl, h1, h2, _⟩ := h
    simp [RVF.len h2]
/-- a field is written -/
def putP (f : Str) (x : PV) : List (Str × PV) → List (Str × PV)
  | [] => [(f, x)]
  | (g, y) :: r => if g = f then (g, x) :: r else (g, y) :: putP f x r
theorem RVF.put {H : Hp} {f : Str} {x : PV} {v : V} {Fv : List Addr} (hx : RV K H x v Fv) : ∀ {fs : List (Str × PV)} {vs : List (Str × V)} {F : List Addr}, RVF K H fs vs F →
    ∃ F' G, RVF K H (putP f x fs) (putF f v vs) F' ∧ G.Sublist F ∧ F'.Perm (Fv ++ G)
  | [], vs, F, h => by
    simp only [RVF] at h
    obtain ⟨rfl, rfl⟩ := h
    refine ⟨Fv, [], ?_, .refl _, by simp⟩
    show RVF K H [(f, x)] [(f, v)] Fv
    simp only [RVF]
    exact ⟨v, [], Fv, [], rfl, hx, ⟨rfl, rfl⟩, by simp⟩
  | (g, y) :: r, vs, F, h => by
    simp only [RVF] at h
    obtain ⟨u, vr, F1, F2, rfl, h1, h2, rfl⟩ := h
    by_cases q : g = f
    · refine ⟨Fv ++ F2, F2, ?_, List.sublist_append_right _ _, .refl _⟩
      rw [show putP f x ((g, y) :: r) = (g, x) :: r from if_pos q, show putF f v ((g, u) :: vr) = (g, v) :: vr from if_pos q]
      simp only [RVF]
      exact ⟨v, vr, Fv, F2, rfl, hx, h2, rfl⟩
    · obtain ⟨F', G, a, b, c⟩ := RVF.put hx h2
      refine ⟨F1 ++ F', F1 ++ G, ?_, List.Sublist.append (List.Sublist.refl _) b, ?_⟩
      · rw [show putP f x ((g, y) :: r) = (g, y) :: putP f x r from if_neg q, show putF f v ((g, u) :: vr) = (g, u) :: putF f v vr from if_neg q]
        simp only [RVF]
        exact ⟨u, _, F1, F', rfl, h1, a, rfl⟩
      · refine (List.Perm.append_left F1 c).trans ?_
        rw [← List.append_assoc, ← List.append_assoc]
        exact List.Perm.append_right G List.perm_append_comm
/-- x.f, read -/
def rFld (c f : Str) (m : RM) : RM := fun env => (m env).bind fun x => match x with
  | .obj c' fs => if c' = c then fs.lookup f else none
  | _ => none
theorem im_rFld {C : Addr} {c f : Str} (hc : ClsAt K c C) (k : L2.Cls K C) (n : NoAttr K C f) {t : TE} {m : RM} (h : ImR K t m) : ImR K (tFld K t f) (rFld c f m) := by
  intro σ H Q env F hr hp
  refine h σ H _ env F hr ?_
  unfold rFld at hp
  cases em : m env with
  | none => rw [em] at hp; exact hp.elim
  | some x =>
    rw [em] at hp
    simp only [Option.bind_some] at hp
    intro v H' Fv s rv
    cases x with
    | obj c' fs =>
      simp only at hp
      by_cases q : c' = c
      · subst q
        rw [if_pos rfl] at hp
        simp only [RV] at rv
        obtain ⟨a, dx, vs, F', rfl, ⟨C', hc', e⟩, e2, hf, rfl⟩ := rv
        have := hc.uniq hc'
        subst this
        cases el : fs.lookup f with
        | none => rw [el] at hp; exact hp.elim
        | some y =>
          rw [el] at hp
          obtain ⟨u, F1, l1, r1⟩ := hf.lookup el
          exact ⟨a, _, dx, vs, u, rfl, e, k, n, l1, hp u H' F1 s r1⟩
      · rw [if_neg q] at hp; exact hp.elim
    | _ => exact hp.elim
/-- x.f = e -/
def sFldSet (i : Nat) (c f : Str) (m : EM) : SM := fun env => (m env).toS fun v e => match (match e[i]? with
  | some (some (.obj c' fs)) => if c' = c ∧ fs.length < 1000 then some (PV.obj c (putP f v fs)) else none
  | _ => none) with
  | some p' => .next (e.set i (some p'))
  | none => .bad
/-- a field of a tracked instance is written -/
theorem put_fld {C a dx : Addr} {H2 : Hp} {c f : Str} {fs : List (Str × PV)} {vs : List (Str × V)} {F' Fv : List Addr} {pv : PV} {v : V} (hc : ClsAt K c C) (e : H2 a = some (.ins C dx vs)) (e2 : H2 dx = some (.own a)) (hf : RVF K H2 fs vs F') (hv : RV K H2 pv v Fv)
    (n : (Fv ++ (a :: dx :: F')).Nodup) : ∃ Fx', RV K (upd H2 a (.ins C dx (putF f v vs))) (.obj c (putP f pv fs)) (.ref a) Fx' ∧ Fx'.Nodup ∧ Fm (Fv ++ (a :: dx :: F')) H2 Fx' (upd H2 a (.ins C dx (putF f v vs))) := by
  have nd : a ≠ dx := by
    intro q; subst q; rw [e] at e2; cases e2
  have n1 : ∀ b ∈ Fv, b ≠ a ∧ b ≠ dx := fun b hb => ⟨fun q => by
    subst q; exact (List.nodup_append.mp n).2.2 b hb b List.mem_cons_self rfl, fun q => by
    subst q; exact (List.nodup_append.mp n).2.2 b hb b (List.mem_cons_of_mem _ List.mem_cons_self) rfl⟩
  have n2 := (List.nodup_append.mp n).2.1
  have n3 : a ∉ F' ∧ dx ∉ F' := ⟨fun z => (List.nodup_cons.mp n2).1 (List.mem_cons_of_mem _ z), (List.nodup_cons.mp (List.nodup_cons.mp n2).2).1⟩
  have kk : ∀ (G : List Addr), a ∉ G → ∀ b o, H2 b = some o → (b ∈ G ∨ mutO o = false) → upd H2 a (.ins C dx (putF f v vs)) b = some o := fun G hG b o q m => by
    have : b ≠ a := fun z => by
      subst z
      rcases m with m | m
      · exact hG m
      · rw [e] at q; cases q; cases m
    rw [upd_ne this]; exact q
  have hf' := RVF.keep hf (kk F' n3.1)
  have hv' := RV.keep hv (kk Fv fun z => (n1 a z).1 rfl)
  obtain ⟨F2, G, hg, sG, pG⟩ := RVF.put (f := f) hv' hf'
  refine ⟨a :: dx :: F2, ?_, ?_, ?_⟩
  · simp only [RV]
    exact ⟨a, dx, _, F2, rfl, ⟨C, hc, upd_same⟩, by rw [upd_ne (Ne.symm nd)]; exact e2, hg, rfl⟩
  · have m2 : ∀ b ∈ F2, b ≠ a ∧ b ≠ dx := fun b hb => by
      rcases List.mem_append.mp (pG.subset hb) with z | z
      · exact n1 b z
      · exact ⟨fun q => by subst q; exact n3.1 (sG.subset z), fun q => by subst q; exact n3.2 (sG.subset z)⟩
    have f2 : F2.Nodup := by
      refine nodup_of_perm pG ?_
      rw [List.nodup_append]
      refine ⟨(List.nodup_append.mp n).1, (List.nodup_cons.mp (List.nodup_cons.mp n2).2).2.sublist sG, fun x hx y hy q => ?_⟩
      subst q
      exact (List.nodup_append.mp n).2.2 x hx x (List.mem_cons_of_mem _ (List.mem_cons_of_mem _ (sG.subset hy))) rfl
    rw [List.nodup_cons, List.nodup_cons]
    refine ⟨fun z => ?_, fun z => (m2 dx z).2 rfl, f2⟩
    rcases List.mem_cons.mp z with z | z
    · exact nd z
    · exact (m2 a z).1 rfl
  · refine ⟨fun b o hb q => ?_, fun b hb => .inl ?_⟩
    · rw [upd_ne fun z => hb (by subst z; exact List.mem_append_right _ List.mem_cons_self)]; exact q
    · rcases List.mem_cons.mp hb with z | z
      · subst z; exact List.mem_append_right _ List.mem_cons_self
      rcases List.mem_cons.mp z with z | z
      · subst z; exact List.mem_append_right _ (List.mem_cons_of_mem _ List.mem_cons_self)
      rcases List.mem_append.mp (pG.subset z) with z | z
      · exact List.mem_append_left _ z
      · exact List.mem_append_right _ (List.mem_cons_of_mem _ (List.mem_cons_of_mem _ (sG.subset z)))
theorem im_sFldSet {C : Addr} {i : Nat} {c f : Str} (hc : ClsAt K c C) (k : L2.Cls K C) (n : NoAttr K C f) {t : TE} {m : EM} (h : ImE K mg W t m) : ImS K mg W S (sFld K (tVar i) t f) (sFldSet i c f m) := by
  intro D σ H env F hr hn hp
  refine h σ H _ env F hr hn (hp.ofE.imp fun pv e q v H1 Fv F1 hr1 hx hn1 hf1 => ?_)
  cases ee : e[i]? with
  | none => rw [ee] at q; exact q.elim
  | some o =>
    cases o with
    | none => rw [ee] at q; exact q.elim
    | some p =>
      cases p with
      | obj c' fs =>
        rw [ee] at q
        simp only at q
        by_cases z : c' = c ∧ fs.length < 1000
        · rw [if_pos z] at q
          obtain ⟨rfl, hl⟩ := z
          obtain ⟨x, Fx, F2, ex, hx', r2, pm⟩ := hr1.take ee
          have hx0 := hx'
          simp only [RV] at hx'
          obtain ⟨a, dx, vs, F', rfl, ⟨C', hc', e1⟩, e2, hf, rfl⟩ := hx'
          have := hc.uniq hc'
          subst this
          have nn : (Fv ++ (a :: dx :: F')).Nodup := by
            have := nodup_of_perm (List.Perm.append_left Fv pm.symm) hn1
            rw [← List.append_assoc] at this
            exact (List.nodup_append.mp this).1
          obtain ⟨Fx', a1, a2, a3⟩ := put_fld (f := f) hc e1 e2 hf hx nn
          refine ⟨.ref a, ex, a, C, dx, vs, rfl, e1, k, n, by rw [hf.len]; exact hl, ?_⟩
          refine fin_set (o := some (.obj c' (putP f pv fs))) hf1 hn1 pm ?_ r2 ex (slot_lt ee) q _ Fx' a1 a2 a3
          intro b zz
          rcases List.mem_append.mp zz with zz | zz
          · exact hx.mt b zz
          · exact hx0.mt b zz
        · rw [if_neg z] at q; exact q.elim
      | _ => rw [ee] at q; exact q.elim
/-- x.f op= e -/
def sFldAugM (i : Nat) (c f : Str) (g : PV → PV → Option PV) (m : EM) : SM := fun env => match env[i]? with
  | some (some (.obj c' fs)) => if c' = c then (match fs.lookup f with
    | some p => if p.imm = true then (m env).toS fun v e => (match g p v with
      | some z => if z.imm = true then (match (match e[i]? with
        | some (some (.obj c2 fs2)) => if c2 = c ∧ fs2.length < 1000 then some (PV.obj c (putP f z fs2)) else none
        | _ => none) with
        | some p' => .next (e.set i (some p'))
        | none => .bad) else .bad
      | none => .bad) else .bad
    | none => .bad) else .bad
  | _ => .bad
theorem im_sFldAug {C : Addr} {i : Nat} {c f : Str} {r : TIp} {g : PV → PV → Option PV} (hc : ClsAt K c C) (k : L2.Cls K C) (n : NoAttr K C f) {t : TE} {m : EM} (hs : SimI K r g) (h : ImE K mg W t m) : ImS K mg W S (sFldAug K (tVar i) t r f) (sFldAugM i c f g m) := by
  intro D σ H env F hr hn hp
  unfold sFldAugM at hp
  split at hp
  · rename_i c' fs ee
    by_cases q : c' = c
    · subst q
      rw [if_pos rfl] at hp
      cases el : fs.lookup f with
      | none => rw [el] at hp; exact hp.elim
      | some p =>
        rw [el] at hp
        simp only at hp
        by_cases hi : p.imm = true
        · rw [if_pos hi] at hp
          obtain ⟨x, Fx, ex, hx⟩ := hr.get ee
          simp only [RV] at hx
          obtain ⟨a, dx, vs, F', rfl, ⟨C', hc', e1⟩, e2, hf, rfl⟩ := hx
          have := hc.uniq hc'
          subst this
          obtain ⟨u, Fu, l1, r1⟩ := hf.lookup el
          have eF := RV.imm hi r1
          subst eF
          refine ⟨.ref a, ex, a, C, dx, vs, u, rfl, e1, k, n, l1, ?_⟩
          refine h σ H _ env F hr hn (hp.ofE.imp fun pv e q v H1 Fv F1 hr1 hv hn1 hf1 => ?_)
          have ru : RV K H1 p u [] := r1.keep (keep_of (fm_left hf1).kp hr.mt (by simp))
          refine hs u v H1 _ p pv [] Fv ru hv ?_
          cases eg : g p pv with
          | none => rw [eg] at q; exact q.elim
          | some z =>
            rw [eg] at q
            simp only at q
            by_cases hz : z.imm = true
            · rw [if_pos hz] at q
              intro zv H2 Fz s2 rz nz fz
              have eF := RV.imm hz rz
              subst eF
              cases e3 : e[i]? with
              | none => rw [e3] at q; exact q.elim
              | some o =>
                cases o with
                | none => rw [e3] at q; exact q.elim
                | some p1 =>
                  cases p1 with
                  | obj c2 fs2 =>
                    rw [e3] at q
                    simp only at q
                    by_cases hh : c2 = c' ∧ fs2.length < 1000
                    · rw [if_pos hh] at q
                      obtain ⟨rfl, hl⟩ := hh
                      obtain ⟨x', Fx, F2, ex', hx', r2, pm⟩ := hr1.take e3
                      rw [ex] at ex'; cases ex'
                      have hx0 := hx'
                      simp only [RV] at hx'
                      obtain ⟨a', dx', vs', F3, ea, ⟨C', hc', e4⟩, e5, hf', rfl⟩ := hx'
                      cases ea
                      have := hc.uniq hc'
                      subst this
                      have e4' := s2 _ _ e4
                      have e5' := s2 _ _ e5
                      have nn : ([] ++ (a :: dx' :: F3)).Nodup := by
                        have := nodup_of_perm pm.symm (nd_right hn1)
                        exact (List.nodup_append.mp this).1
                      obtain ⟨Fx', a1, a2, a3⟩ := put_fld (f := f) hc e4' e5' (RVF.keep hf' fun b o q _ => s2 b o q) rz nn
                      refine ⟨dx', vs', e4', by rw [hf'.len]; exact hl, ?_⟩
                      refine fin_set (Fa := []) (F1 := F1) (o := some (.obj c2 (putP f z fs2))) ((fm_left hf1).trans (Fm.of_sm s2 fun b z => .inl z)) (nd_right hn1) pm ?_ (r2.sm s2) ex (slot_lt e3) q _ Fx' a1 a2 a3
                      intro b zz
                      obtain ⟨o, q1, q2⟩ := hx0.mt b (by simpa using zz)
                      exact ⟨o, s2 b o q1, q2⟩
                    · rw [if_neg hh] at q; exact q.elim
                  | _ => rw [e3] at q; exact q.elim
            · rw [if_neg hz] at q; exact q.elim
        · rw [if_neg hi] at hp; exact hp.elim
    · rw [if_neg q] at hp; exact hp.elim
  · exact hp.elim
def pAddN : PV → PV → Option PV
  | .int i, .int j => some (.int (i + j))
  | _, _ => none
def pSubN : PV → PV → Option PV
  | .int i, .int j => some (.int (i - j))
  | _, _ => none
theorem sim_addN : SimI K rAdd pAddN := by
  intro x y H Q px py Fx Fy hx hy h
  cases px <;> cases py <;> first
    | exact h.elim
    | (simp only [RV] at hx hy
       exact ⟨_, _, hx.1, hy.1, h _ H [] (fun _ _ z => z) (by simp [RV]) List.nodup_nil (fun b z => by simp at z)⟩)
theorem sim_subN : SimI K rSub pSubN := by
  intro x y H Q px py Fx Fy hx hy h
  cases px <;> cases py <;> first
    | exact h.elim
    | (simp only [RV] at hx hy
       exact ⟨_, _, hx.1, hy.1, h _ H [] (fun _ _ z => z) (by simp [RV]) List.nodup_nil (fun b z => by simp at z)⟩)

/-! ### methods -/
def tMethE (C : Addr) (m : Str) (sp : Sp) (E : L2.St → XK) (ta : TE) (t : TA) : TE := fun σ H Q => ta σ H fun x H1 => ∃ a dx fs, x = .ref a ∧ H1 a = some (.ins C dx fs) ∧ fs.lookup m = none ∧ t σ H1 fun vs H2 => sp (x :: vs) H2 Q (E σ)
def eMCall (c m : Str) (i : Nat) (fm : FM) (am : AM) : EM := fun env => match env[i]? with
  | some (some (.obj c' fs)) => if c' = c ∧ fs.lookup m = none then eCall fm (aCons (gRef i) am) env else .bad
  | _ => .bad
theorem im_eMCall {n i : Nat} {C : Addr} {c m : Str} {fm : FM} {ta : TA} {a : AM} (hc : ClsAt K c C) (ha : ImA K mg W ta a) (hn' : ∀ env as e, a env = .ok as e → as.length = n) :
    ImE K mg W (tMethE C m (spF K mg (n + 1) fm) (WE W) (tVar i) ta) (eMCall c m i fm a) := by
  intro σ H Q env F hr hn hp
  unfold eMCall at hp
  split at hp
  · rename_i c' fs ee
    by_cases q : c' = c ∧ fs.lookup m = none
    · rw [if_pos q] at hp
      obtain ⟨rfl, hl⟩ := q
      have hh := im_eCall (mg := mg) (W := W) (n := n + 1) (f := fm) (im_aCons (im_gRef (K := K) i) ha) (fun env as e h => by
        unfold aCons at h
        cases eg : gRef i env with
        | bad => rw [eg] at h; cases h
        | exc x e2 => rw [eg] at h; cases h
        | ok x e2 =>
          rw [eg] at h
          simp only [EO.bind_ok] at h
          cases ea : a e2 with
          | bad => rw [ea] at h; cases h
          | exc x e3 => rw [ea] at h; cases h
          | ok r3 e3 =>
            rw [ea] at h
            simp only [EO.bind_ok, EO.ok.injEq] at h
            rw [← h.1, List.length_cons, hn' e2 r3 e3 ea]) σ H Q env F hr hn hp
      obtain ⟨x, ex, hh⟩ := hh
      obtain ⟨x', Fx, ex', hx⟩ := hr.get ee
      rw [ex] at ex'; cases ex'
      simp only [RV] at hx
      obtain ⟨a', dx, vs, F', rfl, ⟨C', hc', e1⟩, e2, hf, rfl⟩ := hx
      have := hc.uniq hc'
      subst this
      exact ⟨.ref a', ex, a', dx, vs, rfl, e1, hf.no hl, hh⟩
    · rw [if_neg q] at hp; exact hp.elim
  · exact hp.elim
/-- C(..) -/
def eMake (c : Str) (fm : FM) (a : AM) : EM := fun env => (a env).bind fun as e => match takeA as e with
  | some (ps, e1) => (match fm (.obj c [] :: ps) with
    | .ok .non (some x :: qs) => .ok x (putA as qs e1)
    | .exc x (_ :: qs) => .exc x (putA as qs e1)
    | _ => .bad)
  | none => .bad
def tMakeE (C : Addr) (sp : Sp) (E : L2.St → XK) (t : TA) : TE := fun σ H Q => t σ H fun vs H1 => ∀ x dx, H1 x = none → H1 dx = none → dx ≠ x →
  sp (.ref x :: vs) (upd (upd H1 dx (.own x)) x (.ins C dx [])) (fun v H2 => v = .non ∧ Q (.ref x) H2) (E σ)
theorem im_eMake {n : Nat} {C : Addr} {c : Str} {fm : FM} {ta : TA} {a : AM} (hc : ClsAt K c C) (ha : ImA K mg W ta a) (hn' : ∀ env as e, a env = .ok as e → as.length = n) :
    ImE K mg W (tMakeE C (spF K mg (n + 1) fm) (WE W) ta) (eMake c fm a) := by
  intro σ H Q env F hr hn hp
  have hlen := hn' env
  unfold eMake at hp
  cases ea : a env with
  | bad => rw [ea] at hp; exact hp.elim
  | exc x e => exact ha σ H _ env F hr hn (by rw [ea] at hp ⊢; exact hp)
  | ok as e =>
    refine ha σ H _ env F hr hn ?_
    rw [ea] at hp ⊢
    simp only [EO.bind_ok] at hp
    have hl : as.length = n := hlen as e ea
    intro vs H1 Fv F1 hr1 hx hn1 hf1 x0 dx0 fx fdx nxd
    cases et : takeA as e with
    | none => rw [et] at hp; exact hp.elim
    | some z =>
      obtain ⟨ps, e1⟩ := z
      rw [et] at hp
      simp only at hp
      obtain ⟨hl1, Fa, Fr, hv, hr2, pm⟩ := takeA_ok hx hr1 et
      have nA : (Fa ++ Fr).Nodup := nodup_of_perm pm.symm hn1
      have hf2 : Fm F H (Fa ++ Fr) H1 := hf1.sub fun b z => pm.symm.subset z
      have lps : ps.length = n := by
        rw [← hv.length, ← hl]
        clear hp et hr2 hv pm nA hf2 hl ea hl1
        induction as generalizing vs Fv with
        | nil => simp only [RGs] at hx; rw [hx.1]; rfl
        | cons x r ih =>
          simp only [RGs] at hx
          obtain ⟨v, vr, G1, G2, rfl, _, hx, rfl⟩ := hx
          have := ih vr G2 hx (by rw [List.append_assoc] at hn1; exact (List.nodup_append.mp hn1).2.1) (hf1.sub fun b z => by rw [List.append_assoc]; exact List.mem_append_right _ z)
          simp [this]
      -- the new object
      generalize hH2 : upd (upd H1 dx0 (.own x0)) x0 (.ins C dx0 []) = H2
      have s12 : Sm H1 H2 := by
        subst hH2
        exact (sm_upd fdx).trans (sm_upd (by rw [upd_ne (Ne.symm nxd)]; exact fx))
      have ex0 : H2 x0 = some (.ins C dx0 []) := by subst hH2; exact upd_same
      have ed0 : H2 dx0 = some (.own x0) := by subst hH2; rw [upd_ne nxd]; exact upd_same
      have hv2 : RVL K H2 ps vs Fa := hv.sm s12
      have hr2' : RE K H2 e1 σ Fr := hr2.sm s12
      have hself : RV K H2 (.obj c []) (.ref x0) [x0, dx0] := by
        simp only [RV]
        exact ⟨x0, dx0, [], [], rfl, ⟨C, hc, ex0⟩, ed0, by simp [RVF], rfl⟩
      have hall : RVL K H2 (.obj c [] :: ps) (.ref x0 :: vs) ([x0, dx0] ++ Fa) := RVL.cons hself hv2
      have ninA : ∀ b ∈ Fa ++ Fr, b ≠ x0 ∧ b ≠ dx0 := fun b hb => by
        have : ∃ o, H1 b = some o := by
          rcases List.mem_append.mp hb with z | z
          · obtain ⟨o, q, _⟩ := hv.mt b z; exact ⟨o, q⟩
          · obtain ⟨o, q, _⟩ := hr2.mt b z; exact ⟨o, q⟩
        obtain ⟨o, q⟩ := this
        exact ⟨fun z => (by subst z; rw [q] at fx; cases fx), fun z => (by subst z; rw [q] at fdx; cases fdx)⟩
      have nS : ([x0, dx0] ++ (Fa ++ Fr)).Nodup := by
        rw [List.nodup_append]
        refine ⟨by rw [List.nodup_cons]; exact ⟨by simpa using Ne.symm nxd, by simp⟩, nA, fun p hp q hq e => ?_⟩
        subst e
        have := ninA p hq
        simp only [List.mem_cons, List.not_mem_nil, or_false] at hp
        rcases hp with z | z
        · exact this.1 z
        · exact this.2 z
      have nS2 : (([x0, dx0] ++ Fa) ++ Fr).Nodup := by rw [List.append_assoc]; exact nS
      have nB : (Fr ++ ([x0, dx0] ++ Fa)).Nodup := nodup_of_perm List.perm_append_comm nS2
      have f02 : Fm F H (([x0, dx0] ++ Fa) ++ Fr) H2 := by
        refine ⟨fun b o hb q => s12 _ _ (hf2.kp b o hb q), fun b hb => ?_⟩
        rw [List.append_assoc] at hb
        rcases List.mem_append.mp hb with z | z
        · have hn1' : H1 b = none := by
            simp only [List.mem_cons, List.not_mem_nil, or_false] at z
            rcases z with z | z
            · rw [z]; exact fx
            · rw [z]; exact fdx
          by_cases hbF : b ∈ F
          · exact .inl hbF
          · right
            cases hq : H b with
            | none => rfl
            | some o' => have := hf2.kp b o' hbF hq; rw [hn1'] at this; cases this
        · exact hf2.fr b z
      have shrink : ∀ {q0 : Option PV} {qs : List (Option PV)} {H3 : Hp} {Fp : List Addr}, RE K H3 (q0 :: qs) ((V.ref x0 :: vs).map some) Fp → ∃ F2, RE K H3 qs (vs.map some) F2 ∧ F2.Sublist Fp := by
        intro q0 qs H3 Fp rp
        cases q0 with
        | none =>
          simp only [List.map_cons, RE] at rp
          obtain ⟨y, s, eq, rp⟩ := rp
          cases eq
          exact ⟨Fp, rp, .refl _⟩
        | some x =>
          simp only [List.map_cons, RE] at rp
          obtain ⟨y, s, G1, G2, eq, _, rp, rfl⟩ := rp
          cases eq
          exact ⟨G2, rp, List.sublist_append_right _ _⟩
      refine ⟨.obj c [] :: ps, [x0, dx0] ++ Fa, by rw [List.length_cons, lps], hall, (List.nodup_append.mp nS2).1, ?_⟩
      cases ef : fm (.obj c [] :: ps) with
      | bad => rw [ef] at hp; exact hp.elim
      | exc x qs =>
        rw [ef] at hp
        cases qs with
        | nil => exact hp.elim
        | cons q0 qs =>
          simp only at hp
          intro cls d H3 Fp0 rp0 np0 fm0 rx
          obtain ⟨Fp, rp, sp⟩ := shrink rp0
          have hr3 := hr2'.keep (keep_ap nB hall.mt fm0)
          have n5 := nd_later nB hr2'.mt fm0 np0
          have n6 : (Fp ++ Fr).Nodup := nodup_of_perm List.perm_append_comm (n5.sublist (List.Sublist.append (List.Sublist.refl _) sp))
          obtain ⟨F', a1, b1, c1⟩ := putA_ok hx rp hr3 n6
          refine hp cls d H3 F' a1 b1 (f02.trans ⟨fm0.kp.mono fun b z => List.mem_append_left _ z, fun b z => ?_⟩) rx
          rcases List.mem_append.mp (c1 b z) with z | z
          · exact (fm0.fr b (sp.subset z)).imp (fun z => List.mem_append_left _ z) id
          · exact .inl (List.mem_append_right _ z)
      | ok x qs =>
        rw [ef] at hp
        cases x with
        | non =>
          cases qs with
          | nil => exact hp.elim
          | cons q0 qs =>
            cases q0 with
            | none => exact hp.elim
            | some y =>
              simp only at hp
              intro v H3 Fw Fp rx rp np fm0
              simp only [RV] at rx
              obtain ⟨rfl, rfl⟩ := rx
              refine ⟨rfl, ?_⟩
              simp only [List.map_cons, RE] at rp
              obtain ⟨v0, r0, G1, G2, eq, ry, rp, rfl⟩ := rp
              cases eq
              have hr3 := hr2'.keep (keep_ap nB hall.mt fm0)
              have n5 := nd_later nB hr2'.mt fm0 np
              have n6 : (G1 ++ (G2 ++ Fr)).Nodup := by
                have : (([] ++ (G1 ++ G2)) ++ Fr).Nodup := nodup_of_perm List.perm_append_comm n5
                simpa using this
              obtain ⟨F', a1, b1, c1⟩ := putA_ok hx rp hr3 (List.nodup_append.mp n6).2.1
              refine hp (.ref x0) H3 G1 F' a1 ry ?_ (f02.trans ⟨fm0.kp.mono fun b z => List.mem_append_left _ z, fun b z => ?_⟩)
              · rw [List.nodup_append]
                refine ⟨(List.nodup_append.mp n6).1, b1, fun q hq w hw e => ?_⟩
                subst e
                exact (List.nodup_append.mp n6).2.2 q hq q (c1 q hw) rfl
              · have go : b ∈ G1 ++ G2 → b ∈ ([x0, dx0] ++ Fa) ++ Fr ∨ H2 b = none := fun z => (fm0.fr b (by simpa using z)).imp (fun z => List.mem_append_left _ z) id
                rcases List.mem_append.mp z with z | z
                · exact go (List.mem_append_left _ z)
                · rcases List.mem_append.mp (c1 b z) with z | z
                  · exact go (List.mem_append_right _ z)
                  · exact .inl (List.mem_append_right _ z)
        | _ => exact hp.elim
end
end PVL

/-! P12: joint rules: constants of the module, fields, methods, making. -/
namespace PVL
open PySem PySem.Spec L2
/-! ### constants of the module -/
mutual
def cstK (K : PySem.W.Frag) : PV → Value → Bool
  | .non, u => match u with | .none => true | _ => false
  | .bl b, u => match u with | .bool c => b == c | _ => false
  | .int i, u => match u with | .int j _ => decide (i = j) | _ => false
  | .str x, u => match u with | .str y _ => decide (x = y) | _ => false
  | .tup xs, u => match u with
    | .ref a => (match K.lookup a with
      | some o => (match o.cls, o.data with
        | .type n, .seq its _ => decide (n = "tuple") && (decide (its.size ≤ sizeLine) && cstL K xs its.toList)
        | _, _ => false)
      | none => false)
    | _ => false
  | _, _ => false
def cstL (K : PySem.W.Frag) : List PV → List Value → Bool
  | [], us => us.isEmpty
  | x :: xs, us => match us with
    | u :: r => cstK K x u && cstL K xs r
    | [] => false
end
section
variable {K : PySem.W.Frag}
mutual
theorem cstK_ok : ∀ (x : PV) (u : Value), cstK K x u = true → ∃ v, RelV v u ∧ ∀ H, RV K H x v []
  | .non, u, h => by
    cases u <;> simp [cstK] at h
    exact ⟨.non, rfl, fun H => by simp [RV]⟩
  | .bl b, u, h => by
    cases u <;> simp [cstK] at h
    subst h
    exact ⟨.bl b, rfl, fun H => by simp [RV]⟩
  | .int i, u, h => by
    cases u <;> simp [cstK] at h
    subst h
    exact ⟨.int i, ⟨_, rfl⟩, fun H => by simp [RV]⟩
  | .str x, u, h => by
    cases u <;> simp [cstK] at h
    subst h
    exact ⟨.str x, ⟨_, rfl⟩, fun H => by simp [RV]⟩
  | .tup xs, u, h => by
    cases u with
    | ref a =>
      simp only [cstK] at h
      cases eo : K.lookup a with
      | none => rw [eo] at h; cases h
      | some o =>
        rw [eo] at h
        simp only at h
        split at h
        · rename_i n its k e1 e2
          simp only [Bool.and_eq_true, decide_eq_true_eq] at h
          obtain ⟨rfl, hz, hl⟩ := h
          obtain ⟨vs, r, hv⟩ := cstL_ok xs its.toList hl
          refine ⟨.ref a, rfl, fun H => ?_⟩
          simp only [RV]
          exact ⟨a, vs, rfl, .inr ⟨o, its, k, eo, e1, e2, hz, r⟩, hv H⟩
        · cases h
    | _ => simp [cstK] at h
  | .frz _, u, h => by simp [cstK] at h
  | .lst _, u, h => by simp [cstK] at h
  | .dct _, u, h => by simp [cstK] at h
  | .obj _ _, u, h => by simp [cstK] at h
  | .ty _, u, h => by simp [cstK] at h
theorem cstL_ok : ∀ (xs : List PV) (us : List Value), cstL K xs us = true → ∃ vs, Vals vs us ∧ ∀ H, RVL K H xs vs []
  | [], us, h => by
    cases us with
    | nil => exact ⟨[], .nil, fun H => by simp [RVL]⟩
    | cons u r => simp [cstL] at h
  | x :: xs, us, h => by
    cases us with
    | nil => simp [cstL] at h
    | cons u r =>
      simp only [cstL, Bool.and_eq_true] at h
      obtain ⟨v, r1, h1⟩ := cstK_ok x u h.1
      obtain ⟨vs, r2, h2⟩ := cstL_ok xs r h.2
      refine ⟨v :: vs, .cons r1 r2, fun H => ?_⟩
      simp only [RVL]
      exact ⟨v, vs, [], [], rfl, h1 H, h2 H, rfl⟩
end
end
/-- the module's name stands for the value -/
def GlbT (K : PySem.W.Frag) (mg : Str → Option Value) (x : Str) (pv : PV) : Prop := ∃ u v, mg x = some u ∧ RelV v u ∧ ∀ H, RV K H pv v []
theorem glb_of {K : PySem.W.Frag} {mg : Str → Option Value} {x : Str} {pv : PV} {u : Value} (hm : mg x = some u) (h : cstK K pv u = true) : GlbT K mg x pv := by
  obtain ⟨v, r, hv⟩ := cstK_ok pv u h
  exact ⟨u, v, hm, r, hv⟩
def tGlb (K : PySem.W.Frag) (pv : PV) : TE := fun _ H Q => ∀ v, (∀ H, RV K H pv v []) → Q v H
/-! ### classes -/
/-- a field's name is no attribute of the class -/
def FldT (K : PySem.W.Frag) (c f : Str) : Prop := ∃ C, ClsAt K c C ∧ L2.Cls K C ∧ NoAttr K C f
def tFldC (K : PySem.W.Frag) (c f : Str) (t : TE) : TE := fun σ H Q => ∀ C, ClsAt K c C → L2.Cls K C → NoAttr K C f → tFld K t f σ H Q
/-- a method as it is called: by its class and name, within so much room, as the pure function (self first) -/
def CalM (P : Program) (w : World) (K : PySem.W.Frag) (mg : Str → Option Value) (base : Heap) (c m : Str) (k n : Nat) (fm : FM) : Prop :=
  ∃ (C f : Addr) (fd : FuncData) (ps : List Str), ClsAt K c C ∧ L2.Cls K C ∧ Meth K C m f ∧ FnOk P w K mg base (L2.CX P w) k f fd ps (spF K mg (n + 1) fm) ∧ Binds K fd ps []
/-- a class as it is made -/
def CalI (P : Program) (w : World) (K : PySem.W.Frag) (mg : Str → Option Value) (base : Heap) (c : Str) (k n : Nat) (fm : FM) : Prop :=
  ∃ (C f : Addr) (fd : FuncData) (ps : List Str), ClsAt K c C ∧ mg c = some (.ref C) ∧ Mk K C f ∧ FnOk P w K mg base (L2.CX P w) k f fd ps (spF K mg (n + 1) fm) ∧ Binds K fd ps []
/-- o.m(e, ..) where what is raised is wished for at the caller's slots; the class is told by its name -/
def tMethC (K : PySem.W.Frag) (c m : Str) (sp : Sp) (E : L2.St → XK) (ta : TE) (t : TA) : TE := fun σ H Q => ∀ C, ClsAt K c C → tMethE C m sp E ta t σ H Q
def tMakeC (K : PySem.W.Frag) (c : Str) (sp : Sp) (E : L2.St → XK) (t : TA) : TE := fun σ H Q => ∀ C, ClsAt K c C → tMakeE C sp E t σ H Q
section
variable {X : Cx} {CX : CXT} {k : Nat} {f C : Addr} {fd : FuncData} {ps : List Str} {sp : Sp} {E : L2.St → XK} {x m c : Str} {p pos apos : Pos} {e o : Expr} {es : List Expr} {ta : TE} {t : TA}
theorem pe_methE {pl : Sem Bool} (he : PE X o ta) (hc : ClsAt X.K c C) (cl : L2.Cls X.K C) (hm : Meth X.K C m f) (F : FnOk X.prog X.w X.K X.mg X.base CX k f fd ps sp) (hr : Room k X.A) (hb : Binds X.K fd ps []) (hx : ∀ σ, PassesAt CX X σ (E σ)) (ha : PA X (e :: es) t)
    (hst : starEach (e :: es) X.env = (false, eval e X.env) :: starEach es X.env) (hpl : (backTo pos (starEach es X.env)).any (·.1) = false)
    (ht : eval (.Call (.Attribute o m apos) (e :: es) [] pos) X.env = (do
      let ov ← eval o X.env
      standAt apos.atName
      let (f, first) ← holding [ov] (getMethod ov m pl)
      callWith pos f first (backTo pos (starEach (e :: es) X.env)) (backToKw pos (keywordEach [] X.env)))) :
    PE X (.Call (.Attribute o m apos) (e :: es) [] pos) (tMethC X.K c m sp E ta t) := by
  refine ⟨fun pins s σ H Q I h => ?_⟩
  refine PySem.W.methodCall_KW (pl := pl) (thn (he.run pins s σ H _ I (h C hc)) fun u s1 ⟨x, H1, I1, rx, a, dx, fs, ex, ea, l, q⟩ => ?_) ht
  subst ex
  obtain rfl : u = Value.ref a := rx
  refine getmeth_ok I1 ea cl hm l ?_
  refine PySem.W.callWith_K (first := [.ref a]) (h₀ := X.base) I.ok.mod.kin hm.kp (thn (ha.run pos pins s1 σ H1 _ I1 q) fun us s2 ⟨vs, H2, I2, r, q2⟩ => ⟨I2.kIn, ?_⟩) hst hpl
  exact run_fnS (us := .ref a :: us) (vs := .ref a :: vs) F hr hb (hx σ) I2 (.cons rfl r) q2
theorem pe_methE0 {pl : Sem Bool} (he : PE X o ta) (hc : ClsAt X.K c C) (cl : L2.Cls X.K C) (hm : Meth X.K C m f) (F : FnOk X.prog X.w X.K X.mg X.base CX k f fd ps sp) (hr : Room k X.A) (hb : Binds X.K fd ps []) (hx : ∀ σ, PassesAt CX X σ (E σ))
    (ht : eval (.Call (.Attribute o m apos) [] [] pos) X.env = (do
      let ov ← eval o X.env
      standAt apos.atName
      let (f, first) ← holding [ov] (getMethod ov m pl)
      callWith pos f first (backTo pos (starEach [] X.env)) (backToKw pos (keywordEach [] X.env)))) :
    PE X (.Call (.Attribute o m apos) [] [] pos) (tMethC X.K c m sp E ta tNil) := by
  refine ⟨fun pins s σ H Q I h => ?_⟩
  refine PySem.W.methodCall_KW (pl := pl) (thn (he.run pins s σ H _ I (h C hc)) fun u s1 ⟨x, H1, I1, rx, a, dx, fs, ex, ea, l, q⟩ => ?_) ht
  subst ex
  obtain rfl : u = Value.ref a := rx
  refine getmeth_ok I1 ea cl hm l ?_
  exact PySem.W.callWith_K0 (first := [.ref a]) I1.kIn hm.kp (run_fnS (us := [.ref a]) (vs := [.ref a]) F hr hb (hx σ) I1 (.cons rfl .nil) q)
theorem run_makeS {pins : List (Addr × Obj)} {σ : L2.St} {H : Hp} {s : Shared} {Q : VK} {us : List Value} {vs : List V} (M : Mk X.K C f) (F : FnOk X.prog X.w X.K X.mg X.base CX k f fd ps sp) (hr : Room (k + 1) X.A) (hb : Binds X.K fd ps [])
    (hx : ∀ σ, PassesAt CX X σ (E σ)) (I : Inv X pins σ H s) (r : Vals vs us) (hxx : ∀ x dx, H x = none → H dx = none → dx ≠ x → ∀ s e s', CX X.stack (upd (upd H dx (.own x)) x (.ins C dx [])) s (E σ) e s' → Inv X pins σ (upd (upd H dx (.own x)) x (.ins C dx [])) s → X.xe e s')
    (h : ∀ x dx, H x = none → H dx = none → dx ≠ x → sp (.ref x :: vs) (upd (upd H dx (.own x)) x (.ins C dx [])) (fun v H2 => v = .non ∧ Q (.ref x) H2) (E σ)) :
    wpAny (model X.prog X.w) X.A (call (.ref C) us) (EP X pins σ Q) X.xe s := by
  have nxd : s.heap.objs.size ≠ s.heap.objs.size + 1 := Nat.ne_of_lt (Nat.lt_succ_self _)
  have hq := h (s.heap.objs.size + 1) s.heap.objs.size (I.hok.fresh (Nat.le_succ _)) (I.hok.fresh (Nat.le_refl _)) nxd
  have I2 := Inv.made (C := C) I
  have r2 : Vals (V.ref (s.heap.objs.size + 1) :: vs) (Value.ref (s.heap.objs.size + 1) :: us) := .cons rfl r
  have hl : (Value.ref (s.heap.objs.size + 1) :: us).length = ps.length := by
    have e := r2.length
    rw [F.len _ _ _ _ hq] at e
    exact e.symm
  have b := hb _ (Value.ref (s.heap.objs.size + 1) :: us) I2.kIn (by rw [List.append_nil]; exact hl)
  rw [List.append_nil] at b
  refine wpAny_call (make_map (f := f) I.kIn M.makes M.init (beq_iff_eq.mp M.fn) (codeAny_mono (F.run _ X.stack _ _ ⟨Value.ref (s.heap.objs.size + 1) :: us, []⟩ (Value.ref (s.heap.objs.size + 1) :: us) _ _ (E σ) (hr.make C us [])
    (I2.env0.make C us []) b r2 hq) fun r s' hq' => ?_))
  cases r with
  | error e => exact hxx _ _ (I.hok.fresh (Nat.le_succ _)) (I.hok.fresh (Nat.le_refl _)) nxd _ e s' hq' I2
  | ok fl =>
    cases fl with
    | ret u =>
      obtain ⟨v, H', I3, rv, ev, q3⟩ := I2.after hq'
      subst ev
      exact ⟨rv, ⟨V.ref (s.heap.objs.size + 1), H', I3, rfl, q3⟩⟩
    | next => exact False.elim hq'
    | brk => exact False.elim hq'
    | cont => exact False.elim hq'
theorem pe_makeE (hc : ClsAt X.K c C) (M : Mk X.K C f) (F : FnOk X.prog X.w X.K X.mg X.base CX k f fd ps sp) (hr : Room (k + 1) X.A) (hg : Gl X x) (hm : X.mg x = some (.ref C)) (hb : Binds X.K fd ps []) (hx : ∀ σ, PassesAt CX X σ (E σ))
    (ha : PA X (e :: es) t) (hdb : (x == ("__debug__" : Str)) = false) (he : starEach (e :: es) X.env = (false, eval e X.env) :: starEach es X.env) (hpl : (backTo pos (starEach es X.env)).any (·.1) = false) :
    PE X (.Call (.Name x p) (e :: es) [] pos) (tMakeC X.K c sp E t) := by
  refine ⟨fun pins s σ H Q I h => ?_⟩
  refine wpAny_Call_Name_kw (ld_glob I hg hm ?_ hdb)
  refine PySem.W.callWith_K (h₀ := X.base) I.ok.mod.kin M.kp (thn (ha.run pos pins s σ H _ I (h C hc)) fun us s1 ⟨vs, H1, I1, r, q⟩ => ⟨I1.kIn, ?_⟩) he hpl
  exact run_makeS M F hr hb hx I1 r (fun x dx _ _ _ s e s' z J => hx σ pins _ s e s' J z) q
theorem pe_makeE0 (hc : ClsAt X.K c C) (M : Mk X.K C f) (F : FnOk X.prog X.w X.K X.mg X.base CX k f fd ps sp) (hr : Room (k + 1) X.A) (hg : Gl X x) (hm : X.mg x = some (.ref C)) (hb : Binds X.K fd ps []) (hx : ∀ σ, PassesAt CX X σ (E σ))
    (hdb : (x == ("__debug__" : Str)) = false) : PE X (.Call (.Name x p) [] [] pos) (tMakeC X.K c sp E tNil) := by
  refine ⟨fun pins s σ H Q I h => ?_⟩
  refine wpAny_Call_Name_kw (ld_glob I hg hm ?_ hdb)
  exact PySem.W.callWith_K0 I.kIn M.kp (run_makeS (us := []) M F hr hb hx I .nil (fun x dx _ _ _ s e s' z J => hx σ pins _ s e s' J z) (h C hc))
end
section
variable {X : Cx} {W : WX} {S : List Nat} {e a b c : Expr} {es : List Expr} {te ta tb : TE} {tA : TA} {m ma mb : EM} {ga gb : GM} {ra rb : RM} {am : AM} {pos p p2 apos : Pos}
variable (K : PySem.W.Frag)
theorem jr_glob (mg : Str → Option Value) {x : Str} {pv : PV} (h : GlbT K mg x pv) (hg : Gl X x := by rfl) (hd : (x == ("__debug__" : Str)) = false := by decide) (hK : X.K = K := by rfl) (hmg : X.mg = mg := by rfl) : JR X (.Name x pos) (tGlb K pv) (rC pv) := by
  subst hK; subst hmg
  obtain ⟨u, v, hm, r, hv⟩ := h
  refine ⟨⟨fun pins s σ H Q I h => ?_⟩, fun σ H Q env F hr hp v' hv' => hp v' H [] (fun _ _ z => z) (hv' H)⟩
  exact (pe_glob hg hm r hd).run pins s σ H Q I (h v hv)
theorem jr_fld {c f : Str} (h : FldT K c f) (ho : JR X e te ra) (hK : X.K = K := by rfl) (hb : attributeBase e f X.env (eval e X.env) = eval e X.env := by rfl) : JR X (.Attribute e f pos) (tFldC K c f te) (rFld c f ra) := by
  subst hK
  obtain ⟨C, h1, h2, h3⟩ := h
  refine ⟨⟨fun pins s σ H Q I h => (pe_fld ho.pe hb).run pins s σ H Q I (h C h1 h2 h3)⟩, fun σ H Q env F hr hp C' z1 z2 z3 => im_rFld z1 z2 z3 ho.im σ H Q env F hr hp⟩
def sFldC (K : PySem.W.Frag) (c f : Str) (to tv : TE) : TS := fun D σ H => ∀ C, ClsAt K c C → L2.Cls K C → NoAttr K C f → sFld K to tv f D σ H
def sFldAugC (K : PySem.W.Frag) (c f : Str) (to tv : TE) (r : TIp) : TS := fun D σ H => ∀ C, ClsAt K c C → L2.Cls K C → NoAttr K C f → sFldAug K to tv r f D σ H
theorem js_fldSet {c f x : Str} {i : Nat} (h : FldT K c f) (ho : JR X (.Name x p) (tVar i) (rVar i)) (hv : JE X W e te m) (hK : X.K = K := by rfl) (hs : swapsWith e (some (.Attribute (.Name x p) f p2)) pos.line X.env = pure false := by rfl) :
    JS X W S (.Assign [.Attribute (.Name x p) f p2] e pos) (sFldC K c f (tVar i) te) (sFldSet i c f m) := by
  subst hK
  obtain ⟨C, h1, h2, h3⟩ := h
  refine ⟨⟨fun pins s σ H D I h => (ps_fld ho.pe hv.pe hs).run pins s σ H D I (h C h1 h2 h3)⟩, fun D σ H env F hr hn hp C' z1 z2 z3 => im_sFldSet z1 z2 z3 hv.im D σ H env F hr hn hp⟩
theorem js_fldAug {c f x : Str} {i : Nat} {op : Operator} {r : TIp} {g : PV → PV → Option PV} (hsim : SimI K r g) (hop : InOp X op r) (h : FldT K c f) (ho : JR X (.Name x p) (tVar i) (rVar i)) (hv : JE X W e te m) (hK : X.K = K := by rfl) :
    JS X W S (.AugAssign (.Attribute (.Name x p) f p2) op e pos) (sFldAugC K c f (tVar i) te r) (sFldAugM i c f g m) := by
  subst hK
  obtain ⟨C, h1, h2, h3⟩ := h
  refine ⟨⟨fun pins s σ H D I h => (ps_fldaug ho.pe hv.pe hop).run pins s σ H D I (h C h1 h2 h3)⟩, fun D σ H env F hr hn hp C' z1 z2 z3 => im_sFldAug z1 z2 z3 hsim hv.im D σ H env F hr hn hp⟩
theorem k_mcall (mg : Str → Option Value) {c m x : Str} {i k n : Nat} {fm : FM} {pl : Sem Bool} (cm : CalM X.prog X.w K mg X.base c m k n fm) (hr : Room k X.A) (tk : Takes X W) (ho : JR X (.Name x p) (tVar i) (rVar i)) (ha : JA X W (e :: es) tA am) (hK : X.K = K := by rfl) (hmg : X.mg = mg := by rfl) (hl : (e :: es).length = n := by rfl)
    (hst : starEach (e :: es) X.env = (false, eval e X.env) :: starEach es X.env := by rfl) (hpl : (backTo pos (starEach es X.env)).any (·.1) = false := by rfl)
    (ht : eval (.Call (.Attribute (.Name x p) m apos) (e :: es) [] pos) X.env = (do
      let ov ← eval (.Name x p) X.env
      standAt apos.atName
      let (f, first) ← holding [ov] (getMethod ov m pl)
      callWith pos f first (backTo pos (starEach (e :: es) X.env)) (backToKw pos (keywordEach [] X.env))) := by rfl) :
    JE X W (.Call (.Attribute (.Name x p) m apos) (e :: es) [] pos) (tMethC K c m (spF K mg (n + 1) fm) (WE W) (tVar i) tA) (eMCall c m i fm am) := by
  subst hK; subst hmg
  obtain ⟨C, f, fd, ps, hc, cl, hm, F, hb⟩ := cm
  exact ⟨pe_methE ho.pe hc cl hm F hr hb (fun σ => passAt tk σ) ha.pa hst hpl ht, fun σ H Q env F hr hn hp C' z => im_eMCall z ha.im (fun env as e h => by rw [ha.len env as e h, hl]) σ H Q env F hr hn hp⟩
theorem k_mcall0 (mg : Str → Option Value) {c m x : Str} {i k : Nat} {fm : FM} {pl : Sem Bool} (cm : CalM X.prog X.w K mg X.base c m k 0 fm) (hr : Room k X.A) (tk : Takes X W) (ho : JR X (.Name x p) (tVar i) (rVar i)) (hK : X.K = K := by rfl) (hmg : X.mg = mg := by rfl)
    (ht : eval (.Call (.Attribute (.Name x p) m apos) [] [] pos) X.env = (do
      let ov ← eval (.Name x p) X.env
      standAt apos.atName
      let (f, first) ← holding [ov] (getMethod ov m pl)
      callWith pos f first (backTo pos (starEach [] X.env)) (backToKw pos (keywordEach [] X.env))) := by rfl) :
    JE X W (.Call (.Attribute (.Name x p) m apos) [] [] pos) (tMethC K c m (spF K mg 1 fm) (WE W) (tVar i) tNil) (eMCall c m i fm aNil) := by
  subst hK; subst hmg
  obtain ⟨C, f, fd, ps, hc, cl, hm, F, hb⟩ := cm
  exact ⟨pe_methE0 ho.pe hc cl hm F hr hb (fun σ => passAt tk σ) ht, fun σ H Q env F hr hn hp C' z => im_eMCall (n := 0) z im_aNil (fun env as e h => by simp only [aNil, EO.ok.injEq] at h; rw [← h.1]; rfl) σ H Q env F hr hn hp⟩
theorem k_make (mg : Str → Option Value) {c : Str} {k n : Nat} {fm : FM} (ci : CalI X.prog X.w K mg X.base c k n fm) (hr : Room (k + 1) X.A) (tk : Takes X W) (ha : JA X W (e :: es) tA am) (hK : X.K = K := by rfl) (hmg : X.mg = mg := by rfl) (hl : (e :: es).length = n := by rfl) (hg : Gl X c := by rfl) (hdb : (c == ("__debug__" : Str)) = false := by decide)
    (he : starEach (e :: es) X.env = (false, eval e X.env) :: starEach es X.env := by rfl) (hpl : (backTo pos (starEach es X.env)).any (·.1) = false := by rfl) :
    JE X W (.Call (.Name c p) (e :: es) [] pos) (tMakeC K c (spF K mg (n + 1) fm) (WE W) tA) (eMake c fm am) := by
  subst hK; subst hmg
  obtain ⟨C, f, fd, ps, hc, hm, M, F, hb⟩ := ci
  exact ⟨pe_makeE hc M F hr hg hm hb (fun σ => passAt tk σ) ha.pa hdb he hpl, fun σ H Q env F hr hn hp C' z => im_eMake z ha.im (fun env as e h => by rw [ha.len env as e h, hl]) σ H Q env F hr hn hp⟩
theorem k_make0 (mg : Str → Option Value) {c : Str} {k : Nat} {fm : FM} (ci : CalI X.prog X.w K mg X.base c k 0 fm) (hr : Room (k + 1) X.A) (tk : Takes X W) (hK : X.K = K := by rfl) (hmg : X.mg = mg := by rfl) (hg : Gl X c := by rfl) (hdb : (c == ("__debug__" : Str)) = false := by decide) :
    JE X W (.Call (.Name c p) [] [] pos) (tMakeC K c (spF K mg 1 fm) (WE W) tNil) (eMake c fm aNil) := by
  subst hK; subst hmg
  obtain ⟨C, f, fd, ps, hc, hm, M, F, hb⟩ := ci
  exact ⟨pe_makeE0 hc M F hr hg hm hb (fun σ => passAt tk σ) hdb, fun σ H Q env F hr hn hp C' z => im_eMake (n := 0) z im_aNil (fun env as e h => by simp only [aNil, EO.ok.injEq] at h; rw [← h.1]; rfl) σ H Q env F hr hn hp⟩
end
section
variable {P : Program} {w : World} {K : PySem.W.Frag} {mg : Str → Option Value} {base : Heap}
theorem calm_of {c m qual : Str} {st : Stmt} {f C : Addr} {fd : FuncData} {N ps : List Str} {k n mm : Nat} {asg S : List Nat} {body : SM} (hc : ClsAt K c C) (cl : L2.Cls K C) (M : Meth K C m f) (F : L2.Fun K m qual st f fd) (hb : Binds K fd ps []) (sc : FnScope N ps (defScope st)) (hn : ps.length = n + 1) (hN : N.length = mm)
    (hJ : ∀ (cdv : Value) (A : Around) (outer : List Env) (s : Shared) (H : Hp) (E : XK), Room k (A.deeper (PyProof.Rows.envOfC qual (defScope st) s.heap.objs.size f cdv)) →
      ∃ t, JSs (cxOf (L2.CX P w) P w K mg base N qual (defScope st) f cdv A outer s H E) (fun cls d _ H => E cls d H) S (defBody st) t body) (hS : ∀ j ∈ S, j < n + 1 → j ∈ asg) :
    CalM P w K mg base c m (k + 1) n (fnM (n + 1) mm asg body) := ⟨C, f, fd, ps, hc, cl, M, fnok_of F sc hn hN hJ hS, hb⟩
theorem cali_of {c qual : Str} {st : Stmt} {f C : Addr} {fd : FuncData} {N ps : List Str} {k n mm : Nat} {asg S : List Nat} {body : SM} (hc : ClsAt K c C) (hm : mg c = some (.ref C)) (M : Mk K C f) (F : L2.Fun K "__init__" qual st f fd) (hb : Binds K fd ps []) (sc : FnScope N ps (defScope st)) (hn : ps.length = n + 1) (hN : N.length = mm)
    (hJ : ∀ (cdv : Value) (A : Around) (outer : List Env) (s : Shared) (H : Hp) (E : XK), Room k (A.deeper (PyProof.Rows.envOfC qual (defScope st) s.heap.objs.size f cdv)) →
      ∃ t, JSs (cxOf (L2.CX P w) P w K mg base N qual (defScope st) f cdv A outer s H E) (fun cls d _ H => E cls d H) S (defBody st) t body) (hS : ∀ j ∈ S, j < n + 1 → j ∈ asg) :
    CalI P w K mg base c (k + 1) n (fnM (n + 1) mm asg body) := ⟨C, f, fd, ps, hc, hm, M, fnok_of F sc hn hN hJ hS, hb⟩
theorem calm_bad {c m qual : Str} {st : Stmt} {f C : Addr} {fd : FuncData} {N ps : List Str} {k n : Nat} (hc : ClsAt K c C) (cl : L2.Cls K C) (M : Meth K C m f) (F : L2.Fun K m qual st f fd) (hb : Binds K fd ps []) (sc : FnScope N ps (defScope st)) (hn : ps.length = n + 1) :
    CalM P w K mg base c m (k + 1) n fBad :=
  ⟨C, f, fd, ps, hc, cl, M, F.okX sc (spF_len hn) (fun cdv A outer s H vs Q E hr h => by
    obtain ⟨_, _, _, _, _, z⟩ := h
    exact z.elim), hb⟩
end
end PVL

/-! P13: the fields of a caught exception, in what a suite returns. -/
namespace PVL
open PySem PySem.Spec L2
/-- reading while the exception is held: i its slot, a its place -/
def ImX (K : PySem.W.Frag) (mg : Str → Option Value) (i : Nat) (x : PX) (a : Addr) (cls : Value) (d : Option Addr) (t : TE) (m : RM) : Prop := ∀ σ H Q env F, RE K H env σ F → σ[i]? = some (some (.ref a)) → RX K mg x cls d H →
  (match m env with | some pv => ∀ v H' Fv, Sm H H' → RV K H' pv v Fv → Q v H' | none => False) → t σ H Q
def ImXA (K : PySem.W.Frag) (mg : Str → Option Value) (i : Nat) (x : PX) (a : Addr) (cls : Value) (d : Option Addr) (t : TA) (m : PEnv → Option (List PV)) : Prop := ∀ σ H Q env F, RE K H env σ F → σ[i]? = some (some (.ref a)) → RX K mg x cls d H →
  (match m env with | some ps => ∀ vs H' , Sm H H' → RB K H' ps vs → Q vs H' | none => False) → t σ H Q
theorem RX.sm {K : PySem.W.Frag} {mg : Str → Option Value} {x : PX} {cls : Value} {d : Option Addr} {H H' : Hp} (h : RX K mg x cls d H) (s : Sm H H') : RX K mg x cls d H' := by
  refine ⟨h.1, h.2.imp id ?_⟩
  rintro ⟨dd, vs, e, e1, hf⟩
  exact ⟨dd, vs, e, s _ _ e1, hf.keep fun b o q _ => s b o q⟩
section
variable {K : PySem.W.Frag} {mg : Str → Option Value} {i : Nat} {x : PX} {a0 : Addr} {cls : Value} {d : Option Addr}
theorem imx_r {t : TE} {m : RM} (h : ImR K t m) : ImX K mg i x a0 cls d t m := fun σ H Q env F hr _ _ hp => h σ H Q env F hr hp
theorem imx_op {r : R2} {f : PV → PV → Option PV} {ta tb : TE} {a b : RM} (hs : SimB2 K r f) (ha : ImX K mg i x a0 cls d ta a) (hb : ImX K mg i x a0 cls d tb b) : ImX K mg i x a0 cls d (tOp r ta tb) (rOp f a b) := by
  intro σ H Q env F hr hi hx hp
  unfold rOp at hp
  refine ha σ H _ env F hr hi hx ?_
  cases ea : a env with
  | none => rw [ea] at hp; exact hp
  | some x =>
    rw [ea] at hp
    intro v H1 Fv s1 rx
    refine hb σ H1 _ env F (hr.sm s1) hi (hx.sm s1) ?_
    cases eb : b env with
    | none => rw [eb] at hp; exact hp
    | some y =>
      rw [eb] at hp
      intro u H2 Fu s2 ry
      refine hs v u H2 Q x y Fv Fu (rx.sm s2) ry ?_
      cases ef : f x y with
      | none => simp only [Option.bind_some, ef] at hp
      | some z =>
        simp only [Option.bind_some, ef] at hp
        exact fun w' H3 Fw s3 rw' => hp w' H3 Fw ((s1.trans s2).trans s3) rw'
theorem imx_nil : ImXA K mg i x a0 cls d tNil raNil := fun σ H Q env F hr _ _ hp => hp [] H (fun _ _ z => z) rfl
theorem imx_cons {ta : TE} {tA : TA} {r : RM} {a : PEnv → Option (List PV)} (h : ImX K mg i x a0 cls d ta r) (g : ImXA K mg i x a0 cls d tA a) : ImXA K mg i x a0 cls d (tCons ta tA) (raCons r a) := by
  intro σ H Q env F hr hi hx hp
  unfold raCons at hp
  refine h σ H _ env F hr hi hx ?_
  cases er : r env with
  | none => rw [er] at hp; exact hp
  | some x =>
    rw [er] at hp
    intro v H1 Fv s1 rx
    refine g σ H1 _ env F (hr.sm s1) hi (hx.sm s1) ?_
    cases ea : a env with
    | none => rw [ea] at hp; exact hp
    | some xs =>
      rw [ea] at hp
      intro vs H2 s2 rb
      exact hp (v :: vs) H2 (s1.trans s2) ⟨v, vs, Fv, rfl, rx.sm s2, rb⟩
theorem imx_cl {r : List V → Hp → VK → Prop} {f : List PV → Option PV} {ta : TA} {a : PEnv → Option (List PV)} (hs : SimL K r f) (ha : ImXA K mg i x a0 cls d ta a) : ImX K mg i x a0 cls d (fun σ H Q => ta σ H fun vs H1 => r vs H1 Q) (rCl f a) := by
  intro σ H Q env F hr hi hx hp
  unfold rCl at hp
  refine ha σ H _ env F hr hi hx ?_
  cases ea : a env with
  | none => rw [ea] at hp; exact hp
  | some ps =>
    rw [ea] at hp
    intro vs H1 s1 rb
    refine hs vs H1 Q ps rb ?_
    cases ef : f ps with
    | none => rw [Option.bind_some, ef] at hp; exact hp.elim
    | some z =>
      rw [Option.bind_some, ef] at hp
      exact fun v H2 Fz s r _ _ => hp v H2 Fz (s1.trans s) r
/-- a tuple of immutable parts -/
def rTup (a : PEnv → Option (List PV)) : RM := fun env => (a env).bind fun xs => if immL xs = true ∧ xs.length ≤ sizeLine then some (.tup xs) else none
theorem rb_rvl {H : Hp} : ∀ {ps : List PV} {vs : List V}, RB K H ps vs → immL ps = true → RVL K H ps vs []
  | [], _, h, _ => by simp only [RB] at h; subst h; simp [RVL]
  | p :: ps, _, h, i => by
    simp only [RB] at h
    obtain ⟨v, vr, F, rfl, h1, h2⟩ := h
    simp only [immL, Bool.and_eq_true] at i
    have := RV.imm i.1 h1
    subst this
    simp only [RVL]
    exact ⟨v, vr, [], [], rfl, h1, rb_rvl h2 i.2, rfl⟩
theorem imx_tup {ta : TA} {a : PEnv → Option (List PV)} (ha : ImXA K mg i x a0 cls d ta a) : ImX K mg i x a0 cls d (tTup ta) (rTup a) := by
  intro σ H Q env F hr hi hx hp
  unfold rTup at hp
  refine ha σ H _ env F hr hi hx ?_
  cases ea : a env with
  | none => rw [ea] at hp; exact hp
  | some ps =>
    rw [ea, Option.bind_some] at hp
    by_cases hz : immL ps = true ∧ ps.length ≤ sizeLine
    · rw [if_pos hz] at hp
      intro vs H1 s1 rb
      have rl := rb_rvl rb hz.1
      refine ⟨by rw [rl.length]; exact hz.2, fun p np => ?_⟩
      have s2 : Sm H1 (upd H1 p (.tup vs)) := sm_upd np
      refine hp _ _ [] (s1.trans s2) ?_
      simp only [RV]
      exact ⟨p, vs, rfl, SqT.of upd_same, rl.sm s2⟩
    · rw [if_neg hz] at hp; exact hp.elim
/-- and, or upon truth values -/
def rAnd (a b : RM) : RM := fun env => match a env with
  | some (.bl true) => b env
  | some (.bl false) => some (.bl false)
  | _ => none
def rOr (a b : RM) : RM := fun env => match a env with
  | some (.bl false) => b env
  | some (.bl true) => some (.bl true)
  | _ => none
/-- e.f -/
def rXf (x : PX) (c f : Str) : RM := fun _ => if x.cls = c then x.fs.lookup f else none
def tXfC (a : Addr) (cls : Value) (d : Option Addr) (mg : Str → Option Value) (c f : Str) (te : TE) : TE := fun σ H Q => ∀ C, mg c = some (.ref C) → tXf a cls d C f te σ H Q
theorem imx_fld {c f : Str} : ImX K mg i x a0 cls d (tXfC a0 cls d mg c f (tVar i)) (rXf x c f) := by
  intro σ H Q env F hr hi hx hp C hC
  refine ⟨.ref a0, hi, rfl, ?_⟩
  unfold rXf at hp
  by_cases e : x.cls = c
  · rw [if_pos e] at hp
    have h1 := hx.1
    rw [e, hC] at h1
    cases h1
    rcases hx.2 with z | ⟨dd, vs, rfl, e1, hf⟩
    · rw [z] at hp; exact hp.elim
    · cases el : x.fs.lookup f with
      | none => rw [el] at hp; exact hp.elim
      | some y =>
        rw [el] at hp
        obtain ⟨v, F1, l, r⟩ := hf.lookup el
        exact ⟨rfl, dd, vs, v, rfl, e1, l, hp v H F1 (fun _ _ z => z) r⟩
  · rw [if_neg e] at hp; exact hp.elim
end
/-- an expression of a suite that may read the exception's fields -/
structure JX (X : Cx) (i : Nat) (a : Addr) (oe : Obj) (cls : Value) (d : Option Addr) (e : Expr) (t : TE) (m : PX → RM) : Prop where
  pe : Zc cls d oe → (∃ vs, oe.data = .fields vs) → PE X e t
  im : ∀ x, ImX X.K X.mg i x a cls d t (m x)
structure JXA (X : Cx) (i : Nat) (a : Addr) (oe : Obj) (cls : Value) (d : Option Addr) (es : List Expr) (t : TA) (m : PX → PEnv → Option (List PV)) : Prop where
  pa : Zc cls d oe → (∃ vs, oe.data = .fields vs) → PA X es t
  im : ∀ x, ImXA X.K X.mg i x a cls d t (m x)
section
variable {X : Cx} {i : Nat} {a : Addr} {oe : Obj} {cls : Value} {d : Option Addr} {e e1 e2 : Expr} {es : List Expr} {te ta tb : TE} {tA : TA} {m m1 m2 : PX → RM} {r : RM} {am : PX → PEnv → Option (List PV)} {pos p : Pos}
theorem jx_r (h : JR X e te r) : JX X i a oe cls d e te (fun _ => r) := ⟨fun _ _ => h.pe, fun _ => imx_r h.im⟩
theorem jxa_nil : JXA X i a oe cls d [] tNil (fun _ => raNil) := ⟨fun _ _ => pa_nil, fun _ => imx_nil⟩
theorem jxa_cons (h : JX X i a oe cls d e te m) (g : JXA X i a oe cls d es tA am) (hs : starEach (e :: es) X.env = (false, eval e X.env) :: starEach es X.env := by rfl) : JXA X i a oe cls d (e :: es) (tCons te tA) (fun x => raCons (m x) (am x)) := ⟨fun z f => pa_cons (h.pe z f) (g.pa z f) hs, fun x => imx_cons (h.im x) (g.im x)⟩
theorem jx_tup {x1} (h : JXA X i a oe cls d es tA am) : JX X i a oe cls d (.Tuple es x1 pos) (tTup tA) (fun x => rTup (am x)) := ⟨fun z f => pe_tup (h.pa z f), fun x => imx_tup (h.im x)⟩
theorem jx_op {op : Operator} {r : R2} {f : PV → PV → Option PV} (hs : SimR2 X.K r f) (ho : OpR X (binaryOp op) r) (ha : JX X i a oe cls d e1 ta m1) (hb : JX X i a oe cls d e2 tb m2) : JX X i a oe cls d (.BinOp e1 op e2 pos) (tOp r ta tb) (fun x => rOp f (m1 x) (m2 x)) := ⟨fun z g => pe_op ho (ha.pe z g) (hb.pe z g), fun x => imx_op hs.b (ha.im x) (hb.im x)⟩
theorem jx_cmp {op : CmpOp} {r : R2} {f : PV → PV → Option PV} (hs : SimR2 X.K r f) (ho : OpR X (compareOp op) r) (hm : behindInMarks op e2 = false) (ha : JX X i a oe cls d e1 ta m1) (hb : JX X i a oe cls d e2 tb m2) : JX X i a oe cls d (.Compare e1 [op] [e2] pos) (tOp r ta tb) (fun x => rOp f (m1 x) (m2 x)) := ⟨fun z g => pe_cmpR ho (ha.pe z g) (hb.pe z g) hm, fun x => imx_op hs.b (ha.im x) (hb.im x)⟩
theorem jx_callB {x : Str} {p : Pos} {id : String} {r : List V → Hp → VK → Prop} {f : List PV → Option PV} (hs : SimL X.K r f) (hc : CallR X (.builtin id) r) (hv : bootBuiltins x = some (.builtin id)) (hm : X.mg x = none) (ha : JXA X i a oe cls d (e :: es) tA am) (hg : Gl X x := by rfl) (hn : x ≠ "__name__" := by decide) (hdb : (x == ("__debug__" : Str)) = false := by decide)
    (he : starEach (e :: es) X.env = (false, eval e X.env) :: starEach es X.env := by rfl) (hpl : (backTo pos (starEach es X.env)).any (·.1) = false := by rfl) : JX X i a oe cls d (.Call (.Name x p) (e :: es) [] pos) (tCB r tA) (fun x => rCl f (am x)) := ⟨fun z g => pe_callB hc hg hm hv (ha.pa z g) hn hdb he hpl, fun x => imx_cl hs (ha.im x)⟩
/-- e.f of the caught exception, of the class c -/
theorem jx_fld {pn : List (Addr × Obj)} {c f n : Str} {C : Addr} (T : XfC X.K C) (hno : PySem.W.findIn X.K (.ref C) f = some none) (hC : X.mg c = some (.ref C)) (ho : PE (X.suite a ((a, oe) :: pn)) (.Name n p) (tVar i))
    (hb : attributeBase (.Name n p) f X.env (eval (.Name n p) X.env) = eval (.Name n p) X.env := by rfl) :
    JX (X.suite a ((a, oe) :: pn)) i a oe cls d (.Attribute (.Name n p) f pos) (tXfC a cls d X.mg c f (tVar i)) (fun x => rXf x c f) :=
  ⟨fun hz hf => ⟨fun pins s σ H Q I h => (pe_xf T hno hz hf ho hb).run pins s σ H Q I (h C hC)⟩, fun x => imx_fld⟩
/-- except X as n: return e -/
theorem jh_asX {S : List Nat} {x n : Str} (i : Nat) {c : Value} {tab : List (Str × Bool)} {te : Addr → Value → Option Addr → TE} {m : PX → RM} {e : Expr} {rp np pos' : Pos} {hds : List ExceptHandler} {l : List Cl} {p : List PCl} (hc : Names X x c) (ht : TabOk X.K X.mg c tab)
    (hsu : ∀ (a : Addr) (oe : Obj) (cls : Value) (d : Option Addr) (pn : List (Addr × Obj)), JX (X.suite a ((a, oe) :: pn)) i a oe cls d e (te a cls d) m) (hiS : i ∈ S) (r : JHd X S hds l p)
    (hN : X.N.Nodup) (hi : X.N[i]? = some n := by rfl) (hln : X.env.kindOf n = some .local := by rfl) :
    JHd X S (.ExceptHandler (some (.Name x np)) (some n) [.Return (some e) rp] pos' :: hds) ((c, some i, fun a cls d => tRet (te a cls d)) :: l) ((tab, some i, fun x => sRet (eN (fun env => immO (m x env)))) :: p) := by
  refine ⟨.as hc hN hi hln (fun a oe cls d pn hz hf => pss_one (ps_ret ((hsu a oe cls d pn).pe hz hf))) r.hd, .cons ht (fun j z => by cases z; exact hiS) (fun x a cls d => ?_) r.im⟩
  intro D σ H env F hr hn hj hx hp
  refine (hsu a default cls d []).im x σ H _ env F hr (hj i rfl) hx ?_
  have hp2 : PostS X.K X.mg (fun _ _ _ _ => False) S D σ H F ((ofO (immO (m x env)) env).toS fun x e => SO.ret x e) := hp
  cases em : m x env with
  | none => rw [em] at hp2; exact hp2.elim
  | some z =>
    rw [em] at hp2
    simp only [immO] at hp2
    by_cases hz : z.imm = true
    · rw [if_pos hz] at hp2
      intro v H' Fv s rv
      have := RV.imm hz rv
      subst this
      exact hp2 v σ H' [] F (hr.sm s) rv (by simpa using hn) (Fm.of_sm s fun b zz => .inl (by simpa using zz)) Ag.refl
    · rw [if_neg hz] at hp2; exact hp2.elim
end
end PVL

/-! P14: truth of any value. -/
namespace PVL
open PySem PySem.Spec L2
def pTru : PV → Option Bool
  | .non => some false
  | .bl b => some b
  | .int i => some (i != 0)
  | .str y => if y.length ≤ sizeLine then some ((y.length : Int) != 0) else none
  | .tup xs => some (!xs.isEmpty)
  | .frz xs => some (!xs.isEmpty)
  | .lst xs => some (!xs.isEmpty)
  | _ => none
theorem RVL.isEmpty {K : PySem.W.Frag} {H : Hp} {xs : List PV} {vs : List V} {F : List Addr} (h : RVL K H xs vs F) : vs.isEmpty = xs.isEmpty := by
  cases xs with
  | nil => simp only [RVL] at h; rw [h.1]; rfl
  | cons x xs => simp only [RVL] at h; obtain ⟨v, vr, _, _, rfl, _⟩ := h; rfl
theorem tru_p {K : PySem.W.Frag} {H : Hp} {x : PV} {v : V} {F : List Addr} {b : Bool} (h : RV K H x v F) (e : pTru x = some b) : TruV K v H b := by
  cases x with
  | non => simp only [RV] at h; cases h.1; simp only [pTru, Option.some.injEq] at e; exact e.symm
  | bl _ => simp only [RV] at h; cases h.1; simp only [pTru, Option.some.injEq] at e; exact e.symm
  | int _ => simp only [RV] at h; cases h.1; simp only [pTru, Option.some.injEq] at e; exact e.symm
  | str y =>
    simp only [RV] at h; cases h.1
    simp only [pTru] at e
    by_cases hz : y.length ≤ sizeLine
    · rw [if_pos hz] at e; cases e; exact ⟨hz, rfl⟩
    · rw [if_neg hz] at e; cases e
  | tup xs =>
    simp only [RV] at h
    obtain ⟨a, vs, rfl, q, hl⟩ := h
    simp only [pTru, Option.some.injEq] at e
    exact .inr (.inl ⟨vs, q, by rw [← e, hl.isEmpty]⟩)
  | frz xs =>
    simp only [RV] at h
    obtain ⟨a, vs, rfl, q, hl, _⟩ := h
    simp only [pTru, Option.some.injEq] at e
    exact .inl ⟨vs, q.toL, by rw [← e, hl.isEmpty]⟩
  | lst xs =>
    simp only [RV] at h
    obtain ⟨a, vs, F', rfl, q, hl, _⟩ := h
    simp only [pTru, Option.some.injEq] at e
    exact .inl ⟨vs, SqL.of q, by rw [← e, hl.isEmpty]⟩
  | dct _ => simp [pTru] at e
  | obj _ _ => simp [pTru] at e
  | ty _ => simp [pTru] at e
def bTru (m : RM) : BM := fun env => match (m env).bind pTru with
  | some b => .ok b env
  | none => .bad
theorem im_bTru {K : PySem.W.Frag} {mg : Str → Option Value} {W : WX} {t : TE} {m : RM} (h : ImR K t m) : ImT K mg W (fun σ H Q => t σ H fun x H' => ∃ k, TruV K x H' k ∧ Q k H') (bTru m) := by
  intro σ H Q env F hr hn hp
  refine h σ H _ env F hr ?_
  unfold bTru at hp
  cases em : m env with
  | none => rw [em] at hp; exact hp.elim
  | some x =>
    rw [em, Option.bind_some] at hp
    intro v H' Fv s rv
    cases et : pTru x with
    | none => rw [et] at hp; exact hp.elim
    | some b =>
      rw [et] at hp
      exact ⟨b, tru_p rv et, hp H' F (hr.sm s) hn (Fm.of_sm s fun _ z => .inl z)⟩
def tTru (K : PySem.W.Frag) (t : TE) : TT := fun σ H Q => t σ H fun x H' => ∃ k, TruV K x H' k ∧ Q k H'
theorem jt_tru (K : PySem.W.Frag) {X : Cx} {W : WX} {e : Expr} {t : TE} {m : RM} (h : JR X e t m) (hK : X.K = K := by rfl) (he : ∀ whole, isTrue e X.env whole = (do let v ← whole; standAt e.pos; holding [v] (truthy v)) := by intro _; rfl) : JT X W e (tTru K t) (bTru m) := by
  subst hK
  exact ⟨pt_truth h.pe he, im_bTru h.im⟩
end PVL

/-! P15: walks of texts. -/
namespace PVL
open PySem PySem.Spec L2
def chrs (z : Str) : List PV := z.cps.toList.map fun c => .str ⟨#[c]⟩
/-- for .. in e, e a text -/
def itC (m : EM) : PEnv → EO (List PV) := fun env => (m env).bind fun x e => match x with
  | .str z => .ok (chrs z) e
  | _ => .bad
section
variable {K : PySem.W.Frag} {mg : Str → Option Value} {W : WX}
theorem im_itC {te : TE} {m : EM} (h : ImE K mg W te m) : ImI K mg W (iStr te) (itC m) := by
  intro σ H R env F hr hn hp
  refine h σ H _ env F hr hn (hp.bind.imp fun x e1 q1 v H1 Fv F1 hr1 hx hn1 hf1 => ?_)
  cases x with
  | str z =>
    simp only [RV] at hx
    obtain ⟨rfl, rfl⟩ := hx
    refine ⟨z, rfl, q1 _ H1 [] F1 hr1 hn1 hf1 ⟨fun _ => True, fun i H v H' => H' = H ∧ ∃ c, z.cps[i]? = some c ∧ v = .str ⟨#[c]⟩, ?_, True.intro, fun _ _ _ _ => True.intro, fun b zz => by simp at zz, ?_⟩⟩
    · have : (chrs z).length = z.cps.size := by unfold chrs; simp
      rw [this]; exact walk_str
    · rintro i H3 x H4 _ ⟨rfl, c, hc, rfl⟩
      refine ⟨fun _ _ e => e, fun p ep => ?_⟩
      unfold chrs at ep
      rw [List.getElem?_map, Array.getElem?_toList, hc] at ep
      simp only [Option.map_some, Option.some.injEq] at ep
      subst ep
      simp [RV]
  | _ => exact q1.elim
end
section
variable {X : Cx} {W : WX} {e tg : Expr} {te : TE} {m : EM}
theorem ji_c (h : JE X W e te m) : JI X W tg e (iStr te) (itC m) := ⟨pi_str h.pe, im_itC h.im⟩
end
end PVL

/-! C2: pure functions of the reader of texts (printed by gen.py). -/
namespace PVL
open PySem PySem.Spec L2
/-! ### the pure functions -/
def b_m__law_clings : SM := sSeq (sAsg (eC (.str "abcdefghijklmnopqrstuvwxyzABCDEFGHIJKLMNOPQRSTUVWXYZ0123456789")) (tgN 2)) (sRet (eOr (eAnd (eN (rOp pIn (rOp pIx (rVar 0) (rUn pNeg (rC (.int 1)))) (rVar 2))) (eN (rOp pIn (rOp pIx (rVar 1) (rC (.int 0))) (rVar 2)))) (eAnd (eN (rOp pEq (rVar 0) (rC (.str ".")))) (eN (rOp pEq (rOp pIx (rVar 1) (rC (.int 0))) (rC (.str ".")))))))
def m__law_clings : FM := fnM 2 3 [] b_m__law_clings
def b_m__law_pieces : SM := sSeq (sAsg (eCall m__law_pick (aCons (gRef 0) (aCons (gOwn (eLst (aCons (gOwn (eC (.str " "))) (aCons (gOwn (eC (.str "\n"))) (aCons (gOwn (eC (.str "  "))) (aCons (gOwn (eC (.str "\n \n"))) (aNil))))))) (aNil)))) (tgN 2)) (sSeq (sAsg (eCall m__law_draw (aCons (gRef 0) (aCons (gOwn (eC (.int 3))) (aNil)))) (tgN 3)) (sSeq (sAsg (eLst (aNil)) (tgN 4)) (sSeq (sAsg (eC (.str ";")) (tgN 5)) (sSeq (sForVS 1 (tgN 6) (sSeq (sAsg (eVar 2) (tgN 7)) (sSeq (sIf (bE (eN (rOp pEq (rVar 3) (rC (.int 0))))) (sAsg (eC (.str "")) (tgN 7)) (sIf (bE (eN (rOp pEq (rVar 3) (rC (.int 1))))) (sAsg (eCall m__law_pick (aCons (gRef 0) (aCons (gOwn (eLst (aCons (gOwn (eC (.str ""))) (aCons (gOwn (eC (.str " "))) (aCons (gOwn (eC (.str "\n"))) (aCons (gOwn (eC (.str "   "))) (aCons (gOwn (eC (.str "\n\n"))) (aNil)))))))) (aNil)))) (tgN 7)) (sNil))) (sSeq (sIf (bAnd (bE (eN (rOp pEq (rVar 7) (rC (.str ""))))) (bE (eCall m__law_clings (aCons (gRef 5) (aCons (gRef 6) (aNil)))))) (sAsg (eVar 2) (tgN 7)) (sNil)) (sSeq (sExpr (eMeth "list" 4 pAppend (aCons (gOwn (eN (rOp pAdd (rVar 7) (rVar 6)))) (aNil)))) (sAsg (eVar 6) (tgN 5))))))) (sRet (eVar 4))))))
def m__law_pieces : FM := fnM 2 8 [] b_m__law_pieces
def b_m__law_row : SM := sSeq (sAsg (eCall m__law_all_tokens (aCons (gRef 1) (aNil))) (tgN 2)) (sSeq (sIf (bAnd (bE (eN (rOp pEq (rOp pIx (rVar 1) (rC (.int 3))) (rC (.int 1))))) (bE (eOp pEq (gOwn (eCall m__law_draw (aCons (gRef 0) (aCons (gOwn (eC (.int 2))) (aNil))))) (gOwn (eC (.int 0)))))) (sRet (eOp pAdd (gOwn (eOp pAdd (gOwn (eSl pSl (gRef 2) (oNone) (oSome (eC (.int 4))))) (gOwn (eLst (aCons (gOwn (eC (.str "version"))) (aCons (gOwn (eC (.str "1"))) (aNil))))))) (gOwn (eSl pSl (gRef 2) (oSome (eC (.int 4))) (oNone))))) (sNil)) (sRet (eVar 2)))
def m__law_row : FM := fnM 2 3 [] b_m__law_row
def b_m_TokenReader___init__ : SM := sSeq (sFldSet 0 "TokenReader" "tokens" (eVar 1)) (sSeq (sFldSet 0 "TokenReader" "place" (eC (.int 0))) (sFldSet 0 "TokenReader" "braces" (eC (.int 0))))
def m_TokenReader___init__ : FM := fnM 2 2 [] b_m_TokenReader___init__
def b_m_TokenReader_peek : SM := sSeq (sIf (bE (eN (rOp pLt (rFld "TokenReader" "place" (rVar 0)) (rCl pLen (raCons (rFld "TokenReader" "tokens" (rVar 0)) (raNil)))))) (sSeq (sAsg (eR (rOp pIx (rFld "TokenReader" "tokens" (rVar 0)) (rFld "TokenReader" "place" (rVar 0)))) (tgT 2 (tgsCons (tgN 1) (tgsCons (tgN 2) (tgsNil))))) (sIf (bE (eN (rOp pEq (rVar 1) (rC (.str "word"))))) (sRet (eVar 2)) (sNil))) (sNil)) (sRet (eC (.str "")))
def m_TokenReader_peek : FM := fnM 1 3 [] b_m_TokenReader_peek
def b_m_TokenReader_fail : SM := sRaise "BadText" ["at"] (aCons (gOwn (eR (rFld "TokenReader" "place" (rVar 0)))) (aNil))
def m_TokenReader_fail : FM := fnM 1 1 [] b_m_TokenReader_fail
def b_m_TokenReader_skip : SM := sSeq (sIf (bE (eOp pNe (gOwn (eMCall "TokenReader" "peek" 0 m_TokenReader_peek aNil)) (gRef 1))) (sExpr (eMCall "TokenReader" "fail" 0 m_TokenReader_fail aNil)) (sNil)) (sSeq (sIf (bE (eN (rOp pEq (rVar 1) (rC (.str "{"))))) (sFldAugM 0 "TokenReader" "braces" pAddN (eC (.int 1))) (sNil)) (sSeq (sIf (bE (eN (rOp pEq (rVar 1) (rC (.str "}"))))) (sFldAugM 0 "TokenReader" "braces" pSubN (eC (.int 1))) (sNil)) (sFldAugM 0 "TokenReader" "place" pAddN (eC (.int 1)))))
def m_TokenReader_skip : FM := fnM 2 2 [] b_m_TokenReader_skip
def b_m_TokenReader_peek_kind : SM := sSeq (sIf (bE (eN (rOp pLt (rFld "TokenReader" "place" (rVar 0)) (rCl pLen (raCons (rFld "TokenReader" "tokens" (rVar 0)) (raNil)))))) (sRet (eR (rOp pIx (rOp pIx (rFld "TokenReader" "tokens" (rVar 0)) (rFld "TokenReader" "place" (rVar 0))) (rC (.int 0))))) (sNil)) (sRet (eC (.str "")))
def m_TokenReader_peek_kind : FM := fnM 1 1 [] b_m_TokenReader_peek_kind
def b_m_TokenReader_read_name : SM := sSeq (sIf (bE (eOp pNe (gOwn (eMCall "TokenReader" "peek_kind" 0 m_TokenReader_peek_kind aNil)) (gOwn (eC (.str "name"))))) (sExpr (eMCall "TokenReader" "fail" 0 m_TokenReader_fail aNil)) (sNil)) (sSeq (sFldAugM 0 "TokenReader" "place" pAddN (eC (.int 1))) (sRet (eR (rOp pIx (rOp pIx (rFld "TokenReader" "tokens" (rVar 0)) (rOp pSub (rFld "TokenReader" "place" (rVar 0)) (rC (.int 1)))) (rC (.int 1))))))
def m_TokenReader_read_name : FM := fnM 1 1 [] b_m_TokenReader_read_name
def b_m_TokenReader_read_number : SM := sSeq (sIf (bE (eOp pNe (gOwn (eMCall "TokenReader" "peek_kind" 0 m_TokenReader_peek_kind aNil)) (gOwn (eC (.str "number"))))) (sExpr (eMCall "TokenReader" "fail" 0 m_TokenReader_fail aNil)) (sNil)) (sSeq (sFldAugM 0 "TokenReader" "place" pAddN (eC (.int 1))) (sRet (eN (rCl pInt (raCons (rOp pIx (rOp pIx (rFld "TokenReader" "tokens" (rVar 0)) (rOp pSub (rFld "TokenReader" "place" (rVar 0)) (rC (.int 1)))) (rC (.int 1))) (raNil))))))
def m_TokenReader_read_number : FM := fnM 1 1 [] b_m_TokenReader_read_number
def b_m_read_mark : SM := sSeq (sExpr (eMCall "TokenReader" "skip" 0 m_TokenReader_skip (aCons (gOwn (eC (.str "mark"))) (aNil)))) (sSeq (sAsg (eLst (aCons (gOwn (eMCall "TokenReader" "read_number" 0 m_TokenReader_read_number aNil)) (aNil))) (tgN 1)) (sSeq (whileL (bE (eOp pEq (gOwn (eMCall "TokenReader" "peek_kind" 0 m_TokenReader_peek_kind aNil)) (gOwn (eC (.str "number"))))) (sExpr (eMeth "list" 1 pAppend (aCons (gOwn (eMCall "TokenReader" "read_number" 0 m_TokenReader_read_number aNil)) (aNil)))) 100000) (sSeq (sExpr (eMCall "TokenReader" "skip" 0 m_TokenReader_skip (aCons (gOwn (eC (.str ";"))) (aNil)))) (sRet (eTup (aCons (gOwn (eC (.str "mark"))) (aCons (gOwn (eN (rCl pTuple (raCons (rVar 1) (raNil))))) (aNil))))))))
def m_read_mark : FM := fnM 1 2 [] b_m_read_mark
def b_m_read_num : SM := sSeq (sExpr (eMCall "TokenReader" "skip" 0 m_TokenReader_skip (aCons (gOwn (eC (.str "num"))) (aNil)))) (sSeq (sAsg (eMCall "TokenReader" "read_name" 0 m_TokenReader_read_name aNil) (tgN 1)) (sSeq (sAsg (eMCall "TokenReader" "read_number" 0 m_TokenReader_read_number aNil) (tgN 2)) (sSeq (sAsg (eC .non) (tgN 3)) (sSeq (sIf (bE (eOp pEq (gOwn (eMCall "TokenReader" "peek" 0 m_TokenReader_peek aNil)) (gOwn (eC (.str "in"))))) (sSeq (sExpr (eMCall "TokenReader" "skip" 0 m_TokenReader_skip (aCons (gOwn (eC (.str "in"))) (aNil)))) (sSeq (sAsg (eMCall "TokenReader" "read_number" 0 m_TokenReader_read_number aNil) (tgN 4)) (sSeq (sExpr (eMCall "TokenReader" "skip" 0 m_TokenReader_skip (aCons (gOwn (eC (.str ".."))) (aNil)))) (sAsg (eTup (aCons (gOwn (eVar 4)) (aCons (gOwn (eMCall "TokenReader" "read_number" 0 m_TokenReader_read_number aNil)) (aNil)))) (tgN 3))))) (sNil)) (sSeq (sExpr (eMCall "TokenReader" "skip" 0 m_TokenReader_skip (aCons (gOwn (eC (.str ";"))) (aNil)))) (sRet (eTup (aCons (gOwn (eC (.str "num"))) (aCons (gOwn (eVar 1)) (aCons (gOwn (eVar 2)) (aCons (gOwn (eVar 3)) (aNil))))))))))))
def m_read_num : FM := fnM 1 5 [] b_m_read_num
def b_m_read_told : SM := sSeq (sExpr (eMCall "TokenReader" "skip" 0 m_TokenReader_skip (aCons (gRef 1) (aNil)))) (sSeq (sAsg (eMCall "TokenReader" "read_name" 0 m_TokenReader_read_name aNil) (tgN 3)) (sSeq (sAsg (eMCall "TokenReader" "read_number" 0 m_TokenReader_read_number aNil) (tgN 4)) (sSeq (sExpr (eMCall "TokenReader" "skip" 0 m_TokenReader_skip (aCons (gRef 2) (aNil)))) (sSeq (sAsg (eMCall "TokenReader" "read_name" 0 m_TokenReader_read_name aNil) (tgN 5)) (sSeq (sExpr (eMCall "TokenReader" "skip" 0 m_TokenReader_skip (aCons (gOwn (eC (.str ";"))) (aNil)))) (sRet (eTup (aCons (gOwn (eVar 1)) (aCons (gOwn (eVar 3)) (aCons (gOwn (eVar 4)) (aCons (gOwn (eVar 5)) (aNil))))))))))))
def m_read_told : FM := fnM 3 6 [] b_m_read_told
def b_m_read_sum : SM := sSeq (sExpr (eMCall "TokenReader" "skip" 0 m_TokenReader_skip (aCons (gRef 1) (aNil)))) (sSeq (sAsg (eLst (aCons (gOwn (eVar 1)) (aCons (gOwn (eMCall "TokenReader" "read_name" 0 m_TokenReader_read_name aNil)) (aCons (gOwn (eMCall "TokenReader" "read_number" 0 m_TokenReader_read_number aNil)) (aNil))))) (tgN 2)) (sSeq (sIf (bE (eN (rOp pEq (rVar 1) (rC (.str "roll"))))) (sSeq (sExpr (eMCall "TokenReader" "skip" 0 m_TokenReader_skip (aCons (gOwn (eC (.str "by"))) (aNil)))) (sExpr (eMeth "list" 2 pAppend (aCons (gOwn (eMCall "TokenReader" "read_number" 0 m_TokenReader_read_number aNil)) (aNil))))) (sNil)) (sSeq (sExpr (eMCall "TokenReader" "skip" 0 m_TokenReader_skip (aCons (gOwn (eC (.str "over"))) (aNil)))) (sSeq (sExpr (eMeth "list" 2 pAppend (aCons (gOwn (eMCall "TokenReader" "read_name" 0 m_TokenReader_read_name aNil)) (aNil)))) (sSeq (sExpr (eMCall "TokenReader" "skip" 0 m_TokenReader_skip (aCons (gOwn (eC (.str ".."))) (aNil)))) (sSeq (sExpr (eMeth "list" 2 pAppend (aCons (gOwn (eMCall "TokenReader" "read_name" 0 m_TokenReader_read_name aNil)) (aNil)))) (sSeq (sExpr (eMCall "TokenReader" "skip" 0 m_TokenReader_skip (aCons (gOwn (eC (.str ";"))) (aNil)))) (sRet (eN (rCl pTuple (raCons (rVar 2) (raNil))))))))))))
def m_read_sum : FM := fnM 2 3 [] b_m_read_sum
def b_m_read_plain : SM := sSeq (sExpr (eMCall "TokenReader" "skip" 0 m_TokenReader_skip (aCons (gRef 1) (aNil)))) (sSeq (sAsg (eMCall "TokenReader" "read_name" 0 m_TokenReader_read_name aNil) (tgN 2)) (sSeq (sIf (bE (eN (rOp pEq (rVar 1) (rC (.str "rest"))))) (sAsg (eTup (aCons (gOwn (eVar 1)) (aCons (gOwn (eVar 2)) (aNil)))) (tgN 3)) (sIf (bE (eN (rOp pEq (rVar 1) (rC (.str "inner"))))) (sSeq (sExpr (eMCall "TokenReader" "skip" 0 m_TokenReader_skip (aCons (gOwn (eC (.str "of"))) (aNil)))) (sAsg (eTup (aCons (gOwn (eVar 1)) (aCons (gOwn (eVar 2)) (aCons (gOwn (eMCall "TokenReader" "read_name" 0 m_TokenReader_read_name aNil)) (aNil))))) (tgN 3))) (sAsg (eTup (aCons (gOwn (eVar 1)) (aCons (gOwn (eVar 2)) (aCons (gOwn (eMCall "TokenReader" "read_number" 0 m_TokenReader_read_number aNil)) (aNil))))) (tgN 3)))) (sSeq (sExpr (eMCall "TokenReader" "skip" 0 m_TokenReader_skip (aCons (gOwn (eC (.str ";"))) (aNil)))) (sRet (eVar 3)))))
def m_read_plain : FM := fnM 2 4 [] b_m_read_plain
def b_m_read_block (r_read_block r_read_item r_read_holder r_read_pick : FM) : SM := sSeq (sExpr (eMCall "TokenReader" "skip" 0 m_TokenReader_skip (aCons (gOwn (eC (.str "{"))) (aNil)))) (sSeq (sAsg (eLst (aNil)) (tgN 1)) (sSeq (whileL (bE (eOp pNe (gOwn (eMCall "TokenReader" "peek" 0 m_TokenReader_peek aNil)) (gOwn (eC (.str "}"))))) (sExpr (eMeth "list" 1 pAppend (aCons (gOwn (eCall r_read_item (aCons (gRef 0) (aNil)))) (aNil)))) 100000) (sSeq (sExpr (eMCall "TokenReader" "skip" 0 m_TokenReader_skip (aCons (gOwn (eC (.str "}"))) (aNil)))) (sRet (eN (rCl pTuple (raCons (rVar 1) (raNil))))))))
def b_m_read_item (r_read_block r_read_item r_read_holder r_read_pick : FM) : SM := sSeq (sAsg (eMCall "TokenReader" "peek" 0 m_TokenReader_peek aNil) (tgN 1)) (sSeq (sIf (bE (eN (rOp pEq (rVar 1) (rC (.str "mark"))))) (sRet (eCall m_read_mark (aCons (gRef 0) (aNil)))) (sNil)) (sSeq (sIf (bE (eN (rOp pEq (rVar 1) (rC (.str "num"))))) (sRet (eCall m_read_num (aCons (gRef 0) (aNil)))) (sNil)) (sSeq (sIf (bE (eOp pIn (gRef 1) (gOwn (eTup (aCons (gOwn (eC (.str "size"))) (aCons (gOwn (eC (.str "count"))) (aNil))))))) (sRet (eCall m_read_told (aCons (gRef 0) (aCons (gRef 1) (aCons (gOwn (eC (.str "of"))) (aNil)))))) (sNil)) (sSeq (sIf (bE (eN (rOp pEq (rVar 1) (rC (.str "gap"))))) (sRet (eCall m_read_told (aCons (gRef 0) (aCons (gRef 1) (aCons (gOwn (eC (.str "to"))) (aNil)))))) (sNil)) (sSeq (sIf (bE (eOp pIn (gRef 1) (gOwn (eTup (aCons (gOwn (eC (.str "sum"))) (aCons (gOwn (eC (.str "roll"))) (aNil))))))) (sRet (eCall m_read_sum (aCons (gRef 0) (aCons (gRef 1) (aNil))))) (sNil)) (sSeq (sIf (bE (eOp pIn (gRef 1) (gOwn (eTup (aCons (gOwn (eC (.str "pad"))) (aCons (gOwn (eC (.str "free"))) (aCons (gOwn (eC (.str "rest"))) (aCons (gOwn (eC (.str "inner"))) (aNil))))))))) (sRet (eCall m_read_plain (aCons (gRef 0) (aCons (gRef 1) (aNil))))) (sNil)) (sSeq (sIf (bAnd (bE (eOp pIn (gRef 1) (gOwn (eTup (aCons (gOwn (eC (.str "part"))) (aCons (gOwn (eC (.str "maybe"))) (aCons (gOwn (eC (.str "many"))) (aCons (gOwn (eC (.str "grow"))) (aCons (gOwn (eC (.str "since"))) (aCons (gOwn (eC (.str "nest"))) (aNil))))))))))) (bE (eN (rOp pLt (rFld "TokenReader" "braces" (rVar 0)) (rC (.int 12)))))) (sRet (eCall r_read_holder (aCons (gRef 0) (aCons (gRef 1) (aNil))))) (sNil)) (sSeq (sIf (bAnd (bE (eN (rOp pEq (rVar 1) (rC (.str "pick"))))) (bE (eN (rOp pLt (rOp pAdd (rFld "TokenReader" "braces" (rVar 0)) (rC (.int 1))) (rC (.int 12)))))) (sRet (eCall r_read_pick (aCons (gRef 0) (aNil)))) (sNil)) (sRaise "BadText" ["at"] (aCons (gOwn (eR (rFld "TokenReader" "place" (rVar 0)))) (aNil)))))))))))
def b_m_read_holder (r_read_block r_read_item r_read_holder r_read_pick : FM) : SM := sSeq (sExpr (eMCall "TokenReader" "skip" 0 m_TokenReader_skip (aCons (gRef 1) (aNil)))) (sSeq (sIf (bE (eN (rOp pEq (rVar 1) (rC (.str "since"))))) (sSeq (sAsg (eMCall "TokenReader" "read_number" 0 m_TokenReader_read_number aNil) (tgN 3)) (sRet (eTup (aCons (gOwn (eVar 1)) (aCons (gOwn (eVar 3)) (aCons (gOwn (eCall r_read_block (aCons (gRef 0) (aNil)))) (aNil))))))) (sNil)) (sSeq (sAsg (eMCall "TokenReader" "read_name" 0 m_TokenReader_read_name aNil) (tgN 2)) (sSeq (sIf (bE (eOp pIn (gRef 1) (gOwn (eTup (aCons (gOwn (eC (.str "grow"))) (aCons (gOwn (eC (.str "nest"))) (aNil))))))) (sSeq (sAsg (eMCall "TokenReader" "read_number" 0 m_TokenReader_read_number aNil) (tgN 3)) (sRet (eTup (aCons (gOwn (eVar 1)) (aCons (gOwn (eVar 2)) (aCons (gOwn (eVar 3)) (aCons (gOwn (eCall r_read_block (aCons (gRef 0) (aNil)))) (aNil)))))))) (sNil)) (sRet (eTup (aCons (gOwn (eVar 1)) (aCons (gOwn (eVar 2)) (aCons (gOwn (eCall r_read_block (aCons (gRef 0) (aNil)))) (aNil)))))))))
def b_m_read_pick (r_read_block r_read_item r_read_holder r_read_pick : FM) : SM := sSeq (sExpr (eMCall "TokenReader" "skip" 0 m_TokenReader_skip (aCons (gOwn (eC (.str "pick"))) (aNil)))) (sSeq (sAsg (eMCall "TokenReader" "read_name" 0 m_TokenReader_read_name aNil) (tgN 1)) (sSeq (sExpr (eMCall "TokenReader" "skip" 0 m_TokenReader_skip (aCons (gOwn (eC (.str "{"))) (aNil)))) (sSeq (sAsg (eLst (aNil)) (tgN 2)) (sSeq (whileL (bOr (bNot (bTru (rVar 2))) (bE (eOp pNe (gOwn (eMCall "TokenReader" "peek" 0 m_TokenReader_peek aNil)) (gOwn (eC (.str "}")))))) (sSeq (sExpr (eMCall "TokenReader" "skip" 0 m_TokenReader_skip (aCons (gOwn (eC (.str "case"))) (aNil)))) (sSeq (sAsg (eMCall "TokenReader" "read_name" 0 m_TokenReader_read_name aNil) (tgN 3)) (sExpr (eMeth "list" 2 pAppend (aCons (gOwn (eTup (aCons (gOwn (eVar 3)) (aCons (gOwn (eCall r_read_block (aCons (gRef 0) (aNil)))) (aNil))))) (aNil)))))) 100000) (sSeq (sExpr (eMCall "TokenReader" "skip" 0 m_TokenReader_skip (aCons (gOwn (eC (.str "}"))) (aNil)))) (sRet (eTup (aCons (gOwn (eC (.str "pick"))) (aCons (gOwn (eVar 1)) (aCons (gOwn (eN (rCl pTuple (raCons (rVar 2) (raNil))))) (aNil)))))))))))
mutual
def m_read_block : Nat → FM
  | 0 => fBad
  | n + 1 => fnM 1 2 [] (b_m_read_block (m_read_block n) (m_read_item n) (m_read_holder n) (m_read_pick n))
def m_read_item : Nat → FM
  | 0 => fBad
  | n + 1 => fnM 1 2 [] (b_m_read_item (m_read_block n) (m_read_item n) (m_read_holder n) (m_read_pick n))
def m_read_holder : Nat → FM
  | 0 => fBad
  | n + 1 => fnM 2 4 [] (b_m_read_holder (m_read_block n) (m_read_item n) (m_read_holder n) (m_read_pick n))
def m_read_pick : Nat → FM
  | 0 => fBad
  | n + 1 => fnM 1 4 [] (b_m_read_pick (m_read_block n) (m_read_item n) (m_read_holder n) (m_read_pick n))
end
def b_m_run_end : SM := sSeq (sAsg (eVar 1) (tgN 2)) (sSeq (whileL (bAnd (bE (eN (rOp pLt (rVar 2) (rCl pLen (raCons (rVar 0) (raNil)))))) (bE (eN (rOp pIn (rOp pIx (rVar 0) (rVar 2)) (rOp pAdd (rOp pAdd (rC (.str "abcdefghijklmnopqrstuvwxyz")) (rC (.str "ABCDEFGHIJKLMNOPQRSTUVWXYZ"))) (rC (.str "0123456789"))))))) (sAug 2 pAddI (eC (.int 1))) 100000) (sRet (eVar 2)))
def m_run_end : FM := fnM 2 3 [] b_m_run_end
def b_m_all_in : SM := sSeq (sFor (itC (eVar 0)) (tgN 2) (sIf (bE (eN (rOp pNotIn (rVar 2) (rVar 1)))) (sRet (eC (.bl false))) (sNil))) (sRet (eC (.bl true)))
def m_all_in : FM := fnM 2 3 [] b_m_all_in
def b_m_is_name : SM := sRet (eAnd (eR (rChain pLe pLe (rC (.int 1)) (rCl pLen (raCons (rVar 0) (raNil))) (rC (.int 8)))) (eAnd (eN (rOp pIn (rOp pIx (rVar 0) (rC (.int 0))) (rC (.str "abcdefghijklmnopqrstuvwxyz")))) (eCall m_all_in (aCons (gRef 0) (aCons (gOwn (eN (rOp pAdd (rC (.str "abcdefghijklmnopqrstuvwxyz")) (rC (.str "0123456789"))))) (aNil))))))
def m_is_name : FM := fnM 1 1 [] b_m_is_name
def b_m_is_number : SM := sSeq (sIf (bOr (bNot (bE (eR (rChain pLe pLe (rC (.int 1)) (rCl pLen (raCons (rVar 0) (raNil))) (rC (.int 4)))))) (bNot (bE (eCall m_all_in (aCons (gRef 0) (aCons (gOwn (eR (rC (.str "0123456789")))) (aNil))))))) (sRet (eC (.bl false))) (sNil)) (sRet (eOr (eN (rOp pEq (rVar 0) (rC (.str "0")))) (eN (rOp pNe (rOp pIx (rVar 0) (rC (.int 0))) (rC (.str "0"))))))
def m_is_number : FM := fnM 1 1 [] b_m_is_number
def b_m_run_token : SM := sSeq (sIf (bE (eCall m_is_name (aCons (gRef 0) (aNil)))) (sSeq (sIf (bE (eN (rOp pIn (rVar 0) (rC (.tup [(.str "format"), (.str "base"), (.str "version"), (.str "mark"), (.str "num"), (.str "in"), (.str "size"), (.str "count"), (.str "gap"), (.str "sum"), (.str "roll"), (.str "over"), (.str "by"), (.str "of"), (.str "to"), (.str "pad"), (.str "free"), (.str "rest"), (.str "part"), (.str "maybe"), (.str "many"), (.str "pick"), (.str "case"), (.str "grow"), (.str "since"), (.str "nest"), (.str "inner")]))))) (sRet (eTup (aCons (gOwn (eC (.str "word"))) (aCons (gOwn (eVar 0)) (aNil))))) (sNil)) (sRet (eTup (aCons (gOwn (eC (.str "name"))) (aCons (gOwn (eVar 0)) (aNil)))))) (sNil)) (sSeq (sIf (bE (eCall m_is_number (aCons (gRef 0) (aNil)))) (sRet (eTup (aCons (gOwn (eC (.str "number"))) (aCons (gOwn (eVar 0)) (aNil))))) (sNil)) (sRet (eTup (aCons (gOwn (eC (.str "bad"))) (aCons (gOwn (eVar 0)) (aNil))))))
def m_run_token : FM := fnM 1 1 [] b_m_run_token
def b_m_tokens_of : SM := sSeq (sAsg (eLst (aNil)) (tgN 1)) (sSeq (sAsg (eC (.int 0)) (tgN 2)) (sSeq (whileL (bE (eN (rOp pLt (rVar 2) (rCl pLen (raCons (rVar 0) (raNil)))))) (sSeq (sAsg (eCall m_run_end (aCons (gRef 0) (aCons (gRef 2) (aNil)))) (tgN 3)) (sIf (bE (eOp pIn (gOwn (eR (rOp pIx (rVar 0) (rVar 2)))) (gOwn (eTup (aCons (gOwn (eC (.str " "))) (aCons (gOwn (eC (.str "\n"))) (aNil))))))) (sAug 2 pAddI (eC (.int 1))) (sIf (bE (eN (rOp pGt (rVar 3) (rVar 2)))) (sSeq (sExpr (eMeth "list" 1 pAppend (aCons (gOwn (eCall m_run_token (aCons (gOwn (eSl pSl (gRef 0) (oSome (eVar 2)) (oSome (eVar 3)))) (aNil)))) (aNil)))) (sAsg (eVar 3) (tgN 2))) (sIf (bE (eOp pEq (gOwn (eSl pSl (gRef 0) (oSome (eVar 2)) (oSome (eN (rOp pAdd (rVar 2) (rC (.int 2))))))) (gOwn (eC (.str ".."))))) (sSeq (sExpr (eMeth "list" 1 pAppend (aCons (gOwn (eTup (aCons (gOwn (eC (.str "word"))) (aCons (gOwn (eC (.str ".."))) (aNil))))) (aNil)))) (sAug 2 pAddI (eC (.int 2)))) (sIf (bE (eOp pIn (gOwn (eR (rOp pIx (rVar 0) (rVar 2)))) (gOwn (eTup (aCons (gOwn (eC (.str "{"))) (aCons (gOwn (eC (.str "}"))) (aCons (gOwn (eC (.str ";"))) (aNil)))))))) (sSeq (sExpr (eMeth "list" 1 pAppend (aCons (gOwn (eTup (aCons (gOwn (eC (.str "word"))) (aCons (gOwn (eR (rOp pIx (rVar 0) (rVar 2)))) (aNil))))) (aNil)))) (sAug 2 pAddI (eC (.int 1)))) (sSeq (sExpr (eMeth "list" 1 pAppend (aCons (gOwn (eTup (aCons (gOwn (eC (.str "bad"))) (aCons (gOwn (eR (rOp pIx (rVar 0) (rVar 2)))) (aNil))))) (aNil)))) (sAug 2 pAddI (eC (.int 1))))))))) 100000) (sRet (eVar 1))))
def m_tokens_of : FM := fnM 1 4 [] b_m_tokens_of
def b_m_read_format : SM := sSeq (sAsg (eMake "TokenReader" m_TokenReader___init__ (aCons (gOwn (eCall m_tokens_of (aCons (gRef 0) (aNil)))) (aNil))) (tgN 1)) (sSeq (sExpr (eMCall "TokenReader" "skip" 1 m_TokenReader_skip (aCons (gOwn (eC (.str "format"))) (aNil)))) (sSeq (sAsg (eMCall "TokenReader" "read_name" 1 m_TokenReader_read_name aNil) (tgN 2)) (sSeq (sExpr (eMCall "TokenReader" "skip" 1 m_TokenReader_skip (aCons (gOwn (eC (.str "base"))) (aNil)))) (sSeq (sAsg (eMCall "TokenReader" "read_number" 1 m_TokenReader_read_number aNil) (tgN 3)) (sSeq (sAsg (eC (.int 1)) (tgN 4)) (sSeq (sIf (bE (eOp pEq (gOwn (eMCall "TokenReader" "peek" 1 m_TokenReader_peek aNil)) (gOwn (eC (.str "version"))))) (sSeq (sExpr (eMCall "TokenReader" "skip" 1 m_TokenReader_skip (aCons (gOwn (eC (.str "version"))) (aNil)))) (sAsg (eMCall "TokenReader" "read_number" 1 m_TokenReader_read_number aNil) (tgN 4))) (sNil)) (sSeq (sAsg (eCall (m_read_block 45) (aCons (gRef 1) (aNil))) (tgN 5)) (sSeq (sIf (bE (eN (rOp pLt (rFld "TokenReader" "place" (rVar 1)) (rCl pLen (raCons (rFld "TokenReader" "tokens" (rVar 1)) (raNil)))))) (sRaise "BadText" ["at"] (aCons (gOwn (eR (rFld "TokenReader" "place" (rVar 1)))) (aNil))) (sNil)) (sRet (eTup (aCons (gOwn (eC (.str "format"))) (aCons (gOwn (eVar 2)) (aCons (gOwn (eVar 3)) (aCons (gOwn (eVar 4)) (aCons (gOwn (eVar 5)) (aNil))))))))))))))))
def m_read_format : FM := fnM 1 6 [] b_m_read_format
end PVL

/-! M3: equations of the newer combinators; the common functions by their names in C1. -/
namespace PVL
open PySem PySem.Spec L2
theorem c_draw : m__law_draw = mDraw := rfl
theorem c_isint : m__law_is_int = mIsInt := rfl
theorem c_begin : m__law_begin = mBegin := rfl
theorem c_pick : m__law_pick = mPick := rfl
theorem c_rare : m__law_rare = mRare := rfl
theorem c_same : ∀ n, m__law_same n = mSame n
  | 0 => rfl
  | n + 1 => by
    show fnM 2 3 [] (b_m__law_same n (m__law_same n)) = _
    rw [c_same n]
    rfl
@[simp] theorem rChain_ap (f g : PV → PV → Option PV) (a b c : RM) (env : PEnv) : rChain f g a b c env = (a env).bind fun x => (b env).bind fun y => match f x y with
  | some (.bl true) => (c env).bind fun z => g y z
  | some (.bl false) => some (.bl false)
  | _ => none := rfl
@[simp] theorem eSM0_ap (f : Str → Option PV) (m : EM) (env : PEnv) : eSM0 f m env = (m env).bind fun x e => match x with
  | .str z => ofO (f z) e
  | _ => .bad := rfl
@[simp] theorem eSM1_ap (f : Str → PV → Option PV) (m : EM) (g : GM) (env : PEnv) : eSM1 f m g env = (m env).bind fun x e1 => match x with
  | .str z => (g e1).bind fun y e2 => ofO ((seeG e2 y).bind fun p => f z p) e2
  | _ => .bad := rfl
@[simp] theorem pStr_i (i : Int) : pStr [.int i] = if i.natAbs.log2 < 1920 then some (.str (toString i)) else none := rfl
@[simp] theorem pStr_s (a : Str) : pStr [.str a] = some (.str a) := rfl
@[simp] theorem pExtend_l (x y : List PV) : pExtend (.lst x) [.lst y] = if x.length + y.length ≤ sizeLine ∧ immL y = true then some (.non, .lst (x ++ y)) else none := rfl
theorem draw_c (d : Dr) (n : Int) (h1 : 0 < n) (h2 : n < 1073741824) : ∃ (r : Int) (d' : Dr), m__law_draw [d.pv, .int n] = .ok (.int r) [some d'.pv, some (.int n)] ∧ 0 ≤ r ∧ r < n := draw_ok d n h1 h2
theorem pick_lc (d : Dr) (xs : List PV) (h : 0 < xs.length) (h2 : xs.length < 1073741824) (hi : immL xs = true) : ∃ (i : Nat) (hl : i < xs.length) (d' : Dr), m__law_pick [d.pv, .lst xs] = .ok xs[i] [some d'.pv, some (.lst xs)] := pick_l d xs h h2 hi
theorem pick_tc (d : Dr) (xs : List PV) (h : 0 < xs.length) (h2 : xs.length < 1073741824) (hi : immL xs = true) : ∃ (i : Nat) (hl : i < xs.length) (d' : Dr), m__law_pick [d.pv, .tup xs] = .ok xs[i] [some d'.pv, some (.tup xs)] := pick_t d xs h h2 hi
theorem rare_c (d : Dr) (n : Int) (h1 : 0 < n) (h2 : n < 1073741824) : ∃ (b : Bool) (d' : Dr), m__law_rare [d.pv, .int n] = .ok (.bl b) [some d'.pv, some (.int n)] := rare_ok d n h1 h2
theorem begin_c (ns : List Int) : ∃ d : Dr, m__law_begin [.frz (ns.map .int)] = .ok d.pv [some (.frz (ns.map .int))] := begin_ok ns
theorem same_c (n : Nat) (x : PV) (h : PVL.plain n x = true) : m__law_same n [x, x] = .ok (.bl true) [some x, some x] := by rw [c_same]; exact same_ok n x h
/-- a list of the imm values that is drawn from: what comes is one of them -/
theorem pick_mem (d : Dr) (xs : List PV) (h : 0 < xs.length) (h2 : xs.length < 1073741824) (hi : immL xs = true) : ∃ (x : PV) (d' : Dr), x ∈ xs ∧ m__law_pick [d.pv, .lst xs] = .ok x [some d'.pv, some (.lst xs)] := by
  obtain ⟨i, hl, d', e⟩ := pick_lc d xs h h2 hi
  exact ⟨_, d', List.getElem_mem hl, e⟩
theorem pop_ok (d : Dr) (xs : List PV) (h : 0 < xs.length) (h2 : xs.length < 1073741824) (hi : immL xs = true) : ∃ (i : Nat) (hl : i < xs.length) (d' : Dr), m__law_pop [d.pv, .lst xs] = .ok xs[i] [some d'.pv, some (.lst (xs.eraseIdx i))] := by
  obtain ⟨r, d', e, r0, r1⟩ := draw_c d xs.length (by omega) (by omega)
  have hl : r.toNat < xs.length := by omega
  refine ⟨r.toNat, hl, d', ?_⟩
  have hs : seqIndex? r xs.length = some r.toNat := by
    unfold seqIndex?
    have h1 : ¬ r < 0 := by omega
    simp only [if_neg h1]
    simp [r0, r1]
  have hp : pPopAt (.lst xs) [.int r] = some (xs[r.toNat], .lst (xs.eraseIdx r.toNat)) := by
    unfold pPopAt
    have : r.natAbs < 2 ^ 63 := by omega
    simp only [this, hi, and_self, if_true, hs]
    simp [hl]
  unfold m__law_pop
  rw [fnM_at rfl]
  simp [b_m__law_pop, e, hp]
/-! texts -/
theorem pSplit_s (z b : Str) : pSplit z (.str b) = if (b.length == 0) = false ∧ z.length + 2 ≤ sizeLine then some (.lst ((Txt.split z b).map .str)) else none := rfl
theorem pJoin_l (z : Str) (xs : List PV) : pJoin z (.lst xs) = (strsOf xs).bind fun ys => if (ys.map (·.length)).sum + ys.length * z.length ≤ 16777216 then some (.str (Txt.join z ys)) else none := rfl
theorem strs_map (zs : List Str) : immL (zs.map PV.str) = true := immL_map _ _ fun _ _ => rfl
def wordsL : List Str := Txt.split ("format base version mark num in size count gap sum roll over by of to pad free rest part maybe many " ++ "pick case grow since nest inner") " "
def plainL : List Str := Txt.split ((("never end any cell keep tell fork jump round check within put bump up down add less turn seen none plain " ++ "sheet watcher least one two body files kind inside turns new value cells file name tree item block ") ++ "text length then else if while for do let set get at from is not and or as with all each repeat ") ++ "times bytes word char list map header data flags crc big n s c p0 k0 c0") " "
theorem wordsL_n : 0 < wordsL.length ∧ wordsL.length < 1000 ∧ ∀ z ∈ wordsL, z.length ≤ 20 := by decide +kernel
theorem plainL_n : 0 < plainL.length ∧ plainL.length < 1000 ∧ ∀ z ∈ plainL, z.length ≤ 20 := by decide +kernel
theorem words_ok : m__law_words [] = .ok (.lst (wordsL.map .str)) [] := by
  unfold m__law_words
  rw [fnM_at rfl]
  have h1 : pAdd (.str "format base version mark num in size count gap sum roll over by of to pad free rest part maybe many ") (.str "pick case grow since nest inner") = some (.str ("format base version mark num in size count gap sum roll over by of to pad free rest part maybe many " ++ "pick case grow since nest inner")) := by
    rw [pAdd_s, if_pos (by decide +kernel)]
  have h2 : pSplit ("format base version mark num in size count gap sum roll over by of to pad free rest part maybe many " ++ "pick case grow since nest inner") (.str " ") = some (.lst (wordsL.map .str)) := by
    rw [pSplit_s, if_pos (by decide +kernel)]
    rfl
  simp [b_m__law_words, h1, h2, -pAdd_s]
theorem plain_words_ok : m__law_plain_words [] = .ok (.lst (plainL.map .str)) [] := by
  unfold m__law_plain_words
  rw [fnM_at rfl]
  generalize hA : ("never end any cell keep tell fork jump round check within put bump up down add less turn seen none plain " : Str) = A
  generalize hB : ("sheet watcher least one two body files kind inside turns new value cells file name tree item block " : Str) = B
  generalize hC : ("text length then else if while for do let set get at from is not and or as with all each repeat " : Str) = C
  generalize hD : ("times bytes word char list map header data flags crc big n s c p0 k0 c0" : Str) = D
  have l1 : A.length + B.length ≤ sizeLine := by subst hA; subst hB; decide +kernel
  have l2 : (A ++ B).length + C.length ≤ sizeLine := by subst hA; subst hB; subst hC; decide +kernel
  have l3 : ((A ++ B) ++ C).length + D.length ≤ sizeLine := by subst hA; subst hB; subst hC; subst hD; decide +kernel
  have h2 : pSplit (((A ++ B) ++ C) ++ D) (.str " ") = some (.lst (plainL.map .str)) := by
    rw [pSplit_s, if_pos (by subst hA; subst hB; subst hC; subst hD; decide +kernel)]
    subst hA; subst hB; subst hC; subst hD
    rfl
  simp only [b_m__law_plain_words, hA, hB, hC, hD]
  simp [l1, l2, l3, h2]
def kindsS (room : Int) : Str := ((if 1 < room then (if 0 < room then ("mark num size count gap " : Str) ++ "part maybe many grow since nest " else "mark num size count gap ") ++ "pick " else (if 0 < room then ("mark num size count gap " : Str) ++ "part maybe many grow since nest " else "mark num size count gap ")) ++ "sum roll pad free rest inner")
def shortL : List Str := ["mark", "num", "size", "count", "gap", "sum", "roll", "pad", "free", "rest", "inner"]
def kinds0 : List Str := ["mark", "num", "size", "count", "gap", "sum", "roll", "pad", "free", "rest", "inner"]
def kinds1 : List Str := ["mark", "num", "size", "count", "gap", "part", "maybe", "many", "grow", "since", "nest", "sum", "roll", "pad", "free", "rest", "inner"]
def kinds2 : List Str := ["mark", "num", "size", "count", "gap", "part", "maybe", "many", "grow", "since", "nest", "pick", "sum", "roll", "pad", "free", "rest", "inner"]
def kindsL (room : Int) : List Str := if 1 < room then kinds2 else if 0 < room then kinds1 else kinds0
theorem kinds_ok (room : Int) : m__law_kinds [.int room] = .ok (.lst ((kindsL room).map .str)) [some (.int room)] := by
  unfold m__law_kinds
  rw [fnM_at rfl]
  generalize hA : ("mark num size count gap " : Str) = A
  generalize hB : ("part maybe many grow since nest " : Str) = B
  generalize hC : ("pick " : Str) = C
  generalize hD : ("sum roll pad free rest inner" : Str) = D
  have l1 : A.length + B.length ≤ sizeLine := by subst hA; subst hB; decide +kernel
  have l2 : (A ++ B).length + C.length ≤ sizeLine := by subst hA; subst hB; subst hC; decide +kernel
  have l3 : ((A ++ B) ++ C).length + D.length ≤ sizeLine := by subst hA; subst hB; subst hC; subst hD; decide +kernel
  have l4 : (A ++ B).length + D.length ≤ sizeLine := by subst hA; subst hB; subst hD; decide +kernel
  have l5 : A.length + D.length ≤ sizeLine := by subst hA; subst hD; decide +kernel
  have s2 : pSplit (((A ++ B) ++ C) ++ D) (.str " ") = some (.lst (kinds2.map .str)) := by
    subst hA; subst hB; subst hC; subst hD
    rw [pSplit_s, if_pos (by decide +kernel)]
    have : Txt.split (((("mark num size count gap " : Str) ++ "part maybe many grow since nest ") ++ "pick ") ++ "sum roll pad free rest inner") " " = kinds2 := by decide +kernel
    rw [this]
  have s1 : pSplit ((A ++ B) ++ D) (.str " ") = some (.lst (kinds1.map .str)) := by
    subst hA; subst hB; subst hD
    rw [pSplit_s, if_pos (by decide +kernel)]
    have : Txt.split ((("mark num size count gap " : Str) ++ "part maybe many grow since nest ") ++ "sum roll pad free rest inner") " " = kinds1 := by decide +kernel
    rw [this]
  have s0 : pSplit (A ++ D) (.str " ") = some (.lst (kinds0.map .str)) := by
    subst hA; subst hD
    rw [pSplit_s, if_pos (by decide +kernel)]
    have : Txt.split (("mark num size count gap " : Str) ++ "sum roll pad free rest inner") " " = kinds0 := by decide +kernel
    rw [this]
  simp only [b_m__law_kinds, hA, hB, hC, hD]
  by_cases h1 : 1 < room
  · have h0 : 0 < room := by omega
    simp [h0, h1, l1, l2, l3, s2, kindsL]
  · by_cases h0 : 0 < room
    · simp [h0, h1, l1, l4, s1, kindsL]
    · simp [h0, h1, l5, s0, kindsL]
end PVL

/-! M4: equations of the combinators for objects, truth, texts. -/
namespace PVL
open PySem PySem.Spec L2
def objOk (c m : Str) : PV → Bool
  | .obj c' fs => decide (c' = c ∧ fs.lookup m = none)
  | _ => false
@[simp] theorem eMCall_ap (c m : Str) (i : Nat) (fm : FM) (am : AM) (env : PEnv) : eMCall c m i fm am env = match env[i]? with
    | some (some p) => if objOk c m p = true then eCall fm (aCons (gRef i) am) env else .bad
    | _ => .bad := by
  unfold eMCall
  cases env[i]? with
  | none => rfl
  | some o =>
    cases o with
    | none => rfl
    | some p => cases p <;> simp only [objOk, decide_eq_true_eq] <;> rfl
def fldP (c f : Str) : PV → Option PV
  | .obj c' fs => if c' = c then fs.lookup f else none
  | _ => none
@[simp] theorem rFld_ap (c f : Str) (r : RM) (env : PEnv) : rFld c f r env = (r env).bind (fldP c f) := by
  unfold rFld
  cases r env with
  | none => rfl
  | some p => cases p <;> rfl
def fldS (c f : Str) (v : PV) : PV → Option PV
  | .obj c' fs => if c' = c ∧ fs.length < 1000 then some (PV.obj c (putP f v fs)) else none
  | _ => none
@[simp] theorem sFldSet_ap (i : Nat) (c f : Str) (m : EM) (env : PEnv) : sFldSet i c f m env = (m env).toS fun v e => match e[i]? with
    | some (some p) => (match fldS c f v p with
      | some p' => .next (e.set i (some p'))
      | none => .bad)
    | _ => .bad := by
  unfold sFldSet
  congr 1
  funext v e
  cases e[i]? with
  | none => rfl
  | some o =>
    cases o with
    | none => rfl
    | some p => cases p <;> rfl
@[simp] theorem sFldAugM_ap (i : Nat) (c f : Str) (g : PV → PV → Option PV) (m : EM) (env : PEnv) : sFldAugM i c f g m env = match env[i]? with
    | some (some p0) => (match fldP c f p0 with
      | some p => if p.imm = true then (m env).toS fun v e => (match g p v with
        | some z => if z.imm = true then (match e[i]? with
          | some (some p1) => (match fldS c f z p1 with
            | some p' => .next (e.set i (some p'))
            | none => .bad)
          | _ => .bad) else .bad
        | none => .bad) else .bad
      | none => .bad)
    | _ => .bad := by
  unfold sFldAugM
  cases env[i]? with
  | none => rfl
  | some o =>
    cases o with
    | none => rfl
    | some p0 =>
      cases p0 with
      | obj c' fs =>
        simp only [fldP]
        by_cases q : c' = c
        · rw [if_pos q, if_pos q]
          cases fs.lookup f with
          | none => rfl
          | some p =>
            simp only
            by_cases hi : p.imm = true
            · rw [if_pos hi, if_pos hi]
              congr 1
              funext v e
              cases g p v with
              | none => rfl
              | some z =>
                simp only
                by_cases hz : z.imm = true
                · rw [if_pos hz, if_pos hz]
                  cases e[i]? with
                  | none => rfl
                  | some o =>
                    cases o with
                    | none => rfl
                    | some p => cases p <;> rfl
                · rw [if_neg hz, if_neg hz]
            · rw [if_neg hi, if_neg hi]
        · rw [if_neg q, if_neg q]
      | _ => rfl
@[simp] theorem eMake_ap (c : Str) (fm : FM) (a : AM) (env : PEnv) : eMake c fm a env = (a env).bind fun as e => match takeA as e with
    | some (ps, e1) => (match fm (.obj c [] :: ps) with
      | .ok .non (some x :: qs) => .ok x (putA as qs e1)
      | .exc x (_ :: qs) => .exc x (putA as qs e1)
      | _ => .bad)
    | none => .bad := rfl
@[simp] theorem bTru_ap (m : RM) (env : PEnv) : bTru m env = match (m env).bind pTru with
    | some b => .ok b env
    | none => .bad := rfl
@[simp] theorem itC_ap (m : EM) (env : PEnv) : itC m env = (m env).bind fun x e => match x with
    | .str z => .ok (chrs z) e
    | _ => .bad := rfl
@[simp] theorem imm_obj (c : Str) (fs : List (Str × PV)) : (PV.obj c fs).imm = false := rfl
@[simp] theorem pAddN_i (a b : Int) : pAddN (.int a) (.int b) = some (.int (a + b)) := rfl
@[simp] theorem pSubN_i (a b : Int) : pSubN (.int a) (.int b) = some (.int (a - b)) := rfl
@[simp] theorem pTru_l (x : List PV) : pTru (.lst x) = some (!x.isEmpty) := rfl
@[simp] theorem pTru_b (b : Bool) : pTru (.bl b) = some b := rfl
@[simp] theorem pTru_i (i : Int) : pTru (.int i) = some (i != 0) := rfl
theorem pInt_s (a : Str) : pInt [.str a] = if a.length ≤ 640 then (PySem.intText? a).map .int else none := rfl
theorem whileL_succ (c : BM) (b : SM) (n : Nat) (env : PEnv) : whileL c b (n + 1) env = (c env).toS fun x e => if x = true then loopK (b e) (whileL c b n) else .next e := by
  rfl
theorem whileL_turn {c : BM} {b : SM} {n : Nat} {env e e2 : PEnv} (hc : c env = .ok true e) (hb : b e = .next e2) : whileL c b (n + 1) env = whileL c b n e2 := by
  rw [whileL_succ, hc]
  show loopK (b e) _ = _
  rw [hb]; rfl
theorem whileL_stop {c : BM} {b : SM} {n : Nat} {env e : PEnv} (hc : c env = .ok false e) : whileL c b (n + 1) env = .next e := by
  rw [whileL_succ, hc]
  rfl
end PVL

/-! G1: names and figures that are drawn. -/
namespace PVL
open PySem PySem.Spec L2
theorem str_ix (z : Str) (i : Int) (h0 : 0 ≤ i) (h1 : i < z.length) (hz : z.length ≤ 1000) : ∃ c : Str, pIx (.str z) (.int i) = some (.str c) ∧ c.length = 1 := by
  have hl : z.cps.toList.length = z.length := by simp [Str.length]
  obtain ⟨hk, e⟩ := at_lt z.cps.toList i h0 (by omega)
  refine ⟨⟨#[z.cps.toList[i.toNat]]⟩, ?_, rfl⟩
  show (if z.length ≤ sizeLine then (atI z.cps.toList i).map fun c => PV.str ⟨#[c]⟩ else none) = _
  rw [if_pos (by rw [sizeLine_eq]; omega), e]
  rfl
theorem in_strs (z : Str) (ys : List Str) : ∃ b : Bool, pIn (.str z) (.lst (ys.map .str)) = some (.bl b) ∧ (b = true ↔ z ∈ ys) := by
  have hf : (ys.map PV.str).all flatP = true := by
    rw [List.all_eq_true]
    intro x hx
    obtain ⟨y, _, rfl⟩ := List.mem_map.mp hx
    rfl
  refine ⟨(ys.map PV.str).any fun y => eqFl y (.str z), ?_, ?_⟩
  · unfold pIn inB
    simp only [hf, flatP, Bool.and_self, if_true, Option.map_some]
  · simp only [List.any_map, List.any_eq_true, Function.comp_apply, eqFl]
    constructor
    · rintro ⟨y, hy, e⟩
      have := eq_of_beq e
      rw [← this]; exact hy
    · intro h
      exact ⟨z, h, by simp⟩
theorem figure_ok (d : Dr) : ∃ (r : Int) (d' : Dr), m__law_figure [d.pv] = .ok (.int r) [some d'.pv] ∧ 0 ≤ r ∧ r < 10000 := by
  obtain ⟨w, d1, e1, w0, w1⟩ := draw_c d 4 (by decide) (by decide)
  unfold m__law_figure
  rw [fnM_at rfl]
  by_cases h0 : w = 0
  · obtain ⟨r, d2, e2, r0, r1⟩ := draw_c d1 10000 (by decide) (by decide)
    exact ⟨r, d2, by simp [b_m__law_figure, e1, h0, e2], r0, r1⟩
  · by_cases h1 : w = 1
    · obtain ⟨x, d2, hx, e2⟩ := pick_mem d1 [.int 1, .int 9, .int 10, .int 99, .int 0, .int 100, .int 999, .int 1000, .int 9999] (by decide) (by decide) rfl
      have hr : ∃ r : Int, x = .int r ∧ 0 ≤ r ∧ r < 10000 := by
        simp only [List.mem_cons, List.not_mem_nil, or_false] at hx
        rcases hx with rfl | rfl | rfl | rfl | rfl | rfl | rfl | rfl | rfl <;> exact ⟨_, rfl, by decide, by decide⟩
      obtain ⟨r, rfl, r0, r1⟩ := hr
      exact ⟨r, d2, by simp [b_m__law_figure, e1, h0, h1, e2], r0, r1⟩
    · obtain ⟨r, d2, e2, r0, r1⟩ := draw_c d1 10 (by decide) (by decide)
      exact ⟨r, d2, by simp [b_m__law_figure, e1, h0, h1, e2], r0, by omega⟩
def bNameL : SM := sAsg (eOp pAdd (gRef 4) (gOwn (eOp (fun x y => immO (pIx x y)) (gRef 2) (gOwn (eCall m__law_draw (aCons (gRef 0) (aCons (gOwn (eC (.int 36))) (aNil)))))))) (tgN 4)
def bNameC : SM := sIf (bE (eN (rOp pEq (rVar 3) (rC (.int 2))))) (sAsg (eOp pAdd (gOwn (eCall m__law_pick (aCons (gRef 0) (aCons (gOwn (eCall m__law_words aNil)) (aNil))))) (gOwn (eOp (fun x y => immO (pIx x y)) (gRef 2) (gOwn (eCall m__law_draw (aCons (gRef 0) (aCons (gOwn (eC (.int 36))) (aNil)))))))) (tgN 4)) (sIf (bE (eN (rOp pEq (rVar 3) (rC (.int 3))))) (sAsg (eSl pSl (gOwn (eCall m__law_pick (aCons (gRef 0) (aCons (gOwn (eCall m__law_words aNil)) (aNil))))) (oNone) (oSome (eN (rUn pNeg (rC (.int 1)))))) (tgN 4)) (sIf (bE (eN (rOp pEq (rVar 3) (rC (.int 4))))) (sAsg (eCall m__law_pick (aCons (gRef 0) (aCons (gOwn (eCall m__law_plain_words aNil)) (aNil)))) (tgN 4)) (sIf (bE (eN (rOp pGt (rVar 3) (rC (.int 4))))) (sFor (itR1 (aCons (gOwn (eCall m__law_draw (aCons (gRef 0) (aCons (gOwn (eC (.int 8))) (aNil))))) (aNil))) (tgN 5) bNameL) (sNil))))
theorem name_is : b_m__law_name = (sSeq (sAsg (eC (.str "abcdefghijklmnopqrstuvwxyz")) (tgN 1)) (sSeq (sAsg (eN (rOp pAdd (rVar 1) (rC (.str "0123456789")))) (tgN 2)) (sSeq (sAsg (eCall m__law_draw (aCons (gRef 0) (aCons (gOwn (eC (.int 7))) (aNil)))) (tgN 3)) (sSeq (sAsg (eOp (fun x y => immO (pIx x y)) (gRef 1) (gOwn (eCall m__law_draw (aCons (gRef 0) (aCons (gOwn (eC (.int 26))) (aNil)))))) (tgN 4)) (sSeq bNameC (sSeq (sIf (bE (eOp pIn (gRef 4) (gOwn (eCall m__law_words aNil)))) (sAsg (eN (rOp pAdd (rVar 4) (rC (.str "0")))) (tgN 4)) (sNil)) (sRet (eVar 4)))))))) := rfl
/-! what a name is -/
def chLow (c : Nat) : Bool := decide (97 ≤ c) && decide (c ≤ 122)
def chDig (c : Nat) : Bool := decide (48 ≤ c) && decide (c ≤ 57)
def chAn (c : Nat) : Bool := chLow c || chDig c
def nmL (k : Nat) : List Nat → Bool
  | [] => false
  | c :: r => chLow c && (r.all chAn && decide (r.length < k))
/-- begins with a letter, letters and figures, so long at most -/
def nmB (k : Nat) (z : Str) : Bool := nmL k z.cps.toList
def Nm (z : Str) : Prop := nmB 8 z = true ∧ z ∉ wordsL
/-- names all -/
def Nms (l : List Str) : Prop := ∀ z ∈ l, Nm z
theorem nmB_len {k : Nat} {z : Str} (h : nmB k z = true) : z.length ≤ k ∧ 1 ≤ z.length := by
  have hl : z.length = z.cps.toList.length := by simp [Str.length]
  rw [hl]
  unfold nmB at h
  cases e : z.cps.toList with
  | nil => rw [e] at h; cases h
  | cons c r =>
    rw [e] at h
    simp only [nmL, Bool.and_eq_true, decide_eq_true_eq] at h
    simp only [List.length_cons]; omega
theorem cps_app (a b : Str) : (a ++ b).cps.toList = a.cps.toList ++ b.cps.toList := by
  show (a.cps ++ b.cps).toList = _
  simp
theorem nmB_app {k : Nat} {z c : Str} {x : Nat} (h : nmB k z = true) (hc : c.cps.toList = [x]) (hx : chAn x = true) : nmB (k + 1) (z ++ c) = true := by
  unfold nmB at h ⊢
  rw [cps_app, hc]
  cases e : z.cps.toList with
  | nil => rw [e] at h; cases h
  | cons d r =>
    rw [e] at h
    simp only [nmL, Bool.and_eq_true, decide_eq_true_eq] at h
    simp only [List.cons_append, nmL, Bool.and_eq_true, decide_eq_true_eq, List.all_append, List.all_cons, List.all_nil, Bool.and_true, List.length_append, List.length_cons, List.length_nil]
    exact ⟨h.1, ⟨h.2.1, hx⟩, by omega⟩
theorem nmB_mono {k l : Nat} {z : Str} (h : nmB k z = true) (hk : k ≤ l) : nmB l z = true := by
  unfold nmB at h ⊢
  cases e : z.cps.toList with
  | nil => rw [e] at h; cases h
  | cons d r =>
    rw [e] at h
    simp only [nmL, Bool.and_eq_true, decide_eq_true_eq] at h ⊢
    exact ⟨h.1, h.2.1, by omega⟩
theorem str_ix2 (z : Str) (i : Int) (h0 : 0 ≤ i) (h1 : i < z.length) (hz : z.length ≤ 1000) : ∃ (c : Str) (x : Nat), pIx (.str z) (.int i) = some (.str c) ∧ c.length = 1 ∧ c.cps.toList = [x] ∧ x ∈ z.cps.toList := by
  have hl : z.cps.toList.length = z.length := by simp [Str.length]
  obtain ⟨hk, e⟩ := at_lt z.cps.toList i h0 (by omega)
  refine ⟨⟨#[z.cps.toList[i.toNat]]⟩, z.cps.toList[i.toNat], ?_, rfl, rfl, List.getElem_mem hk⟩
  show (if z.length ≤ sizeLine then (atI z.cps.toList i).map fun c => PV.str ⟨#[c]⟩ else none) = _
  rw [if_pos (by rw [sizeLine_eq]; omega), e]
  rfl
theorem nameL (base : Str) (hs : base.length = 36) (hb : ∀ x ∈ base.cps.toList, chAn x = true) (y0 : Option PV) : ∀ (l : List PV) (d : Dr) (z : Str) (k : Nat) (y1 y3 y5 : Option PV), nmB k z = true → k + l.length ≤ 1000 → ∃ (z' : Str) (d' : Dr) (y5' : Option PV),
    forL (tgN 5) bNameL l [some d.pv, y1, some (.str base), y3, some (.str z), y5] = .next [some d'.pv, y1, some (.str base), y3, some (.str z'), y5'] ∧ nmB (k + l.length) z' = true := by
  intro l
  induction l with
  | nil => intro d z k y1 y3 y5 hz _; exact ⟨z, d, y5, rfl, hz⟩
  | cons x l ih =>
    intro d z k y1 y3 y5 hz hkl
    simp only [List.length_cons] at hkl
    have lz := nmB_len hz
    obtain ⟨r, d1, e1, r0, r1⟩ := draw_c d 36 (by decide) (by decide)
    obtain ⟨c, cx, ec, lc, hcx, hmx⟩ := str_ix2 base r r0 (by rw [hs]; omega) (by omega)
    have h1 := nmB_app hz hcx (hb cx hmx)
    obtain ⟨z', d', y5', e2, l2⟩ := ih d1 (z ++ c) (k + 1) y1 y3 (some x) h1 (by omega)
    refine ⟨z', d', y5', ?_, by rw [List.length_cons, show k + (l.length + 1) = k + 1 + l.length by omega]; exact l2⟩
    rw [forL_at (e := [some d.pv, y1, some (.str base), y3, some (.str z), some x]) rfl]
    have hk : z.length + c.length ≤ sizeLine := by rw [sizeLine_eq]; omega
    have e3 : bNameL [some d.pv, y1, some (.str base), y3, some (.str z), some x] = .next [some d1.pv, y1, some (.str base), y3, some (.str (z ++ c)), some x] := by
      simp [bNameL, e1, ec, hk]
    rw [e3, loopK_next]
    exact e2
theorem words_nm : ∀ w ∈ wordsL, nmB 7 w = true ∧ nmB 8 (cutS w none (some (-1))) = true ∧ nmB 8 (w ++ "0") = true ∧ (w ++ "0") ∉ wordsL := by decide +kernel
theorem plain_nm : ∀ w ∈ plainL, nmB 8 w = true := by decide +kernel
theorem cut_len (z : Str) (lo hi : Option Int) : (cutS z lo hi).length ≤ z.length := by
  unfold cutS
  have hl : z.cps.toList.length = z.length := by simp [Str.length]
  show ((z.cps.toList.drop (HT.sIx z.length 0 lo)).take (HT.sIx z.length z.length hi - HT.sIx z.length 0 lo)).toArray.size ≤ _
  simp only [List.size_toArray, List.length_take, List.length_drop]
  omega
theorem pSl_s (z : Str) (lo hi : Option Int) : pSl (.str z) lo hi = if z.length ≤ sizeLine then some (.str (cutS z lo hi)) else none := rfl
theorem pick_str (d : Dr) (ys : List Str) (h : 0 < ys.length) (h2 : ys.length < 1000) : ∃ (z : Str) (d' : Dr), z ∈ ys ∧ m__law_pick [d.pv, .lst (ys.map .str)] = .ok (.str z) [some d'.pv, some (.lst (ys.map .str))] := by
  obtain ⟨x, d', hx, e⟩ := pick_mem d (ys.map .str) (by rw [List.length_map]; exact h) (by rw [List.length_map]; omega) (strs_map ys)
  obtain ⟨z, hz, rfl⟩ := List.mem_map.mp hx
  exact ⟨z, d', hz, e⟩
theorem nameC (d : Dr) (small signs c : Str) (cx : Nat) (hs : signs.length = 36) (hsg : ∀ x ∈ signs.cps.toList, chAn x = true) (hc : c.cps.toList = [cx]) (hcx : chLow cx = true) (w : Int) (w0 : 0 ≤ w) (w1 : w < 7) :
    ∃ (z : Str) (d' : Dr) (y5 : Option PV), bNameC [some d.pv, some (.str small), some (.str signs), some (.int w), some (.str c), none] = .next [some d'.pv, some (.str small), some (.str signs), some (.int w), some (.str z), y5] ∧ nmB 8 z = true := by
  obtain ⟨wl1, wl2, wl3⟩ := wordsL_n
  obtain ⟨pl1, pl2, pl3⟩ := plainL_n
  have n1c : nmB 1 c = true := by
    unfold nmB
    rw [hc]
    simp [nmL, hcx]
  by_cases h2 : w = 2
  · obtain ⟨z, d1, hz, e1⟩ := pick_str d wordsL wl1 wl2
    obtain ⟨r, d2, e2, r0, r1⟩ := draw_c d1 36 (by decide) (by decide)
    obtain ⟨c2, c2x, ec, lc, hc2, hm2⟩ := str_ix2 signs r r0 (by rw [hs]; omega) (by omega)
    have hz3 := wl3 z hz
    have hk : z.length + c2.length ≤ sizeLine := by rw [sizeLine_eq]; omega
    exact ⟨z ++ c2, d2, none, by simp [bNameC, h2, words_ok, e1, e2, ec, hk], nmB_app (words_nm z hz).1 hc2 (hsg _ hm2)⟩
  · by_cases h3 : w = 3
    · obtain ⟨z, d1, hz, e1⟩ := pick_str d wordsL wl1 wl2
      have hz3 := wl3 z hz
      have hk : z.length ≤ sizeLine := by rw [sizeLine_eq]; omega
      exact ⟨cutS z none (some (-1)), d1, none, by simp [bNameC, h3, words_ok, e1, pSl_s, hk], (words_nm z hz).2.1⟩
    · by_cases h4 : w = 4
      · obtain ⟨z, d1, hz, e1⟩ := pick_str d plainL pl1 pl2
        exact ⟨z, d1, none, by simp [bNameC, h4, plain_words_ok, e1], plain_nm z hz⟩
      · by_cases h5 : 4 < w
        · obtain ⟨n, d1, e1, n0, n1⟩ := draw_c d 8 (by decide) (by decide)
          have hr : rngOk n := rngOk_of (by omega) (by omega)
          have hl : (rngL 0 n.toNat).length < 8 := by rw [ints_len]; omega
          obtain ⟨z, d2, y5, e2, lz⟩ := nameL signs hs hsg none (rngL 0 n.toNat) d1 c 1 (some (.str small)) (some (.int w)) none n1c (by omega)
          exact ⟨z, d2, y5, by simp [bNameC, h2, h3, h4, h5, e1, hr, e2], nmB_mono lz (by omega)⟩
        · exact ⟨c, d, none, by simp [bNameC, h2, h3, h4, h5], nmB_mono n1c (by omega)⟩
theorem name_ok (d : Dr) : ∃ (z : Str) (d' : Dr), m__law_name [d.pv] = .ok (.str z) [some d'.pv] ∧ z.length ≤ 26 ∧ Nm z := by
  obtain ⟨w, d1, e1, w0, w1⟩ := draw_c d 7 (by decide) (by decide)
  obtain ⟨r, d2, e2, r0, r1⟩ := draw_c d1 26 (by decide) (by decide)
  unfold m__law_name
  rw [fnM_at rfl, name_is]
  generalize hA : ("abcdefghijklmnopqrstuvwxyz" : Str) = A
  generalize hB : ("0123456789" : Str) = B
  have lA : A.length = 26 := by subst hA; decide +kernel
  have lB : B.length = 10 := by subst hB; decide +kernel
  have cA : ∀ x ∈ A.cps.toList, chLow x = true := by subst hA; decide +kernel
  have cAB : ∀ x ∈ (A ++ B).cps.toList, chAn x = true := by subst hA; subst hB; decide +kernel
  obtain ⟨c, cx, ec, lc, hcx, hmx⟩ := str_ix2 A r r0 (by rw [lA]; omega) (by omega)
  have lAB : (A ++ B).length = 36 := by rw [Str.length_append, lA, lB]
  have hk : A.length + B.length ≤ sizeLine := by rw [sizeLine_eq]; omega
  obtain ⟨z, d3, y5, e3, nz⟩ := nameC d2 A (A ++ B) c cx lAB cAB hcx (cA _ hmx) w w0 w1
  have lz := nmB_len nz
  obtain ⟨b, e4, hb⟩ := in_strs z wordsL
  have hz : z.length + ("0" : Str).length ≤ sizeLine := by
    have : ("0" : Str).length = 1 := rfl
    rw [this, sizeLine_eq]; omega
  cases b with
  | true =>
    refine ⟨z ++ "0", d3, ?_, ?_, ?_⟩
    · simp [hk, e1, e2, ec, e3, words_ok, e4, hz]
    · rw [Str.length_append]
      have : ("0" : Str).length = 1 := rfl
      omega
    · have := words_nm z (hb.mp rfl)
      exact this.2.2
  | false =>
    refine ⟨z, d3, ?_, by omega, nz, fun hm => ?_⟩
    · simp [hk, e1, e2, ec, e3, words_ok, e4]
    · have := hb.mpr hm
      cases this
end PVL

/-! G2: trees of a format and their tokens; the program's writer. -/
namespace PVL
open PySem PySem.Spec L2
@[simp] theorem at_4 {α : Type} (x y z u v : α) (r : List α) : atI (x :: y :: z :: u :: v :: r) 4 = some v := by rw [at_nat _ _ (by decide)]; rfl
@[simp] theorem at_5 {α : Type} (x y z u v w : α) (r : List α) : atI (x :: y :: z :: u :: v :: w :: r) 5 = some w := by rw [at_nat _ _ (by decide)]; rfl
/-- a number's text -/
abbrev num (i : Int) : Str := (toString i : String)
def Fig (i : Int) : Prop := 0 ≤ i ∧ i < 10000
theorem str_fig {i : Int} (h : Fig i) : pStr [.int i] = some (.str (num i)) := by
  rw [pStr_i, if_pos]
  have h1 : i.natAbs < 10000 := by have := h.1; have := h.2; omega
  by_cases h0 : i.natAbs = 0
  · rw [h0]; decide
  · have h2 : i.natAbs.log2 < 14 := (Nat.log2_lt h0).mpr (Nat.lt_of_lt_of_le h1 (by decide))
    omega
abbrev S (x : String) : Str := x
inductive All2 {α β : Type} (R : α → β → Prop) : List α → List β → Prop
  | nil : All2 R [] []
  | cons {a : α} {b : β} {as : List α} {bs : List β} (h : R a b) (r : All2 R as bs) : All2 R (a :: as) (b :: bs)
/-- what the tokens of a block are -/
def TkB (R : PV → List Str → Prop) (items : List PV) (ts : List Str) : Prop := ∃ tss, All2 R items tss ∧ ts = S "{" :: (tss.flatten ++ [S "}"])
def caseT (c : Str × List Str) : List Str := S "case" :: c.1 :: c.2
/-- an item that holds no block, and its tokens ahead of the semicolon -/
def Sh (x : PV) (ts : List Str) : Prop :=
    (∃ cs : List Int, (∀ c ∈ cs, Fig c) ∧ 0 < cs.length ∧ x = .tup [.str "mark", .tup (cs.map .int)] ∧ ts = S "mark" :: cs.map num) ∨
    (∃ z : Str, Nms [z] ∧ x = .tup [.str "rest", .str z] ∧ ts = [S "rest", z] ) ∨
    (∃ z y : Str, Nms [z, y] ∧ x = .tup [.str "inner", .str z, .str y] ∧ ts = [S "inner", z, S "of", y] ) ∨
    (∃ (k z y : Str) (i : Int), (k = "size" ∨ k = "count") ∧ Fig i ∧ Nms [z, y] ∧ x = .tup [.str k, .str z, .int i, .str y] ∧ ts = [k, z, num i, S "of", y] ) ∨
    (∃ (z y : Str) (i : Int), Fig i ∧ Nms [z, y] ∧ x = .tup [.str "gap", .str z, .int i, .str y] ∧ ts = [S "gap", z, num i, S "to", y] ) ∨
    (∃ (z a b : Str) (i : Int), Fig i ∧ Nms [z, a, b] ∧ x = .tup [.str "sum", .str z, .int i, .str a, .str b] ∧ ts = [S "sum", z, num i, S "over", a, S "..", b] ) ∨
    (∃ (z a b : Str) (i j : Int), Fig i ∧ Fig j ∧ Nms [z, a, b] ∧ x = .tup [.str "roll", .str z, .int i, .int j, .str a, .str b] ∧ ts = [S "roll", z, num i, S "by", num j, S "over", a, S "..", b] ) ∨
    (∃ (z : Str) (i : Int), Fig i ∧ Nms [z] ∧ x = .tup [.str "num", .str z, .int i, .non] ∧ ts = [S "num", z, num i] ) ∨
    (∃ (z : Str) (i a b : Int), Fig i ∧ Fig a ∧ Fig b ∧ Nms [z] ∧ x = .tup [.str "num", .str z, .int i, .tup [.int a, .int b]] ∧ ts = [S "num", z, num i, S "in", num a, S "..", num b] ) ∨
    (∃ (k z : Str) (i : Int), (k = "pad" ∨ k = "free") ∧ Fig i ∧ Nms [z] ∧ x = .tup [.str k, .str z, .int i] ∧ ts = [k, z, num i] )
/-- an item and its tokens, by what its blocks hold (A: two braces within) -/
def TkF (n : Nat) (A B : PV → List Str → Prop) (x : PV) (ts : List Str) : Prop :=
    (∃ t0, Sh x t0 ∧ ts = t0 ++ [S ";"]) ∨
    (0 < n ∧ ∃ (i : Int) (items : List PV) (bs : List Str), Fig i ∧ immL items = true ∧ TkB B items bs ∧ x = .tup [.str "since", .int i, .tup items] ∧ ts = S "since" :: num i :: bs) ∨
    (1 < n ∧ ∃ (z : Str) (cs : List (Str × List PV × List Str)), (∀ c ∈ cs, immL c.2.1 = true ∧ TkB A c.2.1 c.2.2) ∧ (0 < cs.length ∧ Nms (z :: cs.map (·.1))) ∧ x = .tup [.str "pick", .str z, .tup (cs.map fun c => .tup [.str c.1, .tup c.2.1])] ∧ ts = S "pick" :: z :: S "{" :: ((cs.map fun c => caseT (c.1, c.2.2)).flatten ++ [S "}"])) ∨
    (0 < n ∧ ∃ (k z : Str) (i : Int) (items : List PV) (bs : List Str), (k = "grow" ∨ k = "nest") ∧ Fig i ∧ immL items = true ∧ TkB B items bs ∧ Nms [z] ∧ x = .tup [.str k, .str z, .int i, .tup items] ∧ ts = k :: z :: num i :: bs) ∨
    (0 < n ∧ ∃ (k z : Str) (items : List PV) (bs : List Str), (k = "part" ∨ k = "maybe" ∨ k = "many") ∧ immL items = true ∧ TkB B items bs ∧ Nms [z] ∧ x = .tup [.str k, .str z, .tup items] ∧ ts = k :: z :: bs)
def TkP : Nat → (PV → List Str → Prop) × (PV → List Str → Prop)
  | 0 => (fun _ _ => False, TkF 0 (fun _ _ => False) (fun _ _ => False))
  | n + 1 => ((TkP n).2, TkF (n + 1) (TkP n).1 (TkP n).2)
/-- an item that opens n - 1 braces at most -/
def Tk (n : Nat) : PV → List Str → Prop := (TkP n).1
theorem Tk_zero {x : PV} {ts : List Str} (h : Tk 0 x ts) : False := h
theorem Tk_succ (n : Nat) : Tk (n + 1) = TkF n (Tk (n - 1)) (Tk n) := by cases n <;> rfl
theorem TkB.mono {A B : PV → List Str → Prop} (h : ∀ x ts, A x ts → B x ts) {items : List PV} {bs : List Str} (t : TkB A items bs) : TkB B items bs := by
  obtain ⟨tss, ha, e⟩ := t
  refine ⟨tss, ?_, e⟩
  clear e
  induction ha with
  | nil => exact .nil
  | cons h1 r ih => exact .cons (h _ _ h1) ih
theorem TkF.mono {n m : Nat} (hn : n ≤ m) {A B A' B' : PV → List Str → Prop} (hA : ∀ x ts, A x ts → A' x ts) (hB : ∀ x ts, B x ts → B' x ts) {x : PV} {ts : List Str} (h : TkF n A B x ts) : TkF m A' B' x ts := by
  rcases h with h | ⟨hk, i, items, bs, a, b, c, d⟩ | ⟨hk, z, cs, a, b⟩ | ⟨hk, k, z, i, items, bs, a, b, c, d, e⟩ | ⟨hk, k, z, items, bs, a, b, c, d⟩
  · exact .inl h
  · exact .inr (.inl ⟨by omega, i, items, bs, a, b, c.mono hB, d⟩)
  · exact .inr (.inr (.inl ⟨by omega, z, cs, fun c hc => ⟨(a c hc).1, (a c hc).2.mono hA⟩, b⟩))
  · exact .inr (.inr (.inr (.inl ⟨by omega, k, z, i, items, bs, a, b, c, d.mono hB, e⟩)))
  · exact .inr (.inr (.inr (.inr ⟨by omega, k, z, items, bs, a, b, c.mono hB, d⟩)))
theorem Tk_up : ∀ (n : Nat) (x : PV) (ts : List Str), Tk n x ts → Tk (n + 1) x ts
  | 0, _, _, h => h.elim
  | n + 1, x, ts, h => by
    rw [Tk_succ] at h ⊢
    refine h.mono (by omega) (fun x ts h => ?_) (Tk_up n)
    cases n with
    | zero => exact h.elim
    | succ n => exact Tk_up n x ts h
/-- what it is, the braces not counted -/
theorem Tk_cases {n : Nat} {x : PV} {ts : List Str} (h : Tk (n + 1) x ts) :
    (∃ t0, Sh x t0 ∧ ts = t0 ++ [S ";"]) ∨
    (∃ (i : Int) (items : List PV) (bs : List Str), Fig i ∧ immL items = true ∧ TkB (Tk n) items bs ∧ x = .tup [.str "since", .int i, .tup items] ∧ ts = S "since" :: num i :: bs) ∨
    (∃ (z : Str) (cs : List (Str × List PV × List Str)), (∀ c ∈ cs, immL c.2.1 = true ∧ TkB (Tk n) c.2.1 c.2.2) ∧ (0 < cs.length ∧ Nms (z :: cs.map (·.1))) ∧ x = .tup [.str "pick", .str z, .tup (cs.map fun c => .tup [.str c.1, .tup c.2.1])] ∧ ts = S "pick" :: z :: S "{" :: ((cs.map fun c => caseT (c.1, c.2.2)).flatten ++ [S "}"])) ∨
    (∃ (k z : Str) (i : Int) (items : List PV) (bs : List Str), (k = "grow" ∨ k = "nest") ∧ Fig i ∧ immL items = true ∧ TkB (Tk n) items bs ∧ Nms [z] ∧ x = .tup [.str k, .str z, .int i, .tup items] ∧ ts = k :: z :: num i :: bs) ∨
    (∃ (k z : Str) (items : List PV) (bs : List Str), (k = "part" ∨ k = "maybe" ∨ k = "many") ∧ immL items = true ∧ TkB (Tk n) items bs ∧ Nms [z] ∧ x = .tup [.str k, .str z, .tup items] ∧ ts = k :: z :: bs) := by
  rw [Tk_succ] at h
  have h2 : TkF n (Tk n) (Tk n) x ts := h.mono (Nat.le_refl _) (fun x ts h => by
    cases n with
    | zero => exact h
    | succ n => exact Tk_up n x ts h) fun _ _ h => h
  rcases h2 with h | ⟨_, h⟩ | ⟨_, h⟩ | ⟨_, h⟩ | ⟨_, h⟩
  · exact .inl h
  · exact .inr (.inl h)
  · exact .inr (.inr (.inl h))
  · exact .inr (.inr (.inr (.inl h)))
  · exact .inr (.inr (.inr (.inr h)))
theorem nms1 {a : Str} (h : Nm a) : Nms [a] := fun z hz => by
  simp only [List.mem_cons, List.not_mem_nil, or_false] at hz
  rw [hz]; exact h
theorem nms2 {a b : Str} (h : Nm a) (h2 : Nm b) : Nms [a, b] := fun z hz => by
  simp only [List.mem_cons, List.not_mem_nil, or_false] at hz
  rcases hz with rfl | rfl
  · exact h
  · exact h2
theorem nms3 {a b c : Str} (h : Nm a) (h2 : Nm b) (h3 : Nm c) : Nms [a, b, c] := fun z hz => by
  simp only [List.mem_cons, List.not_mem_nil, or_false] at hz
  rcases hz with rfl | rfl | rfl
  · exact h
  · exact h2
  · exact h3
theorem nmsP {z : Str} {cs : List (Str × List PV × List Str)} (h : Nm z) (hc : ∀ c ∈ cs, Nm c.1) : Nms (z :: cs.map (·.1)) := fun y hy => by
  rcases List.mem_cons.mp hy with rfl | hy
  · exact h
  · obtain ⟨c, hm, rfl⟩ := List.mem_map.mp hy
    exact hc c hm
abbrev toks (T : List Str) : PV := .lst (T.map .str)
def bMarkL : SM := sExpr (eMeth "list" 0 pAppend (aCons (gOwn (eN (rCl pStr (raCons (rVar 3) (raNil))))) (aNil)))
theorem markL (y1 y2 : Option PV) : ∀ (cs : List Int) (T : List Str) (y3 : Option PV), (∀ c ∈ cs, Fig c) → T.length + cs.length ≤ 500000 → ∃ y3', forL (tgN 3) bMarkL (cs.map .int) [some (toks T), y1, y2, y3] = .next [some (toks (T ++ cs.map num)), y1, y2, y3'] := by
  intro cs
  induction cs with
  | nil => intro T y3 _ _; exact ⟨y3, by simp⟩
  | cons c cs ih =>
    intro T y3 hf hl
    simp only [List.length_cons] at hl
    obtain ⟨y3', e⟩ := ih (T ++ [num c]) (some (.int c)) (fun x hx => hf x (List.mem_cons_of_mem _ hx)) (by rw [List.length_append]; simp only [List.length_cons, List.length_nil]; omega)
    refine ⟨y3', ?_⟩
    rw [List.map_cons, forL_at (e := [some (toks T), y1, y2, some (.int c)]) rfl]
    have hz : T.length < 1000000 := by omega
    have e3 : bMarkL [some (toks T), y1, y2, some (.int c)] = .next [some (toks (T ++ [num c])), y1, y2, some (.int c)] := by
      simp [bMarkL, str_fig (hf c (List.mem_cons_self ..)), hz, -pStr_i]
    rw [e3, loopK_next, e, List.append_assoc]
    rfl
theorem short_is : b_m_add_short = (sSeq (sAsg (eR (rOp pIx (rVar 1) (rC (.int 0)))) (tgN 2)) (sSeq (sExpr (eMeth "list" 0 pAppend (aCons (gOwn (eVar 2)) (aNil)))) (sSeq (sIf (bE (eN (rOp pEq (rVar 2) (rC (.str "mark"))))) (sSeq (sFor (itS (eR (rOp pIx (rVar 1) (rC (.int 1))))) (tgN 3) bMarkL) (sRetN)) (sNil)) (sSeq (sExpr (eMeth "list" 0 pAppend (aCons (gOwn (eR (rOp pIx (rVar 1) (rC (.int 1))))) (aNil)))) (sSeq (sIf (bE (eN (rOp pEq (rVar 2) (rC (.str "inner"))))) (sExpr (eMethB "list" 0 pExtend (aCons (gOwn (eLst (aCons (gOwn (eC (.str "of"))) (aCons (gOwn (eR (rOp pIx (rVar 1) (rC (.int 2))))) (aNil))))) (aNil)))) (sIf (bE (eN (rOp pNe (rVar 2) (rC (.str "rest"))))) (sExpr (eMeth "list" 0 pAppend (aCons (gOwn (eN (rCl pStr (raCons (rOp pIx (rVar 1) (rC (.int 2))) (raNil))))) (aNil)))) (sNil))) (sIf (bAnd (bE (eN (rOp pEq (rVar 2) (rC (.str "num"))))) (bE (eN (rOp pNotN (rOp pIx (rVar 1) (rC (.int 3))) (rC .non))))) (sExpr (eMethB "list" 0 pExtend (aCons (gOwn (eLst (aCons (gOwn (eC (.str "in"))) (aCons (gOwn (eN (rCl pStr (raCons (rOp pIx (rOp pIx (rVar 1) (rC (.int 3))) (rC (.int 0))) (raNil))))) (aCons (gOwn (eC (.str ".."))) (aCons (gOwn (eN (rCl pStr (raCons (rOp pIx (rOp pIx (rVar 1) (rC (.int 3))) (rC (.int 1))) (raNil))))) (aNil))))))) (aNil)))) (sIf (bE (eOp pIn (gRef 2) (gOwn (eTup (aCons (gOwn (eC (.str "size"))) (aCons (gOwn (eC (.str "count"))) (aNil))))))) (sExpr (eMethB "list" 0 pExtend (aCons (gOwn (eLst (aCons (gOwn (eC (.str "of"))) (aCons (gOwn (eR (rOp pIx (rVar 1) (rC (.int 3))))) (aNil))))) (aNil)))) (sIf (bE (eN (rOp pEq (rVar 2) (rC (.str "gap"))))) (sExpr (eMethB "list" 0 pExtend (aCons (gOwn (eLst (aCons (gOwn (eC (.str "to"))) (aCons (gOwn (eR (rOp pIx (rVar 1) (rC (.int 3))))) (aNil))))) (aNil)))) (sIf (bE (eN (rOp pEq (rVar 2) (rC (.str "sum"))))) (sExpr (eMethB "list" 0 pExtend (aCons (gOwn (eLst (aCons (gOwn (eC (.str "over"))) (aCons (gOwn (eR (rOp pIx (rVar 1) (rC (.int 3))))) (aCons (gOwn (eC (.str ".."))) (aCons (gOwn (eR (rOp pIx (rVar 1) (rC (.int 4))))) (aNil))))))) (aNil)))) (sIf (bE (eN (rOp pEq (rVar 2) (rC (.str "roll"))))) (sExpr (eMethB "list" 0 pExtend (aCons (gOwn (eLst (aCons (gOwn (eC (.str "by"))) (aCons (gOwn (eN (rCl pStr (raCons (rOp pIx (rVar 1) (rC (.int 3))) (raNil))))) (aCons (gOwn (eC (.str "over"))) (aCons (gOwn (eR (rOp pIx (rVar 1) (rC (.int 4))))) (aCons (gOwn (eC (.str ".."))) (aCons (gOwn (eR (rOp pIx (rVar 1) (rC (.int 5))))) (aNil))))))))) (aNil)))) (sNil))))))))))) := rfl
theorem add_short_ok (x : PV) (ts : List Str) (h : Sh x ts) (T : List Str) (hl : T.length + ts.length ≤ 400000) : m_add_short [toks T, x] = .ok .non [some (toks (T ++ ts)), some x] := by
  unfold m_add_short
  rw [fnM_at rfl]
  have hz : T.length < 900000 := by omega
  have z0 : T.length < 1000000 := by omega
  have z1 : T.length + 1 < 1000000 := by omega
  have z2 : T.length + 1 + 1 < 1000000 := by omega
  have q1 : T.length + 1 + 1 + 2 ≤ 1000000 := by omega
  have q2 : T.length + 1 + 1 + 1 + 2 ≤ 1000000 := by omega
  have q3 : T.length + 1 + 1 + 1 + 4 ≤ 1000000 := by omega
  have q4 : T.length + 1 + 1 + 1 + 6 ≤ 1000000 := by omega
  rcases h with ⟨cs, hc, hcn, rfl, rfl⟩ | ⟨z, hnm, rfl, rfl⟩ | ⟨z, y, hnm, rfl, rfl⟩ | ⟨k, z, y, i, hk, hi, hnm, rfl, rfl⟩ | ⟨z, y, i, hi, hnm, rfl, rfl⟩ | ⟨z, a, b, i, hi, hnm, rfl, rfl⟩ | ⟨z, a, b, i, j, hi, hj, hnm, rfl, rfl⟩ | ⟨z, i, hi, hnm, rfl, rfl⟩ | ⟨z, i, a, b, hi, ha, hb, hnm, rfl, rfl⟩ | ⟨k, z, i, hk, hi, hnm, rfl, rfl⟩
  · simp only [List.length_cons, List.length_map] at hl
    obtain ⟨y3, e⟩ := markL (some (.tup [.str "mark", .tup (cs.map .int)])) (some (.str "mark")) cs (T ++ [S "mark"]) none hc (by rw [List.length_append]; simp only [List.length_cons, List.length_nil]; omega)
    have e' : forL (tgN 3) bMarkL (cs.map .int) [some (.lst (T.map .str ++ [.str "mark"])), some (.tup [.str "mark", .tup (cs.map .int)]), some (.str "mark"), none] = .next [some (.lst (T.map .str ++   .str "mark" :: (cs.map num).map .str)), some (.tup [.str "mark", .tup (cs.map .int)]), some (.str "mark"), y3] := by simpa [toks] using e
    simp [short_is, z0, e', toks]
  · simp (decide := true) [short_is, z0, z1, toks, pIn, inB, flatP, eqFl, -pStr_i]
  · simp (decide := true) [short_is, z0, z1, z2, q1, toks, pIn, inB, flatP, eqFl, -pStr_i]
  · rcases hk with rfl | rfl <;> simp (decide := true) [short_is, z0, z1, z2, q1, q2, str_fig hi, toks, pIn, inB, flatP, eqFl, -pStr_i]
  · simp (decide := true) [short_is, z0, z1, z2, q1, q2, str_fig hi, toks, pIn, inB, flatP, eqFl, -pStr_i]
  · simp (decide := true) [short_is, z0, z1, z2, q1, q3, str_fig hi, toks, pIn, inB, flatP, eqFl, -pStr_i]
  · simp (decide := true) [short_is, z0, z1, z2, q1, q4, str_fig hi, str_fig hj, toks, pIn, inB, flatP, eqFl, -pStr_i]
  · simp (decide := true) [short_is, z0, z1, z2, q1, q2, str_fig hi, toks, pIn, inB, flatP, eqFl, pNotN, isN, -pStr_i]
  · simp (decide := true) [short_is, z0, z1, z2, q1, q3, str_fig hi, str_fig ha, str_fig hb, toks, pIn, inB, flatP, eqFl, pNotN, isN, -pStr_i]
  · rcases hk with rfl | rfl <;> simp (decide := true) [short_is, z0, z1, z2, q1, q2, str_fig hi, toks, pIn, inB, flatP, eqFl, -pStr_i]
end PVL

/-! G3: the program's writer upon trees. -/
namespace PVL
open PySem PySem.Spec L2
theorem atm_3 (x y z : PV) : atI [x, y, z] (-1) = some z := by rw [at_neg _ _ (by decide) (by simp)]; rfl
theorem atm_4 (x y z u : PV) : atI [x, y, z, u] (-1) = some u := by rw [at_neg _ _ (by decide) (by simp)]; rfl
theorem cutm_3 (x y z : PV) : pcut [x, y, z] (some 1) (some (-1)) = [y] := rfl
theorem cutm_4 (x y z u : PV) : pcut [x, y, z, u] (some 1) (some (-1)) = [y, z] := rfl
theorem imm_cases {R : PV → List Str → Prop} {cs : List (Str × List PV × List Str)} (h : ∀ c ∈ cs, immL c.2.1 = true ∧ TkB R c.2.1 c.2.2) : immL (cs.map fun c => PV.tup [.str c.1, .tup c.2.1]) = true :=
  immL_map _ _ fun c hc => by simp [(h c hc).1]
theorem Sh_imm {x : PV} {ts : List Str} (h : Sh x ts) : x.imm = true := by
  rcases h with ⟨cs, hc, hcn, rfl, rfl⟩ | ⟨z, hnm, rfl, rfl⟩ | ⟨z, y, hnm, rfl, rfl⟩ | ⟨k, z, y, i, hk, hi, hnm, rfl, rfl⟩ | ⟨z, y, i, hi, hnm, rfl, rfl⟩ | ⟨z, a, b, i, hi, hnm, rfl, rfl⟩ | ⟨z, a, b, i, j, hi, hj, hnm, rfl, rfl⟩ | ⟨z, i, hi, hnm, rfl, rfl⟩ | ⟨z, i, a, b, hi, ha, hb, hnm, rfl, rfl⟩ | ⟨k, z, i, hk, hi, hnm, rfl, rfl⟩ <;> simp
theorem Tk_imm : ∀ {n : Nat} {x : PV} {ts : List Str}, Tk n x ts → x.imm = true
  | 0, _, _, h => h.elim
  | n + 1, x, ts, h => by
    replace h := Tk_cases h
    rcases h with ⟨t0, h, _⟩ | ⟨i, items, bs, hi, him, hb, rfl, rfl⟩ | ⟨z, cs, hc, hnm, rfl, rfl⟩ | ⟨k, z, i, items, bs, hk, hi, him, hb, hnm, rfl, rfl⟩ | ⟨k, z, items, bs, hk, him, hb, hnm, rfl, rfl⟩
    · exact Sh_imm h
    · simp [him]
    · simp [imm_cases hc]
    · simp [him]
    · simp [him]
theorem All2_imm {n : Nat} {items : List PV} {tss : List (List Str)} (h : All2 (Tk n) items tss) : immL items = true := by
  induction h with
  | nil => rfl
  | cons h r ih => simp [Tk_imm h, ih]
def bBlockL (r_add_item : FM) : SM := sExpr (eCall r_add_item (aCons (gRef 0) (aCons (gRef 2) (aNil))))
theorem block_is (a b c : FM) : b_m_add_block a b c = (sSeq (sExpr (eMeth "list" 0 pAppend (aCons (gOwn (eC (.str "{"))) (aNil)))) (sSeq (sForVS 1 (tgN 2) (bBlockL b)) (sExpr (eMeth "list" 0 pAppend (aCons (gOwn (eC (.str "}"))) (aNil)))))) := rfl
def bPickL (r_add_block : FM) : SM := sSeq (sExpr (eMethB "list" 0 pExtend (aCons (gOwn (eLst (aCons (gOwn (eC (.str "case"))) (aCons (gOwn (eVar 4)) (aNil))))) (aNil)))) (sExpr (eCall r_add_block (aCons (gRef 0) (aCons (gRef 5) (aNil)))))
theorem holder_is (a b c : FM) : b_m_add_holder a b c = (sSeq (sAsg (eR (rOp pIx (rVar 1) (rC (.int 0)))) (tgN 2)) (sSeq (sExpr (eMeth "list" 0 pAppend (aCons (gOwn (eVar 2)) (aNil)))) (sSeq (sIf (bE (eN (rOp pEq (rVar 2) (rC (.str "pick"))))) (sSeq (sExpr (eMethB "list" 0 pExtend (aCons (gOwn (eLst (aCons (gOwn (eR (rOp pIx (rVar 1) (rC (.int 1))))) (aCons (gOwn (eC (.str "{"))) (aNil))))) (aNil)))) (sSeq (sFor (itS (eR (rOp pIx (rVar 1) (rC (.int 2))))) (tgT 2 (tgsCons (tgN 4) (tgsCons (tgN 5) (tgsNil)))) (bPickL a)) (sSeq (sExpr (eMeth "list" 0 pAppend (aCons (gOwn (eC (.str "}"))) (aNil)))) (sRetN)))) (sNil)) (sSeq (sFor (itS (eSl pSl (gRef 1) (oSome (eC (.int 1))) (oSome (eN (rUn pNeg (rC (.int 1))))))) (tgN 3) (sExpr (eMeth "list" 0 pAppend (aCons (gOwn (eN (rCl pStr (raCons (rVar 3) (raNil))))) (aNil))))) (sExpr (eCall a (aCons (gRef 0) (aCons (gOwn (eR (rOp pIx (rVar 1) (rUn pNeg (rC (.int 1)))))) (aNil))))))))) := rfl
theorem blockL (f : FM) (R : PV → List Str → Prop) (im : ∀ x ts, R x ts → x.imm = true) (hf : ∀ x ts, R x ts → ∀ T : List Str, T.length + ts.length ≤ 400000 → f [toks T, x] = .ok .non [some (toks (T ++ ts)), some x]) (y1 : Option PV) {items : List PV} {tss : List (List Str)} (h : All2 R items tss) :
    ∀ (T : List Str) (y2 : Option PV), T.length + tss.flatten.length ≤ 400000 → ∃ y2', forL (tgN 2) (bBlockL f) items [some (toks T), y1, y2] = .next [some (toks (T ++ tss.flatten)), y1, y2'] := by
  induction h with
  | nil => intro T y2 _; exact ⟨y2, by simp⟩
  | @cons x ts items tss hx r ih =>
    intro T y2 hl
    simp only [List.flatten_cons, List.length_append] at hl
    obtain ⟨y2', e⟩ := ih (T ++ ts) (some x) (by rw [List.length_append]; omega)
    refine ⟨y2', ?_⟩
    rw [forL_at (e := [some (toks T), y1, some x]) rfl]
    have e3 : bBlockL f [some (toks T), y1, some x] = .next [some (toks (T ++ ts)), y1, some x] := by
      have := hf x ts hx T (by omega)
      simp [bBlockL, im x ts hx, this]
    rw [e3, loopK_next, e, List.flatten_cons, List.append_assoc]
theorem add_block_of (n : Nat) (R : PV → List Str → Prop) (im : ∀ x ts, R x ts → x.imm = true) (hf : ∀ x ts, R x ts → ∀ T : List Str, T.length + ts.length ≤ 400000 → m_add_item n [toks T, x] = .ok .non [some (toks (T ++ ts)), some x])
    (items : List PV) (bs : List Str) (h : TkB R items bs) (hi : immL items = true) (T : List Str) (hl : T.length + bs.length ≤ 400000) : m_add_block (n + 1) [toks T, .tup items] = .ok .non [some (toks (T ++ bs)), some (.tup items)] := by
  obtain ⟨tss, h2, rfl⟩ := h
  simp only [List.length_cons, List.length_append, List.length_nil] at hl
  obtain ⟨y2, e⟩ := blockL (m_add_item n) R im hf (some (.tup items)) h2 (T ++ [S "{"]) none (by rw [List.length_append]; simp only [List.length_cons, List.length_nil]; omega)
  show fnM 2 3 [] (b_m_add_block (m_add_block n) (m_add_item n) (m_add_holder n)) _ = _
  rw [fnM_at rfl, block_is]
  generalize tss.flatten = U at *
  have z0 : T.length < 1000000 := by omega
  have z1 : T.length + (U.length + 1) < 1000000 := by omega
  have e' : forL (tgN 2) (bBlockL (m_add_item n)) items [some (.lst (T.map .str ++ [.str "{"])), some (.tup items), none] = .next [some (.lst (T.map .str ++ .str "{" :: U.map .str)), some (.tup items), y2] := by simpa [toks] using e
  simp [toks, z0, hi, e', z1]
theorem pickL (f : FM) (R : PV → List Str → Prop) (hf : ∀ items bs, immL items = true → TkB R items bs → ∀ T : List Str, T.length + bs.length ≤ 400000 → f [toks T, .tup items] = .ok .non [some (toks (T ++ bs)), some (.tup items)]) (y1 y2 y3 : Option PV) :
    ∀ (cs : List (Str × List PV × List Str)) (T : List Str) (y4 y5 : Option PV), (∀ c ∈ cs, immL c.2.1 = true ∧ TkB R c.2.1 c.2.2) → T.length + (cs.map fun c => caseT (c.1, c.2.2)).flatten.length ≤ 400000 →
      ∃ y4' y5', forL (tgT 2 (tgsCons (tgN 4) (tgsCons (tgN 5) (tgsNil)))) (bPickL f) (cs.map fun c => .tup [.str c.1, .tup c.2.1]) [some (toks T), y1, y2, y3, y4, y5] = .next [some (toks (T ++ (cs.map fun c => caseT (c.1, c.2.2)).flatten)), y1, y2, y3, y4', y5'] := by
  intro cs
  induction cs with
  | nil => intro T y4 y5 _ _; exact ⟨y4, y5, by simp⟩
  | cons c cs ih =>
    intro T y4 y5 h hl
    simp only [List.map_cons, List.flatten_cons, List.length_append, caseT, List.length_cons] at hl
    obtain ⟨hi, hb⟩ := h c (List.mem_cons_self ..)
    obtain ⟨y4', y5', e⟩ := ih (T ++ caseT (c.1, c.2.2)) (some (.str c.1)) (some (.tup c.2.1)) (fun z hz => h z (List.mem_cons_of_mem _ hz)) (by simp only [List.length_append, caseT, List.length_cons]; omega)
    refine ⟨y4', y5', ?_⟩
    rw [List.map_cons, forL_at (e := [some (toks T), y1, y2, y3, some (.str c.1), some (.tup c.2.1)]) rfl]
    have q : T.length + 2 ≤ 1000000 := by omega
    have e2 := hf c.2.1 c.2.2 hi hb (T ++ [S "case", c.1]) (by rw [List.length_append]; simp only [List.length_cons, List.length_nil]; omega)
    have e2' : f [.lst (T.map .str ++ [.str "case", .str c.1]), .tup c.2.1] = .ok .non [some (.lst (T.map .str ++ .str "case" :: .str c.1 :: c.2.2.map .str)), some (.tup c.2.1)] := by simpa [toks] using e2
    have e3 : bPickL f [some (toks T), y1, y2, y3, some (.str c.1), some (.tup c.2.1)] = .next [some (toks (T ++ caseT (c.1, c.2.2))), y1, y2, y3, some (.str c.1), some (.tup c.2.1)] := by
      simp [bPickL, toks, q, e2', hi, caseT]
    rw [e3, loopK_next, e, List.map_cons, List.flatten_cons, List.append_assoc]
theorem Sh_head {x : PV} {ts : List Str} (h : Sh x ts) : ∃ (k : Str) (tl : List PV), x = .tup (.str k :: tl) ∧ (k ∈ ([S "mark", S "rest", S "inner", S "size", S "count", S "gap", S "sum", S "roll", S "num", S "pad", S "free"] : List Str)) := by
  rcases h with ⟨cs, hc, hcn, rfl, rfl⟩ | ⟨z, hnm, rfl, rfl⟩ | ⟨z, y, hnm, rfl, rfl⟩ | ⟨k, z, y, i, hk, hi, hnm, rfl, rfl⟩ | ⟨z, y, i, hi, hnm, rfl, rfl⟩ | ⟨z, a, b, i, hi, hnm, rfl, rfl⟩ | ⟨z, a, b, i, j, hi, hj, hnm, rfl, rfl⟩ | ⟨z, i, hi, hnm, rfl, rfl⟩ | ⟨z, i, a, b, hi, ha, hb, hnm, rfl, rfl⟩ | ⟨k, z, i, hk, hi, hnm, rfl, rfl⟩
  all_goals first
    | (rcases hk with rfl | rfl <;> exact ⟨_, _, rfl, by simp⟩)
    | exact ⟨_, _, rfl, by simp⟩
theorem in_hold {k : Str} (h : k ∈ ([S "mark", S "rest", S "inner", S "size", S "count", S "gap", S "sum", S "roll", S "num", S "pad", S "free"] : List Str)) :
    pIn (.str k) (.tup [.str "part", .str "maybe", .str "many", .str "pick", .str "grow", .str "since", .str "nest"]) = some (.bl false) := by
  simp only [List.mem_cons, List.not_mem_nil, or_false] at h
  rcases h with rfl | rfl | rfl | rfl | rfl | rfl | rfl | rfl | rfl | rfl | rfl <;> simp (decide := true) [pIn, inB, flatP, eqFl]
theorem item_short (n : Nat) (x : PV) (ts : List Str) (h : Sh x ts) (T : List Str) (hl : T.length + ts.length ≤ 400000) : m_add_item (n + 1) [toks T, x] = .ok .non [some (toks (T ++ (ts ++ [S ";"]))), some x] := by
  have e := add_short_ok x ts h T (by omega)
  obtain ⟨k, tl, ex, hk⟩ := Sh_head h
  have hi := Sh_imm h
  show fnM 2 2 [] (b_m_add_item (m_add_block n) (m_add_item n) (m_add_holder n)) _ = _
  rw [fnM_at rfl]
  have hix : pIx x (.int 0) = some (.str k) := by rw [ex]; simp
  have hin := in_hold hk
  have hlen : T.length + ts.length < 1000000 := by omega
  have e' : m_add_short [.lst (T.map .str), x] = .ok .non [some (.lst (T.map .str ++ ts.map .str)), some x] := by simpa [toks] using e
  simp [b_m_add_item, toks, hix, hin, e', hi, hlen]
theorem holder_of (n : Nat) (R : PV → List Str → Prop) (hb : ∀ items bs, immL items = true → TkB R items bs → ∀ T : List Str, T.length + bs.length ≤ 400000 → m_add_block n [toks T, .tup items] = .ok .non [some (toks (T ++ bs)), some (.tup items)]) (T : List Str) :
    (∀ (i : Int) (items : List PV) (bs : List Str), Fig i → immL items = true → TkB R items bs → T.length + (bs.length + 2) ≤ 400000 → m_add_holder (n + 1) [toks T, .tup [.str "since", .int i, .tup items]] = .ok .non [some (toks (T ++ S "since" :: num i :: bs)), some (.tup [.str "since", .int i, .tup items])]) ∧
    (∀ (z : Str) (cs : List (Str × List PV × List Str)), (∀ c ∈ cs, immL c.2.1 = true ∧ TkB R c.2.1 c.2.2) → T.length + ((cs.map fun c => caseT (c.1, c.2.2)).flatten.length + 4) ≤ 400000 →
      m_add_holder (n + 1) [toks T, .tup [.str "pick", .str z, .tup (cs.map fun c => .tup [.str c.1, .tup c.2.1])]] = .ok .non [some (toks (T ++ S "pick" :: z :: S "{" :: ((cs.map fun c => caseT (c.1, c.2.2)).flatten ++ [S "}"]))), some (.tup [.str "pick", .str z, .tup (cs.map fun c => .tup [.str c.1, .tup c.2.1])])]) ∧
    (∀ (k z : Str) (i : Int) (items : List PV) (bs : List Str), (k = "grow" ∨ k = "nest") → Fig i → immL items = true → TkB R items bs → T.length + (bs.length + 3) ≤ 400000 → m_add_holder (n + 1) [toks T, .tup [.str k, .str z, .int i, .tup items]] = .ok .non [some (toks (T ++ k :: z :: num i :: bs)), some (.tup [.str k, .str z, .int i, .tup items])]) ∧
    (∀ (k z : Str) (items : List PV) (bs : List Str), (k = "part" ∨ k = "maybe" ∨ k = "many") → immL items = true → TkB R items bs → T.length + (bs.length + 2) ≤ 400000 → m_add_holder (n + 1) [toks T, .tup [.str k, .str z, .tup items]] = .ok .non [some (toks (T ++ k :: z :: bs)), some (.tup [.str k, .str z, .tup items])]) := by
  have un : ∀ a, m_add_holder (n + 1) a = fnM 2 6 [] (b_m_add_holder (m_add_block n) (m_add_item n) (m_add_holder n)) a := fun a => rfl
  refine ⟨fun i items bs hi him ht hl => ?_, fun z cs hc hl => ?_, fun k z i items bs hk hi him ht hl => ?_, fun k z items bs hk him ht hl => ?_⟩
  · have z0 : T.length < 1000000 := by omega
    have z1 : T.length + 1 < 1000000 := by omega
    have e := hb items bs him ht (T ++ [S "since", num i]) (by rw [List.length_append]; simp only [List.length_cons, List.length_nil]; omega)
    have e' : m_add_block n [.lst (T.map .str ++ [.str "since", .str (num i)]), .tup items] = .ok .non [some (.lst (T.map .str ++ .str "since" :: .str (num i) :: bs.map .str)), some (.tup items)] := by simpa [toks] using e
    rw [un, fnM_at rfl, holder_is]
    simp (decide := true) [toks, z0, z1, cutm_3, atm_3, him, str_fig hi, forL_cons, e', -pStr_i]
  · have hi := imm_cases hc
    generalize hF : (cs.map fun c => caseT (c.1, c.2.2)).flatten = F at hl
    have z0 : T.length < 1000000 := by omega
    have z1 : T.length + 1 + 2 ≤ 1000000 := by omega
    have z2 : T.length + (F.length + 1 + 1 + 1) < 1000000 := by omega
    obtain ⟨y4, y5, e⟩ := pickL (m_add_block n) R hb (some (.tup [.str "pick", .str z, .tup (cs.map fun c => .tup [.str c.1, .tup c.2.1])])) (some (.str "pick")) none cs (T ++ [S "pick", z, S "{"]) none none hc (by rw [hF, List.length_append]; simp only [List.length_cons, List.length_nil]; omega)
    rw [hF] at e
    generalize (cs.map fun c => PV.tup [.str c.1, .tup c.2.1]) = C at *
    have e' : forL (tgT 2 (tgsCons (tgN 4) (tgsCons (tgN 5) (tgsNil)))) (bPickL (m_add_block n)) C [some (.lst (T.map .str ++ [.str "pick", .str z, .str "{"])), some (.tup [.str "pick", .str z, .tup C]), some (.str "pick"), none, none, none] = .next [some (.lst (T.map .str ++ .str "pick" :: .str z :: .str "{" :: F.map .str)), some (.tup [.str "pick", .str z, .tup C]), some (.str "pick"), none, y4, y5] := by simpa [toks] using e
    rw [un, fnM_at rfl, holder_is]
    simp (decide := true) [toks, z0, z1, hi, e', z2, -pStr_i]
  · have z0 : T.length < 1000000 := by omega
    have z1 : T.length + 1 < 1000000 := by omega
    have z2 : T.length + 1 + 1 < 1000000 := by omega
    have e := hb items bs him ht (T ++ [k, z, num i]) (by rw [List.length_append]; simp only [List.length_cons, List.length_nil]; omega)
    have e' : m_add_block n [.lst (T.map .str ++ [.str k, .str z, .str (num i)]), .tup items] = .ok .non [some (.lst (T.map .str ++ .str k :: .str z :: .str (num i) :: bs.map .str)), some (.tup items)] := by simpa [toks] using e
    rw [un, fnM_at rfl, holder_is]
    rcases hk with rfl | rfl <;> simp (decide := true) [toks, z0, z1, z2, cutm_4, atm_4, him, str_fig hi, forL_cons, e', -pStr_i]
  · have z0 : T.length < 1000000 := by omega
    have z1 : T.length + 1 < 1000000 := by omega
    have e := hb items bs him ht (T ++ [k, z]) (by rw [List.length_append]; simp only [List.length_cons, List.length_nil]; omega)
    have e' : m_add_block n [.lst (T.map .str ++ [.str k, .str z]), .tup items] = .ok .non [some (.lst (T.map .str ++ .str k :: .str z :: bs.map .str)), some (.tup items)] := by simpa [toks] using e
    rw [un, fnM_at rfl, holder_is]
    rcases hk with rfl | rfl | rfl <;> simp (decide := true) [toks, z0, z1, cutm_3, atm_3, him, forL_cons, e', -pStr_i]
end PVL

/-! G4: the program's writer upon every tree; the law's tokens. -/
namespace PVL
open PySem PySem.Spec L2
theorem item_hold (n : Nat) (x : PV) (k : Str) (tl : List PV) (ex : x = .tup (.str k :: tl)) (hk : k ∈ ([S "part", S "maybe", S "many", S "pick", S "grow", S "since", S "nest"] : List Str)) (hi : x.imm = true) (T T2 : List Str)
    (e : m_add_holder n [toks T, x] = .ok .non [some (toks T2), some x]) : m_add_item (n + 1) [toks T, x] = .ok .non [some (toks T2), some x] := by
  show fnM 2 2 [] (b_m_add_item (m_add_block n) (m_add_item n) (m_add_holder n)) _ = _
  rw [fnM_at rfl]
  have hix : pIx x (.int 0) = some (.str k) := by rw [ex]; simp
  have hin : pIn (.str k) (.tup [.str "part", .str "maybe", .str "many", .str "pick", .str "grow", .str "since", .str "nest"]) = some (.bl true) := by
    simp only [List.mem_cons, List.not_mem_nil, or_false] at hk
    rcases hk with rfl | rfl | rfl | rfl | rfl | rfl | rfl <;> simp (decide := true) [pIn, inB, flatP, eqFl]
  have e' : m_add_holder n [.lst (T.map .str), x] = .ok .non [some (.lst (T2.map .str)), some x] := by simpa [toks] using e
  simp [b_m_add_item, toks, hix, hin, e', hi]
theorem writer : ∀ (k : Nat) (x : PV) (ts : List Str), Tk k x ts → ∀ n, 3 * k ≤ n → ∀ T : List Str, T.length + ts.length ≤ 400000 → m_add_item n [toks T, x] = .ok .non [some (toks (T ++ ts)), some x] := by
  intro k
  induction k with
  | zero => intro x ts h; exact h.elim
  | succ k ih =>
    intro x ts h n hn T hl
    obtain ⟨m, rfl⟩ : ∃ m, n = m + 1 + 1 + 1 := ⟨n - 3, by omega⟩
    have him0 := Tk_imm h
    have hbl : ∀ items bs, immL items = true → TkB (Tk k) items bs → ∀ T : List Str, T.length + bs.length ≤ 400000 → m_add_block (m + 1) [toks T, .tup items] = .ok .non [some (toks (T ++ bs)), some (.tup items)] := fun items bs hi hb T hl =>
      add_block_of m (Tk k) (fun _ _ h => Tk_imm h) (fun x ts hx T hl => ih x ts hx m (by omega) T hl) items bs hb hi T hl
    obtain ⟨h1, h2, h3, h4⟩ := holder_of (m + 1) (Tk k) hbl T
    replace h := Tk_cases h
    rcases h with ⟨t0, h, rfl⟩ | ⟨i, items, bs, hi, him, hb, rfl, rfl⟩ | ⟨z, cs, hc, hnm, rfl, rfl⟩ | ⟨k, z, i, items, bs, hk, hi, him, hb, hnm, rfl, rfl⟩ | ⟨k, z, items, bs, hk, him, hb, hnm, rfl, rfl⟩
    · rw [List.length_append] at hl
      simp only [List.length_cons, List.length_nil] at hl
      exact item_short _ x t0 h T (by omega)
    · simp only [List.length_cons] at hl
      exact item_hold _ _ "since" _ rfl (by simp) him0 T _ (h1 i items bs hi him hb (by omega))
    · simp only [List.length_cons, List.length_append, List.length_nil] at hl
      exact item_hold _ _ "pick" _ rfl (by simp) him0 T _ (h2 z cs hc (by omega))
    · simp only [List.length_cons] at hl
      exact item_hold _ _ k _ rfl (by rcases hk with rfl | rfl <;> simp) him0 T _ (h3 k z i items bs hk hi him hb (by omega))
    · simp only [List.length_cons] at hl
      exact item_hold _ _ k _ rfl (by rcases hk with rfl | rfl | rfl <;> simp) him0 T _ (h4 k z items bs hk him hb (by omega))
/-- the program's writer upon a block of items -/
theorem write_block (k : Nat) (items : List PV) (bs : List Str) (h : TkB (Tk k) items bs) (hi : immL items = true) (n : Nat) (hn : 3 * k + 1 ≤ n) (T : List Str) (hl : T.length + bs.length ≤ 400000) : m_add_block n [toks T, .tup items] = .ok .non [some (toks (T ++ bs)), some (.tup items)] := by
  obtain ⟨m, rfl⟩ : ∃ m, n = m + 1 := ⟨n - 1, by omega⟩
  exact add_block_of m (Tk k) (fun _ _ h => Tk_imm h) (fun x ts hx T hl => writer k x ts hx m (by omega) T hl) items bs h hi T hl
/-! the law's tokens -/
def bCaseL (self : FM) : SM := sSeq (sExpr (eMethB "list" 1 pExtend (aCons (gOwn (eLst (aCons (gOwn (eC (.str "case"))) (aCons (gOwn (eR (rOp pIx (rVar 4) (rC (.int 0))))) (aNil))))) (aNil)))) (sExpr (eMethB "list" 1 pExtend (aCons (gOwn (eCall self (aCons (gOwn (eR (rOp pIx (rVar 4) (rC (.int 1))))) (aNil)))) (aNil))))
def bTokL (self : FM) : SM := sSeq (sAsg (eR (rOp pIx (rVar 2) (rC (.int 0)))) (tgN 3)) (sSeq (sExpr (eMeth "list" 1 pAppend (aCons (gOwn (eVar 3)) (aNil)))) (sSeq (sIf (bE (eN (rOp pEq (rVar 3) (rC (.str "mark"))))) (sExpr (eMethB "list" 1 pExtend (aCons (gOwn (eLC (itS (eR (rOp pIx (rVar 2) (rC (.int 1))))) [5] (tgN 5) (bYes) (eN (rCl pStr (raCons (rVar 5) (raNil)))))) (aNil)))) (sIf (bE (eN (rOp pEq (rVar 3) (rC (.str "pick"))))) (sSeq (sExpr (eMethB "list" 1 pExtend (aCons (gOwn (eLst (aCons (gOwn (eR (rOp pIx (rVar 2) (rC (.int 1))))) (aCons (gOwn (eC (.str "{"))) (aNil))))) (aNil)))) (sSeq (sFor (itS (eR (rOp pIx (rVar 2) (rC (.int 2))))) (tgN 4) (bCaseL self)) (sExpr (eMeth "list" 1 pAppend (aCons (gOwn (eC (.str "}"))) (aNil)))))) (sIf (bE (eOp pIn (gRef 3) (gOwn (eTup (aCons (gOwn (eC (.str "part"))) (aCons (gOwn (eC (.str "maybe"))) (aCons (gOwn (eC (.str "many"))) (aCons (gOwn (eC (.str "grow"))) (aCons (gOwn (eC (.str "nest"))) (aCons (gOwn (eC (.str "since"))) (aNil))))))))))) (sSeq (sExpr (eMethB "list" 1 pExtend (aCons (gOwn (eLC (itS (eSl pSl (gRef 2) (oSome (eC (.int 1))) (oSome (eN (rUn pNeg (rC (.int 1))))))) [6] (tgN 6) (bYes) (eN (rCl pStr (raCons (rVar 6) (raNil)))))) (aNil)))) (sExpr (eMethB "list" 1 pExtend (aCons (gOwn (eCall self (aCons (gOwn (eR (rOp pIx (rVar 2) (rUn pNeg (rC (.int 1)))))) (aNil)))) (aNil))))) (sSeq (sExpr (eMethB "list" 1 pExtend (aCons (gOwn (eLC (itS (eSl pSl (gRef 2) (oSome (eC (.int 1))) (oSome (eC (.int 3))))) [6] (tgN 6) (bYes) (eN (rCl pStr (raCons (rVar 6) (raNil)))))) (aNil)))) (sIf (bAnd (bE (eN (rOp pEq (rVar 3) (rC (.str "num"))))) (bE (eN (rOp pNotN (rOp pIx (rVar 2) (rC (.int 3))) (rC .non))))) (sExpr (eMethB "list" 1 pExtend (aCons (gOwn (eLst (aCons (gOwn (eC (.str "in"))) (aCons (gOwn (eN (rCl pStr (raCons (rOp pIx (rOp pIx (rVar 2) (rC (.int 3))) (rC (.int 0))) (raNil))))) (aCons (gOwn (eC (.str ".."))) (aCons (gOwn (eN (rCl pStr (raCons (rOp pIx (rOp pIx (rVar 2) (rC (.int 3))) (rC (.int 1))) (raNil))))) (aNil))))))) (aNil)))) (sIf (bE (eOp pIn (gRef 3) (gOwn (eTup (aCons (gOwn (eC (.str "size"))) (aCons (gOwn (eC (.str "count"))) (aNil))))))) (sExpr (eMethB "list" 1 pExtend (aCons (gOwn (eLst (aCons (gOwn (eC (.str "of"))) (aCons (gOwn (eR (rOp pIx (rVar 2) (rC (.int 3))))) (aNil))))) (aNil)))) (sIf (bE (eN (rOp pEq (rVar 3) (rC (.str "gap"))))) (sExpr (eMethB "list" 1 pExtend (aCons (gOwn (eLst (aCons (gOwn (eC (.str "to"))) (aCons (gOwn (eR (rOp pIx (rVar 2) (rC (.int 3))))) (aNil))))) (aNil)))) (sIf (bE (eN (rOp pEq (rVar 3) (rC (.str "inner"))))) (sAsg (eOp pAdd (gOwn (eSl pSl (gRef 1) (oNone) (oSome (eN (rUn pNeg (rC (.int 1))))))) (gOwn (eLst (aCons (gOwn (eC (.str "of"))) (aCons (gOwn (eR (rOp pIx (rVar 2) (rC (.int 2))))) (aNil)))))) (tgN 1)) (sIf (bE (eN (rOp pEq (rVar 3) (rC (.str "sum"))))) (sExpr (eMethB "list" 1 pExtend (aCons (gOwn (eLst (aCons (gOwn (eC (.str "over"))) (aCons (gOwn (eR (rOp pIx (rVar 2) (rC (.int 3))))) (aCons (gOwn (eC (.str ".."))) (aCons (gOwn (eR (rOp pIx (rVar 2) (rC (.int 4))))) (aNil))))))) (aNil)))) (sIf (bE (eN (rOp pEq (rVar 3) (rC (.str "roll"))))) (sExpr (eMethB "list" 1 pExtend (aCons (gOwn (eLst (aCons (gOwn (eC (.str "by"))) (aCons (gOwn (eN (rCl pStr (raCons (rOp pIx (rVar 2) (rC (.int 3))) (raNil))))) (aCons (gOwn (eC (.str "over"))) (aCons (gOwn (eR (rOp pIx (rVar 2) (rC (.int 4))))) (aCons (gOwn (eC (.str ".."))) (aCons (gOwn (eR (rOp pIx (rVar 2) (rC (.int 5))))) (aNil))))))))) (aNil)))) (sNil))))))))))) (sIf (bE (eOp pNotIn (gRef 3) (gOwn (eTup (aCons (gOwn (eC (.str "pick"))) (aCons (gOwn (eC (.str "part"))) (aCons (gOwn (eC (.str "maybe"))) (aCons (gOwn (eC (.str "many"))) (aCons (gOwn (eC (.str "grow"))) (aCons (gOwn (eC (.str "nest"))) (aCons (gOwn (eC (.str "since"))) (aNil)))))))))))) (sExpr (eMeth "list" 1 pAppend (aCons (gOwn (eC (.str ";"))) (aNil)))) (sNil))))
theorem tokens_is (n : Nat) (self : FM) : b_m__law_tokens n self = (sSeq (sAsg (eLst (aCons (gOwn (eC (.str "{"))) (aNil))) (tgN 1)) (sSeq (sForVS 0 (tgN 2) (bTokL self)) (sSeq (sExpr (eMeth "list" 1 pAppend (aCons (gOwn (eC (.str "}"))) (aNil)))) (sRet (eVar 1))))) := rfl
theorem markLC (y0 y1 y2 y3 y4 y6 : Option PV) : ∀ (cs : List Int) (acc : List PV), (∀ c ∈ cs, Fig c) → acc.length + cs.length ≤ 500000 →
    lcL [5] (tgN 5) bYes (eN (rCl pStr (raCons (rVar 5) raNil))) (cs.map .int) acc [y0, y1, y2, y3, y4, none, y6] = .ok (.lst (acc ++ (cs.map num).map .str)) [y0, y1, y2, y3, y4, none, y6] := by
  intro cs
  induction cs with
  | nil => intro acc _ _; simp
  | cons c cs ih =>
    intro acc hf hl
    simp only [List.length_cons] at hl
    have hz : acc.length < sizeLine := by rw [sizeLine_eq]; omega
    rw [List.map_cons, lcL_cons]
    have := ih (acc ++ [.str (num c)]) (fun x hx => hf x (List.mem_cons_of_mem _ hx)) (by rw [List.length_append]; simp only [List.length_cons, List.length_nil]; omega)
    simp [str_fig (hf c (List.mem_cons_self ..)), hz, envWipe, -pStr_i] at this ⊢
    exact this
theorem caseL (self : FM) (R : PV → List Str → Prop) (hf : ∀ items bs, immL items = true → TkB R items bs → bs.length ≤ 400000 → self [.tup items] = .ok (.lst (bs.map .str)) [some (.tup items)]) (y0 y2 y3 : Option PV) :
    ∀ (cs : List (Str × List PV × List Str)) (T : List Str) (y4 : Option PV), (∀ c ∈ cs, immL c.2.1 = true ∧ TkB R c.2.1 c.2.2) → T.length + (cs.map fun c => caseT (c.1, c.2.2)).flatten.length ≤ 400000 →
      ∃ y4', forL (tgN 4) (bCaseL self) (cs.map fun c => .tup [.str c.1, .tup c.2.1]) [y0, some (toks T), y2, y3, y4, none, none] = .next [y0, some (toks (T ++ (cs.map fun c => caseT (c.1, c.2.2)).flatten)), y2, y3, y4', none, none] := by
  intro cs
  induction cs with
  | nil => intro T y4 _ _; exact ⟨y4, by simp⟩
  | cons c cs ih =>
    intro T y4 h hl
    simp only [List.map_cons, List.flatten_cons, List.length_append, caseT, List.length_cons] at hl
    obtain ⟨hi, hb⟩ := h c (List.mem_cons_self ..)
    obtain ⟨y4', e⟩ := ih (T ++ caseT (c.1, c.2.2)) (some (.tup [.str c.1, .tup c.2.1])) (fun z hz => h z (List.mem_cons_of_mem _ hz)) (by simp only [List.length_append, caseT, List.length_cons]; omega)
    refine ⟨y4', ?_⟩
    rw [List.map_cons, forL_at (e := [y0, some (toks T), y2, y3, some (.tup [.str c.1, .tup c.2.1]), none, none]) rfl]
    have q : T.length + 2 ≤ 1000000 := by omega
    have q2 : T.length + 2 + c.2.2.length ≤ 1000000 := by omega
    have e2 := hf c.2.1 c.2.2 hi hb (by omega)
    have hm := strs_map c.2.2
    have e3 : bCaseL self [y0, some (toks T), y2, y3, some (.tup [.str c.1, .tup c.2.1]), none, none] = .next [y0, some (toks (T ++ caseT (c.1, c.2.2))), y2, y3, some (.tup [.str c.1, .tup c.2.1]), none, none] := by
      simp [bCaseL, toks, q, q2, e2, hi, caseT, hm]
    rw [e3, loopK_next, e, List.map_cons, List.flatten_cons, List.append_assoc]
theorem cut13_2 (a b : PV) : pcut [a, b] (some 1) (some 3) = [b] := rfl
theorem cut13_3 (a b c : PV) : pcut [a, b, c] (some 1) (some 3) = [b, c] := rfl
theorem cut13_4 (a b c d : PV) : pcut [a, b, c, d] (some 1) (some 3) = [b, c] := rfl
theorem cut13_5 (a b c d e : PV) : pcut [a, b, c, d, e] (some 1) (some 3) = [b, c] := rfl
theorem cut13_6 (a b c d e f : PV) : pcut [a, b, c, d, e, f] (some 1) (some 3) = [b, c] := rfl
theorem cut_last (l : List PV) (x : PV) : pcut (l ++ [x]) none (some (-1)) = l := by
  have h2 : HT.sIx (l.length + 1) (l.length + 1) (some (-1)) = l.length := by
    simp [HT.sIx]; omega
  have h1 : HT.sIx (l.length + 1) 0 none = 0 := rfl
  unfold pcut
  simp [h1, h2]
theorem tokStep (self : FM) (n : Nat) (hf : ∀ items bs, immL items = true → TkB (Tk n) items bs → bs.length ≤ 400000 → self [.tup items] = .ok (.lst (bs.map .str)) [some (.tup items)]) (x : PV) (ts : List Str) (h : Tk (n + 1) x ts) (T : List Str) (y0 y3 y4 : Option PV) (hl : T.length + ts.length ≤ 400000) :
    ∃ y3' y4', bTokL self [y0, some (toks T), some x, y3, y4, none, none] = .next [y0, some (toks (T ++ ts)), some x, y3', y4', none, none] := by
  have z0 : T.length < 1000000 := by omega
  replace h := Tk_cases h
  rcases h with ⟨t0, h, rfl⟩ | ⟨i, items, bs, hi, him, hb, rfl, rfl⟩ | ⟨z, cs, hc, hnm, rfl, rfl⟩ | ⟨k, z, i, items, bs, hk, hi, him, hb, hnm, rfl, rfl⟩ | ⟨k, z, items, bs, hk, him, hb, hnm, rfl, rfl⟩
  · rw [List.length_append] at hl
    simp only [List.length_cons, List.length_nil] at hl
    have z1 : T.length + 1 < 1000000 := by omega
    have z2 : T.length + 1 + 1 < 1000000 := by omega
    have hT : T.length < 400000 := by omega
    have w1 : T.length + 3 < 1000000 := by omega
    have w2 : T.length + 4 < 1000000 := by omega
    have w3 : T.length + 5 < 1000000 := by omega
    have w4 : T.length + 6 < 1000000 := by omega
    have w5 : T.length + 7 < 1000000 := by omega
    have w6 : T.length + 8 < 1000000 := by omega
    have w7 : T.length + 9 < 1000000 := by omega
    have w8 : T.length + 2 < 1000000 := by omega
    have q1 : T.length + 1 + 1 ≤ 1000000 := by omega
    have q7 : T.length + 2 + 2 ≤ 1000000 := by omega
    have q2 : T.length + 1 + 2 ≤ 1000000 := by omega
    have q4 : T.length + 1 + 2 + 2 ≤ 1000000 := by omega
    have q5 : T.length + 1 + 2 + 4 ≤ 1000000 := by omega
    have q6 : T.length + 1 + 2 + 6 ≤ 1000000 := by omega
    rcases h with ⟨cs, hc, hcn, rfl, rfl⟩ | ⟨z, hnm, rfl, rfl⟩ | ⟨z, y, hnm, rfl, rfl⟩ | ⟨k, z, y, i, hk, hi, hnm, rfl, rfl⟩ | ⟨z, y, i, hi, hnm, rfl, rfl⟩ | ⟨z, a, b, i, hi, hnm, rfl, rfl⟩ | ⟨z, a, b, i, j, hi, hj, hnm, rfl, rfl⟩ | ⟨z, i, hi, hnm, rfl, rfl⟩ | ⟨z, i, a, b, hi, ha, hb, hnm, rfl, rfl⟩ | ⟨k, z, i, hk, hi, hnm, rfl, rfl⟩
    · simp only [List.length_cons, List.length_map] at hl
      have q3 : T.length + 1 + cs.length ≤ 1000000 := by omega
      have q4 : T.length + (cs.length + 1) < 1000000 := by omega
      have hm := strs_map (cs.map num)
      have e := markLC y0 (some (.lst ((T ++ [S "mark"]).map .str))) (some (.tup [.str "mark", .tup (cs.map .int)])) (some (.str "mark")) y4 none cs [] hc (by simp only [List.length_nil]; omega)
      have e' : lcL [5] (tgN 5) bYes (eN (rCl pStr (raCons (rVar 5) raNil))) (cs.map .int) [] [y0, some (.lst (T.map .str ++ [.str "mark"])), some (.tup [.str "mark", .tup (cs.map .int)]), some (.str "mark"), y4, none, none] = .ok (.lst ((cs.map num).map .str)) [y0, some (.lst (T.map .str ++ [.str "mark"])), some (.tup [.str "mark", .tup (cs.map .int)]), some (.str "mark"), y4, none, none] := by simpa using e
      refine ⟨some (.str "mark"), y4, ?_⟩
      simp (decide := true) [bTokL, toks, z0, z1, q3, q4, e', hm, envWipe, pIn, pNotIn, inB, flatP, eqFl, -pStr_i, -List.map_map]
    · refine ⟨some (.str "rest"), y4, ?_⟩
      simp (decide := true) [bTokL, toks, z0, z1, z2, q1, q2, pIn, pNotIn, inB, flatP, eqFl, -pStr_i, lcL_cons, envWipe, cut13_2, cut13_3, cut13_4, cut13_5, cut13_6]
    · have hcl := cut_last (T.map PV.str ++ [.str "inner", .str z]) (.str y)
      have hcl2 : pcut (T.map PV.str ++ [.str "inner", .str z, .str y]) none (some (-1)) = T.map PV.str ++ [.str "inner", .str z] := by rw [← hcl]; simp
      have hti := strs_map T
      refine ⟨some (.str "inner"), y4, ?_⟩
      simp (decide := true) [bTokL, toks, z0, z1, z2, q1, q2, q4, q5, q6, q7, w1, w2, w3, w4, w5, w6, w7, w8, hcl2, hti, pIn, pNotIn, inB, flatP, eqFl, isN, pNotN, -pStr_i, lcL_cons, envWipe, cut13_2, cut13_3, cut13_4, cut13_5, cut13_6]
    · refine ⟨some (.str k), y4, ?_⟩
      rcases hk with rfl | rfl <;> simp (decide := true) [bTokL, toks, z0, z1, z2, q1, q2, q4, q5, q6, q7, w1, w2, w3, w4, w5, w6, w7, w8, str_fig hi, pIn, pNotIn, inB, flatP, eqFl, isN, pNotN, -pStr_i, lcL_cons, envWipe, cut13_2, cut13_3, cut13_4, cut13_5, cut13_6]
    · refine ⟨some (.str "gap"), y4, ?_⟩
      simp (decide := true) [bTokL, toks, z0, z1, z2, q1, q2, q4, q5, q6, q7, w1, w2, w3, w4, w5, w6, w7, w8, str_fig hi, pIn, pNotIn, inB, flatP, eqFl, isN, pNotN, -pStr_i, lcL_cons, envWipe, cut13_2, cut13_3, cut13_4, cut13_5, cut13_6]
    · refine ⟨some (.str "sum"), y4, ?_⟩
      simp (decide := true) [bTokL, toks, z0, z1, z2, q1, q2, q4, q5, q6, q7, w1, w2, w3, w4, w5, w6, w7, w8, str_fig hi, pIn, pNotIn, inB, flatP, eqFl, isN, pNotN, -pStr_i, lcL_cons, envWipe, cut13_2, cut13_3, cut13_4, cut13_5, cut13_6]
    · refine ⟨some (.str "roll"), y4, ?_⟩
      simp (decide := true) [bTokL, toks, z0, z1, z2, q1, q2, q4, q5, q6, q7, w1, w2, w3, w4, w5, w6, w7, w8, str_fig hi, str_fig hj, pIn, pNotIn, inB, flatP, eqFl, isN, pNotN, -pStr_i, lcL_cons, envWipe, cut13_2, cut13_3, cut13_4, cut13_5, cut13_6]
    · refine ⟨some (.str "num"), y4, ?_⟩
      simp (decide := true) [bTokL, toks, z0, z1, z2, q1, q2, q4, q5, q6, q7, w1, w2, w3, w4, w5, w6, w7, w8, str_fig hi, pIn, pNotIn, inB, flatP, eqFl, isN, pNotN, -pStr_i, lcL_cons, envWipe, cut13_2, cut13_3, cut13_4, cut13_5, cut13_6]
    · refine ⟨some (.str "num"), y4, ?_⟩
      simp (decide := true) [bTokL, toks, z0, z1, z2, q1, q2, q4, q5, q6, q7, w1, w2, w3, w4, w5, w6, w7, w8, str_fig hi, str_fig ha, str_fig hb, pIn, pNotIn, inB, flatP, eqFl, isN, pNotN, -pStr_i, lcL_cons, envWipe, cut13_2, cut13_3, cut13_4, cut13_5, cut13_6]
    · refine ⟨some (.str k), y4, ?_⟩
      rcases hk with rfl | rfl <;> simp (decide := true) [bTokL, toks, z0, z1, z2, q1, q2, q4, q5, q6, q7, w1, w2, w3, w4, w5, w6, w7, w8, str_fig hi, pIn, pNotIn, inB, flatP, eqFl, isN, pNotN, -pStr_i, lcL_cons, envWipe, cut13_2, cut13_3, cut13_4, cut13_5, cut13_6]
  · simp only [List.length_cons] at hl
    have z1 : T.length + 1 + 1 ≤ 1000000 := by omega
    have z2 : T.length + 1 + 1 + bs.length ≤ 1000000 := by omega
    have e := hf items bs him hb (by omega)
    have hm := strs_map bs
    refine ⟨some (.str "since"), y4, ?_⟩
    simp (decide := true) [bTokL, toks, z0, z1, z2, cutm_3, atm_3, him, str_fig hi, e, hm, pIn, pNotIn, inB, flatP, eqFl, isN, pNotN, -pStr_i, lcL_cons, envWipe]
  · simp only [List.length_cons, List.length_append, List.length_nil] at hl
    have hi := imm_cases hc
    generalize hF : (cs.map fun c => caseT (c.1, c.2.2)).flatten = F at hl
    have z1 : T.length + 1 + 2 ≤ 1000000 := by omega
    have z2 : T.length + (F.length + 1 + 1 + 1) < 1000000 := by omega
    obtain ⟨y4', e⟩ := caseL self (Tk n) hf y0 (some (.tup [.str "pick", .str z, .tup (cs.map fun c => .tup [.str c.1, .tup c.2.1])])) (some (.str "pick")) cs (T ++ [S "pick", z, S "{"]) y4 hc (by rw [hF, List.length_append]; simp only [List.length_cons, List.length_nil]; omega)
    rw [hF] at e
    generalize (cs.map fun c => PV.tup [.str c.1, .tup c.2.1]) = C at *
    have e' : forL (tgN 4) (bCaseL self) C [y0, some (.lst (T.map .str ++ [.str "pick", .str z, .str "{"])), some (.tup [.str "pick", .str z, .tup C]), some (.str "pick"), y4, none, none] = .next [y0, some (.lst (T.map .str ++ .str "pick" :: .str z :: .str "{" :: F.map .str)), some (.tup [.str "pick", .str z, .tup C]), some (.str "pick"), y4', none, none] := by simpa [toks] using e
    refine ⟨some (.str "pick"), y4', ?_⟩
    simp (decide := true) [bTokL, toks, z0, z1, z2, hi, e', pIn, pNotIn, inB, flatP, eqFl, isN, pNotN, -pStr_i, lcL_cons, envWipe]
  · simp only [List.length_cons] at hl
    have z1 : T.length + 1 + 2 ≤ 1000000 := by omega
    have z2 : T.length + 1 + 2 + bs.length ≤ 1000000 := by omega
    have e := hf items bs him hb (by omega)
    have hm := strs_map bs
    refine ⟨some (.str k), y4, ?_⟩
    rcases hk with rfl | rfl <;> simp (decide := true) [bTokL, toks, z0, z1, z2, cutm_4, atm_4, him, str_fig hi, e, hm, pIn, pNotIn, inB, flatP, eqFl, isN, pNotN, -pStr_i, lcL_cons, envWipe]
  · simp only [List.length_cons] at hl
    have z1 : T.length + 1 + 1 ≤ 1000000 := by omega
    have z2 : T.length + 1 + 1 + bs.length ≤ 1000000 := by omega
    have e := hf items bs him hb (by omega)
    have hm := strs_map bs
    refine ⟨some (.str k), y4, ?_⟩
    rcases hk with rfl | rfl | rfl <;> simp (decide := true) [bTokL, toks, z0, z1, z2, cutm_3, atm_3, him, e, hm, pIn, pNotIn, inB, flatP, eqFl, isN, pNotN, -pStr_i, lcL_cons, envWipe]
theorem tokL (self : FM) (n : Nat) (hf : ∀ items bs, immL items = true → TkB (Tk n) items bs → bs.length ≤ 400000 → self [.tup items] = .ok (.lst (bs.map .str)) [some (.tup items)]) (y0 : Option PV) {items : List PV} {tss : List (List Str)} (h : All2 (Tk (n + 1)) items tss) :
    ∀ (T : List Str) (y2 y3 y4 : Option PV), T.length + tss.flatten.length ≤ 400000 → ∃ y2' y3' y4', forL (tgN 2) (bTokL self) items [y0, some (toks T), y2, y3, y4, none, none] = .next [y0, some (toks (T ++ tss.flatten)), y2', y3', y4', none, none] := by
  induction h with
  | nil => intro T y2 y3 y4 _; exact ⟨y2, y3, y4, by simp⟩
  | @cons x ts items tss hx r ih =>
    intro T y2 y3 y4 hl
    simp only [List.flatten_cons, List.length_append] at hl
    obtain ⟨y3', y4', e3⟩ := tokStep self n hf x ts hx T y0 y3 y4 (by omega)
    obtain ⟨y2', y3'', y4'', e⟩ := ih (T ++ ts) (some x) y3' y4' (by rw [List.length_append]; omega)
    refine ⟨y2', y3'', y4'', ?_⟩
    rw [forL_at (e := [y0, some (toks T), some x, y3, y4, none, none]) rfl, e3, loopK_next, e, List.flatten_cons, List.append_assoc]
theorem tokens_ok : ∀ (k : Nat) (items : List PV) (bs : List Str), immL items = true → TkB (Tk k) items bs → bs.length ≤ 400000 → ∀ n, k < n → m__law_tokens n [.tup items] = .ok (.lst (bs.map .str)) [some (.tup items)] := by
  intro k
  induction k with
  | zero =>
    intro items bs hi h hl n hn
    obtain ⟨m, rfl⟩ : ∃ m, n = m + 1 := ⟨n - 1, by omega⟩
    obtain ⟨tss, h2, rfl⟩ := h
    cases h2 with
    | nil =>
      show fnM 1 7 [] (b_m__law_tokens m (m__law_tokens m)) _ = _
      rw [fnM_at rfl, tokens_is]
      simp
    | cons hx r => exact hx.elim
  | succ k ih =>
    intro items bs hi h hl n hn
    obtain ⟨m, rfl⟩ : ∃ m, n = m + 1 := ⟨n - 1, by omega⟩
    obtain ⟨tss, h2, rfl⟩ := h
    simp only [List.length_cons, List.length_append, List.length_nil] at hl
    obtain ⟨y2, y3, y4, e⟩ := tokL (m__law_tokens m) k (fun items bs hi hb hl => ih items bs hi hb hl m (by omega)) (some (.tup items)) h2 [S "{"] none none none (by simp only [List.length_cons, List.length_nil]; omega)
    show fnM 1 7 [] (b_m__law_tokens m (m__law_tokens m)) _ = _
    rw [fnM_at rfl, tokens_is]
    generalize tss.flatten = U at *
    have z1 : U.length + 1 < 1000000 := by omega
    have e' : forL (tgN 2) (bTokL (m__law_tokens m)) items [some (.tup items), some (.lst [.str "{"]), none, none, none, none, none] = .next [some (.tup items), some (.lst (.str "{" :: U.map .str)), y2, y3, y4, none, none] := by simpa [toks] using e
    simp [toks, hi, e', z1]
end PVL

/-! G5: the text of a tree: the program's and the law's. -/
namespace PVL
open PySem PySem.Spec L2
def cat : List Str → Str
  | [] => Str.empty
  | x :: r => x ++ cat r
theorem empty_is : (Str.ofString "" : Str) = Str.empty := by decide +kernel
theorem join_cat (l : List Str) : Txt.join "" l = cat l := by
  show Builtin.Str.glued (Str.ofString "") l = _
  rw [StrLaws.glued_eq_join, empty_is]
  induction l with
  | nil => rfl
  | cons x r ih =>
    cases r with
    | nil =>
      show x = x ++ Str.empty
      rw [Str.append_empty]
    | cons y r =>
      show x ++ Str.empty ++ Str.join Str.empty (y :: r) = x ++ cat (y :: r)
      rw [Str.append_empty, ih]
theorem strsOf_map : ∀ zs : List Str, strsOf (zs.map .str) = some zs
  | [] => rfl
  | z :: zs => by
    show (strsOf (zs.map .str)).map (z :: ·) = _
    rw [strsOf_map zs]
    rfl
def endT (t : Str) : Bool := (S "{" == t) || ((S "}" == t) || (S ";" == t))
def sep (t : Str) : Str := if endT t = true then "\n" else " "
def textOf (ts : List Str) : Str := cat (ts.map fun t => t ++ sep t)
def pieces (ts : List Str) : List Str := (ts.map fun t => [t, sep t]).flatten
theorem cat_pieces : ∀ ts : List Str, cat (pieces ts) = textOf ts
  | [] => rfl
  | t :: ts => by
    have ih := cat_pieces ts
    show t ++ (sep t ++ cat (pieces ts)) = (t ++ sep t) ++ textOf ts
    rw [ih, Str.append_assoc]
theorem sep_len (t : Str) : (sep t).length = 1 := by
  unfold sep
  split <;> decide +kernel
theorem pieces_len (ts : List Str) : (pieces ts).length = 2 * ts.length := by
  induction ts with
  | nil => rfl
  | cons t ts ih =>
    show (pieces ts).length + 1 + 1 = _
    rw [ih, List.length_cons]; omega
theorem pieces_sum (ts : List Str) (h : ∀ t ∈ ts, t.length ≤ 30) : ((pieces ts).map (·.length)).sum ≤ 31 * ts.length := by
  induction ts with
  | nil => decide
  | cons t ts ih =>
    have h1 := ih fun x hx => h x (List.mem_cons_of_mem _ hx)
    have h2 := h t (List.mem_cons_self ..)
    have h3 := sep_len t
    show t.length + ((sep t).length + ((pieces ts).map (·.length)).sum) ≤ _
    rw [List.length_cons]; omega
theorem texts_sum (ts : List Str) (h : ∀ t ∈ ts, t.length ≤ 30) : ((ts.map fun t => t ++ sep t).map (·.length)).sum ≤ 31 * ts.length := by
  induction ts with
  | nil => decide
  | cons t ts ih =>
    have h1 := ih fun x hx => h x (List.mem_cons_of_mem _ hx)
    have h2 := h t (List.mem_cons_self ..)
    have h3 := sep_len t
    show (t ++ sep t).length + (((ts.map fun t => t ++ sep t)).map (·.length)).sum ≤ _
    rw [List.length_cons, Str.length_append]; omega
theorem in_end (t : Str) : pIn (.str t) (.tup [.str "{", .str "}", .str ";"]) = some (.bl (endT t)) := by
  simp [pIn, inB, flatP, eqFl, endT]
theorem join_ok (l : List Str) (n : Nat) (h : (l.map (·.length)).sum ≤ n) (hn : n ≤ 16777216) : pJoin "" (.lst (l.map .str)) = some (.str (cat l)) := by
  rw [pJoin_l, strsOf_map]
  have z : (Str.ofString "" : Str).length = 0 := by decide +kernel
  show (if (l.map (·.length)).sum + l.length * (Str.ofString "" : Str).length ≤ 16777216 then some (PV.str (Txt.join "" l)) else none) = _
  rw [z, if_pos (by omega), join_cat]
def treeV (nm : Str) (base ver : Int) (items : List PV) : PV := .tup [.str "format", .str nm, .int base, .int ver, .tup items]
def headT (nm : Str) (base ver : Int) : List Str := [S "format", nm, S "base", num base] ++ if ver = 1 then [] else [S "version", num ver]
theorem headT_len (nm : Str) (base ver : Int) : (headT nm base ver).length ≤ 6 := by
  unfold headT
  split <;> simp
theorem all_tokens_ok (nm : Str) (base ver : Int) (items : List PV) (bs : List Str) (k : Nat) (hk : k < 20) (hb : Fig base) (hv : Fig ver) (hi : immL items = true) (h : TkB (Tk k) items bs) (hl : bs.length ≤ 300000) :
    m__law_all_tokens [treeV nm base ver items] = .ok (toks (headT nm base ver ++ bs)) [some (treeV nm base ver items)] := by
  have e := tokens_ok k items bs hi h (by omega) 20 hk
  unfold m__law_all_tokens
  rw [fnM_at rfl]
  have hm := strs_map bs
  have q4 : 4 + bs.length ≤ 1000000 := by omega
  have q6 : 6 + bs.length ≤ 1000000 := by omega
  have q5 : bs.length + 1 + 1 + 1 + 1 ≤ 1000000 := by omega
  by_cases h1 : ver = 1
  · simp [b_m__law_all_tokens, treeV, toks, headT, h1, e, hm, hi, q4, q5, q6, str_fig hb, -pStr_i]
  · simp [b_m__law_all_tokens, treeV, toks, headT, h1, e, hm, hi, q4, q5, q6, str_fig hb, str_fig hv, -pStr_i]
def bWrL : SM := sSeq (sExpr (eMeth "list" 2 pAppend (aCons (gOwn (eVar 3)) (aNil)))) (sIf (bE (eOp pIn (gRef 3) (gOwn (eTup (aCons (gOwn (eC (.str "{"))) (aCons (gOwn (eC (.str "}"))) (aCons (gOwn (eC (.str ";"))) (aNil)))))))) (sExpr (eMeth "list" 2 pAppend (aCons (gOwn (eC (.str "\n"))) (aNil)))) (sExpr (eMeth "list" 2 pAppend (aCons (gOwn (eC (.str " "))) (aNil)))))
theorem write_is : b_m_write_format = (sSeq (sAsg (eLst (aCons (gOwn (eC (.str "format"))) (aCons (gOwn (eR (rOp pIx (rVar 0) (rC (.int 1))))) (aCons (gOwn (eC (.str "base"))) (aCons (gOwn (eN (rCl pStr (raCons (rOp pIx (rVar 0) (rC (.int 2))) (raNil))))) (aNil)))))) (tgN 1)) (sSeq (sIf (bE (eN (rOp pNe (rOp pIx (rVar 0) (rC (.int 3))) (rC (.int 1))))) (sExpr (eMethB "list" 1 pExtend (aCons (gOwn (eLst (aCons (gOwn (eC (.str "version"))) (aCons (gOwn (eN (rCl pStr (raCons (rOp pIx (rVar 0) (rC (.int 3))) (raNil))))) (aNil))))) (aNil)))) (sNil)) (sSeq (sExpr (eCall (m_add_block 50) (aCons (gRef 1) (aCons (gOwn (eR (rOp pIx (rVar 0) (rC (.int 4))))) (aNil))))) (sSeq (sAsg (eLst (aNil)) (tgN 2)) (sSeq (sForVS 1 (tgN 3) bWrL) (sRet (eSM1 pJoin (eC (.str "")) (gRef 2)))))))) := rfl
theorem wrL (y0 y1 : Option PV) : ∀ (ts P : List Str) (y3 : Option PV), P.length + 2 * ts.length ≤ 900000 → ∃ y3', forL (tgN 3) bWrL (ts.map .str) [y0, y1, some (toks P), y3] = .next [y0, y1, some (toks (P ++ pieces ts)), y3'] := by
  intro ts
  induction ts with
  | nil => intro P y3 _; exact ⟨y3, by simp [pieces]⟩
  | cons t ts ih =>
    intro P y3 hl
    simp only [List.length_cons] at hl
    obtain ⟨y3', e⟩ := ih (P ++ [t, sep t]) (some (.str t)) (by rw [List.length_append]; simp only [List.length_cons, List.length_nil]; omega)
    refine ⟨y3', ?_⟩
    rw [List.map_cons, forL_at (e := [y0, y1, some (toks P), some (.str t)]) rfl]
    have z0 : P.length < 1000000 := by omega
    have z1 : P.length + 1 < 1000000 := by omega
    have e3 : bWrL [y0, y1, some (toks P), some (.str t)] = .next [y0, y1, some (toks (P ++ [t, sep t])), some (.str t)] := by
      by_cases he : endT t = true
      · simp [bWrL, toks, in_end, he, sep, z0, z1]
      · simp only [Bool.not_eq_true] at he
        simp [bWrL, toks, in_end, he, sep, z0, z1]
    rw [e3, loopK_next, e, List.append_assoc]
    rfl
theorem write_ok (nm : Str) (base ver : Int) (items : List PV) (bs : List Str) (k : Nat) (hk : 3 * k + 1 ≤ 50) (hb : Fig base) (hv : Fig ver) (hi : immL items = true) (h : TkB (Tk k) items bs) (hl : bs.length ≤ 100000) (hs : ∀ t ∈ headT nm base ver ++ bs, t.length ≤ 30) :
    m_write_format [treeV nm base ver items] = .ok (.str (textOf (headT nm base ver ++ bs))) [some (treeV nm base ver items)] := by
  have h6 := headT_len nm base ver
  have e := write_block k items bs h hi 50 hk (headT nm base ver) (by omega)
  generalize hH : headT nm base ver = H at *
  have hm := strs_map (H ++ bs)
  obtain ⟨y3, e2⟩ := wrL (some (treeV nm base ver items)) none (H ++ bs) [] none (by simp only [List.length_append, List.length_nil]; omega)
  have e4 := join_ok (pieces (H ++ bs)) _ (pieces_sum _ hs) (by rw [List.length_append]; omega)
  rw [cat_pieces] at e4
  generalize textOf (H ++ bs) = W at *
  generalize pieces (H ++ bs) = P at *
  unfold m_write_format
  rw [fnM_at rfl, write_is]
  by_cases h1 : ver = 1
  · have hh : H = [S "format", nm, S "base", num base] := by rw [← hH, headT, if_pos h1]; rfl
    subst hh
    have hm' : immL (bs.map .str) = true := strs_map bs
    have e' : m_add_block 50 [.lst [.str "format", .str nm, .str "base", .str (num base)], .tup items] = .ok .non [some (.lst (.str "format" :: .str nm :: .str "base" :: .str (num base) :: bs.map .str)), some (.tup items)] := by simpa [toks] using e
    have e2' : forL (tgN 3) bWrL (.str "format" :: .str nm :: .str "base" :: .str (num base) :: bs.map .str) [some (treeV nm base ver items), none, some (.lst []), none] = .next [some (treeV nm base ver items), none, some (.lst (P.map .str)), y3] := by simpa [toks] using e2
    simp only [treeV, h1] at e2' ⊢
    simp [e', e2', e4, hm', hi, str_fig hb, -pStr_i]
  · have hh : H = [S "format", nm, S "base", num base, S "version", num ver] := by rw [← hH, headT, if_neg h1]; rfl
    subst hh
    have hm' : immL (bs.map .str) = true := strs_map bs
    have e' : m_add_block 50 [.lst [.str "format", .str nm, .str "base", .str (num base), .str "version", .str (num ver)], .tup items] = .ok .non [some (.lst (.str "format" :: .str nm :: .str "base" :: .str (num base) :: .str "version" :: .str (num ver) :: bs.map .str)), some (.tup items)] := by simpa [toks] using e
    have e2' : forL (tgN 3) bWrL (.str "format" :: .str nm :: .str "base" :: .str (num base) :: .str "version" :: .str (num ver) :: bs.map .str) [some (treeV nm base ver items), none, some (.lst []), none] = .next [some (treeV nm base ver items), none, some (.lst (P.map .str)), y3] := by simpa [toks] using e2
    simp only [treeV] at e2' ⊢
    simp [h1, e', e2', e4, hm', hi, str_fig hb, str_fig hv, -pStr_i]
def bTxL : SM := sExpr (eMeth "list" 1 pAppend (aCons (gOwn (eOp pAdd (gRef 2) (gOwn (eOp (fun x y => immO (pIx x y)) (gOwn (eTup (aCons (gOwn (eC (.str " "))) (aCons (gOwn (eC (.str "\n"))) (aNil))))) (gOwn (eCl pInt (aCons (gOwn (eOp pIn (gRef 2) (gOwn (eTup (aCons (gOwn (eC (.str "{"))) (aCons (gOwn (eC (.str "}"))) (aCons (gOwn (eC (.str ";"))) (aNil)))))))) (aNil)))))))) (aNil)))
theorem text_is : b_m__law_text = (sSeq (sAsg (eLst (aNil)) (tgN 1)) (sSeq (sFor (itS (eCall m__law_all_tokens (aCons (gRef 0) (aNil)))) (tgN 2) bTxL) (sRet (eSM1 pJoin (eC (.str "")) (gRef 1))))) := rfl
theorem txL (y0 : Option PV) : ∀ (ts P : List Str) (y2 : Option PV), P.length + ts.length ≤ 900000 → (∀ t ∈ ts, t.length ≤ 30) → ∃ y2', forL (tgN 2) bTxL (ts.map .str) [y0, some (toks P), y2] = .next [y0, some (toks (P ++ ts.map fun t => t ++ sep t)), y2'] := by
  intro ts
  induction ts with
  | nil => intro P y2 _ _; exact ⟨y2, by simp⟩
  | cons t ts ih =>
    intro P y2 hl hs
    simp only [List.length_cons] at hl
    obtain ⟨y2', e⟩ := ih (P ++ [t ++ sep t]) (some (.str t)) (by rw [List.length_append]; simp only [List.length_cons, List.length_nil]; omega) (fun x hx => hs x (List.mem_cons_of_mem _ hx))
    refine ⟨y2', ?_⟩
    rw [List.map_cons, forL_at (e := [y0, some (toks P), some (.str t)]) rfl]
    have z0 : P.length < 1000000 := by omega
    have z1 : t.length + 1 ≤ 1000000 := by have := hs t (List.mem_cons_self ..); omega
    have w1 : (Str.ofString "\n" : Str).length = 1 := by decide +kernel
    have w2 : (Str.ofString " " : Str).length = 1 := by decide +kernel
    have e3 : bTxL [y0, some (toks P), some (.str t)] = .next [y0, some (toks (P ++ [t ++ sep t])), some (.str t)] := by
      by_cases he : endT t = true
      · simp [bTxL, toks, in_end, he, sep, z0, z1, w1]
      · simp only [Bool.not_eq_true] at he
        simp [bTxL, toks, in_end, he, sep, z0, z1, w2]
    rw [e3, loopK_next, e, List.append_assoc]
    rfl
theorem text_ok (nm : Str) (base ver : Int) (items : List PV) (bs : List Str) (k : Nat) (hk : k < 20) (hb : Fig base) (hv : Fig ver) (hi : immL items = true) (h : TkB (Tk k) items bs) (hl : bs.length ≤ 100000) (hs : ∀ t ∈ headT nm base ver ++ bs, t.length ≤ 30) :
    m__law_text [treeV nm base ver items] = .ok (.str (textOf (headT nm base ver ++ bs))) [some (treeV nm base ver items)] := by
  have h6 := headT_len nm base ver
  have e := all_tokens_ok nm base ver items bs k hk hb hv hi h (by omega)
  have him : (treeV nm base ver items).imm = true := by simp [treeV, hi]
  generalize headT nm base ver = H at *
  generalize treeV nm base ver items = V at *
  have hm := strs_map (H ++ bs)
  obtain ⟨y2, e2⟩ := txL (some V) (H ++ bs) [] none (by simp only [List.length_append, List.length_nil]; omega) hs
  have e4 := join_ok ((H ++ bs).map fun t => t ++ sep t) _ (texts_sum _ hs) (by rw [List.length_append]; omega)
  change pJoin "" (.lst _) = some (.str (textOf (H ++ bs))) at e4
  generalize textOf (H ++ bs) = W at *
  rw [List.nil_append] at e2
  generalize (H ++ bs).map (fun t => t ++ sep t) = P at *
  generalize H ++ bs = U at *
  simp only [toks] at e e2
  unfold m__law_text
  rw [fnM_at rfl, text_is]
  have e2' : forL (tgN 2) bTxL (U.map .str) [some V, some (.lst []), none] = .next [some V, some (.lst (P.map .str)), y2] := e2
  simp [e, e2', e4, hm, him]
end PVL

/-! G6: the trees that the law draws. -/
namespace PVL
open PySem PySem.Spec L2
theorem num_len {i : Int} (h : Fig i) : (num i).length ≤ 30 := by
  have := PyProof.Rows.toString_length_le h.1 (k := 30) (by decide) (Int.lt_trans h.2 (by decide))
  exact this
theorem fig_ok (d : Dr) : ∃ (r : Int) (d' : Dr), m__law_figure [d.pv] = .ok (.int r) [some d'.pv] ∧ Fig r := by
  obtain ⟨r, d', e, r0, r1⟩ := figure_ok d
  exact ⟨r, d', e, r0, r1⟩
theorem figLC (y1 y2 y3 : Option PV) : ∀ (l : List PV) (d : Dr) (acc : List PV), acc.length + l.length ≤ 1000 → ∃ (cs : List Int) (d' : Dr),
    lcL [4] (tgN 4) bYes (eCall m__law_figure (aCons (gRef 0) aNil)) l acc [some d.pv, y1, y2, y3, none] = .ok (.lst (acc ++ cs.map .int)) [some d'.pv, y1, y2, y3, none] ∧ (∀ c ∈ cs, Fig c) ∧ cs.length = l.length := by
  intro l
  induction l with
  | nil => intro d acc _; exact ⟨[], d, by simp, by simp, rfl⟩
  | cons x l ih =>
    intro d acc hl
    simp only [List.length_cons] at hl
    obtain ⟨r, d1, e1, hr⟩ := fig_ok d
    obtain ⟨cs, d', e2, hc, lc⟩ := ih d1 (acc ++ [.int r]) (by rw [List.length_append]; simp only [List.length_cons, List.length_nil]; omega)
    refine ⟨r :: cs, d', ?_, ?_, by rw [List.length_cons, List.length_cons, lc]⟩
    · have hz : acc.length < sizeLine := by rw [sizeLine_eq]; omega
      rw [lcL_cons]
      simp [e1, hz, envWipe] at e2 ⊢
      exact e2
    · intro c hc2
      rcases List.mem_cons.mp hc2 with rfl | h
      · exact hr
      · exact hc c h
theorem short_gen (d : Dr) (k : Str) (hk : k ∈ kinds0) : ∃ (x : PV) (ts : List Str) (d' : Dr), m__law_short [d.pv, .str k] = .ok x [some d'.pv, some (.str k)] ∧ Sh x ts ∧ (∀ t ∈ ts, t.length ≤ 30) ∧ ts.length ≤ 13 := by
  unfold m__law_short
  rw [fnM_at rfl]
  by_cases hm : k = "mark"
  · subst hm
    obtain ⟨v, d1, hv, e1⟩ := pick_mem d [.int 1, .int 1, .int 2, .int 3, .int 12, .int 2] (by decide) (by decide) rfl
    obtain ⟨n, rfl, n0, n1⟩ : ∃ n : Int, v = .int n ∧ 1 ≤ n ∧ n ≤ 12 := by
      simp only [List.mem_cons, List.not_mem_nil, or_false] at hv
      rcases hv with rfl | rfl | rfl | rfl | rfl | rfl <;> exact ⟨_, rfl, by decide, by decide⟩
    have hr : rngOk n := rngOk_of (by omega) (by omega)
    have hl : (rngL 0 n.toNat).length ≤ 12 := by rw [ints_len]; omega
    obtain ⟨cs, d2, e2, hc, lc⟩ := figLC (some (.str "mark")) none none (rngL 0 n.toNat) d1 [] (by simp only [List.length_nil]; omega)
    have hci : immL (cs.map PV.int) = true := immL_map _ _ fun _ _ => rfl
    refine ⟨.tup [.str "mark", .tup (cs.map .int)], S "mark" :: cs.map num, d2, ?_, .inl ⟨cs, hc, by rw [lc, ints_len]; omega, rfl, rfl⟩, ?_, ?_⟩
    · simp [b_m__law_short, e1, hr, e2, hci, envWipe]
    · intro t ht
      rcases List.mem_cons.mp ht with rfl | h
      · decide +kernel
      · obtain ⟨c, hc2, rfl⟩ := List.mem_map.mp h
        exact num_len (hc c hc2)
    · rw [List.length_cons, List.length_map]; omega
  · obtain ⟨z, d1, e1, lz⟩ := name_ok d
    obtain ⟨y, d2, e2, ly⟩ := name_ok d1
    obtain ⟨i, d3, e3, hi⟩ := fig_ok d1
    obtain ⟨a, d4, e4, la⟩ := name_ok d3
    obtain ⟨b, d5, e5, lb⟩ := name_ok d4
    obtain ⟨j, d6, e6, hj⟩ := fig_ok d3
    obtain ⟨a2, d7, e7, la2⟩ := name_ok d6
    obtain ⟨b2, d8, e8, lb2⟩ := name_ok d7
    obtain ⟨w, d9, e9, w0, w1⟩ := draw_c d3 2 (by decide) (by decide)
    obtain ⟨p, d10, e10, hp⟩ := fig_ok d9
    obtain ⟨q, d11, e11, hq⟩ := fig_ok d10
    have li := num_len hi
    have lj := num_len hj
    have lp := num_len hp
    have lq := num_len hq
    have k1 : z.length ≤ 30 := by omega
    have k2 : y.length ≤ 30 := by omega
    have k3 : a.length ≤ 30 := by omega
    have k4 : b.length ≤ 30 := by omega
    have k5 : a2.length ≤ 30 := by omega
    have k6 : b2.length ≤ 30 := by omega
    have s1 : (S "num").length ≤ 30 ∧ (S "in").length ≤ 30 ∧ (S "..").length ≤ 30 ∧ (S "size").length ≤ 30 ∧ (S "count").length ≤ 30 ∧ (S "gap").length ≤ 30 ∧ (S "sum").length ≤ 30 ∧ (S "roll").length ≤ 30 ∧ (S "pad").length ≤ 30 ∧ (S "free").length ≤ 30 ∧ (S "rest").length ≤ 30 ∧ (S "inner").length ≤ 30 ∧ (S "of").length ≤ 30 ∧ (S "to").length ≤ 30 ∧ (S "over").length ≤ 30 ∧ (S "by").length ≤ 30 := by decide +kernel
    obtain ⟨t1, t2, t3, t4, t5, t6, t7, t8, t9, t10, t11, t12, t13, t14, t15, t16⟩ := s1
    simp only [kinds0, List.mem_cons, List.not_mem_nil, or_false] at hk
    rcases hk with rfl | rfl | rfl | rfl | rfl | rfl | rfl | rfl | rfl | rfl | rfl
    · exact absurd rfl hm
    · by_cases hw : w = 0
      · refine ⟨.tup [.str "num", .str z, .int i, .non], [S "num", z, num i], d9, ?_, .inr (.inr (.inr (.inr (.inr (.inr (.inr (.inl ⟨z, i, hi, nms1 lz.2, rfl, rfl⟩))))))), ?_, by simp⟩
        · simp (decide := true) [b_m__law_short, e1, e3, e9, hw, pIn, inB, flatP, eqFl]
        · simp [k1, li, t1]
      · refine ⟨.tup [.str "num", .str z, .int i, .tup [.int p, .int q]], [S "num", z, num i, S "in", num p, S "..", num q], d11, ?_, .inr (.inr (.inr (.inr (.inr (.inr (.inr (.inr (.inl ⟨z, i, p, q, hi, hp, hq, nms1 lz.2, rfl, rfl⟩)))))))), ?_, by simp⟩
        · simp (decide := true) [b_m__law_short, e1, e3, e9, e10, e11, hw, pIn, inB, flatP, eqFl]
        · simp [k1, li, lp, lq, t1, t2, t3]
    · refine ⟨.tup [.str "size", .str z, .int i, .str a], [S "size", z, num i, S "of", a], d4, ?_, .inr (.inr (.inr (.inl ⟨"size", z, a, i, .inl rfl, hi, nms2 lz.2 la.2, rfl, rfl⟩))), ?_, by simp⟩
      · simp (decide := true) [b_m__law_short, e1, e3, e4, pIn, inB, flatP, eqFl]
      · simp [k1, k3, li, t4, t13]
    · refine ⟨.tup [.str "count", .str z, .int i, .str a], [S "count", z, num i, S "of", a], d4, ?_, .inr (.inr (.inr (.inl ⟨"count", z, a, i, .inr rfl, hi, nms2 lz.2 la.2, rfl, rfl⟩))), ?_, by simp⟩
      · simp (decide := true) [b_m__law_short, e1, e3, e4, pIn, inB, flatP, eqFl]
      · simp [k1, k3, li, t5, t13]
    · refine ⟨.tup [.str "gap", .str z, .int i, .str a], [S "gap", z, num i, S "to", a], d4, ?_, .inr (.inr (.inr (.inr (.inl ⟨z, a, i, hi, nms2 lz.2 la.2, rfl, rfl⟩)))), ?_, by simp⟩
      · simp (decide := true) [b_m__law_short, e1, e3, e4, pIn, inB, flatP, eqFl]
      · simp [k1, k3, li, t6, t14]
    · refine ⟨.tup [.str "sum", .str z, .int i, .str a, .str b], [S "sum", z, num i, S "over", a, S "..", b], d5, ?_, .inr (.inr (.inr (.inr (.inr (.inl ⟨z, a, b, i, hi, nms3 lz.2 la.2 lb.2, rfl, rfl⟩))))), ?_, by simp⟩
      · simp (decide := true) [b_m__law_short, e1, e3, e4, e5, pIn, inB, flatP, eqFl]
      · simp [k1, k3, k4, li, t7, t15, t3]
    · refine ⟨.tup [.str "roll", .str z, .int i, .int j, .str a2, .str b2], [S "roll", z, num i, S "by", num j, S "over", a2, S "..", b2], d8, ?_, .inr (.inr (.inr (.inr (.inr (.inr (.inl ⟨z, a2, b2, i, j, hi, hj, nms3 lz.2 la2.2 lb2.2, rfl, rfl⟩)))))), ?_, by simp⟩
      · simp (decide := true) [b_m__law_short, e1, e3, e6, e7, e8, pIn, inB, flatP, eqFl]
      · simp [k1, k5, k6, li, lj, t8, t15, t16, t3]
    · refine ⟨.tup [.str "pad", .str z, .int i], [S "pad", z, num i], d3, ?_, .inr (.inr (.inr (.inr (.inr (.inr (.inr (.inr (.inr ⟨"pad", z, i, .inl rfl, hi, nms1 lz.2, rfl, rfl⟩)))))))), ?_, by simp⟩
      · simp (decide := true) [b_m__law_short, e1, e3, pIn, inB, flatP, eqFl]
      · simp [k1, li, t9]
    · refine ⟨.tup [.str "free", .str z, .int i], [S "free", z, num i], d3, ?_, .inr (.inr (.inr (.inr (.inr (.inr (.inr (.inr (.inr ⟨"free", z, i, .inr rfl, hi, nms1 lz.2, rfl, rfl⟩)))))))), ?_, by simp⟩
      · simp (decide := true) [b_m__law_short, e1, e3, pIn, inB, flatP, eqFl]
      · simp [k1, li, t10]
    · refine ⟨.tup [.str "rest", .str z], [S "rest", z], d1, ?_, .inr (.inl ⟨z, nms1 lz.2, rfl, rfl⟩), ?_, by simp⟩
      · simp (decide := true) [b_m__law_short, e1, pIn, inB, flatP, eqFl]
      · simp [k1, t11]
    · refine ⟨.tup [.str "inner", .str z, .str y], [S "inner", z, S "of", y], d2, ?_, .inr (.inr (.inl ⟨z, y, nms2 lz.2 ly.2, rfl, rfl⟩)), ?_, by simp⟩
      · simp (decide := true) [b_m__law_short, e1, e2, pIn, inB, flatP, eqFl]
      · simp [k1, k2, t12, t13]
end PVL

/-! G7: items, holders, insides. -/
namespace PVL
open PySem PySem.Spec L2
def hold1 : List Str := ["part", "maybe", "many", "grow", "since", "nest"]
def Kd (k : Str) (room : Int) : Prop := k ∈ kinds0 ∨ (k ∈ hold1 ∧ 0 < room) ∨ (k = "pick" ∧ 1 < room)
theorem kd_kinds (room : Int) (k : Str) (h : k ∈ kindsL room) : Kd k room := by
  unfold kindsL at h
  have hs : ∀ k ∈ kinds1, k ∈ kinds0 ∨ k ∈ hold1 := by decide +kernel
  have hs2 : ∀ k ∈ kinds2, k ∈ kinds0 ∨ k ∈ hold1 ∨ k = "pick" := by decide +kernel
  split at h
  · rcases hs2 k h with h | h | h
    · exact .inl h
    · exact .inr (.inl ⟨h, by omega⟩)
    · exact .inr (.inr ⟨h, by omega⟩)
  · split at h
    · rcases hs k h with h | h
      · exact .inl h
      · exact .inr (.inl ⟨h, by omega⟩)
    · exact .inl h
theorem kindsL_n (room : Int) : 0 < (kindsL room).length ∧ (kindsL room).length < 1000 := by
  unfold kindsL
  split
  · decide
  · split <;> decide
def bInsL (r__law_item : FM) : SM := sIf (bE (eN (rOp pGe (rOp pIx (rVar 2) (rC (.int 0))) (rC (.int 16))))) (sExpr (eMeth "list" 3 pAppend (aCons (gOwn (eCall r__law_item (aCons (gRef 0) (aCons (gOwn (eCall m__law_pick (aCons (gRef 0) (aCons (gOwn (eCall m__law_kinds (aCons (gRef 1) (aNil)))) (aNil))))) (aCons (gRef 1) (aCons (gRef 2) (aNil))))))) (aNil)))) (sNil)
theorem inside_is (a b c : FM) : b_m__law_inside a b c = (sSeq (sAsg (eLst (aNil)) (tgN 3)) (sSeq (sFor (itR1 (aCons (gOwn (eCall m__law_draw (aCons (gRef 0) (aCons (gOwn (eC (.int 4))) (aNil))))) (aNil))) (tgN 4) (bInsL a)) (sRet (eN (rCl pTuple (raCons (rVar 3) (raNil))))))) := rfl
def bHolL (r__law_inside : FM) : SM := sSeq (sAsg (eCall m__law_name (aCons (gRef 0) (aNil))) (tgN 8)) (sExpr (eMeth "list" 5 pAppend (aCons (gOwn (eTup (aCons (gOwn (eVar 8)) (aCons (gOwn (eCall r__law_inside (aCons (gRef 0) (aCons (gOwn (eN (rOp pSub (rVar 2) (rC (.int 2))))) (aCons (gRef 3) (aNil)))))) (aNil))))) (aNil))))
theorem holder2_is (a b c : FM) : b_m__law_holder a b c = (sSeq (sIf (bE (eN (rOp pEq (rVar 1) (rC (.str "since"))))) (sRet (eTup (aCons (gOwn (eVar 1)) (aCons (gOwn (eCall m__law_figure (aCons (gRef 0) (aNil)))) (aCons (gOwn (eCall c (aCons (gRef 0) (aCons (gOwn (eN (rOp pSub (rVar 2) (rC (.int 1))))) (aCons (gRef 3) (aNil)))))) (aNil)))))) (sNil)) (sSeq (sAsg (eCall m__law_name (aCons (gRef 0) (aNil))) (tgN 4)) (sSeq (sIf (bE (eN (rOp pEq (rVar 1) (rC (.str "pick"))))) (sSeq (sAsg (eLst (aNil)) (tgN 5)) (sSeq (sFor (itR1 (aCons (gOwn (eOp pAdd (gOwn (eC (.int 1))) (gOwn (eCall m__law_draw (aCons (gRef 0) (aCons (gOwn (eC (.int 3))) (aNil))))))) (aNil))) (tgN 6) (bHolL c)) (sRet (eTup (aCons (gOwn (eVar 1)) (aCons (gOwn (eVar 4)) (aCons (gOwn (eN (rCl pTuple (raCons (rVar 5) (raNil))))) (aNil)))))))) (sNil)) (sSeq (sIf (bE (eOp pIn (gRef 1) (gOwn (eTup (aCons (gOwn (eC (.str "grow"))) (aCons (gOwn (eC (.str "nest"))) (aNil))))))) (sSeq (sAsg (eCall m__law_figure (aCons (gRef 0) (aNil))) (tgN 7)) (sRet (eTup (aCons (gOwn (eVar 1)) (aCons (gOwn (eVar 4)) (aCons (gOwn (eVar 7)) (aCons (gOwn (eCall c (aCons (gRef 0) (aCons (gOwn (eN (rOp pSub (rVar 2) (rC (.int 1))))) (aCons (gRef 3) (aNil)))))) (aNil)))))))) (sNil)) (sRet (eTup (aCons (gOwn (eVar 1)) (aCons (gOwn (eVar 4)) (aCons (gOwn (eCall c (aCons (gRef 0) (aCons (gOwn (eN (rOp pSub (rVar 2) (rC (.int 1))))) (aCons (gRef 3) (aNil)))))) (aNil)))))))))) := rfl
/-- what is asked of an item's drawing -/
def ItemG (f : FM) (R : PV → List Str → Prop) (room : Int) : Prop := ∀ (d : Dr) (k : Str) (L : Int), Kd k room → 16 ≤ L → L ≤ 5000 → ∃ (x : PV) (ts : List Str) (d' : Dr) (L' : Int),
  f [d.pv, .str k, .int room, .lst [.int L]] = .ok x [some d'.pv, some (.str k), some (.int room), some (.lst [.int L'])] ∧ R x ts ∧ (∀ t ∈ ts, t.length ≤ 30) ∧ 0 ≤ L' ∧ (ts.length : Int) ≤ L - L'
def InsG (f : FM) (R : PV → List Str → Prop) (room : Int) : Prop := ∀ (d : Dr) (L : Int), 0 ≤ L → L ≤ 5000 → ∃ (items : List PV) (bs : List Str) (d' : Dr) (L' : Int),
  f [d.pv, .int room, .lst [.int L]] = .ok (.tup items) [some d'.pv, some (.int room), some (.lst [.int L'])] ∧ immL items = true ∧ TkB R items bs ∧ (∀ t ∈ bs, t.length ≤ 30) ∧ 0 ≤ L' ∧ (bs.length : Int) ≤ L - L' + 2
theorem insL (f : FM) (R : PV → List Str → Prop) (im : ∀ x ts, R x ts → x.imm = true) (room : Int) (hf : ItemG f R room) : ∀ (l : List PV) (d : Dr) (L : Int) (acc : List PV) (y4 : Option PV), acc.length + l.length ≤ 1000 → 0 ≤ L → L ≤ 5000 →
    ∃ (items : List PV) (tss : List (List Str)) (d' : Dr) (L' : Int) (y4' : Option PV), forL (tgN 4) (bInsL f) l [some d.pv, some (.int room), some (.lst [.int L]), some (.lst acc), y4] = .next [some d'.pv, some (.int room), some (.lst [.int L']), some (.lst (acc ++ items)), y4'] ∧
      All2 R items tss ∧ (∀ t ∈ tss.flatten, t.length ≤ 30) ∧ 0 ≤ L' ∧ (tss.flatten.length : Int) ≤ L - L' := by
  intro l
  induction l with
  | nil => intro d L acc y4 _ h0 h1; exact ⟨[], [], d, L, y4, by simp, .nil, by simp, h0, by simp⟩
  | cons v l ih =>
    intro d L acc y4 hl h0 h1
    simp only [List.length_cons] at hl
    have hz : acc.length < 1000000 := by omega
    rw [forL_at (e := [some d.pv, some (.int room), some (.lst [.int L]), some (.lst acc), some v]) rfl]
    by_cases hL : 16 ≤ L
    · obtain ⟨k, d1, hk, e1⟩ := pick_str d (kindsL room) (kindsL_n room).1 (kindsL_n room).2
      obtain ⟨x, ts, d2, L2, e2, hx, hs, hp, hq⟩ := hf d1 k L (kd_kinds room k hk) hL h1
      have hxi := im x ts hx
      obtain ⟨items, tss, d3, L3, y4', e3, ha, hs3, hp3, hq3⟩ := ih d2 L2 (acc ++ [x]) (some v) (by rw [List.length_append]; simp only [List.length_cons, List.length_nil]; omega) hp (by omega)
      refine ⟨x :: items, ts :: tss, d3, L3, y4', ?_, .cons hx ha, ?_, hp3, ?_⟩
      · have e4 : bInsL f [some d.pv, some (.int room), some (.lst [.int L]), some (.lst acc), some v] = .next [some d2.pv, some (.int room), some (.lst [.int L2]), some (.lst (acc ++ [x])), some v] := by
          simp [bInsL, kinds_ok, e1, e2, hL, hxi, hz]
        rw [e4, loopK_next, e3, List.append_assoc]
        rfl
      · intro t ht
        rw [List.flatten_cons, List.mem_append] at ht
        rcases ht with h | h
        · exact hs t h
        · exact hs3 t h
      · rw [List.flatten_cons, List.length_append]; omega
    · obtain ⟨items, tss, d3, L3, y4', e3, ha, hs3, hp3, hq3⟩ := ih d L acc (some v) (by omega) h0 h1
      refine ⟨items, tss, d3, L3, y4', ?_, ha, hs3, hp3, hq3⟩
      have e4 : bInsL f [some d.pv, some (.int room), some (.lst [.int L]), some (.lst acc), some v] = .next [some d.pv, some (.int room), some (.lst [.int L]), some (.lst acc), some v] := by
        simp [bInsL, hL]
      rw [e4, loopK_next, e3]
theorem all2_imm {R : PV → List Str → Prop} (im : ∀ x ts, R x ts → x.imm = true) {items : List PV} {tss : List (List Str)} (h : All2 R items tss) : immL items = true := by
  induction h with
  | nil => rfl
  | cons h r ih => simp [im _ _ h, ih]
theorem inside_gen (n : Nat) (R : PV → List Str → Prop) (im : ∀ x ts, R x ts → x.imm = true) (room : Int) (hf : ItemG (m__law_item n) R room) : InsG (m__law_inside (n + 1)) R room := by
  intro d L h0 h1
  obtain ⟨c, d1, e1, c0, c1⟩ := draw_c d 4 (by decide) (by decide)
  have hr : rngOk c := rngOk_of (by omega) (by omega)
  have hl : (rngL 0 c.toNat).length < 4 := by rw [ints_len]; omega
  obtain ⟨items, tss, d2, L', y4, e2, ha, hs, hp, hq⟩ := insL (m__law_item n) R im room hf (rngL 0 c.toNat) d1 L [] none (by simp only [List.length_nil]; omega) h0 h1
  have hi := all2_imm im ha
  refine ⟨items, S "{" :: (tss.flatten ++ [S "}"]), d2, L', ?_, hi, ⟨tss, ha, rfl⟩, ?_, hp, ?_⟩
  · show fnM 3 5 [] (b_m__law_inside (m__law_item n) (m__law_holder n) (m__law_inside n)) _ = _
    rw [fnM_at rfl, inside_is]
    simp [e1, hr, e2, hi]
  · intro t ht
    have q : (S "{").length ≤ 30 ∧ (S "}").length ≤ 30 := by decide +kernel
    simp only [List.mem_cons, List.mem_append, List.not_mem_nil, or_false] at ht
    rcases ht with rfl | h | rfl
    · exact q.1
    · exact hs t h
    · exact q.2
  · simp only [List.length_cons, List.length_append, List.length_nil]; omega
theorem TkB_len {R : PV → List Str → Prop} {items : List PV} {bs : List Str} (h : TkB R items bs) : 2 ≤ bs.length := by
  obtain ⟨tss, _, rfl⟩ := h
  simp only [List.length_cons, List.length_append, List.length_nil]; omega
theorem holL (g : FM) (R : PV → List Str → Prop) (room : Int) (hg : InsG g R (room - 2)) (y1 y4 y7 : Option PV) : ∀ (l : List PV) (d : Dr) (L : Int) (acc : List PV) (y6 y8 : Option PV), acc.length + l.length ≤ 1000 → 0 ≤ L → L ≤ 5000 →
    ∃ (cs : List (Str × List PV × List Str)) (d' : Dr) (L' : Int) (y6' y8' : Option PV), forL (tgN 6) (bHolL g) l [some d.pv, y1, some (.int room), some (.lst [.int L]), y4, some (.lst acc), y6, y7, y8] = .next [some d'.pv, y1, some (.int room), some (.lst [.int L']), y4, some (.lst (acc ++ cs.map fun c => .tup [.str c.1, .tup c.2.1])), y6', y7, y8'] ∧
      (∀ c ∈ cs, immL c.2.1 = true ∧ TkB R c.2.1 c.2.2) ∧ (∀ t ∈ (cs.map fun c => caseT (c.1, c.2.2)).flatten, t.length ≤ 30) ∧ 0 ≤ L' ∧ ((cs.map fun c => caseT (c.1, c.2.2)).flatten.length : Int) ≤ L - L' + 4 * l.length ∧ (∀ c ∈ cs, Nm c.1) ∧ cs.length = l.length := by
  intro l
  induction l with
  | nil => intro d L acc y6 y8 _ h0 h1; exact ⟨[], d, L, y6, y8, by simp, by simp, by simp, h0, by simp, by simp, rfl⟩
  | cons v l ih =>
    intro d L acc y6 y8 hl h0 h1
    simp only [List.length_cons] at hl
    have hz : acc.length < 1000000 := by omega
    obtain ⟨z, d1, e1, lz⟩ := name_ok d
    obtain ⟨items, bs, d2, L2, e2, hi, hb, hs, hp, hq⟩ := hg d1 L h0 h1
    have h2 := TkB_len hb
    obtain ⟨cs, d3, L3, y6', y8', e3, hc, hs3, hp3, hq3, hnc, hcl⟩ := ih d2 L2 (acc ++ [.tup [.str z, .tup items]]) (some v) (some (.str z)) (by rw [List.length_append]; simp only [List.length_cons, List.length_nil]; omega) hp (by omega)
    refine ⟨(z, items, bs) :: cs, d3, L3, y6', y8', ?_, ?_, ?_, hp3, ?_, ?_, by rw [List.length_cons, List.length_cons, hcl]⟩
    · rw [forL_at (e := [some d.pv, y1, some (.int room), some (.lst [.int L]), y4, some (.lst acc), some v, y7, y8]) rfl]
      have e4 : bHolL g [some d.pv, y1, some (.int room), some (.lst [.int L]), y4, some (.lst acc), some v, y7, y8] = .next [some d2.pv, y1, some (.int room), some (.lst [.int L2]), y4, some (.lst (acc ++ [.tup [.str z, .tup items]])), some v, y7, some (.str z)] := by
        simp [bHolL, e1, e2, hi, hz]
      rw [e4, loopK_next, e3, List.append_assoc]
      rfl
    · intro c hcm
      rcases List.mem_cons.mp hcm with rfl | h
      · exact ⟨hi, hb⟩
      · exact hc c h
    · intro t ht
      have q : (S "case").length ≤ 30 := by decide +kernel
      simp only [List.map_cons, List.flatten_cons, caseT, List.mem_append, List.mem_cons] at ht
      rcases ht with (rfl | rfl | h) | h
      · exact q
      · omega
      · exact hs t h
      · exact hs3 t h
    · simp only [List.map_cons, List.flatten_cons, caseT, List.length_append, List.length_cons] at hq3 ⊢
      omega
    · intro c hcm
      rcases List.mem_cons.mp hcm with rfl | h
      · exact lz.2
      · exact hnc c h
theorem holder_gen (n r : Nat) (room : Int) (hrr : room ≤ r) (h1 : 0 < room → InsG (m__law_inside n) (Tk r) (room - 1)) (h2 : 1 < room → InsG (m__law_inside n) (Tk (r - 1)) (room - 2)) (d : Dr) (k : Str) (L : Int) (hk : (k ∈ hold1 ∧ 0 < room) ∨ (k = "pick" ∧ 1 < room)) (l0 : 0 ≤ L) (l1 : L ≤ 5000) :
    ∃ (x : PV) (ts : List Str) (d' : Dr) (L' : Int), m__law_holder (n + 1) [d.pv, .str k, .int room, .lst [.int L]] = .ok x [some d'.pv, some (.str k), some (.int room), some (.lst [.int L'])] ∧ Tk (r + 1) x ts ∧ (∀ t ∈ ts, t.length ≤ 30) ∧ 0 ≤ L' ∧ (ts.length : Int) ≤ L - L' + 16 := by
  have un : ∀ a, m__law_holder (n + 1) a = fnM 4 9 [] (b_m__law_holder (m__law_item n) (m__law_holder n) (m__law_inside n)) a := fun a => rfl
  have s1 : (S "since").length ≤ 30 ∧ (S "grow").length ≤ 30 ∧ (S "nest").length ≤ 30 ∧ (S "part").length ≤ 30 ∧ (S "maybe").length ≤ 30 ∧ (S "many").length ≤ 30 ∧ (S "pick").length ≤ 30 ∧ (S "{").length ≤ 30 ∧ (S "}").length ≤ 30 := by decide +kernel
  obtain ⟨t1, t2, t3, t4, t5, t6, t7, t8, t9⟩ := s1
  obtain ⟨z, d1, e1, lz⟩ := name_ok d
  have lz' : z.length ≤ 30 := by omega
  rcases hk with ⟨hk, hr⟩ | ⟨rfl, hr⟩
  · obtain ⟨i, d2, e2, hi⟩ := fig_ok d
    have li := num_len hi
    simp only [hold1, List.mem_cons, List.not_mem_nil, or_false] at hk
    by_cases hks : k = "since"
    · subst hks
      obtain ⟨items, bs, d3, L', e3, him, hb, hs, hp, hq⟩ := h1 hr d2 L l0 l1
      refine ⟨.tup [.str "since", .int i, .tup items], S "since" :: num i :: bs, d3, L', ?_, by rw [Tk_succ]; exact .inr (.inl ⟨by omega, i, items, bs, hi, him, hb, rfl, rfl⟩), ?_, hp, ?_⟩
      · rw [un, fnM_at rfl, holder2_is]
        simp [e2, e3, him]
      · intro t ht
        simp only [List.mem_cons] at ht
        rcases ht with rfl | rfl | h
        · exact t1
        · exact li
        · exact hs t h
      · simp only [List.length_cons]; omega
    · by_cases hkg : k = "grow" ∨ k = "nest"
      · obtain ⟨j, d3, e3, hj⟩ := fig_ok d1
        have lj := num_len hj
        obtain ⟨items, bs, d4, L', e4, him, hb, hs, hp, hq⟩ := h1 hr d3 L l0 l1
        refine ⟨.tup [.str k, .str z, .int j, .tup items], k :: z :: num j :: bs, d4, L', ?_, by rw [Tk_succ]; exact .inr (.inr (.inr (.inl ⟨by omega, k, z, j, items, bs, hkg, hj, him, hb, nms1 lz.2, rfl, rfl⟩))), ?_, hp, ?_⟩
        · rw [un, fnM_at rfl, holder2_is]
          rcases hkg with rfl | rfl <;> simp (decide := true) [e1, e3, e4, him, pIn, inB, flatP, eqFl]
        · intro t ht
          simp only [List.mem_cons] at ht
          rcases ht with rfl | rfl | rfl | h
          · rcases hkg with rfl | rfl
            · exact t2
            · exact t3
          · exact lz'
          · exact lj
          · exact hs t h
        · simp only [List.length_cons]; omega
      · have hk3 : k = "part" ∨ k = "maybe" ∨ k = "many" := by
          rcases hk with h | h | h | h | h | h
          · exact .inl h
          · exact .inr (.inl h)
          · exact .inr (.inr h)
          · exact absurd (.inl h) hkg
          · exact absurd h hks
          · exact absurd (.inr h) hkg
        obtain ⟨items, bs, d4, L', e4, him, hb, hs, hp, hq⟩ := h1 hr d1 L l0 l1
        refine ⟨.tup [.str k, .str z, .tup items], k :: z :: bs, d4, L', ?_, by rw [Tk_succ]; exact .inr (.inr (.inr (.inr ⟨by omega, k, z, items, bs, hk3, him, hb, nms1 lz.2, rfl, rfl⟩))), ?_, hp, ?_⟩
        · rw [un, fnM_at rfl, holder2_is]
          rcases hk3 with rfl | rfl | rfl <;> simp (decide := true) [e1, e4, him, pIn, inB, flatP, eqFl]
        · intro t ht
          simp only [List.mem_cons] at ht
          rcases ht with rfl | rfl | h
          · rcases hk3 with rfl | rfl | rfl
            · exact t4
            · exact t5
            · exact t6
          · exact lz'
          · exact hs t h
        · simp only [List.length_cons]; omega
  · obtain ⟨c, d2, e2, c0, c1⟩ := draw_c d1 3 (by decide) (by decide)
    have hrg : rngOk (1 + c) := rngOk_of (by omega) (by omega)
    have hl : (rngL 0 (1 + c).toNat).length ≤ 3 := by rw [ints_len]; omega
    obtain ⟨cs, d3, L', y6, y8, e3, hc, hs, hp, hq, hnc, hcl⟩ := holL (m__law_inside n) (Tk (r - 1)) room (h2 hr) (some (.str "pick")) (some (.str z)) none (rngL 0 (1 + c).toNat) d2 L [] none none (by simp only [List.length_nil]; omega) l0 l1
    have hi := imm_cases hc
    refine ⟨.tup [.str "pick", .str z, .tup (cs.map fun c => .tup [.str c.1, .tup c.2.1])], S "pick" :: z :: S "{" :: ((cs.map fun c => caseT (c.1, c.2.2)).flatten ++ [S "}"]), d3, L', ?_, by rw [Tk_succ]; exact .inr (.inr (.inl ⟨by omega, z, cs, hc, ⟨by rw [hcl, ints_len]; omega, nmsP lz.2 hnc⟩, rfl, rfl⟩)), ?_, hp, ?_⟩
    · generalize (cs.map fun c => PV.tup [.str c.1, .tup c.2.1]) = C at *
      rw [un, fnM_at rfl, holder2_is]
      simp (decide := true) [e1, e2, hrg, e3, hi, pIn, inB, flatP, eqFl]
    · intro t ht
      simp only [List.mem_cons, List.mem_append, List.not_mem_nil, or_false] at ht
      rcases ht with rfl | rfl | rfl | h | rfl
      · exact t7
      · exact lz'
      · exact t8
      · exact hs t h
      · exact t9
    · simp only [List.length_cons, List.length_append, List.length_nil] at hq ⊢
      omega
end PVL

/-! G8: items, trees. -/
namespace PVL
open PySem PySem.Spec L2
theorem in_hold2 {k : Str} (h : k ∈ hold1 ∨ k = "pick") : pIn (.str k) (.tup [.str "part", .str "maybe", .str "many", .str "grow", .str "since", .str "nest", .str "pick"]) = some (.bl true) := by
  simp only [hold1, List.mem_cons, List.not_mem_nil, or_false] at h
  rcases h with (rfl | rfl | rfl | rfl | rfl | rfl) | rfl <;> simp (decide := true) [pIn, inB, flatP, eqFl]
theorem in_short2 {k : Str} (h : k ∈ kinds0) : pIn (.str k) (.tup [.str "part", .str "maybe", .str "many", .str "grow", .str "since", .str "nest", .str "pick"]) = some (.bl false) := by
  simp only [kinds0, List.mem_cons, List.not_mem_nil, or_false] at h
  rcases h with rfl | rfl | rfl | rfl | rfl | rfl | rfl | rfl | rfl | rfl | rfl <;> simp (decide := true) [pIn, inB, flatP, eqFl]
theorem item_gen : ∀ (r : Nat) (room : Int), room ≤ r → ∀ n, 3 * r + 1 ≤ n → ItemG (m__law_item n) (Tk (r + 1)) room := by
  intro r
  induction r using Nat.strongRecOn with
  | _ r ih =>
  cases r with
  | zero =>
    intro room hr n hn d k L hk hL hL2
    obtain ⟨m, rfl⟩ : ∃ m, n = m + 1 := ⟨n - 1, by omega⟩
    have hk0 : k ∈ kinds0 := by
      rcases hk with h | ⟨_, h⟩ | ⟨_, h⟩
      · exact h
      · omega
      · omega
    obtain ⟨x, ts, d', e, hx, hs, hl⟩ := short_gen d k hk0
    refine ⟨x, ts ++ [S ";"], d', L - 16, ?_, by rw [Tk_succ]; exact .inl ⟨ts, hx, rfl⟩, ?_, by omega, ?_⟩
    · show fnM 4 4 [] (b_m__law_item (m__law_item m) (m__law_holder m) (m__law_inside m)) _ = _
      rw [fnM_at rfl]
      simp [b_m__law_item, in_short2 hk0, e, Sh_imm hx]
    · intro t ht
      rcases List.mem_append.mp ht with h | h
      · exact hs t h
      · rw [List.mem_singleton] at h; subst h; decide +kernel
    · rw [List.length_append]; simp only [List.length_cons, List.length_nil]; omega
  | succ r =>
    intro room hr n hn d k L hk hL hL2
    obtain ⟨m, rfl⟩ : ∃ m, n = m + 1 + 1 + 1 := ⟨n - 3, by omega⟩
    by_cases hk0 : k ∈ kinds0
    · obtain ⟨x, ts, d', e, hx, hs, hl⟩ := short_gen d k hk0
      refine ⟨x, ts ++ [S ";"], d', L - 16, ?_, by rw [Tk_succ]; exact .inl ⟨ts, hx, rfl⟩, ?_, by omega, ?_⟩
      · show fnM 4 4 [] (b_m__law_item (m__law_item (m + 1 + 1)) (m__law_holder (m + 1 + 1)) (m__law_inside (m + 1 + 1))) _ = _
        rw [fnM_at rfl]
        simp [b_m__law_item, in_short2 hk0, e, Sh_imm hx]
      · intro t ht
        rcases List.mem_append.mp ht with h | h
        · exact hs t h
        · rw [List.mem_singleton] at h; subst h; decide +kernel
      · rw [List.length_append]; simp only [List.length_cons, List.length_nil]; omega
    · have hk1 : (k ∈ hold1 ∧ 0 < room) ∨ (k = "pick" ∧ 1 < room) := by
        rcases hk with h | h | h
        · exact absurd h hk0
        · exact .inl h
        · exact .inr h
      have hk2 : k ∈ hold1 ∨ k = "pick" := by
        rcases hk1 with h | h
        · exact .inl h.1
        · exact .inr h.1
      have im : ∀ x ts, Tk (r + 1) x ts → x.imm = true := fun _ _ h => Tk_imm h
      obtain ⟨x, ts, d', L', e, hx, hs, hp, hq⟩ := holder_gen (m + 1) (r + 1) room (by omega) (fun h => inside_gen m (Tk (r + 1)) im (room - 1) (ih r (by omega) (room - 1) (by omega) m (by omega))) (fun h => by
        have hr1 : r - 1 + 1 = r := by omega
        have ih2 := ih (r - 1) (by omega) (room - 2) (by omega) m (by omega)
        rw [hr1] at ih2
        exact inside_gen m (Tk r) (fun _ _ h => Tk_imm h) (room - 2) ih2) d k (L - 16) hk1 (by omega) (by omega)
      refine ⟨x, ts, d', L', ?_, hx, hs, hp, by omega⟩
      show fnM 4 4 [] (b_m__law_item (m__law_item (m + 1 + 1)) (m__law_holder (m + 1 + 1)) (m__law_inside (m + 1 + 1))) _ = _
      rw [fnM_at rfl]
      simp [b_m__law_item, in_hold2 hk2, e, Tk_imm hx]
end PVL

/-! G9: whole trees. -/
namespace PVL
open PySem PySem.Spec L2
def bTrL : SM := sIf (bE (eN (rOp pGe (rOp pIx (rVar 2) (rC (.int 0))) (rC (.int 16))))) (sExpr (eMeth "list" 5 pAppend (aCons (gOwn (eCall (m__law_item 40) (aCons (gRef 0) (aCons (gRef 6) (aCons (gRef 3) (aCons (gRef 2) (aNil))))))) (aNil)))) (sNil)
theorem any_is : b_m__law_any_tree = (sSeq (sAsg (eLst (aCons (gOwn (eVar 1)) (aNil))) (tgN 2)) (sSeq (sAsg (eCall m__law_pick (aCons (gRef 0) (aCons (gOwn (eLst (aCons (gOwn (eC (.int 2))) (aCons (gOwn (eC (.int 4))) (aCons (gOwn (eC (.int 11))) (aCons (gOwn (eC (.int 3))) (aNil))))))) (aNil)))) (tgN 3)) (sSeq (sAsg (eCall m__law_kinds (aCons (gOwn (eC (.int 2))) (aNil))) (tgN 4)) (sSeq (sIf (bE (eOp pEq (gOwn (eCall m__law_draw (aCons (gRef 0) (aCons (gOwn (eC (.int 2))) (aNil))))) (gOwn (eC (.int 0))))) (sAsg (eLC (itR1 (aCons (gOwn (eN (rCl pLen (raCons (rVar 4) (raNil))))) (aNil))) [8] (tgN 8) (bYes) (eCall m__law_pop (aCons (gRef 0) (aCons (gRef 4) (aNil))))) (tgN 4)) (sAsg (eLC (itR1 (aCons (gOwn (eCall m__law_draw (aCons (gRef 0) (aCons (gOwn (eC (.int 8))) (aNil))))) (aNil))) [8] (tgN 8) (bYes) (eCall m__law_pick (aCons (gRef 0) (aCons (gRef 4) (aNil))))) (tgN 4))) (sSeq (sAsg (eLst (aNil)) (tgN 5)) (sSeq (sForVS 4 (tgN 6) bTrL) (sSeq (sAsg (eC (.int 1)) (tgN 7)) (sSeq (sIf (bE (eOp pEq (gOwn (eCall m__law_draw (aCons (gRef 0) (aCons (gOwn (eC (.int 2))) (aNil))))) (gOwn (eC (.int 0))))) (sAsg (eCall m__law_figure (aCons (gRef 0) (aNil))) (tgN 7)) (sNil)) (sRet (eTup (aCons (gOwn (eC (.str "format"))) (aCons (gOwn (eCall m__law_name (aCons (gRef 0) (aNil)))) (aCons (gOwn (eCall m__law_figure (aCons (gRef 0) (aNil)))) (aCons (gOwn (eVar 7)) (aCons (gOwn (eN (rCl pTuple (raCons (rVar 5) (raNil))))) (aNil)))))))))))))))) := rfl
theorem popLC (y1 y2 y3 y5 y6 y7 : Option PV) : ∀ (l : List PV) (d : Dr) (ks : List Str) (acc : List PV), acc.length + l.length ≤ 1000 → l.length ≤ ks.length → ks.length ≤ 1000 → (∀ k ∈ ks, k ∈ kinds2) → ∃ (out ks' : List Str) (d' : Dr),
    lcL [8] (tgN 8) bYes (eCall m__law_pop (aCons (gRef 0) (aCons (gRef 4) aNil))) l acc [some d.pv, y1, y2, y3, some (.lst (ks.map .str)), y5, y6, y7, none] = .ok (.lst (acc ++ out.map .str)) [some d'.pv, y1, y2, y3, some (.lst (ks'.map .str)), y5, y6, y7, none] ∧ (∀ k ∈ out, k ∈ kinds2) ∧ out.length = l.length := by
  intro l
  induction l with
  | nil => intro d ks acc _ _ _ _; exact ⟨[], ks, d, by simp, by simp, rfl⟩
  | cons x l ih =>
    intro d ks acc hl h0 h1 hk
    simp only [List.length_cons] at hl h0
    obtain ⟨i, hi, d1, e1⟩ := pop_ok d (ks.map .str) (by rw [List.length_map]; omega) (by rw [List.length_map]; omega) (strs_map ks)
    have hi2 : i < ks.length := by rw [List.length_map] at hi; exact hi
    have e1' : m__law_pop [d.pv, .lst (ks.map .str)] = .ok (.str ks[i]) [some d1.pv, some (.lst ((ks.eraseIdx i).map .str))] := by
      rw [e1, List.getElem_map]; simp [List.eraseIdx_eq_take_drop_succ, List.map_take, List.map_drop]
    obtain ⟨out, ks', d2, e2, ho, lo⟩ := ih d1 (ks.eraseIdx i) (acc ++ [.str ks[i]]) (by rw [List.length_append]; simp only [List.length_cons, List.length_nil]; omega) (by rw [List.length_eraseIdx_of_lt hi2]; omega) (by rw [List.length_eraseIdx_of_lt hi2]; omega) (fun k h => hk k (List.mem_of_mem_eraseIdx h))
    refine ⟨ks[i] :: out, ks', d2, ?_, ?_, by rw [List.length_cons, List.length_cons, lo]⟩
    · have hz : acc.length < sizeLine := by rw [sizeLine_eq]; omega
      rw [lcL_cons]
      simp [e1', hz, envWipe] at e2 ⊢
      exact e2
    · intro k hk2
      rcases List.mem_cons.mp hk2 with rfl | h
      · exact hk _ (List.getElem_mem hi2)
      · exact ho k h
theorem pickLC (y1 y2 y3 y5 y6 y7 : Option PV) (ks : List Str) (h0 : 0 < ks.length) (h1 : ks.length < 1000) : ∀ (l : List PV) (d : Dr) (acc : List PV), acc.length + l.length ≤ 1000 → ∃ (out : List Str) (d' : Dr),
    lcL [8] (tgN 8) bYes (eCall m__law_pick (aCons (gRef 0) (aCons (gRef 4) aNil))) l acc [some d.pv, y1, y2, y3, some (.lst (ks.map .str)), y5, y6, y7, none] = .ok (.lst (acc ++ out.map .str)) [some d'.pv, y1, y2, y3, some (.lst (ks.map .str)), y5, y6, y7, none] ∧ (∀ k ∈ out, k ∈ ks) ∧ out.length = l.length := by
  intro l
  induction l with
  | nil => intro d acc _; exact ⟨[], d, by simp, by simp, rfl⟩
  | cons x l ih =>
    intro d acc hl
    simp only [List.length_cons] at hl
    obtain ⟨z, d1, hz2, e1⟩ := pick_str d ks h0 h1
    obtain ⟨out, d2, e2, ho, lo⟩ := ih d1 (acc ++ [.str z]) (by rw [List.length_append]; simp only [List.length_cons, List.length_nil]; omega)
    refine ⟨z :: out, d2, ?_, ?_, by rw [List.length_cons, List.length_cons, lo]⟩
    · have hz : acc.length < sizeLine := by rw [sizeLine_eq]; omega
      rw [lcL_cons]
      simp [e1, hz, envWipe] at e2 ⊢
      exact e2
    · intro k hk2
      rcases List.mem_cons.mp hk2 with rfl | h
      · exact hz2
      · exact ho k h
theorem treeL (R : PV → List Str → Prop) (im : ∀ x ts, R x ts → x.imm = true) (room : Int) (hf : ItemG (m__law_item 40) R room) (y1 y4 y7 y8 : Option PV) : ∀ (ks : List Str) (d : Dr) (L : Int) (acc : List PV) (y6 : Option PV), (∀ k ∈ ks, Kd k room) → acc.length + ks.length ≤ 1000 → 0 ≤ L → L ≤ 5000 →
    ∃ (items : List PV) (tss : List (List Str)) (d' : Dr) (L' : Int) (y6' : Option PV), forL (tgN 6) bTrL (ks.map .str) [some d.pv, y1, some (.lst [.int L]), some (.int room), y4, some (.lst acc), y6, y7, y8] = .next [some d'.pv, y1, some (.lst [.int L']), some (.int room), y4, some (.lst (acc ++ items)), y6', y7, y8] ∧
      All2 R items tss ∧ (∀ t ∈ tss.flatten, t.length ≤ 30) ∧ 0 ≤ L' ∧ (tss.flatten.length : Int) ≤ L - L' := by
  intro ks
  induction ks with
  | nil => intro d L acc y6 _ _ h0 h1; exact ⟨[], [], d, L, y6, by simp, .nil, by simp, h0, by simp⟩
  | cons k ks ih =>
    intro d L acc y6 hk hl h0 h1
    simp only [List.length_cons] at hl
    have hz : acc.length < 1000000 := by omega
    have hk2 : ∀ k ∈ ks, Kd k room := fun z hz => hk z (List.mem_cons_of_mem _ hz)
    rw [List.map_cons, forL_at (e := [some d.pv, y1, some (.lst [.int L]), some (.int room), y4, some (.lst acc), some (.str k), y7, y8]) rfl]
    by_cases hL : 16 ≤ L
    · obtain ⟨x, ts, d2, L2, e2, hx, hs, hp, hq⟩ := hf d k L (hk k (List.mem_cons_self ..)) hL h1
      have hxi := im x ts hx
      obtain ⟨items, tss, d3, L3, y6', e3, ha, hs3, hp3, hq3⟩ := ih d2 L2 (acc ++ [x]) (some (.str k)) hk2 (by rw [List.length_append]; simp only [List.length_cons, List.length_nil]; omega) hp (by omega)
      refine ⟨x :: items, ts :: tss, d3, L3, y6', ?_, .cons hx ha, ?_, hp3, ?_⟩
      · have e4 : bTrL [some d.pv, y1, some (.lst [.int L]), some (.int room), y4, some (.lst acc), some (.str k), y7, y8] = .next [some d2.pv, y1, some (.lst [.int L2]), some (.int room), y4, some (.lst (acc ++ [x])), some (.str k), y7, y8] := by
          simp [bTrL, e2, hL, hxi, hz]
        rw [e4, loopK_next, e3, List.append_assoc]
        rfl
      · intro t ht
        rw [List.flatten_cons, List.mem_append] at ht
        rcases ht with h | h
        · exact hs t h
        · exact hs3 t h
      · rw [List.flatten_cons, List.length_append]; omega
    · obtain ⟨items, tss, d3, L3, y6', e3, ha, hs3, hp3, hq3⟩ := ih d L acc (some (.str k)) hk2 (by omega) h0 h1
      refine ⟨items, tss, d3, L3, y6', ?_, ha, hs3, hp3, hq3⟩
      have e4 : bTrL [some d.pv, y1, some (.lst [.int L]), some (.int room), y4, some (.lst acc), some (.str k), y7, y8] = .next [some d.pv, y1, some (.lst [.int L]), some (.int room), y4, some (.lst acc), some (.str k), y7, y8] := by
        simp [bTrL, hL]
      rw [e4, loopK_next, e3]
end PVL

/-! G10: whole trees, on. -/
namespace PVL
open PySem PySem.Spec L2
def bKindS : SM := sIf (bE (eOp pEq (gOwn (eCall m__law_draw (aCons (gRef 0) (aCons (gOwn (eC (.int 2))) (aNil))))) (gOwn (eC (.int 0))))) (sAsg (eLC (itR1 (aCons (gOwn (eN (rCl pLen (raCons (rVar 4) (raNil))))) (aNil))) [8] (tgN 8) (bYes) (eCall m__law_pop (aCons (gRef 0) (aCons (gRef 4) (aNil))))) (tgN 4)) (sAsg (eLC (itR1 (aCons (gOwn (eCall m__law_draw (aCons (gRef 0) (aCons (gOwn (eC (.int 8))) (aNil))))) (aNil))) [8] (tgN 8) (bYes) (eCall m__law_pick (aCons (gRef 0) (aCons (gRef 4) (aNil))))) (tgN 4))
def bVerS : SM := sIf (bE (eOp pEq (gOwn (eCall m__law_draw (aCons (gRef 0) (aCons (gOwn (eC (.int 2))) (aNil))))) (gOwn (eC (.int 0))))) (sAsg (eCall m__law_figure (aCons (gRef 0) (aNil))) (tgN 7)) (sNil)
theorem any_is2 : b_m__law_any_tree = (sSeq (sAsg (eLst (aCons (gOwn (eVar 1)) (aNil))) (tgN 2)) (sSeq (sAsg (eCall m__law_pick (aCons (gRef 0) (aCons (gOwn (eLst (aCons (gOwn (eC (.int 2))) (aCons (gOwn (eC (.int 4))) (aCons (gOwn (eC (.int 11))) (aCons (gOwn (eC (.int 3))) (aNil))))))) (aNil)))) (tgN 3)) (sSeq (sAsg (eCall m__law_kinds (aCons (gOwn (eC (.int 2))) (aNil))) (tgN 4)) (sSeq bKindS (sSeq (sAsg (eLst (aNil)) (tgN 5)) (sSeq (sForVS 4 (tgN 6) bTrL) (sSeq (sAsg (eC (.int 1)) (tgN 7)) (sSeq bVerS (sRet (eTup (aCons (gOwn (eC (.str "format"))) (aCons (gOwn (eCall m__law_name (aCons (gRef 0) (aNil)))) (aCons (gOwn (eCall m__law_figure (aCons (gRef 0) (aNil)))) (aCons (gOwn (eVar 7)) (aCons (gOwn (eN (rCl pTuple (raCons (rVar 5) (raNil))))) (aNil)))))))))))))))) := rfl
theorem kindS (d : Dr) (y1 y2 y3 : Option PV) : ∃ (out : List Str) (d' : Dr), bKindS [some d.pv, y1, y2, y3, some (.lst (kinds2.map .str)), none, none, none, none] = .next [some d'.pv, y1, y2, y3, some (.lst (out.map .str)), none, none, none, none] ∧ (∀ k ∈ out, k ∈ kinds2) ∧ out.length ≤ 20 := by
  obtain ⟨w, d1, e1, w0, w1⟩ := draw_c d 2 (by decide) (by decide)
  by_cases hw : w = 0
  · have l2 : kinds2.length = 18 := by decide
    have hr : rngOk 18 := rngOk_of (by omega) (by omega)
    have hl : (rngL 0 (18 : Int).toNat).length = 18 := by rw [ints_len]; rfl
    obtain ⟨out, ks', d2, e2, ho, lo⟩ := popLC y1 y2 y3 none none none (rngL 0 (18 : Int).toNat) d1 kinds2 [] (by simp only [List.length_nil]; omega) (by omega) (by omega) (fun k h => h)
    refine ⟨out, d2, ?_, ho, by omega⟩
    have hm := strs_map kinds2
    have hn : pLen [.lst (kinds2.map .str)] = some (.int 18) := by rw [pLen_l, List.length_map, l2]; rfl
    generalize kinds2.map PV.str = K at *
    have hG : (18 : Int).toNat = 18 := rfl
    rw [hG] at e2
    have hn' : (rCl pLen (raCons (rVar 4) raNil)) [some d1.pv, y1, y2, y3, some (.lst K), none, none, none, none] = some (.int 18) := by simpa using hn
    have hk : K.length = 18 := by
      rw [pLen_l] at hn
      have : (K.length : Int) = 18 := by simpa using hn
      omega
    have e2' : lcL [8] (tgN 8) bYes (eCall m__law_pop (aCons (gRef 0) (aCons (gRef 4) aNil))) (rngL 0 18) [] [some d1.pv, y1, y2, y3, some (.lst K), none, none, none, none] = .ok (.lst (out.map .str)) [some d2.pv, y1, y2, y3, some (.lst (ks'.map .str)), none, none, none, none] := by simpa using e2
    simp [bKindS, e1, hw, hk, hr, e2', envWipe, hm]
  · obtain ⟨c, d2, e2, c0, c1⟩ := draw_c d1 8 (by decide) (by decide)
    have hr : rngOk c := rngOk_of (by omega) (by omega)
    have hl : (rngL 0 c.toNat).length < 8 := by rw [ints_len]; omega
    obtain ⟨out, d3, e3, ho, lo⟩ := pickLC y1 y2 y3 none none none kinds2 (by decide) (by decide) (rngL 0 c.toNat) d2 [] (by simp only [List.length_nil]; omega)
    refine ⟨out, d3, ?_, ho, by omega⟩
    generalize kinds2.map PV.str = K at *
    simp [bKindS, e1, hw, e2, hr, e3, envWipe]
theorem verS (d : Dr) (y1 y2 y3 y4 y5 y6 y8 : Option PV) : ∃ (v : Int) (d' : Dr), bVerS [some d.pv, y1, y2, y3, y4, y5, y6, some (.int 1), y8] = .next [some d'.pv, y1, y2, y3, y4, y5, y6, some (.int v), y8] ∧ Fig v := by
  obtain ⟨w, d1, e1, w0, w1⟩ := draw_c d 2 (by decide) (by decide)
  by_cases hw : w = 0
  · obtain ⟨r, d2, e2, hr⟩ := fig_ok d1
    exact ⟨r, d2, by simp [bVerS, e1, hw, e2], hr⟩
  · exact ⟨1, d1, by simp [bVerS, e1, hw], by decide, by decide⟩
structure IsTree (nm : Str) (base ver : Int) (items : List PV) (bs : List Str) : Prop where
  b : Fig base
  v : Fig ver
  i : immL items = true
  t : TkB (Tk 12) items bs
  n : nm.length ≤ 30
  nn : Nm nm
  s : ∀ t ∈ bs, t.length ≤ 30
theorem kd_2 (room : Int) (h : 2 ≤ room) (k : Str) (hk : k ∈ kinds2) : Kd k room := by
  have : kindsL room = kinds2 := by unfold kindsL; rw [if_pos (by omega)]
  exact kd_kinds room k (by rw [this]; exact hk)
theorem any_tree_ok (d : Dr) (most : Int) (h0 : 0 ≤ most) (h1 : most ≤ 2000) : ∃ (nm : Str) (base ver : Int) (items : List PV) (bs : List Str) (d' : Dr), m__law_any_tree [d.pv, .int most] = .ok (treeV nm base ver items) [some d'.pv, some (.int most)] ∧ IsTree nm base ver items bs ∧ (bs.length : Int) ≤ most + 2 := by
  obtain ⟨v, d1, hv, e1⟩ := pick_mem d [.int 2, .int 4, .int 11, .int 3] (by decide) (by decide) rfl
  obtain ⟨room, rfl, r0, r1⟩ : ∃ n : Int, v = .int n ∧ 2 ≤ n ∧ n ≤ 11 := by
    simp only [List.mem_cons, List.not_mem_nil, or_false] at hv
    rcases hv with rfl | rfl | rfl | rfl <;> exact ⟨_, rfl, by decide, by decide⟩
  have e2 := kinds_ok 2
  have hk2 : kindsL 2 = kinds2 := rfl
  rw [hk2] at e2
  obtain ⟨ks, d3, e3, hks, lks⟩ := kindS d1 (some (.int most)) (some (.lst [.int most])) (some (.int room))
  have im : ∀ x ts, Tk 12 x ts → x.imm = true := fun _ _ h => Tk_imm h
  obtain ⟨items, tss, d4, L', y6, e4, ha, hs, hp, hq⟩ := treeL (Tk 12) im room (item_gen 11 room (by omega) 40 (by omega)) (some (.int most)) none none none ks d3 most [] none (fun k h => kd_2 room r0 k (hks k h)) (by simp only [List.length_nil]; omega) h0 (by omega)
  obtain ⟨ver, d5, e5, hver⟩ := verS d4 (some (.int most)) (some (.lst [.int L'])) (some (.int room)) (some (.lst (ks.map .str))) (some (.lst items)) y6 none
  obtain ⟨nm, d6, e6, ln⟩ := name_ok d5
  obtain ⟨base, d7, e7, hb⟩ := fig_ok d6
  have hi := all2_imm im ha
  refine ⟨nm, base, ver, items, S "{" :: (tss.flatten ++ [S "}"]), d7, ?_, ⟨hb, hver, hi, ⟨tss, ha, rfl⟩, by omega, ln.2, ?_⟩, ?_⟩
  · have hm := strs_map ks
    generalize kinds2.map PV.str = K at *
    generalize ks.map PV.str = K2 at *
    unfold m__law_any_tree
    rw [fnM_at rfl, any_is2]
    simp [e1, e2, e3, e4, e5, e6, e7, hm, hi, treeV]
  · intro t ht
    have q : (S "{").length ≤ 30 ∧ (S "}").length ≤ 30 := by decide +kernel
    simp only [List.mem_cons, List.mem_append, List.not_mem_nil, or_false] at ht
    rcases ht with rfl | h | rfl
    · exact q.1
    · exact hs t h
    · exact q.2
  · simp only [List.length_cons, List.length_append, List.length_nil]; omega
end PVL

/-! G11: filled trees. -/
namespace PVL
open PySem PySem.Spec L2
theorem num_len2 {i : Int} (h : Fig i) : (num i).length ≤ 20 := by
  have := PyProof.Rows.toString_length_le h.1 (k := 20) (by decide) (Int.lt_trans h.2 (by decide))
  exact this
theorem fig_nat {k : Nat} (h : k < 10000) : Fig (k : Int) := ⟨by omega, by omega⟩
open TL (numL tl_num numL_digits numL_free numL_ne)
theorem words_low : ∀ w ∈ wordsL, w.cps.toList.all (fun x => !chDig x) = true := by decide +kernel
theorem cps_num {k : Nat} (h : k < 10000) : (num (k : Int)).cps.toList = numL k := tl_num k
theorem nm_num (c : Str) (x : Nat) (hc : c.cps.toList = [x]) (hx : chLow x = true) {k : Nat} (h : k < 10000) : Nm (c ++ num (k : Int)) := by
  have e : (c ++ num (k : Int)).cps.toList = x :: numL k := by rw [cps_app, hc, cps_num h]; rfl
  have hd : ∀ y ∈ numL k, chDig y = true := by
    intro y hy
    have := numL_digits k
    have hz := numL_free (n := k) (s := y)
    unfold chDig
    by_cases q : y < 48 ∨ 57 < y
    · exact absurd hy (hz q)
    · simp only [Bool.and_eq_true, decide_eq_true_eq]; omega
  have hl : (numL k).length ≤ 4 := by
    have h1 : (num (k : Int)).length ≤ 4 := PyProof.Rows.toString_length_le (v := (k : Int)) (by omega) (k := 4) (by decide) (by omega)
    rw [← cps_num h]
    simpa [Str.length] using h1
  refine ⟨?_, fun hm => ?_⟩
  · unfold nmB
    rw [e]
    simp only [nmL, Bool.and_eq_true, decide_eq_true_eq, List.all_eq_true]
    exact ⟨hx, fun y hy => by unfold chAn; rw [hd y hy, Bool.or_true], by omega⟩
  · have hw := words_low _ hm
    rw [e, List.all_cons, Bool.and_eq_true, List.all_eq_true] at hw
    cases q : numL k with
    | nil => exact numL_ne k q
    | cons y r =>
      have hy : y ∈ numL k := by rw [q]; exact List.mem_cons_self
      have := hw.2 y hy
      rw [hd y hy] at this
      cases this
def mRest : EM := eTup (aCons (gOwn (eC (.str "rest"))) (aCons (gOwn (eN (rOp pAdd (rC (.str "r")) (rCl pStr (raCons (rVar 6) (raNil)))))) (aNil)))
def mCase : EM := eTup (aCons (gOwn (eN (rOp pAdd (rC (.str "c")) (rCl pStr (raCons (rVar 6) (raNil)))))) (aCons (gOwn (eTup (aNil))) (aNil)))
def mCell : EM := eN (rOp pMod (rCl pInt (raCons (rOp pAdd (rVar 4) (rOp pMul (rC (.int 37)) (rVar 6))) (raNil))) (rC (.int 10000)))
theorem filled_is : b_m__law_filled = (sSeq (sAsg (eOp pSub (gOwn (eC (.int 1998))) (gOwn (eCl pLen (aCons (gOwn (eCall m__law_all_tokens (aCons (gRef 1) (aNil)))) (aNil))))) (tgN 2)) (sSeq (sAsg (eCall m__law_draw (aCons (gRef 0) (aCons (gOwn (eC (.int 3))) (aNil)))) (tgN 3)) (sSeq (sAsg (eCall m__law_figure (aCons (gRef 0) (aNil))) (tgN 4)) (sSeq (sIf (bE (eN (rOp pEq (rVar 3) (rC (.int 0))))) (sAsg (eCl pTuple (aCons (gOwn (eLC (itR1 (aCons (gOwn (eN (rOp pDiv (rVar 2) (rC (.int 3))))) (aNil))) [6] (tgN 6) (bYes) mRest)) (aNil))) (tgN 5)) (sIf (bE (eN (rOp pEq (rVar 3) (rC (.int 1))))) (sAsg (eTup (aCons (gOwn (eTup (aCons (gOwn (eC (.str "pick"))) (aCons (gOwn (eCall m__law_name (aCons (gRef 0) (aNil)))) (aCons (gOwn (eCl pTuple (aCons (gOwn (eLC (itR1 (aCons (gOwn (eN (rOp pDiv (rOp pSub (rVar 2) (rC (.int 4))) (rC (.int 4))))) (aNil))) [6] (tgN 6) (bYes) mCase)) (aNil)))) (aNil)))))) (aNil))) (tgN 5)) (sAsg (eTup (aCons (gOwn (eTup (aCons (gOwn (eC (.str "mark"))) (aCons (gOwn (eCl pTuple (aCons (gOwn (eLC (itR1 (aCons (gOwn (eN (rOp pSub (rVar 2) (rC (.int 2))))) (aNil))) [6] (tgN 6) (bYes) mCell)) (aNil)))) (aNil))))) (aNil))) (tgN 5)))) (sRet (eOp pAdd (gOwn (eSl pSl (gRef 1) (oNone) (oSome (eC (.int 4))))) (gOwn (eTup (aCons (gOwn (eN (rOp pAdd (rOp pIx (rVar 1) (rC (.int 4))) (rVar 5)))) (aNil)))))))))) := rfl
theorem restLC (y0 y1 y2 y3 y4 y5 : Option PV) : ∀ (l acc : List PV), (∀ x ∈ l, ∃ k : Nat, k < 2000 ∧ x = .int k) → acc.length + l.length ≤ 5000 → ∃ (xs : List PV) (tss : List (List Str)),
    lcL [6] (tgN 6) bYes mRest l acc [y0, y1, y2, y3, y4, y5, none] = .ok (.lst (acc ++ xs)) [y0, y1, y2, y3, y4, y5, none] ∧ All2 (Tk 12) xs tss ∧ (∀ t ∈ tss.flatten, t.length ≤ 30) ∧ tss.flatten.length = 3 * l.length := by
  intro l
  induction l with
  | nil => intro acc _ _; exact ⟨[], [], by simp, .nil, by simp, rfl⟩
  | cons x l ih =>
    intro acc hx hl
    simp only [List.length_cons] at hl
    obtain ⟨k, hk, rfl⟩ := hx x (List.mem_cons_self ..)
    have hf : Fig (k : Int) := fig_nat (by omega)
    have ln := num_len2 hf
    have es := str_fig hf
    have l1 : (Str.ofString "r" : Str).length = 1 := by decide +kernel
    have l2 : (Str.ofString "r" ++ num k : Str).length = 1 + (num k).length := by rw [Str.length_append, l1]
    obtain ⟨xs, tss, e, ha, hs, hn⟩ := ih (acc ++ [.tup [.str "rest", .str (Str.ofString "r" ++ num k)]]) (fun z hz => hx z (List.mem_cons_of_mem _ hz)) (by rw [List.length_append]; simp only [List.length_cons, List.length_nil]; omega)
    refine ⟨.tup [.str "rest", .str (Str.ofString "r" ++ num k)] :: xs, ([S "rest", Str.ofString "r" ++ num k] ++ [S ";"]) :: tss, ?_, .cons (by rw [Tk_succ]; exact .inl ⟨_, .inr (.inl ⟨_, nms1 (nm_num _ 114 rfl rfl (by omega)), rfl, rfl⟩), rfl⟩) ha, ?_, ?_⟩
    · have hz : acc.length < sizeLine := by rw [sizeLine_eq]; omega
      have hq : 1 + (num k).length ≤ 1000000 := by omega
      rw [lcL_cons]
      generalize num k = N at *
      simp [mRest, hz, envWipe, es, l1, hq, -pStr_i] at e ⊢
      exact e
    · intro t ht
      have q : (S "rest").length ≤ 30 ∧ (S ";").length ≤ 30 := by decide +kernel
      rw [List.flatten_cons, List.mem_append] at ht
      rcases ht with h | h
      · simp only [List.mem_append, List.mem_cons, List.not_mem_nil, or_false] at h
        rcases h with (rfl | rfl) | rfl
        · exact q.1
        · omega
        · exact q.2
      · exact hs t h
    · rw [List.flatten_cons, List.length_append, hn]; simp only [List.length_append, List.length_cons, List.length_nil]; omega
theorem caseLC (y0 y1 y2 y3 y4 y5 : Option PV) : ∀ (l acc : List PV), (∀ x ∈ l, ∃ k : Nat, k < 2000 ∧ x = .int k) → acc.length + l.length ≤ 5000 → ∃ (cs : List (Str × List PV × List Str)),
    lcL [6] (tgN 6) bYes mCase l acc [y0, y1, y2, y3, y4, y5, none] = .ok (.lst (acc ++ cs.map fun c => .tup [.str c.1, .tup c.2.1])) [y0, y1, y2, y3, y4, y5, none] ∧ (∀ c ∈ cs, immL c.2.1 = true ∧ TkB (Tk 10) c.2.1 c.2.2) ∧ (∀ t ∈ (cs.map fun c => caseT (c.1, c.2.2)).flatten, t.length ≤ 30) ∧ (cs.map fun c => caseT (c.1, c.2.2)).flatten.length = 4 * l.length ∧ (∀ c ∈ cs, Nm c.1) ∧ cs.length = l.length := by
  intro l
  induction l with
  | nil => intro acc _ _; exact ⟨[], by simp, by simp, by simp, rfl, by simp, rfl⟩
  | cons x l ih =>
    intro acc hx hl
    simp only [List.length_cons] at hl
    obtain ⟨k, hk, rfl⟩ := hx x (List.mem_cons_self ..)
    have hf : Fig (k : Int) := fig_nat (by omega)
    have ln := num_len2 hf
    have es := str_fig hf
    have l1 : (Str.ofString "c" : Str).length = 1 := by decide +kernel
    have l2 : (Str.ofString "c" ++ num k : Str).length = 1 + (num k).length := by rw [Str.length_append, l1]
    obtain ⟨cs, e, hc, hs, hn, hnc, hcl⟩ := ih (acc ++ [.tup [.str (Str.ofString "c" ++ num k), .tup []]]) (fun z hz => hx z (List.mem_cons_of_mem _ hz)) (by rw [List.length_append]; simp only [List.length_cons, List.length_nil]; omega)
    refine ⟨(Str.ofString "c" ++ num k, [], [S "{", S "}"]) :: cs, ?_, ?_, ?_, ?_, ?_, by rw [List.length_cons, List.length_cons, hcl]⟩
    · have hz : acc.length < sizeLine := by rw [sizeLine_eq]; omega
      have hq : 1 + (num k).length ≤ 1000000 := by omega
      rw [lcL_cons]
      generalize num k = N at *
      simp [mCase, hz, envWipe, es, l1, hq, -pStr_i] at e ⊢
      exact e
    · intro c hcm
      rcases List.mem_cons.mp hcm with rfl | h
      · exact ⟨rfl, [], .nil, rfl⟩
      · exact hc c h
    · intro t ht
      have q : (S "case").length ≤ 30 ∧ (S "{").length ≤ 30 ∧ (S "}").length ≤ 30 := by decide +kernel
      simp only [List.map_cons, List.flatten_cons, caseT, List.mem_append, List.mem_cons, List.not_mem_nil, or_false] at ht
      rcases ht with (rfl | rfl | rfl | rfl) | h
      · exact q.1
      · omega
      · exact q.2.1
      · exact q.2.2
      · exact hs t h
    · rw [List.map_cons, List.flatten_cons, List.length_append, hn]; simp only [caseT, List.length_cons, List.length_nil]; omega
    · intro c hcm
      rcases List.mem_cons.mp hcm with rfl | h
      · exact nm_num _ 99 rfl rfl (by omega)
      · exact hnc c h
theorem cellLC (f : Int) (hf : Fig f) (y0 y1 y2 y3 y5 : Option PV) : ∀ (l acc : List PV), (∀ x ∈ l, ∃ k : Nat, k < 2000 ∧ x = .int k) → acc.length + l.length ≤ 5000 → ∃ (cs : List Int),
    lcL [6] (tgN 6) bYes mCell l acc [y0, y1, y2, y3, some (.int f), y5, none] = .ok (.lst (acc ++ cs.map .int)) [y0, y1, y2, y3, some (.int f), y5, none] ∧ (∀ c ∈ cs, Fig c) ∧ cs.length = l.length := by
  intro l
  induction l with
  | nil => intro acc _ _; exact ⟨[], by simp, by simp, rfl⟩
  | cons x l ih =>
    intro acc hx hl
    simp only [List.length_cons] at hl
    obtain ⟨k, hk, rfl⟩ := hx x (List.mem_cons_self ..)
    obtain ⟨cs, e, hc, hn⟩ := ih (acc ++ [.int ((f + 37 * (k : Int)) % 10000)]) (fun z hz => hx z (List.mem_cons_of_mem _ hz)) (by rw [List.length_append]; simp only [List.length_cons, List.length_nil]; omega)
    refine ⟨(f + 37 * (k : Int)) % 10000 :: cs, ?_, ?_, by rw [List.length_cons, List.length_cons, hn]⟩
    · have hz : acc.length < sizeLine := by rw [sizeLine_eq]; omega
      have hg : (((k : Nat) : Int)).natAbs < 2000 := by omega
      rw [lcL_cons]
      simp [mCell, hz, envWipe] at e ⊢
      exact e
    · intro c hc2
      rcases List.mem_cons.mp hc2 with rfl | h
      · exact ⟨by omega, by omega⟩
      · exact hc c h
end PVL

/-! G12: filled trees, on. -/
namespace PVL
open PySem PySem.Spec L2
theorem all2_app {α β : Type} {R : α → β → Prop} {a c : List α} {b d : List β} (h : All2 R a b) (k : All2 R c d) : All2 R (a ++ c) (b ++ d) := by
  induction h with
  | nil => exact k
  | cons h r ih => exact .cons h ih
theorem all2_len {α β : Type} {R : α → β → Prop} {a : List α} {b : List β} (h : All2 R a b) : a.length = b.length := by
  induction h with
  | nil => rfl
  | cons h r ih => simp [ih]
theorem sh_len {x : PV} {ts : List Str} (h : Sh x ts) : 1 ≤ ts.length := by
  rcases h with ⟨_, _, _, _, rfl⟩ | ⟨_, _, _, rfl⟩ | ⟨_, _, _, _, rfl⟩ | ⟨_, _, _, _, _, _, _, _, rfl⟩ | ⟨_, _, _, _, _, _, rfl⟩ | ⟨_, _, _, _, _, _, _, rfl⟩ | ⟨_, _, _, _, _, _, _, _, _, rfl⟩ | ⟨_, _, _, _, _, rfl⟩ | ⟨_, _, _, _, _, _, _, _, _, rfl⟩ | ⟨_, _, _, _, _, _, _, rfl⟩ <;> simp
theorem tk_len {n : Nat} {x : PV} {ts : List Str} (h : Tk n x ts) : 1 ≤ ts.length := by
  cases n with
  | zero => exact h.elim
  | succ n =>
    replace h := Tk_cases h
    rcases h with ⟨t0, h, rfl⟩ | ⟨_, _, _, _, _, _, _, rfl⟩ | ⟨_, _, _, _, _, rfl⟩ | ⟨_, _, _, _, _, _, _, _, _, _, _, rfl⟩ | ⟨_, _, _, _, _, _, _, _, _, rfl⟩
    · have := sh_len h; simp
    all_goals simp
theorem all2_tk_len {n : Nat} {items : List PV} {tss : List (List Str)} (h : All2 (Tk n) items tss) : items.length ≤ tss.flatten.length := by
  induction h with
  | nil => simp
  | cons h r ih =>
    have := tk_len h
    simp only [List.length_cons, List.flatten_cons, List.length_append]; omega
theorem all2_tk_imm {n : Nat} {items : List PV} {tss : List (List Str)} (h : All2 (Tk n) items tss) : immL items = true := all2_imm (fun _ _ h => Tk_imm h) h
theorem cases_len (cs : List (Str × List PV × List Str)) : 2 * cs.length ≤ (cs.map fun c => caseT (c.1, c.2.2)).flatten.length := by
  induction cs with
  | nil => simp
  | cons c cs ih =>
    have : (caseT (c.1, c.2.2)).length = c.2.2.length + 2 := rfl
    rw [List.map_cons, List.flatten_cons, List.length_append, this, List.length_cons]; omega
theorem tree_more {nm : Str} {base ver : Int} {items : List PV} {bs : List Str} (h : IsTree nm base ver items bs) {xs : List PV} {tss : List (List Str)} (ha : All2 (Tk 12) xs tss) (hs : ∀ t ∈ tss.flatten, t.length ≤ 30) :
    ∃ bs' : List Str, IsTree nm base ver (items ++ xs) bs' ∧ bs'.length = bs.length + tss.flatten.length := by
  obtain ⟨tss1, h1, e1⟩ := h.t
  have hi := all2_tk_imm ha
  have q : (S "{").length ≤ 30 ∧ (S "}").length ≤ 30 := by decide +kernel
  refine ⟨S "{" :: ((tss1 ++ tss).flatten ++ [S "}"]), ⟨h.b, h.v, by rw [immL_append, h.i, hi]; rfl, ⟨_, all2_app h1 ha, rfl⟩, h.n, h.nn, ?_⟩, ?_⟩
  · intro t ht
    simp only [List.mem_cons, List.mem_append, List.flatten_append, List.not_mem_nil, or_false] at ht
    rcases ht with rfl | (h2 | h2) | rfl
    · exact q.1
    · exact h.s t (by rw [e1]; simp only [List.mem_cons, List.mem_append]; exact .inr (.inl h2))
    · exact hs t h2
    · exact q.2
  · rw [e1]; simp only [List.length_cons, List.length_append, List.flatten_append, List.length_nil]; omega
theorem cut4 (a b c d e : PV) : pcut [a, b, c, d, e] none (some 4) = [a, b, c, d] := rfl
def bFillR : SM := (sRet (eOp pAdd (gOwn (eSl pSl (gRef 1) (oNone) (oSome (eC (.int 4))))) (gOwn (eTup (aCons (gOwn (eN (rOp pAdd (rOp pIx (rVar 1) (rC (.int 4))) (rVar 5)))) (aNil))))))
theorem fillR (nm : Str) (base ver : Int) (items xs : List PV) (hi : immL items = true) (hx : immL xs = true) (l : items.length + xs.length ≤ 100000) (y0 y2 y3 y4 y6 : Option PV) :
    bFillR [y0, some (treeV nm base ver items), y2, y3, y4, some (.tup xs), y6] = .ret (treeV nm base ver (items ++ xs)) [y0, some (treeV nm base ver items), y2, y3, y4, some (.tup xs), y6] := by
  have hz : items.length + xs.length ≤ sizeLine := by rw [sizeLine_eq]; omega
  simp [bFillR, treeV, hi, hx, hz, cut4, immL_append]
theorem filled_is2 : b_m__law_filled = sSeq (sAsg (eOp pSub (gOwn (eC (.int 1998))) (gOwn (eCl pLen (aCons (gOwn (eCall m__law_all_tokens (aCons (gRef 1) (aNil)))) (aNil))))) (tgN 2)) (sSeq (sAsg (eCall m__law_draw (aCons (gRef 0) (aCons (gOwn (eC (.int 3))) (aNil)))) (tgN 3)) (sSeq (sAsg (eCall m__law_figure (aCons (gRef 0) (aNil))) (tgN 4)) (sSeq (sIf (bE (eN (rOp pEq (rVar 3) (rC (.int 0))))) (sAsg (eCl pTuple (aCons (gOwn (eLC (itR1 (aCons (gOwn (eN (rOp pDiv (rVar 2) (rC (.int 3))))) (aNil))) [6] (tgN 6) (bYes) mRest)) (aNil))) (tgN 5)) (sIf (bE (eN (rOp pEq (rVar 3) (rC (.int 1))))) (sAsg (eTup (aCons (gOwn (eTup (aCons (gOwn (eC (.str "pick"))) (aCons (gOwn (eCall m__law_name (aCons (gRef 0) (aNil)))) (aCons (gOwn (eCl pTuple (aCons (gOwn (eLC (itR1 (aCons (gOwn (eN (rOp pDiv (rOp pSub (rVar 2) (rC (.int 4))) (rC (.int 4))))) (aNil))) [6] (tgN 6) (bYes) mCase)) (aNil)))) (aNil)))))) (aNil))) (tgN 5)) (sAsg (eTup (aCons (gOwn (eTup (aCons (gOwn (eC (.str "mark"))) (aCons (gOwn (eCl pTuple (aCons (gOwn (eLC (itR1 (aCons (gOwn (eN (rOp pSub (rVar 2) (rC (.int 2))))) (aNil))) [6] (tgN 6) (bYes) mCell)) (aNil)))) (aNil))))) (aNil))) (tgN 5)))) bFillR))) := rfl
theorem filled_ok (d : Dr) {nm : Str} {base ver : Int} {items : List PV} {bs : List Str} (h : IsTree nm base ver items bs) (hl : bs.length ≤ 1902) : ∃ (items' : List PV) (bs' : List Str) (d' : Dr),
    m__law_filled [d.pv, treeV nm base ver items] = .ok (treeV nm base ver items') [some d'.pv, some (treeV nm base ver items)] ∧ IsTree nm base ver items' bs' ∧ bs'.length ≤ 2000 := by
  have h6 := headT_len nm base ver
  have e0 : m__law_all_tokens [treeV nm base ver items] = .ok (.lst ((headT nm base ver ++ bs).map PV.str)) [some (treeV nm base ver items)] := all_tokens_ok nm base ver items bs 12 (by omega) h.b h.v h.i h.t (by omega)
  obtain ⟨m, hm0, hm1, hm2⟩ : ∃ m : Int, m = 1998 - ((headT nm base ver ++ bs).length : Int) ∧ 80 ≤ m ∧ m ≤ 1998 := ⟨_, rfl, by rw [List.length_append]; omega, by omega⟩
  obtain ⟨w, d1, e1, w0, w1⟩ := draw_c d 3 (by decide) (by decide)
  obtain ⟨f, d2, e2, hf⟩ := fig_ok d1
  have him : (treeV nm base ver items).imm = true := by simp [treeV, h.i]
  have lit : items.length ≤ 1902 := by
    obtain ⟨tss, ha, eb⟩ := h.t
    have := all2_tk_len ha
    rw [eb] at hl
    simp only [List.length_cons, List.length_append] at hl
    omega
  have hbm : (bs.length : Int) + m ≤ 1998 := by rw [List.length_append] at hm0; omega
  have hlen : ((headT nm base ver ++ bs).map PV.str).length = (headT nm base ver ++ bs).length := List.length_map ..
  have hmany : (1998 : Int) - (((headT nm base ver ++ bs).map PV.str).length : Int) = m := by rw [hlen, hm0]
  have hzt : ((headT nm base ver ++ bs).map PV.str).length ≤ sizeLine := by rw [hlen, sizeLine_eq, List.length_append]; omega
  generalize (headT nm base ver ++ bs).map PV.str = TT at *
  have rg : ∀ n : Int, n ≤ 1998 → ∀ x ∈ rngL 0 n.toNat, ∃ k : Nat, k < 2000 ∧ x = .int k := by
    intro n hn x hx
    obtain ⟨k, hk, e⟩ := mem_rng hx
    exact ⟨k, by omega, e⟩
  have rl : ∀ n : Int, n ≤ 1998 → (rngL 0 n.toNat).length ≤ 1998 := by
    intro n hn
    rw [ints_len]; omega
  have fin : ∀ (xs : List PV) (tss : List (List Str)), All2 (Tk 12) xs tss → (∀ t ∈ tss.flatten, t.length ≤ 30) → tss.flatten.length ≤ 8000 → ∀ (y0 y2 y3 y4 y6 : Option PV), ∃ bs',
      bFillR [y0, some (treeV nm base ver items), y2, y3, y4, some (.tup xs), y6] = .ret (treeV nm base ver (items ++ xs)) [y0, some (treeV nm base ver items), y2, y3, y4, some (.tup xs), y6] ∧ IsTree nm base ver (items ++ xs) bs' ∧ bs'.length = bs.length + tss.flatten.length := by
    intro xs tss ha hs hn y0 y2 y3 y4 y6
    obtain ⟨bs', h', hl'⟩ := tree_more h ha hs
    refine ⟨bs', fillR nm base ver items xs h.i (all2_tk_imm ha) ?_ _ _ _ _ _, h', hl'⟩
    have := all2_tk_len ha
    omega
  have un : m__law_filled [d.pv, treeV nm base ver items] = fnM 2 7 [] b_m__law_filled [d.pv, treeV nm base ver items] := rfl
  generalize hT : treeV nm base ver items = TV at *
  by_cases hw0 : w = 0
  · have hr : rngOk (m / 3) := rngOk_of (by omega) (by omega)
    have hr3 : (rngL 0 (m / 3).toNat).length ≤ 1998 := rl _ (by omega)
    obtain ⟨xs, tss, e3, ha, hs, hn⟩ := restLC (some d2.pv) (some TV) (some (.int m)) (some (.int w)) (some (.int f)) none (rngL 0 (m / 3).toNat) [] (rg _ (by omega)) (by simp only [List.length_nil]; omega)
    have hxl := all2_tk_len ha
    obtain ⟨bs', eR, h', hl'⟩ := fin xs tss ha hs (by omega) (some d2.pv) (some (.int m)) (some (.int w)) (some (.int f)) none
    refine ⟨items ++ xs, bs', d2, ?_, h', by rw [hl', hn, ints_len]; omega⟩
    have hz : xs.length ≤ sizeLine := by rw [sizeLine_eq]; omega
    have hxi := all2_tk_imm ha
    rw [un, fnM_at rfl, filled_is2]
    simp only [List.nil_append] at e3
    rw [hw0] at e3 eR
    simp [e0, e1, e2, hmany, hw0, hr, hzt, him, e3, hz, hxi, eR, envWipe]
  · by_cases hw1 : w = 1
    · obtain ⟨z, d3, e4, lz⟩ := name_ok d2
      have hr : rngOk ((m - 4) / 4) := rngOk_of (by omega) (by omega)
      have hr3 : (rngL 0 ((m - 4) / 4).toNat).length ≤ 1998 := rl _ (by omega)
      obtain ⟨cs, e3, hc, hs, hn, hnc, hcl2⟩ := caseLC (some d3.pv) (some TV) (some (.int m)) (some (.int w)) (some (.int f)) none (rngL 0 ((m - 4) / 4).toNat) [] (rg _ (by omega)) (by simp only [List.length_nil]; omega)
      have hci : immL (cs.map fun c => PV.tup [.str c.1, .tup c.2.1]) = true := immL_map _ _ fun c h => by simp [(hc c h).1]
      have hcl := cases_len cs
      have ha : All2 (Tk 12) [PV.tup [.str "pick", .str z, .tup (cs.map fun c => .tup [.str c.1, .tup c.2.1])]] [S "pick" :: z :: S "{" :: ((cs.map fun c => caseT (c.1, c.2.2)).flatten ++ [S "}"])] :=
        .cons (by rw [Tk_succ]; exact .inr (.inr (.inl ⟨by omega, z, cs, hc, ⟨by rw [hcl2, ints_len]; omega, nmsP lz.2 hnc⟩, rfl, rfl⟩))) .nil
      have q : (S "pick").length ≤ 30 ∧ (S "{").length ≤ 30 ∧ (S "}").length ≤ 30 := by decide +kernel
      obtain ⟨bs', eR, h', hl'⟩ := fin _ _ ha (by
        intro t ht
        simp only [List.flatten_cons, List.flatten_nil, List.append_nil, List.mem_cons, List.mem_append, List.not_mem_nil, or_false] at ht
        rcases ht with rfl | rfl | rfl | h | rfl
        · exact q.1
        · omega
        · exact q.2.1
        · exact hs t h
        · exact q.2.2) (by simp only [List.flatten_cons, List.flatten_nil, List.append_nil, List.length_cons, List.length_append, List.length_nil]; omega) (some d3.pv) (some (.int m)) (some (.int w)) (some (.int f)) none
      refine ⟨_, bs', d3, ?_, h', by
        rw [hl']
        simp only [List.flatten_cons, List.flatten_nil, List.append_nil, List.length_cons, List.length_append, List.length_nil]
        rw [hn, ints_len]
        omega⟩
      have hz : (cs.map fun c => PV.tup [.str c.1, .tup c.2.1]).length ≤ sizeLine := by rw [sizeLine_eq, List.length_map]; omega
      rw [un, fnM_at rfl, filled_is2]
      simp only [List.nil_append] at e3
      generalize (cs.map fun c => PV.tup [.str c.1, .tup c.2.1]) = CS at *
      rw [hw1] at e3 eR
      simp [e0, e1, e2, hmany, hw1, hr, hzt, him, e3, e4, hz, hci, eR, envWipe]
    · have hr : rngOk (m - 2) := rngOk_of (by omega) (by omega)
      have hr3 : (rngL 0 (m - 2).toNat).length ≤ 1998 := rl _ (by omega)
      obtain ⟨cs, e3, hc, hn⟩ := cellLC f hf (some d2.pv) (some TV) (some (.int m)) (some (.int w)) none (rngL 0 (m - 2).toNat) [] (rg _ (by omega)) (by simp only [List.length_nil]; omega)
      have hci : immL (cs.map PV.int) = true := immL_map _ _ fun c h => rfl
      have ha : All2 (Tk 12) [PV.tup [.str "mark", .tup (cs.map .int)]] [(S "mark" :: cs.map num) ++ [S ";"]] :=
        .cons (by rw [Tk_succ]; exact .inl ⟨_, .inl ⟨cs, hc, by rw [hn, ints_len]; omega, rfl, rfl⟩, rfl⟩) .nil
      have q : (S "mark").length ≤ 30 ∧ (S ";").length ≤ 30 := by decide +kernel
      obtain ⟨bs', eR, h', hl'⟩ := fin _ _ ha (by
        intro t ht
        simp only [List.flatten_cons, List.flatten_nil, List.append_nil, List.mem_cons, List.mem_append, List.mem_map, List.not_mem_nil, or_false] at ht
        rcases ht with (rfl | ⟨c, h, rfl⟩) | rfl
        · exact q.1
        · have := num_len2 (hc c h); omega
        · exact q.2) (by simp only [List.flatten_cons, List.flatten_nil, List.append_nil, List.length_cons, List.length_append, List.length_nil, List.length_map]; omega) (some d2.pv) (some (.int m)) (some (.int w)) (some (.int f)) none
      refine ⟨_, bs', d2, ?_, h', by
        rw [hl']
        simp only [List.flatten_cons, List.flatten_nil, List.append_nil, List.length_cons, List.length_append, List.length_nil, List.length_map]
        rw [hn, ints_len]
        omega⟩
      have hz : (cs.map PV.int).length ≤ sizeLine := by rw [sizeLine_eq, List.length_map]; omega
      rw [un, fnM_at rfl, filled_is2]
      simp only [List.nil_append] at e3
      generalize cs.map PV.int = CS at *
      simp [e0, e1, e2, hmany, hw0, hw1, hr, hzt, him, e3, hz, hci, eR, envWipe]
end PVL

/-! R1: the reader of tokens, its words. -/
namespace PVL
open PySem PySem.Spec L2
def signsL : List Str := ["{", "}", ";", ".."]
def isNumT (t : Str) : Bool := match t.cps.toList with
  | [] => false
  | c :: r => chDig c && (r.all chDig && (decide (r.length < 4) && (decide (c ≠ 48) || r.isEmpty)))
/-- the kind of a token -/
def lab (t : Str) : Str := if t ∈ wordsL ∨ t ∈ signsL then "word" else if nmB 8 t = true then "name" else if isNumT t = true then "number" else "bad"
def tokP (t : Str) : PV := .tup [.str (lab t), .str t]
def rdS (D R : List Str) (b : Int) : PV := .obj "TokenReader" [("tokens", .lst ((D ++ R).map tokP)), ("place", .int D.length), ("braces", .int b)]
@[simp] theorem rdS_imm (D R : List Str) (b : Int) : (rdS D R b).imm = false := rfl
theorem rd_names : (("tokens" : Str) == "place") = false ∧ (("tokens" : Str) == "braces") = false ∧ (("place" : Str) == "braces") = false ∧ (("place" : Str) == "tokens") = false ∧ (("braces" : Str) == "tokens") = false ∧ (("braces" : Str) == "place") = false ∧
    (("tokens" : Str) == "tokens") = true ∧ (("place" : Str) == "place") = true ∧ (("braces" : Str) == "braces") = true := by decide +kernel
@[simp] theorem rd_tokens (D R : List Str) (b : Int) : fldP "TokenReader" "tokens" (rdS D R b) = some (.lst ((D ++ R).map tokP)) := by
  simp only [fldP, rdS, if_true, List.lookup_cons, rd_names]
@[simp] theorem rd_place (D R : List Str) (b : Int) : fldP "TokenReader" "place" (rdS D R b) = some (.int D.length) := by
  simp only [fldP, rdS, if_true, List.lookup_cons, rd_names]
@[simp] theorem rd_braces (D R : List Str) (b : Int) : fldP "TokenReader" "braces" (rdS D R b) = some (.int b) := by
  simp only [fldP, rdS, if_true, List.lookup_cons, rd_names]
theorem rd_ok {m : Str} (h : m ∈ ([S "peek", S "peek_kind", S "fail", S "skip", S "read_name", S "read_number"] : List Str)) (D R : List Str) (b : Int) : objOk "TokenReader" m (rdS D R b) = true := by
  simp only [objOk, rdS, decide_eq_true_eq, true_and]
  simp only [List.mem_cons, List.not_mem_nil, or_false] at h
  have q : ∀ m ∈ ([S "peek", S "peek_kind", S "fail", S "skip", S "read_name", S "read_number"] : List Str), (m == S "tokens") = false ∧ (m == S "place") = false ∧ (m == S "braces") = false := by decide +kernel
  have q2 := q m (by simp only [List.mem_cons, List.not_mem_nil, or_false]; exact h)
  simp only [List.lookup_cons, q2.1, q2.2.1, q2.2.2]
  rfl
@[simp] theorem rd_ok1 (D R : List Str) (b : Int) : objOk "TokenReader" "peek" (rdS D R b) = true := rd_ok (by simp) D R b
@[simp] theorem rd_ok2 (D R : List Str) (b : Int) : objOk "TokenReader" "peek_kind" (rdS D R b) = true := rd_ok (by simp) D R b
@[simp] theorem rd_ok3 (D R : List Str) (b : Int) : objOk "TokenReader" "fail" (rdS D R b) = true := rd_ok (by simp) D R b
@[simp] theorem rd_ok4 (D R : List Str) (b : Int) : objOk "TokenReader" "skip" (rdS D R b) = true := rd_ok (by simp) D R b
@[simp] theorem rd_ok5 (D R : List Str) (b : Int) : objOk "TokenReader" "read_name" (rdS D R b) = true := rd_ok (by simp) D R b
@[simp] theorem rd_ok6 (D R : List Str) (b : Int) : objOk "TokenReader" "read_number" (rdS D R b) = true := rd_ok (by simp) D R b
/-- one token on -/
@[simp] theorem rd_step (D R : List Str) (t : Str) (b : Int) : fldS "TokenReader" "place" (.int ((D.length : Int) + 1)) (rdS D (t :: R) b) = some (rdS (D ++ [t]) R b) := by
  have hp : ∀ v : PV, putP "place" v ([("tokens", PV.lst ((D ++ t :: R).map tokP)), ("place", .int D.length), ("braces", .int b)] : List (Str × PV)) = ([("tokens", .lst ((D ++ t :: R).map tokP)), ("place", v), ("braces", .int b)] : List (Str × PV)) := by
    intro v
    have q : ¬ (("tokens" : Str) = "place") := by decide +kernel
    simp only [putP, if_neg q, if_true]
  simp only [fldS, rdS, true_and, List.length_cons, List.length_nil, if_pos (show 0 + 1 + 1 + 1 < 1000 by decide), hp]
  simp [rdS]
@[simp] theorem rd_brace (D R : List Str) (b c : Int) : fldS "TokenReader" "braces" (.int c) (rdS D R b) = some (rdS D R c) := by
  have q : ¬ (("tokens" : Str) = "braces") := by decide +kernel
  have q2 : ¬ (("place" : Str) = "braces") := by decide +kernel
  simp only [fldS, rdS, true_and, List.length_cons, List.length_nil, if_pos (show 0 + 1 + 1 + 1 < 1000 by decide), putP, if_neg q, if_neg q2, if_true]
@[simp] theorem rd_at (D R : List Str) (t : Str) : atI ((D ++ t :: R).map tokP) (D.length : Int) = some (tokP t) := by
  rw [at_nat _ _ (by omega)]
  simp
theorem rd_end (D : List Str) : ¬ ((D.length : Int) < ((D ++ []).map tokP).length) := by simp
/-- what peek tells -/
def pkw : List Str → Str
  | [] => ""
  | t :: _ => if lab t = "word" then t else ""
def pkk : List Str → Str
  | [] => ""
  | t :: _ => lab t
theorem lt_toks (D R : List Str) (t : Str) : (D.length : Int) < ((D ++ t :: R).map tokP).length := by
  simp; omega
theorem lt_len (D R : List Str) : (D.length : Int) < (D.length : Int) + ((R.length : Int) + 1) := by omega
theorem peek_r (D R : List Str) (b : Int) : m_TokenReader_peek [rdS D R b] = .ok (.str (pkw R)) [some (rdS D R b)] := by
  unfold m_TokenReader_peek
  rw [fnM_at rfl]
  cases R with
  | nil => simp [b_m_TokenReader_peek, pkw]
  | cons t R =>
    have h := lt_len D R
    by_cases hl : lab t = "word"
    · simp [b_m_TokenReader_peek, pkw, tokP, hl, h, -List.map_append]
    · simp [b_m_TokenReader_peek, pkw, tokP, hl, h, -List.map_append]
theorem kind_r (D R : List Str) (b : Int) : m_TokenReader_peek_kind [rdS D R b] = .ok (.str (pkk R)) [some (rdS D R b)] := by
  unfold m_TokenReader_peek_kind
  rw [fnM_at rfl]
  cases R with
  | nil => simp [b_m_TokenReader_peek_kind, pkk]
  | cons t R =>
    have h := lt_len D R
    simp [b_m_TokenReader_peek_kind, pkk, tokP, h, -List.map_append]
def badT (n : Nat) : PX := ⟨"BadText", [("at", .int n)]⟩
theorem fail_r (D R : List Str) (b : Int) : m_TokenReader_fail [rdS D R b] = .exc (badT D.length) [some (rdS D R b)] := by
  unfold m_TokenReader_fail
  rw [fnM_at rfl]
  simp [b_m_TokenReader_fail, badT]
def brD (t : Str) : Int := if t = "{" then 1 else if t = "}" then -1 else 0
theorem skip_bad (D R : List Str) (b : Int) (w : Str) (h : pkw R ≠ w) : m_TokenReader_skip [rdS D R b, .str w] = .exc (badT D.length) [some (rdS D R b), some (.str w)] := by
  unfold m_TokenReader_skip
  rw [fnM_at rfl]
  simp [b_m_TokenReader_skip, peek_r, fail_r, h]
theorem skip_r (D R : List Str) (b : Int) (w : Str) (h : lab w = "word") : m_TokenReader_skip [rdS D (w :: R) b, .str w] = .ok .non [some (rdS (D ++ [w]) R (b + brD w)), some (.str w)] := by
  have hp : pkw (w :: R) = w := by simp [pkw, h]
  unfold m_TokenReader_skip
  rw [fnM_at rfl]
  have q : ¬ (("{" : Str) = "}") := by decide +kernel
  have q2 : ¬ (("}" : Str) = "{") := by decide +kernel
  by_cases h1 : w = "{"
  · subst h1
    simp [b_m_TokenReader_skip, peek_r, hp, brD, q]
  · by_cases h2 : w = "}"
    · subst h2
      simp [b_m_TokenReader_skip, peek_r, hp, brD, q2, Int.sub_eq_add_neg]
    · simp [b_m_TokenReader_skip, peek_r, hp, brD, h1, h2]
theorem at_here (D R : List Str) (t : Str) : atI (D.map tokP ++ PV.tup [.str (lab t), .str t] :: R.map tokP) (D.length : Int) = some (.tup [.str (lab t), .str t]) := by
  have := rd_at D R t
  rw [List.map_append, List.map_cons] at this
  exact this
theorem name_r (D R : List Str) (b : Int) (z : Str) (h : lab z = "name") : m_TokenReader_read_name [rdS D (z :: R) b] = .ok (.str z) [some (rdS (D ++ [z]) R b)] := by
  have hp : pkk (z :: R) = "name" := h
  unfold m_TokenReader_read_name
  rw [fnM_at rfl]
  simp [b_m_TokenReader_read_name, kind_r, hp, at_here, tokP]
theorem pInt_num {i : Int} (h : Fig i) : pInt [.str (num i)] = some (.int i) := by
  have l := num_len2 h
  obtain ⟨n, rfl⟩ : ∃ n : Nat, i = n := ⟨i.toNat, by have := h.1; omega⟩
  rw [pInt_s, if_pos (by omega)]
  have hn : n < 10000 := by have := h.2; omega
  have l2 : (TL.numL n).length ≤ 4300 := by
    rw [← cps_num hn]
    have : (num (n : Int)).cps.toList.length = (num (n : Int)).length := by simp [Str.length]
    omega
  have : PySem.intText? (num (n : Int)) = some (n : Int) := TL.int_num l2
  rw [this]
  rfl
theorem number_r (D R : List Str) (b : Int) {i : Int} (hi : Fig i) (h : lab (num i) = "number") : m_TokenReader_read_number [rdS D (num i :: R) b] = .ok (.int i) [some (rdS (D ++ [num i]) R b)] := by
  have hp : pkk (num i :: R) = "number" := h
  have hn := pInt_num hi
  unfold m_TokenReader_read_number
  rw [fnM_at rfl]
  generalize num i = N at *
  simp [b_m_TokenReader_read_number, kind_r, hp, at_here, tokP, hn]
/-! kinds -/
def kwL : List Str := ["format", "base", "version", "mark", "num", "in", "size", "count", "gap", "sum", "roll", "over", "by", "of", "to", "pad", "free", "rest", "part", "maybe", "many", "pick", "case", "grow", "since", "nest", "inner", "{", "}", ";", ".."]
theorem kwL_all : ∀ w ∈ kwL, w ∈ wordsL ∨ w ∈ signsL := by decide +kernel
theorem lab_kw {w : Str} (h : w ∈ kwL) : lab w = "word" := by
  unfold lab
  rw [if_pos (kwL_all w h)]
theorem signs_no : ∀ w ∈ signsL, nmB 8 w = false ∧ isNumT w = false := by decide +kernel
theorem lab_name {z : Str} (h : Nm z) : lab z = "name" := by
  unfold lab
  have h1 : ¬ (z ∈ wordsL ∨ z ∈ signsL) := by
    rintro (q | q)
    · exact h.2 q
    · have := (signs_no z q).1
      rw [h.1] at this
      cases this
  rw [if_neg h1, if_pos h.1]
theorem words_no : ∀ w ∈ wordsL, isNumT w = false := by decide +kernel
theorem numL_head (n : Nat) (h : 1 ≤ n) : ∃ c r, TL.numL n = c :: r ∧ c ≠ 48 := by
  induction n using Nat.strongRecOn with
  | _ n ih =>
    by_cases h10 : n < 10
    · exact ⟨48 + n, [], TL.numL_lt h10, by omega⟩
    · obtain ⟨c, r, e, hc⟩ := ih (n / 10) (by omega) (by omega)
      refine ⟨c, r ++ [48 + n % 10], ?_, hc⟩
      rw [TL.numL_step (by omega), e]
      rfl
theorem numT_num {i : Int} (h : Fig i) : isNumT (num i) = true := by
  obtain ⟨n, rfl⟩ : ∃ n : Nat, i = n := ⟨i.toNat, by have := h.1; omega⟩
  have hn : n < 10000 := by have := h.2; omega
  have hd : ∀ y ∈ TL.numL n, chDig y = true := by
    intro y hy
    have hz := TL.numL_free (n := n) (s := y)
    unfold chDig
    by_cases q : y < 48 ∨ 57 < y
    · exact absurd hy (hz q)
    · simp only [Bool.and_eq_true, decide_eq_true_eq]; omega
  have hl : (TL.numL n).length ≤ 4 := by
    have h1 : (num (n : Int)).length ≤ 4 := PyProof.Rows.toString_length_le (v := (n : Int)) (by omega) (k := 4) (by decide) (by omega)
    rw [← cps_num hn]
    simpa [Str.length] using h1
  unfold isNumT
  rw [cps_num hn]
  cases e : TL.numL n with
  | nil => exact absurd e (TL.numL_ne n)
  | cons c r =>
    rw [e] at hd hl
    simp only [List.length_cons] at hl
    have hc : c ≠ 48 ∨ r = [] := by
      by_cases h10 : n < 10
      · right
        have := TL.numL_lt h10
        rw [e] at this
        exact (List.cons.inj this).2
      · left
        obtain ⟨c', r', e', hc'⟩ := numL_head n (by omega)
        rw [e] at e'
        rw [(List.cons.inj e').1]
        exact hc'
    simp only [Bool.and_eq_true, decide_eq_true_eq, List.all_eq_true, Bool.or_eq_true, List.isEmpty_iff]
    exact ⟨hd c List.mem_cons_self, fun y hy => hd y (List.mem_cons_of_mem _ hy), by omega, hc⟩
theorem lab_num {i : Int} (h : Fig i) : lab (num i) = "number" := by
  have ht := numT_num h
  unfold lab
  have h1 : ¬ (num i ∈ wordsL ∨ num i ∈ signsL) := by
    rintro (q | q)
    · have := words_no _ q; rw [ht] at this; cases this
    · have := (signs_no _ q).2; rw [ht] at this; cases this
  have h2 : ¬ nmB 8 (num i) = true := by
    intro q
    unfold nmB at q
    unfold isNumT at ht
    cases e : (num i).cps.toList with
    | nil => rw [e] at q; cases q
    | cons c r =>
      rw [e] at q ht
      simp only [nmL, Bool.and_eq_true, chLow, decide_eq_true_eq] at q
      simp only [Bool.and_eq_true, chDig, decide_eq_true_eq] at ht
      omega
  rw [if_neg h1, if_neg h2, if_pos ht]
@[simp] theorem lab_0 : lab "format" = "word" := lab_kw (by simp [kwL])
@[simp] theorem lab_1 : lab "base" = "word" := lab_kw (by simp [kwL])
@[simp] theorem lab_2 : lab "version" = "word" := lab_kw (by simp [kwL])
@[simp] theorem lab_3 : lab "mark" = "word" := lab_kw (by simp [kwL])
@[simp] theorem lab_4 : lab "num" = "word" := lab_kw (by simp [kwL])
@[simp] theorem lab_5 : lab "in" = "word" := lab_kw (by simp [kwL])
@[simp] theorem lab_6 : lab "size" = "word" := lab_kw (by simp [kwL])
@[simp] theorem lab_7 : lab "count" = "word" := lab_kw (by simp [kwL])
@[simp] theorem lab_8 : lab "gap" = "word" := lab_kw (by simp [kwL])
@[simp] theorem lab_9 : lab "sum" = "word" := lab_kw (by simp [kwL])
@[simp] theorem lab_10 : lab "roll" = "word" := lab_kw (by simp [kwL])
@[simp] theorem lab_11 : lab "over" = "word" := lab_kw (by simp [kwL])
@[simp] theorem lab_12 : lab "by" = "word" := lab_kw (by simp [kwL])
@[simp] theorem lab_13 : lab "of" = "word" := lab_kw (by simp [kwL])
@[simp] theorem lab_14 : lab "to" = "word" := lab_kw (by simp [kwL])
@[simp] theorem lab_15 : lab "pad" = "word" := lab_kw (by simp [kwL])
@[simp] theorem lab_16 : lab "free" = "word" := lab_kw (by simp [kwL])
@[simp] theorem lab_17 : lab "rest" = "word" := lab_kw (by simp [kwL])
@[simp] theorem lab_18 : lab "part" = "word" := lab_kw (by simp [kwL])
@[simp] theorem lab_19 : lab "maybe" = "word" := lab_kw (by simp [kwL])
@[simp] theorem lab_20 : lab "many" = "word" := lab_kw (by simp [kwL])
@[simp] theorem lab_21 : lab "pick" = "word" := lab_kw (by simp [kwL])
@[simp] theorem lab_22 : lab "case" = "word" := lab_kw (by simp [kwL])
@[simp] theorem lab_23 : lab "grow" = "word" := lab_kw (by simp [kwL])
@[simp] theorem lab_24 : lab "since" = "word" := lab_kw (by simp [kwL])
@[simp] theorem lab_25 : lab "nest" = "word" := lab_kw (by simp [kwL])
@[simp] theorem lab_26 : lab "inner" = "word" := lab_kw (by simp [kwL])
@[simp] theorem lab_27 : lab "{" = "word" := lab_kw (by simp [kwL])
@[simp] theorem lab_28 : lab "}" = "word" := lab_kw (by simp [kwL])
@[simp] theorem lab_29 : lab ";" = "word" := lab_kw (by simp [kwL])
@[simp] theorem lab_30 : lab ".." = "word" := lab_kw (by simp [kwL])
end PVL

/-! R2: short items are read. -/
namespace PVL
open PySem PySem.Spec L2
def cMark : BM := bE (eOp pEq (gOwn (eMCall "TokenReader" "peek_kind" 0 m_TokenReader_peek_kind aNil)) (gOwn (eC (.str "number"))))
def bMark : SM := sExpr (eMeth "list" 1 pAppend (aCons (gOwn (eMCall "TokenReader" "read_number" 0 m_TokenReader_read_number aNil)) (aNil)))
theorem mark_is : b_m_read_mark = (sSeq (sExpr (eMCall "TokenReader" "skip" 0 m_TokenReader_skip (aCons (gOwn (eC (.str "mark"))) (aNil)))) (sSeq (sAsg (eLst (aCons (gOwn (eMCall "TokenReader" "read_number" 0 m_TokenReader_read_number aNil)) (aNil))) (tgN 1)) (sSeq (whileL cMark bMark 100000) (sSeq (sExpr (eMCall "TokenReader" "skip" 0 m_TokenReader_skip (aCons (gOwn (eC (.str ";"))) (aNil)))) (sRet (eTup (aCons (gOwn (eC (.str "mark"))) (aCons (gOwn (eN (rCl pTuple (raCons (rVar 1) (raNil))))) (aNil))))))))) := rfl
theorem markW : ∀ (cs acc : List Int) (D R : List Str) (b : Int) (n : Nat), (∀ c ∈ cs, Fig c) → pkk R ≠ "number" → cs.length < n → acc.length + cs.length ≤ 100000 →
    whileL cMark bMark n [some (rdS D (cs.map num ++ R) b), some (.lst (acc.map .int))] = .next [some (rdS (D ++ cs.map num) R b), some (.lst ((acc ++ cs).map .int))] := by
  intro cs
  induction cs with
  | nil =>
    intro acc D R b n _ hR hn _
    obtain ⟨m, rfl⟩ : ∃ m, n = m + 1 := ⟨n - 1, by simp only [List.length_nil] at hn; omega⟩
    rw [whileL_stop (e := [some (rdS D R b), some (.lst (acc.map .int))]) (by simp [cMark, kind_r, hR])]
    simp
  | cons c cs ih =>
    intro acc D R b n hc hR hn hl
    simp only [List.length_cons] at hn hl
    obtain ⟨m, rfl⟩ : ∃ m, n = m + 1 := ⟨n - 1, by omega⟩
    have hf := hc c List.mem_cons_self
    have e := number_r D (cs.map num ++ R) b hf (lab_num hf)
    have hk : pkk (num c :: (cs.map num ++ R)) = "number" := lab_num hf
    have hz : acc.length < sizeLine := by rw [sizeLine_eq]; omega
    have e2 := ih (acc ++ [c]) (D ++ [num c]) R b m (fun x hx => hc x (List.mem_cons_of_mem _ hx)) hR (by omega) (by rw [List.length_append]; simp only [List.length_cons, List.length_nil]; omega)
    simp only [List.map_append, List.map_cons, List.map_nil, List.append_assoc, List.cons_append, List.nil_append] at e2 ⊢
    generalize num c = N at *
    generalize cs.map num = M at *
    have c1 : cMark [some (rdS D (N :: (M ++ R)) b), some (.lst (acc.map .int))] = .ok true [some (rdS D (N :: (M ++ R)) b), some (.lst (acc.map .int))] := by simp [cMark, kind_r, hk]
    have b1 : bMark [some (rdS D (N :: (M ++ R)) b), some (.lst (acc.map .int))] = .next [some (rdS (D ++ [N]) (M ++ R) b), some (.lst (acc.map .int ++ [.int c]))] := by simp [bMark, e, hz]
    rw [whileL_turn c1 b1]
    exact e2
theorem read_mark_ok (cs : List Int) (h : ∀ c ∈ cs, Fig c) (h0 : 0 < cs.length) (hl : cs.length ≤ 90000) (D R : List Str) (b : Int) :
    m_read_mark [rdS D (S "mark" :: (cs.map num ++ S ";" :: R)) b] = .ok (.tup [.str "mark", .tup (cs.map .int)]) [some (rdS (D ++ (S "mark" :: cs.map num) ++ [S ";"]) R b)] := by
  cases cs with
  | nil => simp at h0
  | cons c cs =>
    simp only [List.length_cons] at hl
    have hf := h c List.mem_cons_self
    have e1 := skip_r D (num c :: (cs.map num ++ S ";" :: R)) b (S "mark") (by simp)
    have e2 := number_r (D ++ [S "mark"]) (cs.map num ++ S ";" :: R) (b + brD (S "mark")) hf (lab_num hf)
    have q : brD (S "mark") = 0 ∧ brD (S ";") = 0 := by decide +kernel
    rw [q.1, Int.add_zero] at e1 e2
    have e3 := markW cs [c] (D ++ [S "mark"] ++ [num c]) (S ";" :: R) b 100000 (fun x hx => h x (List.mem_cons_of_mem _ hx)) (by
      show lab ";" ≠ "number"
      rw [lab_kw (by simp [kwL])]
      decide +kernel) (by omega) (by simp only [List.length_cons, List.length_nil]; omega)
    have e4 := skip_r (D ++ [S "mark"] ++ [num c] ++ cs.map num) R b (S ";") (by simp)
    rw [q.2, Int.add_zero] at e4
    have hi : immL ((c :: cs).map PV.int) = true := immL_map _ _ fun _ _ => rfl
    simp only [List.map_append, List.map_cons, List.map_nil, List.append_assoc, List.cons_append, List.nil_append] at e1 e2 e3 e4 hi ⊢
    unfold m_read_mark
    rw [fnM_at rfl, mark_is]
    generalize num c = N at *
    generalize cs.map num = M at *
    generalize cs.map PV.int = MI at *
    simp at e1 e2 e3 e4 hi ⊢
    simp [e1, e2, e3, e4, hi]
    trace_state
end PVL

/-! R3: short items are read, on. -/
namespace PVL
open PySem PySem.Spec L2
def kw0 : List Str := ["format", "base", "version", "mark", "num", "in", "size", "count", "gap", "sum", "roll", "over", "by", "of", "to", "pad", "free", "rest", "part", "maybe", "many", "pick", "case", "grow", "since", "nest", "inner", ";", ".."]
theorem brD_0 : ∀ w ∈ kw0, brD w = 0 := by decide +kernel
@[simp] theorem brD_1 : brD "format" = 0 := brD_0 _ (by simp [kw0])
@[simp] theorem brD_2 : brD "base" = 0 := brD_0 _ (by simp [kw0])
@[simp] theorem brD_3 : brD "version" = 0 := brD_0 _ (by simp [kw0])
@[simp] theorem brD_4 : brD "mark" = 0 := brD_0 _ (by simp [kw0])
@[simp] theorem brD_5 : brD "num" = 0 := brD_0 _ (by simp [kw0])
@[simp] theorem brD_6 : brD "in" = 0 := brD_0 _ (by simp [kw0])
@[simp] theorem brD_7 : brD "size" = 0 := brD_0 _ (by simp [kw0])
@[simp] theorem brD_8 : brD "count" = 0 := brD_0 _ (by simp [kw0])
@[simp] theorem brD_9 : brD "gap" = 0 := brD_0 _ (by simp [kw0])
@[simp] theorem brD_10 : brD "sum" = 0 := brD_0 _ (by simp [kw0])
@[simp] theorem brD_11 : brD "roll" = 0 := brD_0 _ (by simp [kw0])
@[simp] theorem brD_12 : brD "over" = 0 := brD_0 _ (by simp [kw0])
@[simp] theorem brD_13 : brD "by" = 0 := brD_0 _ (by simp [kw0])
@[simp] theorem brD_14 : brD "of" = 0 := brD_0 _ (by simp [kw0])
@[simp] theorem brD_15 : brD "to" = 0 := brD_0 _ (by simp [kw0])
@[simp] theorem brD_16 : brD "pad" = 0 := brD_0 _ (by simp [kw0])
@[simp] theorem brD_17 : brD "free" = 0 := brD_0 _ (by simp [kw0])
@[simp] theorem brD_18 : brD "rest" = 0 := brD_0 _ (by simp [kw0])
@[simp] theorem brD_19 : brD "part" = 0 := brD_0 _ (by simp [kw0])
@[simp] theorem brD_20 : brD "maybe" = 0 := brD_0 _ (by simp [kw0])
@[simp] theorem brD_21 : brD "many" = 0 := brD_0 _ (by simp [kw0])
@[simp] theorem brD_22 : brD "pick" = 0 := brD_0 _ (by simp [kw0])
@[simp] theorem brD_23 : brD "case" = 0 := brD_0 _ (by simp [kw0])
@[simp] theorem brD_24 : brD "grow" = 0 := brD_0 _ (by simp [kw0])
@[simp] theorem brD_25 : brD "since" = 0 := brD_0 _ (by simp [kw0])
@[simp] theorem brD_26 : brD "nest" = 0 := brD_0 _ (by simp [kw0])
@[simp] theorem brD_27 : brD "inner" = 0 := brD_0 _ (by simp [kw0])
@[simp] theorem brD_28 : brD ";" = 0 := brD_0 _ (by simp [kw0])
@[simp] theorem brD_29 : brD ".." = 0 := brD_0 _ (by simp [kw0])
@[simp] theorem brD_o : brD "{" = 1 := by decide +kernel
@[simp] theorem brD_c : brD "}" = -1 := by decide +kernel
@[simp] theorem pkw_kw (w : Str) (R : List Str) (h : lab w = "word") : pkw (w :: R) = w := by simp [pkw, h]
@[simp] theorem pkk_kw (w : Str) (R : List Str) : pkk (w :: R) = lab w := rfl
theorem pkw_name {z : Str} (R : List Str) (h : lab z = "name") : pkw (z :: R) = "" := by
  have q : ¬ (("name" : Str) = "word") := by decide +kernel
  simp [pkw, h, q]
theorem pkw_num {z : Str} (R : List Str) (h : lab z = "number") : pkw (z :: R) = "" := by
  have q : ¬ (("number" : Str) = "word") := by decide +kernel
  simp [pkw, h, q]
theorem read_num0 (D R : List Str) (b : Int) (z : Str) (h_z : Nm z) (i : Int) (h_i : Fig i) : m_read_num [rdS D (S "num" :: z :: num i :: S ";" :: R) b] = .ok (.tup [.str "num", .str z, .int i, .non]) [some (rdS (D ++ [S "num", z, num i, S ";"]) R b)] := by
  have l_z := lab_name h_z
  have l_i := lab_num h_i
  unfold m_read_num
  rw [fnM_at rfl]
  simp (decide := true) [b_m_read_num, pIn, inB, flatP, eqFl, skip_r, name_r, number_r, peek_r, kind_r, h_i, l_z, l_i]
theorem read_num1 (D R : List Str) (b : Int) (z : Str) (h_z : Nm z) (i : Int) (h_i : Fig i) (j : Int) (h_j : Fig j) (k : Int) (h_k : Fig k) : m_read_num [rdS D (S "num" :: z :: num i :: S "in" :: num j :: S ".." :: num k :: S ";" :: R) b] = .ok (.tup [.str "num", .str z, .int i, .tup [.int j, .int k]]) [some (rdS (D ++ [S "num", z, num i, S "in", num j, S "..", num k, S ";"]) R b)] := by
  have l_z := lab_name h_z
  have l_i := lab_num h_i
  have l_j := lab_num h_j
  have l_k := lab_num h_k
  unfold m_read_num
  rw [fnM_at rfl]
  simp (decide := true) [b_m_read_num, pIn, inB, flatP, eqFl, skip_r, name_r, number_r, peek_r, kind_r, h_i, h_j, h_k, l_z, l_i, l_j, l_k]
theorem read_size (D R : List Str) (b : Int) (z : Str) (h_z : Nm z) (y : Str) (h_y : Nm y) (i : Int) (h_i : Fig i) : m_read_told [rdS D (S "size" :: z :: num i :: S "of" :: y :: S ";" :: R) b, .str "size", .str "of"] = .ok (.tup [.str "size", .str z, .int i, .str y]) [some (rdS (D ++ [S "size", z, num i, S "of", y, S ";"]) R b), some (.str "size"), some (.str "of")] := by
  have l_z := lab_name h_z
  have l_y := lab_name h_y
  have l_i := lab_num h_i
  unfold m_read_told
  rw [fnM_at rfl]
  simp (decide := true) [b_m_read_told, pIn, inB, flatP, eqFl, skip_r, name_r, number_r, peek_r, kind_r, h_i, l_z, l_y, l_i]
theorem read_count (D R : List Str) (b : Int) (z : Str) (h_z : Nm z) (y : Str) (h_y : Nm y) (i : Int) (h_i : Fig i) : m_read_told [rdS D (S "count" :: z :: num i :: S "of" :: y :: S ";" :: R) b, .str "count", .str "of"] = .ok (.tup [.str "count", .str z, .int i, .str y]) [some (rdS (D ++ [S "count", z, num i, S "of", y, S ";"]) R b), some (.str "count"), some (.str "of")] := by
  have l_z := lab_name h_z
  have l_y := lab_name h_y
  have l_i := lab_num h_i
  unfold m_read_told
  rw [fnM_at rfl]
  simp (decide := true) [b_m_read_told, pIn, inB, flatP, eqFl, skip_r, name_r, number_r, peek_r, kind_r, h_i, l_z, l_y, l_i]
theorem read_gap (D R : List Str) (b : Int) (z : Str) (h_z : Nm z) (y : Str) (h_y : Nm y) (i : Int) (h_i : Fig i) : m_read_told [rdS D (S "gap" :: z :: num i :: S "to" :: y :: S ";" :: R) b, .str "gap", .str "to"] = .ok (.tup [.str "gap", .str z, .int i, .str y]) [some (rdS (D ++ [S "gap", z, num i, S "to", y, S ";"]) R b), some (.str "gap"), some (.str "to")] := by
  have l_z := lab_name h_z
  have l_y := lab_name h_y
  have l_i := lab_num h_i
  unfold m_read_told
  rw [fnM_at rfl]
  simp (decide := true) [b_m_read_told, pIn, inB, flatP, eqFl, skip_r, name_r, number_r, peek_r, kind_r, h_i, l_z, l_y, l_i]
theorem read_sum_ok (D R : List Str) (b : Int) (z : Str) (h_z : Nm z) (x : Str) (h_x : Nm x) (y : Str) (h_y : Nm y) (i : Int) (h_i : Fig i) : m_read_sum [rdS D (S "sum" :: z :: num i :: S "over" :: x :: S ".." :: y :: S ";" :: R) b, .str "sum"] = .ok (.tup [.str "sum", .str z, .int i, .str x, .str y]) [some (rdS (D ++ [S "sum", z, num i, S "over", x, S "..", y, S ";"]) R b), some (.str "sum")] := by
  have l_z := lab_name h_z
  have l_x := lab_name h_x
  have l_y := lab_name h_y
  have l_i := lab_num h_i
  unfold m_read_sum
  rw [fnM_at rfl]
  simp (decide := true) [b_m_read_sum, pIn, inB, flatP, eqFl, skip_r, name_r, number_r, peek_r, kind_r, h_i, l_z, l_x, l_y, l_i]
theorem read_roll_ok (D R : List Str) (b : Int) (z : Str) (h_z : Nm z) (x : Str) (h_x : Nm x) (y : Str) (h_y : Nm y) (i : Int) (h_i : Fig i) (j : Int) (h_j : Fig j) : m_read_sum [rdS D (S "roll" :: z :: num i :: S "by" :: num j :: S "over" :: x :: S ".." :: y :: S ";" :: R) b, .str "roll"] = .ok (.tup [.str "roll", .str z, .int i, .int j, .str x, .str y]) [some (rdS (D ++ [S "roll", z, num i, S "by", num j, S "over", x, S "..", y, S ";"]) R b), some (.str "roll")] := by
  have l_z := lab_name h_z
  have l_x := lab_name h_x
  have l_y := lab_name h_y
  have l_i := lab_num h_i
  have l_j := lab_num h_j
  unfold m_read_sum
  rw [fnM_at rfl]
  simp (decide := true) [b_m_read_sum, pIn, inB, flatP, eqFl, skip_r, name_r, number_r, peek_r, kind_r, h_i, h_j, l_z, l_x, l_y, l_i, l_j]
theorem read_pad (D R : List Str) (b : Int) (z : Str) (h_z : Nm z) (i : Int) (h_i : Fig i) : m_read_plain [rdS D (S "pad" :: z :: num i :: S ";" :: R) b, .str "pad"] = .ok (.tup [.str "pad", .str z, .int i]) [some (rdS (D ++ [S "pad", z, num i, S ";"]) R b), some (.str "pad")] := by
  have l_z := lab_name h_z
  have l_i := lab_num h_i
  unfold m_read_plain
  rw [fnM_at rfl]
  simp (decide := true) [b_m_read_plain, pIn, inB, flatP, eqFl, skip_r, name_r, number_r, peek_r, kind_r, h_i, l_z, l_i]
theorem read_free (D R : List Str) (b : Int) (z : Str) (h_z : Nm z) (i : Int) (h_i : Fig i) : m_read_plain [rdS D (S "free" :: z :: num i :: S ";" :: R) b, .str "free"] = .ok (.tup [.str "free", .str z, .int i]) [some (rdS (D ++ [S "free", z, num i, S ";"]) R b), some (.str "free")] := by
  have l_z := lab_name h_z
  have l_i := lab_num h_i
  unfold m_read_plain
  rw [fnM_at rfl]
  simp (decide := true) [b_m_read_plain, pIn, inB, flatP, eqFl, skip_r, name_r, number_r, peek_r, kind_r, h_i, l_z, l_i]
theorem read_rest (D R : List Str) (b : Int) (z : Str) (h_z : Nm z) : m_read_plain [rdS D (S "rest" :: z :: S ";" :: R) b, .str "rest"] = .ok (.tup [.str "rest", .str z]) [some (rdS (D ++ [S "rest", z, S ";"]) R b), some (.str "rest")] := by
  have l_z := lab_name h_z
  unfold m_read_plain
  rw [fnM_at rfl]
  simp (decide := true) [b_m_read_plain, pIn, inB, flatP, eqFl, skip_r, name_r, number_r, peek_r, kind_r, l_z]
theorem read_inner (D R : List Str) (b : Int) (z : Str) (h_z : Nm z) (y : Str) (h_y : Nm y) : m_read_plain [rdS D (S "inner" :: z :: S "of" :: y :: S ";" :: R) b, .str "inner"] = .ok (.tup [.str "inner", .str z, .str y]) [some (rdS (D ++ [S "inner", z, S "of", y, S ";"]) R b), some (.str "inner")] := by
  have l_z := lab_name h_z
  have l_y := lab_name h_y
  unfold m_read_plain
  rw [fnM_at rfl]
  simp (decide := true) [b_m_read_plain, pIn, inB, flatP, eqFl, skip_r, name_r, number_r, peek_r, kind_r, l_z, l_y]
end PVL

/-! R4: items and blocks are read. -/
namespace PVL
open PySem PySem.Spec L2
theorem nms_1 {l : List Str} {a : Str} (h : Nms (a :: l)) : Nm a := h a List.mem_cons_self
theorem nms_2 {l : List Str} {a b : Str} (h : Nms (a :: b :: l)) : Nm b := h b (List.mem_cons_of_mem _ List.mem_cons_self)
theorem nms_3 {l : List Str} {a b c : Str} (h : Nms (a :: b :: c :: l)) : Nm c := h c (List.mem_cons_of_mem _ (List.mem_cons_of_mem _ List.mem_cons_self))
theorem un_item (n : Nat) (a : List PV) : m_read_item (n + 1) a = fnM 1 2 [] (b_m_read_item (m_read_block n) (m_read_item n) (m_read_holder n) (m_read_pick n)) a := rfl
theorem item_sh (n : Nat) (x : PV) (ts : List Str) (h : Sh x ts) (hl : ts.length ≤ 80000) (D R : List Str) (b : Int) : m_read_item (n + 1) [rdS D (ts ++ S ";" :: R) b] = .ok x [some (rdS (D ++ (ts ++ [S ";"])) R b)] := by
  rw [un_item, fnM_at rfl]
  rcases h with ⟨cs, hc, hcn, rfl, rfl⟩ | ⟨z, hz, rfl, rfl⟩ | ⟨z, y, hz, rfl, rfl⟩ | ⟨k, z, y, i, hk, hi, hz, rfl, rfl⟩ | ⟨z, y, i, hi, hz, rfl, rfl⟩ | ⟨z, a, e, i, hi, hz, rfl, rfl⟩ | ⟨z, a, e, i, j, hi, hj, hz, rfl, rfl⟩ | ⟨z, i, hi, hz, rfl, rfl⟩ | ⟨z, i, a, e, hi, ha, he, hz, rfl, rfl⟩ | ⟨k, z, i, hk, hi, hz, rfl, rfl⟩
  · simp only [List.length_cons, List.length_map] at hl
    have e := read_mark_ok cs hc hcn (by omega) D R b
    have hi : immL (cs.map PV.int) = true := immL_map _ _ fun _ _ => rfl
    simp only [List.cons_append, List.append_assoc] at e ⊢
    generalize cs.map num = M at *
    generalize cs.map PV.int = MI at *
    simp (decide := true) [b_m_read_item, peek_r, e]
  · have e := read_rest D R b z (nms_1 hz)
    simp (decide := true) [b_m_read_item, peek_r, pIn, inB, flatP, eqFl, e]
  · have e := read_inner D R b z (nms_1 hz) y (nms_2 hz)
    simp (decide := true) [b_m_read_item, peek_r, pIn, inB, flatP, eqFl, e]
  · rcases hk with rfl | rfl
    · have e := read_size D R b z (nms_1 hz) y (nms_2 hz) i hi
      generalize num i = N at *
      simp (decide := true) [b_m_read_item, peek_r, pIn, inB, flatP, eqFl, e]
    · have e := read_count D R b z (nms_1 hz) y (nms_2 hz) i hi
      generalize num i = N at *
      simp (decide := true) [b_m_read_item, peek_r, pIn, inB, flatP, eqFl, e]
  · have e := read_gap D R b z (nms_1 hz) y (nms_2 hz) i hi
    generalize num i = N at *
    simp (decide := true) [b_m_read_item, peek_r, pIn, inB, flatP, eqFl, e]
  · have e := read_sum_ok D R b z (nms_1 hz) a (nms_2 hz) e (nms_3 hz) i hi
    generalize num i = N at *
    simp (decide := true) [b_m_read_item, peek_r, pIn, inB, flatP, eqFl, e]
  · have e := read_roll_ok D R b z (nms_1 hz) a (nms_2 hz) e (nms_3 hz) i hi j hj
    generalize num i = N at *
    generalize num j = N2 at *
    simp (decide := true) [b_m_read_item, peek_r, pIn, inB, flatP, eqFl, e]
  · have e := read_num0 D R b z (nms_1 hz) i hi
    generalize num i = N at *
    simp (decide := true) [b_m_read_item, peek_r, e]
  · have e := read_num1 D R b z (nms_1 hz) i hi a ha e he
    generalize num i = N at *
    simp (decide := true) [b_m_read_item, peek_r, e]
  · rcases hk with rfl | rfl
    · have e := read_pad D R b z (nms_1 hz) i hi
      generalize num i = N at *
      simp (decide := true) [b_m_read_item, peek_r, pIn, inB, flatP, eqFl, e]
    · have e := read_free D R b z (nms_1 hz) i hi
      generalize num i = N at *
      simp (decide := true) [b_m_read_item, peek_r, pIn, inB, flatP, eqFl, e]
end PVL

/-! R5: items and blocks are read, on. -/
namespace PVL
open PySem PySem.Spec L2
def cBlk : BM := bE (eOp pNe (gOwn (eMCall "TokenReader" "peek" 0 m_TokenReader_peek aNil)) (gOwn (eC (.str "}"))))
def bBlk (r_read_item : FM) : SM := sExpr (eMeth "list" 1 pAppend (aCons (gOwn (eCall r_read_item (aCons (gRef 0) (aNil)))) (aNil)))
theorem block_is2 (a r_read_item c d : FM) : b_m_read_block a r_read_item c d = (sSeq (sExpr (eMCall "TokenReader" "skip" 0 m_TokenReader_skip (aCons (gOwn (eC (.str "{"))) (aNil)))) (sSeq (sAsg (eLst (aNil)) (tgN 1)) (sSeq (whileL cBlk (bBlk r_read_item) 100000) (sSeq (sExpr (eMCall "TokenReader" "skip" 0 m_TokenReader_skip (aCons (gOwn (eC (.str "}"))) (aNil)))) (sRet (eN (rCl pTuple (raCons (rVar 1) (raNil))))))))) := rfl
theorem un_block (n : Nat) (a : List PV) : m_read_block (n + 1) a = fnM 1 2 [] (b_m_read_block (m_read_block n) (m_read_item n) (m_read_holder n) (m_read_pick n)) a := rfl
theorem un_holder (n : Nat) (a : List PV) : m_read_holder (n + 1) a = fnM 2 4 [] (b_m_read_holder (m_read_block n) (m_read_item n) (m_read_holder n) (m_read_pick n)) a := rfl
theorem un_pick (n : Nat) (a : List PV) : m_read_pick (n + 1) a = fnM 1 4 [] (b_m_read_pick (m_read_block n) (m_read_item n) (m_read_holder n) (m_read_pick n)) a := rfl
def Rd (f : FM) (c : Int) (Rl : PV → List Str → Prop) : Prop := ∀ x ts, Rl x ts → ts.length ≤ 80000 → ∀ D R : List Str, f [rdS D (ts ++ R) c] = .ok x [some (rdS (D ++ ts) R c)]
theorem blockW (f : FM) (c : Int) (Rl : PV → List Str → Prop) (hf : Rd f c Rl) (hh : ∀ x ts, Rl x ts → ∀ R, pkw (ts ++ R) ≠ "}") {items : List PV} {tss : List (List Str)} (h : All2 Rl items tss) :
    ∀ (acc : List PV) (D R : List Str) (n : Nat), items.length < n → acc.length + items.length ≤ 200000 → tss.flatten.length ≤ 80000 →
    whileL cBlk (bBlk f) n [some (rdS D (tss.flatten ++ S "}" :: R) c), some (.lst acc)] = .next [some (rdS (D ++ tss.flatten) (S "}" :: R) c), some (.lst (acc ++ items))] := by
  induction h with
  | nil =>
    intro acc D R n hn _ _
    obtain ⟨m, rfl⟩ : ∃ m, n = m + 1 := ⟨n - 1, by simp only [List.length_nil] at hn; omega⟩
    rw [whileL_stop (e := [some (rdS D (S "}" :: R) c), some (.lst acc)]) (by simp [cBlk, peek_r])]
    simp
  | @cons x ts items tss hx r ih =>
    intro acc D R n hn hl ht
    simp only [List.length_cons] at hn hl
    simp only [List.flatten_cons, List.length_append] at ht
    obtain ⟨m, rfl⟩ : ∃ m, n = m + 1 := ⟨n - 1, by omega⟩
    have hz : acc.length < sizeLine := by rw [sizeLine_eq]; omega
    have e := hf x ts hx (by omega) D (tss.flatten ++ S "}" :: R)
    have e2 := ih (acc ++ [x]) (D ++ ts) R m (by omega) (by rw [List.length_append]; simp only [List.length_cons, List.length_nil]; omega) (by omega)
    have hp := hh x ts hx (tss.flatten ++ S "}" :: R)
    rw [List.flatten_cons, List.append_assoc]
    have c1 : cBlk [some (rdS D (ts ++ (tss.flatten ++ S "}" :: R)) c), some (.lst acc)] = .ok true [some (rdS D (ts ++ (tss.flatten ++ S "}" :: R)) c), some (.lst acc)] := by
      generalize ts ++ (tss.flatten ++ S "}" :: R) = T at *
      simp [cBlk, peek_r, hp]
    have b1 : bBlk f [some (rdS D (ts ++ (tss.flatten ++ S "}" :: R)) c), some (.lst acc)] = .next [some (rdS (D ++ ts) (tss.flatten ++ S "}" :: R) c), some (.lst (acc ++ [x]))] := by
      generalize tss.flatten ++ S "}" :: R = T at *
      simp [bBlk, e, hz]
    rw [whileL_turn c1 b1, e2, List.append_assoc, List.append_assoc]
    rfl
theorem block_of2 (n : Nat) (c : Int) (Rl : PV → List Str → Prop) (hf : Rd (m_read_item n) (c + 1) Rl) (hh : ∀ x ts, Rl x ts → ∀ R, pkw (ts ++ R) ≠ "}") (items : List PV) (bs : List Str) (h : TkB Rl items bs) (hi : immL items = true) (hn : items.length ≤ 90000) (hl : bs.length ≤ 80000)
    (D R : List Str) : m_read_block (n + 1) [rdS D (bs ++ R) c] = .ok (.tup items) [some (rdS (D ++ bs) R c)] := by
  obtain ⟨tss, ha, rfl⟩ := h
  simp only [List.length_cons, List.length_append] at hl
  have e := blockW (m_read_item n) (c + 1) Rl hf hh ha [] (D ++ [S "{"]) R 100000 (by omega) (by simp only [List.length_nil]; omega) (by omega)
  have e1 := skip_r D (tss.flatten ++ S "}" :: R) c (S "{") (by simp)
  have e2 := skip_r (D ++ [S "{"] ++ tss.flatten) R (c + 1) (S "}") (by simp)
  rw [un_block, fnM_at rfl, block_is2]
  simp only [List.cons_append, List.append_assoc, List.nil_append] at e e1 e2 ⊢
  generalize tss.flatten = T at *
  simp at e e1 e2 ⊢
  simp [e1, e, e2, hi, Int.add_neg_cancel_right]
/-- a block's reader in a holder, at the braces c -/
def RdB (g : FM) (c : Int) (Rl : PV → List Str → Prop) : Prop := ∀ items bs, TkB Rl items bs → immL items = true → bs.length ≤ 80000 → ∀ D R : List Str, g [rdS D (bs ++ R) c] = .ok (.tup items) [some (rdS (D ++ bs) R c)]
theorem holder_read (n : Nat) (c : Int) (Rl : PV → List Str → Prop) (hg : RdB (m_read_block n) c Rl) (items : List PV) (bs : List Str) (h : TkB Rl items bs) (hi : immL items = true) (hl : bs.length ≤ 80000) (D R : List Str) :
    (∀ i, Fig i → m_read_holder (n + 1) [rdS D (S "since" :: num i :: (bs ++ R)) c, .str "since"] = .ok (.tup [.str "since", .int i, .tup items]) [some (rdS (D ++ (S "since" :: num i :: bs)) R c), some (.str "since")]) ∧
    (∀ k z i, (k = S "grow" ∨ k = S "nest") → Nm z → Fig i → m_read_holder (n + 1) [rdS D (k :: z :: num i :: (bs ++ R)) c, .str k] = .ok (.tup [.str k, .str z, .int i, .tup items]) [some (rdS (D ++ (k :: z :: num i :: bs)) R c), some (.str k)]) ∧
    (∀ k z, (k = S "part" ∨ k = S "maybe" ∨ k = S "many") → Nm z → m_read_holder (n + 1) [rdS D (k :: z :: (bs ++ R)) c, .str k] = .ok (.tup [.str k, .str z, .tup items]) [some (rdS (D ++ (k :: z :: bs)) R c), some (.str k)]) := by
  refine ⟨fun i h_i => ?_, fun k z i hk hz h_i => ?_, fun k z hk hz => ?_⟩
  · have l_i := lab_num h_i
    have e := hg items bs h hi hl (D ++ [S "since", num i]) R
    rw [un_holder, fnM_at rfl]
    simp only [List.append_assoc, List.cons_append, List.nil_append] at e
    simp (decide := true) [b_m_read_holder, pIn, inB, flatP, eqFl, skip_r, name_r, number_r, h_i, l_i, e, hi]
  · have l_i := lab_num h_i
    have l_z := lab_name hz
    have e := hg items bs h hi hl (D ++ [k, z, num i]) R
    rw [un_holder, fnM_at rfl]
    simp only [List.append_assoc, List.cons_append, List.nil_append] at e
    rcases hk with rfl | rfl <;> simp (decide := true) [b_m_read_holder, pIn, inB, flatP, eqFl, skip_r, name_r, number_r, h_i, l_i, l_z, e, hi]
  · have l_z := lab_name hz
    have e := hg items bs h hi hl (D ++ [k, z]) R
    rw [un_holder, fnM_at rfl]
    simp only [List.append_assoc, List.cons_append, List.nil_append] at e
    rcases hk with rfl | rfl | rfl <;> simp (decide := true) [b_m_read_holder, pIn, inB, flatP, eqFl, skip_r, name_r, number_r, l_z, e, hi]
def cPck : BM := bOr (bNot (bTru (rVar 2))) (bE (eOp pNe (gOwn (eMCall "TokenReader" "peek" 0 m_TokenReader_peek aNil)) (gOwn (eC (.str "}")))))
def bPck (r_read_block : FM) : SM := sSeq (sExpr (eMCall "TokenReader" "skip" 0 m_TokenReader_skip (aCons (gOwn (eC (.str "case"))) (aNil)))) (sSeq (sAsg (eMCall "TokenReader" "read_name" 0 m_TokenReader_read_name aNil) (tgN 3)) (sExpr (eMeth "list" 2 pAppend (aCons (gOwn (eTup (aCons (gOwn (eVar 3)) (aCons (gOwn (eCall r_read_block (aCons (gRef 0) (aNil)))) (aNil))))) (aNil)))))
theorem pick_is2 (r_read_block b c d : FM) : b_m_read_pick r_read_block b c d = (sSeq (sExpr (eMCall "TokenReader" "skip" 0 m_TokenReader_skip (aCons (gOwn (eC (.str "pick"))) (aNil)))) (sSeq (sAsg (eMCall "TokenReader" "read_name" 0 m_TokenReader_read_name aNil) (tgN 1)) (sSeq (sExpr (eMCall "TokenReader" "skip" 0 m_TokenReader_skip (aCons (gOwn (eC (.str "{"))) (aNil)))) (sSeq (sAsg (eLst (aNil)) (tgN 2)) (sSeq (whileL cPck (bPck r_read_block) 100000) (sSeq (sExpr (eMCall "TokenReader" "skip" 0 m_TokenReader_skip (aCons (gOwn (eC (.str "}"))) (aNil)))) (sRet (eTup (aCons (gOwn (eC (.str "pick"))) (aCons (gOwn (eVar 1)) (aCons (gOwn (eN (rCl pTuple (raCons (rVar 2) (raNil))))) (aNil)))))))))))) := rfl
theorem pickW (g : FM) (c : Int) (Rl : PV → List Str → Prop) (hg : RdB g c Rl) (y1 : Option PV) : ∀ (cs : List (Str × List PV × List Str)) (acc : List PV) (D R : List Str) (n : Nat) (y3 : Option PV), (∀ k ∈ cs, immL k.2.1 = true ∧ TkB Rl k.2.1 k.2.2) → (∀ k ∈ cs, Nm k.1) → (cs ≠ [] ∨ acc ≠ []) → cs.length < n →
    acc.length + cs.length ≤ 200000 → (cs.map fun k => caseT (k.1, k.2.2)).flatten.length ≤ 80000 →
    ∃ y3', whileL cPck (bPck g) n [some (rdS D ((cs.map fun k => caseT (k.1, k.2.2)).flatten ++ S "}" :: R) c), y1, some (.lst acc), y3] = .next [some (rdS (D ++ (cs.map fun k => caseT (k.1, k.2.2)).flatten) (S "}" :: R) c), y1, some (.lst (acc ++ cs.map fun k => .tup [.str k.1, .tup k.2.1])), y3'] := by
  intro cs
  induction cs with
  | nil =>
    intro acc D R n y3 _ _ ha hn _ _
    obtain ⟨m, rfl⟩ : ∃ m, n = m + 1 := ⟨n - 1, by simp only [List.length_nil] at hn; omega⟩
    have ha : acc ≠ [] := by
      rcases ha with h | h
      · exact absurd rfl h
      · exact h
    refine ⟨y3, ?_⟩
    have hE : acc.isEmpty = false := by cases acc with
      | nil => exact absurd rfl ha
      | cons _ _ => rfl
    rw [whileL_stop (e := [some (rdS D (S "}" :: R) c), y1, some (.lst acc), y3]) (by simp [cPck, peek_r, hE])]
    simp
  | cons k cs ih =>
    intro acc D R n y3 hc hm _ hn hl ht
    simp only [List.length_cons] at hn hl
    rw [List.map_cons, List.flatten_cons, List.length_append, show (caseT (k.1, k.2.2)).length = k.2.2.length + 2 from rfl] at ht
    obtain ⟨m, rfl⟩ : ∃ m, n = m + 1 := ⟨n - 1, by omega⟩
    have hz : acc.length < sizeLine := by rw [sizeLine_eq]; omega
    obtain ⟨ki, kb⟩ := hc k List.mem_cons_self
    have lk := lab_name (hm k List.mem_cons_self)
    have e := hg k.2.1 k.2.2 kb ki (by omega) (D ++ [S "case", k.1]) ((cs.map fun k => caseT (k.1, k.2.2)).flatten ++ S "}" :: R)
    obtain ⟨y3', e2⟩ := ih (acc ++ [.tup [.str k.1, .tup k.2.1]]) (D ++ (S "case" :: k.1 :: k.2.2)) R m (some (.str k.1)) (fun z h => hc z (List.mem_cons_of_mem _ h)) (fun z h => hm z (List.mem_cons_of_mem _ h)) (.inr (by simp)) (by omega) (by rw [List.length_append]; simp only [List.length_cons, List.length_nil]; omega) (by omega)
    refine ⟨y3', ?_⟩
    simp only [List.map_cons, List.flatten_cons, caseT, List.cons_append, List.append_assoc, List.nil_append] at e e2 ⊢
    generalize (cs.map fun k => S "case" :: k.1 :: k.2.2).flatten = T at *
    have c1 : cPck [some (rdS D (S "case" :: k.1 :: (k.2.2 ++ (T ++ S "}" :: R))) c), y1, some (.lst acc), y3] = .ok true [some (rdS D (S "case" :: k.1 :: (k.2.2 ++ (T ++ S "}" :: R))) c), y1, some (.lst acc), y3] := by
      cases hE : acc.isEmpty <;> simp (decide := true) [cPck, peek_r, hE]
    have b1 : bPck g [some (rdS D (S "case" :: k.1 :: (k.2.2 ++ (T ++ S "}" :: R))) c), y1, some (.lst acc), y3] = .next [some (rdS (D ++ S "case" :: k.1 :: k.2.2) (T ++ S "}" :: R) c), y1, some (.lst (acc ++ [.tup [.str k.1, .tup k.2.1]])), some (.str k.1)] := by
      simp (decide := true) [bPck, skip_r, name_r, lk, e, ki, hz]
    rw [whileL_turn c1 b1]
    exact e2
theorem pick_read (n : Nat) (c : Int) (Rl : PV → List Str → Prop) (hg : RdB (m_read_block n) (c + 1) Rl) (z : Str) (hz : Nm z) (cs : List (Str × List PV × List Str)) (hc : ∀ k ∈ cs, immL k.2.1 = true ∧ TkB Rl k.2.1 k.2.2) (hm : ∀ k ∈ cs, Nm k.1) (h0 : 0 < cs.length) (hn : cs.length ≤ 90000)
    (hl : (cs.map fun k => caseT (k.1, k.2.2)).flatten.length ≤ 80000) (D R : List Str) :
    m_read_pick (n + 1) [rdS D (S "pick" :: z :: S "{" :: ((cs.map fun k => caseT (k.1, k.2.2)).flatten ++ S "}" :: R)) c] = .ok (.tup [.str "pick", .str z, .tup (cs.map fun k => .tup [.str k.1, .tup k.2.1])]) [some (rdS (D ++ (S "pick" :: z :: S "{" :: ((cs.map fun k => caseT (k.1, k.2.2)).flatten ++ [S "}"]))) R c)] := by
  have lz := lab_name hz
  have hci := imm_cases hc
  obtain ⟨y3, e⟩ := pickW (m_read_block n) (c + 1) Rl hg (some (.str z)) cs [] (D ++ [S "pick", z, S "{"]) R 100000 none hc hm (.inl (by intro q; subst q; simp at h0)) (by omega) (by simp only [List.length_nil]; omega) hl
  rw [un_pick, fnM_at rfl, pick_is2]
  generalize (cs.map fun k => caseT (k.1, k.2.2)).flatten = T at *
  generalize (cs.map fun k => PV.tup [.str k.1, .tup k.2.1]) = C at *
  simp only [List.append_assoc, List.cons_append, List.nil_append] at e
  simp (decide := true) [skip_r, name_r, lz, e, hci, Int.add_neg_cancel_right]
end PVL

/-! R6: whole trees are read from their tokens. -/
namespace PVL
open PySem PySem.Spec L2
theorem kw_cl : ∀ w ∈ kwL, w ≠ "}" → pkw [w] ≠ "}" := by
  intro w hw h
  rw [pkw_kw w [] (lab_kw hw)]
  exact h
theorem pkw_hd {w : Str} {r R : List Str} (hw : w ∈ kwL) (h : w ≠ "}") : pkw (w :: r ++ R) ≠ "}" := by
  rw [List.cons_append, pkw_kw w _ (lab_kw hw)]
  exact h
theorem sh_hd {x : PV} {ts : List Str} (h : Sh x ts) : ∃ w r, ts = w :: r ∧ w ∈ kwL ∧ w ≠ "}" := by
  have q : ∀ w ∈ ([S "mark", S "rest", S "inner", S "size", S "count", S "gap", S "sum", S "roll", S "num", S "pad", S "free"] : List Str), w ∈ kwL ∧ w ≠ "}" := by decide +kernel
  rcases h with ⟨_, _, _, _, rfl⟩ | ⟨_, _, _, rfl⟩ | ⟨_, _, _, _, rfl⟩ | ⟨k, _, _, _, hk, _, _, _, rfl⟩ | ⟨_, _, _, _, _, _, rfl⟩ | ⟨_, _, _, _, _, _, _, rfl⟩ | ⟨_, _, _, _, _, _, _, _, _, rfl⟩ | ⟨_, _, _, _, _, rfl⟩ | ⟨_, _, _, _, _, _, _, _, _, rfl⟩ | ⟨k, _, _, hk, _, _, _, rfl⟩
  case inr.inr.inr.inl => rcases hk with rfl | rfl <;> exact ⟨_, _, rfl, q _ (by simp)⟩
  case inr.inr.inr.inr.inr.inr.inr.inr.inr => rcases hk with rfl | rfl <;> exact ⟨_, _, rfl, q _ (by simp)⟩
  all_goals exact ⟨_, _, rfl, q _ (by simp)⟩
theorem tk_hd {n : Nat} {x : PV} {ts : List Str} (h : Tk n x ts) : ∃ w r, ts = w :: r ∧ w ∈ kwL ∧ w ≠ "}" := by
  have q : ∀ w ∈ ([S "since", S "pick", S "grow", S "nest", S "part", S "maybe", S "many"] : List Str), w ∈ kwL ∧ w ≠ "}" := by decide +kernel
  cases n with
  | zero => exact h.elim
  | succ n =>
    replace h := Tk_cases h
    rcases h with ⟨t0, h, rfl⟩ | ⟨_, _, _, _, _, _, _, rfl⟩ | ⟨_, _, _, _, _, rfl⟩ | ⟨k, _, _, _, _, hk, _, _, _, _, _, rfl⟩ | ⟨k, _, _, _, hk, _, _, _, _, rfl⟩
    · obtain ⟨w, r, rfl, h2⟩ := sh_hd h
      exact ⟨w, r ++ [S ";"], rfl, h2⟩
    · exact ⟨_, _, rfl, q _ (by simp)⟩
    · exact ⟨_, _, rfl, q _ (by simp)⟩
    · rcases hk with rfl | rfl <;> exact ⟨_, _, rfl, q _ (by simp)⟩
    · rcases hk with rfl | rfl | rfl <;> exact ⟨_, _, rfl, q _ (by simp)⟩
theorem tk_pk {n : Nat} : ∀ x ts, Tk n x ts → ∀ R, pkw (ts ++ R) ≠ "}" := by
  intro x ts h R
  obtain ⟨w, r, rfl, hw, hn⟩ := tk_hd h
  exact pkw_hd hw hn
theorem tkb_items {n : Nat} {items : List PV} {bs : List Str} (h : TkB (Tk n) items bs) : items.length ≤ bs.length := by
  obtain ⟨tss, ha, rfl⟩ := h
  have := all2_tk_len ha
  simp only [List.length_cons, List.length_append]; omega
theorem block_rd (k m : Nat) (c : Int) (hr : Rd (m_read_item m) (c + 1) (Tk k)) : RdB (m_read_block (m + 1)) c (Tk k) := by
  intro items bs h hi hl D R
  exact block_of2 m c (Tk k) hr tk_pk items bs h hi (by have := tkb_items h; omega) hl D R
theorem item_rd : ∀ (k n : Nat) (c : Int), 3 * k ≤ n → c + k ≤ 13 → Rd (m_read_item n) c (Tk k) := by
  intro k
  induction k using Nat.strongRecOn with
  | _ k ih =>
  cases k with
  | zero => intro n c _ _ x ts h; exact h.elim
  | succ k =>
    intro n c hn hc x ts h hl D R
    obtain ⟨m, rfl⟩ : ∃ m, n = m + 1 + 1 + 1 := ⟨n - 3, by omega⟩
    rw [Tk_succ] at h
    rcases h with ⟨t0, h, rfl⟩ | ⟨hk, i, items, bs, h_i, him, hb, rfl, rfl⟩ | ⟨hk, z, cs, hcs, ⟨h0, hnm⟩, rfl, rfl⟩ | ⟨hk, kd, z, i, items, bs, hkd, h_i, him, hb, hnm, rfl, rfl⟩ | ⟨hk, kd, z, items, bs, hkd, him, hb, hnm, rfl, rfl⟩
    · have e := item_sh (m + 1 + 1) x t0 h (by rw [List.length_append] at hl; omega) D R c
      rw [List.append_assoc]
      exact e
    · simp only [List.length_cons] at hl
      have hg := block_rd k m c (ih k (by omega) m (c + 1) (by omega) (by omega))
      have e := (holder_read (m + 1) c (Tk k) hg items bs hb him (by omega) D R).1 i h_i
      have h12 : c < 12 := by omega
      rw [un_item, fnM_at rfl]
      simp only [List.cons_append] at e ⊢
      generalize num i = N at *
      simp (decide := true) [b_m_read_item, peek_r, pIn, inB, flatP, eqFl, e, h12, him]
    · simp only [List.length_cons, List.length_append, List.length_nil] at hl
      have hg := block_rd (k - 1) m (c + 1) (ih (k - 1) (by omega) m (c + 1 + 1) (by omega) (by omega))
      have e := pick_read (m + 1) c (Tk (k - 1)) hg z (nms_1 hnm) cs hcs (fun q hq => hnm _ (List.mem_cons_of_mem _ (List.mem_map_of_mem hq))) h0 (by have := cases_len cs; omega) (by omega) D R
      have h12 : c + 1 < 12 := by omega
      have hci := imm_cases hcs
      rw [un_item, fnM_at rfl]
      simp only [List.cons_append, List.append_assoc, List.nil_append] at e ⊢
      generalize (cs.map fun k => caseT (k.1, k.2.2)).flatten = T at *
      generalize (cs.map fun k => PV.tup [.str k.1, .tup k.2.1]) = C at *
      simp (decide := true) [b_m_read_item, peek_r, pIn, inB, flatP, eqFl, e, h12, hci]
    · simp only [List.length_cons] at hl
      have hg := block_rd k m c (ih k (by omega) m (c + 1) (by omega) (by omega))
      have e := (holder_read (m + 1) c (Tk k) hg items bs hb him (by omega) D R).2.1 kd z i hkd (nms_1 hnm) h_i
      have h12 : c < 12 := by omega
      rw [un_item, fnM_at rfl]
      simp only [List.cons_append] at e ⊢
      generalize num i = N at *
      rcases hkd with rfl | rfl <;> simp (decide := true) [b_m_read_item, peek_r, pIn, inB, flatP, eqFl, e, h12, him]
    · simp only [List.length_cons] at hl
      have hg := block_rd k m c (ih k (by omega) m (c + 1) (by omega) (by omega))
      have e := (holder_read (m + 1) c (Tk k) hg items bs hb him (by omega) D R).2.2 kd z hkd (nms_1 hnm)
      have h12 : c < 12 := by omega
      rw [un_item, fnM_at rfl]
      simp only [List.cons_append] at e ⊢
      rcases hkd with rfl | rfl | rfl <;> simp (decide := true) [b_m_read_item, peek_r, pIn, inB, flatP, eqFl, e, h12, him]
/-- the tokens of a tree, the version 1 told or left out -/
def HeadOk (nm : Str) (base ver : Int) (hd : List Str) : Prop := hd = headT nm base ver ∨ (ver = 1 ∧ hd = [S "format", nm, S "base", num base, S "version", num 1])
theorem init_r (T : List Str) : m_TokenReader___init__ [.obj "TokenReader" [], .lst (T.map tokP)] = .ok .non [some (rdS [] T 0), none] := by
  have q1 : ¬ (("tokens" : Str) = "place") := by decide +kernel
  have q2 : ¬ (("tokens" : Str) = "braces") := by decide +kernel
  have q3 : ¬ (("place" : Str) = "braces") := by decide +kernel
  unfold m_TokenReader___init__
  rw [fnM_at rfl]
  simp [b_m_TokenReader___init__, fldS, putP, q1, q2, q3, rdS]
theorem format_ok (text : Str) {nm : Str} {base ver : Int} {items : List PV} {bs hd : List Str} (h : IsTree nm base ver items bs) (hh : HeadOk nm base ver hd) (hl : bs.length ≤ 60000) (ht : m_tokens_of [.str text] = .ok (.lst ((hd ++ bs).map tokP)) [some (.str text)]) :
    m_read_format [.str text] = .ok (treeV nm base ver items) [some (.str text)] := by
  have lz := lab_name h.nn
  have lb := lab_num h.b
  have lv := lab_num h.v
  have h_b := h.b
  have h_v := h.v
  have hb : ∀ D R : List Str, m_read_block 45 [rdS D (bs ++ R) 0] = .ok (.tup items) [some (rdS (D ++ bs) R 0)] := block_rd 12 44 0 (item_rd 12 44 1 (by omega) (by omega)) items bs h.t h.i (by omega)
  have bh : ∃ r, bs = S "{" :: r := by
    obtain ⟨tss, _, e⟩ := h.t
    exact ⟨_, e⟩
  have ei := init_r (hd ++ bs)
  generalize (hd ++ bs).map tokP = TP at ht ei
  have pk : pkw bs ≠ "version" := by
    obtain ⟨r, er⟩ := bh
    rw [er, pkw_kw _ _ (by simp)]
    decide +kernel
  have hi := h.i
  unfold m_read_format
  rw [fnM_at rfl]
  have hv0 : HeadOk nm base ver hd → hd = [S "format", nm, S "base", num base] ∧ ver = 1 ∨ hd = [S "format", nm, S "base", num base, S "version", num ver] := by
    rintro (rfl | ⟨rfl, rfl⟩)
    · unfold headT
      by_cases h1 : ver = 1
      · rw [if_pos h1]; exact .inl ⟨rfl, h1⟩
      · rw [if_neg h1]; exact .inr rfl
    · exact .inr rfl
  rcases hv0 hh with ⟨rfl, rfl⟩ | rfl
  · have e := hb [S "format", nm, S "base", num base] []
    simp only [List.append_nil] at e
    clear hb hh
    simp only [List.cons_append, List.nil_append] at ei e
    generalize hB : num base = B at *
    have nr : ∀ D R b, m_TokenReader_read_number [rdS D (B :: R) b] = .ok (.int base) [some (rdS (D ++ [B]) R b)] := by
      intro D R b; subst hB; exact number_r D R b h_b lb
    simp (decide := true) [b_m_read_format, ht, ei, skip_r, name_r, nr, peek_r, lz, pk, e, hi, treeV]
  · have e := hb [S "format", nm, S "base", num base, S "version", num ver] []
    simp only [List.append_nil] at e
    clear hb hh
    simp only [List.cons_append, List.nil_append] at ei e
    generalize hB : num base = B at *
    generalize hV : num ver = V at *
    have nr : ∀ D R b, m_TokenReader_read_number [rdS D (B :: R) b] = .ok (.int base) [some (rdS (D ++ [B]) R b)] := by
      intro D R b; subst hB; exact number_r D R b h_b lb
    have nv : ∀ D b, m_TokenReader_read_number [rdS D (V :: bs) b] = .ok (.int ver) [some (rdS (D ++ [V]) bs b)] := by
      intro D b; subst hV; exact number_r D bs b h_v lv
    simp (decide := true) [b_m_read_format, ht, ei, skip_r, name_r, nr, nv, peek_r, lz, pk, e, hi, treeV]
end PVL

/-! T1: texts are cut into tokens: runs. -/
namespace PVL
open PySem PySem.Spec L2
def ofL (l : List Nat) : Str := ⟨l.toArray⟩
@[simp] theorem ofL_cps (l : List Nat) : (ofL l).cps.toList = l := rfl
@[simp] theorem ofL_len (l : List Nat) : (ofL l).length = l.length := by simp [ofL, Str.length]
theorem ofL_str (z : Str) : ofL z.cps.toList = z := by cases z; rfl
theorem cut_mid (A t R : List Nat) : cutS (ofL (A ++ (t ++ R))) (some (A.length : Int)) (some ((A.length : Int) + t.length)) = ofL t := by
  unfold cutS
  have h2 : ((A.length : Int) + t.length) = ((A.length + t.length : Nat) : Int) := by omega
  rw [h2, HT.sIx_nat, HT.sIx_nat, ofL_len, ofL_cps]
  have e1 : min A.length (A ++ (t ++ R)).length = A.length := by rw [List.length_append]; omega
  have e2 : min (A.length + t.length) (A ++ (t ++ R)).length = A.length + t.length := by rw [List.length_append, List.length_append]; omega
  rw [e1, e2, List.drop_left, Nat.add_sub_cancel_left, List.take_left]
  rfl
theorem cut_two (A R : List Nat) : cutS (ofL (A ++ R)) (some (A.length : Int)) (some ((A.length : Int) + 2)) = ofL (R.take 2) := by
  unfold cutS
  have h2 : ((A.length : Int) + 2) = ((A.length + 2 : Nat) : Int) := by omega
  rw [h2, HT.sIx_nat, HT.sIx_nat, ofL_len, ofL_cps]
  have e1 : min A.length (A ++ R).length = A.length := by rw [List.length_append]; omega
  rw [e1, List.drop_left]
  have e2 : R.take (min (A.length + 2) (A ++ R).length - A.length) = R.take 2 := by
    rw [List.length_append]
    by_cases h : 2 ≤ R.length
    · congr 1; omega
    · rw [List.take_of_length_le (by omega), List.take_of_length_le (by omega)]
  rw [e2]
  rfl
theorem pIn_sign (c : Nat) (z : Str) : pIn (.str ⟨#[c]⟩) (.str z) = some (.bl (decide (c ∈ z.cps.toList))) := by
  show some (PV.bl (!(Builtin.Str.occurrences z ⟨#[c]⟩ 0 z.length 1).isEmpty)) = _
  rw [PySem.StrLaws.found_one z c]
theorem pNotIn_sign (c : Nat) (z : Str) : pNotIn (.str ⟨#[c]⟩) (.str z) = some (.bl (!decide (c ∈ z.cps.toList))) := by
  show some (PV.bl (!(!(Builtin.Str.occurrences z ⟨#[c]⟩ 0 z.length 1).isEmpty))) = _
  rw [PySem.StrLaws.found_one z c]
theorem pLen_s (z : Str) (h : z.length ≤ 1000000) : pLen [.str z] = some (.int z.length) := by
  have : z.length ≤ sizeLine := le_size h
  simp [pLen, lenP, this]
theorem pIx_at (A L : List Nat) (c : Nat) (h : (A ++ c :: L).length ≤ 1000000) : pIx (.str (ofL (A ++ c :: L))) (.int (A.length : Int)) = some (.str ⟨#[c]⟩) := by
  show (if (ofL (A ++ c :: L)).length ≤ sizeLine then (atI (ofL (A ++ c :: L)).cps.toList (A.length : Int)).map fun c => PV.str ⟨#[c]⟩ else none) = _
  rw [if_pos (by rw [ofL_len]; exact le_size h), ofL_cps, at_nat _ _ (by omega)]
  simp
/-! runs -/
def lowS : Str := "abcdefghijklmnopqrstuvwxyz"
def capS : Str := "ABCDEFGHIJKLMNOPQRSTUVWXYZ"
def digS : Str := "0123456789"
def anS : Str := (lowS ++ capS) ++ digS
def anL : List Nat := anS.cps.toList
theorem an_lens : lowS.length = 26 ∧ capS.length = 26 ∧ digS.length = 10 := by decide +kernel
theorem an_of (c : Nat) (h : chAn c = true) : c ∈ anL := by
  have q : ∀ c < 128, chAn c = true → c ∈ anL := by decide +kernel
  refine q c ?_ h
  unfold chAn chLow chDig at h
  simp only [Bool.or_eq_true, Bool.and_eq_true, decide_eq_true_eq] at h
  omega
theorem an_no : 32 ∉ anL ∧ 10 ∉ anL ∧ 123 ∉ anL ∧ 125 ∉ anL ∧ 59 ∉ anL ∧ 46 ∉ anL := by decide +kernel
theorem an_low (c : Nat) (h : chLow c = true) : c ∈ lowS.cps.toList := by
  have q : ∀ c < 128, chLow c = true → c ∈ lowS.cps.toList := by decide +kernel
  refine q c ?_ h
  unfold chLow at h
  simp only [Bool.and_eq_true, decide_eq_true_eq] at h
  omega
theorem an_ld (c : Nat) (h : chAn c = true) : c ∈ (lowS ++ digS).cps.toList := by
  have q : ∀ c < 128, chAn c = true → c ∈ (lowS ++ digS).cps.toList := by decide +kernel
  refine q c ?_ h
  unfold chAn chLow chDig at h
  simp only [Bool.or_eq_true, Bool.and_eq_true, decide_eq_true_eq] at h
  omega
theorem an_dig (c : Nat) (h : chDig c = true) : c ∈ digS.cps.toList ∧ c ∉ lowS.cps.toList := by
  have q : ∀ c < 128, chDig c = true → c ∈ digS.cps.toList ∧ c ∉ lowS.cps.toList := by decide +kernel
  refine q c ?_ h
  unfold chDig at h
  simp only [Bool.and_eq_true, decide_eq_true_eq] at h
  omega
def cRun : BM := bAnd (bE (eN (rOp pLt (rVar 2) (rCl pLen (raCons (rVar 0) (raNil)))))) (bE (eN (rOp pIn (rOp pIx (rVar 0) (rVar 2)) (rOp pAdd (rOp pAdd (rC (.str lowS)) (rC (.str capS))) (rC (.str digS))))))
def bRun : SM := sAug 2 pAddI (eC (.int 1))
theorem run_is : b_m_run_end = (sSeq (sAsg (eVar 1) (tgN 2)) (sSeq (whileL cRun bRun 100000) (sRet (eVar 2)))) := rfl
theorem an_z : lowS.length + capS.length ≤ sizeLine ∧ (lowS ++ capS).length + digS.length ≤ sizeLine ∧ lowS.length + digS.length ≤ sizeLine := by
  obtain ⟨h1, h2, h3⟩ := an_lens
  exact ⟨le_size (by omega), le_size (by rw [Str.length_append]; omega), le_size (by omega)⟩
theorem cRun_at (B L : List Nat) (c : Nat) (h : (B ++ c :: L).length ≤ 1000000) (y1 : Option PV) : cRun [some (.str (ofL (B ++ c :: L))), y1, some (.int B.length)] = .ok (decide (c ∈ anL)) [some (.str (ofL (B ++ c :: L))), y1, some (.int B.length)] := by
  have e1 := pIx_at B L c h
  have e2 := pLen_s (ofL (B ++ c :: L)) (by rw [ofL_len]; exact h)
  have e3 := pIn_sign c ((lowS ++ capS) ++ digS)
  have hl : (B.length : Int) < ((B ++ c :: L).length : Nat) := by rw [List.length_append, List.length_cons]; omega
  obtain ⟨z1, z2, _⟩ := an_z
  rw [ofL_len] at e2
  have e4 : decide (c ∈ anL) = decide (c ∈ ((lowS ++ capS) ++ digS).cps.toList) := rfl
  rw [e4]
  generalize B ++ c :: L = T at *
  generalize decide (c ∈ ((lowS ++ capS) ++ digS).cps.toList) = d at *
  simp [cRun, e1, e2, e3, hl, z1, z2]
theorem cRun_end (B : List Nat) (h : B.length ≤ 1000000) (y1 : Option PV) : cRun [some (.str (ofL B)), y1, some (.int B.length)] = .ok false [some (.str (ofL B)), y1, some (.int B.length)] := by
  have e2 := pLen_s (ofL B) (by rw [ofL_len]; exact h)
  rw [ofL_len] at e2
  simp [cRun, e2]
/-- the run ends here -/
def NoAn (L : List Nat) : Prop := ∀ c r, L = c :: r → c ∉ anL
theorem cRun_stop (B L : List Nat) (hL : NoAn L) (h : (B ++ L).length ≤ 1000000) (y1 : Option PV) : cRun [some (.str (ofL (B ++ L))), y1, some (.int B.length)] = .ok false [some (.str (ofL (B ++ L))), y1, some (.int B.length)] := by
  cases L with
  | nil => rw [List.append_nil] at h ⊢; exact cRun_end B h y1
  | cons c r =>
    rw [cRun_at B r c h y1]
    have := hL c r rfl
    simp [this]
theorem runW (y1 : Option PV) : ∀ (run B L : List Nat) (n : Nat), (∀ c ∈ run, c ∈ anL) → NoAn L → run.length < n → (B ++ (run ++ L)).length ≤ 1000000 →
    whileL cRun bRun n [some (.str (ofL (B ++ (run ++ L)))), y1, some (.int B.length)] = .next [some (.str (ofL (B ++ (run ++ L)))), y1, some (.int ((B.length : Int) + run.length))] := by
  intro run
  induction run with
  | nil =>
    intro B L n _ hL hn h
    obtain ⟨m, rfl⟩ : ∃ m, n = m + 1 := ⟨n - 1, by simp only [List.length_nil] at hn; omega⟩
    rw [List.nil_append] at h ⊢
    rw [whileL_stop (cRun_stop B L hL h y1)]
    simp
  | cons c run ih =>
    intro B L n hc hL hn h
    simp only [List.length_cons] at hn
    obtain ⟨m, rfl⟩ : ∃ m, n = m + 1 := ⟨n - 1, by omega⟩
    have c1 := cRun_at B (run ++ L) c (by simpa using h) y1
    have hin : c ∈ anL := hc c List.mem_cons_self
    rw [decide_eq_true hin] at c1
    have b1 : bRun [some (.str (ofL (B ++ c :: (run ++ L)))), y1, some (.int B.length)] = .next [some (.str (ofL (B ++ c :: (run ++ L)))), y1, some (.int ((B.length : Int) + 1))] := by simp [bRun]
    rw [List.cons_append, whileL_turn c1 b1]
    have e := ih (B ++ [c]) L m (fun x hx => hc x (List.mem_cons_of_mem _ hx)) hL (by omega) (by simpa using h)
    have e1 : (B ++ [c]) ++ (run ++ L) = B ++ c :: (run ++ L) := by simp
    have e2 : (((B ++ [c]).length : Nat) : Int) = (B.length : Int) + 1 := by simp
    rw [e1, e2] at e
    have e3 : (B.length : Int) + 1 + run.length = (B.length : Int) + ((run.length + 1 : Nat) : Int) := by omega
    rw [e, List.length_cons, e3]
theorem run_end_ok (A run L : List Nat) (hr : ∀ c ∈ run, c ∈ anL) (hL : NoAn L) (hn : run.length < 1000) (h : (A ++ (run ++ L)).length ≤ 1000000) :
    m_run_end [.str (ofL (A ++ (run ++ L))), .int A.length] = .ok (.int ((A.length : Int) + run.length)) [some (.str (ofL (A ++ (run ++ L)))), some (.int A.length)] := by
  have e := runW (some (.int A.length)) run A L 100000 hr hL (by omega) h
  unfold m_run_end
  rw [fnM_at rfl, run_is]
  generalize A ++ (run ++ L) = T at *
  simp [e]
/-! kinds of runs -/
def bAll : SM := sIf (bE (eN (rOp pNotIn (rVar 2) (rVar 1)))) (sRet (eC (.bl false))) (sNil)
theorem all_is : b_m_all_in = (sSeq (sFor (itC (eVar 0)) (tgN 2) bAll) (sRet (eC (.bl true)))) := rfl
theorem allL (z : Str) (y0 : Option PV) : ∀ (l : List Nat) (y2 : Option PV), (∀ c ∈ l, c ∈ z.cps.toList) → ∃ y2', forL (tgN 2) bAll (l.map fun c => PV.str ⟨#[c]⟩) [y0, some (.str z), y2] = .next [y0, some (.str z), y2'] := by
  intro l
  induction l with
  | nil => intro y2 _; exact ⟨y2, rfl⟩
  | cons c l ih =>
    intro y2 h
    obtain ⟨y2', e⟩ := ih (some (.str ⟨#[c]⟩)) fun x hx => h x (List.mem_cons_of_mem _ hx)
    refine ⟨y2', ?_⟩
    have hc := h c List.mem_cons_self
    have e1 := pNotIn_sign c z
    have e2 : bAll [y0, some (.str z), some (.str ⟨#[c]⟩)] = .next [y0, some (.str z), some (.str ⟨#[c]⟩)] := by simp [bAll, e1, hc]
    rw [List.map_cons, forL_at (e := [y0, some (.str z), some (.str ⟨#[c]⟩)]) rfl, e2, loopK_next, e]
theorem all_in_ok (t z : Str) (h : ∀ c ∈ t.cps.toList, c ∈ z.cps.toList) : m_all_in [.str t, .str z] = .ok (.bl true) [some (.str t), some (.str z)] := by
  obtain ⟨y2, e⟩ := allL z (some (.str t)) t.cps.toList none h
  unfold m_all_in
  rw [fnM_at rfl, all_is]
  simp [chrs, e]
end PVL

/-! T2: texts are cut into tokens. -/
namespace PVL
open PySem PySem.Spec L2
theorem name_is2 : b_m_is_name = (sRet (eAnd (eR (rChain pLe pLe (rC (.int 1)) (rCl pLen (raCons (rVar 0) (raNil))) (rC (.int 8)))) (eAnd (eN (rOp pIn (rOp pIx (rVar 0) (rC (.int 0))) (rC (.str lowS)))) (eCall m_all_in (aCons (gRef 0) (aCons (gOwn (eN (rOp pAdd (rC (.str lowS)) (rC (.str digS))))) (aNil))))))) := rfl
theorem number_is2 : b_m_is_number = (sSeq (sIf (bOr (bNot (bE (eR (rChain pLe pLe (rC (.int 1)) (rCl pLen (raCons (rVar 0) (raNil))) (rC (.int 4)))))) (bNot (bE (eCall m_all_in (aCons (gRef 0) (aCons (gOwn (eR (rC (.str digS)))) (aNil))))))) (sRet (eC (.bl false))) (sNil)) (sRet (eOr (eN (rOp pEq (rVar 0) (rC (.str "0")))) (eN (rOp pNe (rOp pIx (rVar 0) (rC (.int 0))) (rC (.str "0"))))))) := rfl
theorem pIx_0 (c : Nat) (L : List Nat) (h : (c :: L).length ≤ 1000000) : pIx (.str (ofL (c :: L))) (.int 0) = some (.str ⟨#[c]⟩) := pIx_at [] L c h
theorem is_name_yes (t : Str) (h : nmB 8 t = true) : m_is_name [.str t] = .ok (.bl true) [some (.str t)] := by
  have hl := nmB_len h
  unfold nmB at h
  have et := ofL_str t
  cases e : t.cps.toList with
  | nil => rw [e] at h; cases h
  | cons c r =>
    rw [e] at h et
    simp only [nmL, Bool.and_eq_true, decide_eq_true_eq, List.all_eq_true] at h
    have hx := pIx_0 c r (by simp only [List.length_cons]; omega)
    rw [et] at hx
    have h1 := pIn_sign c lowS
    rw [decide_eq_true (an_low c h.1)] at h1
    have h2 := all_in_ok t (lowS ++ digS) (by
      rw [e]
      intro x hx
      rcases List.mem_cons.mp hx with rfl | hx
      · exact an_ld _ (by unfold chAn; rw [h.1]; rfl)
      · exact an_ld _ (h.2.1 x hx))
    have h3 := pLen_s t (by omega)
    obtain ⟨_, _, z3⟩ := an_z
    have q1 : (1 : Int) ≤ t.length := by omega
    have q2 : (t.length : Int) ≤ 8 := by omega
    unfold m_is_name
    rw [fnM_at rfl, name_is2]
    simp [h3, hx, h1, h2, z3, q1, q2]
theorem num_parts {t : Str} (h : isNumT t = true) : ∃ c r, t.cps.toList = c :: r ∧ chDig c = true ∧ (∀ x ∈ r, chDig x = true) ∧ r.length < 4 ∧ (c ≠ 48 ∨ r = []) := by
  unfold isNumT at h
  cases e : t.cps.toList with
  | nil => rw [e] at h; cases h
  | cons c r =>
    rw [e] at h
    simp only [Bool.and_eq_true, decide_eq_true_eq, List.all_eq_true, Bool.or_eq_true, List.isEmpty_iff] at h
    exact ⟨c, r, rfl, h.1, h.2.1, h.2.2.1, h.2.2.2⟩
theorem is_name_no (t : Str) (h : isNumT t = true) : m_is_name [.str t] = .ok (.bl false) [some (.str t)] := by
  obtain ⟨c, r, e, hc, hr, hl, h0⟩ := num_parts h
  have et := ofL_str t
  rw [e] at et
  have lt : t.length = r.length + 1 := by
    have : t.length = t.cps.toList.length := by simp [Str.length]
    rw [this, e]; rfl
  have hx := pIx_0 c r (by simp only [List.length_cons]; omega)
  rw [et] at hx
  have h1 := pIn_sign c lowS
  rw [decide_eq_false (an_dig c hc).2] at h1
  have h3 := pLen_s t (by omega)
  have q1 : (1 : Int) ≤ t.length := by omega
  have q2 : (t.length : Int) ≤ 8 := by omega
  unfold m_is_name
  rw [fnM_at rfl, name_is2]
  simp [h3, hx, h1, q1, q2]
theorem is_number_yes (t : Str) (h : isNumT t = true) : m_is_number [.str t] = .ok (.bl true) [some (.str t)] := by
  obtain ⟨c, r, e, hc, hr, hl, h0⟩ := num_parts h
  have et := ofL_str t
  rw [e] at et
  have lt : t.length = r.length + 1 := by
    have : t.length = t.cps.toList.length := by simp [Str.length]
    rw [this, e]; rfl
  have hx := pIx_0 c r (by simp only [List.length_cons]; omega)
  rw [et] at hx
  have h2 := all_in_ok t digS (by
    rw [e]
    intro x hx
    rcases List.mem_cons.mp hx with rfl | hx
    · exact (an_dig _ hc).1
    · exact (an_dig _ (hr x hx)).1)
  have h3 := pLen_s t (by omega)
  have q1 : (1 : Int) ≤ t.length := by omega
  have q2 : (t.length : Int) ≤ 4 := by omega
  have z0 : ("0" : Str) = ofL [48] := by decide +kernel
  have zc : (⟨#[c]⟩ : Str) = "0" ↔ c = 48 := by
    rw [z0]
    constructor
    · intro q
      have : (⟨#[c]⟩ : Str).cps.toList = [48] := by rw [q]; rfl
      simpa using this
    · rintro rfl; rfl
  have zt : t = "0" ∨ ¬ (⟨#[c]⟩ : Str) = "0" := by
    rcases h0 with h | h
    · exact .inr fun q => h (zc.mp q)
    · by_cases hh : c = 48
      · left; rw [← et, h, hh, z0]
      · exact .inr fun q => hh (zc.mp q)
  unfold m_is_number
  rw [fnM_at rfl, number_is2]
  by_cases ht : t = "0"
  · have e1 : pEq (.str t) (.str "0") = some (.bl true) := by rw [eq_ss, decide_eq_true ht]
    simp [h3, h2, q1, q2, e1, -eq_ss]
  · have hz : ¬ (⟨#[c]⟩ : Str) = "0" := zt.resolve_left ht
    simp [h3, h2, q1, q2, hx, ht, hz]
theorem res_is : (.tup [(.str "format"), (.str "base"), (.str "version"), (.str "mark"), (.str "num"), (.str "in"), (.str "size"), (.str "count"), (.str "gap"), (.str "sum"), (.str "roll"), (.str "over"), (.str "by"), (.str "of"), (.str "to"), (.str "pad"), (.str "free"), (.str "rest"), (.str "part"), (.str "maybe"), (.str "many"), (.str "pick"), (.str "case"), (.str "grow"), (.str "since"), (.str "nest"), (.str "inner")]) = PV.tup (wordsL.map .str) := by
  have : wordsL = (["format", "base", "version", "mark", "num", "in", "size", "count", "gap", "sum", "roll", "over", "by", "of", "to", "pad", "free", "rest", "part", "maybe", "many", "pick", "case", "grow", "since", "nest", "inner"] : List Str) := by decide +kernel
  rw [this]
  rfl
theorem in_strsT (z : Str) (ys : List Str) : pIn (.str z) (.tup (ys.map .str)) = some (.bl (decide (z ∈ ys))) := by
  have hf : (ys.map PV.str).all flatP = true := by
    rw [List.all_eq_true]
    intro x hx
    obtain ⟨y, _, rfl⟩ := List.mem_map.mp hx
    rfl
  have : ((ys.map PV.str).any fun y => eqFl y (.str z)) = decide (z ∈ ys) := by
    rw [Bool.eq_iff_iff, decide_eq_true_eq]
    simp only [List.any_map, List.any_eq_true, Function.comp_apply, eqFl]
    constructor
    · rintro ⟨y, hy, e⟩
      have := eq_of_beq e
      rw [← this]; exact hy
    · intro h
      exact ⟨z, h, by simp⟩
  unfold pIn inB
  simp only [hf, flatP, Bool.and_self, if_true, Option.map_some, this]
theorem token_is2 : b_m_run_token = (sSeq (sIf (bE (eCall m_is_name (aCons (gRef 0) (aNil)))) (sSeq (sIf (bE (eN (rOp pIn (rVar 0) (rC (PV.tup (wordsL.map .str)))))) (sRet (eTup (aCons (gOwn (eC (.str "word"))) (aCons (gOwn (eVar 0)) (aNil))))) (sNil)) (sRet (eTup (aCons (gOwn (eC (.str "name"))) (aCons (gOwn (eVar 0)) (aNil)))))) (sNil)) (sSeq (sIf (bE (eCall m_is_number (aCons (gRef 0) (aNil)))) (sRet (eTup (aCons (gOwn (eC (.str "number"))) (aCons (gOwn (eVar 0)) (aNil))))) (sNil)) (sRet (eTup (aCons (gOwn (eC (.str "bad"))) (aCons (gOwn (eVar 0)) (aNil))))))) := by
  rw [← res_is]
  rfl
theorem run_token_ok (t : Str) (h : nmB 8 t = true ∨ isNumT t = true) : m_run_token [.str t] = .ok (tokP t) [some (.str t)] := by
  have hs : t ∉ signsL := by
    intro q
    have := signs_no t q
    rcases h with h | h
    · rw [this.1] at h; cases h
    · rw [this.2] at h; cases h
  have hw := in_strsT t wordsL
  unfold m_run_token
  rw [fnM_at rfl, token_is2]
  generalize hWD : PV.tup (wordsL.map .str) = WD at *
  by_cases h1 : nmB 8 t = true
  · have e := is_name_yes t h1
    by_cases h2 : t ∈ wordsL
    · have el : lab t = "word" := by unfold lab; rw [if_pos (.inl h2)]
      rw [decide_eq_true h2] at hw
      simp [e, hw, tokP, el]
    · have el : lab t = "name" := by unfold lab; rw [if_neg (by rintro (q | q); exact h2 q; exact hs q), if_pos h1]
      rw [decide_eq_false h2] at hw
      simp [e, hw, tokP, el]
  · have h3 : isNumT t = true := h.resolve_left h1
    have e := is_name_no t h3
    have e2 := is_number_yes t h3
    have h2 : t ∉ wordsL := by
      intro q
      have := words_no t q
      rw [h3] at this; cases this
    have el : lab t = "number" := by unfold lab; rw [if_neg (by rintro (q | q); exact h2 q; exact hs q), if_neg h1, if_pos h3]
    simp [e, e2, tokP, el]
end PVL

/-! T3: texts are cut into tokens: the whole. -/
namespace PVL
open PySem PySem.Spec L2
def cTok : BM := bE (eN (rOp pLt (rVar 2) (rCl pLen (raCons (rVar 0) (raNil)))))
def bTok : SM := sSeq (sAsg (eCall m_run_end (aCons (gRef 0) (aCons (gRef 2) (aNil)))) (tgN 3)) (sIf (bE (eOp pIn (gOwn (eR (rOp pIx (rVar 0) (rVar 2)))) (gOwn (eTup (aCons (gOwn (eC (.str " "))) (aCons (gOwn (eC (.str "\n"))) (aNil))))))) (sAug 2 pAddI (eC (.int 1))) (sIf (bE (eN (rOp pGt (rVar 3) (rVar 2)))) (sSeq (sExpr (eMeth "list" 1 pAppend (aCons (gOwn (eCall m_run_token (aCons (gOwn (eSl pSl (gRef 0) (oSome (eVar 2)) (oSome (eVar 3)))) (aNil)))) (aNil)))) (sAsg (eVar 3) (tgN 2))) (sIf (bE (eOp pEq (gOwn (eSl pSl (gRef 0) (oSome (eVar 2)) (oSome (eN (rOp pAdd (rVar 2) (rC (.int 2))))))) (gOwn (eC (.str ".."))))) (sSeq (sExpr (eMeth "list" 1 pAppend (aCons (gOwn (eTup (aCons (gOwn (eC (.str "word"))) (aCons (gOwn (eC (.str ".."))) (aNil))))) (aNil)))) (sAug 2 pAddI (eC (.int 2)))) (sIf (bE (eOp pIn (gOwn (eR (rOp pIx (rVar 0) (rVar 2)))) (gOwn (eTup (aCons (gOwn (eC (.str "{"))) (aCons (gOwn (eC (.str "}"))) (aCons (gOwn (eC (.str ";"))) (aNil)))))))) (sSeq (sExpr (eMeth "list" 1 pAppend (aCons (gOwn (eTup (aCons (gOwn (eC (.str "word"))) (aCons (gOwn (eR (rOp pIx (rVar 0) (rVar 2)))) (aNil))))) (aNil)))) (sAug 2 pAddI (eC (.int 1)))) (sSeq (sExpr (eMeth "list" 1 pAppend (aCons (gOwn (eTup (aCons (gOwn (eC (.str "bad"))) (aCons (gOwn (eR (rOp pIx (rVar 0) (rVar 2)))) (aNil))))) (aNil)))) (sAug 2 pAddI (eC (.int 1))))))))
theorem tokens_is2 : b_m_tokens_of = (sSeq (sAsg (eLst (aNil)) (tgN 1)) (sSeq (sAsg (eC (.int 0)) (tgN 2)) (sSeq (whileL cTok bTok 100000) (sRet (eVar 1))))) := rfl
theorem ofL_inj {a b : List Nat} (h : ofL a = ofL b) : a = b := by
  have := congrArg (fun z : Str => z.cps.toList) h
  simpa using this
theorem lit_l : (" " : Str) = ofL [32] ∧ ("\n" : Str) = ofL [10] ∧ ("{" : Str) = ofL [123] ∧ ("}" : Str) = ofL [125] ∧ (";" : Str) = ofL [59] ∧ (".." : Str) = ofL [46, 46] := by decide +kernel
theorem blankIn (c : Nat) : pIn (.str ⟨#[c]⟩) (.tup [.str " ", .str "\n"]) = some (.bl (decide (c = 32 ∨ c = 10))) := by
  have h := in_strsT (ofL [c]) [" ", "\n"]
  have e : decide (ofL [c] ∈ ([" ", "\n"] : List Str)) = decide (c = 32 ∨ c = 10) := by
    congr 1
    rw [eq_iff_iff, List.mem_cons, List.mem_cons, lit_l.1, lit_l.2.1]
    constructor
    · rintro (h | h | h)
      · left; simpa using ofL_inj h
      · right; simpa using ofL_inj h
      · cases h
    · rintro (rfl | rfl)
      · exact .inl rfl
      · exact .inr (.inl rfl)
  rw [e] at h
  exact h
theorem signIn (c : Nat) : pIn (.str ⟨#[c]⟩) (.tup [.str "{", .str "}", .str ";"]) = some (.bl (decide (c = 123 ∨ c = 125 ∨ c = 59))) := by
  have h := in_strsT (ofL [c]) ["{", "}", ";"]
  have e : decide (ofL [c] ∈ (["{", "}", ";"] : List Str)) = decide (c = 123 ∨ c = 125 ∨ c = 59) := by
    congr 1
    rw [eq_iff_iff, List.mem_cons, List.mem_cons, List.mem_cons, lit_l.2.2.1, lit_l.2.2.2.1, lit_l.2.2.2.2.1]
    constructor
    · rintro (h | h | h | h)
      · left; simpa using ofL_inj h
      · right; left; simpa using ofL_inj h
      · right; right; simpa using ofL_inj h
      · cases h
    · rintro (rfl | rfl | rfl)
      · exact .inl rfl
      · exact .inr (.inl rfl)
      · exact .inr (.inr (.inl rfl))
  rw [e] at h
  exact h
theorem dots_is (R : List Nat) : (ofL (R.take 2) = (".." : Str)) ↔ R.take 2 = [46, 46] := by
  rw [lit_l.2.2.2.2.2]
  exact ⟨ofL_inj, fun h => by rw [h]⟩
/-- so a text tells tokens -/
inductive Sp : List Nat → List Str → Prop
  | nil : Sp [] []
  | blank {c : Nat} {L : List Nat} {ts : List Str} (hc : c = 32 ∨ c = 10) (h : Sp L ts) : Sp (c :: L) ts
  | run {t : Str} {L : List Nat} {ts : List Str} (ht : nmB 8 t = true ∨ isNumT t = true) (hL : NoAn L) (h : Sp L ts) : Sp (t.cps.toList ++ L) (t :: ts)
  | sign {c : Nat} {L : List Nat} {ts : List Str} (hc : c = 123 ∨ c = 125 ∨ c = 59) (h : Sp L ts) : Sp (c :: L) (ofL [c] :: ts)
  | dots {L : List Nat} {ts : List Str} (h : Sp L ts) : Sp (46 :: 46 :: L) (".." :: ts)
theorem noAn_cons {c : Nat} {L : List Nat} (h : c ∉ anL) : NoAn (c :: L) := by
  intro d r e
  cases e
  exact h
theorem stop_at (A L : List Nat) (c : Nat) (hc : c ∉ anL) (h : (A ++ c :: L).length ≤ 1000000) : m_run_end [.str (ofL (A ++ c :: L)), .int A.length] = .ok (.int A.length) [some (.str (ofL (A ++ c :: L))), some (.int A.length)] := by
  have := run_end_ok A [] (c :: L) (by simp) (noAn_cons hc) (by simp) h
  simpa using this
theorem step_blank (A L : List Nat) (c : Nat) (hc : c = 32 ∨ c = 10) (h : (A ++ c :: L).length ≤ 1000000) (y1 y3 : Option PV) :
    bTok [some (.str (ofL (A ++ c :: L))), y1, some (.int A.length), y3] = .next [some (.str (ofL (A ++ c :: L))), y1, some (.int ((A.length : Int) + 1)), some (.int A.length)] := by
  have hn : c ∉ anL := by
    have := an_no
    rcases hc with rfl | rfl
    · exact this.1
    · exact this.2.1
  have e1 := stop_at A L c hn h
  have e2 := pIx_at A L c h
  have e3 := blankIn c
  rw [decide_eq_true hc] at e3
  generalize ofL (A ++ c :: L) = T at *
  simp [bTok, e1, e2, e3]
theorem step_sign (A L : List Nat) (c : Nat) (hc : c = 123 ∨ c = 125 ∨ c = 59) (h : (A ++ c :: L).length ≤ 1000000) (acc : List PV) (hz : acc.length < 500000) (y3 : Option PV) :
    bTok [some (.str (ofL (A ++ c :: L))), some (.lst acc), some (.int A.length), y3] = .next [some (.str (ofL (A ++ c :: L))), some (.lst (acc ++ [.tup [.str "word", .str (ofL [c])]])), some (.int ((A.length : Int) + 1)), some (.int A.length)] := by
  have hn : c ∉ anL := by
    have := an_no
    rcases hc with rfl | rfl | rfl
    · exact this.2.2.1
    · exact this.2.2.2.1
    · exact this.2.2.2.2.1
  have e1 := stop_at A L c hn h
  have e2 := pIx_at A L c h
  have e3 := blankIn c
  rw [decide_eq_false (by omega)] at e3
  have e4 := signIn c
  rw [decide_eq_true hc] at e4
  have hd : ¬ ofL ((c :: L).take 2) = (".." : Str) := by
    rw [dots_is]
    intro q
    rw [List.take_succ_cons] at q
    have := (List.cons.inj q).1
    omega
  have e5 : pSl (.str (ofL (A ++ c :: L))) (some (A.length : Int)) (some ((A.length : Int) + 2)) = some (.str (ofL ((c :: L).take 2))) := by
    rw [pSl_s, if_pos (by rw [ofL_len]; exact le_size h), cut_two]
  have hz2 : acc.length < sizeLine := by rw [sizeLine_eq]; omega
  have e6 : (⟨#[c]⟩ : Str) = ofL [c] := rfl
  rw [e6] at e2 e3 e4
  generalize ofL (A ++ c :: L) = T at *
  generalize ofL ((c :: L).take 2) = T2 at *
  simp [bTok, e1, e2, e3, e4, e5, hd, hz2]
theorem step_dots (A L : List Nat) (h : (A ++ 46 :: 46 :: L).length ≤ 1000000) (acc : List PV) (hz : acc.length < 500000) (y3 : Option PV) :
    bTok [some (.str (ofL (A ++ 46 :: 46 :: L))), some (.lst acc), some (.int A.length), y3] = .next [some (.str (ofL (A ++ 46 :: 46 :: L))), some (.lst (acc ++ [.tup [.str "word", .str ".."]])), some (.int ((A.length : Int) + 2)), some (.int A.length)] := by
  have e1 := stop_at A (46 :: L) 46 an_no.2.2.2.2.2 h
  have e2 := pIx_at A (46 :: L) 46 h
  have e3 := blankIn 46
  rw [decide_eq_false (by omega)] at e3
  have hd : ofL ((46 :: 46 :: L).take 2) = (".." : Str) := by
    rw [dots_is]
    rfl
  have e5 : pSl (.str (ofL (A ++ 46 :: 46 :: L))) (some (A.length : Int)) (some ((A.length : Int) + 2)) = some (.str "..") := by
    rw [pSl_s, if_pos (by rw [ofL_len]; exact le_size h), cut_two, hd]
  have hz2 : acc.length < sizeLine := by rw [sizeLine_eq]; omega
  generalize ofL (A ++ 46 :: 46 :: L) = T at *
  simp [bTok, e1, e2, e3, e5, hz2]
theorem run_an {t : Str} (h : nmB 8 t = true ∨ isNumT t = true) : ∃ c r, t.cps.toList = c :: r ∧ (∀ x ∈ c :: r, chAn x = true) ∧ r.length < 8 := by
  rcases h with h | h
  · unfold nmB at h
    cases e : t.cps.toList with
    | nil => rw [e] at h; cases h
    | cons c r =>
      rw [e] at h
      simp only [nmL, Bool.and_eq_true, decide_eq_true_eq, List.all_eq_true] at h
      refine ⟨c, r, rfl, fun x hx => ?_, h.2.2⟩
      rcases List.mem_cons.mp hx with rfl | hx
      · unfold chAn; rw [h.1]; rfl
      · exact h.2.1 x hx
  · obtain ⟨c, r, e, hc, hr, hl, _⟩ := num_parts h
    refine ⟨c, r, e, fun x hx => ?_, by omega⟩
    rcases List.mem_cons.mp hx with rfl | hx
    · unfold chAn; rw [hc, Bool.or_true]
    · unfold chAn; rw [hr x hx, Bool.or_true]
theorem step_run (A L : List Nat) (t : Str) (ht : nmB 8 t = true ∨ isNumT t = true) (hL : NoAn L) (h : (A ++ (t.cps.toList ++ L)).length ≤ 1000000) (acc : List PV) (hz : acc.length < 500000) (y3 : Option PV) :
    bTok [some (.str (ofL (A ++ (t.cps.toList ++ L)))), some (.lst acc), some (.int A.length), y3] = .next [some (.str (ofL (A ++ (t.cps.toList ++ L)))), some (.lst (acc ++ [tokP t])), some (.int ((A.length : Int) + t.cps.toList.length)), some (.int ((A.length : Int) + t.cps.toList.length))] := by
  obtain ⟨c, r, e, han, hl⟩ := run_an ht
  have hin : ∀ x ∈ t.cps.toList, x ∈ anL := by rw [e]; exact fun x hx => an_of x (han x hx)
  have e1 := run_end_ok A t.cps.toList L hin hL (by rw [e]; simp only [List.length_cons]; omega) h
  have hcin : c ∈ anL := an_of c (han c List.mem_cons_self)
  have e2 : pIx (.str (ofL (A ++ (t.cps.toList ++ L)))) (.int (A.length : Int)) = some (.str ⟨#[c]⟩) := by
    rw [e] at h ⊢
    exact pIx_at A (r ++ L) c h
  have e3 := blankIn c
  rw [decide_eq_false (by
    rintro (rfl | rfl)
    · exact an_no.1 hcin
    · exact an_no.2.1 hcin)] at e3
  have e5 : pSl (.str (ofL (A ++ (t.cps.toList ++ L)))) (some (A.length : Int)) (some ((A.length : Int) + t.cps.toList.length)) = some (.str t) := by
    rw [pSl_s, if_pos (by rw [ofL_len]; exact le_size h), cut_mid, ofL_str]
  have e6 := run_token_ok t ht
  have hz2 : acc.length < sizeLine := by rw [sizeLine_eq]; omega
  have hgt : (A.length : Int) < (A.length : Int) + t.cps.toList.length := by rw [e, List.length_cons]; omega
  have hti : (tokP t).imm = true := rfl
  generalize ofL (A ++ (t.cps.toList ++ L)) = T at *
  generalize hE : (A.length : Int) + t.cps.toList.length = E at *
  generalize tokP t = TP at *
  simp [bTok, e1, e2, e3, e5, e6, hz2, hgt, hti]
theorem cTok_go (T : List Nat) (i : Int) (y1 y3 : Option PV) (h : T.length ≤ 1000000) : cTok [some (.str (ofL T)), y1, some (.int i), y3] = .ok (decide (i < T.length)) [some (.str (ofL T)), y1, some (.int i), y3] := by
  have e2 := pLen_s (ofL T) (by rw [ofL_len]; exact h)
  rw [ofL_len] at e2
  simp [cTok, e2]
theorem tokW {L : List Nat} {ts : List Str} (h : Sp L ts) : ∀ (A : List Nat) (acc : List PV) (n : Nat) (y3 : Option PV), L.length < n → (A ++ L).length ≤ 1000000 → acc.length + L.length ≤ 400000 →
    ∃ y3', whileL cTok bTok n [some (.str (ofL (A ++ L))), some (.lst acc), some (.int A.length), y3] = .next [some (.str (ofL (A ++ L))), some (.lst (acc ++ ts.map tokP)), some (.int ((A.length : Int) + L.length)), y3'] := by
  induction h with
  | nil =>
    intro A acc n y3 hn h _
    obtain ⟨m, rfl⟩ : ∃ m, n = m + 1 := ⟨n - 1, by simp only [List.length_nil] at hn; omega⟩
    have c1 := cTok_go (A ++ []) A.length (some (.lst acc)) y3 h
    rw [decide_eq_false (by rw [List.append_nil]; omega)] at c1
    exact ⟨y3, by rw [whileL_stop c1]; simp⟩
  | @blank c L ts hc hs ih =>
    intro A acc n y3 hn h hz
    simp only [List.length_cons] at hn hz
    obtain ⟨m, rfl⟩ : ∃ m, n = m + 1 := ⟨n - 1, by omega⟩
    have c1 := cTok_go (A ++ c :: L) A.length (some (.lst acc)) y3 h
    rw [decide_eq_true (by rw [List.length_append, List.length_cons]; omega)] at c1
    have b1 := step_blank A L c hc h (some (.lst acc)) y3
    obtain ⟨y3', e⟩ := ih (A ++ [c]) acc m (some (.int A.length)) (by omega) (by simpa using h) (by omega)
    have e1 : (A ++ [c]) ++ L = A ++ c :: L := by simp
    have e2 : (((A ++ [c]).length : Nat) : Int) = (A.length : Int) + 1 := by simp
    have e3 : (A.length : Int) + 1 + L.length = (A.length : Int) + ((L.length + 1 : Nat) : Int) := by omega
    rw [e1, e2, e3] at e
    exact ⟨y3', by rw [whileL_turn c1 b1, e, List.length_cons]⟩
  | @sign c L ts hc hs ih =>
    intro A acc n y3 hn h hz
    simp only [List.length_cons] at hn hz
    obtain ⟨m, rfl⟩ : ∃ m, n = m + 1 := ⟨n - 1, by omega⟩
    have c1 := cTok_go (A ++ c :: L) A.length (some (.lst acc)) y3 h
    rw [decide_eq_true (by rw [List.length_append, List.length_cons]; omega)] at c1
    have b1 := step_sign A L c hc h acc (by omega) y3
    obtain ⟨y3', e⟩ := ih (A ++ [c]) (acc ++ [.tup [.str "word", .str (ofL [c])]]) m (some (.int A.length)) (by omega) (by simpa using h) (by rw [List.length_append]; simp only [List.length_cons, List.length_nil]; omega)
    have e1 : (A ++ [c]) ++ L = A ++ c :: L := by simp
    have e2 : (((A ++ [c]).length : Nat) : Int) = (A.length : Int) + 1 := by simp
    have e3 : (A.length : Int) + 1 + L.length = (A.length : Int) + ((L.length + 1 : Nat) : Int) := by omega
    have e4 : tokP (ofL [c]) = .tup [.str "word", .str (ofL [c])] := by
      have : lab (ofL [c]) = "word" := by
        rcases hc with rfl | rfl | rfl
        · rw [← lit_l.2.2.1]; exact lab_kw (by simp [kwL])
        · rw [← lit_l.2.2.2.1]; exact lab_kw (by simp [kwL])
        · rw [← lit_l.2.2.2.2.1]; exact lab_kw (by simp [kwL])
      unfold tokP
      rw [this]
    rw [e1, e2, e3] at e
    refine ⟨y3', ?_⟩
    rw [whileL_turn c1 b1, e, List.length_cons, List.map_cons, e4, List.append_assoc]
    rfl
  | @dots L ts hs ih =>
    intro A acc n y3 hn h hz
    simp only [List.length_cons] at hn hz
    obtain ⟨m, rfl⟩ : ∃ m, n = m + 1 := ⟨n - 1, by omega⟩
    have c1 := cTok_go (A ++ 46 :: 46 :: L) A.length (some (.lst acc)) y3 h
    rw [decide_eq_true (by rw [List.length_append, List.length_cons]; omega)] at c1
    have b1 := step_dots A L h acc (by omega) y3
    obtain ⟨y3', e⟩ := ih (A ++ [46, 46]) (acc ++ [.tup [.str "word", .str ".."]]) m (some (.int A.length)) (by omega) (by simpa using h) (by rw [List.length_append]; simp only [List.length_cons, List.length_nil]; omega)
    have e1 : (A ++ [46, 46]) ++ L = A ++ 46 :: 46 :: L := by simp
    have e2 : (((A ++ [46, 46]).length : Nat) : Int) = (A.length : Int) + 2 := by simp
    have e3 : (A.length : Int) + 2 + L.length = (A.length : Int) + ((L.length + 1 + 1 : Nat) : Int) := by omega
    have e4 : tokP ".." = .tup [.str "word", .str ".."] := by
      unfold tokP
      rw [lab_kw (by simp [kwL])]
    rw [e1, e2, e3] at e
    refine ⟨y3', ?_⟩
    rw [whileL_turn c1 b1, e, List.length_cons, List.length_cons, List.map_cons, e4, List.append_assoc]
    rfl
  | @run t L ts ht hL hs ih =>
    intro A acc n y3 hn h hz
    obtain ⟨cc, r, ec, _, _⟩ := run_an ht
    have ht1 : 1 ≤ t.cps.toList.length := by rw [ec, List.length_cons]; omega
    simp only [List.length_append] at hn hz
    obtain ⟨m, rfl⟩ : ∃ m, n = m + 1 := ⟨n - 1, by omega⟩
    have c1 := cTok_go (A ++ (t.cps.toList ++ L)) A.length (some (.lst acc)) y3 h
    rw [decide_eq_true (by rw [List.length_append, List.length_append]; omega)] at c1
    have b1 := step_run A L t ht hL h acc (by omega) y3
    obtain ⟨y3', e⟩ := ih (A ++ t.cps.toList) (acc ++ [tokP t]) m (some (.int ((A.length : Int) + t.cps.toList.length))) (by omega) (by simpa using h) (by rw [List.length_append]; simp only [List.length_cons, List.length_nil]; omega)
    have e1 : (A ++ t.cps.toList) ++ L = A ++ (t.cps.toList ++ L) := List.append_assoc ..
    have e2 : (((A ++ t.cps.toList).length : Nat) : Int) = (A.length : Int) + t.cps.toList.length := by rw [List.length_append]; omega
    have e3 : (A.length : Int) + t.cps.toList.length + L.length = (A.length : Int) + ((t.cps.toList ++ L).length : Nat) := by rw [List.length_append]; omega
    rw [e1, e2, e3] at e
    refine ⟨y3', ?_⟩
    rw [whileL_turn c1 b1, e, List.map_cons, List.append_assoc]
    rfl
theorem tokens_of_ok {L : List Nat} {ts : List Str} (h : Sp L ts) (hl : L.length < 100000) : m_tokens_of [.str (ofL L)] = .ok (.lst (ts.map tokP)) [some (.str (ofL L))] := by
  obtain ⟨y3, e⟩ := tokW h [] [] 100000 none hl (by simpa using (by omega : L.length ≤ 1000000)) (by simp only [List.length_nil]; omega)
  simp only [List.nil_append, List.length_nil] at e
  unfold m_tokens_of
  rw [fnM_at rfl, tokens_is2]
  generalize ofL L = T at *
  have e' : whileL cTok bTok 100000 [some (.str T), some (.lst []), some (.int 0), none] = .next [some (.str T), some (.lst (ts.map tokP)), some (.int (0 + (L.length : Int))), y3] := e
  simp [e']
end PVL

/-! T4: the law's spacing. -/
namespace PVL
open PySem PySem.Spec L2
def TokOk (t : Str) : Prop := (nmB 8 t = true ∨ isNumT t = true) ∨ t ∈ signsL
def hdC (t : Str) : Nat := t.cps.toList.headD 0
def lsC (t : Str) : Nat := t.cps.toList.getLastD 0
def clB (a b : Str) : Bool := decide (lsC a ∈ anL) && decide (hdC b ∈ anL)
theorem signs_sh : ∀ w ∈ signsL, w.cps.toList ≠ [] ∧ w ≠ "." ∧ w.length ≤ 8 ∧ hdC w ∉ anL ∧ lsC w ∉ anL := by decide +kernel
theorem tok_ne {t : Str} (h : TokOk t) : t.cps.toList ≠ [] := by
  rcases h with h | h
  · obtain ⟨c, r, e, _⟩ := run_an h
    rw [e]; simp
  · exact (signs_sh t h).1
theorem tok_len {t : Str} (h : TokOk t) : t.length ≤ 8 := by
  rcases h with (h | h) | h
  · exact (nmB_len h).1
  · obtain ⟨c, r, e, _, _, hl, _⟩ := num_parts h
    have : t.length = t.cps.toList.length := by simp [Str.length]
    rw [this, e, List.length_cons]; omega
  · exact (signs_sh t h).2.2.1
theorem dot_no : nmB 8 "." = false ∧ isNumT "." = false := by decide +kernel
theorem tok_dot {t : Str} (h : TokOk t) : ¬ t = "." := by
  rintro rfl
  rcases h with (h | h) | h
  · rw [dot_no.1] at h; cases h
  · rw [dot_no.2] at h; cases h
  · exact (signs_sh _ h).2.1 rfl
theorem pIx_hd {t : Str} (h : t.cps.toList ≠ []) (hl : t.length ≤ 1000) : pIx (.str t) (.int 0) = some (.str ⟨#[hdC t]⟩) := by
  have et := ofL_str t
  unfold hdC
  cases e : t.cps.toList with
  | nil => exact absurd e h
  | cons c r =>
    rw [e] at et
    have lt : t.length = r.length + 1 := by
      have : t.length = t.cps.toList.length := by simp [Str.length]
      rw [this, e]; rfl
    have := pIx_0 c r (by simp only [List.length_cons]; omega)
    rw [et] at this
    exact this
theorem pIx_ls {t : Str} (h : t.cps.toList ≠ []) (hl : t.length ≤ 1000) : pIx (.str t) (.int (-1)) = some (.str ⟨#[lsC t]⟩) := by
  have hL : t.length = t.cps.toList.length := by simp [Str.length]
  have h0 : 0 < t.cps.toList.length := List.length_pos_iff.mpr h
  show (if t.length ≤ sizeLine then (atI t.cps.toList (-1)).map fun c => PV.str ⟨#[c]⟩ else none) = _
  rw [if_pos (le_size (by omega)), at_neg _ _ (by decide) (by omega)]
  have e : ((-1 : Int) + (t.cps.toList.length : Nat)).toNat = t.cps.toList.length - 1 := by omega
  rw [e, ← List.getLast?_eq_getElem?]
  unfold lsC
  rw [List.getLastD_eq_getLast?]
  cases q : t.cps.toList.getLast? with
  | none => rw [List.getLast?_eq_none_iff] at q; exact absurd q h
  | some x => rfl
theorem sg_is : ("abcdefghijklmnopqrstuvwxyzABCDEFGHIJKLMNOPQRSTUVWXYZ0123456789" : Str) = anS := by decide +kernel
theorem cl_is : b_m__law_clings = (sSeq (sAsg (eC (.str anS)) (tgN 2)) (sRet (eOr (eAnd (eN (rOp pIn (rOp pIx (rVar 0) (rUn pNeg (rC (.int 1)))) (rVar 2))) (eN (rOp pIn (rOp pIx (rVar 1) (rC (.int 0))) (rVar 2)))) (eAnd (eN (rOp pEq (rVar 0) (rC (.str ".")))) (eN (rOp pEq (rOp pIx (rVar 1) (rC (.int 0))) (rC (.str ".")))))))) := by
  rw [← sg_is]
  rfl
theorem clings_ok {a b : Str} (ha : TokOk a) (hb : TokOk b) : m__law_clings [.str a, .str b] = .ok (.bl (clB a b)) [some (.str a), some (.str b)] := by
  have e1 := pIx_ls (tok_ne ha) (by have := tok_len ha; omega)
  have e2 := pIx_hd (tok_ne hb) (by have := tok_len hb; omega)
  have h1 := pIn_sign (lsC a) anS
  have h2 := pIn_sign (hdC b) anS
  have d1 := tok_dot ha
  unfold m__law_clings clB
  rw [fnM_at rfl, cl_is]
  have q1 : decide (lsC a ∈ anL) = decide (lsC a ∈ anS.cps.toList) := rfl
  have q2 : decide (hdC b ∈ anL) = decide (hdC b ∈ anS.cps.toList) := rfl
  rw [q1, q2]
  generalize decide (lsC a ∈ anS.cps.toList) = x at *
  generalize decide (hdC b ∈ anS.cps.toList) = y at *
  generalize anS = Z at *
  cases x <;> cases y <;> simp [e1, e2, h1, h2, d1]
/-! pieces -/
def Blank (l : List Nat) : Prop := ∀ c ∈ l, c = 32 ∨ c = 10
def PieceL : Str → List Str → List Str → Prop
  | _, [], ps => ps = []
  | last, t :: ts, ps => ∃ g p, ps = (g ++ t) :: p ∧ Blank g.cps.toList ∧ g.length ≤ 3 ∧ (g.cps.toList = [] → clB last t = false) ∧ PieceL t ts p
def gaps1 : List Str := [" ", "\n", "  ", "\n \n"]
def gaps2 : List Str := ["", " ", "\n", "   ", "\n\n"]
theorem gaps_ok : (∀ g ∈ gaps1, (∀ c ∈ g.cps.toList, c = 32 ∨ c = 10) ∧ g.length ≤ 3 ∧ g.cps.toList ≠ [] ∧ g ≠ "") ∧ (∀ g ∈ gaps2, (∀ c ∈ g.cps.toList, c = 32 ∨ c = 10) ∧ g.length ≤ 3) := by decide +kernel
theorem gap_ne {g : Str} (h : ¬ g = "") : g.cps.toList ≠ [] := by
  intro q
  apply h
  have := ofL_str g
  rw [q] at this
  rw [← this]
  decide +kernel
def bPie1 : SM := sIf (bE (eN (rOp pEq (rVar 3) (rC (.int 0))))) (sAsg (eC (.str "")) (tgN 7)) (sIf (bE (eN (rOp pEq (rVar 3) (rC (.int 1))))) (sAsg (eCall m__law_pick (aCons (gRef 0) (aCons (gOwn (eLst (aCons (gOwn (eC (.str ""))) (aCons (gOwn (eC (.str " "))) (aCons (gOwn (eC (.str "\n"))) (aCons (gOwn (eC (.str "   "))) (aCons (gOwn (eC (.str "\n\n"))) (aNil)))))))) (aNil)))) (tgN 7)) (sNil))
def bPie2 : SM := sIf (bAnd (bE (eN (rOp pEq (rVar 7) (rC (.str ""))))) (bE (eCall m__law_clings (aCons (gRef 5) (aCons (gRef 6) (aNil)))))) (sAsg (eVar 2) (tgN 7)) (sNil)
def bPie : SM := sSeq (sAsg (eVar 2) (tgN 7)) (sSeq bPie1 (sSeq bPie2 (sSeq (sExpr (eMeth "list" 4 pAppend (aCons (gOwn (eN (rOp pAdd (rVar 7) (rVar 6)))) (aNil)))) (sAsg (eVar 6) (tgN 5)))))
theorem pieces_is : b_m__law_pieces = (sSeq (sAsg (eCall m__law_pick (aCons (gRef 0) (aCons (gOwn (eLst (aCons (gOwn (eC (.str " "))) (aCons (gOwn (eC (.str "\n"))) (aCons (gOwn (eC (.str "  "))) (aCons (gOwn (eC (.str "\n \n"))) (aNil))))))) (aNil)))) (tgN 2)) (sSeq (sAsg (eCall m__law_draw (aCons (gRef 0) (aCons (gOwn (eC (.int 3))) (aNil)))) (tgN 3)) (sSeq (sAsg (eLst (aNil)) (tgN 4)) (sSeq (sAsg (eC (.str ";")) (tgN 5)) (sSeq (sForVS 1 (tgN 6) bPie) (sRet (eVar 4))))))) := rfl
/-- a gap is drawn -/
theorem pie1 (d : Dr) (j : Str) (hj : j ∈ gaps1) (st : Int) (y1 y4 y5 y6 : Option PV) : ∃ (g : Str) (d' : Dr), bPie1 [some d.pv, y1, some (.str j), some (.int st), y4, y5, y6, some (.str j)] = .next [some d'.pv, y1, some (.str j), some (.int st), y4, y5, y6, some (.str g)] ∧ Blank g.cps.toList ∧ g.length ≤ 3 := by
  by_cases h0 : st = 0
  · refine ⟨"", d, by simp [bPie1, h0], ?_, ?_⟩
    · exact (gaps_ok.2 "" (by simp [gaps2])).1
    · exact (gaps_ok.2 "" (by simp [gaps2])).2
  · by_cases h1 : st = 1
    · obtain ⟨g, d', hg, e⟩ := pick_str d gaps2 (by decide) (by decide)
      have e' : m__law_pick [d.pv, .lst [.str "", .str " ", .str "\n", .str "   ", .str "\n\n"]] = .ok (.str g) [some d'.pv, some (.lst [.str "", .str " ", .str "\n", .str "   ", .str "\n\n"])] := e
      exact ⟨g, d', by simp [bPie1, h0, h1, e'], gaps_ok.2 g hg⟩
    · exact ⟨j, d, by simp [bPie1, h0, h1], (gaps_ok.1 j hj).1, (gaps_ok.1 j hj).2.1⟩
theorem pie2 (j g last t : Str) (hj : j ∈ gaps1) (hg : Blank g.cps.toList) (hg3 : g.length ≤ 3) (hl : TokOk last) (ht : TokOk t) (y0 y1 y3 y4 : Option PV) : ∃ (g2 : Str), bPie2 [y0, y1, some (.str j), y3, y4, some (.str last), some (.str t), some (.str g)] = .next [y0, y1, some (.str j), y3, y4, some (.str last), some (.str t), some (.str g2)] ∧ Blank g2.cps.toList ∧ g2.length ≤ 3 ∧ (g2.cps.toList = [] → clB last t = false) := by
  have e := clings_ok hl ht
  have hj2 := gaps_ok.1 j hj
  by_cases h0 : g = ""
  · cases hc : clB last t with
    | true =>
      rw [hc] at e
      exact ⟨j, by simp [bPie2, h0, e], hj2.1, hj2.2.1, fun q => absurd q hj2.2.2.1⟩
    | false =>
      rw [hc] at e
      exact ⟨g, by simp [bPie2, h0, e], hg, hg3, fun _ => rfl⟩
  · exact ⟨g, by simp [bPie2, h0], hg, hg3, fun q => absurd q (gap_ne h0)⟩
theorem pieL (j : Str) (hj : j ∈ gaps1) (st : Int) (y1 : Option PV) : ∀ (ts : List Str) (d : Dr) (last : Str) (acc : List Str) (y6 y7 : Option PV), (∀ t ∈ ts, TokOk t) → TokOk last → acc.length + ts.length ≤ 400000 →
    ∃ (ps : List Str) (d' : Dr) (y5' y6' y7' : Option PV), forL (tgN 6) bPie (ts.map .str) [some d.pv, y1, some (.str j), some (.int st), some (toks acc), some (.str last), y6, y7] = .next [some d'.pv, y1, some (.str j), some (.int st), some (toks (acc ++ ps)), y5', y6', y7'] ∧ PieceL last ts ps := by
  intro ts
  induction ts with
  | nil => intro d last acc y6 y7 _ _ _; exact ⟨[], d, some (.str last), y6, y7, by simp, rfl⟩
  | cons t ts ih =>
    intro d last acc y6 y7 ht hl hz
    simp only [List.length_cons] at hz
    have htt := ht t List.mem_cons_self
    obtain ⟨g, d1, e1, hg, hg3⟩ := pie1 d j hj st y1 (some (toks acc)) (some (.str last)) (some (.str t))
    obtain ⟨g2, e2, hb, hb3, hbc⟩ := pie2 j g last t hj hg hg3 hl htt (some d1.pv) y1 (some (.int st)) (some (toks acc))
    obtain ⟨ps, d2, y5', y6', y7', e3, hp⟩ := ih d1 t (acc ++ [g2 ++ t]) (some (.str t)) (some (.str g2)) (fun x hx => ht x (List.mem_cons_of_mem _ hx)) htt (by rw [List.length_append]; simp only [List.length_cons, List.length_nil]; omega)
    refine ⟨(g2 ++ t) :: ps, d2, y5', y6', y7', ?_, g2, ps, rfl, hb, hb3, hbc, hp⟩
    have lt := tok_len htt
    have hk : g2.length + t.length ≤ sizeLine := le_size (by omega)
    have hz2 : acc.length < sizeLine := by rw [sizeLine_eq]; omega
    rw [List.map_cons, forL_at (e := [some d.pv, y1, some (.str j), some (.int st), some (toks acc), some (.str last), some (.str t), y7]) rfl]
    have e4 : bPie [some d.pv, y1, some (.str j), some (.int st), some (toks acc), some (.str last), some (.str t), y7] = .next [some d1.pv, y1, some (.str j), some (.int st), some (toks (acc ++ [g2 ++ t])), some (.str t), some (.str t), some (.str g2)] := by
      simp [bPie, e1, e2, hk, hz2]
    rw [e4, loopK_next, e3, List.append_assoc]
    rfl
theorem pieces_ok (d : Dr) (ts : List Str) (ht : ∀ t ∈ ts, TokOk t) (hl : ts.length ≤ 300000) : ∃ (ps : List Str) (d' : Dr), m__law_pieces [d.pv, toks ts] = .ok (toks ps) [some d'.pv, some (toks ts)] ∧ PieceL ";" ts ps := by
  obtain ⟨j, d1, hj, e1⟩ := pick_str d gaps1 (by decide) (by decide)
  have e1' : m__law_pick [d.pv, .lst [.str " ", .str "\n", .str "  ", .str "\n \n"]] = .ok (.str j) [some d1.pv, some (.lst [.str " ", .str "\n", .str "  ", .str "\n \n"])] := e1
  obtain ⟨st, d2, e2, s0, s1⟩ := draw_c d1 3 (by decide) (by decide)
  obtain ⟨ps, d3, y5, y6, y7, e3, hp⟩ := pieL j hj st none ts d2 ";" [] none none ht (.inr (by simp [signsL])) (by simp only [List.length_nil]; omega)
  refine ⟨ps, d3, ?_, hp⟩
  have hi : immL (ts.map PV.str) = true := strs_map ts
  unfold m__law_pieces
  rw [fnM_at rfl, pieces_is]
  simp only [toks, List.map_nil, List.nil_append] at e3 ⊢
  generalize ts.map PV.str = TS at *
  simp [e1', e2, e3, hi]
/-! what they spell -/
theorem sp_blank {l : List Nat} (h : Blank l) {L : List Nat} {ts : List Str} (s : Sp L ts) : Sp (l ++ L) ts := by
  induction l with
  | nil => exact s
  | cons c l ih => exact .blank (h c List.mem_cons_self) (ih fun x hx => h x (List.mem_cons_of_mem _ hx))
def codes (ps : List Str) : List Nat := (ps.map fun p => p.cps.toList).flatten
theorem ls_run {t : Str} (h : nmB 8 t = true ∨ isNumT t = true) : lsC t ∈ anL := by
  obtain ⟨c, r, e, han, _⟩ := run_an h
  unfold lsC
  rw [List.getLastD_eq_getLast?]
  cases q : t.cps.toList.getLast? with
  | none => rw [List.getLast?_eq_none_iff] at q; rw [e] at q; cases q
  | some x =>
    have hm : x ∈ t.cps.toList := List.mem_of_getLast? q
    rw [e] at hm
    exact an_of x (han x hm)
theorem noAn_blank {l : List Nat} (h : Blank l) : NoAn l := by
  intro c r e
  subst e
  have := an_no
  rcases h c List.mem_cons_self with rfl | rfl
  · exact this.1
  · exact this.2.1
theorem noAn_next {last : Str} (hl : lsC last ∈ anL) {tail : List Nat} (hb : Blank tail) : ∀ (ts ps : List Str), (∀ t ∈ ts, TokOk t) → PieceL last ts ps → NoAn (codes ps ++ tail)
  | [], ps, _, h => by
    have h : ps = [] := h
    subst h
    exact noAn_blank hb
  | t :: ts, ps, ht, h => by
    obtain ⟨g, p, rfl, hg, _, hc, _⟩ := h
    intro c r e
    unfold codes at e
    rw [List.map_cons, List.flatten_cons, cps_app] at e
    cases q : g.cps.toList with
    | nil =>
      have hcl := hc q
      rw [q, List.nil_append] at e
      have hne := tok_ne (ht t List.mem_cons_self)
      cases q2 : t.cps.toList with
      | nil => exact absurd q2 hne
      | cons x y =>
        rw [q2] at e
        have ex : x = c := (List.cons.inj e).1
        unfold clB at hcl
        rw [decide_eq_true hl, Bool.true_and] at hcl
        have := of_decide_eq_false hcl
        unfold hdC at this
        rw [q2] at this
        rw [← ex]
        exact this
    | cons x y =>
      rw [q] at e
      have ex : x = c := (List.cons.inj e).1
      have := an_no
      rcases hg x (by rw [q]; exact List.mem_cons_self) with h | h
      · rw [← ex, h]; exact this.1
      · rw [← ex, h]; exact this.2.1
theorem sp_pieces {tail : List Nat} (hb : Blank tail) : ∀ (ts ps : List Str) (last : Str), (∀ t ∈ ts, TokOk t) → PieceL last ts ps → Sp (codes ps ++ tail) ts
  | [], ps, last, _, h => by
    have h : ps = [] := h
    subst h
    show Sp tail []
    have := sp_blank hb .nil
    rwa [List.append_nil] at this
  | t :: ts, ps, last, ht, h => by
    obtain ⟨g, p, rfl, hg, _, hc, hp⟩ := h
    have s := sp_pieces hb ts p t (fun x hx => ht x (List.mem_cons_of_mem _ hx)) hp
    have e : codes ((g ++ t) :: p) ++ tail = g.cps.toList ++ (t.cps.toList ++ (codes p ++ tail)) := by
      unfold codes
      rw [List.map_cons, List.flatten_cons, cps_app, List.append_assoc, List.append_assoc]
    rw [e]
    refine sp_blank hg ?_
    rcases ht t List.mem_cons_self with h | h
    · exact .run h (noAn_next (ls_run h) hb ts p (fun x hx => ht x (List.mem_cons_of_mem _ hx)) hp) s
    · simp only [signsL, List.mem_cons, List.not_mem_nil, or_false] at h
      rcases h with rfl | rfl | rfl | rfl
      · have := Sp.sign (c := 123) (.inl rfl) s
        rw [← lit_l.2.2.1] at this
        exact this
      · have := Sp.sign (c := 125) (.inr (.inl rfl)) s
        rw [← lit_l.2.2.2.1] at this
        exact this
      · have := Sp.sign (c := 59) (.inr (.inr rfl)) s
        rw [← lit_l.2.2.2.2.1] at this
        exact this
      · have e2 : ((".." : Str)).cps.toList = [46, 46] := by rw [lit_l.2.2.2.2.2]; rfl
        rw [e2]
        exact .dots s
theorem pieces_len2 : ∀ (ts ps : List Str) (last : Str), (∀ t ∈ ts, TokOk t) → PieceL last ts ps → (ps.map (·.length)).sum ≤ 11 * ts.length
  | [], ps, last, _, h => by
    have h : ps = [] := h
    subst h
    simp
  | t :: ts, ps, last, ht, h => by
    obtain ⟨g, p, rfl, hg, h3, hc, hp⟩ := h
    have := pieces_len2 ts p t (fun x hx => ht x (List.mem_cons_of_mem _ hx)) hp
    have l8 := tok_len (ht t List.mem_cons_self)
    rw [List.map_cons, List.sum_cons, Str.length_append, List.length_cons]; omega
theorem cat_codes : ∀ ps : List Str, (cat ps).cps.toList = codes ps
  | [] => rfl
  | p :: ps => by
    show (p ++ cat ps).cps.toList = _
    rw [cps_app, cat_codes ps]
    rfl
end PVL

/-! T5: trees: their tokens are tokens, their values are plain; rows of tokens, texts. -/
namespace PVL
open PySem PySem.Spec L2
theorem ok_kw {w : Str} (h : w ∈ kwL) : TokOk w := by
  rcases kwL_all w h with h | h
  · exact .inl (.inl (nmB_mono (words_nm w h).1 (by omega)))
  · exact .inr h
theorem ok_nm {z : Str} (h : Nm z) : TokOk z := .inl (.inl h.1)
theorem ok_num {i : Int} (h : Fig i) : TokOk (num i) := .inl (.inr (numT_num h))
theorem tk_w0 : TokOk "format" := ok_kw (by simp [kwL])
theorem tk_w1 : TokOk "base" := ok_kw (by simp [kwL])
theorem tk_w2 : TokOk "version" := ok_kw (by simp [kwL])
theorem tk_w3 : TokOk "mark" := ok_kw (by simp [kwL])
theorem tk_w4 : TokOk "num" := ok_kw (by simp [kwL])
theorem tk_w5 : TokOk "in" := ok_kw (by simp [kwL])
theorem tk_w6 : TokOk "size" := ok_kw (by simp [kwL])
theorem tk_w7 : TokOk "count" := ok_kw (by simp [kwL])
theorem tk_w8 : TokOk "gap" := ok_kw (by simp [kwL])
theorem tk_w9 : TokOk "sum" := ok_kw (by simp [kwL])
theorem tk_w10 : TokOk "roll" := ok_kw (by simp [kwL])
theorem tk_w11 : TokOk "over" := ok_kw (by simp [kwL])
theorem tk_w12 : TokOk "by" := ok_kw (by simp [kwL])
theorem tk_w13 : TokOk "of" := ok_kw (by simp [kwL])
theorem tk_w14 : TokOk "to" := ok_kw (by simp [kwL])
theorem tk_w15 : TokOk "pad" := ok_kw (by simp [kwL])
theorem tk_w16 : TokOk "free" := ok_kw (by simp [kwL])
theorem tk_w17 : TokOk "rest" := ok_kw (by simp [kwL])
theorem tk_w18 : TokOk "part" := ok_kw (by simp [kwL])
theorem tk_w19 : TokOk "maybe" := ok_kw (by simp [kwL])
theorem tk_w20 : TokOk "many" := ok_kw (by simp [kwL])
theorem tk_w21 : TokOk "pick" := ok_kw (by simp [kwL])
theorem tk_w22 : TokOk "case" := ok_kw (by simp [kwL])
theorem tk_w23 : TokOk "grow" := ok_kw (by simp [kwL])
theorem tk_w24 : TokOk "since" := ok_kw (by simp [kwL])
theorem tk_w25 : TokOk "nest" := ok_kw (by simp [kwL])
theorem tk_w26 : TokOk "inner" := ok_kw (by simp [kwL])
theorem tk_w27 : TokOk "{" := ok_kw (by simp [kwL])
theorem tk_w28 : TokOk "}" := ok_kw (by simp [kwL])
theorem tk_w29 : TokOk ";" := ok_kw (by simp [kwL])
theorem tk_w30 : TokOk ".." := ok_kw (by simp [kwL])

def AllT (l : List Str) : Prop := ∀ t ∈ l, TokOk t
theorem AllT.nil : AllT [] := fun t h => by cases h
theorem AllT.cons {a : Str} {l : List Str} (h : TokOk a) (r : AllT l) : AllT (a :: l) := fun t ht => by
  rcases List.mem_cons.mp ht with rfl | ht
  · exact h
  · exact r t ht
theorem AllT.app {a b : List Str} (h : AllT a) (r : AllT b) : AllT (a ++ b) := fun t ht => by
  rcases List.mem_append.mp ht with ht | ht
  · exact h t ht
  · exact r t ht
theorem allT_nums {cs : List Int} (h : ∀ c ∈ cs, Fig c) : AllT (cs.map num) := fun t ht => by
  obtain ⟨c, hc, rfl⟩ := List.mem_map.mp ht
  exact ok_num (h c hc)
theorem sh_toks {x : PV} {ts : List Str} (h : Sh x ts) : AllT ts := by
  have K : ∀ {w : Str}, w ∈ kwL → TokOk w := ok_kw
  rcases h with ⟨cs, hc, _, _, rfl⟩ | ⟨z, hz, _, rfl⟩ | ⟨z, y, hz, _, rfl⟩ | ⟨k, z, y, i, hk, hi, hz, _, rfl⟩ | ⟨z, y, i, hi, hz, _, rfl⟩ | ⟨z, a, b, i, hi, hz, _, rfl⟩ | ⟨z, a, b, i, j, hi, hj, hz, _, rfl⟩ | ⟨z, i, hi, hz, _, rfl⟩ | ⟨z, i, a, b, hi, ha, hb, hz, _, rfl⟩ | ⟨k, z, i, hk, hi, hz, _, rfl⟩
  · exact .cons (K (by simp [kwL])) (allT_nums hc)
  · exact .cons (K (by simp [kwL])) (.cons (ok_nm (nms_1 hz)) .nil)
  · exact .cons (K (by simp [kwL])) (.cons (ok_nm (nms_1 hz)) (.cons (K (by simp [kwL])) (.cons (ok_nm (nms_2 hz)) .nil)))
  · have hk' : TokOk k := by rcases hk with rfl | rfl <;> exact K (by simp [kwL])
    exact .cons hk' (.cons (ok_nm (nms_1 hz)) (.cons (ok_num hi) (.cons (K (by simp [kwL])) (.cons (ok_nm (nms_2 hz)) .nil))))
  · exact .cons (K (by simp [kwL])) (.cons (ok_nm (nms_1 hz)) (.cons (ok_num hi) (.cons (K (by simp [kwL])) (.cons (ok_nm (nms_2 hz)) .nil))))
  · exact .cons (K (by simp [kwL])) (.cons (ok_nm (nms_1 hz)) (.cons (ok_num hi) (.cons (K (by simp [kwL])) (.cons (ok_nm (nms_2 hz)) (.cons (K (by simp [kwL])) (.cons (ok_nm (nms_3 hz)) .nil))))))
  · exact .cons (K (by simp [kwL])) (.cons (ok_nm (nms_1 hz)) (.cons (ok_num hi) (.cons (K (by simp [kwL])) (.cons (ok_num hj) (.cons (K (by simp [kwL])) (.cons (ok_nm (nms_2 hz)) (.cons (K (by simp [kwL])) (.cons (ok_nm (nms_3 hz)) .nil))))))))
  · exact .cons (K (by simp [kwL])) (.cons (ok_nm (nms_1 hz)) (.cons (ok_num hi) .nil))
  · exact .cons (K (by simp [kwL])) (.cons (ok_nm (nms_1 hz)) (.cons (ok_num hi) (.cons (K (by simp [kwL])) (.cons (ok_num ha) (.cons (K (by simp [kwL])) (.cons (ok_num hb) .nil))))))
  · have hk' : TokOk k := by rcases hk with rfl | rfl <;> exact K (by simp [kwL])
    exact .cons hk' (.cons (ok_nm (nms_1 hz)) (.cons (ok_num hi) .nil))
theorem tkb_toks {R : PV → List Str → Prop} (hR : ∀ x ts, R x ts → AllT ts) {items : List PV} {bs : List Str} (h : TkB R items bs) : AllT bs := by
  obtain ⟨tss, ha, rfl⟩ := h
  refine .cons (ok_kw (by simp [kwL])) (.app ?_ (.cons (ok_kw (by simp [kwL])) .nil))
  induction ha with
  | nil => exact .nil
  | cons h r ih => rw [List.flatten_cons]; exact .app (hR _ _ h) ih
theorem case_toks {R : PV → List Str → Prop} (hR : ∀ x ts, R x ts → AllT ts) : ∀ (cs : List (Str × List PV × List Str)), (∀ c ∈ cs, immL c.2.1 = true ∧ TkB R c.2.1 c.2.2) → (∀ c ∈ cs, Nm c.1) → AllT (cs.map fun c => caseT (c.1, c.2.2)).flatten
  | [], _, _ => .nil
  | c :: cs, hc, hn => by
    rw [List.map_cons, List.flatten_cons]
    exact .app (.cons (ok_kw (by simp [kwL])) (.cons (ok_nm (hn c List.mem_cons_self)) (tkb_toks hR (hc c List.mem_cons_self).2))) (case_toks hR cs (fun q hq => hc q (List.mem_cons_of_mem _ hq)) fun q hq => hn q (List.mem_cons_of_mem _ hq))
theorem case_len : ∀ (cs : List (Str × List PV × List Str)) (c : Str × List PV × List Str), c ∈ cs → c.2.2.length ≤ (cs.map fun c => caseT (c.1, c.2.2)).flatten.length
  | d :: cs, c, h => by
    rw [List.map_cons, List.flatten_cons, List.length_append]
    rcases List.mem_cons.mp h with rfl | h
    · have : (caseT (c.1, c.2.2)).length = c.2.2.length + 2 := rfl
      omega
    · have := case_len cs c h; omega
theorem tk_toks : ∀ (n : Nat) (x : PV) (ts : List Str), Tk n x ts → AllT ts := by
  intro n
  induction n with
  | zero => intro x ts h; exact h.elim
  | succ n ih =>
    intro x ts h
    have K : ∀ {w : Str}, w ∈ kwL → TokOk w := ok_kw
    replace h := Tk_cases h
    rcases h with ⟨t0, h, rfl⟩ | ⟨i, items, bs, hi, _, hb, _, rfl⟩ | ⟨z, cs, hc, ⟨_, hz⟩, _, rfl⟩ | ⟨k, z, i, items, bs, hk, hi, _, hb, hz, _, rfl⟩ | ⟨k, z, items, bs, hk, _, hb, hz, _, rfl⟩
    · exact .app (sh_toks h) (.cons (K (by simp [kwL])) .nil)
    · exact .cons (K (by simp [kwL])) (.cons (ok_num hi) (tkb_toks ih hb))
    · exact .cons (K (by simp [kwL])) (.cons (ok_nm (nms_1 hz)) (.cons (K (by simp [kwL])) (.app (case_toks ih cs hc fun c hcm => hz _ (List.mem_cons_of_mem _ (List.mem_map_of_mem hcm))) (.cons (K (by simp [kwL])) .nil))))
    · have hk' : TokOk k := by rcases hk with rfl | rfl <;> exact K (by simp [kwL])
      exact .cons hk' (.cons (ok_nm (nms_1 hz)) (.cons (ok_num hi) (tkb_toks ih hb)))
    · have hk' : TokOk k := by rcases hk with rfl | rfl | rfl <;> exact K (by simp [kwL])
      exact .cons hk' (.cons (ok_nm (nms_1 hz)) (tkb_toks ih hb))
/-! plain -/
theorem plain_up : ∀ {n : Nat} {x : PV}, PVL.plain n x = true → PVL.plain (n + 1) x = true
  | 0, x, h => by cases x <;> simp [PVL.plain] at h
  | n + 1, x, h => by
    cases x with
    | tup xs =>
      simp only [PVL.plain, Bool.and_eq_true, decide_eq_true_eq, List.all_eq_true] at h ⊢
      exact ⟨h.1, fun y hy => plain_up (h.2 y hy)⟩
    | _ => first | rfl | simp [PVL.plain] at h
theorem plain_le {n m : Nat} {x : PV} (h : PVL.plain n x = true) (hm : n ≤ m) : PVL.plain m x = true := by
  obtain ⟨k, rfl⟩ : ∃ k, m = n + k := ⟨m - n, by omega⟩
  induction k with
  | zero => exact h
  | succ k ih => exact plain_up (ih (by omega))
theorem sh_plain {x : PV} {ts : List Str} (h : Sh x ts) (hl : ts.length ≤ 80000) : PVL.plain 3 x = true := by
  rcases h with ⟨cs, hc, _, rfl, rfl⟩ | ⟨z, hz, rfl, _⟩ | ⟨z, y, hz, rfl, _⟩ | ⟨k, z, y, i, hk, hi, hz, rfl, _⟩ | ⟨z, y, i, hi, hz, rfl, _⟩ | ⟨z, a, b, i, hi, hz, rfl, _⟩ | ⟨z, a, b, i, j, hi, hj, hz, rfl, _⟩ | ⟨z, i, hi, hz, rfl, _⟩ | ⟨z, i, a, b, hi, ha, hb, hz, rfl, _⟩ | ⟨k, z, i, hk, hi, hz, rfl, _⟩
  · simp only [List.length_cons, List.length_map] at hl
    have h1 : cs.length ≤ 16777216 := by omega
    simp [PVL.plain, h1]
  all_goals simp [PVL.plain]
theorem tkb_plain {n : Nat} {R : PV → List Str → Prop} (hR : ∀ x ts, R x ts → ts.length ≤ 80000 → PVL.plain n x = true) {items : List PV} {bs : List Str} (h : TkB R items bs) (hi : items.length ≤ 16777216) (hl : bs.length ≤ 80000) : PVL.plain (n + 1) (.tup items) = true := by
  obtain ⟨tss, ha, rfl⟩ := h
  simp only [List.length_cons, List.length_append] at hl
  have hl2 : tss.flatten.length ≤ 80000 := by omega
  clear hl
  simp only [PVL.plain, Bool.and_eq_true, decide_eq_true_eq, List.all_eq_true]
  refine ⟨hi, ?_⟩
  clear hi
  induction ha with
  | nil => intro x hx; cases hx
  | cons h r ih =>
    rw [List.flatten_cons, List.length_append] at hl2
    intro x hx
    rcases List.mem_cons.mp hx with rfl | hx
    · exact hR _ _ h (by omega)
    · exact ih (by omega) x hx
theorem tk_plain : ∀ (k : Nat) (x : PV) (ts : List Str), Tk k x ts → ts.length ≤ 80000 → PVL.plain (2 * k + 1) x = true := by
  intro k
  induction k using Nat.strongRecOn with
  | _ k ih =>
  cases k with
  | zero => intro x ts h; exact h.elim
  | succ k =>
    intro x ts h hl
    rw [Tk_succ] at h
    rcases h with ⟨t0, h, rfl⟩ | ⟨_, i, items, bs, hi, _, hb, rfl, rfl⟩ | ⟨h1, z, cs, hc, _, rfl, rfl⟩ | ⟨_, kd, z, i, items, bs, hk, hi, _, hb, hz, rfl, rfl⟩ | ⟨_, kd, z, items, bs, hk, _, hb, hz, rfl, rfl⟩
    · rw [List.length_append] at hl
      exact plain_le (sh_plain h (by omega)) (by omega)
    · simp only [List.length_cons] at hl
      have := tkb_plain (ih k (by omega)) hb (by have := tkb_items hb; omega) (by omega)
      have e : 2 * (k + 1) + 1 = (2 * k + 1 + 1) + 1 := by omega
      rw [e]
      simp [PVL.plain] at this ⊢
      exact this
    · simp only [List.length_cons, List.length_append, List.length_nil] at hl
      have hcl := cases_len cs
      have e : 2 * (k + 1) + 1 = (2 * (k - 1) + 1 + 1 + 1 + 1) + 1 := by omega
      rw [e]
      have hall : ∀ c ∈ cs, PVL.plain (2 * (k - 1) + 1 + 1 + 1) (.tup [.str c.1, .tup c.2.1]) = true := by
        intro c hcm
        obtain ⟨_, hb⟩ := hc c hcm
        have hlc := case_len cs c hcm
        have := tkb_plain (ih (k - 1) (by omega)) hb (by have := tkb_items hb; omega) (by omega)
        simp [PVL.plain] at this ⊢
        exact this
      have h16 : cs.length ≤ 16777216 := by omega
      have h2 : PVL.plain (2 * (k - 1) + 1 + 1 + 1 + 1) (.tup (cs.map fun c => .tup [.str c.1, .tup c.2.1])) = true := by
        rw [show PVL.plain (2 * (k - 1) + 1 + 1 + 1 + 1) (.tup (cs.map fun c => .tup [.str c.1, .tup c.2.1])) = (decide ((cs.map fun c => PV.tup [.str c.1, .tup c.2.1]).length ≤ 16777216) && (cs.map fun c => PV.tup [.str c.1, .tup c.2.1]).all (PVL.plain (2 * (k - 1) + 1 + 1 + 1))) from rfl]
        rw [Bool.and_eq_true, decide_eq_true_eq, List.length_map, List.all_eq_true]
        refine ⟨h16, fun y hy => ?_⟩
        obtain ⟨c, hcm, rfl⟩ := List.mem_map.mp hy
        exact hall c hcm
      generalize (cs.map fun c => PV.tup [.str c.1, .tup c.2.1]) = C at *
      rw [show PVL.plain ((2 * (k - 1) + 1 + 1 + 1 + 1) + 1) (.tup [.str "pick", .str z, .tup C]) = (decide (([.str "pick", .str z, .tup C] : List PV).length ≤ 16777216) && ([.str "pick", .str z, .tup C] : List PV).all (PVL.plain (2 * (k - 1) + 1 + 1 + 1 + 1))) from rfl]
      simp only [List.all_cons, List.all_nil, h2, Bool.and_true]
      simp [PVL.plain]
    · simp only [List.length_cons] at hl
      have := tkb_plain (ih k (by omega)) hb (by have := tkb_items hb; omega) (by omega)
      have e : 2 * (k + 1) + 1 = (2 * k + 1 + 1) + 1 := by omega
      rw [e]
      simp [PVL.plain] at this ⊢
      exact this
    · simp only [List.length_cons] at hl
      have := tkb_plain (ih k (by omega)) hb (by have := tkb_items hb; omega) (by omega)
      have e : 2 * (k + 1) + 1 = (2 * k + 1 + 1) + 1 := by omega
      rw [e]
      simp [PVL.plain] at this ⊢
      exact this
theorem tree_plain {nm : Str} {base ver : Int} {items : List PV} {bs : List Str} (h : IsTree nm base ver items bs) (hl : bs.length ≤ 80000) : PVL.plain 40 (.tup [.str "tree", treeV nm base ver items]) = true := by
  have := tkb_plain (fun x ts h hl => tk_plain 12 x ts h hl) h.t (by have := tkb_items h.t; omega) hl
  have h2 : PVL.plain 28 (.tup [.str "tree", treeV nm base ver items]) = true := by
    simp [PVL.plain, treeV] at this ⊢
    exact this
  exact plain_le h2 (by omega)
theorem tree_toks {nm : Str} {base ver : Int} {items : List PV} {bs hd : List Str} (h : IsTree nm base ver items bs) (hh : HeadOk nm base ver hd) : AllT (hd ++ bs) := by
  have K : ∀ {w : Str}, w ∈ kwL → TokOk w := ok_kw
  refine .app ?_ (tkb_toks (tk_toks 12) h.t)
  have h1 : AllT [S "format", nm, S "base", num base] := .cons (K (by simp [kwL])) (.cons (ok_nm h.nn) (.cons (K (by simp [kwL])) (.cons (ok_num h.b) .nil)))
  rcases hh with rfl | ⟨rfl, rfl⟩
  · unfold headT
    refine .app h1 ?_
    split
    · exact .nil
    · exact .cons (K (by simp [kwL])) (.cons (ok_num h.v) .nil)
  · exact h1.app (b := [S "version", num 1]) (.cons (K (by simp [kwL])) (.cons (ok_num h.v) .nil))
theorem head_len {nm : Str} {base ver : Int} {hd : List Str} (hh : HeadOk nm base ver hd) : hd.length ≤ 6 := by
  rcases hh with rfl | ⟨rfl, rfl⟩
  · exact headT_len _ _ _
  · simp
theorem cut_4 (a b c d : PV) (r : List PV) : pcut (a :: b :: c :: d :: r) none (some 4) = [a, b, c, d] ∧ pcut (a :: b :: c :: d :: r) (some 4) none = r := by
  have h4 : (4 : Int) = ((4 : Nat) : Int) := rfl
  have e : min 4 (a :: b :: c :: d :: r).length = 4 := by simp only [List.length_cons]; omega
  have e2 : ∀ D, HT.sIx (a :: b :: c :: d :: r).length D (some ((4 : Nat) : Int)) = 4 := fun D => by rw [HT.sIx_nat, e]
  unfold pcut
  rw [h4, HT.sIx_none, HT.sIx_none, e2, e2]
  constructor
  · rfl
  · simp only [List.drop_succ_cons, List.drop_zero, List.length_cons]
    exact List.take_of_length_le (by omega)
theorem num_1 : num 1 = "1" := by decide +kernel
theorem row_ok (d : Dr) {nm : Str} {base ver : Int} {items : List PV} {bs : List Str} (h : IsTree nm base ver items bs) (hl : bs.length ≤ 80000) : ∃ (hd : List Str) (d' : Dr), m__law_row [d.pv, treeV nm base ver items] = .ok (toks (hd ++ bs)) [some d'.pv, some (treeV nm base ver items)] ∧ HeadOk nm base ver hd := by
  have e0 := all_tokens_ok nm base ver items bs 12 (by omega) h.b h.v h.i h.t (by omega)
  have him : (treeV nm base ver items).imm = true := by simp [treeV, h.i]
  have hx : pIx (treeV nm base ver items) (.int 3) = some (.int ver) := by simp [treeV]
  have hti : ∀ l : List Str, immL (l.map PV.str) = true := strs_map
  by_cases h1 : ver = 1
  · obtain ⟨w, d', e1, w0, w1⟩ := draw_c d 2 (by decide) (by decide)
    by_cases hw : w = 0
    · refine ⟨[S "format", nm, S "base", num base, S "version", num 1], d', ?_, .inr ⟨h1, rfl⟩⟩
      subst h1
      have eh : headT nm base 1 = [S "format", nm, S "base", num base] := by unfold headT; rw [if_pos rfl, List.append_nil]
      rw [eh] at e0
      have hb := hti bs
      have z1 : 4 + 2 + bs.length ≤ sizeLine := le_size (by omega)
      rw [num_1]
      unfold m__law_row
      rw [fnM_at rfl]
      generalize treeV nm base 1 items = T at *
      simp only [toks, List.cons_append, List.nil_append, List.map_cons] at e0 ⊢
      have ebl : (bs.map PV.str).length = bs.length := List.length_map ..
      generalize num base = B at *
      generalize bs.map PV.str = BS at *
      have z2 : BS.length + 6 ≤ sizeLine := by rw [ebl]; omega
      have z3 : 6 + BS.length ≤ sizeLine := by omega
      simp [b_m__law_row, e0, him, hx, e1, hw, hb, (cut_4 _ _ _ _ BS).1, (cut_4 _ _ _ _ BS).2, z3]
    · refine ⟨headT nm base ver, d', ?_, .inl rfl⟩
      unfold m__law_row
      rw [fnM_at rfl]
      generalize treeV nm base ver items = T at *
      generalize headT nm base ver ++ bs = H at *
      simp [b_m__law_row, e0, him, hx, e1, hw, h1]
  · refine ⟨headT nm base ver, d, ?_, .inl rfl⟩
    unfold m__law_row
    rw [fnM_at rfl]
    generalize treeV nm base ver items = T at *
    generalize headT nm base ver ++ bs = H at *
    simp [b_m__law_row, e0, him, hx, h1]
end PVL

namespace K01
open PySem PySem.Spec L2 PVL
/-! ### the text by places -/
def top (i : Nat) : Stmt := PySem.Challenge.pw_formatory_k01_texts_read.main.body.getD i (.Pass ⟨0, 0, 0, 0⟩)
abbrev s__law_begin : Stmt := top 28
abbrev s__law_draw : Stmt := top 29
abbrev s__law_pick : Stmt := top 30
abbrev s__law_kinds : Stmt := top 41
abbrev s__law_figure : Stmt := top 40
abbrev s__law_words : Stmt := top 37
abbrev s__law_plain_words : Stmt := top 38
abbrev s__law_name : Stmt := top 39
abbrev s__law_pop : Stmt := top 31
abbrev s__law_short : Stmt := top 42
abbrev s__law_item : Stmt := top 44
abbrev s__law_holder : Stmt := top 43
abbrev s__law_inside : Stmt := top 45
abbrev s__law_any_tree : Stmt := top 46
abbrev s__law_rare : Stmt := top 32
abbrev s__law_tokens : Stmt := top 35
abbrev s__law_all_tokens : Stmt := top 36
abbrev s__law_filled : Stmt := top 47
abbrev s__law_clings : Stmt := top 49
abbrev s__law_pieces : Stmt := top 50
abbrev s__law_row : Stmt := top 48
abbrev s__law_is_int : Stmt := top 33
abbrev s__law_same : Stmt := top 34
abbrev s_TokenReader___init__ : Stmt := inClass (top 16) 0
abbrev s_TokenReader_peek : Stmt := inClass (top 16) 1
abbrev s_TokenReader_fail : Stmt := inClass (top 16) 3
abbrev s_TokenReader_skip : Stmt := inClass (top 16) 4
abbrev s_TokenReader_peek_kind : Stmt := inClass (top 16) 2
abbrev s_TokenReader_read_name : Stmt := inClass (top 16) 5
abbrev s_TokenReader_read_number : Stmt := inClass (top 16) 6
abbrev s_read_mark : Stmt := top 18
abbrev s_read_num : Stmt := top 19
abbrev s_read_told : Stmt := top 20
abbrev s_read_sum : Stmt := top 21
abbrev s_read_plain : Stmt := top 23
abbrev s_read_block : Stmt := top 17
abbrev s_read_item : Stmt := top 25
abbrev s_read_holder : Stmt := top 24
abbrev s_read_pick : Stmt := top 22
abbrev s_run_end : Stmt := top 12
abbrev s_all_in : Stmt := top 8
abbrev s_is_name : Stmt := top 9
abbrev s_is_number : Stmt := top 10
abbrev s_run_token : Stmt := top 11
abbrev s_tokens_of : Stmt := top 13
abbrev s_read_format : Stmt := top 26
abbrev s__law_answer : Stmt := top 51
abbrev s_law : Stmt := top 52
abbrev s_BadText : Stmt := inClass (top 2) 0
/-! ### the pure functions -/
def t_FormatError : List (Str × Bool) := [("BadText", true)]
def t_BadText : List (Str × Bool) := [("BadText", true)]
def b_m__law_answer : SM := sTry (sRet (eTup (aCons (gOwn (eC (.str "tree"))) (aCons (gOwn (eCall m_read_format (aCons (gRef 0) (aNil)))) (aNil))))) ((t_BadText, some 1, fun x => sRet (eN (fun env => immO ((rTup (raCons (rC (.str "bad")) (raCons (rXf x "BadText" "at") (raNil)))) env)))) :: (t_FormatError, none, fun _ => sRet (eTup (aCons (gOwn (eC (.str "other"))) (aNil)))) :: [])
def m__law_answer : FM := fnM 1 2 [] b_m__law_answer
def b_m_law : SM := sSeq (sAsg (eCall m__law_begin (aCons (gRef 0) (aNil))) (tgN 1)) (sSeq (sAsg (eCall m__law_any_tree (aCons (gRef 1) (aCons (gOwn (eC (.int 1900))) (aNil)))) (tgN 2)) (sSeq (sIf (bE (eCall m__law_rare (aCons (gRef 1) (aCons (gOwn (eC (.int 12))) (aNil))))) (sAsg (eCall m__law_filled (aCons (gRef 1) (aCons (gRef 2) (aNil)))) (tgN 2)) (sNil)) (sSeq (sAsg (eCall m__law_any_tree (aCons (gRef 1) (aCons (gOwn (eC (.int 200))) (aNil)))) (tgN 3)) (sSeq (sAsg (eOp pAdd (gOwn (eSM1 pJoin (eC (.str "")) (gOwn (eCall m__law_pieces (aCons (gRef 1) (aCons (gOwn (eCall m__law_row (aCons (gRef 1) (aCons (gRef 2) (aNil))))) (aNil))))))) (gOwn (eCall m__law_pick (aCons (gRef 1) (aCons (gOwn (eLst (aCons (gOwn (eC (.str ""))) (aCons (gOwn (eC (.str " "))) (aCons (gOwn (eC (.str "\n"))) (aCons (gOwn (eC (.str "\n  \n"))) (aNil))))))) (aNil)))))) (tgN 4)) (sSeq (sAsg (eSM1 pJoin (eC (.str "")) (gOwn (eCall m__law_pieces (aCons (gRef 1) (aCons (gOwn (eCall m__law_row (aCons (gRef 1) (aCons (gRef 2) (aNil))))) (aNil)))))) (tgN 5)) (sSeq (sAsg (eSM1 pJoin (eC (.str "")) (gOwn (eCall m__law_pieces (aCons (gRef 1) (aCons (gOwn (eCall m__law_row (aCons (gRef 1) (aCons (gRef 3) (aNil))))) (aNil)))))) (tgN 6)) (sSeq (sFor (itS (eLst (aCons (gOwn (eTup (aCons (gOwn (eVar 4)) (aCons (gOwn (eVar 2)) (aNil))))) (aCons (gOwn (eTup (aCons (gOwn (eVar 6)) (aCons (gOwn (eVar 3)) (aNil))))) (aCons (gOwn (eTup (aCons (gOwn (eVar 5)) (aCons (gOwn (eVar 2)) (aNil))))) (aCons (gOwn (eTup (aCons (gOwn (eVar 4)) (aCons (gOwn (eVar 2)) (aNil))))) (aCons (gOwn (eTup (aCons (gOwn (eVar 6)) (aCons (gOwn (eVar 3)) (aNil))))) (aNil)))))))) (tgT 2 (tgsCons (tgN 7) (tgsCons (tgN 8) (tgsNil)))) (sIf (bNot (bE (eCall (m__law_same 40) (aCons (gOwn (eCall m__law_answer (aCons (gRef 7) (aNil)))) (aCons (gOwn (eTup (aCons (gOwn (eC (.str "tree"))) (aCons (gOwn (eVar 8)) (aNil))))) (aNil)))))) (sRet (eC (.bl false))) (sNil))) (sRet (eC (.bl true))))))))))
def m_law : FM := fnM 1 9 [] b_m_law
/-! ### each def does as its pure function says -/
section
variable {P : Program} {w : World} {K : PySem.W.Frag} {mg : Str → Option Value} {base : Heap}
theorem b_abs : bootBuiltins "abs" = some (.builtin "abs") := by decide +kernel
theorem b_bool : bootBuiltins "bool" = some (.type "bool") := by decide +kernel
theorem b_int : bootBuiltins "int" = some (.type "int") := by decide +kernel
theorem b_isinstance : bootBuiltins "isinstance" = some (.builtin "isinstance") := by decide +kernel
theorem b_len : bootBuiltins "len" = some (.builtin "len") := by decide +kernel
theorem b_str : bootBuiltins "str" = some (.type "str") := by decide +kernel
theorem b_tuple : bootBuiltins "tuple" = some (.type "tuple") := by decide +kernel
theorem sc__law_begin : FnScope ["script", "cell"] ["script"] (defScope s__law_begin) := ⟨rfl, rfl, rfl, by decide +kernel, rfl, by decide +kernel, by decide +kernel⟩
theorem ok__law_begin {f__law_begin : Addr} {fd__law_begin : FuncData} (F__law_begin : L2.Fun K "_law_begin" "_law_begin" s__law_begin f__law_begin fd__law_begin) (hm__law_begin : mg "_law_begin" = some (.ref f__law_begin)) (hb__law_begin : Binds K fd__law_begin ["script"] []) (z_int : mg "int" = none) : Cal P w K mg base "_law_begin" 2 1 m__law_begin :=
  cal_of (k := 1) F__law_begin hm__law_begin hb__law_begin sc__law_begin rfl rfl (fun cdv A outer s H E hr => ⟨_, jss_one (js_ret (S := []) (j_lst (ja_cons (jg (j_lc (own := [("cell", 1)]) rfl sc__law_begin.nd (k_s K (k_sl K (jg_var 0) (jo_none) (jo_some (j_int)))) (by show blkC ["script", "cell"] (defScope s__law_begin) _ [("cell", 1)] = true; decide +kernel) (fun s H C cl fp => jp_n 1 sc__law_begin.nd) (by decide) (fun s H C cl fp => jtt_nil) (fun s H C cl fp => jn_callTy (sim_int (K := K)) call_intP b_int z_int (jra_cons (jr_var 1) (jra_nil))))) (ja_cons (jg (j_int)) (ja_cons (jg (j_int)) (ja_cons (jg (j_int)) (ja_nil)))))))⟩) (by decide)
theorem sc__law_draw : FnScope ["d", "many", "size", "found", "cell"] ["d", "many"] (defScope s__law_draw) := ⟨rfl, rfl, rfl, by decide +kernel, rfl, by decide +kernel, by decide +kernel⟩
theorem ok__law_draw {f__law_draw : Addr} {fd__law_draw : FuncData} (F__law_draw : L2.Fun K "_law_draw" "_law_draw" s__law_draw f__law_draw fd__law_draw) (hm__law_draw : mg "_law_draw" = some (.ref f__law_draw)) (hb__law_draw : Binds K fd__law_draw ["d", "many"] []) (z_abs : mg "abs" = none) (z_int : mg "int" = none) (z_len : mg "len" = none) : Cal P w K mg base "_law_draw" 2 2 m__law_draw :=
  cal_of (k := 1) F__law_draw hm__law_draw hb__law_draw sc__law_draw rfl rfl (fun cdv A outer s H E hr => ⟨_, jss_cons (js_if (jnt_cmp (sim_B0 (K := K)) op_gt (by rfl) (jr_ix (sim_ix (K := K)) ix_seq (jr_var 0) (jr_int)) (jr_int)) (jss_cons (js_set 3 sc__law_draw.nd (j_r (jr_ix (sim_ix (K := K)) ix_seq (jr_var 0) (jr_int)))) (jss_cons (js_setIx (S := []) (i := 0) (sim_setL (K := K)) set_list (jn_op (sim_I (K := K)) op_fdiv (jr_var 3) (jr_var 1)) (jr_var 0) (jr_int)) (jss_one (js_ret (S := []) (jn_op (sim_I (K := K)) op_mod (jr_callTy (sim_int (K := K)) call_intP b_int z_int (jra_cons (jr_var 3) (jra_nil))) (jr_var 1)))))) (jss_nil (S := []))) (jss_cons (js_set 2 sc__law_draw.nd (j_int)) (jss_cons (js_if (jnt_cmp (sim_B0 (K := K)) op_lt (by rfl) (jr_ix (sim_ix (K := K)) ix_seq (jr_var 0) (jr_int)) (jr_callB (sim_len (K := K)) call_len b_len z_len (jra_cons (jr_ix (sim_ix (K := K)) ix_seq (jr_var 0) (jr_int)) (jra_nil)))) (jss_cons (js_set 4 sc__law_draw.nd (j_r (jr_ix (sim_ix (K := K)) ix_seq (jr_ix (sim_ix (K := K)) ix_seq (jr_var 0) (jr_int)) (jr_ix (sim_ix (K := K)) ix_seq (jr_var 0) (jr_int))))) (jss_one (js_set 2 sc__law_draw.nd (jn_op (sim_add (K := K)) op_addP (jr_op (sim_I (K := K)) op_mul (jr_int) (jr_callB (sim_abs (K := K)) call_abs b_abs z_abs (jra_cons (jr_var 4) (jra_nil)))) (jr_callTy (sim_int (K := K)) call_intP b_int z_int (jra_cons (jr_cmp (sim_B0 (K := K)) op_lt (by rfl) (jr_var 4) (jr_int)) (jra_nil))))))) (jss_nil (S := []))) (jss_cons (js_augIx (S := []) (i := 0) (sim_ixL (K := K)) get_listL (sim_addI (K := K)) ip_addP (sim_setL (K := K)) set_list (jr_var 0) (jr_int) (j_int)) (jss_cons (js_if (jnt_cmp (sim_B0 (K := K)) op_ge (by rfl) (jr_var 2) (jr_op (sim_I (K := K)) op_mul (jr_int) (jr_op (sim_I (K := K)) op_pow (jr_int) (jr_int)))) (jss_cons (js_set 3 sc__law_draw.nd (jn_op (sim_I (K := K)) op_mod (jr_callTy (sim_int (K := K)) call_intP b_int z_int (jra_cons (jr_op (sim_I (K := K)) op_fdiv (jr_var 2) (jr_int)) (jra_nil))) (jr_op (sim_I (K := K)) op_shl (jr_int) (jr_int)))) (jss_cons (js_setIx (S := []) (i := 0) (sim_setL (K := K)) set_list (jn_op (sim_I (K := K)) op_fdiv (jr_var 3) (jr_var 1)) (jr_var 0) (jr_int)) (jss_one (js_ret (S := []) (jn_op (sim_I (K := K)) op_mod (jr_callTy (sim_int (K := K)) call_intP b_int z_int (jra_cons (jr_var 3) (jra_nil))) (jr_var 1)))))) (jss_nil (S := []))) (jss_cons (js_setIx (S := []) (i := 0) (sim_setL (K := K)) set_list (jn_op (sim_I (K := K)) op_mod (jr_callTy (sim_int (K := K)) call_intP b_int z_int (jra_cons (jr_op (sim_add (K := K)) op_addP (jr_op (sim_add (K := K)) op_addP (jr_op (sim_add (K := K)) op_addP (jr_op (sim_I (K := K)) op_mul (jr_ix (sim_ix (K := K)) ix_seq (jr_var 0) (jr_int)) (jr_int)) (jr_op (sim_I (K := K)) op_mul (jr_op (sim_I (K := K)) op_mod (jr_callTy (sim_int (K := K)) call_intP b_int z_int (jra_cons (jr_var 2) (jra_nil))) (jr_int)) (jr_int))) (jr_op (sim_I (K := K)) op_mul (jr_ix (sim_ix (K := K)) ix_seq (jr_var 0) (jr_int)) (jr_int))) (jr_int)) (jra_nil))) (jr_int)) (jr_var 0) (jr_int)) (jss_one (js_ret (S := []) (jn_op (sim_I (K := K)) op_mod (jr_callTy (sim_int (K := K)) call_intP b_int z_int (jra_cons (jr_op (sim_I (K := K)) op_fdiv (jr_ix (sim_ix (K := K)) ix_seq (jr_var 0) (jr_int)) (jr_int)) (jra_nil))) (jr_var 1)))))))))⟩) (by decide)
theorem sc__law_pick : FnScope ["d", "row"] ["d", "row"] (defScope s__law_pick) := ⟨rfl, rfl, rfl, by decide +kernel, rfl, by decide +kernel, by decide +kernel⟩
theorem ok__law_pick {f__law_pick : Addr} {fd__law_pick : FuncData} (F__law_pick : L2.Fun K "_law_pick" "_law_pick" s__law_pick f__law_pick fd__law_pick) (hm__law_pick : mg "_law_pick" = some (.ref f__law_pick)) (hb__law_pick : Binds K fd__law_pick ["d", "row"] []) (c__law_draw : Cal P w K mg base "_law_draw" 2 2 m__law_draw) (z_len : mg "len" = none) : Cal P w K mg base "_law_pick" 3 2 m__law_pick :=
  cal_of (k := 2) F__law_pick hm__law_pick hb__law_pick sc__law_pick rfl rfl (fun cdv A outer s H E hr => ⟨_, jss_one (js_ret (S := []) (j_ix (sim_ix (K := K)) ix_seq (jg_var 1) (jg (k_fn K mg c__law_draw (hr.mono (by decide)) (takes_of rfl rfl rfl rfl) (ja_cons (jg_var 0) (ja_cons (jg (jn_callB (sim_len (K := K)) call_len b_len z_len (jra_cons (jr_var 1) (jra_nil)))) (ja_nil)))))))⟩) (by decide)
theorem sc__law_kinds : FnScope ["room", "text"] ["room"] (defScope s__law_kinds) := ⟨rfl, rfl, rfl, by decide +kernel, rfl, by decide +kernel, by decide +kernel⟩
theorem ok__law_kinds {f__law_kinds : Addr} {fd__law_kinds : FuncData} (F__law_kinds : L2.Fun K "_law_kinds" "_law_kinds" s__law_kinds f__law_kinds fd__law_kinds) (hm__law_kinds : mg "_law_kinds" = some (.ref f__law_kinds)) (hb__law_kinds : Binds K fd__law_kinds ["room"] [])  : Cal P w K mg base "_law_kinds" 2 1 m__law_kinds :=
  cal_of (k := 1) F__law_kinds hm__law_kinds hb__law_kinds sc__law_kinds rfl rfl (fun cdv A outer s H E hr => ⟨_, jss_cons (js_set 1 sc__law_kinds.nd (j_str)) (jss_cons (js_if (jnt_cmp (sim_B0 (K := K)) op_gt (by rfl) (jr_var 0) (jr_int)) (jss_one (js_set 1 sc__law_kinds.nd (jn_op (sim_add (K := K)) op_addP (jr_var 1) (jr_str)))) (jss_nil (S := []))) (jss_cons (js_if (jnt_cmp (sim_B0 (K := K)) op_gt (by rfl) (jr_var 0) (jr_int)) (jss_one (js_set 1 sc__law_kinds.nd (jn_op (sim_add (K := K)) op_addP (jr_var 1) (jr_str)))) (jss_nil (S := []))) (jss_one (js_ret (S := []) (j_split (jn_op (sim_add (K := K)) op_addP (jr_var 1) (jr_str)) (jg (j_str)))))))⟩) (by decide)
theorem sc__law_figure : FnScope ["d", "way"] ["d"] (defScope s__law_figure) := ⟨rfl, rfl, rfl, by decide +kernel, rfl, by decide +kernel, by decide +kernel⟩
theorem ok__law_figure {f__law_figure : Addr} {fd__law_figure : FuncData} (F__law_figure : L2.Fun K "_law_figure" "_law_figure" s__law_figure f__law_figure fd__law_figure) (hm__law_figure : mg "_law_figure" = some (.ref f__law_figure)) (hb__law_figure : Binds K fd__law_figure ["d"] []) (c__law_draw : Cal P w K mg base "_law_draw" 2 2 m__law_draw) (c__law_pick : Cal P w K mg base "_law_pick" 3 2 m__law_pick) : Cal P w K mg base "_law_figure" 4 1 m__law_figure :=
  cal_of (k := 3) F__law_figure hm__law_figure hb__law_figure sc__law_figure rfl rfl (fun cdv A outer s H E hr => ⟨_, jss_cons (js_set 1 sc__law_figure.nd (k_fn K mg c__law_draw (hr.mono (by decide)) (takes_of rfl rfl rfl rfl) (ja_cons (jg_var 0) (ja_cons (jg (j_int)) (ja_nil))))) (jss_cons (js_if (jnt_cmp (sim_eq (K := K)) (op_eqP (hu64 hr)) (by rfl) (jr_var 1) (jr_int)) (jss_one (js_ret (S := []) (k_fn K mg c__law_draw (hr.mono (by decide)) (takes_of rfl rfl rfl rfl) (ja_cons (jg_var 0) (ja_cons (jg (j_int)) (ja_nil)))))) (jss_nil (S := []))) (jss_cons (js_if (jnt_cmp (sim_eq (K := K)) (op_eqP (hu64 hr)) (by rfl) (jr_var 1) (jr_int)) (jss_one (js_ret (S := []) (k_fn K mg c__law_pick (hr.mono (by decide)) (takes_of rfl rfl rfl rfl) (ja_cons (jg_var 0) (ja_cons (jg (j_lst (ja_cons (jg (j_int)) (ja_cons (jg (j_int)) (ja_cons (jg (j_int)) (ja_cons (jg (j_int)) (ja_cons (jg (j_int)) (ja_cons (jg (j_int)) (ja_cons (jg (j_int)) (ja_cons (jg (j_int)) (ja_cons (jg (j_int)) (ja_nil)))))))))))) (ja_nil)))))) (jss_nil (S := []))) (jss_one (js_ret (S := []) (k_fn K mg c__law_draw (hr.mono (by decide)) (takes_of rfl rfl rfl rfl) (ja_cons (jg_var 0) (ja_cons (jg (j_int)) (ja_nil))))))))⟩) (by decide)
theorem sc__law_words : FnScope ["text"] [] (defScope s__law_words) := ⟨rfl, rfl, rfl, by decide +kernel, rfl, by decide +kernel, by decide +kernel⟩
theorem ok__law_words {f__law_words : Addr} {fd__law_words : FuncData} (F__law_words : L2.Fun K "_law_words" "_law_words" s__law_words f__law_words fd__law_words) (hm__law_words : mg "_law_words" = some (.ref f__law_words)) (hb__law_words : Binds K fd__law_words [] [])  : Cal P w K mg base "_law_words" 2 0 m__law_words :=
  cal_of (k := 1) F__law_words hm__law_words hb__law_words sc__law_words rfl rfl (fun cdv A outer s H E hr => ⟨_, jss_cons (js_set 0 sc__law_words.nd (j_str)) (jss_one (js_ret (S := []) (j_split (jn_op (sim_add (K := K)) op_addP (jr_var 0) (jr_str)) (jg (j_str)))))⟩) (by decide)
theorem sc__law_plain_words : FnScope ["text"] [] (defScope s__law_plain_words) := ⟨rfl, rfl, rfl, by decide +kernel, rfl, by decide +kernel, by decide +kernel⟩
theorem ok__law_plain_words {f__law_plain_words : Addr} {fd__law_plain_words : FuncData} (F__law_plain_words : L2.Fun K "_law_plain_words" "_law_plain_words" s__law_plain_words f__law_plain_words fd__law_plain_words) (hm__law_plain_words : mg "_law_plain_words" = some (.ref f__law_plain_words)) (hb__law_plain_words : Binds K fd__law_plain_words [] [])  : Cal P w K mg base "_law_plain_words" 2 0 m__law_plain_words :=
  cal_of (k := 1) F__law_plain_words hm__law_plain_words hb__law_plain_words sc__law_plain_words rfl rfl (fun cdv A outer s H E hr => ⟨_, jss_cons (js_set 0 sc__law_plain_words.nd (j_str)) (jss_cons (js_set 0 sc__law_plain_words.nd (jn_op (sim_add (K := K)) op_addP (jr_var 0) (jr_str))) (jss_cons (js_set 0 sc__law_plain_words.nd (jn_op (sim_add (K := K)) op_addP (jr_var 0) (jr_str))) (jss_one (js_ret (S := []) (j_split (jn_op (sim_add (K := K)) op_addP (jr_var 0) (jr_str)) (jg (j_str)))))))⟩) (by decide)
theorem sc__law_name : FnScope ["d", "small", "signs", "way", "name", "k"] ["d"] (defScope s__law_name) := ⟨rfl, rfl, rfl, by decide +kernel, rfl, by decide +kernel, by decide +kernel⟩
theorem ok__law_name {f__law_name : Addr} {fd__law_name : FuncData} (F__law_name : L2.Fun K "_law_name" "_law_name" s__law_name f__law_name fd__law_name) (hm__law_name : mg "_law_name" = some (.ref f__law_name)) (hb__law_name : Binds K fd__law_name ["d"] []) (c__law_draw : Cal P w K mg base "_law_draw" 2 2 m__law_draw) (c__law_pick : Cal P w K mg base "_law_pick" 3 2 m__law_pick) (c__law_words : Cal P w K mg base "_law_words" 2 0 m__law_words) (c__law_plain_words : Cal P w K mg base "_law_plain_words" 2 0 m__law_plain_words) (z_range : mg "range" = none) : Cal P w K mg base "_law_name" 4 1 m__law_name :=
  cal_of (k := 3) F__law_name hm__law_name hb__law_name sc__law_name rfl rfl (fun cdv A outer s H E hr => ⟨_, jss_cons (js_set 1 sc__law_name.nd (j_str)) (jss_cons (js_set 2 sc__law_name.nd (jn_op (sim_add (K := K)) op_addP (jr_var 1) (jr_str))) (jss_cons (js_set 3 sc__law_name.nd (k_fn K mg c__law_draw (hr.mono (by decide)) (takes_of rfl rfl rfl rfl) (ja_cons (jg_var 0) (ja_cons (jg (j_int)) (ja_nil))))) (jss_cons (js_set 4 sc__law_name.nd (j_ix (sim_ix (K := K)) ix_seq (jg_var 1) (jg (k_fn K mg c__law_draw (hr.mono (by decide)) (takes_of rfl rfl rfl rfl) (ja_cons (jg_var 0) (ja_cons (jg (j_int)) (ja_nil))))))) (jss_cons (js_if (jnt_cmp (sim_eq (K := K)) (op_eqP (hu64 hr)) (by rfl) (jr_var 3) (jr_int)) (jss_one (js_set 4 sc__law_name.nd (j_op (sim_add (K := K)) op_addP (jg (k_fn K mg c__law_pick (hr.mono (by decide)) (takes_of rfl rfl rfl rfl) (ja_cons (jg_var 0) (ja_cons (jg (k_fn0 K mg c__law_words (hr.mono (by decide)) (takes_of rfl rfl rfl rfl))) (ja_nil))))) (jg (j_ix (sim_ix (K := K)) ix_seq (jg_var 2) (jg (k_fn K mg c__law_draw (hr.mono (by decide)) (takes_of rfl rfl rfl rfl) (ja_cons (jg_var 0) (ja_cons (jg (j_int)) (ja_nil)))))))))) (jss_one (js_if (jnt_cmp (sim_eq (K := K)) (op_eqP (hu64 hr)) (by rfl) (jr_var 3) (jr_int)) (jss_one (js_set 4 sc__law_name.nd (k_sl K (jg (k_fn K mg c__law_pick (hr.mono (by decide)) (takes_of rfl rfl rfl rfl) (ja_cons (jg_var 0) (ja_cons (jg (k_fn0 K mg c__law_words (hr.mono (by decide)) (takes_of rfl rfl rfl rfl))) (ja_nil))))) (jo_none) (jo_some (jn_un (sim_neg (K := K)) un_neg (jr_int)))))) (jss_one (js_if (jnt_cmp (sim_eq (K := K)) (op_eqP (hu64 hr)) (by rfl) (jr_var 3) (jr_int)) (jss_one (js_set 4 sc__law_name.nd (k_fn K mg c__law_pick (hr.mono (by decide)) (takes_of rfl rfl rfl rfl) (ja_cons (jg_var 0) (ja_cons (jg (k_fn0 K mg c__law_plain_words (hr.mono (by decide)) (takes_of rfl rfl rfl rfl))) (ja_nil)))))) (jss_one (js_if (jnt_cmp (sim_B0 (K := K)) op_gt (by rfl) (jr_var 3) (jr_int)) (jss_one (js_for (passes_of rfl) rfl (ji_r1 z_range (ja_cons (jg (k_fn K mg c__law_draw (hr.mono (by decide)) (takes_of rfl rfl rfl rfl) (ja_cons (jg_var 0) (ja_cons (jg (j_int)) (ja_nil))))) (ja_nil))) (jp_n 5 sc__law_name.nd) (jss_one (js_set 4 sc__law_name.nd (j_op (sim_add (K := K)) op_addP (jg_var 4) (jg (j_ix (sim_ix (K := K)) ix_seq (jg_var 2) (jg (k_fn K mg c__law_draw (hr.mono (by decide)) (takes_of rfl rfl rfl rfl) (ja_cons (jg_var 0) (ja_cons (jg (j_int)) (ja_nil)))))))))))) (jss_nil (S := []))))))))) (jss_cons (js_if (jt_cmp (sim_in (K := K)) (op_inP (hu65 hr)) (by rfl) (jg_var 4) (jg (k_fn0 K mg c__law_words (hr.mono (by decide)) (takes_of rfl rfl rfl rfl)))) (jss_one (js_set 4 sc__law_name.nd (jn_op (sim_add (K := K)) op_addP (jr_var 4) (jr_str)))) (jss_nil (S := []))) (jss_one (js_ret (S := []) (j_var 4))))))))⟩) (by decide)
theorem sc__law_pop : FnScope ["d", "row"] ["d", "row"] (defScope s__law_pop) := ⟨rfl, rfl, rfl, by decide +kernel, rfl, by decide +kernel, by decide +kernel⟩
theorem ok__law_pop {f__law_pop : Addr} {fd__law_pop : FuncData} (F__law_pop : L2.Fun K "_law_pop" "_law_pop" s__law_pop f__law_pop fd__law_pop) (hm__law_pop : mg "_law_pop" = some (.ref f__law_pop)) (hb__law_pop : Binds K fd__law_pop ["d", "row"] []) (c__law_draw : Cal P w K mg base "_law_draw" 2 2 m__law_draw) (z_len : mg "len" = none) : Cal P w K mg base "_law_pop" 3 2 m__law_pop :=
  cal_of (k := 2) F__law_pop hm__law_pop hb__law_pop sc__law_pop rfl rfl (fun cdv A outer s H E hr => ⟨_, jss_one (js_ret (S := []) (k_meth K PySem.F.plainAttrs_list PySem.F.slot_list_pop PySem.F.type_list_pop (sim_popAt (K := K)) mt_popAt (jr_var 1) (ja_cons (jg (k_fn K mg c__law_draw (hr.mono (by decide)) (takes_of rfl rfl rfl rfl) (ja_cons (jg_var 0) (ja_cons (jg (jn_callB (sim_len (K := K)) call_len b_len z_len (jra_cons (jr_var 1) (jra_nil)))) (ja_nil))))) (ja_nil))))⟩) (by decide)
theorem sc__law_short : FnScope ["d", "kind", "name", "number", "k"] ["d", "kind"] (defScope s__law_short) := ⟨rfl, rfl, rfl, by decide +kernel, rfl, by decide +kernel, by decide +kernel⟩
theorem ok__law_short {f__law_short : Addr} {fd__law_short : FuncData} (F__law_short : L2.Fun K "_law_short" "_law_short" s__law_short f__law_short fd__law_short) (hm__law_short : mg "_law_short" = some (.ref f__law_short)) (hb__law_short : Binds K fd__law_short ["d", "kind"] []) (c__law_pick : Cal P w K mg base "_law_pick" 3 2 m__law_pick) (c__law_figure : Cal P w K mg base "_law_figure" 4 1 m__law_figure) (c__law_name : Cal P w K mg base "_law_name" 4 1 m__law_name) (c__law_draw : Cal P w K mg base "_law_draw" 2 2 m__law_draw) (z_range : mg "range" = none) (z_tuple : mg "tuple" = none) : Cal P w K mg base "_law_short" 5 2 m__law_short :=
  cal_of (k := 4) F__law_short hm__law_short hb__law_short sc__law_short rfl rfl (fun cdv A outer s H E hr => ⟨_, jss_cons (js_if (jnt_cmp (sim_eq (K := K)) (op_eqP (hu64 hr)) (by rfl) (jr_var 1) (jr_str)) (jss_one (js_ret (S := []) (j_tup (ja_cons (jg (j_var 1)) (ja_cons (jg (j_callTy (sim_tuple (K := K)) call_tuple_of b_tuple z_tuple (ja_cons (jg (j_lc (own := [("k", 4)]) rfl sc__law_short.nd (ji_r1 z_range (ja_cons (jg (k_fn K mg c__law_pick (hr.mono (by decide)) (takes_of rfl rfl rfl rfl) (ja_cons (jg_var 0) (ja_cons (jg (j_lst (ja_cons (jg (j_int)) (ja_cons (jg (j_int)) (ja_cons (jg (j_int)) (ja_cons (jg (j_int)) (ja_cons (jg (j_int)) (ja_cons (jg (j_int)) (ja_nil))))))))) (ja_nil))))) (ja_nil))) (by show blkC ["d", "kind", "name", "number", "k"] (defScope s__law_short) _ [("k", 4)] = true; decide +kernel) (fun s H C cl fp => jp_n 4 sc__law_short.nd) (by decide) (fun s H C cl fp => jtt_nil) (fun s H C cl fp => k_fn K mg c__law_figure (hr.mono (by decide)) takes0 (ja_cons (jg_var 0) (ja_nil))))) (ja_nil)))) (ja_nil)))))) (jss_nil (S := []))) (jss_cons (js_set 2 sc__law_short.nd (k_fn K mg c__law_name (hr.mono (by decide)) (takes_of rfl rfl rfl rfl) (ja_cons (jg_var 0) (ja_nil)))) (jss_cons (js_if (jnt_cmp (sim_eq (K := K)) (op_eqP (hu64 hr)) (by rfl) (jr_var 1) (jr_str)) (jss_one (js_ret (S := []) (j_tup (ja_cons (jg (j_var 1)) (ja_cons (jg (j_var 2)) (ja_nil)))))) (jss_nil (S := []))) (jss_cons (js_if (jnt_cmp (sim_eq (K := K)) (op_eqP (hu64 hr)) (by rfl) (jr_var 1) (jr_str)) (jss_one (js_ret (S := []) (j_tup (ja_cons (jg (j_var 1)) (ja_cons (jg (j_var 2)) (ja_cons (jg (k_fn K mg c__law_name (hr.mono (by decide)) (takes_of rfl rfl rfl rfl) (ja_cons (jg_var 0) (ja_nil)))) (ja_nil))))))) (jss_nil (S := []))) (jss_cons (js_set 3 sc__law_short.nd (k_fn K mg c__law_figure (hr.mono (by decide)) (takes_of rfl rfl rfl rfl) (ja_cons (jg_var 0) (ja_nil)))) (jss_cons (js_if (jt_cmp (sim_in (K := K)) (op_inP (hu65 hr)) (by rfl) (jg_var 1) (jg (j_tup (ja_cons (jg (j_str)) (ja_cons (jg (j_str)) (ja_cons (jg (j_str)) (ja_nil))))))) (jss_one (js_ret (S := []) (j_tup (ja_cons (jg (j_var 1)) (ja_cons (jg (j_var 2)) (ja_cons (jg (j_var 3)) (ja_cons (jg (k_fn K mg c__law_name (hr.mono (by decide)) (takes_of rfl rfl rfl rfl) (ja_cons (jg_var 0) (ja_nil)))) (ja_nil)))))))) (jss_nil (S := []))) (jss_cons (js_if (jnt_cmp (sim_eq (K := K)) (op_eqP (hu64 hr)) (by rfl) (jr_var 1) (jr_str)) (jss_one (js_ret (S := []) (j_tup (ja_cons (jg (j_var 1)) (ja_cons (jg (j_var 2)) (ja_cons (jg (j_var 3)) (ja_cons (jg (k_fn K mg c__law_name (hr.mono (by decide)) (takes_of rfl rfl rfl rfl) (ja_cons (jg_var 0) (ja_nil)))) (ja_cons (jg (k_fn K mg c__law_name (hr.mono (by decide)) (takes_of rfl rfl rfl rfl) (ja_cons (jg_var 0) (ja_nil)))) (ja_nil))))))))) (jss_nil (S := []))) (jss_cons (js_if (jnt_cmp (sim_eq (K := K)) (op_eqP (hu64 hr)) (by rfl) (jr_var 1) (jr_str)) (jss_one (js_ret (S := []) (j_tup (ja_cons (jg (j_var 1)) (ja_cons (jg (j_var 2)) (ja_cons (jg (j_var 3)) (ja_cons (jg (k_fn K mg c__law_figure (hr.mono (by decide)) (takes_of rfl rfl rfl rfl) (ja_cons (jg_var 0) (ja_nil)))) (ja_cons (jg (k_fn K mg c__law_name (hr.mono (by decide)) (takes_of rfl rfl rfl rfl) (ja_cons (jg_var 0) (ja_nil)))) (ja_cons (jg (k_fn K mg c__law_name (hr.mono (by decide)) (takes_of rfl rfl rfl rfl) (ja_cons (jg_var 0) (ja_nil)))) (ja_nil)))))))))) (jss_nil (S := []))) (jss_cons (js_if (JW.t (jw_and (jnt_cmp (sim_eq (K := K)) (op_eqP (hu64 hr)) (by rfl) (jr_var 1) (jr_str)) (jw_and1 (jt_cmp (sim_eq (K := K)) (op_eqP (hu64 hr)) (by rfl) (jg (k_fn K mg c__law_draw (hr.mono (by decide)) (takes_of rfl rfl rfl rfl) (ja_cons (jg_var 0) (ja_cons (jg (j_int)) (ja_nil))))) (jg (j_int)))))) (jss_one (js_ret (S := []) (j_tup (ja_cons (jg (j_var 1)) (ja_cons (jg (j_var 2)) (ja_cons (jg (j_var 3)) (ja_cons (jg (j_non)) (ja_nil)))))))) (jss_nil (S := []))) (jss_cons (js_if (jnt_cmp (sim_eq (K := K)) (op_eqP (hu64 hr)) (by rfl) (jr_var 1) (jr_str)) (jss_one (js_ret (S := []) (j_tup (ja_cons (jg (j_var 1)) (ja_cons (jg (j_var 2)) (ja_cons (jg (j_var 3)) (ja_cons (jg (j_tup (ja_cons (jg (k_fn K mg c__law_figure (hr.mono (by decide)) (takes_of rfl rfl rfl rfl) (ja_cons (jg_var 0) (ja_nil)))) (ja_cons (jg (k_fn K mg c__law_figure (hr.mono (by decide)) (takes_of rfl rfl rfl rfl) (ja_cons (jg_var 0) (ja_nil)))) (ja_nil))))) (ja_nil)))))))) (jss_nil (S := []))) (jss_one (js_ret (S := []) (j_tup (ja_cons (jg (j_var 1)) (ja_cons (jg (j_var 2)) (ja_cons (jg (j_var 3)) (ja_nil))))))))))))))))⟩) (by decide)
theorem sc__law_item : FnScope ["d", "kind", "room", "left"] ["d", "kind", "room", "left"] (defScope s__law_item) := ⟨rfl, rfl, rfl, by decide +kernel, rfl, by decide +kernel, by decide +kernel⟩
theorem sc__law_holder : FnScope ["d", "kind", "room", "left", "name", "cases", "k", "number", "label"] ["d", "kind", "room", "left"] (defScope s__law_holder) := ⟨rfl, rfl, rfl, by decide +kernel, rfl, by decide +kernel, by decide +kernel⟩
theorem sc__law_inside : FnScope ["d", "room", "left", "found", "k"] ["d", "room", "left"] (defScope s__law_inside) := ⟨rfl, rfl, rfl, by decide +kernel, rfl, by decide +kernel, by decide +kernel⟩
theorem ok__law_item {f__law_item : Addr} {fd__law_item : FuncData} (F__law_item : L2.Fun K "_law_item" "_law_item" s__law_item f__law_item fd__law_item) (hm__law_item : mg "_law_item" = some (.ref f__law_item)) (hb__law_item : Binds K fd__law_item ["d", "kind", "room", "left"] []) {f__law_holder : Addr} {fd__law_holder : FuncData} (F__law_holder : L2.Fun K "_law_holder" "_law_holder" s__law_holder f__law_holder fd__law_holder) (hm__law_holder : mg "_law_holder" = some (.ref f__law_holder)) (hb__law_holder : Binds K fd__law_holder ["d", "kind", "room", "left"] []) {f__law_inside : Addr} {fd__law_inside : FuncData} (F__law_inside : L2.Fun K "_law_inside" "_law_inside" s__law_inside f__law_inside fd__law_inside) (hm__law_inside : mg "_law_inside" = some (.ref f__law_inside)) (hb__law_inside : Binds K fd__law_inside ["d", "room", "left"] []) (c__law_short : Cal P w K mg base "_law_short" 5 2 m__law_short) (c__law_figure : Cal P w K mg base "_law_figure" 4 1 m__law_figure) (c__law_name : Cal P w K mg base "_law_name" 4 1 m__law_name) (c__law_draw : Cal P w K mg base "_law_draw" 2 2 m__law_draw) (c__law_pick : Cal P w K mg base "_law_pick" 3 2 m__law_pick) (c__law_kinds : Cal P w K mg base "_law_kinds" 2 1 m__law_kinds) (z_range : mg "range" = none) (z_tuple : mg "tuple" = none) : ∀ n, Cal P w K mg base "_law_item" (5 + 1 + n) 4 (m__law_item n) ∧ Cal P w K mg base "_law_holder" (5 + 1 + n) 4 (m__law_holder n) ∧ Cal P w K mg base "_law_inside" (5 + 1 + n) 3 (m__law_inside n)
  | 0 => ⟨cal_bad F__law_item hm__law_item hb__law_item sc__law_item rfl, cal_bad F__law_holder hm__law_holder hb__law_holder sc__law_holder rfl, cal_bad F__law_inside hm__law_inside hb__law_inside sc__law_inside rfl⟩
  | n + 1 => by
    obtain ⟨c__law_item, c__law_holder, c__law_inside⟩ := ok__law_item F__law_item hm__law_item hb__law_item F__law_holder hm__law_holder hb__law_holder F__law_inside hm__law_inside hb__law_inside c__law_short c__law_figure c__law_name c__law_draw c__law_pick c__law_kinds z_range z_tuple n
    exact ⟨cal_of (k := 5 + 1 + n) F__law_item hm__law_item hb__law_item sc__law_item rfl rfl (fun cdv A outer s H E hr => ⟨_, jss_cons (js_augIx (S := []) (i := 3) (sim_ixL (K := K)) get_listL (sim_I0 (K := K)) iop_sub (sim_setL (K := K)) set_list (jr_var 3) (jr_int) (j_int)) (jss_cons (js_if (jt_cmp (sim_in (K := K)) (op_inP (hu65 hr)) (by rfl) (jg_var 1) (jg (j_tup (ja_cons (jg (j_str)) (ja_cons (jg (j_str)) (ja_cons (jg (j_str)) (ja_cons (jg (j_str)) (ja_cons (jg (j_str)) (ja_cons (jg (j_str)) (ja_cons (jg (j_str)) (ja_nil))))))))))) (jss_one (js_ret (S := []) (k_fn K mg c__law_holder (hr.mono (Nat.le_refl _)) (takes_of rfl rfl rfl rfl) (ja_cons (jg_var 0) (ja_cons (jg_var 1) (ja_cons (jg_var 2) (ja_cons (jg_var 3) (ja_nil)))))))) (jss_nil (S := []))) (jss_one (js_ret (S := []) (k_fn K mg c__law_short (hr.mono (by omega)) (takes_of rfl rfl rfl rfl) (ja_cons (jg_var 0) (ja_cons (jg_var 1) (ja_nil)))))))⟩) (by decide),
      cal_of (k := 5 + 1 + n) F__law_holder hm__law_holder hb__law_holder sc__law_holder rfl rfl (fun cdv A outer s H E hr => ⟨_, jss_cons (js_if (jnt_cmp (sim_eq (K := K)) (op_eqP (hu64 hr)) (by rfl) (jr_var 1) (jr_str)) (jss_one (js_ret (S := []) (j_tup (ja_cons (jg (j_var 1)) (ja_cons (jg (k_fn K mg c__law_figure (hr.mono (by omega)) (takes_of rfl rfl rfl rfl) (ja_cons (jg_var 0) (ja_nil)))) (ja_cons (jg (k_fn K mg c__law_inside (hr.mono (Nat.le_refl _)) (takes_of rfl rfl rfl rfl) (ja_cons (jg_var 0) (ja_cons (jg (jn_op (sim_I0 (K := K)) op_sub (jr_var 2) (jr_int))) (ja_cons (jg_var 3) (ja_nil)))))) (ja_nil))))))) (jss_nil (S := []))) (jss_cons (js_set 4 sc__law_holder.nd (k_fn K mg c__law_name (hr.mono (by omega)) (takes_of rfl rfl rfl rfl) (ja_cons (jg_var 0) (ja_nil)))) (jss_cons (js_if (jnt_cmp (sim_eq (K := K)) (op_eqP (hu64 hr)) (by rfl) (jr_var 1) (jr_str)) (jss_cons (js_set 5 sc__law_holder.nd (j_lst (ja_nil))) (jss_cons (js_for (passes_of rfl) rfl (ji_r1 z_range (ja_cons (jg (j_op (sim_add (K := K)) op_addP (jg (j_int)) (jg (k_fn K mg c__law_draw (hr.mono (by omega)) (takes_of rfl rfl rfl rfl) (ja_cons (jg_var 0) (ja_cons (jg (j_int)) (ja_nil))))))) (ja_nil))) (jp_n 6 sc__law_holder.nd) (jss_cons (js_set 8 sc__law_holder.nd (k_fn K mg c__law_name (hr.mono (by omega)) (takes_of rfl rfl rfl rfl) (ja_cons (jg_var 0) (ja_nil)))) (jss_one (js_expr (S := []) (k_meth K PySem.F.plainAttrs_list PySem.F.slot_list_append PySem.F.type_list_append (sim_append (K := K)) mt_append (jr_var 5) (ja_cons (jg (j_tup (ja_cons (jg (j_var 8)) (ja_cons (jg (k_fn K mg c__law_inside (hr.mono (Nat.le_refl _)) (takes_of rfl rfl rfl rfl) (ja_cons (jg_var 0) (ja_cons (jg (jn_op (sim_I0 (K := K)) op_sub (jr_var 2) (jr_int))) (ja_cons (jg_var 3) (ja_nil)))))) (ja_nil))))) (ja_nil))))))) (jss_one (js_ret (S := []) (j_tup (ja_cons (jg (j_var 1)) (ja_cons (jg (j_var 4)) (ja_cons (jg (jn_callTy (sim_tuple (K := K)) call_tuple_of b_tuple z_tuple (jra_cons (jr_var 5) (jra_nil)))) (ja_nil))))))))) (jss_nil (S := []))) (jss_cons (js_if (jt_cmp (sim_in (K := K)) (op_inP (hu65 hr)) (by rfl) (jg_var 1) (jg (j_tup (ja_cons (jg (j_str)) (ja_cons (jg (j_str)) (ja_nil)))))) (jss_cons (js_set 7 sc__law_holder.nd (k_fn K mg c__law_figure (hr.mono (by omega)) (takes_of rfl rfl rfl rfl) (ja_cons (jg_var 0) (ja_nil)))) (jss_one (js_ret (S := []) (j_tup (ja_cons (jg (j_var 1)) (ja_cons (jg (j_var 4)) (ja_cons (jg (j_var 7)) (ja_cons (jg (k_fn K mg c__law_inside (hr.mono (Nat.le_refl _)) (takes_of rfl rfl rfl rfl) (ja_cons (jg_var 0) (ja_cons (jg (jn_op (sim_I0 (K := K)) op_sub (jr_var 2) (jr_int))) (ja_cons (jg_var 3) (ja_nil)))))) (ja_nil))))))))) (jss_nil (S := []))) (jss_one (js_ret (S := []) (j_tup (ja_cons (jg (j_var 1)) (ja_cons (jg (j_var 4)) (ja_cons (jg (k_fn K mg c__law_inside (hr.mono (Nat.le_refl _)) (takes_of rfl rfl rfl rfl) (ja_cons (jg_var 0) (ja_cons (jg (jn_op (sim_I0 (K := K)) op_sub (jr_var 2) (jr_int))) (ja_cons (jg_var 3) (ja_nil)))))) (ja_nil))))))))))⟩) (by decide),
      cal_of (k := 5 + 1 + n) F__law_inside hm__law_inside hb__law_inside sc__law_inside rfl rfl (fun cdv A outer s H E hr => ⟨_, jss_cons (js_set 3 sc__law_inside.nd (j_lst (ja_nil))) (jss_cons (js_for (passes_of rfl) rfl (ji_r1 z_range (ja_cons (jg (k_fn K mg c__law_draw (hr.mono (by omega)) (takes_of rfl rfl rfl rfl) (ja_cons (jg_var 0) (ja_cons (jg (j_int)) (ja_nil))))) (ja_nil))) (jp_n 4 sc__law_inside.nd) (jss_one (js_if (jnt_cmp (sim_B0 (K := K)) op_ge (by rfl) (jr_ix (sim_ix (K := K)) ix_seq (jr_var 2) (jr_int)) (jr_int)) (jss_one (js_expr (S := []) (k_meth K PySem.F.plainAttrs_list PySem.F.slot_list_append PySem.F.type_list_append (sim_append (K := K)) mt_append (jr_var 3) (ja_cons (jg (k_fn K mg c__law_item (hr.mono (Nat.le_refl _)) (takes_of rfl rfl rfl rfl) (ja_cons (jg_var 0) (ja_cons (jg (k_fn K mg c__law_pick (hr.mono (by omega)) (takes_of rfl rfl rfl rfl) (ja_cons (jg_var 0) (ja_cons (jg (k_fn K mg c__law_kinds (hr.mono (by omega)) (takes_of rfl rfl rfl rfl) (ja_cons (jg_var 1) (ja_nil)))) (ja_nil))))) (ja_cons (jg_var 1) (ja_cons (jg_var 2) (ja_nil))))))) (ja_nil))))) (jss_nil (S := []))))) (jss_one (js_ret (S := []) (jn_callTy (sim_tuple (K := K)) call_tuple_of b_tuple z_tuple (jra_cons (jr_var 3) (jra_nil))))))⟩) (by decide)⟩
theorem sc__law_any_tree : FnScope ["d", "most", "left", "room", "kinds", "items", "kind", "version", "k"] ["d", "most"] (defScope s__law_any_tree) := ⟨rfl, rfl, rfl, by decide +kernel, rfl, by decide +kernel, by decide +kernel⟩
theorem ok__law_any_tree {f__law_any_tree : Addr} {fd__law_any_tree : FuncData} (F__law_any_tree : L2.Fun K "_law_any_tree" "_law_any_tree" s__law_any_tree f__law_any_tree fd__law_any_tree) (hm__law_any_tree : mg "_law_any_tree" = some (.ref f__law_any_tree)) (hb__law_any_tree : Binds K fd__law_any_tree ["d", "most"] []) (c__law_pick : Cal P w K mg base "_law_pick" 3 2 m__law_pick) (c__law_kinds : Cal P w K mg base "_law_kinds" 2 1 m__law_kinds) (c__law_draw : Cal P w K mg base "_law_draw" 2 2 m__law_draw) (c__law_pop : Cal P w K mg base "_law_pop" 3 2 m__law_pop) (c__law_item : Cal P w K mg base "_law_item" 46 4 (m__law_item 40)) (c__law_figure : Cal P w K mg base "_law_figure" 4 1 m__law_figure) (c__law_name : Cal P w K mg base "_law_name" 4 1 m__law_name) (z_len : mg "len" = none) (z_range : mg "range" = none) (z_tuple : mg "tuple" = none) : Cal P w K mg base "_law_any_tree" 47 2 m__law_any_tree :=
  cal_of (k := 46) F__law_any_tree hm__law_any_tree hb__law_any_tree sc__law_any_tree rfl rfl (fun cdv A outer s H E hr => ⟨_, jss_cons (js_set 2 sc__law_any_tree.nd (j_lst (ja_cons (jg (j_var 1)) (ja_nil)))) (jss_cons (js_set 3 sc__law_any_tree.nd (k_fn K mg c__law_pick (hr.mono (by decide)) (takes_of rfl rfl rfl rfl) (ja_cons (jg_var 0) (ja_cons (jg (j_lst (ja_cons (jg (j_int)) (ja_cons (jg (j_int)) (ja_cons (jg (j_int)) (ja_cons (jg (j_int)) (ja_nil))))))) (ja_nil))))) (jss_cons (js_set 4 sc__law_any_tree.nd (k_fn K mg c__law_kinds (hr.mono (by decide)) (takes_of rfl rfl rfl rfl) (ja_cons (jg (j_int)) (ja_nil)))) (jss_cons (js_if (jt_cmp (sim_eq (K := K)) (op_eqP (hu64 hr)) (by rfl) (jg (k_fn K mg c__law_draw (hr.mono (by decide)) (takes_of rfl rfl rfl rfl) (ja_cons (jg_var 0) (ja_cons (jg (j_int)) (ja_nil))))) (jg (j_int))) (jss_one (js_set 4 sc__law_any_tree.nd (j_lc (own := [("k", 8)]) rfl sc__law_any_tree.nd (ji_r1 z_range (ja_cons (jg (jn_callB (sim_len (K := K)) call_len b_len z_len (jra_cons (jr_var 4) (jra_nil)))) (ja_nil))) (by show blkC ["d", "most", "left", "room", "kinds", "items", "kind", "version", "k"] (defScope s__law_any_tree) _ [("k", 8)] = true; decide +kernel) (fun s H C cl fp => jp_n 8 sc__law_any_tree.nd) (by decide) (fun s H C cl fp => jtt_nil) (fun s H C cl fp => k_fn K mg c__law_pop (hr.mono (by decide)) takes0 (ja_cons (jg_var 0) (ja_cons (jg_var 4) (ja_nil))))))) (jss_one (js_set 4 sc__law_any_tree.nd (j_lc (own := [("k", 8)]) rfl sc__law_any_tree.nd (ji_r1 z_range (ja_cons (jg (k_fn K mg c__law_draw (hr.mono (by decide)) (takes_of rfl rfl rfl rfl) (ja_cons (jg_var 0) (ja_cons (jg (j_int)) (ja_nil))))) (ja_nil))) (by show blkC ["d", "most", "left", "room", "kinds", "items", "kind", "version", "k"] (defScope s__law_any_tree) _ [("k", 8)] = true; decide +kernel) (fun s H C cl fp => jp_n 8 sc__law_any_tree.nd) (by decide) (fun s H C cl fp => jtt_nil) (fun s H C cl fp => k_fn K mg c__law_pick (hr.mono (by decide)) takes0 (ja_cons (jg_var 0) (ja_cons (jg_var 4) (ja_nil)))))))) (jss_cons (js_set 5 sc__law_any_tree.nd (j_lst (ja_nil))) (jss_cons (k_forVS K (i := 4) (passes_of rfl) rfl (jr_var 4) (jp_n 6 sc__law_any_tree.nd) (jss_one (js_if (jnt_cmp (sim_B0 (K := K)) op_ge (by rfl) (jr_ix (sim_ix (K := K)) ix_seq (jr_var 2) (jr_int)) (jr_int)) (jss_one (js_expr (S := []) (k_meth K PySem.F.plainAttrs_list PySem.F.slot_list_append PySem.F.type_list_append (sim_append (K := K)) mt_append (jr_var 5) (ja_cons (jg (k_fn K mg c__law_item (hr.mono (by decide)) (takes_of rfl rfl rfl rfl) (ja_cons (jg_var 0) (ja_cons (jg_var 6) (ja_cons (jg_var 3) (ja_cons (jg_var 2) (ja_nil))))))) (ja_nil))))) (jss_nil (S := []))))) (jss_cons (js_set 7 sc__law_any_tree.nd (j_int)) (jss_cons (js_if (jt_cmp (sim_eq (K := K)) (op_eqP (hu64 hr)) (by rfl) (jg (k_fn K mg c__law_draw (hr.mono (by decide)) (takes_of rfl rfl rfl rfl) (ja_cons (jg_var 0) (ja_cons (jg (j_int)) (ja_nil))))) (jg (j_int))) (jss_one (js_set 7 sc__law_any_tree.nd (k_fn K mg c__law_figure (hr.mono (by decide)) (takes_of rfl rfl rfl rfl) (ja_cons (jg_var 0) (ja_nil))))) (jss_nil (S := []))) (jss_one (js_ret (S := []) (j_tup (ja_cons (jg (j_str)) (ja_cons (jg (k_fn K mg c__law_name (hr.mono (by decide)) (takes_of rfl rfl rfl rfl) (ja_cons (jg_var 0) (ja_nil)))) (ja_cons (jg (k_fn K mg c__law_figure (hr.mono (by decide)) (takes_of rfl rfl rfl rfl) (ja_cons (jg_var 0) (ja_nil)))) (ja_cons (jg (j_var 7)) (ja_cons (jg (jn_callTy (sim_tuple (K := K)) call_tuple_of b_tuple z_tuple (jra_cons (jr_var 5) (jra_nil)))) (ja_nil))))))))))))))))⟩) (by decide)
theorem sc__law_rare : FnScope ["d", "many"] ["d", "many"] (defScope s__law_rare) := ⟨rfl, rfl, rfl, by decide +kernel, rfl, by decide +kernel, by decide +kernel⟩
theorem ok__law_rare {f__law_rare : Addr} {fd__law_rare : FuncData} (F__law_rare : L2.Fun K "_law_rare" "_law_rare" s__law_rare f__law_rare fd__law_rare) (hm__law_rare : mg "_law_rare" = some (.ref f__law_rare)) (hb__law_rare : Binds K fd__law_rare ["d", "many"] []) (c__law_draw : Cal P w K mg base "_law_draw" 2 2 m__law_draw) : Cal P w K mg base "_law_rare" 3 2 m__law_rare :=
  cal_of (k := 2) F__law_rare hm__law_rare hb__law_rare sc__law_rare rfl rfl (fun cdv A outer s H E hr => ⟨_, jss_one (js_ret (S := []) (j_cmp (sim_eq (K := K)) (op_eqP (hu64 hr)) (by rfl) (jg (k_fn K mg c__law_draw (hr.mono (by decide)) (takes_of rfl rfl rfl rfl) (ja_cons (jg_var 0) (ja_cons (jg_var 1) (ja_nil))))) (jg (jn_op (sim_I (K := K)) op_fdiv (jr_var 1) (jr_int)))))⟩) (by decide)
theorem sc__law_tokens : FnScope ["items", "found", "item", "kind", "case", "cell", "part"] ["items"] (defScope s__law_tokens) := ⟨rfl, rfl, rfl, by decide +kernel, rfl, by decide +kernel, by decide +kernel⟩
theorem ok__law_tokens {f__law_tokens : Addr} {fd__law_tokens : FuncData} (F__law_tokens : L2.Fun K "_law_tokens" "_law_tokens" s__law_tokens f__law_tokens fd__law_tokens) (hm__law_tokens : mg "_law_tokens" = some (.ref f__law_tokens)) (hb__law_tokens : Binds K fd__law_tokens ["items"] []) (z_str : mg "str" = none) : ∀ n, Cal P w K mg base "_law_tokens" (1 + 1 + n) 1 (m__law_tokens n)
  | 0 => cal_bad F__law_tokens hm__law_tokens hb__law_tokens sc__law_tokens rfl
  | n + 1 => by
    have c__law_tokens := ok__law_tokens F__law_tokens hm__law_tokens hb__law_tokens z_str n
    exact cal_of (k := 1 + 1 + n) F__law_tokens hm__law_tokens hb__law_tokens sc__law_tokens rfl rfl (fun cdv A outer s H E hr => ⟨_, jss_cons (js_set 1 sc__law_tokens.nd (j_lst (ja_cons (jg (j_str)) (ja_nil)))) (jss_cons (k_forVS K (i := 0) (passes_of rfl) rfl (jr_var 0) (jp_n 2 sc__law_tokens.nd) (jss_cons (js_set 3 sc__law_tokens.nd (j_r (jr_ix (sim_ix (K := K)) ix_seq (jr_var 2) (jr_int)))) (jss_cons (js_expr (S := []) (k_meth K PySem.F.plainAttrs_list PySem.F.slot_list_append PySem.F.type_list_append (sim_append (K := K)) mt_append (jr_var 1) (ja_cons (jg (j_var 3)) (ja_nil)))) (jss_cons (js_if (jnt_cmp (sim_eq (K := K)) (op_eqP (hu64 hr)) (by rfl) (jr_var 3) (jr_str)) (jss_one (js_expr (S := []) (k_methB K PySem.F.plainAttrs_list PySem.F.slot_list_extend PySem.F.type_list_extend (sim_extend (K := K)) mt_extend (jr_var 1) (ja_cons (jg (j_lc (own := [("cell", 5)]) rfl sc__law_tokens.nd (k_s K (j_r (jr_ix (sim_ix (K := K)) ix_seq (jr_var 2) (jr_int)))) (by show blkC ["items", "found", "item", "kind", "case", "cell", "part"] (defScope s__law_tokens) _ [("cell", 5)] = true; decide +kernel) (fun s H C cl fp => jp_n 5 sc__law_tokens.nd) (by decide) (fun s H C cl fp => jtt_nil) (fun s H C cl fp => jn_callTy (sim_str (K := K)) call_strP b_str z_str (jra_cons (jr_var 5) (jra_nil))))) (ja_nil))))) (jss_one (js_if (jnt_cmp (sim_eq (K := K)) (op_eqP (hu64 hr)) (by rfl) (jr_var 3) (jr_str)) (jss_cons (js_expr (S := []) (k_methB K PySem.F.plainAttrs_list PySem.F.slot_list_extend PySem.F.type_list_extend (sim_extend (K := K)) mt_extend (jr_var 1) (ja_cons (jg (j_lst (ja_cons (jg (j_r (jr_ix (sim_ix (K := K)) ix_seq (jr_var 2) (jr_int)))) (ja_cons (jg (j_str)) (ja_nil))))) (ja_nil)))) (jss_cons (js_for (passes_of rfl) rfl (k_s K (j_r (jr_ix (sim_ix (K := K)) ix_seq (jr_var 2) (jr_int)))) (jp_n 4 sc__law_tokens.nd) (jss_cons (js_expr (S := []) (k_methB K PySem.F.plainAttrs_list PySem.F.slot_list_extend PySem.F.type_list_extend (sim_extend (K := K)) mt_extend (jr_var 1) (ja_cons (jg (j_lst (ja_cons (jg (j_str)) (ja_cons (jg (j_r (jr_ix (sim_ix (K := K)) ix_seq (jr_var 4) (jr_int)))) (ja_nil))))) (ja_nil)))) (jss_one (js_expr (S := []) (k_methB K PySem.F.plainAttrs_list PySem.F.slot_list_extend PySem.F.type_list_extend (sim_extend (K := K)) mt_extend (jr_var 1) (ja_cons (jg (k_fn K mg c__law_tokens (hr.mono (Nat.le_refl _)) (takes_of rfl rfl rfl rfl) (ja_cons (jg (j_r (jr_ix (sim_ix (K := K)) ix_seq (jr_var 4) (jr_int)))) (ja_nil)))) (ja_nil))))))) (jss_one (js_expr (S := []) (k_meth K PySem.F.plainAttrs_list PySem.F.slot_list_append PySem.F.type_list_append (sim_append (K := K)) mt_append (jr_var 1) (ja_cons (jg (j_str)) (ja_nil))))))) (jss_one (js_if (jt_cmp (sim_in (K := K)) (op_inP (hu65 hr)) (by rfl) (jg_var 3) (jg (j_tup (ja_cons (jg (j_str)) (ja_cons (jg (j_str)) (ja_cons (jg (j_str)) (ja_cons (jg (j_str)) (ja_cons (jg (j_str)) (ja_cons (jg (j_str)) (ja_nil)))))))))) (jss_cons (js_expr (S := []) (k_methB K PySem.F.plainAttrs_list PySem.F.slot_list_extend PySem.F.type_list_extend (sim_extend (K := K)) mt_extend (jr_var 1) (ja_cons (jg (j_lc (own := [("part", 6)]) rfl sc__law_tokens.nd (k_s K (k_sl K (jg_var 2) (jo_some (j_int)) (jo_some (jn_un (sim_neg (K := K)) un_neg (jr_int))))) (by show blkC ["items", "found", "item", "kind", "case", "cell", "part"] (defScope s__law_tokens) _ [("part", 6)] = true; decide +kernel) (fun s H C cl fp => jp_n 6 sc__law_tokens.nd) (by decide) (fun s H C cl fp => jtt_nil) (fun s H C cl fp => jn_callTy (sim_str (K := K)) call_strP b_str z_str (jra_cons (jr_var 6) (jra_nil))))) (ja_nil)))) (jss_one (js_expr (S := []) (k_methB K PySem.F.plainAttrs_list PySem.F.slot_list_extend PySem.F.type_list_extend (sim_extend (K := K)) mt_extend (jr_var 1) (ja_cons (jg (k_fn K mg c__law_tokens (hr.mono (Nat.le_refl _)) (takes_of rfl rfl rfl rfl) (ja_cons (jg (j_r (jr_ix (sim_ix (K := K)) ix_seq (jr_var 2) (jr_un (sim_neg (K := K)) un_neg (jr_int))))) (ja_nil)))) (ja_nil)))))) (jss_cons (js_expr (S := []) (k_methB K PySem.F.plainAttrs_list PySem.F.slot_list_extend PySem.F.type_list_extend (sim_extend (K := K)) mt_extend (jr_var 1) (ja_cons (jg (j_lc (own := [("part", 6)]) rfl sc__law_tokens.nd (k_s K (k_sl K (jg_var 2) (jo_some (j_int)) (jo_some (j_int)))) (by show blkC ["items", "found", "item", "kind", "case", "cell", "part"] (defScope s__law_tokens) _ [("part", 6)] = true; decide +kernel) (fun s H C cl fp => jp_n 6 sc__law_tokens.nd) (by decide) (fun s H C cl fp => jtt_nil) (fun s H C cl fp => jn_callTy (sim_str (K := K)) call_strP b_str z_str (jra_cons (jr_var 6) (jra_nil))))) (ja_nil)))) (jss_one (js_if (JW.t (jw_and (jnt_cmp (sim_eq (K := K)) (op_eqP (hu64 hr)) (by rfl) (jr_var 3) (jr_str)) (jw_and1 (jnt_cmp (sim_notN (K := K)) op_notN (by rfl) (jr_ix (sim_ix (K := K)) ix_seq (jr_var 2) (jr_int)) (jr_non))))) (jss_one (js_expr (S := []) (k_methB K PySem.F.plainAttrs_list PySem.F.slot_list_extend PySem.F.type_list_extend (sim_extend (K := K)) mt_extend (jr_var 1) (ja_cons (jg (j_lst (ja_cons (jg (j_str)) (ja_cons (jg (jn_callTy (sim_str (K := K)) call_strP b_str z_str (jra_cons (jr_ix (sim_ix (K := K)) ix_seq (jr_ix (sim_ix (K := K)) ix_seq (jr_var 2) (jr_int)) (jr_int)) (jra_nil)))) (ja_cons (jg (j_str)) (ja_cons (jg (jn_callTy (sim_str (K := K)) call_strP b_str z_str (jra_cons (jr_ix (sim_ix (K := K)) ix_seq (jr_ix (sim_ix (K := K)) ix_seq (jr_var 2) (jr_int)) (jr_int)) (jra_nil)))) (ja_nil))))))) (ja_nil))))) (jss_one (js_if (jt_cmp (sim_in (K := K)) (op_inP (hu65 hr)) (by rfl) (jg_var 3) (jg (j_tup (ja_cons (jg (j_str)) (ja_cons (jg (j_str)) (ja_nil)))))) (jss_one (js_expr (S := []) (k_methB K PySem.F.plainAttrs_list PySem.F.slot_list_extend PySem.F.type_list_extend (sim_extend (K := K)) mt_extend (jr_var 1) (ja_cons (jg (j_lst (ja_cons (jg (j_str)) (ja_cons (jg (j_r (jr_ix (sim_ix (K := K)) ix_seq (jr_var 2) (jr_int)))) (ja_nil))))) (ja_nil))))) (jss_one (js_if (jnt_cmp (sim_eq (K := K)) (op_eqP (hu64 hr)) (by rfl) (jr_var 3) (jr_str)) (jss_one (js_expr (S := []) (k_methB K PySem.F.plainAttrs_list PySem.F.slot_list_extend PySem.F.type_list_extend (sim_extend (K := K)) mt_extend (jr_var 1) (ja_cons (jg (j_lst (ja_cons (jg (j_str)) (ja_cons (jg (j_r (jr_ix (sim_ix (K := K)) ix_seq (jr_var 2) (jr_int)))) (ja_nil))))) (ja_nil))))) (jss_one (js_if (jnt_cmp (sim_eq (K := K)) (op_eqP (hu64 hr)) (by rfl) (jr_var 3) (jr_str)) (jss_one (js_set 1 sc__law_tokens.nd (j_op (sim_add (K := K)) op_addP (jg (k_sl K (jg_var 1) (jo_none) (jo_some (jn_un (sim_neg (K := K)) un_neg (jr_int))))) (jg (j_lst (ja_cons (jg (j_str)) (ja_cons (jg (j_r (jr_ix (sim_ix (K := K)) ix_seq (jr_var 2) (jr_int)))) (ja_nil)))))))) (jss_one (js_if (jnt_cmp (sim_eq (K := K)) (op_eqP (hu64 hr)) (by rfl) (jr_var 3) (jr_str)) (jss_one (js_expr (S := []) (k_methB K PySem.F.plainAttrs_list PySem.F.slot_list_extend PySem.F.type_list_extend (sim_extend (K := K)) mt_extend (jr_var 1) (ja_cons (jg (j_lst (ja_cons (jg (j_str)) (ja_cons (jg (j_r (jr_ix (sim_ix (K := K)) ix_seq (jr_var 2) (jr_int)))) (ja_cons (jg (j_str)) (ja_cons (jg (j_r (jr_ix (sim_ix (K := K)) ix_seq (jr_var 2) (jr_int)))) (ja_nil))))))) (ja_nil))))) (jss_one (js_if (jnt_cmp (sim_eq (K := K)) (op_eqP (hu64 hr)) (by rfl) (jr_var 3) (jr_str)) (jss_one (js_expr (S := []) (k_methB K PySem.F.plainAttrs_list PySem.F.slot_list_extend PySem.F.type_list_extend (sim_extend (K := K)) mt_extend (jr_var 1) (ja_cons (jg (j_lst (ja_cons (jg (j_str)) (ja_cons (jg (jn_callTy (sim_str (K := K)) call_strP b_str z_str (jra_cons (jr_ix (sim_ix (K := K)) ix_seq (jr_var 2) (jr_int)) (jra_nil)))) (ja_cons (jg (j_str)) (ja_cons (jg (j_r (jr_ix (sim_ix (K := K)) ix_seq (jr_var 2) (jr_int)))) (ja_cons (jg (j_str)) (ja_cons (jg (j_r (jr_ix (sim_ix (K := K)) ix_seq (jr_var 2) (jr_int)))) (ja_nil))))))))) (ja_nil))))) (jss_nil (S := [])))))))))))))))))))) (jss_one (js_if (jt_cmp (sim_notIn (K := K)) (op_notInP (hu65 hr)) (by rfl) (jg_var 3) (jg (j_tup (ja_cons (jg (j_str)) (ja_cons (jg (j_str)) (ja_cons (jg (j_str)) (ja_cons (jg (j_str)) (ja_cons (jg (j_str)) (ja_cons (jg (j_str)) (ja_cons (jg (j_str)) (ja_nil))))))))))) (jss_one (js_expr (S := []) (k_meth K PySem.F.plainAttrs_list PySem.F.slot_list_append PySem.F.type_list_append (sim_append (K := K)) mt_append (jr_var 1) (ja_cons (jg (j_str)) (ja_nil))))) (jss_nil (S := [])))))))) (jss_cons (js_expr (S := []) (k_meth K PySem.F.plainAttrs_list PySem.F.slot_list_append PySem.F.type_list_append (sim_append (K := K)) mt_append (jr_var 1) (ja_cons (jg (j_str)) (ja_nil)))) (jss_one (js_ret (S := []) (j_var 1)))))⟩) (by decide)
theorem sc__law_all_tokens : FnScope ["tree", "found"] ["tree"] (defScope s__law_all_tokens) := ⟨rfl, rfl, rfl, by decide +kernel, rfl, by decide +kernel, by decide +kernel⟩
theorem ok__law_all_tokens {f__law_all_tokens : Addr} {fd__law_all_tokens : FuncData} (F__law_all_tokens : L2.Fun K "_law_all_tokens" "_law_all_tokens" s__law_all_tokens f__law_all_tokens fd__law_all_tokens) (hm__law_all_tokens : mg "_law_all_tokens" = some (.ref f__law_all_tokens)) (hb__law_all_tokens : Binds K fd__law_all_tokens ["tree"] []) (c__law_tokens : Cal P w K mg base "_law_tokens" 22 1 (m__law_tokens 20)) (z_str : mg "str" = none) : Cal P w K mg base "_law_all_tokens" 23 1 m__law_all_tokens :=
  cal_of (k := 22) F__law_all_tokens hm__law_all_tokens hb__law_all_tokens sc__law_all_tokens rfl rfl (fun cdv A outer s H E hr => ⟨_, jss_cons (js_set 1 sc__law_all_tokens.nd (j_lst (ja_cons (jg (j_str)) (ja_cons (jg (j_r (jr_ix (sim_ix (K := K)) ix_seq (jr_var 0) (jr_int)))) (ja_cons (jg (j_str)) (ja_cons (jg (jn_callTy (sim_str (K := K)) call_strP b_str z_str (jra_cons (jr_ix (sim_ix (K := K)) ix_seq (jr_var 0) (jr_int)) (jra_nil)))) (ja_nil))))))) (jss_cons (js_if (jnt_cmp (sim_ne (K := K)) (op_neP (hu64 hr)) (by rfl) (jr_ix (sim_ix (K := K)) ix_seq (jr_var 0) (jr_int)) (jr_int)) (jss_one (js_expr (S := []) (k_methB K PySem.F.plainAttrs_list PySem.F.slot_list_extend PySem.F.type_list_extend (sim_extend (K := K)) mt_extend (jr_var 1) (ja_cons (jg (j_lst (ja_cons (jg (j_str)) (ja_cons (jg (jn_callTy (sim_str (K := K)) call_strP b_str z_str (jra_cons (jr_ix (sim_ix (K := K)) ix_seq (jr_var 0) (jr_int)) (jra_nil)))) (ja_nil))))) (ja_nil))))) (jss_nil (S := []))) (jss_one (js_ret (S := []) (j_op (sim_add (K := K)) op_addP (jg_var 1) (jg (k_fn K mg c__law_tokens (hr.mono (by decide)) (takes_of rfl rfl rfl rfl) (ja_cons (jg (j_r (jr_ix (sim_ix (K := K)) ix_seq (jr_var 0) (jr_int)))) (ja_nil))))))))⟩) (by decide)
theorem sc__law_filled : FnScope ["d", "tree", "many", "way", "first", "more", "k"] ["d", "tree"] (defScope s__law_filled) := ⟨rfl, rfl, rfl, by decide +kernel, rfl, by decide +kernel, by decide +kernel⟩
theorem ok__law_filled {f__law_filled : Addr} {fd__law_filled : FuncData} (F__law_filled : L2.Fun K "_law_filled" "_law_filled" s__law_filled f__law_filled fd__law_filled) (hm__law_filled : mg "_law_filled" = some (.ref f__law_filled)) (hb__law_filled : Binds K fd__law_filled ["d", "tree"] []) (c__law_all_tokens : Cal P w K mg base "_law_all_tokens" 23 1 m__law_all_tokens) (c__law_draw : Cal P w K mg base "_law_draw" 2 2 m__law_draw) (c__law_figure : Cal P w K mg base "_law_figure" 4 1 m__law_figure) (c__law_name : Cal P w K mg base "_law_name" 4 1 m__law_name) (z_int : mg "int" = none) (z_len : mg "len" = none) (z_range : mg "range" = none) (z_str : mg "str" = none) (z_tuple : mg "tuple" = none) : Cal P w K mg base "_law_filled" 24 2 m__law_filled :=
  cal_of (k := 23) F__law_filled hm__law_filled hb__law_filled sc__law_filled rfl rfl (fun cdv A outer s H E hr => ⟨_, jss_cons (js_set 2 sc__law_filled.nd (j_op (sim_I0 (K := K)) op_sub (jg (j_int)) (jg (j_callB (sim_len (K := K)) call_len b_len z_len (ja_cons (jg (k_fn K mg c__law_all_tokens (hr.mono (by decide)) (takes_of rfl rfl rfl rfl) (ja_cons (jg_var 1) (ja_nil)))) (ja_nil)))))) (jss_cons (js_set 3 sc__law_filled.nd (k_fn K mg c__law_draw (hr.mono (by decide)) (takes_of rfl rfl rfl rfl) (ja_cons (jg_var 0) (ja_cons (jg (j_int)) (ja_nil))))) (jss_cons (js_set 4 sc__law_filled.nd (k_fn K mg c__law_figure (hr.mono (by decide)) (takes_of rfl rfl rfl rfl) (ja_cons (jg_var 0) (ja_nil)))) (jss_cons (js_if (jnt_cmp (sim_eq (K := K)) (op_eqP (hu64 hr)) (by rfl) (jr_var 3) (jr_int)) (jss_one (js_set 5 sc__law_filled.nd (j_callTy (sim_tuple (K := K)) call_tuple_of b_tuple z_tuple (ja_cons (jg (j_lc (own := [("k", 6)]) rfl sc__law_filled.nd (ji_r1 z_range (ja_cons (jg (jn_op (sim_I (K := K)) op_fdiv (jr_var 2) (jr_int))) (ja_nil))) (by show blkC ["d", "tree", "many", "way", "first", "more", "k"] (defScope s__law_filled) _ [("k", 6)] = true; decide +kernel) (fun s H C cl fp => jp_n 6 sc__law_filled.nd) (by decide) (fun s H C cl fp => jtt_nil) (fun s H C cl fp => j_tup (ja_cons (jg (j_str)) (ja_cons (jg (jn_op (sim_add (K := K)) op_addP (jr_str) (jr_callTy (sim_str (K := K)) call_strP b_str z_str (jra_cons (jr_var 6) (jra_nil))))) (ja_nil)))))) (ja_nil))))) (jss_one (js_if (jnt_cmp (sim_eq (K := K)) (op_eqP (hu64 hr)) (by rfl) (jr_var 3) (jr_int)) (jss_one (js_set 5 sc__law_filled.nd (j_tup (ja_cons (jg (j_tup (ja_cons (jg (j_str)) (ja_cons (jg (k_fn K mg c__law_name (hr.mono (by decide)) (takes_of rfl rfl rfl rfl) (ja_cons (jg_var 0) (ja_nil)))) (ja_cons (jg (j_callTy (sim_tuple (K := K)) call_tuple_of b_tuple z_tuple (ja_cons (jg (j_lc (own := [("k", 6)]) rfl sc__law_filled.nd (ji_r1 z_range (ja_cons (jg (jn_op (sim_I (K := K)) op_fdiv (jr_op (sim_I0 (K := K)) op_sub (jr_var 2) (jr_int)) (jr_int))) (ja_nil))) (by show blkC ["d", "tree", "many", "way", "first", "more", "k"] (defScope s__law_filled) _ [("k", 6)] = true; decide +kernel) (fun s H C cl fp => jp_n 6 sc__law_filled.nd) (by decide) (fun s H C cl fp => jtt_nil) (fun s H C cl fp => j_tup (ja_cons (jg (jn_op (sim_add (K := K)) op_addP (jr_str) (jr_callTy (sim_str (K := K)) call_strP b_str z_str (jra_cons (jr_var 6) (jra_nil))))) (ja_cons (jg (j_tup (ja_nil))) (ja_nil)))))) (ja_nil)))) (ja_nil)))))) (ja_nil))))) (jss_one (js_set 5 sc__law_filled.nd (j_tup (ja_cons (jg (j_tup (ja_cons (jg (j_str)) (ja_cons (jg (j_callTy (sim_tuple (K := K)) call_tuple_of b_tuple z_tuple (ja_cons (jg (j_lc (own := [("k", 6)]) rfl sc__law_filled.nd (ji_r1 z_range (ja_cons (jg (jn_op (sim_I0 (K := K)) op_sub (jr_var 2) (jr_int))) (ja_nil))) (by show blkC ["d", "tree", "many", "way", "first", "more", "k"] (defScope s__law_filled) _ [("k", 6)] = true; decide +kernel) (fun s H C cl fp => jp_n 6 sc__law_filled.nd) (by decide) (fun s H C cl fp => jtt_nil) (fun s H C cl fp => jn_op (sim_I (K := K)) op_mod (jr_callTy (sim_int (K := K)) call_intP b_int z_int (jra_cons (jr_op (sim_add (K := K)) op_addP (jr_var 4) (jr_op (sim_I (K := K)) op_mul (jr_int) (jr_var 6))) (jra_nil))) (jr_int)))) (ja_nil)))) (ja_nil))))) (ja_nil)))))))) (jss_one (js_ret (S := []) (j_op (sim_add (K := K)) op_addP (jg (k_sl K (jg_var 1) (jo_none) (jo_some (j_int)))) (jg (j_tup (ja_cons (jg (jn_op (sim_add (K := K)) op_addP (jr_ix (sim_ix (K := K)) ix_seq (jr_var 1) (jr_int)) (jr_var 5))) (ja_nil))))))))))⟩) (by decide)
theorem sc__law_clings : FnScope ["last", "token", "signs"] ["last", "token"] (defScope s__law_clings) := ⟨rfl, rfl, rfl, by decide +kernel, rfl, by decide +kernel, by decide +kernel⟩
theorem ok__law_clings {f__law_clings : Addr} {fd__law_clings : FuncData} (F__law_clings : L2.Fun K "_law_clings" "_law_clings" s__law_clings f__law_clings fd__law_clings) (hm__law_clings : mg "_law_clings" = some (.ref f__law_clings)) (hb__law_clings : Binds K fd__law_clings ["last", "token"] [])  : Cal P w K mg base "_law_clings" 2 2 m__law_clings :=
  cal_of (k := 1) F__law_clings hm__law_clings hb__law_clings sc__law_clings rfl rfl (fun cdv A outer s H E hr => ⟨_, jss_cons (js_set 2 sc__law_clings.nd (j_str)) (jss_one (js_ret (S := []) (j_or (j_and (jn_cmp (sim_in (K := K)) (op_inP (hu65 hr)) (by rfl) (jr_ix (sim_ix (K := K)) ix_seq (jr_var 0) (jr_un (sim_neg (K := K)) un_neg (jr_int))) (jr_var 2)) (j_one (jn_cmp (sim_in (K := K)) (op_inP (hu65 hr)) (by rfl) (jr_ix (sim_ix (K := K)) ix_seq (jr_var 1) (jr_int)) (jr_var 2)))) (j_one (j_and (jn_cmp (sim_eq (K := K)) (op_eqP (hu64 hr)) (by rfl) (jr_var 0) (jr_str)) (j_one (jn_cmp (sim_eq (K := K)) (op_eqP (hu64 hr)) (by rfl) (jr_ix (sim_ix (K := K)) ix_seq (jr_var 1) (jr_int)) (jr_str))))))))⟩) (by decide)
theorem sc__law_pieces : FnScope ["d", "tokens", "joint", "style", "pieces", "last", "token", "gap"] ["d", "tokens"] (defScope s__law_pieces) := ⟨rfl, rfl, rfl, by decide +kernel, rfl, by decide +kernel, by decide +kernel⟩
theorem ok__law_pieces {f__law_pieces : Addr} {fd__law_pieces : FuncData} (F__law_pieces : L2.Fun K "_law_pieces" "_law_pieces" s__law_pieces f__law_pieces fd__law_pieces) (hm__law_pieces : mg "_law_pieces" = some (.ref f__law_pieces)) (hb__law_pieces : Binds K fd__law_pieces ["d", "tokens"] []) (c__law_pick : Cal P w K mg base "_law_pick" 3 2 m__law_pick) (c__law_draw : Cal P w K mg base "_law_draw" 2 2 m__law_draw) (c__law_clings : Cal P w K mg base "_law_clings" 2 2 m__law_clings) : Cal P w K mg base "_law_pieces" 4 2 m__law_pieces :=
  cal_of (k := 3) F__law_pieces hm__law_pieces hb__law_pieces sc__law_pieces rfl rfl (fun cdv A outer s H E hr => ⟨_, jss_cons (js_set 2 sc__law_pieces.nd (k_fn K mg c__law_pick (hr.mono (by decide)) (takes_of rfl rfl rfl rfl) (ja_cons (jg_var 0) (ja_cons (jg (j_lst (ja_cons (jg (j_str)) (ja_cons (jg (j_str)) (ja_cons (jg (j_str)) (ja_cons (jg (j_str)) (ja_nil))))))) (ja_nil))))) (jss_cons (js_set 3 sc__law_pieces.nd (k_fn K mg c__law_draw (hr.mono (by decide)) (takes_of rfl rfl rfl rfl) (ja_cons (jg_var 0) (ja_cons (jg (j_int)) (ja_nil))))) (jss_cons (js_set 4 sc__law_pieces.nd (j_lst (ja_nil))) (jss_cons (js_set 5 sc__law_pieces.nd (j_str)) (jss_cons (k_forVS K (i := 1) (passes_of rfl) rfl (jr_var 1) (jp_n 6 sc__law_pieces.nd) (jss_cons (js_set 7 sc__law_pieces.nd (j_var 2)) (jss_cons (js_if (jnt_cmp (sim_eq (K := K)) (op_eqP (hu64 hr)) (by rfl) (jr_var 3) (jr_int)) (jss_one (js_set 7 sc__law_pieces.nd (j_str))) (jss_one (js_if (jnt_cmp (sim_eq (K := K)) (op_eqP (hu64 hr)) (by rfl) (jr_var 3) (jr_int)) (jss_one (js_set 7 sc__law_pieces.nd (k_fn K mg c__law_pick (hr.mono (by decide)) (takes_of rfl rfl rfl rfl) (ja_cons (jg_var 0) (ja_cons (jg (j_lst (ja_cons (jg (j_str)) (ja_cons (jg (j_str)) (ja_cons (jg (j_str)) (ja_cons (jg (j_str)) (ja_cons (jg (j_str)) (ja_nil)))))))) (ja_nil)))))) (jss_nil (S := []))))) (jss_cons (js_if (JW.t (jw_and (jnt_cmp (sim_eq (K := K)) (op_eqP (hu64 hr)) (by rfl) (jr_var 7) (jr_str)) (jw_and1 (jt_val (k_fn K mg c__law_clings (hr.mono (by decide)) (takes_of rfl rfl rfl rfl) (ja_cons (jg_var 5) (ja_cons (jg_var 6) (ja_nil)))))))) (jss_one (js_set 7 sc__law_pieces.nd (j_var 2))) (jss_nil (S := []))) (jss_cons (js_expr (S := []) (k_meth K PySem.F.plainAttrs_list PySem.F.slot_list_append PySem.F.type_list_append (sim_append (K := K)) mt_append (jr_var 4) (ja_cons (jg (jn_op (sim_add (K := K)) op_addP (jr_var 7) (jr_var 6))) (ja_nil)))) (jss_one (js_set 5 sc__law_pieces.nd (j_var 6)))))))) (jss_one (js_ret (S := []) (j_var 4)))))))⟩) (by decide)
theorem sc__law_row : FnScope ["d", "tree", "tokens"] ["d", "tree"] (defScope s__law_row) := ⟨rfl, rfl, rfl, by decide +kernel, rfl, by decide +kernel, by decide +kernel⟩
theorem ok__law_row {f__law_row : Addr} {fd__law_row : FuncData} (F__law_row : L2.Fun K "_law_row" "_law_row" s__law_row f__law_row fd__law_row) (hm__law_row : mg "_law_row" = some (.ref f__law_row)) (hb__law_row : Binds K fd__law_row ["d", "tree"] []) (c__law_all_tokens : Cal P w K mg base "_law_all_tokens" 23 1 m__law_all_tokens) (c__law_draw : Cal P w K mg base "_law_draw" 2 2 m__law_draw) : Cal P w K mg base "_law_row" 24 2 m__law_row :=
  cal_of (k := 23) F__law_row hm__law_row hb__law_row sc__law_row rfl rfl (fun cdv A outer s H E hr => ⟨_, jss_cons (js_set 2 sc__law_row.nd (k_fn K mg c__law_all_tokens (hr.mono (by decide)) (takes_of rfl rfl rfl rfl) (ja_cons (jg_var 1) (ja_nil)))) (jss_cons (js_if (JW.t (jw_and (jnt_cmp (sim_eq (K := K)) (op_eqP (hu64 hr)) (by rfl) (jr_ix (sim_ix (K := K)) ix_seq (jr_var 1) (jr_int)) (jr_int)) (jw_and1 (jt_cmp (sim_eq (K := K)) (op_eqP (hu64 hr)) (by rfl) (jg (k_fn K mg c__law_draw (hr.mono (by decide)) (takes_of rfl rfl rfl rfl) (ja_cons (jg_var 0) (ja_cons (jg (j_int)) (ja_nil))))) (jg (j_int)))))) (jss_one (js_ret (S := []) (j_op (sim_add (K := K)) op_addP (jg (j_op (sim_add (K := K)) op_addP (jg (k_sl K (jg_var 2) (jo_none) (jo_some (j_int)))) (jg (j_lst (ja_cons (jg (j_str)) (ja_cons (jg (j_str)) (ja_nil))))))) (jg (k_sl K (jg_var 2) (jo_some (j_int)) (jo_none)))))) (jss_nil (S := []))) (jss_one (js_ret (S := []) (j_var 2))))⟩) (by decide)
theorem sc__law_is_int : FnScope ["thing"] ["thing"] (defScope s__law_is_int) := ⟨rfl, rfl, rfl, by decide +kernel, rfl, by decide +kernel, by decide +kernel⟩
theorem ok__law_is_int {f__law_is_int : Addr} {fd__law_is_int : FuncData} (F__law_is_int : L2.Fun K "_law_is_int" "_law_is_int" s__law_is_int f__law_is_int fd__law_is_int) (hm__law_is_int : mg "_law_is_int" = some (.ref f__law_is_int)) (hb__law_is_int : Binds K fd__law_is_int ["thing"] []) (z_bool : mg "bool" = none) (z_int : mg "int" = none) (z_isinstance : mg "isinstance" = none) : Cal P w K mg base "_law_is_int" 2 1 m__law_is_int :=
  cal_of (k := 1) F__law_is_int hm__law_is_int hb__law_is_int sc__law_is_int rfl rfl (fun cdv A outer s H E hr => ⟨_, jss_one (js_ret (S := []) (j_and (jn_callB (sim_isi (K := K)) call_isi b_isinstance z_isinstance (jra_cons (jr_var 0) (jra_cons (jr_ty b_int z_int) (jra_nil)))) (j_one (j_not (jn_callB (sim_isi (K := K)) call_isi b_isinstance z_isinstance (jra_cons (jr_var 0) (jra_cons (jr_ty b_bool z_bool) (jra_nil))))))))⟩) (by decide)
theorem sc__law_same : FnScope ["one", "other", "k"] ["one", "other"] (defScope s__law_same) := ⟨rfl, rfl, rfl, by decide +kernel, rfl, by decide +kernel, by decide +kernel⟩
theorem ok__law_same {f__law_same : Addr} {fd__law_same : FuncData} (F__law_same : L2.Fun K "_law_same" "_law_same" s__law_same f__law_same fd__law_same) (hm__law_same : mg "_law_same" = some (.ref f__law_same)) (hb__law_same : Binds K fd__law_same ["one", "other"] []) (c__law_is_int : Cal P w K mg base "_law_is_int" 2 1 m__law_is_int) (z_bool : mg "bool" = none) (z_isinstance : mg "isinstance" = none) (z_len : mg "len" = none) (z_range : mg "range" = none) (z_str : mg "str" = none) (z_tuple : mg "tuple" = none) : ∀ n, Cal P w K mg base "_law_same" (2 + 1 + n) 2 (m__law_same n)
  | 0 => cal_bad F__law_same hm__law_same hb__law_same sc__law_same rfl
  | n + 1 => by
    have c__law_same := ok__law_same F__law_same hm__law_same hb__law_same c__law_is_int z_bool z_isinstance z_len z_range z_str z_tuple n
    exact cal_of (k := 2 + 1 + n) F__law_same hm__law_same hb__law_same sc__law_same rfl rfl (fun cdv A outer s H E hr => ⟨_, jss_cons (js_if (jt_val (jn_callB (sim_isi (K := K)) call_isi b_isinstance z_isinstance (jra_cons (jr_var 0) (jra_cons (jr_ty b_tuple z_tuple) (jra_nil))))) (jss_cons (js_if (JW.t (jw_or (jt_not (jt_val (jn_callB (sim_isi (K := K)) call_isi b_isinstance z_isinstance (jra_cons (jr_var 1) (jra_cons (jr_ty b_tuple z_tuple) (jra_nil)))))) (jw_or1 (jnt_cmp (sim_ne (K := K)) (op_neP (hu64 hr)) (by rfl) (jr_callB (sim_len (K := K)) call_len b_len z_len (jra_cons (jr_var 0) (jra_nil))) (jr_callB (sim_len (K := K)) call_len b_len z_len (jra_cons (jr_var 1) (jra_nil))))))) (jss_one (js_ret (S := []) (j_bl))) (jss_nil (S := []))) (jss_one (js_ret (S := []) (j_cmp (sim_eq (K := K)) (op_eqP (hu64 hr)) (by rfl) (jg (j_callB (sim_len (K := K)) call_len b_len z_len (ja_cons (jg (j_lc (own := [("k", 2)]) rfl sc__law_same.nd (ji_r1 z_range (ja_cons (jg (jn_callB (sim_len (K := K)) call_len b_len z_len (jra_cons (jr_var 0) (jra_nil)))) (ja_nil))) (by show blkC ["one", "other", "k"] (defScope s__law_same) _ [("k", 2)] = true; decide +kernel) (fun s H C cl fp => jp_n 2 sc__law_same.nd) (by decide) (fun s H C cl fp => jtt_one (jt_not (jt_val (k_fn K mg c__law_same (hr.mono (Nat.le_refl _)) takes0 (ja_cons (jg (j_r (jr_ix (sim_ix (K := K)) ix_seq (jr_var 0) (jr_var 2)))) (ja_cons (jg (j_r (jr_ix (sim_ix (K := K)) ix_seq (jr_var 1) (jr_var 2)))) (ja_nil))))))) (fun s H C cl fp => j_var 2))) (ja_nil)))) (jg (j_int)))))) (jss_nil (S := []))) (jss_cons (js_if (JW.t (jw_or (jt_val (jn_callB (sim_isi (K := K)) call_isi b_isinstance z_isinstance (jra_cons (jr_var 0) (jra_cons (jr_ty b_bool z_bool) (jra_nil))))) (jw_or (jnt_cmp (sim_isN (K := K)) op_isN (by rfl) (jr_var 0) (jr_non)) (jw_or1 (jt_val (jn_callB (sim_isi (K := K)) call_isi b_isinstance z_isinstance (jra_cons (jr_var 0) (jra_cons (jr_ty b_str z_str) (jra_nil))))))))) (jss_one (js_ret (S := []) (j_and (jn_cmp (sim_eq (K := K)) (op_eqP (hu64 hr)) (by rfl) (jr_callB (sim_isi (K := K)) call_isi b_isinstance z_isinstance (jra_cons (jr_var 0) (jra_cons (jr_ty b_bool z_bool) (jra_nil)))) (jr_callB (sim_isi (K := K)) call_isi b_isinstance z_isinstance (jra_cons (jr_var 1) (jra_cons (jr_ty b_bool z_bool) (jra_nil))))) (j_one (jn_cmp (sim_eq (K := K)) (op_eqP (hu64 hr)) (by rfl) (jr_var 0) (jr_var 1)))))) (jss_nil (S := []))) (jss_one (js_ret (S := []) (j_and (k_fn K mg c__law_is_int (hr.mono (by omega)) (takes_of rfl rfl rfl rfl) (ja_cons (jg_var 0) (ja_nil))) (j_and (k_fn K mg c__law_is_int (hr.mono (by omega)) (takes_of rfl rfl rfl rfl) (ja_cons (jg_var 1) (ja_nil))) (j_one (jn_cmp (sim_eq (K := K)) (op_eqP (hu64 hr)) (by rfl) (jr_var 0) (jr_var 1))))))))⟩) (by decide)
theorem sc_TokenReader___init__ : FnScope ["self", "tokens"] ["self", "tokens"] (defScope s_TokenReader___init__) := ⟨rfl, rfl, rfl, by decide +kernel, rfl, by decide +kernel, by decide +kernel⟩
theorem ok_TokenReader___init__ {K_TokenReader___init__ : Addr} (hc_TokenReader___init__ : ClsAt K "TokenReader" K_TokenReader___init__) (hm_TokenReader___init__ : mg "TokenReader" = some (.ref K_TokenReader___init__)) {f_TokenReader___init__ : Addr} {fd_TokenReader___init__ : FuncData} (F_TokenReader___init__ : L2.Fun K "__init__" "TokenReader.__init__" s_TokenReader___init__ f_TokenReader___init__ fd_TokenReader___init__) (mk_TokenReader___init__ : Mk K K_TokenReader___init__ f_TokenReader___init__) (hb_TokenReader___init__ : Binds K fd_TokenReader___init__ ["self", "tokens"] []) (fl_TokenReader_braces : FldT K "TokenReader" "braces") (fl_TokenReader_place : FldT K "TokenReader" "place") (fl_TokenReader_tokens : FldT K "TokenReader" "tokens") : CalI P w K mg base "TokenReader" 2 1 m_TokenReader___init__ :=
  cali_of (k := 1) hc_TokenReader___init__ hm_TokenReader___init__ mk_TokenReader___init__ F_TokenReader___init__ hb_TokenReader___init__ sc_TokenReader___init__ rfl rfl (fun cdv A outer s H E hr => ⟨_, jss_cons (js_fldSet (S := []) K fl_TokenReader_tokens (jr_var 0) (j_var 1)) (jss_cons (js_fldSet (S := []) K fl_TokenReader_place (jr_var 0) (j_int)) (jss_one (js_fldSet (S := []) K fl_TokenReader_braces (jr_var 0) (j_int))))⟩) (by decide)
theorem sc_TokenReader_peek : FnScope ["self", "kind", "run"] ["self"] (defScope s_TokenReader_peek) := ⟨rfl, rfl, rfl, by decide +kernel, rfl, by decide +kernel, by decide +kernel⟩
theorem ok_TokenReader_peek {K_TokenReader_peek : Addr} (hc_TokenReader_peek : ClsAt K "TokenReader" K_TokenReader_peek) (cl_TokenReader_peek : L2.Cls K K_TokenReader_peek) {f_TokenReader_peek : Addr} {fd_TokenReader_peek : FuncData} (F_TokenReader_peek : L2.Fun K "peek" "TokenReader.peek" s_TokenReader_peek f_TokenReader_peek fd_TokenReader_peek) (mt_TokenReader_peek : Meth K K_TokenReader_peek "peek" f_TokenReader_peek) (hb_TokenReader_peek : Binds K fd_TokenReader_peek ["self"] []) (z_len : mg "len" = none) (fl_TokenReader_place : FldT K "TokenReader" "place") (fl_TokenReader_tokens : FldT K "TokenReader" "tokens") : CalM P w K mg base "TokenReader" "peek" 2 0 m_TokenReader_peek :=
  calm_of (k := 1) hc_TokenReader_peek cl_TokenReader_peek mt_TokenReader_peek F_TokenReader_peek hb_TokenReader_peek sc_TokenReader_peek rfl rfl (fun cdv A outer s H E hr => ⟨_, jss_cons (js_if (jnt_cmp (sim_B0 (K := K)) op_lt (by rfl) (jr_fld K fl_TokenReader_place (jr_var 0)) (jr_callB (sim_len (K := K)) call_len b_len z_len (jra_cons (jr_fld K fl_TokenReader_tokens (jr_var 0)) (jra_nil)))) (jss_cons (js_asg (j_r (jr_ix (sim_ix (K := K)) ix_seq (jr_fld K fl_TokenReader_tokens (jr_var 0)) (jr_fld K fl_TokenReader_place (jr_var 0)))) (k_t K rfl (jps_cons (jp_n 1 sc_TokenReader_peek.nd) (jps_cons (jp_n 2 sc_TokenReader_peek.nd) (jps_nil (S := [])))))) (jss_one (js_if (jnt_cmp (sim_eq (K := K)) (op_eqP (hu64 hr)) (by rfl) (jr_var 1) (jr_str)) (jss_one (js_ret (S := []) (j_var 2))) (jss_nil (S := []))))) (jss_nil (S := []))) (jss_one (js_ret (S := []) (j_str)))⟩) (by decide)
theorem sc_TokenReader_fail : FnScope ["self"] ["self"] (defScope s_TokenReader_fail) := ⟨rfl, rfl, rfl, by decide +kernel, rfl, by decide +kernel, by decide +kernel⟩
theorem ok_TokenReader_fail {K_TokenReader_fail : Addr} (hc_TokenReader_fail : ClsAt K "TokenReader" K_TokenReader_fail) (cl_TokenReader_fail : L2.Cls K K_TokenReader_fail) {f_TokenReader_fail : Addr} {fd_TokenReader_fail : FuncData} (F_TokenReader_fail : L2.Fun K "fail" "TokenReader.fail" s_TokenReader_fail f_TokenReader_fail fd_TokenReader_fail) (mt_TokenReader_fail : Meth K K_TokenReader_fail "fail" f_TokenReader_fail) (hb_TokenReader_fail : Binds K fd_TokenReader_fail ["self"] []) (fl_TokenReader_place : FldT K "TokenReader" "place") {C_BadText f_BadText : Addr} (x_BadText : PySem.SXE.SxTxt P K mg "BadText" C_BadText f_BadText ["at"]) : CalM P w K mg base "TokenReader" "fail" 2 0 m_TokenReader_fail :=
  calm_of (k := 1) hc_TokenReader_fail cl_TokenReader_fail mt_TokenReader_fail F_TokenReader_fail hb_TokenReader_fail sc_TokenReader_fail rfl rfl (fun cdv A outer s H E hr => ⟨_, jss_one (js_raise (k := 0) rfl (takes_of rfl rfl rfl rfl) x_BadText (by decide +kernel) (hr.mono (by decide)) rfl (ja_cons (jg (j_r (jr_fld K fl_TokenReader_place (jr_var 0)))) (ja_nil)))⟩) (by decide)
theorem sc_TokenReader_skip : FnScope ["self", "word"] ["self", "word"] (defScope s_TokenReader_skip) := ⟨rfl, rfl, rfl, by decide +kernel, rfl, by decide +kernel, by decide +kernel⟩
theorem ok_TokenReader_skip {K_TokenReader_skip : Addr} (hc_TokenReader_skip : ClsAt K "TokenReader" K_TokenReader_skip) (cl_TokenReader_skip : L2.Cls K K_TokenReader_skip) {f_TokenReader_skip : Addr} {fd_TokenReader_skip : FuncData} (F_TokenReader_skip : L2.Fun K "skip" "TokenReader.skip" s_TokenReader_skip f_TokenReader_skip fd_TokenReader_skip) (mt_TokenReader_skip : Meth K K_TokenReader_skip "skip" f_TokenReader_skip) (hb_TokenReader_skip : Binds K fd_TokenReader_skip ["self", "word"] []) (c_TokenReader_peek : CalM P w K mg base "TokenReader" "peek" 2 0 m_TokenReader_peek) (c_TokenReader_fail : CalM P w K mg base "TokenReader" "fail" 2 0 m_TokenReader_fail) (fl_TokenReader_braces : FldT K "TokenReader" "braces") (fl_TokenReader_place : FldT K "TokenReader" "place") : CalM P w K mg base "TokenReader" "skip" 3 1 m_TokenReader_skip :=
  calm_of (k := 2) hc_TokenReader_skip cl_TokenReader_skip mt_TokenReader_skip F_TokenReader_skip hb_TokenReader_skip sc_TokenReader_skip rfl rfl (fun cdv A outer s H E hr => ⟨_, jss_cons (js_if (jt_cmp (sim_ne (K := K)) (op_neP (hu64 hr)) (by rfl) (jg (k_mcall0 K mg c_TokenReader_peek (hr.mono (by decide)) (takes_of rfl rfl rfl rfl) (jr_var 0))) (jg_var 1)) (jss_one (js_expr (S := []) (k_mcall0 K mg c_TokenReader_fail (hr.mono (by decide)) (takes_of rfl rfl rfl rfl) (jr_var 0)))) (jss_nil (S := []))) (jss_cons (js_if (jnt_cmp (sim_eq (K := K)) (op_eqP (hu64 hr)) (by rfl) (jr_var 1) (jr_str)) (jss_one (js_fldAug (S := []) K sim_addN in_add fl_TokenReader_braces (jr_var 0) (j_int))) (jss_nil (S := []))) (jss_cons (js_if (jnt_cmp (sim_eq (K := K)) (op_eqP (hu64 hr)) (by rfl) (jr_var 1) (jr_str)) (jss_one (js_fldAug (S := []) K sim_subN in_sub fl_TokenReader_braces (jr_var 0) (j_int))) (jss_nil (S := []))) (jss_one (js_fldAug (S := []) K sim_addN in_add fl_TokenReader_place (jr_var 0) (j_int)))))⟩) (by decide)
theorem sc_TokenReader_peek_kind : FnScope ["self"] ["self"] (defScope s_TokenReader_peek_kind) := ⟨rfl, rfl, rfl, by decide +kernel, rfl, by decide +kernel, by decide +kernel⟩
theorem ok_TokenReader_peek_kind {K_TokenReader_peek_kind : Addr} (hc_TokenReader_peek_kind : ClsAt K "TokenReader" K_TokenReader_peek_kind) (cl_TokenReader_peek_kind : L2.Cls K K_TokenReader_peek_kind) {f_TokenReader_peek_kind : Addr} {fd_TokenReader_peek_kind : FuncData} (F_TokenReader_peek_kind : L2.Fun K "peek_kind" "TokenReader.peek_kind" s_TokenReader_peek_kind f_TokenReader_peek_kind fd_TokenReader_peek_kind) (mt_TokenReader_peek_kind : Meth K K_TokenReader_peek_kind "peek_kind" f_TokenReader_peek_kind) (hb_TokenReader_peek_kind : Binds K fd_TokenReader_peek_kind ["self"] []) (z_len : mg "len" = none) (fl_TokenReader_place : FldT K "TokenReader" "place") (fl_TokenReader_tokens : FldT K "TokenReader" "tokens") : CalM P w K mg base "TokenReader" "peek_kind" 2 0 m_TokenReader_peek_kind :=
  calm_of (k := 1) hc_TokenReader_peek_kind cl_TokenReader_peek_kind mt_TokenReader_peek_kind F_TokenReader_peek_kind hb_TokenReader_peek_kind sc_TokenReader_peek_kind rfl rfl (fun cdv A outer s H E hr => ⟨_, jss_cons (js_if (jnt_cmp (sim_B0 (K := K)) op_lt (by rfl) (jr_fld K fl_TokenReader_place (jr_var 0)) (jr_callB (sim_len (K := K)) call_len b_len z_len (jra_cons (jr_fld K fl_TokenReader_tokens (jr_var 0)) (jra_nil)))) (jss_one (js_ret (S := []) (j_r (jr_ix (sim_ix (K := K)) ix_seq (jr_ix (sim_ix (K := K)) ix_seq (jr_fld K fl_TokenReader_tokens (jr_var 0)) (jr_fld K fl_TokenReader_place (jr_var 0))) (jr_int))))) (jss_nil (S := []))) (jss_one (js_ret (S := []) (j_str)))⟩) (by decide)
theorem sc_TokenReader_read_name : FnScope ["self"] ["self"] (defScope s_TokenReader_read_name) := ⟨rfl, rfl, rfl, by decide +kernel, rfl, by decide +kernel, by decide +kernel⟩
theorem ok_TokenReader_read_name {K_TokenReader_read_name : Addr} (hc_TokenReader_read_name : ClsAt K "TokenReader" K_TokenReader_read_name) (cl_TokenReader_read_name : L2.Cls K K_TokenReader_read_name) {f_TokenReader_read_name : Addr} {fd_TokenReader_read_name : FuncData} (F_TokenReader_read_name : L2.Fun K "read_name" "TokenReader.read_name" s_TokenReader_read_name f_TokenReader_read_name fd_TokenReader_read_name) (mt_TokenReader_read_name : Meth K K_TokenReader_read_name "read_name" f_TokenReader_read_name) (hb_TokenReader_read_name : Binds K fd_TokenReader_read_name ["self"] []) (c_TokenReader_peek_kind : CalM P w K mg base "TokenReader" "peek_kind" 2 0 m_TokenReader_peek_kind) (c_TokenReader_fail : CalM P w K mg base "TokenReader" "fail" 2 0 m_TokenReader_fail) (fl_TokenReader_place : FldT K "TokenReader" "place") (fl_TokenReader_tokens : FldT K "TokenReader" "tokens") : CalM P w K mg base "TokenReader" "read_name" 3 0 m_TokenReader_read_name :=
  calm_of (k := 2) hc_TokenReader_read_name cl_TokenReader_read_name mt_TokenReader_read_name F_TokenReader_read_name hb_TokenReader_read_name sc_TokenReader_read_name rfl rfl (fun cdv A outer s H E hr => ⟨_, jss_cons (js_if (jt_cmp (sim_ne (K := K)) (op_neP (hu64 hr)) (by rfl) (jg (k_mcall0 K mg c_TokenReader_peek_kind (hr.mono (by decide)) (takes_of rfl rfl rfl rfl) (jr_var 0))) (jg (j_str))) (jss_one (js_expr (S := []) (k_mcall0 K mg c_TokenReader_fail (hr.mono (by decide)) (takes_of rfl rfl rfl rfl) (jr_var 0)))) (jss_nil (S := []))) (jss_cons (js_fldAug (S := []) K sim_addN in_add fl_TokenReader_place (jr_var 0) (j_int)) (jss_one (js_ret (S := []) (j_r (jr_ix (sim_ix (K := K)) ix_seq (jr_ix (sim_ix (K := K)) ix_seq (jr_fld K fl_TokenReader_tokens (jr_var 0)) (jr_op (sim_I0 (K := K)) op_sub (jr_fld K fl_TokenReader_place (jr_var 0)) (jr_int))) (jr_int))))))⟩) (by decide)
theorem sc_TokenReader_read_number : FnScope ["self"] ["self"] (defScope s_TokenReader_read_number) := ⟨rfl, rfl, rfl, by decide +kernel, rfl, by decide +kernel, by decide +kernel⟩
theorem ok_TokenReader_read_number {K_TokenReader_read_number : Addr} (hc_TokenReader_read_number : ClsAt K "TokenReader" K_TokenReader_read_number) (cl_TokenReader_read_number : L2.Cls K K_TokenReader_read_number) {f_TokenReader_read_number : Addr} {fd_TokenReader_read_number : FuncData} (F_TokenReader_read_number : L2.Fun K "read_number" "TokenReader.read_number" s_TokenReader_read_number f_TokenReader_read_number fd_TokenReader_read_number) (mt_TokenReader_read_number : Meth K K_TokenReader_read_number "read_number" f_TokenReader_read_number) (hb_TokenReader_read_number : Binds K fd_TokenReader_read_number ["self"] []) (c_TokenReader_peek_kind : CalM P w K mg base "TokenReader" "peek_kind" 2 0 m_TokenReader_peek_kind) (c_TokenReader_fail : CalM P w K mg base "TokenReader" "fail" 2 0 m_TokenReader_fail) (z_int : mg "int" = none) (fl_TokenReader_place : FldT K "TokenReader" "place") (fl_TokenReader_tokens : FldT K "TokenReader" "tokens") : CalM P w K mg base "TokenReader" "read_number" 3 0 m_TokenReader_read_number :=
  calm_of (k := 2) hc_TokenReader_read_number cl_TokenReader_read_number mt_TokenReader_read_number F_TokenReader_read_number hb_TokenReader_read_number sc_TokenReader_read_number rfl rfl (fun cdv A outer s H E hr => ⟨_, jss_cons (js_if (jt_cmp (sim_ne (K := K)) (op_neP (hu64 hr)) (by rfl) (jg (k_mcall0 K mg c_TokenReader_peek_kind (hr.mono (by decide)) (takes_of rfl rfl rfl rfl) (jr_var 0))) (jg (j_str))) (jss_one (js_expr (S := []) (k_mcall0 K mg c_TokenReader_fail (hr.mono (by decide)) (takes_of rfl rfl rfl rfl) (jr_var 0)))) (jss_nil (S := []))) (jss_cons (js_fldAug (S := []) K sim_addN in_add fl_TokenReader_place (jr_var 0) (j_int)) (jss_one (js_ret (S := []) (jn_callTy (sim_int (K := K)) call_intP b_int z_int (jra_cons (jr_ix (sim_ix (K := K)) ix_seq (jr_ix (sim_ix (K := K)) ix_seq (jr_fld K fl_TokenReader_tokens (jr_var 0)) (jr_op (sim_I0 (K := K)) op_sub (jr_fld K fl_TokenReader_place (jr_var 0)) (jr_int))) (jr_int)) (jra_nil))))))⟩) (by decide)
theorem sc_read_mark : FnScope ["reader", "cells"] ["reader"] (defScope s_read_mark) := ⟨rfl, rfl, rfl, by decide +kernel, rfl, by decide +kernel, by decide +kernel⟩
theorem ok_read_mark {f_read_mark : Addr} {fd_read_mark : FuncData} (F_read_mark : L2.Fun K "read_mark" "read_mark" s_read_mark f_read_mark fd_read_mark) (hm_read_mark : mg "read_mark" = some (.ref f_read_mark)) (hb_read_mark : Binds K fd_read_mark ["reader"] []) (c_TokenReader_skip : CalM P w K mg base "TokenReader" "skip" 3 1 m_TokenReader_skip) (c_TokenReader_read_number : CalM P w K mg base "TokenReader" "read_number" 3 0 m_TokenReader_read_number) (c_TokenReader_peek_kind : CalM P w K mg base "TokenReader" "peek_kind" 2 0 m_TokenReader_peek_kind) (z_tuple : mg "tuple" = none) : Cal P w K mg base "read_mark" 4 1 m_read_mark :=
  cal_of (k := 3) F_read_mark hm_read_mark hb_read_mark sc_read_mark rfl rfl (fun cdv A outer s H E hr => ⟨_, jss_cons (js_expr (S := []) (k_mcall K mg c_TokenReader_skip (hr.mono (by decide)) (takes_of rfl rfl rfl rfl) (jr_var 0) (ja_cons (jg (j_str)) (ja_nil)))) (jss_cons (js_set 1 sc_read_mark.nd (j_lst (ja_cons (jg (k_mcall0 K mg c_TokenReader_read_number (hr.mono (by decide)) (takes_of rfl rfl rfl rfl) (jr_var 0))) (ja_nil)))) (jss_cons (js_while 100000 (passes_of rfl) (jt_cmp (sim_eq (K := K)) (op_eqP (hu64 hr)) (by rfl) (jg (k_mcall0 K mg c_TokenReader_peek_kind (hr.mono (by decide)) (takes_of rfl rfl rfl rfl) (jr_var 0))) (jg (j_str))) (jss_one (js_expr (S := []) (k_meth K PySem.F.plainAttrs_list PySem.F.slot_list_append PySem.F.type_list_append (sim_append (K := K)) mt_append (jr_var 1) (ja_cons (jg (k_mcall0 K mg c_TokenReader_read_number (hr.mono (by decide)) (takes_of rfl rfl rfl rfl) (jr_var 0))) (ja_nil)))))) (jss_cons (js_expr (S := []) (k_mcall K mg c_TokenReader_skip (hr.mono (by decide)) (takes_of rfl rfl rfl rfl) (jr_var 0) (ja_cons (jg (j_str)) (ja_nil)))) (jss_one (js_ret (S := []) (j_tup (ja_cons (jg (j_str)) (ja_cons (jg (jn_callTy (sim_tuple (K := K)) call_tuple_of b_tuple z_tuple (jra_cons (jr_var 1) (jra_nil)))) (ja_nil)))))))))⟩) (by decide)
theorem sc_read_num : FnScope ["reader", "name", "width", "bounds", "low"] ["reader"] (defScope s_read_num) := ⟨rfl, rfl, rfl, by decide +kernel, rfl, by decide +kernel, by decide +kernel⟩
theorem ok_read_num {f_read_num : Addr} {fd_read_num : FuncData} (F_read_num : L2.Fun K "read_num" "read_num" s_read_num f_read_num fd_read_num) (hm_read_num : mg "read_num" = some (.ref f_read_num)) (hb_read_num : Binds K fd_read_num ["reader"] []) (c_TokenReader_skip : CalM P w K mg base "TokenReader" "skip" 3 1 m_TokenReader_skip) (c_TokenReader_read_name : CalM P w K mg base "TokenReader" "read_name" 3 0 m_TokenReader_read_name) (c_TokenReader_read_number : CalM P w K mg base "TokenReader" "read_number" 3 0 m_TokenReader_read_number) (c_TokenReader_peek : CalM P w K mg base "TokenReader" "peek" 2 0 m_TokenReader_peek) : Cal P w K mg base "read_num" 4 1 m_read_num :=
  cal_of (k := 3) F_read_num hm_read_num hb_read_num sc_read_num rfl rfl (fun cdv A outer s H E hr => ⟨_, jss_cons (js_expr (S := []) (k_mcall K mg c_TokenReader_skip (hr.mono (by decide)) (takes_of rfl rfl rfl rfl) (jr_var 0) (ja_cons (jg (j_str)) (ja_nil)))) (jss_cons (js_set 1 sc_read_num.nd (k_mcall0 K mg c_TokenReader_read_name (hr.mono (by decide)) (takes_of rfl rfl rfl rfl) (jr_var 0))) (jss_cons (js_set 2 sc_read_num.nd (k_mcall0 K mg c_TokenReader_read_number (hr.mono (by decide)) (takes_of rfl rfl rfl rfl) (jr_var 0))) (jss_cons (js_set 3 sc_read_num.nd (j_non)) (jss_cons (js_if (jt_cmp (sim_eq (K := K)) (op_eqP (hu64 hr)) (by rfl) (jg (k_mcall0 K mg c_TokenReader_peek (hr.mono (by decide)) (takes_of rfl rfl rfl rfl) (jr_var 0))) (jg (j_str))) (jss_cons (js_expr (S := []) (k_mcall K mg c_TokenReader_skip (hr.mono (by decide)) (takes_of rfl rfl rfl rfl) (jr_var 0) (ja_cons (jg (j_str)) (ja_nil)))) (jss_cons (js_set 4 sc_read_num.nd (k_mcall0 K mg c_TokenReader_read_number (hr.mono (by decide)) (takes_of rfl rfl rfl rfl) (jr_var 0))) (jss_cons (js_expr (S := []) (k_mcall K mg c_TokenReader_skip (hr.mono (by decide)) (takes_of rfl rfl rfl rfl) (jr_var 0) (ja_cons (jg (j_str)) (ja_nil)))) (jss_one (js_set 3 sc_read_num.nd (j_tup (ja_cons (jg (j_var 4)) (ja_cons (jg (k_mcall0 K mg c_TokenReader_read_number (hr.mono (by decide)) (takes_of rfl rfl rfl rfl) (jr_var 0))) (ja_nil))))))))) (jss_nil (S := []))) (jss_cons (js_expr (S := []) (k_mcall K mg c_TokenReader_skip (hr.mono (by decide)) (takes_of rfl rfl rfl rfl) (jr_var 0) (ja_cons (jg (j_str)) (ja_nil)))) (jss_one (js_ret (S := []) (j_tup (ja_cons (jg (j_str)) (ja_cons (jg (j_var 1)) (ja_cons (jg (j_var 2)) (ja_cons (jg (j_var 3)) (ja_nil)))))))))))))⟩) (by decide)
theorem sc_read_told : FnScope ["reader", "kind", "link", "name", "width", "target"] ["reader", "kind", "link"] (defScope s_read_told) := ⟨rfl, rfl, rfl, by decide +kernel, rfl, by decide +kernel, by decide +kernel⟩
theorem ok_read_told {f_read_told : Addr} {fd_read_told : FuncData} (F_read_told : L2.Fun K "read_told" "read_told" s_read_told f_read_told fd_read_told) (hm_read_told : mg "read_told" = some (.ref f_read_told)) (hb_read_told : Binds K fd_read_told ["reader", "kind", "link"] []) (c_TokenReader_skip : CalM P w K mg base "TokenReader" "skip" 3 1 m_TokenReader_skip) (c_TokenReader_read_name : CalM P w K mg base "TokenReader" "read_name" 3 0 m_TokenReader_read_name) (c_TokenReader_read_number : CalM P w K mg base "TokenReader" "read_number" 3 0 m_TokenReader_read_number) : Cal P w K mg base "read_told" 4 3 m_read_told :=
  cal_of (k := 3) F_read_told hm_read_told hb_read_told sc_read_told rfl rfl (fun cdv A outer s H E hr => ⟨_, jss_cons (js_expr (S := []) (k_mcall K mg c_TokenReader_skip (hr.mono (by decide)) (takes_of rfl rfl rfl rfl) (jr_var 0) (ja_cons (jg_var 1) (ja_nil)))) (jss_cons (js_set 3 sc_read_told.nd (k_mcall0 K mg c_TokenReader_read_name (hr.mono (by decide)) (takes_of rfl rfl rfl rfl) (jr_var 0))) (jss_cons (js_set 4 sc_read_told.nd (k_mcall0 K mg c_TokenReader_read_number (hr.mono (by decide)) (takes_of rfl rfl rfl rfl) (jr_var 0))) (jss_cons (js_expr (S := []) (k_mcall K mg c_TokenReader_skip (hr.mono (by decide)) (takes_of rfl rfl rfl rfl) (jr_var 0) (ja_cons (jg_var 2) (ja_nil)))) (jss_cons (js_set 5 sc_read_told.nd (k_mcall0 K mg c_TokenReader_read_name (hr.mono (by decide)) (takes_of rfl rfl rfl rfl) (jr_var 0))) (jss_cons (js_expr (S := []) (k_mcall K mg c_TokenReader_skip (hr.mono (by decide)) (takes_of rfl rfl rfl rfl) (jr_var 0) (ja_cons (jg (j_str)) (ja_nil)))) (jss_one (js_ret (S := []) (j_tup (ja_cons (jg (j_var 1)) (ja_cons (jg (j_var 3)) (ja_cons (jg (j_var 4)) (ja_cons (jg (j_var 5)) (ja_nil)))))))))))))⟩) (by decide)
theorem sc_read_sum : FnScope ["reader", "kind", "head"] ["reader", "kind"] (defScope s_read_sum) := ⟨rfl, rfl, rfl, by decide +kernel, rfl, by decide +kernel, by decide +kernel⟩
theorem ok_read_sum {f_read_sum : Addr} {fd_read_sum : FuncData} (F_read_sum : L2.Fun K "read_sum" "read_sum" s_read_sum f_read_sum fd_read_sum) (hm_read_sum : mg "read_sum" = some (.ref f_read_sum)) (hb_read_sum : Binds K fd_read_sum ["reader", "kind"] []) (c_TokenReader_skip : CalM P w K mg base "TokenReader" "skip" 3 1 m_TokenReader_skip) (c_TokenReader_read_number : CalM P w K mg base "TokenReader" "read_number" 3 0 m_TokenReader_read_number) (c_TokenReader_read_name : CalM P w K mg base "TokenReader" "read_name" 3 0 m_TokenReader_read_name) (z_tuple : mg "tuple" = none) : Cal P w K mg base "read_sum" 4 2 m_read_sum :=
  cal_of (k := 3) F_read_sum hm_read_sum hb_read_sum sc_read_sum rfl rfl (fun cdv A outer s H E hr => ⟨_, jss_cons (js_expr (S := []) (k_mcall K mg c_TokenReader_skip (hr.mono (by decide)) (takes_of rfl rfl rfl rfl) (jr_var 0) (ja_cons (jg_var 1) (ja_nil)))) (jss_cons (js_set 2 sc_read_sum.nd (j_lst (ja_cons (jg (j_var 1)) (ja_cons (jg (k_mcall0 K mg c_TokenReader_read_name (hr.mono (by decide)) (takes_of rfl rfl rfl rfl) (jr_var 0))) (ja_cons (jg (k_mcall0 K mg c_TokenReader_read_number (hr.mono (by decide)) (takes_of rfl rfl rfl rfl) (jr_var 0))) (ja_nil)))))) (jss_cons (js_if (jnt_cmp (sim_eq (K := K)) (op_eqP (hu64 hr)) (by rfl) (jr_var 1) (jr_str)) (jss_cons (js_expr (S := []) (k_mcall K mg c_TokenReader_skip (hr.mono (by decide)) (takes_of rfl rfl rfl rfl) (jr_var 0) (ja_cons (jg (j_str)) (ja_nil)))) (jss_one (js_expr (S := []) (k_meth K PySem.F.plainAttrs_list PySem.F.slot_list_append PySem.F.type_list_append (sim_append (K := K)) mt_append (jr_var 2) (ja_cons (jg (k_mcall0 K mg c_TokenReader_read_number (hr.mono (by decide)) (takes_of rfl rfl rfl rfl) (jr_var 0))) (ja_nil)))))) (jss_nil (S := []))) (jss_cons (js_expr (S := []) (k_mcall K mg c_TokenReader_skip (hr.mono (by decide)) (takes_of rfl rfl rfl rfl) (jr_var 0) (ja_cons (jg (j_str)) (ja_nil)))) (jss_cons (js_expr (S := []) (k_meth K PySem.F.plainAttrs_list PySem.F.slot_list_append PySem.F.type_list_append (sim_append (K := K)) mt_append (jr_var 2) (ja_cons (jg (k_mcall0 K mg c_TokenReader_read_name (hr.mono (by decide)) (takes_of rfl rfl rfl rfl) (jr_var 0))) (ja_nil)))) (jss_cons (js_expr (S := []) (k_mcall K mg c_TokenReader_skip (hr.mono (by decide)) (takes_of rfl rfl rfl rfl) (jr_var 0) (ja_cons (jg (j_str)) (ja_nil)))) (jss_cons (js_expr (S := []) (k_meth K PySem.F.plainAttrs_list PySem.F.slot_list_append PySem.F.type_list_append (sim_append (K := K)) mt_append (jr_var 2) (ja_cons (jg (k_mcall0 K mg c_TokenReader_read_name (hr.mono (by decide)) (takes_of rfl rfl rfl rfl) (jr_var 0))) (ja_nil)))) (jss_cons (js_expr (S := []) (k_mcall K mg c_TokenReader_skip (hr.mono (by decide)) (takes_of rfl rfl rfl rfl) (jr_var 0) (ja_cons (jg (j_str)) (ja_nil)))) (jss_one (js_ret (S := []) (jn_callTy (sim_tuple (K := K)) call_tuple_of b_tuple z_tuple (jra_cons (jr_var 2) (jra_nil))))))))))))⟩) (by decide)
theorem sc_read_plain : FnScope ["reader", "kind", "name", "item"] ["reader", "kind"] (defScope s_read_plain) := ⟨rfl, rfl, rfl, by decide +kernel, rfl, by decide +kernel, by decide +kernel⟩
theorem ok_read_plain {f_read_plain : Addr} {fd_read_plain : FuncData} (F_read_plain : L2.Fun K "read_plain" "read_plain" s_read_plain f_read_plain fd_read_plain) (hm_read_plain : mg "read_plain" = some (.ref f_read_plain)) (hb_read_plain : Binds K fd_read_plain ["reader", "kind"] []) (c_TokenReader_skip : CalM P w K mg base "TokenReader" "skip" 3 1 m_TokenReader_skip) (c_TokenReader_read_name : CalM P w K mg base "TokenReader" "read_name" 3 0 m_TokenReader_read_name) (c_TokenReader_read_number : CalM P w K mg base "TokenReader" "read_number" 3 0 m_TokenReader_read_number) : Cal P w K mg base "read_plain" 4 2 m_read_plain :=
  cal_of (k := 3) F_read_plain hm_read_plain hb_read_plain sc_read_plain rfl rfl (fun cdv A outer s H E hr => ⟨_, jss_cons (js_expr (S := []) (k_mcall K mg c_TokenReader_skip (hr.mono (by decide)) (takes_of rfl rfl rfl rfl) (jr_var 0) (ja_cons (jg_var 1) (ja_nil)))) (jss_cons (js_set 2 sc_read_plain.nd (k_mcall0 K mg c_TokenReader_read_name (hr.mono (by decide)) (takes_of rfl rfl rfl rfl) (jr_var 0))) (jss_cons (js_if (jnt_cmp (sim_eq (K := K)) (op_eqP (hu64 hr)) (by rfl) (jr_var 1) (jr_str)) (jss_one (js_set 3 sc_read_plain.nd (j_tup (ja_cons (jg (j_var 1)) (ja_cons (jg (j_var 2)) (ja_nil)))))) (jss_one (js_if (jnt_cmp (sim_eq (K := K)) (op_eqP (hu64 hr)) (by rfl) (jr_var 1) (jr_str)) (jss_cons (js_expr (S := []) (k_mcall K mg c_TokenReader_skip (hr.mono (by decide)) (takes_of rfl rfl rfl rfl) (jr_var 0) (ja_cons (jg (j_str)) (ja_nil)))) (jss_one (js_set 3 sc_read_plain.nd (j_tup (ja_cons (jg (j_var 1)) (ja_cons (jg (j_var 2)) (ja_cons (jg (k_mcall0 K mg c_TokenReader_read_name (hr.mono (by decide)) (takes_of rfl rfl rfl rfl) (jr_var 0))) (ja_nil)))))))) (jss_one (js_set 3 sc_read_plain.nd (j_tup (ja_cons (jg (j_var 1)) (ja_cons (jg (j_var 2)) (ja_cons (jg (k_mcall0 K mg c_TokenReader_read_number (hr.mono (by decide)) (takes_of rfl rfl rfl rfl) (jr_var 0))) (ja_nil)))))))))) (jss_cons (js_expr (S := []) (k_mcall K mg c_TokenReader_skip (hr.mono (by decide)) (takes_of rfl rfl rfl rfl) (jr_var 0) (ja_cons (jg (j_str)) (ja_nil)))) (jss_one (js_ret (S := []) (j_var 3))))))⟩) (by decide)
theorem sc_read_block : FnScope ["reader", "items"] ["reader"] (defScope s_read_block) := ⟨rfl, rfl, rfl, by decide +kernel, rfl, by decide +kernel, by decide +kernel⟩
theorem sc_read_item : FnScope ["reader", "kind"] ["reader"] (defScope s_read_item) := ⟨rfl, rfl, rfl, by decide +kernel, rfl, by decide +kernel, by decide +kernel⟩
theorem sc_read_holder : FnScope ["reader", "kind", "name", "number"] ["reader", "kind"] (defScope s_read_holder) := ⟨rfl, rfl, rfl, by decide +kernel, rfl, by decide +kernel, by decide +kernel⟩
theorem sc_read_pick : FnScope ["reader", "name", "cases", "case_name"] ["reader"] (defScope s_read_pick) := ⟨rfl, rfl, rfl, by decide +kernel, rfl, by decide +kernel, by decide +kernel⟩
theorem ok_read_block {f_read_block : Addr} {fd_read_block : FuncData} (F_read_block : L2.Fun K "read_block" "read_block" s_read_block f_read_block fd_read_block) (hm_read_block : mg "read_block" = some (.ref f_read_block)) (hb_read_block : Binds K fd_read_block ["reader"] []) {f_read_item : Addr} {fd_read_item : FuncData} (F_read_item : L2.Fun K "read_item" "read_item" s_read_item f_read_item fd_read_item) (hm_read_item : mg "read_item" = some (.ref f_read_item)) (hb_read_item : Binds K fd_read_item ["reader"] []) {f_read_holder : Addr} {fd_read_holder : FuncData} (F_read_holder : L2.Fun K "read_holder" "read_holder" s_read_holder f_read_holder fd_read_holder) (hm_read_holder : mg "read_holder" = some (.ref f_read_holder)) (hb_read_holder : Binds K fd_read_holder ["reader", "kind"] []) {f_read_pick : Addr} {fd_read_pick : FuncData} (F_read_pick : L2.Fun K "read_pick" "read_pick" s_read_pick f_read_pick fd_read_pick) (hm_read_pick : mg "read_pick" = some (.ref f_read_pick)) (hb_read_pick : Binds K fd_read_pick ["reader"] []) (c_TokenReader_skip : CalM P w K mg base "TokenReader" "skip" 3 1 m_TokenReader_skip) (c_TokenReader_peek : CalM P w K mg base "TokenReader" "peek" 2 0 m_TokenReader_peek) (c_read_mark : Cal P w K mg base "read_mark" 4 1 m_read_mark) (c_read_num : Cal P w K mg base "read_num" 4 1 m_read_num) (c_read_told : Cal P w K mg base "read_told" 4 3 m_read_told) (c_read_sum : Cal P w K mg base "read_sum" 4 2 m_read_sum) (c_read_plain : Cal P w K mg base "read_plain" 4 2 m_read_plain) (c_TokenReader_read_number : CalM P w K mg base "TokenReader" "read_number" 3 0 m_TokenReader_read_number) (c_TokenReader_read_name : CalM P w K mg base "TokenReader" "read_name" 3 0 m_TokenReader_read_name) (z_tuple : mg "tuple" = none) (gl_MOST_BRACES : GlbT K mg "MOST_BRACES" (.int 12)) (fl_TokenReader_braces : FldT K "TokenReader" "braces") (fl_TokenReader_place : FldT K "TokenReader" "place") {C_BadText f_BadText : Addr} (x_BadText : PySem.SXE.SxTxt P K mg "BadText" C_BadText f_BadText ["at"]) : ∀ n, Cal P w K mg base "read_block" (4 + 1 + n) 1 (m_read_block n) ∧ Cal P w K mg base "read_item" (4 + 1 + n) 1 (m_read_item n) ∧ Cal P w K mg base "read_holder" (4 + 1 + n) 2 (m_read_holder n) ∧ Cal P w K mg base "read_pick" (4 + 1 + n) 1 (m_read_pick n)
  | 0 => ⟨cal_bad F_read_block hm_read_block hb_read_block sc_read_block rfl, cal_bad F_read_item hm_read_item hb_read_item sc_read_item rfl, cal_bad F_read_holder hm_read_holder hb_read_holder sc_read_holder rfl, cal_bad F_read_pick hm_read_pick hb_read_pick sc_read_pick rfl⟩
  | n + 1 => by
    obtain ⟨c_read_block, c_read_item, c_read_holder, c_read_pick⟩ := ok_read_block F_read_block hm_read_block hb_read_block F_read_item hm_read_item hb_read_item F_read_holder hm_read_holder hb_read_holder F_read_pick hm_read_pick hb_read_pick c_TokenReader_skip c_TokenReader_peek c_read_mark c_read_num c_read_told c_read_sum c_read_plain c_TokenReader_read_number c_TokenReader_read_name z_tuple gl_MOST_BRACES fl_TokenReader_braces fl_TokenReader_place x_BadText n
    exact ⟨cal_of (k := 4 + 1 + n) F_read_block hm_read_block hb_read_block sc_read_block rfl rfl (fun cdv A outer s H E hr => ⟨_, jss_cons (js_expr (S := []) (k_mcall K mg c_TokenReader_skip (hr.mono (by omega)) (takes_of rfl rfl rfl rfl) (jr_var 0) (ja_cons (jg (j_str)) (ja_nil)))) (jss_cons (js_set 1 sc_read_block.nd (j_lst (ja_nil))) (jss_cons (js_while 100000 (passes_of rfl) (jt_cmp (sim_ne (K := K)) (op_neP (hu64 hr)) (by rfl) (jg (k_mcall0 K mg c_TokenReader_peek (hr.mono (by omega)) (takes_of rfl rfl rfl rfl) (jr_var 0))) (jg (j_str))) (jss_one (js_expr (S := []) (k_meth K PySem.F.plainAttrs_list PySem.F.slot_list_append PySem.F.type_list_append (sim_append (K := K)) mt_append (jr_var 1) (ja_cons (jg (k_fn K mg c_read_item (hr.mono (Nat.le_refl _)) (takes_of rfl rfl rfl rfl) (ja_cons (jg_var 0) (ja_nil)))) (ja_nil)))))) (jss_cons (js_expr (S := []) (k_mcall K mg c_TokenReader_skip (hr.mono (by omega)) (takes_of rfl rfl rfl rfl) (jr_var 0) (ja_cons (jg (j_str)) (ja_nil)))) (jss_one (js_ret (S := []) (jn_callTy (sim_tuple (K := K)) call_tuple_of b_tuple z_tuple (jra_cons (jr_var 1) (jra_nil))))))))⟩) (by decide),
      cal_of (k := 4 + 1 + n) F_read_item hm_read_item hb_read_item sc_read_item rfl rfl (fun cdv A outer s H E hr => ⟨_, jss_cons (js_set 1 sc_read_item.nd (k_mcall0 K mg c_TokenReader_peek (hr.mono (by omega)) (takes_of rfl rfl rfl rfl) (jr_var 0))) (jss_cons (js_if (jnt_cmp (sim_eq (K := K)) (op_eqP (hu64 hr)) (by rfl) (jr_var 1) (jr_str)) (jss_one (js_ret (S := []) (k_fn K mg c_read_mark (hr.mono (by omega)) (takes_of rfl rfl rfl rfl) (ja_cons (jg_var 0) (ja_nil))))) (jss_nil (S := []))) (jss_cons (js_if (jnt_cmp (sim_eq (K := K)) (op_eqP (hu64 hr)) (by rfl) (jr_var 1) (jr_str)) (jss_one (js_ret (S := []) (k_fn K mg c_read_num (hr.mono (by omega)) (takes_of rfl rfl rfl rfl) (ja_cons (jg_var 0) (ja_nil))))) (jss_nil (S := []))) (jss_cons (js_if (jt_cmp (sim_in (K := K)) (op_inP (hu65 hr)) (by rfl) (jg_var 1) (jg (j_tup (ja_cons (jg (j_str)) (ja_cons (jg (j_str)) (ja_nil)))))) (jss_one (js_ret (S := []) (k_fn K mg c_read_told (hr.mono (by omega)) (takes_of rfl rfl rfl rfl) (ja_cons (jg_var 0) (ja_cons (jg_var 1) (ja_cons (jg (j_str)) (ja_nil))))))) (jss_nil (S := []))) (jss_cons (js_if (jnt_cmp (sim_eq (K := K)) (op_eqP (hu64 hr)) (by rfl) (jr_var 1) (jr_str)) (jss_one (js_ret (S := []) (k_fn K mg c_read_told (hr.mono (by omega)) (takes_of rfl rfl rfl rfl) (ja_cons (jg_var 0) (ja_cons (jg_var 1) (ja_cons (jg (j_str)) (ja_nil))))))) (jss_nil (S := []))) (jss_cons (js_if (jt_cmp (sim_in (K := K)) (op_inP (hu65 hr)) (by rfl) (jg_var 1) (jg (j_tup (ja_cons (jg (j_str)) (ja_cons (jg (j_str)) (ja_nil)))))) (jss_one (js_ret (S := []) (k_fn K mg c_read_sum (hr.mono (by omega)) (takes_of rfl rfl rfl rfl) (ja_cons (jg_var 0) (ja_cons (jg_var 1) (ja_nil)))))) (jss_nil (S := []))) (jss_cons (js_if (jt_cmp (sim_in (K := K)) (op_inP (hu65 hr)) (by rfl) (jg_var 1) (jg (j_tup (ja_cons (jg (j_str)) (ja_cons (jg (j_str)) (ja_cons (jg (j_str)) (ja_cons (jg (j_str)) (ja_nil)))))))) (jss_one (js_ret (S := []) (k_fn K mg c_read_plain (hr.mono (by omega)) (takes_of rfl rfl rfl rfl) (ja_cons (jg_var 0) (ja_cons (jg_var 1) (ja_nil)))))) (jss_nil (S := []))) (jss_cons (js_if (JW.t (jw_and (jt_cmp (sim_in (K := K)) (op_inP (hu65 hr)) (by rfl) (jg_var 1) (jg (j_tup (ja_cons (jg (j_str)) (ja_cons (jg (j_str)) (ja_cons (jg (j_str)) (ja_cons (jg (j_str)) (ja_cons (jg (j_str)) (ja_cons (jg (j_str)) (ja_nil)))))))))) (jw_and1 (jnt_cmp (sim_B0 (K := K)) op_lt (by rfl) (jr_fld K fl_TokenReader_braces (jr_var 0)) (jr_glob K mg gl_MOST_BRACES))))) (jss_one (js_ret (S := []) (k_fn K mg c_read_holder (hr.mono (Nat.le_refl _)) (takes_of rfl rfl rfl rfl) (ja_cons (jg_var 0) (ja_cons (jg_var 1) (ja_nil)))))) (jss_nil (S := []))) (jss_cons (js_if (JW.t (jw_and (jnt_cmp (sim_eq (K := K)) (op_eqP (hu64 hr)) (by rfl) (jr_var 1) (jr_str)) (jw_and1 (jnt_cmp (sim_B0 (K := K)) op_lt (by rfl) (jr_op (sim_add (K := K)) op_addP (jr_fld K fl_TokenReader_braces (jr_var 0)) (jr_int)) (jr_glob K mg gl_MOST_BRACES))))) (jss_one (js_ret (S := []) (k_fn K mg c_read_pick (hr.mono (Nat.le_refl _)) (takes_of rfl rfl rfl rfl) (ja_cons (jg_var 0) (ja_nil))))) (jss_nil (S := []))) (jss_one (js_raise (k := 0) rfl (takes_of rfl rfl rfl rfl) x_BadText (by decide +kernel) (hr.mono (by omega)) rfl (ja_cons (jg (j_r (jr_fld K fl_TokenReader_place (jr_var 0)))) (ja_nil))))))))))))⟩) (by decide),
      cal_of (k := 4 + 1 + n) F_read_holder hm_read_holder hb_read_holder sc_read_holder rfl rfl (fun cdv A outer s H E hr => ⟨_, jss_cons (js_expr (S := []) (k_mcall K mg c_TokenReader_skip (hr.mono (by omega)) (takes_of rfl rfl rfl rfl) (jr_var 0) (ja_cons (jg_var 1) (ja_nil)))) (jss_cons (js_if (jnt_cmp (sim_eq (K := K)) (op_eqP (hu64 hr)) (by rfl) (jr_var 1) (jr_str)) (jss_cons (js_set 3 sc_read_holder.nd (k_mcall0 K mg c_TokenReader_read_number (hr.mono (by omega)) (takes_of rfl rfl rfl rfl) (jr_var 0))) (jss_one (js_ret (S := []) (j_tup (ja_cons (jg (j_var 1)) (ja_cons (jg (j_var 3)) (ja_cons (jg (k_fn K mg c_read_block (hr.mono (Nat.le_refl _)) (takes_of rfl rfl rfl rfl) (ja_cons (jg_var 0) (ja_nil)))) (ja_nil)))))))) (jss_nil (S := []))) (jss_cons (js_set 2 sc_read_holder.nd (k_mcall0 K mg c_TokenReader_read_name (hr.mono (by omega)) (takes_of rfl rfl rfl rfl) (jr_var 0))) (jss_cons (js_if (jt_cmp (sim_in (K := K)) (op_inP (hu65 hr)) (by rfl) (jg_var 1) (jg (j_tup (ja_cons (jg (j_str)) (ja_cons (jg (j_str)) (ja_nil)))))) (jss_cons (js_set 3 sc_read_holder.nd (k_mcall0 K mg c_TokenReader_read_number (hr.mono (by omega)) (takes_of rfl rfl rfl rfl) (jr_var 0))) (jss_one (js_ret (S := []) (j_tup (ja_cons (jg (j_var 1)) (ja_cons (jg (j_var 2)) (ja_cons (jg (j_var 3)) (ja_cons (jg (k_fn K mg c_read_block (hr.mono (Nat.le_refl _)) (takes_of rfl rfl rfl rfl) (ja_cons (jg_var 0) (ja_nil)))) (ja_nil))))))))) (jss_nil (S := []))) (jss_one (js_ret (S := []) (j_tup (ja_cons (jg (j_var 1)) (ja_cons (jg (j_var 2)) (ja_cons (jg (k_fn K mg c_read_block (hr.mono (Nat.le_refl _)) (takes_of rfl rfl rfl rfl) (ja_cons (jg_var 0) (ja_nil)))) (ja_nil))))))))))⟩) (by decide),
      cal_of (k := 4 + 1 + n) F_read_pick hm_read_pick hb_read_pick sc_read_pick rfl rfl (fun cdv A outer s H E hr => ⟨_, jss_cons (js_expr (S := []) (k_mcall K mg c_TokenReader_skip (hr.mono (by omega)) (takes_of rfl rfl rfl rfl) (jr_var 0) (ja_cons (jg (j_str)) (ja_nil)))) (jss_cons (js_set 1 sc_read_pick.nd (k_mcall0 K mg c_TokenReader_read_name (hr.mono (by omega)) (takes_of rfl rfl rfl rfl) (jr_var 0))) (jss_cons (js_expr (S := []) (k_mcall K mg c_TokenReader_skip (hr.mono (by omega)) (takes_of rfl rfl rfl rfl) (jr_var 0) (ja_cons (jg (j_str)) (ja_nil)))) (jss_cons (js_set 2 sc_read_pick.nd (j_lst (ja_nil))) (jss_cons (js_while 100000 (passes_of rfl) (JW.t (jw_or (jt_not (jt_tru K (jr_var 2))) (jw_or1 (jt_cmp (sim_ne (K := K)) (op_neP (hu64 hr)) (by rfl) (jg (k_mcall0 K mg c_TokenReader_peek (hr.mono (by omega)) (takes_of rfl rfl rfl rfl) (jr_var 0))) (jg (j_str)))))) (jss_cons (js_expr (S := []) (k_mcall K mg c_TokenReader_skip (hr.mono (by omega)) (takes_of rfl rfl rfl rfl) (jr_var 0) (ja_cons (jg (j_str)) (ja_nil)))) (jss_cons (js_set 3 sc_read_pick.nd (k_mcall0 K mg c_TokenReader_read_name (hr.mono (by omega)) (takes_of rfl rfl rfl rfl) (jr_var 0))) (jss_one (js_expr (S := []) (k_meth K PySem.F.plainAttrs_list PySem.F.slot_list_append PySem.F.type_list_append (sim_append (K := K)) mt_append (jr_var 2) (ja_cons (jg (j_tup (ja_cons (jg (j_var 3)) (ja_cons (jg (k_fn K mg c_read_block (hr.mono (Nat.le_refl _)) (takes_of rfl rfl rfl rfl) (ja_cons (jg_var 0) (ja_nil)))) (ja_nil))))) (ja_nil)))))))) (jss_cons (js_expr (S := []) (k_mcall K mg c_TokenReader_skip (hr.mono (by omega)) (takes_of rfl rfl rfl rfl) (jr_var 0) (ja_cons (jg (j_str)) (ja_nil)))) (jss_one (js_ret (S := []) (j_tup (ja_cons (jg (j_str)) (ja_cons (jg (j_var 1)) (ja_cons (jg (jn_callTy (sim_tuple (K := K)) call_tuple_of b_tuple z_tuple (jra_cons (jr_var 2) (jra_nil)))) (ja_nil))))))))))))⟩) (by decide)⟩
theorem sc_run_end : FnScope ["text", "at", "end"] ["text", "at"] (defScope s_run_end) := ⟨rfl, rfl, rfl, by decide +kernel, rfl, by decide +kernel, by decide +kernel⟩
theorem ok_run_end {f_run_end : Addr} {fd_run_end : FuncData} (F_run_end : L2.Fun K "run_end" "run_end" s_run_end f_run_end fd_run_end) (hm_run_end : mg "run_end" = some (.ref f_run_end)) (hb_run_end : Binds K fd_run_end ["text", "at"] []) (z_len : mg "len" = none) (gl_CAPITALS : GlbT K mg "CAPITALS" (.str "ABCDEFGHIJKLMNOPQRSTUVWXYZ")) (gl_DIGITS : GlbT K mg "DIGITS" (.str "0123456789")) (gl_LETTERS : GlbT K mg "LETTERS" (.str "abcdefghijklmnopqrstuvwxyz")) : Cal P w K mg base "run_end" 2 2 m_run_end :=
  cal_of (k := 1) F_run_end hm_run_end hb_run_end sc_run_end rfl rfl (fun cdv A outer s H E hr => ⟨_, jss_cons (js_set 2 sc_run_end.nd (j_var 1)) (jss_cons (js_while 100000 (passes_of rfl) (JW.t (jw_and (jnt_cmp (sim_B0 (K := K)) op_lt (by rfl) (jr_var 2) (jr_callB (sim_len (K := K)) call_len b_len z_len (jra_cons (jr_var 0) (jra_nil)))) (jw_and1 (jnt_cmp (sim_in (K := K)) (op_inP (hu65 hr)) (by rfl) (jr_ix (sim_ix (K := K)) ix_seq (jr_var 0) (jr_var 2)) (jr_op (sim_add (K := K)) op_addP (jr_op (sim_add (K := K)) op_addP (jr_glob K mg gl_LETTERS) (jr_glob K mg gl_CAPITALS)) (jr_glob K mg gl_DIGITS)))))) (jss_one (js_aug 2 (sim_addI (K := K)) ip_addP sc_run_end.nd (j_int)))) (jss_one (js_ret (S := []) (j_var 2))))⟩) (by decide)
theorem sc_all_in : FnScope ["run", "signs", "sign"] ["run", "signs"] (defScope s_all_in) := ⟨rfl, rfl, rfl, by decide +kernel, rfl, by decide +kernel, by decide +kernel⟩
theorem ok_all_in {f_all_in : Addr} {fd_all_in : FuncData} (F_all_in : L2.Fun K "all_in" "all_in" s_all_in f_all_in fd_all_in) (hm_all_in : mg "all_in" = some (.ref f_all_in)) (hb_all_in : Binds K fd_all_in ["run", "signs"] [])  : Cal P w K mg base "all_in" 2 2 m_all_in :=
  cal_of (k := 1) F_all_in hm_all_in hb_all_in sc_all_in rfl rfl (fun cdv A outer s H E hr => ⟨_, jss_cons (js_for (passes_of rfl) rfl (ji_c (j_var 0)) (jp_n 2 sc_all_in.nd) (jss_one (js_if (jnt_cmp (sim_notIn (K := K)) (op_notInP (hu65 hr)) (by rfl) (jr_var 2) (jr_var 1)) (jss_one (js_ret (S := []) (j_bl))) (jss_nil (S := []))))) (jss_one (js_ret (S := []) (j_bl)))⟩) (by decide)
theorem sc_is_name : FnScope ["run"] ["run"] (defScope s_is_name) := ⟨rfl, rfl, rfl, by decide +kernel, rfl, by decide +kernel, by decide +kernel⟩
theorem ok_is_name {f_is_name : Addr} {fd_is_name : FuncData} (F_is_name : L2.Fun K "is_name" "is_name" s_is_name f_is_name fd_is_name) (hm_is_name : mg "is_name" = some (.ref f_is_name)) (hb_is_name : Binds K fd_is_name ["run"] []) (c_all_in : Cal P w K mg base "all_in" 2 2 m_all_in) (z_len : mg "len" = none) (gl_DIGITS : GlbT K mg "DIGITS" (.str "0123456789")) (gl_LETTERS : GlbT K mg "LETTERS" (.str "abcdefghijklmnopqrstuvwxyz")) : Cal P w K mg base "is_name" 3 1 m_is_name :=
  cal_of (k := 2) F_is_name hm_is_name hb_is_name sc_is_name rfl rfl (fun cdv A outer s H E hr => ⟨_, jss_one (js_ret (S := []) (j_and (jn_chain (sim_B0 (K := K)) op_le (sim_B0 (K := K)) op_le (jr_int) (jr_callB (sim_len (K := K)) call_len b_len z_len (jra_cons (jr_var 0) (jra_nil))) (jr_int)) (j_and (jn_cmp (sim_in (K := K)) (op_inP (hu65 hr)) (by rfl) (jr_ix (sim_ix (K := K)) ix_seq (jr_var 0) (jr_int)) (jr_glob K mg gl_LETTERS)) (j_one (k_fn K mg c_all_in (hr.mono (by decide)) (takes_of rfl rfl rfl rfl) (ja_cons (jg_var 0) (ja_cons (jg (jn_op (sim_add (K := K)) op_addP (jr_glob K mg gl_LETTERS) (jr_glob K mg gl_DIGITS))) (ja_nil))))))))⟩) (by decide)
theorem sc_is_number : FnScope ["run"] ["run"] (defScope s_is_number) := ⟨rfl, rfl, rfl, by decide +kernel, rfl, by decide +kernel, by decide +kernel⟩
theorem ok_is_number {f_is_number : Addr} {fd_is_number : FuncData} (F_is_number : L2.Fun K "is_number" "is_number" s_is_number f_is_number fd_is_number) (hm_is_number : mg "is_number" = some (.ref f_is_number)) (hb_is_number : Binds K fd_is_number ["run"] []) (c_all_in : Cal P w K mg base "all_in" 2 2 m_all_in) (z_len : mg "len" = none) (gl_DIGITS : GlbT K mg "DIGITS" (.str "0123456789")) : Cal P w K mg base "is_number" 3 1 m_is_number :=
  cal_of (k := 2) F_is_number hm_is_number hb_is_number sc_is_number rfl rfl (fun cdv A outer s H E hr => ⟨_, jss_cons (js_if (JW.t (jw_or (jt_not (jnt_chain (sim_B0 (K := K)) op_le (sim_B0 (K := K)) op_le (jr_int) (jr_callB (sim_len (K := K)) call_len b_len z_len (jra_cons (jr_var 0) (jra_nil))) (jr_int))) (jw_or1 (jt_not (jt_val (k_fn K mg c_all_in (hr.mono (by decide)) (takes_of rfl rfl rfl rfl) (ja_cons (jg_var 0) (ja_cons (jg (j_r (jr_glob K mg gl_DIGITS))) (ja_nil))))))))) (jss_one (js_ret (S := []) (j_bl))) (jss_nil (S := []))) (jss_one (js_ret (S := []) (j_or (jn_cmp (sim_eq (K := K)) (op_eqP (hu64 hr)) (by rfl) (jr_var 0) (jr_str)) (j_one (jn_cmp (sim_ne (K := K)) (op_neP (hu64 hr)) (by rfl) (jr_ix (sim_ix (K := K)) ix_seq (jr_var 0) (jr_int)) (jr_str))))))⟩) (by decide)
theorem sc_run_token : FnScope ["run"] ["run"] (defScope s_run_token) := ⟨rfl, rfl, rfl, by decide +kernel, rfl, by decide +kernel, by decide +kernel⟩
theorem ok_run_token {f_run_token : Addr} {fd_run_token : FuncData} (F_run_token : L2.Fun K "run_token" "run_token" s_run_token f_run_token fd_run_token) (hm_run_token : mg "run_token" = some (.ref f_run_token)) (hb_run_token : Binds K fd_run_token ["run"] []) (c_is_name : Cal P w K mg base "is_name" 3 1 m_is_name) (c_is_number : Cal P w K mg base "is_number" 3 1 m_is_number) (gl_RESERVED : GlbT K mg "RESERVED" (.tup [(.str "format"), (.str "base"), (.str "version"), (.str "mark"), (.str "num"), (.str "in"), (.str "size"), (.str "count"), (.str "gap"), (.str "sum"), (.str "roll"), (.str "over"), (.str "by"), (.str "of"), (.str "to"), (.str "pad"), (.str "free"), (.str "rest"), (.str "part"), (.str "maybe"), (.str "many"), (.str "pick"), (.str "case"), (.str "grow"), (.str "since"), (.str "nest"), (.str "inner")])) : Cal P w K mg base "run_token" 4 1 m_run_token :=
  cal_of (k := 3) F_run_token hm_run_token hb_run_token sc_run_token rfl rfl (fun cdv A outer s H E hr => ⟨_, jss_cons (js_if (jt_val (k_fn K mg c_is_name (hr.mono (by decide)) (takes_of rfl rfl rfl rfl) (ja_cons (jg_var 0) (ja_nil)))) (jss_cons (js_if (jnt_cmp (sim_in (K := K)) (op_inP (hu65 hr)) (by rfl) (jr_var 0) (jr_glob K mg gl_RESERVED)) (jss_one (js_ret (S := []) (j_tup (ja_cons (jg (j_str)) (ja_cons (jg (j_var 0)) (ja_nil)))))) (jss_nil (S := []))) (jss_one (js_ret (S := []) (j_tup (ja_cons (jg (j_str)) (ja_cons (jg (j_var 0)) (ja_nil))))))) (jss_nil (S := []))) (jss_cons (js_if (jt_val (k_fn K mg c_is_number (hr.mono (by decide)) (takes_of rfl rfl rfl rfl) (ja_cons (jg_var 0) (ja_nil)))) (jss_one (js_ret (S := []) (j_tup (ja_cons (jg (j_str)) (ja_cons (jg (j_var 0)) (ja_nil)))))) (jss_nil (S := []))) (jss_one (js_ret (S := []) (j_tup (ja_cons (jg (j_str)) (ja_cons (jg (j_var 0)) (ja_nil)))))))⟩) (by decide)
theorem sc_tokens_of : FnScope ["text", "tokens", "at", "end"] ["text"] (defScope s_tokens_of) := ⟨rfl, rfl, rfl, by decide +kernel, rfl, by decide +kernel, by decide +kernel⟩
theorem ok_tokens_of {f_tokens_of : Addr} {fd_tokens_of : FuncData} (F_tokens_of : L2.Fun K "tokens_of" "tokens_of" s_tokens_of f_tokens_of fd_tokens_of) (hm_tokens_of : mg "tokens_of" = some (.ref f_tokens_of)) (hb_tokens_of : Binds K fd_tokens_of ["text"] []) (c_run_end : Cal P w K mg base "run_end" 2 2 m_run_end) (c_run_token : Cal P w K mg base "run_token" 4 1 m_run_token) (z_len : mg "len" = none) : Cal P w K mg base "tokens_of" 5 1 m_tokens_of :=
  cal_of (k := 4) F_tokens_of hm_tokens_of hb_tokens_of sc_tokens_of rfl rfl (fun cdv A outer s H E hr => ⟨_, jss_cons (js_set 1 sc_tokens_of.nd (j_lst (ja_nil))) (jss_cons (js_set 2 sc_tokens_of.nd (j_int)) (jss_cons (js_while 100000 (passes_of rfl) (jnt_cmp (sim_B0 (K := K)) op_lt (by rfl) (jr_var 2) (jr_callB (sim_len (K := K)) call_len b_len z_len (jra_cons (jr_var 0) (jra_nil)))) (jss_cons (js_set 3 sc_tokens_of.nd (k_fn K mg c_run_end (hr.mono (by decide)) (takes_of rfl rfl rfl rfl) (ja_cons (jg_var 0) (ja_cons (jg_var 2) (ja_nil))))) (jss_one (js_if (jt_cmp (sim_in (K := K)) (op_inP (hu65 hr)) (by rfl) (jg (j_r (jr_ix (sim_ix (K := K)) ix_seq (jr_var 0) (jr_var 2)))) (jg (j_tup (ja_cons (jg (j_str)) (ja_cons (jg (j_str)) (ja_nil)))))) (jss_one (js_aug 2 (sim_addI (K := K)) ip_addP sc_tokens_of.nd (j_int))) (jss_one (js_if (jnt_cmp (sim_B0 (K := K)) op_gt (by rfl) (jr_var 3) (jr_var 2)) (jss_cons (js_expr (S := []) (k_meth K PySem.F.plainAttrs_list PySem.F.slot_list_append PySem.F.type_list_append (sim_append (K := K)) mt_append (jr_var 1) (ja_cons (jg (k_fn K mg c_run_token (hr.mono (by decide)) (takes_of rfl rfl rfl rfl) (ja_cons (jg (k_sl K (jg_var 0) (jo_some (j_var 2)) (jo_some (j_var 3)))) (ja_nil)))) (ja_nil)))) (jss_one (js_set 2 sc_tokens_of.nd (j_var 3)))) (jss_one (js_if (jt_cmp (sim_eq (K := K)) (op_eqP (hu64 hr)) (by rfl) (jg (k_sl K (jg_var 0) (jo_some (j_var 2)) (jo_some (jn_op (sim_add (K := K)) op_addP (jr_var 2) (jr_int))))) (jg (j_str))) (jss_cons (js_expr (S := []) (k_meth K PySem.F.plainAttrs_list PySem.F.slot_list_append PySem.F.type_list_append (sim_append (K := K)) mt_append (jr_var 1) (ja_cons (jg (j_tup (ja_cons (jg (j_str)) (ja_cons (jg (j_str)) (ja_nil))))) (ja_nil)))) (jss_one (js_aug 2 (sim_addI (K := K)) ip_addP sc_tokens_of.nd (j_int)))) (jss_one (js_if (jt_cmp (sim_in (K := K)) (op_inP (hu65 hr)) (by rfl) (jg (j_r (jr_ix (sim_ix (K := K)) ix_seq (jr_var 0) (jr_var 2)))) (jg (j_tup (ja_cons (jg (j_str)) (ja_cons (jg (j_str)) (ja_cons (jg (j_str)) (ja_nil))))))) (jss_cons (js_expr (S := []) (k_meth K PySem.F.plainAttrs_list PySem.F.slot_list_append PySem.F.type_list_append (sim_append (K := K)) mt_append (jr_var 1) (ja_cons (jg (j_tup (ja_cons (jg (j_str)) (ja_cons (jg (j_r (jr_ix (sim_ix (K := K)) ix_seq (jr_var 0) (jr_var 2)))) (ja_nil))))) (ja_nil)))) (jss_one (js_aug 2 (sim_addI (K := K)) ip_addP sc_tokens_of.nd (j_int)))) (jss_cons (js_expr (S := []) (k_meth K PySem.F.plainAttrs_list PySem.F.slot_list_append PySem.F.type_list_append (sim_append (K := K)) mt_append (jr_var 1) (ja_cons (jg (j_tup (ja_cons (jg (j_str)) (ja_cons (jg (j_r (jr_ix (sim_ix (K := K)) ix_seq (jr_var 0) (jr_var 2)))) (ja_nil))))) (ja_nil)))) (jss_one (js_aug 2 (sim_addI (K := K)) ip_addP sc_tokens_of.nd (j_int)))))))))))))) (jss_one (js_ret (S := []) (j_var 1)))))⟩) (by decide)
theorem sc_read_format : FnScope ["text", "reader", "name", "base", "version", "items"] ["text"] (defScope s_read_format) := ⟨rfl, rfl, rfl, by decide +kernel, rfl, by decide +kernel, by decide +kernel⟩
theorem ok_read_format {f_read_format : Addr} {fd_read_format : FuncData} (F_read_format : L2.Fun K "read_format" "read_format" s_read_format f_read_format fd_read_format) (hm_read_format : mg "read_format" = some (.ref f_read_format)) (hb_read_format : Binds K fd_read_format ["text"] []) (c_TokenReader___init__ : CalI P w K mg base "TokenReader" 2 1 m_TokenReader___init__) (c_tokens_of : Cal P w K mg base "tokens_of" 5 1 m_tokens_of) (c_TokenReader_skip : CalM P w K mg base "TokenReader" "skip" 3 1 m_TokenReader_skip) (c_TokenReader_read_name : CalM P w K mg base "TokenReader" "read_name" 3 0 m_TokenReader_read_name) (c_TokenReader_read_number : CalM P w K mg base "TokenReader" "read_number" 3 0 m_TokenReader_read_number) (c_TokenReader_peek : CalM P w K mg base "TokenReader" "peek" 2 0 m_TokenReader_peek) (c_read_block : Cal P w K mg base "read_block" 50 1 (m_read_block 45)) (z_len : mg "len" = none) (fl_TokenReader_place : FldT K "TokenReader" "place") (fl_TokenReader_tokens : FldT K "TokenReader" "tokens") {C_BadText f_BadText : Addr} (x_BadText : PySem.SXE.SxTxt P K mg "BadText" C_BadText f_BadText ["at"]) : Cal P w K mg base "read_format" 51 1 m_read_format :=
  cal_of (k := 50) F_read_format hm_read_format hb_read_format sc_read_format rfl rfl (fun cdv A outer s H E hr => ⟨_, jss_cons (js_set 1 sc_read_format.nd (k_make K mg c_TokenReader___init__ (hr.mono (by decide)) (takes_of rfl rfl rfl rfl) (ja_cons (jg (k_fn K mg c_tokens_of (hr.mono (by decide)) (takes_of rfl rfl rfl rfl) (ja_cons (jg_var 0) (ja_nil)))) (ja_nil)))) (jss_cons (js_expr (S := []) (k_mcall K mg c_TokenReader_skip (hr.mono (by decide)) (takes_of rfl rfl rfl rfl) (jr_var 1) (ja_cons (jg (j_str)) (ja_nil)))) (jss_cons (js_set 2 sc_read_format.nd (k_mcall0 K mg c_TokenReader_read_name (hr.mono (by decide)) (takes_of rfl rfl rfl rfl) (jr_var 1))) (jss_cons (js_expr (S := []) (k_mcall K mg c_TokenReader_skip (hr.mono (by decide)) (takes_of rfl rfl rfl rfl) (jr_var 1) (ja_cons (jg (j_str)) (ja_nil)))) (jss_cons (js_set 3 sc_read_format.nd (k_mcall0 K mg c_TokenReader_read_number (hr.mono (by decide)) (takes_of rfl rfl rfl rfl) (jr_var 1))) (jss_cons (js_set 4 sc_read_format.nd (j_int)) (jss_cons (js_if (jt_cmp (sim_eq (K := K)) (op_eqP (hu64 hr)) (by rfl) (jg (k_mcall0 K mg c_TokenReader_peek (hr.mono (by decide)) (takes_of rfl rfl rfl rfl) (jr_var 1))) (jg (j_str))) (jss_cons (js_expr (S := []) (k_mcall K mg c_TokenReader_skip (hr.mono (by decide)) (takes_of rfl rfl rfl rfl) (jr_var 1) (ja_cons (jg (j_str)) (ja_nil)))) (jss_one (js_set 4 sc_read_format.nd (k_mcall0 K mg c_TokenReader_read_number (hr.mono (by decide)) (takes_of rfl rfl rfl rfl) (jr_var 1))))) (jss_nil (S := []))) (jss_cons (js_set 5 sc_read_format.nd (k_fn K mg c_read_block (hr.mono (by decide)) (takes_of rfl rfl rfl rfl) (ja_cons (jg_var 1) (ja_nil)))) (jss_cons (js_if (jnt_cmp (sim_B0 (K := K)) op_lt (by rfl) (jr_fld K fl_TokenReader_place (jr_var 1)) (jr_callB (sim_len (K := K)) call_len b_len z_len (jra_cons (jr_fld K fl_TokenReader_tokens (jr_var 1)) (jra_nil)))) (jss_one (js_raise (k := 0) rfl (takes_of rfl rfl rfl rfl) x_BadText (by decide +kernel) (hr.mono (by decide)) rfl (ja_cons (jg (j_r (jr_fld K fl_TokenReader_place (jr_var 1)))) (ja_nil)))) (jss_nil (S := []))) (jss_one (js_ret (S := []) (j_tup (ja_cons (jg (j_str)) (ja_cons (jg (j_var 2)) (ja_cons (jg (j_var 3)) (ja_cons (jg (j_var 4)) (ja_cons (jg (j_var 5)) (ja_nil)))))))))))))))))⟩) (by decide)
theorem sc__law_answer : FnScope ["text", "e"] ["text"] (defScope s__law_answer) := ⟨rfl, rfl, rfl, by decide +kernel, rfl, by decide +kernel, by decide +kernel⟩
theorem ok__law_answer {f__law_answer : Addr} {fd__law_answer : FuncData} (F__law_answer : L2.Fun K "_law_answer" "_law_answer" s__law_answer f__law_answer fd__law_answer) (hm__law_answer : mg "_law_answer" = some (.ref f__law_answer)) (hb__law_answer : Binds K fd__law_answer ["text"] []) (c_read_format : Cal P w K mg base "read_format" 51 1 m_read_format) {D_FormatError : Addr} (g_FormatError : mg "FormatError" = some (.ref D_FormatError)) (tb_FormatError : TabOk K mg (.ref D_FormatError) t_FormatError) {D_BadText : Addr} (g_BadText : mg "BadText" = some (.ref D_BadText)) (tb_BadText : TabOk K mg (.ref D_BadText) t_BadText) {B_BadText : Addr} (gx_BadText : mg "BadText" = some (.ref B_BadText)) (xf_BadText : L2.XfC K B_BadText) (no_BadText_at : PySem.W.findIn K (.ref B_BadText) "at" = some none) : Cal P w K mg base "_law_answer" 52 1 m__law_answer :=
  cal_of (k := 51) F__law_answer hm__law_answer hb__law_answer sc__law_answer rfl rfl (fun cdv A outer s H E hr => ⟨_, jss_one (k_try K mg (S := [1]) rfl rfl (takes_of rfl rfl rfl rfl) (fun W' pn xe tk' po' => jss_one (js_ret (S := []) (j_tup (ja_cons (jg (j_str)) (ja_cons (jg (k_fn K mg c_read_format (hr.mono (by decide)) tk' (ja_cons (jg_var 0) (ja_nil)))) (ja_nil)))))) (by decide) (jh_asX 1 ⟨rfl, by decide, Or.inl g_BadText⟩ tb_BadText (fun a oe cls d pn => jx_tup (jxa_cons (jx_r (jr_str)) (jxa_cons (jx_fld xf_BadText no_BadText_at gx_BadText (JR.pe (jr_var 1))) (jxa_nil)))) (by decide) (jh_cons ⟨rfl, by decide, Or.inl g_FormatError⟩ tb_FormatError (fun a oe cls d pn => jss_one (js_ret (S := []) (j_tup (ja_cons (jg (j_str)) (ja_nil))))) (by decide) (jh_nil)) sc__law_answer.nd))⟩) (by decide)
theorem sc_law : FnScope ["script", "d", "tree", "other", "first", "second", "between", "text", "due"] ["script"] (defScope s_law) := ⟨rfl, rfl, rfl, by decide +kernel, rfl, by decide +kernel, by decide +kernel⟩
theorem ok_law {f : Addr} {fd : FuncData} (F : L2.Fun K "law" "law" s_law f fd) (c__law_begin : Cal P w K mg base "_law_begin" 2 1 m__law_begin) (c__law_any_tree : Cal P w K mg base "_law_any_tree" 47 2 m__law_any_tree) (c__law_rare : Cal P w K mg base "_law_rare" 3 2 m__law_rare) (c__law_filled : Cal P w K mg base "_law_filled" 24 2 m__law_filled) (c__law_pieces : Cal P w K mg base "_law_pieces" 4 2 m__law_pieces) (c__law_row : Cal P w K mg base "_law_row" 24 2 m__law_row) (c__law_pick : Cal P w K mg base "_law_pick" 3 2 m__law_pick) (c__law_same : Cal P w K mg base "_law_same" 43 2 (m__law_same 40)) (c__law_answer : Cal P w K mg base "_law_answer" 52 1 m__law_answer) : FnOk P w K mg base (L2.CX P w) 53 f fd ["script"] (spF K mg 1 m_law) :=
  fnok_of (k := 52) F sc_law rfl rfl (fun cdv A outer s H E hr => ⟨_, jss_cons (js_set 1 sc_law.nd (k_fn K mg c__law_begin (hr.mono (by decide)) (takes_of rfl rfl rfl rfl) (ja_cons (jg_var 0) (ja_nil)))) (jss_cons (js_set 2 sc_law.nd (k_fn K mg c__law_any_tree (hr.mono (by decide)) (takes_of rfl rfl rfl rfl) (ja_cons (jg_var 1) (ja_cons (jg (j_int)) (ja_nil))))) (jss_cons (js_if (jt_val (k_fn K mg c__law_rare (hr.mono (by decide)) (takes_of rfl rfl rfl rfl) (ja_cons (jg_var 1) (ja_cons (jg (j_int)) (ja_nil))))) (jss_one (js_set 2 sc_law.nd (k_fn K mg c__law_filled (hr.mono (by decide)) (takes_of rfl rfl rfl rfl) (ja_cons (jg_var 1) (ja_cons (jg_var 2) (ja_nil)))))) (jss_nil (S := []))) (jss_cons (js_set 3 sc_law.nd (k_fn K mg c__law_any_tree (hr.mono (by decide)) (takes_of rfl rfl rfl rfl) (ja_cons (jg_var 1) (ja_cons (jg (j_int)) (ja_nil))))) (jss_cons (js_set 4 sc_law.nd (j_op (sim_add (K := K)) op_addP (jg (k_join K (j_str) (jg (k_fn K mg c__law_pieces (hr.mono (by decide)) (takes_of rfl rfl rfl rfl) (ja_cons (jg_var 1) (ja_cons (jg (k_fn K mg c__law_row (hr.mono (by decide)) (takes_of rfl rfl rfl rfl) (ja_cons (jg_var 1) (ja_cons (jg_var 2) (ja_nil))))) (ja_nil))))))) (jg (k_fn K mg c__law_pick (hr.mono (by decide)) (takes_of rfl rfl rfl rfl) (ja_cons (jg_var 1) (ja_cons (jg (j_lst (ja_cons (jg (j_str)) (ja_cons (jg (j_str)) (ja_cons (jg (j_str)) (ja_cons (jg (j_str)) (ja_nil))))))) (ja_nil))))))) (jss_cons (js_set 5 sc_law.nd (k_join K (j_str) (jg (k_fn K mg c__law_pieces (hr.mono (by decide)) (takes_of rfl rfl rfl rfl) (ja_cons (jg_var 1) (ja_cons (jg (k_fn K mg c__law_row (hr.mono (by decide)) (takes_of rfl rfl rfl rfl) (ja_cons (jg_var 1) (ja_cons (jg_var 2) (ja_nil))))) (ja_nil))))))) (jss_cons (js_set 6 sc_law.nd (k_join K (j_str) (jg (k_fn K mg c__law_pieces (hr.mono (by decide)) (takes_of rfl rfl rfl rfl) (ja_cons (jg_var 1) (ja_cons (jg (k_fn K mg c__law_row (hr.mono (by decide)) (takes_of rfl rfl rfl rfl) (ja_cons (jg_var 1) (ja_cons (jg_var 3) (ja_nil))))) (ja_nil))))))) (jss_cons (js_for (passes_of rfl) rfl (k_s K (j_lst (ja_cons (jg (j_tup (ja_cons (jg (j_var 4)) (ja_cons (jg (j_var 2)) (ja_nil))))) (ja_cons (jg (j_tup (ja_cons (jg (j_var 6)) (ja_cons (jg (j_var 3)) (ja_nil))))) (ja_cons (jg (j_tup (ja_cons (jg (j_var 5)) (ja_cons (jg (j_var 2)) (ja_nil))))) (ja_cons (jg (j_tup (ja_cons (jg (j_var 4)) (ja_cons (jg (j_var 2)) (ja_nil))))) (ja_cons (jg (j_tup (ja_cons (jg (j_var 6)) (ja_cons (jg (j_var 3)) (ja_nil))))) (ja_nil)))))))) (k_t K rfl (jps_cons (jp_n 7 sc_law.nd) (jps_cons (jp_n 8 sc_law.nd) (jps_nil (S := []))))) (jss_one (js_if (jt_not (jt_val (k_fn K mg c__law_same (hr.mono (by decide)) (takes_of rfl rfl rfl rfl) (ja_cons (jg (k_fn K mg c__law_answer (hr.mono (by decide)) (takes_of rfl rfl rfl rfl) (ja_cons (jg_var 7) (ja_nil)))) (ja_cons (jg (j_tup (ja_cons (jg (j_str)) (ja_cons (jg (j_var 8)) (ja_nil))))) (ja_nil)))))) (jss_one (js_ret (S := []) (j_bl))) (jss_nil (S := []))))) (jss_one (js_ret (S := []) (j_bl))))))))))⟩) (by decide)
end
end K01

/-! X01: the law of the read texts. -/
namespace K01
open PySem PySem.Spec L2 PVL
/-- a text that is answered by a tree -/
structure Good (text : Str) (T : PV) : Prop where
  a : m__law_answer [.str text] = .ok (.tup [.str "tree", T]) [some (.str text)]
  p : PVL.plain 40 (.tup [.str "tree", T]) = true
  i : T.imm = true
theorem answer_ok {text : Str} {T : PV} (h : m_read_format [.str text] = .ok T [some (.str text)]) (hi : T.imm = true) : m__law_answer [.str text] = .ok (.tup [.str "tree", T]) [some (.str text)] := by
  unfold m__law_answer
  rw [fnM_at rfl]
  simp [b_m__law_answer, h, hi]
def tails : List Str := ["", " ", "\n", "\n  \n"]
theorem tails_ok : ∀ g ∈ tails, (∀ c ∈ g.cps.toList, c = 32 ∨ c = 10) ∧ g.length ≤ 4 := by decide +kernel
theorem spell (d : Dr) {nm : Str} {base ver : Int} {items : List PV} {bs : List Str} (h : IsTree nm base ver items bs) (hl : bs.length ≤ 2000) : ∃ (ts ps : List Str) (d1 d2 : Dr), m__law_row [d.pv, treeV nm base ver items] = .ok (toks ts) [some d1.pv, some (treeV nm base ver items)] ∧
    m__law_pieces [d1.pv, toks ts] = .ok (toks ps) [some d2.pv, some (toks ts)] ∧ pJoin "" (toks ps) = some (.str (cat ps)) ∧ (cat ps).length ≤ 30000 ∧ Good (cat ps) (treeV nm base ver items) ∧ (∀ g ∈ tails, Good (cat ps ++ g) (treeV nm base ver items)) := by
  obtain ⟨hd, d1, e1, hh⟩ := row_ok d h (by omega)
  have ht := tree_toks h hh
  have hln := head_len hh
  have hn : (hd ++ bs).length ≤ 2006 := by rw [List.length_append]; omega
  obtain ⟨ps, d2, e2, hp⟩ := pieces_ok d1 (hd ++ bs) ht (by omega)
  have hlp := pieces_len2 _ _ _ ht hp
  have ej := join_ok ps 30000 (by omega) (by decide)
  have hcl : (codes ps).length ≤ 30000 := by
    have : (codes ps).length = (ps.map (·.length)).sum := by
      unfold codes
      rw [List.length_flatten, List.map_map]
      congr 1
    omega
  have him : (treeV nm base ver items).imm = true := by simp [treeV, h.i]
  have hpl := tree_plain h (by omega)
  have good : ∀ tail : List Nat, Blank tail → tail.length ≤ 4 → Good (ofL (codes ps ++ tail)) (treeV nm base ver items) := by
    intro tail hb h4
    have sp := sp_pieces hb (hd ++ bs) ps ";" ht hp
    have et := tokens_of_ok sp (by rw [List.length_append]; omega)
    exact ⟨answer_ok (format_ok _ h hh (by omega) et) him, hpl, him⟩
  have ec : ofL (codes ps ++ []) = cat ps := by rw [List.append_nil, ← cat_codes, ofL_str]
  refine ⟨hd ++ bs, ps, d1, d2, e1, e2, ej, ?_, ?_, fun g hg => ?_⟩
  · have : (cat ps).length = (cat ps).cps.toList.length := by simp [Str.length]
    rw [this, cat_codes]; exact hcl
  · have := good [] (fun c hc => by cases hc) (by simp)
    rw [ec] at this
    exact this
  · have hg2 := tails_ok g hg
    have l4 : g.cps.toList.length ≤ 4 := by
      have : g.length = g.cps.toList.length := by simp [Str.length]
      omega
    have := good g.cps.toList hg2.1 l4
    have eg : ofL (codes ps ++ g.cps.toList) = cat ps ++ g := by
      rw [← cat_codes, ← cps_app, ofL_str]
    rw [eg] at this
    exact this
def bLawL : SM := sIf (bNot (bE (eCall (m__law_same 40) (aCons (gOwn (eCall m__law_answer (aCons (gRef 7) (aNil)))) (aCons (gOwn (eTup (aCons (gOwn (eC (.str "tree"))) (aCons (gOwn (eVar 8)) (aNil))))) (aNil)))))) (sRet (eC (.bl false))) (sNil)
def bFill : SM := sIf (bE (eCall m__law_rare (aCons (gRef 1) (aCons (gOwn (eC (.int 12))) (aNil))))) (sAsg (eCall m__law_filled (aCons (gRef 1) (aCons (gRef 2) (aNil)))) (tgN 2)) (sNil)
def bTx4 : SM := sAsg (eOp pAdd (gOwn (eSM1 pJoin (eC (.str "")) (gOwn (eCall m__law_pieces (aCons (gRef 1) (aCons (gOwn (eCall m__law_row (aCons (gRef 1) (aCons (gRef 2) (aNil))))) (aNil))))))) (gOwn (eCall m__law_pick (aCons (gRef 1) (aCons (gOwn (eLst (aCons (gOwn (eC (.str ""))) (aCons (gOwn (eC (.str " "))) (aCons (gOwn (eC (.str "\n"))) (aCons (gOwn (eC (.str "\n  \n"))) (aNil))))))) (aNil)))))) (tgN 4)
def bTx5 : SM := sAsg (eSM1 pJoin (eC (.str "")) (gOwn (eCall m__law_pieces (aCons (gRef 1) (aCons (gOwn (eCall m__law_row (aCons (gRef 1) (aCons (gRef 2) (aNil))))) (aNil)))))) (tgN 5)
def bTx6 : SM := sAsg (eSM1 pJoin (eC (.str "")) (gOwn (eCall m__law_pieces (aCons (gRef 1) (aCons (gOwn (eCall m__law_row (aCons (gRef 1) (aCons (gRef 3) (aNil))))) (aNil)))))) (tgN 6)
theorem law_is : b_m_law = (sSeq (sAsg (eCall m__law_begin (aCons (gRef 0) (aNil))) (tgN 1)) (sSeq (sAsg (eCall m__law_any_tree (aCons (gRef 1) (aCons (gOwn (eC (.int 1900))) (aNil)))) (tgN 2)) (sSeq bFill (sSeq (sAsg (eCall m__law_any_tree (aCons (gRef 1) (aCons (gOwn (eC (.int 200))) (aNil)))) (tgN 3)) (sSeq bTx4 (sSeq bTx5 (sSeq bTx6 (sSeq (sFor (itS (eLst (aCons (gOwn (eTup (aCons (gOwn (eVar 4)) (aCons (gOwn (eVar 2)) (aNil))))) (aCons (gOwn (eTup (aCons (gOwn (eVar 6)) (aCons (gOwn (eVar 3)) (aNil))))) (aCons (gOwn (eTup (aCons (gOwn (eVar 5)) (aCons (gOwn (eVar 2)) (aNil))))) (aCons (gOwn (eTup (aCons (gOwn (eVar 4)) (aCons (gOwn (eVar 2)) (aNil))))) (aCons (gOwn (eTup (aCons (gOwn (eVar 6)) (aCons (gOwn (eVar 3)) (aNil))))) (aNil)))))))) (tgT 2 (tgsCons (tgN 7) (tgsCons (tgN 8) (tgsNil)))) bLawL) (sRet (eC (.bl true))))))))))) := rfl
theorem lawStep {x T : PV} {text : Str} (h : Good text T) (hx : x = .tup [.str text, T]) (y0 y1 y2 y3 y4 y5 y6 : Option PV) : bLawL [y0, y1, y2, y3, y4, y5, y6, some (.str text), some T] = .next [y0, y1, y2, y3, y4, y5, y6, some (.str text), some T] := by
  have hi := h.i
  have ha := h.a
  have hs := same_c 40 (.tup [.str "tree", T]) h.p
  simp [bLawL, ha, hi, hs]
def Pair (x : PV) : Prop := ∃ text T, x = .tup [.str text, T] ∧ Good text T
theorem lawL (y0 y1 y2 y3 y4 y5 y6 : Option PV) : ∀ (l : List PV), (∀ x ∈ l, Pair x) → ∀ y7 y8, ∃ y7' y8', forL (tgT 2 (tgsCons (tgN 7) (tgsCons (tgN 8) (tgsNil)))) bLawL l [y0, y1, y2, y3, y4, y5, y6, y7, y8] = .next [y0, y1, y2, y3, y4, y5, y6, y7', y8'] := by
  intro l
  induction l with
  | nil => intro _ y7 y8; exact ⟨y7, y8, rfl⟩
  | cons x l ih =>
    intro hl y7 y8
    obtain ⟨text, T, rfl, hg⟩ := hl x (List.mem_cons_self ..)
    obtain ⟨y7', y8', e2⟩ := ih (fun z hz => hl z (List.mem_cons_of_mem _ hz)) (some (.str text)) (some T)
    have e := lawStep hg rfl y0 y1 y2 y3 y4 y5 y6
    refine ⟨y7', y8', ?_⟩
    have ht : tgT 2 (tgsCons (tgN 7) (tgsCons (tgN 8) (tgsNil))) (.tup [.str text, T]) [y0, y1, y2, y3, y4, y5, y6, y7, y8] = some [y0, y1, y2, y3, y4, y5, y6, some (.str text), some T] := by
      have hi := hg.i
      simp [hi]
    rw [forL_at (e := [y0, y1, y2, y3, y4, y5, y6, some (.str text), some T]) ht, e, loopK_next, e2]
theorem law_true : ∀ ns : List Int, ns.length ≤ 63 → ∃ e, m_law [.frz (ns.map PV.int)] = .ok (.bl true) e := by
  intro ns _
  obtain ⟨d0, e0⟩ := begin_c ns
  obtain ⟨nm1, b1, v1, i1, bs1, d1, e1, t1, l1⟩ := any_tree_ok d0 1900 (by omega) (by omega)
  obtain ⟨w, d2, e2⟩ := rare_c d1 12 (by decide) (by decide)
  have step : ∃ (i2 : List PV) (bs2 : List Str) (d3 : Dr), (∀ y0 y3 y4 y5 y6 y7 y8 : Option PV, bFill [y0, some d1.pv, some (treeV nm1 b1 v1 i1), y3, y4, y5, y6, y7, y8] = .next [y0, some d3.pv, some (treeV nm1 b1 v1 i2), y3, y4, y5, y6, y7, y8]) ∧ IsTree nm1 b1 v1 i2 bs2 ∧ bs2.length ≤ 2000 := by
    cases w with
    | false => exact ⟨i1, bs1, d2, fun y0 y3 y4 y5 y6 y7 y8 => by simp [bFill, e2], t1, by omega⟩
    | true =>
      obtain ⟨i2, bs2, d3, e3, t2, l2⟩ := filled_ok d2 t1 (by omega)
      have him : (treeV nm1 b1 v1 i1).imm = true := by simp [treeV, t1.i]
      refine ⟨i2, bs2, d3, fun y0 y3 y4 y5 y6 y7 y8 => ?_, t2, l2⟩
      generalize treeV nm1 b1 v1 i1 = T at *
      generalize treeV nm1 b1 v1 i2 = T2 at *
      simp [bFill, e2, e3, him]
  obtain ⟨i2, bs2, d3, e3, t2, l2⟩ := step
  obtain ⟨nm4, b4, v4, i4, bs4, d4, e4, t4, l4⟩ := any_tree_ok d3 200 (by omega) (by omega)
  obtain ⟨tsA, psA, dA1, dA2, a1, a2, a3, a4, _, a5⟩ := spell d4 t2 l2
  obtain ⟨g, d5, hg, e5⟩ := pick_str dA2 tails (by decide) (by decide)
  obtain ⟨tsB, psB, dB1, dB2, c1, c2, c3, c4, c5, _⟩ := spell d5 t2 l2
  obtain ⟨tsC, psC, dC1, dC2, f1, f2, f3, f4, f5, _⟩ := spell dB2 t4 (by omega)
  have m2 : (treeV nm1 b1 v1 i2).imm = true := by simp [treeV, t2.i]
  have m4 : (treeV nm4 b4 v4 i4).imm = true := by simp [treeV, t4.i]
  have g1 := a5 g hg
  have lg := (tails_ok g hg).2
  have e5' : m__law_pick [dA2.pv, .lst [.str "", .str " ", .str "\n", .str "\n  \n"]] = .ok (.str g) [some d5.pv, some (.lst [.str "", .str " ", .str "\n", .str "\n  \n"])] := e5
  have hz : (cat psA).length + g.length ≤ sizeLine := le_size (by omega)
  generalize treeV nm1 b1 v1 i1 = T1 at *
  generalize treeV nm1 b1 v1 i2 = T2 at *
  generalize treeV nm4 b4 v4 i4 = T4 at *
  have x4 : ∀ y0 y5 y6 y7 y8 y4 : Option PV, bTx4 [y0, some d4.pv, some T2, some T4, y4, y5, y6, y7, y8] = .next [y0, some d5.pv, some T2, some T4, some (.str (cat psA ++ g)), y5, y6, y7, y8] := by
    intro y0 y5 y6 y7 y8 y4
    simp only [toks] at a1 a2 a3
    generalize tsA.map PV.str = TS at *
    generalize psA.map PV.str = PS at *
    simp [bTx4, a1, a2, a3, e5', m2, hz]
  have x5 : ∀ y0 y4 y5 y6 y7 y8 : Option PV, bTx5 [y0, some d5.pv, some T2, some T4, y4, y5, y6, y7, y8] = .next [y0, some dB2.pv, some T2, some T4, y4, some (.str (cat psB)), y6, y7, y8] := by
    intro y0 y4 y5 y6 y7 y8
    simp only [toks] at c1 c2 c3
    generalize tsB.map PV.str = TS at *
    generalize psB.map PV.str = PS at *
    simp [bTx5, c1, c2, c3, m2]
  have x6 : ∀ y0 y4 y5 y6 y7 y8 : Option PV, bTx6 [y0, some dB2.pv, some T2, some T4, y4, y5, y6, y7, y8] = .next [y0, some dC2.pv, some T2, some T4, y4, y5, some (.str (cat psC)), y7, y8] := by
    intro y0 y4 y5 y6 y7 y8
    simp only [toks] at f1 f2 f3
    generalize tsC.map PV.str = TS at *
    generalize psC.map PV.str = PS at *
    simp [bTx6, f1, f2, f3, m4]
  generalize cat psA ++ g = TA at *
  generalize cat psB = TB at *
  generalize cat psC = TC at *
  obtain ⟨y7, y8, eL⟩ := lawL (some (.frz (ns.map PV.int))) (some dC2.pv) (some T2) (some T4) (some (.str TA)) (some (.str TB)) (some (.str TC))
    [.tup [.str TA, T2], .tup [.str TC, T4], .tup [.str TB, T2], .tup [.str TA, T2], .tup [.str TC, T4]] (by
      intro x hx
      simp only [List.mem_cons, List.not_mem_nil, or_false] at hx
      rcases hx with rfl | rfl | rfl | rfl | rfl
      · exact ⟨_, _, rfl, g1⟩
      · exact ⟨_, _, rfl, f5⟩
      · exact ⟨_, _, rfl, c5⟩
      · exact ⟨_, _, rfl, g1⟩
      · exact ⟨_, _, rfl, f5⟩) none none
  refine ⟨[some (.frz (ns.map PV.int))], ?_⟩
  unfold m_law
  rw [fnM_at rfl, law_is]
  simp [e0, e1, e3, e4, x4, x5, x6, m2, m4, eL]
end K01

namespace K01
open PySem PySem.Spec L2 PVL

/-! ### what the top has written -/
theorem all_ok {w : World} {K : PySem.W.Frag} {h : Heap} {mg : Str → Option Value} {fa : Addr} (X : K.In h) (G : h.Ns mainGlobals mg) (hfa : mg "law" = some (.ref fa))
    {E_FormatError : Addr}
    {E_BadText : Addr}
    {I_BadText N_BadText cc_BadText cd_BadText : Addr} {nm_BadText qn_BadText : Str} {bs_BadText bm_BadText sub_BadText : List Value} {sn_BadText : List Str} {ab_BadText : Bool} {col_BadText : Option Bool} {dd_BadText : Option Addr} {oc_BadText doc_BadText pm_BadText ct_BadText ccl_BadText cl_BadText : Value} {j0_BadText j1_BadText j2_BadText j3_BadText j5_BadText : Option Value} {od_BadText an_BadText cdd_BadText cld_BadText : Option Addr} {osl_BadText ccs_BadText csl_BadText : Array (Option Value)} {vs_BadText : Array Value} {fl_BadText : Str} {tf_BadText : Tok}
    {E_TokenReader : Addr}
    {u_CAPITALS : Value}
    {u_DIGITS : Value}
    {u_LETTERS : Value}
    {u_MOST_BRACES : Value}
    {u_RESERVED : Value}
    {h__law_begin : Addr} {oc_f_law_begin kV_f_law_begin dc_f_law_begin pm_f_law_begin cd_f_law_begin ct_f_law_begin : Value} {od_f_law_begin an_f_law_begin : Option Addr} {sl_f_law_begin : Array (Option Value)}
    {h__law_draw : Addr} {oc_f_law_draw kV_f_law_draw dc_f_law_draw pm_f_law_draw cd_f_law_draw ct_f_law_draw : Value} {od_f_law_draw an_f_law_draw : Option Addr} {sl_f_law_draw : Array (Option Value)}
    {h__law_pick : Addr} {oc_f_law_pick kV_f_law_pick dc_f_law_pick pm_f_law_pick cd_f_law_pick ct_f_law_pick : Value} {od_f_law_pick an_f_law_pick : Option Addr} {sl_f_law_pick : Array (Option Value)}
    {h__law_kinds : Addr} {oc_f_law_kinds kV_f_law_kinds dc_f_law_kinds pm_f_law_kinds cd_f_law_kinds ct_f_law_kinds : Value} {od_f_law_kinds an_f_law_kinds : Option Addr} {sl_f_law_kinds : Array (Option Value)}
    {h__law_figure : Addr} {oc_f_law_figure kV_f_law_figure dc_f_law_figure pm_f_law_figure cd_f_law_figure ct_f_law_figure : Value} {od_f_law_figure an_f_law_figure : Option Addr} {sl_f_law_figure : Array (Option Value)}
    {h__law_words : Addr} {oc_f_law_words kV_f_law_words dc_f_law_words pm_f_law_words cd_f_law_words ct_f_law_words : Value} {od_f_law_words an_f_law_words : Option Addr} {sl_f_law_words : Array (Option Value)}
    {h__law_plain_words : Addr} {oc_f_law_plain_words kV_f_law_plain_words dc_f_law_plain_words pm_f_law_plain_words cd_f_law_plain_words ct_f_law_plain_words : Value} {od_f_law_plain_words an_f_law_plain_words : Option Addr} {sl_f_law_plain_words : Array (Option Value)}
    {h__law_name : Addr} {oc_f_law_name kV_f_law_name dc_f_law_name pm_f_law_name cd_f_law_name ct_f_law_name : Value} {od_f_law_name an_f_law_name : Option Addr} {sl_f_law_name : Array (Option Value)}
    {h__law_pop : Addr} {oc_f_law_pop kV_f_law_pop dc_f_law_pop pm_f_law_pop cd_f_law_pop ct_f_law_pop : Value} {od_f_law_pop an_f_law_pop : Option Addr} {sl_f_law_pop : Array (Option Value)}
    {h__law_short : Addr} {oc_f_law_short kV_f_law_short dc_f_law_short pm_f_law_short cd_f_law_short ct_f_law_short : Value} {od_f_law_short an_f_law_short : Option Addr} {sl_f_law_short : Array (Option Value)}
    {h__law_item : Addr} {oc_f_law_item kV_f_law_item dc_f_law_item pm_f_law_item cd_f_law_item ct_f_law_item : Value} {od_f_law_item an_f_law_item : Option Addr} {sl_f_law_item : Array (Option Value)}
    {h__law_holder : Addr} {oc_f_law_holder kV_f_law_holder dc_f_law_holder pm_f_law_holder cd_f_law_holder ct_f_law_holder : Value} {od_f_law_holder an_f_law_holder : Option Addr} {sl_f_law_holder : Array (Option Value)}
    {h__law_inside : Addr} {oc_f_law_inside kV_f_law_inside dc_f_law_inside pm_f_law_inside cd_f_law_inside ct_f_law_inside : Value} {od_f_law_inside an_f_law_inside : Option Addr} {sl_f_law_inside : Array (Option Value)}
    {h__law_any_tree : Addr} {oc_f_law_any_tree kV_f_law_any_tree dc_f_law_any_tree pm_f_law_any_tree cd_f_law_any_tree ct_f_law_any_tree : Value} {od_f_law_any_tree an_f_law_any_tree : Option Addr} {sl_f_law_any_tree : Array (Option Value)}
    {h__law_rare : Addr} {oc_f_law_rare kV_f_law_rare dc_f_law_rare pm_f_law_rare cd_f_law_rare ct_f_law_rare : Value} {od_f_law_rare an_f_law_rare : Option Addr} {sl_f_law_rare : Array (Option Value)}
    {h__law_tokens : Addr} {oc_f_law_tokens kV_f_law_tokens dc_f_law_tokens pm_f_law_tokens cd_f_law_tokens ct_f_law_tokens : Value} {od_f_law_tokens an_f_law_tokens : Option Addr} {sl_f_law_tokens : Array (Option Value)}
    {h__law_all_tokens : Addr} {oc_f_law_all_tokens kV_f_law_all_tokens dc_f_law_all_tokens pm_f_law_all_tokens cd_f_law_all_tokens ct_f_law_all_tokens : Value} {od_f_law_all_tokens an_f_law_all_tokens : Option Addr} {sl_f_law_all_tokens : Array (Option Value)}
    {h__law_filled : Addr} {oc_f_law_filled kV_f_law_filled dc_f_law_filled pm_f_law_filled cd_f_law_filled ct_f_law_filled : Value} {od_f_law_filled an_f_law_filled : Option Addr} {sl_f_law_filled : Array (Option Value)}
    {h__law_clings : Addr} {oc_f_law_clings kV_f_law_clings dc_f_law_clings pm_f_law_clings cd_f_law_clings ct_f_law_clings : Value} {od_f_law_clings an_f_law_clings : Option Addr} {sl_f_law_clings : Array (Option Value)}
    {h__law_pieces : Addr} {oc_f_law_pieces kV_f_law_pieces dc_f_law_pieces pm_f_law_pieces cd_f_law_pieces ct_f_law_pieces : Value} {od_f_law_pieces an_f_law_pieces : Option Addr} {sl_f_law_pieces : Array (Option Value)}
    {h__law_row : Addr} {oc_f_law_row kV_f_law_row dc_f_law_row pm_f_law_row cd_f_law_row ct_f_law_row : Value} {od_f_law_row an_f_law_row : Option Addr} {sl_f_law_row : Array (Option Value)}
    {h__law_is_int : Addr} {oc_f_law_is_int kV_f_law_is_int dc_f_law_is_int pm_f_law_is_int cd_f_law_is_int ct_f_law_is_int : Value} {od_f_law_is_int an_f_law_is_int : Option Addr} {sl_f_law_is_int : Array (Option Value)}
    {h__law_same : Addr} {oc_f_law_same kV_f_law_same dc_f_law_same pm_f_law_same cd_f_law_same ct_f_law_same : Value} {od_f_law_same an_f_law_same : Option Addr} {sl_f_law_same : Array (Option Value)}
    {h_TokenReader___init__ : Addr} {oc_fTokenReader___init__ kV_fTokenReader___init__ dc_fTokenReader___init__ pm_fTokenReader___init__ cd_fTokenReader___init__ ct_fTokenReader___init__ : Value} {od_fTokenReader___init__ an_fTokenReader___init__ : Option Addr} {sl_fTokenReader___init__ : Array (Option Value)}
    {h_TokenReader_peek : Addr} {oc_fTokenReader_peek kV_fTokenReader_peek dc_fTokenReader_peek pm_fTokenReader_peek cd_fTokenReader_peek ct_fTokenReader_peek : Value} {od_fTokenReader_peek an_fTokenReader_peek : Option Addr} {sl_fTokenReader_peek : Array (Option Value)}
    {h_TokenReader_fail : Addr} {oc_fTokenReader_fail kV_fTokenReader_fail dc_fTokenReader_fail pm_fTokenReader_fail cd_fTokenReader_fail ct_fTokenReader_fail : Value} {od_fTokenReader_fail an_fTokenReader_fail : Option Addr} {sl_fTokenReader_fail : Array (Option Value)}
    {h_TokenReader_skip : Addr} {oc_fTokenReader_skip kV_fTokenReader_skip dc_fTokenReader_skip pm_fTokenReader_skip cd_fTokenReader_skip ct_fTokenReader_skip : Value} {od_fTokenReader_skip an_fTokenReader_skip : Option Addr} {sl_fTokenReader_skip : Array (Option Value)}
    {h_TokenReader_peek_kind : Addr} {oc_fTokenReader_peek_kind kV_fTokenReader_peek_kind dc_fTokenReader_peek_kind pm_fTokenReader_peek_kind cd_fTokenReader_peek_kind ct_fTokenReader_peek_kind : Value} {od_fTokenReader_peek_kind an_fTokenReader_peek_kind : Option Addr} {sl_fTokenReader_peek_kind : Array (Option Value)}
    {h_TokenReader_read_name : Addr} {oc_fTokenReader_read_name kV_fTokenReader_read_name dc_fTokenReader_read_name pm_fTokenReader_read_name cd_fTokenReader_read_name ct_fTokenReader_read_name : Value} {od_fTokenReader_read_name an_fTokenReader_read_name : Option Addr} {sl_fTokenReader_read_name : Array (Option Value)}
    {h_TokenReader_read_number : Addr} {oc_fTokenReader_read_number kV_fTokenReader_read_number dc_fTokenReader_read_number pm_fTokenReader_read_number cd_fTokenReader_read_number ct_fTokenReader_read_number : Value} {od_fTokenReader_read_number an_fTokenReader_read_number : Option Addr} {sl_fTokenReader_read_number : Array (Option Value)}
    {h_read_mark : Addr} {oc_fread_mark kV_fread_mark dc_fread_mark pm_fread_mark cd_fread_mark ct_fread_mark : Value} {od_fread_mark an_fread_mark : Option Addr} {sl_fread_mark : Array (Option Value)}
    {h_read_num : Addr} {oc_fread_num kV_fread_num dc_fread_num pm_fread_num cd_fread_num ct_fread_num : Value} {od_fread_num an_fread_num : Option Addr} {sl_fread_num : Array (Option Value)}
    {h_read_told : Addr} {oc_fread_told kV_fread_told dc_fread_told pm_fread_told cd_fread_told ct_fread_told : Value} {od_fread_told an_fread_told : Option Addr} {sl_fread_told : Array (Option Value)}
    {h_read_sum : Addr} {oc_fread_sum kV_fread_sum dc_fread_sum pm_fread_sum cd_fread_sum ct_fread_sum : Value} {od_fread_sum an_fread_sum : Option Addr} {sl_fread_sum : Array (Option Value)}
    {h_read_plain : Addr} {oc_fread_plain kV_fread_plain dc_fread_plain pm_fread_plain cd_fread_plain ct_fread_plain : Value} {od_fread_plain an_fread_plain : Option Addr} {sl_fread_plain : Array (Option Value)}
    {h_read_block : Addr} {oc_fread_block kV_fread_block dc_fread_block pm_fread_block cd_fread_block ct_fread_block : Value} {od_fread_block an_fread_block : Option Addr} {sl_fread_block : Array (Option Value)}
    {h_read_item : Addr} {oc_fread_item kV_fread_item dc_fread_item pm_fread_item cd_fread_item ct_fread_item : Value} {od_fread_item an_fread_item : Option Addr} {sl_fread_item : Array (Option Value)}
    {h_read_holder : Addr} {oc_fread_holder kV_fread_holder dc_fread_holder pm_fread_holder cd_fread_holder ct_fread_holder : Value} {od_fread_holder an_fread_holder : Option Addr} {sl_fread_holder : Array (Option Value)}
    {h_read_pick : Addr} {oc_fread_pick kV_fread_pick dc_fread_pick pm_fread_pick cd_fread_pick ct_fread_pick : Value} {od_fread_pick an_fread_pick : Option Addr} {sl_fread_pick : Array (Option Value)}
    {h_run_end : Addr} {oc_frun_end kV_frun_end dc_frun_end pm_frun_end cd_frun_end ct_frun_end : Value} {od_frun_end an_frun_end : Option Addr} {sl_frun_end : Array (Option Value)}
    {h_all_in : Addr} {oc_fall_in kV_fall_in dc_fall_in pm_fall_in cd_fall_in ct_fall_in : Value} {od_fall_in an_fall_in : Option Addr} {sl_fall_in : Array (Option Value)}
    {h_is_name : Addr} {oc_fis_name kV_fis_name dc_fis_name pm_fis_name cd_fis_name ct_fis_name : Value} {od_fis_name an_fis_name : Option Addr} {sl_fis_name : Array (Option Value)}
    {h_is_number : Addr} {oc_fis_number kV_fis_number dc_fis_number pm_fis_number cd_fis_number ct_fis_number : Value} {od_fis_number an_fis_number : Option Addr} {sl_fis_number : Array (Option Value)}
    {h_run_token : Addr} {oc_frun_token kV_frun_token dc_frun_token pm_frun_token cd_frun_token ct_frun_token : Value} {od_frun_token an_frun_token : Option Addr} {sl_frun_token : Array (Option Value)}
    {h_tokens_of : Addr} {oc_ftokens_of kV_ftokens_of dc_ftokens_of pm_ftokens_of cd_ftokens_of ct_ftokens_of : Value} {od_ftokens_of an_ftokens_of : Option Addr} {sl_ftokens_of : Array (Option Value)}
    {h_read_format : Addr} {oc_fread_format kV_fread_format dc_fread_format pm_fread_format cd_fread_format ct_fread_format : Value} {od_fread_format an_fread_format : Option Addr} {sl_fread_format : Array (Option Value)}
    {h__law_answer : Addr} {oc_f_law_answer kV_f_law_answer dc_f_law_answer pm_f_law_answer cd_f_law_answer ct_f_law_answer : Value} {od_f_law_answer an_f_law_answer : Option Addr} {sl_f_law_answer : Array (Option Value)}
    {h_law : Addr} {oc_flaw kV_flaw dc_flaw pm_flaw cd_flaw ct_flaw : Value} {od_flaw an_flaw : Option Addr} {sl_flaw : Array (Option Value)}
    (a_FormatError : PySem.W.nsIn K mainGlobals "FormatError" = some (some (.ref E_FormatError)))
    (a_BadText : PySem.W.nsIn K mainGlobals "BadText" = some (some (.ref E_BadText)))
    (x1_BadText : K.lookup E_BadText = some (excClassObj nm_BadText qn_BadText E_BadText N_BadText bs_BadText bm_BadText true sn_BadText sub_BadText ab_BadText col_BadText dd_BadText j0_BadText j1_BadText j2_BadText j3_BadText j5_BadText "ValueError.__new__"))
    (x2_BadText : PySem.HandSPX.refsVE bm_BadText = true)
    (x3_BadText : PySem.W.findIn K (.ref E_BadText) "__setattr__" = some (some (.builtin "object.__setattr__")))
    (x4_BadText : PySem.W.findIn K (.ref E_BadText) "__getattribute__" = some (some (.builtin "BaseException.__getattribute__")))
    (x5_BadText : PySem.W.findIn K (.ref E_BadText) "__getattr__" = some none)
    (x6_BadText_at : PySem.W.findIn K (.ref E_BadText) "at" = some none)
    (x7_BadText : PySem.W.findIn K (.ref E_BadText) "__init__" = some (some (.ref I_BadText)))
    (x8_BadText : PySem.W.typeIn K (.ref I_BadText) = some (.type "function"))
    (x9_BadText : PySem.W.keepIn K (.ref E_BadText) = true)
    (y1_BadText : PySem.W.subIn K (.ref E_BadText) (.type "BaseException") = some true)
    (y2_BadText : PySem.W.subIn K (.ref E_BadText) (.type "ValueError") = some true)
    (y3_BadText : PySem.W.typeIn K (.ref E_BadText) = some (.type "type"))
    (y4_BadText : PySem.W.hasDictIn K E_BadText = true)
    (y5_BadText : PySem.W.mroIn K E_BadText (.ref E_BadText) = some true)
    (y7_BadText : PySem.W.ks_superIn K E_BadText E_BadText "__init__" = some (some (.builtin "ValueError.__init__")))
    (l1_BadText : K.lookup I_BadText = some ⟨oc_BadText, od_BadText, .func (PySem.W.ksFn "__init__" "BadText.__init__" (defArgs s_BadText) (defBody s_BadText) (defScope s_BadText) .none .none doc_BadText pm_BadText an_BadText (.ref cd_BadText) ct_BadText cc_BadText), osl_BadText⟩)
    (l2_BadText : PySem.W.codeIn K (.ref cd_BadText) "BadText.__init__" = true)
    (l3_BadText : K.lookup cd_BadText = some ⟨ccl_BadText, cdd_BadText, .fields vs_BadText, ccs_BadText⟩)
    (l4_BadText : vs_BadText[2]? = some (.str fl_BadText tf_BadText))
    (l5_BadText : ((PySem.Challenge.pw_formatory_k01_texts_read.main.file : Str) == fl_BadText) = true)
    (l6_BadText : K.lookup cc_BadText = some ⟨cl_BadText, cld_BadText, .cell (some (.ref E_BadText)), csl_BadText⟩)
    (o1 : PySem.W.nsIn K cStatics "thirdparty.any" = some none)
    (o2 : PySem.W.nsIn K mainGlobals "super" = some none)
    (w1_FormatError : PySem.W.subIn K (.ref E_FormatError) (.type "BaseException") = some true)
    (w2_FormatError : PySem.W.isClsIn K E_FormatError = true)
    (w3_FormatError : PySem.W.typeIn K (.ref E_FormatError) = some (.type "type"))
    (w4_FormatError_BadText : PySem.W.subIn K (.ref E_BadText) (.ref E_FormatError) = some true)
    (w1_BadText : PySem.W.subIn K (.ref E_BadText) (.type "BaseException") = some true)
    (w2_BadText : PySem.W.isClsIn K E_BadText = true)
    (w3_BadText : PySem.W.typeIn K (.ref E_BadText) = some (.type "type"))
    (w4_BadText_BadText : PySem.W.subIn K (.ref E_BadText) (.ref E_BadText) = some true)
    (a_TokenReader : PySem.W.nsIn K mainGlobals "TokenReader" = some (some (.ref E_TokenReader)))
    (k1_TokenReader : PySem.W.plainGet K E_TokenReader Str.empty = true)
    (k2_TokenReader : PySem.W.hasDictIn K E_TokenReader = true)
    (k3_TokenReader : PySem.W.plainOver K E_TokenReader = true)
    (k4_TokenReader : PySem.W.findIn K (.ref E_TokenReader) "__setattr__" = some (some (.builtin "object.__setattr__")))
    (nf_TokenReader_braces : PySem.W.findIn K (.ref E_TokenReader) "braces" = some none)
    (nf_TokenReader_place : PySem.W.findIn K (.ref E_TokenReader) "place" = some none)
    (nf_TokenReader_tokens : PySem.W.findIn K (.ref E_TokenReader) "tokens" = some none)
    (ag_CAPITALS : PySem.W.nsIn K mainGlobals "CAPITALS" = some (some u_CAPITALS))
    (cg_CAPITALS : cstK K (.str "ABCDEFGHIJKLMNOPQRSTUVWXYZ") u_CAPITALS = true)
    (ag_DIGITS : PySem.W.nsIn K mainGlobals "DIGITS" = some (some u_DIGITS))
    (cg_DIGITS : cstK K (.str "0123456789") u_DIGITS = true)
    (ag_LETTERS : PySem.W.nsIn K mainGlobals "LETTERS" = some (some u_LETTERS))
    (cg_LETTERS : cstK K (.str "abcdefghijklmnopqrstuvwxyz") u_LETTERS = true)
    (ag_MOST_BRACES : PySem.W.nsIn K mainGlobals "MOST_BRACES" = some (some u_MOST_BRACES))
    (cg_MOST_BRACES : cstK K (.int 12) u_MOST_BRACES = true)
    (ag_RESERVED : PySem.W.nsIn K mainGlobals "RESERVED" = some (some u_RESERVED))
    (cg_RESERVED : cstK K (.tup [(.str "format"), (.str "base"), (.str "version"), (.str "mark"), (.str "num"), (.str "in"), (.str "size"), (.str "count"), (.str "gap"), (.str "sum"), (.str "roll"), (.str "over"), (.str "by"), (.str "of"), (.str "to"), (.str "pad"), (.str "free"), (.str "rest"), (.str "part"), (.str "maybe"), (.str "many"), (.str "pick"), (.str "case"), (.str "grow"), (.str "since"), (.str "nest"), (.str "inner")]) u_RESERVED = true)
    (a_f_law_begin : PySem.W.nsIn K mainGlobals "_law_begin" = some (some (.ref h__law_begin)))
    (l_f_law_begin : K.lookup h__law_begin = some ⟨oc_f_law_begin, od_f_law_begin, .func (PySem.W.fnOf "_law_begin" "_law_begin" (defArgs s__law_begin) (defBody s__law_begin) (defScope s__law_begin) .none kV_f_law_begin dc_f_law_begin pm_f_law_begin an_f_law_begin cd_f_law_begin ct_f_law_begin), sl_f_law_begin⟩)
    (c_f_law_begin : PySem.W.codeIn K cd_f_law_begin "_law_begin" = true)
    (k_f_law_begin : PySem.W.keepIn K (.ref h__law_begin) = true)
    (a_f_law_draw : PySem.W.nsIn K mainGlobals "_law_draw" = some (some (.ref h__law_draw)))
    (l_f_law_draw : K.lookup h__law_draw = some ⟨oc_f_law_draw, od_f_law_draw, .func (PySem.W.fnOf "_law_draw" "_law_draw" (defArgs s__law_draw) (defBody s__law_draw) (defScope s__law_draw) .none kV_f_law_draw dc_f_law_draw pm_f_law_draw an_f_law_draw cd_f_law_draw ct_f_law_draw), sl_f_law_draw⟩)
    (c_f_law_draw : PySem.W.codeIn K cd_f_law_draw "_law_draw" = true)
    (k_f_law_draw : PySem.W.keepIn K (.ref h__law_draw) = true)
    (a_f_law_pick : PySem.W.nsIn K mainGlobals "_law_pick" = some (some (.ref h__law_pick)))
    (l_f_law_pick : K.lookup h__law_pick = some ⟨oc_f_law_pick, od_f_law_pick, .func (PySem.W.fnOf "_law_pick" "_law_pick" (defArgs s__law_pick) (defBody s__law_pick) (defScope s__law_pick) .none kV_f_law_pick dc_f_law_pick pm_f_law_pick an_f_law_pick cd_f_law_pick ct_f_law_pick), sl_f_law_pick⟩)
    (c_f_law_pick : PySem.W.codeIn K cd_f_law_pick "_law_pick" = true)
    (k_f_law_pick : PySem.W.keepIn K (.ref h__law_pick) = true)
    (a_f_law_kinds : PySem.W.nsIn K mainGlobals "_law_kinds" = some (some (.ref h__law_kinds)))
    (l_f_law_kinds : K.lookup h__law_kinds = some ⟨oc_f_law_kinds, od_f_law_kinds, .func (PySem.W.fnOf "_law_kinds" "_law_kinds" (defArgs s__law_kinds) (defBody s__law_kinds) (defScope s__law_kinds) .none kV_f_law_kinds dc_f_law_kinds pm_f_law_kinds an_f_law_kinds cd_f_law_kinds ct_f_law_kinds), sl_f_law_kinds⟩)
    (c_f_law_kinds : PySem.W.codeIn K cd_f_law_kinds "_law_kinds" = true)
    (k_f_law_kinds : PySem.W.keepIn K (.ref h__law_kinds) = true)
    (a_f_law_figure : PySem.W.nsIn K mainGlobals "_law_figure" = some (some (.ref h__law_figure)))
    (l_f_law_figure : K.lookup h__law_figure = some ⟨oc_f_law_figure, od_f_law_figure, .func (PySem.W.fnOf "_law_figure" "_law_figure" (defArgs s__law_figure) (defBody s__law_figure) (defScope s__law_figure) .none kV_f_law_figure dc_f_law_figure pm_f_law_figure an_f_law_figure cd_f_law_figure ct_f_law_figure), sl_f_law_figure⟩)
    (c_f_law_figure : PySem.W.codeIn K cd_f_law_figure "_law_figure" = true)
    (k_f_law_figure : PySem.W.keepIn K (.ref h__law_figure) = true)
    (a_f_law_words : PySem.W.nsIn K mainGlobals "_law_words" = some (some (.ref h__law_words)))
    (l_f_law_words : K.lookup h__law_words = some ⟨oc_f_law_words, od_f_law_words, .func (PySem.W.fnOf "_law_words" "_law_words" (defArgs s__law_words) (defBody s__law_words) (defScope s__law_words) .none kV_f_law_words dc_f_law_words pm_f_law_words an_f_law_words cd_f_law_words ct_f_law_words), sl_f_law_words⟩)
    (c_f_law_words : PySem.W.codeIn K cd_f_law_words "_law_words" = true)
    (k_f_law_words : PySem.W.keepIn K (.ref h__law_words) = true)
    (a_f_law_plain_words : PySem.W.nsIn K mainGlobals "_law_plain_words" = some (some (.ref h__law_plain_words)))
    (l_f_law_plain_words : K.lookup h__law_plain_words = some ⟨oc_f_law_plain_words, od_f_law_plain_words, .func (PySem.W.fnOf "_law_plain_words" "_law_plain_words" (defArgs s__law_plain_words) (defBody s__law_plain_words) (defScope s__law_plain_words) .none kV_f_law_plain_words dc_f_law_plain_words pm_f_law_plain_words an_f_law_plain_words cd_f_law_plain_words ct_f_law_plain_words), sl_f_law_plain_words⟩)
    (c_f_law_plain_words : PySem.W.codeIn K cd_f_law_plain_words "_law_plain_words" = true)
    (k_f_law_plain_words : PySem.W.keepIn K (.ref h__law_plain_words) = true)
    (a_f_law_name : PySem.W.nsIn K mainGlobals "_law_name" = some (some (.ref h__law_name)))
    (l_f_law_name : K.lookup h__law_name = some ⟨oc_f_law_name, od_f_law_name, .func (PySem.W.fnOf "_law_name" "_law_name" (defArgs s__law_name) (defBody s__law_name) (defScope s__law_name) .none kV_f_law_name dc_f_law_name pm_f_law_name an_f_law_name cd_f_law_name ct_f_law_name), sl_f_law_name⟩)
    (c_f_law_name : PySem.W.codeIn K cd_f_law_name "_law_name" = true)
    (k_f_law_name : PySem.W.keepIn K (.ref h__law_name) = true)
    (a_f_law_pop : PySem.W.nsIn K mainGlobals "_law_pop" = some (some (.ref h__law_pop)))
    (l_f_law_pop : K.lookup h__law_pop = some ⟨oc_f_law_pop, od_f_law_pop, .func (PySem.W.fnOf "_law_pop" "_law_pop" (defArgs s__law_pop) (defBody s__law_pop) (defScope s__law_pop) .none kV_f_law_pop dc_f_law_pop pm_f_law_pop an_f_law_pop cd_f_law_pop ct_f_law_pop), sl_f_law_pop⟩)
    (c_f_law_pop : PySem.W.codeIn K cd_f_law_pop "_law_pop" = true)
    (k_f_law_pop : PySem.W.keepIn K (.ref h__law_pop) = true)
    (a_f_law_short : PySem.W.nsIn K mainGlobals "_law_short" = some (some (.ref h__law_short)))
    (l_f_law_short : K.lookup h__law_short = some ⟨oc_f_law_short, od_f_law_short, .func (PySem.W.fnOf "_law_short" "_law_short" (defArgs s__law_short) (defBody s__law_short) (defScope s__law_short) .none kV_f_law_short dc_f_law_short pm_f_law_short an_f_law_short cd_f_law_short ct_f_law_short), sl_f_law_short⟩)
    (c_f_law_short : PySem.W.codeIn K cd_f_law_short "_law_short" = true)
    (k_f_law_short : PySem.W.keepIn K (.ref h__law_short) = true)
    (a_f_law_item : PySem.W.nsIn K mainGlobals "_law_item" = some (some (.ref h__law_item)))
    (l_f_law_item : K.lookup h__law_item = some ⟨oc_f_law_item, od_f_law_item, .func (PySem.W.fnOf "_law_item" "_law_item" (defArgs s__law_item) (defBody s__law_item) (defScope s__law_item) .none kV_f_law_item dc_f_law_item pm_f_law_item an_f_law_item cd_f_law_item ct_f_law_item), sl_f_law_item⟩)
    (c_f_law_item : PySem.W.codeIn K cd_f_law_item "_law_item" = true)
    (k_f_law_item : PySem.W.keepIn K (.ref h__law_item) = true)
    (a_f_law_holder : PySem.W.nsIn K mainGlobals "_law_holder" = some (some (.ref h__law_holder)))
    (l_f_law_holder : K.lookup h__law_holder = some ⟨oc_f_law_holder, od_f_law_holder, .func (PySem.W.fnOf "_law_holder" "_law_holder" (defArgs s__law_holder) (defBody s__law_holder) (defScope s__law_holder) .none kV_f_law_holder dc_f_law_holder pm_f_law_holder an_f_law_holder cd_f_law_holder ct_f_law_holder), sl_f_law_holder⟩)
    (c_f_law_holder : PySem.W.codeIn K cd_f_law_holder "_law_holder" = true)
    (k_f_law_holder : PySem.W.keepIn K (.ref h__law_holder) = true)
    (a_f_law_inside : PySem.W.nsIn K mainGlobals "_law_inside" = some (some (.ref h__law_inside)))
    (l_f_law_inside : K.lookup h__law_inside = some ⟨oc_f_law_inside, od_f_law_inside, .func (PySem.W.fnOf "_law_inside" "_law_inside" (defArgs s__law_inside) (defBody s__law_inside) (defScope s__law_inside) .none kV_f_law_inside dc_f_law_inside pm_f_law_inside an_f_law_inside cd_f_law_inside ct_f_law_inside), sl_f_law_inside⟩)
    (c_f_law_inside : PySem.W.codeIn K cd_f_law_inside "_law_inside" = true)
    (k_f_law_inside : PySem.W.keepIn K (.ref h__law_inside) = true)
    (a_f_law_any_tree : PySem.W.nsIn K mainGlobals "_law_any_tree" = some (some (.ref h__law_any_tree)))
    (l_f_law_any_tree : K.lookup h__law_any_tree = some ⟨oc_f_law_any_tree, od_f_law_any_tree, .func (PySem.W.fnOf "_law_any_tree" "_law_any_tree" (defArgs s__law_any_tree) (defBody s__law_any_tree) (defScope s__law_any_tree) .none kV_f_law_any_tree dc_f_law_any_tree pm_f_law_any_tree an_f_law_any_tree cd_f_law_any_tree ct_f_law_any_tree), sl_f_law_any_tree⟩)
    (c_f_law_any_tree : PySem.W.codeIn K cd_f_law_any_tree "_law_any_tree" = true)
    (k_f_law_any_tree : PySem.W.keepIn K (.ref h__law_any_tree) = true)
    (a_f_law_rare : PySem.W.nsIn K mainGlobals "_law_rare" = some (some (.ref h__law_rare)))
    (l_f_law_rare : K.lookup h__law_rare = some ⟨oc_f_law_rare, od_f_law_rare, .func (PySem.W.fnOf "_law_rare" "_law_rare" (defArgs s__law_rare) (defBody s__law_rare) (defScope s__law_rare) .none kV_f_law_rare dc_f_law_rare pm_f_law_rare an_f_law_rare cd_f_law_rare ct_f_law_rare), sl_f_law_rare⟩)
    (c_f_law_rare : PySem.W.codeIn K cd_f_law_rare "_law_rare" = true)
    (k_f_law_rare : PySem.W.keepIn K (.ref h__law_rare) = true)
    (a_f_law_tokens : PySem.W.nsIn K mainGlobals "_law_tokens" = some (some (.ref h__law_tokens)))
    (l_f_law_tokens : K.lookup h__law_tokens = some ⟨oc_f_law_tokens, od_f_law_tokens, .func (PySem.W.fnOf "_law_tokens" "_law_tokens" (defArgs s__law_tokens) (defBody s__law_tokens) (defScope s__law_tokens) .none kV_f_law_tokens dc_f_law_tokens pm_f_law_tokens an_f_law_tokens cd_f_law_tokens ct_f_law_tokens), sl_f_law_tokens⟩)
    (c_f_law_tokens : PySem.W.codeIn K cd_f_law_tokens "_law_tokens" = true)
    (k_f_law_tokens : PySem.W.keepIn K (.ref h__law_tokens) = true)
    (a_f_law_all_tokens : PySem.W.nsIn K mainGlobals "_law_all_tokens" = some (some (.ref h__law_all_tokens)))
    (l_f_law_all_tokens : K.lookup h__law_all_tokens = some ⟨oc_f_law_all_tokens, od_f_law_all_tokens, .func (PySem.W.fnOf "_law_all_tokens" "_law_all_tokens" (defArgs s__law_all_tokens) (defBody s__law_all_tokens) (defScope s__law_all_tokens) .none kV_f_law_all_tokens dc_f_law_all_tokens pm_f_law_all_tokens an_f_law_all_tokens cd_f_law_all_tokens ct_f_law_all_tokens), sl_f_law_all_tokens⟩)
    (c_f_law_all_tokens : PySem.W.codeIn K cd_f_law_all_tokens "_law_all_tokens" = true)
    (k_f_law_all_tokens : PySem.W.keepIn K (.ref h__law_all_tokens) = true)
    (a_f_law_filled : PySem.W.nsIn K mainGlobals "_law_filled" = some (some (.ref h__law_filled)))
    (l_f_law_filled : K.lookup h__law_filled = some ⟨oc_f_law_filled, od_f_law_filled, .func (PySem.W.fnOf "_law_filled" "_law_filled" (defArgs s__law_filled) (defBody s__law_filled) (defScope s__law_filled) .none kV_f_law_filled dc_f_law_filled pm_f_law_filled an_f_law_filled cd_f_law_filled ct_f_law_filled), sl_f_law_filled⟩)
    (c_f_law_filled : PySem.W.codeIn K cd_f_law_filled "_law_filled" = true)
    (k_f_law_filled : PySem.W.keepIn K (.ref h__law_filled) = true)
    (a_f_law_clings : PySem.W.nsIn K mainGlobals "_law_clings" = some (some (.ref h__law_clings)))
    (l_f_law_clings : K.lookup h__law_clings = some ⟨oc_f_law_clings, od_f_law_clings, .func (PySem.W.fnOf "_law_clings" "_law_clings" (defArgs s__law_clings) (defBody s__law_clings) (defScope s__law_clings) .none kV_f_law_clings dc_f_law_clings pm_f_law_clings an_f_law_clings cd_f_law_clings ct_f_law_clings), sl_f_law_clings⟩)
    (c_f_law_clings : PySem.W.codeIn K cd_f_law_clings "_law_clings" = true)
    (k_f_law_clings : PySem.W.keepIn K (.ref h__law_clings) = true)
    (a_f_law_pieces : PySem.W.nsIn K mainGlobals "_law_pieces" = some (some (.ref h__law_pieces)))
    (l_f_law_pieces : K.lookup h__law_pieces = some ⟨oc_f_law_pieces, od_f_law_pieces, .func (PySem.W.fnOf "_law_pieces" "_law_pieces" (defArgs s__law_pieces) (defBody s__law_pieces) (defScope s__law_pieces) .none kV_f_law_pieces dc_f_law_pieces pm_f_law_pieces an_f_law_pieces cd_f_law_pieces ct_f_law_pieces), sl_f_law_pieces⟩)
    (c_f_law_pieces : PySem.W.codeIn K cd_f_law_pieces "_law_pieces" = true)
    (k_f_law_pieces : PySem.W.keepIn K (.ref h__law_pieces) = true)
    (a_f_law_row : PySem.W.nsIn K mainGlobals "_law_row" = some (some (.ref h__law_row)))
    (l_f_law_row : K.lookup h__law_row = some ⟨oc_f_law_row, od_f_law_row, .func (PySem.W.fnOf "_law_row" "_law_row" (defArgs s__law_row) (defBody s__law_row) (defScope s__law_row) .none kV_f_law_row dc_f_law_row pm_f_law_row an_f_law_row cd_f_law_row ct_f_law_row), sl_f_law_row⟩)
    (c_f_law_row : PySem.W.codeIn K cd_f_law_row "_law_row" = true)
    (k_f_law_row : PySem.W.keepIn K (.ref h__law_row) = true)
    (a_f_law_is_int : PySem.W.nsIn K mainGlobals "_law_is_int" = some (some (.ref h__law_is_int)))
    (l_f_law_is_int : K.lookup h__law_is_int = some ⟨oc_f_law_is_int, od_f_law_is_int, .func (PySem.W.fnOf "_law_is_int" "_law_is_int" (defArgs s__law_is_int) (defBody s__law_is_int) (defScope s__law_is_int) .none kV_f_law_is_int dc_f_law_is_int pm_f_law_is_int an_f_law_is_int cd_f_law_is_int ct_f_law_is_int), sl_f_law_is_int⟩)
    (c_f_law_is_int : PySem.W.codeIn K cd_f_law_is_int "_law_is_int" = true)
    (k_f_law_is_int : PySem.W.keepIn K (.ref h__law_is_int) = true)
    (a_f_law_same : PySem.W.nsIn K mainGlobals "_law_same" = some (some (.ref h__law_same)))
    (l_f_law_same : K.lookup h__law_same = some ⟨oc_f_law_same, od_f_law_same, .func (PySem.W.fnOf "_law_same" "_law_same" (defArgs s__law_same) (defBody s__law_same) (defScope s__law_same) .none kV_f_law_same dc_f_law_same pm_f_law_same an_f_law_same cd_f_law_same ct_f_law_same), sl_f_law_same⟩)
    (c_f_law_same : PySem.W.codeIn K cd_f_law_same "_law_same" = true)
    (k_f_law_same : PySem.W.keepIn K (.ref h__law_same) = true)
    (a_fTokenReader___init__ : PySem.W.findIn K (.ref E_TokenReader) "__init__" = some (some (.ref h_TokenReader___init__)))
    (i_fTokenReader___init__ : PySem.W.isFn K (.ref h_TokenReader___init__) = true)
    (j_fTokenReader___init__ : PySem.W.makesIn K E_TokenReader = true)
    (kk_fTokenReader___init__ : PySem.W.keepIn K (.ref E_TokenReader) = true)
    (l_fTokenReader___init__ : K.lookup h_TokenReader___init__ = some ⟨oc_fTokenReader___init__, od_fTokenReader___init__, .func (PySem.W.fnOf "__init__" "TokenReader.__init__" (defArgs s_TokenReader___init__) (defBody s_TokenReader___init__) (defScope s_TokenReader___init__) .none kV_fTokenReader___init__ dc_fTokenReader___init__ pm_fTokenReader___init__ an_fTokenReader___init__ cd_fTokenReader___init__ ct_fTokenReader___init__), sl_fTokenReader___init__⟩)
    (c_fTokenReader___init__ : PySem.W.codeIn K cd_fTokenReader___init__ "TokenReader.__init__" = true)
    (k_fTokenReader___init__ : PySem.W.keepIn K (.ref h_TokenReader___init__) = true)
    (a_fTokenReader_peek : PySem.W.findIn K (.ref E_TokenReader) "peek" = some (some (.ref h_TokenReader_peek)))
    (i_fTokenReader_peek : PySem.W.isFn K (.ref h_TokenReader_peek) = true)
    (l_fTokenReader_peek : K.lookup h_TokenReader_peek = some ⟨oc_fTokenReader_peek, od_fTokenReader_peek, .func (PySem.W.fnOf "peek" "TokenReader.peek" (defArgs s_TokenReader_peek) (defBody s_TokenReader_peek) (defScope s_TokenReader_peek) .none kV_fTokenReader_peek dc_fTokenReader_peek pm_fTokenReader_peek an_fTokenReader_peek cd_fTokenReader_peek ct_fTokenReader_peek), sl_fTokenReader_peek⟩)
    (c_fTokenReader_peek : PySem.W.codeIn K cd_fTokenReader_peek "TokenReader.peek" = true)
    (k_fTokenReader_peek : PySem.W.keepIn K (.ref h_TokenReader_peek) = true)
    (a_fTokenReader_fail : PySem.W.findIn K (.ref E_TokenReader) "fail" = some (some (.ref h_TokenReader_fail)))
    (i_fTokenReader_fail : PySem.W.isFn K (.ref h_TokenReader_fail) = true)
    (l_fTokenReader_fail : K.lookup h_TokenReader_fail = some ⟨oc_fTokenReader_fail, od_fTokenReader_fail, .func (PySem.W.fnOf "fail" "TokenReader.fail" (defArgs s_TokenReader_fail) (defBody s_TokenReader_fail) (defScope s_TokenReader_fail) .none kV_fTokenReader_fail dc_fTokenReader_fail pm_fTokenReader_fail an_fTokenReader_fail cd_fTokenReader_fail ct_fTokenReader_fail), sl_fTokenReader_fail⟩)
    (c_fTokenReader_fail : PySem.W.codeIn K cd_fTokenReader_fail "TokenReader.fail" = true)
    (k_fTokenReader_fail : PySem.W.keepIn K (.ref h_TokenReader_fail) = true)
    (a_fTokenReader_skip : PySem.W.findIn K (.ref E_TokenReader) "skip" = some (some (.ref h_TokenReader_skip)))
    (i_fTokenReader_skip : PySem.W.isFn K (.ref h_TokenReader_skip) = true)
    (l_fTokenReader_skip : K.lookup h_TokenReader_skip = some ⟨oc_fTokenReader_skip, od_fTokenReader_skip, .func (PySem.W.fnOf "skip" "TokenReader.skip" (defArgs s_TokenReader_skip) (defBody s_TokenReader_skip) (defScope s_TokenReader_skip) .none kV_fTokenReader_skip dc_fTokenReader_skip pm_fTokenReader_skip an_fTokenReader_skip cd_fTokenReader_skip ct_fTokenReader_skip), sl_fTokenReader_skip⟩)
    (c_fTokenReader_skip : PySem.W.codeIn K cd_fTokenReader_skip "TokenReader.skip" = true)
    (k_fTokenReader_skip : PySem.W.keepIn K (.ref h_TokenReader_skip) = true)
    (a_fTokenReader_peek_kind : PySem.W.findIn K (.ref E_TokenReader) "peek_kind" = some (some (.ref h_TokenReader_peek_kind)))
    (i_fTokenReader_peek_kind : PySem.W.isFn K (.ref h_TokenReader_peek_kind) = true)
    (l_fTokenReader_peek_kind : K.lookup h_TokenReader_peek_kind = some ⟨oc_fTokenReader_peek_kind, od_fTokenReader_peek_kind, .func (PySem.W.fnOf "peek_kind" "TokenReader.peek_kind" (defArgs s_TokenReader_peek_kind) (defBody s_TokenReader_peek_kind) (defScope s_TokenReader_peek_kind) .none kV_fTokenReader_peek_kind dc_fTokenReader_peek_kind pm_fTokenReader_peek_kind an_fTokenReader_peek_kind cd_fTokenReader_peek_kind ct_fTokenReader_peek_kind), sl_fTokenReader_peek_kind⟩)
    (c_fTokenReader_peek_kind : PySem.W.codeIn K cd_fTokenReader_peek_kind "TokenReader.peek_kind" = true)
    (k_fTokenReader_peek_kind : PySem.W.keepIn K (.ref h_TokenReader_peek_kind) = true)
    (a_fTokenReader_read_name : PySem.W.findIn K (.ref E_TokenReader) "read_name" = some (some (.ref h_TokenReader_read_name)))
    (i_fTokenReader_read_name : PySem.W.isFn K (.ref h_TokenReader_read_name) = true)
    (l_fTokenReader_read_name : K.lookup h_TokenReader_read_name = some ⟨oc_fTokenReader_read_name, od_fTokenReader_read_name, .func (PySem.W.fnOf "read_name" "TokenReader.read_name" (defArgs s_TokenReader_read_name) (defBody s_TokenReader_read_name) (defScope s_TokenReader_read_name) .none kV_fTokenReader_read_name dc_fTokenReader_read_name pm_fTokenReader_read_name an_fTokenReader_read_name cd_fTokenReader_read_name ct_fTokenReader_read_name), sl_fTokenReader_read_name⟩)
    (c_fTokenReader_read_name : PySem.W.codeIn K cd_fTokenReader_read_name "TokenReader.read_name" = true)
    (k_fTokenReader_read_name : PySem.W.keepIn K (.ref h_TokenReader_read_name) = true)
    (a_fTokenReader_read_number : PySem.W.findIn K (.ref E_TokenReader) "read_number" = some (some (.ref h_TokenReader_read_number)))
    (i_fTokenReader_read_number : PySem.W.isFn K (.ref h_TokenReader_read_number) = true)
    (l_fTokenReader_read_number : K.lookup h_TokenReader_read_number = some ⟨oc_fTokenReader_read_number, od_fTokenReader_read_number, .func (PySem.W.fnOf "read_number" "TokenReader.read_number" (defArgs s_TokenReader_read_number) (defBody s_TokenReader_read_number) (defScope s_TokenReader_read_number) .none kV_fTokenReader_read_number dc_fTokenReader_read_number pm_fTokenReader_read_number an_fTokenReader_read_number cd_fTokenReader_read_number ct_fTokenReader_read_number), sl_fTokenReader_read_number⟩)
    (c_fTokenReader_read_number : PySem.W.codeIn K cd_fTokenReader_read_number "TokenReader.read_number" = true)
    (k_fTokenReader_read_number : PySem.W.keepIn K (.ref h_TokenReader_read_number) = true)
    (a_fread_mark : PySem.W.nsIn K mainGlobals "read_mark" = some (some (.ref h_read_mark)))
    (l_fread_mark : K.lookup h_read_mark = some ⟨oc_fread_mark, od_fread_mark, .func (PySem.W.fnOf "read_mark" "read_mark" (defArgs s_read_mark) (defBody s_read_mark) (defScope s_read_mark) .none kV_fread_mark dc_fread_mark pm_fread_mark an_fread_mark cd_fread_mark ct_fread_mark), sl_fread_mark⟩)
    (c_fread_mark : PySem.W.codeIn K cd_fread_mark "read_mark" = true)
    (k_fread_mark : PySem.W.keepIn K (.ref h_read_mark) = true)
    (a_fread_num : PySem.W.nsIn K mainGlobals "read_num" = some (some (.ref h_read_num)))
    (l_fread_num : K.lookup h_read_num = some ⟨oc_fread_num, od_fread_num, .func (PySem.W.fnOf "read_num" "read_num" (defArgs s_read_num) (defBody s_read_num) (defScope s_read_num) .none kV_fread_num dc_fread_num pm_fread_num an_fread_num cd_fread_num ct_fread_num), sl_fread_num⟩)
    (c_fread_num : PySem.W.codeIn K cd_fread_num "read_num" = true)
    (k_fread_num : PySem.W.keepIn K (.ref h_read_num) = true)
    (a_fread_told : PySem.W.nsIn K mainGlobals "read_told" = some (some (.ref h_read_told)))
    (l_fread_told : K.lookup h_read_told = some ⟨oc_fread_told, od_fread_told, .func (PySem.W.fnOf "read_told" "read_told" (defArgs s_read_told) (defBody s_read_told) (defScope s_read_told) .none kV_fread_told dc_fread_told pm_fread_told an_fread_told cd_fread_told ct_fread_told), sl_fread_told⟩)
    (c_fread_told : PySem.W.codeIn K cd_fread_told "read_told" = true)
    (k_fread_told : PySem.W.keepIn K (.ref h_read_told) = true)
    (a_fread_sum : PySem.W.nsIn K mainGlobals "read_sum" = some (some (.ref h_read_sum)))
    (l_fread_sum : K.lookup h_read_sum = some ⟨oc_fread_sum, od_fread_sum, .func (PySem.W.fnOf "read_sum" "read_sum" (defArgs s_read_sum) (defBody s_read_sum) (defScope s_read_sum) .none kV_fread_sum dc_fread_sum pm_fread_sum an_fread_sum cd_fread_sum ct_fread_sum), sl_fread_sum⟩)
    (c_fread_sum : PySem.W.codeIn K cd_fread_sum "read_sum" = true)
    (k_fread_sum : PySem.W.keepIn K (.ref h_read_sum) = true)
    (a_fread_plain : PySem.W.nsIn K mainGlobals "read_plain" = some (some (.ref h_read_plain)))
    (l_fread_plain : K.lookup h_read_plain = some ⟨oc_fread_plain, od_fread_plain, .func (PySem.W.fnOf "read_plain" "read_plain" (defArgs s_read_plain) (defBody s_read_plain) (defScope s_read_plain) .none kV_fread_plain dc_fread_plain pm_fread_plain an_fread_plain cd_fread_plain ct_fread_plain), sl_fread_plain⟩)
    (c_fread_plain : PySem.W.codeIn K cd_fread_plain "read_plain" = true)
    (k_fread_plain : PySem.W.keepIn K (.ref h_read_plain) = true)
    (a_fread_block : PySem.W.nsIn K mainGlobals "read_block" = some (some (.ref h_read_block)))
    (l_fread_block : K.lookup h_read_block = some ⟨oc_fread_block, od_fread_block, .func (PySem.W.fnOf "read_block" "read_block" (defArgs s_read_block) (defBody s_read_block) (defScope s_read_block) .none kV_fread_block dc_fread_block pm_fread_block an_fread_block cd_fread_block ct_fread_block), sl_fread_block⟩)
    (c_fread_block : PySem.W.codeIn K cd_fread_block "read_block" = true)
    (k_fread_block : PySem.W.keepIn K (.ref h_read_block) = true)
    (a_fread_item : PySem.W.nsIn K mainGlobals "read_item" = some (some (.ref h_read_item)))
    (l_fread_item : K.lookup h_read_item = some ⟨oc_fread_item, od_fread_item, .func (PySem.W.fnOf "read_item" "read_item" (defArgs s_read_item) (defBody s_read_item) (defScope s_read_item) .none kV_fread_item dc_fread_item pm_fread_item an_fread_item cd_fread_item ct_fread_item), sl_fread_item⟩)
    (c_fread_item : PySem.W.codeIn K cd_fread_item "read_item" = true)
    (k_fread_item : PySem.W.keepIn K (.ref h_read_item) = true)
    (a_fread_holder : PySem.W.nsIn K mainGlobals "read_holder" = some (some (.ref h_read_holder)))
    (l_fread_holder : K.lookup h_read_holder = some ⟨oc_fread_holder, od_fread_holder, .func (PySem.W.fnOf "read_holder" "read_holder" (defArgs s_read_holder) (defBody s_read_holder) (defScope s_read_holder) .none kV_fread_holder dc_fread_holder pm_fread_holder an_fread_holder cd_fread_holder ct_fread_holder), sl_fread_holder⟩)
    (c_fread_holder : PySem.W.codeIn K cd_fread_holder "read_holder" = true)
    (k_fread_holder : PySem.W.keepIn K (.ref h_read_holder) = true)
    (a_fread_pick : PySem.W.nsIn K mainGlobals "read_pick" = some (some (.ref h_read_pick)))
    (l_fread_pick : K.lookup h_read_pick = some ⟨oc_fread_pick, od_fread_pick, .func (PySem.W.fnOf "read_pick" "read_pick" (defArgs s_read_pick) (defBody s_read_pick) (defScope s_read_pick) .none kV_fread_pick dc_fread_pick pm_fread_pick an_fread_pick cd_fread_pick ct_fread_pick), sl_fread_pick⟩)
    (c_fread_pick : PySem.W.codeIn K cd_fread_pick "read_pick" = true)
    (k_fread_pick : PySem.W.keepIn K (.ref h_read_pick) = true)
    (a_frun_end : PySem.W.nsIn K mainGlobals "run_end" = some (some (.ref h_run_end)))
    (l_frun_end : K.lookup h_run_end = some ⟨oc_frun_end, od_frun_end, .func (PySem.W.fnOf "run_end" "run_end" (defArgs s_run_end) (defBody s_run_end) (defScope s_run_end) .none kV_frun_end dc_frun_end pm_frun_end an_frun_end cd_frun_end ct_frun_end), sl_frun_end⟩)
    (c_frun_end : PySem.W.codeIn K cd_frun_end "run_end" = true)
    (k_frun_end : PySem.W.keepIn K (.ref h_run_end) = true)
    (a_fall_in : PySem.W.nsIn K mainGlobals "all_in" = some (some (.ref h_all_in)))
    (l_fall_in : K.lookup h_all_in = some ⟨oc_fall_in, od_fall_in, .func (PySem.W.fnOf "all_in" "all_in" (defArgs s_all_in) (defBody s_all_in) (defScope s_all_in) .none kV_fall_in dc_fall_in pm_fall_in an_fall_in cd_fall_in ct_fall_in), sl_fall_in⟩)
    (c_fall_in : PySem.W.codeIn K cd_fall_in "all_in" = true)
    (k_fall_in : PySem.W.keepIn K (.ref h_all_in) = true)
    (a_fis_name : PySem.W.nsIn K mainGlobals "is_name" = some (some (.ref h_is_name)))
    (l_fis_name : K.lookup h_is_name = some ⟨oc_fis_name, od_fis_name, .func (PySem.W.fnOf "is_name" "is_name" (defArgs s_is_name) (defBody s_is_name) (defScope s_is_name) .none kV_fis_name dc_fis_name pm_fis_name an_fis_name cd_fis_name ct_fis_name), sl_fis_name⟩)
    (c_fis_name : PySem.W.codeIn K cd_fis_name "is_name" = true)
    (k_fis_name : PySem.W.keepIn K (.ref h_is_name) = true)
    (a_fis_number : PySem.W.nsIn K mainGlobals "is_number" = some (some (.ref h_is_number)))
    (l_fis_number : K.lookup h_is_number = some ⟨oc_fis_number, od_fis_number, .func (PySem.W.fnOf "is_number" "is_number" (defArgs s_is_number) (defBody s_is_number) (defScope s_is_number) .none kV_fis_number dc_fis_number pm_fis_number an_fis_number cd_fis_number ct_fis_number), sl_fis_number⟩)
    (c_fis_number : PySem.W.codeIn K cd_fis_number "is_number" = true)
    (k_fis_number : PySem.W.keepIn K (.ref h_is_number) = true)
    (a_frun_token : PySem.W.nsIn K mainGlobals "run_token" = some (some (.ref h_run_token)))
    (l_frun_token : K.lookup h_run_token = some ⟨oc_frun_token, od_frun_token, .func (PySem.W.fnOf "run_token" "run_token" (defArgs s_run_token) (defBody s_run_token) (defScope s_run_token) .none kV_frun_token dc_frun_token pm_frun_token an_frun_token cd_frun_token ct_frun_token), sl_frun_token⟩)
    (c_frun_token : PySem.W.codeIn K cd_frun_token "run_token" = true)
    (k_frun_token : PySem.W.keepIn K (.ref h_run_token) = true)
    (a_ftokens_of : PySem.W.nsIn K mainGlobals "tokens_of" = some (some (.ref h_tokens_of)))
    (l_ftokens_of : K.lookup h_tokens_of = some ⟨oc_ftokens_of, od_ftokens_of, .func (PySem.W.fnOf "tokens_of" "tokens_of" (defArgs s_tokens_of) (defBody s_tokens_of) (defScope s_tokens_of) .none kV_ftokens_of dc_ftokens_of pm_ftokens_of an_ftokens_of cd_ftokens_of ct_ftokens_of), sl_ftokens_of⟩)
    (c_ftokens_of : PySem.W.codeIn K cd_ftokens_of "tokens_of" = true)
    (k_ftokens_of : PySem.W.keepIn K (.ref h_tokens_of) = true)
    (a_fread_format : PySem.W.nsIn K mainGlobals "read_format" = some (some (.ref h_read_format)))
    (l_fread_format : K.lookup h_read_format = some ⟨oc_fread_format, od_fread_format, .func (PySem.W.fnOf "read_format" "read_format" (defArgs s_read_format) (defBody s_read_format) (defScope s_read_format) .none kV_fread_format dc_fread_format pm_fread_format an_fread_format cd_fread_format ct_fread_format), sl_fread_format⟩)
    (c_fread_format : PySem.W.codeIn K cd_fread_format "read_format" = true)
    (k_fread_format : PySem.W.keepIn K (.ref h_read_format) = true)
    (a_f_law_answer : PySem.W.nsIn K mainGlobals "_law_answer" = some (some (.ref h__law_answer)))
    (l_f_law_answer : K.lookup h__law_answer = some ⟨oc_f_law_answer, od_f_law_answer, .func (PySem.W.fnOf "_law_answer" "_law_answer" (defArgs s__law_answer) (defBody s__law_answer) (defScope s__law_answer) .none kV_f_law_answer dc_f_law_answer pm_f_law_answer an_f_law_answer cd_f_law_answer ct_f_law_answer), sl_f_law_answer⟩)
    (c_f_law_answer : PySem.W.codeIn K cd_f_law_answer "_law_answer" = true)
    (k_f_law_answer : PySem.W.keepIn K (.ref h__law_answer) = true)
    (a_flaw : PySem.W.nsIn K mainGlobals "law" = some (some (.ref h_law)))
    (l_flaw : K.lookup h_law = some ⟨oc_flaw, od_flaw, .func (PySem.W.fnOf "law" "law" (defArgs s_law) (defBody s_law) (defScope s_law) .none kV_flaw dc_flaw pm_flaw an_flaw cd_flaw ct_flaw), sl_flaw⟩)
    (c_flaw : PySem.W.codeIn K cd_flaw "law" = true)
    (k_flaw : PySem.W.keepIn K (.ref h_law) = true)
    (z_abs : PySem.W.nsIn K mainGlobals "abs" = some none)
    (z_bool : PySem.W.nsIn K mainGlobals "bool" = some none)
    (z_int : PySem.W.nsIn K mainGlobals "int" = some none)
    (z_isinstance : PySem.W.nsIn K mainGlobals "isinstance" = some none)
    (z_len : PySem.W.nsIn K mainGlobals "len" = some none)
    (z_range : PySem.W.nsIn K mainGlobals "range" = some none)
    (z_str : PySem.W.nsIn K mainGlobals "str" = some none)
    (z_tuple : PySem.W.nsIn K mainGlobals "tuple" = some none) :
    ∃ fd : FuncData, (∀ (s : Shared) (v : Value), BindsTo s fd ⟨[v], []⟩ [("script", v)]) ∧ ∀ base : Heap, K.In base → base.Ns mainGlobals mg → FnOk PySem.Challenge.pw_formatory_k01_texts_read w K mg base (L2.CX PySem.Challenge.pw_formatory_k01_texts_read w) 53 fa fd ["script"] (spF K mg 1 m_law) := by
  have e := hfa.symm.trans (PySem.W.mg_of X G a_flaw)
  cases e
  have zz_abs := PySem.W.mg_none_of X G z_abs
  have zz_bool := PySem.W.mg_none_of X G z_bool
  have zz_int := PySem.W.mg_none_of X G z_int
  have zz_isinstance := PySem.W.mg_none_of X G z_isinstance
  have zz_len := PySem.W.mg_none_of X G z_len
  have zz_range := PySem.W.mg_none_of X G z_range
  have zz_str := PySem.W.mg_none_of X G z_str
  have zz_tuple := PySem.W.mg_none_of X G z_tuple
  have x_BadText : PySem.SXE.SxTxt PySem.Challenge.pw_formatory_k01_texts_read K mg "BadText" E_BadText I_BadText ["at"] := { gC := PySem.W.mg_of X G a_BadText, cls := ⟨_, _, _, _, _, _, _, _, _, _, _, _, _, _, _, x1_BadText, x2_BadText⟩, sa := x3_BadText, ga := x4_BadText, gg := x5_BadText, noF := (fun f hf => by simp only [List.mem_cons, List.not_mem_nil, or_false] at hf; rcases hf with rfl <;> first | exact x6_BadText_at), iC := x7_BadText, tC := x8_BadText, kC := x9_BadText, exC := y1_BadText, veC := y2_BadText, tyC := y3_BadText, hdC := y4_BadText, slf := y5_BadText, opq := o1, sup := y7_BadText, gsup := PySem.W.mg_none_of X G o2, tops := (by decide +kernel), fn := ⟨_, _, _, _, _, _, _, _, _, _, _, _, _, l1_BadText, l2_BadText, ⟨_, _, _, _, _, _, l3_BadText, l4_BadText, l5_BadText⟩, ⟨_, _, _, l6_BadText⟩, rfl, ⟨_, _, _, _, _, _, _, _, [(_, _, _, _)], rfl, rfl, fun _ => rfl⟩, (by decide +kernel), (by decide +kernel), (by decide +kernel), (by decide +kernel), (by decide +kernel), rfl, rfl, rfl, fun s us hl => match us, hl with | [_, _], _ => .of_eq rfl⟩ }
  have tb_FormatError : TabOk K mg (.ref E_FormatError) t_FormatError := tab_cons (PySem.W.mg_of X G a_BadText) (exm_of w1_FormatError w2_FormatError w3_FormatError w4_FormatError_BadText) (tab_nil)
  have tb_BadText : TabOk K mg (.ref E_BadText) t_BadText := tab_cons (PySem.W.mg_of X G a_BadText) (exm_of w1_BadText w2_BadText w3_BadText w4_BadText_BadText) (tab_nil)
  have gl_CAPITALS : GlbT K mg "CAPITALS" (.str "ABCDEFGHIJKLMNOPQRSTUVWXYZ") := glb_of (PySem.W.mg_of X G ag_CAPITALS) cg_CAPITALS
  have gl_DIGITS : GlbT K mg "DIGITS" (.str "0123456789") := glb_of (PySem.W.mg_of X G ag_DIGITS) cg_DIGITS
  have gl_LETTERS : GlbT K mg "LETTERS" (.str "abcdefghijklmnopqrstuvwxyz") := glb_of (PySem.W.mg_of X G ag_LETTERS) cg_LETTERS
  have gl_MOST_BRACES : GlbT K mg "MOST_BRACES" (.int 12) := glb_of (PySem.W.mg_of X G ag_MOST_BRACES) cg_MOST_BRACES
  have gl_RESERVED : GlbT K mg "RESERVED" (.tup [(.str "format"), (.str "base"), (.str "version"), (.str "mark"), (.str "num"), (.str "in"), (.str "size"), (.str "count"), (.str "gap"), (.str "sum"), (.str "roll"), (.str "over"), (.str "by"), (.str "of"), (.str "to"), (.str "pad"), (.str "free"), (.str "rest"), (.str "part"), (.str "maybe"), (.str "many"), (.str "pick"), (.str "case"), (.str "grow"), (.str "since"), (.str "nest"), (.str "inner")]) := glb_of (PySem.W.mg_of X G ag_RESERVED) cg_RESERVED
  have cl_TokenReader : L2.Cls K E_TokenReader := ⟨k1_TokenReader, k2_TokenReader, k3_TokenReader, k4_TokenReader⟩
  have fl_TokenReader_braces : FldT K "TokenReader" "braces" := ⟨E_TokenReader, a_TokenReader, cl_TokenReader, nf_TokenReader_braces⟩
  have fl_TokenReader_place : FldT K "TokenReader" "place" := ⟨E_TokenReader, a_TokenReader, cl_TokenReader, nf_TokenReader_place⟩
  have fl_TokenReader_tokens : FldT K "TokenReader" "tokens" := ⟨E_TokenReader, a_TokenReader, cl_TokenReader, nf_TokenReader_tokens⟩
  have xf_BadText : L2.XfC K E_BadText := ⟨x4_BadText, x5_BadText, y1_BadText, y4_BadText⟩
  have F__law_begin := fun_mk (st := s__law_begin) l_f_law_begin c_f_law_begin k_f_law_begin
  have bb__law_begin := L2.Fun.binds F__law_begin (ps := ["script"]) fun _ _ _ _ _ _ us hl => match us, hl with | [_], _ => rfl
  have F__law_draw := fun_mk (st := s__law_draw) l_f_law_draw c_f_law_draw k_f_law_draw
  have bb__law_draw := L2.Fun.binds F__law_draw (ps := ["d", "many"]) fun _ _ _ _ _ _ us hl => match us, hl with | [_, _], _ => rfl
  have F__law_pick := fun_mk (st := s__law_pick) l_f_law_pick c_f_law_pick k_f_law_pick
  have bb__law_pick := L2.Fun.binds F__law_pick (ps := ["d", "row"]) fun _ _ _ _ _ _ us hl => match us, hl with | [_, _], _ => rfl
  have F__law_kinds := fun_mk (st := s__law_kinds) l_f_law_kinds c_f_law_kinds k_f_law_kinds
  have bb__law_kinds := L2.Fun.binds F__law_kinds (ps := ["room"]) fun _ _ _ _ _ _ us hl => match us, hl with | [_], _ => rfl
  have F__law_figure := fun_mk (st := s__law_figure) l_f_law_figure c_f_law_figure k_f_law_figure
  have bb__law_figure := L2.Fun.binds F__law_figure (ps := ["d"]) fun _ _ _ _ _ _ us hl => match us, hl with | [_], _ => rfl
  have F__law_words := fun_mk (st := s__law_words) l_f_law_words c_f_law_words k_f_law_words
  have bb__law_words := L2.Fun.binds F__law_words (ps := []) fun _ _ _ _ _ _ us hl => match us, hl with | [], _ => rfl
  have F__law_plain_words := fun_mk (st := s__law_plain_words) l_f_law_plain_words c_f_law_plain_words k_f_law_plain_words
  have bb__law_plain_words := L2.Fun.binds F__law_plain_words (ps := []) fun _ _ _ _ _ _ us hl => match us, hl with | [], _ => rfl
  have F__law_name := fun_mk (st := s__law_name) l_f_law_name c_f_law_name k_f_law_name
  have bb__law_name := L2.Fun.binds F__law_name (ps := ["d"]) fun _ _ _ _ _ _ us hl => match us, hl with | [_], _ => rfl
  have F__law_pop := fun_mk (st := s__law_pop) l_f_law_pop c_f_law_pop k_f_law_pop
  have bb__law_pop := L2.Fun.binds F__law_pop (ps := ["d", "row"]) fun _ _ _ _ _ _ us hl => match us, hl with | [_, _], _ => rfl
  have F__law_short := fun_mk (st := s__law_short) l_f_law_short c_f_law_short k_f_law_short
  have bb__law_short := L2.Fun.binds F__law_short (ps := ["d", "kind"]) fun _ _ _ _ _ _ us hl => match us, hl with | [_, _], _ => rfl
  have F__law_item := fun_mk (st := s__law_item) l_f_law_item c_f_law_item k_f_law_item
  have bb__law_item := L2.Fun.binds F__law_item (ps := ["d", "kind", "room", "left"]) fun _ _ _ _ _ _ us hl => match us, hl with | [_, _, _, _], _ => rfl
  have F__law_holder := fun_mk (st := s__law_holder) l_f_law_holder c_f_law_holder k_f_law_holder
  have bb__law_holder := L2.Fun.binds F__law_holder (ps := ["d", "kind", "room", "left"]) fun _ _ _ _ _ _ us hl => match us, hl with | [_, _, _, _], _ => rfl
  have F__law_inside := fun_mk (st := s__law_inside) l_f_law_inside c_f_law_inside k_f_law_inside
  have bb__law_inside := L2.Fun.binds F__law_inside (ps := ["d", "room", "left"]) fun _ _ _ _ _ _ us hl => match us, hl with | [_, _, _], _ => rfl
  have F__law_any_tree := fun_mk (st := s__law_any_tree) l_f_law_any_tree c_f_law_any_tree k_f_law_any_tree
  have bb__law_any_tree := L2.Fun.binds F__law_any_tree (ps := ["d", "most"]) fun _ _ _ _ _ _ us hl => match us, hl with | [_, _], _ => rfl
  have F__law_rare := fun_mk (st := s__law_rare) l_f_law_rare c_f_law_rare k_f_law_rare
  have bb__law_rare := L2.Fun.binds F__law_rare (ps := ["d", "many"]) fun _ _ _ _ _ _ us hl => match us, hl with | [_, _], _ => rfl
  have F__law_tokens := fun_mk (st := s__law_tokens) l_f_law_tokens c_f_law_tokens k_f_law_tokens
  have bb__law_tokens := L2.Fun.binds F__law_tokens (ps := ["items"]) fun _ _ _ _ _ _ us hl => match us, hl with | [_], _ => rfl
  have F__law_all_tokens := fun_mk (st := s__law_all_tokens) l_f_law_all_tokens c_f_law_all_tokens k_f_law_all_tokens
  have bb__law_all_tokens := L2.Fun.binds F__law_all_tokens (ps := ["tree"]) fun _ _ _ _ _ _ us hl => match us, hl with | [_], _ => rfl
  have F__law_filled := fun_mk (st := s__law_filled) l_f_law_filled c_f_law_filled k_f_law_filled
  have bb__law_filled := L2.Fun.binds F__law_filled (ps := ["d", "tree"]) fun _ _ _ _ _ _ us hl => match us, hl with | [_, _], _ => rfl
  have F__law_clings := fun_mk (st := s__law_clings) l_f_law_clings c_f_law_clings k_f_law_clings
  have bb__law_clings := L2.Fun.binds F__law_clings (ps := ["last", "token"]) fun _ _ _ _ _ _ us hl => match us, hl with | [_, _], _ => rfl
  have F__law_pieces := fun_mk (st := s__law_pieces) l_f_law_pieces c_f_law_pieces k_f_law_pieces
  have bb__law_pieces := L2.Fun.binds F__law_pieces (ps := ["d", "tokens"]) fun _ _ _ _ _ _ us hl => match us, hl with | [_, _], _ => rfl
  have F__law_row := fun_mk (st := s__law_row) l_f_law_row c_f_law_row k_f_law_row
  have bb__law_row := L2.Fun.binds F__law_row (ps := ["d", "tree"]) fun _ _ _ _ _ _ us hl => match us, hl with | [_, _], _ => rfl
  have F__law_is_int := fun_mk (st := s__law_is_int) l_f_law_is_int c_f_law_is_int k_f_law_is_int
  have bb__law_is_int := L2.Fun.binds F__law_is_int (ps := ["thing"]) fun _ _ _ _ _ _ us hl => match us, hl with | [_], _ => rfl
  have F__law_same := fun_mk (st := s__law_same) l_f_law_same c_f_law_same k_f_law_same
  have bb__law_same := L2.Fun.binds F__law_same (ps := ["one", "other"]) fun _ _ _ _ _ _ us hl => match us, hl with | [_, _], _ => rfl
  have F_TokenReader___init__ := fun_mk (st := s_TokenReader___init__) l_fTokenReader___init__ c_fTokenReader___init__ k_fTokenReader___init__
  have bb_TokenReader___init__ := L2.Fun.binds F_TokenReader___init__ (ps := ["self", "tokens"]) fun _ _ _ _ _ _ us hl => match us, hl with | [_, _], _ => rfl
  have mk_TokenReader___init__ : Mk K E_TokenReader h_TokenReader___init__ := ⟨j_fTokenReader___init__, a_fTokenReader___init__, i_fTokenReader___init__, kk_fTokenReader___init__⟩
  have F_TokenReader_peek := fun_mk (st := s_TokenReader_peek) l_fTokenReader_peek c_fTokenReader_peek k_fTokenReader_peek
  have bb_TokenReader_peek := L2.Fun.binds F_TokenReader_peek (ps := ["self"]) fun _ _ _ _ _ _ us hl => match us, hl with | [_], _ => rfl
  have mt_TokenReader_peek : Meth K E_TokenReader "peek" h_TokenReader_peek := ⟨a_fTokenReader_peek, i_fTokenReader_peek, k_fTokenReader_peek⟩
  have F_TokenReader_fail := fun_mk (st := s_TokenReader_fail) l_fTokenReader_fail c_fTokenReader_fail k_fTokenReader_fail
  have bb_TokenReader_fail := L2.Fun.binds F_TokenReader_fail (ps := ["self"]) fun _ _ _ _ _ _ us hl => match us, hl with | [_], _ => rfl
  have mt_TokenReader_fail : Meth K E_TokenReader "fail" h_TokenReader_fail := ⟨a_fTokenReader_fail, i_fTokenReader_fail, k_fTokenReader_fail⟩
  have F_TokenReader_skip := fun_mk (st := s_TokenReader_skip) l_fTokenReader_skip c_fTokenReader_skip k_fTokenReader_skip
  have bb_TokenReader_skip := L2.Fun.binds F_TokenReader_skip (ps := ["self", "word"]) fun _ _ _ _ _ _ us hl => match us, hl with | [_, _], _ => rfl
  have mt_TokenReader_skip : Meth K E_TokenReader "skip" h_TokenReader_skip := ⟨a_fTokenReader_skip, i_fTokenReader_skip, k_fTokenReader_skip⟩
  have F_TokenReader_peek_kind := fun_mk (st := s_TokenReader_peek_kind) l_fTokenReader_peek_kind c_fTokenReader_peek_kind k_fTokenReader_peek_kind
  have bb_TokenReader_peek_kind := L2.Fun.binds F_TokenReader_peek_kind (ps := ["self"]) fun _ _ _ _ _ _ us hl => match us, hl with | [_], _ => rfl
  have mt_TokenReader_peek_kind : Meth K E_TokenReader "peek_kind" h_TokenReader_peek_kind := ⟨a_fTokenReader_peek_kind, i_fTokenReader_peek_kind, k_fTokenReader_peek_kind⟩
  have F_TokenReader_read_name := fun_mk (st := s_TokenReader_read_name) l_fTokenReader_read_name c_fTokenReader_read_name k_fTokenReader_read_name
  have bb_TokenReader_read_name := L2.Fun.binds F_TokenReader_read_name (ps := ["self"]) fun _ _ _ _ _ _ us hl => match us, hl with | [_], _ => rfl
  have mt_TokenReader_read_name : Meth K E_TokenReader "read_name" h_TokenReader_read_name := ⟨a_fTokenReader_read_name, i_fTokenReader_read_name, k_fTokenReader_read_name⟩
  have F_TokenReader_read_number := fun_mk (st := s_TokenReader_read_number) l_fTokenReader_read_number c_fTokenReader_read_number k_fTokenReader_read_number
  have bb_TokenReader_read_number := L2.Fun.binds F_TokenReader_read_number (ps := ["self"]) fun _ _ _ _ _ _ us hl => match us, hl with | [_], _ => rfl
  have mt_TokenReader_read_number : Meth K E_TokenReader "read_number" h_TokenReader_read_number := ⟨a_fTokenReader_read_number, i_fTokenReader_read_number, k_fTokenReader_read_number⟩
  have F_read_mark := fun_mk (st := s_read_mark) l_fread_mark c_fread_mark k_fread_mark
  have bb_read_mark := L2.Fun.binds F_read_mark (ps := ["reader"]) fun _ _ _ _ _ _ us hl => match us, hl with | [_], _ => rfl
  have F_read_num := fun_mk (st := s_read_num) l_fread_num c_fread_num k_fread_num
  have bb_read_num := L2.Fun.binds F_read_num (ps := ["reader"]) fun _ _ _ _ _ _ us hl => match us, hl with | [_], _ => rfl
  have F_read_told := fun_mk (st := s_read_told) l_fread_told c_fread_told k_fread_told
  have bb_read_told := L2.Fun.binds F_read_told (ps := ["reader", "kind", "link"]) fun _ _ _ _ _ _ us hl => match us, hl with | [_, _, _], _ => rfl
  have F_read_sum := fun_mk (st := s_read_sum) l_fread_sum c_fread_sum k_fread_sum
  have bb_read_sum := L2.Fun.binds F_read_sum (ps := ["reader", "kind"]) fun _ _ _ _ _ _ us hl => match us, hl with | [_, _], _ => rfl
  have F_read_plain := fun_mk (st := s_read_plain) l_fread_plain c_fread_plain k_fread_plain
  have bb_read_plain := L2.Fun.binds F_read_plain (ps := ["reader", "kind"]) fun _ _ _ _ _ _ us hl => match us, hl with | [_, _], _ => rfl
  have F_read_block := fun_mk (st := s_read_block) l_fread_block c_fread_block k_fread_block
  have bb_read_block := L2.Fun.binds F_read_block (ps := ["reader"]) fun _ _ _ _ _ _ us hl => match us, hl with | [_], _ => rfl
  have F_read_item := fun_mk (st := s_read_item) l_fread_item c_fread_item k_fread_item
  have bb_read_item := L2.Fun.binds F_read_item (ps := ["reader"]) fun _ _ _ _ _ _ us hl => match us, hl with | [_], _ => rfl
  have F_read_holder := fun_mk (st := s_read_holder) l_fread_holder c_fread_holder k_fread_holder
  have bb_read_holder := L2.Fun.binds F_read_holder (ps := ["reader", "kind"]) fun _ _ _ _ _ _ us hl => match us, hl with | [_, _], _ => rfl
  have F_read_pick := fun_mk (st := s_read_pick) l_fread_pick c_fread_pick k_fread_pick
  have bb_read_pick := L2.Fun.binds F_read_pick (ps := ["reader"]) fun _ _ _ _ _ _ us hl => match us, hl with | [_], _ => rfl
  have F_run_end := fun_mk (st := s_run_end) l_frun_end c_frun_end k_frun_end
  have bb_run_end := L2.Fun.binds F_run_end (ps := ["text", "at"]) fun _ _ _ _ _ _ us hl => match us, hl with | [_, _], _ => rfl
  have F_all_in := fun_mk (st := s_all_in) l_fall_in c_fall_in k_fall_in
  have bb_all_in := L2.Fun.binds F_all_in (ps := ["run", "signs"]) fun _ _ _ _ _ _ us hl => match us, hl with | [_, _], _ => rfl
  have F_is_name := fun_mk (st := s_is_name) l_fis_name c_fis_name k_fis_name
  have bb_is_name := L2.Fun.binds F_is_name (ps := ["run"]) fun _ _ _ _ _ _ us hl => match us, hl with | [_], _ => rfl
  have F_is_number := fun_mk (st := s_is_number) l_fis_number c_fis_number k_fis_number
  have bb_is_number := L2.Fun.binds F_is_number (ps := ["run"]) fun _ _ _ _ _ _ us hl => match us, hl with | [_], _ => rfl
  have F_run_token := fun_mk (st := s_run_token) l_frun_token c_frun_token k_frun_token
  have bb_run_token := L2.Fun.binds F_run_token (ps := ["run"]) fun _ _ _ _ _ _ us hl => match us, hl with | [_], _ => rfl
  have F_tokens_of := fun_mk (st := s_tokens_of) l_ftokens_of c_ftokens_of k_ftokens_of
  have bb_tokens_of := L2.Fun.binds F_tokens_of (ps := ["text"]) fun _ _ _ _ _ _ us hl => match us, hl with | [_], _ => rfl
  have F_read_format := fun_mk (st := s_read_format) l_fread_format c_fread_format k_fread_format
  have bb_read_format := L2.Fun.binds F_read_format (ps := ["text"]) fun _ _ _ _ _ _ us hl => match us, hl with | [_], _ => rfl
  have F__law_answer := fun_mk (st := s__law_answer) l_f_law_answer c_f_law_answer k_f_law_answer
  have bb__law_answer := L2.Fun.binds F__law_answer (ps := ["text"]) fun _ _ _ _ _ _ us hl => match us, hl with | [_], _ => rfl
  have F_law := fun_mk (st := s_law) l_flaw c_flaw k_flaw
  have bb_law := L2.Fun.binds F_law (ps := ["script"]) fun _ _ _ _ _ _ us hl => match us, hl with | [_], _ => rfl
  have c__law_begin : ∀ base : Heap, Cal PySem.Challenge.pw_formatory_k01_texts_read w K mg base "_law_begin" 2 1 m__law_begin := fun base => ok__law_begin F__law_begin (PySem.W.mg_of X G a_f_law_begin) bb__law_begin zz_int
  have c__law_draw : ∀ base : Heap, Cal PySem.Challenge.pw_formatory_k01_texts_read w K mg base "_law_draw" 2 2 m__law_draw := fun base => ok__law_draw F__law_draw (PySem.W.mg_of X G a_f_law_draw) bb__law_draw zz_abs zz_int zz_len
  have c__law_pick : ∀ base : Heap, Cal PySem.Challenge.pw_formatory_k01_texts_read w K mg base "_law_pick" 3 2 m__law_pick := fun base => ok__law_pick F__law_pick (PySem.W.mg_of X G a_f_law_pick) bb__law_pick (c__law_draw base) zz_len
  have c__law_kinds : ∀ base : Heap, Cal PySem.Challenge.pw_formatory_k01_texts_read w K mg base "_law_kinds" 2 1 m__law_kinds := fun base => ok__law_kinds F__law_kinds (PySem.W.mg_of X G a_f_law_kinds) bb__law_kinds 
  have c__law_figure : ∀ base : Heap, Cal PySem.Challenge.pw_formatory_k01_texts_read w K mg base "_law_figure" 4 1 m__law_figure := fun base => ok__law_figure F__law_figure (PySem.W.mg_of X G a_f_law_figure) bb__law_figure (c__law_draw base) (c__law_pick base)
  have c__law_words : ∀ base : Heap, Cal PySem.Challenge.pw_formatory_k01_texts_read w K mg base "_law_words" 2 0 m__law_words := fun base => ok__law_words F__law_words (PySem.W.mg_of X G a_f_law_words) bb__law_words 
  have c__law_plain_words : ∀ base : Heap, Cal PySem.Challenge.pw_formatory_k01_texts_read w K mg base "_law_plain_words" 2 0 m__law_plain_words := fun base => ok__law_plain_words F__law_plain_words (PySem.W.mg_of X G a_f_law_plain_words) bb__law_plain_words 
  have c__law_name : ∀ base : Heap, Cal PySem.Challenge.pw_formatory_k01_texts_read w K mg base "_law_name" 4 1 m__law_name := fun base => ok__law_name F__law_name (PySem.W.mg_of X G a_f_law_name) bb__law_name (c__law_draw base) (c__law_pick base) (c__law_words base) (c__law_plain_words base) zz_range
  have c__law_pop : ∀ base : Heap, Cal PySem.Challenge.pw_formatory_k01_texts_read w K mg base "_law_pop" 3 2 m__law_pop := fun base => ok__law_pop F__law_pop (PySem.W.mg_of X G a_f_law_pop) bb__law_pop (c__law_draw base) zz_len
  have c__law_short : ∀ base : Heap, Cal PySem.Challenge.pw_formatory_k01_texts_read w K mg base "_law_short" 5 2 m__law_short := fun base => ok__law_short F__law_short (PySem.W.mg_of X G a_f_law_short) bb__law_short (c__law_pick base) (c__law_figure base) (c__law_name base) (c__law_draw base) zz_range zz_tuple
  have c__law_item : ∀ base : Heap, Cal PySem.Challenge.pw_formatory_k01_texts_read w K mg base "_law_item" 46 4 (m__law_item 40) := fun base => (ok__law_item F__law_item (PySem.W.mg_of X G a_f_law_item) bb__law_item F__law_holder (PySem.W.mg_of X G a_f_law_holder) bb__law_holder F__law_inside (PySem.W.mg_of X G a_f_law_inside) bb__law_inside (c__law_short base) (c__law_figure base) (c__law_name base) (c__law_draw base) (c__law_pick base) (c__law_kinds base) zz_range zz_tuple 40).1
  have c__law_holder : ∀ base : Heap, Cal PySem.Challenge.pw_formatory_k01_texts_read w K mg base "_law_holder" 46 4 (m__law_holder 40) := fun base => (ok__law_item F__law_item (PySem.W.mg_of X G a_f_law_item) bb__law_item F__law_holder (PySem.W.mg_of X G a_f_law_holder) bb__law_holder F__law_inside (PySem.W.mg_of X G a_f_law_inside) bb__law_inside (c__law_short base) (c__law_figure base) (c__law_name base) (c__law_draw base) (c__law_pick base) (c__law_kinds base) zz_range zz_tuple 40).2.1
  have c__law_inside : ∀ base : Heap, Cal PySem.Challenge.pw_formatory_k01_texts_read w K mg base "_law_inside" 46 3 (m__law_inside 40) := fun base => (ok__law_item F__law_item (PySem.W.mg_of X G a_f_law_item) bb__law_item F__law_holder (PySem.W.mg_of X G a_f_law_holder) bb__law_holder F__law_inside (PySem.W.mg_of X G a_f_law_inside) bb__law_inside (c__law_short base) (c__law_figure base) (c__law_name base) (c__law_draw base) (c__law_pick base) (c__law_kinds base) zz_range zz_tuple 40).2.2
  have c__law_any_tree : ∀ base : Heap, Cal PySem.Challenge.pw_formatory_k01_texts_read w K mg base "_law_any_tree" 47 2 m__law_any_tree := fun base => ok__law_any_tree F__law_any_tree (PySem.W.mg_of X G a_f_law_any_tree) bb__law_any_tree (c__law_pick base) (c__law_kinds base) (c__law_draw base) (c__law_pop base) (c__law_item base) (c__law_figure base) (c__law_name base) zz_len zz_range zz_tuple
  have c__law_rare : ∀ base : Heap, Cal PySem.Challenge.pw_formatory_k01_texts_read w K mg base "_law_rare" 3 2 m__law_rare := fun base => ok__law_rare F__law_rare (PySem.W.mg_of X G a_f_law_rare) bb__law_rare (c__law_draw base)
  have c__law_tokens : ∀ base : Heap, Cal PySem.Challenge.pw_formatory_k01_texts_read w K mg base "_law_tokens" 22 1 (m__law_tokens 20) := fun base => (ok__law_tokens F__law_tokens (PySem.W.mg_of X G a_f_law_tokens) bb__law_tokens zz_str 20)
  have c__law_all_tokens : ∀ base : Heap, Cal PySem.Challenge.pw_formatory_k01_texts_read w K mg base "_law_all_tokens" 23 1 m__law_all_tokens := fun base => ok__law_all_tokens F__law_all_tokens (PySem.W.mg_of X G a_f_law_all_tokens) bb__law_all_tokens (c__law_tokens base) zz_str
  have c__law_filled : ∀ base : Heap, Cal PySem.Challenge.pw_formatory_k01_texts_read w K mg base "_law_filled" 24 2 m__law_filled := fun base => ok__law_filled F__law_filled (PySem.W.mg_of X G a_f_law_filled) bb__law_filled (c__law_all_tokens base) (c__law_draw base) (c__law_figure base) (c__law_name base) zz_int zz_len zz_range zz_str zz_tuple
  have c__law_clings : ∀ base : Heap, Cal PySem.Challenge.pw_formatory_k01_texts_read w K mg base "_law_clings" 2 2 m__law_clings := fun base => ok__law_clings F__law_clings (PySem.W.mg_of X G a_f_law_clings) bb__law_clings 
  have c__law_pieces : ∀ base : Heap, Cal PySem.Challenge.pw_formatory_k01_texts_read w K mg base "_law_pieces" 4 2 m__law_pieces := fun base => ok__law_pieces F__law_pieces (PySem.W.mg_of X G a_f_law_pieces) bb__law_pieces (c__law_pick base) (c__law_draw base) (c__law_clings base)
  have c__law_row : ∀ base : Heap, Cal PySem.Challenge.pw_formatory_k01_texts_read w K mg base "_law_row" 24 2 m__law_row := fun base => ok__law_row F__law_row (PySem.W.mg_of X G a_f_law_row) bb__law_row (c__law_all_tokens base) (c__law_draw base)
  have c__law_is_int : ∀ base : Heap, Cal PySem.Challenge.pw_formatory_k01_texts_read w K mg base "_law_is_int" 2 1 m__law_is_int := fun base => ok__law_is_int F__law_is_int (PySem.W.mg_of X G a_f_law_is_int) bb__law_is_int zz_bool zz_int zz_isinstance
  have c__law_same : ∀ base : Heap, Cal PySem.Challenge.pw_formatory_k01_texts_read w K mg base "_law_same" 43 2 (m__law_same 40) := fun base => (ok__law_same F__law_same (PySem.W.mg_of X G a_f_law_same) bb__law_same (c__law_is_int base) zz_bool zz_isinstance zz_len zz_range zz_str zz_tuple 40)
  have c_TokenReader___init__ : ∀ base : Heap, CalI PySem.Challenge.pw_formatory_k01_texts_read w K mg base "TokenReader" 2 1 m_TokenReader___init__ := fun base => ok_TokenReader___init__ a_TokenReader (PySem.W.mg_of X G a_TokenReader) F_TokenReader___init__ mk_TokenReader___init__ bb_TokenReader___init__ fl_TokenReader_braces fl_TokenReader_place fl_TokenReader_tokens
  have c_TokenReader_peek : ∀ base : Heap, CalM PySem.Challenge.pw_formatory_k01_texts_read w K mg base "TokenReader" "peek" 2 0 m_TokenReader_peek := fun base => ok_TokenReader_peek a_TokenReader cl_TokenReader F_TokenReader_peek mt_TokenReader_peek bb_TokenReader_peek zz_len fl_TokenReader_place fl_TokenReader_tokens
  have c_TokenReader_fail : ∀ base : Heap, CalM PySem.Challenge.pw_formatory_k01_texts_read w K mg base "TokenReader" "fail" 2 0 m_TokenReader_fail := fun base => ok_TokenReader_fail a_TokenReader cl_TokenReader F_TokenReader_fail mt_TokenReader_fail bb_TokenReader_fail fl_TokenReader_place x_BadText
  have c_TokenReader_skip : ∀ base : Heap, CalM PySem.Challenge.pw_formatory_k01_texts_read w K mg base "TokenReader" "skip" 3 1 m_TokenReader_skip := fun base => ok_TokenReader_skip a_TokenReader cl_TokenReader F_TokenReader_skip mt_TokenReader_skip bb_TokenReader_skip (c_TokenReader_peek base) (c_TokenReader_fail base) fl_TokenReader_braces fl_TokenReader_place
  have c_TokenReader_peek_kind : ∀ base : Heap, CalM PySem.Challenge.pw_formatory_k01_texts_read w K mg base "TokenReader" "peek_kind" 2 0 m_TokenReader_peek_kind := fun base => ok_TokenReader_peek_kind a_TokenReader cl_TokenReader F_TokenReader_peek_kind mt_TokenReader_peek_kind bb_TokenReader_peek_kind zz_len fl_TokenReader_place fl_TokenReader_tokens
  have c_TokenReader_read_name : ∀ base : Heap, CalM PySem.Challenge.pw_formatory_k01_texts_read w K mg base "TokenReader" "read_name" 3 0 m_TokenReader_read_name := fun base => ok_TokenReader_read_name a_TokenReader cl_TokenReader F_TokenReader_read_name mt_TokenReader_read_name bb_TokenReader_read_name (c_TokenReader_peek_kind base) (c_TokenReader_fail base) fl_TokenReader_place fl_TokenReader_tokens
  have c_TokenReader_read_number : ∀ base : Heap, CalM PySem.Challenge.pw_formatory_k01_texts_read w K mg base "TokenReader" "read_number" 3 0 m_TokenReader_read_number := fun base => ok_TokenReader_read_number a_TokenReader cl_TokenReader F_TokenReader_read_number mt_TokenReader_read_number bb_TokenReader_read_number (c_TokenReader_peek_kind base) (c_TokenReader_fail base) zz_int fl_TokenReader_place fl_TokenReader_tokens
  have c_read_mark : ∀ base : Heap, Cal PySem.Challenge.pw_formatory_k01_texts_read w K mg base "read_mark" 4 1 m_read_mark := fun base => ok_read_mark F_read_mark (PySem.W.mg_of X G a_fread_mark) bb_read_mark (c_TokenReader_skip base) (c_TokenReader_read_number base) (c_TokenReader_peek_kind base) zz_tuple
  have c_read_num : ∀ base : Heap, Cal PySem.Challenge.pw_formatory_k01_texts_read w K mg base "read_num" 4 1 m_read_num := fun base => ok_read_num F_read_num (PySem.W.mg_of X G a_fread_num) bb_read_num (c_TokenReader_skip base) (c_TokenReader_read_name base) (c_TokenReader_read_number base) (c_TokenReader_peek base)
  have c_read_told : ∀ base : Heap, Cal PySem.Challenge.pw_formatory_k01_texts_read w K mg base "read_told" 4 3 m_read_told := fun base => ok_read_told F_read_told (PySem.W.mg_of X G a_fread_told) bb_read_told (c_TokenReader_skip base) (c_TokenReader_read_name base) (c_TokenReader_read_number base)
  have c_read_sum : ∀ base : Heap, Cal PySem.Challenge.pw_formatory_k01_texts_read w K mg base "read_sum" 4 2 m_read_sum := fun base => ok_read_sum F_read_sum (PySem.W.mg_of X G a_fread_sum) bb_read_sum (c_TokenReader_skip base) (c_TokenReader_read_number base) (c_TokenReader_read_name base) zz_tuple
  have c_read_plain : ∀ base : Heap, Cal PySem.Challenge.pw_formatory_k01_texts_read w K mg base "read_plain" 4 2 m_read_plain := fun base => ok_read_plain F_read_plain (PySem.W.mg_of X G a_fread_plain) bb_read_plain (c_TokenReader_skip base) (c_TokenReader_read_name base) (c_TokenReader_read_number base)
  have c_read_block : ∀ base : Heap, Cal PySem.Challenge.pw_formatory_k01_texts_read w K mg base "read_block" 50 1 (m_read_block 45) := fun base => (ok_read_block F_read_block (PySem.W.mg_of X G a_fread_block) bb_read_block F_read_item (PySem.W.mg_of X G a_fread_item) bb_read_item F_read_holder (PySem.W.mg_of X G a_fread_holder) bb_read_holder F_read_pick (PySem.W.mg_of X G a_fread_pick) bb_read_pick (c_TokenReader_skip base) (c_TokenReader_peek base) (c_read_mark base) (c_read_num base) (c_read_told base) (c_read_sum base) (c_read_plain base) (c_TokenReader_read_number base) (c_TokenReader_read_name base) zz_tuple gl_MOST_BRACES fl_TokenReader_braces fl_TokenReader_place x_BadText 45).1
  have c_read_item : ∀ base : Heap, Cal PySem.Challenge.pw_formatory_k01_texts_read w K mg base "read_item" 50 1 (m_read_item 45) := fun base => (ok_read_block F_read_block (PySem.W.mg_of X G a_fread_block) bb_read_block F_read_item (PySem.W.mg_of X G a_fread_item) bb_read_item F_read_holder (PySem.W.mg_of X G a_fread_holder) bb_read_holder F_read_pick (PySem.W.mg_of X G a_fread_pick) bb_read_pick (c_TokenReader_skip base) (c_TokenReader_peek base) (c_read_mark base) (c_read_num base) (c_read_told base) (c_read_sum base) (c_read_plain base) (c_TokenReader_read_number base) (c_TokenReader_read_name base) zz_tuple gl_MOST_BRACES fl_TokenReader_braces fl_TokenReader_place x_BadText 45).2.1
  have c_read_holder : ∀ base : Heap, Cal PySem.Challenge.pw_formatory_k01_texts_read w K mg base "read_holder" 50 2 (m_read_holder 45) := fun base => (ok_read_block F_read_block (PySem.W.mg_of X G a_fread_block) bb_read_block F_read_item (PySem.W.mg_of X G a_fread_item) bb_read_item F_read_holder (PySem.W.mg_of X G a_fread_holder) bb_read_holder F_read_pick (PySem.W.mg_of X G a_fread_pick) bb_read_pick (c_TokenReader_skip base) (c_TokenReader_peek base) (c_read_mark base) (c_read_num base) (c_read_told base) (c_read_sum base) (c_read_plain base) (c_TokenReader_read_number base) (c_TokenReader_read_name base) zz_tuple gl_MOST_BRACES fl_TokenReader_braces fl_TokenReader_place x_BadText 45).2.2.1
  have c_read_pick : ∀ base : Heap, Cal PySem.Challenge.pw_formatory_k01_texts_read w K mg base "read_pick" 50 1 (m_read_pick 45) := fun base => (ok_read_block F_read_block (PySem.W.mg_of X G a_fread_block) bb_read_block F_read_item (PySem.W.mg_of X G a_fread_item) bb_read_item F_read_holder (PySem.W.mg_of X G a_fread_holder) bb_read_holder F_read_pick (PySem.W.mg_of X G a_fread_pick) bb_read_pick (c_TokenReader_skip base) (c_TokenReader_peek base) (c_read_mark base) (c_read_num base) (c_read_told base) (c_read_sum base) (c_read_plain base) (c_TokenReader_read_number base) (c_TokenReader_read_name base) zz_tuple gl_MOST_BRACES fl_TokenReader_braces fl_TokenReader_place x_BadText 45).2.2.2
  have c_run_end : ∀ base : Heap, Cal PySem.Challenge.pw_formatory_k01_texts_read w K mg base "run_end" 2 2 m_run_end := fun base => ok_run_end F_run_end (PySem.W.mg_of X G a_frun_end) bb_run_end zz_len gl_CAPITALS gl_DIGITS gl_LETTERS
  have c_all_in : ∀ base : Heap, Cal PySem.Challenge.pw_formatory_k01_texts_read w K mg base "all_in" 2 2 m_all_in := fun base => ok_all_in F_all_in (PySem.W.mg_of X G a_fall_in) bb_all_in 
  have c_is_name : ∀ base : Heap, Cal PySem.Challenge.pw_formatory_k01_texts_read w K mg base "is_name" 3 1 m_is_name := fun base => ok_is_name F_is_name (PySem.W.mg_of X G a_fis_name) bb_is_name (c_all_in base) zz_len gl_DIGITS gl_LETTERS
  have c_is_number : ∀ base : Heap, Cal PySem.Challenge.pw_formatory_k01_texts_read w K mg base "is_number" 3 1 m_is_number := fun base => ok_is_number F_is_number (PySem.W.mg_of X G a_fis_number) bb_is_number (c_all_in base) zz_len gl_DIGITS
  have c_run_token : ∀ base : Heap, Cal PySem.Challenge.pw_formatory_k01_texts_read w K mg base "run_token" 4 1 m_run_token := fun base => ok_run_token F_run_token (PySem.W.mg_of X G a_frun_token) bb_run_token (c_is_name base) (c_is_number base) gl_RESERVED
  have c_tokens_of : ∀ base : Heap, Cal PySem.Challenge.pw_formatory_k01_texts_read w K mg base "tokens_of" 5 1 m_tokens_of := fun base => ok_tokens_of F_tokens_of (PySem.W.mg_of X G a_ftokens_of) bb_tokens_of (c_run_end base) (c_run_token base) zz_len
  have c_read_format : ∀ base : Heap, Cal PySem.Challenge.pw_formatory_k01_texts_read w K mg base "read_format" 51 1 m_read_format := fun base => ok_read_format F_read_format (PySem.W.mg_of X G a_fread_format) bb_read_format (c_TokenReader___init__ base) (c_tokens_of base) (c_TokenReader_skip base) (c_TokenReader_read_name base) (c_TokenReader_read_number base) (c_TokenReader_peek base) (c_read_block base) zz_len fl_TokenReader_place fl_TokenReader_tokens x_BadText
  have c__law_answer : ∀ base : Heap, Cal PySem.Challenge.pw_formatory_k01_texts_read w K mg base "_law_answer" 52 1 m__law_answer := fun base => ok__law_answer F__law_answer (PySem.W.mg_of X G a_f_law_answer) bb__law_answer (c_read_format base) (PySem.W.mg_of X G a_FormatError) tb_FormatError (PySem.W.mg_of X G a_BadText) tb_BadText (PySem.W.mg_of X G a_BadText) xf_BadText x6_BadText_at
  refine ⟨_, fun s v => .of_eq ?_, fun base _ _ => ok_law F_law (c__law_begin base) (c__law_any_tree base) (c__law_rare base) (c__law_filled base) (c__law_pieces base) (c__law_row base) (c__law_pick base) (c__law_same base) (c__law_answer base)⟩
  rfl
theorem walk {q : Program} {loose : List Str} {XP : (Str → Option Value) → Heap → Prop} {YP : World → Heap → Prop} {d : DefRec} {K : Params → PySem.W.Frag} (hdf : d.params.defaults = [])
    (hY : ∀ (w : World) (h : Heap), YP w h → (K w.params).In h)
    (F : ∀ (w : World) (mg : Str → Option Value) (fa : Addr) (h : Heap), (K w.params).In h → h.Ns mainGlobals mg → mg d.name = some (.ref fa) →
      ∃ fd : FuncData, (∀ (s : Shared) (u : Value), BindsTo s fd ⟨[u], []⟩ [("script", u)]) ∧ ∀ base : Heap, (K w.params).In base → base.Ns mainGlobals mg → FnOk PySem.Challenge.pw_formatory_k01_texts_read w (K w.params) mg base (L2.CX PySem.Challenge.pw_formatory_k01_texts_read w) 53 fa fd ["script"] (spF (K w.params) mg 1 m_law)) :
    PySem.W.WalkO q loose XP YP PySem.Challenge.rw_formatory_k01_texts_read.row.toRowW d [] (fun f vs => PySem.call f vs) :=
  law_walk (l := PySem.Challenge.rw_formatory_k01_texts_read) rfl hdf ⟨rfl, by decide, by decide⟩ hY F law_true

end K01

open PySem PySem.W PyProof.Rows in
set_option maxRecDepth 100000 in
set_option maxHeartbeats 0 in
theorem PySem.Challenge.cw_formatory_k01_texts_read_holds : PySem.Challenge.rw_formatory_k01_texts_read.Holds := by
  w_on; o_law; k_head; (case hw => w_witness2)
  k_fill
  refine K01.walk rfl (fun w h Y => PySem.W.kIn_of Y) ?F
  case F =>
    intro w mg fa h KX G hmg
    refine' K01.all_ok KX G hmg ?a_FormatError ?a_BadText ?x1_BadText ?x2_BadText ?x3_BadText ?x4_BadText ?x5_BadText ?x6_BadText_at ?x7_BadText ?x8_BadText ?x9_BadText ?y1_BadText ?y2_BadText ?y3_BadText ?y4_BadText ?y5_BadText ?y7_BadText ?l1_BadText ?l2_BadText ?l3_BadText ?l4_BadText ?l5_BadText ?l6_BadText ?o1 ?o2 ?w1_FormatError ?w2_FormatError ?w3_FormatError ?w4_FormatError_BadText ?w1_BadText ?w2_BadText ?w3_BadText ?w4_BadText_BadText ?a_TokenReader ?k1_TokenReader ?k2_TokenReader ?k3_TokenReader ?k4_TokenReader ?nf_TokenReader_braces ?nf_TokenReader_place ?nf_TokenReader_tokens ?ag_CAPITALS ?cg_CAPITALS ?ag_DIGITS ?cg_DIGITS ?ag_LETTERS ?cg_LETTERS ?ag_MOST_BRACES ?cg_MOST_BRACES ?ag_RESERVED ?cg_RESERVED ?a_f_law_begin ?l_f_law_begin ?c_f_law_begin ?k_f_law_begin ?a_f_law_draw ?l_f_law_draw ?c_f_law_draw ?k_f_law_draw ?a_f_law_pick ?l_f_law_pick ?c_f_law_pick ?k_f_law_pick ?a_f_law_kinds ?l_f_law_kinds ?c_f_law_kinds ?k_f_law_kinds ?a_f_law_figure ?l_f_law_figure ?c_f_law_figure ?k_f_law_figure ?a_f_law_words ?l_f_law_words ?c_f_law_words ?k_f_law_words ?a_f_law_plain_words ?l_f_law_plain_words ?c_f_law_plain_words ?k_f_law_plain_words ?a_f_law_name ?l_f_law_name ?c_f_law_name ?k_f_law_name ?a_f_law_pop ?l_f_law_pop ?c_f_law_pop ?k_f_law_pop ?a_f_law_short ?l_f_law_short ?c_f_law_short ?k_f_law_short ?a_f_law_item ?l_f_law_item ?c_f_law_item ?k_f_law_item ?a_f_law_holder ?l_f_law_holder ?c_f_law_holder ?k_f_law_holder ?a_f_law_inside ?l_f_law_inside ?c_f_law_inside ?k_f_law_inside ?a_f_law_any_tree ?l_f_law_any_tree ?c_f_law_any_tree ?k_f_law_any_tree ?a_f_law_rare ?l_f_law_rare ?c_f_law_rare ?k_f_law_rare ?a_f_law_tokens ?l_f_law_tokens ?c_f_law_tokens ?k_f_law_tokens ?a_f_law_all_tokens ?l_f_law_all_tokens ?c_f_law_all_tokens ?k_f_law_all_tokens ?a_f_law_filled ?l_f_law_filled ?c_f_law_filled ?k_f_law_filled ?a_f_law_clings ?l_f_law_clings ?c_f_law_clings ?k_f_law_clings ?a_f_law_pieces ?l_f_law_pieces ?c_f_law_pieces ?k_f_law_pieces ?a_f_law_row ?l_f_law_row ?c_f_law_row ?k_f_law_row ?a_f_law_is_int ?l_f_law_is_int ?c_f_law_is_int ?k_f_law_is_int ?a_f_law_same ?l_f_law_same ?c_f_law_same ?k_f_law_same ?a_fTokenReader___init__ ?i_fTokenReader___init__ ?j_fTokenReader___init__ ?kk_fTokenReader___init__ ?l_fTokenReader___init__ ?c_fTokenReader___init__ ?k_fTokenReader___init__ ?a_fTokenReader_peek ?i_fTokenReader_peek ?l_fTokenReader_peek ?c_fTokenReader_peek ?k_fTokenReader_peek ?a_fTokenReader_fail ?i_fTokenReader_fail ?l_fTokenReader_fail ?c_fTokenReader_fail ?k_fTokenReader_fail ?a_fTokenReader_skip ?i_fTokenReader_skip ?l_fTokenReader_skip ?c_fTokenReader_skip ?k_fTokenReader_skip ?a_fTokenReader_peek_kind ?i_fTokenReader_peek_kind ?l_fTokenReader_peek_kind ?c_fTokenReader_peek_kind ?k_fTokenReader_peek_kind ?a_fTokenReader_read_name ?i_fTokenReader_read_name ?l_fTokenReader_read_name ?c_fTokenReader_read_name ?k_fTokenReader_read_name ?a_fTokenReader_read_number ?i_fTokenReader_read_number ?l_fTokenReader_read_number ?c_fTokenReader_read_number ?k_fTokenReader_read_number ?a_fread_mark ?l_fread_mark ?c_fread_mark ?k_fread_mark ?a_fread_num ?l_fread_num ?c_fread_num ?k_fread_num ?a_fread_told ?l_fread_told ?c_fread_told ?k_fread_told ?a_fread_sum ?l_fread_sum ?c_fread_sum ?k_fread_sum ?a_fread_plain ?l_fread_plain ?c_fread_plain ?k_fread_plain ?a_fread_block ?l_fread_block ?c_fread_block ?k_fread_block ?a_fread_item ?l_fread_item ?c_fread_item ?k_fread_item ?a_fread_holder ?l_fread_holder ?c_fread_holder ?k_fread_holder ?a_fread_pick ?l_fread_pick ?c_fread_pick ?k_fread_pick ?a_frun_end ?l_frun_end ?c_frun_end ?k_frun_end ?a_fall_in ?l_fall_in ?c_fall_in ?k_fall_in ?a_fis_name ?l_fis_name ?c_fis_name ?k_fis_name ?a_fis_number ?l_fis_number ?c_fis_number ?k_fis_number ?a_frun_token ?l_frun_token ?c_frun_token ?k_frun_token ?a_ftokens_of ?l_ftokens_of ?c_ftokens_of ?k_ftokens_of ?a_fread_format ?l_fread_format ?c_fread_format ?k_fread_format ?a_f_law_answer ?l_f_law_answer ?c_f_law_answer ?k_f_law_answer ?a_flaw ?l_flaw ?c_flaw ?k_flaw ?z_abs ?z_bool ?z_int ?z_isinstance ?z_len ?z_range ?z_str ?z_tuple
    (case a_FormatError => k_is)
    (case a_BadText => k_is)
    (case x1_BadText => k_is)
    (case x2_BadText => decide +kernel)
    (case x3_BadText => k_is)
    (case x4_BadText => k_is)
    (case x5_BadText => k_is)
    (case x6_BadText_at => k_is)
    (case x7_BadText => k_is)
    (case x8_BadText => k_is)
    (case x9_BadText => k_is)
    (case y1_BadText => k_is)
    (case y2_BadText => k_is)
    (case y3_BadText => k_is)
    (case y4_BadText => k_is)
    (case y5_BadText => k_is)
    (case y7_BadText => ks_is)
    (case l1_BadText => k_is)
    (case l2_BadText => k_is)
    (case l3_BadText => k_is)
    (case l4_BadText => first | rfl | decide +kernel)
    (case l5_BadText => first | rfl | decide +kernel)
    (case l6_BadText => k_is)
    (case o1 => k_is)
    (case o2 => k_is)
    (case w1_FormatError => k_is)
    (case w2_FormatError => k_is)
    (case w3_FormatError => k_is)
    (case w4_FormatError_BadText => first | rfl | k_is)
    (case w1_BadText => k_is)
    (case w2_BadText => k_is)
    (case w3_BadText => k_is)
    (case w4_BadText_BadText => first | rfl | k_is)
    (case a_TokenReader => k_is)
    (case k1_TokenReader => k_is)
    (case k2_TokenReader => k_is)
    (case k3_TokenReader => k_is)
    (case k4_TokenReader => k_is)
    (case nf_TokenReader_braces => k_is)
    (case nf_TokenReader_place => k_is)
    (case nf_TokenReader_tokens => k_is)
    (case ag_CAPITALS => k_is)
    (case cg_CAPITALS => first | k_is | rfl | decide +kernel)
    (case ag_DIGITS => k_is)
    (case cg_DIGITS => first | k_is | rfl | decide +kernel)
    (case ag_LETTERS => k_is)
    (case cg_LETTERS => first | k_is | rfl | decide +kernel)
    (case ag_MOST_BRACES => k_is)
    (case cg_MOST_BRACES => first | k_is | rfl | decide +kernel)
    (case ag_RESERVED => k_is)
    (case cg_RESERVED => first | k_is | rfl | decide +kernel)
    (case a_f_law_begin => k_is)
    (case l_f_law_begin => k_is)
    (case c_f_law_begin => k_is)
    (case k_f_law_begin => k_is)
    (case a_f_law_draw => k_is)
    (case l_f_law_draw => k_is)
    (case c_f_law_draw => k_is)
    (case k_f_law_draw => k_is)
    (case a_f_law_pick => k_is)
    (case l_f_law_pick => k_is)
    (case c_f_law_pick => k_is)
    (case k_f_law_pick => k_is)
    (case a_f_law_kinds => k_is)
    (case l_f_law_kinds => k_is)
    (case c_f_law_kinds => k_is)
    (case k_f_law_kinds => k_is)
    (case a_f_law_figure => k_is)
    (case l_f_law_figure => k_is)
    (case c_f_law_figure => k_is)
    (case k_f_law_figure => k_is)
    (case a_f_law_words => k_is)
    (case l_f_law_words => k_is)
    (case c_f_law_words => k_is)
    (case k_f_law_words => k_is)
    (case a_f_law_plain_words => k_is)
    (case l_f_law_plain_words => k_is)
    (case c_f_law_plain_words => k_is)
    (case k_f_law_plain_words => k_is)
    (case a_f_law_name => k_is)
    (case l_f_law_name => k_is)
    (case c_f_law_name => k_is)
    (case k_f_law_name => k_is)
    (case a_f_law_pop => k_is)
    (case l_f_law_pop => k_is)
    (case c_f_law_pop => k_is)
    (case k_f_law_pop => k_is)
    (case a_f_law_short => k_is)
    (case l_f_law_short => k_is)
    (case c_f_law_short => k_is)
    (case k_f_law_short => k_is)
    (case a_f_law_item => k_is)
    (case l_f_law_item => k_is)
    (case c_f_law_item => k_is)
    (case k_f_law_item => k_is)
    (case a_f_law_holder => k_is)
    (case l_f_law_holder => k_is)
    (case c_f_law_holder => k_is)
    (case k_f_law_holder => k_is)
    (case a_f_law_inside => k_is)
    (case l_f_law_inside => k_is)
    (case c_f_law_inside => k_is)
    (case k_f_law_inside => k_is)
    (case a_f_law_any_tree => k_is)
    (case l_f_law_any_tree => k_is)
    (case c_f_law_any_tree => k_is)
    (case k_f_law_any_tree => k_is)
    (case a_f_law_rare => k_is)
    (case l_f_law_rare => k_is)
    (case c_f_law_rare => k_is)
    (case k_f_law_rare => k_is)
    (case a_f_law_tokens => k_is)
    (case l_f_law_tokens => k_is)
    (case c_f_law_tokens => k_is)
    (case k_f_law_tokens => k_is)
    (case a_f_law_all_tokens => k_is)
    (case l_f_law_all_tokens => k_is)
    (case c_f_law_all_tokens => k_is)
    (case k_f_law_all_tokens => k_is)
    (case a_f_law_filled => k_is)
    (case l_f_law_filled => k_is)
    (case c_f_law_filled => k_is)
    (case k_f_law_filled => k_is)
    (case a_f_law_clings => k_is)
    (case l_f_law_clings => k_is)
    (case c_f_law_clings => k_is)
    (case k_f_law_clings => k_is)
    (case a_f_law_pieces => k_is)
    (case l_f_law_pieces => k_is)
    (case c_f_law_pieces => k_is)
    (case k_f_law_pieces => k_is)
    (case a_f_law_row => k_is)
    (case l_f_law_row => k_is)
    (case c_f_law_row => k_is)
    (case k_f_law_row => k_is)
    (case a_f_law_is_int => k_is)
    (case l_f_law_is_int => k_is)
    (case c_f_law_is_int => k_is)
    (case k_f_law_is_int => k_is)
    (case a_f_law_same => k_is)
    (case l_f_law_same => k_is)
    (case c_f_law_same => k_is)
    (case k_f_law_same => k_is)
    (case a_fTokenReader___init__ => k_is)
    (case i_fTokenReader___init__ => k_is)
    (case j_fTokenReader___init__ => k_is)
    (case kk_fTokenReader___init__ => k_is)
    (case l_fTokenReader___init__ => k_is)
    (case c_fTokenReader___init__ => k_is)
    (case k_fTokenReader___init__ => k_is)
    (case a_fTokenReader_peek => k_is)
    (case i_fTokenReader_peek => k_is)
    (case l_fTokenReader_peek => k_is)
    (case c_fTokenReader_peek => k_is)
    (case k_fTokenReader_peek => k_is)
    (case a_fTokenReader_fail => k_is)
    (case i_fTokenReader_fail => k_is)
    (case l_fTokenReader_fail => k_is)
    (case c_fTokenReader_fail => k_is)
    (case k_fTokenReader_fail => k_is)
    (case a_fTokenReader_skip => k_is)
    (case i_fTokenReader_skip => k_is)
    (case l_fTokenReader_skip => k_is)
    (case c_fTokenReader_skip => k_is)
    (case k_fTokenReader_skip => k_is)
    (case a_fTokenReader_peek_kind => k_is)
    (case i_fTokenReader_peek_kind => k_is)
    (case l_fTokenReader_peek_kind => k_is)
    (case c_fTokenReader_peek_kind => k_is)
    (case k_fTokenReader_peek_kind => k_is)
    (case a_fTokenReader_read_name => k_is)
    (case i_fTokenReader_read_name => k_is)
    (case l_fTokenReader_read_name => k_is)
    (case c_fTokenReader_read_name => k_is)
    (case k_fTokenReader_read_name => k_is)
    (case a_fTokenReader_read_number => k_is)
    (case i_fTokenReader_read_number => k_is)
    (case l_fTokenReader_read_number => k_is)
    (case c_fTokenReader_read_number => k_is)
    (case k_fTokenReader_read_number => k_is)
    (case a_fread_mark => k_is)
    (case l_fread_mark => k_is)
    (case c_fread_mark => k_is)
    (case k_fread_mark => k_is)
    (case a_fread_num => k_is)
    (case l_fread_num => k_is)
    (case c_fread_num => k_is)
    (case k_fread_num => k_is)
    (case a_fread_told => k_is)
    (case l_fread_told => k_is)
    (case c_fread_told => k_is)
    (case k_fread_told => k_is)
    (case a_fread_sum => k_is)
    (case l_fread_sum => k_is)
    (case c_fread_sum => k_is)
    (case k_fread_sum => k_is)
    (case a_fread_plain => k_is)
    (case l_fread_plain => k_is)
    (case c_fread_plain => k_is)
    (case k_fread_plain => k_is)
    (case a_fread_block => k_is)
    (case l_fread_block => k_is)
    (case c_fread_block => k_is)
    (case k_fread_block => k_is)
    (case a_fread_item => k_is)
    (case l_fread_item => k_is)
    (case c_fread_item => k_is)
    (case k_fread_item => k_is)
    (case a_fread_holder => k_is)
    (case l_fread_holder => k_is)
    (case c_fread_holder => k_is)
    (case k_fread_holder => k_is)
    (case a_fread_pick => k_is)
    (case l_fread_pick => k_is)
    (case c_fread_pick => k_is)
    (case k_fread_pick => k_is)
    (case a_frun_end => k_is)
    (case l_frun_end => k_is)
    (case c_frun_end => k_is)
    (case k_frun_end => k_is)
    (case a_fall_in => k_is)
    (case l_fall_in => k_is)
    (case c_fall_in => k_is)
    (case k_fall_in => k_is)
    (case a_fis_name => k_is)
    (case l_fis_name => k_is)
    (case c_fis_name => k_is)
    (case k_fis_name => k_is)
    (case a_fis_number => k_is)
    (case l_fis_number => k_is)
    (case c_fis_number => k_is)
    (case k_fis_number => k_is)
    (case a_frun_token => k_is)
    (case l_frun_token => k_is)
    (case c_frun_token => k_is)
    (case k_frun_token => k_is)
    (case a_ftokens_of => k_is)
    (case l_ftokens_of => k_is)
    (case c_ftokens_of => k_is)
    (case k_ftokens_of => k_is)
    (case a_fread_format => k_is)
    (case l_fread_format => k_is)
    (case c_fread_format => k_is)
    (case k_fread_format => k_is)
    (case a_f_law_answer => k_is)
    (case l_f_law_answer => k_is)
    (case c_f_law_answer => k_is)
    (case k_f_law_answer => k_is)
    (case a_flaw => k_is)
    (case l_flaw => k_is)
    (case c_flaw => k_is)
    (case k_flaw => k_is)
    (case z_abs => k_is)
    (case z_bool => k_is)
    (case z_int => k_is)
    (case z_isinstance => k_is)
    (case z_len => k_is)
    (case z_range => k_is)
    (case z_str => k_is)
    (case z_tuple => k_is)

